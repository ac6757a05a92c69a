import PyProof.Rows.All
import Wide.All
import OpenK.AllK
import Wide.FinOn
import HandS.ForMost
import HandS.ForExc
import HandS.Wide
import HandS.WideBits
import HandS.Gcd
import HandS.TupAny
import HandS.TupMul
import HandS.Deep
import HandS.IsInst
import HandS.Zip
import HandS.ExcField
import KE.KExcIs
import KE.KTupSum
import HandS.TryOnly
import HandS.Exc
import HandS.ExcOwn
import HandS.Style
import HandS.More
import KE.SortKeyHeap
import HandS.SortKw
import HandS.ExcInit
import HandS.DictComp
import HandS.ClsMeth
import KE.KOpsOwn
import HandS.Conv
import PySem.Challenge.RW_calmspot_k07_rules_joined
set_option Elab.async false
set_option linter.all false
set_option maxRecDepth 100000
set_option maxHeartbeats 4000000
namespace FL
open PySem L2
/-! ## data, environments, results -/
inductive D where
  | non | bl (b : Bool) | int (i : Int) | str (x : Str)
  | lst (xs : List D) | tup (xs : List D) | scr (ns : List Int)
  | dik (ks : List Key) (vs : List D) | dit (ks : List (List Key)) (vs : List D)
  | ins (c : Nat) (fs : List Str) (vs : List D)
  /-- the exception that an except suite holds -/
  | exc (c : Nat) (fs : List Str) (vs : List D)
/-- where the classes stand; what the suite holds: the exception, its class, its dict -/
structure Cl where
  ad : Nat → Addr
  xa : Option (Addr × Value × Option Addr)
/-- the content of a list or dict that one slot alone holds -/
inductive Cn where
  | l (ds : List D) | t (ks : List (List Key)) (vs : List D) | k (ks : List Key) (vs : List D) | i (c : Nat) (fs : List Str) (vs : List D)
def Cn.d : Cn → D
  | .l ds => .lst ds
  | .t ks vs => .dit ks vs
  | .k ks vs => .dik ks vs
  | .i c fs vs => .ins c fs vs
def Cn.isI : Cn → Bool
  | .i _ _ _ => true
  | _ => false
inductive Sl where
  | un | im (d : D) | ow (b : Bool) (c : Cn)
abbrev En := List Sl
inductive Res (α : Type) where
  | ok (a : α) | er (e : D) | bad
inductive Fl where
  | nx (ρ : En) | rt (d : D) | bk (ρ : En) | ct (ρ : En) | ex (e : D) (ρ : En)
section
variable (K : PySem.W.Frag) (cl : Cl)
mutual
inductive Rp (F : Hp) : V → D → Prop
  | non : Rp F .non .non
  | bl (b : Bool) : Rp F (.bl b) (.bl b)
  | int (i : Int) : Rp F (.int i) (.int i)
  | str (x : Str) : Rp F (.str x) (.str x)
  | lst {a : Addr} {xs : List V} {ds : List D} : F a = some (.lst xs) → RpA F xs ds → Rp F (.ref a) (.lst ds)
  | tup {a : Addr} {xs : List V} {ds : List D} : F a = some (.tup xs) → RpA F xs ds → Rp F (.ref a) (.tup ds)
  | scr {a : Addr} {ns : List Int} : SqL K F a (ns.map V.int) → Rp F (.ref a) (.scr ns)
  | dik {a : Addr} {kvs : List (Key × V)} {ks : List Key} {ds : List D} : F a = some (.dK kvs) → kvs.map (·.1) = ks → RpA F (kvs.map (·.2)) ds → Rp F (.ref a) (.dik ks ds)
  | dit {a : Addr} {kvs : List (List Key × V)} {ks : List (List Key)} {ds : List D} : F a = some (.dT kvs) → kvs.map (·.1) = ks → RpA F (kvs.map (·.2)) ds → Rp F (.ref a) (.dit ks ds)
  | xc0 {a : Addr} {c : Nat} : cl.xa = some (a, .ref (cl.ad c), none) → Rp F (.ref a) (.exc c [] [])
  | xc1 {a x : Addr} {c : Nat} {fs : List (Str × V)} {ns : List Str} {ds : List D} : cl.xa = some (a, .ref (cl.ad c), some x) → F x = some (.xd fs) → fs.map (·.1) = ns → RpA F (fs.map (·.2)) ds → Rp F (.ref a) (.exc c ns ds)
  | ins {a dx : Addr} {c : Nat} {fs : List (Str × V)} {ns : List Str} {ds : List D} : F a = some (.ins (cl.ad c) dx fs) → fs.map (·.1) = ns → RpA F (fs.map (·.2)) ds → Rp F (.ref a) (.ins c ns ds)
inductive RpA (F : Hp) : List V → List D → Prop
  | nil : RpA F [] []
  | cons {v : V} {vs : List V} {d : D} {ds : List D} : Rp F v d → RpA F vs ds → RpA F (v :: vs) (d :: ds)
end
def CnR (F : Hp) (c : Cn) (o : HO) : Prop := match c with
  | .l ds => ∃ vs, o = .lst vs ∧ RpA K cl F vs ds
  | .t ks ds => ∃ kvs, o = .dT kvs ∧ kvs.map (·.1) = ks ∧ RpA K cl F (kvs.map (·.2)) ds
  | .k ks ds => ∃ kvs, o = .dK kvs ∧ kvs.map (·.1) = ks ∧ RpA K cl F (kvs.map (·.2)) ds
  | .i c ns ds => ∃ dx fs, o = .ins (cl.ad c) dx fs ∧ fs.map (·.1) = ns ∧ RpA K cl F (fs.map (·.2)) ds
/-- an exception's class and own dict -/
def XRp (F : Hp) (c : Value) (dd : Option Addr) (e : D) : Prop :=
  ∃ n, c = .ref (cl.ad n) ∧ ((e = .exc n [] [] ∧ dd = none) ∨ ∃ x fs ds, dd = some x ∧ F x = some (.xd fs) ∧ RpA K cl F (fs.map (·.2)) ds ∧ e = .exc n (fs.map (·.1)) ds)
end
theorem Same.seqL {K : PySem.W.Frag} {H H' : Hp} {a : Addr} {xs : List V} (e : Same H H') (h : SqL K H a xs) : SqL K H' a xs := e.seq h
section
variable {K : PySem.W.Frag} {cl : Cl} {F F' : Hp}
mutual
theorem Rp.mono (m : Same F F') : ∀ {d : D} {v : V}, Rp K cl F v d → Rp K cl F' v d
  | .non, _, h => by cases h; exact .non
  | .bl _, _, h => by cases h; exact .bl _
  | .int _, _, h => by cases h; exact .int _
  | .str _, _, h => by cases h; exact .str _
  | .lst ds, _, h => by cases h with | lst a b => exact .lst (m _ _ a) (RpA.mono m b)
  | .tup ds, _, h => by cases h with | tup a b => exact .tup (m _ _ a) (RpA.mono m b)
  | .scr ns, _, h => by cases h with | scr a => exact .scr (m.seq a)
  | .dik ks ds, _, h => by cases h with | dik a e b => exact .dik (m _ _ a) e (RpA.mono m b)
  | .dit ks ds, _, h => by cases h with | dit a e b => exact .dit (m _ _ a) e (RpA.mono m b)
  | .ins c ns ds, _, h => by cases h with | ins a e b => exact .ins (m _ _ a) e (RpA.mono m b)
  | .exc c ns ds, _, h => by
    cases h with
    | xc0 z => exact .xc0 z
    | xc1 z a e b => exact .xc1 z (m _ _ a) e (RpA.mono m b)
theorem RpA.mono (m : Same F F') : ∀ {ds : List D} {vs : List V}, RpA K cl F vs ds → RpA K cl F' vs ds
  | [], _, h => by cases h; exact .nil
  | d :: ds, _, h => by cases h with | cons a b => exact .cons (Rp.mono m a) (RpA.mono m b)
end
theorem RpA.length : ∀ {vs : List V} {ds : List D}, RpA K cl F vs ds → vs.length = ds.length
  | _, _, .nil => rfl
  | _, _, .cons _ h => by simp [RpA.length h]
theorem RpA.get : ∀ {vs : List V} {ds : List D} {i : Nat} {v : V}, RpA K cl F vs ds → vs[i]? = some v → ∃ d, ds[i]? = some d ∧ Rp K cl F v d
  | _, _, _, _, .nil, e => by simp at e
  | _, _, 0, _, .cons a _, e => by simp at e; subst e; exact ⟨_, rfl, a⟩
  | _, _, i + 1, v, .cons _ t, e => by
    obtain ⟨d, h1, h2⟩ := RpA.get (i := i) (v := v) t (by simpa using e)
    exact ⟨d, by simpa using h1, h2⟩
theorem RpA.get' : ∀ {vs : List V} {ds : List D} {i : Nat} {d : D}, RpA K cl F vs ds → ds[i]? = some d → ∃ v, vs[i]? = some v ∧ Rp K cl F v d
  | _, _, _, _, .nil, e => by simp at e
  | _, _, 0, _, .cons a _, e => by simp at e; subst e; exact ⟨_, rfl, a⟩
  | _, _, i + 1, d, .cons _ t, e => by
    obtain ⟨v, h1, h2⟩ := RpA.get' (i := i) (d := d) t (by simpa using e)
    exact ⟨v, by simpa using h1, h2⟩
theorem RpA.app : ∀ {vs us : List V} {ds es : List D}, RpA K cl F vs ds → RpA K cl F us es → RpA K cl F (vs ++ us) (ds ++ es)
  | _, _, _, _, .nil, s => s
  | _, _, _, _, .cons a t, s => .cons a (RpA.app t s)
theorem RpA.take : ∀ {vs : List V} {ds : List D} (n : Nat), RpA K cl F vs ds → RpA K cl F (vs.take n) (ds.take n)
  | _, _, 0, _ => .nil
  | _, _, _ + 1, .nil => .nil
  | _, _, n + 1, .cons a t => .cons a (RpA.take n t)
theorem RpA.drop : ∀ {vs : List V} {ds : List D} (n : Nat), RpA K cl F vs ds → RpA K cl F (vs.drop n) (ds.drop n)
  | _, _, 0, h => h
  | _, _, _ + 1, .nil => .nil
  | _, _, n + 1, .cons a t => RpA.drop n t
theorem RpA.set : ∀ {vs : List V} {ds : List D} {v : V} {d : D} (n : Nat), RpA K cl F vs ds → Rp K cl F v d → RpA K cl F (vs.set n v) (ds.set n d)
  | _, _, _, _, _, .nil, _ => .nil
  | _, _, _, _, 0, .cons a t, h => .cons h t
  | _, _, _, _, n + 1, .cons a t, h => .cons a (RpA.set n t h)
theorem CnR.mono {c : Cn} {o : HO} (m : Same F F') (h : CnR K cl F c o) : CnR K cl F' c o := by
  cases c with
  | l ds => obtain ⟨vs, e, h⟩ := h; exact ⟨vs, e, h.mono m⟩
  | t ks ds => obtain ⟨vs, e, e2, h⟩ := h; exact ⟨vs, e, e2, h.mono m⟩
  | k ks ds => obtain ⟨vs, e, e2, h⟩ := h; exact ⟨vs, e, e2, h.mono m⟩
  | i c ns ds => obtain ⟨dx, fs, e, e2, h⟩ := h; exact ⟨dx, fs, e, e2, h.mono m⟩
theorem CnR.rp {c : Cn} {o : HO} {a : Addr} (h : CnR K cl F c o) (e : F a = some o) : Rp K cl F (.ref a) c.d := by
  cases c with
  | l ds => obtain ⟨vs, rfl, h⟩ := h; exact .lst e h
  | t ks ds => obtain ⟨vs, rfl, e2, h⟩ := h; exact .dit e e2 h
  | k ks ds => obtain ⟨vs, rfl, e2, h⟩ := h; exact .dik e e2 h
  | i c ns ds => obtain ⟨dx, fs, rfl, e2, h⟩ := h; exact .ins e e2 h
theorem XRp.mono {c : Value} {dd : Option Addr} {e : D} (m : Same F F') (h : XRp K cl F c dd e) : XRp K cl F' c dd e := by
  obtain ⟨n, e1, h | ⟨x, fs, ds, e2, e3, e4, e5⟩⟩ := h
  · exact ⟨n, e1, .inl h⟩
  · exact ⟨n, e1, .inr ⟨x, fs, ds, e2, m _ _ e3, e4.mono m, e5⟩⟩
end
/-! ## the state -/
/-- B: the heap at the def's entry (kept as it is); F0: what was frozen there; F: what is frozen now -/
structure SOk (K : PySem.W.Frag) (cl : Cl) (B F0 F : Hp) (σ : L2.St) (H : Hp) (ρ : En) : Prop where
  f0 : Same F0 F
  fh : Same F H
  bh : Same B H
  bf : ∀ a, B a ≠ none → F a = F0 a
  len : σ.length = ρ.length
  im : ∀ (i : Nat) (d : D), ρ[i]? = some (.im d) → ∃ v, σ[i]? = some (some v) ∧ Rp K cl F v d
  ow : ∀ (i : Nat) (b : Bool) (c : Cn), ρ[i]? = some (.ow b c) → ∃ (a : Addr) (o : HO), σ[i]? = some (some (.ref a)) ∧ F a = none ∧ B a = none ∧ H a = some o ∧ CnR K cl F c o
  ap : ∀ (i j : Nat) (b : Bool) (c : Cn) (b' : Bool) (c' : Cn) (a : Addr), i ≠ j → ρ[i]? = some (.ow b c) → ρ[j]? = some (.ow b' c') → σ[i]? = some (some (.ref a)) → σ[j]? ≠ some (some (.ref a))
/-- what an expression does to the heaps: it adds -/
structure Gr (F H F' H' : Hp) : Prop where
  f : Same F F'
  fh : Same F' H'
  h : Same H H'
  n : ∀ a, H a ≠ none → F' a = F a
theorem Gr.refl {F H : Hp} (h : Same F H) : Gr F H F H := ⟨Same.refl _, h, Same.refl _, fun _ _ => rfl⟩
theorem Gr.trans {F H F1 H1 F2 H2 : Hp} (a : Gr F H F1 H1) (b : Gr F1 H1 F2 H2) : Gr F H F2 H2 :=
  ⟨a.f.trans b.f, b.fh, a.h.trans b.h, fun x hx => by
    have h1 : H1 x ≠ none := by
      cases e : H x with
      | none => exact absurd e hx
      | some o => rw [a.h x o e]; simp
    rw [b.n x h1, a.n x hx]⟩
/-- a new object, frozen at once -/
theorem Gr.new {F H : Hp} {p : Addr} {o : HO} (fh : Same F H) (hp : H p = none) : Gr F H (upd F p o) (upd H p o) where
  f := fun a u e => by
    have : a ≠ p := fun z => by subst z; rw [fh _ _ e] at hp; cases hp
    rw [upd_ne this]; exact e
  fh := fun a u e => by
    by_cases h : a = p
    · subst h; rw [upd_same] at e ⊢; exact e
    · rw [upd_ne h] at e ⊢; exact fh _ _ e
  h := fun a u e => by
    have : a ≠ p := fun z => by subst z; rw [e] at hp; cases hp
    rw [upd_ne this]; exact e
  n := fun a ha => by
    have : a ≠ p := fun z => by subst z; exact ha hp
    rw [upd_ne this]
/-- a new object that is not frozen -/
theorem Gr.own {F H : Hp} {p : Addr} {o : HO} (fh : Same F H) (hp : H p = none) : Gr F H F (upd H p o) where
  f := Same.refl _
  fh := fun a u e => by
    have : a ≠ p := fun z => by subst z; rw [fh _ _ e] at hp; cases hp
    rw [upd_ne this]; exact fh _ _ e
  h := fun a u e => by
    have : a ≠ p := fun z => by subst z; rw [e] at hp; cases hp
    rw [upd_ne this]; exact e
  n := fun a ha => rfl
section
variable {K : PySem.W.Frag} {cl : Cl} {B F0 F F' H H' : Hp} {σ : L2.St} {ρ : En}
theorem SOk.grow (s : SOk K cl B F0 F σ H ρ) (g : Gr F H F' H') : SOk K cl B F0 F' σ H' ρ where
  f0 := s.f0.trans g.f
  fh := g.fh
  bh := s.bh.trans g.h
  bf := fun a ha => by
    have h1 : H a ≠ none := by
      cases e : B a with
      | none => exact absurd e ha
      | some o => rw [s.bh a o e]; simp
    rw [g.n a h1, s.bf a ha]
  len := s.len
  im := fun i d e => by
    obtain ⟨v, h1, h2⟩ := s.im i d e
    exact ⟨v, h1, h2.mono g.f⟩
  ow := fun i b c e => by
    obtain ⟨a, o, h1, h2, h3, h4, h5⟩ := s.ow i b c e
    exact ⟨a, o, h1, by rw [g.n a (by rw [h4]; simp)]; exact h2, h3, g.h _ _ h4, h5.mono g.f⟩
  ap := s.ap
end
/-! ## expressions -/
/-- what is wanted of a result -/
def PostE (K : PySem.W.Frag) (cl : Cl) (W : WX) (σ : L2.St) (F H : Hp) (r : Res D) (Q : VK) : Prop := match r with
  | .ok d => ∀ v F' H', Gr F H F' H' → Rp K cl F' v d → Q v H'
  | .er e => ∀ c dd F' H', Gr F H F' H' → XRp K cl F' c dd e → W c dd σ H'
  | .bad => False
def PostC (K : PySem.W.Frag) (cl : Cl) (W : WX) (σ : L2.St) (F H : Hp) (r : Res Cn) (Q : VK) : Prop := match r with
  | .ok c => ∀ a o F' H', Gr F H F' H' → H a = none → F' a = none → H' a = some o → CnR K cl F' c o → Q (.ref a) H'
  | .er e => ∀ c dd F' H', Gr F H F' H' → XRp K cl F' c dd e → W c dd σ H'
  | .bad => False
def PostA (K : PySem.W.Frag) (cl : Cl) (W : WX) (σ : L2.St) (F H : Hp) (r : Res (List D)) (Q : List V → Hp → Prop) : Prop := match r with
  | .ok ds => ∀ vs F' H', Gr F H F' H' → RpA K cl F' vs ds → Q vs H'
  | .er e => ∀ c dd F' H', Gr F H F' H' → XRp K cl F' c dd e → W c dd σ H'
  | .bad => False
def PostT (K : PySem.W.Frag) (cl : Cl) (W : WX) (σ : L2.St) (F H : Hp) (r : Res Bool) (Q : Bool → Hp → Prop) : Prop := match r with
  | .ok b => ∀ F' H', Gr F H F' H' → Q b H'
  | .er e => ∀ c dd F' H', Gr F H F' H' → XRp K cl F' c dd e → W c dd σ H'
  | .bad => False
def tM (K : PySem.W.Frag) (cl : Cl) (W : WX) (m : En → Res D) : TE := fun σ H Q => ∃ B F0 F ρ, SOk K cl B F0 F σ H ρ ∧ PostE K cl W σ F H (m ρ) Q
def tC' (K : PySem.W.Frag) (cl : Cl) (W : WX) (m : En → Res Cn) : TE := fun σ H Q => ∃ B F0 F ρ, SOk K cl B F0 F σ H ρ ∧ PostC K cl W σ F H (m ρ) Q
def tA (K : PySem.W.Frag) (cl : Cl) (W : WX) (m : En → Res (List D)) : TA := fun σ H Q => ∃ B F0 F ρ, SOk K cl B F0 F σ H ρ ∧ PostA K cl W σ F H (m ρ) Q
def tT (K : PySem.W.Frag) (cl : Cl) (W : WX) (m : En → Res Bool) : TT := fun σ H Q => ∃ B F0 F ρ, SOk K cl B F0 F σ H ρ ∧ PostT K cl W σ F H (m ρ) Q
theorem _root_.L2.PE.of {X : Cx} {e : Expr} {t u : TE} (h : PE X e t) (i : ∀ σ H Q, u σ H Q → t σ H Q) : PE X e u := ⟨fun p s σ H Q I q => h.run p s σ H Q I (i σ H Q q)⟩
theorem _root_.L2.PA.of {X : Cx} {e : List Expr} {t u : TA} (h : PA X e t) (i : ∀ σ H Q, u σ H Q → t σ H Q) : PA X e u := ⟨fun pos p s σ H Q I q => h.run pos p s σ H Q I (i σ H Q q)⟩
theorem _root_.L2.PT.of {X : Cx} {e : Expr} {t u : TT} (h : PT X e t) (i : ∀ σ H Q, u σ H Q → t σ H Q) : PT X e u := ⟨fun p s σ H Q I q => h.run p s σ H Q I (i σ H Q q)⟩
theorem _root_.L2.PW.of {X : Cx} {e : Expr} {t u : TT} (h : PW X e t) (i : ∀ σ H Q, u σ H Q → t σ H Q) : PW X e u := ⟨fun w p s σ H Q I q => h.run w p s σ H Q I (i σ H Q q)⟩
theorem _root_.L2.PS.of {X : Cx} {e : Stmt} {t u : TS} (h : PS X e t) (i : ∀ D σ H, u D σ H → t D σ H) : PS X e u := ⟨fun p s σ H D I q => h.run p s σ H D I (i D σ H q)⟩
theorem _root_.L2.PSs.of {X : Cx} {e : List Stmt} {t u : TS} (h : PSs X e t) (i : ∀ D σ H, u D σ H → t D σ H) : PSs X e u := ⟨fun p s σ H D I q => h.run p s σ H D I (i D σ H q)⟩
def Res.bind {α β : Type} (r : Res α) (f : α → Res β) : Res β := match r with
  | .ok a => f a
  | .er e => .er e
  | .bad => .bad
def Res.ofO {α : Type} : Option α → Res α
  | some a => .ok a
  | none => .bad
def mVar (i : Nat) : En → Res D := fun ρ => match ρ[i]? with
  | some (.im d) => .ok d
  | _ => .bad
def mC (d : D) : En → Res D := fun _ => .ok d
def mOp1 (f : D → Option D) (ma : En → Res D) : En → Res D := fun ρ => (ma ρ).bind fun x => .ofO (f x)
def mOp2 (f : D → D → Option D) (ma mb : En → Res D) : En → Res D := fun ρ => (ma ρ).bind fun x => (mb ρ).bind fun y => .ofO (f x y)
def mNil : En → Res (List D) := fun _ => .ok []
def mCons (m : En → Res D) (ms : En → Res (List D)) : En → Res (List D) := fun ρ => (m ρ).bind fun x => (ms ρ).bind fun xs => .ok (x :: xs)
def mTup (ms : En → Res (List D)) : En → Res D := fun ρ => (ms ρ).bind fun xs => if xs.length < 16777216 then .ok (.tup xs) else .bad
def mLst (ms : En → Res (List D)) : En → Res Cn := fun ρ => (ms ρ).bind fun xs => if xs.length < 16777216 then .ok (.l xs) else .bad
/-- a fresh list, frozen -/
def mFz (m : En → Res Cn) : En → Res D := fun ρ => (m ρ).bind fun c => .ok c.d
section
variable {X : Cx} {cl : Cl} {W : WX} {e a b : Expr} {es : List Expr} {ma mb m : En → Res D} {ms : En → Res (List D)} {pos : Pos}
abbrev SE (X : Cx) (cl : Cl) (W : WX) (e : Expr) (m : En → Res D) : Prop := PE X e (tM X.K cl W m)
abbrev SC (X : Cx) (cl : Cl) (W : WX) (e : Expr) (m : En → Res Cn) : Prop := PE X e (tC' X.K cl W m)
abbrev SA (X : Cx) (cl : Cl) (W : WX) (es : List Expr) (m : En → Res (List D)) : Prop := PA X es (tA X.K cl W m)
abbrev SB (X : Cx) (cl : Cl) (W : WX) (e : Expr) (m : En → Res Bool) : Prop := PT X e (tT X.K cl W m)
theorem so_var (i : Nat) (h : PE X e (tVar i)) : SE X cl W e (mVar i) := h.of fun σ H Q ⟨B, F0, F, ρ, s, p⟩ => by
  unfold mVar at p
  split at p
  · rename_i d e
    obtain ⟨v, h1, h2⟩ := s.im i d e
    exact ⟨v, h1, p v F H (.refl s.fh) h2⟩
  · exact p.elim
theorem so_c {v : V} {d : D} (h : PE X e (L2.tC v)) (r : ∀ F, Rp X.K cl F v d) : SE X cl W e (mC d) := h.of fun σ H Q ⟨B, F0, F, ρ, s, p⟩ => p v F H (.refl s.fh) (r F)
theorem so_int {i j pos} : SE X cl W (.Constant (.int i) j pos) (mC (.int i)) := so_c pe_int fun _ => .int i
theorem so_bl {i j pos} : SE X cl W (.Constant (.bool i) j pos) (mC (.bl i)) := so_c pe_bl fun _ => .bl i
theorem so_non {j pos} : SE X cl W (.Constant .none j pos) (mC .non) := so_c pe_non fun _ => .non
theorem so_str {i j pos} : SE X cl W (.Constant (.str i) j pos) (mC (.str i)) := so_c pe_str fun _ => .str i
/-- the first part of two -/
theorem step1 {K : PySem.W.Frag} {σ : L2.St} {B F0 F H : Hp} {ρ : En} {r : Res D} {g : D → Res D} {Q : VK} (s : SOk K cl B F0 F σ H ρ) (p : PostE K cl W σ F H (r.bind g) Q) :
    PostE K cl W σ F H r fun v H' => ∃ d F', r = .ok d ∧ Gr F H F' H' ∧ Rp K cl F' v d ∧ PostE K cl W σ F' H' (g d) Q := by
  cases r with
  | bad => exact p
  | er e => exact p
  | ok d =>
    intro v F' H' g1 h1
    refine ⟨d, F', rfl, g1, h1, ?_⟩
    show PostE K cl W σ F' H' (g d) Q
    have p : PostE K cl W σ F H (g d) Q := p
    cases q : g d with
    | bad => rw [q] at p; exact p
    | er e => rw [q] at p; exact fun c dd F2 H2 g2 h2 => p c dd F2 H2 (g1.trans g2) h2
    | ok d2 => rw [q] at p; exact fun v F2 H2 g2 h2 => p v F2 H2 (g1.trans g2) h2
/-- what is wanted of an operation's answer -/
def PostO (K : PySem.W.Frag) (cl : Cl) (F H : Hp) (r : Option D) (Q : VK) : Prop := match r with
  | some d => ∀ v F' H', Gr F H F' H' → Rp K cl F' v d → Q v H'
  | none => False
theorem PostO.of {K : PySem.W.Frag} {σ : L2.St} {F H : Hp} {r : Option D} {Q : VK} (p : PostE K cl W σ F H (.ofO r) Q) : PostO K cl F H r Q := by
  cases r with
  | none => exact p
  | some d => exact p
def Op1 (K : PySem.W.Frag) (cl : Cl) (r : V → Hp → VK → Prop) (f : D → Option D) : Prop := ∀ F H x dx Q, Same F H → Rp K cl F x dx → PostO K cl F H (f dx) Q → r x H Q
def Op2 (K : PySem.W.Frag) (cl : Cl) (r : R2) (f : D → D → Option D) : Prop := ∀ F H x y dx dy Q, Same F H → Rp K cl F x dx → Rp K cl F y dy → PostO K cl F H (f dx dy) Q → r x y H Q
theorem op1_in {r : V → Hp → VK → Prop} {f : D → Option D} (hr : Op1 X.K cl r f) : ∀ σ H Q, tM X.K cl W (mOp1 f ma) σ H Q → tUn r (tM X.K cl W ma) σ H Q := by
  rintro σ H Q ⟨B, F0, F, ρ, s, p⟩
  refine ⟨B, F0, F, ρ, s, ?_⟩
  have p1 := step1 s p
  cases q : ma ρ with
  | bad => rw [q] at p1; exact p1
  | er e => rw [q] at p1; exact p1
  | ok d =>
    rw [q] at p1
    intro v F' H' g1 h1
    obtain ⟨d', F2, e, g2, h2, p2⟩ := p1 v F' H' g1 h1
    exact hr F2 H' v d' Q g2.fh h2 (.of p2)
theorem op2_in {r : R2} {f : D → D → Option D} (hr : Op2 X.K cl r f) : ∀ σ H Q, tM X.K cl W (mOp2 f ma mb) σ H Q → tOp r (tM X.K cl W ma) (tM X.K cl W mb) σ H Q := by
  rintro σ H Q ⟨B, F0, F, ρ, s, p⟩
  refine ⟨B, F0, F, ρ, s, ?_⟩
  have p1 := step1 s p
  cases q : ma ρ with
  | bad => rw [q] at p1; exact p1
  | er e => rw [q] at p1; exact p1
  | ok d =>
    rw [q] at p1
    intro v F' H' g1 h1
    obtain ⟨d', F2, e, g2, h2, p2⟩ := p1 v F' H' g1 h1
    have s2 := s.grow g2
    refine ⟨B, F0, F2, ρ, s2, ?_⟩
    have p3 := step1 s2 p2
    cases q2 : mb ρ with
    | bad => rw [q2] at p3; exact p3
    | er e => rw [q2] at p3; exact p3
    | ok d2 =>
      rw [q2] at p3
      intro u F3 H3 g3 h3
      obtain ⟨d'', F4, e4, g4, h4, p4⟩ := p3 u F3 H3 g3 h3
      exact hr F4 H3 v u d' d'' Q g4.fh (h2.mono g4.f) h4 (.of p4)
theorem so_bin {op : Operator} {r : R2} {f : D → D → Option D} (ho : OpR X (binaryOp op) r) (hr : Op2 X.K cl r f) (ha : SE X cl W a ma) (hb : SE X cl W b mb) : SE X cl W (.BinOp a op b pos) (mOp2 f ma mb) :=
  (pe_op ho ha hb).of (op2_in hr)
theorem so_un {op : UnaryOp} {r : V → Hp → VK → Prop} {f : D → Option D} (ho : UnR X (unaryOp op) r) (hr : Op1 X.K cl r f) (ha : SE X cl W a ma) : SE X cl W (.UnaryOp op a pos) (mOp1 f ma) :=
  (pe_un ho ha).of (op1_in hr)
theorem so_cmp {op : CmpOp} {r : R2} {f : D → D → Option D} (ho : OpR X (compareOp op) r) (hr : Op2 X.K cl r f) (ha : SE X cl W a ma) (hb : SE X cl W b mb) (hm : behindInMarks op b = false) : SE X cl W (.Compare a [op] [b] pos) (mOp2 f ma mb) :=
  (pe_cmpR ho ha hb hm).of (op2_in hr)
theorem so_ix {r : R2} {f : D → D → Option D} (ho : IxR X r) (hr : Op2 X.K cl r f) (ha : SE X cl W a ma) (hb : SE X cl W b mb) (hs : PlainIx b) : SE X cl W (.Subscript a b pos) (mOp2 f ma mb) :=
  (pe_ix ho ha hb hs).of (op2_in hr)
/-! argument lists -/
theorem sa_nil : SA X cl W [] mNil := pa_nil.of fun σ H Q ⟨B, F0, F, ρ, s, p⟩ => p [] F H (.refl s.fh) .nil
theorem sa_cons (ha : SE X cl W e m) (hr : SA X cl W es ms) (hs : starEach (e :: es) X.env = (false, eval e X.env) :: starEach es X.env := by rfl) : SA X cl W (e :: es) (mCons m ms) := by
  refine (pa_cons ha hr hs).of ?_
  rintro σ H Q ⟨B, F0, F, ρ, s, p⟩
  refine ⟨B, F0, F, ρ, s, ?_⟩
  unfold mCons at p
  cases q : m ρ with
  | bad => rw [q] at p; exact p
  | er e => rw [q] at p; exact p
  | ok d =>
    rw [q] at p
    intro v F' H' g1 h1
    refine ⟨B, F0, F', ρ, s.grow g1, ?_⟩
    have p : PostA X.K cl W σ F H ((ms ρ).bind fun xs => .ok (d :: xs)) Q := p
    cases q2 : ms ρ with
    | bad => rw [q2] at p; exact p
    | er e => rw [q2] at p; exact fun c dd F2 H2 g2 h2 => p c dd F2 H2 (g1.trans g2) h2
    | ok ds => rw [q2] at p; exact fun vs F2 H2 g2 h2 => p (v :: vs) F2 H2 (g1.trans g2) (.cons (h1.mono g2.f) h2)
theorem so_tup {x1} (h : SA X cl W es ms) : SE X cl W (.Tuple es x1 pos) (mTup ms) := by
  refine (pe_tup h).of ?_
  rintro σ H Q ⟨B, F0, F, ρ, s, p⟩
  refine ⟨B, F0, F, ρ, s, ?_⟩
  unfold mTup at p
  cases q : ms ρ with
  | bad => rw [q] at p; exact p
  | er e => rw [q] at p; exact p
  | ok ds =>
    rw [q] at p
    intro vs F' H' g1 h1
    have p : PostE X.K cl W σ F H (if ds.length < 16777216 then .ok (.tup ds) else .bad) Q := p
    by_cases hl : ds.length < 16777216
    · rw [if_pos hl] at p
      refine ⟨by rw [h1.length, sizeLine_eq]; omega, fun pp hp => ?_⟩
      have g2 := Gr.new (o := .tup vs) g1.fh hp
      exact p _ _ _ (g1.trans g2) (.tup upd_same (h1.mono g2.f))
    · rw [if_neg hl] at p; exact p.elim
theorem sc_lst (h : SA X cl W es ms) : SC X cl W (.List es pos) (mLst ms) := by
  refine (pe_lst h).of ?_
  rintro σ H Q ⟨B, F0, F, ρ, s, p⟩
  refine ⟨B, F0, F, ρ, s, ?_⟩
  unfold mLst at p
  cases q : ms ρ with
  | bad => rw [q] at p; exact p
  | er e => rw [q] at p; exact p
  | ok ds =>
    rw [q] at p
    intro vs F' H' g1 h1
    have p : PostC X.K cl W σ F H (if ds.length < 16777216 then .ok (.l ds) else .bad) Q := p
    by_cases hl : ds.length < 16777216
    · rw [if_pos hl] at p
      refine ⟨by rw [h1.length, sizeLine_eq]; omega, fun pp hp => ?_⟩
      have g2 := Gr.own (o := .lst vs) g1.fh hp
      have hH : H pp = none := Same.free g1.h hp
      exact p pp _ _ _ (g1.trans g2) hH (by cases z : F' pp with | none => rfl | some o => rw [g1.fh _ _ z] at hp; cases hp) upd_same ⟨vs, rfl, h1⟩
    · rw [if_neg hl] at p; exact p.elim
/-- freezing what is fresh -/
theorem so_fz {m : En → Res Cn} (h : SC X cl W e m) : SE X cl W e (mFz m) := by
  refine PE.of h ?_
  rintro σ H Q ⟨B, F0, F, ρ, s, p⟩
  refine ⟨B, F0, F, ρ, s, ?_⟩
  unfold mFz at p
  cases q : m ρ with
  | bad => rw [q] at p; exact p
  | er e => rw [q] at p; exact p
  | ok c =>
    rw [q] at p
    have p : ∀ v F' H', Gr F H F' H' → Rp X.K cl F' v c.d → Q v H' := p
    intro a o F' H' g hn hf ho hc
    have m1 : Same F' (upd F' a o) := fun b u e => by
      have : b ≠ a := fun z => by subst z; rw [e] at hf; cases hf
      rw [upd_ne this]; exact e
    refine p (.ref a) (upd F' a o) H' ⟨g.f.trans m1, fun b u e => ?_, g.h, fun b hb => ?_⟩ ((hc.mono m1).rp upd_same)
    · by_cases z : b = a
      · subst z; rw [upd_same] at e; cases e; exact ho
      · rw [upd_ne z] at e; exact g.fh _ _ e
    · have : b ≠ a := fun z => by subst z; exact hb hn
      rw [upd_ne this]; exact g.n b hb
end
end FL
namespace L2
open PySem PySem.Spec PyProof.Rows
theorem tuple_mulW1 (l : Addr) (items : Array Value) (n : Nat) (dd : Option Addr) (sl : Array (Option Value)) (x : Int) (u : Tok) (c0 : (decide (x < -(2 ^ 63)) || decide (x ≥ 2 ^ 63)) = false) (c1 : (items.isEmpty || x == 1) = true) :
    Meets (Builtin.«tuple.__mul__» ⟨[.ref l, .int x u], []⟩) (fun _ R s => s.heap.get? l = some { cls := .type "tuple", dict := dd, data := .seq items n, slots := sl } ∧
      R (.ok (.ret (Value.ref l))) s) :=
  .of_wp fun prog w A R s h => by
    obtain ⟨hp, g, d, tk, os⟩ := s
    obtain ⟨hl, h⟩ := h
    have f1 := AutoSeq1.idx_int
    wp_walk using wpAny_loadPart' hl
    repeat (first
      | (refine wpAny_ite_false (decide_eq_false (by rw [c0]; exact Bool.false_ne_true)) ?_; wp_walk using wpAny_loadPart' hl)
      | (refine wpAny_ite_true (decide_eq_true c1) ?_; wp_walk using wpAny_loadPart' hl))
    exact ⟨_, rfl, h⟩
theorem tuple_mulW0 (l : Addr) (items : Array Value) (n : Nat) (dd : Option Addr) (sl : Array (Option Value)) (x : Int) (u : Tok) (c0 : (decide (x < -(2 ^ 63)) || decide (x ≥ 2 ^ 63)) = false) (c1 : (items.isEmpty || x == 1) = false) (c2 : (decide (x ≤ 0) || items.isEmpty) = true) :
    Meets (Builtin.«tuple.__mul__» ⟨[.ref l, .int x u], []⟩) (fun _ R s => s.heap.get? l = some { cls := .type "tuple", dict := dd, data := .seq items n, slots := sl } ∧
      R (.ok (.ret (Value.ref s.heap.objs.size))) { s with heap := s.heap.push { cls := Value.type "tuple", data := Data.seq #[] }, toks := s.toks }) :=
  .of_wp fun prog w A R s h => by
    obtain ⟨hp, g, d, tk, os⟩ := s
    obtain ⟨hl, h⟩ := h
    have f1 := AutoSeq1.idx_int
    wp_walk using wpAny_loadPart' hl
    repeat (first
      | (refine wpAny_ite_false (decide_eq_false (by rw [c0]; exact Bool.false_ne_true)) ?_; wp_walk using wpAny_loadPart' hl)
      | (refine wpAny_ite_false (decide_eq_false (by rw [c1]; exact Bool.false_ne_true)) ?_; wp_walk using wpAny_loadPart' hl)
      | (refine wpAny_ite_true (decide_eq_true c2) ?_; wp_walk using wpAny_loadPart' hl))
    exact ⟨_, rfl, h⟩
def rRepT1 (K : PySem.W.Frag) : R2 := fun x y H Q => ∃ l k xs, x = .ref l ∧ y = .int k ∧ SqT K H l xs ∧ k = 1 ∧ Q (.ref l) H
def rRepT0 (K : PySem.W.Frag) : R2 := fun x y H Q => ∃ l k xs, x = .ref l ∧ y = .int k ∧ SqT K H l xs ∧ xs ≠ [] ∧ -(2 ^ 63) ≤ k ∧ k ≤ 0 ∧ ∀ p, H p = none → Q (.ref p) (upd H p (.tup []))
section
variable {X : Cx}
theorem op_repT1 : OpR X (binaryOp .Mult) (rRepT1 X.K) := by
  intro pins s σ H x y v u Q I rx ry h
  obtain ⟨l, k, xs, rfl, rfl, hT, h1, q⟩ := h
  cases rx
  obtain ⟨t, rfl⟩ := ry
  subst h1
  obtain ⟨its, r, ⟨⟨cls, dd, data, sl⟩, ho, hc, n, hd⟩, hs⟩ := I.tuple hT
  simp only at hc hd
  subst hc hd
  have c1 : (its.toArray.isEmpty || (1 : Int) == 1) = true := by simp
  refine wpAny_binaryOp_repeat_ref (T := "tuple") (U := "int") (by decide) ⟨_, ho, rfl⟩ (fun s' => typeIs_int s' 1 t) noFill_tuple_mul F.fills_int_mul F.slot_int_rmul repeat_tuple F.slot_int_index.lookup
    (call_meets F.slot_int_rmul (typeIs_int s 1 t) F.entry_int_rmul (F.args_int_rmul_2 _ _) (int_rmul_tuple 1 t l its.toArray n dd sl)
      ⟨ho, rfl, ⟨_, ho, rfl⟩, call_meets F.slot_tuple_mul ⟨_, ho, rfl⟩ F.entry_tuple_mul (F.args_tuple_mul_2 _ _) (tuple_mulW1 l its.toArray n dd sl 1 t (by decide) c1) ⟨ho, ?_⟩⟩)
  exact ⟨.ref l, H, I, rfl, q⟩
theorem op_repT0 : OpR X (binaryOp .Mult) (rRepT0 X.K) := by
  intro pins s σ H x y v u Q I rx ry h
  obtain ⟨l, k, xs, rfl, rfl, hT, hne, h1, h2, q⟩ := h
  cases rx
  obtain ⟨t, rfl⟩ := ry
  obtain ⟨its, r, ⟨⟨cls, dd, data, sl⟩, ho, hc, n, hd⟩, hs⟩ := I.tuple hT
  simp only at hc hd
  subst hc hd
  have hle : its.length = xs.length := r.length.symm
  have hn : its ≠ [] := fun e => hne (by
    rw [e] at hle
    exact List.eq_nil_of_length_eq_zero hle.symm)
  have hi : its.toArray.isEmpty = false := by
    cases its with
    | nil => exact absurd rfl hn
    | cons a b => rfl
  have c0 : (decide (k < -(2 ^ 63)) || decide (k ≥ 2 ^ 63)) = false := by
    rw [decide_eq_false (by omega), decide_eq_false (by omega)] <;> rfl
  have c1 : (its.toArray.isEmpty || k == 1) = false := by
    rw [hi, Bool.false_or]
    exact beq_eq_false_iff_ne.mpr (by omega)
  have c2 : (decide (k ≤ 0) || its.toArray.isEmpty) = true := by
    rw [decide_eq_true h2]; rfl
  refine wpAny_binaryOp_repeat_ref (T := "tuple") (U := "int") (by decide) ⟨_, ho, rfl⟩ (fun s' => typeIs_int s' k t) noFill_tuple_mul F.fills_int_mul F.slot_int_rmul repeat_tuple F.slot_int_index.lookup
    (call_meets F.slot_int_rmul (typeIs_int s k t) F.entry_int_rmul (F.args_int_rmul_2 _ _) (int_rmul_tuple k t l its.toArray n dd sl)
      ⟨ho, rfl, ⟨_, ho, rfl⟩, call_meets F.slot_tuple_mul ⟨_, ho, rfl⟩ F.entry_tuple_mul (F.args_tuple_mul_2 _ _) (tuple_mulW0 l its.toArray n dd sl k t c0 c1 c2) ⟨ho, ?_⟩⟩)
  refine ⟨.ref s.heap.objs.size, _, I.laid (t' := s.toks) (o := .tup []) (fun b ob q => Heap.get?_push_of_some _ q) (Nat.le_refl _) ?_, rfl, q _ (I.hok.fresh (Nat.le_refl _))⟩
  exact ⟨Nat.zero_le _, [], .nil, IsTup.new _ _⟩
end
end L2
namespace FL
open PySem L2
/-! ## equality of data -/
mutual
def D.eqv : D → D → Bool
  | .non, .non => true
  | .bl a, .bl b => a == b
  | .bl a, .int j => (if a then 1 else 0) == j
  | .int i, .bl b => i == (if b then 1 else 0)
  | .int i, .int j => i == j
  | .str x, .str y => x == y
  | .lst xs, .lst ys => D.eqvA xs ys
  | .tup xs, .tup ys => D.eqvA xs ys
  | _, _ => false
def D.eqvA : List D → List D → Bool
  | [], [] => true
  | x :: xs, y :: ys => D.eqv x y && D.eqvA xs ys
  | _, _ => false
end
mutual
def D.shp : D → Nat → Bool
  | .non, _ => true
  | .bl _, _ => true
  | .int _, _ => true
  | .str x, _ => PyData.strOk x
  | .lst xs, n + 1 => D.shpA xs n
  | .tup xs, n + 1 => D.shpA xs n
  | _, _ => false
def D.shpA : List D → Nat → Bool
  | [], _ => true
  | x :: xs, n => D.shp x n && D.shpA xs n
end
mutual
def D.py : D → PyData
  | .non => .none
  | .bl b => .bool b
  | .int i => .int i
  | .str x => .str x
  | .lst xs => .list (D.pyA xs)
  | .tup xs => .tuple (D.pyA xs)
  | _ => .dict []
def D.pyA : List D → List PyData
  | [] => []
  | x :: xs => D.py x :: D.pyA xs
end
mutual
theorem shp_ok : ∀ (d : D) (n : Nat), d.shp n = true → d.py.canLay0 = true ∧ d.py.depth ≤ n
  | .non, n, h => ⟨rfl, Nat.zero_le _⟩
  | .bl b, n, h => ⟨rfl, Nat.zero_le _⟩
  | .int i, n, h => ⟨rfl, Nat.zero_le _⟩
  | .str x, n, h => ⟨by simpa [D.py, PyData.canLay0, D.shp] using h, Nat.zero_le _⟩
  | .lst xs, n + 1, h => by
    have := shpA_ok xs n (by simpa [D.shp] using h)
    exact ⟨by simpa [D.py, PyData.canLay0] using this.1, by simpa [D.py, PyData.depth] using this.2⟩
  | .tup xs, n + 1, h => by
    have := shpA_ok xs n (by simpa [D.shp] using h)
    exact ⟨by simpa [D.py, PyData.canLay0] using this.1, by simpa [D.py, PyData.depth] using this.2⟩
  | .lst xs, 0, h => by simp [D.shp] at h
  | .tup xs, 0, h => by simp [D.shp] at h
  | .scr _, n, h => by cases n <;> simp [D.shp] at h
  | .dik _ _, n, h => by cases n <;> simp [D.shp] at h
  | .dit _ _, n, h => by cases n <;> simp [D.shp] at h
  | .ins _ _ _, n, h => by cases n <;> simp [D.shp] at h
  | .exc _ _ _, n, h => by cases n <;> simp [D.shp] at h
theorem shpA_ok : ∀ (ds : List D) (n : Nat), D.shpA ds n = true → PyData.canLayAll0 (D.pyA ds) = true ∧ PyData.depthAll (D.pyA ds) ≤ n
  | [], n, h => ⟨rfl, Nat.zero_le _⟩
  | d :: ds, n, h => by
    simp only [D.shpA, Bool.and_eq_true] at h
    have h1 := shp_ok d n h.1
    have h2 := shpA_ok ds n h.2
    refine ⟨by simp [D.pyA, PyData.canLayAll0, h1.1, h2.1], ?_⟩
    simp only [D.pyA, PyData.depthAll]
    omega
end
mutual
theorem rp_dp {K : PySem.W.Frag} {cl : Cl} {F H : Hp} (m : Same F H) : ∀ (d : D) (n : Nat) (v : V), d.shp n = true → Rp K cl F v d → Dp K H v d.py
  | .non, n, v, h, r => by cases r; exact .non
  | .bl b, n, v, h, r => by cases r; exact .bl _
  | .int i, n, v, h, r => by cases r; exact .int _
  | .str x, n, v, h, r => by cases r; exact .str _
  | .lst xs, n + 1, v, h, r => by
    cases r with
    | lst a b => exact .lst (SqL.of (m _ _ a)) (rpA_dp m xs n _ (by simpa [D.shp] using h) b)
  | .tup xs, n + 1, v, h, r => by
    cases r with
    | tup a b => exact .tup (SqT.of (m _ _ a)) (rpA_dp m xs n _ (by simpa [D.shp] using h) b)
  | .lst xs, 0, v, h, r => by simp [D.shp] at h
  | .tup xs, 0, v, h, r => by simp [D.shp] at h
  | .scr _, n, v, h, r => by cases n <;> simp [D.shp] at h
  | .dik _ _, n, v, h, r => by cases n <;> simp [D.shp] at h
  | .dit _ _, n, v, h, r => by cases n <;> simp [D.shp] at h
  | .ins _ _ _, n, v, h, r => by cases n <;> simp [D.shp] at h
  | .exc _ _ _, n, v, h, r => by cases n <;> simp [D.shp] at h
theorem rpA_dp {K : PySem.W.Frag} {cl : Cl} {F H : Hp} (m : Same F H) : ∀ (ds : List D) (n : Nat) (vs : List V), D.shpA ds n = true → RpA K cl F vs ds → DpAll K H vs (D.pyA ds)
  | [], n, vs, h, r => by cases r; exact .nil
  | d :: ds, n, vs, h, r => by
    simp only [D.shpA, Bool.and_eq_true] at h
    cases r with
    | cons a b => exact .cons (rp_dp m d n _ h.1 a) (rpA_dp m ds n _ h.2 b)
end
mutual
theorem eqv_py : ∀ (d e : D) (n k : Nat), d.shp n = true → e.shp k = true → PyData.eqv d.py e.py = D.eqv d e := fun d e n k h1 h2 => by
  cases d <;> cases e <;> first
    | rfl
    | (cases n <;> simp [D.shp] at h1; done)
    | (cases k <;> simp [D.shp] at h2; done)
    | (cases n with
       | zero => simp [D.shp] at h1
       | succ n => cases k with
         | zero => simp [D.shp] at h2
         | succ k =>
           simp only [D.shp] at h1 h2
           simp only [D.py, PyData.eqv, D.eqv]
           exact eqvA_py _ _ n k h1 h2)
    | (cases n <;> simp [D.shp] at h1 <;> simp [D.py, PyData.eqv, D.eqv]; done)
    | (cases k <;> simp [D.shp] at h2 <;> simp [D.py, PyData.eqv, D.eqv]; done)
theorem eqvA_py : ∀ (ds es : List D) (n k : Nat), D.shpA ds n = true → D.shpA es k = true → PyData.eqvAll (D.pyA ds) (D.pyA es) = D.eqvA ds es
  | [], [], _, _, _, _ => rfl
  | [], _ :: _, _, _, _, _ => rfl
  | _ :: _, [], _, _, _, _ => rfl
  | d :: ds, e :: es, n, k, h1, h2 => by
    simp only [D.shpA, Bool.and_eq_true] at h1 h2
    simp only [D.pyA, PyData.eqvAll, D.eqvA]
    rw [eqv_py d e n k h1.1 h2.1, eqvA_py ds es n k h1.2 h2.2]
end
def shp (d : D) : Bool := d.shp 64
theorem shp_sh {d : D} (h : shp d = true) : SeqAt.shaped d.py = true := by
  obtain ⟨h1, h2⟩ := shp_ok d 64 h
  unfold SeqAt.shaped
  rw [h1, Bool.true_and]
  exact decide_eq_true h2
theorem shp_eqv {d e : D} (h : shp d = true) (h' : shp e = true) : PyData.eqv d.py e.py = D.eqv d e := eqv_py d e 64 64 h h'
theorem shp_dp {K : PySem.W.Frag} {cl : Cl} {F H : Hp} {d : D} {v : V} (m : Same F H) (h : shp d = true) (r : Rp K cl F v d) : Dp K H v d.py := rp_dp m d 64 v h r
/-! ## operations -/
def okMul (i j : Int) : Bool := decide (Builtin.Int.intBits i + Builtin.Int.intBits j ≤ 134217728)
def okDiv (i j : Int) : Bool := decide (j ≠ 0) && !Builtin.divisionGoesByPylong i j
def repD (ds : List D) (k : Int) : List D := (List.replicate k.toNat ds).flatten
def fAdd : D → D → Option D
  | .int i, .int j => some (.int (i + j))
  | .tup xs, .tup ys => if xs.length + ys.length < 16777216 then some (.tup (xs ++ ys)) else none
  | .lst xs, .lst ys => if xs.length + ys.length < 16777216 then some (.lst (xs ++ ys)) else none
  | .str x, .str y => if x.length + y.length < 16777216 then some (.str (x ++ y)) else none
  | _, _ => none
def fSub : D → D → Option D
  | .int i, .int j => some (.int (i - j))
  | _, _ => none
def fMul : D → D → Option D
  | .int i, .int j => if okMul i j then some (.int (i * j)) else none
  | .tup xs, .int k => if decide (-1000 ≤ k) && decide (k ≤ 1000) && decide (xs.length ≤ 1000) && !xs.isEmpty then some (.tup (repD xs k)) else none
  | .lst xs, .int k => if decide (-1000 ≤ k) && decide (k ≤ 1000) && decide (xs.length ≤ 1000) then some (.lst (repD xs k)) else none
  | _, _ => none
def fFdiv : D → D → Option D
  | .int i, .int j => if okDiv i j then some (.int (i.fdiv j)) else none
  | _, _ => none
def fMod : D → D → Option D
  | .int i, .int j => if j ≠ 0 then some (.int (i.fmod j)) else none
  | _, _ => none
def okPow (i j : Int) : Bool := decide (0 ≤ j) && decide (j ≤ 1000000) && decide (i.natAbs < 2 ^ 64)
def fPow : D → D → Option D
  | .int i, .int j => if okPow i j then some (.int (i ^ j.toNat)) else none
  | _, _ => none
def fShl : D → D → Option D
  | .int i, .int j => if okPow i j then some (.int (i * 2 ^ j.toNat)) else none
  | _, _ => none
def fShr : D → D → Option D
  | .int i, .int j => if 0 ≤ j then some (.int (i / 2 ^ j.toNat)) else none
  | _, _ => none
def fAnd : D → D → Option D
  | .int i, .int j => some (.int (Builtin.bitAnd i j))
  | _, _ => none
def fOr : D → D → Option D
  | .int i, .int j => some (.int (Builtin.bitOr i j))
  | _, _ => none
def fXor : D → D → Option D
  | .int i, .int j => some (.int (Builtin.bitXor i j))
  | _, _ => none
def fNeg : D → Option D
  | .int i => some (.int (-i))
  | _ => none
def fLt : D → D → Option D
  | .int i, .int j => some (.bl (decide (i < j)))
  | _, _ => none
def fLe : D → D → Option D
  | .int i, .int j => some (.bl (decide (i ≤ j)))
  | _, _ => none
def fGt : D → D → Option D
  | .int i, .int j => some (.bl (decide (j < i)))
  | _, _ => none
def fGe : D → D → Option D
  | .int i, .int j => some (.bl (decide (j ≤ i)))
  | _, _ => none
def fEq (x y : D) : Option D := if shp x && shp y then some (.bl (D.eqv x y)) else none
def fNe (x y : D) : Option D := if shp x && shp y then some (.bl (!D.eqv x y)) else none
def fIsN (x : D) (y : D) : Option D := match y with
  | .non => match x with
    | .non => some (.bl true)
    | _ => some (.bl false)
  | _ => none
def fNotN (x : D) (y : D) : Option D := match y with
  | .non => match x with
    | .non => some (.bl false)
    | _ => some (.bl true)
  | _ => none
def inD (x : D) (ds : List D) : Bool := ds.any fun z => D.eqv z x
def fIn : D → D → Option D
  | x, .lst ds => if shp x && shp (.lst ds) then some (.bl (inD x ds)) else none
  | x, .tup ds => if shp x && shp (.tup ds) then some (.bl (inD x ds)) else none
  | _, _ => none
def fNotIn : D → D → Option D
  | x, .lst ds => if shp x && shp (.lst ds) then some (.bl (!inD x ds)) else none
  | x, .tup ds => if shp x && shp (.tup ds) then some (.bl (!inD x ds)) else none
  | _, _ => none
def fIx : D → D → Option D
  | .lst ds, .int i => atI ds i
  | .tup ds, .int i => atI ds i
  | .scr ns, .int i => (atI ns i).map .int
  | _, _ => none
section
variable {K : PySem.W.Frag} {cl : Cl} {X : Cx}
theorem PostO.int {F H : Hp} {d : D} {v : V} {Q : VK} (m : Same F H) (p : PostO K cl F H (some d) Q) (r : Rp K cl F v d) : Q v H := p v F H (.refl m) r
theorem PostO.new {F H : Hp} {d : D} {Q : VK} {o : HO} {p : Addr} (m : Same F H) (q : PostO K cl F H (some d) Q) (hp : H p = none) (r : ∀ F', Same F F' → F' p = some o → Rp K cl F' (.ref p) d) : Q (.ref p) (upd H p o) := by
  have g := Gr.new (o := o) m hp
  exact q _ _ _ g (r _ g.f upd_same)
/-- an operation on two ints alone -/
theorem op2_I {f : D → D → Option D} {C : Int → Int → Prop} {k : Int → Int → V} {kd : Int → Int → D}
    (hf : ∀ x y z, f x y = some z → ∃ i j, x = .int i ∧ y = .int j ∧ C i j ∧ z = kd i j) (hk : ∀ F i j, Rp K cl F (k i j) (kd i j)) : Op2 K cl (rI C k) f := by
  intro F H x y dx dy Q m rx ry p
  cases q : f dx dy with
  | none => rw [q] at p; exact p.elim
  | some z =>
    rw [q] at p
    obtain ⟨i, j, rfl, rfl, hc, rfl⟩ := hf _ _ _ q
    cases rx; cases ry
    exact ⟨i, j, rfl, rfl, hc, p.int m (hk F i j)⟩
theorem op2_I0 {f : D → D → Option D} {k : Int → Int → V} {kd : Int → Int → D}
    (hf : ∀ x y z, f x y = some z → ∃ i j, x = .int i ∧ y = .int j ∧ z = kd i j) (hk : ∀ F i j, Rp K cl F (k i j) (kd i j)) : Op2 K cl (rI0 k) f := by
  intro F H x y dx dy Q m rx ry p
  cases q : f dx dy with
  | none => rw [q] at p; exact p.elim
  | some z =>
    rw [q] at p
    obtain ⟨i, j, rfl, rfl, rfl⟩ := hf _ _ _ q
    cases rx; cases ry
    exact ⟨i, j, rfl, rfl, p.int m (hk F i j)⟩
theorem o_sub : Op2 K cl (rI0 fun i j => .int (i - j)) fSub := op2_I0 (kd := fun i j => .int (i - j)) (fun x y z h => by cases x <;> cases y <;> simp [fSub] at h; exact ⟨_, _, rfl, rfl, h.symm⟩) fun F i j => .int _
theorem o_fdiv : Op2 K cl (rI (fun i j => okDiv i j = true) fun i j => .int (i.fdiv j)) fFdiv := op2_I (kd := fun i j => .int (i.fdiv j)) (fun x y z h => by cases x <;> cases y <;> simp [fFdiv] at h; exact ⟨_, _, rfl, rfl, h.1, h.2.symm⟩) fun F i j => .int _
theorem op_fdivX : OpR X (binaryOp .FloorDiv) (rI (fun i j => okDiv i j = true) fun i j => .int (i.fdiv j)) := opI fun i j _ _ _ _ _ hc q => by
  unfold okDiv at hc
  simp only [Bool.and_eq_true, decide_eq_true_eq, Bool.not_eq_true'] at hc
  exact PyProof.Rows.floordiv_int hc.1 q (.inl hc.2)
theorem o_mod : Op2 K cl (rI (fun _ j => j ≠ 0) fun i j => .int (i.fmod j)) fMod := op2_I (kd := fun i j => .int (i.fmod j)) (fun x y z h => by cases x <;> cases y <;> simp [fMod] at h; exact ⟨_, _, rfl, rfl, h.1, h.2.symm⟩) fun F i j => .int _
theorem okPow_c {i j : Int} (h : okPow i j = true) : CPow i j := by
  unfold okPow at h
  simp only [Bool.and_eq_true, decide_eq_true_eq] at h
  exact ⟨h.1.1, h.1.2, h.2⟩
theorem o_pow : Op2 K cl (rI CPow fun i j => .int (i ^ j.toNat)) fPow := op2_I (kd := fun i j => .int (i ^ j.toNat)) (fun x y z h => by cases x <;> cases y <;> simp [fPow] at h; exact ⟨_, _, rfl, rfl, okPow_c h.1, h.2.symm⟩) fun F i j => .int _
theorem o_shl : Op2 K cl (rI CPow fun i j => .int (i * 2 ^ j.toNat)) fShl := op2_I (kd := fun i j => .int (i * 2 ^ j.toNat)) (fun x y z h => by cases x <;> cases y <;> simp [fShl] at h; exact ⟨_, _, rfl, rfl, okPow_c h.1, h.2.symm⟩) fun F i j => .int _
theorem o_shr : Op2 K cl (rI (fun _ j => 0 ≤ j) fun i j => .int (i / 2 ^ j.toNat)) fShr := op2_I (kd := fun i j => .int (i / 2 ^ j.toNat)) (fun x y z h => by cases x <;> cases y <;> simp [fShr] at h; exact ⟨_, _, rfl, rfl, h.1, h.2.symm⟩) fun F i j => .int _
theorem o_and : Op2 K cl (rI0 fun i j => .int (Builtin.bitAnd i j)) fAnd := op2_I0 (kd := fun i j => .int (Builtin.bitAnd i j)) (fun x y z h => by cases x <;> cases y <;> simp [fAnd] at h; exact ⟨_, _, rfl, rfl, h.symm⟩) fun F i j => .int _
theorem o_or : Op2 K cl (rI0 fun i j => .int (Builtin.bitOr i j)) fOr := op2_I0 (kd := fun i j => .int (Builtin.bitOr i j)) (fun x y z h => by cases x <;> cases y <;> simp [fOr] at h; exact ⟨_, _, rfl, rfl, h.symm⟩) fun F i j => .int _
theorem o_xor : Op2 K cl (rI0 fun i j => .int (Builtin.bitXor i j)) fXor := op2_I0 (kd := fun i j => .int (Builtin.bitXor i j)) (fun x y z h => by cases x <;> cases y <;> simp [fXor] at h; exact ⟨_, _, rfl, rfl, h.symm⟩) fun F i j => .int _
theorem o_lt : Op2 K cl (rI0 fun i j => .bl (decide (i < j))) fLt := op2_I0 (kd := fun i j => .bl (decide (i < j))) (fun x y z h => by cases x <;> cases y <;> simp [fLt] at h; exact ⟨_, _, rfl, rfl, h.symm⟩) fun F i j => .bl _
theorem o_le : Op2 K cl (rI0 fun i j => .bl (decide (i ≤ j))) fLe := op2_I0 (kd := fun i j => .bl (decide (i ≤ j))) (fun x y z h => by cases x <;> cases y <;> simp [fLe] at h; exact ⟨_, _, rfl, rfl, h.symm⟩) fun F i j => .bl _
theorem o_gt : Op2 K cl (rI0 fun i j => .bl (decide (j < i))) fGt := op2_I0 (kd := fun i j => .bl (decide (j < i))) (fun x y z h => by cases x <;> cases y <;> simp [fGt] at h; exact ⟨_, _, rfl, rfl, h.symm⟩) fun F i j => .bl _
theorem o_ge : Op2 K cl (rI0 fun i j => .bl (decide (j ≤ i))) fGe := op2_I0 (kd := fun i j => .bl (decide (j ≤ i))) (fun x y z h => by cases x <;> cases y <;> simp [fGe] at h; exact ⟨_, _, rfl, rfl, h.symm⟩) fun F i j => .bl _
theorem o_neg : Op1 K cl (rU fun i => .int (-i)) fNeg := by
  intro F H x dx Q m rx p
  cases rx <;> simp only [fNeg] at p <;> first | exact p.elim | exact ⟨_, rfl, p.int m (.int _)⟩
def rAddU (K : PySem.W.Frag) : R2 := fun x y H Q => (rI0 fun i j => .int (i + j)) x y H Q ∨ rCatA K x y H Q ∨ rCat x y H Q ∨ (∃ i j, x = .str i ∧ y = .str j ∧ i.length + j.length ≤ sizeLine ∧ Q (.str (i ++ j)) H)
theorem op_addU : OpR X (binaryOp .Add) (rAddU X.K) := op_add.or (op_catA.or (op_cat.or op_add_str))
theorem o_add : Op2 K cl (rAddU K) fAdd := by
  intro F H x y dx dy Q m rx ry p
  cases rx <;> cases ry <;> simp only [fAdd] at p <;> try exact p.elim
  · exact .inl ⟨_, _, rfl, rfl, p.int m (.int _)⟩
  · rename_i a b
    refine .inr (.inr (.inr ⟨_, _, rfl, rfl, ?_⟩))
    split at p
    · exact ⟨by rw [sizeLine_eq]; omega, p.int m (.str _)⟩
    · exact p.elim
  · rename_i a xs ds ha ra b ys es hb rb
    split at p
    · refine .inr (.inr (.inl ⟨_, _, _, _, rfl, rfl, m _ _ ha, m _ _ hb, by rw [ra.length, rb.length, sizeLine_eq]; omega, fun q hq => ?_⟩))
      exact p.new m hq fun F' hF e => .lst e ((ra.mono hF).app (rb.mono hF))
    · exact p.elim
  · rename_i a xs ds ha ra b ys es hb rb
    split at p
    · refine .inr (.inl ⟨_, _, _, _, rfl, rfl, .of (m _ _ ha), .of (m _ _ hb), by rw [ra.length, rb.length, sizeLine_eq]; omega, fun hx => ?_, fun hx hy => ?_, fun hx hy q hq => ?_⟩)
      · subst hx; cases ra; exact p.int m (.tup hb rb)
      · subst hy; cases rb; rw [List.append_nil] at p; exact p.int m (.tup ha ra)
      · exact p.new m hq fun F' hF e => .tup e ((ra.mono hF).app (rb.mono hF))
    · exact p.elim
theorem RpA.flat {F : Hp} {vs : List V} {ds : List D} (h : RpA K cl F vs ds) : ∀ n : Nat, RpA K cl F (List.replicate n vs).flatten (List.replicate n ds).flatten
  | 0 => .nil
  | n + 1 => by
    rw [List.replicate_succ, List.replicate_succ, List.flatten_cons, List.flatten_cons]
    exact h.app (RpA.flat h n)
def rMulU (K : PySem.W.Frag) : R2 := fun x y H Q => (rI CMulX fun i j => .int (i * j)) x y H Q ∨ rRepT K x y H Q ∨ rRep x y H Q ∨ rRepT1 K x y H Q ∨ rRepT0 K x y H Q
theorem op_mulU : OpR X (binaryOp .Mult) (rMulU X.K) := op_mulX.or (op_repT.or (op_rep.or (op_repT1.or op_repT0)))
theorem o_mul : Op2 K cl (rMulU K) fMul := by
  intro F H x y dx dy Q m rx ry p
  cases rx <;> cases ry <;> simp only [fMul] at p <;> try exact p.elim
  · split at p
    · rename_i h
      exact .inl ⟨_, _, rfl, rfl, by unfold okMul at h; have := of_decide_eq_true h; unfold CMulX; omega, p.int m (.int _)⟩
    · exact p.elim
  · rename_i a xs ds ha ra k
    split at p
    · rename_i h
      simp only [Bool.and_eq_true, decide_eq_true_eq] at h
      have hl := ra.length
      refine .inr (.inr (.inl ⟨_, _, _, rfl, rfl, m _ _ ha, by omega, by omega, ?_, fun q hq => ?_⟩))
      · rw [sizeLine_eq]
        have h1 : xs.length * k.toNat ≤ 1000 * 1000 := Nat.mul_le_mul (by omega) (by omega)
        omega
      · exact p.new m hq fun F' hF e => .lst e ((ra.mono hF).flat _)
    · exact p.elim
  · rename_i a xs ds ha ra k
    split at p
    · rename_i h
      simp only [Bool.and_eq_true, decide_eq_true_eq, Bool.not_eq_true'] at h
      have hl := ra.length
      have hne : xs ≠ [] := by intro e; subst e; cases ra; simp at h
      by_cases h2 : 2 ≤ k
      · exact .inr (.inl ⟨_, _, _, rfl, rfl, .of (m _ _ ha), hne, h2, by omega, by omega, fun q hq => p.new m hq fun F' hF e => .tup e ((ra.mono hF).flat _)⟩)
      · by_cases h1 : k = 1
        · subst h1
          have e : repD ds 1 = ds := by simp [repD]
          rw [e] at p
          exact .inr (.inr (.inr (.inl ⟨_, _, _, rfl, rfl, .of (m _ _ ha), rfl, p.int m (.tup ha ra)⟩)))
        · have e : repD ds k = [] := by
            have : k.toNat = 0 := by omega
            simp [repD, this]
          rw [e] at p
          exact .inr (.inr (.inr (.inr ⟨_, _, _, rfl, rfl, .of (m _ _ ha), hne, by omega, by omega, fun q hq => p.new m hq fun F' hF e => .tup e .nil⟩)))
    · exact p.elim
theorem o_eq : Op2 K cl (rEqD K) fEq := by
  intro F H x y dx dy Q m rx ry p
  unfold fEq at p
  split at p
  · rename_i h
    rw [Bool.and_eq_true] at h
    exact ⟨_, _, shp_dp m h.1 rx, shp_dp m h.2 ry, shp_sh h.1, shp_sh h.2, by rw [shp_eqv h.1 h.2]; exact p.int m (.bl _)⟩
  · exact p.elim
theorem o_ne : Op2 K cl (rNeD K) fNe := by
  intro F H x y dx dy Q m rx ry p
  unfold fNe at p
  split at p
  · rename_i h
    rw [Bool.and_eq_true] at h
    exact ⟨_, _, shp_dp m h.1 rx, shp_dp m h.2 ry, shp_sh h.1, shp_sh h.2, by rw [shp_eqv h.1 h.2]; exact p.int m (.bl _)⟩
  · exact p.elim
theorem o_isN : Op2 K cl (fun x y H Q => y = .non ∧ Q (.bl (decide (x = .non))) H) fIsN := by
  intro F H x y dx dy Q m rx ry p
  unfold fIsN at p
  cases ry <;> simp only at p <;> try exact p.elim
  refine ⟨rfl, ?_⟩
  cases rx <;> exact p.int m (.bl _)
theorem o_notN : Op2 K cl (fun x y H Q => y = .non ∧ Q (.bl (!decide (x = .non))) H) fNotN := by
  intro F H x y dx dy Q m rx ry p
  unfold fNotN at p
  cases ry <;> simp only at p <;> try exact p.elim
  refine ⟨rfl, ?_⟩
  cases rx <;> exact p.int m (.bl _)
/-! in, not in -/
def rInU (K : PySem.W.Frag) : R2 := fun x y H Q => ∃ d ds, Dp K H x d ∧ (Dp K H y (.list ds) ∧ SeqAt.shaped (.list ds) = true ∨ Dp K H y (.tuple ds) ∧ SeqAt.shaped (.tuple ds) = true) ∧ SeqAt.shaped d = true ∧ Q (.bl (ds.any fun z => PyData.eqv z d)) H
def rNotInU (K : PySem.W.Frag) : R2 := fun x y H Q => ∃ d ds, Dp K H x d ∧ (Dp K H y (.list ds) ∧ SeqAt.shaped (.list ds) = true ∨ Dp K H y (.tuple ds) ∧ SeqAt.shaped (.tuple ds) = true) ∧ SeqAt.shaped d = true ∧ Q (.bl (!ds.any fun z => PyData.eqv z d)) H
theorem room_in {A : Around} {d : PyData} {xs : List PyData} (sd : SeqAt.shaped d = true) (hu : A.units + 65 < cLine) : A.units + 1 + min (PyData.depthAll xs) d.depth < cLine := by
  have h1 := SeqAt.depth_of_shaped sd
  have h2 : min (PyData.depthAll xs) d.depth ≤ d.depth := Nat.min_le_right _ _
  omega
theorem op_inU (hu : X.A.units + 65 < cLine) : OpR X (compareOp .In) (rInU X.K) := by
  intro pins s σ H x y v u Q I rx ry h
  obtain ⟨d, ds, hd, he, sd, q⟩ := h
  obtain ⟨as, r1⟩ := Dp.reads I d x v hd rx
  rcases he with ⟨he, se⟩ | ⟨he, se⟩
  · obtain ⟨bs, r2⟩ := Dp.reads I (.list ds) y u he ry
    exact SeqAt.in_list_reads r2 r1 (SeqAt.canLay_of_shaped se) (SeqAt.canLay_of_shaped sd) (room_in sd hu) ⟨.bl _, H, I, rfl, q⟩
  · obtain ⟨bs, r2⟩ := Dp.reads I (.tuple ds) y u he ry
    exact SeqAt.in_tuple_reads r2 r1 (SeqAt.canLay_of_shaped se) (SeqAt.canLay_of_shaped sd) (room_in sd hu) ⟨.bl _, H, I, rfl, q⟩
theorem op_notInU (hu : X.A.units + 65 < cLine) : OpR X (compareOp .NotIn) (rNotInU X.K) := by
  intro pins s σ H x y v u Q I rx ry h
  obtain ⟨d, ds, hd, he, sd, q⟩ := h
  obtain ⟨as, r1⟩ := Dp.reads I d x v hd rx
  rcases he with ⟨he, se⟩ | ⟨he, se⟩
  · obtain ⟨bs, r2⟩ := Dp.reads I (.list ds) y u he ry
    exact SeqAt.notIn_list_reads r2 r1 (SeqAt.canLay_of_shaped se) (SeqAt.canLay_of_shaped sd) (room_in sd hu) ⟨.bl _, H, I, rfl, q⟩
  · obtain ⟨bs, r2⟩ := Dp.reads I (.tuple ds) y u he ry
    exact SeqAt.notIn_tuple_reads r2 r1 (SeqAt.canLay_of_shaped se) (SeqAt.canLay_of_shaped sd) (room_in sd hu) ⟨.bl _, H, I, rfl, q⟩
theorem pyA_any {x : D} (hx : shp x = true) : ∀ (ds : List D) (n : Nat), D.shpA ds n = true → ((D.pyA ds).any fun z => PyData.eqv z x.py) = inD x ds
  | [], _, _ => rfl
  | d :: ds, n, h => by
    simp only [D.shpA, Bool.and_eq_true] at h
    have e := pyA_any hx ds n h.2
    unfold inD at e ⊢
    simp only [D.pyA, List.any_cons]
    rw [e, eqv_py d x n 64 h.1 hx]
theorem o_in : Op2 K cl (rInU K) fIn := by
  intro F H x y dx dy Q m rx ry p
  cases ry with
  | lst a b =>
    simp only [fIn] at p
    split at p
    · rename_i h
      rw [Bool.and_eq_true] at h
      refine ⟨_, _, shp_dp m h.1 rx, .inl ⟨shp_dp m h.2 (.lst a b), shp_sh h.2⟩, shp_sh h.1, ?_⟩
      rw [pyA_any h.1 _ 63 (by simpa [shp, D.shp] using h.2)]
      exact p.int m (.bl _)
    · exact p.elim
  | tup a b =>
    simp only [fIn] at p
    split at p
    · rename_i h
      rw [Bool.and_eq_true] at h
      refine ⟨_, _, shp_dp m h.1 rx, .inr ⟨shp_dp m h.2 (.tup a b), shp_sh h.2⟩, shp_sh h.1, ?_⟩
      rw [pyA_any h.1 _ 63 (by simpa [shp, D.shp] using h.2)]
      exact p.int m (.bl _)
    · exact p.elim
  | _ => simp only [fIn] at p; exact p.elim
theorem o_notIn : Op2 K cl (rNotInU K) fNotIn := by
  intro F H x y dx dy Q m rx ry p
  cases ry with
  | lst a b =>
    simp only [fNotIn] at p
    split at p
    · rename_i h
      rw [Bool.and_eq_true] at h
      refine ⟨_, _, shp_dp m h.1 rx, .inl ⟨shp_dp m h.2 (.lst a b), shp_sh h.2⟩, shp_sh h.1, ?_⟩
      rw [pyA_any h.1 _ 63 (by simpa [shp, D.shp] using h.2)]
      exact p.int m (.bl _)
    · exact p.elim
  | tup a b =>
    simp only [fNotIn] at p
    split at p
    · rename_i h
      rw [Bool.and_eq_true] at h
      refine ⟨_, _, shp_dp m h.1 rx, .inr ⟨shp_dp m h.2 (.tup a b), shp_sh h.2⟩, shp_sh h.1, ?_⟩
      rw [pyA_any h.1 _ 63 (by simpa [shp, D.shp] using h.2)]
      exact p.int m (.bl _)
    · exact p.elim
  | _ => simp only [fNotIn] at p; exact p.elim
/-! items -/
def rIxU (K : PySem.W.Frag) : R2 := fun x y H Q => rIxL K x y H Q ∨ rIxT K x y H Q
theorem ix_U : IxR X (rIxU X.K) := ix_list.or ix_tup
theorem atI_rp {F : Hp} {vs : List V} {ds : List D} {i : Int} {d : D} (h : RpA K cl F vs ds) (e : atI ds i = some d) : ∃ v, atI vs i = some v ∧ Rp K cl F v d := by
  unfold atI at e ⊢
  rw [h.length]
  cases q : ixN ds.length i with
  | none => rw [q] at e; cases e
  | some j =>
    rw [q] at e
    exact h.get' e
theorem atI_map {α β : Type} (f : α → β) (xs : List α) (i : Int) : atI (xs.map f) i = (atI xs i).map f := by
  unfold atI
  rw [List.length_map]
  cases ixN xs.length i with
  | none => rfl
  | some j => simp
theorem o_ix : Op2 K cl (rIxU K) fIx := by
  intro F H x y dx dy Q m rx ry p
  cases rx <;> cases ry <;> simp only [fIx] at p <;> try exact p.elim
  · rename_i a xs ds ha ra i
    cases q : atI ds i with
    | none => rw [q] at p; exact p.elim
    | some d =>
      rw [q] at p
      obtain ⟨v, h1, h2⟩ := atI_rp ra q
      exact .inl ⟨_, _, _, _, rfl, rfl, .of (m _ _ ha), h1, p.int m h2⟩
  · rename_i a xs ds ha ra i
    cases q : atI ds i with
    | none => rw [q] at p; exact p.elim
    | some d =>
      rw [q] at p
      obtain ⟨v, h1, h2⟩ := atI_rp ra q
      exact .inr ⟨_, _, _, _, rfl, rfl, .of (m _ _ ha), h1, p.int m h2⟩
  · rename_i a ns ha i
    cases q : atI ns i with
    | none => rw [q] at p; exact p.elim
    | some d =>
      rw [q] at p
      exact .inl ⟨_, _, _, _, rfl, rfl, m.seq ha, by rw [atI_map, q]; rfl, p.int m (.int _)⟩
end
end FL
namespace FL
open PySem L2
/-! ## in, with dicts -/
def keyOf : D → Option Key
  | .int i => some (.inl i)
  | .str x => some (.inr x)
  | _ => none
def keysOf : List D → Option (List Key)
  | [] => some []
  | d :: ds => match keyOf d, keysOf ds with
    | some k, some ks => some (k :: ks)
    | _, _ => none
def hasK {κ : Type} [DecidableEq κ] (ks : List κ) (k : κ) : Bool := ks.any fun j => decide (j = k)
def dmap : D → D → Option Bool
  | x, .dik ks _ => (keyOf x).map fun k => hasK ks k
  | .tup ds, .dit ks _ => (keysOf ds).map fun k => hasK ks k
  | _, _ => none
def gIn (x y : D) : Option D := match dmap x y with
  | some b => some (.bl b)
  | none => fIn x y
def gNotIn (x y : D) : Option D := match dmap x y with
  | some b => some (.bl (!b))
  | none => fNotIn x y
section
variable {K : PySem.W.Frag} {cl : Cl} {X : Cx}
theorem keyOf_rp {F : Hp} {d : D} {v : V} {k : Key} (r : Rp K cl F v d) (e : keyOf d = some k) : v = kV k := by
  cases r <;> simp [keyOf] at e <;> subst e <;> rfl
theorem keysOf_rp {F : Hp} : ∀ {ds : List D} {vs : List V} {ks : List Key}, RpA K cl F vs ds → keysOf ds = some ks → vs = ks.map kV
  | [], _, _, r, e => by cases r; simp [keysOf] at e; subst e; rfl
  | d :: ds, _, _, r, e => by
    cases r with
    | cons a b =>
      simp only [keysOf] at e
      split at e
      · rename_i k ks h1 h2
        cases e
        rw [keyOf_rp a h1, keysOf_rp b h2]; rfl
      · cases e
theorem valV_some {κ : Type} [DecidableEq κ] (k : κ) : ∀ kvs : List (κ × V), (valV kvs k).isSome = hasK (kvs.map (·.1)) k
  | [] => rfl
  | p :: r => by
    by_cases h : p.1 = k
    · rw [valV_pos h]; simp [h, hasK]
    · rw [valV_neg h, valV_some k r]; simp [h, hasK]
theorem dmap_get {F H : Hp} {x y : V} {dx dy : D} {b : Bool} (m : Same F H) (rx : Rp K cl F x dx) (ry : Rp K cl F y dy) (e : dmap dx dy = some b) : ∃ a o, y = .ref a ∧ DGet H a x o ∧ o.isSome = b := by
  cases ry with
  | dik a e2 h =>
    rename_i ad kvs ks ds
    have e : (keyOf dx).map (fun k => hasK ks k) = some b := by cases dx <;> exact e
    cases q : keyOf dx with
    | none => rw [q] at e; cases e
    | some k =>
      rw [q] at e; cases e
      have := keyOf_rp rx q; subst this
      exact ⟨_, _, rfl, .k (m _ _ a), by rw [valV_some, e2]⟩
  | dit a e2 h =>
    rename_i ad kvs ks ds
    cases rx with
    | tup ha hr =>
      rename_i ax xv xs
      have e : (keysOf xs).map (fun k => hasK ks k) = some b := e
      cases q : keysOf xs with
      | none => rw [q] at e; cases e
      | some k =>
        rw [q] at e; cases e
        have := keysOf_rp hr q; subst this
        exact ⟨_, _, rfl, .t (m _ _ a) (m _ _ ha), by rw [valV_some, e2]⟩
    | _ => cases e
  | _ => cases rx <;> cases e
def rInA (K : PySem.W.Frag) : R2 := fun x y H Q => (∃ a o, y = .ref a ∧ DGet H a x o ∧ Q (.bl o.isSome) H) ∨ rInU K x y H Q
def rNotInA (K : PySem.W.Frag) : R2 := fun x y H Q => (∃ a o, y = .ref a ∧ DGet H a x o ∧ Q (.bl (!o.isSome)) H) ∨ rNotInU K x y H Q
theorem op_inDict (hu : X.A.units + 65 < cLine) : OpR X (compareOp .In) (fun x y H Q => ∃ a o, y = .ref a ∧ DGet H a x o ∧ Q (.bl o.isSome) H) := by
  intro pins s σ H x y v u Q I rx ry h
  obtain ⟨a, o, rfl, g, q⟩ := h
  cases ry
  exact d_in (by omega) I g rx fun s' I' => ⟨.bl _, H, I', rfl, q⟩
theorem op_notInDict (hu : X.A.units + 65 < cLine) : OpR X (compareOp .NotIn) (fun x y H Q => ∃ a o, y = .ref a ∧ DGet H a x o ∧ Q (.bl (!o.isSome)) H) := by
  intro pins s σ H x y v u Q I rx ry h
  obtain ⟨a, o, rfl, g, q⟩ := h
  cases ry
  exact d_notIn (by omega) I g rx fun s' I' => ⟨.bl _, H, I', rfl, q⟩
theorem op_inA (hu : X.A.units + 65 < cLine) : OpR X (compareOp .In) (rInA X.K) := (op_inDict hu).or (op_inU hu)
theorem op_notInA (hu : X.A.units + 65 < cLine) : OpR X (compareOp .NotIn) (rNotInA X.K) := (op_notInDict hu).or (op_notInU hu)
theorem o_inA : Op2 K cl (rInA K) gIn := by
  intro F H x y dx dy Q m rx ry p
  unfold gIn at p
  split at p
  · rename_i b e
    obtain ⟨a, o, h1, h2, h3⟩ := dmap_get m rx ry e
    exact .inl ⟨a, o, h1, h2, by rw [h3]; exact p.int m (.bl _)⟩
  · exact .inr (o_in F H x y dx dy Q m rx ry p)
theorem o_notInA : Op2 K cl (rNotInA K) gNotIn := by
  intro F H x y dx dy Q m rx ry p
  unfold gNotIn at p
  split at p
  · rename_i b e
    obtain ⟨a, o, h1, h2, h3⟩ := dmap_get m rx ry e
    exact .inl ⟨a, o, h1, h2, by rw [h3]; exact p.int m (.bl _)⟩
  · exact .inr (o_notIn F H x y dx dy Q m rx ry p)
end
/-! ## tests -/
def tru : D → Option Bool
  | .non => some false
  | .bl b => some b
  | .int i => some (i != 0)
  | .str x => if x.length < 16777216 then some ((x.length : Int) != 0) else none
  | .lst ds => some (!ds.isEmpty)
  | .tup ds => some (!ds.isEmpty)
  | _ => none
def mTru (m : En → Res D) : En → Res Bool := fun ρ => (m ρ).bind fun d => .ofO (tru d)
def isBl : D → Option Bool
  | .bl b => some b
  | _ => none
def mTst (m : En → Res D) : En → Res Bool := fun ρ => (m ρ).bind fun d => .ofO (isBl d)
def mtNot (m : En → Res Bool) : En → Res Bool := fun ρ => (m ρ).bind fun b => .ok (!b)
def mtAnd (m n : En → Res Bool) : En → Res Bool := fun ρ => (m ρ).bind fun b => if b then n ρ else .ok false
def mtOr (m n : En → Res Bool) : En → Res Bool := fun ρ => (m ρ).bind fun b => if b then .ok true else n ρ
def mAnd (m n : En → Res D) : En → Res D := fun ρ => (m ρ).bind fun d => match isBl d with
  | some true => n ρ
  | some false => .ok (.bl false)
  | none => .bad
def mOr (m n : En → Res D) : En → Res D := fun ρ => (m ρ).bind fun d => match isBl d with
  | some true => .ok (.bl true)
  | some false => n ρ
  | none => .bad
def mNot (m : En → Res D) : En → Res D := fun ρ => (m ρ).bind fun d => match isBl d with
  | some b => .ok (.bl (!b))
  | none => .bad
def mIf (t : En → Res Bool) (m n : En → Res D) : En → Res D := fun ρ => (t ρ).bind fun b => if b then m ρ else n ρ
section
variable {X : Cx} {cl : Cl} {W : WX} {e a b : Expr} {es : List Expr} {ma mb m n : En → Res D} {ms : En → Res (List D)} {pos : Pos} {t u : En → Res Bool}
theorem PostE.gr {K : PySem.W.Frag} {σ : L2.St} {F H F' H' : Hp} {r : Res D} {Q : VK} (p : PostE K cl W σ F H r Q) (g : Gr F H F' H') : PostE K cl W σ F' H' r Q := by
  cases r with
  | bad => exact p
  | er e => exact fun c dd F2 H2 g2 h2 => p c dd F2 H2 (g.trans g2) h2
  | ok d => exact fun v F2 H2 g2 h2 => p v F2 H2 (g.trans g2) h2
theorem PostT.gr {K : PySem.W.Frag} {σ : L2.St} {F H F' H' : Hp} {r : Res Bool} {Q : Bool → Hp → Prop} (p : PostT K cl W σ F H r Q) (g : Gr F H F' H') : PostT K cl W σ F' H' r Q := by
  cases r with
  | bad => exact p
  | er e => exact fun c dd F2 H2 g2 h2 => p c dd F2 H2 (g.trans g2) h2
  | ok d => exact fun F2 H2 g2 => p F2 H2 (g.trans g2)
theorem isBl_rp {K : PySem.W.Frag} {F : Hp} {d : D} {v : V} {b : Bool} (r : Rp K cl F v d) (e : isBl d = some b) : v = .bl b := by
  cases r <;> simp [isBl] at e; subst e; rfl
theorem sb_tst (h : PT X e (tTest (tM X.K cl W m))) : SB X cl W e (mTst m) := by
  refine PT.of h ?_
  rintro σ H Q ⟨B, F0, F, ρ, s, p⟩
  refine ⟨B, F0, F, ρ, s, ?_⟩
  unfold mTst at p
  cases q : m ρ with
  | bad => rw [q] at p; exact p
  | er e => rw [q] at p; exact p
  | ok d =>
    rw [q] at p
    intro v F' H' g h
    cases q2 : isBl d with
    | none => rw [show (Res.ok d).bind (fun d => Res.ofO (isBl d)) = Res.bad by show Res.ofO (isBl d) = _; rw [q2]; rfl] at p; exact p.elim
    | some k =>
      rw [show (Res.ok d).bind (fun d => Res.ofO (isBl d)) = Res.ok k by show Res.ofO (isBl d) = _; rw [q2]; rfl] at p
      exact ⟨k, isBl_rp h q2, p F' H' g⟩
theorem sb_cmp {op : CmpOp} {r : R2} {f : D → D → Option D} (ho : OpR X (compareOp op) r) (hr : Op2 X.K cl r f) (ha : SE X cl W a ma) (hb : SE X cl W b mb) (hm : behindInMarks op b = false) : SB X cl W (.Compare a [op] [b] pos) (mTst (mOp2 f ma mb)) :=
  sb_tst ((pt_cmpR ho ha hb hm).of fun σ H Q h => op2_in hr σ H _ h)
theorem tru_rp {K : PySem.W.Frag} {F H : Hp} {d : D} {v : V} {b : Bool} (fh : Same F H) (r : Rp K cl F v d) (e : tru d = some b) : TruV K v H b := by
  cases r with
  | non => simp [tru] at e; subst e; exact rfl
  | bl b => simp [tru] at e; subst e; exact rfl
  | int i => simp [tru] at e; subst e; rfl
  | str x =>
    simp only [tru] at e
    split at e
    · cases e
      refine ⟨?_, rfl⟩
      rw [sizeLine_eq]
      omega
    · cases e
  | lst a h =>
    rename_i aa xs ds
    simp only [tru, Option.some.injEq] at e
    subst e
    exact .inl ⟨_, .of (fh _ _ a), by have := h.length; cases xs <;> cases ds <;> simp_all⟩
  | tup a h =>
    rename_i aa xs ds
    simp only [tru, Option.some.injEq] at e
    subst e
    exact .inr (.inl ⟨_, .of (fh _ _ a), by have := h.length; cases xs <;> cases ds <;> simp_all⟩)
  | _ => simp [tru] at e
theorem sb_val (h : SE X cl W e m) (he : ∀ whole, isTrue e X.env whole = (do let v ← whole; standAt e.pos; holding [v] (truthy v)) := by intro _; rfl) : SB X cl W e (mTru m) := by
  refine (pt_truth h he).of ?_
  rintro σ H Q ⟨B, F0, F, ρ, s, p⟩
  refine ⟨B, F0, F, ρ, s, ?_⟩
  unfold mTru at p
  cases q : m ρ with
  | bad => rw [q] at p; exact p
  | er e => rw [q] at p; exact p
  | ok d =>
    rw [q] at p
    intro v F' H' g h
    cases q2 : tru d with
    | none => rw [show (Res.ok d).bind (fun d => Res.ofO (tru d)) = Res.bad by show Res.ofO (tru d) = _; rw [q2]; rfl] at p; exact p.elim
    | some k =>
      rw [show (Res.ok d).bind (fun d => Res.ofO (tru d)) = Res.ok k by show Res.ofO (tru d) = _; rw [q2]; rfl] at p
      exact ⟨k, tru_rp g.fh h q2, p F' H' g⟩
/-- the second part behind a test -/
theorem stepT {K : PySem.W.Frag} {σ : L2.St} {B F0 F H : Hp} {ρ : En} {r : Res Bool} {g : Bool → Res D} {Q : VK} (s : SOk K cl B F0 F σ H ρ) (p : PostE K cl W σ F H (r.bind g) Q) :
    PostT K cl W σ F H r fun b H' => ∃ F', Gr F H F' H' ∧ PostE K cl W σ F' H' (g b) Q := by
  cases r with
  | bad => exact p
  | er e => exact p
  | ok d =>
    intro F' H' g1
    have p : PostE K cl W σ F H (g d) Q := p
    exact ⟨F', g1, p.gr g1⟩
theorem stepTT {K : PySem.W.Frag} {σ : L2.St} {B F0 F H : Hp} {ρ : En} {r : Res Bool} {g : Bool → Res Bool} {Q : Bool → Hp → Prop} (s : SOk K cl B F0 F σ H ρ) (p : PostT K cl W σ F H (r.bind g) Q) :
    PostT K cl W σ F H r fun b H' => ∃ F', Gr F H F' H' ∧ PostT K cl W σ F' H' (g b) Q := by
  cases r with
  | bad => exact p
  | er e => exact p
  | ok d =>
    intro F' H' g1
    have p : PostT K cl W σ F H (g d) Q := p
    exact ⟨F', g1, p.gr g1⟩
theorem PostT.imp {K : PySem.W.Frag} {σ : L2.St} {F H : Hp} {r : Res Bool} {Q Q' : Bool → Hp → Prop} (p : PostT K cl W σ F H r Q) (h : ∀ b H', Q b H' → Q' b H') : PostT K cl W σ F H r Q' := by
  cases r with
  | bad => exact p
  | er e => exact p
  | ok b => exact fun F' H' g => h _ _ (p F' H' g)
theorem PostE.imp {K : PySem.W.Frag} {σ : L2.St} {F H : Hp} {r : Res D} {Q Q' : VK} (p : PostE K cl W σ F H r Q) (h : ∀ b H', Q b H' → Q' b H') : PostE K cl W σ F H r Q' := by
  cases r with
  | bad => exact p
  | er e => exact p
  | ok b => exact fun v F' H' g r => h _ _ (p v F' H' g r)
theorem sb_not (h : SB X cl W a t) : SB X cl W (.UnaryOp .Not a pos) (mtNot t) := by
  refine (pt_not h).of ?_
  rintro σ H Q ⟨B, F0, F, ρ, s, p⟩
  refine ⟨B, F0, F, ρ, s, (stepTT s p).imp ?_⟩
  rintro b H' ⟨F', g, p⟩
  exact p F' H' (.refl g.fh)
abbrev SW (X : Cx) (cl : Cl) (W : WX) (e : Expr) (m : En → Res Bool) : Prop := PW X e (tT X.K cl W m)
variable {rest : List Expr}
theorem sw_and1 (h : SB X cl W a t) : SW X cl W (.BoolOp .And [a] pos) t := pw_and1 h
theorem sw_or1 (h : SB X cl W a t) : SW X cl W (.BoolOp .Or [a] pos) t := pw_or1 h
theorem sw_and (ha : SB X cl W a t) (hb : SW X cl W (.BoolOp .And (b :: rest) pos) u) : SW X cl W (.BoolOp .And (a :: b :: rest) pos) (mtAnd t u) := by
  refine (pw_and ha hb).of ?_
  rintro σ H Q ⟨B, F0, F, ρ, s, p⟩
  refine ⟨B, F0, F, ρ, s, (stepTT s p).imp ?_⟩
  rintro b H' ⟨F', g, p⟩
  cases b with
  | true => exact ⟨B, F0, F', ρ, s.grow g, p⟩
  | false => exact p F' H' (.refl g.fh)
theorem sw_or (ha : SB X cl W a t) (hb : SW X cl W (.BoolOp .Or (b :: rest) pos) u) : SW X cl W (.BoolOp .Or (a :: b :: rest) pos) (mtOr t u) := by
  refine (pw_or ha hb).of ?_
  rintro σ H Q ⟨B, F0, F, ρ, s, p⟩
  refine ⟨B, F0, F, ρ, s, (stepTT s p).imp ?_⟩
  rintro b H' ⟨F', g, p⟩
  cases b with
  | false => exact ⟨B, F0, F', ρ, s.grow g, p⟩
  | true => exact p F' H' (.refl g.fh)
theorem sw_b (h : SW X cl W e t) : SB X cl W e t := h.pt
theorem so_one {op} (h : SE X cl W a m) : SE X cl W (.BoolOp op [a] pos) m := pe_one h
theorem so_and (ha : SE X cl W a m) (hb : SE X cl W (.BoolOp .And (b :: rest) pos) n) : SE X cl W (.BoolOp .And (a :: b :: rest) pos) (mAnd m n) := by
  refine (pe_and ha hb).of ?_
  rintro σ H Q ⟨B, F0, F, ρ, s, p⟩
  refine ⟨B, F0, F, ρ, s, (step1 s p).imp ?_⟩
  rintro v H' ⟨d, F', e, g, r, p⟩
  cases q : isBl d with
  | none => rw [q] at p; exact p.elim
  | some b =>
    rw [q] at p
    refine ⟨b, isBl_rp r q, ?_⟩
    cases b with
    | true => exact ⟨B, F0, F', ρ, s.grow g, p⟩
    | false => exact p _ F' H' (.refl g.fh) (.bl _)
theorem so_or (ha : SE X cl W a m) (hb : SE X cl W (.BoolOp .Or (b :: rest) pos) n) : SE X cl W (.BoolOp .Or (a :: b :: rest) pos) (mOr m n) := by
  refine (pe_or ha hb).of ?_
  rintro σ H Q ⟨B, F0, F, ρ, s, p⟩
  refine ⟨B, F0, F, ρ, s, (step1 s p).imp ?_⟩
  rintro v H' ⟨d, F', e, g, r, p⟩
  cases q : isBl d with
  | none => rw [q] at p; exact p.elim
  | some b =>
    rw [q] at p
    refine ⟨b, isBl_rp r q, ?_⟩
    cases b with
    | false => exact ⟨B, F0, F', ρ, s.grow g, p⟩
    | true => exact p _ F' H' (.refl g.fh) (.bl _)
theorem so_not (ha : SE X cl W a m) : SE X cl W (.UnaryOp .Not a pos) (mNot m) := by
  refine (pe_not ha).of ?_
  rintro σ H Q ⟨B, F0, F, ρ, s, p⟩
  refine ⟨B, F0, F, ρ, s, (step1 s p).imp ?_⟩
  rintro v H' ⟨d, F', e, g, r, p⟩
  cases q : isBl d with
  | none => rw [q] at p; exact p.elim
  | some b =>
    rw [q] at p
    exact ⟨b, isBl_rp r q, p _ F' H' (.refl g.fh) (.bl _)⟩
theorem so_if {c : Expr} (hc : SB X cl W c t) (ha : SE X cl W a m) (hb : SE X cl W b n) : SE X cl W (.IfExp c a b pos) (mIf t m n) := by
  refine (pe_ifExp hc ha hb).of ?_
  rintro σ H Q ⟨B, F0, F, ρ, s, p⟩
  refine ⟨B, F0, F, ρ, s, (stepT s p).imp ?_⟩
  rintro b H' ⟨F', g, p⟩
  cases b with
  | true => exact ⟨B, F0, F', ρ, s.grow g, p⟩
  | false => exact ⟨B, F0, F', ρ, s.grow g, p⟩
end
/-! ## calls of built-ins -/
def OpA (K : PySem.W.Frag) (cl : Cl) (r : List V → Hp → VK → Prop) (f : List D → Option D) : Prop := ∀ F H vs ds Q, Same F H → RpA K cl F vs ds → PostO K cl F H (f ds) Q → r vs H Q
def mOpA (f : List D → Option D) (ms : En → Res (List D)) : En → Res D := fun ρ => (ms ρ).bind fun ds => .ofO (f ds)
section
variable {X : Cx} {cl : Cl} {W : WX} {e a b : Expr} {es : List Expr} {ma mb m n : En → Res D} {ms : En → Res (List D)} {p pos : Pos} {x : Str} {id T : String} {r : List V → Hp → VK → Prop} {f : List D → Option D}
theorem PostA.imp {K : PySem.W.Frag} {σ : L2.St} {F H : Hp} {r : Res (List D)} {Q Q' : List V → Hp → Prop} (p : PostA K cl W σ F H r Q) (h : ∀ b H', Q b H' → Q' b H') : PostA K cl W σ F H r Q' := by
  cases r with
  | bad => exact p
  | er e => exact p
  | ok b => exact fun v F' H' g r => h _ _ (p v F' H' g r)
theorem stepA {K : PySem.W.Frag} {σ : L2.St} {B F0 F H : Hp} {ρ : En} {r : Res (List D)} {g : List D → Res D} {Q : VK} (s : SOk K cl B F0 F σ H ρ) (p : PostE K cl W σ F H (r.bind g) Q) :
    PostA K cl W σ F H r fun vs H' => ∃ ds F', r = .ok ds ∧ Gr F H F' H' ∧ RpA K cl F' vs ds ∧ PostE K cl W σ F' H' (g ds) Q := by
  cases r with
  | bad => exact p
  | er e => exact p
  | ok ds =>
    intro vs F' H' g1 h1
    have p : PostE K cl W σ F H (g ds) Q := p
    exact ⟨ds, F', rfl, g1, h1, p.gr g1⟩
theorem opA_in (hr : OpA X.K cl r f) : ∀ σ H Q, tM X.K cl W (mOpA f ms) σ H Q → tCB r (tA X.K cl W ms) σ H Q := by
  rintro σ H Q ⟨B, F0, F, ρ, s, p⟩
  refine ⟨B, F0, F, ρ, s, (stepA s p).imp ?_⟩
  rintro vs H' ⟨ds, F', e, g, h, p⟩
  exact hr F' H' vs ds Q g.fh h (.of p)
theorem so_callB (hc : CallR X (.builtin id) r) (hr : OpA X.K cl r f) (hg : Gl X x) (hm : X.mg x = none) (hv : bootBuiltins x = some (.builtin id)) (ha : SA X cl W (e :: es) ms) (hn : x ≠ "__name__" := by decide) (hdb : (x == ("__debug__" : Str)) = false := by decide)
    (he : starEach (e :: es) X.env = (false, eval e X.env) :: starEach es X.env := by rfl) (hpl : (backTo pos (starEach es X.env)).any (·.1) = false := by rfl) : SE X cl W (.Call (.Name x p) (e :: es) [] pos) (mOpA f ms) :=
  (pe_callB hc hg hm hv ha hn hdb he hpl).of (opA_in hr)
theorem so_callTy (hc : CallR X (.type T) r) (hr : OpA X.K cl r f) (hg : Gl X x) (hm : X.mg x = none) (hv : bootBuiltins x = some (.type T)) (ha : SA X cl W (e :: es) ms) (hn : x ≠ "__name__" := by decide) (hdb : (x == ("__debug__" : Str)) = false := by decide)
    (he : starEach (e :: es) X.env = (false, eval e X.env) :: starEach es X.env := by rfl) (hpl : (backTo pos (starEach es X.env)).any (·.1) = false := by rfl) : SE X cl W (.Call (.Name x p) (e :: es) [] pos) (mOpA f ms) :=
  (pe_callTy hc hg hm hv ha hn hdb he hpl).of (opA_in hr)
theorem so_callF (hc : CallR X (.builtin id) r) (hr : OpA X.K cl r f) (hg : Gl X x) (hm : X.mg x = some (.builtin id)) (ha : SA X cl W (e :: es) ms) (hdb : (x == ("__debug__" : Str)) = false := by decide)
    (he : starEach (e :: es) X.env = (false, eval e X.env) :: starEach es X.env := by rfl) (hpl : (backTo pos (starEach es X.env)).any (·.1) = false := by rfl) : SE X cl W (.Call (.Name x p) (e :: es) [] pos) (mOpA f ms) :=
  (pe_callBfun hc hg hm ha hdb he hpl).of (opA_in hr)
end
def intsOf : List D → Option (List Int)
  | [] => some []
  | .int i :: ds => (intsOf ds).map (i :: ·)
  | _ :: _ => none
def blsOf : List D → Option (List Bool)
  | [] => some []
  | .bl b :: ds => (blsOf ds).map (b :: ·)
  | _ :: _ => none
def fLen : List D → Option D
  | [.lst ds] => some (.int ds.length)
  | [.tup ds] => some (.int ds.length)
  | [.scr ns] => some (.int ns.length)
  | [.str x] => if x.length < 16777216 then some (.int x.length) else none
  | _ => none
def fAbs : List D → Option D
  | [.int i] => some (.int (if i < 0 then -i else i))
  | _ => none
def fInt : List D → Option D
  | [.int i] => some (.int i)
  | [.bl b] => some (.int (if b then 1 else 0))
  | _ => none
def fGcd : List D → Option D
  | [.int a, .int b] => some (.int ((Nat.gcd a.natAbs b.natAbs : Nat) : Int))
  | _ => none
def fTuple : List D → Option D
  | [.lst ds] => some (.tup ds)
  | [.tup ds] => some (.tup ds)
  | _ => none
def fList : List D → Option D
  | [.lst ds] => some (.lst ds)
  | [.tup ds] => some (.lst ds)
  | _ => none
def fSum : List D → Option D
  | [.lst ds] => (intsOf ds).map fun ns => .int ns.sum
  | [.tup ds] => (intsOf ds).map fun ns => .int ns.sum
  | _ => none
def minI : List Int → Option Int
  | [] => none
  | [a] => some a
  | a :: r => (minI r).map fun m => if a ≤ m then a else m
def maxI : List Int → Option Int
  | [] => none
  | [a] => some a
  | a :: r => (maxI r).map fun m => if m ≤ a then a else m
def fMin : List D → Option D
  | [.lst ds] => (intsOf ds).bind fun ns => (minI ns).map .int
  | [.int i, .int j] => some (.int (if j < i then j else i))
  | _ => none
def fMax : List D → Option D
  | [.lst ds] => (intsOf ds).bind fun ns => (maxI ns).map .int
  | [.int i, .int j] => some (.int (if j > i then j else i))
  | _ => none
def fAny : List D → Option D
  | [.lst ds] => (blsOf ds).map fun bs => .bl (bs.any id)
  | _ => none
def fAll : List D → Option D
  | [.lst ds] => (blsOf ds).map fun bs => .bl (bs.all id)
  | _ => none
section
variable {K : PySem.W.Frag} {cl : Cl} {X : Cx}
theorem RpA.one {F : Hp} {vs : List V} {d : D} (h : RpA K cl F vs [d]) : ∃ v, vs = [v] ∧ Rp K cl F v d := by
  cases h with
  | cons a b => cases b; exact ⟨_, rfl, a⟩
theorem RpA.two {F : Hp} {vs : List V} {d e : D} (h : RpA K cl F vs [d, e]) : ∃ v u, vs = [v, u] ∧ Rp K cl F v d ∧ Rp K cl F u e := by
  cases h with
  | cons a b => obtain ⟨u, rfl, h⟩ := b.one; exact ⟨_, _, rfl, a, h⟩
theorem intsOf_rp {F : Hp} : ∀ {ds : List D} {vs : List V} {ns : List Int}, RpA K cl F vs ds → intsOf ds = some ns → vs = ns.map V.int
  | [], _, _, r, e => by cases r; cases e; rfl
  | d :: ds, _, _, r, e => by
    cases r with
    | cons a b =>
      cases a <;> simp only [intsOf] at e <;> try cases e
      obtain ⟨ns, h1, rfl⟩ := Option.map_eq_some_iff.mp e
      rw [intsOf_rp b h1]; rfl
theorem blsOf_rp {F : Hp} : ∀ {ds : List D} {vs : List V} {ns : List Bool}, RpA K cl F vs ds → blsOf ds = some ns → vs = ns.map V.bl
  | [], _, _, r, e => by cases r; cases e; rfl
  | d :: ds, _, _, r, e => by
    cases r with
    | cons a b =>
      cases a <;> simp only [blsOf] at e <;> try cases e
      obtain ⟨ns, h1, rfl⟩ := Option.map_eq_some_iff.mp e
      rw [blsOf_rp b h1]; rfl
theorem a_len : OpA K cl (fun xs H Q => ∃ x n, xs = [x] ∧ LenV K x H n ∧ Q (.int n) H) fLen := by
  intro F H vs ds Q m r p
  unfold fLen at p
  split at p
  · obtain ⟨v, rfl, h⟩ := r.one
    cases h with | lst a b => exact ⟨_, _, rfl, .inl ⟨_, .of (m _ _ a), rfl⟩, by rw [b.length]; exact p.int m (.int _)⟩
  · obtain ⟨v, rfl, h⟩ := r.one
    cases h with | tup a b => exact ⟨_, _, rfl, .inr ⟨_, .of (m _ _ a), rfl⟩, by rw [b.length]; exact p.int m (.int _)⟩
  · obtain ⟨v, rfl, h⟩ := r.one
    cases h with | scr a => exact ⟨_, _, rfl, .inl ⟨_, m.seq a, rfl⟩, by rw [List.length_map]; exact p.int m (.int _)⟩
  · obtain ⟨v, rfl, h⟩ := r.one
    cases h
    split at p
    · exact ⟨_, _, rfl, ⟨by rw [sizeLine_eq]; omega, rfl⟩, p.int m (.int _)⟩
    · exact p.elim
  · exact p.elim
theorem a_abs : OpA K cl (fun xs H Q => ∃ i, xs = [.int i] ∧ Q (.int (if i < 0 then -i else i)) H) fAbs := by
  intro F H vs ds Q m r p
  unfold fAbs at p
  split at p
  · obtain ⟨v, rfl, h⟩ := r.one
    cases h; exact ⟨_, rfl, p.int m (.int _)⟩
  · exact p.elim
theorem a_int : OpA K cl (fun xs H Q => (∃ i, xs = [.int i] ∧ Q (.int i) H) ∨ ∃ k, xs = [.bl k] ∧ Q (.int (if k then 1 else 0)) H) fInt := by
  intro F H vs ds Q m r p
  unfold fInt at p
  split at p
  · obtain ⟨v, rfl, h⟩ := r.one
    cases h; exact .inl ⟨_, rfl, p.int m (.int _)⟩
  · obtain ⟨v, rfl, h⟩ := r.one
    cases h; exact .inr ⟨_, rfl, p.int m (.int _)⟩
  · exact p.elim
theorem a_gcd : OpA K cl rGcd fGcd := by
  intro F H vs ds Q m r p
  unfold fGcd at p
  split at p
  · obtain ⟨v, u, rfl, h, h2⟩ := r.two
    cases h; cases h2; exact ⟨_, _, rfl, p.int m (.int _)⟩
  · exact p.elim
theorem a_tuple : OpA K cl (fun xs H Q => ∃ p ys, xs = [.ref p] ∧ ((SqL K H p ys ∧ ∀ l, H l = none → Q (.ref l) (upd H l (.tup ys))) ∨ (SqT K H p ys ∧ Q (.ref p) H))) fTuple := by
  intro F H vs ds Q m r p
  unfold fTuple at p
  split at p
  · obtain ⟨v, rfl, h⟩ := r.one
    cases h with | lst a b => exact ⟨_, _, rfl, .inl ⟨.of (m _ _ a), fun l hl => p.new m hl fun F' hF e => .tup e (b.mono hF)⟩⟩
  · obtain ⟨v, rfl, h⟩ := r.one
    cases h with | tup a b => exact ⟨_, _, rfl, .inr ⟨.of (m _ _ a), p.int m (.tup a b)⟩⟩
  · exact p.elim
/-- sum of a tuple of ints -/
def rSumT (K : PySem.W.Frag) : List V → Hp → VK → Prop := fun vs H Q => ∃ (a : Addr) (ns : List Int), vs = [V.ref a] ∧ SqT K H a (ns.map V.int) ∧ Q (.int ns.sum) H
theorem cr_sumT (hc : X.calm = true) : CallR X (.builtin "sum") (rSumT X.K) := by
  intro pins s σ H vs us Q I r h
  obtain ⟨a, ns, rfl, hs, q⟩ := h
  obtain ⟨its, rv, hl, _⟩ := I.tuple hs
  have hl : s.heap.IsTuple a its.toArray := hl
  rw [Vals.ref1 r]
  obtain ⟨xs, hx⟩ := rv.ints.allInts.items
  have hn : PySem.numsOf (PySem.intItems xs).toList = ns := by rw [← hx]; exact rv.ints.numsOf
  rw [PySem.nums_intItems] at hn
  rw [hx] at hl
  refine PySem.W.ktm_sumG (I.ok.hd hc) hl fun h' tk t' hk => ⟨.int _, H, I.kept hk, ⟨_, rfl⟩, ?_⟩
  rw [PySem.preSum_eq, List.take_of_length_le (by simp), hn]
  exact q
theorem cr_sumU (hc : X.calm = true) : CallR X (.builtin "sum") (fun vs H Q => rSum X.K vs H Q ∨ rSumT X.K vs H Q) := (cr_sum hc).or (cr_sumT hc)
theorem a_sum : OpA K cl (fun vs H Q => rSum K vs H Q ∨ rSumT K vs H Q) fSum := by
  intro F H vs ds Q m r p
  unfold fSum at p
  split at p
  · obtain ⟨v, rfl, h⟩ := r.one
    cases h with
    | lst a b =>
      rename_i ds aa xs
      cases q : intsOf ds with
      | none => rw [q] at p; exact p.elim
      | some ns =>
        rw [q] at p
        have := intsOf_rp b q; subst this
        exact .inl ⟨_, _, rfl, .of (m _ _ a), p.int m (.int _)⟩
  · obtain ⟨v, rfl, h⟩ := r.one
    cases h with
    | tup a b =>
      rename_i ds aa xs
      cases q : intsOf ds with
      | none => rw [q] at p; exact p.elim
      | some ns =>
        rw [q] at p
        have := intsOf_rp b q; subst this
        exact .inr ⟨_, _, rfl, .of (m _ _ a), p.int m (.int _)⟩
  · exact p.elim
theorem minI_least : ∀ {ns : List Int} {m : Int}, m ∈ ns → (∀ y, y ∈ ns → m ≤ y) → minI ns = some m
  | [a], m, h, _ => by simp at h; subst h; rfl
  | a :: b :: r, m, h, l => by
    have e : ∃ k, minI (b :: r) = some k ∧ k ∈ (b :: r) := by
      have : ∀ (l : List Int), l ≠ [] → ∃ k, minI l = some k ∧ k ∈ l := by
        intro l
        induction l with
        | nil => intro h; exact absurd rfl h
        | cons x t ih =>
          intro _
          cases t with
          | nil => exact ⟨x, rfl, by simp⟩
          | cons y t =>
            obtain ⟨k, h1, h2⟩ := ih (by simp)
            refine ⟨if x ≤ k then x else k, by show (minI (y :: t)).map _ = _; rw [h1]; rfl, ?_⟩
            split
            · simp
            · exact List.mem_cons_of_mem _ h2
      exact this _ (by simp)
    obtain ⟨k, h1, h2⟩ := e
    have hk : ∀ y ∈ (b :: r), k ≤ y := by
      have key : ∀ (l : List Int) (k : Int), minI l = some k → ∀ y ∈ l, k ≤ y := by
        intro l
        induction l with
        | nil => intro k h; cases h
        | cons x t ih =>
          intro k h y hy
          cases t with
          | nil => simp [minI] at h; simp at hy; omega
          | cons z t =>
            simp only [minI] at h
            cases q : minI (z :: t) with
            | none =>
              rw [q] at h; cases h
            | some j =>
              rw [q] at h
              have e : (if x ≤ j then x else j) = k := by simpa using h
              rcases List.mem_cons.mp hy with rfl | hy
              · split at e <;> omega
              · have := ih j q y hy
                split at e <;> omega
      exact key _ _ h1
    show (minI (b :: r)).map _ = _
    rw [h1]
    have h3 := l k (List.mem_cons_of_mem _ h2)
    have h4 := l a (by simp)
    simp only [Option.map_some, Option.some.injEq]
    rcases List.mem_cons.mp h with e | e
    · subst e; rw [if_pos h3]
    · have h5 := hk m e
      split <;> omega
theorem maxI_most : ∀ {ns : List Int} {m : Int}, m ∈ ns → (∀ y, y ∈ ns → y ≤ m) → maxI ns = some m
  | [a], m, h, _ => by simp at h; subst h; rfl
  | a :: b :: r, m, h, l => by
    have e : ∃ k, maxI (b :: r) = some k ∧ k ∈ (b :: r) := by
      have : ∀ (l : List Int), l ≠ [] → ∃ k, maxI l = some k ∧ k ∈ l := by
        intro l
        induction l with
        | nil => intro h; exact absurd rfl h
        | cons x t ih =>
          intro _
          cases t with
          | nil => exact ⟨x, rfl, by simp⟩
          | cons y t =>
            obtain ⟨k, h1, h2⟩ := ih (by simp)
            refine ⟨if k ≤ x then x else k, by show (maxI (y :: t)).map _ = _; rw [h1]; rfl, ?_⟩
            split
            · simp
            · exact List.mem_cons_of_mem _ h2
      exact this _ (by simp)
    obtain ⟨k, h1, h2⟩ := e
    have hk : ∀ y ∈ (b :: r), y ≤ k := by
      have key : ∀ (l : List Int) (k : Int), maxI l = some k → ∀ y ∈ l, y ≤ k := by
        intro l
        induction l with
        | nil => intro k h; cases h
        | cons x t ih =>
          intro k h y hy
          cases t with
          | nil => simp [maxI] at h; simp at hy; omega
          | cons z t =>
            simp only [maxI] at h
            cases q : maxI (z :: t) with
            | none =>
              rw [q] at h; cases h
            | some j =>
              rw [q] at h
              have e : (if j ≤ x then x else j) = k := by simpa using h
              rcases List.mem_cons.mp hy with rfl | hy
              · split at e <;> omega
              · have := ih j q y hy
                split at e <;> omega
      exact key _ _ h1
    show (maxI (b :: r)).map _ = _
    rw [h1]
    have h3 := l k (List.mem_cons_of_mem _ h2)
    have h4 := l a (by simp)
    simp only [Option.map_some, Option.some.injEq]
    rcases List.mem_cons.mp h with e | e
    · subst e; rw [if_pos h3]
    · have h5 := hk m e
      split <;> omega
theorem minI_some {ns : List Int} {k : Int} (h : minI ns = some k) : 0 < ns.length := by
  cases ns with
  | nil => cases h
  | cons => simp
theorem maxI_some {ns : List Int} {k : Int} (h : maxI ns = some k) : 0 < ns.length := by
  cases ns with
  | nil => cases h
  | cons => simp
def rMinU (K : PySem.W.Frag) : List V → Hp → VK → Prop := fun xs H Q => rMin K xs H Q ∨ ∃ i j, xs = [.int i, .int j] ∧ Q (.int (if j < i then j else i)) H
def rMaxU (K : PySem.W.Frag) : List V → Hp → VK → Prop := fun xs H Q => rMax K xs H Q ∨ ∃ i j, xs = [.int i, .int j] ∧ Q (.int (if j > i then j else i)) H
theorem CallR.or {f : Value} {r r' : List V → Hp → VK → Prop} (h : CallR X f r) (h' : CallR X f r') : CallR X f fun xs H Q => r xs H Q ∨ r' xs H Q := by
  intro pins s σ H vs us Q I rr q
  rcases q with q | q
  · exact h pins s σ H vs us Q I rr q
  · exact h' pins s σ H vs us Q I rr q
theorem cr_minU (hc : X.calm = true) : CallR X (.builtin "min") (rMinU X.K) := CallR.or (cr_min hc) (call_min2 hc)
theorem cr_maxU (hc : X.calm = true) : CallR X (.builtin "max") (rMaxU X.K) := CallR.or (cr_max hc) (call_max2 hc)
theorem a_min : OpA K cl (rMinU K) fMin := by
  intro F H vs ds Q m r p
  unfold fMin at p
  split at p
  · obtain ⟨v, rfl, h⟩ := r.one
    cases h with
    | lst a b =>
      rename_i ds aa xs
      cases q : intsOf ds with
      | none => rw [q] at p; exact p.elim
      | some ns =>
        rw [q] at p
        have := intsOf_rp b q; subst this
        cases q2 : minI ns with
        | none => rw [show (some ns : Option (List Int)).bind (fun ns => (minI ns).map D.int) = none by show (minI ns).map _ = _; rw [q2]; rfl] at p; exact p.elim
        | some k =>
          rw [show (some ns : Option (List Int)).bind (fun ns => (minI ns).map D.int) = some (.int k) by show (minI ns).map _ = _; rw [q2]; rfl] at p
          refine .inl ⟨_, _, rfl, .of (m _ _ a), minI_some q2, fun j h1 h2 => ?_⟩
          have := minI_least h1 h2
          rw [q2] at this; cases this
          exact p.int m (.int _)
  · obtain ⟨v, u, rfl, h, h2⟩ := r.two
    cases h; cases h2
    exact .inr ⟨_, _, rfl, p.int m (.int _)⟩
  · exact p.elim
theorem a_max : OpA K cl (rMaxU K) fMax := by
  intro F H vs ds Q m r p
  unfold fMax at p
  split at p
  · obtain ⟨v, rfl, h⟩ := r.one
    cases h with
    | lst a b =>
      rename_i ds aa xs
      cases q : intsOf ds with
      | none => rw [q] at p; exact p.elim
      | some ns =>
        rw [q] at p
        have := intsOf_rp b q; subst this
        cases q2 : maxI ns with
        | none => rw [show (some ns : Option (List Int)).bind (fun ns => (maxI ns).map D.int) = none by show (maxI ns).map _ = _; rw [q2]; rfl] at p; exact p.elim
        | some k =>
          rw [show (some ns : Option (List Int)).bind (fun ns => (maxI ns).map D.int) = some (.int k) by show (maxI ns).map _ = _; rw [q2]; rfl] at p
          refine .inl ⟨_, _, rfl, .of (m _ _ a), maxI_some q2, fun j h1 h2 => ?_⟩
          have := maxI_most h1 h2
          rw [q2] at this; cases this
          exact p.int m (.int _)
  · obtain ⟨v, u, rfl, h, h2⟩ := r.two
    cases h; cases h2
    exact .inr ⟨_, _, rfl, p.int m (.int _)⟩
  · exact p.elim
theorem a_any : OpA K cl (rAny K) fAny := by
  intro F H vs ds Q m r p
  unfold fAny at p
  split at p
  · obtain ⟨v, rfl, h⟩ := r.one
    cases h with
    | lst a b =>
      rename_i ds aa xs
      cases q : blsOf ds with
      | none => rw [q] at p; exact p.elim
      | some ns =>
        rw [q] at p
        have := blsOf_rp b q; subst this
        exact ⟨_, _, rfl, .of (m _ _ a), p.int m (.bl _)⟩
  · exact p.elim
theorem a_all : OpA K cl (rAll K) fAll := by
  intro F H vs ds Q m r p
  unfold fAll at p
  split at p
  · obtain ⟨v, rfl, h⟩ := r.one
    cases h with
    | lst a b =>
      rename_i ds aa xs
      cases q : blsOf ds with
      | none => rw [q] at p; exact p.elim
      | some ns =>
        rw [q] at p
        have := blsOf_rp b q; subst this
        exact ⟨_, _, rfl, .of (m _ _ a), p.int m (.bl _)⟩
  · exact p.elim
end
end FL
namespace FL
open PySem L2
/-! ## calls of the text's own defs -/
def spOf (K : PySem.W.Frag) (cl : Cl) (n : Nat) (φ : List D → Res D) : Sp := fun vs H Q E => ∃ F ds, Same F H ∧ RpA K cl F vs ds ∧ vs.length = n ∧
  match φ ds with
  | .ok d => ∀ v F' H', Gr F H F' H' → Rp K cl F' v d → Q v H'
  | .er e => ∀ c dd F' H', Gr F H F' H' → XRp K cl F' c dd e → E c dd H'
  | .bad => False
def mCall (n : Nat) (φ : List D → Res D) (ms : En → Res (List D)) : En → Res D := fun ρ => (ms ρ).bind fun ds => if ds.length = n then φ ds else .bad
section
variable {X : Cx} {cl : Cl} {W : WX} {e a b : Expr} {es : List Expr} {ms : En → Res (List D)} {p pos : Pos} {x : Str}
theorem call_in {n : Nat} {φ : List D → Res D} : ∀ σ H Q, tM X.K cl W (mCall n φ ms) σ H Q → tCallS (spOf X.K cl n φ) (WE W) (tA X.K cl W ms) σ H Q := by
  rintro σ H Q ⟨B, F0, F, ρ, s, p⟩
  refine ⟨B, F0, F, ρ, s, (stepA s p).imp ?_⟩
  rintro vs H' ⟨ds, F', e, g, h, p⟩
  by_cases hl : ds.length = n
  · rw [if_pos hl] at p
    refine ⟨F', ds, g.fh, h, by rw [h.length, hl], ?_⟩
    cases q : φ ds with
    | bad => rw [q] at p; exact p
    | er e => rw [q] at p; exact p
    | ok d => rw [q] at p; exact p
  · rw [if_neg hl] at p; exact p.elim
theorem so_call {k : Nat} {f : Addr} {fd : FuncData} {ps : List Str} {n : Nat} {φ : List D → Res D} (F : FnOk X.prog X.w X.K X.mg X.base (L2.CX X.prog X.w) k f fd ps (spOf X.K cl n φ)) (hr : Room k X.A) (hg : Gl X x) (hm : X.mg x = some (.ref f))
    (hk : PySem.W.keepIn X.K (.ref f) = true) (hb : Binds X.K fd ps []) (tk : Takes X W) (ha : SA X cl W (e :: es) ms) (hdb : (x == ("__debug__" : Str)) = false := by decide)
    (he : starEach (e :: es) X.env = (false, eval e X.env) :: starEach es X.env := by rfl) (hpl : (backTo pos (starEach es X.env)).any (·.1) = false := by rfl) :
    SE X cl W (.Call (.Name x p) (e :: es) [] pos) (mCall n φ ms) :=
  (pe_callS F hr hg hm hk hb (passAt tk) ha hdb he hpl).of call_in
/-- a call without arguments -/
theorem so_call0 {k : Nat} {f : Addr} {fd : FuncData} {ps : List Str} {φ : List D → Res D} (F : FnOk X.prog X.w X.K X.mg X.base (L2.CX X.prog X.w) k f fd ps (spOf X.K cl 0 φ)) (hr : Room k X.A) (hg : Gl X x) (hm : X.mg x = some (.ref f))
    (hk : PySem.W.keepIn X.K (.ref f) = true) (hb : Binds X.K fd ps []) (tk : Takes X W) (hdb : (x == ("__debug__" : Str)) = false := by decide) :
    SE X cl W (.Call (.Name x p) [] [] pos) (mCall 0 φ mNil) := by
  refine ⟨fun pins s σ H Q I h => ?_⟩
  refine wpAny_Call_Name_kw (ld_glob I hg hm ?_ hdb)
  obtain ⟨B, F0, F1, ρ, so, p⟩ := h
  have h2 : tCallS (spOf X.K cl 0 φ) (WE W) (tA X.K cl W mNil) σ H Q := call_in σ H Q ⟨B, F0, F1, ρ, so, p⟩
  obtain ⟨B, F0, F1, ρ, so, p⟩ := h2
  exact PySem.W.callWith_K0 I.kIn hk (run_fnS (us := []) F hr hb (passAt tk σ) I .nil (p [] F1 H (.refl so.fh) .nil))
end
/-! ## slices, fresh copies, isinstance -/
def cutD (xs : List D) (lo hi : Option Int) : List D := (xs.drop (HT.sIx xs.length 0 lo)).take (HT.sIx xs.length xs.length hi - HT.sIx xs.length 0 lo)
def fSl : D → Option Int → Option Int → Option D
  | .lst ds, lo, hi => some (.lst (cutD ds lo hi))
  | .tup ds, lo, hi => some (.tup (cutD ds lo hi))
  | _, _, _ => none
def intOf : D → Option Int
  | .int i => some i
  | _ => none
def mPart (m : En → Res D) : En → Res (Option Int) := fun ρ => (m ρ).bind fun d => match intOf d with
  | some i => .ok (some i)
  | none => .bad
def mNoPart : En → Res (Option Int) := fun _ => .ok none
def mSl (m : En → Res D) (lo hi : En → Res (Option Int)) : En → Res D := fun ρ => (m ρ).bind fun d => (lo ρ).bind fun l => (hi ρ).bind fun h => .ofO (fSl d l h)
def PostP (K : PySem.W.Frag) (cl : Cl) (W : WX) (σ : L2.St) (F H : Hp) (r : Res (Option Int)) (Q : Option Int → Hp → Prop) : Prop := match r with
  | .ok o => ∀ F' H', Gr F H F' H' → Q o H'
  | .er e => ∀ c dd F' H', Gr F H F' H' → XRp K cl F' c dd e → W c dd σ H'
  | .bad => False
def tP (K : PySem.W.Frag) (cl : Cl) (W : WX) (m : En → Res (Option Int)) : TO := fun σ H Q => ∃ B F0 F ρ, SOk K cl B F0 F σ H ρ ∧ PostP K cl W σ F H (m ρ) Q
def isiTy (u : String) : D → Option Bool
  | .non => kitB "NoneType" u
  | .bl _ => kitB "bool" u
  | .int _ => kitB "int" u
  | .str _ => kitB "str" u
  | .lst _ => kitB "list" u
  | .tup _ => kitB "tuple" u
  | .dik _ _ => kitB "dict" u
  | .dit _ _ => kitB "dict" u
  | _ => none
def mIsiTy (u : String) (m : En → Res D) : En → Res D := fun ρ => (m ρ).bind fun d => match isiTy u d with
  | some b => .ok (.bl b)
  | none => .bad
section
variable {X : Cx} {cl : Cl} {W : WX} {e a b : Expr} {es : List Expr} {m : En → Res D} {ml mh : En → Res (Option Int)} {ms : En → Res (List D)} {p p2 pos : Pos} {x : Str}
abbrev SP' (X : Cx) (cl : Cl) (W : WX) (e : Option Expr) (m : En → Res (Option Int)) : Prop := PO X e (tP X.K cl W m)
theorem PO.of {e : Option Expr} {t u : TO} (h : PO X e t) (i : ∀ σ H Q, u σ H Q → t σ H Q) : PO X e u := ⟨fun p s σ H Q I q => h.run p s σ H Q I (i σ H Q q)⟩
theorem sp_none : SP' X cl W none mNoPart := PO.of po_none fun σ H Q ⟨B, F0, F, ρ, s, p⟩ => p F H (.refl s.fh)
theorem sp_some (h : SE X cl W e m) : SP' X cl W (some e) (mPart m) := PO.of (po_some h) (by
  rintro σ H Q ⟨B, F0, F, ρ, s, p⟩
  refine ⟨B, F0, F, ρ, s, ?_⟩
  unfold mPart at p
  cases q : m ρ with
  | bad => rw [q] at p; exact p
  | er e => rw [q] at p; exact p
  | ok d =>
    rw [q] at p
    intro v F' H' g r
    cases d with
    | int i => cases r; exact ⟨i, rfl, p F' H' g⟩
    | _ => exact p.elim)
theorem cutD_rp {K : PySem.W.Frag} {F : Hp} {vs : List V} {ds : List D} (h : RpA K cl F vs ds) (lo hi : Option Int) : RpA K cl F (cutV vs lo hi) (cutD ds lo hi) := by
  unfold cutV cutD
  rw [h.length]
  exact (h.drop _).take _
def rSlU (K : PySem.W.Frag) : V → Option Int → Option Int → Hp → VK → Prop := fun x lo hi H Q => rSlL K x lo hi H Q ∨ rSlA K x lo hi H Q
theorem sl_U : SlR X (rSlU X.K) := sl_list.or sl_tupA
theorem sl_ok {K : PySem.W.Frag} {F H : Hp} {x : V} {d : D} {lo hi : Option Int} {Q : VK} (m : Same F H) (r : Rp K cl F x d) (p : PostO K cl F H (fSl d lo hi) Q) : rSlU K x lo hi H Q := by
  cases r <;> simp only [fSl] at p <;> try exact p.elim
  · rename_i a xs ds ha ra
    exact .inl ⟨_, _, rfl, .of (m _ _ ha), fun q hq => p.new m hq fun F' hF e => .lst e (cutD_rp (ra.mono hF) _ _)⟩
  · rename_i a xs ds ha ra
    refine .inr ⟨_, _, rfl, .of (m _ _ ha), fun hw => ?_, fun _ q hq => p.new m hq fun F' hF e => .tup e (cutD_rp (ra.mono hF) _ _)⟩
    have e : cutD ds lo hi = ds := by
      unfold cutD
      rw [← ra.length, hw.1, hw.2]
      simp [ra.length]
    rw [e] at p
    exact p.int m (.tup ha ra)
theorem PostP.imp {K : PySem.W.Frag} {σ : L2.St} {F H : Hp} {r : Res (Option Int)} {Q Q' : Option Int → Hp → Prop} (p : PostP K cl W σ F H r Q) (h : ∀ b H', Q b H' → Q' b H') : PostP K cl W σ F H r Q' := by
  cases r with
  | bad => exact p
  | er e => exact p
  | ok b => exact fun F' H' g => h _ _ (p F' H' g)
theorem stepP {K : PySem.W.Frag} {σ : L2.St} {B F0 F H : Hp} {ρ : En} {r : Res (Option Int)} {g : Option Int → Res D} {Q : VK} (s : SOk K cl B F0 F σ H ρ) (p : PostE K cl W σ F H (r.bind g) Q) :
    PostP K cl W σ F H r fun o H' => ∃ F', Gr F H F' H' ∧ PostE K cl W σ F' H' (g o) Q := by
  cases r with
  | bad => exact p
  | er e => exact p
  | ok d =>
    intro F' H' g1
    have p : PostE K cl W σ F H (g d) Q := p
    exact ⟨F', g1, p.gr g1⟩
theorem so_sl {lo hi : Option Expr} (he : SE X cl W e m) (hl : SP' X cl W lo ml) (hu : SP' X cl W hi mh) : SE X cl W (.Subscript e (.Slice lo hi none p2) pos) (mSl m ml mh) := by
  refine (pe_slice sl_U he hl hu).of ?_
  rintro σ H Q ⟨B, F0, F, ρ, s, p⟩
  refine ⟨B, F0, F, ρ, s, (step1 s p).imp ?_⟩
  rintro v H1 ⟨d, F1, e, g1, r, p⟩
  refine ⟨B, F0, F1, ρ, s.grow g1, (stepP (s.grow g1) p).imp ?_⟩
  rintro l H2 ⟨F2, g2, p⟩
  have s2 := (s.grow g1).grow g2
  refine ⟨B, F0, F2, ρ, s2, (stepP s2 p).imp ?_⟩
  rintro u H3 ⟨F3, g3, p⟩
  exact sl_ok g3.fh ((r.mono g2.f).mono g3.f) (.of p)
def fRev : D → Option D
  | .lst ds => some (.lst ds.reverse)
  | _ => none
theorem RpA.rev {K : PySem.W.Frag} {F : Hp} : ∀ {vs : List V} {ds : List D}, RpA K cl F vs ds → RpA K cl F vs.reverse ds.reverse
  | _, _, .nil => .nil
  | _, _, .cons a t => by rw [List.reverse_cons, List.reverse_cons]; exact (RpA.rev t).app (.cons a .nil)
theorem so_rev {k : Nat} {p1 p2 p3 : Pos} (he : SE X cl W e m) : SE X cl W (.Subscript e (.Slice none none (some (.UnaryOp .USub (.Constant (.int 1) k p1) p2)) p3) pos) (mOp1 fRev m) := by
  refine (pe_revL he).of ?_
  rintro σ H Q ⟨B, F0, F, ρ, s, p⟩
  refine ⟨B, F0, F, ρ, s, (step1 s p).imp ?_⟩
  rintro v H1 ⟨d, F1, e, g1, r, p⟩
  cases r with
  | lst a b => exact ⟨_, _, rfl, .of (g1.fh _ _ a), fun q hq => (PostO.of p).new g1.fh hq fun F' hF e => .lst e (RpA.rev (b.mono hF))⟩
  | _ => exact p.elim
/-- list(x): fresh -/
def seqOf : D → Option (List D)
  | .lst ds => some ds
  | .tup ds => some ds
  | _ => none
def mList (m : En → Res D) : En → Res Cn := fun ρ => (m ρ).bind fun d => match seqOf d with
  | some ds => .ok (.l ds)
  | none => .bad
/-- a fresh answer of one value -/
theorem stepC {K : PySem.W.Frag} {σ : L2.St} {B F0 F H : Hp} {ρ : En} {r : Res D} {g : D → Res Cn} {Q : VK} (s : SOk K cl B F0 F σ H ρ) (p : PostC K cl W σ F H (r.bind g) Q) :
    PostE K cl W σ F H r fun v H' => ∃ d F', r = .ok d ∧ Gr F H F' H' ∧ Rp K cl F' v d ∧ PostC K cl W σ F' H' (g d) Q := by
  cases r with
  | bad => exact p
  | er e => exact p
  | ok d =>
    intro v F' H' g1 h1
    have p : PostC K cl W σ F H (g d) Q := p
    refine ⟨d, F', rfl, g1, h1, ?_⟩
    cases q : g d with
    | bad => rw [q] at p; exact p
    | er e => rw [q] at p; exact fun c dd F2 H2 g2 h2 => p c dd F2 H2 (g1.trans g2) h2
    | ok d2 => rw [q] at p; exact fun a o F2 H2 g2 hn => p a o F2 H2 (g1.trans g2) (Same.free g1.h hn)
theorem PostC.put {K : PySem.W.Frag} {σ : L2.St} {F H : Hp} {c : Cn} {Q : VK} {a : Addr} {o : HO} (p : PostC K cl W σ F H (.ok c) Q) (m : Same F H) (hn : H a = none) (h : CnR K cl F c o) : Q (.ref a) (upd H a o) :=
  p a o F _ (.own m hn) hn (by cases z : F a with | none => rfl | some u => rw [m _ _ z] at hn; cases hn) upd_same h
theorem sc_list {e : Expr} (hg : Gl X "list") (hm : X.mg "list" = none) (ha : SE X cl W e m)
    (hs : starEach (e :: []) X.env = (false, eval e X.env) :: starEach [] X.env := by rfl) (he : starEach (e :: []) X.env = (false, eval e X.env) :: starEach [] X.env := by rfl) (hpl : (backTo pos (starEach [] X.env)).any (·.1) = false := by rfl) :
    SC X cl W (.Call (.Name "list" p) [e] [] pos) (mList m) := by
  refine (pe_callTy call_list_of hg hm (by decide +kernel) (pa_cons ha pa_nil hs) (by decide) (by decide) he hpl).of ?_
  rintro σ H Q ⟨B, F0, F, ρ, s, p⟩
  refine ⟨B, F0, F, ρ, s, (stepC s p).imp ?_⟩
  rintro v H1 ⟨d, F1, e, g1, r, p⟩
  show ∃ q ys, [v] = [V.ref q] ∧ _
  cases r with
  | lst a b => exact ⟨_, _, rfl, .inl (.of (g1.fh _ _ a)), fun l hl => p.put g1.fh hl ⟨_, rfl, b⟩⟩
  | tup a b => exact ⟨_, _, rfl, .inr (.of (g1.fh _ _ a)), fun l hl => p.put g1.fh hl ⟨_, rfl, b⟩⟩
  | _ => exact p.elim
/-- isinstance(x, T), T built-in -/
theorem isiTy_rp {K : PySem.W.Frag} {F H : Hp} {v : V} {d : D} {u : String} {b : Bool} (m : Same F H) (r : Rp K cl F v d) (e : isiTy u d = some b) : ∃ t, TyX K H v (.type t) ∧ kitB t u = some b := by
  cases r with
  | non => exact ⟨_, .base .non, e⟩
  | bl => exact ⟨_, .base (.bl _), e⟩
  | int => exact ⟨_, .base (.int _), e⟩
  | str => exact ⟨_, .base (.str _), e⟩
  | lst a _ => exact ⟨_, .base (.lst (m _ _ a)), e⟩
  | tup a _ => exact ⟨_, .base (.tup (m _ _ a)), e⟩
  | dik a _ _ => exact ⟨_, .base (.dK (m _ _ a)), e⟩
  | dit a _ _ => exact ⟨_, .base (.dT (m _ _ a)), e⟩
  | _ => cases e
theorem so_isiTy {u : String} {x : Str} {px : Pos} (hg : Gl X "isinstance") (hm : X.mg "isinstance" = none) (hx : PE X (.Name x px) (L2.tC (.ty u))) (ha : SE X cl W e m)
    (hs1 : starEach (e :: [.Name x px]) X.env = (false, eval e X.env) :: starEach [.Name x px] X.env := by rfl) (hs2 : starEach [.Name x px] X.env = (false, eval (.Name x px) X.env) :: starEach [] X.env := by rfl)
    (hpl : (backTo pos (starEach [.Name x px] X.env)).any (·.1) = false := by rfl) :
    SE X cl W (.Call (.Name "isinstance" p) [e, .Name x px] [] pos) (mIsiTy u m) := by
  refine (pe_callB call_isi hg hm (by decide +kernel) (pa_cons ha (pa_cons hx pa_nil hs2) hs1) (by decide) (by decide) hs1 hpl).of ?_
  rintro σ H Q ⟨B, F0, F, ρ, s, p⟩
  refine ⟨B, F0, F, ρ, s, (step1 s p).imp ?_⟩
  rintro v H1 ⟨d, F1, e, g1, r, p⟩
  cases q : isiTy u d with
  | none => rw [q] at p; exact p.elim
  | some b =>
    rw [q] at p
    obtain ⟨t, h1, h2⟩ := isiTy_rp g1.fh r q
    exact ⟨v, .ty u, _, _, b, rfl, .ty u, h1, kit_ty h2, p _ F1 H1 (.refl g1.fh) (.bl _)⟩
end
end FL
namespace FL
open PySem L2
/-! ## what is walked -/
structure ItOk (K : PySem.W.Frag) (cl : Cl) (J : It) (F : Hp) (ds : List D) : Prop where
  go : ∀ i H, Same F H → i < ds.length → J.go i H
  stop : ∀ i H, Same F H → i = ds.length → J.stop i H
  yld : ∀ i H x H' d F1, Same F F1 → Same F1 H → J.yld i H x H' → ds[i]? = some d → ∃ F2, Gr F1 H F2 H' ∧ Rp K cl F2 x d
def PostI (K : PySem.W.Frag) (cl : Cl) (W : WX) (σ : L2.St) (F H : Hp) (r : Res (List D)) (R : It → Hp → Prop) : Prop := match r with
  | .ok ds => ∀ J F' H', Gr F H F' H' → ItOk K cl J F' ds → R J H'
  | .er e => ∀ c dd F' H', Gr F H F' H' → XRp K cl F' c dd e → W c dd σ H'
  | .bad => False
def tI (K : PySem.W.Frag) (cl : Cl) (W : WX) (m : En → Res (List D)) : TI := fun σ H R => ∃ B F0 F ρ, SOk K cl B F0 F σ H ρ ∧ PostI K cl W σ F H (m ρ) R
abbrev SI (X : Cx) (cl : Cl) (W : WX) (tg e : Expr) (m : En → Res (List D)) : Prop := PI X tg e (tI X.K cl W m)
def elems : D → Option (List D)
  | .lst ds => some ds
  | .tup ds => some ds
  | .scr ns => some (ns.map .int)
  | _ => none
def mSeq (m : En → Res D) : En → Res (List D) := fun ρ => (m ρ).bind fun d => .ofO (elems d)
def rngD (lo : Int) (n : Nat) : List D := (List.range n).map fun (k : Nat) => .int (lo + (k : Int))
theorem p62 : (2 : Int) ^ 62 = 4611686018427387904 := by decide
def rng1Of : List D → Option (List D)
  | [.int j] => if -4611686018427387904 ≤ j ∧ j < 4611686018427387904 then some (rngD 0 j.toNat) else none
  | _ => none
def rng2Of : List D → Option (List D)
  | [.int i, .int j] => if -4611686018427387904 ≤ i ∧ i < 4611686018427387904 ∧ -4611686018427387904 ≤ j ∧ j < 4611686018427387904 then some (rngD i (j - i).toNat) else none
  | _ => none
def mRng1 (ms : En → Res (List D)) : En → Res (List D) := fun ρ => (ms ρ).bind fun ds => .ofO (rng1Of ds)
def mRng2 (ms : En → Res (List D)) : En → Res (List D) := fun ρ => (ms ρ).bind fun ds => .ofO (rng2Of ds)
section
variable {X : Cx} {cl : Cl} {W : WX} {tg e a b : Expr} {es : List Expr} {m : En → Res D} {ms : En → Res (List D)} {p p2 pos : Pos} {x : Str}
theorem _root_.L2.PI.of {tg e : Expr} {t u : TI} (h : PI X tg e t) (i : ∀ σ H R, u σ H R → t σ H R) : PI X tg e u := ⟨fun p s σ H R I q => h.run p s σ H R I (i σ H R q)⟩
theorem it_list {K : PySem.W.Frag} {F : Hp} {a : Addr} {xs : List V} {ds : List D} (h : SqL K F a xs) (r : RpA K cl F xs ds) : ItOk K cl (Itl K a) F ds where
  go := fun i H m hi => ⟨xs, xs[i]'(by rw [r.length]; exact hi), m.seq h, by simp [r.length, hi]⟩
  stop := fun i H m hi => ⟨xs, m.seq h, by rw [r.length, hi]; exact Nat.le_refl _⟩
  yld := fun i H x H' d F1 m1 m2 y e => by
    obtain ⟨rfl, y⟩ := y
    obtain ⟨d', h1, h2⟩ := r.get (y xs ((m1.trans m2).seq h))
    rw [e] at h1; cases h1
    exact ⟨F1, .refl m2, h2.mono m1⟩
theorem Same.seqT {K : PySem.W.Frag} {H H' : Hp} {a : Addr} {xs : List V} (e : Same H H') (h : SqT K H a xs) : SqT K H' a xs := by
  rcases h with (h | ⟨o, h⟩) | h
  · exact .inl (.inl (e _ _ h))
  · exact .inl (.inr ⟨o, e _ _ h⟩)
  · exact .inr h
theorem it_tup {K : PySem.W.Frag} {F : Hp} {a : Addr} {xs : List V} {ds : List D} (h : SqT K F a xs) (r : RpA K cl F xs ds) : ItOk K cl (Itt K a) F ds where
  go := fun i H m hi => ⟨xs, xs[i]'(by rw [r.length]; exact hi), Same.seqT m h, by simp [r.length, hi]⟩
  stop := fun i H m hi => ⟨xs, Same.seqT m h, by rw [r.length, hi]; exact Nat.le_refl _⟩
  yld := fun i H x H' d F1 m1 m2 y e => by
    obtain ⟨rfl, y⟩ := y
    obtain ⟨d', h1, h2⟩ := r.get (y xs (Same.seqT (m1.trans m2) h))
    rw [e] at h1; cases h1
    exact ⟨F1, .refl m2, h2.mono m1⟩
theorem it_rng {K : PySem.W.Frag} {F : Hp} {lo : Int} {n : Nat} : ItOk K cl (Itr lo n) F (rngD lo n) where
  go := fun i H m hi => by have : i < n := by simpa [rngD] using hi
                           exact this
  stop := fun i H m hi => by have : i = n := by simpa [rngD] using hi
                             show n ≤ i
                             omega
  yld := fun i H x H' d F1 m1 m2 y e => by
    obtain ⟨rfl, rfl⟩ := y
    unfold rngD at e
    rw [List.getElem?_map] at e
    by_cases hi : i < n
    · rw [List.getElem?_range hi] at e
      cases e
      exact ⟨F1, .refl m2, .int _⟩
    · rw [List.getElem?_eq_none (by simpa using hi)] at e; cases e
theorem rp_ints {K : PySem.W.Frag} {F : Hp} : ∀ ns : List Int, RpA K cl F (ns.map V.int) (ns.map D.int)
  | [] => .nil
  | n :: ns => .cons (.int n) (rp_ints ns)
/-- a list or a tuple -/
def iSeqU (K : PySem.W.Frag) (tl : TE) : TI := fun σ H R => tl σ H fun x H1 => ∃ a, x = .ref a ∧ (((∃ xs, SqL K H1 a xs) ∧ R (Itl K a) H1) ∨ ((∃ xs, SqT K H1 a xs) ∧ R (Itt K a) H1))
theorem pi_seqU {l : Expr} {tl : TE} (hl : PE X l tl) : PI X tg l (iSeqU X.K tl) := by
  refine ⟨fun pins s σ H R I h => ?_⟩
  refine thn (hl.run pins s σ H _ I h) fun v s1 ⟨x, H1, I1, r1, q1⟩ => ?_
  obtain ⟨a, e, q⟩ := q1
  subst e
  cases r1
  rcases q with ⟨⟨xs, hq⟩, q⟩ | ⟨⟨xs, hq⟩, q⟩
  · obtain ⟨its, rv, p, hz⟩ := I1.list hq
    refine wpAny_pyIter_list p.isList ?_
    refine ⟨s1.heap.objs.size, [s1.heap.objs.size], _, _, H1, rfl, I1.kept (t' := s1.toks) fun b o e => Heap.get?_push_of_some _ e, turn_list a _, ⟨_, Heap.get?_push_size _ rfl, rfl, rfl⟩, fun b hb => ?_, q⟩
    have e : b = s1.heap.objs.size := by simpa using hb
    subst e
    exact I1.fpOk (Nat.le_refl _) (I1.hok.fresh (Nat.le_refl _))
  · obtain ⟨its, rv, p, hz⟩ := I1.tuple hq
    refine wpAny_pyIter_tuple (show s1.heap.IsTuple a its.toArray from p) ?_
    refine ⟨s1.heap.objs.size, [s1.heap.objs.size], _, _, H1, rfl, I1.kept (t' := s1.toks) fun b o e => Heap.get?_push_of_some _ e, turn_tuple a _, ⟨_, Heap.get?_push_size _ rfl, rfl, rfl⟩, fun b hb => ?_, q⟩
    have e : b = s1.heap.objs.size := by simpa using hb
    subst e
    exact I1.fpOk (Nat.le_refl _) (I1.hok.fresh (Nat.le_refl _))
theorem stepI {K : PySem.W.Frag} {σ : L2.St} {B F0 F H : Hp} {ρ : En} {r : Res D} {g : D → Res (List D)} {R : It → Hp → Prop} (s : SOk K cl B F0 F σ H ρ) (p : PostI K cl W σ F H (r.bind g) R) :
    PostE K cl W σ F H r fun v H' => ∃ d F', r = .ok d ∧ Gr F H F' H' ∧ Rp K cl F' v d ∧ PostI K cl W σ F' H' (g d) R := by
  cases r with
  | bad => exact p
  | er e => exact p
  | ok d =>
    intro v F' H' g1 h1
    have p : PostI K cl W σ F H (g d) R := p
    refine ⟨d, F', rfl, g1, h1, ?_⟩
    cases q : g d with
    | bad => rw [q] at p; exact p
    | er e => rw [q] at p; exact fun c dd F2 H2 g2 h2 => p c dd F2 H2 (g1.trans g2) h2
    | ok ds => rw [q] at p; exact fun J F2 H2 g2 h2 => p J F2 H2 (g1.trans g2) h2
theorem si_seq (h : SE X cl W e m) : SI X cl W tg e (mSeq m) := by
  refine (pi_seqU h).of ?_
  rintro σ H R ⟨B, F0, F, ρ, s, p⟩
  refine ⟨B, F0, F, ρ, s, (stepI s p).imp ?_⟩
  rintro v H1 ⟨d, F1, e, g1, r, p⟩
  cases r with
  | lst a b => exact ⟨_, rfl, .inl ⟨⟨_, .of (g1.fh _ _ a)⟩, p _ F1 H1 (.refl g1.fh) (it_list (.of a) b)⟩⟩
  | tup a b => exact ⟨_, rfl, .inr ⟨⟨_, .of (g1.fh _ _ a)⟩, p _ F1 H1 (.refl g1.fh) (it_tup (.of a) b)⟩⟩
  | scr a => exact ⟨_, rfl, .inl ⟨⟨_, g1.fh.seq a⟩, p _ F1 H1 (.refl g1.fh) (it_list a (rp_ints _))⟩⟩
  | _ => exact p.elim
theorem stepIA {K : PySem.W.Frag} {σ : L2.St} {B F0 F H : Hp} {ρ : En} {r : Res (List D)} {g : List D → Res (List D)} {R : It → Hp → Prop} (s : SOk K cl B F0 F σ H ρ) (p : PostI K cl W σ F H (r.bind g) R) :
    PostA K cl W σ F H r fun vs H' => ∃ ds F', r = .ok ds ∧ Gr F H F' H' ∧ RpA K cl F' vs ds ∧ PostI K cl W σ F' H' (g ds) R := by
  cases r with
  | bad => exact p
  | er e => exact p
  | ok d =>
    intro v F' H' g1 h1
    have p : PostI K cl W σ F H (g d) R := p
    refine ⟨d, F', rfl, g1, h1, ?_⟩
    cases q : g d with
    | bad => rw [q] at p; exact p
    | er e => rw [q] at p; exact fun c dd F2 H2 g2 h2 => p c dd F2 H2 (g1.trans g2) h2
    | ok ds => rw [q] at p; exact fun J F2 H2 g2 h2 => p J F2 H2 (g1.trans g2) h2
theorem si_rng1 (hg : Gl X "range") (hm : X.mg "range" = none) (ha : SA X cl W [a] ms) (hs : starEach [a] X.env = [(false, eval a X.env)] := by rfl) : SI X cl W tg (.Call (.Name "range" p) [a] [] pos) (mRng1 ms) := by
  refine (pi_range1 hg hm ha hs).of ?_
  rintro σ H R ⟨B, F0, F, ρ, s, p⟩
  refine ⟨B, F0, F, ρ, s, (stepIA s p).imp ?_⟩
  rintro vs H1 ⟨ds, F1, e, g1, r, p⟩
  cases q : rng1Of ds with
  | none => rw [q] at p; exact p.elim
  | some es =>
    rw [q] at p
    unfold rng1Of at q
    split at q
    · obtain ⟨v, rfl, h⟩ := r.one
      cases h
      split at q
      · rename_i hj
        cases q
        exact ⟨_, rfl, hj.1, hj.2, p _ F1 H1 (.refl g1.fh) it_rng⟩
      · cases q
    · cases q
theorem si_rng2 (hg : Gl X "range") (hm : X.mg "range" = none) (ha : SA X cl W [a, b] ms) (hs : starEach [a, b] X.env = [(false, eval a X.env), (false, eval b X.env)] := by rfl) (hs2 : starEach [b] X.env = [(false, eval b X.env)] := by rfl) :
    SI X cl W tg (.Call (.Name "range" p) [a, b] [] pos) (mRng2 ms) := by
  refine (pi_range2 hg hm ha hs hs2).of ?_
  rintro σ H R ⟨B, F0, F, ρ, s, p⟩
  refine ⟨B, F0, F, ρ, s, (stepIA s p).imp ?_⟩
  rintro vs H1 ⟨ds, F1, e, g1, r, p⟩
  cases q : rng2Of ds with
  | none => rw [q] at p; exact p.elim
  | some es =>
    rw [q] at p
    unfold rng2Of at q
    split at q
    · obtain ⟨v, u, rfl, h, h2⟩ := r.two
      cases h; cases h2
      split at q
      · rename_i hj
        cases q
        exact ⟨_, _, rfl, hj, p _ F1 H1 (.refl g1.fh) it_rng⟩
      · cases q
    · cases q
end
/-! ## targets -/
/-- a target that stores into the slots `is` -/
structure GOk (K : PySem.W.Frag) (cl : Cl) (g : TG) (is : List Nat) (bt : D → En → Option En) : Prop where
  run : ∀ B F0 F σ H ρ v d ρ' Q, SOk K cl B F0 F σ H ρ → Rp K cl F v d → bt d ρ = some ρ' → (∀ σ', SOk K cl B F0 F σ' H ρ' → σ'.length = σ.length → (∀ k, k ∉ is → σ'[k]? = σ[k]? ∧ ρ'[k]? = ρ[k]?) → Q σ' H) → g v σ H Q
  nol : ∀ d ρ ρ', bt d ρ = some ρ' → ∀ k, k ∈ is → ∀ b c, ρ'[k]? ≠ some (.ow b c)
def bName (i : Nat) : D → En → Option En := fun d ρ => some (ρ.set i (.im d))
def bNames : List Nat → List D → En → Option En
  | [], [], ρ => some ρ
  | i :: is, d :: ds, ρ => bNames is ds (ρ.set i (.im d))
  | _, _, _ => none
def bTup (is : List Nat) : D → En → Option En := fun d ρ => match d with
  | .tup ds => bNames is ds ρ
  | _ => none
section
variable {K : PySem.W.Frag} {cl : Cl} {X : Cx} {B F0 F H : Hp} {σ : L2.St} {ρ : En} {i : Nat} {d : D} {v : V}
/-- a slot holds a new frozen value -/
theorem SOk.set (s : SOk K cl B F0 F σ H ρ) (i : Nat) (r : Rp K cl F v d) : SOk K cl B F0 F (σ.set i (some v)) H (ρ.set i (.im d)) where
  f0 := s.f0
  fh := s.fh
  bh := s.bh
  bf := s.bf
  len := by simpa using s.len
  im := fun j d' e => by
    by_cases h : j = i
    · subst h
      by_cases hl : j < ρ.length
      · rw [List.getElem?_set_self hl] at e; cases e
        exact ⟨v, by rw [List.getElem?_set_self (by rw [s.len]; exact hl)], r⟩
      · rw [List.getElem?_eq_none (by simpa using hl)] at e; cases e
    · rw [List.getElem?_set_ne (Ne.symm h)] at e ⊢
      exact s.im j d' e
  ow := fun j b c e => by
    by_cases h : j = i
    · subst h
      by_cases hl : j < ρ.length
      · rw [List.getElem?_set_self hl] at e; cases e
      · rw [List.getElem?_eq_none (by simpa using hl)] at e; cases e
    · rw [List.getElem?_set_ne (Ne.symm h)] at e ⊢
      exact s.ow j b c e
  ap := fun j k b c b' c' a hjk e1 e2 e3 => by
    have key : ∀ {j : Nat} {b : Bool} {c : Cn}, (ρ.set i (.im d))[j]? = some (.ow b c) → j ≠ i ∧ ρ[j]? = some (.ow b c) := fun {j b c} e => by
      by_cases h : j = i
      · subst h
        by_cases hl : j < ρ.length
        · rw [List.getElem?_set_self hl] at e; cases e
        · rw [List.getElem?_eq_none (by simpa using hl)] at e; cases e
      · rw [List.getElem?_set_ne (Ne.symm h)] at e; exact ⟨h, e⟩
    obtain ⟨n1, q1⟩ := key e1
    obtain ⟨n2, q2⟩ := key e2
    rw [List.getElem?_set_ne (Ne.symm n1)] at e3
    rw [List.getElem?_set_ne (Ne.symm n2)]
    exact s.ap j k b c b' c' a hjk q1 q2 e3
theorem g_name (i : Nat) : GOk K cl (gName i) [i] (bName i) where
  run := fun B F0 F σ H ρ v d ρ' Q s r e q => by
    cases e
    exact q _ (s.set i r) (by simp) fun k hk => by
      have : k ≠ i := by simpa using hk
      rw [List.getElem?_set_ne (Ne.symm this), List.getElem?_set_ne (Ne.symm this)]
      exact ⟨rfl, rfl⟩
  nol := fun d ρ ρ' e k hk b c z => by
    cases e
    have : k = i := by simpa using hk
    subst this
    by_cases hl : k < ρ.length
    · rw [List.getElem?_set_self hl] at z; cases z
    · rw [List.getElem?_eq_none (by simpa using hl)] at z; cases z
/-- several names -/
def gNames : List Nat → TGs
  | [] => gNil
  | i :: is => gCons (gName i) (gNames is)
theorem gNames_run : ∀ (is : List Nat) {B F0 F : Hp} {σ : L2.St} {H : Hp} {ρ ρ' : En} {vs : List V} {ds : List D} {Q : L2.St → Hp → Prop}, SOk K cl B F0 F σ H ρ → RpA K cl F vs ds → bNames is ds ρ = some ρ' →
    (∀ σ', SOk K cl B F0 F σ' H ρ' → σ'.length = σ.length → (∀ k, k ∉ is → σ'[k]? = σ[k]? ∧ ρ'[k]? = ρ[k]?) → Q σ' H) → gNames is vs σ H Q
  | [], _, _, _, _, _, _, _, _, ds, _, s, r, e, q => by
    cases ds with
    | nil => cases r; cases e; exact ⟨rfl, q _ s rfl fun _ _ => ⟨rfl, rfl⟩⟩
    | cons => cases e
  | i :: is, _, _, _, _, _, _, _, _, ds, _, s, r, e, q => by
    cases ds with
    | nil => cases e
    | cons d ds =>
      cases r with
      | cons a b =>
        refine ⟨_, _, rfl, gNames_run is (s.set i a) b e fun σ' s' hl hk => q σ' s' (by simpa using hl) fun k hn => ?_⟩
        have n1 : k ≠ i := fun z => hn (by simp [z])
        have n2 : k ∉ is := fun z => hn (by simp [z])
        obtain ⟨h1, h2⟩ := hk k n2
        rw [List.getElem?_set_ne (Ne.symm n1)] at h1 h2
        exact ⟨h1, h2⟩
theorem bNames_nol : ∀ (is : List Nat) (ds : List D) (ρ ρ' : En), bNames is ds ρ = some ρ' → (∀ (k : Nat) (b : Bool) (c : Cn), k ∈ is → ρ'[k]? ≠ some (Sl.ow b c)) ∧ ∀ (k : Nat) (b : Bool) (c : Cn), ρ'[k]? = some (Sl.ow b c) → ρ[k]? = some (Sl.ow b c)
  | [], [], ρ, ρ', e => by cases e; exact ⟨fun k b c h => (nomatch h), fun k b c h => h⟩
  | [], _ :: _, ρ, ρ', e => by cases e
  | i :: is, [], ρ, ρ', e => by cases e
  | i :: is, d :: ds, ρ, ρ', e => by
    obtain ⟨h1, h2⟩ := bNames_nol is ds _ _ e
    have key : ∀ (k : Nat) (b : Bool) (c : Cn), ρ'[k]? = some (Sl.ow b c) → k ≠ i ∧ ρ[k]? = some (.ow b c) := fun k b c z => by
      have z := h2 k b c z
      by_cases h : k = i
      · subst h
        by_cases hl : k < ρ.length
        · rw [List.getElem?_set_self hl] at z; cases z
        · rw [List.getElem?_eq_none (by simpa using hl)] at z; cases z
      · rw [List.getElem?_set_ne (Ne.symm h)] at z; exact ⟨h, z⟩
    refine ⟨fun k b c hk z => ?_, fun k b c z => (key k b c z).2⟩
    rcases List.mem_cons.mp hk with rfl | hk
    · exact (key _ b c z).1 rfl
    · exact h1 k b c hk z
theorem g_tup (is : List Nat) : GOk K cl (gTup K is.length (gNames is)) is (bTup is) where
  run := fun B F0 F σ H ρ v d ρ' Q s r e q => by
    cases r <;> simp only [bTup] at e <;> try cases e
    rename_i a xs ds ha hr
    refine ⟨_, _, rfl, .of (s.fh _ _ ha), ?_, gNames_run is s hr e q⟩
    have : ∀ (is : List Nat) (ds : List D) (ρ ρ' : En), bNames is ds ρ = some ρ' → ds.length = is.length := by
      intro is
      induction is with
      | nil => intro ds ρ ρ' e; cases ds with
        | nil => rfl
        | cons => cases e
      | cons i is ih => intro ds ρ ρ' e; cases ds with
        | nil => cases e
        | cons d ds => simp [ih ds _ _ e]
    rw [hr.length, this is ds ρ ρ' e]
  nol := fun d ρ ρ' e k hk b c => by
    cases d <;> simp only [bTup] at e <;> try cases e
    exact (bNames_nol is _ _ _ e).1 k b c hk
end
end FL
namespace FL
open PySem L2
/-! ## list comprehensions -/
def wipeE (ρ : En) : List Nat → En
  | [] => ρ
  | v :: vs => (wipeE ρ vs).set v .un
def compL (bt : D → En → Option En) (mt : En → Res Bool) (me : En → Res D) (ρ : En) : List D → List D → Res Cn
  | [], acc => .ok (.l acc)
  | d :: ds, acc => match bt d ρ with
    | none => .bad
    | some ρ1 => match mt ρ1 with
      | .ok true => match me ρ1 with
        | .ok e => if acc.length < 16777215 then compL bt mt me ρ ds (acc ++ [e]) else .bad
        | _ => .bad
      | .ok false => compL bt mt me ρ ds acc
      | _ => .bad
def mLc (bt : D → En → Option En) (own : List Nat) (mi : En → Res (List D)) (mt : En → Res Bool) (me : En → Res D) : En → Res Cn := fun ρ => (mi ρ).bind fun ds => compL bt mt me (wipeE ρ own) ds []
def mYes : En → Res Bool := fun _ => .ok true
abbrev W0 : WX := fun _ _ _ _ => False
def tTs (K : PySem.W.Frag) (cl : Cl) (m : En → Res Bool) : TT := tT K cl W0 m
section
variable {K : PySem.W.Frag} {cl : Cl} {X : Cx} {B F0 F H : Hp} {σ σ' : L2.St} {ρ : En}
theorem wipe_get (σ : L2.St) : ∀ (vs : List Nat) (k : Nat), (wipe σ vs)[k]? = if k ∈ vs then (if k < σ.length then some none else none) else σ[k]?
  | [], k => by simp [wipe]
  | v :: vs, k => by
    unfold wipe
    by_cases h : k = v
    · subst h
      rw [if_pos (by simp)]
      split
      · rename_i hl
        rw [List.getElem?_set_self (by rw [wipe_length]; exact hl)]
      · rename_i hl
        rw [List.getElem?_eq_none (by rw [List.length_set, wipe_length]; omega)]
    · rw [List.getElem?_set_ne (Ne.symm h), wipe_get σ vs k]
      by_cases h2 : k ∈ vs
      · rw [if_pos h2, if_pos (List.mem_cons_of_mem _ h2)]
      · rw [if_neg h2, if_neg (by simp [h, h2])]
theorem wipe_eq {vs : List Nat} (hl : σ'.length = σ.length) (h : ∀ k, k ∉ vs → σ'[k]? = (wipe σ vs)[k]?) : wipe σ' vs = wipe σ vs := by
  apply List.ext_getElem?
  intro k
  rw [wipe_get σ' vs k]
  by_cases hk : k ∈ vs
  · rw [if_pos hk, wipe_get σ vs k, if_pos hk, hl]
  · rw [if_neg hk, h k hk]
theorem wipeE_get (ρ : En) : ∀ (vs : List Nat) (k : Nat), (wipeE ρ vs)[k]? = if k ∈ vs then (if k < ρ.length then some .un else none) else ρ[k]?
  | [], k => by simp [wipeE]
  | v :: vs, k => by
    have wl : ∀ vs : List Nat, (wipeE ρ vs).length = ρ.length := by
      intro vs
      induction vs with
      | nil => rfl
      | cons v vs ih => unfold wipeE; rw [List.length_set, ih]
    unfold wipeE
    by_cases h : k = v
    · subst h
      rw [if_pos (by simp)]
      split
      · rename_i hl
        rw [List.getElem?_set_self (by rw [wl]; exact hl)]
      · rename_i hl
        rw [List.getElem?_eq_none (by rw [List.length_set, wl]; omega)]
    · rw [List.getElem?_set_ne (Ne.symm h), wipeE_get ρ vs k]
      by_cases h2 : k ∈ vs
      · rw [if_pos h2, if_pos (List.mem_cons_of_mem _ h2)]
      · rw [if_neg h2, if_neg (by simp [h, h2])]
theorem wipeE_length (ρ : En) : ∀ vs : List Nat, (wipeE ρ vs).length = ρ.length
  | [] => rfl
  | v :: vs => by unfold wipeE; rw [List.length_set, wipeE_length ρ vs]
theorem SOk.wipe (s : SOk K cl B F0 F σ H ρ) (vs : List Nat) : SOk K cl B F0 F (wipe σ vs) H (wipeE ρ vs) := by
  have key : ∀ {k : Nat} {x : Sl}, (wipeE ρ vs)[k]? = some x → x ≠ .un → k ∉ vs ∧ ρ[k]? = some x := fun {k x} e n => by
    rw [wipeE_get] at e
    by_cases h : k ∈ vs
    · rw [if_pos h] at e
      split at e
      · cases e; exact absurd rfl n
      · cases e
    · rw [if_neg h] at e; exact ⟨h, e⟩
  refine ⟨s.f0, s.fh, s.bh, s.bf, by rw [wipe_length, wipeE_length, s.len], fun i d e => ?_, fun i b c e => ?_, fun i j b c b' c' a hij e1 e2 e3 => ?_⟩
  · obtain ⟨h, e⟩ := key e (by intro z; cases z)
    obtain ⟨v, h1, h2⟩ := s.im i d e
    exact ⟨v, by rw [wipe_get, if_neg h]; exact h1, h2⟩
  · obtain ⟨h, e⟩ := key e (by intro z; cases z)
    obtain ⟨a, o, h1, h2⟩ := s.ow i b c e
    exact ⟨a, o, by rw [wipe_get, if_neg h]; exact h1, h2⟩
  · obtain ⟨n1, e1⟩ := key e1 (by intro z; cases z)
    obtain ⟨n2, e2⟩ := key e2 (by intro z; cases z)
    rw [wipe_get, if_neg n1] at e3
    rw [wipe_get, if_neg n2]
    exact s.ap i j b c b' c' a hij e1 e2 e3
end
section
variable {X : Cx} {cl : Cl} {W : WX} {elt tg iter : Expr} {ifs : List Expr} {scope : Scope} {own : List (Str × Nat)} {pos pos' : Pos} {is : List Nat} {g : TG} {bt : D → En → Option En} {mi : En → Res (List D)} {mt : En → Res Bool} {me : En → Res D}
theorem lc_in (G : GOk X.K cl g is bt) (hsub : ∀ i ∈ is, i ∈ own.map (·.2)) : ∀ σ H Q, tC' X.K cl W (mLc bt (own.map (·.2)) mi mt me) σ H Q → tLc (tI X.K cl W mi) g (tTs X.K cl mt) (tM X.K cl W0 me) (own.map (·.2)) σ H Q := by
  rintro σ H Q ⟨B, F0, F, ρ, s, p⟩
  refine ⟨B, F0, F, ρ, s, ?_⟩
  unfold mLc at p
  cases q : mi ρ with
  | bad => rw [q] at p; exact p
  | er e => rw [q] at p; exact p
  | ok ds =>
    rw [q] at p
    have p : PostC X.K cl W σ F H (compL bt mt me (wipeE ρ (own.map (·.2))) ds []) Q := p
    intro J F1 H1 g1 io Da hD
    generalize hvs : own.map (·.2) = vs at *
    generalize hρw : wipeE ρ vs = ρw at *
    generalize hR : compL bt mt me ρw ds [] = R at *
    refine ⟨fun i m Hc => m = ds.length - i ∧ i ≤ ds.length ∧ ∃ Fc av ad, Same F1 Fc ∧ Same Fc Hc ∧ Same H1 Hc ∧ (∀ a, H1 a ≠ none → Fc a = F1 a) ∧ Fc Da = none ∧ Hc Da = some (.lst av) ∧ RpA X.K cl Fc av ad ∧ compL bt mt me ρw (ds.drop i) ad = R,
      ⟨ds.length, by simp, Nat.zero_le _, F1, [], [], Same.refl _, ?_, ?_, fun _ _ => rfl, ?_, upd_same, .nil, by simpa using hR⟩, ?_⟩
    · exact (Gr.own g1.fh hD).fh
    · exact (Gr.own g1.fh hD).h
    · cases z : F1 Da with | none => rfl | some o => rw [g1.fh _ _ z] at hD; cases hD
    rintro i m Hc ⟨rfl, hi, Fc, av, ad, m1, m2, m3, m4, hF, hH, hr, hR'⟩
    have gc : Gr F H Fc Hc := ⟨g1.f.trans m1, m2, g1.h.trans m3, fun a ha => by
      have h1 : H1 a ≠ none := by
        cases e : H a with
        | none => exact absurd e ha
        | some o => rw [g1.h a o e]; simp
      rw [m4 a h1, g1.n a ha]⟩
    by_cases hlt : i < ds.length
    · refine .inr ⟨io.go i Hc (m1.trans m2) hlt, fun H' => ∃ Fc av ad, Same F1 Fc ∧ Same Fc H' ∧ Same H1 H' ∧ (∀ a, H1 a ≠ none → Fc a = F1 a) ∧ Fc Da = none ∧ H' Da = some (.lst av) ∧ RpA X.K cl Fc av ad ∧ compL bt mt me ρw (ds.drop (i + 1)) ad = R, ?_, ?_⟩
      · intro H' h'
        exact ⟨ds.length - (i + 1), by omega, rfl, hlt, h'⟩
      intro x H' y
      have hd : ds[i]? = some ds[i] := by simp [hlt]
      obtain ⟨F2, g2, rx⟩ := io.yld i Hc x H' ds[i] Fc m1 m2 y hd
      have gt : Gr F H F2 H' := gc.trans g2
      have sw := (s.grow gt).wipe vs
      rw [hρw] at sw
      have ed : ds.drop i = ds[i] :: ds.drop (i + 1) := by rw [List.drop_eq_getElem_cons hlt]
      rw [ed] at hR'
      simp only [compL] at hR'
      cases qb : bt ds[i] ρw with
      | none => rw [qb] at hR'; simp only at hR'; rw [← hR'] at p; exact p.elim
      | some ρ1 =>
        rw [qb] at hR'
        simp only at hR'
        refine G.run B F0 F2 (wipe σ vs) H' ρw x ds[i] ρ1 _ sw rx qb fun σ2 s2 hl2 hk2 => ?_
        refine ⟨wipe_eq (by rw [hl2, wipe_length]) fun k hk => (hk2 k fun z => hk (hvs ▸ hsub k z)).1, B, F0, F2, ρ1, s2, ?_⟩
        -- what stands at Da
        have hDa : ∀ {Fx Hx : Hp}, Gr Fc Hc Fx Hx → Fx Da = none ∧ Hx Da = some (.lst av) := fun {Fx Hx} gx => ⟨by rw [gx.n Da (by rw [hH]; simp)]; exact hF, gx.h _ _ hH⟩
        cases qt : mt ρ1 with
        | bad => rw [qt] at hR'; simp only at hR'; rw [← hR'] at p; exact p.elim
        | er e => rw [qt] at hR'; simp only at hR'; rw [← hR'] at p; exact p.elim
        | ok b =>
          rw [qt] at hR'
          intro F3 H3 g3
          cases b with
          | false =>
            simp only at hR'
            show ∃ Fc av ad, _
            have gx := g2.trans g3
            obtain ⟨e1, e2⟩ := hDa gx
            exact ⟨F3, av, ad, m1.trans gx.f, gx.fh, m3.trans gx.h, fun a ha => by
              have : Hc a ≠ none := by
                cases e : H1 a with
                | none => exact absurd e ha
                | some o => rw [m3 a o e]; simp
              rw [gx.n a this, m4 a ha], e1, e2, hr.mono gx.f, hR'⟩
          | true =>
            simp only at hR'
            show tM X.K cl W0 me σ2 H3 _
            refine ⟨B, F0, F3, ρ1, s2.grow g3, ?_⟩
            cases qe : me ρ1 with
            | bad => rw [qe] at hR'; simp only at hR'; rw [← hR'] at p; exact p.elim
            | er e => rw [qe] at hR'; simp only at hR'; rw [← hR'] at p; exact p.elim
            | ok d =>
              rw [qe] at hR'
              simp only at hR'
              intro v F4 H4 g4 r4
              have gx := (g2.trans g3).trans g4
              obtain ⟨e1, e2⟩ := hDa gx
              by_cases hlen : ad.length < 16777215
              · rw [if_pos hlen] at hR'
                refine ⟨av, e2, by rw [hr.length, sizeLine_eq]; omega, F4, av ++ [v], ad ++ [d], m1.trans gx.f, fun a o e => ?_, fun a o e => ?_, fun a ha => ?_, e1, upd_same, (hr.mono gx.f).app (.cons r4 .nil), hR'⟩
                · have : a ≠ Da := fun z => by subst z; rw [e1] at e; cases e
                  rw [upd_ne this]; exact gx.fh _ _ e
                · have : a ≠ Da := fun z => by subst z; rw [hD] at e; cases e
                  rw [upd_ne this]; exact gx.h _ _ (m3 _ _ e)
                · have : Hc a ≠ none := by
                    cases e : H1 a with
                    | none => exact absurd e ha
                    | some o => rw [m3 a o e]; simp
                  rw [gx.n a this, m4 a ha]
              · rw [if_neg hlen] at hR'; rw [← hR'] at p; exact p.elim
    · have e : i = ds.length := by omega
      refine .inl ⟨io.stop i Hc (m1.trans m2) e, ?_⟩
      subst e
      rw [List.drop_length] at hR'
      simp only [compL] at hR'
      rw [← hR'] at p
      exact p Da (.lst av) Fc Hc gc (Same.free g1.h hD) hF hH ⟨av, rfl, hr⟩
/-- [elt for target in iter if ..] -/
theorem sc_lc (hc : X.calm = true) (hN : X.N.Nodup) (G : GOk X.K cl g is bt) (hsub : (is.all fun i => (own.map (·.2)).contains i) = true) (hi : SI X cl W tg iter mi) (ok : BlkOk X.N X.env.scope scope own)
    (hg : ∀ (s : Shared) (H : Hp) (C : Addr) (ce : List (Str × Addr)) (fp : List Addr), PG (X.blk s H scope (compEnvC scope ce C X.env) fp) tg g)
    (ht : ∀ (s : Shared) (H : Hp) (C : Addr) (ce : List (Str × Addr)) (fp : List Addr), PTs (X.blk s H scope (compEnvC scope ce C X.env) fp) ifs (tTs X.K cl mt))
    (he : ∀ (s : Shared) (H : Hp) (C : Addr) (ce : List (Str × Addr)) (fp : List Addr), PE (X.blk s H scope (compEnvC scope ce C X.env) fp) elt (tM X.K cl W0 me)) (hs : ∀ x, foldedSetIterable iter X.env x = pure x := by intro _; rfl) :
    SC X cl W (.ListComp elt [⟨tg, iter, ifs, 0⟩] scope pos) (mLc bt (own.map (·.2)) mi mt me) :=
  (pe_lc hc hN hi ok hg ht he hs).of (lc_in G fun i hi => by simpa using (List.all_eq_true.mp hsub i hi))
theorem ts_nil : PTs X [] (tTs X.K cl mYes) := ⟨fun pins s σ H Q I ⟨B, F0, F, ρ, so, p⟩ => pts_nil.run pins s σ H Q I (p F H (.refl so.fh))⟩
theorem ts_one {c : Expr} {K : PySem.W.Frag} (h : PT X c (tT K cl W0 mt)) : PTs X [c] (tTs K cl mt) := pts_one h
end
/-! ## statements -/
/-- a slot whose object may not be exchanged: a locked list, an instance in the making -/
def keepS : Sl → Sl → Prop
  | .ow true c, y => y = .ow true c
  | .ow false (.i c _ _), y => ∃ ns ds, y = .ow false (.i c ns ds)
  | _, _ => False
def isKeep : Sl → Bool
  | .ow true _ => true
  | .ow false (.i _ _ _) => true
  | _ => false
theorem keepS.refl : ∀ {x : Sl}, isKeep x = true → keepS x x
  | .ow true c, _ => rfl
  | .ow false (.i c ns ds), _ => ⟨ns, ds, rfl⟩
theorem keepS.is : ∀ {x y : Sl}, keepS x y → isKeep y = true
  | .ow true c, y, h => by cases h; rfl
  | .ow false (.i c _ _), y, h => by obtain ⟨ns, ds, rfl⟩ := h; rfl
theorem keepS.trans : ∀ {x y z : Sl}, keepS x y → keepS y z → keepS x z
  | .ow true c, y, z, h, h' => by cases h; exact h'
  | .ow false (.i c _ _), y, z, h, h' => by obtain ⟨ns, ds, rfl⟩ := h; exact h'
def Lk (ρ : En) (σ : L2.St) (ρ' : En) (σ' : L2.St) : Prop := ∀ (i : Nat) (x : Sl), ρ'[i]? = some x → isKeep x = true → (∃ y, ρ[i]? = some y ∧ keepS x y) ∧ σ'[i]? = σ[i]?
theorem Lk.refl (ρ : En) (σ : L2.St) : Lk ρ σ ρ σ := fun _ x h k => ⟨⟨x, h, keepS.refl k⟩, rfl⟩
theorem Lk.trans {ρ ρ1 ρ2 : En} {σ σ1 σ2 : L2.St} (a : Lk ρ σ ρ1 σ1) (b : Lk ρ1 σ1 ρ2 σ2) : Lk ρ σ ρ2 σ2 := fun i x h k => by
  obtain ⟨⟨y, h1, k1⟩, e1⟩ := b i x h k
  obtain ⟨⟨z, h2, k2⟩, e2⟩ := a i y h1 k1.is
  exact ⟨⟨z, h2, k1.trans k2⟩, e1.trans e2⟩
def PostS (K : PySem.W.Frag) (cl : Cl) (W : WX) (B F0 : Hp) (σ : L2.St) (F : Hp) (ρ : En) (r : Option Fl) (D : Ends) : Prop := match r with
  | none => False
  | some (.nx ρ') => ∀ σ' F' H', Same F F' → SOk K cl B F0 F' σ' H' ρ' → Lk ρ σ ρ' σ' → D.nx σ' H'
  | some (.bk ρ') => ∀ σ' F' H', Same F F' → SOk K cl B F0 F' σ' H' ρ' → Lk ρ σ ρ' σ' → D.bk σ' H'
  | some (.ct ρ') => ∀ σ' F' H', Same F F' → SOk K cl B F0 F' σ' H' ρ' → Lk ρ σ ρ' σ' → D.ct σ' H'
  | some (.rt d) => ∀ v F' H', Same F F' → Same F' H' → Same B H' → (∀ a, B a ≠ none → F' a = F0 a) → Rp K cl F' v d → D.rt v H'
  | some (.ex e ρ') => ∀ c dd σ' F' H', Same F F' → SOk K cl B F0 F' σ' H' ρ' → Lk ρ σ ρ' σ' → XRp K cl F' c dd e → W c dd σ' H'
def tS (K : PySem.W.Frag) (cl : Cl) (W : WX) (ms : En → Option Fl) : TS := fun D σ H => ∃ B F0 F ρ, SOk K cl B F0 F σ H ρ ∧ PostS K cl W B F0 σ F ρ (ms ρ) D
abbrev SS (X : Cx) (cl : Cl) (W : WX) (st : Stmt) (m : En → Option Fl) : Prop := PS X st (tS X.K cl W m)
abbrev SSs (X : Cx) (cl : Cl) (W : WX) (st : List Stmt) (m : En → Option Fl) : Prop := PSs X st (tS X.K cl W m)
section
variable {K : PySem.W.Frag} {cl : Cl} {W : WX} {B F0 F F1 H H1 : Hp} {σ σ1 : L2.St} {ρ ρ1 : En} {D D' : Ends}
theorem PostS.tr {r : Option Fl} (p : PostS K cl W B F0 σ F ρ r D) (m : Same F F1) (l : Lk ρ σ ρ1 σ1) : PostS K cl W B F0 σ1 F1 ρ1 r D := by
  cases r with
  | none => exact p
  | some f =>
    cases f with
    | nx ρ' => exact fun σ' F' H' m' s' l' => p σ' F' H' (m.trans m') s' (l.trans l')
    | bk ρ' => exact fun σ' F' H' m' s' l' => p σ' F' H' (m.trans m') s' (l.trans l')
    | ct ρ' => exact fun σ' F' H' m' s' l' => p σ' F' H' (m.trans m') s' (l.trans l')
    | rt d => exact fun v F' H' m' => p v F' H' (m.trans m')
    | ex e ρ' => exact fun c dd σ' F' H' m' s' l' => p c dd σ' F' H' (m.trans m') s' (l.trans l')
end
def runE {α : Type} (ρ : En) (r : Res α) (f : α → Option Fl) : Option Fl := match r with
  | .ok a => f a
  | .er e => some (.ex e ρ)
  | .bad => none
def sSeq (a b : En → Option Fl) : En → Option Fl := fun ρ => match a ρ with
  | some (.nx ρ1) => b ρ1
  | r => r
def sNop : En → Option Fl := fun ρ => some (.nx ρ)
def sSet (i : Nat) (m : En → Res D) : En → Option Fl := fun ρ => runE ρ (m ρ) fun d => some (.nx (ρ.set i (.im d)))
def sOwn (i : Nat) (m : En → Res Cn) : En → Option Fl := fun ρ => runE ρ (m ρ) fun c => if c.isI then none else some (.nx (ρ.set i (.ow false c)))
def sAsg (bt : D → En → Option En) (m : En → Res D) : En → Option Fl := fun ρ => runE ρ (m ρ) fun d => match bt d ρ with
  | some ρ' => some (.nx ρ')
  | none => none
def sRet (m : En → Res D) : En → Option Fl := fun ρ => runE ρ (m ρ) fun d => some (.rt d)
def sRetN : En → Option Fl := fun _ => some (.rt .non)
def sExp (m : En → Res D) : En → Option Fl := fun ρ => runE ρ (m ρ) fun _ => some (.nx ρ)
def sIf (c : En → Res Bool) (a b : En → Option Fl) : En → Option Fl := fun ρ => runE ρ (c ρ) fun k => if k then a ρ else b ρ
def sBrk : En → Option Fl := fun ρ => some (.bk ρ)
def sCnt : En → Option Fl := fun ρ => some (.ct ρ)
def forL (bt : D → En → Option En) (body : En → Option Fl) : List D → En → Option Fl
  | [], ρ => some (.nx ρ)
  | d :: ds, ρ => match bt d ρ with
    | none => none
    | some ρ1 => match body ρ1 with
      | some (.nx ρ2) => forL bt body ds ρ2
      | some (.ct ρ2) => forL bt body ds ρ2
      | some (.bk ρ2) => some (.nx ρ2)
      | r => r
def sFor (bt : D → En → Option En) (mi : En → Res (List D)) (body : En → Option Fl) : En → Option Fl := fun ρ => runE ρ (mi ρ) fun ds => forL bt body ds ρ
def whN (c : En → Res Bool) (body : En → Option Fl) : Nat → En → Option Fl
  | 0, _ => none
  | n + 1, ρ => runE ρ (c ρ) fun k => if k then (match body ρ with
      | some (.nx ρ2) => whN c body n ρ2
      | some (.ct ρ2) => whN c body n ρ2
      | some (.bk ρ2) => some (.nx ρ2)
      | r => r) else some (.nx ρ)
open Classical in
noncomputable def sWh (c : En → Res Bool) (body : En → Option Fl) : En → Option Fl := fun ρ => if h : ∃ n, whN c body n ρ ≠ none then whN c body (Classical.choose h) ρ else none
theorem whN_mono {c : En → Res Bool} {body : En → Option Fl} : ∀ (n k : Nat) (ρ : En) (r : Fl), whN c body n ρ = some r → whN c body (n + k) ρ = some r
  | 0, _, _, _, h => by cases h
  | n + 1, k, ρ, r, h => by
    rw [Nat.succ_add]
    simp only [whN] at h ⊢
    cases q : c ρ with
    | bad => rw [q] at h; exact h
    | er e => rw [q] at h; exact h
    | ok b =>
      rw [q] at h
      cases b with
      | false => exact h
      | true =>
        simp only [runE, if_true] at h ⊢
        cases q2 : body ρ with
        | none => rw [q2] at h; exact h
        | some f =>
          rw [q2] at h
          cases f with
          | nx ρ2 => exact whN_mono n k ρ2 r h
          | ct ρ2 => exact whN_mono n k ρ2 r h
          | _ => exact h
theorem sWh_eq {c : En → Res Bool} {body : En → Option Fl} {n : Nat} {ρ : En} {r : Fl} (h : whN c body n ρ = some r) : sWh c body ρ = some r := by
  unfold sWh
  have hex : ∃ n, whN c body n ρ ≠ none := ⟨n, by rw [h]; simp⟩
  rw [dif_pos hex]
  have h2 := Classical.choose_spec hex
  generalize Classical.choose hex = k at *
  cases q : whN c body k ρ with
  | none => exact absurd q h2
  | some r' =>
    have a := whN_mono n k ρ r h
    have b := whN_mono k n ρ r' q
    rw [Nat.add_comm, a] at b
    exact b.symm
theorem sWh_some {c : En → Res Bool} {body : En → Option Fl} {ρ : En} {r : Fl} (h : sWh c body ρ = some r) : ∃ n, whN c body n ρ = some r := by
  unfold sWh at h
  split at h
  · exact ⟨_, h⟩
  · cases h
end FL
namespace FL
open PySem L2
section
variable {X : Cx} {cl : Cl} {W : WX} {st : Stmt} {sts : List Stmt} {e : Expr} {pos pos' : Pos} {m : En → Res D} {mc : En → Res Cn} {s1 s2 ms : En → Option Fl} {mt : En → Res Bool} {mi : En → Res (List D)}
theorem SOk.same {K : PySem.W.Frag} {B F0 F F' H H' : Hp} {σ : L2.St} {ρ : En} (s : SOk K cl B F0 F σ H ρ) (g : Gr F H F' H') : Same F F' ∧ Same F' H' ∧ Same B H' ∧ ∀ a, B a ≠ none → F' a = F0 a := ⟨g.f, g.fh, s.bh.trans g.h, (s.grow g).bf⟩
/-- from a statement's wish to an expression's -/
theorem stepS {K : PySem.W.Frag} {B F0 F H : Hp} {σ : L2.St} {ρ : En} {r : Res D} {f : D → Option Fl} {D' : Ends} (s : SOk K cl B F0 F σ H ρ) (p : PostS K cl W B F0 σ F ρ (runE ρ r f) D') :
    PostE K cl W σ F H r fun v H' => ∃ d F', r = .ok d ∧ Gr F H F' H' ∧ Rp K cl F' v d ∧ PostS K cl W B F0 σ F' ρ (f d) D' := by
  cases r with
  | bad => exact p
  | er e => exact fun c dd F' H' g h => p c dd σ F' H' g.f (s.grow g) (.refl _ _) h
  | ok d => exact fun v F' H' g h => ⟨d, F', rfl, g, h, PostS.tr (r := f d) p g.f (.refl _ _)⟩
theorem stepSC {K : PySem.W.Frag} {B F0 F H : Hp} {σ : L2.St} {ρ : En} {r : Res Cn} {f : Cn → Option Fl} {D' : Ends} (s : SOk K cl B F0 F σ H ρ) (p : PostS K cl W B F0 σ F ρ (runE ρ r f) D') :
    PostC K cl W σ F H r fun v H' => ∃ c a o F', v = .ref a ∧ r = .ok c ∧ Gr F H F' H' ∧ H a = none ∧ F' a = none ∧ H' a = some o ∧ CnR K cl F' c o ∧ PostS K cl W B F0 σ F' ρ (f c) D' := by
  cases r with
  | bad => exact p
  | er e => exact fun c dd F' H' g h => p c dd σ F' H' g.f (s.grow g) (.refl _ _) h
  | ok d => exact fun a o F' H' g h1 h2 h3 h4 => ⟨d, a, o, F', rfl, rfl, g, h1, h2, h3, h4, PostS.tr (r := f d) p g.f (.refl _ _)⟩
theorem stepST {K : PySem.W.Frag} {B F0 F H : Hp} {σ : L2.St} {ρ : En} {r : Res Bool} {f : Bool → Option Fl} {D' : Ends} (s : SOk K cl B F0 F σ H ρ) (p : PostS K cl W B F0 σ F ρ (runE ρ r f) D') :
    PostT K cl W σ F H r fun b H' => ∃ F', Gr F H F' H' ∧ PostS K cl W B F0 σ F' ρ (f b) D' := by
  cases r with
  | bad => exact p
  | er e => exact fun c dd F' H' g h => p c dd σ F' H' g.f (s.grow g) (.refl _ _) h
  | ok d => exact fun F' H' g => ⟨F', g, PostS.tr (r := f d) p g.f (.refl _ _)⟩
theorem PostC.imp {K : PySem.W.Frag} {σ : L2.St} {F H : Hp} {r : Res Cn} {Q Q' : VK} (p : PostC K cl W σ F H r Q) (h : ∀ b H', Q b H' → Q' b H') : PostC K cl W σ F H r Q' := by
  cases r with
  | bad => exact p
  | er e => exact p
  | ok b => exact fun a o F' H' g h1 h2 h3 h4 => h _ _ (p a o F' H' g h1 h2 h3 h4)
theorem Lk.set {ρ : En} {σ : L2.St} {i : Nat} {x : Sl} {v : Option V} (h : isKeep x = false := by rfl) : Lk ρ σ (ρ.set i x) (σ.set i v) := fun j y e k => by
  by_cases z : j = i
  · subst z
    by_cases hl : j < ρ.length
    · rw [List.getElem?_set_self hl] at e; cases e; rw [h] at k; cases k
    · rw [List.getElem?_eq_none (by simpa using hl)] at e; cases e
  · rw [List.getElem?_set_ne (Ne.symm z)] at e ⊢
    exact ⟨⟨y, e, keepS.refl k⟩, rfl⟩
/-- a slot takes a fresh list or dict -/
theorem SOk.own {K : PySem.W.Frag} {B F0 F H H' F' : Hp} {σ : L2.St} {ρ : En} {i : Nat} {a : Addr} {o : HO} {c : Cn} (s : SOk K cl B F0 F σ H ρ) (g : Gr F H F' H') (hn : H a = none) (hf : F' a = none) (ho : H' a = some o) (hc : CnR K cl F' c o) :
    SOk K cl B F0 F' (σ.set i (some (.ref a))) H' (ρ.set i (.ow false c)) := by
  have s' := s.grow g
  have hB : B a = none := by
    cases e : B a with
    | none => rfl
    | some u => rw [s.bh a u e] at hn; cases hn
  have nota : ∀ (j : Nat) (b : Bool) (c : Cn), ρ[j]? = some (.ow b c) → σ[j]? ≠ some (some (.ref a)) := fun j b c e z => by
    obtain ⟨a', o', h1, h2, h3, h4, h5⟩ := s.ow j b c e
    rw [h1] at z; cases z
    rw [h4] at hn; cases hn
  refine ⟨s'.f0, s'.fh, s'.bh, s'.bf, by simpa using s'.len, fun j d e => ?_, fun j b c' e => ?_, fun j k b1 c1 b2 c2 x hjk e1 e2 e3 => ?_⟩
  · by_cases h : j = i
    · subst h
      by_cases hl : j < ρ.length
      · rw [List.getElem?_set_self hl] at e; cases e
      · rw [List.getElem?_eq_none (by simpa using hl)] at e; cases e
    · rw [List.getElem?_set_ne (Ne.symm h)] at e ⊢
      exact s'.im j d e
  · by_cases h : j = i
    · subst h
      by_cases hl : j < ρ.length
      · rw [List.getElem?_set_self hl] at e; cases e
        exact ⟨a, o, by rw [List.getElem?_set_self (by rw [s.len]; exact hl)], hf, hB, ho, hc⟩
      · rw [List.getElem?_eq_none (by simpa using hl)] at e; cases e
    · rw [List.getElem?_set_ne (Ne.symm h)] at e ⊢
      exact s'.ow j b c' e
  · have key : ∀ {j : Nat} {b : Bool} {c1 : Cn}, (ρ.set i (.ow false c))[j]? = some (.ow b c1) → (j = i ∧ j < ρ.length) ∨ (j ≠ i ∧ ρ[j]? = some (.ow b c1)) := fun {j b c1} e => by
      by_cases h : j = i
      · subst h
        by_cases hl : j < ρ.length
        · exact .inl ⟨rfl, hl⟩
        · rw [List.getElem?_eq_none (by simpa using hl)] at e; cases e
      · rw [List.getElem?_set_ne (Ne.symm h)] at e; exact .inr ⟨h, e⟩
    have hlen := s.len
    rcases key e1 with ⟨rfl, l1⟩ | ⟨n1, q1⟩
    · rcases key e2 with ⟨rfl, l2⟩ | ⟨n2, q2⟩
      · exact absurd rfl hjk
      · rw [List.getElem?_set_self (by omega)] at e3; cases e3
        rw [List.getElem?_set_ne (Ne.symm n2)]
        exact nota k _ _ q2
    · rw [List.getElem?_set_ne (Ne.symm n1)] at e3
      rcases key e2 with ⟨rfl, l2⟩ | ⟨n2, q2⟩
      · rw [List.getElem?_set_self (by omega)]
        intro z; cases z
        exact nota j _ _ q1 e3
      · rw [List.getElem?_set_ne (Ne.symm n2)]
        exact s'.ap j k b1 c1 b2 c2 x hjk q1 q2 e3
/-- what a slot owns has changed -/
theorem SOk.put {K : PySem.W.Frag} {B F0 F H : Hp} {σ : L2.St} {ρ : En} {i : Nat} {a : Addr} {o : HO} {b : Bool} {c c' : Cn} (s : SOk K cl B F0 F σ H ρ) (hi : ρ[i]? = some (.ow b c)) (ha : σ[i]? = some (some (.ref a))) (hc : CnR K cl F c' o) :
    SOk K cl B F0 F σ (upd H a o) (ρ.set i (.ow b c')) := by
  obtain ⟨a', o', h1, h2, h3, h4, h5⟩ := s.ow i b c hi
  rw [ha] at h1; cases h1
  have hl : i < ρ.length := (List.getElem?_eq_some_iff.mp hi).1
  refine ⟨s.f0, fun x u e => ?_, fun x u e => ?_, s.bf, by simpa using s.len, fun j d e => ?_, fun j b1 c1 e => ?_, fun j k b1 c1 b2 c2 x hjk e1 e2 e3 => ?_⟩
  · have : x ≠ a := fun z => by subst z; rw [h2] at e; cases e
    rw [upd_ne this]; exact s.fh _ _ e
  · have : x ≠ a := fun z => by subst z; rw [h3] at e; cases e
    rw [upd_ne this]; exact s.bh _ _ e
  · by_cases h : j = i
    · subst h; rw [List.getElem?_set_self hl] at e; cases e
    · rw [List.getElem?_set_ne (Ne.symm h)] at e
      exact s.im j d e
  · by_cases h : j = i
    · subst h; rw [List.getElem?_set_self hl] at e; cases e
      exact ⟨a, o, ha, h2, h3, upd_same, hc⟩
    · rw [List.getElem?_set_ne (Ne.symm h)] at e
      obtain ⟨x, u, q1, q2, q3, q4, q5⟩ := s.ow j b1 c1 e
      have : x ≠ a := fun z => by subst z; exact s.ap i j b c b1 c1 x (Ne.symm h) hi e ha q1
      exact ⟨x, u, q1, q2, q3, by rw [upd_ne this]; exact q4, q5⟩
  · have key : ∀ {j : Nat} {b' : Bool} {c1 : Cn}, (ρ.set i (.ow b c'))[j]? = some (.ow b' c1) → ∃ b'' c'', ρ[j]? = some (.ow b'' c'') := fun {j b' c1} e => by
      by_cases h : j = i
      · subst h; exact ⟨_, _, hi⟩
      · rw [List.getElem?_set_ne (Ne.symm h)] at e; exact ⟨_, _, e⟩
    obtain ⟨_, _, q1⟩ := key e1
    obtain ⟨_, _, q2⟩ := key e2
    exact s.ap j k _ _ _ _ x hjk q1 q2 e3
theorem ss_nil : SSs X cl W [] sNop := pss_nil.of fun D σ H ⟨B, F0, F, ρ, s, p⟩ => p σ F H (Same.refl _) s (.refl _ _)
theorem ss_cons (h1 : SS X cl W st s1) (h2 : SSs X cl W sts s2) : SSs X cl W (st :: sts) (sSeq s1 s2) := by
  refine (pss_cons h1 h2).of ?_
  rintro D σ H ⟨B, F0, F, ρ, s, p⟩
  refine ⟨B, F0, F, ρ, s, ?_⟩
  unfold sSeq at p
  cases q : s1 ρ with
  | none => rw [q] at p; exact p
  | some f =>
    rw [q] at p
    cases f with
    | nx ρ1 => exact fun σ1 F1 H1 m1 k1 l1 => ⟨B, F0, F1, ρ1, k1, PostS.tr (r := s2 ρ1) p m1 l1⟩
    | _ => exact p
theorem ss_one (h1 : SS X cl W st s1) : SSs X cl W [st] s1 := pss_one h1
theorem ss_pass : SS X cl W (.Pass pos) sNop := ps_pass.of fun D σ H ⟨B, F0, F, ρ, s, p⟩ => p σ F H (Same.refl _) s (.refl _ _)
theorem ss_break : SS X cl W (.Break pos) sBrk := ps_break.of fun D σ H ⟨B, F0, F, ρ, s, p⟩ => p σ F H (Same.refl _) s (.refl _ _)
theorem ss_continue : SS X cl W (.Continue pos) sCnt := ps_continue.of fun D σ H ⟨B, F0, F, ρ, s, p⟩ => p σ F H (Same.refl _) s (.refl _ _)
theorem set_in {i : Nat} : ∀ D σ H, tS X.K cl W (sSet i m) D σ H → tAsg (tM X.K cl W m) (gName i) D σ H := by
  rintro D σ H ⟨B, F0, F, ρ, s, p⟩
  refine ⟨B, F0, F, ρ, s, (stepS s p).imp ?_⟩
  rintro v H1 ⟨d, F1, e, g, r, p⟩
  exact p _ F1 H1 (Same.refl _) ((s.grow g).set i r) Lk.set
theorem own_in {i : Nat} : ∀ D σ H, tS X.K cl W (sOwn i mc) D σ H → tAsg (tC' X.K cl W mc) (gName i) D σ H := by
  rintro D σ H ⟨B, F0, F, ρ, s, p⟩
  refine ⟨B, F0, F, ρ, s, (stepSC s p).imp ?_⟩
  rintro v H1 ⟨c, a, o, F1, rfl, e, g, h1, h2, h3, h4, p⟩
  cases hc : c.isI with
  | true => rw [if_pos hc] at p; exact p.elim
  | false =>
    rw [if_neg (by rw [hc]; exact Bool.false_ne_true)] at p
    exact p _ F1 H1 (Same.refl _) (s.own g h1 h2 h3 h4) (Lk.set (by cases c <;> first | rfl | cases hc))
/-- x = e; h: the rule ps_set (or ps_setLc) over what e promises -/
theorem ss_set (i : Nat) (h : PS X st (tAsg (tM X.K cl W m) (gName i))) : SS X cl W st (sSet i m) := h.of set_in
theorem ss_own (i : Nat) (h : PS X st (tAsg (tC' X.K cl W mc) (gName i))) : SS X cl W st (sOwn i mc) := h.of own_in
/-- y = [..]: the list is this name's own -/
theorem fz_in {i : Nat} : ∀ D σ H, tS X.K cl W (sSet i (mFz mc)) D σ H → tAsg (tC' X.K cl W mc) (gName i) D σ H := by
  rintro D σ H ⟨B, F0, F, ρ, s, p⟩
  refine ⟨B, F0, F, ρ, s, ?_⟩
  unfold sSet mFz at p
  cases q : mc ρ with
  | bad => rw [q] at p; exact p
  | er e => rw [q] at p; exact fun c dd F' H' g h => p c dd σ F' H' g.f (s.grow g) (.refl _ _) h
  | ok c =>
    rw [q] at p
    intro a o F1 H1 g h1 h2 h3 h4
    have m1 : Same F1 (upd F1 a o) := fun b u e => by
      have : b ≠ a := fun z => by subst z; rw [h2] at e; cases e
      rw [upd_ne this]; exact e
    have g2 : Gr F H (upd F1 a o) H1 := ⟨g.f.trans m1, fun b u e => by
      by_cases z : b = a
      · subst z; rw [upd_same] at e; cases e; exact h3
      · rw [upd_ne z] at e; exact g.fh _ _ e, g.h, fun b hb => by
      have : b ≠ a := fun z => by subst z; exact hb h1
      rw [upd_ne this]; exact g.n b hb⟩
    exact p _ (upd F1 a o) H1 g2.f ((s.grow g2).set i ((h4.mono m1).rp upd_same)) Lk.set
theorem ss_setC (i : Nat) (h : PS X st (tAsg (tC' X.K cl W mc) (gName i))) : SS X cl W st (sSet i (mFz mc)) := h.of fz_in
theorem ss_asg {g : TG} {is : List Nat} {bt : D → En → Option En} (G : GOk X.K cl g is bt) (h : PS X st (tAsg (tM X.K cl W m) g)) : SS X cl W st (sAsg bt m) := by
  refine h.of ?_
  rintro D σ H ⟨B, F0, F, ρ, s, p⟩
  refine ⟨B, F0, F, ρ, s, (stepS s p).imp ?_⟩
  rintro v H1 ⟨d, F1, e, g1, r, p⟩
  cases q : bt d ρ with
  | none => rw [q] at p; exact p.elim
  | some ρ1 =>
    rw [q] at p
    refine G.run B F0 F1 σ H1 ρ v d ρ1 _ (s.grow g1) r q fun σ' s' hl hk => p σ' F1 H1 (Same.refl _) s' fun j c e kk => ?_
    by_cases hj : j ∈ is
    · cases c with
      | ow b' c' => exact absurd e (G.nol d ρ ρ1 q j hj b' c')
      | _ => cases kk
    · obtain ⟨k1, k2⟩ := hk j hj
      rw [k2] at e
      exact ⟨⟨c, e, keepS.refl kk⟩, k1⟩
theorem ss_ret (h : SE X cl W e m) : SS X cl W (.Return (some e) pos) (sRet m) := by
  refine (ps_ret h).of ?_
  rintro D σ H ⟨B, F0, F, ρ, s, p⟩
  refine ⟨B, F0, F, ρ, s, (stepS s p).imp ?_⟩
  rintro v H1 ⟨d, F1, e, g, r, p⟩
  obtain ⟨a1, a2, a3, a4⟩ := s.same g
  exact p v F1 H1 (Same.refl _) a2 a3 a4 r
theorem ss_retN : SS X cl W (.Return none pos) sRetN := ps_retN.of fun D σ H ⟨B, F0, F, ρ, s, p⟩ => p .non F H (Same.refl _) s.fh s.bh s.bf .non
theorem ss_exp (h : SE X cl W e m) (hs : swapsWith e none pos.line X.env = pure false := by rfl) : SS X cl W (.Expr e pos) (sExp m) := by
  refine (ps_expr h hs).of ?_
  rintro D σ H ⟨B, F0, F, ρ, s, p⟩
  refine ⟨B, F0, F, ρ, s, (stepS s p).imp ?_⟩
  rintro v H1 ⟨d, F1, e, g, r, p⟩
  exact p σ F1 H1 (Same.refl _) (s.grow g) (.refl _ _)
theorem ss_if {c : Expr} {a b : List Stmt} (hc : SB X cl W c mt) (ha : SSs X cl W a s1) (hb : SSs X cl W b s2) : SS X cl W (.If c a b pos) (sIf mt s1 s2) := by
  refine (ps_if hc ha hb).of ?_
  rintro D σ H ⟨B, F0, F, ρ, s, p⟩
  refine ⟨B, F0, F, ρ, s, (stepST s p).imp ?_⟩
  rintro k H1 ⟨F1, g, p⟩
  cases k with
  | true => exact ⟨B, F0, F1, ρ, s.grow g, p⟩
  | false => exact ⟨B, F0, F1, ρ, s.grow g, p⟩
theorem ss_for {tg iter : Expr} {body : List Stmt} {g : TG} {is : List Nat} {bt : D → En → Option En} (hp : PassesOwn (model X.prog X.w) X.A X.env X.xe) (hc : X.calm = true) (hi : SI X cl W tg iter mi) (G : GOk X.K cl g is bt) (hg : PG X tg g) (hb : SSs X cl W body s1)
    (hs : ∀ x, foldedSetIterable iter X.env x = pure x := by intro _; rfl) : SS X cl W (.For tg iter body [] pos) (sFor bt mi s1) := by
  refine (ps_for hp hc hi hg hb hs).of ?_
  rintro D σ H ⟨B, F0, F, ρ, s, p⟩
  refine ⟨B, F0, F, ρ, s, ?_⟩
  unfold sFor at p
  cases q : mi ρ with
  | bad => rw [q] at p; exact p
  | er e => rw [q] at p; exact fun c dd F' H' g h => p c dd σ F' H' g.f (s.grow g) (.refl _ _) h
  | ok ds =>
    rw [q] at p
    intro J F1 H1 g1 io
    have p : PostS X.K cl W B F0 σ F ρ (forL bt s1 ds ρ) D := p
    refine ⟨fun i m σc Hc => m = ds.length - i ∧ i ≤ ds.length ∧ ∃ Fc ρc, Same F1 Fc ∧ SOk X.K cl B F0 Fc σc Hc ρc ∧ PostS X.K cl W B F0 σc Fc ρc (forL bt s1 (ds.drop i) ρc) D,
      ⟨ds.length, by simp, Nat.zero_le _, F1, ρ, Same.refl _, s.grow g1, by rw [List.drop_zero]; exact p.tr g1.f (.refl _ _)⟩, ?_⟩
    rintro i m σc Hc ⟨rfl, hi, Fc, ρc, m1, sc, pc⟩
    by_cases hlt : i < ds.length
    · refine .inr ⟨io.go i Hc (m1.trans sc.fh) hlt, fun σ' H' => ∃ Fc ρc, Same F1 Fc ∧ SOk X.K cl B F0 Fc σ' H' ρc ∧ PostS X.K cl W B F0 σ' Fc ρc (forL bt s1 (ds.drop (i + 1)) ρc) D, ?_, ?_⟩
      · intro σ' H' h'
        exact ⟨ds.length - (i + 1), by omega, rfl, hlt, h'⟩
      intro x H' y
      obtain ⟨F2, g2, rx⟩ := io.yld i Hc x H' ds[i] Fc m1 sc.fh y (by simp [hlt])
      rw [List.drop_eq_getElem_cons hlt] at pc
      simp only [forL] at pc
      cases qb : bt ds[i] ρc with
      | none => rw [qb] at pc; exact pc.elim
      | some ρ1 =>
        rw [qb] at pc
        simp only at pc
        refine G.run B F0 F2 σc H' ρc x ds[i] ρ1 _ (sc.grow g2) rx qb fun σ2 k2 hl hk => ?_
        have l2 : Lk ρc σc ρ1 σ2 := fun j c e kk => by
          by_cases hj : j ∈ is
          · cases c with
            | ow b' c' => exact absurd e (G.nol _ ρc ρ1 qb j hj b' c')
            | _ => cases kk
          · obtain ⟨a1, a2⟩ := hk j hj
            rw [a2] at e
            exact ⟨⟨c, e, keepS.refl kk⟩, a1⟩
        refine ⟨B, F0, F2, ρ1, k2, ?_⟩
        cases qs : s1 ρ1 with
        | none => rw [qs] at pc; exact pc.elim
        | some f =>
          rw [qs] at pc
          cases f with
          | nx ρ2 => exact fun σ3 F3 H3 m3 k3 l3 => ⟨F3, ρ2, (m1.trans g2.f).trans m3, k3, PostS.tr (r := forL bt s1 (ds.drop (i + 1)) ρ2) pc (g2.f.trans m3) (l2.trans l3)⟩
          | ct ρ2 => exact fun σ3 F3 H3 m3 k3 l3 => ⟨F3, ρ2, (m1.trans g2.f).trans m3, k3, PostS.tr (r := forL bt s1 (ds.drop (i + 1)) ρ2) pc (g2.f.trans m3) (l2.trans l3)⟩
          | bk ρ2 => exact fun σ3 F3 H3 m3 k3 l3 => PostS.tr (r := some (.nx ρ2)) pc (g2.f.trans m3) (l2.trans l3) σ3 F3 H3 (Same.refl _) k3 (.refl _ _)
          | rt d => exact fun v F3 H3 m3 => pc v F3 H3 (g2.f.trans m3)
          | ex e ρ2 => exact fun c dd σ3 F3 H3 m3 k3 l3 => pc c dd σ3 F3 H3 (g2.f.trans m3) k3 (l2.trans l3)
    · have e : i = ds.length := by omega
      refine .inl ⟨io.stop i Hc (m1.trans sc.fh) e, ?_⟩
      subst e
      rw [List.drop_length] at pc
      exact pc σc Fc Hc (Same.refl _) sc (.refl _ _)
theorem ss_while {c : Expr} {body : List Stmt} (hp : PassesOwn (model X.prog X.w) X.A X.env X.xe) (hc : SB X cl W c mt) (hb : SSs X cl W body s1) : SS X cl W (.While c body [] pos) (sWh mt s1) := by
  refine (ps_while hp hc hb).of ?_
  rintro D σ H ⟨B, F0, F, ρ, s, p⟩
  cases q : sWh mt s1 ρ with
  | none => rw [q] at p; exact p.elim
  | some r =>
    rw [q] at p
    obtain ⟨n0, hn0⟩ := sWh_some q
    refine ⟨fun n σc Hc => ∃ Fc ρc r, SOk X.K cl B F0 Fc σc Hc ρc ∧ whN mt s1 n ρc = some r ∧ PostS X.K cl W B F0 σc Fc ρc (some r) D, ⟨n0, F, ρ, r, s, hn0, p⟩, ?_⟩
    rintro n σc Hc ⟨Fc, ρc, rc, sc, hn, pc⟩
    cases n with
    | zero => cases hn
    | succ n =>
      simp only [whN] at hn
      rw [← hn] at pc
      refine ⟨B, F0, Fc, ρc, sc, (stepST sc pc).imp ?_⟩
      rintro k H1 ⟨F1, g1, p1⟩
      cases k with
      | false => exact p1 σc F1 H1 (Same.refl _) (sc.grow g1) (.refl _ _)
      | true =>
        refine ⟨fun σ' H' => ∃ Fc ρc r, SOk X.K cl B F0 Fc σ' H' ρc ∧ whN mt s1 n ρc = some r ∧ PostS X.K cl W B F0 σ' Fc ρc (some r) D, fun σ' H' h' => ⟨n, Nat.lt_succ_self n, h'⟩, ?_⟩
        refine ⟨B, F0, F1, ρc, sc.grow g1, ?_⟩
        simp only [if_true] at p1
        cases qs : s1 ρc with
        | none => rw [qs] at p1; exact p1.elim
        | some f =>
          rw [qs] at p1
          cases f with
          | nx ρ2 =>
            intro σ3 F3 H3 m3 k3 l3
            have p1 : PostS X.K cl W B F0 σc F1 ρc (whN mt s1 n ρ2) D := p1
            cases q2 : whN mt s1 n ρ2 with
            | none => rw [q2] at p1; exact p1.elim
            | some r2 => rw [q2] at p1; exact ⟨F3, ρ2, r2, k3, q2, p1.tr m3 l3⟩
          | ct ρ2 =>
            intro σ3 F3 H3 m3 k3 l3
            have p1 : PostS X.K cl W B F0 σc F1 ρc (whN mt s1 n ρ2) D := p1
            cases q2 : whN mt s1 n ρ2 with
            | none => rw [q2] at p1; exact p1.elim
            | some r2 => rw [q2] at p1; exact ⟨F3, ρ2, r2, k3, q2, p1.tr m3 l3⟩
          | bk ρ2 => exact fun σ3 F3 H3 m3 k3 l3 => p1 σ3 F3 H3 m3 k3 l3
          | rt d => exact p1
          | ex e ρ2 => exact p1
end
/-! ## defs -/
def startE (n : Nat) (ds : List D) : En := ds.map .im ++ List.replicate (n - ds.length) .un
def runF (n : Nat) (ms : En → Option Fl) : List D → Res D := fun ds => match ms (startE n ds) with
  | some (.rt d) => .ok d
  | some (.nx _) => .ok .non
  | some (.ex e _) => .er e
  | _ => .bad
section
variable {P : Program} {w : World} {K : PySem.W.Frag} {mg : Str → Option Value} {base : Heap} {cl : Cl}
theorem start_ok {N : List Str} {vs : List V} {ds : List D} {F H : Hp} (m : Same F H) (r : RpA K cl F vs ds) (hl : vs.length ≤ N.length) : SOk K cl H F F (L2.start N vs) H (startE N.length ds) where
  f0 := Same.refl _
  fh := m
  bh := Same.refl _
  bf := fun _ _ => rfl
  len := by unfold L2.start startE; simp [r.length]
  im := fun i d e => by
    unfold startE at e
    by_cases hi : i < ds.length
    · rw [List.getElem?_append_left (by simpa using hi), List.getElem?_map] at e
      cases q : ds[i]? with
      | none => rw [q] at e; cases e
      | some d' =>
        rw [q] at e; cases e
        obtain ⟨v, h1, h2⟩ := r.get' q
        refine ⟨v, ?_, h2⟩
        unfold L2.start
        rw [List.getElem?_append_left (by simpa [r.length] using hi), List.getElem?_map, h1]; rfl
    · rw [List.getElem?_append_right (by simpa using hi), List.getElem?_replicate] at e
      split at e <;> cases e
  ow := fun i b c e => by
    unfold startE at e
    by_cases hi : i < ds.length
    · rw [List.getElem?_append_left (by simpa using hi), List.getElem?_map] at e
      cases q : ds[i]? with
      | none => rw [q] at e; cases e
      | some d' => rw [q] at e; cases e
    · rw [List.getElem?_append_right (by simpa using hi), List.getElem?_replicate] at e
      split at e <;> cases e
  ap := fun i j b c b' c' a _ e _ _ => by
    unfold startE at e
    by_cases hi : i < ds.length
    · rw [List.getElem?_append_left (by simpa using hi), List.getElem?_map] at e
      cases q : ds[i]? with
      | none => rw [q] at e; cases e
      | some d' => rw [q] at e; cases e
    · rw [List.getElem?_append_right (by simpa using hi), List.getElem?_replicate] at e
      split at e <;> cases e
theorem fn_ok {x qual : Str} {st : Stmt} {f : Addr} {fd : FuncData} {N ps : List Str} {k n nN : Nat} {ms : En → Option Fl} (F : Fun K x qual st f fd) (S : FnScope N ps (defScope st)) (hn : ps.length = n) (hN : N.length = nN)
    (body : ∀ (cdv : Value) (A : Around) (outer : List Env) (s : Shared) (H : Hp) (E : XK), Room k (A.deeper (PyProof.Rows.envOfC qual (defScope st) s.heap.objs.size f cdv)) →
      PassesOwn (model P w) (A.deeper (PyProof.Rows.envOfC qual (defScope st) s.heap.objs.size f cdv)) (PyProof.Rows.envOfC qual (defScope st) s.heap.objs.size f cdv) (cxOf (L2.CX P w) P w K mg base N qual (defScope st) f cdv A outer s H E).xe →
      Takes (cxOf (L2.CX P w) P w K mg base N qual (defScope st) f cdv A outer s H E) (fun cls d _ H => E cls d H) →
      PSs (cxOf (L2.CX P w) P w K mg base N qual (defScope st) f cdv A outer s H E) (defBody st) (tS K cl (fun cls d _ H => E cls d H) ms)) :
    FnOk P w K mg base (L2.CX P w) (k + 1) f fd ps (spOf K cl n (runF nN ms)) := by
  subst hn hN
  refine F.okX S (fun vs H Q E h => ?_) (fun cdv A outer s H vs Q E hr h => ?_)
  · obtain ⟨_, _, _, _, h, _⟩ := h
    exact h
  · obtain ⟨F1, ds, m, r, hl, h⟩ := h
    refine ⟨_, body cdv A outer s H E hr (passes_of rfl) (takes_of rfl rfl rfl rfl), H, F1, F1, _, start_ok m r (by
      have := congrArg List.length S.pre
      rw [List.length_take] at this
      omega), ?_⟩
    unfold runF at h
    cases q : ms (startE N.length ds) with
    | none => rw [q] at h; exact h.elim
    | some f =>
      rw [q] at h
      cases f with
      | rt d => exact fun v F' H' m1 m2 m3 m4 r' => h v F' H' ⟨m1, m2, m3, m4⟩ r'
      | nx ρ' => exact fun σ' F' H' m1 k1 _ => h .non F' H' ⟨m1, k1.fh, k1.bh, k1.bf⟩ .non
      | ex e ρ' => exact fun c dd σ' F' H' m1 k1 _ x => h c dd F' H' ⟨m1, k1.fh, k1.bh, k1.bf⟩ x
      | bk ρ' => exact h.elim
      | ct ρ' => exact h.elim
end
end FL
namespace FL
open PySem L2
/-! ## slots that own their list or dict -/
def frz1 (i : Nat) (ρ : En) : En := match ρ[i]? with
  | some (.ow _ c) => ρ.set i (.im c.d)
  | _ => ρ
def scalD : D → Bool
  | .non => true
  | .bl _ => true
  | .int _ => true
  | .str _ => true
  | _ => false
def mBor (i : Nat) (m : En → Res D) : En → Res D := fun ρ => match m (frz1 i ρ) with
  | .ok d => if scalD d then .ok d else .bad
  | _ => .bad
def mtBor (i : Nat) (m : En → Res Bool) : En → Res Bool := fun ρ => match m (frz1 i ρ) with
  | .ok b => .ok b
  | _ => .bad
def sFrz (i : Nat) (ms : En → Option Fl) : En → Option Fl := fun ρ => ms (frz1 i ρ)
def mIxO (i : Nat) (m : En → Res D) : En → Res D := fun ρ => match ρ[i]? with
  | some (.ow _ (.l ds)) => (m ρ).bind fun k => .ofO (fIx (.lst ds) k)
  | _ => .bad
def sApp (i : Nat) (ms : En → Res (List D)) : En → Option Fl := fun ρ => match ρ[i]? with
  | some (.ow false (.l ds)) => runE ρ (ms ρ) fun vs => match vs with
    | [d] => if ds.length < 16777215 then some (.nx (ρ.set i (.ow false (.l (ds ++ [d]))))) else none
    | _ => none
  | _ => none
def sIns (i : Nat) (ms : En → Res (List D)) : En → Option Fl := fun ρ => match ρ[i]? with
  | some (.ow false (.l ds)) => runE ρ (ms ρ) fun vs => match vs with
    | [.int k, d] => if ds.length < 16777215 ∧ 0 ≤ k ∧ k < 9223372036854775808 then some (.nx (ρ.set i (.ow false (.l (ds.take k.toNat ++ [d] ++ ds.drop k.toNat))))) else none
    | _ => none
  | _ => none
def sIdx (i : Nat) (mk mv : En → Res D) : En → Option Fl := fun ρ => match ρ[i]? with
  | some (.ow false (.l ds)) => runE ρ (mv ρ) fun d => runE ρ (mk ρ) fun k => match k with
    | .int k => match ixN ds.length k with
      | some j => some (.nx (ρ.set i (.ow false (.l (ds.set j d)))))
      | none => none
    | _ => none
  | _ => none
section
variable {κ : Type} [DecidableEq κ]
def putKs (ks : List κ) (k : κ) : List κ := if hasK ks k then ks else ks ++ [k]
def putVs (ks : List κ) (vs : List D) (k : κ) (v : D) : List D := if hasK ks k then List.zipWith (fun j d => if j = k then v else d) ks vs else vs ++ [v]
end
def sPut (i : Nat) (mk mv : En → Res D) : En → Option Fl := fun ρ => match ρ[i]? with
  | some (.ow false (.t ks vs)) => runE ρ (mv ρ) fun d => runE ρ (mk ρ) fun k => match k with
    | .tup es => match keysOf es with
      | some k => if ks.length < 16777215 then some (.nx (ρ.set i (.ow false (.t (putKs ks k) (putVs ks vs k d))))) else none
      | none => none
    | _ => none
  | some (.ow false (.k ks vs)) => runE ρ (mv ρ) fun d => runE ρ (mk ρ) fun k => match keyOf k with
    | some k => if ks.length < 16777215 then some (.nx (ρ.set i (.ow false (.k (putKs ks k) (putVs ks vs k d))))) else none
    | none => none
  | _ => none
def mEmpT : En → Res Cn := fun _ => .ok (.t [] [])
def mEmpK : En → Res Cn := fun _ => .ok (.k [] [])
section
variable {X : Cx} {cl : Cl} {W : WX} {st : Stmt} {sts : List Stmt} {e k : Expr} {pos pos' : Pos} {m mk mv : En → Res D} {ms : En → Res (List D)} {s1 s2 : En → Option Fl} {mt : En → Res Bool} {i : Nat}
theorem SOk.frz {K : PySem.W.Frag} {B F0 F H : Hp} {σ : L2.St} {ρ : En} (s : SOk K cl B F0 F σ H ρ) (i : Nat) : ∃ F1, Same F F1 ∧ SOk K cl B F0 F1 σ H (frz1 i ρ) := by
  unfold frz1
  split
  · rename_i b c hi
    obtain ⟨a, o, h1, h2, h3, h4, h5⟩ := s.ow i b c hi
    have hl : i < ρ.length := (List.getElem?_eq_some_iff.mp hi).1
    have m1 : Same F (upd F a o) := fun x u e => by
      have : x ≠ a := fun z => by subst z; rw [h2] at e; cases e
      rw [upd_ne this]; exact e
    refine ⟨upd F a o, m1, s.f0.trans m1, fun x u e => ?_, s.bh, fun x hx => ?_, by simpa using s.len, fun j d e => ?_, fun j b1 c1 e => ?_, fun j k b1 c1 b2 c2 x hjk e1 e2 e3 => ?_⟩
    · by_cases z : x = a
      · subst z; rw [upd_same] at e; cases e; exact h4
      · rw [upd_ne z] at e; exact s.fh _ _ e
    · have : x ≠ a := fun z => by subst z; exact hx h3
      rw [upd_ne this]; exact s.bf x hx
    · by_cases z : j = i
      · subst z; rw [List.getElem?_set_self hl] at e; cases e
        exact ⟨_, h1, (h5.mono m1).rp upd_same⟩
      · rw [List.getElem?_set_ne (Ne.symm z)] at e
        obtain ⟨v, q1, q2⟩ := s.im j d e
        exact ⟨v, q1, q2.mono m1⟩
    · by_cases z : j = i
      · subst z; rw [List.getElem?_set_self hl] at e; cases e
      · rw [List.getElem?_set_ne (Ne.symm z)] at e
        obtain ⟨x, u, q1, q2, q3, q4, q5⟩ := s.ow j b1 c1 e
        have : x ≠ a := fun w => by subst w; exact s.ap i j b c b1 c1 x (Ne.symm z) hi e h1 q1
        exact ⟨x, u, q1, by rw [upd_ne this]; exact q2, q3, q4, q5.mono m1⟩
    · have key : ∀ {j : Nat} {b' : Bool} {c1 : Cn}, (ρ.set i (.im c.d))[j]? = some (.ow b' c1) → ρ[j]? = some (.ow b' c1) := fun {j b' c1} e => by
        by_cases h : j = i
        · subst h; rw [List.getElem?_set_self hl] at e; cases e
        · rw [List.getElem?_set_ne (Ne.symm h)] at e; exact e
      exact s.ap j k _ _ _ _ x hjk (key e1) (key e2) e3
  · exact ⟨F, Same.refl _, s⟩
theorem scal_rp {K : PySem.W.Frag} {F F' : Hp} {v : V} {d : D} (h : scalD d = true) (r : Rp K cl F v d) : Rp K cl F' v d := by
  cases r <;> simp [scalD] at h <;> constructor
theorem so_bor (i : Nat) (h : SE X cl W e m) : SE X cl W e (mBor i m) := by
  refine PE.of h ?_
  rintro σ H Q ⟨B, F0, F, ρ, s, p⟩
  obtain ⟨F1, m1, s1⟩ := s.frz i
  refine ⟨B, F0, F1, _, s1, ?_⟩
  unfold mBor at p
  cases q : m (frz1 i ρ) with
  | bad => rw [q] at p; exact p.elim
  | er e => rw [q] at p; exact p.elim
  | ok d =>
    rw [q] at p
    intro v F' H' g r
    simp only at p
    split at p
    · rename_i hs
      exact p v F H' ⟨Same.refl _, (m1.trans g.f).trans g.fh, g.h, fun _ _ => rfl⟩ (scal_rp hs r)
    · exact p.elim
theorem sb_bor (i : Nat) (h : SB X cl W e mt) : SB X cl W e (mtBor i mt) := by
  refine PT.of h ?_
  rintro σ H Q ⟨B, F0, F, ρ, s, p⟩
  obtain ⟨F1, m1, s1⟩ := s.frz i
  refine ⟨B, F0, F1, _, s1, ?_⟩
  unfold mtBor at p
  cases q : mt (frz1 i ρ) with
  | bad => rw [q] at p; exact p.elim
  | er e => rw [q] at p; exact p.elim
  | ok d =>
    rw [q] at p
    exact fun F' H' g => p F H' ⟨Same.refl _, (m1.trans g.f).trans g.fh, g.h, fun _ _ => rfl⟩
theorem ss_frz (i : Nat) (h : SS X cl W st s1) : SS X cl W st (sFrz i s1) := by
  refine PS.of h ?_
  rintro D σ H ⟨B, F0, F, ρ, s, p⟩
  obtain ⟨F1, m1, k1⟩ := s.frz i
  refine ⟨B, F0, F1, _, k1, PostS.tr (r := s1 (frz1 i ρ)) p m1 fun j c e kk => ?_⟩
  unfold frz1 at e
  split at e
  · rename_i b c' hi
    have hl : i < ρ.length := (List.getElem?_eq_some_iff.mp hi).1
    by_cases z : j = i
    · subst z; rw [List.getElem?_set_self hl] at e; cases e; cases kk
    · rw [List.getElem?_set_ne (Ne.symm z)] at e; exact ⟨⟨c, e, keepS.refl kk⟩, rfl⟩
  · exact ⟨⟨c, e, keepS.refl kk⟩, rfl⟩
theorem sss_frz (i : Nat) (h : SSs X cl W sts s1) : SSs X cl W sts (sFrz i s1) := by
  refine PSs.of h ?_
  rintro D σ H ⟨B, F0, F, ρ, s, p⟩
  obtain ⟨F1, m1, k1⟩ := s.frz i
  refine ⟨B, F0, F1, _, k1, PostS.tr (r := s1 (frz1 i ρ)) p m1 fun j c e kk => ?_⟩
  unfold frz1 at e
  split at e
  · rename_i b c' hi
    have hl : i < ρ.length := (List.getElem?_eq_some_iff.mp hi).1
    by_cases z : j = i
    · subst z; rw [List.getElem?_set_self hl] at e; cases e; cases kk
    · rw [List.getElem?_set_ne (Ne.symm z)] at e; exact ⟨⟨c, e, keepS.refl kk⟩, rfl⟩
  · exact ⟨⟨c, e, keepS.refl kk⟩, rfl⟩
/-- x[k] of an owned list -/
theorem so_ixO {a : Expr} (i : Nat) (ha : PE X a (tVar i)) (hb : SE X cl W k mk) (hs : PlainIx k) : SE X cl W (.Subscript a k pos) (mIxO i mk) := by
  refine (pe_ix ix_U ha hb hs).of ?_
  rintro σ H Q ⟨B, F0, F, ρ, s, p⟩
  unfold mIxO at p
  split at p
  · rename_i b ds hi
    obtain ⟨a, o, h1, h2, h3, h4, vs, rfl, h5⟩ := s.ow i b _ hi
    refine ⟨_, h1, B, F0, F, ρ, s, (step1 s p).imp ?_⟩
    rintro v H1 ⟨d, F1, e, g, r, p⟩
    cases r with
    | int j =>
      have p : PostO X.K cl F1 H1 (atI ds j) Q := PostO.of (r := fIx (.lst ds) (.int j)) p
      cases q : atI ds j with
      | none => rw [q] at p; exact p.elim
      | some d =>
        rw [q] at p
        obtain ⟨v, q1, q2⟩ := atI_rp (h5.mono g.f) q
        exact .inl ⟨_, _, _, _, rfl, rfl, .of (g.h _ _ h4), q1, p.int g.fh q2⟩
    | _ => exact p.elim
  · exact p.elim
/-- from a statement's wish to an argument list's -/
theorem stepSA {K : PySem.W.Frag} {B F0 F H : Hp} {σ : L2.St} {ρ : En} {r : Res (List D)} {f : List D → Option Fl} {D' : Ends} (s : SOk K cl B F0 F σ H ρ) (p : PostS K cl W B F0 σ F ρ (runE ρ r f) D') :
    PostA K cl W σ F H r fun v H' => ∃ d F', r = .ok d ∧ Gr F H F' H' ∧ RpA K cl F' v d ∧ PostS K cl W B F0 σ F' ρ (f d) D' := by
  cases r with
  | bad => exact p
  | er e => exact fun c dd F' H' g h => p c dd σ F' H' g.f (s.grow g) (.refl _ _) h
  | ok d => exact fun v F' H' g h => ⟨d, F', rfl, g, h, PostS.tr (r := f d) p g.f (.refl _ _)⟩
theorem Lk.put {ρ : En} {σ : L2.St} {i : Nat} {x : Sl} (h : isKeep x = false ∨ ∃ y, ρ[i]? = some y ∧ keepS x y := by exact .inl rfl) : Lk ρ σ (ρ.set i x) σ := fun j y e k => by
  by_cases z : j = i
  · subst z
    by_cases hl : j < ρ.length
    · rw [List.getElem?_set_self hl] at e; cases e
      rcases h with h | h
      · rw [h] at k; cases k
      · exact ⟨h, rfl⟩
    · rw [List.getElem?_eq_none (by simpa using hl)] at e; cases e
  · rw [List.getElem?_set_ne (Ne.symm z)] at e
    exact ⟨⟨y, e, keepS.refl k⟩, rfl⟩
theorem ss_app (i : Nat) (h : PS X st (tDrop (tBM X.K "list" rAppend (tVar i) (tA X.K cl W ms)))) : SS X cl W st (sApp i ms) := by
  refine h.of ?_
  rintro D σ H ⟨B, F0, F, ρ, s, p⟩
  unfold sApp at p
  split at p
  · rename_i ds hi
    obtain ⟨a, o, h1, h2, h3, h4, vs, rfl, h5⟩ := s.ow i _ _ hi
    refine ⟨_, h1, .inl ⟨rfl, _, .of h4⟩, B, F0, F, ρ, s, (stepSA s p).imp ?_⟩
    rintro us H1 ⟨es, F1, e, g, r, p⟩
    split at p
    · rename_i d
      obtain ⟨v, rfl, r2⟩ := r.one
      split at p
      · rename_i hl
        refine ⟨a, vs, v, rfl, rfl, g.h _ _ h4, by rw [h5.length, sizeLine_eq]; omega, ?_⟩
        exact p σ F1 _ (Same.refl _) ((s.grow g).put hi h1 ⟨_, rfl, (h5.mono g.f).app (.cons r2 .nil)⟩) Lk.put
      · exact p.elim
    · exact p.elim
  · exact p.elim
theorem p63 : (2 : Int) ^ 63 = 9223372036854775808 := by decide
theorem ss_ins (i : Nat) (h : PS X st (tDrop (tBM X.K "list" (fun x vs H Q => ∃ (l : Addr) (xs : List V) (i : Int) (y : V), x = .ref l ∧ vs = [.int i, y] ∧ H l = some (.lst xs) ∧ xs.length < sizeLine ∧ 0 ≤ i ∧ i < 2 ^ 63 ∧
    Q .non (upd H l (.lst (xs.take i.toNat ++ [y] ++ xs.drop i.toNat)))) (tVar i) (tA X.K cl W ms)))) : SS X cl W st (sIns i ms) := by
  refine h.of ?_
  rintro D σ H ⟨B, F0, F, ρ, s, p⟩
  unfold sIns at p
  split at p
  · rename_i ds hi
    obtain ⟨a, o, h1, h2, h3, h4, vs, rfl, h5⟩ := s.ow i _ _ hi
    refine ⟨_, h1, .inl ⟨rfl, _, .of h4⟩, B, F0, F, ρ, s, (stepSA s p).imp ?_⟩
    rintro us H1 ⟨es, F1, e, g, r, p⟩
    split at p
    · rename_i k d
      obtain ⟨v, u, rfl, r1, r2⟩ := r.two
      cases r1
      split at p
      · rename_i hl
        refine ⟨a, vs, k, u, rfl, rfl, g.h _ _ h4, by rw [h5.length, sizeLine_eq]; omega, hl.2.1, by rw [p63]; exact hl.2.2, ?_⟩
        have h6 := h5.mono g.f
        exact p σ F1 _ (Same.refl _) ((s.grow g).put hi h1 ⟨_, rfl, ((h6.take _).app (.cons r2 .nil)).app (h6.drop _)⟩) Lk.put
      · exact p.elim
    · exact p.elim
  · exact p.elim
theorem ss_idx (i : Nat) (h : PS X st (tAsg (tM X.K cl W mv) (gSub (tVar i) (tM X.K cl W mk) rSetL))) : SS X cl W st (sIdx i mk mv) := by
  refine h.of ?_
  rintro D σ H ⟨B, F0, F, ρ, s, p⟩
  unfold sIdx at p
  split at p
  · rename_i ds hi
    obtain ⟨a, o, h1, h2, h3, h4, vs, rfl, h5⟩ := s.ow i _ _ hi
    refine ⟨B, F0, F, ρ, s, (stepS s p).imp ?_⟩
    rintro v H1 ⟨d, F1, e, g, r, p⟩
    refine ⟨_, h1, B, F0, F1, ρ, s.grow g, (stepS (s.grow g) p).imp ?_⟩
    rintro u H2 ⟨dk, F2, e2, g2, r2, p⟩
    have sg := (s.grow g).grow g2
    cases r2 with
    | int kk =>
      simp only at p
      split at p
      · rename_i j hj
        have h6 := (h5.mono g.f).mono g2.f
        refine ⟨a, vs, kk, j, rfl, rfl, g2.h _ _ (g.h _ _ h4), by rw [h5.length]; exact hj, ?_⟩
        exact p σ F2 _ (Same.refl _) (sg.put hi h1 ⟨_, rfl, h6.set j (r.mono g2.f)⟩) Lk.put
      · exact p.elim
    | _ => exact p.elim
  · exact p.elim
section
variable {κ : Type} [DecidableEq κ] {K : PySem.W.Frag} {F : Hp}
theorem any_has (k : κ) (kvs : List (κ × V)) : (kvs.any fun kv => decide (kv.1 = k)) = hasK (kvs.map (·.1)) k := by
  unfold hasK
  rw [List.any_map]
  rfl
theorem putK_rp {kvs : List (κ × V)} {vs : List D} {k : κ} {v : V} {d : D} (h : RpA K cl F (kvs.map (·.2)) vs) (r : Rp K cl F v d) :
    (putK kvs k v).map (·.1) = putKs (kvs.map (·.1)) k ∧ RpA K cl F ((putK kvs k v).map (·.2)) (putVs (kvs.map (·.1)) vs k d) := by
  unfold putK putKs putVs
  rw [any_has]
  split
  · constructor
    · rw [List.map_map]
      apply List.map_congr_left
      intro p _
      simp only [Function.comp]
      split <;> rfl
    · rename_i hh
      clear hh
      induction kvs generalizing vs with
      | nil => cases h; exact .nil
      | cons p t ih =>
        cases h with
        | cons a b =>
          simp only [List.map_cons, List.zipWith_cons_cons]
          by_cases e : p.1 = k
          · simp only [if_pos e]
            exact .cons r (ih b)
          · simp only [if_neg e]
            exact .cons a (ih b)
  · constructor
    · simp
    · rw [List.map_append]
      exact h.app (.cons r .nil)
end
theorem ss_put (i : Nat) (h : PS X st (sDPut (tVar i) (tM X.K cl W mk) (tM X.K cl W mv))) : SS X cl W st (sPut i mk mv) := by
  refine h.of ?_
  rintro D σ H ⟨B, F0, F, ρ, s, p⟩
  unfold sPut at p
  split at p
  · rename_i ks vs hi
    obtain ⟨a, o, h1, h2, h3, h4, kvs, rfl, rfl, h5⟩ := s.ow i _ _ hi
    refine ⟨B, F0, F, ρ, s, (stepS s p).imp ?_⟩
    rintro v H1 ⟨d, F1, e, g, r, p⟩
    refine ⟨_, h1, B, F0, F1, ρ, s.grow g, (stepS (s.grow g) p).imp ?_⟩
    rintro u H2 ⟨dk, F2, e2, g2, r2, p⟩
    have sg := (s.grow g).grow g2
    cases r2 with
    | tup ha hr =>
      simp only at p
      split at p
      · rename_i k hk
        have := keysOf_rp hr hk; subst this
        split at p
        · rename_i hl
          have h6 := (h5.mono g.f).mono g2.f
          obtain ⟨q1, q2⟩ := putK_rp (k := k) h6 (r.mono g2.f)
          refine ⟨a, _, rfl, .t (g2.h _ _ (g.h _ _ h4)) (g2.fh _ _ ha) (by rw [sizeLine_eq]; rw [List.length_map] at hl; omega), ?_⟩
          exact p σ F2 _ (Same.refl _) (sg.put hi h1 ⟨_, rfl, q1, q2⟩) Lk.put
        · exact p.elim
      · exact p.elim
    | _ => exact p.elim
  · rename_i ks vs hi
    obtain ⟨a, o, h1, h2, h3, h4, kvs, rfl, rfl, h5⟩ := s.ow i _ _ hi
    refine ⟨B, F0, F, ρ, s, (stepS s p).imp ?_⟩
    rintro v H1 ⟨d, F1, e, g, r, p⟩
    refine ⟨_, h1, B, F0, F1, ρ, s.grow g, (stepS (s.grow g) p).imp ?_⟩
    rintro u H2 ⟨dk, F2, e2, g2, r2, p⟩
    have sg := (s.grow g).grow g2
    split at p
    · rename_i k hk
      have := keyOf_rp r2 hk; subst this
      split at p
      · rename_i hl
        have h6 := (h5.mono g.f).mono g2.f
        obtain ⟨q1, q2⟩ := putK_rp (k := k) h6 (r.mono g2.f)
        refine ⟨a, _, rfl, .k (g2.h _ _ (g.h _ _ h4)) (by rw [sizeLine_eq]; rw [List.length_map] at hl; omega), ?_⟩
        exact p σ F2 _ (Same.refl _) (sg.put hi h1 ⟨_, rfl, q1, q2⟩) Lk.put
      · exact p.elim
    · exact p.elim
  · exact p.elim
theorem sc_empT : SC X cl W (.Dict [] [] pos) mEmpT := pe_dnewT.of fun σ H Q ⟨B, F0, F, ρ, s, p⟩ q hq => PostC.put (c := .t [] []) p s.fh hq ⟨[], rfl, rfl, .nil⟩
theorem sc_empK : SC X cl W (.Dict [] [] pos) mEmpK := pe_dnewK.of fun σ H Q ⟨B, F0, F, ρ, s, p⟩ q hq => PostC.put (c := .k [] []) p s.fh hq ⟨[], rfl, rfl, .nil⟩
end
end FL
namespace FL
open PySem L2
abbrev mI (n : Int) : En → Res D := mC (.int n)
abbrev mBl (b : Bool) : En → Res D := mC (.bl b)
abbrev mNone : En → Res D := mC .non
abbrev mStr (x : Str) : En → Res D := mC (.str x)
theorem bt_len : bootBuiltins "len" = some (.builtin "len") := by decide +kernel
theorem bt_abs : bootBuiltins "abs" = some (.builtin "abs") := by decide +kernel
theorem bt_sum : bootBuiltins "sum" = some (.builtin "sum") := by decide +kernel
theorem bt_min : bootBuiltins "min" = some (.builtin "min") := by decide +kernel
theorem bt_max : bootBuiltins "max" = some (.builtin "max") := by decide +kernel
theorem bt_any : bootBuiltins "any" = some (.builtin "any") := by decide +kernel
theorem bt_all : bootBuiltins "all" = some (.builtin "all") := by decide +kernel
theorem bt_sorted : bootBuiltins "sorted" = some (.builtin "sorted") := by decide +kernel
theorem bt_int : bootBuiltins "int" = some (.type "int") := by decide +kernel
theorem bt_bool : bootBuiltins "bool" = some (.type "bool") := by decide +kernel
theorem bt_str : bootBuiltins "str" = some (.type "str") := by decide +kernel
theorem bt_tuple : bootBuiltins "tuple" = some (.type "tuple") := by decide +kernel
theorem bt_list : bootBuiltins "list" = some (.type "list") := by decide +kernel
section
variable {X : Cx} {cl : Cl} {W : WX} {elt tg iter : Expr} {ifs : List Expr} {scope : Scope} {own : List (Str × Nat)} {pos spos : Pos} {is : List Nat} {g : TG} {bt : D → En → Option En} {mi : En → Res (List D)} {mt : En → Res Bool} {me : En → Res D}
/-- y = [..] on one line, y a plain local: y owns the list, or it is frozen -/
theorem ss_lcO {i : Nat} {y : Str} {py : Pos} (hc : X.calm = true) (hN : X.N.Nodup) (hy : X.N[i]? = some y) (hyl : X.env.scope.names.lookup y = some .local)
    (hsw : swapsWith (.ListComp elt [⟨tg, iter, ifs, 0⟩] scope pos) (some (.Name y py)) spos.line X.env = pure true) (G : GOk X.K cl g is bt) (hsub : (is.all fun i => (own.map (·.2)).contains i) = true) (hi : SI X cl W tg iter mi) (ok : BlkOk X.N X.env.scope scope own)
    (hg : ∀ (s : Shared) (H : Hp) (C : Addr) (ce : List (Str × Addr)) (fp : List Addr), PG (X.blk s H scope (compEnvC scope ce C X.env) fp) tg g)
    (ht : ∀ (s : Shared) (H : Hp) (C : Addr) (ce : List (Str × Addr)) (fp : List Addr), PTs (X.blk s H scope (compEnvC scope ce C X.env) fp) ifs (tTs X.K cl mt))
    (he : ∀ (s : Shared) (H : Hp) (C : Addr) (ce : List (Str × Addr)) (fp : List Addr), PE (X.blk s H scope (compEnvC scope ce C X.env) fp) elt (tM X.K cl W0 me)) (hs : ∀ x, foldedSetIterable iter X.env x = pure x := by intro _; rfl) :
    SS X cl W (.Assign [.Name y py] (.ListComp elt [⟨tg, iter, ifs, 0⟩] scope pos) spos) (sOwn i (mLc bt (own.map (·.2)) mi mt me)) :=
  (ps_setLc (i := i) hc hN hy hyl hsw hi ok hg ht he hs).of fun D σ H h => lc_in G (fun i hi => by simpa using (List.all_eq_true.mp hsub i hi)) σ H _ (own_in D σ H h)
theorem ss_lcF {i : Nat} {y : Str} {py : Pos} (hc : X.calm = true) (hN : X.N.Nodup) (hy : X.N[i]? = some y) (hyl : X.env.scope.names.lookup y = some .local)
    (hsw : swapsWith (.ListComp elt [⟨tg, iter, ifs, 0⟩] scope pos) (some (.Name y py)) spos.line X.env = pure true) (G : GOk X.K cl g is bt) (hsub : (is.all fun i => (own.map (·.2)).contains i) = true) (hi : SI X cl W tg iter mi) (ok : BlkOk X.N X.env.scope scope own)
    (hg : ∀ (s : Shared) (H : Hp) (C : Addr) (ce : List (Str × Addr)) (fp : List Addr), PG (X.blk s H scope (compEnvC scope ce C X.env) fp) tg g)
    (ht : ∀ (s : Shared) (H : Hp) (C : Addr) (ce : List (Str × Addr)) (fp : List Addr), PTs (X.blk s H scope (compEnvC scope ce C X.env) fp) ifs (tTs X.K cl mt))
    (he : ∀ (s : Shared) (H : Hp) (C : Addr) (ce : List (Str × Addr)) (fp : List Addr), PE (X.blk s H scope (compEnvC scope ce C X.env) fp) elt (tM X.K cl W0 me)) (hs : ∀ x, foldedSetIterable iter X.env x = pure x := by intro _; rfl) :
    SS X cl W (.Assign [.Name y py] (.ListComp elt [⟨tg, iter, ifs, 0⟩] scope pos) spos) (sSet i (mFz (mLc bt (own.map (·.2)) mi mt me))) :=
  (ps_setLc (i := i) hc hN hy hyl hsw hi ok hg ht he hs).of fun D σ H h => lc_in G (fun i hi => by simpa using (List.all_eq_true.mp hsub i hi)) σ H _ (fz_in D σ H h)
end
end FL
namespace FL
open PySem L2
theorem bt_ValueError : bootBuiltins "ValueError" = some (.type "ValueError") := by decide +kernel
/-! ## exceptions -/
mutual
def noX : D → Bool
  | .exc _ _ _ => false
  | .lst ds => noXA ds
  | .tup ds => noXA ds
  | .dik _ ds => noXA ds
  | .dit _ ds => noXA ds
  | .ins _ _ ds => noXA ds
  | _ => true
def noXA : List D → Bool
  | [] => true
  | d :: ds => noX d && noXA ds
end
def noXC (c : Cn) : Bool := noX c.d
def noXS : Sl → Bool
  | .un => true
  | .im d => noX d
  | .ow _ c => noXC c
def noXE (ρ : En) : Bool := ρ.all noXS
abbrev Cl.ex (cl : Cl) (a : Addr) (cls : Value) (d : Option Addr) : Cl := ⟨cl.ad, some (a, cls, d)⟩
section
variable {K : PySem.W.Frag} {cl cl' : Cl} {F : Hp}
mutual
theorem Rp.cv (ha : cl'.ad = cl.ad) : ∀ {d : D} {v : V}, cl.xa = none ∨ noX d = true → Rp K cl F v d → Rp K cl' F v d
  | .non, _, _, h => by cases h; exact .non
  | .bl _, _, _, h => by cases h; exact .bl _
  | .int _, _, _, h => by cases h; exact .int _
  | .str _, _, _, h => by cases h; exact .str _
  | .lst ds, _, n, h => by cases h with | lst a b => exact .lst a (RpA.cv ha n b)
  | .tup ds, _, n, h => by cases h with | tup a b => exact .tup a (RpA.cv ha n b)
  | .scr ns, _, _, h => by cases h with | scr a => exact .scr a
  | .dik ks ds, _, n, h => by cases h with | dik a e b => exact .dik a e (RpA.cv ha n b)
  | .dit ks ds, _, n, h => by cases h with | dit a e b => exact .dit a e (RpA.cv ha n b)
  | .ins c ns ds, _, n, h => by cases h with | ins a e b => exact .ins (by rw [ha]; exact a) e (RpA.cv ha n b)
  | .exc c ns ds, _, n, h => by
    rcases n with n | n
    · cases h with
      | xc0 z => rw [n] at z; cases z
      | xc1 z a e b => rw [n] at z; cases z
    · cases n
theorem RpA.cv (ha : cl'.ad = cl.ad) : ∀ {ds : List D} {vs : List V}, cl.xa = none ∨ noXA ds = true → RpA K cl F vs ds → RpA K cl' F vs ds
  | [], _, _, h => by cases h; exact .nil
  | d :: ds, _, n, h => by
    cases h with
    | cons a b =>
      refine .cons (Rp.cv ha ?_ a) (RpA.cv ha ?_ b)
      · rcases n with n | n
        · exact .inl n
        · exact .inr (Bool.and_eq_true_iff.mp n).1
      · rcases n with n | n
        · exact .inl n
        · exact .inr (Bool.and_eq_true_iff.mp n).2
end
theorem CnR.cv {c : Cn} {o : HO} (ha : cl'.ad = cl.ad) (n : cl.xa = none ∨ noXC c = true) (h : CnR K cl F c o) : CnR K cl' F c o := by
  cases c with
  | l ds => obtain ⟨vs, e, h⟩ := h; exact ⟨vs, e, h.cv ha n⟩
  | t ks ds => obtain ⟨vs, e, e2, h⟩ := h; exact ⟨vs, e, e2, h.cv ha n⟩
  | k ks ds => obtain ⟨vs, e, e2, h⟩ := h; exact ⟨vs, e, e2, h.cv ha n⟩
  | i c ns ds => obtain ⟨dx, fs, e, e2, h⟩ := h; exact ⟨dx, fs, by rw [ha]; exact e, e2, h.cv ha n⟩
theorem SOk.cv {B F0 F H : Hp} {σ : L2.St} {ρ : En} (ha : cl'.ad = cl.ad) (n : cl.xa = none ∨ noXE ρ = true) (s : SOk K cl B F0 F σ H ρ) : SOk K cl' B F0 F σ H ρ := by
  have key : ∀ {i : Nat} {x : Sl}, ρ[i]? = some x → cl.xa = none ∨ noXS x = true := fun {i x} e => by
    rcases n with n | n
    · exact .inl n
    · exact .inr (List.all_eq_true.mp n x (List.mem_of_getElem? e))
  refine ⟨s.f0, s.fh, s.bh, s.bf, s.len, fun i d e => ?_, fun i b c e => ?_, s.ap⟩
  · obtain ⟨v, h1, h2⟩ := s.im i d e
    exact ⟨v, h1, h2.cv ha (key e)⟩
  · obtain ⟨a, o, h1, h2, h3, h4, h5⟩ := s.ow i b c e
    exact ⟨a, o, h1, h2, h3, h4, h5.cv ha (key e)⟩
end
/-- raise C() -/
def sRaise0 (c : Nat) : En → Option Fl := fun ρ => some (.ex (.exc c [] []) ρ)
def excOf : D → Option Nat
  | .exc c _ _ => some c
  | _ => none
abbrev XT := List (Nat × Bool)
def XTab (P : Nat → Bool → Prop) (l : XT) : Prop := ∀ k b, l.lookup k = some b → P k b
theorem xt_nil {P : Nat → Bool → Prop} : XTab P [] := fun k b h => by cases h
theorem xt_cons {P : Nat → Bool → Prop} {k : Nat} {b : Bool} {l : XT} (h : P k b) (t : XTab P l) : XTab P ((k, b) :: l) := fun j c e => by
  by_cases q : j = k
  · subst q
    have : some b = some c := by simpa [List.lookup] using e
    cases this
    exact h
  · have q2 : (j == k) = false := by simpa using q
    simp only [List.lookup, q2] at e
    exact t j c e
/-- what an exception class must say, so that isinstance asks its instances rightly -/
structure XcC (K : PySem.W.Frag) (C : Addr) : Prop where
  hd : PySem.W.hasDictIn K C = true
  hg : PySem.W.findIn K (.ref C) "__getattribute__" = some (some (.builtin "BaseException.__getattribute__"))
  hk : PySem.W.findIn K (.ref C) "__getattr__" = some none
  hs : PySem.W.subIn K (.ref C) (.type "BaseException") = some true
  ha : PySem.W.findIn K (.ref C) "__class__" = some (some (.builtin "object.__class__"))
  hn : PySem.W.specialIn K (.builtin "object.__class__") "__get__" = some (some (.builtin "getset_descriptor.__get__"))
  ht : PySem.W.takesIn K (.builtin "object.__class__") = some true
  hm : PySem.W.mroIn K C (.type "object") = some true
def xIn (l : XT) (d : D) : Option Bool := (excOf d).bind fun c => l.lookup c
/-- a suite's end: the name is gone, nothing holds the exception -/
def backX (i : Nat) : Option Fl → Option Fl
  | some (.nx ρ) => if noXE (ρ.set i .un) then some (.nx (ρ.set i .un)) else none
  | some (.bk ρ) => if noXE (ρ.set i .un) then some (.bk (ρ.set i .un)) else none
  | some (.ct ρ) => if noXE (ρ.set i .un) then some (.ct (ρ.set i .un)) else none
  | some (.rt d) => if noX d then some (.rt d) else none
  | _ => none
def sTry (i : Nat) (l : XT) (mb ms : En → Option Fl) : En → Option Fl := fun ρ => match mb ρ with
  | some (.ex e ρ1) => match xIn l e with
    | some true => backX i (ms (ρ1.set i (.im e)))
    | some false => some (.ex e ρ1)
    | none => none
  | r => r
def mIsX (l : XT) (m : En → Res D) : En → Res D := fun ρ => (m ρ).bind fun d => match xIn l d with
  | some b => .ok (.bl b)
  | none => .bad
def fld (f : Str) : List Str → List D → Option D
  | n :: ns, d :: ds => if f = n then some d else fld f ns ds
  | _, _ => none
def fldX (f : Str) : D → Option D
  | .exc _ ns ds => fld f ns ds
  | _ => none
def mXf (f : Str) (m : En → Res D) : En → Res D := fun ρ => (m ρ).bind fun d => .ofO (fldX f d)
section
variable {X : Cx} {cl : Cl} {W : WX} {pos pos' np p p2 px rp : Pos} {x n : Str} {i : Nat} {e : Expr} {m : En → Res D}
/-- C(): an own exception class without own __init__ -/
theorem pm_bare {C : Addr} {bmB : List Value} {B newId initId : String} (F : ExcBaseFacts B newId initId bmB) (q : PySem.W.excIn X.K C bmB newId = true) (gC : X.mg x = some (.ref C)) (kC : PySem.W.keepIn X.K (.ref C) = true) (r : Raises X (.ref C)) (hg : Gl X x)
    (hdb : (x == ("__debug__" : Str)) = false := by decide) : PMk X (.Call (.Name x p) [] [] pos) (fun _ H Q => Q (.ref C) none H) := by
  intro pins s σ H Q I h
  obtain ⟨bm, N, nm, qn, bs, hdct, sn, sub, ab, col, dd, k0, k1, k2, k3, k5, mN, hC, hN, hni, T⟩ := exc_obj I.kIn q
  refine wpAny_Call_Name_kw (ld_glob I hg gC ?_ hdb)
  refine PySem.W.callWith_K0 I.kIn kC ?_
  exact wpAny_call_exc_subT F T hC hN hni (fun h' e hm => mk_of I hm r h (I.hok.gone hm.new)) (Nat.zero_le _)
theorem ss_raise0 {c : Nat} (hc : X.calm = true) (tk : Takes X W) (h : PMk X e (fun _ H Q => Q (.ref (cl.ad c)) none H)) : SS X cl W (.Raise (some e) none pos) (sRaise0 c) := by
  refine (ps_raise hc tk h).of ?_
  rintro D σ H ⟨B, F0, F, ρ, s, p⟩
  exact p _ _ σ F H (Same.refl _) s (Lk.refl _ _) ⟨c, rfl, .inl ⟨rfl, rfl⟩⟩
/-- isinstance of what the suite holds -/
theorem call_isX {a : Addr} {oe : Obj} {cls : Value} {d : Option Addr} {pn : List (Addr × Obj)} (hz : Zc cls d oe) (hf : ∃ vs, oe.data = .fields vs) :
    CallR (X.suite a ((a, oe) :: pn)) (.builtin "isinstance") (fun xs H Q => ∃ (cv : V) (c : Value) (b : Bool) (C : Addr), xs = [.ref a, cv] ∧ (∀ u, RelV cv u → u = c) ∧ cls = .ref C ∧ XcC X.K C ∧ PySem.W.kitOne X.K (.ref C) c = some b ∧
      (d = none ∨ ∃ dd fs, d = some dd ∧ H dd = some (.xd fs)) ∧ Q (.bl b) H) := by
  intro pins s σ H xs us Q I r h
  obtain ⟨cv, c, b, C, rfl, hcv, rfl, T, e, hd, q⟩ := h
  cases r with
  | cons rx rr =>
    cases rr with
    | cons rt rr =>
      cases rr
      cases rx
      have ec := hcv _ rt
      subst ec
      obtain ⟨hget, _⟩ := I.pin (a, oe) (List.mem_append.mpr (.inl List.mem_cons_self))
      obtain ⟨vs, hv⟩ := hf
      have hcl : (PySem.W.clsIn X.K C).isSome = true := by
        obtain ⟨cdD, hcD, _⟩ := PySem.W.any_some T.hd
        rw [hcD]; rfl
      have J : ∃ od, PySem.W.InstAt s.heap a oe C od := by
        have hno : PySem.W.notCls oe = true := by unfold PySem.W.notCls; rw [hv]
        rcases hd with rfl | ⟨dd, fs, rfl, hx⟩
        · exact ⟨none, hget, hz.1, hno, by rw [hz.2]; trivial⟩
        · obtain ⟨mA, hns, hr⟩ : ObjOk X.prog X.w H s.heap dd (.xd fs) := I.hok dd _ hx
          obtain ⟨od, ho, hl⟩ := lookIn_ns hns
          exact ⟨some od, hget, hz.1, hno, by rw [hz.2]; exact ho⟩
      obtain ⟨od, J⟩ := J
      exact PySem.W.kia_one (PySem.W.kitx_exc (x := a) (ox := oe) (od := od) hcl T.hg T.hk T.hs T.ha T.hn T.ht T.hm) I.kIn J e (fun z => nomatch z) fun tk => ⟨.bl b, H, I.kept (t' := tk) fun _ _ z => z, rfl, q⟩
theorem so_isX {a : Addr} {oe : Obj} {cls : Value} {d : Option Addr} {pn : List (Addr × Obj)} {l : XT} {cv : V} {c : Value} (hz : Zc cls d oe) (hf : ∃ vs, oe.data = .fields vs) (hg : Gl X "isinstance") (hm : X.mg "isinstance" = none)
    (hx : PE (X.suite a ((a, oe) :: pn)) (.Name x px) (L2.tC cv)) (hcv : ∀ u, RelV cv u → u = c) (tab : XTab (fun k b => PySem.W.kitOne X.K (.ref (cl.ad k)) c = some b ∧ XcC X.K (cl.ad k)) l) (he : SE (X.suite a ((a, oe) :: pn)) (cl.ex a cls d) W e m)
    (hs1 : starEach (e :: [.Name x px]) X.env = (false, eval e X.env) :: starEach [.Name x px] X.env := by rfl) (hs2 : starEach [.Name x px] X.env = (false, eval (.Name x px) X.env) :: starEach [] X.env := by rfl)
    (hpl : (backTo pos (starEach [.Name x px] X.env)).any (·.1) = false := by rfl) :
    SE (X.suite a ((a, oe) :: pn)) (cl.ex a cls d) W (.Call (.Name "isinstance" p) [e, .Name x px] [] pos) (mIsX l m) := by
  refine (pe_callB (call_isX hz hf) hg hm (by decide +kernel) (pa_cons he (pa_cons hx pa_nil hs2) hs1) (by decide) (by decide) hs1 hpl).of ?_
  rintro σ H Q ⟨B, F0, F, ρ, s, p⟩
  refine ⟨B, F0, F, ρ, s, (step1 s p).imp ?_⟩
  rintro v H1 ⟨de, F1, e, g1, r, p⟩
  cases q : xIn l de with
  | none => rw [q] at p; exact p.elim
  | some b =>
    rw [q] at p
    cases r with
    | xc0 z =>
      obtain ⟨t1, t2⟩ := tab _ b q
      have z := Option.some.inj z
      simp only [Prod.mk.injEq] at z
      obtain ⟨z1, z2, z3⟩ := z
      subst z1
      exact ⟨cv, c, b, _, rfl, hcv, z2, t2, t1, .inl z3, p _ F1 H1 (.refl g1.fh) (.bl _)⟩
    | xc1 z h1 h2 h3 =>
      obtain ⟨t1, t2⟩ := tab _ b q
      have z := Option.some.inj z
      simp only [Prod.mk.injEq] at z
      obtain ⟨z1, z2, z3⟩ := z
      subst z1
      exact ⟨cv, c, b, _, rfl, hcv, z2, t2, t1, .inr ⟨_, _, z3, g1.fh _ _ h1⟩, p _ F1 H1 (.refl g1.fh) (.bl _)⟩
    | _ => cases q
theorem fld_lookup {K : PySem.W.Frag} {F : Hp} {f : Str} : ∀ {fs : List (Str × V)} {ds : List D} {d : D}, RpA K cl F (fs.map (·.2)) ds → fld f (fs.map (·.1)) ds = some d → ∃ v, fs.lookup f = some v ∧ Rp K cl F v d
  | [], _, _, _, e => by simp [fld] at e
  | (g, v) :: fs, ds, d, r, e => by
    cases r with
    | cons a b =>
      simp only [List.map_cons, fld] at e
      by_cases h : f = g
      · rw [if_pos h] at e
        cases e
        exact ⟨v, by simp [List.lookup, h], a⟩
      · rw [if_neg h] at e
        obtain ⟨u, h1, h2⟩ := fld_lookup b e
        refine ⟨u, ?_, h2⟩
        have : (f == g) = false := by simpa using h
        simp only [List.lookup, this]
        exact h1
/-- e.f, e what the suite holds -/
theorem so_xf {a : Addr} {oe : Obj} {cls : Value} {d : Option Addr} {pn : List (Addr × Obj)} {f : Str} {l : XT} (hz : Zc cls d oe) (hf : ∃ vs, oe.data = .fields vs) (hk : ∃ k, cls = .ref (cl.ad k) ∧ l.lookup k = some true)
    (tab : XTab (fun k _ => XfC X.K (cl.ad k) ∧ PySem.W.findIn X.K (.ref (cl.ad k)) f = some none) l) (he : SE (X.suite a ((a, oe) :: pn)) (cl.ex a cls d) W e m) (hb : attributeBase e f X.env (eval e X.env) = eval e X.env := by rfl) :
    SE (X.suite a ((a, oe) :: pn)) (cl.ex a cls d) W (.Attribute e f pos) (mXf f m) := by
  obtain ⟨k, rfl, hk⟩ := hk
  obtain ⟨t1, t2⟩ := tab k true hk
  refine (pe_xf t1 t2 hz hf he hb).of ?_
  rintro σ H Q ⟨B, F0, F, ρ, so, p⟩
  refine ⟨B, F0, F, ρ, so, (step1 so p).imp ?_⟩
  rintro v H1 ⟨de, F1, e1, g1, r, p⟩
  cases q : fldX f de with
  | none => rw [q] at p; exact p.elim
  | some d' =>
    rw [q] at p
    cases r with
    | xc1 z h1 h2 h3 =>
      subst h2
      obtain ⟨v, l1, l2⟩ := fld_lookup h3 q
      have z := Option.some.inj z
      simp only [Prod.mk.injEq] at z
      obtain ⟨z1, z2, z3⟩ := z
      subst z1 z3
      exact ⟨rfl, rfl, _, _, v, rfl, g1.fh _ _ h1, l1, p v F1 H1 (.refl g1.fh) l2⟩
    | xc0 z => cases q
    | _ => cases q
/-- try: body except C as n: suite -/
theorem ss_try {c : Value} {l : XT} {body suite : List Stmt} {b₀ : Stmt} {mb ms : En → Option Fl} (hxa : cl.xa = none) (hs : X.stack = X.env :: X.outer) (hf : X.env.frame = some X.env.locals) (hN : X.N.Nodup) (hi : X.N[i]? = some n) (hln : X.env.kindOf n = some .local)
    (hc : Names X x c) (tk : Takes X W) (tab : XTab (fun k b => PySem.W.exmOne X.K (.ref (cl.ad k)) c = some b) l)
    (hb : ∀ (W' : WX) (pn : List (Addr × Obj)) (xe : Value → Shared → Prop), Takes (X.tr pn xe) W' → PassesOwn (model X.prog X.w) X.A X.env xe → SSs (X.tr pn xe) cl W' body mb)
    (hsu : ∀ (a : Addr) (oe : Obj) (cls : Value) (d : Option Addr) (pn : List (Addr × Obj)), Zc cls d oe → (∃ vs, oe.data = .fields vs) → (∃ k, cls = .ref (cl.ad k) ∧ l.lookup k = some true) → SSs (X.suite a ((a, oe) :: pn)) (cl.ex a cls d) W0 (b₀ :: suite) ms) :
    SS X cl W (.Try body [.ExceptHandler (some (.Name x np)) (some n) (b₀ :: suite) pos'] [] [] pos) (sTry i l mb ms) := by
  refine (ps_try_as (i := i) (ts := fun a cls d D σ H => (∃ k, cls = .ref (cl.ad k) ∧ l.lookup k = some true) ∧ tS X.K (cl.ex a cls d) W0 ms D σ H) (tb := fun W' => tS X.K cl W' mb) hs hf hN hi hln hc tk hb fun a oe cls d pn hz hv => ?_).of ?_
  · refine ⟨fun pins s σ H D I h => ?_⟩
    exact (hsu a oe cls d pn hz hv h.1).run pins s σ H D I h.2
  · rintro D σ H ⟨B, F0, F, ρ, s, p⟩
    refine ⟨B, F0, F, ρ, s, ?_⟩
    unfold sTry at p
    cases q : mb ρ with
    | none => rw [q] at p; exact p.elim
    | some f =>
      rw [q] at p
      cases f with
      | nx ρ1 => exact p
      | bk ρ1 => exact p
      | ct ρ1 => exact p
      | rt d => exact p
      | ex e ρ1 =>
        intro cls dd σ1 F1 H1 m1 s1 l1 x1
        have x2 := x1
        obtain ⟨k, rfl, hx⟩ := x1
        have hk : excOf e = some k := by
          rcases hx with ⟨rfl, _⟩ | ⟨_, _, _, _, _, _, rfl⟩ <;> rfl
        have hxi : xIn l e = l.lookup k := by unfold xIn; rw [hk]; rfl
        cases ql : l.lookup k with
        | none =>
          simp only [hxi, ql] at p
          exact p.elim
        | some b =>
          refine ⟨b, tab k b ql, fun hb1 a ha => ?_, fun hb0 => ?_⟩
          · subst hb1
            simp only [hxi, ql] at p
            refine ⟨⟨k, rfl, ql⟩, B, F0, F1, ρ1.set i (.im e), ?_, ?_⟩
            · have s2 : SOk X.K (cl.ex a (.ref (cl.ad k)) dd) B F0 F1 σ1 H1 ρ1 := SOk.cv (cl := cl) (cl' := cl.ex a (.ref (cl.ad k)) dd) rfl (.inl hxa) s1
              refine s2.set i ?_
              rcases hx with ⟨rfl, rfl⟩ | ⟨y, fs, ds, rfl, h1, h2, rfl⟩
              · exact .xc0 rfl
              · exact .xc1 rfl h1 rfl (RpA.cv (cl := cl) (cl' := cl.ex a (.ref (cl.ad k)) (some y)) rfl (.inl hxa) h2)
            · have lk1 : Lk ρ σ (ρ1.set i (.im e)) (σ1.set i (some (.ref a))) := l1.trans Lk.set
              have wp : ∀ {σ2 : L2.St} {F2 H2 : Hp} {ρ2 : En}, noXE (ρ2.set i .un) = true → SOk X.K (cl.ex a (.ref (cl.ad k)) dd) B F0 F2 σ2 H2 ρ2 → SOk X.K cl B F0 F2 (σ2.set i none) H2 (ρ2.set i .un) := fun {σ2 F2 H2 ρ2} hn s2 => SOk.cv (cl := cl.ex a (.ref (cl.ad k)) dd) (cl' := cl) rfl (.inr hn) (s2.wipe [i])
              have lk2 : ∀ {σ2 : L2.St} {ρ2 : En}, Lk (ρ1.set i (.im e)) (σ1.set i (some (.ref a))) ρ2 σ2 → Lk ρ σ (ρ2.set i .un) (σ2.set i none) := fun {σ2 ρ2} l2 => (lk1.trans l2).trans Lk.set
              cases q2 : ms (ρ1.set i (.im e)) with
              | none => rw [q2] at p; exact p.elim
              | some f =>
                rw [q2] at p
                cases f with
                | nx ρ2 =>
                  simp only [backX] at p
                  split at p
                  · rename_i hn
                    exact fun σ2 F2 H2 m2 s2 l2 => p _ F2 H2 (m1.trans m2) (wp hn s2) (lk2 l2)
                  · exact p.elim
                | bk ρ2 =>
                  simp only [backX] at p
                  split at p
                  · rename_i hn
                    exact fun σ2 F2 H2 m2 s2 l2 => p _ F2 H2 (m1.trans m2) (wp hn s2) (lk2 l2)
                  · exact p.elim
                | ct ρ2 =>
                  simp only [backX] at p
                  split at p
                  · rename_i hn
                    exact fun σ2 F2 H2 m2 s2 l2 => p _ F2 H2 (m1.trans m2) (wp hn s2) (lk2 l2)
                  · exact p.elim
                | rt d =>
                  simp only [backX] at p
                  split at p
                  · rename_i hn
                    exact fun v F2 H2 m2 h3 h4 h5 r => p v F2 H2 (m1.trans m2) h3 h4 h5 (Rp.cv (cl := cl.ex a (.ref (cl.ad k)) dd) (cl' := cl) rfl (.inr hn) r)
                  · exact p.elim
                | ex e2 ρ2 => exact p.elim
          · subst hb0
            simp only [hxi, ql] at p
            exact p _ dd σ1 F1 H1 m1 s1 l1 x2
end
/-- an own class in an except clause -/
theorem exm_own {K : PySem.W.Frag} {C : Addr} {cls : Value} {b : Bool} (h1 : PySem.W.subIn K (.ref C) (.type "BaseException") = some true) (hd : PySem.W.hasDictIn K C = true) (ht : PySem.W.typeIn K (.ref C) = some (.type "type")) (h4 : PySem.W.subIn K cls (.ref C) = some b) : PySem.W.exmOne K cls (.ref C) = some b := by
  obtain ⟨cd, hc, _⟩ := PySem.W.any_some hd
  have q1 : (PySem.W.subIn K (.ref C) (.type "BaseException") == some true) = true := by rw [h1]; rfl
  have q2 : ((PySem.W.clsIn K C).isSome && PySem.W.typeIn K (.ref C) == some (.type "type")) = true := by rw [hc, ht]; rfl
  show (if (PySem.W.subIn K (.ref C) (.type "BaseException") == some true) = true then (if ((PySem.W.clsIn K C).isSome && PySem.W.typeIn K (.ref C) == some (.type "type")) = true then PySem.W.subIn K cls (.ref C) else none) else none) = some b
  rw [if_pos q1, if_pos q2, h4]
/-! ## is of bools, zip -/
def fIsB : D → D → Option D
  | .bl a, .bl b => some (.bl (decide (a = b)))
  | _, _ => none
def fNotB : D → D → Option D
  | .bl a, .bl b => some (.bl (!decide (a = b)))
  | _, _ => none
def zipD (a b : List D) : List D := List.zipWith (fun x y => .tup [x, y]) a b
def zipOf : List D → Option (List D)
  | [.lst a, .lst b] => some (zipD a b)
  | [.tup a, .tup b] => some (zipD a b)
  | _ => none
def mZip (ms : En → Res (List D)) : En → Res (List D) := fun ρ => (ms ρ).bind fun ds => .ofO (zipOf ds)
section
variable {K : PySem.W.Frag} {X : Cx} {cl : Cl} {W : WX} {p pos tpos : Pos} {a b : Expr} {ms : En → Res (List D)} {elts : List Expr} {kk : Nat}
theorem o_isB : Op2 K cl rIsB fIsB := by
  intro F H x y dx dy Q m rx ry p
  unfold fIsB at p
  cases rx <;> cases ry <;> first | exact p.elim | exact ⟨_, _, rfl, rfl, p.int m (.bl _)⟩
theorem o_notB : Op2 K cl rNotB fNotB := by
  intro F H x y dx dy Q m rx ry p
  unfold fNotB at p
  cases rx <;> cases ry <;> first | exact p.elim | exact ⟨_, _, rfl, rfl, p.int m (.bl _)⟩
theorem zipD_len (a b : List D) : (zipD a b).length = min a.length b.length := by simp [zipD]
theorem zipD_get {a b : List D} {i : Nat} {d : D} (e : (zipD a b)[i]? = some d) : ∃ x y, a[i]? = some x ∧ b[i]? = some y ∧ d = .tup [x, y] := by
  unfold zipD at e
  rw [List.getElem?_zipWith] at e
  cases h1 : a[i]? with
  | none => simp [h1] at e
  | some x =>
    cases h2 : b[i]? with
    | none => simp [h1, h2] at e
    | some y =>
      simp only [h1, h2] at e
      cases e
      exact ⟨x, y, rfl, rfl, rfl⟩
theorem it_zipL {F : Hp} {a b : Addr} {xs ys : List V} {ds es : List D} (h : SqL K F a xs) (h' : SqL K F b ys) (r : RpA K cl F xs ds) (r' : RpA K cl F ys es) : ItOk K cl (Itz K a b) F (zipD ds es) where
  go := fun i H m hi => by
    rw [zipD_len] at hi
    have q1 : i < xs.length := by rw [r.length]; omega
    have q2 : i < ys.length := by rw [r'.length]; omega
    exact ⟨xs, ys, xs[i], ys[i], m.seq h, m.seq h', by simp [q1], by simp [q2]⟩
  stop := fun i H m hi => by
    rw [zipD_len] at hi
    exact ⟨xs, ys, m.seq h, m.seq h', by rw [r.length, r'.length]; omega⟩
  yld := fun i H v H' d F1 m1 m2 y e => by
    obtain ⟨T, x, z, rfl, hT, rfl, q1, q2⟩ := y
    obtain ⟨dx, dz, e1, e2, rfl⟩ := zipD_get e
    obtain ⟨d1, h1, h2⟩ := r.get (q1 xs ((m1.trans m2).seq h))
    obtain ⟨d2, h3, h4⟩ := r'.get (q2 ys ((m1.trans m2).seq h'))
    rw [e1] at h1; cases h1
    rw [e2] at h3; cases h3
    have g := Gr.new (o := .tup [x, z]) m2 hT
    exact ⟨_, g, .tup upd_same (.cons (h2.mono (m1.trans g.f)) (.cons (h4.mono (m1.trans g.f)) .nil))⟩
theorem it_zipT {F : Hp} {a b : Addr} {xs ys : List V} {ds es : List D} (h : SqT K F a xs) (h' : SqT K F b ys) (r : RpA K cl F xs ds) (r' : RpA K cl F ys es) : ItOk K cl (RZ.ItzT K a b) F (zipD ds es) where
  go := fun i H m hi => by
    rw [zipD_len] at hi
    have q1 : i < xs.length := by rw [r.length]; omega
    have q2 : i < ys.length := by rw [r'.length]; omega
    exact ⟨xs, ys, xs[i], ys[i], Same.seqT m h, Same.seqT m h', by simp [q1], by simp [q2]⟩
  stop := fun i H m hi => by
    rw [zipD_len] at hi
    exact ⟨xs, ys, Same.seqT m h, Same.seqT m h', by rw [r.length, r'.length]; omega⟩
  yld := fun i H v H' d F1 m1 m2 y e => by
    obtain ⟨T, x, z, rfl, hT, rfl, q1, q2⟩ := y
    obtain ⟨dx, dz, e1, e2, rfl⟩ := zipD_get e
    obtain ⟨d1, h1, h2⟩ := r.get (q1 xs (Same.seqT (m1.trans m2) h))
    obtain ⟨d2, h3, h4⟩ := r'.get (q2 ys (Same.seqT (m1.trans m2) h'))
    rw [e1] at h1; cases h1
    rw [e2] at h3; cases h3
    have g := Gr.new (o := .tup [x, z]) m2 hT
    exact ⟨_, g, .tup upd_same (.cons (h2.mono (m1.trans g.f)) (.cons (h4.mono (m1.trans g.f)) .nil))⟩
theorem si_zip (hg : Gl X "zip") (hm : X.mg "zip" = none) (ha : SA X cl W [a, b] ms) (hs : starEach [a, b] X.env = (false, eval a X.env) :: starEach [b] X.env := by rfl) (hpl : (backTo pos (starEach [b] X.env)).any (·.1) = false := by rfl) :
    SI X cl W (.Tuple elts kk tpos) (.Call (.Name "zip" p) [a, b] [] pos) (mZip ms) := by
  refine (RZ.pi_zipA hg hm ha hs hpl).of ?_
  rintro σ H R ⟨B, F0, F, ρ, s, p⟩
  refine ⟨B, F0, F, ρ, s, (stepIA s p).imp ?_⟩
  rintro vs H1 ⟨ds, F1, e, g1, r, p⟩
  cases q : zipOf ds with
  | none => rw [q] at p; exact p.elim
  | some es =>
    rw [q] at p
    unfold zipOf at q
    split at q
    · obtain ⟨v, u, rfl, h, h2⟩ := r.two
      cases q
      cases h with
      | lst x1 x2 =>
        cases h2 with
        | lst y1 y2 => exact ⟨_, _, _, _, rfl, .inl ⟨.of (g1.fh _ _ x1), .of (g1.fh _ _ y1), p _ F1 H1 (.refl g1.fh) (it_zipL (.of x1) (.of y1) x2 y2)⟩⟩
    · obtain ⟨v, u, rfl, h, h2⟩ := r.two
      cases q
      cases h with
      | tup x1 x2 =>
        cases h2 with
        | tup y1 y2 => exact ⟨_, _, _, _, rfl, .inr ⟨.of (g1.fh _ _ x1), .of (g1.fh _ _ y1), p _ F1 H1 (.refl g1.fh) (it_zipT (.of x1) (.of y1) x2 y2)⟩⟩
    · cases q
end
end FL
namespace FL
open PySem L2
/-! ## classes and their instances -/
def putN (f : Str) (v : D) : List Str → List D → List Str × List D
  | n :: ns, d :: ds => if n = f then (n :: ns, v :: ds) else (n :: (putN f v ns ds).1, d :: (putN f v ns ds).2)
  | _, _ => ([f], [v])
theorem putN_rp {K : PySem.W.Frag} {cl : Cl} {F : Hp} {f : Str} {v : V} {d : D} (h : Rp K cl F v d) : ∀ {fs : List (Str × V)} {ds : List D}, RpA K cl F (fs.map (·.2)) ds →
    (putF f v fs).map (·.1) = (putN f d (fs.map (·.1)) ds).1 ∧ RpA K cl F ((putF f v fs).map (·.2)) (putN f d (fs.map (·.1)) ds).2
  | [], _, r => by cases r; exact ⟨rfl, .cons h .nil⟩
  | (g, x) :: fs, _, r => by
    cases r with
    | cons a b =>
      obtain ⟨h1, h2⟩ := putN_rp h b
      by_cases e : g = f
      · subst e
        simp only [putF, putN, List.map_cons, if_true]
        exact ⟨trivial, .cons h b⟩
      · simp only [putF, putN, List.map_cons, if_neg e]
        exact ⟨by rw [h1], .cons a h2⟩
/-- o.f of a made instance of one of the classes cs -/
def fldI (cs : List Nat) (f : Str) : D → Option D
  | .ins c ns ds => if cs.contains c then fld f ns ds else none
  | _ => none
def mFld (cs : List Nat) (f : Str) (m : En → Res D) : En → Res D := fun ρ => (m ρ).bind fun d => .ofO (fldI cs f d)
/-- .. of one in the making -/
def mFldO (i c : Nat) (f : Str) : En → Res D := fun ρ => match ρ[i]? with
  | some (.ow _ (.i k ns ds)) => if k = c then .ofO (fld f ns ds) else .bad
  | _ => .bad
def sFldS (i c : Nat) (f : Str) (m : En → Res D) : En → Option Fl := fun ρ => match ρ[i]? with
  | some (.ow false (.i k ns ds)) => runE ρ (m ρ) fun d => if k = c ∧ ns.length < 900 then some (.nx (ρ.set i (.ow false (.i k (putN f d ns ds).1 (putN f d ns ds).2)))) else none
  | _ => none
/-- a class whose instances have the attribute f -/
structure FldC (K : PySem.W.Frag) (C : Addr) (f : Str) : Prop where
  c : Cls K C
  n : NoAttr K C f
section
variable {X : Cx} {cl : Cl} {W : WX} {pos pos' p : Pos} {x f : Str} {i c : Nat} {e o v : Expr} {m : En → Res D} {cs : List Nat}
theorem so_fld (tab : ∀ c ∈ cs, FldC X.K (cl.ad c) f) (he : SE X cl W e m) (hb : attributeBase e f X.env (eval e X.env) = eval e X.env := by rfl) : SE X cl W (.Attribute e f pos) (mFld cs f m) := by
  refine (pe_fld he hb).of ?_
  rintro σ H Q ⟨B, F0, F, ρ, s, p⟩
  refine ⟨B, F0, F, ρ, s, (step1 s p).imp ?_⟩
  rintro v H1 ⟨d, F1, e1, g, r, p⟩
  cases q : fldI cs f d with
  | none => rw [q] at p; exact p.elim
  | some d' =>
    rw [q] at p
    cases r with
    | ins h1 h2 h3 =>
      simp only [fldI] at q
      split at q
      · rename_i hc
        obtain ⟨t1, t2⟩ := tab _ (by simpa using hc)
        subst h2
        obtain ⟨u, l1, l2⟩ := fld_lookup h3 q
        exact ⟨_, _, _, _, u, rfl, g.fh _ _ h1, t1, t2, l1, p u F1 H1 (.refl g.fh) l2⟩
      · cases q
    | _ => cases q
theorem so_fldO (i : Nat) (t : FldC X.K (cl.ad c) f) (ha : PE X e (tVar i)) (hb : attributeBase e f X.env (eval e X.env) = eval e X.env := by rfl) : SE X cl W (.Attribute e f pos) (mFldO i c f) := by
  refine (pe_fld ha hb).of ?_
  rintro σ H Q ⟨B, F0, F, ρ, s, p⟩
  unfold mFldO at p
  split at p
  · rename_i b k ns ds hi
    split at p
    · rename_i hk
      subst hk
      obtain ⟨a, oo, h1, h2, h3, h4, dx, fs, rfl, h5, h6⟩ := s.ow i b _ hi
      subst h5
      cases q : fld f (fs.map (·.1)) ds with
      | none => rw [q] at p; exact p.elim
      | some d' =>
        rw [q] at p
        obtain ⟨u, l1, l2⟩ := fld_lookup h6 q
        exact ⟨_, h1, _, _, _, _, u, rfl, h4, t.c, t.n, l1, p u F H (.refl s.fh) l2⟩
    · exact p.elim
  · exact p.elim
/-- self.f = v, self in the making -/
theorem ss_fldS (i : Nat) (t : FldC X.K (cl.ad c) f) (ho : PE X o (tVar i)) (hv : SE X cl W v m) (hs : swapsWith v (some (.Attribute o f pos')) pos.line X.env = pure false := by rfl) : SS X cl W (.Assign [.Attribute o f pos'] v pos) (sFldS i c f m) := by
  refine (ps_fld ho hv hs).of ?_
  rintro D σ H ⟨B, F0, F, ρ, s, p⟩
  unfold sFldS at p
  split at p
  · rename_i k ns ds hi
    obtain ⟨a, oo, h1, h2, h3, h4, dx, fs, rfl, h5, h6⟩ := s.ow i _ _ hi
    subst h5
    refine ⟨B, F0, F, ρ, s, (stepS s p).imp ?_⟩
    clear p
    rintro y H1 ⟨d, F1, e1, g, r, p⟩
    split at p
    · rename_i hk
      obtain ⟨hk, hl⟩ := hk
      subst hk
      obtain ⟨q1, q2⟩ := putN_rp (f := f) r (h6.mono g.f)
      refine ⟨_, h1, a, _, dx, fs, rfl, g.h _ _ h4, t.c, t.n, by rw [List.length_map] at hl; omega, ?_⟩
      exact p σ F1 _ (Same.refl _) ((s.grow g).put hi h1 ⟨dx, _, rfl, q1, q2⟩) (Lk.put (.inr ⟨_, hi, _, _, rfl⟩))
    · exact p.elim
  · exact p.elim
end
/-! ## __init__ and the making -/
def runI (c n : Nat) (ms : En → Option Fl) : List D → Res Cn := fun ds => match ms (.ow false (.i c [] []) :: startE (n - 1) ds) with
  | some (.nx ρ) => (match (ρ[0]? : Option Sl) with | some (.ow false (.i k ns us)) => .ok (.i k ns us) | _ => .bad)
  | some (.ex e _) => .er e
  | _ => .bad
/-- what __init__ promises -/
def spI (K : PySem.W.Frag) (cl : Cl) (c n : Nat) (φ : List D → Res Cn) : Sp := fun vs H Q E => ∃ a dx ws F B ds, vs = .ref a :: ws ∧ H a = some (.ins (cl.ad c) dx []) ∧ B a = none ∧ Same B H ∧ F a = none ∧ Same F H ∧ RpA K cl F ws ds ∧ vs.length = n ∧
  match φ ds with
  | .ok k => ∀ F' H' o, Same F F' → Same F' H' → Same B H' → (∀ x, B x ≠ none → F' x = F x) → F' a = none → H' a = some o → CnR K cl F' k o → Q .non H'
  | .er e => ∀ cc dd F' H', Same F F' → Same F' H' → Same B H' → (∀ x, B x ≠ none → F' x = F x) → XRp K cl F' cc dd e → E cc dd H'
  | .bad => False
section
variable {P : Program} {w : World} {K : PySem.W.Frag} {mg : Str → Option Value} {base : Heap} {cl : Cl}
theorem start_okI {N : List Str} {ws : List V} {ds : List D} {B F H : Hp} {a dx : Addr} {c : Nat} (bh : Same B H) (m : Same F H) (hB : B a = none) (hF : F a = none) (ha : H a = some (.ins (cl.ad c) dx [])) (r : RpA K cl F ws ds) (hl : ws.length + 1 ≤ N.length) :
    SOk K cl B F F (L2.start N (.ref a :: ws)) H (.ow false (.i c [] []) :: startE (N.length - 1) ds) := by
  have e0 : L2.start N (.ref a :: ws) = some (V.ref a) :: (ws.map some ++ List.replicate (N.length - 1 - ws.length) none) := by
    unfold L2.start
    rw [List.map_cons, List.cons_append, List.length_cons]
    congr 3
    omega
  have im : ∀ (i : Nat) (d : D), (startE (N.length - 1) ds)[i]? = some (.im d) → ∃ v, (ws.map some ++ List.replicate (N.length - 1 - ws.length) none)[i]? = some (some v) ∧ Rp K cl F v d := fun i d e => by
    unfold startE at e
    by_cases hi : i < ds.length
    · rw [List.getElem?_append_left (by simpa using hi), List.getElem?_map] at e
      cases q : ds[i]? with
      | none => rw [q] at e; cases e
      | some d' =>
        rw [q] at e; cases e
        obtain ⟨v, h1, h2⟩ := r.get' q
        refine ⟨v, ?_, h2⟩
        rw [List.getElem?_append_left (by simpa [r.length] using hi), List.getElem?_map, h1]; rfl
    · rw [List.getElem?_append_right (by simpa using hi), List.getElem?_replicate] at e
      split at e <;> cases e
  have no : ∀ (i : Nat) (b : Bool) (k : Cn), (startE (N.length - 1) ds)[i]? ≠ some (.ow b k) := fun i b k e => by
    unfold startE at e
    by_cases hi : i < ds.length
    · rw [List.getElem?_append_left (by simpa using hi), List.getElem?_map] at e
      cases q : ds[i]? with
      | none => rw [q] at e; cases e
      | some d' => rw [q] at e; cases e
    · rw [List.getElem?_append_right (by simpa using hi), List.getElem?_replicate] at e
      split at e <;> cases e
  rw [e0]
  refine ⟨Same.refl _, m, bh, fun _ _ => rfl, ?_, fun i d e => ?_, fun i b k e => ?_, fun i j b k b' k' a' hij e1 e2 _ => ?_⟩
  · unfold startE
    have := r.length
    simp
    omega
  · cases i with
    | zero => cases e
    | succ i => exact im i d e
  · cases i with
    | zero =>
      cases e
      exact ⟨a, _, rfl, hF, hB, ha, dx, [], rfl, rfl, .nil⟩
    | succ i => exact absurd e (no i b k)
  · cases i with
    | zero =>
      cases j with
      | zero => exact absurd rfl hij
      | succ j => exact absurd e2 (no j b' k')
    | succ i => exact absurd e1 (no i b k)
theorem fn_okI {x qual : Str} {st : Stmt} {f : Addr} {fd : FuncData} {N ps : List Str} {k n nN c : Nat} {ms : En → Option Fl} (F : Fun K x qual st f fd) (S : FnScope N ps (defScope st)) (hn : ps.length = n) (hN : N.length = nN)
    (body : ∀ (cdv : Value) (A : Around) (outer : List Env) (s : Shared) (H : Hp) (E : XK), Room k (A.deeper (PyProof.Rows.envOfC qual (defScope st) s.heap.objs.size f cdv)) →
      PassesOwn (model P w) (A.deeper (PyProof.Rows.envOfC qual (defScope st) s.heap.objs.size f cdv)) (PyProof.Rows.envOfC qual (defScope st) s.heap.objs.size f cdv) (cxOf (L2.CX P w) P w K mg base N qual (defScope st) f cdv A outer s H E).xe →
      Takes (cxOf (L2.CX P w) P w K mg base N qual (defScope st) f cdv A outer s H E) (fun cls d _ H => E cls d H) →
      PSs (cxOf (L2.CX P w) P w K mg base N qual (defScope st) f cdv A outer s H E) (defBody st) (tS K cl (fun cls d _ H => E cls d H) ms)) :
    FnOk P w K mg base (L2.CX P w) (k + 1) f fd ps (spI K cl c n (runI c nN ms)) := by
  subst hn hN
  refine F.okX S (fun vs H Q E h => ?_) (fun cdv A outer s H vs Q E hr h => ?_)
  · obtain ⟨_, _, _, _, _, _, _, _, _, _, _, _, _, h, _⟩ := h
    exact h
  · obtain ⟨a, dx, ws, F1, B, ds, rfl, h1, h2, h3, h4, h5, r, hl, h⟩ := h
    have hpre := congrArg List.length S.pre
    rw [List.length_take] at hpre
    have hl : ws.length + 1 = ps.length := hl
    refine ⟨_, body cdv A outer s H E hr (passes_of rfl) (takes_of rfl rfl rfl rfl), B, F1, F1, _, start_okI h3 h5 h2 h4 h1 r (by omega), ?_⟩
    unfold runI at h
    cases q : ms (.ow false (.i c [] []) :: startE (N.length - 1) ds) with
    | none => rw [q] at h; exact h.elim
    | some f =>
      rw [q] at h
      cases f with
      | nx ρ' =>
        intro σ' F' H' m1 k1 lk
        cases q2 : (ρ'[0]? : Option Sl) with
        | none => simp only [q2] at h
        | some y =>
          cases y with
          | un => simp only [q2] at h
          | im d => simp only [q2] at h
          | ow b k2 =>
            cases b with
            | true => simp only [q2] at h
            | false =>
              cases k2 with
              | i kk ns us =>
                simp only [q2] at h
                obtain ⟨a', o, e1, e2, e3, e4, e5⟩ := k1.ow 0 _ _ q2
                obtain ⟨_, l2⟩ := lk 0 _ q2 rfl
                have e0 : (L2.start N (.ref a :: ws))[0]? = some (some (.ref a)) := by unfold L2.start; rfl
                rw [e1, e0] at l2
                cases l2
                exact h F' H' o m1 k1.fh k1.bh k1.bf e2 e4 e5
              | l ds => simp only [q2] at h
              | t ks ds => simp only [q2] at h
              | k ks ds => simp only [q2] at h
      | ex e ρ' => exact fun c dd σ' F' H' m1 k1 _ x => h c dd F' H' m1 k1.fh k1.bh k1.bf x
      | rt d => exact h.elim
      | bk ρ' => exact h.elim
      | ct ρ' => exact h.elim
end
/-- C(..) -/
def mMake (n : Nat) (φ : List D → Res Cn) (ms : En → Res (List D)) : En → Res D := fun ρ => (ms ρ).bind fun ds => if ds.length + 1 = n then (φ ds).bind fun c => .ok c.d else .bad
section
variable {X : Cx} {cl : Cl} {W : WX} {pos p : Pos} {x : Str} {c : Nat} {e : Expr} {es : List Expr} {ms : En → Res (List D)}
theorem run_mkS {C f : Addr} {k : Nat} {fd : FuncData} {ps : List Str} {sp : Sp} {pins : List (Addr × Obj)} {σ : L2.St} {H : Hp} {s : Shared} {Q : VK} {us : List Value} {vs : List V} (M : Mk X.K C f)
    (F : FnOk X.prog X.w X.K X.mg X.base (L2.CX X.prog X.w) k f fd ps sp) (hr : Room (k + 1) X.A) (hb : Binds X.K fd ps []) (tk : Takes X W) (I : L2.Inv X pins σ H s) (r : Vals vs us)
    (h : ∀ x dx, H x = none → H dx = none → dx ≠ x → sp (.ref x :: vs) (upd (upd H dx (.own x)) x (.ins C dx [])) (fun v H2 => v = .non ∧ Q (.ref x) H2) (WE W σ)) :
    wpAny (model X.prog X.w) X.A (call (.ref C) us) (EP X pins σ Q) X.xe s := by
  have q := h (s.heap.objs.size + 1) s.heap.objs.size (I.hok.fresh (Nat.le_succ _)) (I.hok.fresh (Nat.le_refl _)) (Nat.ne_of_lt (Nat.lt_succ_self _))
  have J := L2.Inv.made (C := C) I
  have rr : Vals (V.ref (s.heap.objs.size + 1) :: vs) (Value.ref (s.heap.objs.size + 1) :: us) := .cons rfl r
  have hl : (Value.ref (s.heap.objs.size + 1) :: us).length = ps.length := by rw [← rr.length]; exact F.len _ _ _ _ q
  have b := hb { s with heap := (s.heap.push PySem.W.emptyDict).push (PySem.W.instObj C s.heap.objs.size) } (Value.ref (s.heap.objs.size + 1) :: us) J.kIn (by rw [List.append_nil]; exact hl)
  rw [List.append_nil] at b
  refine wpAny_call (make_map (f := f) I.kIn M.makes M.init (beq_iff_eq.mp M.fn) (codeAny_mono (F.run _ X.stack _ _ ⟨_, []⟩ _ _ _ (WE W σ) (hr.make C us []) (J.env0.make C us []) b rr q) fun r s' z => ?_))
  cases r with
  | error e => exact passAt tk σ pins _ _ e s' J z
  | ok fl =>
    cases fl with
    | ret u =>
      obtain ⟨v, H', I3, rv, ev, q3⟩ := J.after z
      subst ev
      exact ⟨rv, ⟨V.ref (s.heap.objs.size + 1), H', I3, rfl, q3⟩⟩
    | _ => exact False.elim z
def tMakeS (C : Addr) (sp : Sp) (W : WX) (t : TA) : TE := fun σ H Q => t σ H fun vs H1 => ∀ x dx, H1 x = none → H1 dx = none → dx ≠ x → sp (.ref x :: vs) (upd (upd H1 dx (.own x)) x (.ins C dx [])) (fun v H2 => v = .non ∧ Q (.ref x) H2) (WE W σ)
theorem make_in {n : Nat} {φ : List D → Res Cn} : ∀ σ H Q, tM X.K cl W (mMake n φ ms) σ H Q → tMakeS (cl.ad c) (spI X.K cl c n φ) W (tA X.K cl W ms) σ H Q := by
  rintro σ H Q ⟨B, F0, F, ρ, s, p⟩
  refine ⟨B, F0, F, ρ, s, ?_⟩
  unfold mMake at p
  cases q : ms ρ with
  | bad => rw [q] at p; exact p
  | er e => rw [q] at p; exact p
  | ok ds =>
    rw [q] at p
    intro vs F1 H1 g r x dx hx hd hne
    have p : PostE X.K cl W σ F H (if ds.length + 1 = n then (φ ds).bind fun c => .ok c.d else .bad) Q := p
    have hF : F1 x = none := by
      cases z : F1 x with
      | none => rfl
      | some o => rw [g.fh _ _ z] at hx; cases hx
    have sB : Same H1 (upd H1 dx (.own x)) := fun a u e => by
      rw [upd_ne (fun z => by subst z; rw [e] at hd; cases hd)]; exact e
    have bx : (upd H1 dx (.own x)) x = none := by rw [upd_ne (Ne.symm hne)]; exact hx
    have sI : Same (upd H1 dx (.own x)) (upd (upd H1 dx (.own x)) x (.ins (cl.ad c) dx [])) := fun a u e => by
      rw [upd_ne (fun z => by subst z; rw [e] at bx; cases bx)]; exact e
    have bn : ∀ a, H1 a ≠ none → (upd H1 dx (.own x)) a ≠ none := fun a ha z => by
      by_cases e : a = dx
      · subst e; exact ha hd
      · rw [upd_ne e] at z; exact ha z
    by_cases hl : ds.length + 1 = n
    · rw [if_pos hl] at p
      refine ⟨x, dx, vs, F1, upd H1 dx (.own x), ds, rfl, upd_same, bx, sI, hF, (g.fh.trans sB).trans sI, r, by rw [List.length_cons, r.length]; exact hl, ?_⟩
      cases q2 : φ ds with
      | bad => rw [q2] at p; exact p
      | er e =>
        rw [q2] at p
        intro cc dd F' H' m1 m2 m3 m4 xr
        refine p cc dd F' H' ⟨g.f.trans m1, m2, (g.h.trans sB).trans m3, fun a ha => ?_⟩ xr
        have h1 : H1 a ≠ none := by
          cases e : H a with
          | none => exact absurd e ha
          | some o => rw [g.h a o e]; simp
        rw [m4 a (bn a h1), g.n a ha]
      | ok k =>
        rw [q2] at p
        intro F' H' o m1 m2 m3 m4 m5 m6 m7
        refine ⟨rfl, p (.ref x) (upd F' x o) H' ⟨(g.f.trans m1).trans fun a u e => ?_, fun a u e => ?_, (g.h.trans sB).trans m3, fun a ha => ?_⟩ ?_⟩
        · rw [upd_ne (fun z => by subst z; rw [e] at m5; cases m5)]; exact e
        · by_cases z : a = x
          · subst z; rw [upd_same] at e; cases e; exact m6
          · rw [upd_ne z] at e; exact m2 _ _ e
        · have hax : a ≠ x := fun z => by
            subst z
            cases e : H a with
            | none => exact ha e
            | some o' => rw [g.h a o' e] at hx; cases hx
          have h1 : H1 a ≠ none := by
            cases e : H a with
            | none => exact absurd e ha
            | some o => rw [g.h a o e]; simp
          rw [upd_ne hax, m4 a (bn a h1), g.n a ha]
        · have m8 : Same F' (upd F' x o) := fun a u e => by
            rw [upd_ne (fun z => by subst z; rw [e] at m5; cases m5)]; exact e
          exact (m7.mono m8).rp upd_same
    · rw [if_neg hl] at p; exact p.elim
theorem so_make {f : Addr} {k n : Nat} {fd : FuncData} {ps : List Str} {φ : List D → Res Cn} (M : Mk X.K (cl.ad c) f) (F : FnOk X.prog X.w X.K X.mg X.base (L2.CX X.prog X.w) k f fd ps (spI X.K cl c n φ)) (hr : Room (k + 1) X.A) (hg : Gl X x) (hm : X.mg x = some (.ref (cl.ad c)))
    (hb : Binds X.K fd ps []) (tk : Takes X W) (ha : SA X cl W (e :: es) ms) (hdb : (x == ("__debug__" : Str)) = false := by decide)
    (he : starEach (e :: es) X.env = (false, eval e X.env) :: starEach es X.env := by rfl) (hpl : (backTo pos (starEach es X.env)).any (·.1) = false := by rfl) : SE X cl W (.Call (.Name x p) (e :: es) [] pos) (mMake n φ ms) := by
  refine PE.of (u := tM X.K cl W (mMake n φ ms)) (t := tMakeS (cl.ad c) (spI X.K cl c n φ) W (tA X.K cl W ms)) ⟨fun pins s σ H Q I h => ?_⟩ make_in
  refine wpAny_Call_Name_kw (ld_glob I hg hm ?_ hdb)
  exact PySem.W.callWith_K (h₀ := X.base) I.ok.mod.kin M.kp (thn (ha.run pos pins s σ H _ I h) fun us s1 ⟨vs, H1, I1, r, q⟩ => ⟨I1.kIn, run_mkS M F hr hb tk I1 r q⟩) he hpl
end
/-! ## isinstance of own classes -/
/-- is the class number k among the classes of the table -/
def mIsC (l : XT) (m : En → Res D) : En → Res D := fun ρ => (m ρ).bind fun d => match d with
  | .ins c _ _ => .ofO ((l.lookup c).map .bl)
  | _ => .bad
end FL
namespace FL
open PySem L2 PyProof.Rows
/-! ## sorted by (len(x), x) -/
/-- a def whose body is «return (len(y), y)» -/
structure OrdDef (st : Stmt) (qual y : Str) : Prop where
  body : ∃ (p1 p2 p3 p4 p5 p6 : Pos) (j : Nat), defBody st = [.Return (some (.Tuple [.Call (.Name "len" p1) [.Name y p2] [] p3, .Name y p4] j p5)) p6]
  kl : ∀ L f cdv, (envOfC qual (defScope st) L f cdv).kindOf y = some .local
  kg : ∀ L f cdv, (envOfC qual (defScope st) L f cdv).kindOf "len" = some .globalImplicit
  sl : (defScope st).names.lookup y = some .local
  co : (defScope st).isCoroutine = false
  gen : (defScope st).isGenerator = false
  kind : (defScope st).kind = .function
  db : (y == ("__debug__" : Str)) = false
def ordK (ns : List Int) : PyData := .tuple [.int (ns.length : Nat), .tuple (ns.map .int)]
theorem ord_turn {X : Cx} {pins : List (Addr × Obj)} {σ : L2.St} {H : Hp} {s : Shared} {f : Addr} {fd : FuncData} {x qual y : Str} {st : Stmt} (I : L2.Inv X pins σ H s) (F : Fun X.K x qual st f fd) (hb : Binds X.K fd [y] []) (O : OrdDef st qual y) (hm : X.mg "len" = none)
    {A : Around} (hd : A.depth < recursionLimit) {v : Addr} {its : List Value} {ns : List Int} (hv : s.heap.IsTuple v its.toArray) (hi : IntsAre its ns) (hz : its.length ≤ 1000) (h : Heap) (tk : Nat) (kp : ∀ b o, s.heap.get? b = some o → h.get? b = some o) :
    wpAny (model X.prog X.w) A (call (.ref f) [.ref v]) (PySem.W.KeyPure (ordK ns) { s with heap := h, toks := tk }) (fun _ _ => False) { s with heap := h, toks := tk } := by
  obtain ⟨oc, od, kV, doc, pm, an, cdv, ct, osl, rfl, lk, hcd⟩ := F.ex
  obtain ⟨p1, p2, p3, p4, p5, p6, j, hbody⟩ := O.body
  have bk : ∀ b o, X.base.get? b = some o → h.get? b = some o := fun b o e => kp b o (I.bk b o e)
  have KX : X.K.In h := I.mod.kin.keeps bk
  have hlim : h.NoLimit := I.mod.nolimit.keeps bk
  have bd := hb { s with heap := h, toks := tk } [.ref v] KX rfl
  refine wpAny_call (Att.call_fn KX hlim lk hcd hd bd ?_ (fun s₁ IC => ?_) O.co O.gen O.kind)
  · simp [O.sl]
  · obtain ⟨h₁, tk₁, rfl⟩ := IC.toInCall.same
    have k1 : ∀ b o, h.get? b = some o → h₁.get? b = some o := IC.toInCall.keep
    have hn := IC.toInCall.ns
    have hmap : bindL (envOfC qual (defScope st) h.objs.size f cdv).kindOf ([y].zip ([Value.ref v] ++ [])) (fun _ => none) y = some (.ref v) := by
      show bindL _ [(y, Value.ref v)] _ y = _
      unfold bindL bindL
      rw [if_pos (O.kl _ _ _), if_pos rfl]
    have hk : (envOfC qual (defScope st) h.objs.size f cdv).scope.kind = .function := O.kind
    rw [hbody]
    have T0 : h₁.IsTuple v its.toArray := by
      obtain ⟨o, e1, e2⟩ := hv
      exact ⟨o, k1 _ _ (kp _ _ e1), e2⟩
    refine wpAny_execs_cons (wpAny_Return_some (wpAny_Tuple_spliced ?_))
    obtain ⟨mb, hb1, hb2⟩ := I.mod.blt
    have loadLen : ∀ {B : Around} {pp : Pos} {Q E : Value → Shared → Prop} {s' : Shared}, (∀ b o, h₁.get? b = some o → s'.heap.get? b = some o) → Q (.builtin "len") s' →
        wpAny (model X.prog X.w) B (eval (.Name "len" pp) (envOfC qual (defScope st) h.objs.size f cdv)) Q E s' := fun {B pp Q E s'} kk q =>
      Calls.Name_function_global hk (O.kg _ _ _) (Calls.loadGlobal_builtin (I.mod.glob.keeps fun b o e => kk _ _ (k1 _ _ (bk _ _ e))) hm (hb1.keeps fun b o e => kk _ _ (k1 _ _ (bk _ _ e))) ((hb2 "len" (by decide)).trans (by decide +kernel)) q) (by decide)
    have loadY : ∀ {B : Around} {pp : Pos} {Q E : Value → Shared → Prop} {t : Nat}, Q (.ref v) { s with heap := h₁, toks := t } →
        wpAny (model X.prog X.w) B (eval (.Name y pp) (envOfC qual (defScope st) h.objs.size f cdv)) Q E { s with heap := h₁, toks := t } := fun {B pp Q E t} q =>
      wpAny_Name (wpAny_loadName_local hk (O.kl _ _ _) hn hmap q) O.db
    have hsz : its.toArray.size = its.length := List.size_toArray ..
    refine Calls.spliced_cons (Call_ (loadLen (fun b o e => e) (callWith_builtin1 (Calls.spliced_cons (loadY (Calls.spliced_nil ?_))))))
    refine PyProof.Rows.len_tuple (t := v) (items := its.toArray) ?_ ?_ ?_
    · exact T0
    · rw [hsz]; show (its.length : Int) < 9223372036854775808; omega
    · refine Calls.spliced_cons (loadY (Calls.spliced_nil ⟨?_, ?_⟩))
      · show 2 ≤ sizeLine; rw [sizeLine_eq]; decide
      · refine ⟨_, _, rfl, fun b o e => Heap.get?_push_of_some _ (k1 _ _ e), ?_⟩
        have hl : ns.length = its.length := hi.length.symm
        obtain ⟨o, e1, e2, n0, e3⟩ := T0
        have r2 : Reads (h₁.push { cls := .type "tuple", data := .seq [Value.int (its.toArray.size) (tk₁ + 1), Value.ref v].toArray }) (.ref v) (.tuple (ns.map .int)) [] :=
          .tuple (Heap.get?_push_of_some _ e1) e2 e3 (IntsAre.reads _ hi)
        have r1 : Reads (h₁.push { cls := .type "tuple", data := .seq [Value.int (its.toArray.size) (tk₁ + 1), Value.ref v].toArray }) (.int (its.toArray.size) (tk₁ + 1)) (.int (ns.length : Nat)) [] := by
          rw [hl, ← hsz]
          exact .int _ _
        exact .tuple (as := [] ++ ([] ++ [])) (Heap.get?_push_size _ rfl) rfl rfl (.cons r1 (.cons r2 .nil))
theorem alike_ints : ∀ a b : List Int, PySem.W.alikeAll (a.map PyData.int) (b.map PyData.int) = true
  | [], [] => rfl
  | [], _ :: _ => rfl
  | _ :: _, [] => rfl
  | x :: a, y :: b => by
    show (PySem.W.alike (.int x) (.int y) && PySem.W.alikeAll (a.map PyData.int) (b.map PyData.int)) = true
    rw [alike_ints a b]; rfl
theorem alike_ord (a b : List Int) : PySem.W.alike (ordK a) (ordK b) = true := by
  show (PySem.W.alike (.int (a.length : Nat)) (.int (b.length : Nat)) && (PySem.W.alike (.tuple (a.map PyData.int)) (.tuple (b.map PyData.int)) && true)) = true
  have : PySem.W.alike (.tuple (a.map PyData.int)) (.tuple (b.map PyData.int)) = true := alike_ints a b
  rw [this]; rfl
theorem depth_ints : ∀ a : List Int, PyData.depthAll (a.map PyData.int) = 0
  | [] => rfl
  | x :: a => by
    show max (PyData.depth (.int x)) (PyData.depthAll (a.map PyData.int)) = 0
    rw [depth_ints a]; rfl
theorem depth_ord (a : List Int) : (ordK a).depth = 2 := by
  show max (PyData.depth (.int (a.length : Nat))) (max (PyData.depth (.tuple (a.map PyData.int))) 0) + 1 = 2
  have : PyData.depth (.tuple (a.map PyData.int)) = 1 := by
    show PyData.depthAll (a.map PyData.int) + 1 = 1
    rw [depth_ints]
  rw [this]; rfl
/-- the list sorted by (len(x), x), stably -/
def srtL (ls : List (List Int)) : List (List Int) := ls.mergeSort (PySem.W.dataLe false ordK)
def TupI (K : PySem.W.Frag) (H : Hp) (Pz : Addr → List Int → Prop) (t : Addr) (l : List Int) : Prop := SqT K H t (l.map V.int) ∧ l.length ≤ 1000 ∧ Pz t l
inductive Each {α β : Type} (R : α → β → Prop) : List α → List β → Prop
  | nil : Each R [] []
  | cons {a : α} {b : β} {as : List α} {bs : List β} : R a b → Each R as bs → Each R (a :: as) (b :: bs)
theorem each_out {K : PySem.W.Frag} {H : Hp} {Pz : Addr → List Int → Prop} : ∀ {out : List Value} {bs : List (List Int)}, PySem.W.EachIs (fun v l => ∃ t, v = Value.ref t ∧ TupI K H Pz t l) out bs → ∃ us : List Addr, out = us.map Value.ref ∧ Each (TupI K H Pz) us bs
  | _, _, .nil => ⟨[], rfl, .nil⟩
  | _, _, .cons h e => by
    obtain ⟨t, rfl, ht⟩ := h
    obtain ⟨us, rfl, hu⟩ := each_out e
    exact ⟨t :: us, rfl, .cons ht hu⟩
theorem each_in {K : PySem.W.Frag} {H : Hp} {Pz : Addr → List Int → Prop} : ∀ {ts : List Addr} {bs : List (List Int)}, Each (TupI K H Pz) ts bs → PySem.W.EachIs (fun v l => ∃ t, v = Value.ref t ∧ TupI K H Pz t l) (ts.map Value.ref) bs
  | _, _, .nil => .nil
  | _, _, .cons h e => .cons ⟨_, rfl, h⟩ (each_in e)
theorem vals_refs : ∀ {ts : List Addr} {us : List Value}, Vals (ts.map V.ref) us → us = ts.map Value.ref
  | [], _, h => by cases h; rfl
  | t :: ts, _, h => by
    cases h with
    | cons a b =>
      cases a
      rw [vals_refs b]; rfl
theorem refs_vals : ∀ ts : List Addr, Vals (ts.map V.ref) (ts.map Value.ref)
  | [] => .nil
  | t :: ts => .cons rfl (refs_vals ts)
theorem each_len {α β : Type} {R : α → β → Prop} : ∀ {as : List α} {bs : List β}, Each R as bs → as.length = bs.length
  | _, _, .nil => rfl
  | _, _, .cons _ e => by simp [each_len e]
theorem run_sortOrd {X : Cx} {pins : List (Addr × Obj)} {σ : L2.St} {H : Hp} {s : Shared} {f a : Addr} {fd : FuncData} {x qual y : Str} {st : Stmt} {ts : List Addr} {ls : List (List Int)} {Pz : Addr → List Int → Prop} {Q : VK} (I : L2.Inv X pins σ H s) (F : Fun X.K x qual st f fd) (hb : Binds X.K fd [y] [])
    (O : OrdDef st qual y) (hm : X.mg "len" = none) (hr : Room 1 X.A) (hs : SqL X.K H a (ts.map V.ref)) (ht : Each (TupI X.K H Pz) ts ls)
    (q : ∀ (us : List Addr) (p : Addr), Each (TupI X.K H Pz) us (srtL ls) → H p = none → Q (.ref p) (upd H p (.lst (us.map V.ref)))) :
    wpAny (model X.prog X.w) X.A (call (.builtin "sorted") [.ref a] [(Str.ofString "key", .ref f)]) (EP X pins σ Q) X.xe s := by
  obtain ⟨its, rv, hl, hz⟩ := I.list hs
  have ei := vals_refs rv
  subst ei
  have hlen : ls.length ≤ sizeLine := by rw [← each_len ht, ← List.length_map (f := V.ref)]; exact hz
  have hu := hr.un
  have hd := hr.dp
  refine PySem.W.sorted_key_data (R := fun v l => ∃ t, v = Value.ref t ∧ TupI X.K H Pz t l) (bs := ls) (b := false) ordK hl.isList (each_in ht) (fun d hd d' hd' => ?_) (.inl fun d hd => ?_) hlen (fun l _ => ?_) (PyProof.Rows.ksk_s1 _ _) (fun _ => PyProof.Rows.ksk_l1 _ _) (fun _ => PyProof.Rows.ksk_t1 _ _) ?_ ?_
  · obtain ⟨l, _, rfl⟩ := List.mem_map.mp hd
    obtain ⟨l', _, rfl⟩ := List.mem_map.mp hd'
    exact alike_ord l l'
  · obtain ⟨l, _, rfl⟩ := List.mem_map.mp hd
    exact ⟨_, _, rfl⟩
  · rw [depth_ord]; omega
  · rintro v l ⟨t, rfl, h1, h2, _⟩ hmem h tk kp
    obtain ⟨us, ru, hp, hzz⟩ := I.tuple h1
    have hi := ru.ints
    exact ord_turn I F hb O hm (by show X.A.depth < _; omega) (show s.heap.IsTuple t us.toArray from hp) hi (by rw [← ru.length, List.length_map]; exact h2) h tk kp
  · intro out c h' tk kp hn ho hlo he
    obtain ⟨us, rfl, hu2⟩ := each_out he
    have hln : H (s.heap.objs.size + 1) = none := I.hok.fresh (Nat.le_succ _)
    refine ⟨.ref _, upd H (s.heap.objs.size + 1) (.lst (us.map V.ref)), I.laid (t' := tk) kp (Nat.le_succ _) ⟨?_, _, c, refs_vals us, ho⟩, rfl, q us _ hu2 hln⟩
    rw [List.length_map] at hlo ⊢
    rw [hlo]; exact hlen
/-- in data -/
def tupsOf : List D → Option (List (List Int))
  | [] => some []
  | .tup ds :: r => match intsOf ds, tupsOf r with
    | some l, some ls => if l.length ≤ 1000 then some (l :: ls) else none
    | _, _ => none
  | _ => none
def fSortO : D → Option D
  | .lst ds => (tupsOf ds).map fun ls => .lst ((srtL ls).map fun l => .tup (l.map .int))
  | _ => none
def mSortO (m : En → Res D) : En → Res D := fun ρ => (m ρ).bind fun d => .ofO (fSortO d)
section
variable {X : Cx} {cl : Cl} {W : WX} {p pos kp kpos : Pos} {e : Expr} {m : En → Res D} {kn x qual y : Str} {st : Stmt} {f : Addr} {fd : FuncData}
theorem ints_rp {K : PySem.W.Frag} {F : Hp} : ∀ l : List Int, RpA K cl F (l.map V.int) (l.map D.int)
  | [] => .nil
  | n :: l => .cons (.int n) (ints_rp l)
theorem tupsOf_rp {K : PySem.W.Frag} {F H : Hp} (mm : Same F H) : ∀ {ds : List D} {vs : List V} {ls : List (List Int)}, RpA K cl F vs ds → tupsOf ds = some ls →
    ∃ ts : List Addr, vs = ts.map V.ref ∧ Each (TupI K H fun t l => Rp K cl F (.ref t) (.tup (l.map .int))) ts ls
  | [], _, _, r, e => by cases r; cases e; exact ⟨[], rfl, .nil⟩
  | d :: ds, _, _, r, e => by
    cases r with
    | cons a b =>
      cases a with
      | tup h1 h2 =>
        rename_i aa xs us
        simp only [tupsOf] at e
        cases q : intsOf us with
        | none => simp only [q] at e; cases e
        | some l =>
          cases q2 : tupsOf ds with
          | none => simp only [q, q2] at e; cases e
          | some ls =>
            simp only [q, q2] at e
            split at e
            · rename_i hz
              cases e
              obtain ⟨ts, rfl, ht⟩ := tupsOf_rp mm b q2
              have := intsOf_rp h2 q
              subst this
              exact ⟨aa :: ts, rfl, .cons ⟨.of (mm _ _ h1), hz, .tup h1 (ints_rp l)⟩ ht⟩
            · cases e
      | _ => simp only [tupsOf] at e; cases e
theorem each_rp {K : PySem.W.Frag} {F F' H : Hp} (mm : Same F F') : ∀ {us : List Addr} {ls : List (List Int)}, Each (TupI K H fun t l => Rp K cl F (.ref t) (.tup (l.map .int))) us ls → RpA K cl F' (us.map V.ref) (ls.map fun l => .tup (l.map .int))
  | _, _, .nil => .nil
  | _, _, .cons h e => .cons (h.2.2.mono mm) (each_rp mm e)
theorem call_sortO (F : Fun X.K x qual st f fd) (hb : Binds X.K fd [y] []) (O : OrdDef st qual y) (hm : X.mg "len" = none) (hr : Room 1 X.A) : CallRK X (.builtin "sorted") [Str.ofString "key"] (fun xs zs H Q => ∃ (a : Addr) (ts : List Addr) (ls : List (List Int)) (Pz : Addr → List Int → Prop),
    xs = [.ref a] ∧ zs = [.ref f] ∧ SqL X.K H a (ts.map V.ref) ∧ Each (TupI X.K H Pz) ts ls ∧ ∀ (us : List Addr) (p : Addr), Each (TupI X.K H Pz) us (srtL ls) → H p = none → Q (.ref p) (upd H p (.lst (us.map V.ref)))) := by
  intro pins s σ H vs zs us ws Q I r rz h
  obtain ⟨a, ts, ls, Pz, rfl, rfl, h1, h2, q⟩ := h
  obtain rfl := Vals.ref1 r
  obtain rfl := Vals.ref1 rz
  exact run_sortOrd I F hb O hm hr h1 h2 q
theorem so_sortO (F : Fun X.K x qual st f fd) (hb : Binds X.K fd [y] []) (O : OrdDef st qual y) (hm : X.mg "len" = none) (hr : Room 1 X.A) (hg : Gl X "sorted") (hs : X.mg "sorted" = none) (he : SE X cl W e m) (hk : PE X (.Name kn kp) (L2.tC (.ref f)))
    (h1 : backTo pos (starEach [e] X.env) = (false, eval e X.env) :: backTo pos (starEach [] X.env) := by rfl) (h2 : (backTo pos (starEach [e] X.env)).any (·.1) = false := by rfl)
    (h3 : (backToKw pos (keywordEach [⟨some (Str.ofString "key"), .Name kn kp, kpos⟩] X.env)).all (·.1.isSome) = true := by rfl) (h4 : (backToKw pos (keywordEach [⟨some (Str.ofString "key"), .Name kn kp, kpos⟩] X.env)).any (·.1.isNone) = false := by rfl)
    (h5 : (backToKw pos (keywordEach [⟨some (Str.ofString "key"), .Name kn kp, kpos⟩] X.env)).filterMap (·.1) = [Str.ofString "key"] := by rfl) (hs1 : starEach [e] X.env = (false, eval e X.env) :: starEach [] X.env := by rfl) :
    SE X cl W (.Call (.Name "sorted" p) [e] [⟨some (Str.ofString "key"), .Name kn kp, kpos⟩] pos) (mSortO m) := by
  refine (pe_callBK (call_sortO F hb O hm hr) hg hs (by decide +kernel) (pa_cons he pa_nil hs1) (pk_cons hk pk_nil) (by decide) (by decide) h1 h2 h3 h4 h5).of ?_
  rintro σ H Q ⟨B, F0, F1, ρ, s, p⟩
  refine ⟨B, F0, F1, ρ, s, (step1 s p).imp ?_⟩
  rintro v H1 ⟨d, F2, e1, g, r, p⟩
  cases q : fSortO d with
  | none => rw [q] at p; exact p.elim
  | some d' =>
    rw [q] at p
    cases r with
    | lst h1 h2 =>
      simp only [fSortO] at q
      obtain ⟨ls, q1, rfl⟩ := Option.map_eq_some_iff.mp q
      obtain ⟨ts, rfl, ht⟩ := tupsOf_rp g.fh h2 q1
      refine ⟨_, ts, ls, _, rfl, rfl, .of (g.fh _ _ h1), ht, fun us pp hu hp => ?_⟩
      have gn := Gr.new (o := .lst (us.map V.ref)) g.fh hp
      exact p _ _ _ gn (.lst upd_same (each_rp gn.f hu))
    | _ => cases q
end
end FL
namespace FL
open PySem L2
/-! ## raise C(e) with an own __init__ that keeps its arguments -/
/-- __init__(self, y): self.f = y -/
def spX1 (K : PySem.W.Frag) (C : Addr) (f : Str) : Sp := fun vs H Q _ => ∃ a v, vs = [.ref a, v] ∧ H a = some (exo a C none) ∧ ∀ dx, H dx = none → dx ≠ a → Q .non (upd (upd H dx (exd dx [(f, v)])) a (exo a C (some dx)))
structure X1Def (st : Stmt) (y f : Str) : Prop where
  body : ∃ (p1 p2 p3 p4 : Pos), defBody st = [.Assign [.Attribute (.Name "self" p1) f p2] (.Name y p3) p4]
section
variable {P : Program} {w : World} {K : PySem.W.Frag} {mg : Str → Option Value} {base : Heap}
theorem fn_x1 {x qual y f : Str} {st : Stmt} {g C : Addr} {fd : FuncData} (F : Fun K x qual st g fd) (S : FnScope ["self", y] ["self", y] (defScope st)) (O : X1Def st y f) (T : OexC K C) (hno : PySem.W.findIn K (.ref C) f = some none)
    (h0 : Vis (defScope st) "self") (h1 : Vis (defScope st) y) (hd : (y == ("__debug__" : Str)) = false) (hcd : (y == ("__classdict__" : Str)) = false) :
    FnOk P w K mg base (L2.CX P w) 1 g fd ["self", y] (spX1 K C f) := by
  obtain ⟨p1, p2, p3, p4, hb⟩ := O.body
  refine F.okX (k := 0) S (fun vs H Q E h => ?_) (fun cdv A outer s H vs Q E hr h => ?_)
  · obtain ⟨a, v, rfl, _⟩ := h; rfl
  · obtain ⟨a, v, rfl, ha, q⟩ := h
    rw [hb]
    refine ⟨_, pss_cons (ps_ost (pe_var (i := 0) rfl h0) (pe_var (i := 1) rfl h1 hd hcd)) pss_nil, ?_⟩
    exact ⟨v, rfl, .ref a, rfl, a, C, rfl, T, hno, .inl ⟨ha, fun dx e1 e2 => q dx e1 e2⟩⟩
/-- __init__(self, y, z): self.f = y; self.g = z -/
theorem fn_x2 {x qual y z f g : Str} {st : Stmt} {h C : Addr} {fd : FuncData} (F : Fun K x qual st h fd) (S : FnScope ["self", y, z] ["self", y, z] (defScope st))
    (O : ∃ (p1 p2 p3 p4 q1 q2 q3 q4 : Pos), defBody st = [.Assign [.Attribute (.Name "self" p1) f p2] (.Name y p3) p4, .Assign [.Attribute (.Name "self" q1) g q2] (.Name z q3) q4]) (T : OexC K C)
    (hno : PySem.W.findIn K (.ref C) f = some none) (hno2 : PySem.W.findIn K (.ref C) g = some none) (h0 : Vis (defScope st) "self") (h1 : Vis (defScope st) y) (h2 : Vis (defScope st) z)
    (hd : (y == ("__debug__" : Str)) = false) (hcd : (y == ("__classdict__" : Str)) = false) (hd2 : (z == ("__debug__" : Str)) = false) (hcd2 : (z == ("__classdict__" : Str)) = false) :
    FnOk P w K mg base (L2.CX P w) 1 h fd ["self", y, z] (fun vs H Q _ => ∃ a v u, vs = [.ref a, v, u] ∧ H a = some (exo a C none) ∧ ∀ dx, H dx = none → dx ≠ a → Q .non (upd (upd (upd H dx (exd dx [(f, v)])) a (exo a C (some dx))) dx (exd dx [(g, u), (f, v)]))) := by
  obtain ⟨p1, p2, p3, p4, q1, q2, q3, q4, hb⟩ := O
  refine F.okX (k := 0) S (fun vs H Q E h => ?_) (fun cdv A outer s H vs Q E hr h => ?_)
  · obtain ⟨a, v, u, rfl, _⟩ := h; rfl
  · obtain ⟨a, v, u, rfl, ha, q⟩ := h
    rw [hb]
    refine ⟨_, pss_cons (ps_ost (pe_var (i := 0) rfl h0) (pe_var (i := 1) rfl h1 hd hcd)) (pss_cons (ps_ost (pe_var (i := 0) rfl h0) (pe_var (i := 2) rfl h2 hd2 hcd2)) pss_nil), ?_⟩
    exact ⟨v, rfl, .ref a, rfl, a, C, rfl, T, hno, .inl ⟨ha, fun dx e1 e2 => ⟨u, rfl, .ref a, rfl, a, C, rfl, T, hno2, .inr ⟨dx, [(f, v)], upd_same, by rw [upd_ne e2, upd_same], by simp, q dx e1 e2⟩⟩⟩⟩
end
def spX2 (C : Addr) (f g : Str) : Sp := fun vs H Q _ => ∃ a v u, vs = [.ref a, v, u] ∧ H a = some (exo a C none) ∧ ∀ dx, H dx = none → dx ≠ a → Q .non (upd (upd (upd H dx (exd dx [(f, v)])) a (exo a C (some dx))) dx (exd dx [(g, u), (f, v)]))
/-- raise C(e, ..) -/
def sRaiseX (c : Nat) (fs : List Str) (ms : En → Res (List D)) : En → Option Fl := fun ρ => runE ρ (ms ρ) fun ds => if ds.length = fs.length then some (.ex (.exc c fs.reverse ds.reverse) ρ) else none
theorem del_eq1 {H : Hp} {a dx : Addr} {o0 o1 o2 o3 : HO} (ha : H a = none) (hne : dx ≠ a) : upd (L2.del (upd (upd (upd H a o0) dx o1) a o2) a) dx o3 = upd H dx o3 := by
  funext b
  by_cases h : b = dx
  · subst h; rw [upd_same, upd_same]
  · rw [upd_ne h, upd_ne h]
    by_cases h2 : b = a
    · subst h2; rw [L2.del_same, ha]
    · rw [L2.del_ne h2, upd_ne h2, upd_ne h, upd_ne h2]
theorem del_eq2 {H : Hp} {a dx : Addr} {o0 o1 o2 o4 o3 : HO} (ha : H a = none) (hne : dx ≠ a) : upd (L2.del (upd (upd (upd (upd H a o0) dx o1) a o2) dx o4) a) dx o3 = upd H dx o3 := by
  funext b
  by_cases h : b = dx
  · subst h; rw [upd_same, upd_same]
  · rw [upd_ne h, upd_ne h]
    by_cases h2 : b = a
    · subst h2; rw [L2.del_same, ha]
    · rw [L2.del_ne h2, upd_ne h, upd_ne h2, upd_ne h, upd_ne h2]
section
variable {X : Cx} {cl : Cl} {W : WX} {pos p : Pos} {x f g : Str} {c : Nat} {e : Expr} {es : List Expr} {ms : En → Res (List D)}
theorem passF {X : Cx} : Passes (L2.CX X.prog X.w) X (fun _ _ _ => False) := fun pins σ H s e s' I c => passAt (W := fun _ _ _ _ => False) L2.takes0 σ pins H s e s' I c
theorem ss_raiseX1 (hc : X.calm = true) (tk : Takes X W) (h : PMk X e (tMkO (cl.ad c) (spX1 X.K (cl.ad c) f) [] (tA X.K cl W ms))) : SS X cl W (.Raise (some e) none pos) (sRaiseX c [f] ms) := by
  refine (ps_raise hc tk h).of ?_
  rintro D σ H ⟨B, F0, F, ρ, s, p⟩
  refine ⟨B, F0, F, ρ, s, (stepSA s p).imp ?_⟩
  clear p
  rintro vs H1 ⟨ds, F1, e1, gg, r, p⟩
  split at p
  · rename_i hl
    match ds, hl, r with
    | [d], _, r =>
      obtain ⟨v, rfl, r1⟩ := r.one
      refine ⟨by simp, fun a ha => ⟨a, v, rfl, upd_same, fun dx e1 e2 => ⟨rfl, dx, [(f, v)], upd_same, by rw [upd_ne e2, upd_same], ?_, ?_⟩⟩⟩
      · rw [upd_ne e2] at e1; exact e1
      · rw [upd_ne e2] at e1
        rw [del_eq1 ha e2]
        have gn := Gr.new (o := HO.xd [(f, v)]) gg.fh e1
        exact p _ (some dx) σ _ _ gn.f ((s.grow gg).grow gn) (.refl _ _) ⟨c, rfl, .inr ⟨dx, [(f, v)], [d], rfl, upd_same, .cons (r1.mono gn.f) .nil, rfl⟩⟩
  · exact p.elim
theorem ss_raiseX2 (hc : X.calm = true) (tk : Takes X W) (h : PMk X e (tMkO (cl.ad c) (spX2 (cl.ad c) f g) [] (tA X.K cl W ms))) : SS X cl W (.Raise (some e) none pos) (sRaiseX c [f, g] ms) := by
  refine (ps_raise hc tk h).of ?_
  rintro D σ H ⟨B, F0, F, ρ, s, p⟩
  refine ⟨B, F0, F, ρ, s, (stepSA s p).imp ?_⟩
  clear p
  rintro vs H1 ⟨ds, F1, e1, gg, r, p⟩
  split at p
  · rename_i hl
    match ds, hl, r with
    | [d, d'], _, r =>
      obtain ⟨v, u, rfl, r1, r2⟩ := r.two
      refine ⟨by simp, fun a ha => ⟨a, v, u, rfl, upd_same, fun dx e1 e2 => ⟨rfl, dx, [(g, u), (f, v)], by rw [upd_ne (Ne.symm e2), upd_same], upd_same, ?_, ?_⟩⟩⟩
      · rw [upd_ne e2] at e1; exact e1
      · rw [upd_ne e2] at e1
        rw [del_eq2 ha e2]
        have gn := Gr.new (o := HO.xd [(g, u), (f, v)]) gg.fh e1
        exact p _ (some dx) σ _ _ gn.f ((s.grow gg).grow gn) (.refl _ _) ⟨c, rfl, .inr ⟨dx, [(g, u), (f, v)], [d', d], rfl, upd_same, .cons (r2.mono gn.f) (.cons (r1.mono gn.f) .nil), rfl⟩⟩
  · exact p.elim
end
end FL
namespace FL
open PySem L2
/-! ## x in o by an own __contains__ -/
def fCon (c : Nat) (φ : List D → Res D) : D → D → Option D
  | x, .ins k ns ds => if k = c then (match φ [.ins k ns ds, x] with | .ok (.bl b) => some (.bl b) | _ => none) else none
  | _, _ => none
def fNotCon (c : Nat) (φ : List D → Res D) : D → D → Option D
  | x, .ins k ns ds => if k = c then (match φ [.ins k ns ds, x] with | .ok (.bl b) => some (.bl (!b)) | _ => none) else none
  | _, _ => none
section
variable {X : Cx} {cl : Cl} {K : PySem.W.Frag} {C g : Addr} {k : Nat} {fd : FuncData} {ps : List Str} {sp : Sp}
theorem inst_at {pins : List (Addr × Obj)} {σ : L2.St} {H : Hp} {s : Shared} {a dx : Addr} {fs : List (Str × V)} (I : L2.Inv X pins σ H s) (ha : H a = some (.ins C dx fs)) : ∃ od, PySem.W.InstAt s.heap a (PySem.W.instObj C dx) C (some od) := by
  obtain ⟨mA, O, _⟩ := ins_get I.hok ha
  obtain ⟨od, J, _⟩ := O.look
  exact ⟨od, J⟩
def rCon (C : Addr) (sp : Sp) (n : Bool) : R2 := fun x y H Q => ∃ a dx fs, y = .ref a ∧ H a = some (.ins C dx fs) ∧ sp [y, x] H (fun v H' => ∃ b : Bool, v = .bl b ∧ Q (.bl (if n then !b else b)) H') (fun _ _ _ => False)
theorem op_inOwn (hs : PySem.W.findIn X.K (.ref C) "__contains__" = some (some (.ref g))) (hf : PySem.W.isFn X.K (.ref g) = true) (F : FnOk X.prog X.w X.K X.mg X.base (L2.CX X.prog X.w) k g fd ps sp) (hr : Room k X.A) (hb : Binds X.K fd ps []) : OpR X (compareOp .In) (rCon C sp false) := by
  intro pins s σ H x y v u Q I rx ry h
  obtain ⟨a, dx, fs, rfl, ha, q⟩ := h
  cases (show u = Value.ref a from ry)
  obtain ⟨od, J⟩ := inst_at I ha
  obtain ⟨m, hF⟩ := I.fr
  refine PySem.W.in_K hF I.ok.mod.kin J hs hf (wpAny_mono (run_fn (us := [.ref a, v]) (vs := [.ref a, x]) F hr hb .nil passF I (.cons rfl (.cons rx .nil)) q) (fun w s' z => ?_) fun _ _ z => z)
  obtain ⟨z', H', I', rz, b, rfl, q2⟩ := z
  cases (show w = Value.bool b from rz)
  exact wpAny_truthy_bool ⟨.bl b, H', I', rfl, q2⟩
theorem op_notInOwn (hs : PySem.W.findIn X.K (.ref C) "__contains__" = some (some (.ref g))) (hf : PySem.W.isFn X.K (.ref g) = true) (F : FnOk X.prog X.w X.K X.mg X.base (L2.CX X.prog X.w) k g fd ps sp) (hr : Room k X.A) (hb : Binds X.K fd ps []) : OpR X (compareOp .NotIn) (rCon C sp true) := by
  intro pins s σ H x y v u Q I rx ry h
  obtain ⟨a, dx, fs, rfl, ha, q⟩ := h
  cases (show u = Value.ref a from ry)
  obtain ⟨od, J⟩ := inst_at I ha
  obtain ⟨m, hF⟩ := I.fr
  refine PySem.W.notIn_K hF I.ok.mod.kin J hs hf (wpAny_mono (run_fn (us := [.ref a, v]) (vs := [.ref a, x]) F hr hb .nil passF I (.cons rfl (.cons rx .nil)) q) (fun w s' z => ?_) fun _ _ z => z)
  obtain ⟨z', H', I', rz, b, rfl, q2⟩ := z
  cases (show w = Value.bool b from rz)
  exact wpAny_truthy_bool ⟨.bl (!b), H', I', rfl, q2⟩
theorem o_con {c : Nat} {φ : List D → Res D} : Op2 K cl (rCon (cl.ad c) (spOf K cl 2 φ) false) (fCon c φ) := by
  intro F H x y dx dy Q m rx ry p
  cases ry with
  | ins h1 h2 h3 =>
    simp only [fCon] at p
    split at p
    · rename_i hk
      subst hk
      split at p
      · rename_i b hb
        refine ⟨_, _, _, rfl, m _ _ h1, F, _, m, .cons (.ins h1 h2 h3) (.cons rx .nil), rfl, ?_⟩
        rw [hb]
        intro v F' H' g r
        cases r
        exact ⟨b, rfl, p (.bl b) F' H' g (.bl _)⟩
      · exact p.elim
    · exact p.elim
  | _ => exact p.elim
theorem o_notCon {c : Nat} {φ : List D → Res D} : Op2 K cl (rCon (cl.ad c) (spOf K cl 2 φ) true) (fNotCon c φ) := by
  intro F H x y dx dy Q m rx ry p
  cases ry with
  | ins h1 h2 h3 =>
    simp only [fNotCon] at p
    split at p
    · rename_i hk
      subst hk
      split at p
      · rename_i b hb
        refine ⟨_, _, _, rfl, m _ _ h1, F, _, m, .cons (.ins h1 h2 h3) (.cons rx .nil), rfl, ?_⟩
        rw [hb]
        intro v F' H' g r
        cases r
        exact ⟨b, rfl, p (.bl (!b)) F' H' g (.bl _)⟩
      · exact p.elim
    · exact p.elim
  | _ => exact p.elim
end
/-! ## isinstance of an instance -/
/-- what isinstance asks of the class at C -/
structure IsiC (K : PySem.W.Frag) (C : Addr) : Prop where
  c : Cls K C
  ha : PySem.W.findIn K (.ref C) "__class__" = some (some (.builtin "object.__class__"))
  hn : PySem.W.specialIn K (.builtin "object.__class__") "__get__" = some (some (.builtin "getset_descriptor.__get__"))
  ht : PySem.W.takesIn K (.builtin "object.__class__") = some true
  hm : PySem.W.mroIn K C (.type "object") = some true
section
variable {X : Cx} {cl : Cl} {W : WX} {e : Expr} {m : En → Res D} {x : Str} {p px pos : Pos} {l : XT} {cv : V} {c : Value}
theorem so_isC (hg : Gl X "isinstance") (hm : X.mg "isinstance" = none) (hx : PE X (.Name x px) (L2.tC cv)) (hcv : ClsV cv c) (tab : XTab (fun k b => PySem.W.kitOne X.K (.ref (cl.ad k)) c = some b ∧ IsiC X.K (cl.ad k)) l) (ha : SE X cl W e m)
    (hs1 : starEach (e :: [.Name x px]) X.env = (false, eval e X.env) :: starEach [.Name x px] X.env := by rfl) (hs2 : starEach [.Name x px] X.env = (false, eval (.Name x px) X.env) :: starEach [] X.env := by rfl)
    (hpl : (backTo pos (starEach [.Name x px] X.env)).any (·.1) = false := by rfl) : SE X cl W (.Call (.Name "isinstance" p) [e, .Name x px] [] pos) (mIsC l m) := by
  refine (pe_callB call_isi hg hm (by decide +kernel) (pa_cons ha (pa_cons hx pa_nil hs2) hs1) (by decide) (by decide) hs1 hpl).of ?_
  rintro σ H Q ⟨B, F0, F, ρ, s, p⟩
  refine ⟨B, F0, F, ρ, s, (step1 s p).imp ?_⟩
  rintro v H1 ⟨d, F1, e1, g, r, p⟩
  cases r with
  | ins h1 h2 h3 =>
    rename_i a dx k fs ns ds
    cases q : l.lookup k with
    | none => simp only [q] at p; exact p.elim
    | some b =>
      simp only [q] at p
      obtain ⟨t1, t2⟩ := tab _ b q
      exact ⟨_, cv, _, c, b, rfl, hcv, .base (.ins (g.fh _ _ h1) t2.c t2.ha t2.hn t2.ht t2.hm), t1, p _ F1 H1 (.refl g.fh) (.bl _)⟩
  | _ => exact p.elim
end
end FL
namespace FL
open PySem L2
/-! ## dict comprehensions -/
def compD (bt : D → En → Option En) (mt : En → Res Bool) (mk mv : En → Res D) (ρ : En) : List D → List Key → List D → Res Cn
  | [], ks, vs => .ok (.k ks vs)
  | d :: ds, ks, vs => match bt d ρ with
    | none => .bad
    | some ρ1 => match mt ρ1 with
      | .ok true => match mk ρ1 with
        | .ok k => match keyOf k with
          | some k => match mv ρ1 with
            | .ok e => if ks.length < 16777215 then compD bt mt mk mv ρ ds (putKs ks k) (putVs ks vs k e) else .bad
            | _ => .bad
          | none => .bad
        | _ => .bad
      | .ok false => compD bt mt mk mv ρ ds ks vs
      | _ => .bad
def mDc (bt : D → En → Option En) (own : List Nat) (mi : En → Res (List D)) (mt : En → Res Bool) (mk mv : En → Res D) : En → Res Cn := fun ρ => (mi ρ).bind fun ds => compD bt mt mk mv (wipeE ρ own) ds [] []
section
variable {X : Cx} {cl : Cl} {W : WX} {kx vx tg iter : Expr} {ifs : List Expr} {scope : Scope} {own : List (Str × Nat)} {pos pos' : Pos} {is : List Nat} {g : TG} {bt : D → En → Option En} {mi : En → Res (List D)} {mt : En → Res Bool} {mk mv : En → Res D}
theorem dc_in (G : GOk X.K cl g is bt) (hsub : ∀ i ∈ is, i ∈ own.map (·.2)) : ∀ σ H Q, tC' X.K cl W (mDc bt (own.map (·.2)) mi mt mk mv) σ H Q → tDc (tI X.K cl W mi) g (tTs X.K cl mt) (tM X.K cl W0 mk) (tM X.K cl W0 mv) (own.map (·.2)) σ H Q := by
  rintro σ H Q ⟨B, F0, F, ρ, s, p⟩
  refine ⟨B, F0, F, ρ, s, ?_⟩
  unfold mDc at p
  cases q : mi ρ with
  | bad => rw [q] at p; exact p
  | er e => rw [q] at p; exact p
  | ok ds =>
    rw [q] at p
    have p : PostC X.K cl W σ F H (compD bt mt mk mv (wipeE ρ (own.map (·.2))) ds [] []) Q := p
    intro J F1 H1 g1 io Da hD
    generalize hvs : own.map (·.2) = vs at *
    generalize hρw : wipeE ρ vs = ρw at *
    generalize hR : compD bt mt mk mv ρw ds [] [] = R at *
    refine ⟨fun i m Hc => m = ds.length - i ∧ i ≤ ds.length ∧ ∃ Fc av ad, Same F1 Fc ∧ Same Fc Hc ∧ Same H1 Hc ∧ (∀ a, H1 a ≠ none → Fc a = F1 a) ∧ Fc Da = none ∧ Hc Da = some (.dK av) ∧ RpA X.K cl Fc (av.map (·.2)) ad ∧ compD bt mt mk mv ρw (ds.drop i) (av.map (·.1)) ad = R,
      ⟨ds.length, by simp, Nat.zero_le _, F1, [], [], Same.refl _, ?_, ?_, fun _ _ => rfl, ?_, upd_same, .nil, by simpa using hR⟩, ?_⟩
    · exact (Gr.own g1.fh hD).fh
    · exact (Gr.own g1.fh hD).h
    · cases z : F1 Da with | none => rfl | some o => rw [g1.fh _ _ z] at hD; cases hD
    rintro i m Hc ⟨rfl, hi, Fc, av, ad, m1, m2, m3, m4, hF, hH, hr, hR'⟩
    have gc : Gr F H Fc Hc := ⟨g1.f.trans m1, m2, g1.h.trans m3, fun a ha => by
      have h1 : H1 a ≠ none := by
        cases e : H a with
        | none => exact absurd e ha
        | some o => rw [g1.h a o e]; simp
      rw [m4 a h1, g1.n a ha]⟩
    by_cases hlt : i < ds.length
    · refine .inr ⟨io.go i Hc (m1.trans m2) hlt, fun H' => ∃ Fc av ad, Same F1 Fc ∧ Same Fc H' ∧ Same H1 H' ∧ (∀ a, H1 a ≠ none → Fc a = F1 a) ∧ Fc Da = none ∧ H' Da = some (.dK av) ∧ RpA X.K cl Fc (av.map (·.2)) ad ∧ compD bt mt mk mv ρw (ds.drop (i + 1)) (av.map (·.1)) ad = R, ?_, ?_⟩
      · intro H' h'
        exact ⟨ds.length - (i + 1), by omega, rfl, hlt, h'⟩
      intro x H' y
      have hd : ds[i]? = some ds[i] := by simp [hlt]
      obtain ⟨F2, g2, rx⟩ := io.yld i Hc x H' ds[i] Fc m1 m2 y hd
      have gt : Gr F H F2 H' := gc.trans g2
      have sw := (s.grow gt).wipe vs
      rw [hρw] at sw
      have ed : ds.drop i = ds[i] :: ds.drop (i + 1) := by rw [List.drop_eq_getElem_cons hlt]
      rw [ed] at hR'
      simp only [compD] at hR'
      cases qb : bt ds[i] ρw with
      | none => rw [qb] at hR'; simp only at hR'; rw [← hR'] at p; exact p.elim
      | some ρ1 =>
        rw [qb] at hR'
        simp only at hR'
        refine G.run B F0 F2 (wipe σ vs) H' ρw x ds[i] ρ1 _ sw rx qb fun σ2 s2 hl2 hk2 => ?_
        refine ⟨wipe_eq (by rw [hl2, wipe_length]) fun k hk => (hk2 k fun z => hk (hvs ▸ hsub k z)).1, B, F0, F2, ρ1, s2, ?_⟩
        have hDa : ∀ {Fx Hx : Hp}, Gr Fc Hc Fx Hx → Fx Da = none ∧ Hx Da = some (.dK av) := fun {Fx Hx} gx => ⟨by rw [gx.n Da (by rw [hH]; simp)]; exact hF, gx.h _ _ hH⟩
        cases qt : mt ρ1 with
        | bad => rw [qt] at hR'; simp only at hR'; rw [← hR'] at p; exact p.elim
        | er e => rw [qt] at hR'; simp only at hR'; rw [← hR'] at p; exact p.elim
        | ok b =>
          rw [qt] at hR'
          intro F3 H3 g3
          cases b with
          | false =>
            simp only at hR'
            show ∃ Fc av ad, _
            have gx := g2.trans g3
            obtain ⟨e1, e2⟩ := hDa gx
            exact ⟨F3, av, ad, m1.trans gx.f, gx.fh, m3.trans gx.h, fun a ha => by
              have : Hc a ≠ none := by
                cases e : H1 a with
                | none => exact absurd e ha
                | some o => rw [m3 a o e]; simp
              rw [gx.n a this, m4 a ha], e1, e2, hr.mono gx.f, hR'⟩
          | true =>
            simp only at hR'
            show tM X.K cl W0 mk σ2 H3 _
            refine ⟨B, F0, F3, ρ1, s2.grow g3, ?_⟩
            cases qk : mk ρ1 with
            | bad => rw [qk] at hR'; simp only at hR'; rw [← hR'] at p; exact p.elim
            | er e => rw [qk] at hR'; simp only at hR'; rw [← hR'] at p; exact p.elim
            | ok dk =>
              rw [qk] at hR'
              simp only at hR'
              intro u F5 H5 g5 r5
              refine ⟨B, F0, F5, ρ1, (s2.grow g3).grow g5, ?_⟩
              cases qq : keyOf dk with
              | none => rw [qq] at hR'; simp only at hR'; rw [← hR'] at p; exact p.elim
              | some k =>
              rw [qq] at hR'
              simp only at hR'
              cases qe : mv ρ1 with
              | bad => rw [qe] at hR'; simp only at hR'; rw [← hR'] at p; exact p.elim
              | er e => rw [qe] at hR'; simp only at hR'; rw [← hR'] at p; exact p.elim
              | ok d =>
                rw [qe] at hR'
                simp only at hR'
                intro v F4 H4 g4 r4
                have gx := ((g2.trans g3).trans g5).trans g4
                obtain ⟨e1, e2⟩ := hDa gx
                by_cases hlen : (av.map (·.1)).length < 16777215
                · rw [if_pos hlen] at hR'
                  obtain ⟨q1, q2⟩ := putK_rp (k := k) (hr.mono gx.f) r4
                  refine ⟨av, k, keyOf_rp r5 qq, e2, by rw [sizeLine_eq]; rw [List.length_map] at hlen; omega, F4, _, _, m1.trans gx.f, fun a o e => ?_, fun a o e => ?_, fun a ha => ?_, e1, upd_same, q2, by rw [q1]; exact hR'⟩
                  · have : a ≠ Da := fun z => by subst z; rw [e1] at e; cases e
                    rw [upd_ne this]; exact gx.fh _ _ e
                  · have : a ≠ Da := fun z => by subst z; rw [hD] at e; cases e
                    rw [upd_ne this]; exact gx.h _ _ (m3 _ _ e)
                  · have : Hc a ≠ none := by
                      cases e : H1 a with
                      | none => exact absurd e ha
                      | some o => rw [m3 a o e]; simp
                    rw [gx.n a this, m4 a ha]
                · rw [if_neg hlen] at hR'; rw [← hR'] at p; exact p.elim
    · have e : i = ds.length := by omega
      refine .inl ⟨io.stop i Hc (m1.trans m2) e, ?_⟩
      subst e
      rw [List.drop_length] at hR'
      simp only [compD] at hR'
      rw [← hR'] at p
      exact p Da (.dK av) Fc Hc gc (Same.free g1.h hD) hF hH ⟨av, rfl, rfl, hr⟩
/-- {k: v for target in iter if ..} -/
theorem sc_dc (hc : X.calm = true) (hN : X.N.Nodup) (G : GOk X.K cl g is bt) (hsub : (is.all fun i => (own.map (·.2)).contains i) = true) (hi : SI X cl W tg iter mi) (ok : BlkOk X.N X.env.scope scope own)
    (hg : ∀ (s : Shared) (H : Hp) (C : Addr) (ce : List (Str × Addr)) (fp : List Addr), PG (X.blk s H scope (compEnvC scope ce C X.env) fp) tg g)
    (ht : ∀ (s : Shared) (H : Hp) (C : Addr) (ce : List (Str × Addr)) (fp : List Addr), PTs (X.blk s H scope (compEnvC scope ce C X.env) fp) ifs (tTs X.K cl mt))
    (hk : ∀ (s : Shared) (H : Hp) (C : Addr) (ce : List (Str × Addr)) (fp : List Addr), PE (X.blk s H scope (compEnvC scope ce C X.env) fp) kx (tM X.K cl W0 mk))
    (he : ∀ (s : Shared) (H : Hp) (C : Addr) (ce : List (Str × Addr)) (fp : List Addr), PE (X.blk s H scope (compEnvC scope ce C X.env) fp) vx (tM X.K cl W0 mv)) (hs : ∀ x, foldedSetIterable iter X.env x = pure x := by intro _; rfl) :
    SC X cl W (.DictComp kx vx [⟨tg, iter, ifs, 0⟩] scope pos) (mDc bt (own.map (·.2)) mi mt mk mv) :=
  (pe_dc hc hN hi ok hg ht hk he hs).of (dc_in G fun i hi => by simpa using (List.all_eq_true.mp hsub i hi))
end
section
variable {X : Cx}
theorem ps_setDc {i : Nat} {y : Str} {py : Pos} {kx vx tg iter : Expr} {ifs : List Expr} {scope : Scope} {own : List (Str × Nat)} {pos spos : Pos} {wi : TI} {g : TG} {tt : TT} {tk tv : TE} (hc : X.calm = true) (hN : X.N.Nodup) (hy : X.N[i]? = some y) (hyl : X.env.scope.names.lookup y = some .local)
    (hsw : swapsWith (.DictComp kx vx [⟨tg, iter, ifs, 0⟩] scope pos) (some (.Name y py)) spos.line X.env = pure true) (hi : PI X tg iter wi) (ok : BlkOk X.N X.env.scope scope own)
    (hg : ∀ (s : Shared) (H : Hp) (C : Addr) (cl : List (Str × Addr)) (fp : List Addr), PG (X.blk s H scope (compEnvC scope cl C X.env) fp) tg g) (ht : ∀ (s : Shared) (H : Hp) (C : Addr) (cl : List (Str × Addr)) (fp : List Addr), PTs (X.blk s H scope (compEnvC scope cl C X.env) fp) ifs tt)
    (hk : ∀ (s : Shared) (H : Hp) (C : Addr) (cl : List (Str × Addr)) (fp : List Addr), PE (X.blk s H scope (compEnvC scope cl C X.env) fp) kx tk)
    (he : ∀ (s : Shared) (H : Hp) (C : Addr) (cl : List (Str × Addr)) (fp : List Addr), PE (X.blk s H scope (compEnvC scope cl C X.env) fp) vx tv) (hs : ∀ x, foldedSetIterable iter X.env x = pure x := by intro _; rfl) :
    PS X (.Assign [.Name y py] (.DictComp kx vx [⟨tg, iter, ifs, 0⟩] scope pos) spos) (tAsg (tDc wi g tt tk tv (own.map (·.2))) (gName i)) := by
  refine ⟨fun pins s σ H D I h => ?_⟩
  rw [exec_Assign_Name_used _ _ _ _ hsw]
  refine wpAny_bind (wpAny_standAt (wpAny_bind ?_))
  show wpAny _ X.A (do let _ ← comprehension (.DictComp kx vx [⟨tg, iter, ifs, 0⟩] scope pos) scope X.env (firstIterPos [⟨tg, iter, ifs, 0⟩] pos) newDict false (eval iter X.env) (some (assign (.Name y py) X.env))) _ _ s
  have h : tDc wi g tt tk tv (own.map (·.2)) σ H (fun x H1 => gName i x σ H1 D.nx) := h
  refine wpAny_bind (thn (dc_core (Qf := fun _ s' => SP X pins D .next s') hc hN I hi ok hg ht hk he hs h fun L C s' m H' I' q hn f => ?_) fun _ s' hq => wpAny_pure (wpAny_pure hq))
  show wpAny _ _ (assign (.Name y py) X.env (.ref L)) _ _ _
  refine wpAny_assign_Name (store_ok2 (v := V.ref L) I' hN hy (.inl hyl) rfl (fun s2 I2 ⟨a, sb, ha⟩ => ?_) (.inr hyl))
  obtain ⟨f0, f1, f2, f3, f4, f5⟩ := f
  have haC : C ≠ a := by
    rcases ha with z | z
    · rw [z]; exact f1
    · exact fun e => f4 y a z e.symm
  refine ⟨m, hn.sameBut sb haC, fun h3 sb3 => ?_⟩
  exact ⟨_, H', I2.turned (t' := s2.toks) (fun b o hb e => (sb3.2 b hb).trans e) f0 f1 f3 f4 f5, q⟩
theorem sw_trueD {kx vx : Expr} {gs : List Comprehension} {scope : Scope} {pos py : Pos} {y : Str} {l : Nat} {env : Env} (hk : env.scope.kind = .function) (hy : env.scope.names.lookup y = some .local) (hl : (py.line == pos.line) = true)
    (ha : (scope.names.any fun (n, k) => n == y && (k == .local || k == .cell)) = false) : swapsWith (.DictComp kx vx gs scope pos) (some (.Name y py)) l env = pure true := by
  have ky : env.kindOf y = some .local := hy
  have hb : env.blockKind = .function := by unfold Env.blockKind; rw [hk]; rfl
  unfold swapsWith
  simp only [hb, ky, ha, Expr.pos, hl]
  rfl
end
section
variable {X : Cx} {cl : Cl} {W : WX} {kx vx tg iter : Expr} {ifs : List Expr} {scope : Scope} {own : List (Str × Nat)} {pos spos : Pos} {is : List Nat} {g : TG} {bt : D → En → Option En} {mi : En → Res (List D)} {mt : En → Res Bool} {mk mv : En → Res D}
theorem ss_dcO {i : Nat} {y : Str} {py : Pos} (hc : X.calm = true) (hN : X.N.Nodup) (hy : X.N[i]? = some y) (hyl : X.env.scope.names.lookup y = some .local)
    (hsw : swapsWith (.DictComp kx vx [⟨tg, iter, ifs, 0⟩] scope pos) (some (.Name y py)) spos.line X.env = pure true) (G : GOk X.K cl g is bt) (hsub : (is.all fun i => (own.map (·.2)).contains i) = true) (hi : SI X cl W tg iter mi) (ok : BlkOk X.N X.env.scope scope own)
    (hg : ∀ (s : Shared) (H : Hp) (C : Addr) (ce : List (Str × Addr)) (fp : List Addr), PG (X.blk s H scope (compEnvC scope ce C X.env) fp) tg g)
    (ht : ∀ (s : Shared) (H : Hp) (C : Addr) (ce : List (Str × Addr)) (fp : List Addr), PTs (X.blk s H scope (compEnvC scope ce C X.env) fp) ifs (tTs X.K cl mt))
    (hk : ∀ (s : Shared) (H : Hp) (C : Addr) (ce : List (Str × Addr)) (fp : List Addr), PE (X.blk s H scope (compEnvC scope ce C X.env) fp) kx (tM X.K cl W0 mk))
    (he : ∀ (s : Shared) (H : Hp) (C : Addr) (ce : List (Str × Addr)) (fp : List Addr), PE (X.blk s H scope (compEnvC scope ce C X.env) fp) vx (tM X.K cl W0 mv)) (hs : ∀ x, foldedSetIterable iter X.env x = pure x := by intro _; rfl) :
    SS X cl W (.Assign [.Name y py] (.DictComp kx vx [⟨tg, iter, ifs, 0⟩] scope pos) spos) (sOwn i (mDc bt (own.map (·.2)) mi mt mk mv)) :=
  (ps_setDc (i := i) hc hN hy hyl hsw hi ok hg ht hk he hs).of fun D σ H h => dc_in G (fun i hi => by simpa using (List.all_eq_true.mp hsub i hi)) σ H _ (own_in D σ H h)
theorem ss_dcF {i : Nat} {y : Str} {py : Pos} (hc : X.calm = true) (hN : X.N.Nodup) (hy : X.N[i]? = some y) (hyl : X.env.scope.names.lookup y = some .local)
    (hsw : swapsWith (.DictComp kx vx [⟨tg, iter, ifs, 0⟩] scope pos) (some (.Name y py)) spos.line X.env = pure true) (G : GOk X.K cl g is bt) (hsub : (is.all fun i => (own.map (·.2)).contains i) = true) (hi : SI X cl W tg iter mi) (ok : BlkOk X.N X.env.scope scope own)
    (hg : ∀ (s : Shared) (H : Hp) (C : Addr) (ce : List (Str × Addr)) (fp : List Addr), PG (X.blk s H scope (compEnvC scope ce C X.env) fp) tg g)
    (ht : ∀ (s : Shared) (H : Hp) (C : Addr) (ce : List (Str × Addr)) (fp : List Addr), PTs (X.blk s H scope (compEnvC scope ce C X.env) fp) ifs (tTs X.K cl mt))
    (hk : ∀ (s : Shared) (H : Hp) (C : Addr) (ce : List (Str × Addr)) (fp : List Addr), PE (X.blk s H scope (compEnvC scope ce C X.env) fp) kx (tM X.K cl W0 mk))
    (he : ∀ (s : Shared) (H : Hp) (C : Addr) (ce : List (Str × Addr)) (fp : List Addr), PE (X.blk s H scope (compEnvC scope ce C X.env) fp) vx (tM X.K cl W0 mv)) (hs : ∀ x, foldedSetIterable iter X.env x = pure x := by intro _; rfl) :
    SS X cl W (.Assign [.Name y py] (.DictComp kx vx [⟨tg, iter, ifs, 0⟩] scope pos) spos) (sSet i (mFz (mDc bt (own.map (·.2)) mi mt mk mv))) :=
  (ps_setDc (i := i) hc hN hy hyl hsw hi ok hg ht hk he hs).of fun D σ H h => dc_in G (fun i hi => by simpa using (List.all_eq_true.mp hsub i hi)) σ H _ (fz_in D σ H h)
end
theorem tab_nil {P : Nat → Prop} : ∀ c ∈ ([] : List Nat), P c := fun _ h => nomatch h
theorem tab_cons {P : Nat → Prop} {a : Nat} {l : List Nat} (h : P a) (t : ∀ c ∈ l, P c) : ∀ c ∈ a :: l, P c := List.forall_mem_cons.mpr ⟨h, t⟩
/-! ## a op1 b op2 c -/
theorem PostE.grown {K : PySem.W.Frag} {cl : Cl} {W : WX} {σ : L2.St} {F H F' H' : Hp} {r : Res D} {Q : VK} (g1 : Gr F H F' H') (p : PostE K cl W σ F H r Q) : PostE K cl W σ F' H' r Q := by
  cases r with
  | bad => exact p
  | er e => exact fun c dd F2 H2 g2 h2 => p c dd F2 H2 (g1.trans g2) h2
  | ok d2 => exact fun v F2 H2 g2 h2 => p v F2 H2 (g1.trans g2) h2
def mCh (f g : D → D → Option D) (ma mb mc : En → Res D) : En → Res D := fun ρ => (ma ρ).bind fun x => (mb ρ).bind fun y => match f x y with
  | some (.bl true) => (mc ρ).bind fun z => .ofO (g y z)
  | some (.bl false) => .ok (.bl false)
  | _ => .bad
section
variable {X : Cx} {cl : Cl} {W : WX} {a b c : Expr} {ma mb mc : En → Res D} {pos : Pos}
theorem chain_in {r r' : R2} {f g : D → D → Option D} (hr : Op2 X.K cl r f) (hr' : Op2 X.K cl r' g) : ∀ σ H Q, tM X.K cl W (mCh f g ma mb mc) σ H Q → tChain r r' (tM X.K cl W ma) (tM X.K cl W mb) (tM X.K cl W mc) σ H Q := by
  rintro σ H Q ⟨B, F0, F, ρ, s, p⟩
  refine ⟨B, F0, F, ρ, s, (step1 s p).imp ?_⟩
  rintro x H1 ⟨dx, F1, e1, g1, r1, p⟩
  refine ⟨B, F0, F1, ρ, s.grow g1, (step1 (s.grow g1) p).imp ?_⟩
  rintro y H2 ⟨dy, F2, e2, g2, r2, p⟩
  refine hr F2 H2 x y dx dy _ g2.fh (r1.mono g2.f) r2 ?_
  cases q : f dx dy with
  | none => rw [q] at p; exact p.elim
  | some d =>
    rw [q] at p
    cases d with
    | bl k =>
      intro v F3 H3 g3 r3
      cases r3
      refine ⟨k, rfl, ?_⟩
      cases k with
      | false => exact p _ F3 H3 g3 (.bl _)
      | true =>
        simp only [if_true]
        refine ⟨B, F0, F3, ρ, ((s.grow g1).grow g2).grow g3, ?_⟩
        have p : PostE X.K cl W σ F2 H2 ((mc ρ).bind fun z => .ofO (g dy z)) Q := p
        refine (step1 (((s.grow g1).grow g2).grow g3) (PostE.grown g3 p)).imp ?_
        rintro z H4 ⟨dz, F4, e4, g4, r4, p⟩
        exact hr' F4 H4 y z dy dz _ g4.fh ((r2.mono g3.f).mono g4.f) r4 (.of p)
    | _ => exact p.elim
theorem so_chain {op op' : CmpOp} {r r' : R2} {f g : D → D → Option D} (ho : OpR X (compareOp op) r) (hr : Op2 X.K cl r f) (ho' : OpR X (compareOp op') r') (hr' : Op2 X.K cl r' g) (ha : SE X cl W a ma) (hb : SE X cl W b mb) (hc : SE X cl W c mc)
    (hm : lastMarks [op, op'] [b, c] = false := by with_unfolding_all rfl) : SE X cl W (.Compare a [op, op'] [b, c] pos) (mCh f g ma mb mc) := (pe_chain ho ho' ha hb hc hm).of (chain_in hr hr')
theorem sb_chain {op op' : CmpOp} {r r' : R2} {f g : D → D → Option D} (ho : OpR X (compareOp op) r) (hr : Op2 X.K cl r f) (ho' : OpR X (compareOp op') r') (hr' : Op2 X.K cl r' g) (ha : SE X cl W a ma) (hb : SE X cl W b mb) (hc : SE X cl W c mc)
    (hm : lastMarks [op, op'] [b, c] = false := by with_unfolding_all rfl) : SB X cl W (.Compare a [op, op'] [b, c] pos) (mTst (mCh f g ma mb mc)) := sb_tst ((pt_chain ho ho' ha hb hc hm).of fun σ H Q h => chain_in hr hr' σ H _ h)
end
end FL
namespace FL
open PySem L2
/-! ## static methods of an own class -/
structure SMet (K : PySem.W.Frag) (C : Addr) (m : Str) (g : Addr) : Prop where
  ga : PySem.W.specialIn K (.ref C) "__getattribute__" = some (some (.builtin "type.__getattribute__"))
  at_ : ∃ mc p rest, PySem.W.readsIn K C mc = true ∧ PySem.W.findCls K (.ref C) mc m = some (.get (.builtin "staticmethod.__get__") (.ref p) .none (.ref C)) ∧ PySem.W.recIn K p "staticmethod" = some (.ref g :: rest)
  kp : PySem.W.keepIn K (.ref g) = true
section
variable {X : Cx} {cl : Cl} {W : WX} {e : Expr} {es : List Expr} {ms : En → Res (List D)} {x m : Str} {p apos pos : Pos} {C : Addr} {pl : Sem Bool}
theorem getsm_ok {pins : List (Addr × Obj)} {σ : L2.St} {H : Hp} {s : Shared} {A : Around} {E : Value → Shared → Prop} {g : Addr} {Q : Value × List Value → Shared → Prop} (I : Inv X pins σ H s) (M : SMet X.K C m g)
    (h : ∀ s', Inv X pins σ H s' → Q (.ref g, []) s') : wpAny (model X.prog X.w) A (getMethod (.ref C) m pl) Q E s := by
  obtain ⟨mc, p, rest, rd, at_, hp⟩ := M.at_
  refine PySem.W.method_cls I.kIn M.ga (PySem.W.cls_bind I.kIn rd at_ (wpAny_call (PySem.W.sm_get (s := { s with toks := s.toks + 1 }) I.kIn hp (PySem.W.handed_on rfl ?_))))
  exact h _ (I.tok _)
theorem so_smeth {k : Nat} {f : Addr} {fd : FuncData} {ps : List Str} {n : Nat} {φ : List D → Res D} (M : SMet X.K C m f) (F : FnOk X.prog X.w X.K X.mg X.base (L2.CX X.prog X.w) k f fd ps (spOf X.K cl n φ)) (hr : Room k X.A) (hg : Gl X x) (hm : X.mg x = some (.ref C))
    (hb : Binds X.K fd ps []) (tk : Takes X W) (ha : SA X cl W (e :: es) ms) (hdb : (x == ("__debug__" : Str)) = false := by decide)
    (he : starEach (e :: es) X.env = (false, eval e X.env) :: starEach es X.env := by rfl) (hpl : (backTo pos (starEach es X.env)).any (·.1) = false := by rfl)
    (ht : eval (.Call (.Attribute (.Name x p) m apos) (e :: es) [] pos) X.env = (do
      let ov ← eval (.Name x p) X.env
      standAt apos.atName
      let (f, first) ← holding [ov] (getMethod ov m pl)
      callWith pos f first (backTo pos (starEach (e :: es) X.env)) (backToKw pos (keywordEach [] X.env))) := by rfl) :
    SE X cl W (.Call (.Attribute (.Name x p) m apos) (e :: es) [] pos) (mCall n φ ms) := by
  have key : PE X (.Call (.Attribute (.Name x p) m apos) (e :: es) [] pos) (tCallS (spOf X.K cl n φ) (WE W) (tA X.K cl W ms)) := by
    refine ⟨fun pins s σ H Q I h => ?_⟩
    refine PySem.W.methodCall_KW (pl := pl) ?_ ht
    refine ld_glob I hg hm ?_ hdb
    refine getsm_ok I M fun s2 I2 => ?_
    refine PySem.W.callWith_K (h₀ := X.base) I2.ok.mod.kin M.kp (thn (ha.run pos pins s2 σ H _ I2 h) fun us s1 ⟨vs, H1, I1, r, q⟩ => ⟨I1.kIn, ?_⟩) he hpl
    exact run_fnS F hr hb (passAt tk σ) I1 r q
  exact key.of call_in
end
end FL
namespace FL
open PySem L2 PyProof.Rows
/-! ## own operators: a & b, a | b, ~a, a == b -/
def insC (c : Nat) : D → Bool
  | .ins k _ _ => k == c
  | _ => false
def mOwn2 (c : Nat) (φ : List D → Res D) (ma mb : En → Res D) : En → Res D := fun ρ => (ma ρ).bind fun x => (mb ρ).bind fun y => if insC c x && insC c y then φ [x, y] else .bad
def mOwn1 (c : Nat) (φ : List D → Res D) (ma : En → Res D) : En → Res D := fun ρ => (ma ρ).bind fun x => if insC c x then φ [x] else .bad
def fEqO (c : Nat) (φ : List D → Res D) : D → D → Option D
  | .ins k ns ds, y => if k = c ∧ insC c y = true then (match φ [.ins k ns ds, y] with | .ok (.bl b) => some (.bl b) | _ => none) else none
  | _, _ => none
structure OwnOp (K : PySem.W.Frag) (C : Addr) (nm : Str) (g : Addr) : Prop where
  sf : PySem.W.selfFirst K C = true
  hs : PySem.W.findIn K (.ref C) nm = some (some (.ref g))
  hf : PySem.W.isFn K (.ref g) = true
section
variable {X : Cx} {cl : Cl} {W : WX} {a b : Expr} {ma mb : En → Res D} {pos : Pos} {C g : Addr} {k : Nat} {fd : FuncData} {ps : List Str} {sp : Sp} {E : L2.St → XK} {ta tb : TE} {op : Operator}
theorem cmpBack_of {pins : List (Addr × Obj)} {σ : L2.St} {Q : VK} {w : Value} {s' : Shared} (z : EP X pins σ Q w s') : PySem.W.CmpBack (EP X pins σ Q) w s' := by
  obtain ⟨v, H', I', rv, q⟩ := z
  cases w with
  | notImplemented => cases v <;> first | exact rv.elim | (obtain ⟨t, h⟩ := rv; cases h) | cases rv
  | _ => exact ⟨v, H', I', rv, q⟩
def insV (H : Hp) (C : Addr) (x : V) : Prop := ∃ a dx fs, x = .ref a ∧ H a = some (.ins C dx fs)
def tOwn2 (C : Addr) (sp : Sp) (E : L2.St → XK) (ta tb : TE) : TE := fun σ H Q => ta σ H fun x H1 => tb σ H1 fun y H2 => insV H2 C x ∧ insV H2 C y ∧ sp [x, y] H2 Q (E σ)
theorem pe_own2 {nm : Str} (O : OwnOp X.K C nm g) (hn : PySem.dunder op.info.2 = nm) (F : FnOk X.prog X.w X.K X.mg X.base (L2.CX X.prog X.w) k g fd ps sp) (hr : Room k X.A) (hb : Binds X.K fd ps []) (hx : ∀ σ, PassesAt (L2.CX X.prog X.w) X σ (E σ)) (pa : PE X a ta) (pb : PE X b tb) :
    PE X (.BinOp a op b pos) (tOwn2 C sp E ta tb) := by
  subst hn
  refine ⟨fun pins s σ H Q I h => wpAny_BinOp (binT (R := fun x y H2 => insV H2 C x ∧ insV H2 C y ∧ sp [x, y] H2 Q (E σ)) pa pb I h fun v u s2 x y H2 I2 rx ry q => ?_)⟩
  obtain ⟨⟨p, dx, fs, rfl, hxa⟩, ⟨p2, dx2, fs2, rfl, hyb⟩, q⟩ := q
  cases (show v = Value.ref p from rx)
  cases (show u = Value.ref p2 from ry)
  obtain ⟨od, J⟩ := inst_at I2 hxa
  obtain ⟨od2, J2⟩ := inst_at I2 hyb
  obtain ⟨m, hF⟩ := I2.fr
  exact PySem.W.binop_K hF I2.ok.mod.kin J J2.type O.sf O.hs O.hf (wpAny_mono (run_fnS (us := [.ref p, .ref p2]) (vs := [.ref p, .ref p2]) F hr hb (hx σ) I2 (.cons rfl (.cons rfl .nil)) q) (fun w s' z => cmpBack_of z) fun _ _ z => z)
def tOwn1 (C : Addr) (sp : Sp) (E : L2.St → XK) (ta : TE) : TE := fun σ H Q => ta σ H fun x H1 => insV H1 C x ∧ sp [x] H1 Q (E σ)
theorem pe_ownInv (O : OwnOp X.K C "__invert__" g) (F : FnOk X.prog X.w X.K X.mg X.base (L2.CX X.prog X.w) k g fd ps sp) (hr : Room k X.A) (hb : Binds X.K fd ps []) (hx : ∀ σ, PassesAt (L2.CX X.prog X.w) X σ (E σ)) (pa : PE X a ta) :
    PE X (.UnaryOp .Invert a pos) (tOwn1 C sp E ta) := by
  refine ⟨fun pins s σ H Q I h => ?_⟩
  refine UnaryOp_ (thn (pa.run pins s σ H _ I h) fun v s1 ⟨x, H1, I1, r1, ⟨p, dx, fs, ex, hxa⟩, q⟩ => ?_)
  subst ex
  cases (show v = Value.ref p from r1)
  obtain ⟨od, J⟩ := inst_at I1 hxa
  obtain ⟨m, hF⟩ := I1.fr
  exact PySem.W.ksp_inv hF I1.ok.mod.kin J O.hs O.hf (run_fnS (us := [.ref p]) (vs := [.ref p]) F hr hb (hx σ) I1 (.cons rfl .nil) q)
def rEqO (C : Addr) (sp : Sp) : R2 := fun x y H Q => insV H C x ∧ insV H C y ∧ sp [x, y] H (fun v H' => ∃ b : Bool, v = .bl b ∧ Q (.bl b) H') (fun _ _ _ => False)
theorem op_eqOwn (O : OwnOp X.K C "__eq__" g) (F : FnOk X.prog X.w X.K X.mg X.base (L2.CX X.prog X.w) k g fd ps sp) (hr : Room k X.A) (hb : Binds X.K fd ps []) : OpR X (compareOp .Eq) (rEqO C sp) := by
  intro pins s σ H x y v u Q I rx ry h
  obtain ⟨⟨p, dx, fs, rfl, hxa⟩, ⟨p2, dx2, fs2, rfl, hyb⟩, q⟩ := h
  cases (show v = Value.ref p from rx)
  cases (show u = Value.ref p2 from ry)
  obtain ⟨od, J⟩ := inst_at I hxa
  obtain ⟨od2, J2⟩ := inst_at I hyb
  obtain ⟨m, hF⟩ := I.fr
  show wpAny (model X.prog X.w) X.A (richCompare .Eq (.ref p) (.ref p2)) (EP X pins σ Q) X.xe s
  refine PySem.W.cmp_K hr.units0 hF I.ok.mod.kin J J2.type ?_ O.hs O.hf (wpAny_mono (run_fn (us := [.ref p, .ref p2]) (vs := [.ref p, .ref p2]) F hr hb .nil passF I (.cons rfl (.cons rfl .nil)) q) (fun w s' z => ?_) fun _ _ z => z)
  · unfold PySem.W.notFirst
    simp
  · obtain ⟨z', H', I', rz, b, rfl, q2⟩ := z
    exact cmpBack_of ⟨.bl b, H', I', rz, q2⟩
end
section
variable {X : Cx} {cl : Cl} {W : WX} {a b : Expr} {ma mb : En → Res D} {pos : Pos} {g : Addr} {c k : Nat} {fd : FuncData} {ps : List Str} {φ : List D → Res D} {op : Operator}
theorem insV_of {K : PySem.W.Frag} {F H : Hp} {x : V} {d : D} (m : Same F H) (r : Rp K cl F x d) (h : insC c d = true) : insV H (cl.ad c) x := by
  cases r with
  | ins h1 h2 h3 =>
    have : _ = c := beq_iff_eq.mp h
    subst this
    exact ⟨_, _, _, rfl, m _ _ h1⟩
  | _ => cases h
theorem own2_in : ∀ σ H Q, tM X.K cl W (mOwn2 c φ ma mb) σ H Q → tOwn2 (cl.ad c) (spOf X.K cl 2 φ) (WE W) (tM X.K cl W ma) (tM X.K cl W mb) σ H Q := by
  rintro σ H Q ⟨B, F0, F, ρ, s, p⟩
  refine ⟨B, F0, F, ρ, s, ?_⟩
  have p1 := step1 s p
  cases q : ma ρ with
  | bad => rw [q] at p1; exact p1
  | er e => rw [q] at p1; exact p1
  | ok d =>
    rw [q] at p1
    intro v F' H' g1 h1
    obtain ⟨d', F2, e, g2, h2, p2⟩ := p1 v F' H' g1 h1
    have s2 := s.grow g2
    refine ⟨B, F0, F2, ρ, s2, ?_⟩
    have p3 := step1 s2 p2
    cases q2 : mb ρ with
    | bad => rw [q2] at p3; exact p3
    | er e => rw [q2] at p3; exact p3
    | ok d2 =>
      rw [q2] at p3
      intro u F3 H3 g3 h3
      obtain ⟨d'', F4, e4, g4, h4, p4⟩ := p3 u F3 H3 g3 h3
      cases e
      cases e4
      by_cases hc : (insC c d && insC c d2) = true
      · rw [if_pos hc] at p4
        rw [Bool.and_eq_true] at hc
        have r1 := h2.mono g4.f
        refine ⟨insV_of g4.fh r1 hc.1, insV_of g4.fh h4 hc.2, F4, [d, d2], g4.fh, .cons r1 (.cons h4 .nil), rfl, ?_⟩
        cases q3 : φ [d, d2] with
        | bad => rw [q3] at p4; exact p4
        | er e => rw [q3] at p4; exact p4
        | ok d => rw [q3] at p4; exact p4
      · rw [if_neg hc] at p4; exact p4.elim
theorem so_own2 {nm : Str} (O : OwnOp X.K (cl.ad c) nm g) (hn : PySem.dunder op.info.2 = nm) (F : FnOk X.prog X.w X.K X.mg X.base (L2.CX X.prog X.w) k g fd ps (spOf X.K cl 2 φ)) (hr : Room k X.A) (hb : Binds X.K fd ps []) (tk : Takes X W) (ha : SE X cl W a ma) (hb2 : SE X cl W b mb) :
    SE X cl W (.BinOp a op b pos) (mOwn2 c φ ma mb) := (pe_own2 O hn F hr hb (passAt tk) ha hb2).of own2_in
theorem own1_in : ∀ σ H Q, tM X.K cl W (mOwn1 c φ ma) σ H Q → tOwn1 (cl.ad c) (spOf X.K cl 1 φ) (WE W) (tM X.K cl W ma) σ H Q := by
  rintro σ H Q ⟨B, F0, F, ρ, s, p⟩
  refine ⟨B, F0, F, ρ, s, ?_⟩
  have p1 := step1 s p
  cases q : ma ρ with
  | bad => rw [q] at p1; exact p1
  | er e => rw [q] at p1; exact p1
  | ok d =>
    rw [q] at p1
    intro v F' H' g1 h1
    obtain ⟨d', F2, e, g2, h2, p2⟩ := p1 v F' H' g1 h1
    cases e
    by_cases hc : insC c d = true
    · rw [if_pos hc] at p2
      refine ⟨insV_of g2.fh h2 hc, F2, [d], g2.fh, .cons h2 .nil, rfl, ?_⟩
      cases q3 : φ [d] with
      | bad => rw [q3] at p2; exact p2
      | er e => rw [q3] at p2; exact p2
      | ok d => rw [q3] at p2; exact p2
    · rw [if_neg hc] at p2; exact p2.elim
theorem so_ownInv (O : OwnOp X.K (cl.ad c) "__invert__" g) (F : FnOk X.prog X.w X.K X.mg X.base (L2.CX X.prog X.w) k g fd ps (spOf X.K cl 1 φ)) (hr : Room k X.A) (hb : Binds X.K fd ps []) (tk : Takes X W) (ha : SE X cl W a ma) :
    SE X cl W (.UnaryOp .Invert a pos) (mOwn1 c φ ma) := (pe_ownInv O F hr hb (passAt tk) ha).of own1_in
theorem o_eqOwn {K : PySem.W.Frag} : Op2 K cl (rEqO (cl.ad c) (spOf K cl 2 φ)) (fEqO c φ) := by
  intro F H x y dx dy Q m rx ry p
  cases rx with
  | ins h1 h2 h3 =>
    simp only [fEqO] at p
    split at p
    · rename_i hk
      obtain ⟨hk, hy⟩ := hk
      subst hk
      split at p
      · rename_i b hb
        refine ⟨⟨_, _, _, rfl, m _ _ h1⟩, insV_of m ry hy, F, _, m, .cons (.ins h1 h2 h3) (.cons ry .nil), rfl, ?_⟩
        rw [hb]
        intro v F' H' g r
        cases r
        exact ⟨b, rfl, p (.bl b) F' H' g (.bl _)⟩
      · exact p.elim
    · exact p.elim
  | _ => exact p.elim
end
end FL
namespace FL
open PySem L2
/-- a def of which nothing is promised: the ground of a recursion -/
theorem fn_bad {P : Program} {w : World} {K : PySem.W.Frag} {mg : Str → Option Value} {base : Heap} {cl : Cl} {k n : Nat} {f : Addr} {fd : FuncData} {ps : List Str} (hn : ps.length = n) : FnOk P w K mg base (L2.CX P w) k f fd ps (spOf K cl n fun _ => .bad) where
  len := fun vs H Q E h => by obtain ⟨_, _, _, _, h, _⟩ := h; rw [h, hn]
  run := fun A outer s H args us vs Q E _ _ _ _ h => by obtain ⟨_, _, _, _, _, h⟩ := h; exact h.elim
end FL
namespace FL
open PySem L2
/-! ## list(range(n)) -/
def lrgOf : D → Res Cn
  | .int j => if -4611686018427387904 ≤ j ∧ j < 4611686018427387904 ∧ j.toNat ≤ 16777216 then .ok (.l (rngD 0 j.toNat)) else .bad
  | _ => .bad
def mLrg (m : En → Res D) : En → Res Cn := fun ρ => (m ρ).bind lrgOf
section
variable {X : Cx} {cl : Cl} {W : WX} {e a : Expr} {m : En → Res D} {p p2 pos pos2 : Pos}
theorem rgV_rp {K : PySem.W.Frag} {F : Hp} (n : Int) : RpA K cl F (rgV 0 n) (rngD 0 n.toNat) := by
  have e1 : rgV 0 n = ((List.range n.toNat).map fun (i : Nat) => (0 : Int) + (i : Int)).map V.int := by
    unfold rgV
    rw [List.map_map, show n - 0 = n by omega]
    rfl
  have e2 : rngD 0 n.toNat = ((List.range n.toNat).map fun (i : Nat) => (0 : Int) + (i : Int)).map D.int := by
    unfold rngD
    rw [List.map_map]
    rfl
  rw [e1, e2]
  exact ints_rp _
theorem sc_lrg (hc : X.calm = true) (hg : Gl X "list") (hm : X.mg "list" = none) (hg2 : Gl X "range") (hm2 : X.mg "range" = none) (ha : SE X cl W a m)
    (na : starEach [a] X.env = (false, eval a X.env) :: starEach [] X.env := by rfl) (nb : starEach [.Call (.Name "range" p2) [a] [] pos2] X.env = (false, eval (.Call (.Name "range" p2) [a] [] pos2) X.env) :: starEach [] X.env := by rfl) :
    SC X cl W (.Call (.Name "list" p) [.Call (.Name "range" p2) [a] [] pos2] [] pos) (mLrg m) := by
  refine (pe_listRg hc hg hm (prg_1 hg2 hm2 ha na) nb).of ?_
  rintro σ H Q ⟨B, F0, F, ρ, s, p⟩
  refine ⟨B, F0, F, ρ, s, (stepC s p).imp ?_⟩
  rintro v H1 ⟨d, F1, e, g1, r, p⟩
  cases r with
  | int j =>
    unfold lrgOf at p
    simp only at p
    split at p
    · rename_i h
      refine ⟨j, rfl, ⟨by omega, by omega, by omega, by omega, by omega⟩, fun q hq => p.put g1.fh hq ⟨_, rfl, rgV_rp j⟩⟩
    · exact p.elim
  | _ => exact p.elim
end
end FL
namespace FL
open PySem L2 PyProof.Rows
/-! ## t[::-1] -/
section
variable {prog : Program} {w : World} {A : Around} {E : Value → Shared → Prop} {s : Shared}
theorem sliceApplied_rev {sl : Addr} {vl vu vs : Value} {n : Nat} {Q : Int × Int × Nat → Shared → Prop} (hs : s.heap.IsSliceOf sl vl vu vs) (pl : IsPart vl none) (pu : IsPart vu none) (ps : IsPart vs (some (-1)))
    (h : Q ((n : Int) - 1, -1, n) s) : wpAny (model prog w) A (Builtin.Slice.sliceApplied (.ref sl) (pure (n : Int))) Q E s := by
  obtain ⟨os, hos, hcs, hds⟩ := id hs
  unfold Builtin.Slice.sliceApplied Builtin.Slice.sliceFields
  refine wpAny_bind (wpAny_bind (wpAny_field hos hds (x := vl) rfl (wpAny_bind (wpAny_field hos hds (x := vu) rfl (wpAny_bind (wpAny_field hos hds (x := vs) rfl (wpAny_pure ?_)))))))
  refine wpAny_bind (HT.slicePart_ ps ?_)
  show wpAny _ _ (if ((-1 : Int) == 0) = true then _ else _) _ _ s
  rw [if_neg (by decide)]
  refine wpAny_bind (HT.slicePart_ pl (wpAny_bind (HT.slicePart_ pu (wpAny_bind (wpAny_pure ?_)))))
  have e1 : Builtin.Slice.sliceAdjust none none (-1) (n : Int) = ((n : Int) - 1, -1) := by
    unfold Builtin.Slice.sliceAdjust
    first | rfl | simp
  have e2 : Builtin.Slice.slicePlaces ((n : Int) - 1) (-1) (-1) = n := by
    unfold Builtin.Slice.slicePlaces
    simp
    try omega
  show wpAny _ _ (match Builtin.Slice.sliceAdjust none none (-1) (n : Int) with | (lo, hi) => pure (lo, (-1 : Int), Builtin.Slice.slicePlaces lo hi (-1))) _ _ s
  rw [e1]
  show wpAny _ _ (pure ((n : Int) - 1, (-1 : Int), Builtin.Slice.slicePlaces ((n : Int) - 1) (-1) (-1))) _ _ s
  rw [e2]
  exact wpAny_pure h
theorem pick_rev (xs : Array Value) : ((List.range xs.size).filterMap fun (m : Nat) => xs[((xs.size : Int) - 1 + (m : Int) * -1).toNat]?).toArray = xs.toList.reverse.toArray := by
  congr 1
  apply List.ext_getElem?
  intro i
  have hf : ∀ m ∈ List.range xs.size, xs[((xs.size : Int) - 1 + (m : Int) * -1).toNat]? = some (xs.toList.reverse.getD m .none) := fun m hm => by
    have hm := List.mem_range.mp hm
    rw [show ((xs.size : Int) - 1 + (m : Int) * -1).toNat = xs.size - 1 - m by omega, List.getD_eq_getElem?_getD, List.getElem?_reverse (by simpa using hm)]
    simp [Array.getElem?_eq_getElem (show xs.size - 1 - m < xs.size by omega)]
  have e : ((List.range xs.size).filterMap fun (m : Nat) => xs[((xs.size : Int) - 1 + (m : Int) * -1).toNat]?) = (List.range xs.size).map fun m => xs.toList.reverse.getD m .none := by
    have : ∀ l : List Nat, (∀ m ∈ l, m ∈ List.range xs.size) → (l.filterMap fun (m : Nat) => xs[((xs.size : Int) - 1 + (m : Int) * -1).toNat]?) = l.map fun m => xs.toList.reverse.getD m .none := by
      intro l
      induction l with
      | nil => intro _; rfl
      | cons a l ih =>
        intro h
        rw [List.filterMap_cons, hf a (h a (by simp)), ih fun m hm => h m (by simp [hm])]
        rfl
    exact this _ fun _ h => h
  rw [e, List.getElem?_map]
  by_cases hi : i < xs.size
  · rw [List.getElem?_range hi, List.getElem?_eq_getElem (by simpa using hi)]
    simp [List.getD_eq_getElem?_getD, hi]
  · rw [List.getElem?_eq_none (by simp; omega), List.getElem?_eq_none (by simp; omega)]
    rfl
theorem getItem_tuple_rev {t sl : Addr} {items : Array Value} {vl vu vs : Value} {Q : Value → Shared → Prop} (ht : IsTup s.heap t items) (hs : s.heap.IsSliceOf sl vl vu vs) (pl : IsPart vl none) (pu : IsPart vu none) (ps : IsPart vs (some (-1)))
    (h : Q (.ref s.heap.objs.size) { s with heap := s.heap.push { cls := .type "tuple", data := .seq items.toList.reverse.toArray } })
    (hsz : items.size ≤ sizeLine) : wpAny (model prog w) A (getItem (.ref t) (.ref sl)) Q E s := by
  have htake : sizeOk (.seq items.toList.reverse.toArray) := by
    show items.toList.reverse.toArray.size ≤ sizeLine
    rw [List.size_toArray, List.length_reverse, Array.length_toList]
    exact hsz
  obtain ⟨os, hos, hcs, hds⟩ := id hs
  have hTs : s.TypeIs (.ref sl) "slice" := ⟨os, hos, hcs⟩
  unfold getItem
  try with_reducible refine wpAny_holding ?_
  first | refine wpAny_bind (wpAny_pure ?_) | skip
  refine wpAny_bind (wpAny_sequenceKey ht.typeIs (by decide) ?_)
  refine wpAny_bind (wpAny_callSpecial?_slot (name := Str.ofString "__getitem__") ht.typeIs PyProof.Rows.slot_tuple_getitem
    (wpAny_call_entry PyProof.Rows.slot_tuple_getitem ht.typeIs entry_tuple_getitem ?_ (args_tuple_getitem _ _)))
  show wpAny _ _ (Builtin.Tuple.tupleItemsOf (.ref t) >>= _) _ _ s
  refine wpAny_bind (tupleItemsOf_ ht ?_)
  refine wpAny_bind (wpAny_typeOf hTs ?_)
  rw [if_pos (by decide)]
  refine wpAny_bind (sliceApplied_rev hs pl pu ps ?_)
  show wpAny _ _ (if (((items.size : Int) - 1) == 0 && (-1 : Int) == 1 && items.size == items.size) = true then _ else _) _ _ s
  have hno : ¬ ((((items.size : Int) - 1) == 0 && (-1 : Int) == 1 && items.size == items.size) = true) := by
    have : ((-1 : Int) == 1) = false := by decide
    rw [this]; simp
  rw [if_neg hno, pick_rev]
  first
    | exact wpAny_bind (m := Builtin.Tuple.tupleExact _) (wpAny_newObj_type (wpAny_pure ⟨_, rfl, wpAny_pure h⟩) htake)
    | exact wpAny_bind (m := Builtin.Tuple.tupleExact _) (wpAny_newObj_type (wpAny_bind (wpAny_pure (wpAny_pure ⟨_, rfl, wpAny_pure h⟩))) htake)
    | exact wpAny_bind (wpAny_bind (m := Builtin.Tuple.tupleExact _) (wpAny_newObj_type (wpAny_pure (wpAny_pure ⟨_, rfl, wpAny_pure h⟩)) htake))
    | exact wpAny_bind (wpAny_bind (m := Builtin.Tuple.tupleExact _) (wpAny_newObj_type (wpAny_pure ⟨_, rfl, wpAny_pure h⟩) htake))
end
section
variable {X : Cx} {cl : Cl} {W : WX}
def tRev2 (K : PySem.W.Frag) (te : TE) : TE := fun σ H Q => te σ H fun x H1 => ∃ a xs, x = .ref a ∧ ((SqL K H1 a xs ∧ ∀ p, H1 p = none → Q (.ref p) (upd H1 p (.lst xs.reverse))) ∨ (SqT K H1 a xs ∧ ∀ p, H1 p = none → Q (.ref p) (upd H1 p (.tup xs.reverse))))
theorem pe_rev2 {e : Expr} {te : TE} {k : Nat} {p1 p2 p3 pos : Pos} (he : PE X e te) : PE X (.Subscript e (.Slice none none (some (.UnaryOp .USub (.Constant (.int 1) k p1) p2)) p3) pos) (tRev2 X.K te) := by
  refine ⟨fun pins s σ H Q I h => ?_⟩
  refine Subscript_ (thn (he.run pins s σ H _ I h) fun v s1 ⟨x, H1, I1, r1, q1⟩ => ?_)
  obtain ⟨a, xs, ex, q⟩ := q1
  subst ex
  cases r1
  have hst : PO X (some (.UnaryOp .USub (.Constant (.int 1) k p1) p2)) (tPart (tUn (rU fun i => .int (-i)) (tC (.int 1)))) := po_some (pe_un un_neg pe_int)
  refine wpAny_Slice (thn (po_none.run pins s1 σ H1 (fun o H2 => o = none ∧ H2 = H1) I1 ⟨rfl, rfl⟩) fun vl s2 ⟨l, H2, I2, pl, el, e2⟩ => ?_)
  subst el e2
  refine thn (po_none.run pins s2 σ H2 (fun o H3 => o = none ∧ H3 = H2) I2 ⟨rfl, rfl⟩) fun vu s3 ⟨u, H3, I3, pu, eu, e3⟩ => ?_
  subst eu e3
  refine thn (hst.run pins s3 σ H3 (fun o H4 => o = some (-1) ∧ H4 = H3) I3 ⟨1, rfl, -1, rfl, rfl, rfl⟩) fun vs s4 ⟨o, H4, I4, ps, eo, e4⟩ => ?_
  subst eo e4
  have I5 : Inv X pins σ H4 { s4 with heap := s4.heap.push { cls := .type "slice", data := .fields #[vl, vu, vs] } } := I4.kept (t' := s4.toks) fun b ob q => Heap.get?_push_of_some _ q
  show wpAny (model X.prog X.w) X.A (subscriptTail e (.Slice none none (some (.UnaryOp .USub (.Constant (.int 1) k p1) p2)) p3) (.ref a) (.ref s4.heap.objs.size)) (EP X pins σ Q) X.xe { s4 with heap := s4.heap.push { cls := .type "slice", data := .fields #[vl, vu, vs] } }
  rcases q with ⟨hx, q⟩ | ⟨hx, q⟩
  · obtain ⟨its, r, ht, hz⟩ := I5.list hx
    have hlen := r.length
    refine tail_any (ops := [.ref a, .ref s4.heap.objs.size]) ht.isList.typeIs (PySem.slot_list_getitem.lookup) ?_ (by with_unfolding_all rfl)
    refine wpAny_getItem_list_slice ht.isList (Heap.IsSliceOf.new _ vl vu vs) pl pu ps (by decide) ?_ (by rw [List.size_toArray]; omega)
    rw [PySem.W.krv_pick]
    refine ⟨.ref _, _, I5.laid (t' := s4.toks) (o := .lst xs.reverse) (fun b ob q => Heap.get?_push_of_some _ q) (Nat.le_refl _) ?_, rfl, q _ (I5.hok.fresh (Nat.le_refl _))⟩
    exact ⟨by rw [List.length_reverse]; exact hz, _, 0, r.reverse, Heap.get?_push_size _ rfl⟩
  · obtain ⟨its, r, ht, hz⟩ := I5.tuple hx
    have hlen := r.length
    refine tail_any (ops := [.ref a, .ref s4.heap.objs.size]) ht.typeIs (PyProof.Rows.slot_tuple_getitem.lookup) ?_ (by with_unfolding_all rfl)
    refine getItem_tuple_rev ht (Heap.IsSliceOf.new _ vl vu vs) pl pu ps ?_ (by rw [List.size_toArray]; omega)
    refine ⟨.ref _, _, I5.laid (t' := s4.toks) (o := .tup xs.reverse) (fun b ob q => Heap.get?_push_of_some _ q) (Nat.le_refl _) ?_, rfl, q _ (I5.hok.fresh (Nat.le_refl _))⟩
    exact ⟨by rw [List.length_reverse]; exact hz, _, r.reverse, IsTup.new _ _⟩
def fRev2 : D → Option D
  | .lst ds => some (.lst ds.reverse)
  | .tup ds => some (.tup ds.reverse)
  | _ => none
theorem so_rev2 {e : Expr} {m : En → Res D} {pos : Pos} {k : Nat} {p1 p2 p3 : Pos} (he : SE X cl W e m) : SE X cl W (.Subscript e (.Slice none none (some (.UnaryOp .USub (.Constant (.int 1) k p1) p2)) p3) pos) (mOp1 fRev2 m) := by
  refine (pe_rev2 he).of ?_
  rintro σ H Q ⟨B, F0, F, ρ, s, p⟩
  refine ⟨B, F0, F, ρ, s, (step1 s p).imp ?_⟩
  rintro v H1 ⟨d, F1, e, g1, r, p⟩
  cases r with
  | lst a b => exact ⟨_, _, rfl, .inl ⟨.of (g1.fh _ _ a), fun q hq => (PostO.of p).new g1.fh hq fun F' hF e => .lst e (RpA.rev (b.mono hF))⟩⟩
  | tup a b => exact ⟨_, _, rfl, .inr ⟨.of (g1.fh _ _ a), fun q hq => (PostO.of p).new g1.fh hq fun F' hF e => .tup e (RpA.rev (b.mono hF))⟩⟩
  | _ => exact p.elim
end
/-! ## own == against values of other types -/
def okV (K : PySem.W.Frag) (H : Hp) (C : Addr) (y : V) : Prop := insV H C y ∨ (∃ i, y = .int i) ∨ (∃ b, y = .bl b) ∨ (∃ x, y = .str x) ∨ y = .non ∨ ∃ p xs, y = .ref p ∧ SqT K H p xs
def rEqX (K : PySem.W.Frag) (C : Addr) (sp : Sp) : R2 := fun x y H Q => insV H C x ∧ okV K H C y ∧ sp [x, y] H (fun v H' => ∃ b : Bool, v = .bl b ∧ Q (.bl b) H') (fun _ _ _ => False)
theorem nf_type {K : PySem.W.Frag} {C : Addr} {T : String} {l : List Value} (h : fastBuiltinMro T = some l) (h2 : ∀ x ∈ l, ∃ y, x = .type y) : PySem.W.notFirst K C (.type T) = true := by
  unfold PySem.W.notFirst
  have : PySem.W.subIn K (.type T) (.ref C) = some false := by
    show (fastBuiltinMro T).map (·.contains (.ref C)) = some false
    rw [h]
    show some (l.contains (.ref C)) = some false
    congr 1
    rw [List.contains_eq_any_beq, List.any_eq_false]
    intro x hx
    obtain ⟨y, rfl⟩ := h2 x hx
    show ¬((Value.ref C == Value.type y) = true)
    intro q
    cases eq_of_beq q
  rw [this]
  simp
section
variable {X : Cx} {cl : Cl} {C g : Addr} {k c : Nat} {fd : FuncData} {ps : List Str} {sp : Sp} {φ : List D → Res D}
theorem op_eqX (O : OwnOp X.K C "__eq__" g) (F : FnOk X.prog X.w X.K X.mg X.base (L2.CX X.prog X.w) k g fd ps sp) (hr : Room k X.A) (hb : Binds X.K fd ps []) : OpR X (compareOp .Eq) (rEqX X.K C sp) := by
  intro pins s σ H x y v u Q I rx ry h
  obtain ⟨⟨p, dx, fs, rfl, hxa⟩, hy, q⟩ := h
  cases (show v = Value.ref p from rx)
  obtain ⟨od, J⟩ := inst_at I hxa
  obtain ⟨m, hF⟩ := I.fr
  have key : ∀ tb, PySem.W.Looks (model X.prog X.w) s.heap (typeOf u) tb → PySem.W.notFirst X.K C tb = true → wpAny (model X.prog X.w) X.A (richCompare .Eq (.ref p) u) (EP X pins σ Q) X.xe s := by
    intro tb hl hn
    refine PySem.W.cmp_K hr.units0 hF I.ok.mod.kin J hl hn O.hs O.hf (wpAny_mono (run_fn (us := [.ref p, u]) (vs := [.ref p, y]) F hr hb .nil passF I (.cons rfl (.cons ry .nil)) q) (fun w s' z => ?_) fun _ _ z => z)
    obtain ⟨z', H', I', rz, b, rfl, q2⟩ := z
    exact cmpBack_of ⟨.bl b, H', I', rz, q2⟩
  show wpAny (model X.prog X.w) X.A (richCompare .Eq (.ref p) u) (EP X pins σ Q) X.xe s
  rcases hy with ⟨p2, dx2, fs2, rfl, hyb⟩ | ⟨i, rfl⟩ | ⟨b, rfl⟩ | ⟨z, rfl⟩ | rfl | ⟨p2, xs, rfl, hs⟩
  · cases (show u = Value.ref p2 from ry)
    obtain ⟨od2, J2⟩ := inst_at I hyb
    exact key _ J2.type (by unfold PySem.W.notFirst; simp)
  · obtain ⟨t, e⟩ := ry
    subst e
    exact key (.type "int") (PySem.W.Looks.of_pure rfl) (nf_type (l := [.type "int", .type "object"]) (by decide +kernel) (by simp))
  · cases (show u = Value.bool b from ry)
    exact key (.type "bool") (PySem.W.Looks.of_pure rfl) (nf_type (l := [.type "bool", .type "int", .type "object"]) (by decide +kernel) (by simp))
  · obtain ⟨t, e⟩ := ry
    subst e
    exact key (.type "str") (PySem.W.Looks.of_pure rfl) (nf_type (l := [.type "str", .type "object"]) (by decide +kernel) (by simp))
  · cases (show u = Value.none from ry)
    exact key (.type "NoneType") (PySem.W.Looks.of_pure rfl) (nf_type (l := [.type "NoneType", .type "object"]) (by decide +kernel) (by simp))
  · cases (show u = Value.ref p2 from ry)
    obtain ⟨its, r, ht, hz⟩ := I.tuple hs
    obtain ⟨o, ho, hc⟩ := ht.typeIs
    exact key (.type "tuple") (fun A Q E s' k' q => wpAny_typeOf_ref (k' _ _ ho) (by rw [hc]; exact q)) (nf_type (l := [.type "tuple", .type "object"]) (by decide +kernel) (by simp))
/-- what may stand behind the own == -/
def okY (c : Nat) : D → Bool
  | .ins k _ _ => k == c
  | .int _ => true
  | .bl _ => true
  | .str _ => true
  | .non => true
  | .tup _ => true
  | _ => false
def fEqX (c : Nat) (φ : List D → Res D) : D → D → Option D
  | .ins k ns ds, y => if k = c ∧ okY c y = true then (match φ [.ins k ns ds, y] with | .ok (.bl b) => some (.bl b) | _ => none) else none
  | _, _ => none
theorem okV_of {K : PySem.W.Frag} {F H : Hp} {x : V} {d : D} (m : Same F H) (r : Rp K cl F x d) (h : okY c d = true) : okV K H (cl.ad c) x := by
  cases r with
  | ins h1 h2 h3 =>
    have : _ = c := beq_iff_eq.mp h
    subst this
    exact .inl ⟨_, _, _, rfl, m _ _ h1⟩
  | int i => exact .inr (.inl ⟨_, rfl⟩)
  | bl i => exact .inr (.inr (.inl ⟨_, rfl⟩))
  | str i => exact .inr (.inr (.inr (.inl ⟨_, rfl⟩)))
  | non => exact .inr (.inr (.inr (.inr (.inl rfl))))
  | tup a b => exact .inr (.inr (.inr (.inr (.inr ⟨_, _, rfl, .of (m _ _ a)⟩))))
  | _ => cases h
theorem o_eqX {K : PySem.W.Frag} : Op2 K cl (rEqX K (cl.ad c) (spOf K cl 2 φ)) (fEqX c φ) := by
  intro F H x y dx dy Q m rx ry p
  cases rx with
  | ins h1 h2 h3 =>
    simp only [fEqX] at p
    split at p
    · rename_i hk
      obtain ⟨hk, hy⟩ := hk
      subst hk
      split at p
      · rename_i b hb
        refine ⟨⟨_, _, _, rfl, m _ _ h1⟩, okV_of m ry hy, F, _, m, .cons (.ins h1 h2 h3) (.cons ry .nil), rfl, ?_⟩
        rw [hb]
        intro v F' H' g r
        cases r
        exact ⟨b, rfl, p (.bl b) F' H' g (.bl _)⟩
      · exact p.elim
    · exact p.elim
  | _ => exact p.elim
end
/-! ## isinstance of an own class, any plain value -/
theorem kit_basic {K : PySem.W.Frag} {C : Addr} (h : PySem.W.kitOne K (.type "int") (.ref C) = some false) {T : String} {l : List Value} (hl : fastBuiltinMro T = some l) (h2 : ∀ x ∈ l, ∃ y, x = .type y) : PySem.W.kitOne K (.type T) (.ref C) = some false := by
  have sub : PySem.W.subIn K (.type T) (.ref C) = some false := by
    show (fastBuiltinMro T).map (·.contains (.ref C)) = some false
    rw [hl]
    show some (l.contains (.ref C)) = some false
    congr 1
    rw [List.contains_eq_any_beq, List.any_eq_false]
    intro x hx
    obtain ⟨y, rfl⟩ := h2 x hx
    show ¬((Value.ref C == Value.type y) = true)
    intro q
    cases eq_of_beq q
  have ne : ∀ S : String, ¬((Value.type S == Value.ref C) = true) := fun S q => by cases eq_of_beq q
  unfold PySem.W.kitOne at h ⊢
  rw [if_neg (ne _)] at h ⊢
  simp only [PySem.W.kitCls] at h ⊢
  split at h
  · rename_i z
    rw [if_pos z]; exact sub
  · cases h
def mIsC2 (l : XT) (m : En → Res D) : En → Res D := fun ρ => (m ρ).bind fun d => match d with
  | .ins c _ _ => .ofO ((l.lookup c).map .bl)
  | .int _ => .ok (.bl false)
  | .bl _ => .ok (.bl false)
  | .str _ => .ok (.bl false)
  | .non => .ok (.bl false)
  | .tup _ => .ok (.bl false)
  | _ => .bad
section
variable {X : Cx} {cl : Cl} {W : WX} {e : Expr} {m : En → Res D} {x : Str} {p px pos : Pos} {l : XT} {C : Addr}
theorem so_isC2 (hg : Gl X "isinstance") (hm : X.mg "isinstance" = none) (hx : PE X (.Name x px) (L2.tC (.ref C))) (hb : PySem.W.kitOne X.K (.type "int") (.ref C) = some false) (tab : XTab (fun k b => PySem.W.kitOne X.K (.ref (cl.ad k)) (.ref C) = some b ∧ IsiC X.K (cl.ad k)) l) (ha : SE X cl W e m)
    (hs1 : starEach (e :: [.Name x px]) X.env = (false, eval e X.env) :: starEach [.Name x px] X.env := by rfl) (hs2 : starEach [.Name x px] X.env = (false, eval (.Name x px) X.env) :: starEach [] X.env := by rfl)
    (hpl : (backTo pos (starEach [.Name x px] X.env)).any (·.1) = false := by rfl) : SE X cl W (.Call (.Name "isinstance" p) [e, .Name x px] [] pos) (mIsC2 l m) := by
  refine (pe_callB call_isi hg hm (by decide +kernel) (pa_cons ha (pa_cons hx pa_nil hs2) hs1) (by decide) (by decide) hs1 hpl).of ?_
  rintro σ H Q ⟨B, F0, F, ρ, s, p⟩
  refine ⟨B, F0, F, ρ, s, (step1 s p).imp ?_⟩
  rintro v H1 ⟨d, F1, e1, g, r, p⟩
  cases r with
  | ins h1 h2 h3 =>
    rename_i a dx k fs ns ds
    cases q : l.lookup k with
    | none => simp only [q] at p; exact p.elim
    | some b =>
      simp only [q] at p
      obtain ⟨t1, t2⟩ := tab _ b q
      exact ⟨_, _, _, _, b, rfl, .own C, .base (.ins (g.fh _ _ h1) t2.c t2.ha t2.hn t2.ht t2.hm), t1, p _ F1 H1 (.refl g.fh) (.bl _)⟩
  | int i => exact ⟨_, _, _, _, false, rfl, .own C, .base (.int i), hb, p _ F1 H1 (.refl g.fh) (.bl _)⟩
  | bl i => exact ⟨_, _, _, _, false, rfl, .own C, .base (.bl i), kit_basic hb (l := [.type "bool", .type "int", .type "object"]) (by decide +kernel) (by simp), p _ F1 H1 (.refl g.fh) (.bl _)⟩
  | str i => exact ⟨_, _, _, _, false, rfl, .own C, .base (.str i), kit_basic hb (l := [.type "str", .type "object"]) (by decide +kernel) (by simp), p _ F1 H1 (.refl g.fh) (.bl _)⟩
  | non => exact ⟨_, _, _, _, false, rfl, .own C, .base .non, kit_basic hb (l := [.type "NoneType", .type "object"]) (by decide +kernel) (by simp), p _ F1 H1 (.refl g.fh) (.bl _)⟩
  | tup a b => exact ⟨_, _, _, _, false, rfl, .own C, .base (.tup (g.fh _ _ a)), kit_basic hb (l := [.type "tuple", .type "object"]) (by decide +kernel) (by simp), p _ F1 H1 (.refl g.fh) (.bl _)⟩
  | _ => exact p.elim
end
end FL
namespace FL
open PySem L2
/-! ## reckoning with the mirror -/
section
variable {α β : Type} {ρ : En} {a b c : En → Res D} {f : D → D → Option D} {d : D}
@[simp] theorem bind_ok (a : α) (f : α → Res β) : (Res.ok a).bind f = f a := id rfl
@[simp] theorem bind_er (e : D) (f : α → Res β) : (Res.er e).bind f = .er e := id rfl
@[simp] theorem bind_bad (f : α → Res β) : (Res.bad : Res α).bind f = .bad := id rfl
@[simp] theorem ofO_some (a : α) : Res.ofO (some a) = .ok a := id rfl
@[simp] theorem ofO_none : (Res.ofO none : Res α) = .bad := id rfl
@[simp] theorem mC_d (d : D) (ρ : En) : mC d ρ = .ok d := id rfl
@[simp] theorem mVar_d (i : Nat) (ρ : En) : mVar i ρ = (match ρ[i]? with | some (.im d) => .ok d | _ => .bad) := id rfl
@[simp] theorem mOp1_d (g : D → Option D) (a) (ρ : En) : mOp1 g a ρ = (a ρ).bind fun x => .ofO (g x) := id rfl
@[simp] theorem mOp2_d (f) (a b) (ρ : En) : mOp2 f a b ρ = (a ρ).bind fun x => (b ρ).bind fun y => .ofO (f x y) := id rfl
@[simp] theorem mNil_d (ρ : En) : mNil ρ = .ok [] := id rfl
@[simp] theorem mCons_d (a : En → Res D) (b) (ρ : En) : mCons a b ρ = (a ρ).bind fun x => (b ρ).bind fun xs => .ok (x :: xs) := id rfl
@[simp] theorem mTup_d (b) (ρ : En) : mTup b ρ = (b ρ).bind fun xs => if xs.length < 16777216 then .ok (.tup xs) else .bad := id rfl
@[simp] theorem mLst_d (b) (ρ : En) : mLst b ρ = (b ρ).bind fun xs => if xs.length < 16777216 then .ok (.l xs) else .bad := id rfl
@[simp] theorem mFz_d (m : En → Res Cn) (ρ : En) : mFz m ρ = (m ρ).bind fun c => .ok c.d := id rfl
@[simp] theorem Cnd_l (ds) : (Cn.l ds).d = .lst ds := id rfl
@[simp] theorem Cnd_t (ks vs) : (Cn.t ks vs).d = .dit ks vs := id rfl
@[simp] theorem Cnd_k (ks vs) : (Cn.k ks vs).d = .dik ks vs := id rfl
@[simp] theorem mTru_d (m) (ρ : En) : mTru m ρ = (m ρ).bind fun d => .ofO (tru d) := id rfl
@[simp] theorem mTst_d (m) (ρ : En) : mTst m ρ = (m ρ).bind fun d => .ofO (isBl d) := id rfl
@[simp] theorem isBl_bl (b : Bool) : isBl (.bl b) = some b := id rfl
@[simp] theorem tru_bl (b : Bool) : tru (.bl b) = some b := id rfl
@[simp] theorem tru_int (i : Int) : tru (.int i) = some (i != 0) := id rfl
@[simp] theorem tru_non : tru .non = some false := id rfl
@[simp] theorem tru_lst (ds) : tru (.lst ds) = some (!ds.isEmpty) := id rfl
@[simp] theorem tru_tup (ds) : tru (.tup ds) = some (!ds.isEmpty) := id rfl
@[simp] theorem mtNot_d (m) (ρ : En) : mtNot m ρ = (m ρ).bind fun b => .ok (!b) := id rfl
@[simp] theorem mtAnd_d (m n) (ρ : En) : mtAnd m n ρ = (m ρ).bind fun b => if b then n ρ else .ok false := id rfl
@[simp] theorem mtOr_d (m n) (ρ : En) : mtOr m n ρ = (m ρ).bind fun b => if b then .ok true else n ρ := id rfl
@[simp] theorem mAnd_d (m n) (ρ : En) : mAnd m n ρ = (m ρ).bind fun d => match isBl d with | some true => n ρ | some false => .ok (.bl false) | none => .bad := id rfl
@[simp] theorem mOr_d (m n) (ρ : En) : mOr m n ρ = (m ρ).bind fun d => match isBl d with | some true => .ok (.bl true) | some false => n ρ | none => .bad := id rfl
@[simp] theorem mNot_d (m) (ρ : En) : mNot m ρ = (m ρ).bind fun d => match isBl d with | some b => .ok (.bl (!b)) | none => .bad := id rfl
@[simp] theorem mIf_d (t m n) (ρ : En) : mIf t m n ρ = (t ρ).bind fun b => if b then m ρ else n ρ := id rfl
@[simp] theorem mOpA_d (f : List D → Option D) (ms) (ρ : En) : mOpA f ms ρ = (ms ρ).bind fun ds => .ofO (f ds) := id rfl
@[simp] theorem mCall_d (n φ ms) (ρ : En) : mCall n φ ms ρ = (ms ρ).bind fun ds => if ds.length = n then φ ds else .bad := id rfl
@[simp] theorem mPart_d (m) (ρ : En) : mPart m ρ = (m ρ).bind fun d => match intOf d with | some i => .ok (some i) | none => .bad := id rfl
@[simp] theorem intOf_int (i) : intOf (.int i) = some i := id rfl
@[simp] theorem mNoPart_d (ρ : En) : mNoPart ρ = .ok none := id rfl
@[simp] theorem mSl_d (m lo hi) (ρ : En) : mSl m lo hi ρ = (m ρ).bind fun d => (lo ρ).bind fun l => (hi ρ).bind fun h => .ofO (fSl d l h) := id rfl
@[simp] theorem mIsiTy_d (u m) (ρ : En) : mIsiTy u m ρ = (m ρ).bind fun d => match isiTy u d with | some b => .ok (.bl b) | none => .bad := id rfl
@[simp] theorem mList_d (m) (ρ : En) : mList m ρ = (m ρ).bind fun d => match seqOf d with | some ds => .ok (.l ds) | none => .bad := id rfl
@[simp] theorem seqOf_lst (ds) : seqOf (.lst ds) = some ds := id rfl
@[simp] theorem seqOf_tup (ds) : seqOf (.tup ds) = some ds := id rfl
@[simp] theorem mSeq_d (m) (ρ : En) : mSeq m ρ = (m ρ).bind fun d => .ofO (elems d) := id rfl
@[simp] theorem elems_lst (ds) : elems (.lst ds) = some ds := id rfl
@[simp] theorem elems_tup (ds) : elems (.tup ds) = some ds := id rfl
@[simp] theorem elems_scr (ns) : elems (.scr ns) = some (ns.map .int) := id rfl
theorem mRng1_d (m) (ρ : En) : mRng1 m ρ = (m ρ).bind fun ds => .ofO (rng1Of ds) := id rfl
theorem mRng2_d (m) (ρ : En) : mRng2 m ρ = (m ρ).bind fun ds => .ofO (rng2Of ds) := id rfl
@[simp] theorem bName_d (i d ρ) : bName i d ρ = some (ρ.set i (.im d)) := id rfl
@[simp] theorem bTup_d (is ds ρ) : bTup is (.tup ds) ρ = bNames is ds ρ := id rfl
@[simp] theorem bNames_nil (ρ) : bNames [] [] ρ = some ρ := id rfl
@[simp] theorem bNames_cons (i is d ds ρ) : bNames (i :: is) (d :: ds) ρ = bNames is ds (ρ.set i (.im d)) := id rfl
@[simp] theorem mYes_d (ρ : En) : mYes ρ = .ok true := id rfl
@[simp] theorem mLc_d (bt own mi mt me) (ρ : En) : mLc bt own mi mt me ρ = (mi ρ).bind fun ds => compL bt mt me (wipeE ρ own) ds [] := id rfl
@[simp] theorem wipeE_nil (ρ) : wipeE ρ [] = ρ := id rfl
@[simp] theorem wipeE_cons (ρ v vs) : wipeE ρ (v :: vs) = (wipeE ρ vs).set v .un := id rfl
@[simp] theorem runE_ok {α : Type} (ρ) (a : α) (f) : runE ρ (.ok a) f = f a := id rfl
@[simp] theorem runE_er {α : Type} (ρ e) (f : α → Option Fl) : runE ρ (.er e) f = some (.ex e ρ) := id rfl
@[simp] theorem runE_bad {α : Type} (ρ) (f : α → Option Fl) : runE ρ .bad f = none := id rfl
@[simp] theorem sSeq_d (a b) (ρ : En) : sSeq a b ρ = (match a ρ with | some (.nx ρ1) => b ρ1 | r => r) := id rfl
@[simp] theorem sNop_d (ρ : En) : sNop ρ = some (.nx ρ) := id rfl
@[simp] theorem sSet_d (i m) (ρ : En) : sSet i m ρ = runE ρ (m ρ) fun d => some (.nx (ρ.set i (.im d))) := id rfl
@[simp] theorem sOwn_d (i m) (ρ : En) : sOwn i m ρ = runE ρ (m ρ) fun c => if c.isI then none else some (.nx (ρ.set i (.ow false c))) := id rfl
@[simp] theorem isI_l (ds) : (Cn.l ds).isI = false := id rfl
@[simp] theorem isI_t (ks ds) : (Cn.t ks ds).isI = false := id rfl
@[simp] theorem isI_k (ks ds) : (Cn.k ks ds).isI = false := id rfl
@[simp] theorem sAsg_d (bt m) (ρ : En) : sAsg bt m ρ = runE ρ (m ρ) fun d => match bt d ρ with | some ρ' => some (.nx ρ') | none => none := id rfl
@[simp] theorem sRet_d (m) (ρ : En) : sRet m ρ = runE ρ (m ρ) fun d => some (.rt d) := id rfl
@[simp] theorem sRetN_d (ρ : En) : sRetN ρ = some (.rt .non) := id rfl
@[simp] theorem sExp_d (m) (ρ : En) : sExp m ρ = runE ρ (m ρ) fun _ => some (.nx ρ) := id rfl
@[simp] theorem sIf_d (c a b) (ρ : En) : sIf c a b ρ = runE ρ (c ρ) fun k => if k then a ρ else b ρ := id rfl
@[simp] theorem sBrk_d (ρ : En) : sBrk ρ = some (.bk ρ) := id rfl
@[simp] theorem sCnt_d (ρ : En) : sCnt ρ = some (.ct ρ) := id rfl
@[simp] theorem sFor_d (bt mi body) (ρ : En) : sFor bt mi body ρ = runE ρ (mi ρ) fun ds => forL bt body ds ρ := id rfl
@[simp] theorem sFrz_d (i ms) (ρ : En) : sFrz i ms ρ = ms (frz1 i ρ) := id rfl
@[simp] theorem frz1_d (i) (ρ : En) : frz1 i ρ = (match ρ[i]? with | some (.ow _ c) => ρ.set i (.im c.d) | _ => ρ) := id rfl
@[simp] theorem mBor_d (i m) (ρ : En) : mBor i m ρ = (match m (frz1 i ρ) with | .ok d => if scalD d then .ok d else .bad | _ => .bad) := id rfl
@[simp] theorem mtBor_d (i m) (ρ : En) : mtBor i m ρ = (match m (frz1 i ρ) with | .ok d => .ok d | _ => .bad) := id rfl
@[simp] theorem scalD_int (i) : scalD (.int i) = true := id rfl
@[simp] theorem scalD_bl (i) : scalD (.bl i) = true := id rfl
@[simp] theorem scalD_non : scalD .non = true := id rfl
@[simp] theorem mIxO_d (i m) (ρ : En) : mIxO i m ρ = (match ρ[i]? with | some (.ow _ (.l ds)) => (m ρ).bind fun k => .ofO (fIx (.lst ds) k) | _ => .bad) := id rfl
@[simp] theorem sApp_d (i ms) (ρ : En) : sApp i ms ρ = (match ρ[i]? with
  | some (.ow false (.l ds)) => runE ρ (ms ρ) fun vs => match vs with
    | [d] => if ds.length < 16777215 then some (.nx (ρ.set i (.ow false (.l (ds ++ [d]))))) else none
    | _ => none
  | _ => none) := id rfl
@[simp] theorem sIns_d (i ms) (ρ : En) : sIns i ms ρ = (match ρ[i]? with
  | some (.ow false (.l ds)) => runE ρ (ms ρ) fun vs => match vs with
    | [.int k, d] => if ds.length < 16777215 ∧ 0 ≤ k ∧ k < 9223372036854775808 then some (.nx (ρ.set i (.ow false (.l (ds.take k.toNat ++ [d] ++ ds.drop k.toNat))))) else none
    | _ => none
  | _ => none) := id rfl
@[simp] theorem sIdx_d (i mk mv) (ρ : En) : sIdx i mk mv ρ = (match ρ[i]? with
  | some (.ow false (.l ds)) => runE ρ (mv ρ) fun d => runE ρ (mk ρ) fun k => match k with
    | .int k => match ixN ds.length k with
      | some j => some (.nx (ρ.set i (.ow false (.l (ds.set j d)))))
      | none => none
    | _ => none
  | _ => none) := id rfl
@[simp] theorem mEmpT_d (ρ : En) : mEmpT ρ = .ok (.t [] []) := id rfl
@[simp] theorem mEmpK_d (ρ : En) : mEmpK ρ = .ok (.k [] []) := id rfl
@[simp] theorem startE_d (n ds) : startE n ds = ds.map .im ++ List.replicate (n - ds.length) .un := id rfl
@[simp] theorem runF_d (n ms ds) : runF n ms ds = (match ms (startE n ds) with | some (.rt d) => .ok d | some (.nx _) => .ok .non | some (.ex e _) => .er e | _ => .bad) := id rfl
@[simp] theorem rep1 {α : Type} (a : α) : List.replicate 1 a = [a] := id rfl
-- operations
@[simp] theorem fAdd_ii (i j) : fAdd (.int i) (.int j) = some (.int (i + j)) := id rfl
@[simp] theorem fAdd_tt (i j) : fAdd (.tup i) (.tup j) = if i.length + j.length < 16777216 then some (.tup (i ++ j)) else none := id rfl
@[simp] theorem fAdd_ll (i j) : fAdd (.lst i) (.lst j) = if i.length + j.length < 16777216 then some (.lst (i ++ j)) else none := id rfl
@[simp] theorem fSub_ii (i j) : fSub (.int i) (.int j) = some (.int (i - j)) := id rfl
@[simp] theorem fMul_ii (i j) : fMul (.int i) (.int j) = if okMul i j then some (.int (i * j)) else none := id rfl
@[simp] theorem fMul_ti (i j) : fMul (.tup i) (.int j) = if decide (-1000 ≤ j) && decide (j ≤ 1000) && decide (i.length ≤ 1000) && !i.isEmpty then some (.tup (repD i j)) else none := id rfl
@[simp] theorem fMul_li (i j) : fMul (.lst i) (.int j) = if decide (-1000 ≤ j) && decide (j ≤ 1000) && decide (i.length ≤ 1000) then some (.lst (repD i j)) else none := id rfl
@[simp] theorem fFdiv_ii (i j) : fFdiv (.int i) (.int j) = if okDiv i j then some (.int (i.fdiv j)) else none := id rfl
@[simp] theorem fMod_ii (i j) : fMod (.int i) (.int j) = if j ≠ 0 then some (.int (i.fmod j)) else none := id rfl
@[simp] theorem fPow_ii (i j) : fPow (.int i) (.int j) = if okPow i j then some (.int (i ^ j.toNat)) else none := id rfl
@[simp] theorem fShl_ii (i j) : fShl (.int i) (.int j) = if okPow i j then some (.int (i * 2 ^ j.toNat)) else none := id rfl
@[simp] theorem fShr_ii (i j) : fShr (.int i) (.int j) = if 0 ≤ j then some (.int (i / 2 ^ j.toNat)) else none := id rfl
@[simp] theorem fAnd_ii (i j) : fAnd (.int i) (.int j) = some (.int (Builtin.bitAnd i j)) := id rfl
@[simp] theorem fNeg_i (i) : fNeg (.int i) = some (.int (-i)) := id rfl
@[simp] theorem fLt_ii (i j) : fLt (.int i) (.int j) = some (.bl (decide (i < j))) := id rfl
@[simp] theorem fLe_ii (i j) : fLe (.int i) (.int j) = some (.bl (decide (i ≤ j))) := id rfl
@[simp] theorem fGt_ii (i j) : fGt (.int i) (.int j) = some (.bl (decide (j < i))) := id rfl
@[simp] theorem fGe_ii (i j) : fGe (.int i) (.int j) = some (.bl (decide (j ≤ i))) := id rfl
@[simp] theorem fIx_l (ds i) : fIx (.lst ds) (.int i) = atI ds i := id rfl
@[simp] theorem fIx_t (ds i) : fIx (.tup ds) (.int i) = atI ds i := id rfl
@[simp] theorem fIx_s (ds i) : fIx (.scr ds) (.int i) = (atI ds i).map .int := id rfl
@[simp] theorem fLen_l (ds) : fLen [.lst ds] = some (.int ds.length) := id rfl
@[simp] theorem fLen_t (ds) : fLen [.tup ds] = some (.int ds.length) := id rfl
@[simp] theorem fLen_s (ds) : fLen [.scr ds] = some (.int ds.length) := id rfl
@[simp] theorem fAbs_i (i) : fAbs [.int i] = some (.int (if i < 0 then -i else i)) := id rfl
@[simp] theorem fInt_i (i) : fInt [.int i] = some (.int i) := id rfl
@[simp] theorem fInt_b (i) : fInt [.bl i] = some (.int (if i then 1 else 0)) := id rfl
@[simp] theorem fGcd_ii (a b) : fGcd [.int a, .int b] = some (.int ((Nat.gcd a.natAbs b.natAbs : Nat) : Int)) := id rfl
@[simp] theorem fTuple_l (ds) : fTuple [.lst ds] = some (.tup ds) := id rfl
@[simp] theorem fTuple_t (ds) : fTuple [.tup ds] = some (.tup ds) := id rfl
@[simp] theorem fSum_l (ds) : fSum [.lst ds] = (intsOf ds).map fun ns => .int ns.sum := id rfl
@[simp] theorem fSum_t (ds) : fSum [.tup ds] = (intsOf ds).map fun ns => .int ns.sum := id rfl
@[simp] theorem fAny_l (ds) : fAny [.lst ds] = (blsOf ds).map fun ns => .bl (ns.any id) := id rfl
@[simp] theorem fAll_l (ds) : fAll [.lst ds] = (blsOf ds).map fun ns => .bl (ns.all id) := id rfl
@[simp] theorem fRev_l (ds) : fRev (.lst ds) = some (.lst ds.reverse) := id rfl
@[simp] theorem fIsN_nn : fIsN .non .non = some (.bl true) := id rfl
@[simp] theorem fNotN_nn : fNotN .non .non = some (.bl false) := id rfl
theorem isi_int_int (i) : isiTy "int" (.int i) = some true := by simp only [isiTy]; decide +kernel
theorem isi_bool_int (i) : isiTy "bool" (.int i) = some false := by simp only [isiTy]; decide +kernel
theorem isi_tuple_tup (i) : isiTy "tuple" (.tup i) = some true := by simp only [isiTy]; decide +kernel
end
end FL
namespace FL
open PySem L2
/-! ## lists of numbers as data -/
abbrev zs (l : List Int) : List D := l.map .int
abbrev bls (l : List Bool) : List D := l.map .bl
@[simp] theorem intsOf_ints : ∀ l : List Int, intsOf (zs l) = some l
  | [] => rfl
  | a :: l => by show (intsOf (zs l)).map _ = _; rw [intsOf_ints l]; rfl
@[simp] theorem blsOf_bls : ∀ l : List Bool, blsOf (bls l) = some l
  | [] => rfl
  | a :: l => by show (blsOf (bls l)).map _ = _; rw [blsOf_bls l]; rfl
@[simp] theorem blsOf_comp {α : Type} (f : α → Bool) (l : List α) : blsOf (l.map (D.bl ∘ f)) = some (l.map f) := by
  rw [← List.map_map]; exact blsOf_bls _
@[simp] theorem intsOf_comp {α : Type} (f : α → Int) (l : List α) : intsOf (l.map (D.int ∘ f)) = some (l.map f) := by
  rw [← List.map_map]; exact intsOf_ints _
@[simp] theorem blsOf_fun {α : Type} (f : α → Bool) (l : List α) : blsOf (l.map fun x => D.bl (f x)) = some (l.map f) := blsOf_comp f l
@[simp] theorem intsOf_fun {α : Type} (f : α → Int) (l : List α) : intsOf (l.map fun x => D.int (f x)) = some (l.map f) := intsOf_comp f l
theorem atI_nat {α : Type} (xs : List α) (k : Nat) : atI xs (k : Int) = xs[k]? := by
  unfold atI ixN
  rw [if_pos (by omega)]
  by_cases h : k < xs.length
  · rw [if_pos (by omega)]; simp
  · rw [if_neg (by omega)]; simp; omega
theorem atI_of {α : Type} {xs : List α} {i : Int} {k : Nat} (h : i = (k : Int)) : atI xs i = xs[k]? := by rw [h, atI_nat]
@[simp] theorem atI_0 {α : Type} (xs : List α) : atI xs 0 = xs[0]? := atI_nat xs 0
@[simp] theorem atI_1 {α : Type} (xs : List α) : atI xs 1 = xs[1]? := atI_nat xs 1
@[simp] theorem atI_2 {α : Type} (xs : List α) : atI xs 2 = xs[2]? := atI_nat xs 2
@[simp] theorem atI_3 {α : Type} (xs : List α) : atI xs 3 = xs[3]? := atI_nat xs 3
@[simp] theorem atI_4 {α : Type} (xs : List α) : atI xs 4 = xs[4]? := atI_nat xs 4
@[simp] theorem atI_5 {α : Type} (xs : List α) : atI xs 5 = xs[5]? := atI_nat xs 5
@[simp] theorem atI_6 {α : Type} (xs : List α) : atI xs 6 = xs[6]? := atI_nat xs 6
@[simp] theorem atI_7 {α : Type} (xs : List α) : atI xs 7 = xs[7]? := atI_nat xs 7
@[simp] theorem atI_8 {α : Type} (xs : List α) : atI xs 8 = xs[8]? := atI_nat xs 8
theorem atI_last {α : Type} (xs : List α) (h : xs ≠ []) : atI xs (-1) = some (xs.getLast h) := by
  have hl : 0 < xs.length := List.length_pos_iff.mpr h
  unfold atI ixN
  rw [if_neg (by omega), if_pos (by omega)]
  simp only [Option.bind_some]
  rw [List.getLast_eq_getElem, List.getElem?_eq_getElem (by omega)]
  congr 1
  congr 1
  omega
/-! shapes and equality -/
theorem shp_int (i n) : (D.int i).shp n = true := by cases n <;> rfl
theorem shpA_ints : ∀ (l : List Int) (n : Nat), D.shpA (zs l) n = true
  | [], _ => rfl
  | a :: l, n => by show ((D.int a).shp n && D.shpA (zs l) n) = true; rw [shp_int, shpA_ints l n]; rfl
@[simp] theorem shp_i (i : Int) : shp (.int i) = true := rfl
@[simp] theorem shp_n : shp .non = true := rfl
@[simp] theorem shp_b (b : Bool) : shp (.bl b) = true := rfl
@[simp] theorem shp_ti (l : List Int) : shp (.tup (zs l)) = true := shpA_ints l 63
@[simp] theorem shp_li (l : List Int) : shp (.lst (zs l)) = true := shpA_ints l 63
theorem shpA_tups : ∀ (l : List (List Int)) (n : Nat), D.shpA (l.map fun a => .tup (zs a)) (n + 1) = true
  | [], _ => rfl
  | a :: l, n => by show (D.shpA (zs a) n && D.shpA (l.map fun a => .tup (zs a)) (n + 1)) = true; rw [shpA_ints, shpA_tups l n]; rfl
@[simp] theorem shp_tti (l : List (List Int)) : shp (.tup (l.map fun a => .tup (zs a))) = true := shpA_tups l 62
@[simp] theorem shp_lti (l : List (List Int)) : shp (.lst (l.map fun a => .tup (zs a))) = true := shpA_tups l 62
theorem eqvA_ints : ∀ a b : List Int, D.eqvA (zs a) (zs b) = decide (a = b)
  | [], [] => rfl
  | [], _ :: _ => rfl
  | _ :: _, [] => rfl
  | x :: a, y :: b => by
    show (D.eqv (.int x) (.int y) && D.eqvA (zs a) (zs b)) = _
    rw [eqvA_ints a b]
    show ((x == y) && _) = _
    by_cases h : x = y <;> by_cases h2 : a = b <;> simp [h, h2]
@[simp] theorem eqv_i (a b : Int) : D.eqv (.int a) (.int b) = decide (a = b) := by
  show (a == b) = _
  by_cases h : a = b <;> simp [h]
@[simp] theorem eqv_bb (a b : Bool) : D.eqv (.bl a) (.bl b) = decide (a = b) := by
  show (a == b) = _
  cases a <;> cases b <;> rfl
@[simp] theorem eqv_ti (a b : List Int) : D.eqv (.tup (zs a)) (.tup (zs b)) = decide (a = b) := eqvA_ints a b
@[simp] theorem eqv_li (a b : List Int) : D.eqv (.lst (zs a)) (.lst (zs b)) = decide (a = b) := eqvA_ints a b
theorem eqvA_tups : ∀ a b : List (List Int), D.eqvA (a.map fun a => .tup (zs a)) (b.map fun a => .tup (zs a)) = decide (a = b)
  | [], [] => rfl
  | [], _ :: _ => rfl
  | _ :: _, [] => rfl
  | x :: a, y :: b => by
    show (D.eqv (.tup (zs x)) (.tup (zs y)) && D.eqvA (a.map fun a => .tup (zs a)) (b.map fun a => .tup (zs a))) = _
    rw [eqvA_tups a b, eqv_ti]
    by_cases h : x = y <;> by_cases h2 : a = b <;> simp [h, h2]
@[simp] theorem eqv_tti (a b : List (List Int)) : D.eqv (.tup (a.map fun a => .tup (zs a))) (.tup (b.map fun a => .tup (zs a))) = decide (a = b) := eqvA_tups a b
theorem inD_tups (x : List Int) (l : List (List Int)) : inD (.tup (zs x)) (l.map fun a => .tup (zs a)) = decide (x ∈ l) := by
  unfold inD
  rw [List.any_map]
  induction l with
  | nil => rfl
  | cons a l ih =>
    rw [List.any_cons, ih]
    show (D.eqv (.tup (zs a)) (.tup (zs x)) || _) = _
    rw [eqv_ti]
    by_cases h : a = x <;> by_cases h2 : x ∈ l <;> simp [h, h2, Ne.symm, eq_comm]
theorem inD_ints (x : Int) (l : List Int) : inD (.int x) (zs l) = decide (x ∈ l) := by
  unfold inD
  rw [List.any_map]
  induction l with
  | nil => rfl
  | cons a l ih =>
    rw [List.any_cons, ih]
    show (D.eqv (.int a) (.int x) || _) = _
    rw [eqv_i]
    by_cases h : a = x <;> by_cases h2 : x ∈ l <;> simp [h, h2, Ne.symm, eq_comm]
@[simp] theorem fEq_ii (a b : Int) : fEq (.int a) (.int b) = some (.bl (decide (a = b))) := by unfold fEq; simp
@[simp] theorem fNe_ii (a b : Int) : fNe (.int a) (.int b) = some (.bl (!decide (a = b))) := by unfold fNe; simp
@[simp] theorem fEq_tt (a b : List Int) : fEq (.tup (zs a)) (.tup (zs b)) = some (.bl (decide (a = b))) := by unfold fEq; simp only [shp_ti, eqv_ti]; rfl
@[simp] theorem fNe_tt (a b : List Int) : fNe (.tup (zs a)) (.tup (zs b)) = some (.bl (!decide (a = b))) := by unfold fNe; simp only [shp_ti, eqv_ti]; rfl
@[simp] theorem fNe_ttt (a b : List (List Int)) : fNe (.tup (a.map fun a => .tup (zs a))) (.tup (b.map fun a => .tup (zs a))) = some (.bl (!decide (a = b))) := by unfold fNe; simp only [shp_tti, eqv_tti]; rfl
/-! reckoning bounds -/
theorem okMul_of {i j : Int} {a b : Nat} (ha : i.natAbs < 2 ^ a) (hb : j.natAbs < 2 ^ b) (h : a + b ≤ 134217728) : okMul i j = true := by
  unfold okMul
  have x := PyProof.Rows.intBits_le ha
  have y := PyProof.Rows.intBits_le hb
  exact decide_eq_true (by omega)
theorem okMul_small {i j : Int} (ha : i.natAbs < 2 ^ 128) (hb : j.natAbs < 2 ^ 128) : okMul i j = true := okMul_of ha hb (by decide)
/-- by bounds that omega sees -/
theorem okMul_b {i j : Int} (a1 : -1000000000000000000000000000000 ≤ i) (a2 : i ≤ 1000000000000000000000000000000) (b1 : -1000000000000000000000000000000 ≤ j) (b2 : j ≤ 1000000000000000000000000000000) : okMul i j = true :=
  okMul_of (a := 100) (b := 100) (by omega) (by omega) (by decide)
theorem okDiv_small {i j : Int} (h0 : j ≠ 0) (h : j.natAbs < 1073741824) : okDiv i j = true := by
  unfold okDiv
  rw [PyProof.noPylong_small h]
  simp [h0]
theorem okDiv_wide {i j : Int} (h0 : j ≠ 0) (h : j.natAbs < 2 ^ 9000) : okDiv i j = true := by
  unfold okDiv
  rw [PyProof.noPylong_of_log2 (PySem.Flt.log2_lt_of (by decide) h)]
  simp [h0]
/-! ranges -/
theorem rngD_map (lo : Int) (n : Nat) : rngD lo n = zs ((List.range n).map fun (k : Nat) => lo + (k : Int)) := by unfold rngD zs; rw [List.map_map]; rfl
theorem rng1_enc (n : Nat) (h : n ≤ 1000000000000000000) : rng1Of [.int (n : Int)] = some ((List.range n).map fun (k : Nat) => D.int (k : Int)) := by
  have h2 : -4611686018427387904 ≤ ((n : Nat) : Int) ∧ ((n : Nat) : Int) < 4611686018427387904 := by omega
  simp only [rng1Of]
  rw [if_pos h2, Int.toNat_natCast]
  unfold rngD
  congr 1
  apply List.map_congr_left
  intro k _
  rw [Int.zero_add]
theorem rng1_int {j : Int} (n : Nat) (e : j = (n : Int)) (h : n ≤ 1000000000000000000) : rng1Of [.int j] = some ((List.range n).map fun (k : Nat) => D.int (k : Int)) := by rw [e, rng1_enc n h]
theorem rng2_int {i j : Int} (n : Nat) (hi : -1000000000000000000 ≤ i ∧ i ≤ 1000000000000000000) (hj : -1000000000000000000 ≤ j ∧ j ≤ 1000000000000000000) (e : (j - i).toNat = n) : rng2Of [.int i, .int j] = some ((List.range n).map fun (k : Nat) => D.int (i + (k : Int))) := by
  have h2 : -4611686018427387904 ≤ i ∧ i < 4611686018427387904 ∧ -4611686018427387904 ≤ j ∧ j < 4611686018427387904 := by omega
  simp only [rng2Of]
  rw [if_pos h2, e]; rfl
theorem mRng1_ok {m : En → Res D} {ρ : En} {j : Int} (n : Nat) (e : m ρ = .ok (.int j)) (h : j = (n : Int)) (h2 : n ≤ 1000000000000000000) : mRng1 (mCons m mNil) ρ = .ok ((List.range n).map fun (k : Nat) => D.int (k : Int)) := by
  rw [mRng1_d, mCons_d, e, bind_ok, mNil_d, bind_ok, bind_ok, rng1_int n h h2]; rfl
theorem mRng2_ok {m m' : En → Res D} {ρ : En} {i j : Int} (n : Nat) (e : m ρ = .ok (.int i)) (e' : m' ρ = .ok (.int j)) (hi : -1000000000000000000 ≤ i ∧ i ≤ 1000000000000000000) (hj : -1000000000000000000 ≤ j ∧ j ≤ 1000000000000000000) (h : (j - i).toNat = n) :
    mRng2 (mCons m (mCons m' mNil)) ρ = .ok ((List.range n).map fun (k : Nat) => D.int (i + (k : Int))) := by
  rw [mRng2_d, mCons_d, e, bind_ok, mCons_d, e', bind_ok, mNil_d, bind_ok, bind_ok, bind_ok, rng2_int n hi hj h]; rfl
theorem range_split {n x : Nat} {pre post : List Nat} (e : List.range n = pre ++ x :: post) : x = pre.length ∧ x < n := by
  have h : (List.range n)[pre.length]? = some x := by rw [e]; simp
  have h2 : pre.length < n := by
    have := congrArg List.length e
    simp at this
    omega
  rw [List.getElem?_range h2] at h
  have : pre.length = x := Option.some.inj h
  omega
/-! comprehensions -/
theorem compL_map {α : Type} {bt : D → En → Option En} {mt : En → Res Bool} {me : En → Res D} {ρ : En} {enc : α → D} {f : α → D} : ∀ (xs : List α) (acc : List D), (∀ x ∈ xs, ∃ ρ1, bt (enc x) ρ = some ρ1 ∧ mt ρ1 = .ok true ∧ me ρ1 = .ok (f x)) →
    acc.length + xs.length ≤ 16777215 → compL bt mt me ρ (xs.map enc) acc = .ok (.l (acc ++ xs.map f))
  | [], acc, _, _ => by simp [compL]
  | x :: xs, acc, h, hl => by
    obtain ⟨ρ1, h1, h2, h3⟩ := h x (by simp)
    rw [List.length_cons] at hl
    simp only [List.map_cons, compL, h1, h2, h3]
    rw [if_pos (by omega), compL_map xs (acc ++ [f x]) (fun y hy => h y (by simp [hy])) (by simp; omega)]
    simp
theorem compL_filter {α : Type} {bt : D → En → Option En} {mt : En → Res Bool} {me : En → Res D} {ρ : En} {enc : α → D} {f : α → D} {t : α → Bool} : ∀ (xs : List α) (acc : List D), (∀ x ∈ xs, ∃ ρ1, bt (enc x) ρ = some ρ1 ∧ mt ρ1 = .ok (t x) ∧ (t x = true → me ρ1 = .ok (f x))) →
    acc.length + xs.length ≤ 16777215 → compL bt mt me ρ (xs.map enc) acc = .ok (.l (acc ++ (xs.filter t).map f))
  | [], acc, _, _ => by simp [compL]
  | x :: xs, acc, h, hl => by
    obtain ⟨ρ1, h1, h2, h3⟩ := h x (by simp)
    rw [List.length_cons] at hl
    cases q : t x with
    | false =>
      rw [q] at h2
      simp only [List.map_cons, compL, h1, h2, List.filter_cons, q]
      exact compL_filter xs acc (fun y hy => h y (by simp [hy])) (by omega)
    | true =>
      rw [q] at h2
      simp only [List.map_cons, compL, h1, h2, h3 q, List.filter_cons, q, if_true]
      rw [if_pos (by omega), compL_filter xs (acc ++ [f x]) (fun y hy => h y (by simp [hy])) (by simp; omega)]
      simp
/-! what a run gives -/
def wpr {α : Type} (r : Res α) (P : α → Prop) : Prop := ∃ a, r = .ok a ∧ P a
def wps (r : Option Fl) (P : Fl → Prop) : Prop := ∃ f, r = some f ∧ P f
def PF (P : D → Prop) : Fl → Prop
  | .rt d => P d
  | .nx _ => P .non
  | _ => False
def PL (I : En → Prop) (P : Fl → Prop) : Fl → Prop
  | .nx ρ => I ρ
  | .ct ρ => I ρ
  | .bk ρ => P (.nx ρ)
  | f => P f
def PN (b : En → Option Fl) (P : Fl → Prop) : Fl → Prop
  | .nx ρ => wps (b ρ) P
  | f => P f
theorem wpr_ok {α : Type} {a : α} {P : α → Prop} (h : P a) : wpr (.ok a) P := ⟨a, rfl, h⟩
theorem wps_some {f : Fl} {P : Fl → Prop} (h : P f) : wps (some f) P := ⟨f, rfl, h⟩
theorem wps_n {r : Option Fl} {ρ : En} {P : Fl → Prop} (e : r = some (.nx ρ)) (h : P (.nx ρ)) : wps r P := ⟨_, e, h⟩
theorem wps_r {r : Option Fl} {d : D} {P : Fl → Prop} (e : r = some (.rt d)) (h : P (.rt d)) : wps r P := ⟨_, e, h⟩
theorem wps_of {r r' : Option Fl} {P : Fl → Prop} (e : r = r') (h : wps r' P) : wps r P := by rw [e]; exact h
theorem wpr_of {α : Type} {r r' : Res α} {P : α → Prop} (e : r = r') (h : wpr r' P) : wpr r P := by rw [e]; exact h
theorem wpr_imp {α : Type} {r : Res α} {P Q : α → Prop} (h : wpr r P) (i : ∀ a, P a → Q a) : wpr r Q := by
  obtain ⟨a, e, p⟩ := h
  exact ⟨a, e, i a p⟩
theorem wps_imp {r : Option Fl} {P Q : Fl → Prop} (h : wps r P) (i : ∀ a, P a → Q a) : wps r Q := by
  obtain ⟨a, e, p⟩ := h
  exact ⟨a, e, i a p⟩
theorem wpr_F {n : Nat} {ms : En → Option Fl} {ds : List D} {P : D → Prop} (h : wps (ms (startE n ds)) (PF P)) : wpr (runF n ms ds) P := by
  obtain ⟨f, e, p⟩ := h
  unfold runF
  rw [e]
  cases f with
  | rt d => exact ⟨d, rfl, p⟩
  | nx ρ => exact ⟨.non, rfl, p⟩
  | _ => exact p.elim
theorem wps_seq {a b : En → Option Fl} {ρ : En} {P : Fl → Prop} (h : wps (a ρ) (PN b P)) : wps (sSeq a b ρ) P := by
  obtain ⟨f, e, p⟩ := h
  unfold sSeq
  rw [e]
  cases f with
  | nx ρ1 => exact p
  | _ => exact ⟨_, rfl, p⟩
/-- straight on: the first part is reckoned -/
theorem wps_nx {a b : En → Option Fl} {ρ ρ1 : En} {P : Fl → Prop} (e : a ρ = some (.nx ρ1)) (h : wps (b ρ1) P) : wps (sSeq a b ρ) P := wps_seq ⟨_, e, h⟩
theorem wps_if {c : En → Res Bool} {a b : En → Option Fl} {ρ : En} {P : Fl → Prop} {k : Bool} (e : c ρ = .ok k) (h1 : k = true → wps (a ρ) P) (h2 : k = false → wps (b ρ) P) : wps (sIf c a b ρ) P := by
  unfold sIf
  rw [e]
  cases k with
  | true => exact h1 rfl
  | false => exact h2 rfl
theorem forL_wps {α : Type} {bt : D → En → Option En} {body : En → Option Fl} {enc : α → D} {P : Fl → Prop} {all : List α} (I : List α → En → Prop) (hend : ∀ ρ, I all ρ → P (.nx ρ)) :
    ∀ (xs pre : List α) (ρ : En), all = pre ++ xs → I pre ρ →
    (∀ pre x post ρ, all = pre ++ x :: post → I pre ρ → ∃ ρ1, bt (enc x) ρ = some ρ1 ∧ wps (body ρ1) (PL (I (pre ++ [x])) P)) → wps (forL bt body (xs.map enc) ρ) P
  | [], pre, ρ, ha, h, _ => ⟨_, rfl, hend ρ (by rw [ha, List.append_nil]; exact h)⟩
  | x :: xs, pre, ρ, ha, h, t => by
    obtain ⟨ρ1, h1, f, h2, h3⟩ := t pre x xs ρ ha h
    simp only [List.map_cons, forL, h1, h2]
    cases f with
    | nx ρ2 => exact forL_wps I hend xs (pre ++ [x]) ρ2 (by rw [ha]; simp) h3 t
    | ct ρ2 => exact forL_wps I hend xs (pre ++ [x]) ρ2 (by rw [ha]; simp) h3 t
    | bk ρ2 => exact ⟨_, rfl, h3⟩
    | rt d => exact ⟨_, rfl, h3⟩
    | ex e ρ2 => exact ⟨_, rfl, h3⟩
theorem wps_for {α : Type} {bt : D → En → Option En} {mi : En → Res (List D)} {body : En → Option Fl} {ρ : En} {P : Fl → Prop} (xs : List α) (enc : α → D) (hmi : mi ρ = .ok (xs.map enc)) (I : List α → En → Prop) (h0 : I [] ρ)
    (step : ∀ pre x post ρ, xs = pre ++ x :: post → I pre ρ → ∃ ρ1, bt (enc x) ρ = some ρ1 ∧ wps (body ρ1) (PL (I (pre ++ [x])) P)) (hend : ∀ ρ, I xs ρ → P (.nx ρ)) : wps (sFor bt mi body ρ) P := by
  unfold sFor
  rw [hmi]
  exact forL_wps I hend xs [] ρ (by simp) h0 step
theorem wps_while {c : En → Res Bool} {body : En → Option Fl} {ρ : En} {P : Fl → Prop} (I : En → Prop) (μ : En → Nat) (h0 : I ρ)
    (step : ∀ ρ, I ρ → ∃ b, c ρ = .ok b ∧ (b = true → wps (body ρ) (PL (fun ρ2 => I ρ2 ∧ μ ρ2 < μ ρ) P)) ∧ (b = false → P (.nx ρ))) : wps (sWh c body ρ) P := by
  have key : ∀ (n : Nat) (ρ : En), μ ρ < n → I ρ → ∃ f, whN c body n ρ = some f ∧ P f := by
    intro n
    induction n with
    | zero => intro ρ h; omega
    | succ n ih =>
      intro ρ hn hI
      obtain ⟨b, hb, h1, h2⟩ := step ρ hI
      simp only [whN, hb, runE_ok]
      cases b with
      | false => exact ⟨_, rfl, h2 rfl⟩
      | true =>
        obtain ⟨f, e, p⟩ := h1 rfl
        simp only [if_true, e]
        cases f with
        | nx ρ2 => exact ih ρ2 (by have := p.2; omega) p.1
        | ct ρ2 => exact ih ρ2 (by have := p.2; omega) p.1
        | bk ρ2 => exact ⟨_, rfl, p⟩
        | rt d => exact ⟨_, rfl, p⟩
        | ex e ρ2 => exact ⟨_, rfl, p⟩
  obtain ⟨f, e, p⟩ := key (μ ρ + 1) ρ (by omega) h0
  exact ⟨f, sWh_eq e, p⟩
end FL
namespace FL
open PySem L2
/-! ## types of data -/
inductive Ty where
  | z | b | s | n | scr | raw | lst (t : Ty) | tup (t : Ty) | pr (a b : Ty) | fx (t : Ty) | opt (t : Ty) | ins (c : Nat) (fs : List Str) (t : Ty)
@[reducible] def Ty.T : Ty → Type
  | .z => Int | .b => Bool | .s => Str | .n => Unit | .scr => List Int | .raw => D
  | .lst t => List t.T | .tup t => List t.T | .pr t u => t.T × u.T | .fx t => t.T | .opt t => Option t.T | .ins _ _ t => t.T
def Ty.encP : (t : Ty) → t.T → D × List D
  | .z, i => (.int i, [.int i])
  | .b, i => (.bl i, [.bl i])
  | .s, i => (.str i, [.str i])
  | .n, _ => (.non, [.non])
  | .scr, i => (.scr i, [.scr i])
  | .raw, d => (d, [d])
  | .lst t, xs => (.lst (xs.map fun x => (t.encP x).1), [.lst (xs.map fun x => (t.encP x).1)])
  | .tup t, xs => (.tup (xs.map fun x => (t.encP x).1), [.tup (xs.map fun x => (t.encP x).1)])
  | .pr t u, x => (.non, (t.encP x.1).1 :: (u.encP x.2).2)
  | .fx t, x => (.tup (t.encP x).2, [.tup (t.encP x).2])
  | .opt t, x => (match x with | none => .non | some a => (t.encP a).1, [match x with | none => .non | some a => (t.encP a).1])
  | .ins c fs t, x => (.ins c fs (t.encP x).2, [.ins c fs (t.encP x).2])
def Ty.enc (t : Ty) (x : t.T) : D := (t.encP x).1
def Ty.encA (t : Ty) (x : t.T) : List D := (t.encP x).2
theorem enc_z (i : Int) : Ty.enc .z i = .int i := rfl
theorem enc_b (i : Bool) : Ty.enc .b i = .bl i := rfl
theorem enc_lst (t : Ty) (xs : List t.T) : Ty.enc (.lst t) xs = .lst (xs.map t.enc) := rfl
theorem enc_tup (t : Ty) (xs : List t.T) : Ty.enc (.tup t) xs = .tup (xs.map t.enc) := rfl
theorem enc_fx (t : Ty) (x : t.T) : Ty.enc (.fx t) x = .tup (t.encA x) := rfl
theorem enc_ins (c : Nat) (fs : List Str) (t : Ty) (x : t.T) : Ty.enc (.ins c fs t) x = .ins c fs (t.encA x) := rfl
/-! ## results that agree -/
/-- a test that is not reckoned by unfolding -/
noncomputable def iteC {α : Type} (p : Prop) (a b : α) : α := @ite α p (Classical.propDecidable p) a b
theorem iteC_eq {α : Type} (p : Prop) [h : Decidable p] (a b : α) : iteC p a b = if p then a else b := by
  unfold iteC
  by_cases q : p
  · rw [if_pos q, if_pos q]
  · rw [if_neg q, if_neg q]
theorem iteC_pos {α : Type} {p : Prop} (h : p) (a b : α) : iteC p a b = a := by unfold iteC; rw [if_pos h]
theorem iteC_neg {α : Type} {p : Prop} (h : ¬ p) (a b : α) : iteC p a b = b := by unfold iteC; rw [if_neg h]
def Rx {α β : Type} (f : α → β) (x : Res α) (y : Res β) : Prop := match x with
  | .ok a => y = .ok (f a)
  | .er e => y = .er e
  | .bad => True
section
variable {α β γ δ σ R : Type}
theorem Rx.ok {f : α → β} {x : Res α} {y : Res β} {a : α} (h : Rx f x y) (e : x = .ok a) : y = .ok (f a) := by subst e; exact h
theorem Rx.er {f : α → β} {x : Res α} {y : Res β} {e : D} (h : Rx f x y) (q : x = .er e) : y = .er e := by subst q; exact h
theorem rx_bind {f : α → β} {g : γ → δ} {x : Res α} {y : Res β} {k : α → Res γ} {K : β → Res δ} (h : Rx f x y) (hk : ∀ a, Rx g (k a) (K (f a))) : Rx g (x.bind k) (y.bind K) := by
  cases x with
  | ok a => have h : y = .ok (f a) := h; subst h; exact hk a
  | er e => have h : y = .er e := h; subst h; exact rfl
  | bad => trivial
theorem rx_of {f : α → β} {x : Res α} {y : Res β} (h : ∀ a, x = .ok a → y = .ok (f a)) (h2 : ∀ e, x ≠ .er e) : Rx f x y := by
  cases x with
  | ok a => exact h a rfl
  | er e => exact absurd rfl (h2 e)
  | bad => trivial
end
/-! ## what is known of the slots -/
inductive Spt where
  | any | im (d : D) | ow (c : Cn)
def SM : Spt → Sl → Prop
  | .any, _ => True
  | .im d, s => s = .im d
  | .ow c, s => s = .ow false c
def Mat : List Spt → En → Prop
  | [], [] => True
  | p :: L, s :: ρ => SM p s ∧ Mat L ρ
  | _, _ => False
theorem sm_im {d : D} : SM (.im d) (.im d) := rfl
theorem sm_ow {c : Cn} : SM (.ow c) (.ow false c) := rfl
theorem Mat.get : ∀ {L : List Spt} {ρ : En} {i : Nat} {p : Spt}, Mat L ρ → L[i]? = some p → ∃ s, ρ[i]? = some s ∧ SM p s
  | [], _, _, _, _, e => by simp at e
  | p :: L, [], _, _, h, _ => h.elim
  | p :: L, s :: ρ, 0, q, h, e => by simp at e; subst e; exact ⟨s, rfl, h.1⟩
  | p :: L, s :: ρ, i + 1, q, h, e => by
    obtain ⟨s', h1, h2⟩ := Mat.get (i := i) (p := q) h.2 (by simpa using e)
    exact ⟨s', by simpa using h1, h2⟩
theorem Mat.set : ∀ {L : List Spt} {ρ : En} (i : Nat) {p : Spt} {s : Sl}, Mat L ρ → SM p s → Mat (L.set i p) (ρ.set i s)
  | [], [], _, _, _, _, _ => trivial
  | [], _ :: _, _, _, _, h, _ => h.elim
  | _ :: _, [], _, _, _, h, _ => h.elim
  | p :: L, s :: ρ, 0, _, _, h, q => ⟨q, h.2⟩
  | p :: L, s :: ρ, i + 1, _, _, h, q => ⟨h.1, Mat.set i h.2 q⟩
theorem Mat.im {L : List Spt} {ρ : En} {i : Nat} {d : D} (h : Mat L ρ) (e : L[i]? = some (.im d)) : ρ[i]? = some (.im d) := by
  obtain ⟨s, h1, h2⟩ := h.get e
  rw [h1]; exact congrArg some h2
theorem Mat.ow {L : List Spt} {ρ : En} {i : Nat} {c : Cn} (h : Mat L ρ) (e : L[i]? = some (.ow c)) : ρ[i]? = some (.ow false c) := by
  obtain ⟨s, h1, h2⟩ := h.get e
  rw [h1]; exact congrArg some h2
theorem Mat.frz {L : List Spt} {ρ : En} {i : Nat} {c : Cn} (h : Mat L ρ) (e : L[i]? = some (.ow c)) : Mat (L.set i (.im c.d)) (frz1 i ρ) := by
  have := h.ow e
  unfold frz1
  rw [this]
  exact h.set i rfl
def Wk (L L' : List Spt) : Prop := ∀ ρ, Mat L ρ → Mat L' ρ
theorem wk_n : Wk [] [] := fun _ h => h
theorem wk_s {p : Spt} {L L' : List Spt} (h : Wk L L') : Wk (p :: L) (p :: L') := fun ρ m => match ρ, m with
  | _ :: _, m => ⟨m.1, h _ m.2⟩
theorem wk_a {p : Spt} {L L' : List Spt} (h : Wk L L') : Wk (p :: L) (.any :: L') := fun ρ m => match ρ, m with
  | _ :: _, m => ⟨trivial, h _ m.2⟩
theorem wk_r {L : List Spt} : Wk L L := fun _ h => h
/-! ## expressions -/
def VR {α β : Type} (f : α → β) (L : List Spt) (x : Res α) (m : En → Res β) : Prop := ∀ ρ, Mat L ρ → Rx f x (m ρ)
abbrev cnl (t : Ty) : List t.T → Cn := fun xs => .l (xs.map t.enc)
abbrev mpl (t : Ty) : List t.T → List D := fun xs => xs.map t.enc
def KR {α β : Type} (f : α → β) (L : List Spt) (x : Res α) (ms : En → Res (List D)) (K : List D → Res β) : Prop := ∀ ρ, Mat L ρ → Rx f x ((ms ρ).bind K)
section
variable {α β γ δ σ R : Type} {L : List Spt} {t u : Ty}
theorem k_n {f : α → β} {x : Res α} {K : List D → Res β} (h : Rx f x (K [])) : KR f L x mNil K := fun ρ _ => h
theorem mCons_bind {m : En → Res D} {ms : En → Res (List D)} {K : List D → Res β} (ρ : En) : (mCons m ms ρ).bind K = (m ρ).bind fun d => (ms ρ).bind fun ds => K (d :: ds) := by
  unfold mCons
  cases m ρ <;> simp only [Res.bind]
  cases ms ρ <;> simp only [Res.bind]
theorem k_r {f : α → β} {y : Res t.T} {k : t.T → Res α} {m : En → Res D} {ms : En → Res (List D)} {K : List D → Res β} (hm : VR t.enc L y m) (h : ∀ a, KR f L (k a) ms (fun ds => K (t.enc a :: ds))) : KR f L (y.bind k) (mCons m ms) K := fun ρ M => by
  rw [mCons_bind]
  exact rx_bind (hm ρ M) fun a => h a ρ M
theorem k_p {f : α → β} {a : t.T} {x : Res α} {m : En → Res D} {ms : En → Res (List D)} {K : List D → Res β} (hm : VR t.enc L (.ok a) m) (h : KR f L x ms (fun ds => K (t.enc a :: ds))) : KR f L x (mCons m ms) K := fun ρ M => by
  rw [mCons_bind]
  have h1 : m ρ = .ok (t.enc a) := hm ρ M
  rw [h1]
  exact h ρ M
/-- from the list of values to the result -/
theorem kr_of {f : α → β} {x : Res α} {ms : En → Res (List D)} {K : List D → Res β} (h : KR f L x ms K) : VR f L x (fun ρ => (ms ρ).bind K) := h
def KR1 : List D → Res (List D) := fun ds => .ofO (rng1Of ds)
def KR2 : List D → Res (List D) := fun ds => .ofO (rng2Of ds)
def KZ : List D → Res (List D) := fun ds => .ofO (zipOf ds)
def KT : List D → Res D := fun xs => if xs.length < 16777216 then .ok (.tup xs) else .bad
def KLs : List D → Res Cn := fun xs => if xs.length < 16777216 then .ok (.l xs) else .bad
def KC (n : Nat) (φ : List D → Res D) : List D → Res D := fun ds => if ds.length = n then φ ds else .bad
def KO (f : List D → Option D) : List D → Res D := fun ds => .ofO (f ds)
def KM (n : Nat) (φ : List D → Res Cn) : List D → Res D := fun ds => if ds.length + 1 = n then (φ ds).bind fun c => .ok c.d else .bad
theorem v_tup {f : α → D} {x : Res α} {ms : En → Res (List D)} (h : KR f L x ms KT) : VR f L x (mTup ms) := kr_of h
theorem v_mlst {f : α → Cn} {x : Res α} {ms : En → Res (List D)} (h : KR f L x ms KLs) : VR f L x (mLst ms) := kr_of h
theorem v_call {f : α → D} {x : Res α} {n : Nat} {φ : List D → Res D} {ms : En → Res (List D)} (h : KR f L x ms (KC n φ)) : VR f L x (mCall n φ ms) := kr_of h
theorem v_opa {f : α → D} {x : Res α} {g : List D → Option D} {ms : En → Res (List D)} (h : KR f L x ms (KO g)) : VR f L x (mOpA g ms) := kr_of h
theorem v_make {f : α → D} {x : Res α} {n : Nat} {φ : List D → Res Cn} {ms : En → Res (List D)} (h : KR f L x ms (KM n φ)) : VR f L x (mMake n φ ms) := kr_of h
theorem kt_fin {t : Ty} {a : t.T} {d : List D} {n : Nat} (e : Ty.enc t a = .tup d) (hn : d.length = n) (h : n < 16777216) : Rx t.enc (.ok a) (KT d) := by
  show KT d = .ok (t.enc a)
  unfold KT; rw [hn, if_pos h, e]
theorem kl_fin {t : Ty} {a : List t.T} {d : List D} {n : Nat} (e : a.map t.enc = d) (hn : d.length = n) (h : n < 16777216) : Rx (cnl t) (.ok a) (KLs d) := by
  show KLs d = .ok (.l (a.map t.enc))
  unfold KLs; rw [hn, if_pos h, e]
theorem kc_fin {f : α → D} {x : Res α} {n : Nat} {φ : List D → Res D} {ds : List D} (hn : ds.length = n) (h : Rx f x (φ ds)) : Rx f x (KC n φ ds) := by unfold KC; rw [if_pos hn]; exact h
theorem km_fin {f : α → D} {g : α → Cn} {x : Res α} {n : Nat} {φ : List D → Res Cn} {ds : List D} (hn : ds.length + 1 = n) (e : ∀ a, (g a).d = f a) (h : Rx g x (φ ds)) : Rx f x (KM n φ ds) := by
  unfold KM
  rw [if_pos hn]
  have : x = x.bind fun a => .ok a := by cases x <;> rfl
  rw [this]
  exact rx_bind h fun a => by show Res.ok (g a).d = .ok (f a); rw [e]
theorem v_var {i : Nat} {a : t.T} (h : L[i]? = some (.im (t.enc a))) : VR t.enc L (.ok a) (mVar i) := fun ρ M => by
  show mVar i ρ = _
  unfold mVar
  rw [M.im h]
theorem v_c {a : t.T} {d : D} (h : t.enc a = d) : VR t.enc L (.ok a) (mC d) := fun ρ M => by
  show Res.ok d = _
  rw [h]
theorem v_int (i : Int) : VR (Ty.enc .z) L (.ok i) (mC (.int i)) := fun ρ M => rfl
theorem v_bl (i : Bool) : VR (Ty.enc .b) L (.ok i) (mC (.bl i)) := fun ρ M => rfl
theorem v_str (i : Str) : VR (Ty.enc .s) L (.ok i) (mC (.str i)) := fun ρ M => rfl
theorem v_non : VR (Ty.enc .n) L (.ok ()) (mC .non) := fun ρ M => rfl
theorem v_none : VR (Ty.enc (.opt t)) L (.ok none) (mC .non) := fun ρ M => rfl
theorem v_some {a : t.T} {m : En → Res D} (h : VR t.enc L (.ok a) m) : VR (Ty.enc (.opt t)) L (.ok (some a)) m := fun ρ M => h ρ M
theorem v_someR {x : Res t.T} {m : En → Res D} (h : VR t.enc L x m) : VR (Ty.enc (.opt t)) L (x.bind fun a => .ok (some a)) m := fun ρ M => by
  have := h ρ M
  cases x with
  | ok a => exact this
  | er e => exact this
  | bad => trivial
def unT {α : Type} : Option α → Res α
  | some a => .ok a
  | none => .bad
theorem v_un {o : Option t.T} {m : En → Res D} (h : VR (Ty.enc (.opt t)) L (.ok o) m) : VR t.enc L (unT o) m := fun ρ M => by
  cases o with
  | none => trivial
  | some a => exact h ρ M
theorem v_unR {x : Res (Option t.T)} {m : En → Res D} (h : VR (Ty.enc (.opt t)) L x m) : VR t.enc L (x.bind unT) m := fun ρ M => by
  have := h ρ M
  cases x with
  | ok o => cases o with
    | none => trivial
    | some a => exact this
  | er e => exact this
  | bad => trivial
theorem v_op1 {F : D → Option D} {g : t.T → Res u.T} (S : ∀ a, Rx u.enc (g a) (.ofO (F (t.enc a)))) {x : Res t.T} {m : En → Res D} (h : VR t.enc L x m) : VR u.enc L (x.bind g) (mOp1 F m) := fun ρ M => rx_bind (h ρ M) S
theorem v_op2 {v : Ty} {F : D → D → Option D} {g : t.T → u.T → Res v.T} (S : ∀ a b, Rx v.enc (g a b) (.ofO (F (t.enc a) (u.enc b)))) {x : Res t.T} {y : Res u.T} {m n : En → Res D} (h : VR t.enc L x m) (h2 : VR u.enc L y n) :
    VR v.enc L (x.bind fun a => y.bind fun b => g a b) (mOp2 F m n) := fun ρ M => rx_bind (h ρ M) fun a => rx_bind (h2 ρ M) fun b => S a b
theorem v_fz {x : Res (List t.T)} {m : En → Res Cn} (h : VR (cnl t) L x m) : VR (Ty.enc (.lst t)) L x (mFz m) := fun ρ M => by
  have := h ρ M
  show Rx _ x ((m ρ).bind fun c => .ok c.d)
  cases x with
  | ok a => have this : m ρ = .ok (.l (a.map t.enc)) := this; rw [this]; rfl
  | er e => have this : m ρ = .er e := this; rw [this]; rfl
  | bad => trivial
-- tests
theorem b_tst {x : Res Bool} {m : En → Res D} (h : VR (Ty.enc .b) L x m) : VR id L x (mTst m) := fun ρ M => by
  have := h ρ M
  show Rx _ x ((m ρ).bind fun d => .ofO (isBl d))
  cases x with
  | ok a => have this : m ρ = .ok (.bl a) := this; rw [this]; rfl
  | er e => have this : m ρ = .er e := this; rw [this]; rfl
  | bad => trivial
def Ty.truT : (t : Ty) → t.T → Res Bool
  | .b, k => .ok k
  | .z, i => .ok (i != 0)
  | .lst _, xs => .ok (!List.isEmpty xs)
  | .tup _, xs => .ok (!List.isEmpty xs)
  | _, _ => .bad
theorem truT_ok : ∀ (t : Ty) (a : t.T), Rx id (t.truT a) (.ofO (tru (t.enc a)))
  | .b, _ => rfl
  | .z, _ => rfl
  | .lst t, xs => by show Res.ofO (some (!(xs.map t.enc).isEmpty)) = .ok (!xs.isEmpty); cases xs <;> rfl
  | .tup t, xs => by show Res.ofO (some (!(xs.map t.enc).isEmpty)) = .ok (!xs.isEmpty); cases xs <;> rfl
  | .s, _ => trivial | .n, _ => trivial | .scr, _ => trivial | .raw, _ => trivial | .pr _ _, _ => trivial | .fx _, _ => trivial | .opt _, _ => trivial | .ins _ _ _, _ => trivial
theorem b_tru {x : Res t.T} {m : En → Res D} (h : VR t.enc L x m) : VR id L (x.bind t.truT) (mTru m) := fun ρ M => rx_bind (h ρ M) (truT_ok t)
theorem b_truB {x : Res Bool} {m : En → Res D} (h : VR (Ty.enc .b) L x m) : VR id L x (mTru m) := fun ρ M => by
  have := h ρ M
  show Rx _ x ((m ρ).bind fun d => .ofO (tru d))
  cases x with
  | ok a => have this : m ρ = .ok (.bl a) := this; rw [this]; rfl
  | er e => have this : m ρ = .er e := this; rw [this]; rfl
  | bad => trivial
theorem b_not {x : Res Bool} {m : En → Res Bool} (h : VR id L x m) : VR id L (x.bind fun b => .ok (!b)) (mtNot m) := fun ρ M => rx_bind (h ρ M) fun a => rfl
theorem b_notP {p : Bool} {m : En → Res Bool} (h : VR id L (.ok p) m) : VR id L (.ok (!p)) (mtNot m) := b_not h
theorem b_and {x y : Res Bool} {m n : En → Res Bool} (h : VR id L x m) (h2 : VR id L y n) : VR id L (x.bind fun b => if b then y else .ok false) (mtAnd m n) := fun ρ M => rx_bind (h ρ M) fun a => by
  cases a with
  | true => exact h2 ρ M
  | false => rfl
theorem b_or {x y : Res Bool} {m n : En → Res Bool} (h : VR id L x m) (h2 : VR id L y n) : VR id L (x.bind fun b => if b then .ok true else y) (mtOr m n) := fun ρ M => rx_bind (h ρ M) fun a => by
  cases a with
  | true => rfl
  | false => exact h2 ρ M
theorem b_andP {p q : Bool} {m n : En → Res Bool} (h : VR id L (.ok p) m) (h2 : VR id L (.ok q) n) : VR id L (.ok (p && q)) (mtAnd m n) := fun ρ M => by
  have := b_and h h2 ρ M
  cases p <;> exact this
theorem b_orP {p q : Bool} {m n : En → Res Bool} (h : VR id L (.ok p) m) (h2 : VR id L (.ok q) n) : VR id L (.ok (p || q)) (mtOr m n) := fun ρ M => by
  have := b_or h h2 ρ M
  cases p <;> exact this
theorem v_not {x : Res Bool} {m : En → Res D} (h : VR (Ty.enc .b) L x m) : VR (Ty.enc .b) L (x.bind fun b => .ok (!b)) (mNot m) := fun ρ M => rx_bind (h ρ M) fun a => rfl
theorem v_notP {p : Bool} {m : En → Res D} (h : VR (Ty.enc .b) L (.ok p) m) : VR (Ty.enc .b) L (.ok (!p)) (mNot m) := v_not h
theorem v_and {x y : Res Bool} {m n : En → Res D} (h : VR (Ty.enc .b) L x m) (h2 : VR (Ty.enc .b) L y n) : VR (Ty.enc .b) L (x.bind fun b => if b then y else .ok false) (mAnd m n) := fun ρ M => rx_bind (h ρ M) fun a => by
  cases a with
  | true => exact h2 ρ M
  | false => rfl
theorem v_or {x y : Res Bool} {m n : En → Res D} (h : VR (Ty.enc .b) L x m) (h2 : VR (Ty.enc .b) L y n) : VR (Ty.enc .b) L (x.bind fun b => if b then .ok true else y) (mOr m n) := fun ρ M => rx_bind (h ρ M) fun a => by
  cases a with
  | true => rfl
  | false => exact h2 ρ M
theorem v_andP {p q : Bool} {m n : En → Res D} (h : VR (Ty.enc .b) L (.ok p) m) (h2 : VR (Ty.enc .b) L (.ok q) n) : VR (Ty.enc .b) L (.ok (p && q)) (mAnd m n) := fun ρ M => by
  have := v_and h h2 ρ M
  cases p <;> exact this
theorem v_orP {p q : Bool} {m n : En → Res D} (h : VR (Ty.enc .b) L (.ok p) m) (h2 : VR (Ty.enc .b) L (.ok q) n) : VR (Ty.enc .b) L (.ok (p || q)) (mOr m n) := fun ρ M => by
  have := v_or h h2 ρ M
  cases p <;> exact this
theorem v_if {x : Res Bool} {y w : Res t.T} {c : En → Res Bool} {m n : En → Res D} (h : VR id L x c) (h2 : VR t.enc L y m) (h3 : VR t.enc L w n) : VR t.enc L (x.bind fun b => if b then y else w) (mIf c m n) := fun ρ M => rx_bind (h ρ M) fun a => by
  cases a with
  | true => exact h2 ρ M
  | false => exact h3 ρ M
theorem v_ifP {p : Bool} {y w : Res t.T} {c : En → Res Bool} {m n : En → Res D} (h : VR id L (.ok p) c) (h2 : VR t.enc L y m) (h3 : VR t.enc L w n) : VR t.enc L (if p then y else w) (mIf c m n) := v_if h h2 h3
-- owned slots
def noEr {α : Type} : Res α → Res α
  | .er _ => .bad
  | r => r
theorem v_bor {i : Nat} {c : Cn} {x : Res t.T} {m : En → Res D} (h0 : L[i]? = some (.ow c)) (hs : ∀ a : t.T, scalD (t.enc a) = true) (h : VR t.enc (L.set i (.im c.d)) x m) : VR t.enc L (noEr x) (mBor i m) := fun ρ M => by
  have := h _ (M.frz h0)
  unfold mBor
  cases x with
  | ok a => have this : m (frz1 i ρ) = .ok (t.enc a) := this; rw [this]; show (if scalD (t.enc a) = true then _ else _) = _; rw [if_pos (hs a)]
  | er e => trivial
  | bad => trivial
theorem v_borP {i : Nat} {c : Cn} {a : t.T} {m : En → Res D} (h0 : L[i]? = some (.ow c)) (hs : ∀ a : t.T, scalD (t.enc a) = true) (h : VR t.enc (L.set i (.im c.d)) (.ok a) m) : VR t.enc L (.ok a) (mBor i m) := v_bor h0 hs h
theorem b_bor {i : Nat} {c : Cn} {x : Res Bool} {m : En → Res Bool} (h0 : L[i]? = some (.ow c)) (h : VR id (L.set i (.im c.d)) x m) : VR id L (noEr x) (mtBor i m) := fun ρ M => by
  have := h _ (M.frz h0)
  unfold mtBor
  cases x with
  | ok a => have this : m (frz1 i ρ) = .ok a := this; rw [this]; rfl
  | er e => trivial
  | bad => trivial
theorem b_borP {i : Nat} {c : Cn} {a : Bool} {m : En → Res Bool} (h0 : L[i]? = some (.ow c)) (h : VR id (L.set i (.im c.d)) (.ok a) m) : VR id L (.ok a) (mtBor i m) := b_bor h0 h
theorem sc_z : ∀ a : Ty.T .z, scalD (Ty.enc .z a) = true := fun _ => rfl
theorem sc_b : ∀ a : Ty.T .b, scalD (Ty.enc .b a) = true := fun _ => rfl
theorem sc_n : ∀ a : Ty.T .n, scalD (Ty.enc .n a) = true := fun _ => rfl
theorem sc_s : ∀ a : Ty.T .s, scalD (Ty.enc .s a) = true := fun _ => rfl
end
/-! ## what is walked -/
def TG (t : Ty) (bt : D → En → Option En) (P : t.T → List Spt → List Spt) : Prop := ∀ (a : t.T) (ρ : En) (L : List Spt), Mat L ρ → ∃ ρ1, bt (t.enc a) ρ = some ρ1 ∧ Mat (P a L) ρ1
theorem tg_1 {t : Ty} (i : Nat) : TG t (bName i) (fun a L => L.set i (.im (t.enc a))) := fun a ρ L M => ⟨_, rfl, M.set i sm_im⟩
theorem tg_2 {t u : Ty} (i j : Nat) (h : ∀ b : u.T, u.encA b = [u.enc b]) : TG (.fx (.pr t u)) (bTup [i, j]) (fun a L => (L.set i (.im (t.enc a.1))).set j (.im (u.enc a.2))) := fun a ρ L M => ⟨_, by
  show bNames [i, j] (t.enc a.1 :: u.encA a.2) ρ = _
  rw [h]; rfl, (M.set i sm_im).set j sm_im⟩
theorem tg_3 {t u v : Ty} (i j k : Nat) (h : ∀ b : v.T, v.encA b = [v.enc b]) : TG (.fx (.pr t (.pr u v))) (bTup [i, j, k]) (fun a L => ((L.set i (.im (t.enc a.1))).set j (.im (u.enc a.2.1))).set k (.im (v.enc a.2.2))) := fun a ρ L M => ⟨_, by
  show bNames [i, j, k] (t.enc a.1 :: u.enc a.2.1 :: v.encA a.2.2) ρ = _
  rw [h]; rfl, ((M.set i sm_im).set j sm_im).set k sm_im⟩
theorem tg_4 {t u v w : Ty} (i j k l : Nat) (h : ∀ b : w.T, w.encA b = [w.enc b]) : TG (.fx (.pr t (.pr u (.pr v w)))) (bTup [i, j, k, l]) (fun a L => (((L.set i (.im (t.enc a.1))).set j (.im (u.enc a.2.1))).set k (.im (v.enc a.2.2.1))).set l (.im (w.enc a.2.2.2))) := fun a ρ L M => ⟨_, by
  show bNames [i, j, k, l] (t.enc a.1 :: u.enc a.2.1 :: v.enc a.2.2.1 :: w.encA a.2.2.2) ρ = _
  rw [h]; rfl, (((M.set i sm_im).set j sm_im).set k sm_im).set l sm_im⟩
def seqT : (t : Ty) → Prop
  | .lst _ => True | .tup _ => True | _ => False
section
variable {α β γ δ σ R : Type} {L : List Spt} {t u : Ty}
theorem i_lst {x : Res (List t.T)} {m : En → Res D} (h : VR (Ty.enc (.lst t)) L x m) : VR (mpl t) L x (mSeq m) := fun ρ M => by
  have := h ρ M
  show Rx _ x ((m ρ).bind fun d => .ofO (elems d))
  cases x with
  | ok a => have this : m ρ = .ok (.lst (a.map t.enc)) := this; rw [this]; rfl
  | er e => have this : m ρ = .er e := this; rw [this]; rfl
  | bad => trivial
theorem i_tup {x : Res (List t.T)} {m : En → Res D} (h : VR (Ty.enc (.tup t)) L x m) : VR (mpl t) L x (mSeq m) := fun ρ M => by
  have := h ρ M
  show Rx _ x ((m ρ).bind fun d => .ofO (elems d))
  cases x with
  | ok a => have this : m ρ = .ok (.tup (a.map t.enc)) := this; rw [this]; rfl
  | er e => have this : m ρ = .er e := this; rw [this]; rfl
  | bad => trivial
theorem i_scr {x : Res (List Int)} {m : En → Res D} (h : VR (Ty.enc .scr) L x m) : VR (mpl .z) L x (mSeq m) := fun ρ M => by
  have := h ρ M
  show Rx _ x ((m ρ).bind fun d => .ofO (elems d))
  cases x with
  | ok a => have this : m ρ = .ok (.scr a) := this; rw [this]; rfl
  | er e => have this : m ρ = .er e := this; rw [this]; rfl
  | bad => trivial
def irange (lo : Int) (n : Nat) : List Int := (List.range n).map fun (k : Nat) => lo + (k : Int)
noncomputable def rng1T (j : Int) : Res (List Int) := iteC (-4611686018427387904 ≤ j ∧ j < 4611686018427387904) (.ok (irange 0 j.toNat)) .bad
noncomputable def rng2T (i j : Int) : Res (List Int) := iteC (-4611686018427387904 ≤ i ∧ i < 4611686018427387904 ∧ -4611686018427387904 ≤ j ∧ j < 4611686018427387904) (.ok (irange i (j - i).toNat)) .bad
theorem irange_enc (lo : Int) (n : Nat) : (irange lo n).map (Ty.enc .z) = rngD lo n := by
  unfold irange rngD
  rw [List.map_map]; rfl
theorem i_rng1 {x : Res (List Int)} {ms : En → Res (List D)} (h : KR (mpl .z) L x ms KR1) : VR (mpl .z) L x (mRng1 ms) := kr_of h
theorem i_rng2 {x : Res (List Int)} {ms : En → Res (List D)} (h : KR (mpl .z) L x ms KR2) : VR (mpl .z) L x (mRng2 ms) := kr_of h
theorem rng1_fin (j : Int) : Rx (mpl .z) (rng1T j) (KR1 [Ty.enc .z j]) := by
  show Rx _ _ (.ofO (if -4611686018427387904 ≤ j ∧ j < 4611686018427387904 then some (rngD 0 j.toNat) else none))
  unfold rng1T
  rw [iteC_eq]
  split
  · exact congrArg Res.ok (irange_enc _ _).symm
  · trivial
theorem rng2_fin (i j : Int) : Rx (mpl .z) (rng2T i j) (KR2 [Ty.enc .z i, Ty.enc .z j]) := by
  show Rx _ _ (.ofO (if -4611686018427387904 ≤ i ∧ i < 4611686018427387904 ∧ -4611686018427387904 ≤ j ∧ j < 4611686018427387904 then some (rngD i (j - i).toNat) else none))
  unfold rng2T
  rw [iteC_eq]
  split
  · exact congrArg Res.ok (irange_enc _ _).symm
  · trivial
theorem i_zip {x : Res (List (t.T × u.T))} {ms : En → Res (List D)} (h : KR (mpl (.fx (.pr t u))) L x ms KZ) : VR (mpl (.fx (.pr t u))) L x (mZip ms) := kr_of h
theorem zip_map (hu : ∀ b : u.T, u.encA b = [u.enc b]) : ∀ (a : List t.T) (b : List u.T), (List.zip a b).map (Ty.enc (.fx (.pr t u))) = zipD (a.map t.enc) (b.map u.enc)
  | [], _ => rfl
  | _ :: _, [] => rfl
  | x :: a, y :: b => by
    show _ :: _ = _ :: _
    congr 1
    · show D.tup (t.enc x :: u.encA y) = _
      rw [hu]
    · exact zip_map hu a b
theorem zip_finL (hu : ∀ b : u.T, u.encA b = [u.enc b]) (a : List t.T) (b : List u.T) : Rx (mpl (.fx (.pr t u))) (.ok (List.zip a b)) (KZ [Ty.enc (.lst t) a, Ty.enc (.lst u) b]) := by
  show Res.ofO (some (zipD (a.map t.enc) (b.map u.enc))) = .ok _
  rw [← zip_map hu]; rfl
theorem zip_finT (hu : ∀ b : u.T, u.encA b = [u.enc b]) (a : List t.T) (b : List u.T) : Rx (mpl (.fx (.pr t u))) (.ok (List.zip a b)) (KZ [Ty.enc (.tup t) a, Ty.enc (.tup u) b]) := by
  show Res.ofO (some (zipD (a.map t.enc) (b.map u.enc))) = .ok _
  rw [← zip_map hu]; rfl
/-! ## comprehensions -/
noncomputable def compT {α β : Type} (c : α → Res Bool) (f : α → Res β) : List α → List β → Res (List β)
  | [], acc => .ok acc
  | a :: as, acc => match c a with
    | .ok true => match f a with
      | .ok b => iteC (acc.length < 16777215) (compT c f as (acc ++ [b])) .bad
      | _ => .bad
    | .ok false => compT c f as acc
    | _ => .bad
def wipeL (L : List Spt) : List Nat → List Spt
  | [] => L
  | v :: vs => (wipeL L vs).set v .any
theorem wipe_mat : ∀ {is : List Nat} {ρ : En}, Mat L ρ → Mat (wipeL L is) (wipeE ρ is)
  | [], _, h => h
  | _ :: _, _, h => (wipe_mat h).set _ trivial
theorem comp_ok {bt : D → En → Option En} {P : t.T → List Spt → List Spt} {c : t.T → Res Bool} {f : t.T → Res u.T} {mt : En → Res Bool} {me : En → Res D} {L' : List Spt} {ρ : En} (M : Mat L' ρ) (hg : TG t bt P) (hc : ∀ a, VR id (P a L') (c a) mt) (hf : ∀ a, VR u.enc (P a L') (f a) me) :
    ∀ (xs : List t.T) (acc : List u.T), Rx (cnl u) (compT c f xs acc) (compL bt mt me ρ (xs.map t.enc) (acc.map u.enc))
  | [], acc => rfl
  | a :: as, acc => by
    obtain ⟨ρ1, h1, h2⟩ := hg a ρ L' M
    have c1 := hc a ρ1 h2
    have f1 := hf a ρ1 h2
    show Rx _ _ (compL bt mt me ρ (t.enc a :: as.map t.enc) (acc.map u.enc))
    unfold compT compL
    simp only [iteC_eq]
    rw [h1]
    cases qc : c a with
    | bad => trivial
    | er e => trivial
    | ok k =>
      rw [qc] at c1
      have c1 : mt ρ1 = .ok k := c1
      simp only [c1]
      cases k with
      | false => exact comp_ok M hg hc hf as acc
      | true =>
        cases qf : f a with
        | bad => trivial
        | er e => trivial
        | ok b =>
          rw [qf] at f1
          have f1 : me ρ1 = .ok (u.enc b) := f1
          simp only [f1, List.length_map]
          split
          · have := comp_ok M hg hc hf as (acc ++ [b])
            rw [List.map_append] at this
            exact this
          · trivial
theorem v_lc {own : List Nat} {bt : D → En → Option En} {P : t.T → List Spt → List Spt} {x : Res (List t.T)} {mi : En → Res (List D)} {c : t.T → Res Bool} {f : t.T → Res u.T} {mt : En → Res Bool} {me : En → Res D} (hi : VR (mpl t) L x mi) (hg : TG t bt P) (hc : ∀ a, VR id (P a (wipeL L own)) (c a) mt) (hf : ∀ a, VR u.enc (P a (wipeL L own)) (f a) me) :
    VR (cnl u) L (x.bind fun xs => compT c f xs []) (mLc bt own mi mt me) := fun ρ M => rx_bind (hi ρ M) fun xs => comp_ok (wipe_mat M) hg hc hf xs []
theorem v_lcP {own : List Nat} {bt : D → En → Option En} {P : t.T → List Spt → List Spt} {xs : List t.T} {mi : En → Res (List D)} {c : t.T → Res Bool} {f : t.T → Res u.T} {mt : En → Res Bool} {me : En → Res D} (hi : VR (mpl t) L (.ok xs) mi) (hg : TG t bt P) (hc : ∀ a, VR id (P a (wipeL L own)) (c a) mt) (hf : ∀ a, VR u.enc (P a (wipeL L own)) (f a) me) :
    VR (cnl u) L (compT c f xs []) (mLc bt own mi mt me) := v_lc hi hg hc hf
theorem b_yes : VR id L (.ok true) mYes := fun ρ M => rfl
theorem compT_map (f : α → β) : ∀ (xs : List α) (acc : List β), acc.length + xs.length < 16777216 → compT (fun _ => .ok true) (fun a => .ok (f a)) xs acc = .ok (acc ++ xs.map f)
  | [], acc, _ => by simp [compT]
  | x :: xs, acc, h => by
    rw [List.length_cons] at h
    unfold compT
    simp only
    rw [iteC_pos (by omega), compT_map f xs _ (by simp; omega)]
    simp
theorem compT_filter (c : α → Bool) (f : α → β) : ∀ (xs : List α) (acc : List β), acc.length + xs.length < 16777216 → compT (fun a => .ok (c a)) (fun a => .ok (f a)) xs acc = .ok (acc ++ (xs.filter c).map f)
  | [], acc, _ => by simp [compT]
  | x :: xs, acc, h => by
    rw [List.length_cons] at h
    unfold compT
    cases q : c x with
    | true =>
      simp only
      rw [iteC_pos (by omega), compT_filter c f xs _ (by simp; omega), List.filter_cons, if_pos q]
      simp
    | false =>
      simp only
      rw [compT_filter c f xs _ (by omega), List.filter_cons, if_neg (by simp [q])]
/-- a comprehension whose parts are told item by item -/
theorem compT_of (c : α → Res Bool) (f : α → Res β) (c' : α → Bool) (f' : α → β) : ∀ (xs : List α) (acc : List β), acc.length + xs.length < 16777216 → (∀ a ∈ xs, c a = .ok (c' a)) → (∀ a ∈ xs, c' a = true → f a = .ok (f' a)) → compT c f xs acc = .ok (acc ++ (xs.filter c').map f')
  | [], acc, _, _, _ => by simp [compT]
  | x :: xs, acc, h, hc, hf => by
    rw [List.length_cons] at h
    unfold compT
    rw [hc x (by simp)]
    cases q : c' x with
    | true =>
      rw [hf x (by simp) q]
      simp only
      rw [iteC_pos (by omega), compT_of c f c' f' xs _ (by simp; omega) (fun a ha => hc a (by simp [ha])) (fun a ha => hf a (by simp [ha])), List.filter_cons, if_pos q]
      simp
    | false =>
      simp only
      rw [compT_of c f c' f' xs _ (by omega) (fun a ha => hc a (by simp [ha])) (fun a ha => hf a (by simp [ha])), List.filter_cons, if_neg (by simp [q])]
/-- the same without a test -/
theorem compT_all {f : α → Res β} (f' : α → β) {xs : List α} (h : xs.length < 16777216) (hf : ∀ a ∈ xs, f a = .ok (f' a)) : compT (fun _ => .ok true) f xs [] = .ok (xs.map f') := by
  have := compT_of (fun _ => .ok true) f (fun _ => true) f' xs [] (by simpa using h) (fun _ _ => rfl) (fun a ha _ => hf a ha)
  rw [this, List.filter_eq_self.mpr (fun _ _ => rfl)]
  simp
theorem compT_flt {c : α → Res Bool} {f : α → Res β} (c' : α → Bool) (f' : α → β) {xs : List α} (h : xs.length < 16777216) (hc : ∀ a ∈ xs, c a = .ok (c' a)) (hf : ∀ a ∈ xs, c' a = true → f a = .ok (f' a)) : compT c f xs [] = .ok ((xs.filter c').map f') := by
  have := compT_of c f c' f' xs [] (by simpa using h) hc hf
  rw [this]
  simp
end
end FL
namespace FL
open PySem L2
/-! ## operations -/
noncomputable def mulT (i j : Int) : Res Int := iteC (okMul i j = true) (.ok (i * j)) .bad
noncomputable def divT (i j : Int) : Res Int := iteC (okDiv i j = true) (.ok (i.fdiv j)) .bad
noncomputable def modT (i j : Int) : Res Int := iteC (j ≠ 0) (.ok (i.fmod j)) .bad
noncomputable def powT (i j : Int) : Res Int := iteC (okPow i j = true) (.ok (i ^ j.toNat)) .bad
noncomputable def shlT (i j : Int) : Res Int := iteC (okPow i j = true) (.ok (i * 2 ^ j.toNat)) .bad
noncomputable def shrT (i j : Int) : Res Int := iteC (0 ≤ j) (.ok (i / 2 ^ j.toNat)) .bad
def ixT {α : Type} (xs : List α) (i : Int) : Res α := .ofO (atI xs i)
noncomputable def catT {α : Type} (xs ys : List α) : Res (List α) := iteC (xs.length + ys.length < 16777216) (.ok (xs ++ ys)) .bad
noncomputable def appT {α : Type} (xs : List α) (a : α) : Res (List α) := iteC (xs.length < 16777215) (.ok (xs ++ [a])) .bad
noncomputable def insT {α : Type} (xs : List α) (k : Int) (a : α) : Res (List α) := iteC (xs.length < 16777215 ∧ 0 ≤ k ∧ k < 9223372036854775808) (.ok (xs.take k.toNat ++ [a] ++ xs.drop k.toNat)) .bad
def setT {α : Type} (xs : List α) (k : Int) (a : α) : Res (List α) := match ixN xs.length k with
  | some j => .ok (xs.set j a)
  | none => .bad
def cutT {α : Type} (xs : List α) (lo hi : Option Int) : List α := (xs.drop (HT.sIx xs.length 0 lo)).take (HT.sIx xs.length xs.length hi - HT.sIx xs.length 0 lo)
def minT (xs : List Int) : Res Int := .ofO (minI xs)
def maxT (xs : List Int) : Res Int := .ofO (maxI xs)
noncomputable def strT (a b : Str) : Res Bool := iteC ((PyData.strOk a && PyData.strOk b) = true) (.ok (decide (a = b))) .bad
noncomputable def repLT {α : Type} (xs : List α) (k : Int) : Res (List α) := iteC ((decide (-1000 ≤ k) && decide (k ≤ 1000) && decide (xs.length ≤ 1000)) = true) (.ok (List.flatten (List.replicate k.toNat xs))) .bad
noncomputable def repTT {α : Type} (xs : List α) (k : Int) : Res (List α) := iteC ((decide (-1000 ≤ k) && decide (k ≤ 1000) && decide (xs.length ≤ 1000) && !xs.isEmpty) = true) (.ok (List.flatten (List.replicate k.toNat xs))) .bad
noncomputable def sortT (ls : List (List Int)) : Res (List (List Int)) := iteC ((ls.all fun l => decide (l.length ≤ 1000)) = true) (.ok (srtL ls)) .bad
theorem rx_if {α β : Type} {f : α → β} {c : Bool} {a : α} {b : β} (h : b = f a) : Rx f (iteC (c = true) (.ok a) .bad) (Res.ofO (if c then some b else none)) := by
  rw [iteC_eq]
  cases c
  · trivial
  · show Res.ok b = .ok (f a); rw [h]
theorem rx_ifP {α β : Type} {f : α → β} {c : Prop} [Decidable c] {a : α} {b : β} (h : b = f a) : Rx f (iteC c (.ok a) .bad) (Res.ofO (if c then some b else none)) := by
  rw [iteC_eq]
  by_cases q : c
  · rw [if_pos q, if_pos q]; show Res.ok b = .ok (f a); rw [h]
  · rw [if_neg q, if_neg q]; trivial
section
variable {α β γ δ σ R : Type} {L : List Spt} {t u v : Ty}
theorem rx_ofo {f : α → β} {x : Option α} : Rx f (Res.ofO x) (.ofO (x.map f)) := by
  cases x
  · trivial
  · rfl
theorem v_addP  {a : Ty.T .z} {b : Ty.T .z} {m n : En → Res D} (h : VR (Ty.enc .z) L (.ok a) m) (h2 : VR (Ty.enc .z) L (.ok b) n) : VR (Ty.enc .z) L (.ok ((a + b : Int))) (mOp2 fAdd m n) := v_op2 (t := .z) (u := .z) (v := .z) (F := fAdd) (g := fun a b => .ok ((a + b : Int))) (fun a b => rfl) h h2
theorem v_add  {x : Res (Ty.T .z)} {y : Res (Ty.T .z)} {m n : En → Res D} (h : VR (Ty.enc .z) L x m) (h2 : VR (Ty.enc .z) L y n) : VR (Ty.enc .z) L (x.bind fun a => y.bind fun b => .ok ((a + b : Int))) (mOp2 fAdd m n) := v_op2 (t := .z) (u := .z) (v := .z) (F := fAdd) (g := fun a b => .ok ((a + b : Int))) (fun a b => rfl) h h2
theorem v_subP  {a : Ty.T .z} {b : Ty.T .z} {m n : En → Res D} (h : VR (Ty.enc .z) L (.ok a) m) (h2 : VR (Ty.enc .z) L (.ok b) n) : VR (Ty.enc .z) L (.ok ((a - b : Int))) (mOp2 fSub m n) := v_op2 (t := .z) (u := .z) (v := .z) (F := fSub) (g := fun a b => .ok ((a - b : Int))) (fun a b => rfl) h h2
theorem v_sub  {x : Res (Ty.T .z)} {y : Res (Ty.T .z)} {m n : En → Res D} (h : VR (Ty.enc .z) L x m) (h2 : VR (Ty.enc .z) L y n) : VR (Ty.enc .z) L (x.bind fun a => y.bind fun b => .ok ((a - b : Int))) (mOp2 fSub m n) := v_op2 (t := .z) (u := .z) (v := .z) (F := fSub) (g := fun a b => .ok ((a - b : Int))) (fun a b => rfl) h h2
theorem v_ltP  {a : Ty.T .z} {b : Ty.T .z} {m n : En → Res D} (h : VR (Ty.enc .z) L (.ok a) m) (h2 : VR (Ty.enc .z) L (.ok b) n) : VR (Ty.enc .b) L (.ok (decide ((a : Int) < b))) (mOp2 fLt m n) := v_op2 (t := .z) (u := .z) (v := .b) (F := fLt) (g := fun a b => .ok (decide ((a : Int) < b))) (fun a b => rfl) h h2
theorem v_lt  {x : Res (Ty.T .z)} {y : Res (Ty.T .z)} {m n : En → Res D} (h : VR (Ty.enc .z) L x m) (h2 : VR (Ty.enc .z) L y n) : VR (Ty.enc .b) L (x.bind fun a => y.bind fun b => .ok (decide ((a : Int) < b))) (mOp2 fLt m n) := v_op2 (t := .z) (u := .z) (v := .b) (F := fLt) (g := fun a b => .ok (decide ((a : Int) < b))) (fun a b => rfl) h h2
theorem v_leP  {a : Ty.T .z} {b : Ty.T .z} {m n : En → Res D} (h : VR (Ty.enc .z) L (.ok a) m) (h2 : VR (Ty.enc .z) L (.ok b) n) : VR (Ty.enc .b) L (.ok (decide ((a : Int) ≤ b))) (mOp2 fLe m n) := v_op2 (t := .z) (u := .z) (v := .b) (F := fLe) (g := fun a b => .ok (decide ((a : Int) ≤ b))) (fun a b => rfl) h h2
theorem v_le  {x : Res (Ty.T .z)} {y : Res (Ty.T .z)} {m n : En → Res D} (h : VR (Ty.enc .z) L x m) (h2 : VR (Ty.enc .z) L y n) : VR (Ty.enc .b) L (x.bind fun a => y.bind fun b => .ok (decide ((a : Int) ≤ b))) (mOp2 fLe m n) := v_op2 (t := .z) (u := .z) (v := .b) (F := fLe) (g := fun a b => .ok (decide ((a : Int) ≤ b))) (fun a b => rfl) h h2
theorem v_gtP  {a : Ty.T .z} {b : Ty.T .z} {m n : En → Res D} (h : VR (Ty.enc .z) L (.ok a) m) (h2 : VR (Ty.enc .z) L (.ok b) n) : VR (Ty.enc .b) L (.ok (decide ((b : Int) < a))) (mOp2 fGt m n) := v_op2 (t := .z) (u := .z) (v := .b) (F := fGt) (g := fun a b => .ok (decide ((b : Int) < a))) (fun a b => rfl) h h2
theorem v_gt  {x : Res (Ty.T .z)} {y : Res (Ty.T .z)} {m n : En → Res D} (h : VR (Ty.enc .z) L x m) (h2 : VR (Ty.enc .z) L y n) : VR (Ty.enc .b) L (x.bind fun a => y.bind fun b => .ok (decide ((b : Int) < a))) (mOp2 fGt m n) := v_op2 (t := .z) (u := .z) (v := .b) (F := fGt) (g := fun a b => .ok (decide ((b : Int) < a))) (fun a b => rfl) h h2
theorem v_geP  {a : Ty.T .z} {b : Ty.T .z} {m n : En → Res D} (h : VR (Ty.enc .z) L (.ok a) m) (h2 : VR (Ty.enc .z) L (.ok b) n) : VR (Ty.enc .b) L (.ok (decide ((b : Int) ≤ a))) (mOp2 fGe m n) := v_op2 (t := .z) (u := .z) (v := .b) (F := fGe) (g := fun a b => .ok (decide ((b : Int) ≤ a))) (fun a b => rfl) h h2
theorem v_ge  {x : Res (Ty.T .z)} {y : Res (Ty.T .z)} {m n : En → Res D} (h : VR (Ty.enc .z) L x m) (h2 : VR (Ty.enc .z) L y n) : VR (Ty.enc .b) L (x.bind fun a => y.bind fun b => .ok (decide ((b : Int) ≤ a))) (mOp2 fGe m n) := v_op2 (t := .z) (u := .z) (v := .b) (F := fGe) (g := fun a b => .ok (decide ((b : Int) ≤ a))) (fun a b => rfl) h h2
theorem v_and2P  {a : Ty.T .z} {b : Ty.T .z} {m n : En → Res D} (h : VR (Ty.enc .z) L (.ok a) m) (h2 : VR (Ty.enc .z) L (.ok b) n) : VR (Ty.enc .z) L (.ok (Builtin.bitAnd a b)) (mOp2 fAnd m n) := v_op2 (t := .z) (u := .z) (v := .z) (F := fAnd) (g := fun a b => .ok (Builtin.bitAnd a b)) (fun a b => rfl) h h2
theorem v_and2  {x : Res (Ty.T .z)} {y : Res (Ty.T .z)} {m n : En → Res D} (h : VR (Ty.enc .z) L x m) (h2 : VR (Ty.enc .z) L y n) : VR (Ty.enc .z) L (x.bind fun a => y.bind fun b => .ok (Builtin.bitAnd a b)) (mOp2 fAnd m n) := v_op2 (t := .z) (u := .z) (v := .z) (F := fAnd) (g := fun a b => .ok (Builtin.bitAnd a b)) (fun a b => rfl) h h2
theorem v_or2P  {a : Ty.T .z} {b : Ty.T .z} {m n : En → Res D} (h : VR (Ty.enc .z) L (.ok a) m) (h2 : VR (Ty.enc .z) L (.ok b) n) : VR (Ty.enc .z) L (.ok (Builtin.bitOr a b)) (mOp2 fOr m n) := v_op2 (t := .z) (u := .z) (v := .z) (F := fOr) (g := fun a b => .ok (Builtin.bitOr a b)) (fun a b => rfl) h h2
theorem v_or2  {x : Res (Ty.T .z)} {y : Res (Ty.T .z)} {m n : En → Res D} (h : VR (Ty.enc .z) L x m) (h2 : VR (Ty.enc .z) L y n) : VR (Ty.enc .z) L (x.bind fun a => y.bind fun b => .ok (Builtin.bitOr a b)) (mOp2 fOr m n) := v_op2 (t := .z) (u := .z) (v := .z) (F := fOr) (g := fun a b => .ok (Builtin.bitOr a b)) (fun a b => rfl) h h2
theorem v_xor2P  {a : Ty.T .z} {b : Ty.T .z} {m n : En → Res D} (h : VR (Ty.enc .z) L (.ok a) m) (h2 : VR (Ty.enc .z) L (.ok b) n) : VR (Ty.enc .z) L (.ok (Builtin.bitXor a b)) (mOp2 fXor m n) := v_op2 (t := .z) (u := .z) (v := .z) (F := fXor) (g := fun a b => .ok (Builtin.bitXor a b)) (fun a b => rfl) h h2
theorem v_xor2  {x : Res (Ty.T .z)} {y : Res (Ty.T .z)} {m n : En → Res D} (h : VR (Ty.enc .z) L x m) (h2 : VR (Ty.enc .z) L y n) : VR (Ty.enc .z) L (x.bind fun a => y.bind fun b => .ok (Builtin.bitXor a b)) (mOp2 fXor m n) := v_op2 (t := .z) (u := .z) (v := .z) (F := fXor) (g := fun a b => .ok (Builtin.bitXor a b)) (fun a b => rfl) h h2
theorem v_mulP  {a : Ty.T .z} {b : Ty.T .z} {m n : En → Res D} (h : VR (Ty.enc .z) L (.ok a) m) (h2 : VR (Ty.enc .z) L (.ok b) n) : VR (Ty.enc .z) L (mulT a b) (mOp2 fMul m n) := v_op2 (t := .z) (u := .z) (v := .z) (F := fMul) (g := fun a b => mulT a b) (fun a b => by exact rx_if rfl) h h2
theorem v_mul  {x : Res (Ty.T .z)} {y : Res (Ty.T .z)} {m n : En → Res D} (h : VR (Ty.enc .z) L x m) (h2 : VR (Ty.enc .z) L y n) : VR (Ty.enc .z) L (x.bind fun a => y.bind fun b => mulT a b) (mOp2 fMul m n) := v_op2 (t := .z) (u := .z) (v := .z) (F := fMul) (g := fun a b => mulT a b) (fun a b => by exact rx_if rfl) h h2
theorem v_divP  {a : Ty.T .z} {b : Ty.T .z} {m n : En → Res D} (h : VR (Ty.enc .z) L (.ok a) m) (h2 : VR (Ty.enc .z) L (.ok b) n) : VR (Ty.enc .z) L (divT a b) (mOp2 fFdiv m n) := v_op2 (t := .z) (u := .z) (v := .z) (F := fFdiv) (g := fun a b => divT a b) (fun a b => by exact rx_if rfl) h h2
theorem v_div  {x : Res (Ty.T .z)} {y : Res (Ty.T .z)} {m n : En → Res D} (h : VR (Ty.enc .z) L x m) (h2 : VR (Ty.enc .z) L y n) : VR (Ty.enc .z) L (x.bind fun a => y.bind fun b => divT a b) (mOp2 fFdiv m n) := v_op2 (t := .z) (u := .z) (v := .z) (F := fFdiv) (g := fun a b => divT a b) (fun a b => by exact rx_if rfl) h h2
theorem v_modP  {a : Ty.T .z} {b : Ty.T .z} {m n : En → Res D} (h : VR (Ty.enc .z) L (.ok a) m) (h2 : VR (Ty.enc .z) L (.ok b) n) : VR (Ty.enc .z) L (modT a b) (mOp2 fMod m n) := v_op2 (t := .z) (u := .z) (v := .z) (F := fMod) (g := fun a b => modT a b) (fun a b => by exact rx_ifP rfl) h h2
theorem v_mod  {x : Res (Ty.T .z)} {y : Res (Ty.T .z)} {m n : En → Res D} (h : VR (Ty.enc .z) L x m) (h2 : VR (Ty.enc .z) L y n) : VR (Ty.enc .z) L (x.bind fun a => y.bind fun b => modT a b) (mOp2 fMod m n) := v_op2 (t := .z) (u := .z) (v := .z) (F := fMod) (g := fun a b => modT a b) (fun a b => by exact rx_ifP rfl) h h2
theorem v_powP  {a : Ty.T .z} {b : Ty.T .z} {m n : En → Res D} (h : VR (Ty.enc .z) L (.ok a) m) (h2 : VR (Ty.enc .z) L (.ok b) n) : VR (Ty.enc .z) L (powT a b) (mOp2 fPow m n) := v_op2 (t := .z) (u := .z) (v := .z) (F := fPow) (g := fun a b => powT a b) (fun a b => by exact rx_if rfl) h h2
theorem v_pow  {x : Res (Ty.T .z)} {y : Res (Ty.T .z)} {m n : En → Res D} (h : VR (Ty.enc .z) L x m) (h2 : VR (Ty.enc .z) L y n) : VR (Ty.enc .z) L (x.bind fun a => y.bind fun b => powT a b) (mOp2 fPow m n) := v_op2 (t := .z) (u := .z) (v := .z) (F := fPow) (g := fun a b => powT a b) (fun a b => by exact rx_if rfl) h h2
theorem v_shlP  {a : Ty.T .z} {b : Ty.T .z} {m n : En → Res D} (h : VR (Ty.enc .z) L (.ok a) m) (h2 : VR (Ty.enc .z) L (.ok b) n) : VR (Ty.enc .z) L (shlT a b) (mOp2 fShl m n) := v_op2 (t := .z) (u := .z) (v := .z) (F := fShl) (g := fun a b => shlT a b) (fun a b => by exact rx_if rfl) h h2
theorem v_shl  {x : Res (Ty.T .z)} {y : Res (Ty.T .z)} {m n : En → Res D} (h : VR (Ty.enc .z) L x m) (h2 : VR (Ty.enc .z) L y n) : VR (Ty.enc .z) L (x.bind fun a => y.bind fun b => shlT a b) (mOp2 fShl m n) := v_op2 (t := .z) (u := .z) (v := .z) (F := fShl) (g := fun a b => shlT a b) (fun a b => by exact rx_if rfl) h h2
theorem v_shrP  {a : Ty.T .z} {b : Ty.T .z} {m n : En → Res D} (h : VR (Ty.enc .z) L (.ok a) m) (h2 : VR (Ty.enc .z) L (.ok b) n) : VR (Ty.enc .z) L (shrT a b) (mOp2 fShr m n) := v_op2 (t := .z) (u := .z) (v := .z) (F := fShr) (g := fun a b => shrT a b) (fun a b => by exact rx_ifP rfl) h h2
theorem v_shr  {x : Res (Ty.T .z)} {y : Res (Ty.T .z)} {m n : En → Res D} (h : VR (Ty.enc .z) L x m) (h2 : VR (Ty.enc .z) L y n) : VR (Ty.enc .z) L (x.bind fun a => y.bind fun b => shrT a b) (mOp2 fShr m n) := v_op2 (t := .z) (u := .z) (v := .z) (F := fShr) (g := fun a b => shrT a b) (fun a b => by exact rx_ifP rfl) h h2
theorem cat_l (a b : List t.T) : Rx (Ty.enc (.lst t)) (catT a b) (.ofO (fAdd (Ty.enc (.lst t) a) (Ty.enc (.lst t) b))) := by
  show Rx _ (catT a b) (Res.ofO (if (a.map t.enc).length + (b.map t.enc).length < 16777216 then some (D.lst (a.map t.enc ++ b.map t.enc)) else none))
  rw [List.length_map, List.length_map]
  exact rx_ifP (by rw [enc_lst, List.map_append])
theorem cat_t (a b : List t.T) : Rx (Ty.enc (.tup t)) (catT a b) (.ofO (fAdd (Ty.enc (.tup t) a) (Ty.enc (.tup t) b))) := by
  show Rx _ (catT a b) (Res.ofO (if (a.map t.enc).length + (b.map t.enc).length < 16777216 then some (D.tup (a.map t.enc ++ b.map t.enc)) else none))
  rw [List.length_map, List.length_map]
  exact rx_ifP (by rw [enc_tup, List.map_append])
theorem ix_l (a : List t.T) (i : Int) : Rx t.enc (ixT a i) (.ofO (fIx (Ty.enc (.lst t) a) (Ty.enc .z i))) := by
  show Rx _ (ixT a i) (Res.ofO (atI (a.map t.enc) i))
  rw [atI_map]; exact rx_ofo
theorem ix_t (a : List t.T) (i : Int) : Rx t.enc (ixT a i) (.ofO (fIx (Ty.enc (.tup t) a) (Ty.enc .z i))) := by
  show Rx _ (ixT a i) (Res.ofO (atI (a.map t.enc) i))
  rw [atI_map]; exact rx_ofo
theorem ix_s (a : List Int) (i : Int) : Rx (Ty.enc .z) (ixT a i) (.ofO (fIx (Ty.enc .scr a) (Ty.enc .z i))) := by
  show Rx _ (ixT a i) (Res.ofO ((atI a i).map D.int))
  exact rx_ofo
theorem fl_rep (a : List t.T) : ∀ n : Nat, ((List.replicate n a).flatten).map t.enc = (List.replicate n (a.map t.enc)).flatten
  | 0 => rfl
  | n + 1 => by rw [List.replicate_succ, List.replicate_succ, List.flatten_cons, List.flatten_cons, List.map_append, fl_rep a n]
theorem rep_l (a : List t.T) (k : Int) : Rx (Ty.enc (.lst t)) (repLT a k) (.ofO (fMul (Ty.enc (.lst t) a) (Ty.enc .z k))) := by
  show Rx _ (repLT a k) (Res.ofO (if decide (-1000 ≤ k) && decide (k ≤ 1000) && decide ((a.map t.enc).length ≤ 1000) then some (D.lst (repD (a.map t.enc) k)) else none))
  rw [List.length_map]
  refine rx_if ?_
  rw [enc_lst, fl_rep]; rfl
theorem rep_t (a : List t.T) (k : Int) : Rx (Ty.enc (.tup t)) (repTT a k) (.ofO (fMul (Ty.enc (.tup t) a) (Ty.enc .z k))) := by
  show Rx _ (repTT a k) (Res.ofO (if decide (-1000 ≤ k) && decide (k ≤ 1000) && decide ((a.map t.enc).length ≤ 1000) && !(a.map t.enc).isEmpty then some (D.tup (repD (a.map t.enc) k)) else none))
  have : (a.map t.enc).isEmpty = a.isEmpty := by cases a <;> rfl
  rw [List.length_map, this]
  refine rx_if ?_
  rw [enc_tup, fl_rep]; rfl
theorem v_catLP  {a : Ty.T (.lst t)} {b : Ty.T (.lst t)} {m n : En → Res D} (h : VR (Ty.enc (.lst t)) L (.ok a) m) (h2 : VR (Ty.enc (.lst t)) L (.ok b) n) : VR (Ty.enc (.lst t)) L (catT a b) (mOp2 fAdd m n) := v_op2 (t := (.lst t)) (u := (.lst t)) (v := (.lst t)) (F := fAdd) (g := fun a b => catT a b) (fun a b => cat_l a b) h h2
theorem v_catL  {x : Res (Ty.T (.lst t))} {y : Res (Ty.T (.lst t))} {m n : En → Res D} (h : VR (Ty.enc (.lst t)) L x m) (h2 : VR (Ty.enc (.lst t)) L y n) : VR (Ty.enc (.lst t)) L (x.bind fun a => y.bind fun b => catT a b) (mOp2 fAdd m n) := v_op2 (t := (.lst t)) (u := (.lst t)) (v := (.lst t)) (F := fAdd) (g := fun a b => catT a b) (fun a b => cat_l a b) h h2
theorem v_catTP  {a : Ty.T (.tup t)} {b : Ty.T (.tup t)} {m n : En → Res D} (h : VR (Ty.enc (.tup t)) L (.ok a) m) (h2 : VR (Ty.enc (.tup t)) L (.ok b) n) : VR (Ty.enc (.tup t)) L (catT a b) (mOp2 fAdd m n) := v_op2 (t := (.tup t)) (u := (.tup t)) (v := (.tup t)) (F := fAdd) (g := fun a b => catT a b) (fun a b => cat_t a b) h h2
theorem v_catT  {x : Res (Ty.T (.tup t))} {y : Res (Ty.T (.tup t))} {m n : En → Res D} (h : VR (Ty.enc (.tup t)) L x m) (h2 : VR (Ty.enc (.tup t)) L y n) : VR (Ty.enc (.tup t)) L (x.bind fun a => y.bind fun b => catT a b) (mOp2 fAdd m n) := v_op2 (t := (.tup t)) (u := (.tup t)) (v := (.tup t)) (F := fAdd) (g := fun a b => catT a b) (fun a b => cat_t a b) h h2
theorem v_ixLP  {a : Ty.T (.lst t)} {b : Ty.T .z} {m n : En → Res D} (h : VR (Ty.enc (.lst t)) L (.ok a) m) (h2 : VR (Ty.enc .z) L (.ok b) n) : VR (Ty.enc t) L (ixT a b) (mOp2 fIx m n) := v_op2 (t := (.lst t)) (u := .z) (v := t) (F := fIx) (g := fun a b => ixT a b) (fun a b => ix_l a b) h h2
theorem v_ixL  {x : Res (Ty.T (.lst t))} {y : Res (Ty.T .z)} {m n : En → Res D} (h : VR (Ty.enc (.lst t)) L x m) (h2 : VR (Ty.enc .z) L y n) : VR (Ty.enc t) L (x.bind fun a => y.bind fun b => ixT a b) (mOp2 fIx m n) := v_op2 (t := (.lst t)) (u := .z) (v := t) (F := fIx) (g := fun a b => ixT a b) (fun a b => ix_l a b) h h2
theorem v_ixTP  {a : Ty.T (.tup t)} {b : Ty.T .z} {m n : En → Res D} (h : VR (Ty.enc (.tup t)) L (.ok a) m) (h2 : VR (Ty.enc .z) L (.ok b) n) : VR (Ty.enc t) L (ixT a b) (mOp2 fIx m n) := v_op2 (t := (.tup t)) (u := .z) (v := t) (F := fIx) (g := fun a b => ixT a b) (fun a b => ix_t a b) h h2
theorem v_ixT  {x : Res (Ty.T (.tup t))} {y : Res (Ty.T .z)} {m n : En → Res D} (h : VR (Ty.enc (.tup t)) L x m) (h2 : VR (Ty.enc .z) L y n) : VR (Ty.enc t) L (x.bind fun a => y.bind fun b => ixT a b) (mOp2 fIx m n) := v_op2 (t := (.tup t)) (u := .z) (v := t) (F := fIx) (g := fun a b => ixT a b) (fun a b => ix_t a b) h h2
theorem v_ixSP  {a : Ty.T .scr} {b : Ty.T .z} {m n : En → Res D} (h : VR (Ty.enc .scr) L (.ok a) m) (h2 : VR (Ty.enc .z) L (.ok b) n) : VR (Ty.enc .z) L (ixT a b) (mOp2 fIx m n) := v_op2 (t := .scr) (u := .z) (v := .z) (F := fIx) (g := fun a b => ixT a b) (fun a b => ix_s a b) h h2
theorem v_ixS  {x : Res (Ty.T .scr)} {y : Res (Ty.T .z)} {m n : En → Res D} (h : VR (Ty.enc .scr) L x m) (h2 : VR (Ty.enc .z) L y n) : VR (Ty.enc .z) L (x.bind fun a => y.bind fun b => ixT a b) (mOp2 fIx m n) := v_op2 (t := .scr) (u := .z) (v := .z) (F := fIx) (g := fun a b => ixT a b) (fun a b => ix_s a b) h h2
theorem v_repLP  {a : Ty.T (.lst t)} {b : Ty.T .z} {m n : En → Res D} (h : VR (Ty.enc (.lst t)) L (.ok a) m) (h2 : VR (Ty.enc .z) L (.ok b) n) : VR (Ty.enc (.lst t)) L (repLT a b) (mOp2 fMul m n) := v_op2 (t := (.lst t)) (u := .z) (v := (.lst t)) (F := fMul) (g := fun a b => repLT a b) (fun a b => rep_l a b) h h2
theorem v_repL  {x : Res (Ty.T (.lst t))} {y : Res (Ty.T .z)} {m n : En → Res D} (h : VR (Ty.enc (.lst t)) L x m) (h2 : VR (Ty.enc .z) L y n) : VR (Ty.enc (.lst t)) L (x.bind fun a => y.bind fun b => repLT a b) (mOp2 fMul m n) := v_op2 (t := (.lst t)) (u := .z) (v := (.lst t)) (F := fMul) (g := fun a b => repLT a b) (fun a b => rep_l a b) h h2
theorem v_repTP  {a : Ty.T (.tup t)} {b : Ty.T .z} {m n : En → Res D} (h : VR (Ty.enc (.tup t)) L (.ok a) m) (h2 : VR (Ty.enc .z) L (.ok b) n) : VR (Ty.enc (.tup t)) L (repTT a b) (mOp2 fMul m n) := v_op2 (t := (.tup t)) (u := .z) (v := (.tup t)) (F := fMul) (g := fun a b => repTT a b) (fun a b => rep_t a b) h h2
theorem v_repT  {x : Res (Ty.T (.tup t))} {y : Res (Ty.T .z)} {m n : En → Res D} (h : VR (Ty.enc (.tup t)) L x m) (h2 : VR (Ty.enc .z) L y n) : VR (Ty.enc (.tup t)) L (x.bind fun a => y.bind fun b => repTT a b) (mOp2 fMul m n) := v_op2 (t := (.tup t)) (u := .z) (v := (.tup t)) (F := fMul) (g := fun a b => repTT a b) (fun a b => rep_t a b) h h2
/-! ### equality -/
def Ty.np : Ty → Bool
  | .pr _ _ => false
  | _ => true
def Ty.nn : Ty → Bool
  | .n => false | .opt _ => false | .raw => false | .pr _ _ => false
  | _ => true
def Ty.pl : Ty → Bool
  | .z => true | .b => true | .n => true | .s => true
  | .lst t => t.pl && t.np | .tup t => t.pl && t.np
  | .pr t u => t.pl && t.np && u.pl
  | .fx t => t.pl
  | .opt t => t.pl && t.nn
  | _ => false
def Ty.ns : Ty → Bool
  | .z => true | .b => true | .n => true
  | .lst t => t.ns | .tup t => t.ns
  | .pr t u => t.ns && u.ns
  | .fx t => t.ns
  | .opt t => t.ns
  | _ => false
def Ty.dp : Ty → Nat
  | .lst t => t.dp + 1 | .tup t => t.dp + 1 | .pr t u => max t.dp u.dp | .fx t => t.dp + 1 | .opt t => t.dp
  | _ => 0
theorem encA_np : ∀ {t : Ty} (_ : t.np = true) (x : t.T), t.encA x = [t.enc x]
  | .z, _, _ => rfl | .b, _, _ => rfl | .s, _, _ => rfl | .n, _, _ => rfl | .scr, _, _ => rfl | .raw, _, _ => rfl
  | .lst _, _, _ => rfl | .tup _, _, _ => rfl | .fx _, _, _ => rfl | .ins _ _ _, _, _ => rfl
  | .opt _, _, none => rfl
  | .opt _, _, some _ => rfl
theorem shpA_map (f : α → D) (n : Nat) (h : ∀ x, D.shp (f x) n = true) : ∀ xs : List α, D.shpA (xs.map f) n = true
  | [] => rfl
  | x :: xs => by show (D.shp (f x) n && D.shpA (xs.map f) n) = true; rw [h, shpA_map f n h xs]; rfl
theorem shp_pl : ∀ (t : Ty) (n : Nat) (x : t.T), t.ns = true → t.dp ≤ n → D.shp (t.enc x) n = true ∧ D.shpA (t.encA x) n = true
  | .z, n, x, _, _ => by cases n <;> exact ⟨rfl, rfl⟩
  | .b, n, x, _, _ => by cases n <;> exact ⟨rfl, rfl⟩
  | .n, n, x, _, _ => by cases n <;> exact ⟨rfl, rfl⟩
  | .lst t, 0, x, _, h => by simp [Ty.dp] at h
  | .tup t, 0, x, _, h => by simp [Ty.dp] at h
  | .fx t, 0, x, _, h => by simp [Ty.dp] at h
  | .lst t, n + 1, x, p, h => by
    have p1 : t.ns = true := p
    have h1 : t.dp ≤ n := by simp [Ty.dp] at h; exact h
    have := shpA_map t.enc n (fun x => (shp_pl t n x p1 h1).1) x
    exact ⟨this, by show (D.shpA (x.map t.enc) n && true) = true; rw [this]; rfl⟩
  | .tup t, n + 1, x, p, h => by
    have p1 : t.ns = true := p
    have h1 : t.dp ≤ n := by simp [Ty.dp] at h; exact h
    have := shpA_map t.enc n (fun x => (shp_pl t n x p1 h1).1) x
    exact ⟨this, by show (D.shpA (x.map t.enc) n && true) = true; rw [this]; rfl⟩
  | .fx t, n + 1, x, p, h => by
    have h1 : t.dp ≤ n := by simp [Ty.dp] at h; exact h
    have := (shp_pl t n x p h1).2
    exact ⟨this, by show (D.shpA (t.encA x) n && true) = true; rw [this]; rfl⟩
  | .pr t u, n, x, p, h => by
    simp only [Ty.ns, Bool.and_eq_true] at p
    simp only [Ty.dp] at h
    have h1 := (shp_pl t n x.1 p.1 (by omega)).1
    have h2 := (shp_pl u n x.2 p.2 (by omega)).2
    refine ⟨by cases n <;> rfl, ?_⟩
    show (D.shp (t.enc x.1) n && D.shpA (u.encA x.2) n) = true
    rw [h1, h2]; rfl
  | .opt t, n, none, p, h => by cases n <;> exact ⟨rfl, rfl⟩
  | .opt t, n, some x, p, h => by
    have := (shp_pl t n x p h).1
    exact ⟨this, by show (D.shp (t.enc x) n && true) = true; rw [this]; rfl⟩
theorem eqvA_map (f : α → D) (h : ∀ a b, D.eqv (f a) (f b) = true ↔ a = b) : ∀ xs ys : List α, D.eqvA (xs.map f) (ys.map f) = true ↔ xs = ys
  | [], [] => by simp [D.eqvA]
  | [], _ :: _ => by simp [D.eqvA]
  | _ :: _, [] => by simp [D.eqvA]
  | x :: xs, y :: ys => by
    simp only [List.map_cons, D.eqvA, Bool.and_eq_true, h, eqvA_map f h xs ys, List.cons.injEq]
theorem nn_non : ∀ (t : Ty) (x : t.T), t.nn = true → D.eqv (t.enc x) .non = false ∧ D.eqv .non (t.enc x) = false
  | .z, _, _ => ⟨rfl, rfl⟩ | .b, _, _ => ⟨rfl, rfl⟩ | .s, _, _ => ⟨rfl, rfl⟩ | .scr, _, _ => ⟨rfl, rfl⟩
  | .lst _, _, _ => ⟨rfl, rfl⟩ | .tup _, _, _ => ⟨rfl, rfl⟩ | .fx _, _, _ => ⟨rfl, rfl⟩ | .ins _ _ _, _, _ => ⟨rfl, rfl⟩
theorem eqv_pl : ∀ (t : Ty) (x y : t.T), t.pl = true → (t.np = true → (D.eqv (t.enc x) (t.enc y) = true ↔ x = y)) ∧ (D.eqvA (t.encA x) (t.encA y) = true ↔ x = y)
  | .z, x, y, _ => ⟨fun _ => by show D.eqv (.int x) (.int y) = true ↔ _; simp [D.eqv], by show (D.eqv (.int x) (.int y) && true) = true ↔ _; simp [D.eqv]⟩
  | .b, x, y, _ => ⟨fun _ => by show D.eqv (.bl x) (.bl y) = true ↔ _; simp [D.eqv], by show (D.eqv (.bl x) (.bl y) && true) = true ↔ _; simp [D.eqv]⟩
  | .s, x, y, _ => ⟨fun _ => by show D.eqv (.str x) (.str y) = true ↔ _; simp [D.eqv], by show (D.eqv (.str x) (.str y) && true) = true ↔ _; simp [D.eqv]⟩
  | .n, x, y, _ => ⟨fun _ => by show D.eqv .non .non = true ↔ _; simp [D.eqv], by show (D.eqv .non .non && true) = true ↔ _; simp [D.eqv]⟩
  | .lst t, x, y, p => by
    simp only [Ty.pl, Bool.and_eq_true] at p
    have := eqvA_map t.enc (fun a b => (eqv_pl t a b p.1).1 p.2) x y
    have e : D.eqv (Ty.enc (.lst t) x) (Ty.enc (.lst t) y) = true ↔ x = y := by rw [enc_lst, enc_lst]; unfold D.eqv; exact this
    exact ⟨fun _ => e, by show (D.eqv (Ty.enc (.lst t) x) (Ty.enc (.lst t) y) && true) = true ↔ _; rw [Bool.and_true]; exact e⟩
  | .tup t, x, y, p => by
    simp only [Ty.pl, Bool.and_eq_true] at p
    have := eqvA_map t.enc (fun a b => (eqv_pl t a b p.1).1 p.2) x y
    have e : D.eqv (Ty.enc (.tup t) x) (Ty.enc (.tup t) y) = true ↔ x = y := by rw [enc_tup, enc_tup]; unfold D.eqv; exact this
    exact ⟨fun _ => e, by show (D.eqv (Ty.enc (.tup t) x) (Ty.enc (.tup t) y) && true) = true ↔ _; rw [Bool.and_true]; exact e⟩
  | .fx t, x, y, p => by
    have e : D.eqv (Ty.enc (.fx t) x) (Ty.enc (.fx t) y) = true ↔ x = y := by rw [enc_fx, enc_fx]; unfold D.eqv; exact (eqv_pl t x y p).2
    exact ⟨fun _ => e, by show (D.eqv (Ty.enc (.fx t) x) (Ty.enc (.fx t) y) && true) = true ↔ _; rw [Bool.and_true]; exact e⟩
  | .pr t u, x, y, p => by
    simp only [Ty.pl, Bool.and_eq_true] at p
    have h1 := (eqv_pl t x.1 y.1 p.1.1).1 p.1.2
    have h2 := (eqv_pl u x.2 y.2 p.2).2
    refine ⟨fun q => by simp [Ty.np] at q, ?_⟩
    show (D.eqv (t.enc x.1) (t.enc y.1) && D.eqvA (u.encA x.2) (u.encA y.2)) = true ↔ _
    rw [Bool.and_eq_true, h1, h2]
    exact Prod.ext_iff.symm
  | .opt t, none, none, p => ⟨fun _ => by show D.eqv .non .non = true ↔ _; simp [D.eqv], by show (D.eqv .non .non && true) = true ↔ _; simp [D.eqv]⟩
  | .opt t, none, some y, p => by
    simp only [Ty.pl, Bool.and_eq_true] at p
    have h := (nn_non t y p.2).2
    exact ⟨fun _ => by show D.eqv .non (t.enc y) = true ↔ _; rw [h]; simp, by show (D.eqv .non (t.enc y) && true) = true ↔ _; rw [h]; simp⟩
  | .opt t, some x, none, p => by
    simp only [Ty.pl, Bool.and_eq_true] at p
    have h := (nn_non t x p.2).1
    exact ⟨fun _ => by show D.eqv (t.enc x) .non = true ↔ _; rw [h]; simp, by show (D.eqv (t.enc x) .non && true) = true ↔ _; rw [h]; simp⟩
  | .opt t, some x, some y, p => by
    simp only [Ty.pl, Bool.and_eq_true] at p
    have hn : t.np = true := by
      cases t <;> first | rfl | (exact absurd p.2 (by simp [Ty.nn]))
    have h := (eqv_pl t x y p.1).1 hn
    exact ⟨fun _ => by show D.eqv (t.enc x) (t.enc y) = true ↔ _; rw [h]; simp, by show (D.eqv (t.enc x) (t.enc y) && true) = true ↔ _; rw [Bool.and_true, h]; simp⟩
def Ty.eqOk (t : Ty) : Bool := t.pl && t.np && t.ns && decide (t.dp ≤ 63)
theorem eqOk_shp {t : Ty} (h : t.eqOk = true) (x : t.T) : shp (t.enc x) = true := by
  simp only [Ty.eqOk, Bool.and_eq_true, decide_eq_true_eq] at h
  exact (shp_pl t 64 x h.1.2 (by omega)).1
theorem eqOk_eqv {t : Ty} (h : t.eqOk = true) (x y : t.T) : D.eqv (t.enc x) (t.enc y) = true ↔ x = y := by
  simp only [Ty.eqOk, Bool.and_eq_true, decide_eq_true_eq] at h
  exact (eqv_pl t x y h.1.1.1).1 h.1.1.2
theorem eq_fin {t : Ty} (h : t.eqOk = true) (a b : t.T) {_ : Decidable (a = b)} : Rx (Ty.enc .b) (.ok (decide (a = b))) (.ofO (fEq (t.enc a) (t.enc b))) := by
  unfold fEq
  rw [eqOk_shp h, eqOk_shp h]
  have : D.eqv (t.enc a) (t.enc b) = decide (a = b) := by rw [Bool.eq_iff_iff, eqOk_eqv h, decide_eq_true_iff]
  rw [this]; rfl
theorem ne_fin {t : Ty} (h : t.eqOk = true) (a b : t.T) {_ : Decidable (a = b)} : Rx (Ty.enc .b) (.ok (!decide (a = b))) (.ofO (fNe (t.enc a) (t.enc b))) := by
  unfold fNe
  rw [eqOk_shp h, eqOk_shp h]
  have : D.eqv (t.enc a) (t.enc b) = decide (a = b) := by rw [Bool.eq_iff_iff, eqOk_eqv h, decide_eq_true_iff]
  rw [this]; rfl
/-- equality where texts stand in the data -/
noncomputable def eqT (t : Ty) (a b : t.T) (c : Bool) : Res Bool := iteC (shp (t.enc a) = true ∧ shp (t.enc b) = true) (.ok c) .bad
theorem eqG_fin {t : Ty} (h : (t.pl && t.np) = true) (a b : t.T) {_ : Decidable (a = b)} : Rx (Ty.enc .b) (eqT t a b (decide (a = b))) (.ofO (fEq (t.enc a) (t.enc b))) := by
  unfold eqT fEq
  rw [iteC_eq]
  simp only [Bool.and_eq_true] at h
  have : D.eqv (t.enc a) (t.enc b) = decide (a = b) := by rw [Bool.eq_iff_iff, (eqv_pl t a b h.1).1 h.2, decide_eq_true_iff]
  rw [this]
  by_cases q : shp (t.enc a) = true ∧ shp (t.enc b) = true
  · rw [if_pos q, if_pos (by rw [q.1, q.2]; rfl)]; rfl
  · rw [if_neg q]; trivial
theorem neG_fin {t : Ty} (h : (t.pl && t.np) = true) (a b : t.T) {_ : Decidable (a = b)} : Rx (Ty.enc .b) (eqT t a b (!decide (a = b))) (.ofO (fNe (t.enc a) (t.enc b))) := by
  unfold eqT fNe
  rw [iteC_eq]
  simp only [Bool.and_eq_true] at h
  have : D.eqv (t.enc a) (t.enc b) = decide (a = b) := by rw [Bool.eq_iff_iff, (eqv_pl t a b h.1).1 h.2, decide_eq_true_iff]
  rw [this]
  by_cases q : shp (t.enc a) = true ∧ shp (t.enc b) = true
  · rw [if_pos q, if_pos (by rw [q.1, q.2]; rfl)]; rfl
  · rw [if_neg q]; trivial
theorem inD_ok {t : Ty} (h : t.eqOk = true) (a : t.T) {xs : List t.T} {_ : Decidable (a ∈ xs)} : inD (t.enc a) (xs.map t.enc) = decide (a ∈ xs) := by
  rw [Bool.eq_iff_iff, decide_eq_true_iff]
  unfold inD
  rw [List.any_map, List.any_eq_true]
  constructor
  · rintro ⟨x, hx, e⟩
    have := (eqOk_eqv h x a).mp e
    subst this; exact hx
  · intro hx
    exact ⟨a, hx, (eqOk_eqv h a a).mpr rfl⟩
theorem gIn_l (x : D) (ds : List D) : gIn x (.lst ds) = fIn x (.lst ds) := by cases x <;> rfl
theorem gIn_t (x : D) (ds : List D) : gIn x (.tup ds) = fIn x (.tup ds) := by cases x <;> rfl
theorem gNotIn_l (x : D) (ds : List D) : gNotIn x (.lst ds) = fNotIn x (.lst ds) := by cases x <;> rfl
theorem gNotIn_t (x : D) (ds : List D) : gNotIn x (.tup ds) = fNotIn x (.tup ds) := by cases x <;> rfl
theorem inL_fin (h : t.eqOk = true) (h2 : (Ty.lst t).eqOk = true) (a : t.T) (xs : List t.T) {_ : Decidable (a ∈ xs)} : Rx (Ty.enc .b) (.ok (decide (a ∈ xs))) (.ofO (gIn (t.enc a) (Ty.enc (.lst t) xs))) := by
  have e1 := eqOk_shp h a
  have e2 := eqOk_shp h2 xs
  have e3 : inD (t.enc a) (xs.map t.enc) = decide (a ∈ xs) := inD_ok h a
  rw [enc_lst] at e2 ⊢
  rw [gIn_l]
  unfold fIn
  simp only [e1, e2, e3]
  rfl
theorem v_inLP (h0 : t.eqOk = true) (h1 : (Ty.lst t).eqOk = true) {a : t.T} {xs : List t.T} {m n : En → Res D} {_ : Decidable (a ∈ xs)} (h : VR t.enc L (.ok a) m) (h2 : VR (Ty.enc (.lst t)) L (.ok xs) n) : VR (Ty.enc .b) L (.ok (decide (a ∈ xs))) (mOp2 gIn m n) := fun ρ M => by
  have e1 : m ρ = .ok (t.enc a) := h ρ M
  have e2 : n ρ = .ok (Ty.enc (.lst t) xs) := h2 ρ M
  show Rx _ _ ((m ρ).bind fun x => (n ρ).bind fun y => .ofO (gIn x y))
  rw [e1, e2]
  exact inL_fin h0 h1 a xs
theorem v_inL (h0 : t.eqOk = true) (h1 : (Ty.lst t).eqOk = true) {x : Res t.T} {y : Res (List t.T)} {m n : En → Res D} {_ : ∀ (a : t.T) (xs : List t.T), Decidable (a ∈ xs)} (h : VR t.enc L x m) (h2 : VR (Ty.enc (.lst t)) L y n) : VR (Ty.enc .b) L (x.bind fun a => y.bind fun xs => .ok (decide (a ∈ xs))) (mOp2 gIn m n) := fun ρ M => rx_bind (h ρ M) fun a => rx_bind (h2 ρ M) fun xs => inL_fin h0 h1 a xs
theorem inT_fin (h : t.eqOk = true) (h2 : (Ty.tup t).eqOk = true) (a : t.T) (xs : List t.T) {_ : Decidable (a ∈ xs)} : Rx (Ty.enc .b) (.ok (decide (a ∈ xs))) (.ofO (gIn (t.enc a) (Ty.enc (.tup t) xs))) := by
  have e1 := eqOk_shp h a
  have e2 := eqOk_shp h2 xs
  have e3 : inD (t.enc a) (xs.map t.enc) = decide (a ∈ xs) := inD_ok h a
  rw [enc_tup] at e2 ⊢
  rw [gIn_t]
  unfold fIn
  simp only [e1, e2, e3]
  rfl
theorem v_inTP (h0 : t.eqOk = true) (h1 : (Ty.tup t).eqOk = true) {a : t.T} {xs : List t.T} {m n : En → Res D} {_ : Decidable (a ∈ xs)} (h : VR t.enc L (.ok a) m) (h2 : VR (Ty.enc (.tup t)) L (.ok xs) n) : VR (Ty.enc .b) L (.ok (decide (a ∈ xs))) (mOp2 gIn m n) := fun ρ M => by
  have e1 : m ρ = .ok (t.enc a) := h ρ M
  have e2 : n ρ = .ok (Ty.enc (.tup t) xs) := h2 ρ M
  show Rx _ _ ((m ρ).bind fun x => (n ρ).bind fun y => .ofO (gIn x y))
  rw [e1, e2]
  exact inT_fin h0 h1 a xs
theorem v_inT (h0 : t.eqOk = true) (h1 : (Ty.tup t).eqOk = true) {x : Res t.T} {y : Res (List t.T)} {m n : En → Res D} {_ : ∀ (a : t.T) (xs : List t.T), Decidable (a ∈ xs)} (h : VR t.enc L x m) (h2 : VR (Ty.enc (.tup t)) L y n) : VR (Ty.enc .b) L (x.bind fun a => y.bind fun xs => .ok (decide (a ∈ xs))) (mOp2 gIn m n) := fun ρ M => rx_bind (h ρ M) fun a => rx_bind (h2 ρ M) fun xs => inT_fin h0 h1 a xs
theorem ninL_fin (h : t.eqOk = true) (h2 : (Ty.lst t).eqOk = true) (a : t.T) (xs : List t.T) {_ : Decidable (a ∈ xs)} : Rx (Ty.enc .b) (.ok (!decide (a ∈ xs))) (.ofO (gNotIn (t.enc a) (Ty.enc (.lst t) xs))) := by
  have e1 := eqOk_shp h a
  have e2 := eqOk_shp h2 xs
  have e3 : inD (t.enc a) (xs.map t.enc) = decide (a ∈ xs) := inD_ok h a
  rw [enc_lst] at e2 ⊢
  rw [gNotIn_l]
  unfold fNotIn
  simp only [e1, e2, e3]
  rfl
theorem v_ninLP (h0 : t.eqOk = true) (h1 : (Ty.lst t).eqOk = true) {a : t.T} {xs : List t.T} {m n : En → Res D} {_ : Decidable (a ∈ xs)} (h : VR t.enc L (.ok a) m) (h2 : VR (Ty.enc (.lst t)) L (.ok xs) n) : VR (Ty.enc .b) L (.ok (!decide (a ∈ xs))) (mOp2 gNotIn m n) := fun ρ M => by
  have e1 : m ρ = .ok (t.enc a) := h ρ M
  have e2 : n ρ = .ok (Ty.enc (.lst t) xs) := h2 ρ M
  show Rx _ _ ((m ρ).bind fun x => (n ρ).bind fun y => .ofO (gNotIn x y))
  rw [e1, e2]
  exact ninL_fin h0 h1 a xs
theorem v_ninL (h0 : t.eqOk = true) (h1 : (Ty.lst t).eqOk = true) {x : Res t.T} {y : Res (List t.T)} {m n : En → Res D} {_ : ∀ (a : t.T) (xs : List t.T), Decidable (a ∈ xs)} (h : VR t.enc L x m) (h2 : VR (Ty.enc (.lst t)) L y n) : VR (Ty.enc .b) L (x.bind fun a => y.bind fun xs => .ok (!decide (a ∈ xs))) (mOp2 gNotIn m n) := fun ρ M => rx_bind (h ρ M) fun a => rx_bind (h2 ρ M) fun xs => ninL_fin h0 h1 a xs
theorem ninT_fin (h : t.eqOk = true) (h2 : (Ty.tup t).eqOk = true) (a : t.T) (xs : List t.T) {_ : Decidable (a ∈ xs)} : Rx (Ty.enc .b) (.ok (!decide (a ∈ xs))) (.ofO (gNotIn (t.enc a) (Ty.enc (.tup t) xs))) := by
  have e1 := eqOk_shp h a
  have e2 := eqOk_shp h2 xs
  have e3 : inD (t.enc a) (xs.map t.enc) = decide (a ∈ xs) := inD_ok h a
  rw [enc_tup] at e2 ⊢
  rw [gNotIn_t]
  unfold fNotIn
  simp only [e1, e2, e3]
  rfl
theorem v_ninTP (h0 : t.eqOk = true) (h1 : (Ty.tup t).eqOk = true) {a : t.T} {xs : List t.T} {m n : En → Res D} {_ : Decidable (a ∈ xs)} (h : VR t.enc L (.ok a) m) (h2 : VR (Ty.enc (.tup t)) L (.ok xs) n) : VR (Ty.enc .b) L (.ok (!decide (a ∈ xs))) (mOp2 gNotIn m n) := fun ρ M => by
  have e1 : m ρ = .ok (t.enc a) := h ρ M
  have e2 : n ρ = .ok (Ty.enc (.tup t) xs) := h2 ρ M
  show Rx _ _ ((m ρ).bind fun x => (n ρ).bind fun y => .ofO (gNotIn x y))
  rw [e1, e2]
  exact ninT_fin h0 h1 a xs
theorem v_ninT (h0 : t.eqOk = true) (h1 : (Ty.tup t).eqOk = true) {x : Res t.T} {y : Res (List t.T)} {m n : En → Res D} {_ : ∀ (a : t.T) (xs : List t.T), Decidable (a ∈ xs)} (h : VR t.enc L x m) (h2 : VR (Ty.enc (.tup t)) L y n) : VR (Ty.enc .b) L (x.bind fun a => y.bind fun xs => .ok (!decide (a ∈ xs))) (mOp2 gNotIn m n) := fun ρ M => rx_bind (h ρ M) fun a => rx_bind (h2 ρ M) fun xs => ninT_fin h0 h1 a xs
theorem v_eqP (h0 : t.eqOk = true) {a b : t.T} {m n : En → Res D} {_ : Decidable (a = b)} (h : VR t.enc L (.ok a) m) (h2 : VR t.enc L (.ok b) n) : VR (Ty.enc .b) L (.ok (decide (a = b))) (mOp2 fEq m n) := fun ρ M => by
  have e1 : m ρ = .ok (t.enc a) := h ρ M
  have e2 : n ρ = .ok (t.enc b) := h2 ρ M
  show Rx _ _ ((m ρ).bind fun x => (n ρ).bind fun y => .ofO (fEq x y))
  rw [e1, e2]
  exact eq_fin h0 a b
theorem v_eq (h0 : t.eqOk = true) {x y : Res t.T} {m n : En → Res D} {_ : ∀ (a b : t.T), Decidable (a = b)} (h : VR t.enc L x m) (h2 : VR t.enc L y n) : VR (Ty.enc .b) L (x.bind fun a => y.bind fun b => .ok (decide (a = b))) (mOp2 fEq m n) := fun ρ M => rx_bind (h ρ M) fun a => rx_bind (h2 ρ M) fun b => eq_fin h0 a b
theorem v_neP (h0 : t.eqOk = true) {a b : t.T} {m n : En → Res D} {_ : Decidable (a = b)} (h : VR t.enc L (.ok a) m) (h2 : VR t.enc L (.ok b) n) : VR (Ty.enc .b) L (.ok (!decide (a = b))) (mOp2 fNe m n) := fun ρ M => by
  have e1 : m ρ = .ok (t.enc a) := h ρ M
  have e2 : n ρ = .ok (t.enc b) := h2 ρ M
  show Rx _ _ ((m ρ).bind fun x => (n ρ).bind fun y => .ofO (fNe x y))
  rw [e1, e2]
  exact ne_fin h0 a b
theorem v_ne (h0 : t.eqOk = true) {x y : Res t.T} {m n : En → Res D} {_ : ∀ (a b : t.T), Decidable (a = b)} (h : VR t.enc L x m) (h2 : VR t.enc L y n) : VR (Ty.enc .b) L (x.bind fun a => y.bind fun b => .ok (!decide (a = b))) (mOp2 fNe m n) := fun ρ M => rx_bind (h ρ M) fun a => rx_bind (h2 ρ M) fun b => ne_fin h0 a b
theorem v_eqGP (h0 : (t.pl && t.np) = true) {a b : t.T} {m n : En → Res D} {_ : Decidable (a = b)} (h : VR t.enc L (.ok a) m) (h2 : VR t.enc L (.ok b) n) : VR (Ty.enc .b) L (eqT t a b (decide (a = b))) (mOp2 fEq m n) := fun ρ M => by
  have e1 : m ρ = .ok (t.enc a) := h ρ M
  have e2 : n ρ = .ok (t.enc b) := h2 ρ M
  show Rx _ _ ((m ρ).bind fun x => (n ρ).bind fun y => .ofO (fEq x y))
  rw [e1, e2]
  exact eqG_fin h0 a b
theorem v_eqG (h0 : (t.pl && t.np) = true) {x y : Res t.T} {m n : En → Res D} {_ : ∀ (a b : t.T), Decidable (a = b)} (h : VR t.enc L x m) (h2 : VR t.enc L y n) : VR (Ty.enc .b) L (x.bind fun a => y.bind fun b => eqT t a b (decide (a = b))) (mOp2 fEq m n) := fun ρ M => rx_bind (h ρ M) fun a => rx_bind (h2 ρ M) fun b => eqG_fin h0 a b
theorem v_neGP (h0 : (t.pl && t.np) = true) {a b : t.T} {m n : En → Res D} {_ : Decidable (a = b)} (h : VR t.enc L (.ok a) m) (h2 : VR t.enc L (.ok b) n) : VR (Ty.enc .b) L (eqT t a b (!decide (a = b))) (mOp2 fNe m n) := fun ρ M => by
  have e1 : m ρ = .ok (t.enc a) := h ρ M
  have e2 : n ρ = .ok (t.enc b) := h2 ρ M
  show Rx _ _ ((m ρ).bind fun x => (n ρ).bind fun y => .ofO (fNe x y))
  rw [e1, e2]
  exact neG_fin h0 a b
theorem v_neG (h0 : (t.pl && t.np) = true) {x y : Res t.T} {m n : En → Res D} {_ : ∀ (a b : t.T), Decidable (a = b)} (h : VR t.enc L x m) (h2 : VR t.enc L y n) : VR (Ty.enc .b) L (x.bind fun a => y.bind fun b => eqT t a b (!decide (a = b))) (mOp2 fNe m n) := fun ρ M => rx_bind (h ρ M) fun a => rx_bind (h2 ρ M) fun b => neG_fin h0 a b
noncomputable def strNT (a b : Str) : Res Bool := iteC ((PyData.strOk a && PyData.strOk b) = true) (.ok (!decide (a = b))) .bad
theorem eqS_fin (a b : Str) : Rx (Ty.enc .b) (strT a b) (.ofO (fEq (Ty.enc .s a) (Ty.enc .s b))) := by
  show Rx _ _ (Res.ofO (if PyData.strOk a && PyData.strOk b then some (D.bl (a == b)) else none))
  refine rx_if ?_
  show D.bl _ = D.bl _
  congr 1
theorem neS_fin (a b : Str) : Rx (Ty.enc .b) (strNT a b) (.ofO (fNe (Ty.enc .s a) (Ty.enc .s b))) := by
  show Rx _ _ (Res.ofO (if PyData.strOk a && PyData.strOk b then some (D.bl (!(a == b))) else none))
  refine rx_if ?_
  show D.bl _ = D.bl _
  congr 1
theorem v_eqSP  {a : Ty.T .s} {b : Ty.T .s} {m n : En → Res D} (h : VR (Ty.enc .s) L (.ok a) m) (h2 : VR (Ty.enc .s) L (.ok b) n) : VR (Ty.enc .b) L (strT a b) (mOp2 fEq m n) := v_op2 (t := .s) (u := .s) (v := .b) (F := fEq) (g := fun a b => strT a b) (fun a b => eqS_fin a b) h h2
theorem v_eqS  {x : Res (Ty.T .s)} {y : Res (Ty.T .s)} {m n : En → Res D} (h : VR (Ty.enc .s) L x m) (h2 : VR (Ty.enc .s) L y n) : VR (Ty.enc .b) L (x.bind fun a => y.bind fun b => strT a b) (mOp2 fEq m n) := v_op2 (t := .s) (u := .s) (v := .b) (F := fEq) (g := fun a b => strT a b) (fun a b => eqS_fin a b) h h2
theorem v_neSP  {a : Ty.T .s} {b : Ty.T .s} {m n : En → Res D} (h : VR (Ty.enc .s) L (.ok a) m) (h2 : VR (Ty.enc .s) L (.ok b) n) : VR (Ty.enc .b) L (strNT a b) (mOp2 fNe m n) := v_op2 (t := .s) (u := .s) (v := .b) (F := fNe) (g := fun a b => strNT a b) (fun a b => neS_fin a b) h h2
theorem v_neS  {x : Res (Ty.T .s)} {y : Res (Ty.T .s)} {m n : En → Res D} (h : VR (Ty.enc .s) L x m) (h2 : VR (Ty.enc .s) L y n) : VR (Ty.enc .b) L (x.bind fun a => y.bind fun b => strNT a b) (mOp2 fNe m n) := v_op2 (t := .s) (u := .s) (v := .b) (F := fNe) (g := fun a b => strNT a b) (fun a b => neS_fin a b) h h2
/-! ### unary -/
theorem v_negP {a : Int} {m : En → Res D} (h : VR (Ty.enc .z) L (.ok a) m) : VR (Ty.enc .z) L (.ok (-a)) (mOp1 fNeg m) := v_op1 (F := fNeg) (t := .z) (u := .z) (g := fun a => .ok (-a)) (fun a => rfl) h
theorem v_neg {x : Res Int} {m : En → Res D} (h : VR (Ty.enc .z) L x m) : VR (Ty.enc .z) L (x.bind fun a => .ok (-a)) (mOp1 fNeg m) := v_op1 (F := fNeg) (t := .z) (u := .z) (g := fun a => .ok (-a)) (fun a => rfl) h
theorem v_revLP {a : List t.T} {m : En → Res D} (h : VR (Ty.enc (.lst t)) L (.ok a) m) : VR (Ty.enc (.lst t)) L (.ok a.reverse) (mOp1 fRev m) := v_op1 (t := .lst t) (u := .lst t) (g := fun a => .ok a.reverse) (fun a => by show Res.ok (D.lst (a.map t.enc).reverse) = _; rw [← List.map_reverse]; rfl) h
theorem v_revL {x : Res (List t.T)} {m : En → Res D} (h : VR (Ty.enc (.lst t)) L x m) : VR (Ty.enc (.lst t)) L (x.bind fun a => .ok a.reverse) (mOp1 fRev m) := v_op1 (t := .lst t) (u := .lst t) (g := fun a => .ok a.reverse) (fun a => by show Res.ok (D.lst (a.map t.enc).reverse) = _; rw [← List.map_reverse]; rfl) h
theorem isN_ok (h0 : t.nn = true) (o : Option t.T) : fIsN (Ty.enc (.opt t) o) .non = some (.bl o.isNone) ∧ fNotN (Ty.enc (.opt t) o) .non = some (.bl o.isSome) := by
  cases o with
  | none => exact ⟨rfl, rfl⟩
  | some a => cases t <;> first | exact ⟨rfl, rfl⟩ | (exact absurd h0 (by simp [Ty.nn]))
theorem v_isNP (h0 : t.nn = true) {o : Option t.T} {m : En → Res D} (h : VR (Ty.enc (.opt t)) L (.ok o) m) : VR (Ty.enc .b) L (.ok o.isNone) (mOp2 fIsN m (mC .non)) := fun ρ M => by
  have e : m ρ = .ok (Ty.enc (.opt t) o) := h ρ M
  show (m ρ).bind (fun x => Res.ofO (fIsN x .non)) = _
  rw [e]; show Res.ofO (fIsN (Ty.enc (.opt t) o) .non) = _
  rw [(isN_ok h0 o).1]; rfl
theorem v_notNP (h0 : t.nn = true) {o : Option t.T} {m : En → Res D} (h : VR (Ty.enc (.opt t)) L (.ok o) m) : VR (Ty.enc .b) L (.ok o.isSome) (mOp2 fNotN m (mC .non)) := fun ρ M => by
  have e : m ρ = .ok (Ty.enc (.opt t) o) := h ρ M
  show (m ρ).bind (fun x => Res.ofO (fNotN x .non)) = _
  rw [e]; show Res.ofO (fNotN (Ty.enc (.opt t) o) .non) = _
  rw [(isN_ok h0 o).2]; rfl
theorem v_isN (h0 : t.nn = true) {x : Res (Option t.T)} {m : En → Res D} (h : VR (Ty.enc (.opt t)) L x m) : VR (Ty.enc .b) L (x.bind fun o => .ok o.isNone) (mOp2 fIsN m (mC .non)) := fun ρ M => rx_bind (h ρ M) fun o => by
  show Res.ofO (fIsN (Ty.enc (.opt t) o) .non) = _
  rw [(isN_ok h0 o).1]; rfl
theorem v_notN (h0 : t.nn = true) {x : Res (Option t.T)} {m : En → Res D} (h : VR (Ty.enc (.opt t)) L x m) : VR (Ty.enc .b) L (x.bind fun o => .ok o.isSome) (mOp2 fNotN m (mC .non)) := fun ρ M => rx_bind (h ρ M) fun o => by
  show Res.ofO (fNotN (Ty.enc (.opt t) o) .non) = _
  rw [(isN_ok h0 o).2]; rfl
/-- True and False, by `is` -/
theorem v_isBP {a b : Bool} {m n : En → Res D} (h : VR (Ty.enc .b) L (.ok a) m) (h2 : VR (Ty.enc .b) L (.ok b) n) : VR (Ty.enc .b) L (.ok (decide (a = b))) (mOp2 fIsB m n) := v_op2 (F := fIsB) (t := .b) (u := .b) (v := .b) (g := fun a b => .ok (decide (a = b))) (fun a b => rfl) h h2
theorem v_isB {x y : Res Bool} {m n : En → Res D} (h : VR (Ty.enc .b) L x m) (h2 : VR (Ty.enc .b) L y n) : VR (Ty.enc .b) L (x.bind fun a => y.bind fun b => .ok (decide (a = b))) (mOp2 fIsB m n) := v_op2 (F := fIsB) (t := .b) (u := .b) (v := .b) (g := fun a b => .ok (decide (a = b))) (fun a b => rfl) h h2
theorem v_notBP {a b : Bool} {m n : En → Res D} (h : VR (Ty.enc .b) L (.ok a) m) (h2 : VR (Ty.enc .b) L (.ok b) n) : VR (Ty.enc .b) L (.ok (!decide (a = b))) (mOp2 fNotB m n) := v_op2 (F := fNotB) (t := .b) (u := .b) (v := .b) (g := fun a b => .ok (!decide (a = b))) (fun a b => rfl) h h2
theorem v_notB {x y : Res Bool} {m n : En → Res D} (h : VR (Ty.enc .b) L x m) (h2 : VR (Ty.enc .b) L y n) : VR (Ty.enc .b) L (x.bind fun a => y.bind fun b => .ok (!decide (a = b))) (mOp2 fNotB m n) := v_op2 (F := fNotB) (t := .b) (u := .b) (v := .b) (g := fun a b => .ok (!decide (a = b))) (fun a b => rfl) h h2
/-- a place of a fixed tuple -/
theorem v_fxP {k : Int} {g : t.T → u.T} (h0 : ∀ x : t.T, atI (t.encA x) k = some (u.enc (g x))) {a : t.T} {m n : En → Res D} (h : VR (Ty.enc (.fx t)) L (.ok a) m) (h2 : VR (Ty.enc .z) L (.ok k) n) : VR u.enc L (.ok (g a)) (mOp2 fIx m n) := fun ρ M => by
  have e1 : m ρ = .ok (.tup (t.encA a)) := h ρ M
  have e2 : n ρ = .ok (.int k) := h2 ρ M
  show (m ρ).bind (fun x => (n ρ).bind fun y => Res.ofO (fIx x y)) = _
  rw [e1, e2]
  show Res.ofO (atI (t.encA a) k) = _
  rw [h0]; rfl
theorem v_fx {k : Int} {g : t.T → u.T} (h0 : ∀ x : t.T, atI (t.encA x) k = some (u.enc (g x))) {x : Res t.T} {m n : En → Res D} (h : VR (Ty.enc (.fx t)) L x m) (h2 : VR (Ty.enc .z) L (.ok k) n) : VR u.enc L (x.bind fun a => .ok (g a)) (mOp2 fIx m n) := fun ρ M => rx_bind (h ρ M) fun a => by
  have e2 : n ρ = .ok (.int k) := h2 ρ M
  rw [e2]
  show Res.ofO (atI (t.encA a) k) = _
  rw [h0]; rfl
/-- a field -/
theorem v_fldP {cs : List Nat} {f : Str} {g : t.T → u.T} (h0 : ∀ x : t.T, fldI cs f (t.enc x) = some (u.enc (g x))) {a : t.T} {m : En → Res D} (h : VR t.enc L (.ok a) m) : VR u.enc L (.ok (g a)) (mFld cs f m) := fun ρ M => by
  have e1 : m ρ = .ok (t.enc a) := h ρ M
  show (m ρ).bind (fun x => Res.ofO (fldI cs f x)) = _
  rw [e1]; show Res.ofO (fldI cs f (t.enc a)) = _
  rw [h0]; rfl
theorem v_fld {cs : List Nat} {f : Str} {g : t.T → u.T} (h0 : ∀ x : t.T, fldI cs f (t.enc x) = some (u.enc (g x))) {x : Res t.T} {m : En → Res D} (h : VR t.enc L x m) : VR u.enc L (x.bind fun a => .ok (g a)) (mFld cs f m) := fun ρ M => rx_bind (h ρ M) fun a => by
  show Res.ofO (fldI cs f (t.enc a)) = _
  rw [h0]; rfl
/-- isinstance -/
theorem isi_z : ∀ u : String, ∀ a : Ty.T .z, isiTy u (Ty.enc .z a) = kitB "int" u := fun _ _ => rfl
theorem isi_b : ∀ u : String, ∀ a : Ty.T .b, isiTy u (Ty.enc .b a) = kitB "bool" u := fun _ _ => rfl
theorem isi_s : ∀ u : String, ∀ a : Ty.T .s, isiTy u (Ty.enc .s a) = kitB "str" u := fun _ _ => rfl
theorem isi_lst : ∀ u : String, ∀ a : Ty.T (.lst t), isiTy u (Ty.enc (.lst t) a) = kitB "list" u := fun _ _ => rfl
theorem isi_tup : ∀ u : String, ∀ a : Ty.T (.tup t), isiTy u (Ty.enc (.tup t) a) = kitB "tuple" u := fun _ _ => rfl
theorem isi_fx : ∀ u : String, ∀ a : Ty.T (.fx t), isiTy u (Ty.enc (.fx t) a) = kitB "tuple" u := fun _ _ => rfl
theorem kit_int_int : kitB "int" "int" = some true := by decide +kernel
theorem kit_int_bool : kitB "int" "bool" = some false := by decide +kernel
theorem kit_int_tuple : kitB "int" "tuple" = some false := by decide +kernel
theorem kit_int_list : kitB "int" "list" = some false := by decide +kernel
theorem kit_int_str : kitB "int" "str" = some false := by decide +kernel
theorem kit_bool_int : kitB "bool" "int" = some true := by decide +kernel
theorem kit_bool_bool : kitB "bool" "bool" = some true := by decide +kernel
theorem kit_bool_tuple : kitB "bool" "tuple" = some false := by decide +kernel
theorem kit_tuple_tuple : kitB "tuple" "tuple" = some true := by decide +kernel
theorem kit_tuple_list : kitB "tuple" "list" = some false := by decide +kernel
theorem kit_tuple_int : kitB "tuple" "int" = some false := by decide +kernel
theorem kit_tuple_bool : kitB "tuple" "bool" = some false := by decide +kernel
theorem kit_list_list : kitB "list" "list" = some true := by decide +kernel
theorem kit_list_tuple : kitB "list" "tuple" = some false := by decide +kernel
theorem kit_list_int : kitB "list" "int" = some false := by decide +kernel
theorem kit_str_str : kitB "str" "str" = some true := by decide +kernel
theorem v_isiP {s : String} {b : Bool} {w : String} (h0 : ∀ x : t.T, isiTy s (t.enc x) = kitB w s) (h1 : kitB w s = some b) {a : t.T} {m : En → Res D} (h : VR t.enc L (.ok a) m) : VR (Ty.enc .b) L (.ok b) (mIsiTy s m) := fun ρ M => by
  have e1 : m ρ = .ok (t.enc a) := h ρ M
  show (m ρ).bind (fun d => match isiTy s d with | some b => Res.ok (D.bl b) | none => .bad) = _
  rw [e1]; show (match isiTy s (t.enc a) with | some b => Res.ok (D.bl b) | none => .bad) = _
  rw [h0, h1]; rfl
theorem v_isi {s : String} {b : Bool} {w : String} (h0 : ∀ x : t.T, isiTy s (t.enc x) = kitB w s) (h1 : kitB w s = some b) {x : Res t.T} {m : En → Res D} (h : VR t.enc L x m) : VR (Ty.enc .b) L (x.bind fun _ => .ok b) (mIsiTy s m) := fun ρ M => rx_bind (h ρ M) fun a => by
  show (match isiTy s (t.enc a) with | some b => Res.ok (D.bl b) | none => .bad) = _
  rw [h0, h1]; rfl
theorem v_isC {l : XT} {c : Nat} {fs : List Str} {b : Bool} (h0 : l.lookup c = some b) {x : Res t.T} {m : En → Res D} (h : VR (Ty.enc (.ins c fs t)) L x m) : VR (Ty.enc .b) L (x.bind fun _ => .ok b) (mIsC l m) := fun ρ M => by
  have := h ρ M
  unfold mIsC
  cases x with
  | ok a =>
    have this : m ρ = .ok (.ins c fs (t.encA a)) := this
    rw [this]
    show Res.ofO ((l.lookup c).map D.bl) = _
    rw [h0]; rfl
  | er e => have this : m ρ = .er e := this; rw [this]; rfl
  | bad => trivial
theorem v_isCP {l : XT} {c : Nat} {fs : List Str} {b : Bool} (h0 : l.lookup c = some b) {a : t.T} {m : En → Res D} (h : VR (Ty.enc (.ins c fs t)) L (.ok a) m) : VR (Ty.enc .b) L (.ok b) (mIsC l m) := v_isC h0 h
/-- own __contains__ -/
theorem v_con {c : Nat} {φ : List D → Res D} {fs : List Str} {T : t.T → u.T → Res Bool} (h0 : ∀ r a, Rx (Ty.enc .b) (T r a) (φ [Ty.enc (.ins c fs t) r, u.enc a])) {a : u.T} {r : t.T} {m n : En → Res D} (h : VR u.enc L (.ok a) m) (h2 : VR (Ty.enc (.ins c fs t)) L (.ok r) n) : VR (Ty.enc .b) L (noEr (T r a)) (mOp2 (fCon c φ) m n) := fun ρ M => by
  have e1 : m ρ = .ok (u.enc a) := h ρ M
  have e2 : n ρ = .ok (.ins c fs (t.encA r)) := h2 ρ M
  show Rx _ _ ((m ρ).bind fun x => (n ρ).bind fun y => Res.ofO (fCon c φ x y))
  rw [e1, e2]
  have := h0 r a
  show Rx _ _ (Res.ofO (if c = c then (match φ [Ty.enc (.ins c fs t) r, u.enc a] with | .ok (.bl b) => some (D.bl b) | _ => none) else none))
  rw [if_pos rfl]
  cases q : T r a with
  | ok b => rw [q] at this; have this : φ _ = .ok (.bl b) := this; rw [this]; rfl
  | er e => trivial
  | bad => trivial
theorem v_ncon {c : Nat} {φ : List D → Res D} {fs : List Str} {T : t.T → u.T → Res Bool} (h0 : ∀ r a, Rx (Ty.enc .b) (T r a) (φ [Ty.enc (.ins c fs t) r, u.enc a])) {a : u.T} {r : t.T} {m n : En → Res D} (h : VR u.enc L (.ok a) m) (h2 : VR (Ty.enc (.ins c fs t)) L (.ok r) n) : VR (Ty.enc .b) L (noEr ((T r a).bind fun b => .ok (!b))) (mOp2 (fNotCon c φ) m n) := fun ρ M => by
  have e1 : m ρ = .ok (u.enc a) := h ρ M
  have e2 : n ρ = .ok (.ins c fs (t.encA r)) := h2 ρ M
  show Rx _ _ ((m ρ).bind fun x => (n ρ).bind fun y => Res.ofO (fNotCon c φ x y))
  rw [e1, e2]
  have := h0 r a
  show Rx _ _ (Res.ofO (if c = c then (match φ [Ty.enc (.ins c fs t) r, u.enc a] with | .ok (.bl b) => some (D.bl (!b)) | _ => none) else none))
  rw [if_pos rfl]
  cases q : T r a with
  | ok b => rw [q] at this; have this : φ _ = .ok (.bl b) := this; rw [this]; rfl
  | er e => trivial
  | bad => trivial
/-- chains -/
theorem v_chain {v : Ty} {F G : D → D → Option D} {p : t.T → u.T → Bool} {q : u.T → v.T → Bool} (S1 : ∀ a b, F (t.enc a) (u.enc b) = some (.bl (p a b))) (S2 : ∀ a b, G (u.enc a) (v.enc b) = some (.bl (q a b))) {a : t.T} {b : u.T} {c : v.T} {m n o : En → Res D} (h : VR t.enc L (.ok a) m) (h2 : VR u.enc L (.ok b) n) (h3 : VR v.enc L (.ok c) o) :
    VR (Ty.enc .b) L (.ok (p a b && q b c)) (mCh F G m n o) := fun ρ M => by
  have e1 : m ρ = .ok (t.enc a) := h ρ M
  have e2 : n ρ = .ok (u.enc b) := h2 ρ M
  have e3 : o ρ = .ok (v.enc c) := h3 ρ M
  unfold mCh
  rw [e1, e2, e3]
  show (match F (t.enc a) (u.enc b) with | some (.bl true) => (Res.ok (v.enc c)).bind fun z => Res.ofO (G (u.enc b) z) | some (.bl false) => .ok (.bl false) | _ => .bad) = _
  rw [S1]
  cases p a b with
  | false => rfl
  | true => show Res.ofO (G (u.enc b) (v.enc c)) = _; rw [S2]; rfl
theorem v_chainR {v : Ty} {F G : D → D → Option D} {p : t.T → u.T → Bool} {q : u.T → v.T → Bool} (S1 : ∀ a b, F (t.enc a) (u.enc b) = some (.bl (p a b))) (S2 : ∀ a b, G (u.enc a) (v.enc b) = some (.bl (q a b))) {x : Res t.T} {y : Res u.T} {w : Res v.T} {m n o : En → Res D} (h : VR t.enc L x m) (h2 : VR u.enc L y n) (h3 : VR v.enc L w o) :
    VR (Ty.enc .b) L (x.bind fun a => y.bind fun b => if p a b then w.bind fun c => .ok (q b c) else .ok false) (mCh F G m n o) := fun ρ M => rx_bind (h ρ M) fun a => rx_bind (h2 ρ M) fun b => by
  rw [S1]
  cases p a b with
  | false => rfl
  | true => exact rx_bind (h3 ρ M) fun c => by rw [S2]; rfl
theorem s_lt (a b : Int) : fLt (Ty.enc .z a) (Ty.enc .z b) = some (.bl (decide (a < b))) := rfl
theorem s_le (a b : Int) : fLe (Ty.enc .z a) (Ty.enc .z b) = some (.bl (decide (a ≤ b))) := rfl
theorem s_gt (a b : Int) : fGt (Ty.enc .z a) (Ty.enc .z b) = some (.bl (decide (b < a))) := rfl
theorem s_ge (a b : Int) : fGe (Ty.enc .z a) (Ty.enc .z b) = some (.bl (decide (b ≤ a))) := rfl
theorem s_eq (a b : Int) : fEq (Ty.enc .z a) (Ty.enc .z b) = some (.bl (decide (a = b))) := fEq_ii a b
theorem s_eqG (h : t.eqOk = true) [DecidableEq t.T] (a b : t.T) : fEq (t.enc a) (t.enc b) = some (.bl (decide (a = b))) := by
  have : Res.ofO (fEq (t.enc a) (t.enc b)) = .ok (.bl (decide (a = b))) := eq_fin h a b
  cases q : fEq (t.enc a) (t.enc b) with
  | none => rw [q] at this; cases this
  | some d => rw [q] at this; cases this; rfl
/-! ### built-ins: from the values -/
theorem o_lenL (a : List t.T) : Rx (Ty.enc .z) (.ok (a.length : Int)) (KO fLen [Ty.enc (.lst t) a]) := by show Res.ok (D.int ((a.map t.enc).length : Int)) = _; rw [List.length_map]; rfl
theorem o_lenT (a : List t.T) : Rx (Ty.enc .z) (.ok (a.length : Int)) (KO fLen [Ty.enc (.tup t) a]) := by show Res.ok (D.int ((a.map t.enc).length : Int)) = _; rw [List.length_map]; rfl
theorem o_lenS (a : List Int) : Rx (Ty.enc .z) (.ok (a.length : Int)) (KO fLen [Ty.enc .scr a]) := rfl
theorem o_abs (a : Int) : Rx (Ty.enc .z) (.ok (if a < 0 then -a else a)) (KO fAbs [Ty.enc .z a]) := rfl
theorem o_int (a : Int) : Rx (Ty.enc .z) (.ok a) (KO fInt [Ty.enc .z a]) := rfl
theorem o_intB (a : Bool) : Rx (Ty.enc .z) (.ok (if a then 1 else 0)) (KO fInt [Ty.enc .b a]) := rfl
theorem o_gcd (a b : Int) : Rx (Ty.enc .z) (.ok ((Nat.gcd a.natAbs b.natAbs : Nat) : Int)) (KO fGcd [Ty.enc .z a, Ty.enc .z b]) := rfl
theorem o_tupL (a : List t.T) : Rx (Ty.enc (.tup t)) (.ok a) (KO fTuple [Ty.enc (.lst t) a]) := rfl
theorem o_tupT (a : List t.T) : Rx (Ty.enc (.tup t)) (.ok a) (KO fTuple [Ty.enc (.tup t) a]) := rfl
theorem o_sumL (a : List Int) : Rx (Ty.enc .z) (.ok a.sum) (KO fSum [Ty.enc (.lst .z) a]) := by
  show Res.ofO ((intsOf (zs a)).map fun ns => D.int ns.sum) = _
  rw [intsOf_ints]; rfl
theorem o_sumT (a : List Int) : Rx (Ty.enc .z) (.ok a.sum) (KO fSum [Ty.enc (.tup .z) a]) := by
  show Res.ofO ((intsOf (zs a)).map fun ns => D.int ns.sum) = _
  rw [intsOf_ints]; rfl
theorem o_any (a : List Bool) : Rx (Ty.enc .b) (.ok (a.any id)) (KO fAny [Ty.enc (.lst .b) a]) := by
  show Res.ofO ((blsOf (bls a)).map fun ns => D.bl (ns.any id)) = _
  rw [blsOf_bls]; rfl
theorem o_all (a : List Bool) : Rx (Ty.enc .b) (.ok (a.all id)) (KO fAll [Ty.enc (.lst .b) a]) := by
  show Res.ofO ((blsOf (bls a)).map fun ns => D.bl (ns.all id)) = _
  rw [blsOf_bls]; rfl
theorem o_min (a : List Int) : Rx (Ty.enc .z) (minT a) (KO fMin [Ty.enc (.lst .z) a]) := by
  show Rx _ _ (Res.ofO ((intsOf (zs a)).bind fun ns => (minI ns).map D.int))
  rw [intsOf_ints]; exact rx_ofo
theorem o_max (a : List Int) : Rx (Ty.enc .z) (maxT a) (KO fMax [Ty.enc (.lst .z) a]) := by
  show Rx _ _ (Res.ofO ((intsOf (zs a)).bind fun ns => (maxI ns).map D.int))
  rw [intsOf_ints]; exact rx_ofo
theorem o_min2 (a b : Int) : Rx (Ty.enc .z) (.ok (if b < a then b else a)) (KO fMin [Ty.enc .z a, Ty.enc .z b]) := rfl
theorem o_max2 (a b : Int) : Rx (Ty.enc .z) (.ok (if b > a then b else a)) (KO fMax [Ty.enc .z a, Ty.enc .z b]) := rfl
theorem v_listL {x : Res (List t.T)} {m : En → Res D} (h : VR (Ty.enc (.lst t)) L x m) : VR (cnl t) L x (mList m) := fun ρ M => by
  have := h ρ M
  unfold mList
  cases x with
  | ok a => have this : m ρ = .ok (.lst (a.map t.enc)) := this; rw [this]; rfl
  | er e => have this : m ρ = .er e := this; rw [this]; rfl
  | bad => trivial
theorem v_listT {x : Res (List t.T)} {m : En → Res D} (h : VR (Ty.enc (.tup t)) L x m) : VR (cnl t) L x (mList m) := fun ρ M => by
  have := h ρ M
  unfold mList
  cases x with
  | ok a => have this : m ρ = .ok (.tup (a.map t.enc)) := this; rw [this]; rfl
  | er e => have this : m ρ = .er e := this; rw [this]; rfl
  | bad => trivial
/-! ### slices -/
theorem p_noneP : VR (fun o : Option Int => o) L (.ok none) mNoPart := fun ρ M => rfl
theorem p_someP {i : Int} {m : En → Res D} (h : VR (Ty.enc .z) L (.ok i) m) : VR (fun o : Option Int => o) L (.ok (some i)) (mPart m) := fun ρ M => by
  have e : m ρ = .ok (.int i) := h ρ M
  unfold mPart
  rw [e]; rfl
theorem p_some {x : Res Int} {m : En → Res D} (h : VR (Ty.enc .z) L x m) : VR (fun o : Option Int => o) L (x.bind fun i => .ok (some i)) (mPart m) := fun ρ M => rx_bind (h ρ M) fun i => rfl
theorem cut_map (f : α → β) (xs : List α) (lo hi : Option Int) : (cutT xs lo hi).map f = (((xs.map f).drop (HT.sIx (xs.map f).length 0 lo)).take (HT.sIx (xs.map f).length (xs.map f).length hi - HT.sIx (xs.map f).length 0 lo)) := by
  unfold cutT
  rw [List.map_take, List.map_drop, List.length_map]
theorem v_slL {x : Res (List t.T)} {lo hi : Res (Option Int)} {m : En → Res D} {ml mh : En → Res (Option Int)} (h : VR (Ty.enc (.lst t)) L x m) (h2 : VR (fun o : Option Int => o) L lo ml) (h3 : VR (fun o : Option Int => o) L hi mh) : VR (Ty.enc (.lst t)) L (x.bind fun a => lo.bind fun l => hi.bind fun h => .ok (cutT a l h)) (mSl m ml mh) := fun ρ M =>
  rx_bind (h ρ M) fun a => rx_bind (h2 ρ M) fun l => rx_bind (h3 ρ M) fun h => by
    show Res.ok (D.lst (cutD (a.map t.enc) l h)) = .ok (.lst ((cutT a l h).map t.enc))
    rw [cut_map]; rfl
theorem v_slT {x : Res (List t.T)} {lo hi : Res (Option Int)} {m : En → Res D} {ml mh : En → Res (Option Int)} (h : VR (Ty.enc (.tup t)) L x m) (h2 : VR (fun o : Option Int => o) L lo ml) (h3 : VR (fun o : Option Int => o) L hi mh) : VR (Ty.enc (.tup t)) L (x.bind fun a => lo.bind fun l => hi.bind fun h => .ok (cutT a l h)) (mSl m ml mh) := fun ρ M =>
  rx_bind (h ρ M) fun a => rx_bind (h2 ρ M) fun l => rx_bind (h3 ρ M) fun h => by
    show Res.ok (D.tup (cutD (a.map t.enc) l h)) = .ok (.tup ((cutT a l h).map t.enc))
    rw [cut_map]; rfl
theorem v_slLP {a : List t.T} {l h : Option Int} {m : En → Res D} {ml mh : En → Res (Option Int)} (h1 : VR (Ty.enc (.lst t)) L (.ok a) m) (h2 : VR (fun o : Option Int => o) L (.ok l) ml) (h3 : VR (fun o : Option Int => o) L (.ok h) mh) : VR (Ty.enc (.lst t)) L (.ok (cutT a l h)) (mSl m ml mh) := v_slL h1 h2 h3
theorem v_slTP {a : List t.T} {l h : Option Int} {m : En → Res D} {ml mh : En → Res (Option Int)} (h1 : VR (Ty.enc (.tup t)) L (.ok a) m) (h2 : VR (fun o : Option Int => o) L (.ok l) ml) (h3 : VR (fun o : Option Int => o) L (.ok h) mh) : VR (Ty.enc (.tup t)) L (.ok (cutT a l h)) (mSl m ml mh) := v_slT h1 h2 h3
/-! ### index of an owned list -/
theorem v_ixO {s : Nat} {xs : List t.T} {x : Res Int} {m : En → Res D} (h0 : L[s]? = some (.ow (.l (xs.map t.enc)))) (h : VR (Ty.enc .z) L x m) : VR t.enc L (x.bind fun i => ixT xs i) (mIxO s m) := fun ρ M => by
  unfold mIxO
  rw [M.ow h0]
  exact rx_bind (h ρ M) fun i => ix_l xs i
theorem v_ixOP {s : Nat} {xs : List t.T} {i : Int} {m : En → Res D} (h0 : L[s]? = some (.ow (.l (xs.map t.enc)))) (h : VR (Ty.enc .z) L (.ok i) m) : VR t.enc L (ixT xs i) (mIxO s m) := v_ixO h0 h
theorem tupsOf_enc : ∀ ls : List (List Int), (ls.all fun l => decide (l.length ≤ 1000)) = true → tupsOf (ls.map (Ty.enc (.tup .z))) = some ls
  | [], _ => rfl
  | l :: ls, h => by
    simp only [List.all_cons, Bool.and_eq_true, decide_eq_true_eq] at h
    show (match intsOf (zs l), tupsOf (ls.map (Ty.enc (.tup .z))) with | some l, some ls => if l.length ≤ 1000 then some (l :: ls) else none | _, _ => none) = _
    rw [intsOf_ints, tupsOf_enc ls (by simpa using h.2)]
    simp [h.1]
theorem v_sort {x : Res (List (List Int))} {m : En → Res D} (h : VR (Ty.enc (.lst (.tup .z))) L x m) : VR (Ty.enc (.lst (.tup .z))) L (x.bind sortT) (mSortO m) := fun ρ M => rx_bind (h ρ M) fun ls => by
  show Rx _ _ (Res.ofO ((tupsOf (ls.map (Ty.enc (.tup .z)))).map fun ls => D.lst ((srtL ls).map fun l => D.tup (l.map .int))))
  unfold sortT
  rw [iteC_eq]
  split
  · rename_i q
    rw [tupsOf_enc ls q]; rfl
  · trivial
end
/-! ## statements -/
inductive Stp (σ R : Type) where
  | nx (s : σ) | rt (r : R) | bk (s : σ)
def GX {α : Type} (Rl : α → Fl → Prop) (x : Res α) (y : Option Fl) : Prop := match x with
  | .ok a => ∃ f, y = some f ∧ Rl a f
  | .er e => ∃ ρ', y = some (.ex e ρ')
  | .bad => True
def GR {α : Type} (Rl : α → Fl → Prop) (L : List Spt) (x : Res α) (ms : En → Option Fl) : Prop := ∀ ρ, Mat L ρ → GX Rl x (ms ρ)
def RR {R : Type} (enc : R → D) : R → Fl → Prop := fun r f => f = .rt (enc r)
def RN {σ : Type} (E : σ → List Spt) : σ → Fl → Prop := fun s f => ∃ ρ', (f = .nx ρ' ∨ f = .ct ρ') ∧ Mat (E s) ρ'
def RS {σ R : Type} (E : σ → List Spt) (enc : R → D) : Stp σ R → Fl → Prop
  | .nx s, f => ∃ ρ', (f = .nx ρ' ∨ f = .ct ρ') ∧ Mat (E s) ρ'
  | .rt r, f => f = .rt (enc r)
  | .bk s, f => ∃ ρ', f = .bk ρ' ∧ Mat (E s) ρ'
def Stp.out {σ R α : Type} (k : σ → Res α) (inj : R → Res α) : Stp σ R → Res α
  | .nx s => k s
  | .bk s => k s
  | .rt r => inj r
def foldT {σ α : Type} (f : σ → α → Res σ) : σ → List α → Res σ
  | s, [] => .ok s
  | s, a :: as => (f s a).bind fun s' => foldT f s' as
def loopT {σ α R : Type} (f : σ → α → Res (Stp σ R)) : σ → List α → Res (Stp σ R)
  | s, [] => .ok (.nx s)
  | s, a :: as => (f s a).bind fun r => match r with
    | .nx s' => loopT f s' as
    | .rt r => .ok (.rt r)
    | .bk s' => .ok (.nx s')
section
variable {α β γ δ σ R : Type} {L : List Spt} {t u v : Ty} {Rl : α → Fl → Prop} {rest a b c : En → Option Fl}
theorem gx_bind {x : Res β} {k : β → Res α} {m : Res γ} {f : β → γ} {g : γ → Option Fl} {ρ : En} (h : Rx f x m) (hk : ∀ b, GX Rl (k b) (g (f b))) (rest : En → Option Fl) : GX Rl (x.bind k) (match runE ρ m g with | some (.nx ρ1) => rest ρ1 | r => r) → GX Rl (x.bind k) (match runE ρ m g with | some (.nx ρ1) => rest ρ1 | r => r) := id
theorem g_assoc {x : Res α} (h : GR Rl L x (sSeq a (sSeq b c))) : GR Rl L x (sSeq (sSeq a b) c) := fun ρ M => by
  have := h ρ M
  have e : sSeq (sSeq a b) c ρ = sSeq a (sSeq b c) ρ := by
    unfold sSeq
    cases a ρ with
    | none => rfl
    | some f => cases f <;> rfl
  rw [e]; exact this
theorem g_last {x : Res α} (h : GR Rl L x (sSeq a sNop)) : GR Rl L x a := fun ρ M => by
  have := h ρ M
  have e : sSeq a sNop ρ = a ρ := by
    unfold sSeq
    cases a ρ with
    | none => rfl
    | some f => cases f <;> rfl
  rw [← e]; exact this
theorem g_nop {x : Res α} (h : GR Rl L x rest) : GR Rl L x (sSeq sNop rest) := fun ρ M => h ρ M
theorem g_frz {i : Nat} {c : Cn} {x : Res α} (h0 : L[i]? = some (.ow c)) (h : GR Rl (L.set i (.im c.d)) x (sSeq a rest)) : GR Rl L x (sSeq (sFrz i a) rest) := fun ρ M => h _ (M.frz h0)
theorem g_frz0 {i : Nat} {d : D} {x : Res α} (h0 : L[i]? = some (.im d)) (h : GR Rl L x (sSeq a rest)) : GR Rl L x (sSeq (sFrz i a) rest) := fun ρ M => by
  have e : frz1 i ρ = ρ := by unfold frz1; rw [M.im h0]
  show GX Rl x (match a (frz1 i ρ) with | some (.nx ρ1) => rest ρ1 | r => r)
  rw [e]; exact h ρ M
theorem g_wk {L' : List Spt} {x : Res α} (w : Wk L L') (h : GR Rl L' x a) : GR Rl L x a := fun ρ M => h ρ (w ρ M)
theorem g_set (i : Nat) {x : Res t.T} {k : t.T → Res α} {m : En → Res D} (hm : VR t.enc L x m) (hk : ∀ a, GR Rl (L.set i (.im (t.enc a))) (k a) rest) : GR Rl L (x.bind k) (sSeq (sSet i m) rest) := fun ρ M => by
  have h := hm ρ M
  unfold sSeq sSet
  cases x with
  | ok a => have h : m ρ = .ok (t.enc a) := h; rw [h]; exact hk a _ (M.set i sm_im)
  | er e => have h : m ρ = .er e := h; rw [h]; exact ⟨ρ, rfl⟩
  | bad => trivial
theorem g_own (i : Nat) {x : Res (List t.T)} {k : List t.T → Res α} {m : En → Res Cn} (hm : VR (cnl t) L x m) (hk : ∀ a, GR Rl (L.set i (.ow (.l (a.map t.enc)))) (k a) rest) : GR Rl L (x.bind k) (sSeq (sOwn i m) rest) := fun ρ M => by
  have h := hm ρ M
  unfold sSeq sOwn
  cases x with
  | ok a => have h : m ρ = .ok (.l (a.map t.enc)) := h; rw [h]; exact hk a _ (M.set i sm_ow)
  | er e => have h : m ρ = .er e := h; rw [h]; exact ⟨ρ, rfl⟩
  | bad => trivial
theorem g_asg {bt : D → En → Option En} {P : t.T → List Spt → List Spt} {x : Res t.T} {k : t.T → Res α} {m : En → Res D} (hm : VR t.enc L x m) (hg : TG t bt P) (hk : ∀ a, GR Rl (P a L) (k a) rest) : GR Rl L (x.bind k) (sSeq (sAsg bt m) rest) := fun ρ M => by
  have h := hm ρ M
  unfold sSeq sAsg
  cases x with
  | ok a =>
    have h : m ρ = .ok (t.enc a) := h
    obtain ⟨ρ1, h1, h2⟩ := hg a ρ L M
    rw [h]; simp only [runE]; rw [h1]; exact hk a _ h2
  | er e => have h : m ρ = .er e := h; rw [h]; exact ⟨ρ, rfl⟩
  | bad => trivial
theorem g_exp {f : β → D} {x : Res β} {k : Res α} {m : En → Res D} (hm : VR f L x m) (hk : GR Rl L k rest) : GR Rl L (x.bind fun _ => k) (sSeq (sExp m) rest) := fun ρ M => by
  have h := hm ρ M
  unfold sSeq sExp
  cases x with
  | ok a => have h : m ρ = .ok (f a) := h; rw [h]; exact hk _ M
  | er e => have h : m ρ = .er e := h; rw [h]; exact ⟨ρ, rfl⟩
  | bad => trivial
theorem g_app {i : Nat} {xs : List t.T} {x : Res t.T} {k : List t.T → Res α} {m : En → Res D} (h0 : L[i]? = some (.ow (.l (xs.map t.enc)))) (hm : VR t.enc L x m) (hk : ∀ a, GR Rl (L.set i (.ow (.l (a.map t.enc)))) (k a) rest) : GR Rl L (x.bind fun a => (appT xs a).bind k) (sSeq (sApp i (mCons m mNil)) rest) := fun ρ M => by
  have h := hm ρ M
  unfold sSeq sApp
  rw [M.ow h0]
  cases x with
  | ok a =>
    have h : m ρ = .ok (t.enc a) := h
    have e : mCons m mNil ρ = .ok [t.enc a] := by unfold mCons; rw [h]; rfl
    simp only [e, runE, List.length_map]
    show GX Rl ((appT xs a).bind k) _
    unfold appT
    rw [iteC_eq]
    split
    · have := hk (xs ++ [a]) _ (M.set i sm_ow)
      rw [List.map_append] at this
      exact this
    · trivial
  | er e =>
    have h : m ρ = .er e := h
    have e : mCons m mNil ρ = .er e := by unfold mCons; rw [h]; rfl
    simp only [e, runE]
    exact ⟨ρ, rfl⟩
  | bad => trivial
theorem g_appP {i : Nat} {xs : List t.T} {a : t.T} {k : List t.T → Res α} {m : En → Res D} (h0 : L[i]? = some (.ow (.l (xs.map t.enc)))) (hm : VR t.enc L (.ok a) m) (hk : ∀ a, GR Rl (L.set i (.ow (.l (a.map t.enc)))) (k a) rest) : GR Rl L ((appT xs a).bind k) (sSeq (sApp i (mCons m mNil)) rest) := g_app h0 hm hk
theorem g_ins {i : Nat} {xs : List t.T} {y : Res Int} {x : Res t.T} {k : List t.T → Res α} {n m : En → Res D} (h0 : L[i]? = some (.ow (.l (xs.map t.enc)))) (hn : VR (Ty.enc .z) L y n) (hm : VR t.enc L x m) (hk : ∀ a, GR Rl (L.set i (.ow (.l (a.map t.enc)))) (k a) rest) : GR Rl L (y.bind fun j => x.bind fun a => (insT xs j a).bind k) (sSeq (sIns i (mCons n (mCons m mNil))) rest) := fun ρ M => by
  have h1 := hn ρ M
  have h := hm ρ M
  unfold sSeq sIns
  rw [M.ow h0]
  cases y with
  | ok j =>
    have h1 : n ρ = .ok (.int j) := h1
    cases x with
    | ok a =>
      have h : m ρ = .ok (t.enc a) := h
      have e : mCons n (mCons m mNil) ρ = .ok [.int j, t.enc a] := by unfold mCons; rw [h1, h]; rfl
      simp only [e, runE, List.length_map]
      show GX Rl ((insT xs j a).bind k) _
      unfold insT
      rw [iteC_eq]
      split
      · have := hk (xs.take j.toNat ++ [a] ++ xs.drop j.toNat) _ (M.set i sm_ow)
        rw [List.map_append, List.map_append, List.map_take, List.map_drop] at this
        exact this
      · trivial
    | er e =>
      have h : m ρ = .er e := h
      have e : mCons n (mCons m mNil) ρ = .er e := by unfold mCons; rw [h1, h]; rfl
      simp only [e, runE]
      exact ⟨ρ, rfl⟩
    | bad => trivial
  | er e =>
    have h1 : n ρ = .er e := h1
    have e : mCons n (mCons m mNil) ρ = .er e := by unfold mCons; rw [h1]; rfl
    simp only [e, runE]
    exact ⟨ρ, rfl⟩
  | bad => trivial
theorem g_idx {i : Nat} {xs : List t.T} {y : Res Int} {x : Res t.T} {k : List t.T → Res α} {n m : En → Res D} (h0 : L[i]? = some (.ow (.l (xs.map t.enc)))) (hn : VR (Ty.enc .z) L y n) (hm : VR t.enc L x m) (hk : ∀ a, GR Rl (L.set i (.ow (.l (a.map t.enc)))) (k a) rest) : GR Rl L (x.bind fun a => y.bind fun j => (setT xs j a).bind k) (sSeq (sIdx i n m) rest) := fun ρ M => by
  have h1 := hn ρ M
  have h := hm ρ M
  unfold sSeq sIdx
  rw [M.ow h0]
  cases x with
  | ok a =>
    have h : m ρ = .ok (t.enc a) := h
    simp only [h, runE]
    cases y with
    | ok j =>
      have h1 : n ρ = .ok (.int j) := h1
      simp only [h1, List.length_map]
      show GX Rl ((setT xs j a).bind k) _
      unfold setT
      cases q : ixN xs.length j with
      | none => trivial
      | some l =>
        have := hk (xs.set l a) _ (M.set i sm_ow)
        rw [List.map_set] at this
        exact this
    | er e =>
      have h1 : n ρ = .er e := h1
      simp only [h1]
      exact ⟨ρ, rfl⟩
    | bad => trivial
  | er e =>
    have h : m ρ = .er e := h
    simp only [h, runE]
    exact ⟨ρ, rfl⟩
  | bad => trivial
theorem g_if {x : Res Bool} {p q : Res α} {m : En → Res Bool} (hc : VR id L x m) (h1 : GR Rl L p (sSeq a rest)) (h2 : GR Rl L q (sSeq b rest)) : GR Rl L (x.bind fun b => if b then p else q) (sSeq (sIf m a b) rest) := fun ρ M => by
  have h := hc ρ M
  unfold sSeq sIf
  cases x with
  | ok k =>
    have h : m ρ = .ok k := h
    rw [h]
    cases k with
    | true => exact h1 ρ M
    | false => exact h2 ρ M
  | er e => have h : m ρ = .er e := h; rw [h]; exact ⟨ρ, rfl⟩
  | bad => trivial
theorem g_ifP {x : Bool} {p q : Res α} {m : En → Res Bool} (hc : VR id L (.ok x) m) (h1 : GR Rl L p (sSeq a rest)) (h2 : GR Rl L q (sSeq b rest)) : GR Rl L (if x then p else q) (sSeq (sIf m a b) rest) := g_if hc h1 h2
/-- a part that ends in a state, and what follows -/
theorem g_join {E : σ → List Spt} {x : Res σ} {k : σ → Res α} (h1 : GR (fun s f => ∃ ρ', f = .nx ρ' ∧ Mat (E s) ρ') L x a) (h2 : ∀ s, GR Rl (E s) (k s) rest) : GR Rl L (x.bind k) (sSeq a rest) := fun ρ M => by
  have h := h1 ρ M
  unfold sSeq
  cases x with
  | ok s =>
    obtain ⟨f, e, ρ', rfl, m'⟩ := h
    rw [e]; exact h2 s ρ' m'
  | er e => obtain ⟨ρ', e⟩ := h; rw [e]; exact ⟨ρ', rfl⟩
  | bad => trivial
theorem g_stay {E : σ → List Spt} {s : σ} (w : Wk L (E s)) : GR (fun s f => ∃ ρ', f = .nx ρ' ∧ Mat (E s) ρ') L (.ok s) sNop := fun ρ M => ⟨_, rfl, ρ, rfl, w ρ M⟩
theorem g_endN {E : σ → List Spt} {s : σ} (w : Wk L (E s)) : GR (RN E) L (.ok s) sNop := fun ρ M => ⟨_, rfl, ρ, .inl rfl, w ρ M⟩
theorem g_cntN {E : σ → List Spt} {s : σ} (w : Wk L (E s)) : GR (RN E) L (.ok s) (sSeq sCnt rest) := fun ρ M => ⟨_, rfl, ρ, .inr rfl, w ρ M⟩
theorem g_endS {E : σ → List Spt} {enc : R → D} {s : σ} (w : Wk L (E s)) : GR (RS E enc) L (.ok (.nx s)) sNop := fun ρ M => ⟨_, rfl, ρ, .inl rfl, w ρ M⟩
theorem g_cntS {E : σ → List Spt} {enc : R → D} {s : σ} (w : Wk L (E s)) : GR (RS E enc) L (.ok (.nx s)) (sSeq sCnt rest) := fun ρ M => ⟨_, rfl, ρ, .inr rfl, w ρ M⟩
theorem g_brkS {E : σ → List Spt} {enc : R → D} {s : σ} (w : Wk L (E s)) : GR (RS E enc) L (.ok (.bk s)) (sSeq sBrk rest) := fun ρ M => ⟨_, rfl, ρ, rfl, w ρ M⟩
theorem g_ret {f : R → D} {x : Res R} {m : En → Res D} (hm : VR f L x m) : GR (RR f) L x (sSeq (sRet m) rest) := fun ρ M => by
  have h := hm ρ M
  unfold sSeq sRet
  cases x with
  | ok a => have h : m ρ = .ok (f a) := h; rw [h]; exact ⟨_, rfl, rfl⟩
  | er e => have h : m ρ = .er e := h; rw [h]; exact ⟨ρ, rfl⟩
  | bad => trivial
theorem g_retS {E : σ → List Spt} {f : R → D} {x : Res R} {m : En → Res D} (hm : VR f L x m) : GR (RS E f) L (x.bind fun r => .ok (.rt r)) (sSeq (sRet m) rest) := fun ρ M => by
  have h := hm ρ M
  unfold sSeq sRet
  cases x with
  | ok a => have h : m ρ = .ok (f a) := h; rw [h]; exact ⟨_, rfl, rfl⟩
  | er e => have h : m ρ = .er e := h; rw [h]; exact ⟨ρ, rfl⟩
  | bad => trivial
theorem g_retSP {E : σ → List Spt} {f : R → D} {r : R} {m : En → Res D} (hm : VR f L (.ok r) m) : GR (RS E f) L (.ok (.rt r)) (sSeq (sRet m) rest) := g_retS hm
theorem g_retN {x : Res Unit} (e : x = .ok ()) : GR (RR (Ty.enc .n)) L x (sSeq sRetN rest) := fun ρ M => by subst e; exact ⟨_, rfl, rfl⟩
theorem g_raise0 {c : Nat} : GR Rl L (.er (.exc c [] [])) (sSeq (sRaise0 c) rest) := fun ρ M => ⟨ρ, rfl⟩
theorem g_raise1 {c : Nat} {f : Str} {x : Res t.T} {m : En → Res D} (hm : VR t.enc L x m) : GR Rl L (x.bind fun a => .er (.exc c [f] [t.enc a])) (sSeq (sRaiseX c [f] (mCons m mNil)) rest) := fun ρ M => by
  have h := hm ρ M
  unfold sSeq sRaiseX
  cases x with
  | ok a =>
    have h : m ρ = .ok (t.enc a) := h
    have e : mCons m mNil ρ = .ok [t.enc a] := by unfold mCons; rw [h]; rfl
    rw [e]; exact ⟨ρ, rfl⟩
  | er e =>
    have h : m ρ = .er e := h
    have e : mCons m mNil ρ = .er e := by unfold mCons; rw [h]; rfl
    rw [e]; exact ⟨ρ, rfl⟩
  | bad => trivial
theorem g_raise1P {c : Nat} {f : Str} {a : t.T} {m : En → Res D} (hm : VR t.enc L (.ok a) m) : GR Rl L (.er (.exc c [f] [t.enc a])) (sSeq (sRaiseX c [f] (mCons m mNil)) rest) := g_raise1 hm
theorem g_raise2 {c : Nat} {f g : Str} {x : Res t.T} {y : Res u.T} {m n : En → Res D} (hm : VR t.enc L x m) (hn : VR u.enc L y n) : GR Rl L (x.bind fun a => y.bind fun b => .er (.exc c [g, f] [u.enc b, t.enc a])) (sSeq (sRaiseX c [f, g] (mCons m (mCons n mNil))) rest) := fun ρ M => by
  have h := hm ρ M
  have h1 := hn ρ M
  unfold sSeq sRaiseX
  cases x with
  | ok a =>
    have h : m ρ = .ok (t.enc a) := h
    cases y with
    | ok b =>
      have h1 : n ρ = .ok (u.enc b) := h1
      have e : mCons m (mCons n mNil) ρ = .ok [t.enc a, u.enc b] := by unfold mCons; rw [h, h1]; rfl
      rw [e]; exact ⟨ρ, rfl⟩
    | er e =>
      have h1 : n ρ = .er e := h1
      have e : mCons m (mCons n mNil) ρ = .er e := by unfold mCons; rw [h, h1]; rfl
      rw [e]; exact ⟨ρ, rfl⟩
    | bad => trivial
  | er e =>
    have h : m ρ = .er e := h
    have e : mCons m (mCons n mNil) ρ = .er e := by unfold mCons; rw [h]; rfl
    rw [e]; exact ⟨ρ, rfl⟩
  | bad => trivial
-- loops
theorem fold_ok {E : σ → List Spt} {bt : D → En → Option En} {P : t.T → List Spt → List Spt} {f : σ → t.T → Res σ} {body : En → Option Fl} (hg : TG t bt P) (hb : ∀ s a, GR (RN E) (P a (E s)) (f s a) body) :
    ∀ (xs : List t.T) (s : σ) (ρ : En), Mat (E s) ρ → GX (fun s f => ∃ ρ', f = .nx ρ' ∧ Mat (E s) ρ') (foldT f s xs) (forL bt body (xs.map t.enc) ρ)
  | [], s, ρ, M => ⟨_, rfl, ρ, rfl, M⟩
  | a :: as, s, ρ, M => by
    obtain ⟨ρ1, h1, h2⟩ := hg a ρ _ M
    have h := hb s a ρ1 h2
    show GX _ ((f s a).bind _) (forL bt body (t.enc a :: as.map t.enc) ρ)
    unfold forL
    rw [h1]
    simp only
    cases q : f s a with
    | ok s' =>
      rw [q] at h
      obtain ⟨g, e, ρ', hf, m'⟩ := h
      rw [e]
      have := fold_ok hg hb as s' ρ' m'
      rcases hf with rfl | rfl <;> exact this
    | er e => rw [q] at h; obtain ⟨ρ', e⟩ := h; rw [e]; exact ⟨ρ', rfl⟩
    | bad => trivial
theorem g_for {E : σ → List Spt} {bt : D → En → Option En} {P : t.T → List Spt → List Spt} {f : σ → t.T → Res σ} {body : En → Option Fl} {x : Res (List t.T)} {mi : En → Res (List D)} {s0 : σ} {k : σ → Res α} (hi : VR (mpl t) L x mi) (hw : Wk L (E s0)) (hg : TG t bt P) (hb : ∀ s a, GR (RN E) (P a (E s)) (f s a) body) (hk : ∀ s, GR Rl (E s) (k s) rest) :
    GR Rl L (x.bind fun l => (foldT f s0 l).bind k) (sSeq (sFor bt mi body) rest) := fun ρ M => by
  have h := hi ρ M
  unfold sSeq sFor
  cases x with
  | ok l =>
    have h : mi ρ = .ok (l.map t.enc) := h
    rw [h]
    have h2 := fold_ok hg hb l s0 ρ (hw ρ M)
    show GX Rl ((foldT f s0 l).bind k) (match forL bt body (l.map t.enc) ρ with | some (.nx ρ1) => rest ρ1 | r => r)
    cases q : foldT f s0 l with
    | ok s' =>
      rw [q] at h2
      obtain ⟨g, e, ρ', rfl, m'⟩ := h2
      rw [e]; exact hk s' ρ' m'
    | er e => rw [q] at h2; obtain ⟨ρ', e⟩ := h2; rw [e]; exact ⟨ρ', rfl⟩
    | bad => trivial
  | er e => have h : mi ρ = .er e := h; rw [h]; exact ⟨ρ, rfl⟩
  | bad => trivial
theorem g_forP {E : σ → List Spt} {bt : D → En → Option En} {P : t.T → List Spt → List Spt} {f : σ → t.T → Res σ} {body : En → Option Fl} {l : List t.T} {mi : En → Res (List D)} {s0 : σ} {k : σ → Res α} (hi : VR (mpl t) L (.ok l) mi) (hw : Wk L (E s0)) (hg : TG t bt P) (hb : ∀ s a, GR (RN E) (P a (E s)) (f s a) body) (hk : ∀ s, GR Rl (E s) (k s) rest) :
    GR Rl L ((foldT f s0 l).bind k) (sSeq (sFor bt mi body) rest) := g_for hi hw hg hb hk
theorem loop_ok {E : σ → List Spt} {enc : R → D} {bt : D → En → Option En} {P : t.T → List Spt → List Spt} {f : σ → t.T → Res (Stp σ R)} {body : En → Option Fl} (hg : TG t bt P) (hb : ∀ s a, GR (RS E enc) (P a (E s)) (f s a) body) :
    ∀ (xs : List t.T) (s : σ) (ρ : En), Mat (E s) ρ → GX (fun r f => match r with | .rt r => f = .rt (enc r) | .nx s => ∃ ρ', f = .nx ρ' ∧ Mat (E s) ρ' | .bk s => ∃ ρ', f = .nx ρ' ∧ Mat (E s) ρ') (loopT f s xs) (forL bt body (xs.map t.enc) ρ)
  | [], s, ρ, M => ⟨_, rfl, ρ, rfl, M⟩
  | a :: as, s, ρ, M => by
    obtain ⟨ρ1, h1, h2⟩ := hg a ρ _ M
    have h := hb s a ρ1 h2
    show GX _ ((f s a).bind _) (forL bt body (t.enc a :: as.map t.enc) ρ)
    unfold forL
    rw [h1]
    simp only
    cases q : f s a with
    | ok r =>
      rw [q] at h
      cases r with
      | nx s' =>
        obtain ⟨g, e, ρ', hf, m'⟩ := h
        rw [e]
        have := loop_ok hg hb as s' ρ' m'
        rcases hf with rfl | rfl <;> exact this
      | rt r =>
        obtain ⟨g, e, rfl⟩ := h
        rw [e]
        exact ⟨_, rfl, rfl⟩
      | bk s' =>
        obtain ⟨g, e, ρ', rfl, m'⟩ := h
        rw [e]
        exact ⟨_, rfl, ρ', rfl, m'⟩
    | er e => rw [q] at h; obtain ⟨ρ', e⟩ := h; rw [e]; exact ⟨ρ', rfl⟩
    | bad => trivial
theorem g_loop {E : σ → List Spt} {enc : R → D} {inj : R → Res α} {bt : D → En → Option En} {P : t.T → List Spt → List Spt} {f : σ → t.T → Res (Stp σ R)} {body : En → Option Fl} {x : Res (List t.T)} {mi : En → Res (List D)} {s0 : σ} {k : σ → Res α} (hr : ∀ r, GX Rl (inj r) (some (.rt (enc r)))) (hi : VR (mpl t) L x mi) (hw : Wk L (E s0)) (hg : TG t bt P) (hb : ∀ s a, GR (RS E enc) (P a (E s)) (f s a) body) (hk : ∀ s, GR Rl (E s) (k s) rest) :
    GR Rl L (x.bind fun l => (loopT f s0 l).bind (Stp.out k inj)) (sSeq (sFor bt mi body) rest) := fun ρ M => by
  have h := hi ρ M
  unfold sSeq sFor
  cases x with
  | ok l =>
    have h : mi ρ = .ok (l.map t.enc) := h
    rw [h]
    have h2 := loop_ok hg hb l s0 ρ (hw ρ M)
    show GX Rl ((loopT f s0 l).bind (Stp.out k inj)) (match forL bt body (l.map t.enc) ρ with | some (.nx ρ1) => rest ρ1 | r => r)
    cases q : loopT f s0 l with
    | ok r =>
      rw [q] at h2
      obtain ⟨g, e, h2⟩ := h2
      rw [e]
      cases r with
      | nx s' => obtain ⟨ρ', rfl, m'⟩ := h2; exact hk s' ρ' m'
      | bk s' => obtain ⟨ρ', rfl, m'⟩ := h2; exact hk s' ρ' m'
      | rt r => cases h2; exact hr r
    | er e => rw [q] at h2; obtain ⟨ρ', e⟩ := h2; rw [e]; exact ⟨ρ', rfl⟩
    | bad => trivial
  | er e => have h : mi ρ = .er e := h; rw [h]; exact ⟨ρ, rfl⟩
  | bad => trivial
theorem g_loopP {E : σ → List Spt} {enc : R → D} {inj : R → Res α} {bt : D → En → Option En} {P : t.T → List Spt → List Spt} {f : σ → t.T → Res (Stp σ R)} {body : En → Option Fl} {l : List t.T} {mi : En → Res (List D)} {s0 : σ} {k : σ → Res α} (hr : ∀ r, GX Rl (inj r) (some (.rt (enc r)))) (hi : VR (mpl t) L (.ok l) mi) (hw : Wk L (E s0)) (hg : TG t bt P) (hb : ∀ s a, GR (RS E enc) (P a (E s)) (f s a) body) (hk : ∀ s, GR Rl (E s) (k s) rest) :
    GR Rl L ((loopT f s0 l).bind (Stp.out k inj)) (sSeq (sFor bt mi body) rest) := g_loop hr hi hw hg hb hk
theorem hr_R {enc : R → D} : ∀ r : R, GX (RR enc) (.ok r) (some (.rt (enc r))) := fun r => ⟨_, rfl, rfl⟩
theorem hr_S {E : σ → List Spt} {enc : R → D} : ∀ r : R, GX (RS E enc) (.ok (.rt r)) (some (.rt (enc r))) := fun r => ⟨_, rfl, rfl⟩
end
/-! ### while -/
def whTN {σ R : Type} (c : σ → Res Bool) (f : σ → Res (Stp σ R)) : Nat → σ → Option (Res (Stp σ R))
  | 0, _ => none
  | n + 1, s => match c s with
    | .ok true => (match f s with
      | .ok (.nx s') => whTN c f n s'
      | .ok (.rt r) => some (.ok (.rt r))
      | .ok (.bk s') => some (.ok (.nx s'))
      | .er e => some (.er e)
      | .bad => some .bad)
    | .ok false => some (.ok (.nx s))
    | .er e => some (.er e)
    | .bad => some .bad
theorem whTN_mono {σ R : Type} {c : σ → Res Bool} {f : σ → Res (Stp σ R)} : ∀ {n : Nat} {s : σ} {r : Res (Stp σ R)}, whTN c f n s = some r → ∀ m, whTN c f (n + m) s = some r
  | 0, _, _, e, _ => by cases e
  | n + 1, s, r, e, m => by
    rw [Nat.add_right_comm]
    unfold whTN at e ⊢
    cases q : c s with
    | ok b =>
      rw [q] at e
      cases b with
      | false => exact e
      | true =>
        simp only at e ⊢
        cases q2 : f s with
        | ok p =>
          rw [q2] at e
          cases p with
          | nx s' => exact whTN_mono (n := n) e m
          | rt r => exact e
          | bk s' => exact e
        | er d => rw [q2] at e; exact e
        | bad => rw [q2] at e; exact e
    | er d => rw [q] at e; exact e
    | bad => rw [q] at e; exact e
open Classical in
noncomputable def whT {σ R : Type} (c : σ → Res Bool) (f : σ → Res (Stp σ R)) (s : σ) : Res (Stp σ R) := if h : ∃ n r, whTN c f n s = some r then Classical.choose (Classical.choose_spec h) else .bad
theorem whT_eq {σ R : Type} {c : σ → Res Bool} {f : σ → Res (Stp σ R)} {s : σ} {n : Nat} {r : Res (Stp σ R)} (e : whTN c f n s = some r) : whT c f s = r := by
  have h : ∃ n r, whTN c f n s = some r := ⟨n, r, e⟩
  unfold whT
  rw [dif_pos h]
  have h2 := Classical.choose_spec (Classical.choose_spec h)
  have e1 := whTN_mono h2 n
  have e2 := whTN_mono e (Classical.choose h)
  rw [Nat.add_comm] at e2
  rw [e1] at e2
  exact Option.some.inj e2
section
variable {α β γ δ σ R : Type} {L : List Spt} {t u v : Ty} {Rl : α → Fl → Prop} {rest a b c : En → Option Fl}
theorem wh_ok {E : σ → List Spt} {enc : R → D} {c : σ → Res Bool} {f : σ → Res (Stp σ R)} {mc : En → Res Bool} {body : En → Option Fl} (hc : ∀ s, VR id (E s) (c s) mc) (hb : ∀ s, GR (RS E enc) (E s) (f s) body) :
    ∀ (n : Nat) (s : σ) (ρ : En) (r : Res (Stp σ R)), Mat (E s) ρ → whTN c f n s = some r → r = .bad ∨ ∃ y, whN mc body n ρ = some y ∧ GX (fun r f => match r with | .rt r => f = .rt (enc r) | .nx s => ∃ ρ', f = .nx ρ' ∧ Mat (E s) ρ' | .bk s => ∃ ρ', f = .nx ρ' ∧ Mat (E s) ρ') r (some y)
  | 0, _, _, _, _, e => by cases e
  | n + 1, s, ρ, r, M, e => by
    have h1 := hc s ρ M
    have h2 := hb s ρ M
    unfold whTN at e
    unfold whN
    cases q : c s with
    | ok b =>
      rw [q] at e h1
      have h1 : mc ρ = .ok b := h1
      rw [h1]
      cases b with
      | false => cases e; exact .inr ⟨_, rfl, _, rfl, ρ, rfl, M⟩
      | true =>
        simp only at e
        show _ ∨ ∃ y, (match body ρ with | some (.nx ρ2) => whN mc body n ρ2 | some (.ct ρ2) => whN mc body n ρ2 | some (.bk ρ2) => some (.nx ρ2) | r => r) = some y ∧ _
        cases q2 : f s with
        | ok p =>
          rw [q2] at e h2
          cases p with
          | nx s' =>
            obtain ⟨g, e2, ρ', hf, m'⟩ := h2
            rw [e2]
            have := wh_ok hc hb n s' ρ' r m' e
            rcases hf with rfl | rfl <;> exact this
          | rt r' =>
            cases e
            obtain ⟨g, e2, rfl⟩ := h2
            rw [e2]; exact .inr ⟨_, rfl, _, rfl, rfl⟩
          | bk s' =>
            cases e
            obtain ⟨g, e2, ρ', rfl, m'⟩ := h2
            rw [e2]; exact .inr ⟨_, rfl, _, rfl, ρ', rfl, m'⟩
        | er d => rw [q2] at e h2; cases e; obtain ⟨ρ', e2⟩ := h2; rw [e2]; exact .inr ⟨_, rfl, ρ', rfl⟩
        | bad => rw [q2] at e; cases e; exact .inl rfl
    | er d => rw [q] at e h1; cases e; have h1 : mc ρ = .er d := h1; rw [h1]; exact .inr ⟨_, rfl, ρ, rfl⟩
    | bad => rw [q] at e; cases e; exact .inl rfl
theorem g_wh {E : σ → List Spt} {enc : R → D} {inj : R → Res α} {c : σ → Res Bool} {f : σ → Res (Stp σ R)} {mc : En → Res Bool} {body : En → Option Fl} {s0 : σ} {k : σ → Res α} (hr : ∀ r, GX Rl (inj r) (some (.rt (enc r)))) (hw : Wk L (E s0)) (hc : ∀ s, VR id (E s) (c s) mc) (hb : ∀ s, GR (RS E enc) (E s) (f s) body) (hk : ∀ s, GR Rl (E s) (k s) rest) :
    GR Rl L ((whT c f s0).bind (Stp.out k inj)) (sSeq (sWh mc body) rest) := fun ρ M => by
  unfold sSeq
  by_cases h : ∃ n r, whTN c f n s0 = some r
  · obtain ⟨n, r, e⟩ := h
    rw [whT_eq e]
    rcases wh_ok hc hb n s0 ρ r (hw ρ M) e with rfl | ⟨y, h1, h2⟩
    · trivial
    · rw [sWh_eq h1]
      cases r with
      | ok r =>
        obtain ⟨g, e2, h2⟩ := h2
        cases e2
        cases r with
        | nx s' => obtain ⟨ρ', rfl, m'⟩ := h2; exact hk s' ρ' m'
        | bk s' => obtain ⟨ρ', rfl, m'⟩ := h2; exact hk s' ρ' m'
        | rt r => cases h2; exact hr r
      | er e => obtain ⟨ρ', e2⟩ := h2; cases e2; exact ⟨ρ', rfl⟩
      | bad => trivial
  · unfold whT
    rw [dif_neg h]; trivial
/-- a def -/
theorem f_ok {t : Ty} {n : Nat} {ms : En → Option Fl} {ds : List D} {x : Res t.T} (h : GR (RR t.enc) L x ms) (hM : Mat L (startE n ds)) : Rx t.enc x (runF n ms ds) := by
  have h := h _ hM
  unfold runF
  cases x with
  | ok a => obtain ⟨f, e, rfl⟩ := h; rw [e]; rfl
  | er e => obtain ⟨ρ', e⟩ := h; rw [e]; rfl
  | bad => trivial
end
end FL
namespace FL
open PySem L2
/-! ## a mirror read as a typed function -/
def Ty.ij : Ty → Bool
  | .z => true | .b => true | .s => true | .n => true | .scr => true | .raw => true
  | .lst t => t.ij && t.np | .tup t => t.ij && t.np
  | .pr t u => t.ij && t.np && u.ij
  | .fx t => t.ij
  | .opt t => t.ij && t.nn
  | .ins _ _ t => t.ij
theorem nn_ne : ∀ (t : Ty) (x : t.T), t.nn = true → t.enc x ≠ .non
  | .z, _, _ => nofun | .b, _, _ => nofun | .s, _, _ => nofun | .scr, _, _ => nofun
  | .lst _, _, _ => nofun | .tup _, _, _ => nofun | .fx _, _, _ => nofun | .ins _ _ _, _, _ => nofun
theorem map_inj {α β : Type} {f : α → β} (h : ∀ a b, f a = f b → a = b) : ∀ {xs ys : List α}, xs.map f = ys.map f → xs = ys
  | [], [], _ => rfl
  | [], _ :: _, e => by simp at e
  | _ :: _, [], e => by simp at e
  | x :: xs, y :: ys, e => by
    simp only [List.map_cons, List.cons.injEq] at e
    rw [h _ _ e.1, map_inj h e.2]
theorem enc_ij : ∀ (t : Ty), t.ij = true → (t.np = true → ∀ x y : t.T, t.enc x = t.enc y → x = y) ∧ (∀ x y : t.T, t.encA x = t.encA y → x = y)
  | .z, _ => ⟨fun _ x y e => by injection e, fun x y e => by injection e with e _; injection e⟩
  | .b, _ => ⟨fun _ x y e => by injection e, fun x y e => by injection e with e _; injection e⟩
  | .s, _ => ⟨fun _ x y e => by injection e, fun x y e => by injection e with e _; injection e⟩
  | .n, _ => ⟨fun _ x y e => rfl, fun x y e => rfl⟩
  | .scr, _ => ⟨fun _ x y e => by injection e, fun x y e => by injection e with e _; injection e⟩
  | .raw, _ => ⟨fun _ x y e => e, fun x y e => by injection e⟩
  | .lst t, p => by
    simp only [Ty.ij, Bool.and_eq_true] at p
    have h := (enc_ij t p.1).1 p.2
    exact ⟨fun _ x y e => by injection e with e; exact map_inj h e, fun x y e => by injection e with e _; injection e with e; exact map_inj h e⟩
  | .tup t, p => by
    simp only [Ty.ij, Bool.and_eq_true] at p
    have h := (enc_ij t p.1).1 p.2
    exact ⟨fun _ x y e => by injection e with e; exact map_inj h e, fun x y e => by injection e with e _; injection e with e; exact map_inj h e⟩
  | .pr t u, p => by
    simp only [Ty.ij, Bool.and_eq_true] at p
    refine ⟨fun q => by simp [Ty.np] at q, fun x y e => ?_⟩
    injection e with e1 e2
    exact Prod.ext ((enc_ij t p.1.1).1 p.1.2 _ _ e1) ((enc_ij u p.2).2 _ _ e2)
  | .fx t, p => by
    have h := (enc_ij t p).2
    exact ⟨fun _ x y e => by injection e with e; exact h _ _ e, fun x y e => by injection e with e _; injection e with e; exact h _ _ e⟩
  | .ins c fs t, p => by
    have h := (enc_ij t p).2
    exact ⟨fun _ x y e => by injection e with _ _ e; exact h _ _ e, fun x y e => by injection e with e _; injection e with _ _ e; exact h _ _ e⟩
  | .opt t, p => by
    simp only [Ty.ij, Bool.and_eq_true] at p
    have hn : t.np = true := by
      cases t <;> first | rfl | (exact absurd p.2 (by simp [Ty.nn]))
    have h := (enc_ij t p.1).1 hn
    have k : ∀ x y : Option t.T, Ty.enc (.opt t) x = Ty.enc (.opt t) y → x = y := by
      intro x y e
      cases x with
      | none => cases y with
        | none => rfl
        | some y => exact absurd (show t.enc y = .non from e.symm) (nn_ne t y p.2)
      | some x => cases y with
        | none => exact absurd (show t.enc x = .non from e) (nn_ne t x p.2)
        | some y => exact congrArg some (h x y e)
    exact ⟨fun _ => k, fun x y e => by
      rw [encA_np (t := .opt t) rfl, encA_np (t := .opt t) rfl] at e
      injection e with e _
      exact k _ _ e⟩
def Ty.decOk (t : Ty) : Bool := t.ij && t.np
noncomputable def decR (t : Ty) (r : Res D) : Res t.T :=
  @dite _ (∃ a : t.T, r = .ok (t.enc a)) (Classical.propDecidable _) (fun h => .ok (Classical.choose h)) fun _ =>
  @dite _ (∃ e : D, r = .er e) (Classical.propDecidable _) (fun h => .er (Classical.choose h)) fun _ => .bad
theorem decR_cases (t : Ty) (r : Res D) : (∃ a, decR t r = .ok a ∧ r = .ok (t.enc a)) ∨ (∃ e, decR t r = .er e ∧ r = .er e) ∨ decR t r = .bad := by
  unfold decR
  by_cases h : ∃ a : t.T, r = .ok (t.enc a)
  · rw [dif_pos h]; exact .inl ⟨_, rfl, Classical.choose_spec h⟩
  · rw [dif_neg h]
    by_cases h2 : ∃ e : D, r = .er e
    · rw [dif_pos h2]; exact .inr (.inl ⟨_, rfl, Classical.choose_spec h2⟩)
    · rw [dif_neg h2]; exact .inr (.inr rfl)
theorem rx_dec (t : Ty) (r : Res D) : Rx t.enc (decR t r) r := by
  rcases decR_cases t r with ⟨a, h1, h2⟩ | ⟨e, h1, h2⟩ | h
  · rw [h1]; exact h2
  · rw [h1]; exact h2
  · rw [h]; trivial
theorem decR_ok {t : Ty} (ht : t.decOk = true) {r : Res D} {a : t.T} (h : r = .ok (t.enc a)) : decR t r = .ok a := by
  have e : ∃ b : t.T, r = .ok (t.enc b) := ⟨a, h⟩
  unfold decR
  rw [dif_pos e]
  have h2 := h.symm.trans (Classical.choose_spec e)
  simp only [Ty.decOk, Bool.and_eq_true] at ht
  rw [← (enc_ij t ht.1).1 ht.2 a _ (Res.ok.inj h2)]
theorem decR_er {t : Ty} {r : Res D} {e : D} (h : r = .er e) : decR t r = .er e := by
  subst h
  rcases decR_cases t (.er e) with ⟨a, _, h2⟩ | ⟨e', h1, h2⟩ | h
  · cases h2
  · cases h2; exact h1
  · unfold decR at h
    rw [dif_neg (by rintro ⟨a, h⟩; cases h), dif_pos ⟨e, rfl⟩] at h
    cases h
/-- made instances -/
noncomputable def decC (t : Ty) (r : Res Cn) : Res t.T := decR t (r.bind fun c => .ok c.d)
theorem km_dec {t : Ty} {n : Nat} {φ : List D → Res Cn} {ds : List D} (hn : ds.length + 1 = n) : Rx t.enc (decC t (φ ds)) (KM n φ ds) := by
  unfold KM decC
  rw [if_pos hn]
  exact rx_dec t _
theorem decC_ok {t : Ty} (ht : t.decOk = true) {r : Res Cn} {c : Cn} {a : t.T} (h : r = .ok c) (e : c.d = t.enc a) : decC t r = .ok a := by
  subst h
  exact decR_ok ht (by show Res.ok c.d = _; rw [e])
theorem decC_er {t : Ty} {r : Res Cn} {e : D} (h : r = .er e) : decC t r = .er e := by subst h; exact decR_er rfl
section
variable {α β γ δ σ R : Type} {L : List Spt} {t u v : Ty} {Rl : α → Fl → Prop} {rest : En → Option Fl}
/-- own __contains__, of what is reckoned -/
theorem v_conR {c : Nat} {φ : List D → Res D} {fs : List Str} {T : t.T → u.T → Res Bool} (h0 : ∀ r a, Rx (Ty.enc .b) (T r a) (φ [Ty.enc (.ins c fs t) r, u.enc a])) {x : Res u.T} {y : Res t.T} {m n : En → Res D} (h : VR u.enc L x m) (h2 : VR (Ty.enc (.ins c fs t)) L y n) : VR (Ty.enc .b) L (x.bind fun a => y.bind fun r => noEr (T r a)) (mOp2 (fCon c φ) m n) := fun ρ M =>
  rx_bind (h ρ M) fun a => rx_bind (h2 ρ M) fun r => by
    have := h0 r a
    show Rx _ _ (Res.ofO (if c = c then (match φ [Ty.enc (.ins c fs t) r, u.enc a] with | .ok (.bl b) => some (D.bl b) | _ => none) else none))
    rw [if_pos rfl]
    cases q : T r a with
    | ok b => rw [q] at this; have this : φ _ = .ok (.bl b) := this; rw [this]; rfl
    | er e => trivial
    | bad => trivial
theorem v_nconR {c : Nat} {φ : List D → Res D} {fs : List Str} {T : t.T → u.T → Res Bool} (h0 : ∀ r a, Rx (Ty.enc .b) (T r a) (φ [Ty.enc (.ins c fs t) r, u.enc a])) {x : Res u.T} {y : Res t.T} {m n : En → Res D} (h : VR u.enc L x m) (h2 : VR (Ty.enc (.ins c fs t)) L y n) : VR (Ty.enc .b) L (x.bind fun a => y.bind fun r => noEr ((T r a).bind fun b => .ok (!b))) (mOp2 (fNotCon c φ) m n) := fun ρ M =>
  rx_bind (h ρ M) fun a => rx_bind (h2 ρ M) fun r => by
    have := h0 r a
    show Rx _ _ (Res.ofO (if c = c then (match φ [Ty.enc (.ins c fs t) r, u.enc a] with | .ok (.bl b) => some (D.bl (!b)) | _ => none) else none))
    rw [if_pos rfl]
    cases q : T r a with
    | ok b => rw [q] at this; have this : φ _ = .ok (.bl b) := this; rw [this]; rfl
    | er e => trivial
    | bad => trivial
/-! ## data of no type -/
noncomputable def castT (t : Ty) (d : D) : Res t.T := decR t (.ok d)
def rawIx (d : D) (k : Int) : Res D := .ofO (fIx d (.int k))
theorem v_raw {a : t.T} {m : En → Res D} (h : VR t.enc L (.ok a) m) : VR (Ty.enc .raw) L (.ok (t.enc a)) m := fun ρ M => h ρ M
theorem v_rawR {x : Res t.T} {m : En → Res D} (h : VR t.enc L x m) : VR (Ty.enc .raw) L (x.bind fun a => .ok (t.enc a)) m := fun ρ M => by
  have := h ρ M
  cases x with
  | ok a => exact this
  | er e => exact this
  | bad => trivial
theorem v_castP {d : D} {m : En → Res D} (h : VR (Ty.enc .raw) L (.ok d) m) : VR t.enc L (castT t d) m := fun ρ M => by
  have e : m ρ = .ok d := h ρ M
  rw [e]; exact rx_dec t (.ok d)
theorem v_cast {x : Res D} {m : En → Res D} (h : VR (Ty.enc .raw) L x m) : VR t.enc L (x.bind (castT t)) m := fun ρ M => by
  have := h ρ M
  cases x with
  | ok d => have e : m ρ = .ok d := this; rw [e]; exact rx_dec t (.ok d)
  | er e => exact this
  | bad => trivial
theorem v_rawIxP {d : D} {k : Int} {m n : En → Res D} (h : VR (Ty.enc .raw) L (.ok d) m) (h2 : VR (Ty.enc .z) L (.ok k) n) : VR (Ty.enc .raw) L (rawIx d k) (mOp2 fIx m n) := fun ρ M => by
  have e1 : m ρ = .ok d := h ρ M
  have e2 : n ρ = .ok (.int k) := h2 ρ M
  show Rx _ _ ((m ρ).bind fun x => (n ρ).bind fun y => Res.ofO (fIx x y))
  rw [e1, e2]
  show Rx _ (Res.ofO (fIx d (.int k))) (Res.ofO (fIx d (.int k)))
  cases fIx d (.int k) with
  | none => trivial
  | some d => exact rfl
theorem v_rawIx {x : Res D} {k : Int} {m n : En → Res D} (h : VR (Ty.enc .raw) L x m) (h2 : VR (Ty.enc .z) L (.ok k) n) : VR (Ty.enc .raw) L (x.bind fun d => rawIx d k) (mOp2 fIx m n) := fun ρ M => rx_bind (h ρ M) fun d => by
  have e2 : n ρ = .ok (.int k) := h2 ρ M
  rw [e2]
  show Rx _ (Res.ofO (fIx d (.int k))) (Res.ofO (fIx d (.int k)))
  cases fIx d (.int k) with
  | none => trivial
  | some d => exact rfl
theorem castT_ok {t : Ty} (ht : t.decOk = true) (a : t.T) : castT t (t.enc a) = .ok a := decR_ok ht rfl
noncomputable def lrgT (j : Int) : Res (List Int) := iteC (-4611686018427387904 ≤ j ∧ j < 4611686018427387904 ∧ j.toNat ≤ 16777216) (.ok (irange 0 j.toNat)) .bad
theorem v_lrg {x : Res Int} {m : En → Res D} (h : VR (Ty.enc .z) L x m) : VR (cnl .z) L (x.bind lrgT) (mLrg m) := fun ρ M => rx_bind (h ρ M) fun j => by
  show Rx _ _ (if -4611686018427387904 ≤ j ∧ j < 4611686018427387904 ∧ j.toNat ≤ 16777216 then Res.ok (Cn.l (rngD 0 j.toNat)) else .bad)
  unfold lrgT
  rw [iteC_eq]
  split
  · exact congrArg (fun z => Res.ok (Cn.l z)) (irange_enc _ _).symm
  · trivial
/-! ## own operators -/
theorem v_own2 {c : Nat} {φ : List D → Res D} {fs : List Str} {T : t.T → t.T → Res u.T} (h0 : ∀ a b, Rx u.enc (T a b) (φ [Ty.enc (.ins c fs t) a, Ty.enc (.ins c fs t) b])) {x y : Res t.T} {m n : En → Res D} (h : VR (Ty.enc (.ins c fs t)) L x m) (h2 : VR (Ty.enc (.ins c fs t)) L y n) : VR u.enc L (x.bind fun a => y.bind fun b => T a b) (mOwn2 c φ m n) := fun ρ M =>
  rx_bind (h ρ M) fun a => rx_bind (h2 ρ M) fun b => by
    have : (insC c (Ty.enc (.ins c fs t) a) && insC c (Ty.enc (.ins c fs t) b)) = true := by rw [enc_ins, enc_ins]; simp [insC]
    rw [if_pos this]
    exact h0 a b
theorem v_own2P {c : Nat} {φ : List D → Res D} {fs : List Str} {T : t.T → t.T → Res u.T} (h0 : ∀ a b, Rx u.enc (T a b) (φ [Ty.enc (.ins c fs t) a, Ty.enc (.ins c fs t) b])) {x y : t.T} {m n : En → Res D} (h : VR (Ty.enc (.ins c fs t)) L (.ok x) m) (h2 : VR (Ty.enc (.ins c fs t)) L (.ok y) n) : VR u.enc L (T x y) (mOwn2 c φ m n) := v_own2 h0 h h2
theorem v_own1 {c : Nat} {φ : List D → Res D} {fs : List Str} {T : t.T → Res u.T} (h0 : ∀ a, Rx u.enc (T a) (φ [Ty.enc (.ins c fs t) a])) {x : Res t.T} {m : En → Res D} (h : VR (Ty.enc (.ins c fs t)) L x m) : VR u.enc L (x.bind fun a => T a) (mOwn1 c φ m) := fun ρ M =>
  rx_bind (h ρ M) fun a => by
    have : insC c (Ty.enc (.ins c fs t) a) = true := by rw [enc_ins]; simp [insC]
    rw [if_pos this]
    exact h0 a
theorem v_own1P {c : Nat} {φ : List D → Res D} {fs : List Str} {T : t.T → Res u.T} (h0 : ∀ a, Rx u.enc (T a) (φ [Ty.enc (.ins c fs t) a])) {x : t.T} {m : En → Res D} (h : VR (Ty.enc (.ins c fs t)) L (.ok x) m) : VR u.enc L (T x) (mOwn1 c φ m) := v_own1 h0 h
theorem v_eqO {c : Nat} {φ : List D → Res D} {fs : List Str} {T : t.T → t.T → Res Bool} (h0 : ∀ a b, Rx (Ty.enc .b) (T a b) (φ [Ty.enc (.ins c fs t) a, Ty.enc (.ins c fs t) b])) {x y : Res t.T} {m n : En → Res D} (h : VR (Ty.enc (.ins c fs t)) L x m) (h2 : VR (Ty.enc (.ins c fs t)) L y n) : VR (Ty.enc .b) L (x.bind fun a => y.bind fun b => noEr (T a b)) (mOp2 (fEqO c φ) m n) := fun ρ M =>
  rx_bind (h ρ M) fun a => rx_bind (h2 ρ M) fun b => by
    have h1 := h0 a b
    have e : insC c (Ty.enc (.ins c fs t) b) = true := by rw [enc_ins]; simp [insC]
    show Rx _ _ (Res.ofO (if c = c ∧ insC c (Ty.enc (.ins c fs t) b) = true then (match φ [Ty.enc (.ins c fs t) a, Ty.enc (.ins c fs t) b] with | .ok (.bl b) => some (D.bl b) | _ => none) else none))
    rw [if_pos ⟨rfl, e⟩]
    cases q : T a b with
    | ok k => rw [q] at h1; have h1 : φ _ = .ok (.bl k) := h1; rw [h1]; rfl
    | er e => trivial
    | bad => trivial
/-! ## the making of an instance -/
theorem putN_new {f : Str} {d : D} : ∀ {ns : List Str} {ds : List D}, ns.length = ds.length → (∀ n ∈ ns, n ≠ f) → putN f d ns ds = (ns ++ [f], ds ++ [d])
  | [], [], _, _ => rfl
  | n :: ns, e :: ds, h, hn => by
    unfold putN
    rw [if_neg (hn n (by simp)), putN_new (by simpa using h) (fun m hm => hn m (by simp [hm]))]
    rfl
theorem g_fldS {i c : Nat} {f : Str} {ns : List Str} {ds : List D} {x : Res t.T} {k : t.T → Res α} {m : En → Res D} (h0 : L[i]? = some (.ow (.i c ns ds))) (h1 : ns.length = ds.length) (h2 : ns.length < 900) (h3 : ∀ n ∈ ns, n ≠ f) (hm : VR t.enc L x m) (hk : ∀ a, GR Rl (L.set i (.ow (.i c (ns ++ [f]) (ds ++ [t.enc a])))) (k a) rest) : GR Rl L (x.bind k) (sSeq (sFldS i c f m) rest) := fun ρ M => by
  have h := hm ρ M
  unfold sSeq sFldS
  rw [M.ow h0]
  cases x with
  | ok a =>
    have h : m ρ = .ok (t.enc a) := h
    simp only [h, runE]
    rw [if_pos ⟨trivial, h2⟩, putN_new h1 h3]
    exact hk a _ (M.set i sm_ow)
  | er e => have h : m ρ = .er e := h; simp only [h, runE]; exact ⟨ρ, rfl⟩
  | bad => trivial
theorem v_fldO {i c : Nat} {f : Str} {ns : List Str} {ds : List D} {a : t.T} (h0 : L[i]? = some (.ow (.i c ns ds))) (h1 : fld f ns ds = some (t.enc a)) : VR t.enc L (.ok a) (mFldO i c f) := fun ρ M => by
  show mFldO i c f ρ = _
  unfold mFldO
  rw [M.ow h0]
  show (if c = c then Res.ofO (fld f ns ds) else .bad) = _
  rw [if_pos rfl, h1]; rfl
/-- the end of an __init__ -/
def RI (f : α → Cn) : α → Fl → Prop := fun a y => ∃ ρ' c ns us, y = .nx ρ' ∧ ρ'[0]? = some (.ow false (.i c ns us)) ∧ f a = .i c ns us
theorem g_endI {f : α → Cn} {a : α} {c : Nat} {ns : List Str} {us : List D} (h : L[0]? = some (.ow (.i c ns us))) (e : f a = .i c ns us) : GR (RI f) L (.ok a) sNop := fun ρ M => ⟨_, rfl, ρ, c, ns, us, rfl, M.ow h, e⟩
theorem i_ok {f : α → Cn} {c n : Nat} {ms : En → Option Fl} {ds : List D} {x : Res α} (h : GR (RI f) L x ms) (hM : Mat L (.ow false (.i c [] []) :: startE (n - 1) ds)) : Rx f x (runI c n ms ds) := by
  have h := h _ hM
  unfold runI
  cases x with
  | ok a => obtain ⟨y, e, ρ', c', ns, us, rfl, h2, h3⟩ := h; rw [e]; simp only [h2]; show _ = Res.ok (f a); rw [h3]
  | er e => obtain ⟨ρ', e⟩ := h; rw [e]; rfl
  | bad => trivial
end
end FL
namespace FL
open PySem L2
/-! ## reckoning with typed functions -/
section
variable {α β γ σ R : Type}
theorem bind_assoc {x : Res α} {f : α → Res β} {g : β → Res γ} : (x.bind f).bind g = x.bind fun a => (f a).bind g := by cases x <;> rfl
theorem wpr_eq' {r : Res α} {a : α} (h : wpr r fun x => x = a) : r = .ok a := by
  obtain ⟨x, e, rfl⟩ := h
  exact e
theorem eq_wpr {r : Res α} {a : α} {P : α → Prop} (e : r = .ok a) (h : P a) : wpr r P := ⟨a, e, h⟩
theorem wpr_b {x : Res α} {k : α → Res β} {P : β → Prop} (h : wpr x fun a => wpr (k a) P) : wpr (x.bind k) P := by
  obtain ⟨a, e, h⟩ := h
  rw [e]; exact h
theorem wpr_be {x : Res α} {a : α} {k : α → Res β} {P : β → Prop} (e : x = .ok a) (h : wpr (k a) P) : wpr (x.bind k) P := by rw [e]; exact h
@[simp] theorem noEr_ok (a : α) : noEr (.ok a) = .ok a := id rfl
@[simp] theorem out_nx (k : σ → Res α) (inj : R → Res α) (s : σ) : Stp.out k inj (.nx s) = k s := id rfl
@[simp] theorem out_bk (k : σ → Res α) (inj : R → Res α) (s : σ) : Stp.out k inj (.bk s) = k s := id rfl
@[simp] theorem out_rt (k : σ → Res α) (inj : R → Res α) (r : R) : Stp.out k inj (.rt r) = inj r := id rfl
@[simp] theorem unT_some (a : α) : unT (some a) = .ok a := id rfl
@[simp] theorem foldT_nil (f : σ → α → Res σ) (s : σ) : foldT f s [] = .ok s := id rfl
@[simp] theorem foldT_cons (f : σ → α → Res σ) (s : σ) (a : α) (as : List α) : foldT f s (a :: as) = (f s a).bind fun s' => foldT f s' as := id rfl
@[simp] theorem loopT_nil (f : σ → α → Res (Stp σ R)) (s : σ) : loopT f s [] = .ok (.nx s) := id rfl
theorem loopT_cons (f : σ → α → Res (Stp σ R)) (s : σ) (a : α) (as : List α) : loopT f s (a :: as) = (f s a).bind fun r => match r with
    | .nx s' => loopT f s' as
    | .rt r => .ok (.rt r)
    | .bk s' => .ok (.nx s') := id rfl
theorem loopT_nx {f : σ → α → Res (Stp σ R)} {s s' : σ} {a : α} {as : List α} (e : f s a = .ok (.nx s')) : loopT f s (a :: as) = loopT f s' as := by rw [loopT_cons, e]; rfl
theorem loopT_rt {f : σ → α → Res (Stp σ R)} {s : σ} {r : R} {a : α} {as : List α} (e : f s a = .ok (.rt r)) : loopT f s (a :: as) = .ok (.rt r) := by rw [loopT_cons, e]; rfl
theorem foldT_map {f : σ → β → Res σ} {g : α → β} : ∀ (xs : List α) (s : σ), foldT f s (xs.map g) = foldT (fun s x => f s (g x)) s xs
  | [], _ => rfl
  | x :: xs, s => by
    rw [List.map_cons, foldT_cons, foldT_cons]
    congr 1; funext s'; exact foldT_map xs s'
theorem loopT_map {f : σ → β → Res (Stp σ R)} {g : α → β} : ∀ (xs : List α) (s : σ), loopT f s (xs.map g) = loopT (fun s x => f s (g x)) s xs
  | [], _ => rfl
  | x :: xs, s => by
    rw [List.map_cons, loopT_cons, loopT_cons]
    congr 1; funext r; cases r with
    | nx s' => exact loopT_map xs s'
    | rt r => rfl
    | bk s' => rfl
theorem compT_mapl {c : β → Res Bool} {f : β → Res γ} {g : α → β} : ∀ (xs : List α) (acc : List γ), compT c f (xs.map g) acc = compT (fun x => c (g x)) (fun x => f (g x)) xs acc
  | [], _ => rfl
  | x :: xs, acc => by
    rw [List.map_cons]
    unfold compT
    cases c (g x) with
    | ok b => cases b with
      | true => cases f (g x) with
        | ok a => simp only; rw [compT_mapl xs]
        | er e => rfl
        | bad => rfl
      | false => exact compT_mapl xs acc
    | er e => rfl
    | bad => rfl
theorem wpr_fold {f : σ → α → Res σ} {xs : List α} {s0 : σ} (I : List α → σ → Prop) (h0 : I [] s0) (step : ∀ pre x post s, xs = pre ++ x :: post → I pre s → wpr (f s x) (I (pre ++ [x]))) : wpr (foldT f s0 xs) (I xs) := by
  suffices h : ∀ (post pre : List α) (s : σ), xs = pre ++ post → I pre s → wpr (foldT f s post) (I xs) from h xs [] s0 rfl h0
  intro post
  induction post with
  | nil => intro pre s e h; rw [List.append_nil] at e; subst e; exact ⟨s, rfl, h⟩
  | cons x post ih =>
    intro pre s e h
    obtain ⟨s', e', h'⟩ := step pre x post s e h
    rw [foldT_cons, e']
    exact ih (pre ++ [x]) s' (by rw [e]; simp) h'
theorem wpr_loop {f : σ → α → Res (Stp σ R)} {xs : List α} {s0 : σ} (I : List α → σ → Prop) (Q : R → Prop) (h0 : I [] s0)
    (step : ∀ pre x post s, xs = pre ++ x :: post → I pre s → wpr (f s x) fun r => match r with | .nx s' => I (pre ++ [x]) s' | .rt r => Q r | .bk _ => False) :
    wpr (loopT f s0 xs) fun r => match r with | .nx s => I xs s | .rt r => Q r | .bk _ => False := by
  suffices h : ∀ (post pre : List α) (s : σ), xs = pre ++ post → I pre s → wpr (loopT f s post) (fun r => match r with | .nx s => I xs s | .rt r => Q r | .bk _ => False) from h xs [] s0 rfl h0
  intro post
  induction post with
  | nil => intro pre s e h; rw [List.append_nil] at e; subst e; exact ⟨.nx s, rfl, h⟩
  | cons x post ih =>
    intro pre s e h
    obtain ⟨r, e', h'⟩ := step pre x post s e h
    rw [loopT_cons, e']
    cases r with
    | nx s' => exact ih (pre ++ [x]) s' (by rw [e]; simp) h'
    | rt r => exact ⟨.rt r, rfl, h'⟩
    | bk s' => exact h'.elim
/-- a loop that never leaves -/
theorem wpr_loopN {f : σ → α → Res (Stp σ R)} {xs : List α} {s0 : σ} (I : List α → σ → Prop) (h0 : I [] s0)
    (step : ∀ pre x post s, xs = pre ++ x :: post → I pre s → ∃ s', f s x = .ok (.nx s') ∧ I (pre ++ [x]) s') :
    ∃ s, loopT f s0 xs = .ok (.nx s) ∧ I xs s := by
  obtain ⟨r, e, h⟩ := wpr_loop (f := f) (xs := xs) (s0 := s0) I (fun _ => False) h0 fun pre x post s e h => by
    obtain ⟨s', e1, h1⟩ := step pre x post s e h
    exact ⟨_, e1, h1⟩
  cases r with
  | nx s => exact ⟨s, e, h⟩
  | rt r => exact h.elim
  | bk s => exact h.elim
/-- a loop without a state that never leaves -/
theorem loopU {f : Unit → α → Res (Stp Unit R)} {xs : List α} (h : ∀ x ∈ xs, f () x = .ok (.nx ())) : loopT f () xs = .ok (.nx ()) := by
  obtain ⟨_, e, _⟩ := wpr_loopN (f := f) (xs := xs) (s0 := ()) (fun _ _ => True) trivial fun pre x post s e _ => ⟨(), h x (by rw [e]; simp), trivial⟩
  exact e
/-- a search: the loop leaves at the first item that is met -/
theorem loop_find {f : Unit → α → Res (Stp Unit R)} {c : α → Bool} {r : R} : ∀ {xs : List α}, (∀ x ∈ xs, f () x = .ok (if c x then .rt r else .nx ())) → loopT f () xs = .ok (if xs.any c then .rt r else .nx ())
  | [], _ => rfl
  | x :: xs, h => by
    have h1 := h x (by simp)
    have h2 := loop_find (c := c) (r := r) (xs := xs) fun y hy => h y (by simp [hy])
    rw [loopT_cons, h1]
    cases q : c x with
    | true => simp [q]
    | false => simp [q, h2]
theorem foldT_pure {f : σ → α → Res σ} {g : σ → α → σ} : ∀ {xs : List α} {s : σ}, (∀ s, ∀ x ∈ xs, f s x = .ok (g s x)) → foldT f s xs = .ok (xs.foldl g s)
  | [], _, _ => rfl
  | x :: xs, s, h => by rw [foldT_cons, h s x (by simp), bind_ok, foldT_pure fun s y hy => h s y (by simp [hy])]; rfl
end
/-! ### numbers -/
theorem mulT_k {i j : Int} (h : okMul i j = true) : mulT i j = .ok (i * j) := iteC_pos h _ _
theorem mulT_b {i j : Int} (a1 : -1000000000000000000000000000000 ≤ i) (a2 : i ≤ 1000000000000000000000000000000) (b1 : -1000000000000000000000000000000 ≤ j) (b2 : j ≤ 1000000000000000000000000000000) : mulT i j = .ok (i * j) := mulT_k (okMul_b a1 a2 b1 b2)
@[simp] theorem modT_i {i j : Int} (h : j ≠ 0) : modT i j = .ok (i.fmod j) := iteC_pos h _ _
theorem modT_n (a : Nat) {b : Nat} (h : b ≠ 0) : modT (a : Int) (b : Int) = .ok ((a % b : Nat) : Int) := by
  rw [modT_i (by omega), Int.fmod_eq_emod_of_nonneg _ (by omega)]; rfl
theorem divT_k {i j : Int} (h : okDiv i j = true) : divT i j = .ok (i.fdiv j) := iteC_pos h _ _
theorem divT_n (a : Nat) {b : Nat} (h : b ≠ 0) (h2 : b < 1073741824) : divT (a : Int) (b : Int) = .ok ((a / b : Nat) : Int) := by
  rw [divT_k (okDiv_small (by omega) (by omega)), Int.fdiv_eq_ediv_of_nonneg _ (by omega)]; rfl
theorem shlT_1 {k : Nat} (h : k ≤ 1000) : shlT 1 (k : Int) = .ok ((2 ^ k : Nat) : Int) := by
  have : okPow 1 (k : Int) = true := by unfold okPow; simp; omega
  rw [shlT, iteC_pos this]
  simp
@[simp] theorem shrT_n (a k : Nat) : shrT (a : Int) (k : Int) = .ok ((a / 2 ^ k : Nat) : Int) := by
  rw [shrT, iteC_pos (by omega)]
  simp
theorem rng1T_n {n : Nat} (h : n ≤ 1000000000000000000) : rng1T (n : Int) = .ok ((List.range n).map fun (k : Nat) => (k : Int)) := by
  rw [rng1T, iteC_pos (by omega)]
  unfold irange
  simp
theorem lrgT_n {n : Nat} (h : n ≤ 16777216) : lrgT (n : Int) = .ok ((List.range n).map fun (k : Nat) => (k : Int)) := by
  rw [lrgT, iteC_pos (by omega)]
  unfold irange
  simp
theorem rng2T_n {m n : Nat} (h : n ≤ 1000000000000000000) (h2 : m ≤ 1000000000000000000) : rng2T (m : Int) (n : Int) = .ok ((List.range (n - m)).map fun (k : Nat) => ((m + k : Nat) : Int)) := by
  rw [rng2T, iteC_pos (by omega)]
  unfold irange
  have : ((n : Int) - (m : Int)).toNat = n - m := by omega
  rw [this]
  simp
@[simp] theorem ixT_n {α : Type} (xs : List α) (k : Nat) : ixT xs (k : Int) = .ofO xs[k]? := by unfold ixT; rw [atI_nat]
@[simp] theorem ixT_0 {α : Type} (xs : List α) : ixT xs 0 = .ofO xs[0]? := ixT_n xs 0
@[simp] theorem ixT_1 {α : Type} (xs : List α) : ixT xs 1 = .ofO xs[1]? := ixT_n xs 1
@[simp] theorem ixT_2 {α : Type} (xs : List α) : ixT xs 2 = .ofO xs[2]? := ixT_n xs 2
@[simp] theorem ixT_3 {α : Type} (xs : List α) : ixT xs 3 = .ofO xs[3]? := ixT_n xs 3
@[simp] theorem ixT_4 {α : Type} (xs : List α) : ixT xs 4 = .ofO xs[4]? := ixT_n xs 4
@[simp] theorem ixT_5 {α : Type} (xs : List α) : ixT xs 5 = .ofO xs[5]? := ixT_n xs 5
@[simp] theorem ixT_6 {α : Type} (xs : List α) : ixT xs 6 = .ofO xs[6]? := ixT_n xs 6
@[simp] theorem ixT_7 {α : Type} (xs : List α) : ixT xs 7 = .ofO xs[7]? := ixT_n xs 7
@[simp] theorem ixT_8 {α : Type} (xs : List α) : ixT xs 8 = .ofO xs[8]? := ixT_n xs 8
@[simp] theorem ixT_9 {α : Type} (xs : List α) : ixT xs 9 = .ofO xs[9]? := ixT_n xs 9
theorem ixT_last {α : Type} (xs : List α) (h : xs ≠ []) : ixT xs (-1) = .ok (xs.getLast h) := by unfold ixT; rw [atI_last xs h]; rfl
theorem ixT_of {α : Type} {xs : List α} {k : Nat} {a : α} (h : xs[k]? = some a) : ixT xs (k : Int) = .ok a := by rw [ixT_n, h]; rfl
theorem catT_k {α : Type} {xs ys : List α} (h : xs.length + ys.length < 16777216) : catT xs ys = .ok (xs ++ ys) := iteC_pos h _ _
theorem appT_k {α : Type} {xs : List α} {a : α} (h : xs.length < 16777215) : appT xs a = .ok (xs ++ [a]) := iteC_pos h _ _
theorem repLT_k {α : Type} {xs : List α} {k : Nat} (h : k ≤ 1000) (h2 : xs.length ≤ 1000) : repLT xs (k : Int) = .ok (List.replicate k xs).flatten := by
  rw [repLT, iteC_pos (by simp; omega)]
  rfl
theorem cut_lo {α : Type} (a : List α) (k : Nat) (h : k ≤ a.length) : cutT a (some (k : Int)) none = a.drop k := by
  simp only [cutT, HT.sIx_nat]
  rw [Nat.min_eq_left h]
  simp only [HT.sIx]
  rw [List.take_of_length_le (by simp)]
theorem cut_hi {α : Type} (a : List α) (k : Nat) : cutT a none (some (k : Int)) = a.take k := by
  simp only [cutT, HT.sIx_nat]
  by_cases h : k ≤ a.length
  · rw [Nat.min_eq_left h]
    simp [HT.sIx]
  · rw [Nat.min_eq_right (by omega)]
    simp [HT.sIx]
    rw [List.take_of_length_le (by omega)]
theorem cut_mid {α : Type} (a : List α) (j k : Nat) (h : j ≤ a.length) : cutT a (some (j : Int)) (some (k : Int)) = (a.drop j).take (k - j) := by
  simp only [cutT, HT.sIx_nat]
  rw [Nat.min_eq_left h]
  by_cases hk : k ≤ a.length
  · rw [Nat.min_eq_left hk]
  · rw [Nat.min_eq_right (by omega), List.take_of_length_le (by simp), List.take_of_length_le (by simp; omega)]
/-! ### digits -/
def DigL (sizes row : List Int) : Prop := row.length = sizes.length ∧ ∀ (i : Nat) (r s : Int), row[i]? = some r → sizes[i]? = some s → 0 ≤ r ∧ r < s
theorem DigL.cons {s : Int} {ss row : List Int} (h : DigL (s :: ss) row) : ∃ (r : Nat) (row' : List Int), row = (r : Int) :: row' ∧ (r : Int) < s ∧ DigL ss row' := by
  cases row with
  | nil => have := h.1; simp at this
  | cons x row =>
    have h1 := h.2 0 x s rfl rfl
    obtain ⟨r, rfl⟩ := Int.eq_ofNat_of_zero_le h1.1
    exact ⟨r, row, rfl, h1.2, by have := h.1; simpa using this, fun i a b e1 e2 => h.2 (i + 1) a b (by simpa using e1) (by simpa using e2)⟩
theorem DigL.rep {s : Int} : ∀ {k : Nat} {row : List Int}, DigL (List.replicate k s) row → ∃ l : List Nat, row = l.map (fun (x : Nat) => (x : Int)) ∧ l.length = k ∧ ∀ x ∈ l, (x : Int) < s
  | 0, row, h => by
    cases row with
    | nil => exact ⟨[], rfl, rfl, by simp⟩
    | cons x row => have := h.1; simp at this
  | k + 1, row, h => by
    rw [List.replicate_succ] at h
    obtain ⟨r, row', rfl, h1, h2⟩ := h.cons
    obtain ⟨l, rfl, h3, h4⟩ := DigL.rep h2
    exact ⟨r :: l, rfl, by simp [h3], by
      intro x hx
      rcases List.mem_cons.mp hx with rfl | hx
      · exact h1
      · exact h4 x hx⟩
theorem nat_dec {p q : Prop} [Decidable p] [Decidable q] (h : p ↔ q) : decide p = decide q := by simp [h]
end FL
namespace FL
open PySem
section
variable {α β γ δ σ R : Type} {L : List Spt} {t u v : Ty}
theorem v_rev2LP {a : List t.T} {m : En → Res D} (h : VR (Ty.enc (.lst t)) L (.ok a) m) : VR (Ty.enc (.lst t)) L (.ok a.reverse) (mOp1 fRev2 m) := v_op1 (t := .lst t) (u := .lst t) (g := fun a => .ok a.reverse) (fun a => by show Res.ok (D.lst (a.map t.enc).reverse) = _; rw [← List.map_reverse]; rfl) h
theorem v_rev2L {x : Res (List t.T)} {m : En → Res D} (h : VR (Ty.enc (.lst t)) L x m) : VR (Ty.enc (.lst t)) L (x.bind fun a => .ok a.reverse) (mOp1 fRev2 m) := v_op1 (t := .lst t) (u := .lst t) (g := fun a => .ok a.reverse) (fun a => by show Res.ok (D.lst (a.map t.enc).reverse) = _; rw [← List.map_reverse]; rfl) h
theorem v_rev2TP {a : List t.T} {m : En → Res D} (h : VR (Ty.enc (.tup t)) L (.ok a) m) : VR (Ty.enc (.tup t)) L (.ok a.reverse) (mOp1 fRev2 m) := v_op1 (t := .tup t) (u := .tup t) (g := fun a => .ok a.reverse) (fun a => by show Res.ok (D.tup (a.map t.enc).reverse) = _; rw [← List.map_reverse]; rfl) h
theorem v_rev2T {x : Res (List t.T)} {m : En → Res D} (h : VR (Ty.enc (.tup t)) L x m) : VR (Ty.enc (.tup t)) L (x.bind fun a => .ok a.reverse) (mOp1 fRev2 m) := v_op1 (t := .tup t) (u := .tup t) (g := fun a => .ok a.reverse) (fun a => by show Res.ok (D.tup (a.map t.enc).reverse) = _; rw [← List.map_reverse]; rfl) h
end
section
variable {α β γ δ σ R : Type} {L : List Spt} {t u v : Ty}
theorem v_eqX {c : Nat} {φ : List D → Res D} {fs : List Str} {T : t.T → t.T → Res Bool} (h0 : ∀ a b, Rx (Ty.enc .b) (T a b) (φ [Ty.enc (.ins c fs t) a, Ty.enc (.ins c fs t) b])) {x y : Res t.T} {m n : En → Res D} (h : VR (Ty.enc (.ins c fs t)) L x m) (h2 : VR (Ty.enc (.ins c fs t)) L y n) : VR (Ty.enc .b) L (x.bind fun a => y.bind fun b => noEr (T a b)) (mOp2 (fEqX c φ) m n) := fun ρ M =>
  rx_bind (h ρ M) fun a => rx_bind (h2 ρ M) fun b => by
    have h1 := h0 a b
    have e : okY c (Ty.enc (.ins c fs t) b) = true := by rw [enc_ins]; simp [okY]
    show Rx _ _ (Res.ofO (if c = c ∧ okY c (Ty.enc (.ins c fs t) b) = true then (match φ [Ty.enc (.ins c fs t) a, Ty.enc (.ins c fs t) b] with | .ok (.bl b) => some (D.bl b) | _ => none) else none))
    rw [if_pos ⟨rfl, e⟩]
    cases q : T a b with
    | ok k => rw [q] at h1; have h1 : φ _ = .ok (.bl k) := h1; rw [h1]; rfl
    | er e => trivial
    | bad => trivial
theorem v_eqXr {c : Nat} {φ : List D → Res D} {fs : List Str} {T : t.T → D → Res Bool} (h0 : ∀ a d, Rx (Ty.enc .b) (T a d) (φ [Ty.enc (.ins c fs t) a, Ty.enc .raw d])) {x : Res t.T} {y : Res D} {m n : En → Res D} (h : VR (Ty.enc (.ins c fs t)) L x m) (h2 : VR (Ty.enc .raw) L y n) : VR (Ty.enc .b) L (x.bind fun a => y.bind fun d => if okY c d = true then noEr (T a d) else .bad) (mOp2 (fEqX c φ) m n) := fun ρ M =>
  rx_bind (h ρ M) fun a => rx_bind (h2 ρ M) fun d => by
    have h1 := h0 a d
    by_cases e : okY c d = true
    · rw [if_pos e]
      show Rx _ _ (Res.ofO (if c = c ∧ okY c d = true then (match φ [Ty.enc (.ins c fs t) a, d] with | .ok (.bl b) => some (D.bl b) | _ => none) else none))
      rw [if_pos ⟨rfl, e⟩]
      cases q : T a d with
      | ok k => rw [q] at h1; have h1 : φ _ = .ok (.bl k) := h1; have h1 : φ [Ty.enc (.ins c fs t) a, d] = .ok (.bl k) := h1; rw [h1]; rfl
      | er e => trivial
      | bad => trivial
    · rw [if_neg e]; trivial
theorem v_isC2 {l : XT} {c : Nat} {fs : List Str} {b : Bool} (h0 : l.lookup c = some b) {x : Res t.T} {m : En → Res D} (h : VR (Ty.enc (.ins c fs t)) L x m) : VR (Ty.enc .b) L (x.bind fun _ => .ok b) (mIsC2 l m) := fun ρ M => by
  have := h ρ M
  unfold mIsC2
  cases x with
  | ok a =>
    have this : m ρ = .ok (.ins c fs (t.encA a)) := this
    rw [this]
    show Res.ofO ((l.lookup c).map D.bl) = _
    rw [h0]; rfl
  | er e => have this : m ρ = .er e := this; rw [this]; rfl
  | bad => trivial
theorem v_isC2P {l : XT} {c : Nat} {fs : List Str} {b : Bool} (h0 : l.lookup c = some b) {a : t.T} {m : En → Res D} (h : VR (Ty.enc (.ins c fs t)) L (.ok a) m) : VR (Ty.enc .b) L (.ok b) (mIsC2 l m) := v_isC2 h0 h
theorem g_norm {Rl : α → Fl → Prop} {rest : En → Option Fl} {x : Res α} (L' : List Spt) (w : Wk L L') (h : GR Rl L' x rest) : GR Rl L x rest := fun ρ M => h ρ (w ρ M)
end
end FL
namespace Cm
open PySem L2 FL
/-- the body of lot_number; slots: 0 lot 1 number 2 voter -/
noncomputable def m_lot_number : En → Option Fl := (sSeq (sSet 1 (mI 0)) (sSeq (sFor (bName 2) (mSeq (mVar 0)) (sSet 1 (mOp2 fAdd (mVar 1) (mOp2 fShl (mI 1) (mVar 2))))) (sRet (mVar 1))))
noncomputable def d_lot_number : List D → Res D := runF 3 m_lot_number
/-- the body of lot_of; slots: 0 number 1 many 2 voter -/
noncomputable def m_lot_of : En → Option Fl := (sRet (mOpA fTuple (mCons (mFz (mLc (bName 2) [2] (mRng1 (mCons (mVar 1) mNil)) (mTst (mOp2 fEq (mOp2 fAnd (mOp2 fShr (mVar 0) (mVar 2)) (mI 1)) (mI 1))) (mVar 2))) mNil)))
noncomputable def d_lot_of : List D → Res D := runF 3 m_lot_of
/-- the body of lot_order; slots: 0 lot -/
noncomputable def m_lot_order : En → Option Fl := (sRet (mTup (mCons (mOpA fLen (mCons (mVar 0) mNil)) (mCons (mVar 0) mNil))))
noncomputable def d_lot_order : List D → Res D := runF 1 m_lot_order
/-- the body of is_lot; slots: 0 lot 1 many 2 last 3 voter -/
noncomputable def m_is_lot : En → Option Fl := (sSeq (sSet 2 (mOp1 fNeg (mI 1))) (sSeq (sFor (bName 3) (mSeq (mVar 0)) (sSeq (sIf (mtOr (mTst (mOp2 fLe (mVar 3) (mVar 2))) (mTst (mOp2 fGe (mVar 3) (mVar 1)))) (sRet (mBl false)) sNop) (sSet 2 (mVar 3)))) (sRet (mBl true))))
noncomputable def d_is_lot : List D → Res D := runF 4 m_is_lot
/-- the body of smaller_wins; slots: 0 book 1 number 2 many 3 voter -/
noncomputable def m_smaller_wins : En → Option Fl := (sSeq (sFor (bName 3) (mRng1 (mCons (mVar 2) mNil)) (sIf (mtAnd (mTst (mOp2 fEq (mOp2 fAnd (mOp2 fShr (mVar 1) (mVar 3)) (mI 1)) (mI 1))) (mTru (mOp2 fIx (mVar 0) (mOp2 fSub (mVar 1) (mOp2 fShl (mI 1) (mVar 3)))))) (sRet (mBl true)) sNop)) (sRet (mBl false)))
noncomputable def d_smaller_wins : List D → Res D := runF 4 m_smaller_wins
/-- the body of sums_of; slots: 0 weights 1 sums 2 weight 3 told -/
noncomputable def m_sums_of : En → Option Fl := (sSeq (sSet 1 (mFz (mLst (mCons (mI 0) mNil)))) (sSeq (sFor (bName 2) (mSeq (mVar 0)) (sSet 1 (mOp2 fAdd (mVar 1) (mFz (mLc (bName 3) [3] (mSeq (mVar 1)) mYes (mOp2 fAdd (mVar 3) (mVar 2))))))) (sRet (mOpA fTuple (mCons (mVar 1) mNil)))))
noncomputable def d_sums_of : List D → Res D := runF 4 m_sums_of
/-- the body of _law_whole; slots: 0 value -/
noncomputable def m_law_whole : En → Option Fl := (sRet (mAnd (mIsiTy "int" (mVar 0)) (mNot (mIsiTy "bool" (mVar 0)))))
noncomputable def d_law_whole : List D → Res D := runF 1 m_law_whole
/-- the body of _law_cell; slots: 0 script 1 k 2 seed 3 cell -/
noncomputable def m_law_cell : En → Option Fl := (sSeq (sIf (mTst (mOp2 fLt (mVar 1) (mOpA fLen (mCons (mVar 0) mNil)))) (sRet (mOp2 fIx (mVar 0) (mVar 1))) sNop) (sSeq (sSet 2 (mI 17)) (sSeq (sFor (bName 3) (mSeq (mVar 0)) (sSet 2 (mOp2 fMod (mOpA fInt (mCons (mOp2 fAdd (mOp2 fMul (mVar 2) (mI 31)) (mOp2 fMod (mOpA fInt (mCons (mVar 3) mNil)) (mI 1000003))) mNil)) (mI 1000003)))) (sRet (mOp2 fMod (mOpA fInt (mCons (mOp2 fMul (mOp2 fMul (mOp2 fAdd (mVar 2) (mI 7)) (mOp2 fAdd (mVar 1) (mI 3))) (mI 69621)) mNil)) (mI 2147483647))))))
noncomputable def d_law_cell : List D → Res D := runF 4 m_law_cell
/-- the body of _law_digits; slots: 0 cell 1 sizes 2 row 3 rest 4 size 5 seed 6 k 7 twice -/
noncomputable def m_law_digits : En → Option Fl := (sSeq (sOwn 2 (mLst mNil)) (sSeq (sSet 3 (mOpA fInt (mCons (mVar 0) mNil))) (sSeq (sIf (mTst (mOp2 fGe (mVar 3) (mOp2 fPow (mI 10) (mI 18)))) (sSeq (sSet 3 (mOp2 fSub (mVar 3) (mOp2 fPow (mI 10) (mI 18)))) (sSeq (sFor (bName 4) (mSeq (mVar 1)) (sSeq (sApp 2 (mCons (mOp2 fMod (mOpA fInt (mCons (mVar 3) mNil)) (mVar 4)) mNil)) (sSet 3 (mOp2 fFdiv (mOpA fInt (mCons (mVar 3) mNil)) (mVar 4))))) (sFrz 2 (sRet (mVar 2))))) sNop) (sSeq (sSet 5 (mOp2 fMod (mOpA fInt (mCons (mVar 3) mNil)) (mI 2147483629))) (sSeq (sFor (bName 6) (mRng1 (mCons (mOpA fLen (mCons (mVar 1) mNil)) mNil)) (sSeq (sSet 5 (mOp2 fMod (mOpA fInt (mCons (mOp2 fAdd (mOp2 fAdd (mOp2 fMul (mVar 5) (mI 48271)) (mOp2 fMul (mI 974711) (mVar 6))) (mI 12345)) mNil)) (mI 2147483647))) (sSeq (sSet 7 (mOp2 fMod (mOpA fInt (mCons (mOp2 fMul (mVar 5) (mOp2 fAdd (mOp2 fFdiv (mVar 5) (mI 65537)) (mI 3))) mNil)) (mI 2147483629))) (sApp 2 (mCons (mOp2 fMod (mOp2 fFdiv (mVar 7) (mI 19)) (mOp2 fIx (mVar 1) (mVar 6))) mNil))))) (sFrz 2 (sRet (mVar 2))))))))
noncomputable def d_law_digits : List D → Res D := runF 8 m_law_digits
/-- the body of _law_number; slots: 0 lot 1 total 2 voter -/
noncomputable def m_law_number : En → Option Fl := (sSeq (sSet 1 (mI 0)) (sSeq (sFor (bName 2) (mSeq (mVar 0)) (sSet 1 (mOp2 fAdd (mVar 1) (mOp2 fShl (mI 1) (mVar 2))))) (sRet (mVar 1))))
noncomputable def d_law_number : List D → Res D := runF 3 m_law_number
/-- the body of _law_voters; slots: 0 number 1 many 2 k -/
noncomputable def m_law_voters : En → Option Fl := (sRet (mOpA fTuple (mCons (mFz (mLc (bName 2) [2] (mRng1 (mCons (mVar 1) mNil)) (mTst (mOp2 fEq (mOp2 fAnd (mOp2 fShr (mVar 0) (mVar 2)) (mI 1)) (mI 1))) (mVar 2))) mNil)))
noncomputable def d_law_voters : List D → Res D := runF 3 m_law_voters
/-- the body of _law_order; slots: 0 lot -/
noncomputable def m_law_order : En → Option Fl := (sRet (mTup (mCons (mOpA fLen (mCons (mVar 0) mNil)) (mCons (mVar 0) mNil))))
noncomputable def d_law_order : List D → Res D := runF 1 m_law_order
/-- the body of _law_near; slots: 0 table 1 many 2 at 3 found 4 number 5 fewer 6 more 7 near 8 turned 9 k 10 other -/
noncomputable def m_law_near : En → Option Fl := (sSeq (sOwn 3 (mLst mNil)) (sSeq (sFor (bName 4) (mRng2 (mCons (mI 1) (mCons (mOp2 fSub (mOp2 fShl (mI 1) (mVar 1)) (mI 1)) mNil))) (sSeq (sSet 5 (mFz (mLc (bName 9) [9] (mRng1 (mCons (mVar 1) mNil)) (mTst (mOp2 fEq (mOp2 fAnd (mOp2 fShr (mVar 4) (mVar 9)) (mI 1)) (mI 1))) (mOp2 fSub (mVar 4) (mOp2 fShl (mI 1) (mVar 9)))))) (sSeq (sSet 6 (mFz (mLc (bName 9) [9] (mRng1 (mCons (mVar 1) mNil)) (mTst (mOp2 fEq (mOp2 fAnd (mOp2 fShr (mVar 4) (mVar 9)) (mI 1)) (mI 0))) (mOp2 fAdd (mVar 4) (mOp2 fShl (mI 1) (mVar 9)))))) (sSeq (sIf (mtAnd (mTru (mOp2 fIx (mVar 0) (mVar 4))) (mtNot (mTru (mOpA fAny (mCons (mFz (mLc (bName 10) [10] (mSeq (mVar 5)) mYes (mOp2 fIx (mVar 0) (mVar 10)))) mNil))))) (sApp 3 (mCons (mVar 4) mNil)) sNop) (sIf (mtAnd (mtNot (mTru (mOp2 fIx (mVar 0) (mVar 4)))) (mTru (mOpA fAll (mCons (mFz (mLc (bName 10) [10] (mSeq (mVar 6)) mYes (mOp2 fIx (mVar 0) (mVar 10)))) mNil)))) (sApp 3 (mCons (mVar 4) mNil)) sNop))))) (sSeq (sOwn 7 (mList (mVar 0))) (sSeq (sIf (mTst (mOp2 fGt (mBor 3 (mOpA fLen (mCons (mVar 3) mNil))) (mI 0))) (sSeq (sSet 8 (mIxO 3 (mOp2 fMod (mOpA fInt (mCons (mVar 2) mNil)) (mBor 3 (mOpA fLen (mCons (mVar 3) mNil)))))) (sIdx 7 (mVar 8) (mNot (mIxO 7 (mVar 8))))) sNop) (sFrz 7 (sRet (mVar 7)))))))
noncomputable def d_law_near : List D → Res D := runF 11 m_law_near
/-- the body of Rule.__eq__; slots: 0 self 1 other -/
noncomputable def m_Rule_eq : En → Option Fl := (sRet (mAnd (mIsC2 [(5, true)] (mVar 1)) (mAnd (mOp2 fEq (mFld [5] "many" (mVar 0)) (mFld [5] "many" (mVar 1))) (mOp2 fEq (mFld [5] "least" (mVar 0)) (mFld [5] "least" (mVar 1))))))
noncomputable def d_Rule_eq : List D → Res D := runF 2 m_Rule_eq
/-- the body of winning_book; slots: 0 many 1 numbers 2 number 3 told 4 book -/
noncomputable def m_winning_book : En → Option Fl := (sSeq (sSet 3 (mFz (mDc (bName 2) [2] (mSeq (mVar 1)) mYes (mVar 2) (mBl true)))) (sSeq (sOwn 4 (mLst mNil)) (sSeq (sFor (bName 2) (mRng1 (mCons (mOp2 fShl (mI 1) (mVar 0)) mNil)) (sApp 4 (mCons (mOr (mOp2 gIn (mVar 2) (mVar 3)) (mBor 4 (mCall 3 d_smaller_wins (mCons (mVar 4) (mCons (mVar 2) (mCons (mVar 0) mNil)))))) mNil))) (sFrz 4 (sRet (mOpA fTuple (mCons (mVar 4) mNil)))))))
noncomputable def d_winning_book : List D → Res D := runF 5 m_winning_book
/-- the body of least_lots; slots: 0 many 1 book 2 numbers 3 number -/
noncomputable def m_least_lots : En → Option Fl := (sSeq (sSet 2 (mFz (mLc (bName 3) [3] (mRng1 (mCons (mOpA fLen (mCons (mVar 1) mNil)) mNil)) (mtAnd (mTru (mOp2 fIx (mVar 1) (mVar 3))) (mtNot (mTru (mCall 3 d_smaller_wins (mCons (mVar 1) (mCons (mVar 3) (mCons (mVar 0) mNil))))))) (mVar 3)))) (sRet (mOpA fTuple (mCons (mSortO (mFz (mLc (bName 3) [3] (mSeq (mVar 2)) mYes (mCall 2 d_lot_of (mCons (mVar 3) (mCons (mVar 0) mNil)))))) mNil))))
noncomputable def d_least_lots : List D → Res D := runF 4 m_least_lots
/-- the body of _law_words; slots: 0 row 1 many 2 alike 3 weights 4 told 5 more 6 half 7 lots 8 menu 9 k -/
noncomputable def m_law_words : En → Option Fl := (sSeq (sSet 2 (mOpA fTuple (mCons (mFz (mLc (bName 9) [9] (mRng1 (mCons (mVar 1) mNil)) mYes (mI 1))) mNil))) (sSeq (sSet 3 (mOpA fTuple (mCons (mFz (mLc (bName 9) [9] (mRng1 (mCons (mVar 1) mNil)) mYes (mOp2 fMod (mOpA fInt (mCons (mOp2 fIx (mVar 0) (mOp2 fAdd (mI 2) (mVar 9))) mNil)) (mOp2 fIx (mFz (mLst (mCons (mI 31) (mCons (mI 4) (mCons (mI 2) (mCons (mI 6) mNil)))))) (mOp2 fMod (mOpA fInt (mCons (mOp2 fIx (mVar 0) (mI 1)) mNil)) (mI 4)))))) mNil))) (sSeq (sIf (mTst (mOp2 fEq (mOpA fSum (mCons (mVar 3) mNil)) (mI 0))) (sSet 3 (mVar 2)) sNop) (sSeq (sSet 4 (mTup (mCons (mStr "weights") (mCons (mVar 3) (mCons (mOp2 fAdd (mI 1) (mOp2 fMod (mOpA fInt (mCons (mOp2 fIx (mVar 0) (mI 1)) mNil)) (mOpA fSum (mCons (mVar 3) mNil)))) mNil))))) (sSeq (sSet 5 (mTup (mCons (mStr "weights") (mCons (mVar 3) (mCons (mOp2 fAdd (mOp2 fFdiv (mOpA fSum (mCons (mVar 3) mNil)) (mI 2)) (mI 1)) mNil))))) (sSeq (sSet 6 (mTup (mCons (mStr "weights") (mCons (mVar 2) (mCons (mOp2 fAdd (mOp2 fFdiv (mVar 1) (mI 2)) (mI 1)) mNil))))) (sSeq (sSet 7 (mOpA fTuple (mCons (mFz (mLc (bName 9) [9] (mRng1 (mCons (mI 3) mNil)) mYes (mCall 2 d_law_voters (mCons (mOp2 fAdd (mI 1) (mOp2 fMod (mOp2 fMod (mOpA fInt (mCons (mOp2 fIx (mVar 0) (mOp2 fAdd (mI 11) (mVar 9))) mNil)) (mOp2 fSub (mOp2 fPow (mI 2) (mI 9)) (mI 1))) (mOp2 fSub (mOp2 fShl (mI 1) (mVar 1)) (mI 1)))) (mCons (mVar 1) mNil))))) mNil))) (sSeq (sSet 8 (mFz (mLst (mCons (mVar 6) (mCons (mVar 6) (mCons (mVar 6) (mCons (mTup (mCons (mStr "weights") (mCons (mVar 2) (mCons (mOp2 fAdd (mI 1) (mOp2 fMod (mOpA fInt (mCons (mOp2 fIx (mVar 0) (mI 1)) mNil)) (mVar 1))) mNil)))) (mCons (mVar 4) (mCons (mVar 5) mNil))))))))) (sSeq (sSet 8 (mOp2 fAdd (mVar 8) (mFz (mLst (mCons (mTup (mCons (mStr "lots") (mCons (mSl (mVar 7) mNoPart (mPart (mOp2 fAdd (mI 1) (mOp2 fMod (mOpA fInt (mCons (mOp2 fIx (mVar 0) (mI 1)) mNil)) (mI 3))))) mNil))) (mCons (mTup (mCons (mStr "both") (mCons (mVar 6) (mCons (mTup (mCons (mStr "lots") (mCons (mSl (mVar 7) mNoPart (mPart (mI 1))) mNil))) mNil)))) mNil)))))) (sSeq (sSet 8 (mOp2 fAdd (mVar 8) (mFz (mLst (mCons (mTup (mCons (mStr "either") (mCons (mVar 6) (mCons (mTup (mCons (mStr "lots") (mCons (mSl (mVar 7) mNoPart (mPart (mI 2))) mNil))) mNil)))) (mCons (mTup (mCons (mStr "opposite") (mCons (mVar 4) mNil))) (mCons (mTup (mCons (mStr "both") (mCons (mVar 5) (mCons (mTup (mCons (mStr "lots") (mCons (mSl (mVar 7) mNoPart (mPart (mI 2))) mNil))) mNil)))) mNil))))))) (sSeq (sSet 8 (mOp2 fAdd (mVar 8) (mFz (mLst (mCons (mTup (mCons (mStr "weights") (mCons (mVar 2) (mCons (mOpA fMax (mCons (mI 1) (mCons (mOp2 fFdiv (mOp2 fAdd (mOp2 fMul (mI 2) (mVar 1)) (mI 2)) (mI 3)) mNil))) mNil)))) mNil))))) (sRet (mOp2 fIx (mVar 8) (mOp2 fIx (mVar 0) (mI 0)))))))))))))))
noncomputable def d_law_words : List D → Res D := runF 10 m_law_words
/-- the body of _law_least; slots: 0 table 1 many 2 told 3 number 4 smaller 5 k 6 less -/
noncomputable def m_law_least : En → Option Fl := (sSeq (sOwn 2 (mLst mNil)) (sSeq (sFor (bName 3) (mRng1 (mCons (mOp2 fShl (mI 1) (mVar 1)) mNil)) (sIf (mTru (mOp2 fIx (mVar 0) (mVar 3))) (sSeq (sSet 4 (mFz (mLc (bName 5) [5] (mRng1 (mCons (mVar 1) mNil)) (mTst (mOp2 fEq (mOp2 fAnd (mOp2 fShr (mVar 3) (mVar 5)) (mI 1)) (mI 1))) (mOp2 fSub (mVar 3) (mOp2 fShl (mI 1) (mVar 5)))))) (sIf (mtNot (mTru (mOpA fAny (mCons (mFz (mLc (bName 6) [6] (mSeq (mVar 4)) mYes (mOp2 fIx (mVar 0) (mVar 6)))) mNil)))) (sApp 2 (mCons (mCall 2 d_law_voters (mCons (mVar 3) (mCons (mVar 1) mNil))) mNil)) sNop)) sNop)) (sFrz 2 (sRet (mOpA fTuple (mCons (mSortO (mVar 2)) mNil))))))
noncomputable def d_law_least : List D → Res D := runF 7 m_law_least
/-- the body of _law_sized; slots: 0 many 1 low 2 high 3 number -/
noncomputable def m_law_sized : En → Option Fl := (sRet (mFz (mLc (bName 3) [3] (mRng2 (mCons (mI 1) (mCons (mOp2 fShl (mI 1) (mVar 0)) mNil))) (mTst (mCh fLe fLe (mVar 1) (mOpA fLen (mCons (mCall 2 d_law_voters (mCons (mVar 3) (mCons (mVar 0) mNil))) mNil)) (mVar 2))) (mVar 3))))
noncomputable def d_law_sized : List D → Res D := runF 4 m_law_sized
/-- the body of _law_are_lots; slots: 0 value 1 due 2 lot 3 voter -/
noncomputable def m_law_are_lots : En → Option Fl := (sSeq (sIf (mtOr (mtNot (mTru (mIsiTy "tuple" (mVar 0)))) (mTst (mOp2 fNe (mOpA fLen (mCons (mVar 0) mNil)) (mOpA fLen (mCons (mVar 1) mNil))))) (sRet (mBl false)) sNop) (sSeq (sFor (bName 2) (mSeq (mVar 0)) (sSeq (sIf (mtNot (mTru (mIsiTy "tuple" (mVar 2)))) (sRet (mBl false)) sNop) (sFor (bName 3) (mSeq (mVar 2)) (sIf (mtNot (mTru (mCall 1 d_law_whole (mCons (mVar 3) mNil)))) (sRet (mBl false)) sNop)))) (sRet (mOp2 fEq (mVar 0) (mVar 1)))))
noncomputable def d_law_are_lots : List D → Res D := runF 4 m_law_are_lots
/-- the body of Rule.__contains__; slots: 0 self 1 lot -/
noncomputable def m_Rule_contains : En → Option Fl := (sRet (mOp2 fIx (mFld [5] "book" (mVar 0)) (mCall 1 d_lot_number (mCons (mVar 1) mNil))))
noncomputable def d_Rule_contains : List D → Res D := runF 2 m_Rule_contains
/-- the body of _law_drawn; slots: 0 row 1 many 2 last 3 number 4 free 5 few 6 size 7 alike 8 gone 9 told 10 at 11 change -/
noncomputable def m_law_drawn : En → Option Fl := (sSeq (sSet 2 (mOp2 fSub (mOp2 fShl (mI 1) (mVar 1)) (mI 1))) (sSeq (sSet 4 (mFz (mLc (bName 3) [3] (mSeq (mSl (mVar 0) (mPart (mI 3)) mNoPart)) mYes (mOp2 fAdd (mI 1) (mOp2 fMod (mOpA fInt (mCons (mVar 3) mNil)) (mVar 2)))))) (sSeq (sSet 5 (mOp2 fAdd (mI 1) (mOp2 fMod (mOpA fInt (mCons (mOp2 fIx (mVar 0) (mI 2)) mNil)) (mI 12)))) (sSeq (sIf (mTst (mOp2 fEq (mOp2 fIx (mVar 0) (mI 1)) (mI 0))) (sRet (mSl (mVar 4) mNoPart (mPart (mVar 5)))) sNop) (sSeq (sIf (mTst (mOp2 fEq (mOp2 fIx (mVar 0) (mI 1)) (mI 1))) (sRet (mSl (mVar 4) mNoPart (mPart (mOp2 fAdd (mI 1) (mOpA fInt (mCons (mOp2 fIx (mVar 0) (mI 2)) mNil)))))) sNop) (sSeq (sSet 6 (mOp2 fAdd (mI 1) (mOp2 fMod (mOpA fInt (mCons (mOp2 fIx (mVar 4) (mI 0)) mNil)) (mVar 1)))) (sSeq (sIf (mTst (mOp2 fEq (mOp2 fIx (mVar 0) (mI 1)) (mI 2))) (sSeq (sSet 7 (mCall 3 d_law_sized (mCons (mVar 1) (mCons (mVar 6) (mCons (mOp2 fAdd (mVar 6) (mI 1)) mNil))))) (sRet (mFz (mLc (bName 3) [3] (mSeq (mSl (mVar 4) (mPart (mI 1)) (mPart (mOp2 fAdd (mI 2) (mOp2 fMul (mI 3) (mVar 5)))))) mYes (mOp2 fIx (mVar 7) (mOp2 fMod (mOpA fInt (mCons (mVar 3) mNil)) (mOpA fLen (mCons (mVar 7) mNil)))))))) sNop) (sSeq (sIf (mTst (mOp2 fEq (mOp2 fIx (mVar 0) (mI 1)) (mI 3))) (sSeq (sSet 7 (mCall 3 d_law_sized (mCons (mVar 1) (mCons (mVar 6) (mCons (mVar 6) mNil))))) (sSeq (sSet 8 (mFz (mLc (bName 3) [3] (mSeq (mSl (mVar 4) (mPart (mI 1)) (mPart (mOp2 fAdd (mI 1) (mOp2 fMod (mOpA fInt (mCons (mOp2 fIx (mVar 0) (mI 2)) mNil)) (mI 4)))))) mYes (mOp2 fIx (mVar 7) (mOp2 fMod (mOpA fInt (mCons (mVar 3) mNil)) (mOpA fLen (mCons (mVar 7) mNil))))))) (sSeq (sOwn 9 (mLc (bName 3) [3] (mSeq (mVar 7)) (mTst (mOp2 gNotIn (mVar 3) (mVar 8))) (mVar 3))) (sSeq (sIf (mTst (mOp2 fEq (mBor 9 (mOpA fLen (mCons (mVar 9) mNil))) (mI 0))) (sSet 9 (mVar 7)) sNop) (sSeq (sFrz 9 (sSet 10 (mOp2 fMod (mOpA fInt (mCons (mOp2 fIx (mVar 4) (mI 5)) mNil)) (mOpA fLen (mCons (mVar 9) mNil))))) (sRet (mOp2 fAdd (mSl (mVar 9) (mPart (mVar 10)) mNoPart) (mSl (mVar 9) mNoPart (mPart (mVar 10)))))))))) sNop) (sSeq (sIf (mTst (mOp2 fEq (mOp2 fIx (mVar 0) (mI 1)) (mI 4))) (sSeq (sSet 3 (mOp2 fIx (mVar 4) (mI 0))) (sSeq (sOwn 9 (mLst (mCons (mVar 3) mNil))) (sSeq (sFor (bName 11) (mSeq (mSl (mVar 4) (mPart (mI 1)) (mPart (mOp2 fAdd (mI 1) (mOp2 fMul (mI 2) (mVar 5)))))) (sSeq (sSet 3 (mOp2 fXor (mVar 3) (mOp2 fShl (mI 1) (mOp2 fMod (mOpA fInt (mCons (mVar 11) mNil)) (mVar 1))))) (sSeq (sIf (mTst (mOp2 fEq (mVar 3) (mI 0))) (sSet 3 (mVar 2)) sNop) (sApp 9 (mCons (mVar 3) mNil))))) (sFrz 9 (sRet (mVar 9)))))) sNop) (sRet (mFz (mLc (bName 3) [3] (mSeq (mSl (mVar 4) (mPart (mI 1)) (mPart (mOp2 fAdd (mI 1) (mVar 5))))) mYes (mOp2 fOr (mOp2 fShl (mI 1) (mOp2 fMod (mOpA fInt (mCons (mVar 3) mNil)) (mVar 1))) (mOp2 fShl (mI 1) (mOp2 fMod (mOp2 fFdiv (mOpA fInt (mCons (mVar 3) mNil)) (mI 9)) (mVar 1))))))))))))))))
noncomputable def d_law_drawn : List D → Res D := runF 12 m_law_drawn
/-- the body of _law_as_told; slots: 0 rule 1 lots 2 table 3 many 4 number -/
noncomputable def m_law_as_told : En → Option Fl := (sSeq (sSet 3 (mOpA fLen (mCons (mOp2 fIx (mVar 1) (mOp1 fNeg (mI 1))) mNil))) (sSeq (sIf (mtOr (mtNot (mTru (mIsC2 [(5, true)] (mVar 0)))) (mtOr (mtNot (mTru (mCall 1 d_law_whole (mCons (mFld [5] "many" (mVar 0)) mNil)))) (mTst (mOp2 fNe (mFld [5] "many" (mVar 0)) (mVar 3))))) (sRet (mBl false)) sNop) (sSeq (sIf (mtNot (mTru (mCall 2 d_law_are_lots (mCons (mFld [5] "least" (mVar 0)) (mCons (mCall 2 d_law_least (mCons (mVar 2) (mCons (mVar 3) mNil))) mNil))))) (sRet (mBl false)) sNop) (sSeq (sFor (bName 4) (mRng1 (mCons (mOpA fLen (mCons (mVar 1) mNil)) mNil)) (sIf (mTst (mOp2 fNe (mOp2 (fCon 5 d_Rule_contains) (mOp2 fIx (mVar 1) (mVar 4)) (mVar 0)) (mOp2 fIx (mVar 2) (mVar 4)))) (sRet (mBl false)) sNop)) (sRet (mBl true))))))
noncomputable def d_law_as_told : List D → Res D := runF 5 m_law_as_told
/-- the body of Rule.__init__; slots: 0 self 1 many 2 lots 3 lot -/
noncomputable def m_Rule_init : En → Option Fl := (sSeq (sIf (mTst (mOp2 fEq (mOpA fLen (mCons (mVar 2) mNil)) (mI 0))) (sRaise0 1) sNop) (sSeq (sFor (bName 3) (mSeq (mVar 2)) (sIf (mtOr (mTst (mOp2 fEq (mOpA fLen (mCons (mVar 3) mNil)) (mI 0))) (mtNot (mTru (mCall 2 d_is_lot (mCons (mVar 3) (mCons (mVar 1) mNil)))))) (sRaiseX 2 ["lot"] (mCons (mVar 3) mNil)) sNop)) (sSeq (sFldS 0 5 "many" (mVar 1)) (sSeq (sFldS 0 5 "book" (mCall 2 d_winning_book (mCons (mVar 1) (mCons (mFz (mLc (bName 3) [3] (mSeq (mVar 2)) mYes (mCall 1 d_lot_number (mCons (mVar 3) mNil)))) mNil)))) (sFldS 0 5 "least" (mCall 2 d_least_lots (mCons (mVar 1) (mCons (mFldO 0 5 "book") mNil))))))))
noncomputable def d_Rule_init : List D → Res Cn := runI 5 4 m_Rule_init
/-- the body of _law_any; slots: 0 row 1 many 2 numbers 3 number -/
noncomputable def m_law_any : En → Option Fl := (sSeq (sIf (mTst (mOp2 fLt (mOp2 fIx (mVar 0) (mI 0)) (mI 12))) (sRet (mCall 2 d_law_words (mCons (mVar 0) (mCons (mVar 1) mNil)))) sNop) (sSeq (sSet 2 (mCall 2 d_law_drawn (mCons (mOp2 fAdd (mFz (mLst (mCons (mI 0) (mCons (mOp2 fSub (mOpA fInt (mCons (mOp2 fIx (mVar 0) (mI 0)) mNil)) (mI 12)) (mCons (mOp2 fIx (mVar 0) (mI 14)) mNil))))) (mSl (mVar 0) (mPart (mI 15)) mNoPart)) (mCons (mVar 1) mNil)))) (sRet (mTup (mCons (mStr "lots") (mCons (mOpA fTuple (mCons (mFz (mLc (bName 3) [3] (mSeq (mVar 2)) mYes (mCall 2 d_law_voters (mCons (mVar 3) (mCons (mVar 1) mNil))))) mNil)) mNil))))))
noncomputable def d_law_any : List D → Res D := runF 4 m_law_any
/-- the body of Rule.weighted; slots: 0 weights 1 quota 2 book 3 told -/
noncomputable def m_Rule_weighted : En → Option Fl := (sSeq (sIf (mtOr (mTst (mOp2 fLt (mVar 1) (mI 1))) (mTst (mOp2 fGt (mVar 1) (mOpA fSum (mCons (mVar 0) mNil))))) (sRaiseX 3 ["quota"] (mCons (mVar 1) mNil)) sNop) (sSeq (sSet 2 (mFz (mLc (bName 3) [3] (mSeq (mCall 1 d_sums_of (mCons (mVar 0) mNil))) mYes (mOp2 fGe (mVar 3) (mVar 1))))) (sRet (mMake 3 d_Rule_init (mCons (mOpA fLen (mCons (mVar 0) mNil)) (mCons (mCall 2 d_least_lots (mCons (mOpA fLen (mCons (mVar 0) mNil)) (mCons (mVar 2) mNil))) mNil))))))
noncomputable def d_Rule_weighted : List D → Res D := runF 4 m_Rule_weighted
/-- the body of Rule.__and__; slots: 0 self 1 other 2 book 3 k -/
noncomputable def m_Rule_and : En → Option Fl := (sSeq (sIf (mTst (mOp2 fNe (mFld [5] "many" (mVar 0)) (mFld [5] "many" (mVar 1)))) (sRaiseX 4 ["one", "two"] (mCons (mFld [5] "many" (mVar 0)) (mCons (mFld [5] "many" (mVar 1)) mNil))) sNop) (sSeq (sSet 2 (mFz (mLc (bName 3) [3] (mRng1 (mCons (mOpA fLen (mCons (mFld [5] "book" (mVar 0)) mNil)) mNil)) mYes (mAnd (mOp2 fIx (mFld [5] "book" (mVar 0)) (mVar 3)) (mOp2 fIx (mFld [5] "book" (mVar 1)) (mVar 3)))))) (sRet (mMake 3 d_Rule_init (mCons (mFld [5] "many" (mVar 0)) (mCons (mCall 2 d_least_lots (mCons (mFld [5] "many" (mVar 0)) (mCons (mVar 2) mNil))) mNil))))))
noncomputable def d_Rule_and : List D → Res D := runF 4 m_Rule_and
/-- the body of Rule.__or__; slots: 0 self 1 other -/
noncomputable def m_Rule_or : En → Option Fl := (sSeq (sIf (mTst (mOp2 fNe (mFld [5] "many" (mVar 0)) (mFld [5] "many" (mVar 1)))) (sRaiseX 4 ["one", "two"] (mCons (mFld [5] "many" (mVar 0)) (mCons (mFld [5] "many" (mVar 1)) mNil))) sNop) (sRet (mMake 3 d_Rule_init (mCons (mFld [5] "many" (mVar 0)) (mCons (mOp2 fAdd (mFld [5] "least" (mVar 0)) (mFld [5] "least" (mVar 1))) mNil)))))
noncomputable def d_Rule_or : List D → Res D := runF 2 m_Rule_or
/-- the body of Rule.__invert__; slots: 0 self 1 last 2 book 3 k -/
noncomputable def m_Rule_invert : En → Option Fl := (sSeq (sSet 1 (mOp2 fSub (mOpA fLen (mCons (mFld [5] "book" (mVar 0)) mNil)) (mI 1))) (sSeq (sSet 2 (mFz (mLc (bName 3) [3] (mRng1 (mCons (mOpA fLen (mCons (mFld [5] "book" (mVar 0)) mNil)) mNil)) mYes (mNot (mOp2 fIx (mFld [5] "book" (mVar 0)) (mOp2 fSub (mVar 1) (mVar 3))))))) (sRet (mMake 3 d_Rule_init (mCons (mFld [5] "many" (mVar 0)) (mCons (mCall 2 d_least_lots (mCons (mFld [5] "many" (mVar 0)) (mCons (mVar 2) mNil))) mNil))))))
noncomputable def d_Rule_invert : List D → Res D := runF 4 m_Rule_invert
/-- the body of _law_joined; slots: 0 first 1 second 2 way 3 made 4 e -/
noncomputable def m_law_joined : En → Option Fl := (sSeq (sTry 4 [(1, true), (2, true), (3, true), (4, true)] (sIf (mTst (mOp2 fEq (mVar 2) (mI 0))) (sSet 3 (mOwn2 5 d_Rule_and (mVar 0) (mVar 1))) (sSet 3 (mOwn2 5 d_Rule_or (mVar 0) (mVar 1)))) (sSeq (sIf (mtAnd (mTru (mIsX [(1, false), (2, false), (3, false), (4, true)] (mVar 4))) (mTru (mIsX [(1, true), (2, true), (3, true), (4, true)] (mVar 4)))) (sRet (mTup (mCons (mStr "differ") (mCons (mXf "one" (mVar 4)) (mCons (mXf "two" (mVar 4)) mNil))))) sNop) (sRet (mTup (mCons (mStr "other") (mCons (mI 0) (mCons (mI 0) mNil))))))) (sRet (mTup (mCons (mStr "made") (mCons (mVar 3) (mCons (mI 0) mNil))))))
noncomputable def d_law_joined : List D → Res D := runF 5 m_law_joined
/-- the body of Rule.majority; slots: 0 many 1 voter -/
noncomputable def m_Rule_majority : En → Option Fl := (sRet (mCall 2 d_Rule_weighted (mCons (mOpA fTuple (mCons (mFz (mLc (bName 1) [1] (mRng1 (mCons (mVar 0) mNil)) mYes (mI 1))) mNil)) (mCons (mOp2 fAdd (mOp2 fFdiv (mVar 0) (mI 2)) (mI 1)) mNil))))
noncomputable def d_Rule_majority : List D → Res D := runF 2 m_Rule_majority
/-- the body of _law_table; slots: 0 words 1 many 2 size 3 sums 4 weight 5 numbers 6 first 7 second 8 number 9 known 10 lot -/
noncomputable def m_law_table (rec : List D → Res D) : En → Option Fl := (sSeq (sSet 2 (mOp2 fShl (mI 1) (mVar 1))) (sSeq (sIf (mTst (mOp2 fEq (mOp2 fIx (mVar 0) (mI 0)) (mStr "weights"))) (sSeq (sSet 3 (mFz (mLst (mCons (mI 0) mNil)))) (sSeq (sFor (bName 4) (mSeq (mOp2 fIx (mVar 0) (mI 1))) (sSet 3 (mOp2 fAdd (mVar 3) (mFz (mLc (bName 9) [9] (mSeq (mVar 3)) mYes (mOp2 fAdd (mVar 9) (mVar 4))))))) (sRet (mFz (mLc (bName 9) [9] (mSeq (mVar 3)) mYes (mOp2 fGe (mVar 9) (mOp2 fIx (mVar 0) (mI 2)))))))) sNop) (sSeq (sIf (mTst (mOp2 fEq (mOp2 fIx (mVar 0) (mI 0)) (mStr "lots"))) (sSeq (sSet 5 (mFz (mLc (bName 10) [10] (mSeq (mOp2 fIx (mVar 0) (mI 1))) mYes (mCall 1 d_law_number (mCons (mVar 10) mNil))))) (sRet (mFz (mLc (bName 8) [8] (mRng1 (mCons (mVar 2) mNil)) mYes (mOpA fAny (mCons (mFz (mLc (bName 9) [9] (mSeq (mVar 5)) mYes (mOp2 fEq (mOp2 fAnd (mVar 8) (mVar 9)) (mVar 9)))) mNil)))))) sNop) (sSeq (sSet 6 (mCall 2 rec (mCons (mOp2 fIx (mVar 0) (mI 1)) (mCons (mVar 1) mNil)))) (sSeq (sIf (mTst (mOp2 fEq (mOp2 fIx (mVar 0) (mI 0)) (mStr "opposite"))) (sRet (mFz (mLc (bName 8) [8] (mRng1 (mCons (mVar 2) mNil)) mYes (mNot (mOp2 fIx (mVar 6) (mOp2 fSub (mOp2 fSub (mVar 2) (mI 1)) (mVar 8))))))) sNop) (sSeq (sSet 7 (mCall 2 rec (mCons (mOp2 fIx (mVar 0) (mI 2)) (mCons (mVar 1) mNil)))) (sSeq (sIf (mTst (mOp2 fEq (mOp2 fIx (mVar 0) (mI 0)) (mStr "both"))) (sRet (mFz (mLc (bName 8) [8] (mRng1 (mCons (mVar 2) mNil)) mYes (mAnd (mOp2 fIx (mVar 6) (mVar 8)) (mOp2 fIx (mVar 7) (mVar 8)))))) sNop) (sRet (mFz (mLc (bName 8) [8] (mRng1 (mCons (mVar 2) mNil)) mYes (mOr (mOp2 fIx (mVar 6) (mVar 8)) (mOp2 fIx (mVar 7) (mVar 8)))))))))))))
noncomputable def d_law_table_n : Nat → List D → Res D
  | 0 => fun _ => .bad
  | n + 1 => runF 11 (m_law_table (d_law_table_n n))
noncomputable def d_law_table : List D → Res D := d_law_table_n 5
/-- the body of _law_kept_apart; slots: 0 first 1 second 2 many 3 other 4 way 5 told -/
noncomputable def m_law_kept_apart : En → Option Fl := (sSeq (sFor (bName 4) (mRng1 (mCons (mI 2) mNil)) (sSeq (sSet 5 (mCall 3 d_law_joined (mCons (mVar 0) (mCons (mVar 1) (mCons (mVar 4) mNil))))) (sSeq (sIf (mtOr (mTst (mOp2 fNe (mOp2 fIx (mVar 5) (mI 0)) (mStr "differ"))) (mtOr (mtNot (mTru (mCall 1 d_law_whole (mCons (mOp2 fIx (mVar 5) (mI 1)) mNil)))) (mtNot (mTru (mCall 1 d_law_whole (mCons (mOp2 fIx (mVar 5) (mI 2)) mNil)))))) (sRet (mBl false)) sNop) (sIf (mtOr (mTst (mOp2 fNe (mOp2 fIx (mVar 5) (mI 1)) (mVar 2))) (mTst (mOp2 fNe (mOp2 fIx (mVar 5) (mI 2)) (mVar 3)))) (sRet (mBl false)) sNop)))) (sRet (mOp2 fIsB (mOp2 (fEqX 5 d_Rule_eq) (mVar 0) (mVar 1)) (mBl false))))
noncomputable def d_law_kept_apart : List D → Res D := runF 6 m_law_kept_apart
/-- the body of _law_rule; slots: 0 words 1 many 2 first 3 second -/
noncomputable def m_law_rule (rec : List D → Res D) : En → Option Fl := (sSeq (sIf (mTst (mOp2 fEq (mOp2 fIx (mVar 0) (mI 0)) (mStr "weights"))) (sRet (mCall 2 d_Rule_weighted (mCons (mOp2 fIx (mVar 0) (mI 1)) (mCons (mOp2 fIx (mVar 0) (mI 2)) mNil)))) sNop) (sSeq (sIf (mTst (mOp2 fEq (mOp2 fIx (mVar 0) (mI 0)) (mStr "lots"))) (sRet (mMake 3 d_Rule_init (mCons (mVar 1) (mCons (mOp2 fIx (mVar 0) (mI 1)) mNil)))) sNop) (sSeq (sSet 2 (mCall 2 rec (mCons (mOp2 fIx (mVar 0) (mI 1)) (mCons (mVar 1) mNil)))) (sSeq (sIf (mTst (mOp2 fEq (mOp2 fIx (mVar 0) (mI 0)) (mStr "opposite"))) (sRet (mOwn1 5 d_Rule_invert (mVar 2))) sNop) (sSeq (sSet 3 (mCall 2 rec (mCons (mOp2 fIx (mVar 0) (mI 2)) (mCons (mVar 1) mNil)))) (sSeq (sIf (mTst (mOp2 fEq (mOp2 fIx (mVar 0) (mI 0)) (mStr "both"))) (sRet (mOwn2 5 d_Rule_and (mVar 2) (mVar 3))) sNop) (sRet (mOwn2 5 d_Rule_or (mVar 2) (mVar 3)))))))))
noncomputable def d_law_rule_n : Nat → List D → Res D
  | 0 => fun _ => .bad
  | n + 1 => runF 4 (m_law_rule (d_law_rule_n n))
noncomputable def d_law_rule : List D → Res D := d_law_rule_n 5
/-- the body of law; slots: 0 script 1 sizes 2 k 3 row 4 many 5 last 6 number 7 lots 8 j 9 words 10 first 11 second 12 third 13 rules 14 one 15 two 16 three 17 least 18 greater 19 near 20 tables 21 i 22 told 23 other 24 wide 25 value 26 said -/
noncomputable def m_law : En → Option Fl := (sSeq (sSet 1 (mOp2 fAdd (mOp2 fAdd (mOp2 fAdd (mOp2 fAdd (mFz (mLst (mCons (mI 18) (mCons (mI 1000) mNil)))) (mOp2 fMul (mFz (mLst (mCons (mI 31) mNil))) (mI 9))) (mOp2 fMul (mFz (mLst (mCons (mI 512) mNil))) (mI 3))) (mFz (mLst (mCons (mI 126) mNil)))) (mOp2 fMul (mFz (mLst (mCons (mI 511) mNil))) (mI 126)))) (sSeq (sFor (bName 2) (mRng1 (mCons (mI 2) mNil)) (sSeq (sSet 3 (mCall 2 d_law_digits (mCons (mCall 2 d_law_cell (mCons (mVar 0) (mCons (mOp2 fAdd (mOp2 fMul (mI 4) (mVar 2)) (mI 3)) mNil))) (mCons (mFz (mLst (mCons (mI 9) (mCons (mI 8) (mCons (mI 4) (mCons (mI 512) (mCons (mI 512) (mCons (mI 512) (mCons (mI 512) mNil))))))))) mNil)))) (sSeq (sSet 4 (mOp2 fIx (mOp2 fIx (mFz (mLst (mCons (mFz (mLst (mCons (mI 5) (mCons (mI 7) (mCons (mI 3) (mCons (mI 4) (mCons (mI 6) (mCons (mI 8) (mCons (mI 9) (mCons (mI 2) (mCons (mI 1) mNil))))))))))) (mCons (mFz (mLst (mCons (mI 4) (mCons (mI 5) (mCons (mI 3) (mCons (mI 6) (mCons (mI 2) (mCons (mI 4) (mCons (mI 5) (mCons (mI 3) (mCons (mI 1) mNil))))))))))) mNil)))) (mVar 2)) (mOp2 fIx (mVar 3) (mI 0)))) (sSeq (sSet 5 (mOp2 fSub (mOp2 fShl (mI 1) (mVar 4)) (mI 1))) (sSeq (sSet 7 (mFz (mLc (bName 6) [6] (mRng1 (mCons (mOp2 fAdd (mVar 5) (mI 1)) mNil)) mYes (mCall 2 d_law_voters (mCons (mVar 6) (mCons (mVar 4) mNil)))))) (sSeq (sSet 9 (mFz (mLc (bName 8) [8] (mRng1 (mCons (mI 3) mNil)) mYes (mCall 2 d_law_any (mCons (mCall 2 d_law_digits (mCons (mCall 2 d_law_cell (mCons (mVar 0) (mCons (mOp2 fAdd (mOp2 fMul (mI 4) (mVar 2)) (mVar 8)) mNil))) (mCons (mVar 1) mNil))) (mCons (mVar 4) mNil)))))) (sSeq (sSet 10 (mCall 2 d_law_table (mCons (mOp2 fIx (mVar 9) (mI 0)) (mCons (mVar 4) mNil)))) (sSeq (sSet 11 (mCall 2 d_law_table (mCons (mOp2 fIx (mVar 9) (mI 1)) (mCons (mVar 4) mNil)))) (sSeq (sSet 12 (mCall 2 d_law_table (mCons (mOp2 fIx (mVar 9) (mI 2)) (mCons (mVar 4) mNil)))) (sSeq (sSet 13 (mFz (mLc (bName 26) [26] (mSeq (mVar 9)) mYes (mCall 2 d_law_rule (mCons (mVar 26) (mCons (mVar 4) mNil)))))) (sSeq (sSet 14 (mOp2 fIx (mVar 13) (mI 0))) (sSeq (sSet 15 (mOp2 fIx (mVar 13) (mI 1))) (sSeq (sSet 16 (mOp2 fIx (mVar 13) (mI 2))) (sSeq (sSet 17 (mCall 2 d_law_least (mCons (mVar 10) (mCons (mVar 4) mNil)))) (sSeq (sSet 18 (mFz (mLc (bName 8) [8] (mRng1 (mCons (mOpA fInt (mCons (mOp2 fIx (mVar 3) (mI 2)) mNil)) mNil)) mYes (mCall 2 d_law_voters (mCons (mOp2 fOr (mCall 1 d_law_number (mCons (mOp2 fIx (mVar 17) (mI 0)) mNil)) (mOp2 fAnd (mOpA fInt (mCons (mOp2 fIx (mVar 3) (mOp2 fAdd (mI 3) (mVar 8))) mNil)) (mVar 5))) (mCons (mVar 4) mNil)))))) (sSeq (sSet 19 (mCall 3 d_law_near (mCons (mVar 10) (mCons (mVar 4) (mCons (mOp2 fIx (mVar 3) (mI 6)) mNil))))) (sSeq (sSet 13 (mOp2 fAdd (mVar 13) (mFz (mLst (mCons (mOwn2 5 d_Rule_and (mVar 14) (mVar 15)) (mCons (mOwn2 5 d_Rule_or (mVar 14) (mVar 15)) (mCons (mOwn1 5 d_Rule_invert (mVar 14)) (mCons (mOwn2 5 d_Rule_or (mOwn2 5 d_Rule_or (mOwn2 5 d_Rule_and (mVar 14) (mVar 15)) (mOwn2 5 d_Rule_and (mVar 15) (mVar 16))) (mOwn2 5 d_Rule_and (mVar 14) (mVar 16))) (mCons (mOwn2 5 d_Rule_and (mOwn2 5 d_Rule_or (mVar 14) (mVar 15)) (mOwn1 5 d_Rule_invert (mVar 16))) mNil))))))))) (sSeq (sSet 13 (mOp2 fAdd (mVar 13) (mFz (mLst (mCons (mOwn1 5 d_Rule_invert (mOwn2 5 d_Rule_and (mVar 15) (mVar 14))) (mCons (mOwn1 5 d_Rule_invert (mOwn1 5 d_Rule_invert (mVar 14))) (mCons (mMake 3 d_Rule_init (mCons (mVar 4) (mCons (mOp2 fAdd (mOpA fTuple (mCons (mVar 18) mNil)) (mOp1 fRev2 (mVar 17))) mNil))) (mCons (mMake 3 d_Rule_init (mCons (mVar 4) (mCons (mCall 2 d_law_least (mCons (mVar 19) (mCons (mVar 4) mNil))) mNil))) mNil)))))))) (sSeq (sOwn 20 (mLst (mCons (mVar 10) (mCons (mVar 11) (mCons (mVar 12) mNil))))) (sSeq (sApp 20 (mCons (mFz (mLc (bName 6) [6] (mRng1 (mCons (mOp2 fAdd (mVar 5) (mI 1)) mNil)) mYes (mAnd (mOp2 fIx (mVar 10) (mVar 6)) (mOp2 fIx (mVar 11) (mVar 6))))) mNil)) (sSeq (sApp 20 (mCons (mFz (mLc (bName 6) [6] (mRng1 (mCons (mOp2 fAdd (mVar 5) (mI 1)) mNil)) mYes (mOr (mOp2 fIx (mVar 10) (mVar 6)) (mOp2 fIx (mVar 11) (mVar 6))))) mNil)) (sSeq (sApp 20 (mCons (mFz (mLc (bName 6) [6] (mRng1 (mCons (mOp2 fAdd (mVar 5) (mI 1)) mNil)) mYes (mNot (mOp2 fIx (mVar 10) (mOp2 fSub (mVar 5) (mVar 6)))))) mNil)) (sSeq (sApp 20 (mCons (mFz (mLc (bName 6) [6] (mRng1 (mCons (mOp2 fAdd (mVar 5) (mI 1)) mNil)) mYes (mOp2 fGe (mOp2 fAdd (mOp2 fAdd (mOpA fInt (mCons (mOp2 fIx (mVar 10) (mVar 6)) mNil)) (mOpA fInt (mCons (mOp2 fIx (mVar 11) (mVar 6)) mNil))) (mOpA fInt (mCons (mOp2 fIx (mVar 12) (mVar 6)) mNil))) (mI 2)))) mNil)) (sSeq (sApp 20 (mCons (mFz (mLc (bName 6) [6] (mRng1 (mCons (mOp2 fAdd (mVar 5) (mI 1)) mNil)) mYes (mAnd (mOr (mOp2 fIx (mVar 10) (mVar 6)) (mOp2 fIx (mVar 11) (mVar 6))) (mNot (mOp2 fIx (mVar 12) (mOp2 fSub (mVar 5) (mVar 6))))))) mNil)) (sSeq (sApp 20 (mCons (mFz (mLc (bName 6) [6] (mRng1 (mCons (mOp2 fAdd (mVar 5) (mI 1)) mNil)) mYes (mNot (mAnd (mOp2 fIx (mVar 10) (mOp2 fSub (mVar 5) (mVar 6))) (mOp2 fIx (mVar 11) (mOp2 fSub (mVar 5) (mVar 6))))))) mNil)) (sSeq (sFrz 20 (sSet 20 (mOp2 fAdd (mVar 20) (mFz (mLst (mCons (mVar 10) (mCons (mVar 10) (mCons (mVar 19) mNil)))))))) (sSeq (sFor (bName 8) (mRng1 (mCons (mOpA fLen (mCons (mVar 13) mNil)) mNil)) (sIf (mtNot (mTru (mCall 3 d_law_as_told (mCons (mOp2 fIx (mVar 13) (mVar 8)) (mCons (mVar 7) (mCons (mOp2 fIx (mVar 20) (mVar 8)) mNil)))))) (sRet (mBl false)) sNop)) (sSeq (sFor (bName 8) (mRng1 (mCons (mOpA fLen (mCons (mVar 13) mNil)) mNil)) (sFor (bName 21) (mRng1 (mCons (mOpA fLen (mCons (mVar 13) mNil)) mNil)) (sSeq (sSet 22 (mOp2 (fEqX 5 d_Rule_eq) (mOp2 fIx (mVar 13) (mVar 8)) (mOp2 fIx (mVar 13) (mVar 21)))) (sIf (mtOr (mtAnd (mTst (mOp2 fEq (mOp2 fIx (mVar 20) (mVar 8)) (mOp2 fIx (mVar 20) (mVar 21)))) (mTst (mOp2 fNotB (mVar 22) (mBl true)))) (mtAnd (mTst (mOp2 fNe (mOp2 fIx (mVar 20) (mVar 8)) (mOp2 fIx (mVar 20) (mVar 21)))) (mTst (mOp2 fNotB (mVar 22) (mBl false))))) (sRet (mBl false)) sNop)))) (sSeq (sSet 6 (mOp2 fAdd (mI 1) (mOp2 fMod (mOpA fInt (mCons (mOp2 fAdd (mVar 4) (mOpA fInt (mCons (mOp2 fIx (mVar 3) (mI 1)) mNil))) mNil)) (mI 9)))) (sSeq (sSet 23 (mCall 1 d_Rule_majority (mCons (mVar 6) mNil))) (sSeq (sIf (mtOr (mtNot (mTru (mCall 4 d_law_kept_apart (mCons (mVar 14) (mCons (mVar 23) (mCons (mVar 4) (mCons (mVar 6) mNil))))))) (mtNot (mTru (mCall 4 d_law_kept_apart (mCons (mVar 23) (mCons (mVar 14) (mCons (mVar 6) (mCons (mVar 4) mNil)))))))) (sRet (mBl false)) sNop) (sSeq (sIf (mTst (mOp2 fLt (mVar 4) (mI 9))) (sSeq (sSet 24 (mMake 3 d_Rule_init (mCons (mOp2 fAdd (mVar 4) (mI 1)) (mCons (mVar 17) mNil)))) (sIf (mtOr (mtNot (mTru (mCall 4 d_law_kept_apart (mCons (mVar 14) (mCons (mVar 24) (mCons (mVar 4) (mCons (mOp2 fAdd (mVar 4) (mI 1)) mNil))))))) (mtNot (mTru (mCall 4 d_law_kept_apart (mCons (mVar 24) (mCons (mVar 14) (mCons (mOp2 fAdd (mVar 4) (mI 1)) (mCons (mVar 4) mNil)))))))) (sRet (mBl false)) sNop)) sNop) (sSeq (sFor (bName 25) (mSeq (mFz (mLst (mCons mNone (mCons (mVar 4) (mCons (mI 0) (mCons (mI 1) (mCons (mBl true) (mCons (mStr "rule") (mCons (mTup mNil) (mCons (mVar 17) (mCons (mTup (mCons (mVar 4) (mCons (mVar 17) mNil))) mNil)))))))))))) (sIf (mTst (mOp2 fNotB (mOp2 (fEqX 5 d_Rule_eq) (mVar 14) (mVar 25)) (mBl false))) (sRet (mBl false)) sNop)) (sFor (bName 8) (mRng1 (mCons (mI 3) mNil)) (sIf (mtNot (mTru (mCall 3 d_law_as_told (mCons (mOp2 fIx (mVar 13) (mVar 8)) (mCons (mVar 7) (mCons (mOp2 fIx (mVar 20) (mVar 8)) mNil)))))) (sRet (mBl false)) sNop))))))))))))))))))))))))))))))))))) (sRet (mBl true))))
noncomputable def d_law : List D → Res D := runF 27 m_law
end Cm
namespace Cm
open PySem FL
/-! ## lots as numbers -/
theorem band_nat (a b : Nat) : Builtin.bitAnd (a : Int) (b : Int) = ((a &&& b : Nat) : Int) := by
  unfold Builtin.bitAnd
  simp
theorem bor_nat (a b : Nat) : Builtin.bitOr (a : Int) (b : Int) = ((a ||| b : Nat) : Int) := by
  have h1 : ¬ (0 ≤ Builtin.bitNot (a : Int)) := by unfold Builtin.bitNot; omega
  have h2 : ¬ (0 ≤ Builtin.bitNot (b : Int)) := by unfold Builtin.bitNot; omega
  have e : ∀ c : Int, Builtin.bitNot (Builtin.bitNot c) = c := fun c => by unfold Builtin.bitNot; omega
  unfold Builtin.bitOr Builtin.bitAnd
  simp only [h1, h2, decide_false, e]
  simp
theorem nat_or : ∀ a b : Nat, (a ||| b) = (a ^^^ b) + (a &&& b) := by
  intro a
  induction a using Nat.strongRecOn with
  | _ a ih =>
    intro b
    by_cases h : a = 0
    · subst h; simp
    · have i := ih (a / 2) (by omega) (b / 2)
      have h1 := Nat.or_div_two (a := a) (b := b)
      have h2 := Nat.xor_div_two (a := a) (b := b)
      have h3 := Nat.and_div_two (a := a) (b := b)
      have m1 := Nat.or_mod_two_eq_one (a := a) (b := b)
      have m2 := Nat.and_mod_two_eq_one (a := a) (b := b)
      have m3 := Nat.xor_mod_two_eq_one (a := a) (b := b)
      omega
theorem bxor_nat (a b : Nat) : Builtin.bitXor (a : Int) (b : Int) = ((a ^^^ b : Nat) : Int) := by
  unfold Builtin.bitXor
  rw [bor_nat, band_nat]
  have h := nat_or a b
  omega
theorem bit_d (m k : Nat) : decide (Builtin.bitAnd ((m : Int) / 2 ^ k) 1 = 1) = m.testBit k := by
  have e : ((m : Int) / 2 ^ k) = ((m / 2 ^ k : Nat) : Int) := by push_cast; rfl
  rw [e, show (1 : Int) = ((1 : Nat) : Int) from rfl, band_nat, Nat.testBit_eq_decide_div_mod_eq, Nat.and_one_is_mod]
  norm_cast
def bits (n m : Nat) : List Nat := (List.range n).filter fun k => m.testBit k
def vot (n m : Nat) : List Int := (bits n m).map fun (k : Nat) => (k : Int)
theorem mem_bits {n m k : Nat} : k ∈ bits n m ↔ k < n ∧ m.testBit k = true := by unfold bits; simp
theorem okPow1 {k : Nat} (h : k ≤ 1000) : okPow 1 (k : Int) = true := by unfold okPow; simp; omega
theorem voters_gen (n m : Nat) (hn : n ≤ 1000) : mOpA fTuple (mCons (mFz (mLc (bName 2) [2] (mRng1 (mCons (mVar 1) mNil)) (mTst (mOp2 fEq (mOp2 fAnd (mOp2 fShr (mVar 0) (mVar 2)) (mI 1)) (mI 1))) (mVar 2))) mNil) [.im (.int m), .im (.int n), .un] = .ok (.tup (zs (vot n m))) := by
  have hr : mRng1 (mCons (mVar 1) mNil) [.im (.int m), .im (.int n), .un] = .ok ((List.range n).map fun (k : Nat) => D.int (k : Int)) := mRng1_ok n rfl rfl (by omega)
  have hc : compL (bName 2) (mTst (mOp2 fEq (mOp2 fAnd (mOp2 fShr (mVar 0) (mVar 2)) (mI 1)) (mI 1))) (mVar 2) [.im (.int m), .im (.int n), .un] ((List.range n).map fun (k : Nat) => D.int (k : Int)) [] = .ok (.l ([] ++ ((List.range n).filter fun k => m.testBit k).map fun (k : Nat) => D.int (k : Int))) := by
    refine compL_filter _ [] (fun k hk => ⟨_, rfl, ?_, fun _ => rfl⟩) (by simp; omega)
    simp [bit_d]
  simp [hr, hc, vot, bits]
theorem lot_of_ok (n m : Nat) (hn : n ≤ 1000) : d_lot_of [.int m, .int n] = .ok (.tup (zs (vot n m))) := by
  unfold d_lot_of m_lot_of
  simp only [runF_d, sRet_d, startE_d]
  have := voters_gen n m hn
  simp only [List.map_cons, List.map_nil, List.length_cons, List.length_nil, Nat.reduceAdd, Nat.reduceSub, rep1, List.cons_append, List.nil_append, this, runE_ok]
theorem voters_ok (n m : Nat) (hn : n ≤ 1000) : d_law_voters [.int m, .int n] = .ok (.tup (zs (vot n m))) := by
  unfold d_law_voters m_law_voters
  simp only [runF_d, sRet_d, startE_d]
  have := voters_gen n m hn
  simp only [List.map_cons, List.map_nil, List.length_cons, List.length_nil, Nat.reduceAdd, Nat.reduceSub, rep1, List.cons_append, List.nil_append, this, runE_ok]
/-- the number of a lot -/
def lotn (l : List Nat) : Nat := (l.map fun k => 2 ^ k).sum
theorem lotn_bits (m : Nat) : ∀ n, lotn (bits n m) = m % 2 ^ n
  | 0 => by simp [lotn, bits, Nat.mod_one]
  | n + 1 => by
    have ih := lotn_bits m n
    unfold lotn bits at *
    rw [List.range_succ, List.filter_append, List.map_append, List.sum_append, ih, Nat.mod_pow_succ]
    rcases Nat.mod_two_eq_zero_or_one (m / 2 ^ n) with h | h <;> simp [List.filter_cons, Nat.testBit_eq_decide_div_mod_eq, h]
theorem lotn_vot {n m : Nat} (h : m < 2 ^ n) : lotn (bits n m) = m := by rw [lotn_bits, Nat.mod_eq_of_lt h]
theorem lot_number_ok (l : List Nat) (h : ∀ k ∈ l, k ≤ 1000) : d_lot_number [.tup (zs (l.map fun (k : Nat) => (k : Int)))] = .ok (.int (lotn l)) := by
  have key : wpr (d_lot_number [.tup (zs (l.map fun (k : Nat) => (k : Int)))]) fun d => d = .int (lotn l) := by
    refine wpr_F (wps_nx rfl (wps_seq ?_))
    refine wps_for l (fun (k : Nat) => D.int (k : Int)) (by simp) (fun pre ρ => ∃ c, ρ = [.im (.tup (zs (l.map fun (k : Nat) => (k : Int)))), .im (.int (lotn pre)), c]) ⟨_, rfl⟩ ?_ ?_
    · rintro pre x post ρ e ⟨c, rfl⟩
      have hx := okPow1 (h x (by rw [e]; simp))
      refine ⟨_, rfl, ?_⟩
      refine wps_n (by simp [hx]; rfl) ?_
      refine ⟨.im (.int (x : Int)), ?_⟩
      have : ((lotn (pre ++ [x]) : Nat) : Int) = (lotn pre : Int) + 2 ^ x := by unfold lotn; simp
      rw [this]
      simp
    · rintro ρ ⟨c, rfl⟩
      exact wps_r rfl rfl
  obtain ⟨d, e, rfl⟩ := key
  exact e
theorem number_vot {n m : Nat} (hn : n ≤ 1000) (h : m < 2 ^ n) : d_lot_number [.tup (zs (vot n m))] = .ok (.int m) := by
  unfold vot
  rw [lot_number_ok _ (fun k hk => by have := (mem_bits.mp hk).1; omega), lotn_vot h]
end Cm
namespace Cm
open PySem FL
theorem wpr_eq {α : Type} {r : Res α} {a : α} (h : wpr r fun x => x = a) : r = .ok a := by
  obtain ⟨x, e, rfl⟩ := h
  exact e
/-! ## is_lot -/
def isLotL (last : Int) (n : Int) : List Int → Bool
  | [] => true
  | v :: r => if v ≤ last ∨ n ≤ v then false else isLotL v n r
theorem isLotL_app (n : Int) : ∀ (a b : List Int) (last : Int), isLotL last n (a ++ b) = (isLotL last n a && isLotL ((last :: a).getLast (by simp)) n b)
  | [], b, last => by simp [isLotL]
  | v :: a, b, last => by
    simp only [List.cons_append, isLotL]
    split
    · simp
    · rw [isLotL_app n a b v]
      simp [List.getLast_cons]
theorem is_lot_ok (l : List Int) (n : Int) : d_is_lot [.tup (zs l), .int n] = .ok (.bl (isLotL (-1) n l)) := by
  refine wpr_eq (wpr_F (wps_nx (ρ1 := [.im (.tup (zs l)), .im (.int n), .im (.int (-1)), .un]) (by simp) (wps_seq ?_)))
  refine wps_for l .int rfl (fun pre ρ => ∃ last c, ρ = [.im (.tup (zs l)), .im (.int n), .im (.int last), c] ∧ ∃ post, l = pre ++ post ∧ isLotL (-1) n l = isLotL last n post) ⟨_, _, rfl, l, rfl, rfl⟩ ?_ ?_
  · rintro pre x post ρ e ⟨last, c, rfl, post', e2, h⟩
    have : post' = x :: post := List.append_cancel_left (e2.symm.trans e)
    subst this
    refine ⟨_, rfl, wps_seq ?_⟩
    by_cases hb : x ≤ last ∨ n ≤ x
    · refine wps_if (k := true) (by rcases hb with q | q <;> simp [q] <;> (by_cases q2 : x ≤ last <;> simp [q2])) (fun _ => ?_) (fun q => nomatch q)
      refine wps_r rfl ?_
      show D.bl false = _
      rw [h, isLotL, if_pos hb]
    · have h1 : ¬ x ≤ last := fun q => hb (.inl q)
      have h2 : ¬ n ≤ x := fun q => hb (.inr q)
      refine wps_if (k := false) (by simp [h1, h2]) (fun q => nomatch q) (fun _ => wps_some ?_)
      refine wps_n (by simp; rfl) ?_
      refine ⟨x, .im (.int x), by simp, post, by rw [e]; simp, ?_⟩
      rw [h, isLotL, if_neg hb]
  · rintro ρ ⟨last, c, rfl, post, e, h⟩
    have : post = [] := List.append_cancel_left (e.symm.trans (List.append_nil l).symm)
    subst this
    refine wps_r rfl ?_
    show D.bl true = _
    rw [h, isLotL]
theorem isLotL_map (n : Nat) : ∀ (l : List Nat) (last : Int), (l.Pairwise (· < ·)) → (∀ k ∈ l, k < n ∧ last < (k : Int)) → isLotL last n (l.map fun (k : Nat) => (k : Int)) = true
  | [], _, _, _ => rfl
  | k :: l, last, p, h => by
    obtain ⟨h1, h2⟩ := h k (by simp)
    rw [List.pairwise_cons] at p
    simp only [List.map_cons, isLotL]
    rw [if_neg (by omega)]
    exact isLotL_map n l k p.2 fun j hj => ⟨(h j (by simp [hj])).1, by have := p.1 j hj; omega⟩
theorem bits_sorted (n m : Nat) : (bits n m).Pairwise (· < ·) := List.pairwise_lt_range.filter _
theorem isLotL_vot (n m : Nat) : isLotL (-1) n (vot n m) = true := isLotL_map n _ _ (bits_sorted n m) fun k hk => ⟨(mem_bits.mp hk).1, by omega⟩
theorem bits_ne {n m : Nat} (h0 : m ≠ 0) (h : m < 2 ^ n) : bits n m ≠ [] := fun e => by
  have := lotn_vot h
  rw [e] at this
  exact h0 this.symm
theorem vot_ne {n m : Nat} (h0 : m ≠ 0) (h : m < 2 ^ n) : vot n m ≠ [] := fun e => bits_ne h0 h (List.map_eq_nil_iff.mp e)
theorem vot_len {n m : Nat} : (vot n m).length ≤ n := by
  unfold vot bits
  have := List.length_filter_le (fun k => m.testBit k) (List.range n)
  simp at *
  exact this
theorem vot_inj {n m m' : Nat} (h : m < 2 ^ n) (h' : m' < 2 ^ n) (e : vot n m = vot n m') : m = m' := by
  have : bits n m = bits n m' := by
    unfold vot at e
    exact (List.map_inj_right (fun a b h => by omega)).mp e
  rw [← lotn_vot h, this, lotn_vot h']
/-! ## books -/
def smw (b : Nat → Bool) (n m : Nat) : Bool := (List.range n).any fun k => m.testBit k && b (m - 2 ^ k)
theorem pow_le_of_bit {m k : Nat} (h : m.testBit k = true) : 2 ^ k ≤ m := Nat.ge_two_pow_of_testBit h
theorem smaller_wins_ok (bk : D) (b : Nat → Bool) (n m : Nat) (hn : n ≤ 1000) (hb : ∀ j, j < m → fIx bk (.int (j : Int)) = some (.bl (b j))) : d_smaller_wins [bk, .int m, .int n] = .ok (.bl (smw b n m)) := by
  refine wpr_eq (wpr_F (wps_seq ?_))
  refine wps_for (List.range n) (fun (k : Nat) => D.int (k : Int)) (mRng1_ok n rfl rfl (by omega)) (fun pre ρ => ∃ c, ρ = [.im bk, .im (.int m), .im (.int n), c] ∧ ∀ k ∈ pre, (m.testBit k && b (m - 2 ^ k)) = false) ⟨_, rfl, fun _ h => nomatch h⟩ ?_ ?_
  · rintro pre k post ρ e ⟨c, rfl, h⟩
    obtain ⟨hk, hkn⟩ := range_split e
    have hp := okPow1 (k := k) (by omega)
    refine ⟨_, rfl, ?_⟩
    cases q : m.testBit k with
    | false =>
      refine wps_if (k := false) (by simp [bit_d, q]) (fun q => nomatch q) (fun _ => wps_some ?_)
      refine ⟨.im (.int (k : Int)), by simp, fun j hj => ?_⟩
      rcases List.mem_append.mp hj with z | z
      · exact h j z
      · rw [List.mem_singleton.mp z, q]; rfl
    | true =>
      have h2 := pow_le_of_bit q
      have hlt : m - 2 ^ k < m := by have := Nat.two_pow_pos k; omega
      have e2 : ((m : Int) - 2 ^ k) = ((m - 2 ^ k : Nat) : Int) := by rw [Int.ofNat_sub h2]; simp
      have hx := hb _ hlt
      rw [← e2] at hx
      refine wps_if (k := b (m - 2 ^ k)) (by simp [bit_d, q, hp, hx]) (fun t => ?_) (fun f => wps_some ?_)
      · refine wps_r rfl ?_
        show D.bl true = _
        have : smw b n m = true := List.any_eq_true.mpr ⟨k, by rw [e]; simp, by simp [q, t]⟩
        rw [this]
      · refine ⟨.im (.int (k : Int)), by simp, fun j hj => ?_⟩
        rcases List.mem_append.mp hj with z | z
        · exact h j z
        · rw [List.mem_singleton.mp z, q, f]; rfl
  · rintro ρ ⟨c, rfl, h⟩
    refine wps_r rfl ?_
    show D.bl false = _
    have : smw b n m = false := by
      unfold smw
      rw [List.any_eq_false]
      intro k hk
      rw [h k hk]; simp
    rw [this]
end Cm
namespace Cm
open PySem FL
/-! ## which lots win -/
def cont (nums : List Nat) (m : Nat) : Bool := nums.any fun t => decide (t &&& m = t)
theorem sub_iff {t m : Nat} : t &&& m = t ↔ ∀ j, t.testBit j = true → m.testBit j = true := by
  constructor
  · intro e j h
    rw [← e, Nat.testBit_and] at h
    simp at h
    exact h.2
  · intro h
    apply Nat.eq_of_testBit_eq
    intro j
    rw [Nat.testBit_and]
    cases q : t.testBit j with
    | false => rfl
    | true => rw [h j q]; rfl
theorem sub_bit {m k : Nat} (h : m.testBit k = true) : m - 2 ^ k = m ^^^ 2 ^ k := by
  have e1 : m ||| 2 ^ k = m := by
    apply Nat.eq_of_testBit_eq
    intro j
    rw [Nat.testBit_or, Nat.testBit_two_pow]
    by_cases e : k = j
    · subst e; rw [h]; rfl
    · simp [e]
  have e2 : m &&& 2 ^ k = 2 ^ k := by
    apply Nat.eq_of_testBit_eq
    intro j
    rw [Nat.testBit_and, Nat.testBit_two_pow]
    by_cases e : k = j
    · subst e; rw [h]; rfl
    · simp [e]
  have := nat_or m (2 ^ k)
  rw [e1, e2] at this
  omega
theorem bit_sub {m k j : Nat} (h : m.testBit k = true) : (m - 2 ^ k).testBit j = (m.testBit j && !decide (k = j)) := by
  rw [sub_bit h, Nat.testBit_xor, Nat.testBit_two_pow]
  by_cases e : k = j
  · subst e; rw [h]; simp
  · simp [e]
theorem bit_lt {m n k : Nat} (hm : m < 2 ^ n) (h : m.testBit k = true) : k < n := by
  apply Decidable.byContradiction
  intro hk
  have h2 := pow_le_of_bit h
  have := Nat.pow_le_pow_right (n := 2) (by decide) (show n ≤ k by omega)
  omega
theorem cont_step {nums : List Nat} {n m : Nat} (hm : m < 2 ^ n) : cont nums m = (decide (m ∈ nums) || smw (cont nums) n m) := by
  rw [Bool.eq_iff_iff]
  simp only [Bool.or_eq_true, decide_eq_true_eq]
  constructor
  · intro h
    obtain ⟨t, ht, e⟩ := List.any_eq_true.mp h
    have e := sub_iff.mp (of_decide_eq_true e)
    by_cases q : t = m
    · subst q; exact .inl ht
    · refine .inr (List.any_eq_true.mpr ?_)
      have : ∃ k, m.testBit k = true ∧ t.testBit k = false := by
        apply Classical.byContradiction
        intro hn
        apply q
        apply Nat.eq_of_testBit_eq
        intro j
        cases q1 : t.testBit j with
        | true => rw [e j q1]
        | false =>
          cases q2 : m.testBit j with
          | false => rfl
          | true => exact absurd ⟨j, q2, q1⟩ hn
      obtain ⟨k, h1, h2⟩ := this
      refine ⟨k, List.mem_range.mpr (bit_lt hm h1), ?_⟩
      rw [h1, Bool.true_and]
      refine List.any_eq_true.mpr ⟨t, ht, decide_eq_true (sub_iff.mpr fun j hj => ?_)⟩
      rw [bit_sub h1, e j hj]
      by_cases z : k = j
      · subst z; rw [h2] at hj; cases hj
      · simp [z]
  · rintro (h | h)
    · exact List.any_eq_true.mpr ⟨m, h, decide_eq_true (Nat.and_self m)⟩
    · obtain ⟨k, _, e⟩ := List.any_eq_true.mp h
      rw [Bool.and_eq_true] at e
      obtain ⟨t, ht, e2⟩ := List.any_eq_true.mp e.2
      refine List.any_eq_true.mpr ⟨t, ht, decide_eq_true (sub_iff.mpr fun j hj => ?_)⟩
      have := sub_iff.mp (of_decide_eq_true e2) j hj
      rw [bit_sub e.1] at this
      simp at this
      exact this.1
theorem told_ok {ρ : En} (h2 : 2 < ρ.length) : ∀ (l : List Nat) (ks : List L2.Key) (vs : List D), ks.length + l.length < 16777215 →
    ∃ ks' vs', compD (bName 2) mYes (mVar 2) (mBl true) ρ (l.map fun (k : Nat) => D.int (k : Int)) ks vs = .ok (.k ks' vs') ∧ ∀ j : Nat, hasK ks' (.inl (j : Int)) = (hasK ks (.inl (j : Int)) || decide (j ∈ l))
  | [], ks, vs, _ => ⟨ks, vs, rfl, fun j => by simp⟩
  | x :: l, ks, vs, hl => by
    rw [List.length_cons] at hl
    have hl2 : (putKs ks (Sum.inl (x : Int) : L2.Key)).length ≤ ks.length + 1 := by
      unfold putKs
      split <;> simp
    obtain ⟨ks', vs', e, h⟩ := told_ok h2 l (putKs ks (.inl (x : Int))) (putVs ks vs (.inl (x : Int)) (.bl true)) (by omega)
    refine ⟨ks', vs', ?_, fun j => ?_⟩
    · have e1 : (mVar 2 (ρ.set 2 (.im (.int (x : Int))))) = .ok (.int (x : Int)) := by
        rw [mVar_d, List.getElem?_set_self h2]
      simp only [List.map_cons, compD, bName_d, mYes_d, e1, keyOf, mC_d]
      rw [if_pos (by omega), e]
    · rw [h j]
      have : hasK (putKs ks (Sum.inl (x : Int) : L2.Key)) (.inl (j : Int)) = (hasK ks (.inl (j : Int)) || decide (j = x)) := by
        unfold putKs
        split
        · rename_i q
          by_cases z : j = x
          · subst z; rw [q]; rfl
          · simp [z]
        · unfold hasK
          rw [List.any_append]
          congr 1
          simp only [List.any_cons, List.any_nil, Bool.or_false]
          by_cases z : j = x
          · subst z; simp
          · have : ¬ ((Sum.inl (x : Int) : L2.Key) = Sum.inl (j : Int)) := fun q => z (by have := Sum.inl.inj q; omega)
            simp [z, this]
      rw [this]
      by_cases z : j = x <;> simp [z]
def bkOf (b : Nat → Bool) (N : Nat) : List D := bls ((List.range N).map b)
theorem bkOf_get {b : Nat → Bool} {N j : Nat} (h : j < N) : (bkOf b N)[j]? = some (.bl (b j)) := by unfold bkOf; simp [h]
theorem bkOf_len {b : Nat → Bool} {N : Nat} : (bkOf b N).length = N := by unfold bkOf; simp
theorem bkOf_snoc {b : Nat → Bool} {N : Nat} : bkOf b N ++ [.bl (b N)] = bkOf b (N + 1) := by unfold bkOf; rw [List.range_succ]; simp
theorem winning_book_ok (nums : List Nat) (n : Nat) (hn : n ≤ 20) (hl : nums.length ≤ 100000) : d_winning_book [.int n, .lst (zs (nums.map fun (k : Nat) => (k : Int)))] = .ok (.tup (bkOf (cont nums) (2 ^ n))) := by
  obtain ⟨ks, vs, e1, e2⟩ := told_ok (ρ := [.im (.int n), .im (.lst (zs (nums.map fun (k : Nat) => (k : Int)))), .un, .un, .un]) (by simp) nums [] [] (by simp; omega)
  have e3 : ∀ j : Nat, gIn (.int (j : Int)) (.dik ks vs) = some (.bl (decide (j ∈ nums))) := fun j => by
    simp only [gIn, dmap, keyOf, Option.map_some]
    rw [e2 j]
    simp [hasK]
  have hp : 2 ^ n ≤ 2 ^ 20 := Nat.pow_le_pow_right (by decide) hn
  have hp1 := okPow1 (k := n) (by omega)
  refine wpr_eq (wpr_F (wps_nx (ρ1 := [.im (.int n), .im (.lst (zs (nums.map fun (k : Nat) => (k : Int)))), .un, .im (.dik ks vs), .un]) ?_ (wps_nx rfl (wps_seq ?_))))
  · have e4 : (mDc (bName 2) [2] (mSeq (mVar 1)) mYes (mVar 2) (mBl true)) (startE 5 [.int n, .lst (zs (nums.map fun (k : Nat) => (k : Int)))]) = .ok (.k ks vs) := by
      rw [← e1]
      show (Res.bind _ _) = _
      simp
      rfl
    rw [sSet_d, mFz_d, e4]
    rfl
  · refine wps_for (List.range (2 ^ n)) (fun (k : Nat) => D.int (k : Int)) (mRng1_ok (2 ^ n) (j := 2 ^ n) (by simp [hp1]) (by push_cast; rfl) (by omega))
      (fun pre ρ => ∃ c, ρ = [.im (.int n), .im (.lst (zs (nums.map fun (k : Nat) => (k : Int)))), c, .im (.dik ks vs), .ow false (.l (bkOf (cont nums) pre.length))]) ⟨_, rfl⟩ ?_ ?_
    · rintro pre x post ρ e ⟨c, rfl⟩
      obtain ⟨hx, hlt⟩ := range_split e
      subst hx
      refine ⟨_, rfl, ?_⟩
      have hs := smaller_wins_ok (.lst (bkOf (cont nums) pre.length)) (cont nums) n pre.length (by omega) (fun j hj => by rw [fIx_l, atI_nat, bkOf_get hj])
      have hst := cont_step (nums := nums) hlt
      refine wps_n (ρ := [.im (.int n), .im (.lst (zs (nums.map fun (k : Nat) => (k : Int)))), .im (.int (pre.length : Int)), .im (.dik ks vs), .ow false (.l (bkOf (cont nums) pre.length ++ [.bl (cont nums pre.length)]))]) ?_ ⟨.im (.int (pre.length : Int)), ?_⟩
      · have hlen : (bkOf (cont nums) pre.length).length < 16777215 := by rw [bkOf_len]; omega
        generalize bkOf (cont nums) pre.length = bk at *
        rw [hst]
        by_cases z : pre.length ∈ nums <;> simp [e3, z, hs, hlen]
      · rw [bkOf_snoc]; simp
    · rintro ρ ⟨c, rfl⟩
      refine wps_r rfl ?_
      show D.tup _ = _
      simp
end Cm
namespace Cm
open PySem FL
/-! ## least lots, sorted -/
abbrev tts (ls : List (List Int)) : List D := ls.map fun l => .tup (zs l)
theorem tupsOf_tts : ∀ (ls : List (List Int)), (∀ l ∈ ls, l.length ≤ 1000) → tupsOf (tts ls) = some ls
  | [], _ => rfl
  | l :: ls, h => by
    have ih := tupsOf_tts ls fun x hx => h x (by simp [hx])
    show tupsOf (.tup (zs l) :: tts ls) = _
    simp only [tupsOf, intsOf_ints, ih]
    rw [if_pos (h l (by simp))]
@[simp] theorem mSortO_d (m : En → Res D) (ρ : En) : mSortO m ρ = (m ρ).bind fun d => .ofO (fSortO d) := id rfl
theorem fSortO_tts (ls : List (List Int)) (h : ∀ l ∈ ls, l.length ≤ 1000) : fSortO (.lst (tts ls)) = some (.lst (tts (srtL ls))) := by
  simp only [fSortO, tupsOf_tts ls h, Option.map_some]
def mins (b : Nat → Bool) (n : Nat) : List Nat := (List.range (2 ^ n)).filter fun m => b m && !smw b n m
def lls (b : Nat → Bool) (n : Nat) : List (List Int) := srtL ((mins b n).map (vot n))
theorem mem_mins {b : Nat → Bool} {n m : Nat} : m ∈ mins b n ↔ m < 2 ^ n ∧ b m = true ∧ smw b n m = false := by unfold mins; simp
theorem mins_len {b : Nat → Bool} {n : Nat} : (mins b n).length ≤ 2 ^ n := by
  unfold mins
  have := List.length_filter_le (fun m => b m && !smw b n m) (List.range (2 ^ n))
  simpa using this
theorem smw_congr {b b' : Nat → Bool} {n m : Nat} (h : ∀ j, j < m → b j = b' j) : smw b n m = smw b' n m := by
  unfold smw
  rw [Bool.eq_iff_iff]
  simp only [List.any_eq_true, Bool.and_eq_true]
  constructor
  · rintro ⟨k, hk, h1, h2⟩
    have := pow_le_of_bit h1
    have := Nat.two_pow_pos k
    exact ⟨k, hk, h1, by rw [← h _ (by omega)]; exact h2⟩
  · rintro ⟨k, hk, h1, h2⟩
    have := pow_le_of_bit h1
    have := Nat.two_pow_pos k
    exact ⟨k, hk, h1, by rw [h _ (by omega)]; exact h2⟩
theorem mins_congr {b b' : Nat → Bool} {n : Nat} (h : ∀ j, j < 2 ^ n → b j = b' j) : mins b n = mins b' n := by
  unfold mins
  apply List.filter_congr
  intro m hm
  have hm := List.mem_range.mp hm
  rw [h m hm, smw_congr fun j hj => h j (by omega)]
theorem lls_congr {b b' : Nat → Bool} {n : Nat} (h : ∀ j, j < 2 ^ n → b j = b' j) : lls b n = lls b' n := by unfold lls; rw [mins_congr h]
theorem least_lots_ok (bk : D) (b : Nat → Bool) (n : Nat) (hn : n ≤ 20) (hl : fLen [bk] = some (.int ((2 ^ n : Nat) : Int))) (hb : ∀ j : Nat, j < 2 ^ n → fIx bk (.int (j : Int)) = some (.bl (b j))) :
    d_least_lots [.int n, bk] = .ok (.tup (tts (lls b n))) := by
  have hp : 2 ^ n ≤ 2 ^ 20 := Nat.pow_le_pow_right (by decide) hn
  have hml := mins_len (b := b) (n := n)
  refine wpr_eq (wpr_F (wps_nx (ρ1 := [.im (.int n), .im bk, .im (.lst (zs ((mins b n).map fun (k : Nat) => (k : Int)))), .un]) ?_ ?_))
  · have hr : mRng1 (mCons (mOpA fLen (mCons (mVar 1) mNil)) mNil) [.im (.int n), .im bk, .un, .un] = .ok ((List.range (2 ^ n)).map fun (k : Nat) => D.int (k : Int)) := mRng1_ok (2 ^ n) (j := ((2 ^ n : Nat) : Int)) (by simp [hl]) rfl (by omega)
    have hc := compL_filter (bt := bName 3) (mt := mtAnd (mTru (mOp2 fIx (mVar 1) (mVar 3))) (mtNot (mTru (mCall 3 d_smaller_wins (mCons (mVar 1) (mCons (mVar 3) (mCons (mVar 0) mNil))))))) (me := mVar 3) (ρ := [.im (.int n), .im bk, .un, .un])
      (enc := fun (k : Nat) => D.int (k : Int)) (f := fun (k : Nat) => D.int (k : Int)) (t := fun m => b m && !smw b n m) (List.range (2 ^ n)) [] (fun m hm => ?_) (by simp; omega)
    · simp [hr, hc, mins]
    · have hm := List.mem_range.mp hm
      have hs := smaller_wins_ok bk b n m (by omega) fun j hj => hb j (by omega)
      refine ⟨[.im (.int n), .im bk, .un, .im (.int (m : Int))], rfl, ?_, fun _ => rfl⟩
      cases q : b m <;> simp [hb m hm, q, hs]
  · have hc := compL_map (bt := bName 3) (mt := mYes) (me := mCall 2 d_lot_of (mCons (mVar 3) (mCons (mVar 0) mNil))) (ρ := [.im (.int n), .im bk, .im (.lst (zs ((mins b n).map fun (k : Nat) => (k : Int)))), .un])
      (enc := fun (k : Nat) => D.int (k : Int)) (f := fun (k : Nat) => D.tup (zs (vot n k))) (mins b n) [] (fun m hm => ⟨_, rfl, rfl, ?_⟩) (by simp; omega)
    · have e : ((mins b n).map fun (k : Nat) => D.tup (zs (vot n k))) = tts ((mins b n).map (vot n)) := by simp
      have hs := fSortO_tts ((mins b n).map (vot n)) (fun l hl => by
        obtain ⟨m, _, rfl⟩ := List.mem_map.mp hl
        have := vot_len (n := n) (m := m)
        omega)
      rw [e] at hc
      have ez : zs ((mins b n).map fun (k : Nat) => (k : Int)) = (mins b n).map fun (k : Nat) => D.int (k : Int) := by simp
      refine wps_r (d := .tup (tts (lls b n))) ?_ rfl
      rw [ez] at hc ⊢
      generalize ((mins b n).map fun (k : Nat) => D.int (k : Int)) = ms at *
      unfold lls
      generalize tts ((mins b n).map (vot n)) = us at *
      simp [hc, hs]
    · simp [lot_of_ok n m (by omega)]
end Cm
namespace Cm
open PySem FL
theorem tail_filter {b : Nat → Bool} {n i : Nat} (t : Nat → Bool) : (List.range (i + 1)).filter t = (List.range i).filter t ++ (if t i then [i] else []) := by
  rw [List.range_succ, List.filter_append]
  congr 1
  cases q : t i <;> simp [q]
theorem law_least_ok (b : Nat → Bool) (n : Nat) (hn : n ≤ 20) : d_law_least [.lst (bkOf b (2 ^ n)), .int n] = .ok (.tup (tts (lls b n))) := by
  have hp : 2 ^ n ≤ 2 ^ 20 := Nat.pow_le_pow_right (by decide) hn
  have hp1 := okPow1 (k := n) (by omega)
  have hb : ∀ j : Nat, j < 2 ^ n → fIx (.lst (bkOf b (2 ^ n))) (.int (j : Int)) = some (.bl (b j)) := fun j hj => by rw [fIx_l, atI_nat, bkOf_get hj]
  generalize D.lst (bkOf b (2 ^ n)) = tb at *
  refine wpr_eq (wpr_F (wps_nx rfl (wps_seq ?_)))
  refine wps_for (List.range (2 ^ n)) (fun (k : Nat) => D.int (k : Int)) (mRng1_ok (2 ^ n) (j := 2 ^ n) (by simp [hp1]) (by push_cast; rfl) (by omega))
    (fun pre ρ => ∃ c3 c4, ρ = [.im tb, .im (.int n), .ow false (.l (tts (((List.range pre.length).filter fun m => b m && !smw b n m).map (vot n)))), c3, c4, .un, .un]) ⟨_, _, rfl⟩ ?_ ?_
  · rintro pre x post ρ e ⟨c3, c4, rfl⟩
    obtain ⟨hx, hlt⟩ := range_split e
    have hlen : (tts (((List.range pre.length).filter fun m => b m && !smw b n m).map (vot n))).length < 16777215 := by
      have := List.length_filter_le (fun m => b m && !smw b n m) (List.range pre.length)
      simp at this ⊢
      omega
    rw [List.length_append, List.length_singleton, tail_filter (b := b) (n := n)]
    subst hx
    generalize hms : (List.range pre.length).filter (fun m => b m && !smw b n m) = ms at *
    rw [List.map_append]
    unfold tts at *
    rw [List.map_append]
    generalize (ms.map (vot n)).map (fun l => D.tup (zs l)) = ts at *
    generalize pre.length = x at *
    refine ⟨_, rfl, ?_⟩
    cases q : b x with
    | false =>
      refine wps_if (k := false) (by simp [hb x hlt, q]) (fun q => nomatch q) (fun _ => wps_some ?_)
      exact ⟨_, _, by simp; exact ⟨rfl, rfl⟩⟩
    | true =>
      refine wps_if (k := true) (by simp [hb x hlt, q]) (fun _ => ?_) (fun q => nomatch q)
      have hr : mRng1 (mCons (mVar 1) mNil) [.im tb, .im (.int n), .ow false (.l ts), .im (.int (x : Int)), c4, .un, .un] = .ok ((List.range n).map fun (k : Nat) => D.int (k : Int)) := mRng1_ok n rfl rfl (by omega)
      have hc := compL_filter (bt := bName 5) (mt := mTst (mOp2 fEq (mOp2 fAnd (mOp2 fShr (mVar 3) (mVar 5)) (mI 1)) (mI 1))) (me := mOp2 fSub (mVar 3) (mOp2 fShl (mI 1) (mVar 5))) (ρ := [.im tb, .im (.int n), .ow false (.l ts), .im (.int (x : Int)), c4, .un, .un])
        (enc := fun (k : Nat) => D.int (k : Int)) (f := fun (k : Nat) => D.int ((x - 2 ^ k : Nat) : Int)) (t := fun k => x.testBit k) (List.range n) [] (fun k hk => ?_) (by simp; omega)
      · have hc2 := compL_map (bt := bName 6) (mt := mYes) (me := mOp2 fIx (mVar 0) (mVar 6)) (ρ := [.im tb, .im (.int n), .ow false (.l ts), .im (.int (x : Int)), .im (.lst ([] ++ ((List.range n).filter fun k => x.testBit k).map fun (k : Nat) => D.int ((x - 2 ^ k : Nat) : Int))), .un, .un])
          (enc := fun (k : Nat) => D.int ((x - 2 ^ k : Nat) : Int)) (f := fun (k : Nat) => D.bl (b (x - 2 ^ k))) ((List.range n).filter fun k => x.testBit k) [] (fun k hk => ⟨_, rfl, rfl, ?_⟩) (by simp; have := List.length_filter_le (fun k => x.testBit k) (List.range n); simp at this; omega)
        · refine wps_nx (ρ1 := [.im tb, .im (.int n), .ow false (.l ts), .im (.int (x : Int)), .im (.lst ([] ++ ((List.range n).filter fun k => x.testBit k).map fun (k : Nat) => D.int ((x - 2 ^ k : Nat) : Int))), .un, .un]) (by simp [hr, hc]) ?_
          have hs : (((List.range n).filter fun k => x.testBit k).map fun k => b (x - 2 ^ k)).any id = smw b n x := by
            unfold smw
            rw [List.any_map, List.any_filter]
            rfl
          have hs2 : blsOf ([] ++ ((List.range n).filter fun k => x.testBit k).map fun (k : Nat) => D.bl (b (x - 2 ^ k))) = some (((List.range n).filter fun k => x.testBit k).map fun k => b (x - 2 ^ k)) := by
            rw [List.nil_append, blsOf_fun]
          generalize ([] ++ ((List.range n).filter fun k => x.testBit k).map fun (k : Nat) => D.bl (b (x - 2 ^ k))) = us at *
          generalize hgs : (((List.range n).filter fun k => x.testBit k).map fun k => b (x - 2 ^ k)) = vs at *
          generalize hsm : ([] ++ ((List.range n).filter fun k => x.testBit k).map fun (k : Nat) => D.int ((x - 2 ^ k : Nat) : Int)) = sm at *
          have hsm2 : (((List.range n).filter fun k => x.testBit k).map fun (k : Nat) => D.int ((x - 2 ^ k : Nat) : Int)) = sm := by rw [← hsm]; rfl
          rw [hsm2] at hc2
          have hv := voters_ok n x (by omega)
          cases q2 : smw b n x with
          | true =>
            rw [q2] at hs
            refine wps_if (k := false) (by simp [hc2, hs2, hs]) (fun q => nomatch q) (fun _ => wps_some ?_)
            exact ⟨_, _, by simp; exact ⟨rfl, rfl⟩⟩
          | false =>
            rw [q2] at hs
            refine wps_if (k := true) (by simp [hc2, hs2, hs]) (fun _ => ?_) (fun q => nomatch q)
            refine wps_n (ρ := [.im tb, .im (.int n), .ow false (.l (ts ++ [D.tup (zs (vot n x))])), .im (.int (x : Int)), .im (.lst sm), .un, .un]) (by simp [hv, hlen]) ⟨_, _, by simp; exact ⟨rfl, rfl⟩⟩
        · have : x - 2 ^ k < 2 ^ n := Nat.lt_of_le_of_lt (Nat.sub_le _ _) hlt
          simp [hb _ this]
      · refine ⟨_, rfl, by simp [bit_d], fun hk2 => ?_⟩
        have h2 := pow_le_of_bit hk2
        have hk3 := okPow1 (k := k) (by have := List.mem_range.mp hk; omega)
        have e2 : ((x : Int) - 2 ^ k) = ((x - 2 ^ k : Nat) : Int) := by rw [Int.ofNat_sub h2]; simp
        simp [hk3, e2]
  · rintro ρ ⟨c3, c4, rfl⟩
    have hs := fSortO_tts ((mins b n).map (vot n)) (fun l hl => by
      obtain ⟨m, _, rfl⟩ := List.mem_map.mp hl
      have := vot_len (n := n) (m := m)
      omega)
    refine wps_r (d := .tup (tts (lls b n))) ?_ rfl
    rw [List.length_range]
    unfold lls mins at *
    generalize tts (((List.range (2 ^ n)).filter fun m => b m && !smw b n m).map (vot n)) = us at *
    simp [hs]
end Cm
namespace Cm
open PySem FL
/-! ## the making of a rule -/
def PIn (r : Res Cn) : Fl → Prop
  | .nx ρ => (match (ρ[0]? : Option Sl) with | some (.ow false (.i k ns us)) => Res.ok (Cn.i k ns us) | _ => .bad) = r
  | .ex e _ => Res.er e = r
  | _ => False
theorem runI_wps {c n : Nat} {ms : En → Option Fl} {ds : List D} {r : Res Cn} (h : wps (ms (.ow false (.i c [] []) :: startE (n - 1) ds)) (PIn r)) : runI c n ms ds = r := by
  obtain ⟨f, e, p⟩ := h
  unfold runI
  rw [e]
  cases f with
  | nx ρ => exact p
  | ex e ρ => exact p
  | _ => exact p.elim
@[simp] theorem sFldS_d (i c f m) (ρ : En) : sFldS i c f m ρ = (match ρ[i]? with
  | some (.ow false (.i k ns ds)) => runE ρ (m ρ) fun d => if k = c ∧ ns.length < 900 then some (.nx (ρ.set i (.ow false (.i k (putN f d ns ds).1 (putN f d ns ds).2)))) else none
  | _ => none) := id rfl
@[simp] theorem mFldO_d (i c f) (ρ : En) : mFldO i c f ρ = (match ρ[i]? with
  | some (.ow _ (.i k ns ds)) => if k = c then .ofO (fld f ns ds) else .bad
  | _ => .bad) := id rfl
@[simp] theorem sRaiseX_d (c fs ms) (ρ : En) : sRaiseX c fs ms ρ = runE ρ (ms ρ) fun ds => if ds.length = fs.length then some (.ex (.exc c fs.reverse ds.reverse) ρ) else none := id rfl
@[simp] theorem sRaise0_d (c) (ρ : En) : sRaise0 c ρ = some (.ex (.exc c [] []) ρ) := id rfl
@[simp] theorem mFld_d (cs f m) (ρ : En) : mFld cs f m ρ = (m ρ).bind fun d => .ofO (fldI cs f d) := id rfl
@[simp] theorem mMake_d (n φ ms) (ρ : En) : mMake n φ ms ρ = (ms ρ).bind fun ds => if ds.length + 1 = n then (φ ds).bind fun c => .ok c.d else .bad := id rfl
theorem st1 : ¬ (("many" : Str) = "book") := by decide +kernel
theorem st2 : ¬ (("book" : Str) = "many") := by decide +kernel
theorem st3 : ¬ (("many" : Str) = "least") := by decide +kernel
theorem st4 : ¬ (("book" : Str) = "least") := by decide +kernel
theorem st5 : ¬ (("least" : Str) = "many") := by decide +kernel
theorem st6 : ¬ (("least" : Str) = "book") := by decide +kernel
def ruleC (b : Nat → Bool) (n : Nat) : Cn := .i 5 ["many", "book", "least"] [.int n, .tup (bkOf b (2 ^ n)), .tup (tts (lls b n))]
def ruleD (b : Nat → Bool) (n : Nat) : D := .ins 5 ["many", "book", "least"] [.int n, .tup (bkOf b (2 ^ n)), .tup (tts (lls b n))]
theorem rule_empty (n : Int) : d_Rule_init [.int n, .tup []] = .er (.exc 1 [] []) := by
  refine runI_wps (wps_seq ?_)
  refine wps_if (k := true) (by simp) (fun _ => ?_) (fun q => nomatch q)
  exact wps_some rfl
/-- the test of one lot -/
theorem lot_test (l : List Int) (n : Nat) (c0 c2 : Sl) : (mtOr (mTst (mOp2 fEq (mOpA fLen (mCons (mVar 3) mNil)) (mI 0))) (mtNot (mTru (mCall 2 d_is_lot (mCons (mVar 3) (mCons (mVar 1) mNil)))))) [c0, .im (.int n), c2, .im (.tup (zs l))] = .ok (l.isEmpty || !isLotL (-1) n l) := by
  have h := is_lot_ok l n
  have e : decide (((zs l).length : Int) = 0) = l.isEmpty := by cases l <;> simp; omega
  cases q : l.isEmpty <;> simp [h, q] <;> cases l <;> simp at q ⊢
theorem rule_bad (n : Nat) (pre post : List (List Int)) (bad : List Int) (hg : ∀ l ∈ pre, l ≠ [] ∧ isLotL (-1) n l = true) (hb : bad = [] ∨ isLotL (-1) n bad = false) :
    d_Rule_init [.int n, .tup (tts (pre ++ bad :: post))] = .er (.exc 2 ["lot"] [.tup (zs bad)]) := by
  refine runI_wps (wps_seq ?_)
  refine wps_if (k := false) (by simp; omega) (fun q => nomatch q) (fun _ => wps_some (wps_seq ?_))
  refine wps_for (pre ++ bad :: post) (fun l => D.tup (zs l)) rfl (fun p ρ => ∃ c q, p ++ q = pre ∧ ρ = [.ow false (.i 5 [] []), .im (.int n), .im (.tup (tts (pre ++ bad :: post))), c]) ⟨_, pre, rfl, rfl⟩ ?_ ?_
  · rintro p x q ρ e ⟨c, r, e2, rfl⟩
    generalize tts (pre ++ bad :: post) = us at *
    refine ⟨_, rfl, ?_⟩
    have ht := lot_test x n (.ow false (.i 5 [] [])) (.im (.tup us))
    cases r with
    | nil =>
      rw [List.append_nil] at e2
      subst e2
      have := List.append_cancel_left e
      have hx : bad = x := (List.cons.inj this).1
      subst hx
      refine wps_if (k := true) (ht.trans ?_) (fun _ => ?_) (fun q => nomatch q)
      · congr 1
        rcases hb with z | z
        · rw [z]; rfl
        · rw [z]; simp
      · exact wps_some rfl
    | cons y r =>
      rw [← e2, List.append_assoc] at e
      have := List.append_cancel_left e
      have hx : y = x := (List.cons.inj this).1
      subst hx
      obtain ⟨g1, g2⟩ := hg y (by rw [← e2]; simp)
      refine wps_if (k := false) (ht.trans ?_) (fun q => nomatch q) (fun _ => wps_some ?_)
      · rw [g2]
        cases y with
        | nil => exact absurd rfl g1
        | cons a b => rfl
      · exact ⟨_, r, by rw [← e2]; simp, rfl⟩
  · rintro ρ ⟨c, q, e, rfl⟩
    have := congrArg List.length e
    simp at this
theorem rule_ok (n : Nat) (nums : List Nat) (hn : n ≤ 20) (h0 : nums ≠ []) (hl : nums.length ≤ 100000) (hg : ∀ m ∈ nums, m ≠ 0 ∧ m < 2 ^ n) :
    d_Rule_init [.int n, .tup (tts (nums.map (vot n)))] = .ok (ruleC (cont nums) n) := by
  refine runI_wps (wps_seq ?_)
  refine wps_if (k := false) (by cases nums with | nil => exact absurd rfl h0 | cons a b => simp; omega) (fun q => nomatch q) (fun _ => wps_some (wps_seq ?_))
  refine wps_for (nums.map (vot n)) (fun l => D.tup (zs l)) rfl (fun p ρ => ∃ c, ρ = [.ow false (.i 5 [] []), .im (.int n), .im (.tup (tts (nums.map (vot n)))), c]) ⟨_, rfl⟩ ?_ ?_
  · rintro p x q ρ e ⟨c, rfl⟩
    generalize hus : tts (nums.map (vot n)) = us at *
    refine ⟨_, rfl, ?_⟩
    have ht := lot_test x n (.ow false (.i 5 [] [])) (.im (.tup us))
    have hx : x ∈ nums.map (vot n) := by rw [e]; simp
    obtain ⟨m, hm, rfl⟩ := List.mem_map.mp hx
    obtain ⟨g1, g2⟩ := hg m hm
    refine wps_if (k := false) (ht.trans ?_) (fun q => nomatch q) (fun _ => wps_some ⟨_, rfl⟩)
    rw [isLotL_vot]
    have := vot_ne g1 g2
    cases q : vot n m with
    | nil => exact absurd q this
    | cons a b => rfl
  · rintro ρ ⟨c, rfl⟩
    have hw := winning_book_ok nums n hn hl
    have hle := least_lots_ok (.tup (bkOf (cont nums) (2 ^ n))) (cont nums) n hn (by rw [fLen_t, bkOf_len]) (fun j hj => by rw [fIx_t, atI_nat, bkOf_get hj])
    have hc := compL_map (bt := bName 3) (mt := mYes) (me := mCall 1 d_lot_number (mCons (mVar 3) mNil)) (ρ := [.ow false (.i 5 ["many"] [.int n]), .im (.int n), .im (.tup (tts (nums.map (vot n)))), .un])
      (enc := fun (m : Nat) => D.tup (zs (vot n m))) (f := fun (k : Nat) => D.int (k : Int)) nums [] (fun m hm => ⟨_, rfl, rfl, ?_⟩) (by simp; omega)
    · have ez : tts (nums.map (vot n)) = nums.map fun m => D.tup (zs (vot n m)) := by simp
      have ez2 : zs (nums.map fun (k : Nat) => (k : Int)) = nums.map fun (k : Nat) => D.int (k : Int) := by simp
      rw [ez] at hc ⊢
      rw [ez2] at hw
      generalize (nums.map fun m => D.tup (zs (vot n m))) = us at *
      generalize (nums.map fun (k : Nat) => D.int (k : Int)) = ws at *
      unfold ruleC
      generalize bkOf (cont nums) (2 ^ n) = bk at *
      generalize tts (lls (cont nums) n) = ls at *
      refine wps_nx (ρ1 := [.ow false (.i 5 ["many"] [.int n]), .im (.int n), .im (.tup us), c]) (by simp [putN]) ?_
      refine wps_nx (ρ1 := [.ow false (.i 5 ["many", "book"] [.int n, .tup bk]), .im (.int n), .im (.tup us), c]) (by simp [putN, hc, hw, st1]) ?_
      refine wps_n (ρ := [.ow false (.i 5 ["many", "book", "least"] [.int n, .tup bk, .tup ls]), .im (.int n), .im (.tup us), c]) (by simp [putN, fld, hle, st2, st3, st4]) rfl
    · obtain ⟨_, g2⟩ := hg m hm
      simp [number_vot (n := n) (m := m) (by omega) g2]
end Cm
namespace Cm
open PySem FL
theorem whole_int (i : Int) : d_law_whole [.int i] = .ok (.bl true) := by
  simp [d_law_whole, m_law_whole, isi_int_int, isi_bool_int]
theorem cell_ok (ns : List Int) (k : Int) (h0 : 0 ≤ k) (h1 : k ≤ 1000) : wpr (d_law_cell [.scr ns, .int k]) fun d => ∃ c, d = .int c := by
  obtain ⟨j, rfl⟩ := Int.eq_ofNat_of_zero_le h0
  refine wpr_F (wps_seq ?_)
  by_cases h : j < ns.length
  · refine wps_if (k := true) (by simp [h]) (fun _ => ?_) (fun q => nomatch q)
    simp [atI_nat, h]
    exact wps_some ⟨_, rfl⟩
  · refine wps_if (k := false) (by simp; omega) (fun q => nomatch q) (fun _ => ?_)
    refine wps_some (wps_nx rfl (wps_seq ?_))
    refine wps_for ns .int rfl (fun _ ρ => ∃ s c, ρ = [.im (.scr ns), .im (.int j), .im (.int s), c] ∧ 0 ≤ s ∧ s < 1000003) ⟨17, .un, rfl, by decide, by decide⟩ ?_ ?_
    · rintro pre x post ρ e ⟨s, c, rfl, hs0, hs1⟩
      have hm : okMul s 31 = true := okMul_b (by omega) (by omega) (by omega) (by omega)
      refine ⟨_, rfl, ?_⟩
      refine wps_n (by simp [hm]; rfl) ?_
      refine ⟨_, _, rfl, ?_, ?_⟩
      · rw [Int.fmod_eq_emod_of_nonneg _ (by decide)]; omega
      · rw [Int.fmod_eq_emod_of_nonneg _ (by decide)]; omega
    · rintro ρ ⟨s, c, rfl, hs0, hs1⟩
      have hm1 : okMul (s + 7) ((j : Int) + 3) = true := okMul_b (by omega) (by omega) (by omega) (by omega)
      have hb := Int.mul_le_mul (a := s + 7) (b := (j : Int) + 3) (c := 2000000) (d := 2000) (by omega) (by omega) (by omega) (by omega)
      have hb0 : 0 ≤ (s + 7) * ((j : Int) + 3) := Int.mul_nonneg (by omega) (by omega)
      have hm2 : okMul ((s + 7) * ((j : Int) + 3)) 69621 = true := okMul_b (by omega) (by omega) (by omega) (by omega)
      exact wps_r (by simp [hm1, hm2]; rfl) ⟨_, rfl⟩
end Cm
namespace Cm
open PySem FL
theorem fEq_ttt (a : List (List Int)) : fEq (.tup (tts a)) (.tup (tts a)) = some (.bl true) := by
  unfold fEq
  simp only [shp_tti, eqv_tti]
  simp
theorem are_lots_ok (a : List (List Int)) : d_law_are_lots [.tup (tts a), .tup (tts a)] = .ok (.bl true) := by
  have he := fEq_ttt a
  have hl : fNe (.int ((tts a).length : Int)) (.int ((tts a).length : Int)) = some (.bl false) := by simp
  refine wpr_eq (wpr_F (wps_seq ?_))
  refine wps_if (k := false) (by simp [isi_tuple_tup]) (fun q => nomatch q) (fun _ => wps_some (wps_seq ?_))
  refine wps_for a (fun l => D.tup (zs l)) rfl (fun p ρ => ∃ c d, ρ = [.im (.tup (tts a)), .im (.tup (tts a)), c, d]) ⟨_, _, rfl⟩ ?_ ?_
  · rintro p x q ρ e ⟨c, d, rfl⟩
    generalize tts a = us at *
    refine ⟨_, rfl, wps_seq ?_⟩
    refine wps_if (k := false) (by simp [isi_tuple_tup]) (fun q => nomatch q) (fun _ => wps_some ?_)
    refine wps_for x .int rfl (fun p ρ => ∃ d, ρ = [.im (.tup us), .im (.tup us), .im (.tup (zs x)), d]) ⟨_, rfl⟩ ?_ ?_
    · rintro p' x' q' ρ e' ⟨d, rfl⟩
      refine ⟨_, rfl, ?_⟩
      refine wps_if (k := false) (by simp [whole_int]) (fun q => nomatch q) (fun _ => wps_some ⟨_, rfl⟩)
    · rintro ρ ⟨d, rfl⟩
      exact ⟨_, _, rfl⟩
  · rintro ρ ⟨c, d, rfl⟩
    generalize tts a = us at *
    exact wps_r (by simp [he]) rfl
@[simp] theorem mIsC_d (l : XT) (m : En → Res D) (ρ : En) : mIsC l m ρ = (m ρ).bind fun d => match d with
  | .ins c _ _ => .ofO ((l.lookup c).map .bl)
  | _ => .bad := id rfl
end Cm
namespace Cm
open PySem FL
/-- digits below their sizes -/
def Dig (sizes row : List Int) : Prop := row.length = sizes.length ∧ ∀ (i : Nat) (r s : Int), row[i]? = some r → sizes[i]? = some s → 0 ≤ r ∧ r < s
theorem Dig.snoc {sizes row : List Int} {s r : Int} (h : Dig sizes row) (h0 : 0 ≤ r) (h1 : r < s) : Dig (sizes ++ [s]) (row ++ [r]) := by
  refine ⟨by simp [h.1], fun i x y e1 e2 => ?_⟩
  by_cases hi : i < row.length
  · rw [List.getElem?_append_left hi] at e1
    rw [List.getElem?_append_left (by rw [← h.1]; exact hi)] at e2
    exact h.2 i x y e1 e2
  · rw [List.getElem?_append_right (by omega)] at e1
    rw [List.getElem?_append_right (by rw [← h.1]; omega)] at e2
    have : i - row.length = 0 := by
      cases q : i - row.length with
      | zero => rfl
      | succ k => rw [q] at e1; simp at e1
    rw [this] at e1
    rw [← h.1, this] at e2
    simp at e1 e2
    subst e1 e2
    exact ⟨h0, h1⟩
theorem digits_ok (c : Int) (sizes : List Int) (hl : sizes.length ≤ 1000) (hs : ∀ s ∈ sizes, 0 < s ∧ s < 1000000000000000000000000000000000000) : wpr (d_law_digits [.int c, .lst (zs sizes)]) fun d => ∃ row, d = .lst (zs row) ∧ Dig sizes row := by
  have hp : okPow 10 18 = true := by decide
  refine wpr_F (wps_nx rfl (wps_nx rfl (wps_seq ?_)))
  by_cases h : (1000000000000000000 : Int) ≤ c
  · refine wps_if (k := true) (by simp [hp, h]) (fun _ => ?_) (fun q => nomatch q)
    refine wps_nx (by simp [hp]; rfl) (wps_seq ?_)
    refine wps_for sizes .int rfl (fun pre ρ => ∃ row rest z, ρ = [.im (.int c), .im (.lst (zs sizes)), .ow false (.l (zs row)), .im (.int rest), z, .un, .un, .un] ∧ Dig pre row)
      ⟨[], _, _, rfl, rfl, fun i r s e => by simp at e⟩ ?_ ?_
    · rintro pre x post ρ e ⟨row, rest, z, rfl, hd⟩
      obtain ⟨h0, h1⟩ := hs x (by rw [e]; simp)
      have hne : x ≠ 0 := by omega
      have hdiv : okDiv rest x = true := okDiv_wide hne (Nat.lt_of_lt_of_le (show x.natAbs < 2 ^ 128 by omega) (Nat.pow_le_pow_right (by decide) (by decide)))
      have hlen : row.length < 16777215 := by
        have := congrArg List.length e
        rw [hd.1]; simp at this; omega
      refine ⟨_, rfl, ?_⟩
      refine wps_nx (ρ1 := [.im (.int c), .im (.lst (zs sizes)), .ow false (.l (zs (row ++ [rest.fmod x]))), .im (.int rest), .im (.int x), .un, .un, .un]) (by simp [hne, hlen]) ?_
      refine wps_n (ρ := [.im (.int c), .im (.lst (zs sizes)), .ow false (.l (zs (row ++ [rest.fmod x]))), .im (.int (rest.fdiv x)), .im (.int x), .un, .un, .un]) (by simp [hdiv]) ?_
      refine ⟨_, _, _, rfl, hd.snoc ?_ ?_⟩
      · rw [Int.fmod_eq_emod_of_nonneg _ (by omega)]; exact Int.emod_nonneg _ hne
      · rw [Int.fmod_eq_emod_of_nonneg _ (by omega)]; exact Int.emod_lt_of_pos _ h0
    · rintro ρ ⟨row, rest, z, rfl, hd⟩
      exact wps_r rfl ⟨row, rfl, hd⟩
  · refine wps_if (k := false) (by simp [hp]; omega) (fun q => nomatch q) (fun _ => wps_some ?_)
    refine wps_nx (ρ1 := [.im (.int c), .im (.lst (zs sizes)), .ow false (.l (zs [])), .im (.int c), .un, .im (.int (c.fmod 2147483629)), .un, .un]) (by simp) (wps_seq ?_)
    refine wps_for (List.range sizes.length) (fun (k : Nat) => D.int (k : Int)) (mRng1_ok (j := (sizes.length : Int)) sizes.length (by simp) rfl (by omega))
      (fun pre ρ => ∃ row seed z1 z2, ρ = [.im (.int c), .im (.lst (zs sizes)), .ow false (.l (zs row)), .im (.int c), .un, .im (.int seed), z1, z2] ∧ 0 ≤ seed ∧ seed < 2147483647 ∧ Dig (sizes.take pre.length) row)
      ⟨[], _, _, _, rfl, ?_, ?_, rfl, fun i r s e => by simp at e⟩ ?_ ?_
    · rw [Int.fmod_eq_emod_of_nonneg _ (by decide)]; omega
    · rw [Int.fmod_eq_emod_of_nonneg _ (by decide)]; omega
    · rintro pre x post ρ e ⟨row, seed, z1, z2, rfl, hs0, hs1, hd⟩
      obtain ⟨rfl, hx⟩ := range_split e
      have hq : sizes[pre.length]? = some sizes[pre.length] := by simp [hx]
      obtain ⟨h0, h1⟩ := hs sizes[pre.length] (List.getElem_mem hx)
      generalize sizes[pre.length] = s at *
      have hne : s ≠ 0 := by omega
      have hm1 : okMul seed 48271 = true := okMul_b (by omega) (by omega) (by omega) (by omega)
      have hm2 : okMul 974711 (pre.length : Int) = true := okMul_b (by omega) (by omega) (by omega) (by omega)
      generalize hS : (seed * 48271 + 974711 * (pre.length : Int) + 12345).fmod 2147483647 = S
      have hS0 : 0 ≤ S ∧ S < 2147483647 := by
        rw [← hS, Int.fmod_eq_emod_of_nonneg _ (by decide)]; omega
      have hd1 : okDiv S 65537 = true := okDiv_small (by decide) (by decide)
      generalize hU : S.fdiv 65537 = U
      have hU0 : 0 ≤ U ∧ U < 2147483647 := by
        rw [← hU, Int.fdiv_eq_ediv_of_nonneg _ (by decide)]; omega
      have hm3 : okMul S (U + 3) = true := okMul_b (by omega) (by omega) (by omega) (by omega)
      generalize hT : (S * (U + 3)).fmod 2147483629 = T
      have hd2 : okDiv T 19 = true := okDiv_small (by decide) (by decide)
      have hlen : row.length < 16777215 := by
        rw [hd.1]; simp; omega
      refine ⟨_, rfl, ?_⟩
      refine wps_nx (ρ1 := [.im (.int c), .im (.lst (zs sizes)), .ow false (.l (zs row)), .im (.int c), .un, .im (.int S), .im (.int (pre.length : Int)), z2]) (by simp only [← hS]; simp [hm1, hm2]) ?_
      refine wps_nx (ρ1 := [.im (.int c), .im (.lst (zs sizes)), .ow false (.l (zs row)), .im (.int c), .un, .im (.int S), .im (.int (pre.length : Int)), .im (.int T)]) (by simp [hd1, hU, hm3, hT]) ?_
      refine wps_n (ρ := [.im (.int c), .im (.lst (zs sizes)), .ow false (.l (zs (row ++ [(T.fdiv 19).fmod s]))), .im (.int c), .un, .im (.int S), .im (.int (pre.length : Int)), .im (.int T)]) (by simp [hd2, atI_nat, hq, hne, hlen]) ?_
      refine ⟨_, _, _, _, rfl, hS0.1, hS0.2, ?_⟩
      have et : sizes.take (pre ++ [pre.length]).length = sizes.take pre.length ++ [s] := by
        rw [List.length_append, List.length_singleton, List.take_succ, hq]; rfl
      rw [et]
      refine hd.snoc ?_ ?_
      · rw [Int.fmod_eq_emod_of_nonneg _ (by omega)]; exact Int.emod_nonneg _ hne
      · rw [Int.fmod_eq_emod_of_nonneg _ (by omega)]; exact Int.emod_lt_of_pos _ h0
    · rintro ρ ⟨row, seed, z1, z2, rfl, hs0, hs1, hd⟩
      rw [List.length_range, List.take_length] at hd
      exact wps_r rfl ⟨row, rfl, hd⟩
end Cm
namespace Cm
open PySem FL
@[simp] theorem mCh_d (f g ma mb mc) (ρ : En) : mCh f g ma mb mc ρ = (ma ρ).bind fun x => (mb ρ).bind fun y => match f x y with
  | some (.bl true) => (mc ρ).bind fun z => .ofO (g y z)
  | some (.bl false) => .ok (.bl false)
  | _ => .bad := id rfl
def sized (n lo hi : Nat) : List Nat := ((List.range (2 ^ n - 1)).map fun k => 1 + k).filter fun m => decide (lo ≤ (vot n m).length) && decide ((vot n m).length ≤ hi)
theorem mem_sized {n lo hi m : Nat} : m ∈ sized n lo hi ↔ m ≠ 0 ∧ m < 2 ^ n ∧ lo ≤ (vot n m).length ∧ (vot n m).length ≤ hi := by
  have := Nat.two_pow_pos n
  unfold sized
  simp only [List.mem_filter, List.mem_map, List.mem_range, Bool.and_eq_true, decide_eq_true_eq]
  constructor
  · rintro ⟨⟨k, hk, rfl⟩, h⟩
    exact ⟨by omega, by omega, h⟩
  · rintro ⟨h0, h1, h⟩
    exact ⟨⟨m - 1, by omega, by omega⟩, h⟩
theorem sized_ok (n lo hi : Nat) (hn : n ≤ 20) : d_law_sized [.int n, .int lo, .int hi] = .ok (.lst (zs ((sized n lo hi).map fun (k : Nat) => (k : Int)))) := by
  have hp : 2 ^ n ≤ 2 ^ 20 := Nat.pow_le_pow_right (by decide) hn
  have hp1 := okPow1 (k := n) (by omega)
  have hpos := Nat.two_pow_pos n
  have hr : mRng2 (mCons (mI 1) (mCons (mOp2 fShl (mI 1) (mVar 0)) mNil)) [.im (.int n), .im (.int lo), .im (.int hi), .un] = .ok ((List.range (2 ^ n - 1)).map fun (k : Nat) => D.int ((1 : Int) + (k : Int))) :=
    mRng2_ok (2 ^ n - 1) (j := ((2 ^ n : Nat) : Int)) rfl (by simp [hp1]) (by omega) (by omega) (by omega)
  have hc := compL_filter (bt := bName 3) (mt := mTst (mCh fLe fLe (mVar 1) (mOpA fLen (mCons (mCall 2 d_law_voters (mCons (mVar 3) (mCons (mVar 0) mNil))) mNil)) (mVar 2))) (me := mVar 3) (ρ := [.im (.int n), .im (.int lo), .im (.int hi), .un])
    (enc := fun (k : Nat) => D.int (k : Int)) (f := fun (k : Nat) => D.int (k : Int)) (t := fun m => decide (lo ≤ (vot n m).length) && decide ((vot n m).length ≤ hi)) ((List.range (2 ^ n - 1)).map fun k => 1 + k) [] (fun m hm => ⟨_, rfl, ?_, fun _ => rfl⟩) (by simp; omega)
  · have ez : ((List.range (2 ^ n - 1)).map fun k => 1 + k).map (fun (k : Nat) => D.int (k : Int)) = (List.range (2 ^ n - 1)).map fun (k : Nat) => D.int ((1 : Int) + (k : Int)) := by
      rw [List.map_map]; rfl
    rw [ez] at hc
    unfold sized
    generalize ((List.range (2 ^ n - 1)).map fun (k : Nat) => D.int ((1 : Int) + (k : Int))) = us at *
    generalize (((List.range (2 ^ n - 1)).map fun k => 1 + k).filter fun m => decide (lo ≤ (vot n m).length) && decide ((vot n m).length ≤ hi)) = ws at *
    refine wpr_eq (wpr_F (wps_r ?_ rfl))
    show m_law_sized [.im (.int n), .im (.int lo), .im (.int hi), .un] = _
    unfold m_law_sized
    simp [hr, hc]
  · have hv := voters_ok n m (by omega)
    have hz : (zs (vot n m)).length = (vot n m).length := by simp
    generalize vot n m = l at *
    by_cases q : lo ≤ l.length <;> simp [hv, q]
end Cm
namespace Cm
open PySem FL
abbrev nz (l : List Nat) : List D := l.map fun (k : Nat) => D.int (k : Int)
theorem nz_zs (l : List Nat) : zs (l.map fun (k : Nat) => (k : Int)) = nz l := by simp
theorem fSl_loL (a : List D) (k : Nat) (h : k ≤ a.length) : fSl (.lst a) (some (k : Int)) none = some (.lst (a.drop k)) := by
  simp only [fSl, cutD, HT.sIx_nat]
  rw [Nat.min_eq_left h]
  simp only [HT.sIx]
  rw [List.take_of_length_le (by simp)]
theorem fSl_hiL (a : List D) (k : Nat) : fSl (.lst a) none (some (k : Int)) = some (.lst (a.take k)) := by
  simp only [fSl, cutD, HT.sIx_nat]
  by_cases h : k ≤ a.length
  · rw [Nat.min_eq_left h]
    simp [HT.sIx]
  · rw [Nat.min_eq_right (by omega)]
    simp [HT.sIx]
    rw [List.take_of_length_le (by omega)]
theorem fSl_1L (a : List D) (k : Nat) (h : 1 ≤ a.length) : fSl (.lst a) (some 1) (some ((1 : Int) + (k : Int))) = some (.lst ((a.drop 1).take k)) := by
  have e : ((1 : Int) + (k : Int)) = ((1 + k : Nat) : Int) := by omega
  have e1 : (some (1 : Int)) = some ((1 : Nat) : Int) := rfl
  rw [e, e1]
  simp only [fSl, cutD, HT.sIx_nat]
  rw [Nat.min_eq_left h]
  congr 2
  by_cases hk : 1 + k ≤ a.length
  · rw [Nat.min_eq_left hk]; congr 1; omega
  · rw [Nat.min_eq_right (by omega), List.take_of_length_le (by simp), List.take_of_length_le (by simp; omega)]
/-- numbers of lots -/
def Good (n : Nat) (l : List Nat) : Prop := l ≠ [] ∧ l.length ≤ 2000 ∧ ∀ m ∈ l, m ≠ 0 ∧ m < 2 ^ n
theorem good_pick {n : Nat} {xs : List Nat} {al : List Nat} (ha : al ≠ []) (hg : ∀ m ∈ al, m ≠ 0 ∧ m < 2 ^ n) (hx : xs ≠ []) (hl : xs.length ≤ 2000) : Good n (xs.map fun x => al.getD (x % al.length) 0) := by
  refine ⟨by simpa using hx, by simpa using hl, fun m hm => ?_⟩
  obtain ⟨x, _, rfl⟩ := List.mem_map.mp hm
  have hp : 0 < al.length := List.length_pos_iff.mpr ha
  have := Nat.mod_lt x hp
  rw [List.getD_eq_getElem?_getD, List.getElem?_eq_getElem this]
  exact hg _ (List.getElem_mem this)
theorem vot_full_len (n s : Nat) (h : s ≤ n) : (vot n (2 ^ s - 1)).length = s := by
  have : bits n (2 ^ s - 1) = List.range s := by
    unfold bits
    have e : List.range n = List.range s ++ (List.range (n - s)).map (fun k => s + k) := by
      rw [← List.range_add]; congr 1; omega
    rw [e, List.filter_append, List.filter_eq_self.mpr, List.filter_eq_nil_iff.mpr, List.append_nil]
    · intro k hk
      obtain ⟨j, _, rfl⟩ := List.mem_map.mp hk
      rw [Nat.testBit_two_pow_sub_one]
      simp
    · intro k hk
      rw [Nat.testBit_two_pow_sub_one]
      simpa using hk
  unfold vot
  rw [this]; simp
theorem sized_ne {n s hi : Nat} (h1 : 1 ≤ s) (h : s ≤ n) (hh : s ≤ hi) : sized n s hi ≠ [] := by
  have h2 : 2 ≤ 2 ^ s := by
    have := Nat.pow_le_pow_right (n := 2) (by decide) h1
    simpa using this
  have h3 := Nat.pow_le_pow_right (n := 2) (by decide) h
  have : 2 ^ s - 1 ∈ sized n s hi := mem_sized.mpr ⟨by omega, by omega, by rw [vot_full_len n s h]; omega, by rw [vot_full_len n s h]; omega⟩
  intro e
  rw [e] at this
  cases this
end Cm
namespace Cm
open PySem FL
/-! ## tables of all lots -/
/-- lots that contain a winning one win; the lot of all wins, the empty one does not -/
structure Tab (n : Nat) (b : Nat → Bool) : Prop where
  up : ∀ m m', m' < 2 ^ n → m &&& m' = m → b m = true → b m' = true
  full : b (2 ^ n - 1) = true
  emp : b 0 = false
theorem sub_lt {t m n : Nat} (h : t &&& m = t) (hm : m < 2 ^ n) : t < 2 ^ n := by
  have : t ≤ m := by rw [← h]; exact Nat.and_le_right
  omega
theorem full_bit {n k : Nat} (h : k < n) : (2 ^ n - 1).testBit k = true := by rw [Nat.testBit_two_pow_sub_one]; simpa using h
theorem sub_full {n m : Nat} (h : m < 2 ^ n) : m &&& (2 ^ n - 1) = m := sub_iff.mpr fun j hj => full_bit (bit_lt h hj)
theorem sub_minus {m k : Nat} (h : m.testBit k = true) : (m - 2 ^ k) &&& m = m - 2 ^ k := sub_iff.mpr fun j hj => by
  rw [bit_sub h] at hj
  simp at hj
  exact hj.1
theorem sub_trans {a b c : Nat} (h1 : a &&& b = a) (h2 : b &&& c = b) : a &&& c = a := sub_iff.mpr fun j hj => sub_iff.mp h2 j (sub_iff.mp h1 j hj)
/-- a lot that wins contains a least one -/
theorem mins_below {n : Nat} {b : Nat → Bool} : ∀ m, m < 2 ^ n → b m = true → ∃ t ∈ mins b n, t &&& m = t := by
  intro m
  induction m using Nat.strongRecOn with
  | _ m ih =>
    intro hm hb
    by_cases h : smw b n m = true
    · obtain ⟨k, hk, e⟩ := List.any_eq_true.mp h
      rw [Bool.and_eq_true] at e
      have h2 := pow_le_of_bit e.1
      have h3 := Nat.two_pow_pos k
      obtain ⟨t, ht, hs⟩ := ih (m - 2 ^ k) (by omega) (by omega) e.2
      exact ⟨t, ht, sub_trans hs (sub_minus e.1)⟩
    · exact ⟨m, mem_mins.mpr ⟨hm, hb, by simpa using h⟩, Nat.and_self m⟩
theorem cont_perm {xs ys : List Nat} (h : xs.Perm ys) (m : Nat) : cont xs m = cont ys m := by
  unfold cont
  rw [Bool.eq_iff_iff, List.any_eq_true, List.any_eq_true]
  constructor
  · rintro ⟨x, hx, e⟩; exact ⟨x, h.mem_iff.mp hx, e⟩
  · rintro ⟨x, hx, e⟩; exact ⟨x, h.mem_iff.mpr hx, e⟩
theorem cont_mins {n : Nat} {b : Nat → Bool} (T : Tab n b) {m : Nat} (hm : m < 2 ^ n) : cont (mins b n) m = b m := by
  rw [Bool.eq_iff_iff]
  constructor
  · intro h
    obtain ⟨t, ht, e⟩ := List.any_eq_true.mp h
    exact T.up t m hm (of_decide_eq_true e) (mem_mins.mp ht).2.1
  · intro h
    obtain ⟨t, ht, e⟩ := mins_below m hm h
    exact List.any_eq_true.mpr ⟨t, ht, decide_eq_true e⟩
theorem mins_ne {n : Nat} {b : Nat → Bool} (T : Tab n b) : mins b n ≠ [] := by
  obtain ⟨t, ht, _⟩ := mins_below (n := n) (b := b) (2 ^ n - 1) (by have := Nat.two_pow_pos n; omega) T.full
  intro e; rw [e] at ht; cases ht
theorem mins_good {n : Nat} {b : Nat → Bool} (T : Tab n b) : ∀ m ∈ mins b n, m ≠ 0 ∧ m < 2 ^ n := fun m hm => by
  have h := mem_mins.mp hm
  refine ⟨fun e => ?_, h.1⟩
  rw [e, T.emp] at h
  cases h.2.1
theorem cont_tab {n : Nat} {nums : List Nat} (h0 : nums ≠ []) (hg : ∀ m ∈ nums, m ≠ 0 ∧ m < 2 ^ n) : Tab n (cont nums) where
  up := fun m m' hm hs h => by
    obtain ⟨t, ht, e⟩ := List.any_eq_true.mp h
    exact List.any_eq_true.mpr ⟨t, ht, decide_eq_true (sub_trans (of_decide_eq_true e) hs)⟩
  full := by
    cases nums with
    | nil => exact absurd rfl h0
    | cons a l => exact List.any_eq_true.mpr ⟨a, by simp, decide_eq_true (sub_full (hg a (by simp)).2)⟩
  emp := by
    unfold cont
    rw [List.any_eq_false]
    intro t ht
    have := (hg t ht).1
    simp; omega
theorem Tab.congr {n : Nat} {b b' : Nat → Bool} (T : Tab n b) (h : ∀ m, m < 2 ^ n → b m = b' m) : Tab n b' where
  up := fun m m' hm hs e => by
    rw [← h m' hm]
    exact T.up m m' hm hs (by rw [h m (sub_lt hs hm)]; exact e)
  full := by rw [← h _ (by have := Nat.two_pow_pos n; omega)]; exact T.full
  emp := by rw [← h _ (Nat.two_pow_pos n)]; exact T.emp
theorem and_tab {n : Nat} {b c : Nat → Bool} (T : Tab n b) (S : Tab n c) : Tab n fun m => b m && c m where
  up := fun m m' hm hs e => by rw [Bool.and_eq_true] at e ⊢; exact ⟨T.up m m' hm hs e.1, S.up m m' hm hs e.2⟩
  full := by rw [T.full, S.full]; rfl
  emp := by rw [T.emp]; rfl
theorem or_tab {n : Nat} {b c : Nat → Bool} (T : Tab n b) (S : Tab n c) : Tab n fun m => b m || c m where
  up := fun m m' hm hs e => by
    rw [Bool.or_eq_true] at e ⊢
    exact e.imp (T.up m m' hm hs) (S.up m m' hm hs)
  full := by rw [T.full]; rfl
  emp := by rw [T.emp, S.emp]; rfl
/-- the lot of all others -/
theorem rest_bit {n m j : Nat} (hm : m < 2 ^ n) (hj : j < n) : (2 ^ n - 1 - m).testBit j = !m.testBit j := by
  rw [show 2 ^ n - 1 - m = 2 ^ n - (m + 1) by omega, Nat.testBit_two_pow_sub_succ hm]
  simp [hj]
theorem rest_sub {n m m' : Nat} (hm : m' < 2 ^ n) (h : m &&& m' = m) : (2 ^ n - 1 - m') &&& (2 ^ n - 1 - m) = 2 ^ n - 1 - m' := sub_iff.mpr fun j hj => by
  have hl : j < n := bit_lt (n := n) (by have := Nat.two_pow_pos n; omega) hj
  have hm2 := sub_lt h hm
  rw [rest_bit hm hl] at hj
  rw [rest_bit hm2 hl]
  cases q : m.testBit j with
  | false => rfl
  | true => rw [sub_iff.mp h j q] at hj; cases hj
theorem inv_tab {n : Nat} {b : Nat → Bool} (T : Tab n b) : Tab n fun m => !b (2 ^ n - 1 - m) where
  up := fun m m' hm hs e => by
    rw [Bool.not_eq_true'] at e ⊢
    cases q : b (2 ^ n - 1 - m') with
    | false => rfl
    | true =>
      have := T.up (2 ^ n - 1 - m') (2 ^ n - 1 - m) (by have := Nat.two_pow_pos n; omega) (rest_sub hm hs) q
      rw [this] at e; cases e
  full := by rw [Nat.sub_self, T.emp]; rfl
  emp := by rw [Nat.sub_zero, T.full]; rfl
/-! ## weights -/
def wsum (ws : List Int) (m : Nat) : Int := ((List.range ws.length).map fun k => if m.testBit k then ws.getD k 0 else 0).sum
theorem sum_append' (a b : List Int) : (a ++ b).sum = a.sum + b.sum := by simp
theorem wsum_snoc (ws : List Int) (w : Int) (m : Nat) : wsum (ws ++ [w]) m = wsum ws m + if m.testBit ws.length then w else 0 := by
  unfold wsum
  rw [List.length_append, List.length_singleton, List.range_succ, List.map_append, sum_append']
  congr 1
  · congr 1
    apply List.map_congr_left
    intro k hk
    have hk := List.mem_range.mp hk
    rw [List.getD_eq_getElem?_getD, List.getD_eq_getElem?_getD, List.getElem?_append_left hk]
  · simp
theorem wsum_low {ws : List Int} {m m' : Nat} (h : ∀ k, k < ws.length → m.testBit k = m'.testBit k) : wsum ws m = wsum ws m' := by
  unfold wsum
  congr 1
  apply List.map_congr_left
  intro k hk
  rw [h k (List.mem_range.mp hk)]
def sumsF (ws : List Int) : List Int := ws.foldl (fun s w => s ++ s.map fun x => x + w) [0]
theorem sumsF_eq (ws : List Int) : sumsF ws = (List.range (2 ^ ws.length)).map (wsum ws) := by
  suffices h : ∀ vs : List Int, sumsF vs.reverse = (List.range (2 ^ vs.reverse.length)).map (wsum vs.reverse) by
    have := h ws.reverse
    rwa [List.reverse_reverse] at this
  intro vs
  induction vs with
  | nil => rfl
  | cons w vs ih =>
    rw [List.reverse_cons]
    generalize vs.reverse = us at ih
    have e : sumsF (us ++ [w]) = sumsF us ++ (sumsF us).map fun x => x + w := by
      unfold sumsF
      rw [List.foldl_append]
      rfl
    rw [e, ih, List.length_append, List.length_singleton, Nat.pow_succ, Nat.mul_two, List.range_add, List.map_append, List.map_map, List.map_map]
    congr 1
    · apply List.map_congr_left
      intro m hm
      have hm := List.mem_range.mp hm
      rw [wsum_snoc, Nat.testBit_lt_two_pow hm]
      simp
    · apply List.map_congr_left
      intro m hm
      have hm := List.mem_range.mp hm
      show wsum us m + w = wsum (us ++ [w]) (2 ^ us.length + m)
      rw [wsum_snoc, Nat.testBit_two_pow_add_eq, Nat.testBit_lt_two_pow hm]
      simp only [Bool.not_false, if_true]
      congr 1
      exact wsum_low fun k hk => by rw [Nat.testBit_two_pow_add_gt hk]
theorem sum_le {α : Type} {f g : α → Int} : ∀ {l : List α}, (∀ x ∈ l, f x ≤ g x) → (l.map f).sum ≤ (l.map g).sum
  | [], _ => by simp
  | x :: l, h => by
    have h1 := h x (by simp)
    have h2 := sum_le (f := f) (g := g) (l := l) fun y hy => h y (by simp [hy])
    simp only [List.map_cons, List.sum_cons]
    omega
theorem wsum_mono {ws : List Int} (h0 : ∀ w ∈ ws, 0 ≤ w) {m m' : Nat} (h : m &&& m' = m) : wsum ws m ≤ wsum ws m' := by
  refine sum_le fun k hk => ?_
  have hk := List.mem_range.mp hk
  have hw : 0 ≤ ws.getD k 0 := by
    rw [List.getD_eq_getElem?_getD, List.getElem?_eq_getElem hk]
    exact h0 _ (List.getElem_mem hk)
  cases q : m.testBit k with
  | true => rw [sub_iff.mp h k q]; exact Int.le_refl _
  | false => cases m'.testBit k <;> simp_all
theorem sum_zeros {α : Type} : ∀ l : List α, (l.map fun _ => (0 : Int)).sum = 0
  | [] => rfl
  | _ :: l => by simp [sum_zeros l]
theorem wsum_zero (ws : List Int) : wsum ws 0 = 0 := by
  unfold wsum
  simp [sum_zeros]
theorem wsum_full (ws : List Int) {m : Nat} (h : ∀ k, k < ws.length → m.testBit k = true) : wsum ws m = ws.sum := by
  unfold wsum
  have : (List.range ws.length).map (fun k => if m.testBit k then ws.getD k 0 else 0) = ws := by
    apply List.ext_getElem
    · simp
    · intro i h1 h2
      simp only [List.getElem_map, List.getElem_range, h i h2, if_true, List.getD_eq_getElem?_getD, List.getElem?_eq_getElem h2, Option.getD_some]
  rw [this]
theorem weight_tab {n : Nat} {ws : List Int} (hl : ws.length = n) (h0 : ∀ w ∈ ws, 0 ≤ w) {q : Int} (hq : 1 ≤ q) (hq2 : q ≤ ws.sum) : Tab n fun m => decide (q ≤ wsum ws m) where
  up := fun m m' hm hs e => by
    have := wsum_mono h0 hs
    have e := of_decide_eq_true e
    exact decide_eq_true (by omega)
  full := decide_eq_true (by rw [wsum_full ws fun k hk => full_bit (by omega)]; exact hq2)
  emp := by rw [wsum_zero, decide_eq_false_iff_not]; omega
end Cm
namespace Cm
open PySem FL
abbrev tyRule : Ty := .ins 5 ["many", "book", "least"] (.pr .z (.pr (.tup .b) (.tup (.tup .z))))
abbrev cnRule (x : Ty.T tyRule) : Cn := .i 5 ["many", "book", "least"] (Ty.encA (.pr .z (.pr (.tup .b) (.tup (.tup .z)))) x)
theorem fl_Rule_many (x : Ty.T tyRule) : fldI [5] "many" (Ty.enc tyRule x) = some (Ty.enc .z ((fun x => x.1) x)) := by
  show (if List.contains [5] 5 = true then fld "many" ["many", "book", "least"] (Ty.encA (.pr .z (.pr (.tup .b) (.tup (.tup .z)))) x) else none) = _
  rw [if_pos (by decide)]
  simp only [fld, Ty.encA, Ty.encP, if_false, if_true]
  rfl
theorem fl_Rule_book (x : Ty.T tyRule) : fldI [5] "book" (Ty.enc tyRule x) = some (Ty.enc (.tup .b) ((fun x => x.2.1) x)) := by
  show (if List.contains [5] 5 = true then fld "book" ["many", "book", "least"] (Ty.encA (.pr .z (.pr (.tup .b) (.tup (.tup .z)))) x) else none) = _
  rw [if_pos (by decide)]
  simp only [fld, Ty.encA, Ty.encP, show ¬ ("book" : Str) = "many" from by decide +kernel, if_false, if_true]
  rfl
theorem fl_Rule_least (x : Ty.T tyRule) : fldI [5] "least" (Ty.enc tyRule x) = some (Ty.enc (.tup (.tup .z)) ((fun x => x.2.2) x)) := by
  show (if List.contains [5] 5 = true then fld "least" ["many", "book", "least"] (Ty.encA (.pr .z (.pr (.tup .b) (.tup (.tup .z)))) x) else none) = _
  rw [if_pos (by decide)]
  simp only [fld, Ty.encA, Ty.encP, show ¬ ("least" : Str) = "many" from by decide +kernel, show ¬ ("least" : Str) = "book" from by decide +kernel, if_false, if_true]
  rfl
noncomputable def t_lot_number (p_lot : List Int) : Res Int := decR (Ty.z) (d_lot_number [Ty.enc (.tup .z) p_lot])
theorem tt_lot_number (p_lot : List Int) : Rx (Ty.enc .z) (t_lot_number p_lot) (d_lot_number [Ty.enc (.tup .z) p_lot]) := by unfold t_lot_number; exact rx_dec (Ty.z) (d_lot_number [Ty.enc (.tup .z) p_lot])
noncomputable def t_lot_of (p_number : Int) (p_many : Int) : Res (List Int) := decR (Ty.tup .z) (d_lot_of [Ty.enc .z p_number, Ty.enc .z p_many])
theorem tt_lot_of (p_number : Int) (p_many : Int) : Rx (Ty.enc (.tup .z)) (t_lot_of p_number p_many) (d_lot_of [Ty.enc .z p_number, Ty.enc .z p_many]) := by unfold t_lot_of; exact rx_dec (Ty.tup .z) (d_lot_of [Ty.enc .z p_number, Ty.enc .z p_many])
noncomputable def t_is_lot (p_lot : List Int) (p_many : Int) : Res Bool := decR (Ty.b) (d_is_lot [Ty.enc (.tup .z) p_lot, Ty.enc .z p_many])
theorem tt_is_lot (p_lot : List Int) (p_many : Int) : Rx (Ty.enc .b) (t_is_lot p_lot p_many) (d_is_lot [Ty.enc (.tup .z) p_lot, Ty.enc .z p_many]) := by unfold t_is_lot; exact rx_dec (Ty.b) (d_is_lot [Ty.enc (.tup .z) p_lot, Ty.enc .z p_many])
noncomputable def t_smaller_wins (p_book : D) (p_number : Int) (p_many : Int) : Res Bool := decR (Ty.b) (d_smaller_wins [Ty.enc .raw p_book, Ty.enc .z p_number, Ty.enc .z p_many])
theorem tt_smaller_wins (p_book : D) (p_number : Int) (p_many : Int) : Rx (Ty.enc .b) (t_smaller_wins p_book p_number p_many) (d_smaller_wins [Ty.enc .raw p_book, Ty.enc .z p_number, Ty.enc .z p_many]) := by unfold t_smaller_wins; exact rx_dec (Ty.b) (d_smaller_wins [Ty.enc .raw p_book, Ty.enc .z p_number, Ty.enc .z p_many])
noncomputable def t_sums_of (p_weights : List Int) : Res (List Int) := ((Res.ok ([(0 : Int)] : List Int)).bind fun sums1 => ((foldT (fun (s2 : (List Int)) (x3 : Int) => (((Res.ok s2).bind fun a6 => (compT (fun (x5 : Int) => (Res.ok true)) (fun (x5 : Int) => (Res.ok (x5 + x3))) s2 []).bind fun a7 => (catT a6 a7)).bind fun sums4 => (Res.ok sums4))) sums1 p_weights).bind fun s2 => (Res.ok s2)))
theorem tt_sums_of (p_weights : List Int) : Rx (Ty.enc (.tup .z)) (t_sums_of p_weights) (d_sums_of [Ty.enc (.tup .z) p_weights]) :=
  f_ok (L := [.im (Ty.enc (.tup .z) p_weights), .any, .any, .any]) (by unfold t_sums_of m_sums_of; exact (g_set (t := (.lst .z)) 1 (v_fz (t := .z) (v_mlst (k_p (t := .z) (v_int 0) (k_n (kl_fin (t := .z) (n := 1) rfl rfl (by decide)))))) fun sums1 => (g_forP (t := .z) (E := (fun (s2 : (List Int)) => [.im (Ty.enc (.tup .z) p_weights), .im (Ty.enc (.lst .z) s2), .any, .any])) (i_tup (t := .z) (v_var (t := (.tup .z)) (i := 0) rfl)) (wk_s (wk_s (wk_a (wk_a wk_n)))) (tg_1 2) (fun s2 x3 => (g_last (g_set (t := (.lst .z)) 1 (v_catL (t := .z) (v_var (t := (.lst .z)) (i := 1) rfl) (v_fz (t := .z) (v_lcP (t := .z) (u := .z) (i_lst (t := .z) (v_var (t := (.lst .z)) (i := 1) rfl)) (tg_1 3) (fun x5 => b_yes) (fun x5 => (v_addP (v_var (t := .z) (i := 3) rfl) (v_var (t := .z) (i := 2) rfl)))))) fun sums4 => (g_endN (wk_s (wk_s (wk_a (wk_a wk_n)))))))) (fun s2 => (g_last (g_ret (v_opa (k_p (t := (.lst .z)) (v_var (t := (.lst .z)) (i := 1) rfl) (k_n (o_tupL _)))))))))) (by exact ⟨rfl, ⟨trivial, ⟨trivial, ⟨trivial, trivial⟩⟩⟩⟩)
noncomputable def t_law_whole (p_value : Int) : Res Bool := (Res.ok (true && (!false)))
theorem tt_law_whole (p_value : Int) : Rx (Ty.enc .b) (t_law_whole p_value) (d_law_whole [Ty.enc .z p_value]) :=
  f_ok (L := [.im (Ty.enc .z p_value)]) (by unfold t_law_whole m_law_whole; exact (g_last (g_ret (v_andP (v_isiP (t := .z) (fun _ => rfl) kit_int_int (v_var (t := .z) (i := 0) rfl)) (v_notP (v_isiP (t := .z) (fun _ => rfl) kit_int_bool (v_var (t := .z) (i := 0) rfl))))))) (by exact ⟨rfl, trivial⟩)
noncomputable def t_law_cell (p_script : List Int) (p_k : Int) : Res Int := decR (Ty.z) (d_law_cell [Ty.enc .scr p_script, Ty.enc .z p_k])
theorem tt_law_cell (p_script : List Int) (p_k : Int) : Rx (Ty.enc .z) (t_law_cell p_script p_k) (d_law_cell [Ty.enc .scr p_script, Ty.enc .z p_k]) := by unfold t_law_cell; exact rx_dec (Ty.z) (d_law_cell [Ty.enc .scr p_script, Ty.enc .z p_k])
noncomputable def t_law_digits (p_cell : Int) (p_sizes : List Int) : Res (List Int) := decR (Ty.lst .z) (d_law_digits [Ty.enc .z p_cell, Ty.enc (.lst .z) p_sizes])
theorem tt_law_digits (p_cell : Int) (p_sizes : List Int) : Rx (Ty.enc (.lst .z)) (t_law_digits p_cell p_sizes) (d_law_digits [Ty.enc .z p_cell, Ty.enc (.lst .z) p_sizes]) := by unfold t_law_digits; exact rx_dec (Ty.lst .z) (d_law_digits [Ty.enc .z p_cell, Ty.enc (.lst .z) p_sizes])
noncomputable def t_law_number (p_lot : List Int) : Res Int := ((Res.ok (0 : Int)).bind fun total9 => ((foldT (fun (s10 : Int) (x11 : Int) => (((Res.ok s10).bind fun a13 => (shlT (1 : Int) x11).bind fun a14 => Res.ok (a13 + a14)).bind fun total12 => (Res.ok total12))) total9 p_lot).bind fun s10 => (Res.ok s10)))
theorem tt_law_number (p_lot : List Int) : Rx (Ty.enc .z) (t_law_number p_lot) (d_law_number [Ty.enc (.tup .z) p_lot]) :=
  f_ok (L := [.im (Ty.enc (.tup .z) p_lot), .any, .any]) (by unfold t_law_number m_law_number; exact (g_set (t := .z) 1 (v_int 0) fun total9 => (g_forP (t := .z) (E := (fun (s10 : Int) => [.im (Ty.enc (.tup .z) p_lot), .im (Ty.enc .z s10), .any])) (i_tup (t := .z) (v_var (t := (.tup .z)) (i := 0) rfl)) (wk_s (wk_s (wk_a wk_n))) (tg_1 2) (fun s10 x11 => (g_last (g_set (t := .z) 1 (v_add (v_var (t := .z) (i := 1) rfl) (v_shlP (v_int 1) (v_var (t := .z) (i := 2) rfl))) fun total12 => (g_endN (wk_s (wk_s (wk_a wk_n))))))) (fun s10 => (g_last (g_ret (v_var (t := .z) (i := 1) rfl))))))) (by exact ⟨rfl, ⟨trivial, ⟨trivial, trivial⟩⟩⟩)
noncomputable def t_law_voters (p_number : Int) (p_many : Int) : Res (List Int) := decR (Ty.tup .z) (d_law_voters [Ty.enc .z p_number, Ty.enc .z p_many])
theorem tt_law_voters (p_number : Int) (p_many : Int) : Rx (Ty.enc (.tup .z)) (t_law_voters p_number p_many) (d_law_voters [Ty.enc .z p_number, Ty.enc .z p_many]) := by unfold t_law_voters; exact rx_dec (Ty.tup .z) (d_law_voters [Ty.enc .z p_number, Ty.enc .z p_many])
noncomputable def t_law_near (p_table : List Bool) (p_many : Int) (p_atw : Int) : Res (List Bool) := ((Res.ok ([] : List Int)).bind fun found16 => ((((shlT (1 : Int) p_many).bind fun a17 => (Res.ok (1 : Int)).bind fun a18 => Res.ok (a17 - a18)).bind fun a19 => (rng2T (1 : Int) a19)).bind fun l68 => (foldT (fun (s20 : (List Int)) (x21 : Int) => (((rng1T p_many).bind fun l30 => compT (fun (x23 : Int) => (((shrT x21 x23).bind fun a24 => (Res.ok (1 : Int)).bind fun a25 => Res.ok (Builtin.bitAnd a24 a25)).bind fun a26 => (Res.ok (1 : Int)).bind fun a27 => Res.ok (decide (a26 = a27)))) (fun (x23 : Int) => ((Res.ok x21).bind fun a28 => (shlT (1 : Int) x23).bind fun a29 => Res.ok (a28 - a29))) l30 []).bind fun fewer22 => (((rng1T p_many).bind fun l39 => compT (fun (x32 : Int) => (((shrT x21 x32).bind fun a33 => (Res.ok (1 : Int)).bind fun a34 => Res.ok (Builtin.bitAnd a33 a34)).bind fun a35 => (Res.ok (0 : Int)).bind fun a36 => Res.ok (decide (a35 = a36)))) (fun (x32 : Int) => ((Res.ok x21).bind fun a37 => (shlT (1 : Int) x32).bind fun a38 => Res.ok (a37 + a38))) l39 []).bind fun more31 => ((((ixT p_table x21).bind fun a43 => if a43 then (((compT (fun (x40 : Int) => (Res.ok true)) (fun (x40 : Int) => (ixT p_table x40)) fewer22 []).bind fun a41 => Res.ok (List.any a41 id)).bind fun a42 => Res.ok (!a42)) else Res.ok false).bind fun a47 => if a47 then ((appT s20 x21).bind fun found46 => (Res.ok found46)) else (Res.ok s20)).bind fun (s45 : (List Int)) => ((((ixT p_table x21).bind fun a48 => Res.ok (!a48)).bind fun a51 => if a51 then ((compT (fun (x49 : Int) => (Res.ok true)) (fun (x49 : Int) => (ixT p_table x49)) more31 []).bind fun a50 => Res.ok (List.all a50 id)) else Res.ok false).bind fun a53 => if a53 then ((appT s45 x21).bind fun found52 => (Res.ok found52)) else (Res.ok s45)))))) found16 l68).bind fun s20 => ((Res.ok p_table).bind fun near54 => ((if (decide ((0 : Int) < ((List.length s20 : Nat) : Int))) then (((modT p_atw ((List.length s20 : Nat) : Int)).bind fun a63 => ixT s20 a63).bind fun turned62 => (((ixT near54 turned62).bind fun a64 => Res.ok (!a64)).bind fun a66 => (Res.ok turned62).bind fun a67 => (setT near54 a67 a66).bind fun near65 => (Res.ok near65))) else (Res.ok near54)).bind fun (s61 : (List Bool)) => (Res.ok s61)))))
theorem tt_law_near (p_table : List Bool) (p_many : Int) (p_atw : Int) : Rx (Ty.enc (.lst .b)) (t_law_near p_table p_many p_atw) (d_law_near [Ty.enc (.lst .b) p_table, Ty.enc .z p_many, Ty.enc .z p_atw]) :=
  f_ok (L := [.im (Ty.enc (.lst .b) p_table), .im (Ty.enc .z p_many), .im (Ty.enc .z p_atw), .any, .any, .any, .any, .any, .any, .any, .any]) (by unfold t_law_near m_law_near; exact (g_own (t := .z) 3 (v_mlst (k_n (kl_fin (t := .z) (n := 0) rfl rfl (by decide)))) fun found16 => (g_for (t := .z) (E := (fun (s20 : (List Int)) => [.im (Ty.enc (.lst .b) p_table), .im (Ty.enc .z p_many), .im (Ty.enc .z p_atw), .ow (.l (List.map (Ty.enc .z) s20)), .any, .any, .any, .any, .any, .any, .any])) (i_rng2 (k_p (t := .z) (v_int 1) (k_r (t := .z) (v_sub (v_shlP (v_int 1) (v_var (t := .z) (i := 1) rfl)) (v_int 1)) fun a19 => (k_n (rng2_fin _ _))))) (wk_s (wk_s (wk_s (wk_s (wk_a (wk_a (wk_a (wk_a (wk_a (wk_a (wk_a wk_n))))))))))) (tg_1 4) (fun s20 x21 => (g_set (t := (.lst .z)) 5 (v_fz (t := .z) (v_lc (t := .z) (u := .z) (i_rng1 (k_p (t := .z) (v_var (t := .z) (i := 1) rfl) (k_n (rng1_fin _)))) (tg_1 9) (fun x23 => (b_tst (v_eq (t := .z) rfl (v_and2 (v_shrP (v_var (t := .z) (i := 4) rfl) (v_var (t := .z) (i := 9) rfl)) (v_int 1)) (v_int 1)))) (fun x23 => (v_sub (v_var (t := .z) (i := 4) rfl) (v_shlP (v_int 1) (v_var (t := .z) (i := 9) rfl)))))) fun fewer22 => (g_set (t := (.lst .z)) 6 (v_fz (t := .z) (v_lc (t := .z) (u := .z) (i_rng1 (k_p (t := .z) (v_var (t := .z) (i := 1) rfl) (k_n (rng1_fin _)))) (tg_1 9) (fun x32 => (b_tst (v_eq (t := .z) rfl (v_and2 (v_shrP (v_var (t := .z) (i := 4) rfl) (v_var (t := .z) (i := 9) rfl)) (v_int 1)) (v_int 0)))) (fun x32 => (v_add (v_var (t := .z) (i := 4) rfl) (v_shlP (v_int 1) (v_var (t := .z) (i := 9) rfl)))))) fun more31 => (g_join (E := (fun (s45 : (List Int)) => [.im (Ty.enc (.lst .b) p_table), .im (Ty.enc .z p_many), .im (Ty.enc .z p_atw), .ow (.l (List.map (Ty.enc .z) s45)), .im (Ty.enc .z x21), .im (Ty.enc (.lst .z) fewer22), .im (Ty.enc (.lst .z) more31), .any, .any, .any, .any])) (g_last (g_if (b_and (b_truB (v_ixLP (t := .b) (v_var (t := (.lst .b)) (i := 0) rfl) (v_var (t := .z) (i := 4) rfl))) (b_not (b_truB (v_opa (k_r (t := (.lst .b)) (v_fz (t := .b) (v_lcP (t := .z) (u := .b) (i_lst (t := .z) (v_var (t := (.lst .z)) (i := 5) rfl)) (tg_1 10) (fun x40 => b_yes) (fun x40 => (v_ixLP (t := .b) (v_var (t := (.lst .b)) (i := 0) rfl) (v_var (t := .z) (i := 10) rfl))))) fun a41 => (k_n (o_any _))))))) (g_appP (t := .z) rfl (v_var (t := .z) (i := 4) rfl) fun found46 => (g_stay (wk_s (wk_s (wk_s (wk_s (wk_s (wk_s (wk_s (wk_a (wk_a (wk_a (wk_a wk_n))))))))))))) (g_nop (g_stay (wk_s (wk_s (wk_s (wk_s (wk_s (wk_s (wk_s (wk_a (wk_a (wk_a (wk_a wk_n))))))))))))))) fun s45 => (g_last (g_if (b_and (b_not (b_truB (v_ixLP (t := .b) (v_var (t := (.lst .b)) (i := 0) rfl) (v_var (t := .z) (i := 4) rfl)))) (b_truB (v_opa (k_r (t := (.lst .b)) (v_fz (t := .b) (v_lcP (t := .z) (u := .b) (i_lst (t := .z) (v_var (t := (.lst .z)) (i := 6) rfl)) (tg_1 10) (fun x49 => b_yes) (fun x49 => (v_ixLP (t := .b) (v_var (t := (.lst .b)) (i := 0) rfl) (v_var (t := .z) (i := 10) rfl))))) fun a50 => (k_n (o_all _)))))) (g_appP (t := .z) rfl (v_var (t := .z) (i := 4) rfl) fun found52 => (g_endN (wk_s (wk_s (wk_s (wk_s (wk_a (wk_a (wk_a (wk_a (wk_a (wk_a (wk_a wk_n))))))))))))) (g_nop (g_endN (wk_s (wk_s (wk_s (wk_s (wk_a (wk_a (wk_a (wk_a (wk_a (wk_a (wk_a wk_n))))))))))))))))))) (fun s20 => (g_own (t := .b) 7 (v_listL (t := .b) (v_var (t := (.lst .b)) (i := 0) rfl)) fun near54 => (g_join (E := (fun (s61 : (List Bool)) => [.im (Ty.enc (.lst .b) p_table), .im (Ty.enc .z p_many), .im (Ty.enc .z p_atw), .ow (.l (List.map (Ty.enc .z) s20)), .any, .any, .any, .ow (.l (List.map (Ty.enc .b) s61)), .any, .any, .any])) (g_last (g_ifP (b_tst (v_gtP (v_borP (t := .z) rfl sc_z (v_opa (k_p (t := (.lst .z)) (v_var (t := (.lst .z)) (i := 3) rfl) (k_n (o_lenL _))))) (v_int 0))) (g_assoc (g_set (t := .z) 8 (v_ixO (t := .z) rfl (v_modP (v_opa (k_p (t := .z) (v_var (t := .z) (i := 2) rfl) (k_n (o_int _)))) (v_borP (t := .z) rfl sc_z (v_opa (k_p (t := (.lst .z)) (v_var (t := (.lst .z)) (i := 3) rfl) (k_n (o_lenL _))))))) fun turned62 => (g_idx (t := .b) rfl (v_var (t := .z) (i := 8) rfl) (v_not (v_ixOP (t := .b) rfl (v_var (t := .z) (i := 8) rfl))) fun near65 => (g_stay (wk_s (wk_s (wk_s (wk_s (wk_a (wk_a (wk_a (wk_s (wk_a (wk_a (wk_a wk_n))))))))))))))) (g_nop (g_stay (wk_s (wk_s (wk_s (wk_s (wk_a (wk_a (wk_a (wk_s (wk_a (wk_a (wk_a wk_n))))))))))))))) fun s61 => (g_last (g_frz rfl (g_ret (v_var (t := (.lst .b)) (i := 7) rfl)))))))))) (by exact ⟨rfl, ⟨rfl, ⟨rfl, ⟨trivial, ⟨trivial, ⟨trivial, ⟨trivial, ⟨trivial, ⟨trivial, ⟨trivial, ⟨trivial, trivial⟩⟩⟩⟩⟩⟩⟩⟩⟩⟩⟩)
noncomputable def t_Rule_eq (p_self : Int × (List Bool) × (List (List Int))) (p_other : Int × (List Bool) × (List (List Int))) : Res Bool := (Res.ok (true && ((decide (p_self.1 = p_other.1)) && (decide (p_self.2.2 = p_other.2.2)))))
theorem tt_Rule_eq (p_self : Int × (List Bool) × (List (List Int))) (p_other : Int × (List Bool) × (List (List Int))) : Rx (Ty.enc .b) (t_Rule_eq p_self p_other) (d_Rule_eq [Ty.enc tyRule p_self, Ty.enc tyRule p_other]) :=
  f_ok (L := [.im (Ty.enc tyRule p_self), .im (Ty.enc tyRule p_other)]) (by unfold t_Rule_eq m_Rule_eq; exact (g_last (g_ret (v_andP (v_isC2P (t := (.pr .z (.pr (.tup .b) (.tup (.tup .z))))) rfl (v_var (t := tyRule) (i := 1) rfl)) (v_andP (v_eqP (t := .z) rfl (v_fldP (t := tyRule) (u := .z) (g := (fun x => x.1)) fl_Rule_many (v_var (t := tyRule) (i := 0) rfl)) (v_fldP (t := tyRule) (u := .z) (g := (fun x => x.1)) fl_Rule_many (v_var (t := tyRule) (i := 1) rfl))) (v_eqP (t := (.tup (.tup .z))) rfl (v_fldP (t := tyRule) (u := (.tup (.tup .z))) (g := (fun x => x.2.2)) fl_Rule_least (v_var (t := tyRule) (i := 0) rfl)) (v_fldP (t := tyRule) (u := (.tup (.tup .z))) (g := (fun x => x.2.2)) fl_Rule_least (v_var (t := tyRule) (i := 1) rfl)))))))) (by exact ⟨rfl, ⟨rfl, trivial⟩⟩)
noncomputable def t_Rule_eq_raw (p_self : Int × (List Bool) × (List (List Int))) (p_other : D) : Res Bool := decR .b (d_Rule_eq [Ty.enc tyRule p_self, Ty.enc .raw p_other])
theorem tt_Rule_eq_raw (p_self : Int × (List Bool) × (List (List Int))) (p_other : D) : Rx (Ty.enc .b) (t_Rule_eq_raw p_self p_other) (d_Rule_eq [Ty.enc tyRule p_self, Ty.enc .raw p_other]) := by unfold t_Rule_eq_raw; exact rx_dec .b (d_Rule_eq [Ty.enc tyRule p_self, Ty.enc .raw p_other])
noncomputable def t_winning_book (p_many : Int) (p_numbers : List Int) : Res (List Bool) := decR (Ty.tup .b) (d_winning_book [Ty.enc .z p_many, Ty.enc (.lst .z) p_numbers])
theorem tt_winning_book (p_many : Int) (p_numbers : List Int) : Rx (Ty.enc (.tup .b)) (t_winning_book p_many p_numbers) (d_winning_book [Ty.enc .z p_many, Ty.enc (.lst .z) p_numbers]) := by unfold t_winning_book; exact rx_dec (Ty.tup .b) (d_winning_book [Ty.enc .z p_many, Ty.enc (.lst .z) p_numbers])
noncomputable def t_least_lots (p_many : Int) (p_book : D) : Res (List (List Int)) := decR (Ty.tup (.tup .z)) (d_least_lots [Ty.enc .z p_many, Ty.enc .raw p_book])
theorem tt_least_lots (p_many : Int) (p_book : D) : Rx (Ty.enc (.tup (.tup .z))) (t_least_lots p_many p_book) (d_least_lots [Ty.enc .z p_many, Ty.enc .raw p_book]) := by unfold t_least_lots; exact rx_dec (Ty.tup (.tup .z)) (d_least_lots [Ty.enc .z p_many, Ty.enc .raw p_book])
noncomputable def t_law_words (p_row : List Int) (p_many : Int) : Res D := ((((rng1T p_many).bind fun l71 => compT (fun (x70 : Int) => (Res.ok true)) (fun (x70 : Int) => (Res.ok (1 : Int))) l71 []).bind fun a72 => Res.ok a72).bind fun alike69 => ((((rng1T p_many).bind fun l83 => compT (fun (x74 : Int) => (Res.ok true)) (fun (x74 : Int) => (((ixT p_row ((2 : Int) + x74)).bind fun a75 => Res.ok a75).bind fun a81 => ((Res.ok ([(31 : Int), (4 : Int), (2 : Int), (6 : Int)] : List Int)).bind fun a79 => (((ixT p_row (1 : Int)).bind fun a76 => Res.ok a76).bind fun a77 => (Res.ok (4 : Int)).bind fun a78 => (modT a77 a78)).bind fun a80 => (ixT a79 a80)).bind fun a82 => (modT a81 a82))) l83 []).bind fun a84 => Res.ok a84).bind fun weights73 => ((if (decide ((List.sum weights73) = (0 : Int))) then ((Res.ok alike69).bind fun weights87 => (Res.ok weights87)) else (Res.ok weights73)).bind fun (s86 : (List Int)) => (((((Res.ok (1 : Int)).bind fun a92 => (((ixT p_row (1 : Int)).bind fun a89 => Res.ok a89).bind fun a90 => (Res.ok (List.sum s86)).bind fun a91 => (modT a90 a91)).bind fun a93 => Res.ok (a92 + a93)).bind fun a94 => Res.ok (Ty.enc .z a94)).bind fun a95 => Res.ok (D.tup [(Ty.enc .s ("weights" : Str)), (Ty.enc (.tup .z) s86), a95])).bind fun told88 => (((((divT (List.sum s86) (2 : Int)).bind fun a97 => (Res.ok (1 : Int)).bind fun a98 => Res.ok (a97 + a98)).bind fun a99 => Res.ok (Ty.enc .z a99)).bind fun a100 => Res.ok (D.tup [(Ty.enc .s ("weights" : Str)), (Ty.enc (.tup .z) s86), a100])).bind fun more96 => (((((divT p_many (2 : Int)).bind fun a102 => (Res.ok (1 : Int)).bind fun a103 => Res.ok (a102 + a103)).bind fun a104 => Res.ok (Ty.enc .z a104)).bind fun a105 => Res.ok (D.tup [(Ty.enc .s ("weights" : Str)), (Ty.enc (.tup .z) alike69), a105])).bind fun half101 => ((((rng1T (3 : Int)).bind fun l120 => compT (fun (x107 : Int) => (Res.ok true)) (fun (x107 : Int) => (((Res.ok (1 : Int)).bind fun a117 => ((((ixT p_row ((11 : Int) + x107)).bind fun a108 => Res.ok a108).bind fun a111 => ((powT (2 : Int) (9 : Int)).bind fun a109 => (Res.ok (1 : Int)).bind fun a110 => Res.ok (a109 - a110)).bind fun a112 => (modT a111 a112)).bind fun a115 => ((shlT (1 : Int) p_many).bind fun a113 => (Res.ok (1 : Int)).bind fun a114 => Res.ok (a113 - a114)).bind fun a116 => (modT a115 a116)).bind fun a118 => Res.ok (a117 + a118)).bind fun a119 => (t_law_voters a119 p_many))) l120 []).bind fun a121 => Res.ok a121).bind fun lots106 => ((((((Res.ok (1 : Int)).bind fun a126 => (((ixT p_row (1 : Int)).bind fun a123 => Res.ok a123).bind fun a124 => (Res.ok p_many).bind fun a125 => (modT a124 a125)).bind fun a127 => Res.ok (a126 + a127)).bind fun a128 => Res.ok (Ty.enc .z a128)).bind fun a129 => Res.ok (D.tup [(Ty.enc .s ("weights" : Str)), (Ty.enc (.tup .z) alike69), a129])).bind fun a130 => Res.ok ([half101, half101, half101, a130, told88, more96] : List D)).bind fun menu122 => (((Res.ok menu122).bind fun a144 => (((((Res.ok lots106).bind fun a138 => (Res.ok (none : Option Int)).bind fun a139 => (((Res.ok (1 : Int)).bind fun a135 => (((ixT p_row (1 : Int)).bind fun a132 => Res.ok a132).bind fun a133 => (Res.ok (3 : Int)).bind fun a134 => (modT a133 a134)).bind fun a136 => Res.ok (a135 + a136)).bind fun a137 => Res.ok (some a137)).bind fun a140 => Res.ok (cutT a138 a139 a140)).bind fun a141 => Res.ok (Ty.enc (.tup (.tup .z)) a141)).bind fun a142 => Res.ok (D.tup [(Ty.enc .s ("lots" : Str)), a142])).bind fun a143 => Res.ok ([a143, (D.tup [(Ty.enc .s ("both" : Str)), half101, (D.tup [(Ty.enc .s ("lots" : Str)), (Ty.enc (.tup (.tup .z)) (cutT lots106 none (some (1 : Int))))])])] : List D)).bind fun a145 => (catT a144 a145)).bind fun menu131 => ((catT menu131 ([(D.tup [(Ty.enc .s ("either" : Str)), half101, (D.tup [(Ty.enc .s ("lots" : Str)), (Ty.enc (.tup (.tup .z)) (cutT lots106 none (some (2 : Int))))])]), (D.tup [(Ty.enc .s ("opposite" : Str)), told88]), (D.tup [(Ty.enc .s ("both" : Str)), more96, (D.tup [(Ty.enc .s ("lots" : Str)), (Ty.enc (.tup (.tup .z)) (cutT lots106 none (some (2 : Int))))])])] : List D)).bind fun menu146 => (((Res.ok menu146).bind fun a156 => (((((((mulT (2 : Int) p_many).bind fun a148 => (Res.ok (2 : Int)).bind fun a149 => Res.ok (a148 + a149)).bind fun a150 => (Res.ok (3 : Int)).bind fun a151 => (divT a150 a151)).bind fun a152 => Res.ok (if a152 > (1 : Int) then a152 else (1 : Int))).bind fun a153 => Res.ok (Ty.enc .z a153)).bind fun a154 => Res.ok (D.tup [(Ty.enc .s ("weights" : Str)), (Ty.enc (.tup .z) alike69), a154])).bind fun a155 => Res.ok ([a155] : List D)).bind fun a157 => (catT a156 a157)).bind fun menu147 => ((Res.ok menu147).bind fun a158 => (ixT p_row (0 : Int)).bind fun a159 => (ixT a158 a159)))))))))))))
theorem tt_law_words (p_row : List Int) (p_many : Int) : Rx (Ty.enc .raw) (t_law_words p_row p_many) (d_law_words [Ty.enc (.lst .z) p_row, Ty.enc .z p_many]) :=
  f_ok (L := [.im (Ty.enc (.lst .z) p_row), .im (Ty.enc .z p_many), .any, .any, .any, .any, .any, .any, .any, .any]) (by unfold t_law_words m_law_words; exact (g_set (t := (.tup .z)) 2 (v_opa (k_r (t := (.lst .z)) (v_fz (t := .z) (v_lc (t := .z) (u := .z) (i_rng1 (k_p (t := .z) (v_var (t := .z) (i := 1) rfl) (k_n (rng1_fin _)))) (tg_1 9) (fun x70 => b_yes) (fun x70 => (v_int 1)))) fun a72 => (k_n (o_tupL _)))) fun alike69 => (g_set (t := (.tup .z)) 3 (v_opa (k_r (t := (.lst .z)) (v_fz (t := .z) (v_lc (t := .z) (u := .z) (i_rng1 (k_p (t := .z) (v_var (t := .z) (i := 1) rfl) (k_n (rng1_fin _)))) (tg_1 9) (fun x74 => b_yes) (fun x74 => (v_mod (v_opa (k_r (t := .z) (v_ixLP (t := .z) (v_var (t := (.lst .z)) (i := 0) rfl) (v_addP (v_int 2) (v_var (t := .z) (i := 9) rfl))) fun a75 => (k_n (o_int _)))) (v_ixL (t := .z) (v_fz (t := .z) (v_mlst (k_p (t := .z) (v_int 31) (k_p (t := .z) (v_int 4) (k_p (t := .z) (v_int 2) (k_p (t := .z) (v_int 6) (k_n (kl_fin (t := .z) (n := 4) rfl rfl (by decide))))))))) (v_mod (v_opa (k_r (t := .z) (v_ixLP (t := .z) (v_var (t := (.lst .z)) (i := 0) rfl) (v_int 1)) fun a76 => (k_n (o_int _)))) (v_int 4))))))) fun a84 => (k_n (o_tupL _)))) fun weights73 => (g_join (E := (fun (s86 : (List Int)) => [.im (Ty.enc (.lst .z) p_row), .im (Ty.enc .z p_many), .im (Ty.enc (.tup .z) alike69), .im (Ty.enc (.tup .z) s86), .any, .any, .any, .any, .any, .any])) (g_last (g_ifP (b_tst (v_eqP (t := .z) rfl (v_opa (k_p (t := (.tup .z)) (v_var (t := (.tup .z)) (i := 3) rfl) (k_n (o_sumT _)))) (v_int 0))) (g_set (t := (.tup .z)) 3 (v_var (t := (.tup .z)) (i := 2) rfl) fun weights87 => (g_stay (wk_s (wk_s (wk_s (wk_s (wk_a (wk_a (wk_a (wk_a (wk_a (wk_a wk_n)))))))))))) (g_nop (g_stay (wk_s (wk_s (wk_s (wk_s (wk_a (wk_a (wk_a (wk_a (wk_a (wk_a wk_n)))))))))))))) fun s86 => (g_set (t := .raw) 4 (v_tup (k_p (t := .raw) (v_raw (t := .s) (v_str "weights")) (k_p (t := .raw) (v_raw (t := (.tup .z)) (v_var (t := (.tup .z)) (i := 3) rfl)) (k_r (t := .raw) (v_rawR (t := .z) (v_add (v_int 1) (v_mod (v_opa (k_r (t := .z) (v_ixLP (t := .z) (v_var (t := (.lst .z)) (i := 0) rfl) (v_int 1)) fun a89 => (k_n (o_int _)))) (v_opa (k_p (t := (.tup .z)) (v_var (t := (.tup .z)) (i := 3) rfl) (k_n (o_sumT _))))))) fun a95 => (k_n (kt_fin (t := .raw) (n := 3) rfl rfl (by decide))))))) fun told88 => (g_set (t := .raw) 5 (v_tup (k_p (t := .raw) (v_raw (t := .s) (v_str "weights")) (k_p (t := .raw) (v_raw (t := (.tup .z)) (v_var (t := (.tup .z)) (i := 3) rfl)) (k_r (t := .raw) (v_rawR (t := .z) (v_add (v_divP (v_opa (k_p (t := (.tup .z)) (v_var (t := (.tup .z)) (i := 3) rfl) (k_n (o_sumT _)))) (v_int 2)) (v_int 1))) fun a100 => (k_n (kt_fin (t := .raw) (n := 3) rfl rfl (by decide))))))) fun more96 => (g_set (t := .raw) 6 (v_tup (k_p (t := .raw) (v_raw (t := .s) (v_str "weights")) (k_p (t := .raw) (v_raw (t := (.tup .z)) (v_var (t := (.tup .z)) (i := 2) rfl)) (k_r (t := .raw) (v_rawR (t := .z) (v_add (v_divP (v_var (t := .z) (i := 1) rfl) (v_int 2)) (v_int 1))) fun a105 => (k_n (kt_fin (t := .raw) (n := 3) rfl rfl (by decide))))))) fun half101 => (g_set (t := (.tup (.tup .z))) 7 (v_opa (k_r (t := (.lst (.tup .z))) (v_fz (t := (.tup .z)) (v_lc (t := .z) (u := (.tup .z)) (i_rng1 (k_p (t := .z) (v_int 3) (k_n (rng1_fin _)))) (tg_1 9) (fun x107 => b_yes) (fun x107 => (v_call (k_r (t := .z) (v_add (v_int 1) (v_mod (v_mod (v_opa (k_r (t := .z) (v_ixLP (t := .z) (v_var (t := (.lst .z)) (i := 0) rfl) (v_addP (v_int 11) (v_var (t := .z) (i := 9) rfl))) fun a108 => (k_n (o_int _)))) (v_sub (v_powP (v_int 2) (v_int 9)) (v_int 1))) (v_sub (v_shlP (v_int 1) (v_var (t := .z) (i := 1) rfl)) (v_int 1)))) fun a119 => (k_p (t := .z) (v_var (t := .z) (i := 1) rfl) (k_n (kc_fin rfl (tt_law_voters _ _))))))))) fun a121 => (k_n (o_tupL _)))) fun lots106 => (g_set (t := (.lst .raw)) 8 (v_fz (t := .raw) (v_mlst (k_p (t := .raw) (v_var (t := .raw) (i := 6) rfl) (k_p (t := .raw) (v_var (t := .raw) (i := 6) rfl) (k_p (t := .raw) (v_var (t := .raw) (i := 6) rfl) (k_r (t := .raw) (v_tup (k_p (t := .raw) (v_raw (t := .s) (v_str "weights")) (k_p (t := .raw) (v_raw (t := (.tup .z)) (v_var (t := (.tup .z)) (i := 2) rfl)) (k_r (t := .raw) (v_rawR (t := .z) (v_add (v_int 1) (v_mod (v_opa (k_r (t := .z) (v_ixLP (t := .z) (v_var (t := (.lst .z)) (i := 0) rfl) (v_int 1)) fun a123 => (k_n (o_int _)))) (v_var (t := .z) (i := 1) rfl)))) fun a129 => (k_n (kt_fin (t := .raw) (n := 3) rfl rfl (by decide))))))) fun a130 => (k_p (t := .raw) (v_var (t := .raw) (i := 4) rfl) (k_p (t := .raw) (v_var (t := .raw) (i := 5) rfl) (k_n (kl_fin (t := .raw) (n := 6) rfl rfl (by decide))))))))))) fun menu122 => (g_set (t := (.lst .raw)) 8 (v_catL (t := .raw) (v_var (t := (.lst .raw)) (i := 8) rfl) (v_fz (t := .raw) (v_mlst (k_r (t := .raw) (v_tup (k_p (t := .raw) (v_raw (t := .s) (v_str "lots")) (k_r (t := .raw) (v_rawR (t := (.tup (.tup .z))) (v_slT (t := (.tup .z)) (v_var (t := (.tup (.tup .z))) (i := 7) rfl) p_noneP (p_some (v_add (v_int 1) (v_mod (v_opa (k_r (t := .z) (v_ixLP (t := .z) (v_var (t := (.lst .z)) (i := 0) rfl) (v_int 1)) fun a132 => (k_n (o_int _)))) (v_int 3)))))) fun a142 => (k_n (kt_fin (t := .raw) (n := 2) rfl rfl (by decide)))))) fun a143 => (k_p (t := .raw) (v_tup (k_p (t := .raw) (v_raw (t := .s) (v_str "both")) (k_p (t := .raw) (v_var (t := .raw) (i := 6) rfl) (k_p (t := .raw) (v_tup (k_p (t := .raw) (v_raw (t := .s) (v_str "lots")) (k_p (t := .raw) (v_raw (t := (.tup (.tup .z))) (v_slTP (t := (.tup .z)) (v_var (t := (.tup (.tup .z))) (i := 7) rfl) p_noneP (p_someP (v_int 1)))) (k_n (kt_fin (t := .raw) (n := 2) rfl rfl (by decide)))))) (k_n (kt_fin (t := .raw) (n := 3) rfl rfl (by decide))))))) (k_n (kl_fin (t := .raw) (n := 2) rfl rfl (by decide)))))))) fun menu131 => (g_set (t := (.lst .raw)) 8 (v_catLP (t := .raw) (v_var (t := (.lst .raw)) (i := 8) rfl) (v_fz (t := .raw) (v_mlst (k_p (t := .raw) (v_tup (k_p (t := .raw) (v_raw (t := .s) (v_str "either")) (k_p (t := .raw) (v_var (t := .raw) (i := 6) rfl) (k_p (t := .raw) (v_tup (k_p (t := .raw) (v_raw (t := .s) (v_str "lots")) (k_p (t := .raw) (v_raw (t := (.tup (.tup .z))) (v_slTP (t := (.tup .z)) (v_var (t := (.tup (.tup .z))) (i := 7) rfl) p_noneP (p_someP (v_int 2)))) (k_n (kt_fin (t := .raw) (n := 2) rfl rfl (by decide)))))) (k_n (kt_fin (t := .raw) (n := 3) rfl rfl (by decide))))))) (k_p (t := .raw) (v_tup (k_p (t := .raw) (v_raw (t := .s) (v_str "opposite")) (k_p (t := .raw) (v_var (t := .raw) (i := 4) rfl) (k_n (kt_fin (t := .raw) (n := 2) rfl rfl (by decide)))))) (k_p (t := .raw) (v_tup (k_p (t := .raw) (v_raw (t := .s) (v_str "both")) (k_p (t := .raw) (v_var (t := .raw) (i := 5) rfl) (k_p (t := .raw) (v_tup (k_p (t := .raw) (v_raw (t := .s) (v_str "lots")) (k_p (t := .raw) (v_raw (t := (.tup (.tup .z))) (v_slTP (t := (.tup .z)) (v_var (t := (.tup (.tup .z))) (i := 7) rfl) p_noneP (p_someP (v_int 2)))) (k_n (kt_fin (t := .raw) (n := 2) rfl rfl (by decide)))))) (k_n (kt_fin (t := .raw) (n := 3) rfl rfl (by decide))))))) (k_n (kl_fin (t := .raw) (n := 3) rfl rfl (by decide))))))))) fun menu146 => (g_set (t := (.lst .raw)) 8 (v_catL (t := .raw) (v_var (t := (.lst .raw)) (i := 8) rfl) (v_fz (t := .raw) (v_mlst (k_r (t := .raw) (v_tup (k_p (t := .raw) (v_raw (t := .s) (v_str "weights")) (k_p (t := .raw) (v_raw (t := (.tup .z)) (v_var (t := (.tup .z)) (i := 2) rfl)) (k_r (t := .raw) (v_rawR (t := .z) (v_opa (k_p (t := .z) (v_int 1) (k_r (t := .z) (v_div (v_add (v_mulP (v_int 2) (v_var (t := .z) (i := 1) rfl)) (v_int 2)) (v_int 3)) fun a152 => (k_n (o_max2 _ _)))))) fun a154 => (k_n (kt_fin (t := .raw) (n := 3) rfl rfl (by decide))))))) fun a155 => (k_n (kl_fin (t := .raw) (n := 1) rfl rfl (by decide))))))) fun menu147 => (g_last (g_ret (v_ixL (t := .raw) (v_var (t := (.lst .raw)) (i := 8) rfl) (v_ixLP (t := .z) (v_var (t := (.lst .z)) (i := 0) rfl) (v_int 0))))))))))))))))) (by exact ⟨rfl, ⟨rfl, ⟨trivial, ⟨trivial, ⟨trivial, ⟨trivial, ⟨trivial, ⟨trivial, ⟨trivial, ⟨trivial, trivial⟩⟩⟩⟩⟩⟩⟩⟩⟩⟩)
noncomputable def t_law_least (p_table : List Bool) (p_many : Int) : Res (List (List Int)) := decR (Ty.tup (.tup .z)) (d_law_least [Ty.enc (.lst .b) p_table, Ty.enc .z p_many])
theorem tt_law_least (p_table : List Bool) (p_many : Int) : Rx (Ty.enc (.tup (.tup .z))) (t_law_least p_table p_many) (d_law_least [Ty.enc (.lst .b) p_table, Ty.enc .z p_many]) := by unfold t_law_least; exact rx_dec (Ty.tup (.tup .z)) (d_law_least [Ty.enc (.lst .b) p_table, Ty.enc .z p_many])
noncomputable def t_law_sized (p_many : Int) (p_low : Int) (p_high : Int) : Res (List Int) := decR (Ty.lst .z) (d_law_sized [Ty.enc .z p_many, Ty.enc .z p_low, Ty.enc .z p_high])
theorem tt_law_sized (p_many : Int) (p_low : Int) (p_high : Int) : Rx (Ty.enc (.lst .z)) (t_law_sized p_many p_low p_high) (d_law_sized [Ty.enc .z p_many, Ty.enc .z p_low, Ty.enc .z p_high]) := by unfold t_law_sized; exact rx_dec (Ty.lst .z) (d_law_sized [Ty.enc .z p_many, Ty.enc .z p_low, Ty.enc .z p_high])
noncomputable def t_law_are_lots (p_value : List (List Int)) (p_due : List (List Int)) : Res Bool := decR (Ty.b) (d_law_are_lots [Ty.enc (.tup (.tup .z)) p_value, Ty.enc (.tup (.tup .z)) p_due])
theorem tt_law_are_lots (p_value : List (List Int)) (p_due : List (List Int)) : Rx (Ty.enc .b) (t_law_are_lots p_value p_due) (d_law_are_lots [Ty.enc (.tup (.tup .z)) p_value, Ty.enc (.tup (.tup .z)) p_due]) := by unfold t_law_are_lots; exact rx_dec (Ty.b) (d_law_are_lots [Ty.enc (.tup (.tup .z)) p_value, Ty.enc (.tup (.tup .z)) p_due])
noncomputable def t_Rule_contains (p_self : Int × (List Bool) × (List (List Int))) (p_lot : List Int) : Res Bool := ((Res.ok p_self.2.1).bind fun a160 => (t_lot_number p_lot).bind fun a161 => (ixT a160 a161))
theorem tt_Rule_contains (p_self : Int × (List Bool) × (List (List Int))) (p_lot : List Int) : Rx (Ty.enc .b) (t_Rule_contains p_self p_lot) (d_Rule_contains [Ty.enc tyRule p_self, Ty.enc (.tup .z) p_lot]) :=
  f_ok (L := [.im (Ty.enc tyRule p_self), .im (Ty.enc (.tup .z) p_lot)]) (by unfold t_Rule_contains m_Rule_contains; exact (g_last (g_ret (v_ixT (t := .b) (v_fldP (t := tyRule) (u := (.tup .b)) (g := (fun x => x.2.1)) fl_Rule_book (v_var (t := tyRule) (i := 0) rfl)) (v_call (k_p (t := (.tup .z)) (v_var (t := (.tup .z)) (i := 1) rfl) (k_n (kc_fin rfl (tt_lot_number _))))))))) (by exact ⟨rfl, ⟨rfl, trivial⟩⟩)
noncomputable def t_law_drawn (p_row : List Int) (p_many : Int) : Res (List Int) := (((shlT (1 : Int) p_many).bind fun a163 => (Res.ok (1 : Int)).bind fun a164 => Res.ok (a163 - a164)).bind fun last162 => ((compT (fun (x166 : Int) => (Res.ok true)) (fun (x166 : Int) => ((Res.ok (1 : Int)).bind fun a167 => (modT x166 last162).bind fun a168 => Res.ok (a167 + a168))) (cutT p_row (some (3 : Int)) none) []).bind fun free165 => (((Res.ok (1 : Int)).bind fun a173 => (((ixT p_row (2 : Int)).bind fun a170 => Res.ok a170).bind fun a171 => (Res.ok (12 : Int)).bind fun a172 => (modT a171 a172)).bind fun a174 => Res.ok (a173 + a174)).bind fun few169 => (((ixT p_row (1 : Int)).bind fun a175 => (Res.ok (0 : Int)).bind fun a176 => Res.ok (decide (a175 = a176))).bind fun a269 => if a269 then (Res.ok (cutT free165 none (some few169))) else (((ixT p_row (1 : Int)).bind fun a177 => (Res.ok (1 : Int)).bind fun a178 => Res.ok (decide (a177 = a178))).bind fun a268 => if a268 then ((Res.ok free165).bind fun a183 => (Res.ok (none : Option Int)).bind fun a184 => (((Res.ok (1 : Int)).bind fun a180 => ((ixT p_row (2 : Int)).bind fun a179 => Res.ok a179).bind fun a181 => Res.ok (a180 + a181)).bind fun a182 => Res.ok (some a182)).bind fun a185 => Res.ok (cutT a183 a184 a185)) else (((Res.ok (1 : Int)).bind fun a190 => (((ixT free165 (0 : Int)).bind fun a187 => Res.ok a187).bind fun a188 => (Res.ok p_many).bind fun a189 => (modT a188 a189)).bind fun a191 => Res.ok (a190 + a191)).bind fun size186 => (((ixT p_row (1 : Int)).bind fun a192 => (Res.ok (2 : Int)).bind fun a193 => Res.ok (decide (a192 = a193))).bind fun a267 => if a267 then ((t_law_sized p_many size186 (size186 + (1 : Int))).bind fun alike194 => (((Res.ok free165).bind fun a198 => (Res.ok ((some (1 : Int)) : Option Int)).bind fun a199 => (((Res.ok (2 : Int)).bind fun a195 => (mulT (3 : Int) few169).bind fun a196 => Res.ok (a195 + a196)).bind fun a197 => Res.ok (some a197)).bind fun a200 => Res.ok (cutT a198 a199 a200)).bind fun l204 => compT (fun (x201 : Int) => (Res.ok true)) (fun (x201 : Int) => ((Res.ok alike194).bind fun a202 => (modT x201 ((List.length alike194 : Nat) : Int)).bind fun a203 => (ixT a202 a203))) l204 [])) else (((ixT p_row (1 : Int)).bind fun a205 => (Res.ok (3 : Int)).bind fun a206 => Res.ok (decide (a205 = a206))).bind fun a266 => if a266 then ((t_law_sized p_many size186 size186).bind fun alike207 => ((((Res.ok free165).bind fun a215 => (Res.ok ((some (1 : Int)) : Option Int)).bind fun a216 => (((Res.ok (1 : Int)).bind fun a212 => (((ixT p_row (2 : Int)).bind fun a209 => Res.ok a209).bind fun a210 => (Res.ok (4 : Int)).bind fun a211 => (modT a210 a211)).bind fun a213 => Res.ok (a212 + a213)).bind fun a214 => Res.ok (some a214)).bind fun a217 => Res.ok (cutT a215 a216 a217)).bind fun l221 => compT (fun (x218 : Int) => (Res.ok true)) (fun (x218 : Int) => ((Res.ok alike207).bind fun a219 => (modT x218 ((List.length alike207 : Nat) : Int)).bind fun a220 => (ixT a219 a220))) l221 []).bind fun gone208 => ((compT (fun (x223 : Int) => (Res.ok (!decide (x223 ∈ gone208)))) (fun (x223 : Int) => (Res.ok x223)) alike207 []).bind fun told222 => (if (decide (((List.length told222 : Nat) : Int) = (0 : Int))) then ((Res.ok alike207).bind fun told225 => ((((ixT free165 (5 : Int)).bind fun a227 => Res.ok a227).bind fun a228 => (Res.ok ((List.length told225 : Nat) : Int)).bind fun a229 => (modT a228 a229)).bind fun atw226 => (catT (cutT told225 (some atw226) none) (cutT told225 none (some atw226))))) else ((((ixT free165 (5 : Int)).bind fun a231 => Res.ok a231).bind fun a232 => (Res.ok ((List.length told222 : Nat) : Int)).bind fun a233 => (modT a232 a233)).bind fun atw230 => (catT (cutT told222 (some atw230) none) (cutT told222 none (some atw230)))))))) else (((ixT p_row (1 : Int)).bind fun a234 => (Res.ok (4 : Int)).bind fun a235 => Res.ok (decide (a234 = a235))).bind fun a265 => if a265 then ((ixT free165 (0 : Int)).bind fun number236 => ((Res.ok ([number236] : List Int)).bind fun told237 => (((Res.ok free165).bind fun a241 => (Res.ok ((some (1 : Int)) : Option Int)).bind fun a242 => (((Res.ok (1 : Int)).bind fun a238 => (mulT (2 : Int) few169).bind fun a239 => Res.ok (a238 + a239)).bind fun a240 => Res.ok (some a240)).bind fun a243 => Res.ok (cutT a241 a242 a243)).bind fun l255 => (foldT (fun (s244 : Int × (List Int)) (x245 : Int) => (((Res.ok s244.1).bind fun a249 => ((Res.ok (1 : Int)).bind fun a247 => (modT x245 p_many).bind fun a248 => (shlT a247 a248)).bind fun a250 => Res.ok (Builtin.bitXor a249 a250)).bind fun number246 => ((if (decide (number246 = (0 : Int))) then ((Res.ok last162).bind fun number253 => (Res.ok number253)) else (Res.ok number246)).bind fun (s252 : Int) => ((appT s244.2 s252).bind fun told254 => (Res.ok (s252, told254)))))) (number236, told237) l255).bind fun s244 => (Res.ok s244.2)))) else (compT (fun (x256 : Int) => (Res.ok true)) (fun (x256 : Int) => (((Res.ok (1 : Int)).bind fun a257 => (modT x256 p_many).bind fun a258 => (shlT a257 a258)).bind fun a263 => ((Res.ok (1 : Int)).bind fun a261 => ((divT x256 (9 : Int)).bind fun a259 => (Res.ok p_many).bind fun a260 => (modT a259 a260)).bind fun a262 => (shlT a261 a262)).bind fun a264 => Res.ok (Builtin.bitOr a263 a264))) (cutT free165 (some (1 : Int)) (some ((1 : Int) + few169))) []))))))))))
theorem tt_law_drawn (p_row : List Int) (p_many : Int) : Rx (Ty.enc (.lst .z)) (t_law_drawn p_row p_many) (d_law_drawn [Ty.enc (.lst .z) p_row, Ty.enc .z p_many]) :=
  f_ok (L := [.im (Ty.enc (.lst .z) p_row), .im (Ty.enc .z p_many), .any, .any, .any, .any, .any, .any, .any, .any, .any, .any]) (by unfold t_law_drawn m_law_drawn; exact (g_set (t := .z) 2 (v_sub (v_shlP (v_int 1) (v_var (t := .z) (i := 1) rfl)) (v_int 1)) fun last162 => (g_norm (L' := [.im (Ty.enc (.lst .z) p_row), .im (Ty.enc .z p_many), .im (Ty.enc .z last162), .any, .any, .any, .any, .any, .any, .any, .any, .any]) (wk_s (wk_s (wk_s (wk_a (wk_a (wk_a (wk_a (wk_a (wk_a (wk_a (wk_a (wk_a wk_n)))))))))))) (g_set (t := (.lst .z)) 4 (v_fz (t := .z) (v_lcP (t := .z) (u := .z) (i_lst (t := .z) (v_slLP (t := .z) (v_var (t := (.lst .z)) (i := 0) rfl) (p_someP (v_int 3)) p_noneP)) (tg_1 3) (fun x166 => b_yes) (fun x166 => (v_add (v_int 1) (v_modP (v_opa (k_p (t := .z) (v_var (t := .z) (i := 3) rfl) (k_n (o_int _)))) (v_var (t := .z) (i := 2) rfl)))))) fun free165 => (g_norm (L' := [.im (Ty.enc (.lst .z) p_row), .im (Ty.enc .z p_many), .im (Ty.enc .z last162), .any, .im (Ty.enc (.lst .z) free165), .any, .any, .any, .any, .any, .any, .any]) (wk_s (wk_s (wk_s (wk_a (wk_s (wk_a (wk_a (wk_a (wk_a (wk_a (wk_a (wk_a wk_n)))))))))))) (g_set (t := .z) 5 (v_add (v_int 1) (v_mod (v_opa (k_r (t := .z) (v_ixLP (t := .z) (v_var (t := (.lst .z)) (i := 0) rfl) (v_int 2)) fun a170 => (k_n (o_int _)))) (v_int 12))) fun few169 => (g_norm (L' := [.im (Ty.enc (.lst .z) p_row), .im (Ty.enc .z p_many), .im (Ty.enc .z last162), .any, .im (Ty.enc (.lst .z) free165), .im (Ty.enc .z few169), .any, .any, .any, .any, .any, .any]) (wk_s (wk_s (wk_s (wk_a (wk_s (wk_s (wk_a (wk_a (wk_a (wk_a (wk_a (wk_a wk_n)))))))))))) (g_if (b_tst (v_eq (t := .z) rfl (v_ixLP (t := .z) (v_var (t := (.lst .z)) (i := 0) rfl) (v_int 1)) (v_int 0))) (g_ret (v_slLP (t := .z) (v_var (t := (.lst .z)) (i := 4) rfl) p_noneP (p_someP (v_var (t := .z) (i := 5) rfl)))) (g_nop (g_if (b_tst (v_eq (t := .z) rfl (v_ixLP (t := .z) (v_var (t := (.lst .z)) (i := 0) rfl) (v_int 1)) (v_int 1))) (g_ret (v_slL (t := .z) (v_var (t := (.lst .z)) (i := 4) rfl) p_noneP (p_some (v_add (v_int 1) (v_opa (k_r (t := .z) (v_ixLP (t := .z) (v_var (t := (.lst .z)) (i := 0) rfl) (v_int 2)) fun a179 => (k_n (o_int _)))))))) (g_nop (g_set (t := .z) 6 (v_add (v_int 1) (v_mod (v_opa (k_r (t := .z) (v_ixLP (t := .z) (v_var (t := (.lst .z)) (i := 4) rfl) (v_int 0)) fun a187 => (k_n (o_int _)))) (v_var (t := .z) (i := 1) rfl))) fun size186 => (g_norm (L' := [.im (Ty.enc (.lst .z) p_row), .im (Ty.enc .z p_many), .im (Ty.enc .z last162), .any, .im (Ty.enc (.lst .z) free165), .im (Ty.enc .z few169), .im (Ty.enc .z size186), .any, .any, .any, .any, .any]) (wk_s (wk_s (wk_s (wk_a (wk_s (wk_s (wk_s (wk_a (wk_a (wk_a (wk_a (wk_a wk_n)))))))))))) (g_if (b_tst (v_eq (t := .z) rfl (v_ixLP (t := .z) (v_var (t := (.lst .z)) (i := 0) rfl) (v_int 1)) (v_int 2))) (g_assoc (g_set (t := (.lst .z)) 7 (v_call (k_p (t := .z) (v_var (t := .z) (i := 1) rfl) (k_p (t := .z) (v_var (t := .z) (i := 6) rfl) (k_p (t := .z) (v_addP (v_var (t := .z) (i := 6) rfl) (v_int 1)) (k_n (kc_fin rfl (tt_law_sized _ _ _))))))) fun alike194 => (g_norm (L' := [.im (Ty.enc (.lst .z) p_row), .im (Ty.enc .z p_many), .im (Ty.enc .z last162), .any, .im (Ty.enc (.lst .z) free165), .im (Ty.enc .z few169), .im (Ty.enc .z size186), .im (Ty.enc (.lst .z) alike194), .any, .any, .any, .any]) (wk_s (wk_s (wk_s (wk_a (wk_s (wk_s (wk_s (wk_s (wk_a (wk_a (wk_a (wk_a wk_n)))))))))))) (g_ret (v_fz (t := .z) (v_lc (t := .z) (u := .z) (i_lst (t := .z) (v_slL (t := .z) (v_var (t := (.lst .z)) (i := 4) rfl) (p_someP (v_int 1)) (p_some (v_add (v_int 2) (v_mulP (v_int 3) (v_var (t := .z) (i := 5) rfl)))))) (tg_1 3) (fun x201 => b_yes) (fun x201 => (v_ixL (t := .z) (v_var (t := (.lst .z)) (i := 7) rfl) (v_modP (v_opa (k_p (t := .z) (v_var (t := .z) (i := 3) rfl) (k_n (o_int _)))) (v_opa (k_p (t := (.lst .z)) (v_var (t := (.lst .z)) (i := 7) rfl) (k_n (o_lenL _))))))))))))) (g_nop (g_if (b_tst (v_eq (t := .z) rfl (v_ixLP (t := .z) (v_var (t := (.lst .z)) (i := 0) rfl) (v_int 1)) (v_int 3))) (g_assoc (g_set (t := (.lst .z)) 7 (v_call (k_p (t := .z) (v_var (t := .z) (i := 1) rfl) (k_p (t := .z) (v_var (t := .z) (i := 6) rfl) (k_p (t := .z) (v_var (t := .z) (i := 6) rfl) (k_n (kc_fin rfl (tt_law_sized _ _ _))))))) fun alike207 => (g_norm (L' := [.im (Ty.enc (.lst .z) p_row), .im (Ty.enc .z p_many), .im (Ty.enc .z last162), .any, .im (Ty.enc (.lst .z) free165), .im (Ty.enc .z few169), .im (Ty.enc .z size186), .im (Ty.enc (.lst .z) alike207), .any, .any, .any, .any]) (wk_s (wk_s (wk_s (wk_a (wk_s (wk_s (wk_s (wk_s (wk_a (wk_a (wk_a (wk_a wk_n)))))))))))) (g_assoc (g_set (t := (.lst .z)) 8 (v_fz (t := .z) (v_lc (t := .z) (u := .z) (i_lst (t := .z) (v_slL (t := .z) (v_var (t := (.lst .z)) (i := 4) rfl) (p_someP (v_int 1)) (p_some (v_add (v_int 1) (v_mod (v_opa (k_r (t := .z) (v_ixLP (t := .z) (v_var (t := (.lst .z)) (i := 0) rfl) (v_int 2)) fun a209 => (k_n (o_int _)))) (v_int 4)))))) (tg_1 3) (fun x218 => b_yes) (fun x218 => (v_ixL (t := .z) (v_var (t := (.lst .z)) (i := 7) rfl) (v_modP (v_opa (k_p (t := .z) (v_var (t := .z) (i := 3) rfl) (k_n (o_int _)))) (v_opa (k_p (t := (.lst .z)) (v_var (t := (.lst .z)) (i := 7) rfl) (k_n (o_lenL _))))))))) fun gone208 => (g_norm (L' := [.im (Ty.enc (.lst .z) p_row), .im (Ty.enc .z p_many), .im (Ty.enc .z last162), .any, .im (Ty.enc (.lst .z) free165), .im (Ty.enc .z few169), .im (Ty.enc .z size186), .im (Ty.enc (.lst .z) alike207), .im (Ty.enc (.lst .z) gone208), .any, .any, .any]) (wk_s (wk_s (wk_s (wk_a (wk_s (wk_s (wk_s (wk_s (wk_s (wk_a (wk_a (wk_a wk_n)))))))))))) (g_assoc (g_own (t := .z) 9 (v_lcP (t := .z) (u := .z) (i_lst (t := .z) (v_var (t := (.lst .z)) (i := 7) rfl)) (tg_1 3) (fun x223 => (b_tst (v_ninLP (t := .z) rfl rfl (v_var (t := .z) (i := 3) rfl) (v_var (t := (.lst .z)) (i := 8) rfl)))) (fun x223 => (v_var (t := .z) (i := 3) rfl))) fun told222 => (g_norm (L' := [.im (Ty.enc (.lst .z) p_row), .im (Ty.enc .z p_many), .im (Ty.enc .z last162), .any, .im (Ty.enc (.lst .z) free165), .im (Ty.enc .z few169), .im (Ty.enc .z size186), .im (Ty.enc (.lst .z) alike207), .im (Ty.enc (.lst .z) gone208), .ow (.l (List.map (Ty.enc .z) told222)), .any, .any]) (wk_s (wk_s (wk_s (wk_a (wk_s (wk_s (wk_s (wk_s (wk_s (wk_s (wk_a (wk_a wk_n)))))))))))) (g_assoc (g_ifP (b_tst (v_eqP (t := .z) rfl (v_borP (t := .z) rfl sc_z (v_opa (k_p (t := (.lst .z)) (v_var (t := (.lst .z)) (i := 9) rfl) (k_n (o_lenL _))))) (v_int 0))) (g_set (t := (.lst .z)) 9 (v_var (t := (.lst .z)) (i := 7) rfl) fun told225 => (g_norm (L' := [.im (Ty.enc (.lst .z) p_row), .im (Ty.enc .z p_many), .im (Ty.enc .z last162), .any, .im (Ty.enc (.lst .z) free165), .im (Ty.enc .z few169), .im (Ty.enc .z size186), .im (Ty.enc (.lst .z) alike207), .im (Ty.enc (.lst .z) gone208), .im (Ty.enc (.lst .z) told225), .any, .any]) (wk_s (wk_s (wk_s (wk_a (wk_s (wk_s (wk_s (wk_s (wk_s (wk_s (wk_a (wk_a wk_n)))))))))))) (g_assoc (g_frz0 rfl (g_set (t := .z) 10 (v_mod (v_opa (k_r (t := .z) (v_ixLP (t := .z) (v_var (t := (.lst .z)) (i := 4) rfl) (v_int 5)) fun a227 => (k_n (o_int _)))) (v_opa (k_p (t := (.lst .z)) (v_var (t := (.lst .z)) (i := 9) rfl) (k_n (o_lenL _))))) fun atw226 => (g_norm (L' := [.im (Ty.enc (.lst .z) p_row), .im (Ty.enc .z p_many), .im (Ty.enc .z last162), .any, .im (Ty.enc (.lst .z) free165), .im (Ty.enc .z few169), .im (Ty.enc .z size186), .im (Ty.enc (.lst .z) alike207), .im (Ty.enc (.lst .z) gone208), .im (Ty.enc (.lst .z) told225), .im (Ty.enc .z atw226), .any]) (wk_s (wk_s (wk_s (wk_a (wk_s (wk_s (wk_s (wk_s (wk_s (wk_s (wk_s (wk_a wk_n)))))))))))) (g_ret (v_catLP (t := .z) (v_slLP (t := .z) (v_var (t := (.lst .z)) (i := 9) rfl) (p_someP (v_var (t := .z) (i := 10) rfl)) p_noneP) (v_slLP (t := .z) (v_var (t := (.lst .z)) (i := 9) rfl) p_noneP (p_someP (v_var (t := .z) (i := 10) rfl))))))))))) (g_nop (g_assoc (g_frz rfl (g_set (t := .z) 10 (v_mod (v_opa (k_r (t := .z) (v_ixLP (t := .z) (v_var (t := (.lst .z)) (i := 4) rfl) (v_int 5)) fun a231 => (k_n (o_int _)))) (v_opa (k_p (t := (.lst .z)) (v_var (t := (.lst .z)) (i := 9) rfl) (k_n (o_lenL _))))) fun atw230 => (g_norm (L' := [.im (Ty.enc (.lst .z) p_row), .im (Ty.enc .z p_many), .im (Ty.enc .z last162), .any, .im (Ty.enc (.lst .z) free165), .im (Ty.enc .z few169), .im (Ty.enc .z size186), .im (Ty.enc (.lst .z) alike207), .im (Ty.enc (.lst .z) gone208), .im (Ty.enc (.lst .z) told222), .im (Ty.enc .z atw230), .any]) (wk_s (wk_s (wk_s (wk_a (wk_s (wk_s (wk_s (wk_s (wk_s (wk_s (wk_s (wk_a wk_n)))))))))))) (g_ret (v_catLP (t := .z) (v_slLP (t := .z) (v_var (t := (.lst .z)) (i := 9) rfl) (p_someP (v_var (t := .z) (i := 10) rfl)) p_noneP) (v_slLP (t := .z) (v_var (t := (.lst .z)) (i := 9) rfl) p_noneP (p_someP (v_var (t := .z) (i := 10) rfl))))))))))))))))))))) (g_nop (g_if (b_tst (v_eq (t := .z) rfl (v_ixLP (t := .z) (v_var (t := (.lst .z)) (i := 0) rfl) (v_int 1)) (v_int 4))) (g_assoc (g_set (t := .z) 3 (v_ixLP (t := .z) (v_var (t := (.lst .z)) (i := 4) rfl) (v_int 0)) fun number236 => (g_norm (L' := [.im (Ty.enc (.lst .z) p_row), .im (Ty.enc .z p_many), .im (Ty.enc .z last162), .im (Ty.enc .z number236), .im (Ty.enc (.lst .z) free165), .im (Ty.enc .z few169), .im (Ty.enc .z size186), .any, .any, .any, .any, .any]) (wk_s (wk_s (wk_s (wk_s (wk_s (wk_s (wk_s (wk_a (wk_a (wk_a (wk_a (wk_a wk_n)))))))))))) (g_assoc (g_own (t := .z) 9 (v_mlst (k_p (t := .z) (v_var (t := .z) (i := 3) rfl) (k_n (kl_fin (t := .z) (n := 1) rfl rfl (by decide))))) fun told237 => (g_norm (L' := [.im (Ty.enc (.lst .z) p_row), .im (Ty.enc .z p_many), .im (Ty.enc .z last162), .im (Ty.enc .z number236), .im (Ty.enc (.lst .z) free165), .im (Ty.enc .z few169), .im (Ty.enc .z size186), .any, .any, .ow (.l (List.map (Ty.enc .z) told237)), .any, .any]) (wk_s (wk_s (wk_s (wk_s (wk_s (wk_s (wk_s (wk_a (wk_a (wk_s (wk_a (wk_a wk_n)))))))))))) (g_assoc (g_for (t := .z) (E := (fun (s244 : Int × (List Int)) => [.im (Ty.enc (.lst .z) p_row), .im (Ty.enc .z p_many), .im (Ty.enc .z last162), .im (Ty.enc .z s244.1), .im (Ty.enc (.lst .z) free165), .im (Ty.enc .z few169), .im (Ty.enc .z size186), .any, .any, .ow (.l (List.map (Ty.enc .z) s244.2)), .any, .any])) (i_lst (t := .z) (v_slL (t := .z) (v_var (t := (.lst .z)) (i := 4) rfl) (p_someP (v_int 1)) (p_some (v_add (v_int 1) (v_mulP (v_int 2) (v_var (t := .z) (i := 5) rfl)))))) (wk_s (wk_s (wk_s (wk_s (wk_s (wk_s (wk_s (wk_a (wk_a (wk_s (wk_a (wk_a wk_n)))))))))))) (tg_1 11) (fun s244 x245 => (g_set (t := .z) 3 (v_xor2 (v_var (t := .z) (i := 3) rfl) (v_shl (v_int 1) (v_modP (v_opa (k_p (t := .z) (v_var (t := .z) (i := 11) rfl) (k_n (o_int _)))) (v_var (t := .z) (i := 1) rfl)))) fun number246 => (g_norm (L' := [.im (Ty.enc (.lst .z) p_row), .im (Ty.enc .z p_many), .im (Ty.enc .z last162), .im (Ty.enc .z number246), .im (Ty.enc (.lst .z) free165), .im (Ty.enc .z few169), .im (Ty.enc .z size186), .any, .any, .ow (.l (List.map (Ty.enc .z) s244.2)), .any, .im (Ty.enc .z x245)]) (wk_s (wk_s (wk_s (wk_s (wk_s (wk_s (wk_s (wk_a (wk_a (wk_s (wk_a (wk_s wk_n)))))))))))) (g_join (E := (fun (s252 : Int) => [.im (Ty.enc (.lst .z) p_row), .im (Ty.enc .z p_many), .im (Ty.enc .z last162), .im (Ty.enc .z s252), .im (Ty.enc (.lst .z) free165), .im (Ty.enc .z few169), .im (Ty.enc .z size186), .any, .any, .ow (.l (List.map (Ty.enc .z) s244.2)), .any, .im (Ty.enc .z x245)])) (g_last (g_ifP (b_tst (v_eqP (t := .z) rfl (v_var (t := .z) (i := 3) rfl) (v_int 0))) (g_set (t := .z) 3 (v_var (t := .z) (i := 2) rfl) fun number253 => (g_norm (L' := [.im (Ty.enc (.lst .z) p_row), .im (Ty.enc .z p_many), .im (Ty.enc .z last162), .im (Ty.enc .z number253), .im (Ty.enc (.lst .z) free165), .im (Ty.enc .z few169), .im (Ty.enc .z size186), .any, .any, .ow (.l (List.map (Ty.enc .z) s244.2)), .any, .im (Ty.enc .z x245)]) (wk_s (wk_s (wk_s (wk_s (wk_s (wk_s (wk_s (wk_a (wk_a (wk_s (wk_a (wk_s wk_n)))))))))))) (g_stay (wk_s (wk_s (wk_s (wk_s (wk_s (wk_s (wk_s (wk_a (wk_a (wk_s (wk_a (wk_s wk_n))))))))))))))) (g_nop (g_stay (wk_s (wk_s (wk_s (wk_s (wk_s (wk_s (wk_s (wk_a (wk_a (wk_s (wk_a (wk_s wk_n)))))))))))))))) fun s252 => (g_last (g_appP (t := .z) rfl (v_var (t := .z) (i := 3) rfl) fun told254 => (g_norm (L' := [.im (Ty.enc (.lst .z) p_row), .im (Ty.enc .z p_many), .im (Ty.enc .z last162), .im (Ty.enc .z s252), .im (Ty.enc (.lst .z) free165), .im (Ty.enc .z few169), .im (Ty.enc .z size186), .any, .any, .ow (.l (List.map (Ty.enc .z) told254)), .any, .im (Ty.enc .z x245)]) (wk_s (wk_s (wk_s (wk_s (wk_s (wk_s (wk_s (wk_a (wk_a (wk_s (wk_a (wk_s wk_n)))))))))))) (g_endN (wk_s (wk_s (wk_s (wk_s (wk_s (wk_s (wk_s (wk_a (wk_a (wk_s (wk_a (wk_a wk_n)))))))))))))))))))) (fun s244 => (g_frz rfl (g_ret (v_var (t := (.lst .z)) (i := 9) rfl)))))))))))) (g_nop (g_last (g_ret (v_fz (t := .z) (v_lcP (t := .z) (u := .z) (i_lst (t := .z) (v_slLP (t := .z) (v_var (t := (.lst .z)) (i := 4) rfl) (p_someP (v_int 1)) (p_someP (v_addP (v_int 1) (v_var (t := .z) (i := 5) rfl))))) (tg_1 3) (fun x256 => b_yes) (fun x256 => (v_or2 (v_shl (v_int 1) (v_modP (v_opa (k_p (t := .z) (v_var (t := .z) (i := 3) rfl) (k_n (o_int _)))) (v_var (t := .z) (i := 1) rfl))) (v_shl (v_int 1) (v_mod (v_divP (v_opa (k_p (t := .z) (v_var (t := .z) (i := 3) rfl) (k_n (o_int _)))) (v_int 9)) (v_var (t := .z) (i := 1) rfl)))))))))))))))))))))))))))) (by exact ⟨rfl, ⟨rfl, ⟨trivial, ⟨trivial, ⟨trivial, ⟨trivial, ⟨trivial, ⟨trivial, ⟨trivial, ⟨trivial, ⟨trivial, ⟨trivial, trivial⟩⟩⟩⟩⟩⟩⟩⟩⟩⟩⟩⟩)
noncomputable def t_law_as_told (p_rule : Int × (List Bool) × (List (List Int))) (p_lots : List (List Int)) (p_table : List Bool) : Res Bool := (((ixT p_lots (-(1 : Int))).bind fun a271 => Res.ok ((List.length a271 : Nat) : Int)).bind fun many270 => (((Res.ok (!true)).bind fun a274 => if a274 then Res.ok true else (((t_law_whole p_rule.1).bind fun a272 => Res.ok (!a272)).bind fun a273 => if a273 then Res.ok true else (Res.ok (!decide (p_rule.1 = many270))))).bind fun a286 => if a286 then (Res.ok false) else ((((t_law_least p_table many270).bind fun a275 => (t_law_are_lots p_rule.2.2 a275)).bind fun a276 => Res.ok (!a276)).bind fun a285 => if a285 then (Res.ok false) else ((rng1T ((List.length p_lots : Nat) : Int)).bind fun l284 => (loopT (fun (s277 : Unit) (x278 : Int) => (((((ixT p_lots x278).bind fun a279 => (Res.ok p_rule).bind fun a280 => noEr (t_Rule_contains a280 a279)).bind fun a281 => (ixT p_table x278).bind fun a282 => Res.ok (!decide (a281 = a282))).bind fun a283 => if a283 then (Res.ok (Stp.rt false)) else (Res.ok (Stp.nx ()))) : Res (Stp (Unit) Bool))) () l284).bind (Stp.out (fun s277 => (Res.ok true)) Res.ok)))))
theorem tt_law_as_told (p_rule : Int × (List Bool) × (List (List Int))) (p_lots : List (List Int)) (p_table : List Bool) : Rx (Ty.enc .b) (t_law_as_told p_rule p_lots p_table) (d_law_as_told [Ty.enc tyRule p_rule, Ty.enc (.lst (.tup .z)) p_lots, Ty.enc (.lst .b) p_table]) :=
  f_ok (L := [.im (Ty.enc tyRule p_rule), .im (Ty.enc (.lst (.tup .z)) p_lots), .im (Ty.enc (.lst .b) p_table), .any, .any]) (by unfold t_law_as_told m_law_as_told; exact (g_set (t := .z) 3 (v_opa (k_r (t := (.tup .z)) (v_ixLP (t := (.tup .z)) (v_var (t := (.lst (.tup .z))) (i := 1) rfl) (v_negP (v_int 1))) fun a271 => (k_n (o_lenT _)))) fun many270 => (g_if (b_or (b_notP (b_truB (v_isC2P (t := (.pr .z (.pr (.tup .b) (.tup (.tup .z))))) rfl (v_var (t := tyRule) (i := 0) rfl)))) (b_or (b_not (b_truB (v_call (k_p (t := .z) (v_fldP (t := tyRule) (u := .z) (g := (fun x => x.1)) fl_Rule_many (v_var (t := tyRule) (i := 0) rfl)) (k_n (kc_fin rfl (tt_law_whole _))))))) (b_tst (v_neP (t := .z) rfl (v_fldP (t := tyRule) (u := .z) (g := (fun x => x.1)) fl_Rule_many (v_var (t := tyRule) (i := 0) rfl)) (v_var (t := .z) (i := 3) rfl))))) (g_ret (v_bl false)) (g_nop (g_if (b_not (b_truB (v_call (k_p (t := (.tup (.tup .z))) (v_fldP (t := tyRule) (u := (.tup (.tup .z))) (g := (fun x => x.2.2)) fl_Rule_least (v_var (t := tyRule) (i := 0) rfl)) (k_r (t := (.tup (.tup .z))) (v_call (k_p (t := (.lst .b)) (v_var (t := (.lst .b)) (i := 2) rfl) (k_p (t := .z) (v_var (t := .z) (i := 3) rfl) (k_n (kc_fin rfl (tt_law_least _ _)))))) fun a275 => (k_n (kc_fin rfl (tt_law_are_lots _ _)))))))) (g_ret (v_bl false)) (g_nop (g_loop (t := .z) (E := (fun (s277 : Unit) => [.im (Ty.enc tyRule p_rule), .im (Ty.enc (.lst (.tup .z)) p_lots), .im (Ty.enc (.lst .b) p_table), .im (Ty.enc .z many270), .any])) (enc := (Ty.enc .b)) hr_R (i_rng1 (k_p (t := .z) (v_opa (k_p (t := (.lst (.tup .z))) (v_var (t := (.lst (.tup .z))) (i := 1) rfl) (k_n (o_lenL _)))) (k_n (rng1_fin _)))) (wk_s (wk_s (wk_s (wk_s (wk_a wk_n))))) (tg_1 4) (fun s277 x278 => (g_last (g_if (b_tst (v_ne (t := .b) rfl (v_conR (t := (.pr .z (.pr (.tup .b) (.tup (.tup .z))))) (u := (.tup .z)) (T := t_Rule_contains) (fun r a => tt_Rule_contains r a) (v_ixLP (t := (.tup .z)) (v_var (t := (.lst (.tup .z))) (i := 1) rfl) (v_var (t := .z) (i := 4) rfl)) (v_var (t := tyRule) (i := 0) rfl)) (v_ixLP (t := .b) (v_var (t := (.lst .b)) (i := 2) rfl) (v_var (t := .z) (i := 4) rfl)))) (g_retSP (v_bl false)) (g_nop (g_endS (wk_s (wk_s (wk_s (wk_s (wk_a wk_n)))))))))) (fun s277 => (g_last (g_ret (v_bl true))))))))))) (by exact ⟨rfl, ⟨rfl, ⟨rfl, ⟨trivial, ⟨trivial, trivial⟩⟩⟩⟩⟩)
noncomputable def t_Rule_init (p_many : Int) (p_lots : List (List Int)) : Res (Int × (List Bool) × (List (List Int))) := decC tyRule (d_Rule_init [Ty.enc .z p_many, Ty.enc (.tup (.tup .z)) p_lots])
noncomputable def t_law_any (p_row : List Int) (p_many : Int) : Res D := (((ixT p_row (0 : Int)).bind fun a287 => (Res.ok (12 : Int)).bind fun a288 => Res.ok (decide (a287 < a288))).bind fun a310 => if a310 then (t_law_words p_row p_many) else (((((((ixT p_row (0 : Int)).bind fun a298 => Res.ok a298).bind fun a299 => (Res.ok (12 : Int)).bind fun a300 => Res.ok (a299 - a300)).bind fun a301 => (ixT p_row (14 : Int)).bind fun a302 => Res.ok ([(0 : Int), a301, a302] : List Int)).bind fun a303 => (Res.ok (cutT p_row (some (15 : Int)) none)).bind fun a304 => (catT a303 a304)).bind fun a305 => (t_law_drawn a305 p_many)).bind fun numbers289 => ((((compT (fun (x306 : Int) => (Res.ok true)) (fun (x306 : Int) => (t_law_voters x306 p_many)) numbers289 []).bind fun a307 => Res.ok a307).bind fun a308 => Res.ok (Ty.enc (.tup (.tup .z)) a308)).bind fun a309 => Res.ok (D.tup [(Ty.enc .s ("lots" : Str)), a309]))))
theorem tt_law_any (p_row : List Int) (p_many : Int) : Rx (Ty.enc .raw) (t_law_any p_row p_many) (d_law_any [Ty.enc (.lst .z) p_row, Ty.enc .z p_many]) :=
  f_ok (L := [.im (Ty.enc (.lst .z) p_row), .im (Ty.enc .z p_many), .any, .any]) (by unfold t_law_any m_law_any; exact (g_if (b_tst (v_lt (v_ixLP (t := .z) (v_var (t := (.lst .z)) (i := 0) rfl) (v_int 0)) (v_int 12))) (g_ret (v_call (k_p (t := (.lst .z)) (v_var (t := (.lst .z)) (i := 0) rfl) (k_p (t := .z) (v_var (t := .z) (i := 1) rfl) (k_n (kc_fin rfl (tt_law_words _ _))))))) (g_nop (g_set (t := (.lst .z)) 2 (v_call (k_r (t := (.lst .z)) (v_catL (t := .z) (v_fz (t := .z) (v_mlst (k_p (t := .z) (v_int 0) (k_r (t := .z) (v_sub (v_opa (k_r (t := .z) (v_ixLP (t := .z) (v_var (t := (.lst .z)) (i := 0) rfl) (v_int 0)) fun a298 => (k_n (o_int _)))) (v_int 12)) fun a301 => (k_r (t := .z) (v_ixLP (t := .z) (v_var (t := (.lst .z)) (i := 0) rfl) (v_int 14)) fun a302 => (k_n (kl_fin (t := .z) (n := 3) rfl rfl (by decide)))))))) (v_slLP (t := .z) (v_var (t := (.lst .z)) (i := 0) rfl) (p_someP (v_int 15)) p_noneP)) fun a305 => (k_p (t := .z) (v_var (t := .z) (i := 1) rfl) (k_n (kc_fin rfl (tt_law_drawn _ _)))))) fun numbers289 => (g_last (g_ret (v_tup (k_p (t := .raw) (v_raw (t := .s) (v_str "lots")) (k_r (t := .raw) (v_rawR (t := (.tup (.tup .z))) (v_opa (k_r (t := (.lst (.tup .z))) (v_fz (t := (.tup .z)) (v_lcP (t := .z) (u := (.tup .z)) (i_lst (t := .z) (v_var (t := (.lst .z)) (i := 2) rfl)) (tg_1 3) (fun x306 => b_yes) (fun x306 => (v_call (k_p (t := .z) (v_var (t := .z) (i := 3) rfl) (k_p (t := .z) (v_var (t := .z) (i := 1) rfl) (k_n (kc_fin rfl (tt_law_voters _ _))))))))) fun a307 => (k_n (o_tupL _))))) fun a309 => (k_n (kt_fin (t := .raw) (n := 2) rfl rfl (by decide)))))))))))) (by exact ⟨rfl, ⟨rfl, ⟨trivial, ⟨trivial, trivial⟩⟩⟩⟩)
noncomputable def t_Rule_weighted (p_weights : List Int) (p_quota : Int) : Res (Int × (List Bool) × (List (List Int))) := (if ((decide (p_quota < (1 : Int))) || (decide ((List.sum p_weights) < p_quota))) then (Res.er (.exc 3 ["quota"] [Ty.enc .z p_quota])) else (((t_sums_of p_weights).bind fun l313 => compT (fun (x312 : Int) => (Res.ok true)) (fun (x312 : Int) => (Res.ok (decide (p_quota ≤ x312)))) l313 []).bind fun book311 => ((t_least_lots ((List.length p_weights : Nat) : Int) (Ty.enc (.lst .b) book311)).bind fun a314 => (t_Rule_init ((List.length p_weights : Nat) : Int) a314))))
theorem tt_Rule_weighted (p_weights : List Int) (p_quota : Int) : Rx (Ty.enc tyRule) (t_Rule_weighted p_weights p_quota) (d_Rule_weighted [Ty.enc (.tup .z) p_weights, Ty.enc .z p_quota]) :=
  f_ok (L := [.im (Ty.enc (.tup .z) p_weights), .im (Ty.enc .z p_quota), .any, .any]) (by unfold t_Rule_weighted m_Rule_weighted; exact (g_ifP (b_orP (b_tst (v_ltP (v_var (t := .z) (i := 1) rfl) (v_int 1))) (b_tst (v_gtP (v_var (t := .z) (i := 1) rfl) (v_opa (k_p (t := (.tup .z)) (v_var (t := (.tup .z)) (i := 0) rfl) (k_n (o_sumT _))))))) (g_raise1P (t := .z) (v_var (t := .z) (i := 1) rfl)) (g_nop (g_set (t := (.lst .b)) 2 (v_fz (t := .b) (v_lc (t := .z) (u := .b) (i_tup (t := .z) (v_call (k_p (t := (.tup .z)) (v_var (t := (.tup .z)) (i := 0) rfl) (k_n (kc_fin rfl (tt_sums_of _)))))) (tg_1 3) (fun x312 => b_yes) (fun x312 => (v_geP (v_var (t := .z) (i := 3) rfl) (v_var (t := .z) (i := 1) rfl))))) fun book311 => (g_last (g_ret (v_make (k_p (t := .z) (v_opa (k_p (t := (.tup .z)) (v_var (t := (.tup .z)) (i := 0) rfl) (k_n (o_lenT _)))) (k_r (t := (.tup (.tup .z))) (v_call (k_p (t := .z) (v_opa (k_p (t := (.tup .z)) (v_var (t := (.tup .z)) (i := 0) rfl) (k_n (o_lenT _)))) (k_p (t := .raw) (v_raw (t := (.lst .b)) (v_var (t := (.lst .b)) (i := 2) rfl)) (k_n (kc_fin rfl (tt_least_lots _ _)))))) fun a314 => (k_n (km_dec (t := tyRule) rfl))))))))))) (by exact ⟨rfl, ⟨rfl, ⟨trivial, ⟨trivial, trivial⟩⟩⟩⟩)
noncomputable def t_Rule_and (p_self : Int × (List Bool) × (List (List Int))) (p_other : Int × (List Bool) × (List (List Int))) : Res (Int × (List Bool) × (List (List Int))) := (if (!decide (p_self.1 = p_other.1)) then ((Res.ok p_self.1).bind fun a315 => (Res.ok p_other.1).bind fun a316 => Res.er (.exc 4 ["two", "one"] [Ty.enc .z a316, Ty.enc .z a315])) else (((rng1T ((List.length p_self.2.1 : Nat) : Int)).bind fun l320 => compT (fun (x318 : Int) => (Res.ok true)) (fun (x318 : Int) => ((ixT p_self.2.1 x318).bind fun a319 => if a319 then (ixT p_other.2.1 x318) else Res.ok false)) l320 []).bind fun book317 => ((t_least_lots p_self.1 (Ty.enc (.lst .b) book317)).bind fun a321 => (t_Rule_init p_self.1 a321))))
theorem tt_Rule_and (p_self : Int × (List Bool) × (List (List Int))) (p_other : Int × (List Bool) × (List (List Int))) : Rx (Ty.enc tyRule) (t_Rule_and p_self p_other) (d_Rule_and [Ty.enc tyRule p_self, Ty.enc tyRule p_other]) :=
  f_ok (L := [.im (Ty.enc tyRule p_self), .im (Ty.enc tyRule p_other), .any, .any]) (by unfold t_Rule_and m_Rule_and; exact (g_ifP (b_tst (v_neP (t := .z) rfl (v_fldP (t := tyRule) (u := .z) (g := (fun x => x.1)) fl_Rule_many (v_var (t := tyRule) (i := 0) rfl)) (v_fldP (t := tyRule) (u := .z) (g := (fun x => x.1)) fl_Rule_many (v_var (t := tyRule) (i := 1) rfl)))) (g_raise2 (t := .z) (u := .z) (v_fldP (t := tyRule) (u := .z) (g := (fun x => x.1)) fl_Rule_many (v_var (t := tyRule) (i := 0) rfl)) (v_fldP (t := tyRule) (u := .z) (g := (fun x => x.1)) fl_Rule_many (v_var (t := tyRule) (i := 1) rfl))) (g_nop (g_set (t := (.lst .b)) 2 (v_fz (t := .b) (v_lc (t := .z) (u := .b) (i_rng1 (k_p (t := .z) (v_opa (k_p (t := (.tup .b)) (v_fldP (t := tyRule) (u := (.tup .b)) (g := (fun x => x.2.1)) fl_Rule_book (v_var (t := tyRule) (i := 0) rfl)) (k_n (o_lenT _)))) (k_n (rng1_fin _)))) (tg_1 3) (fun x318 => b_yes) (fun x318 => (v_and (v_ixTP (t := .b) (v_fldP (t := tyRule) (u := (.tup .b)) (g := (fun x => x.2.1)) fl_Rule_book (v_var (t := tyRule) (i := 0) rfl)) (v_var (t := .z) (i := 3) rfl)) (v_ixTP (t := .b) (v_fldP (t := tyRule) (u := (.tup .b)) (g := (fun x => x.2.1)) fl_Rule_book (v_var (t := tyRule) (i := 1) rfl)) (v_var (t := .z) (i := 3) rfl)))))) fun book317 => (g_last (g_ret (v_make (k_p (t := .z) (v_fldP (t := tyRule) (u := .z) (g := (fun x => x.1)) fl_Rule_many (v_var (t := tyRule) (i := 0) rfl)) (k_r (t := (.tup (.tup .z))) (v_call (k_p (t := .z) (v_fldP (t := tyRule) (u := .z) (g := (fun x => x.1)) fl_Rule_many (v_var (t := tyRule) (i := 0) rfl)) (k_p (t := .raw) (v_raw (t := (.lst .b)) (v_var (t := (.lst .b)) (i := 2) rfl)) (k_n (kc_fin rfl (tt_least_lots _ _)))))) fun a321 => (k_n (km_dec (t := tyRule) rfl))))))))))) (by exact ⟨rfl, ⟨rfl, ⟨trivial, ⟨trivial, trivial⟩⟩⟩⟩)
noncomputable def t_Rule_or (p_self : Int × (List Bool) × (List (List Int))) (p_other : Int × (List Bool) × (List (List Int))) : Res (Int × (List Bool) × (List (List Int))) := (if (!decide (p_self.1 = p_other.1)) then ((Res.ok p_self.1).bind fun a322 => (Res.ok p_other.1).bind fun a323 => Res.er (.exc 4 ["two", "one"] [Ty.enc .z a323, Ty.enc .z a322])) else ((catT p_self.2.2 p_other.2.2).bind fun a324 => (t_Rule_init p_self.1 a324)))
theorem tt_Rule_or (p_self : Int × (List Bool) × (List (List Int))) (p_other : Int × (List Bool) × (List (List Int))) : Rx (Ty.enc tyRule) (t_Rule_or p_self p_other) (d_Rule_or [Ty.enc tyRule p_self, Ty.enc tyRule p_other]) :=
  f_ok (L := [.im (Ty.enc tyRule p_self), .im (Ty.enc tyRule p_other)]) (by unfold t_Rule_or m_Rule_or; exact (g_ifP (b_tst (v_neP (t := .z) rfl (v_fldP (t := tyRule) (u := .z) (g := (fun x => x.1)) fl_Rule_many (v_var (t := tyRule) (i := 0) rfl)) (v_fldP (t := tyRule) (u := .z) (g := (fun x => x.1)) fl_Rule_many (v_var (t := tyRule) (i := 1) rfl)))) (g_raise2 (t := .z) (u := .z) (v_fldP (t := tyRule) (u := .z) (g := (fun x => x.1)) fl_Rule_many (v_var (t := tyRule) (i := 0) rfl)) (v_fldP (t := tyRule) (u := .z) (g := (fun x => x.1)) fl_Rule_many (v_var (t := tyRule) (i := 1) rfl))) (g_nop (g_last (g_ret (v_make (k_p (t := .z) (v_fldP (t := tyRule) (u := .z) (g := (fun x => x.1)) fl_Rule_many (v_var (t := tyRule) (i := 0) rfl)) (k_r (t := (.tup (.tup .z))) (v_catTP (t := (.tup .z)) (v_fldP (t := tyRule) (u := (.tup (.tup .z))) (g := (fun x => x.2.2)) fl_Rule_least (v_var (t := tyRule) (i := 0) rfl)) (v_fldP (t := tyRule) (u := (.tup (.tup .z))) (g := (fun x => x.2.2)) fl_Rule_least (v_var (t := tyRule) (i := 1) rfl))) fun a324 => (k_n (km_dec (t := tyRule) rfl)))))))))) (by exact ⟨rfl, ⟨rfl, trivial⟩⟩)
noncomputable def t_Rule_invert (p_self : Int × (List Bool) × (List (List Int))) : Res (Int × (List Bool) × (List (List Int))) := ((Res.ok (((List.length p_self.2.1 : Nat) : Int) - (1 : Int))).bind fun last325 => (((rng1T ((List.length p_self.2.1 : Nat) : Int)).bind fun l329 => compT (fun (x327 : Int) => (Res.ok true)) (fun (x327 : Int) => ((ixT p_self.2.1 (last325 - x327)).bind fun a328 => Res.ok (!a328))) l329 []).bind fun book326 => ((t_least_lots p_self.1 (Ty.enc (.lst .b) book326)).bind fun a330 => (t_Rule_init p_self.1 a330))))
theorem tt_Rule_invert (p_self : Int × (List Bool) × (List (List Int))) : Rx (Ty.enc tyRule) (t_Rule_invert p_self) (d_Rule_invert [Ty.enc tyRule p_self]) :=
  f_ok (L := [.im (Ty.enc tyRule p_self), .any, .any, .any]) (by unfold t_Rule_invert m_Rule_invert; exact (g_set (t := .z) 1 (v_subP (v_opa (k_p (t := (.tup .b)) (v_fldP (t := tyRule) (u := (.tup .b)) (g := (fun x => x.2.1)) fl_Rule_book (v_var (t := tyRule) (i := 0) rfl)) (k_n (o_lenT _)))) (v_int 1)) fun last325 => (g_set (t := (.lst .b)) 2 (v_fz (t := .b) (v_lc (t := .z) (u := .b) (i_rng1 (k_p (t := .z) (v_opa (k_p (t := (.tup .b)) (v_fldP (t := tyRule) (u := (.tup .b)) (g := (fun x => x.2.1)) fl_Rule_book (v_var (t := tyRule) (i := 0) rfl)) (k_n (o_lenT _)))) (k_n (rng1_fin _)))) (tg_1 3) (fun x327 => b_yes) (fun x327 => (v_not (v_ixTP (t := .b) (v_fldP (t := tyRule) (u := (.tup .b)) (g := (fun x => x.2.1)) fl_Rule_book (v_var (t := tyRule) (i := 0) rfl)) (v_subP (v_var (t := .z) (i := 1) rfl) (v_var (t := .z) (i := 3) rfl))))))) fun book326 => (g_last (g_ret (v_make (k_p (t := .z) (v_fldP (t := tyRule) (u := .z) (g := (fun x => x.1)) fl_Rule_many (v_var (t := tyRule) (i := 0) rfl)) (k_r (t := (.tup (.tup .z))) (v_call (k_p (t := .z) (v_fldP (t := tyRule) (u := .z) (g := (fun x => x.1)) fl_Rule_many (v_var (t := tyRule) (i := 0) rfl)) (k_p (t := .raw) (v_raw (t := (.lst .b)) (v_var (t := (.lst .b)) (i := 2) rfl)) (k_n (kc_fin rfl (tt_least_lots _ _)))))) fun a330 => (k_n (km_dec (t := tyRule) rfl)))))))))) (by exact ⟨rfl, ⟨trivial, ⟨trivial, ⟨trivial, trivial⟩⟩⟩⟩)
noncomputable def t_law_joined (p_first : Int × (List Bool) × (List (List Int))) (p_second : Int × (List Bool) × (List (List Int))) (p_way : Int) : Res D := decR (Ty.raw) (d_law_joined [Ty.enc tyRule p_first, Ty.enc tyRule p_second, Ty.enc .z p_way])
theorem tt_law_joined (p_first : Int × (List Bool) × (List (List Int))) (p_second : Int × (List Bool) × (List (List Int))) (p_way : Int) : Rx (Ty.enc .raw) (t_law_joined p_first p_second p_way) (d_law_joined [Ty.enc tyRule p_first, Ty.enc tyRule p_second, Ty.enc .z p_way]) := by unfold t_law_joined; exact rx_dec (Ty.raw) (d_law_joined [Ty.enc tyRule p_first, Ty.enc tyRule p_second, Ty.enc .z p_way])
noncomputable def t_Rule_majority (p_many : Int) : Res (Int × (List Bool) × (List (List Int))) := ((((rng1T p_many).bind fun l332 => compT (fun (x331 : Int) => (Res.ok true)) (fun (x331 : Int) => (Res.ok (1 : Int))) l332 []).bind fun a333 => Res.ok a333).bind fun a336 => ((divT p_many (2 : Int)).bind fun a334 => (Res.ok (1 : Int)).bind fun a335 => Res.ok (a334 + a335)).bind fun a337 => (t_Rule_weighted a336 a337))
theorem tt_Rule_majority (p_many : Int) : Rx (Ty.enc tyRule) (t_Rule_majority p_many) (d_Rule_majority [Ty.enc .z p_many]) :=
  f_ok (L := [.im (Ty.enc .z p_many), .any]) (by unfold t_Rule_majority m_Rule_majority; exact (g_last (g_ret (v_call (k_r (t := (.tup .z)) (v_opa (k_r (t := (.lst .z)) (v_fz (t := .z) (v_lc (t := .z) (u := .z) (i_rng1 (k_p (t := .z) (v_var (t := .z) (i := 0) rfl) (k_n (rng1_fin _)))) (tg_1 1) (fun x331 => b_yes) (fun x331 => (v_int 1)))) fun a333 => (k_n (o_tupL _)))) fun a336 => (k_r (t := .z) (v_add (v_divP (v_var (t := .z) (i := 0) rfl) (v_int 2)) (v_int 1)) fun a337 => (k_n (kc_fin rfl (tt_Rule_weighted _ _))))))))) (by exact ⟨rfl, ⟨trivial, trivial⟩⟩)
noncomputable def t_law_table_n : Nat → D → Int → Res (List Bool)
  | 0, _, _ => .bad
  | n + 1, p_words, p_many => ((shlT (1 : Int) p_many).bind fun size338 => ((((rawIx p_words (0 : Int)).bind (castT (Ty.s))).bind fun a339 => (Res.ok ("weights" : Str)).bind fun a340 => (strT a339 a340)).bind fun a381 => if a381 then ((Res.ok ([(0 : Int)] : List Int)).bind fun sums341 => (((rawIx p_words (1 : Int)).bind (castT (Ty.tup .z))).bind fun l351 => (foldT (fun (s342 : (List Int)) (x343 : Int) => (((Res.ok s342).bind fun a346 => (compT (fun (x345 : Int) => (Res.ok true)) (fun (x345 : Int) => (Res.ok (x345 + x343))) s342 []).bind fun a347 => (catT a346 a347)).bind fun sums344 => (Res.ok sums344))) sums341 l351).bind fun s342 => (compT (fun (x348 : Int) => (Res.ok true)) (fun (x348 : Int) => ((Res.ok x348).bind fun a349 => ((rawIx p_words (2 : Int)).bind (castT (Ty.z))).bind fun a350 => Res.ok (decide (a350 ≤ a349)))) s342 []))) else ((((rawIx p_words (0 : Int)).bind (castT (Ty.s))).bind fun a352 => (Res.ok ("lots" : Str)).bind fun a353 => (strT a352 a353)).bind fun a380 => if a380 then ((((rawIx p_words (1 : Int)).bind (castT (Ty.tup (.tup .z)))).bind fun l356 => compT (fun (x355 : List Int) => (Res.ok true)) (fun (x355 : List Int) => (t_law_number x355)) l356 []).bind fun numbers354 => ((rng1T size338).bind fun l360 => compT (fun (x357 : Int) => (Res.ok true)) (fun (x357 : Int) => ((compT (fun (x358 : Int) => (Res.ok true)) (fun (x358 : Int) => (Res.ok (decide ((Builtin.bitAnd x357 x358) = x358)))) numbers354 []).bind fun a359 => Res.ok (List.any a359 id))) l360 [])) else (((rawIx p_words (1 : Int)).bind fun a362 => (t_law_table_n n a362 p_many)).bind fun first361 => ((((rawIx p_words (0 : Int)).bind (castT (Ty.s))).bind fun a363 => (Res.ok ("opposite" : Str)).bind fun a364 => (strT a363 a364)).bind fun a379 => if a379 then ((rng1T size338).bind fun l367 => compT (fun (x365 : Int) => (Res.ok true)) (fun (x365 : Int) => ((ixT first361 ((size338 - (1 : Int)) - x365)).bind fun a366 => Res.ok (!a366))) l367 []) else (((rawIx p_words (2 : Int)).bind fun a369 => (t_law_table_n n a369 p_many)).bind fun second368 => ((((rawIx p_words (0 : Int)).bind (castT (Ty.s))).bind fun a370 => (Res.ok ("both" : Str)).bind fun a371 => (strT a370 a371)).bind fun a378 => if a378 then ((rng1T size338).bind fun l374 => compT (fun (x372 : Int) => (Res.ok true)) (fun (x372 : Int) => ((ixT first361 x372).bind fun a373 => if a373 then (ixT second368 x372) else Res.ok false)) l374 []) else ((rng1T size338).bind fun l377 => compT (fun (x375 : Int) => (Res.ok true)) (fun (x375 : Int) => ((ixT first361 x375).bind fun a376 => if a376 then Res.ok true else (ixT second368 x375))) l377 []))))))))
theorem tt_law_table_n : ∀ (n : Nat) (p_words : D) (p_many : Int), Rx (Ty.enc (.lst .b)) (t_law_table_n n p_words p_many) (d_law_table_n n [Ty.enc .raw p_words, Ty.enc .z p_many])
  | 0, _, _ => trivial
  | n + 1, p_words, p_many => f_ok (L := [.im (Ty.enc .raw p_words), .im (Ty.enc .z p_many), .any, .any, .any, .any, .any, .any, .any, .any, .any]) (by unfold t_law_table_n m_law_table; exact (g_set (t := .z) 2 (v_shlP (v_int 1) (v_var (t := .z) (i := 1) rfl)) fun size338 => (g_if (b_tst (v_eqS (v_cast (t := .s) (v_rawIxP (v_var (t := .raw) (i := 0) rfl) (v_int 0))) (v_str "weights"))) (g_assoc (g_set (t := (.lst .z)) 3 (v_fz (t := .z) (v_mlst (k_p (t := .z) (v_int 0) (k_n (kl_fin (t := .z) (n := 1) rfl rfl (by decide)))))) fun sums341 => (g_assoc (g_for (t := .z) (E := (fun (s342 : (List Int)) => [.im (Ty.enc .raw p_words), .im (Ty.enc .z p_many), .im (Ty.enc .z size338), .im (Ty.enc (.lst .z) s342), .any, .any, .any, .any, .any, .any, .any])) (i_tup (t := .z) (v_cast (t := (.tup .z)) (v_rawIxP (v_var (t := .raw) (i := 0) rfl) (v_int 1)))) (wk_s (wk_s (wk_s (wk_s (wk_a (wk_a (wk_a (wk_a (wk_a (wk_a (wk_a wk_n))))))))))) (tg_1 4) (fun s342 x343 => (g_last (g_set (t := (.lst .z)) 3 (v_catL (t := .z) (v_var (t := (.lst .z)) (i := 3) rfl) (v_fz (t := .z) (v_lcP (t := .z) (u := .z) (i_lst (t := .z) (v_var (t := (.lst .z)) (i := 3) rfl)) (tg_1 9) (fun x345 => b_yes) (fun x345 => (v_addP (v_var (t := .z) (i := 9) rfl) (v_var (t := .z) (i := 4) rfl)))))) fun sums344 => (g_endN (wk_s (wk_s (wk_s (wk_s (wk_a (wk_a (wk_a (wk_a (wk_a (wk_a (wk_a wk_n))))))))))))))) (fun s342 => (g_ret (v_fz (t := .b) (v_lcP (t := .z) (u := .b) (i_lst (t := .z) (v_var (t := (.lst .z)) (i := 3) rfl)) (tg_1 9) (fun x348 => b_yes) (fun x348 => (v_ge (v_var (t := .z) (i := 9) rfl) (v_cast (t := .z) (v_rawIxP (v_var (t := .raw) (i := 0) rfl) (v_int 2))))))))))))) (g_nop (g_if (b_tst (v_eqS (v_cast (t := .s) (v_rawIxP (v_var (t := .raw) (i := 0) rfl) (v_int 0))) (v_str "lots"))) (g_assoc (g_set (t := (.lst .z)) 5 (v_fz (t := .z) (v_lc (t := (.tup .z)) (u := .z) (i_tup (t := (.tup .z)) (v_cast (t := (.tup (.tup .z))) (v_rawIxP (v_var (t := .raw) (i := 0) rfl) (v_int 1)))) (tg_1 10) (fun x355 => b_yes) (fun x355 => (v_call (k_p (t := (.tup .z)) (v_var (t := (.tup .z)) (i := 10) rfl) (k_n (kc_fin rfl (tt_law_number _)))))))) fun numbers354 => (g_ret (v_fz (t := .b) (v_lc (t := .z) (u := .b) (i_rng1 (k_p (t := .z) (v_var (t := .z) (i := 2) rfl) (k_n (rng1_fin _)))) (tg_1 8) (fun x357 => b_yes) (fun x357 => (v_opa (k_r (t := (.lst .b)) (v_fz (t := .b) (v_lcP (t := .z) (u := .b) (i_lst (t := .z) (v_var (t := (.lst .z)) (i := 5) rfl)) (tg_1 9) (fun x358 => b_yes) (fun x358 => (v_eqP (t := .z) rfl (v_and2P (v_var (t := .z) (i := 8) rfl) (v_var (t := .z) (i := 9) rfl)) (v_var (t := .z) (i := 9) rfl))))) fun a359 => (k_n (o_any _)))))))))) (g_nop (g_set (t := (.lst .b)) 6 (v_call (k_r (t := .raw) (v_rawIxP (v_var (t := .raw) (i := 0) rfl) (v_int 1)) fun a362 => (k_p (t := .z) (v_var (t := .z) (i := 1) rfl) (k_n (kc_fin rfl (tt_law_table_n n _ _)))))) fun first361 => (g_if (b_tst (v_eqS (v_cast (t := .s) (v_rawIxP (v_var (t := .raw) (i := 0) rfl) (v_int 0))) (v_str "opposite"))) (g_ret (v_fz (t := .b) (v_lc (t := .z) (u := .b) (i_rng1 (k_p (t := .z) (v_var (t := .z) (i := 2) rfl) (k_n (rng1_fin _)))) (tg_1 8) (fun x365 => b_yes) (fun x365 => (v_not (v_ixLP (t := .b) (v_var (t := (.lst .b)) (i := 6) rfl) (v_subP (v_subP (v_var (t := .z) (i := 2) rfl) (v_int 1)) (v_var (t := .z) (i := 8) rfl)))))))) (g_nop (g_set (t := (.lst .b)) 7 (v_call (k_r (t := .raw) (v_rawIxP (v_var (t := .raw) (i := 0) rfl) (v_int 2)) fun a369 => (k_p (t := .z) (v_var (t := .z) (i := 1) rfl) (k_n (kc_fin rfl (tt_law_table_n n _ _)))))) fun second368 => (g_if (b_tst (v_eqS (v_cast (t := .s) (v_rawIxP (v_var (t := .raw) (i := 0) rfl) (v_int 0))) (v_str "both"))) (g_ret (v_fz (t := .b) (v_lc (t := .z) (u := .b) (i_rng1 (k_p (t := .z) (v_var (t := .z) (i := 2) rfl) (k_n (rng1_fin _)))) (tg_1 8) (fun x372 => b_yes) (fun x372 => (v_and (v_ixLP (t := .b) (v_var (t := (.lst .b)) (i := 6) rfl) (v_var (t := .z) (i := 8) rfl)) (v_ixLP (t := .b) (v_var (t := (.lst .b)) (i := 7) rfl) (v_var (t := .z) (i := 8) rfl))))))) (g_nop (g_last (g_ret (v_fz (t := .b) (v_lc (t := .z) (u := .b) (i_rng1 (k_p (t := .z) (v_var (t := .z) (i := 2) rfl) (k_n (rng1_fin _)))) (tg_1 8) (fun x375 => b_yes) (fun x375 => (v_or (v_ixLP (t := .b) (v_var (t := (.lst .b)) (i := 6) rfl) (v_var (t := .z) (i := 8) rfl)) (v_ixLP (t := .b) (v_var (t := (.lst .b)) (i := 7) rfl) (v_var (t := .z) (i := 8) rfl)))))))))))))))))))) (by exact ⟨rfl, ⟨rfl, ⟨trivial, ⟨trivial, ⟨trivial, ⟨trivial, ⟨trivial, ⟨trivial, ⟨trivial, ⟨trivial, ⟨trivial, trivial⟩⟩⟩⟩⟩⟩⟩⟩⟩⟩⟩)
noncomputable def t_law_table (p_words : D) (p_many : Int) : Res (List Bool) := t_law_table_n 5 p_words p_many
theorem tt_law_table (p_words : D) (p_many : Int) : Rx (Ty.enc (.lst .b)) (t_law_table p_words p_many) (d_law_table [Ty.enc .raw p_words, Ty.enc .z p_many]) := tt_law_table_n 5 p_words p_many
noncomputable def t_law_kept_apart (p_first : Int × (List Bool) × (List (List Int))) (p_second : Int × (List Bool) × (List (List Int))) (p_many : Int) (p_other : Int) : Res Bool := ((rng1T (2 : Int)).bind fun l404 => (loopT (fun (s382 : Unit) (x383 : Int) => (((t_law_joined p_first p_second x383).bind fun told384 => (((((rawIx told384 (0 : Int)).bind (castT (Ty.s))).bind fun a385 => (Res.ok ("differ" : Str)).bind fun a386 => (strNT a385 a386)).bind fun a392 => if a392 then Res.ok true else (((((rawIx told384 (1 : Int)).bind (castT (Ty.z))).bind fun a387 => (t_law_whole a387)).bind fun a388 => Res.ok (!a388)).bind fun a391 => if a391 then Res.ok true else ((((rawIx told384 (2 : Int)).bind (castT (Ty.z))).bind fun a389 => (t_law_whole a389)).bind fun a390 => Res.ok (!a390)))).bind fun a399 => if a399 then (Res.ok (Stp.rt false)) else (((((rawIx told384 (1 : Int)).bind (castT (Ty.z))).bind fun a393 => (Res.ok p_many).bind fun a394 => Res.ok (!decide (a393 = a394))).bind fun a397 => if a397 then Res.ok true else (((rawIx told384 (2 : Int)).bind (castT (Ty.z))).bind fun a395 => (Res.ok p_other).bind fun a396 => Res.ok (!decide (a395 = a396)))).bind fun a398 => if a398 then (Res.ok (Stp.rt false)) else (Res.ok (Stp.nx ()))))) : Res (Stp (Unit) Bool))) () l404).bind (Stp.out (fun s382 => (((Res.ok p_first).bind fun a400 => (Res.ok p_second).bind fun a401 => noEr (t_Rule_eq a400 a401)).bind fun a402 => (Res.ok false).bind fun a403 => Res.ok (decide (a402 = a403)))) Res.ok))
theorem tt_law_kept_apart (p_first : Int × (List Bool) × (List (List Int))) (p_second : Int × (List Bool) × (List (List Int))) (p_many : Int) (p_other : Int) : Rx (Ty.enc .b) (t_law_kept_apart p_first p_second p_many p_other) (d_law_kept_apart [Ty.enc tyRule p_first, Ty.enc tyRule p_second, Ty.enc .z p_many, Ty.enc .z p_other]) :=
  f_ok (L := [.im (Ty.enc tyRule p_first), .im (Ty.enc tyRule p_second), .im (Ty.enc .z p_many), .im (Ty.enc .z p_other), .any, .any]) (by unfold t_law_kept_apart m_law_kept_apart; exact (g_loop (t := .z) (E := (fun (s382 : Unit) => [.im (Ty.enc tyRule p_first), .im (Ty.enc tyRule p_second), .im (Ty.enc .z p_many), .im (Ty.enc .z p_other), .any, .any])) (enc := (Ty.enc .b)) hr_R (i_rng1 (k_p (t := .z) (v_int 2) (k_n (rng1_fin _)))) (wk_s (wk_s (wk_s (wk_s (wk_a (wk_a wk_n)))))) (tg_1 4) (fun s382 x383 => (g_set (t := .raw) 5 (v_call (k_p (t := tyRule) (v_var (t := tyRule) (i := 0) rfl) (k_p (t := tyRule) (v_var (t := tyRule) (i := 1) rfl) (k_p (t := .z) (v_var (t := .z) (i := 4) rfl) (k_n (kc_fin rfl (tt_law_joined _ _ _))))))) fun told384 => (g_if (b_or (b_tst (v_neS (v_cast (t := .s) (v_rawIxP (v_var (t := .raw) (i := 5) rfl) (v_int 0))) (v_str "differ"))) (b_or (b_not (b_truB (v_call (k_r (t := .z) (v_cast (t := .z) (v_rawIxP (v_var (t := .raw) (i := 5) rfl) (v_int 1))) fun a387 => (k_n (kc_fin rfl (tt_law_whole _))))))) (b_not (b_truB (v_call (k_r (t := .z) (v_cast (t := .z) (v_rawIxP (v_var (t := .raw) (i := 5) rfl) (v_int 2))) fun a389 => (k_n (kc_fin rfl (tt_law_whole _))))))))) (g_retSP (v_bl false)) (g_nop (g_last (g_if (b_or (b_tst (v_ne (t := .z) rfl (v_cast (t := .z) (v_rawIxP (v_var (t := .raw) (i := 5) rfl) (v_int 1))) (v_var (t := .z) (i := 2) rfl))) (b_tst (v_ne (t := .z) rfl (v_cast (t := .z) (v_rawIxP (v_var (t := .raw) (i := 5) rfl) (v_int 2))) (v_var (t := .z) (i := 3) rfl)))) (g_retSP (v_bl false)) (g_nop (g_endS (wk_s (wk_s (wk_s (wk_s (wk_a (wk_a wk_n)))))))))))))) (fun s382 => (g_last (g_ret (v_isB (v_eqX (t := (.pr .z (.pr (.tup .b) (.tup (.tup .z))))) (fun x y => tt_Rule_eq x y) (v_var (t := tyRule) (i := 0) rfl) (v_var (t := tyRule) (i := 1) rfl)) (v_bl false))))))) (by exact ⟨rfl, ⟨rfl, ⟨rfl, ⟨rfl, ⟨trivial, ⟨trivial, trivial⟩⟩⟩⟩⟩⟩)
noncomputable def t_law_rule_n : Nat → D → Int → Res (Int × (List Bool) × (List (List Int)))
  | 0, _, _ => .bad
  | n + 1, p_words, p_many => ((((rawIx p_words (0 : Int)).bind (castT (Ty.s))).bind fun a405 => (Res.ok ("weights" : Str)).bind fun a406 => (strT a405 a406)).bind fun a423 => if a423 then (((rawIx p_words (1 : Int)).bind (castT (Ty.tup .z))).bind fun a407 => ((rawIx p_words (2 : Int)).bind (castT (Ty.z))).bind fun a408 => (t_Rule_weighted a407 a408)) else ((((rawIx p_words (0 : Int)).bind (castT (Ty.s))).bind fun a409 => (Res.ok ("lots" : Str)).bind fun a410 => (strT a409 a410)).bind fun a422 => if a422 then (((rawIx p_words (1 : Int)).bind (castT (Ty.tup (.tup .z)))).bind fun a411 => (t_Rule_init p_many a411)) else (((rawIx p_words (1 : Int)).bind fun a413 => (t_law_rule_n n a413 p_many)).bind fun first412 => ((((rawIx p_words (0 : Int)).bind (castT (Ty.s))).bind fun a414 => (Res.ok ("opposite" : Str)).bind fun a415 => (strT a414 a415)).bind fun a421 => if a421 then (t_Rule_invert first412) else (((rawIx p_words (2 : Int)).bind fun a417 => (t_law_rule_n n a417 p_many)).bind fun second416 => ((((rawIx p_words (0 : Int)).bind (castT (Ty.s))).bind fun a418 => (Res.ok ("both" : Str)).bind fun a419 => (strT a418 a419)).bind fun a420 => if a420 then (t_Rule_and first412 second416) else (t_Rule_or first412 second416)))))))
theorem tt_law_rule_n : ∀ (n : Nat) (p_words : D) (p_many : Int), Rx (Ty.enc tyRule) (t_law_rule_n n p_words p_many) (d_law_rule_n n [Ty.enc .raw p_words, Ty.enc .z p_many])
  | 0, _, _ => trivial
  | n + 1, p_words, p_many => f_ok (L := [.im (Ty.enc .raw p_words), .im (Ty.enc .z p_many), .any, .any]) (by unfold t_law_rule_n m_law_rule; exact (g_if (b_tst (v_eqS (v_cast (t := .s) (v_rawIxP (v_var (t := .raw) (i := 0) rfl) (v_int 0))) (v_str "weights"))) (g_ret (v_call (k_r (t := (.tup .z)) (v_cast (t := (.tup .z)) (v_rawIxP (v_var (t := .raw) (i := 0) rfl) (v_int 1))) fun a407 => (k_r (t := .z) (v_cast (t := .z) (v_rawIxP (v_var (t := .raw) (i := 0) rfl) (v_int 2))) fun a408 => (k_n (kc_fin rfl (tt_Rule_weighted _ _))))))) (g_nop (g_if (b_tst (v_eqS (v_cast (t := .s) (v_rawIxP (v_var (t := .raw) (i := 0) rfl) (v_int 0))) (v_str "lots"))) (g_ret (v_make (k_p (t := .z) (v_var (t := .z) (i := 1) rfl) (k_r (t := (.tup (.tup .z))) (v_cast (t := (.tup (.tup .z))) (v_rawIxP (v_var (t := .raw) (i := 0) rfl) (v_int 1))) fun a411 => (k_n (km_dec (t := tyRule) rfl)))))) (g_nop (g_set (t := tyRule) 2 (v_call (k_r (t := .raw) (v_rawIxP (v_var (t := .raw) (i := 0) rfl) (v_int 1)) fun a413 => (k_p (t := .z) (v_var (t := .z) (i := 1) rfl) (k_n (kc_fin rfl (tt_law_rule_n n _ _)))))) fun first412 => (g_if (b_tst (v_eqS (v_cast (t := .s) (v_rawIxP (v_var (t := .raw) (i := 0) rfl) (v_int 0))) (v_str "opposite"))) (g_ret (v_own1P (t := (.pr .z (.pr (.tup .b) (.tup (.tup .z))))) (fun x => tt_Rule_invert x) (v_var (t := tyRule) (i := 2) rfl))) (g_nop (g_set (t := tyRule) 3 (v_call (k_r (t := .raw) (v_rawIxP (v_var (t := .raw) (i := 0) rfl) (v_int 2)) fun a417 => (k_p (t := .z) (v_var (t := .z) (i := 1) rfl) (k_n (kc_fin rfl (tt_law_rule_n n _ _)))))) fun second416 => (g_if (b_tst (v_eqS (v_cast (t := .s) (v_rawIxP (v_var (t := .raw) (i := 0) rfl) (v_int 0))) (v_str "both"))) (g_ret (v_own2P (t := (.pr .z (.pr (.tup .b) (.tup (.tup .z))))) (fun x y => tt_Rule_and x y) (v_var (t := tyRule) (i := 2) rfl) (v_var (t := tyRule) (i := 3) rfl))) (g_nop (g_last (g_ret (v_own2P (t := (.pr .z (.pr (.tup .b) (.tup (.tup .z))))) (fun x y => tt_Rule_or x y) (v_var (t := tyRule) (i := 2) rfl) (v_var (t := tyRule) (i := 3) rfl))))))))))))))) (by exact ⟨rfl, ⟨rfl, ⟨trivial, ⟨trivial, trivial⟩⟩⟩⟩)
noncomputable def t_law_rule (p_words : D) (p_many : Int) : Res (Int × (List Bool) × (List (List Int))) := t_law_rule_n 5 p_words p_many
theorem tt_law_rule (p_words : D) (p_many : Int) : Rx (Ty.enc tyRule) (t_law_rule p_words p_many) (d_law_rule [Ty.enc .raw p_words, Ty.enc .z p_many]) := tt_law_rule_n 5 p_words p_many
noncomputable def t_law (p_script : List Int) : Res Bool := ((((((Res.ok ([(18 : Int), (1000 : Int)] : List Int)).bind fun a425 => (repLT ([(31 : Int)] : List Int) (9 : Int)).bind fun a426 => (catT a425 a426)).bind fun a427 => (repLT ([(512 : Int)] : List Int) (3 : Int)).bind fun a428 => (catT a427 a428)).bind fun a429 => (Res.ok ([(126 : Int)] : List Int)).bind fun a430 => (catT a429 a430)).bind fun a431 => (repLT ([(511 : Int)] : List Int) (126 : Int)).bind fun a432 => (catT a431 a432)).bind fun sizes424 => ((rng1T (2 : Int)).bind fun l624 => (loopT (fun (s433 : Unit) (x434 : Int) => ((((((mulT (4 : Int) x434).bind fun a436 => (Res.ok (3 : Int)).bind fun a437 => Res.ok (a436 + a437)).bind fun a438 => (t_law_cell p_script a438)).bind fun a439 => (t_law_digits a439 ([(9 : Int), (8 : Int), (4 : Int), (512 : Int), (512 : Int), (512 : Int), (512 : Int)] : List Int))).bind fun row435 => (((ixT ([([(5 : Int), (7 : Int), (3 : Int), (4 : Int), (6 : Int), (8 : Int), (9 : Int), (2 : Int), (1 : Int)] : List Int), ([(4 : Int), (5 : Int), (3 : Int), (6 : Int), (2 : Int), (4 : Int), (5 : Int), (3 : Int), (1 : Int)] : List Int)] : List (List Int)) x434).bind fun a441 => (ixT row435 (0 : Int)).bind fun a442 => (ixT a441 a442)).bind fun many440 => (((shlT (1 : Int) many440).bind fun a444 => (Res.ok (1 : Int)).bind fun a445 => Res.ok (a444 - a445)).bind fun last443 => (((rng1T (last443 + (1 : Int))).bind fun l448 => compT (fun (x447 : Int) => (Res.ok true)) (fun (x447 : Int) => (t_law_voters x447 many440)) l448 []).bind fun lots446 => (((rng1T (3 : Int)).bind fun l456 => compT (fun (x450 : Int) => (Res.ok true)) (fun (x450 : Int) => (((((mulT (4 : Int) x434).bind fun a451 => (Res.ok x450).bind fun a452 => Res.ok (a451 + a452)).bind fun a453 => (t_law_cell p_script a453)).bind fun a454 => (t_law_digits a454 sizes424)).bind fun a455 => (t_law_any a455 many440))) l456 []).bind fun words449 => (((ixT words449 (0 : Int)).bind fun a458 => (t_law_table a458 many440)).bind fun first457 => (((ixT words449 (1 : Int)).bind fun a460 => (t_law_table a460 many440)).bind fun second459 => (((ixT words449 (2 : Int)).bind fun a462 => (t_law_table a462 many440)).bind fun third461 => ((compT (fun (x464 : D) => (Res.ok true)) (fun (x464 : D) => (t_law_rule x464 many440)) words449 []).bind fun rules463 => ((ixT rules463 (0 : Int)).bind fun one465 => ((ixT rules463 (1 : Int)).bind fun two466 => ((ixT rules463 (2 : Int)).bind fun three467 => ((t_law_least first457 many440).bind fun least468 => (((((ixT row435 (2 : Int)).bind fun a470 => Res.ok a470).bind fun a471 => (rng1T a471)).bind fun l480 => compT (fun (x472 : Int) => (Res.ok true)) (fun (x472 : Int) => ((((ixT least468 (0 : Int)).bind fun a473 => (t_law_number a473)).bind fun a477 => (((ixT row435 ((3 : Int) + x472)).bind fun a474 => Res.ok a474).bind fun a475 => (Res.ok last443).bind fun a476 => Res.ok (Builtin.bitAnd a475 a476)).bind fun a478 => Res.ok (Builtin.bitOr a477 a478)).bind fun a479 => (t_law_voters a479 many440))) l480 []).bind fun greater469 => (((ixT row435 (6 : Int)).bind fun a482 => (t_law_near first457 many440 a482)).bind fun near481 => (((Res.ok rules463).bind fun a495 => ((t_Rule_and one465 two466).bind fun a490 => (t_Rule_or one465 two466).bind fun a491 => (t_Rule_invert one465).bind fun a492 => (((t_Rule_and one465 two466).bind fun a484 => (t_Rule_and two466 three467).bind fun a485 => t_Rule_or a484 a485).bind fun a486 => (t_Rule_and one465 three467).bind fun a487 => t_Rule_or a486 a487).bind fun a493 => ((t_Rule_or one465 two466).bind fun a488 => (t_Rule_invert three467).bind fun a489 => t_Rule_and a488 a489).bind fun a494 => Res.ok ([a490, a491, a492, a493, a494] : List (Int × (List Bool) × (List (List Int))))).bind fun a496 => (catT a495 a496)).bind fun rules483 => (((Res.ok rules483).bind fun a506 => (((t_Rule_and two466 one465).bind fun a498 => t_Rule_invert a498).bind fun a502 => ((t_Rule_invert one465).bind fun a499 => t_Rule_invert a499).bind fun a503 => ((catT greater469 (List.reverse least468)).bind fun a500 => (t_Rule_init many440 a500)).bind fun a504 => ((t_law_least near481 many440).bind fun a501 => (t_Rule_init many440 a501)).bind fun a505 => Res.ok ([a502, a503, a504, a505] : List (Int × (List Bool) × (List (List Int))))).bind fun a507 => (catT a506 a507)).bind fun rules497 => ((Res.ok ([first457, second459, third461] : List (List Bool))).bind fun tables508 => (((rng1T (last443 + (1 : Int))).bind fun l511 => compT (fun (x509 : Int) => (Res.ok true)) (fun (x509 : Int) => ((ixT first457 x509).bind fun a510 => if a510 then (ixT second459 x509) else Res.ok false)) l511 []).bind fun a623 => (appT tables508 a623).bind fun tables512 => (((rng1T (last443 + (1 : Int))).bind fun l515 => compT (fun (x513 : Int) => (Res.ok true)) (fun (x513 : Int) => ((ixT first457 x513).bind fun a514 => if a514 then Res.ok true else (ixT second459 x513))) l515 []).bind fun a622 => (appT tables512 a622).bind fun tables516 => (((rng1T (last443 + (1 : Int))).bind fun l519 => compT (fun (x517 : Int) => (Res.ok true)) (fun (x517 : Int) => ((ixT first457 (last443 - x517)).bind fun a518 => Res.ok (!a518))) l519 []).bind fun a621 => (appT tables516 a621).bind fun tables520 => (((rng1T (last443 + (1 : Int))).bind fun l531 => compT (fun (x521 : Int) => (Res.ok true)) (fun (x521 : Int) => (((((ixT first457 x521).bind fun a522 => Res.ok (if a522 then (1 : Int) else 0)).bind fun a524 => ((ixT second459 x521).bind fun a523 => Res.ok (if a523 then (1 : Int) else 0)).bind fun a525 => Res.ok (a524 + a525)).bind fun a527 => ((ixT third461 x521).bind fun a526 => Res.ok (if a526 then (1 : Int) else 0)).bind fun a528 => Res.ok (a527 + a528)).bind fun a529 => (Res.ok (2 : Int)).bind fun a530 => Res.ok (decide (a530 ≤ a529)))) l531 []).bind fun a620 => (appT tables520 a620).bind fun tables532 => (((rng1T (last443 + (1 : Int))).bind fun l537 => compT (fun (x533 : Int) => (Res.ok true)) (fun (x533 : Int) => (((ixT first457 x533).bind fun a534 => if a534 then Res.ok true else (ixT second459 x533)).bind fun a536 => if a536 then ((ixT third461 (last443 - x533)).bind fun a535 => Res.ok (!a535)) else Res.ok false)) l537 []).bind fun a619 => (appT tables532 a619).bind fun tables538 => (((rng1T (last443 + (1 : Int))).bind fun l542 => compT (fun (x539 : Int) => (Res.ok true)) (fun (x539 : Int) => (((ixT first457 (last443 - x539)).bind fun a540 => if a540 then (ixT second459 (last443 - x539)) else Res.ok false).bind fun a541 => Res.ok (!a541))) l542 []).bind fun a618 => (appT tables538 a618).bind fun tables543 => ((catT tables543 ([first457, first457, near481] : List (List Bool))).bind fun tables544 => ((rng1T ((List.length rules497 : Nat) : Int)).bind fun l617 => (loopT (fun (s545 : Unit) (x546 : Int) => (((((ixT rules497 x546).bind fun a547 => (ixT tables544 x546).bind fun a548 => (t_law_as_told a547 lots446 a548)).bind fun a549 => Res.ok (!a549)).bind fun a550 => if a550 then (Res.ok (Stp.rt false)) else (Res.ok (Stp.nx ()))) : Res (Stp (Unit) Bool))) () l617).bind (Stp.out (fun s545 => ((rng1T ((List.length rules497 : Nat) : Int)).bind fun l616 => (loopT (fun (s551 : Unit) (x552 : Int) => (((rng1T ((List.length rules497 : Nat) : Int)).bind fun l566 => (loopT (fun (s553 : Unit) (x554 : Int) => ((((ixT rules497 x552).bind fun a556 => (ixT rules497 x554).bind fun a557 => noEr (t_Rule_eq a556 a557)).bind fun told555 => (((((ixT tables544 x552).bind fun a558 => (ixT tables544 x554).bind fun a559 => Res.ok (decide (a558 = a559))).bind fun a560 => if a560 then (Res.ok (!decide (told555 = true))) else Res.ok false).bind fun a564 => if a564 then Res.ok true else (((ixT tables544 x552).bind fun a561 => (ixT tables544 x554).bind fun a562 => Res.ok (!decide (a561 = a562))).bind fun a563 => if a563 then (Res.ok (!decide (told555 = false))) else Res.ok false)).bind fun a565 => if a565 then (Res.ok (Stp.rt false)) else (Res.ok (Stp.nx ())))) : Res (Stp (Unit) Bool))) () l566).bind (Stp.out (fun s553 => (Res.ok (Stp.nx ()))) (fun r => Res.ok (Stp.rt r)))) : Res (Stp (Unit) Bool))) () l616).bind (Stp.out (fun s551 => (((Res.ok (1 : Int)).bind fun a574 => ((((Res.ok many440).bind fun a569 => ((ixT row435 (1 : Int)).bind fun a568 => Res.ok a568).bind fun a570 => Res.ok (a569 + a570)).bind fun a571 => Res.ok a571).bind fun a572 => (Res.ok (9 : Int)).bind fun a573 => (modT a572 a573)).bind fun a575 => Res.ok (a574 + a575)).bind fun number567 => ((t_Rule_majority number567).bind fun other576 => ((((t_law_kept_apart one465 other576 many440 number567).bind fun a577 => Res.ok (!a577)).bind fun a579 => if a579 then Res.ok true else ((t_law_kept_apart other576 one465 number567 many440).bind fun a578 => Res.ok (!a578))).bind fun a615 => if a615 then (Res.ok (Stp.rt false)) else (if (decide (many440 < (9 : Int))) then ((t_Rule_init (many440 + (1 : Int)) least468).bind fun wide580 => ((((t_law_kept_apart one465 wide580 many440 (many440 + (1 : Int))).bind fun a581 => Res.ok (!a581)).bind fun a583 => if a583 then Res.ok true else ((t_law_kept_apart wide580 one465 (many440 + (1 : Int)) many440).bind fun a582 => Res.ok (!a582))).bind fun a599 => if a599 then (Res.ok (Stp.rt false)) else ((loopT (fun (s584 : Unit) (x585 : D) => (((((Res.ok one465).bind fun a586 => (Res.ok x585).bind fun a587 => if okY 5 a587 = true then noEr (t_Rule_eq_raw a586 a587) else .bad).bind fun a588 => (Res.ok false).bind fun a589 => Res.ok (!decide (a588 = a589))).bind fun a590 => if a590 then (Res.ok (Stp.rt false)) else (Res.ok (Stp.nx ()))) : Res (Stp (Unit) Bool))) () ([(Ty.enc .n ()), (Ty.enc .z many440), (Ty.enc .z (0 : Int)), (Ty.enc .z (1 : Int)), (Ty.enc .b true), (Ty.enc .s ("rule" : Str)), (D.tup []), (Ty.enc (.tup (.tup .z)) least468), (D.tup [(Ty.enc .z many440), (Ty.enc (.tup (.tup .z)) least468)])] : List D)).bind (Stp.out (fun s584 => ((rng1T (3 : Int)).bind fun l597 => (loopT (fun (s591 : Unit) (x592 : Int) => (((((ixT rules497 x592).bind fun a593 => (ixT tables544 x592).bind fun a594 => (t_law_as_told a593 lots446 a594)).bind fun a595 => Res.ok (!a595)).bind fun a596 => if a596 then (Res.ok (Stp.rt false)) else (Res.ok (Stp.nx ()))) : Res (Stp (Unit) Bool))) () l597).bind (Stp.out (fun s591 => (Res.ok (Stp.nx ()))) (fun r => Res.ok (Stp.rt r))))) (fun r => Res.ok (Stp.rt r)))))) else ((loopT (fun (s600 : Unit) (x601 : D) => (((((Res.ok one465).bind fun a602 => (Res.ok x601).bind fun a603 => if okY 5 a603 = true then noEr (t_Rule_eq_raw a602 a603) else .bad).bind fun a604 => (Res.ok false).bind fun a605 => Res.ok (!decide (a604 = a605))).bind fun a606 => if a606 then (Res.ok (Stp.rt false)) else (Res.ok (Stp.nx ()))) : Res (Stp (Unit) Bool))) () ([(Ty.enc .n ()), (Ty.enc .z many440), (Ty.enc .z (0 : Int)), (Ty.enc .z (1 : Int)), (Ty.enc .b true), (Ty.enc .s ("rule" : Str)), (D.tup []), (Ty.enc (.tup (.tup .z)) least468), (D.tup [(Ty.enc .z many440), (Ty.enc (.tup (.tup .z)) least468)])] : List D)).bind (Stp.out (fun s600 => ((rng1T (3 : Int)).bind fun l613 => (loopT (fun (s607 : Unit) (x608 : Int) => (((((ixT rules497 x608).bind fun a609 => (ixT tables544 x608).bind fun a610 => (t_law_as_told a609 lots446 a610)).bind fun a611 => Res.ok (!a611)).bind fun a612 => if a612 then (Res.ok (Stp.rt false)) else (Res.ok (Stp.nx ()))) : Res (Stp (Unit) Bool))) () l613).bind (Stp.out (fun s607 => (Res.ok (Stp.nx ()))) (fun r => Res.ok (Stp.rt r))))) (fun r => Res.ok (Stp.rt r))))))))) (fun r => Res.ok (Stp.rt r))))) (fun r => Res.ok (Stp.rt r))))))))))))))))))))))))))))) : Res (Stp (Unit) Bool))) () l624).bind (Stp.out (fun s433 => (Res.ok true)) Res.ok)))
theorem tt_law (p_script : List Int) : Rx (Ty.enc .b) (t_law p_script) (d_law [Ty.enc .scr p_script]) :=
  f_ok (L := [.im (Ty.enc .scr p_script), .any, .any, .any, .any, .any, .any, .any, .any, .any, .any, .any, .any, .any, .any, .any, .any, .any, .any, .any, .any, .any, .any, .any, .any, .any, .any]) (by unfold t_law m_law; exact (g_set (t := (.lst .z)) 1 (v_catL (t := .z) (v_catL (t := .z) (v_catL (t := .z) (v_catL (t := .z) (v_fz (t := .z) (v_mlst (k_p (t := .z) (v_int 18) (k_p (t := .z) (v_int 1000) (k_n (kl_fin (t := .z) (n := 2) rfl rfl (by decide))))))) (v_repLP (t := .z) (v_fz (t := .z) (v_mlst (k_p (t := .z) (v_int 31) (k_n (kl_fin (t := .z) (n := 1) rfl rfl (by decide)))))) (v_int 9))) (v_repLP (t := .z) (v_fz (t := .z) (v_mlst (k_p (t := .z) (v_int 512) (k_n (kl_fin (t := .z) (n := 1) rfl rfl (by decide)))))) (v_int 3))) (v_fz (t := .z) (v_mlst (k_p (t := .z) (v_int 126) (k_n (kl_fin (t := .z) (n := 1) rfl rfl (by decide))))))) (v_repLP (t := .z) (v_fz (t := .z) (v_mlst (k_p (t := .z) (v_int 511) (k_n (kl_fin (t := .z) (n := 1) rfl rfl (by decide)))))) (v_int 126))) fun sizes424 => (g_norm (L' := [.im (Ty.enc .scr p_script), .im (Ty.enc (.lst .z) sizes424), .any, .any, .any, .any, .any, .any, .any, .any, .any, .any, .any, .any, .any, .any, .any, .any, .any, .any, .any, .any, .any, .any, .any, .any, .any]) (wk_s (wk_s (wk_a (wk_a (wk_a (wk_a (wk_a (wk_a (wk_a (wk_a (wk_a (wk_a (wk_a (wk_a (wk_a (wk_a (wk_a (wk_a (wk_a (wk_a (wk_a (wk_a (wk_a (wk_a (wk_a (wk_a (wk_a wk_n))))))))))))))))))))))))))) (g_loop (t := .z) (E := (fun (s433 : Unit) => [.im (Ty.enc .scr p_script), .im (Ty.enc (.lst .z) sizes424), .any, .any, .any, .any, .any, .any, .any, .any, .any, .any, .any, .any, .any, .any, .any, .any, .any, .any, .any, .any, .any, .any, .any, .any, .any])) (enc := (Ty.enc .b)) hr_R (i_rng1 (k_p (t := .z) (v_int 2) (k_n (rng1_fin _)))) (wk_s (wk_s (wk_a (wk_a (wk_a (wk_a (wk_a (wk_a (wk_a (wk_a (wk_a (wk_a (wk_a (wk_a (wk_a (wk_a (wk_a (wk_a (wk_a (wk_a (wk_a (wk_a (wk_a (wk_a (wk_a (wk_a (wk_a wk_n))))))))))))))))))))))))))) (tg_1 2) (fun s433 x434 => (g_set (t := (.lst .z)) 3 (v_call (k_r (t := .z) (v_call (k_p (t := .scr) (v_var (t := .scr) (i := 0) rfl) (k_r (t := .z) (v_add (v_mulP (v_int 4) (v_var (t := .z) (i := 2) rfl)) (v_int 3)) fun a438 => (k_n (kc_fin rfl (tt_law_cell _ _)))))) fun a439 => (k_p (t := (.lst .z)) (v_fz (t := .z) (v_mlst (k_p (t := .z) (v_int 9) (k_p (t := .z) (v_int 8) (k_p (t := .z) (v_int 4) (k_p (t := .z) (v_int 512) (k_p (t := .z) (v_int 512) (k_p (t := .z) (v_int 512) (k_p (t := .z) (v_int 512) (k_n (kl_fin (t := .z) (n := 7) rfl rfl (by decide)))))))))))) (k_n (kc_fin rfl (tt_law_digits _ _)))))) fun row435 => (g_norm (L' := [.im (Ty.enc .scr p_script), .im (Ty.enc (.lst .z) sizes424), .im (Ty.enc .z x434), .im (Ty.enc (.lst .z) row435), .any, .any, .any, .any, .any, .any, .any, .any, .any, .any, .any, .any, .any, .any, .any, .any, .any, .any, .any, .any, .any, .any, .any]) (wk_s (wk_s (wk_s (wk_s (wk_a (wk_a (wk_a (wk_a (wk_a (wk_a (wk_a (wk_a (wk_a (wk_a (wk_a (wk_a (wk_a (wk_a (wk_a (wk_a (wk_a (wk_a (wk_a (wk_a (wk_a (wk_a (wk_a wk_n))))))))))))))))))))))))))) (g_set (t := .z) 4 (v_ixL (t := .z) (v_ixLP (t := (.lst .z)) (v_fz (t := (.lst .z)) (v_mlst (k_p (t := (.lst .z)) (v_fz (t := .z) (v_mlst (k_p (t := .z) (v_int 5) (k_p (t := .z) (v_int 7) (k_p (t := .z) (v_int 3) (k_p (t := .z) (v_int 4) (k_p (t := .z) (v_int 6) (k_p (t := .z) (v_int 8) (k_p (t := .z) (v_int 9) (k_p (t := .z) (v_int 2) (k_p (t := .z) (v_int 1) (k_n (kl_fin (t := .z) (n := 9) rfl rfl (by decide)))))))))))))) (k_p (t := (.lst .z)) (v_fz (t := .z) (v_mlst (k_p (t := .z) (v_int 4) (k_p (t := .z) (v_int 5) (k_p (t := .z) (v_int 3) (k_p (t := .z) (v_int 6) (k_p (t := .z) (v_int 2) (k_p (t := .z) (v_int 4) (k_p (t := .z) (v_int 5) (k_p (t := .z) (v_int 3) (k_p (t := .z) (v_int 1) (k_n (kl_fin (t := .z) (n := 9) rfl rfl (by decide)))))))))))))) (k_n (kl_fin (t := (.lst .z)) (n := 2) rfl rfl (by decide))))))) (v_var (t := .z) (i := 2) rfl)) (v_ixLP (t := .z) (v_var (t := (.lst .z)) (i := 3) rfl) (v_int 0))) fun many440 => (g_norm (L' := [.im (Ty.enc .scr p_script), .im (Ty.enc (.lst .z) sizes424), .im (Ty.enc .z x434), .im (Ty.enc (.lst .z) row435), .im (Ty.enc .z many440), .any, .any, .any, .any, .any, .any, .any, .any, .any, .any, .any, .any, .any, .any, .any, .any, .any, .any, .any, .any, .any, .any]) (wk_s (wk_s (wk_s (wk_s (wk_s (wk_a (wk_a (wk_a (wk_a (wk_a (wk_a (wk_a (wk_a (wk_a (wk_a (wk_a (wk_a (wk_a (wk_a (wk_a (wk_a (wk_a (wk_a (wk_a (wk_a (wk_a (wk_a wk_n))))))))))))))))))))))))))) (g_set (t := .z) 5 (v_sub (v_shlP (v_int 1) (v_var (t := .z) (i := 4) rfl)) (v_int 1)) fun last443 => (g_norm (L' := [.im (Ty.enc .scr p_script), .im (Ty.enc (.lst .z) sizes424), .im (Ty.enc .z x434), .im (Ty.enc (.lst .z) row435), .im (Ty.enc .z many440), .im (Ty.enc .z last443), .any, .any, .any, .any, .any, .any, .any, .any, .any, .any, .any, .any, .any, .any, .any, .any, .any, .any, .any, .any, .any]) (wk_s (wk_s (wk_s (wk_s (wk_s (wk_s (wk_a (wk_a (wk_a (wk_a (wk_a (wk_a (wk_a (wk_a (wk_a (wk_a (wk_a (wk_a (wk_a (wk_a (wk_a (wk_a (wk_a (wk_a (wk_a (wk_a (wk_a wk_n))))))))))))))))))))))))))) (g_set (t := (.lst (.tup .z))) 7 (v_fz (t := (.tup .z)) (v_lc (t := .z) (u := (.tup .z)) (i_rng1 (k_p (t := .z) (v_addP (v_var (t := .z) (i := 5) rfl) (v_int 1)) (k_n (rng1_fin _)))) (tg_1 6) (fun x447 => b_yes) (fun x447 => (v_call (k_p (t := .z) (v_var (t := .z) (i := 6) rfl) (k_p (t := .z) (v_var (t := .z) (i := 4) rfl) (k_n (kc_fin rfl (tt_law_voters _ _))))))))) fun lots446 => (g_norm (L' := [.im (Ty.enc .scr p_script), .im (Ty.enc (.lst .z) sizes424), .im (Ty.enc .z x434), .im (Ty.enc (.lst .z) row435), .im (Ty.enc .z many440), .im (Ty.enc .z last443), .any, .im (Ty.enc (.lst (.tup .z)) lots446), .any, .any, .any, .any, .any, .any, .any, .any, .any, .any, .any, .any, .any, .any, .any, .any, .any, .any, .any]) (wk_s (wk_s (wk_s (wk_s (wk_s (wk_s (wk_a (wk_s (wk_a (wk_a (wk_a (wk_a (wk_a (wk_a (wk_a (wk_a (wk_a (wk_a (wk_a (wk_a (wk_a (wk_a (wk_a (wk_a (wk_a (wk_a (wk_a wk_n))))))))))))))))))))))))))) (g_set (t := (.lst .raw)) 9 (v_fz (t := .raw) (v_lc (t := .z) (u := .raw) (i_rng1 (k_p (t := .z) (v_int 3) (k_n (rng1_fin _)))) (tg_1 8) (fun x450 => b_yes) (fun x450 => (v_call (k_r (t := (.lst .z)) (v_call (k_r (t := .z) (v_call (k_p (t := .scr) (v_var (t := .scr) (i := 0) rfl) (k_r (t := .z) (v_add (v_mulP (v_int 4) (v_var (t := .z) (i := 2) rfl)) (v_var (t := .z) (i := 8) rfl)) fun a453 => (k_n (kc_fin rfl (tt_law_cell _ _)))))) fun a454 => (k_p (t := (.lst .z)) (v_var (t := (.lst .z)) (i := 1) rfl) (k_n (kc_fin rfl (tt_law_digits _ _)))))) fun a455 => (k_p (t := .z) (v_var (t := .z) (i := 4) rfl) (k_n (kc_fin rfl (tt_law_any _ _))))))))) fun words449 => (g_norm (L' := [.im (Ty.enc .scr p_script), .im (Ty.enc (.lst .z) sizes424), .im (Ty.enc .z x434), .im (Ty.enc (.lst .z) row435), .im (Ty.enc .z many440), .im (Ty.enc .z last443), .any, .im (Ty.enc (.lst (.tup .z)) lots446), .any, .im (Ty.enc (.lst .raw) words449), .any, .any, .any, .any, .any, .any, .any, .any, .any, .any, .any, .any, .any, .any, .any, .any, .any]) (wk_s (wk_s (wk_s (wk_s (wk_s (wk_s (wk_a (wk_s (wk_a (wk_s (wk_a (wk_a (wk_a (wk_a (wk_a (wk_a (wk_a (wk_a (wk_a (wk_a (wk_a (wk_a (wk_a (wk_a (wk_a (wk_a (wk_a wk_n))))))))))))))))))))))))))) (g_set (t := (.lst .b)) 10 (v_call (k_r (t := .raw) (v_ixLP (t := .raw) (v_var (t := (.lst .raw)) (i := 9) rfl) (v_int 0)) fun a458 => (k_p (t := .z) (v_var (t := .z) (i := 4) rfl) (k_n (kc_fin rfl (tt_law_table _ _)))))) fun first457 => (g_norm (L' := [.im (Ty.enc .scr p_script), .im (Ty.enc (.lst .z) sizes424), .im (Ty.enc .z x434), .im (Ty.enc (.lst .z) row435), .im (Ty.enc .z many440), .im (Ty.enc .z last443), .any, .im (Ty.enc (.lst (.tup .z)) lots446), .any, .im (Ty.enc (.lst .raw) words449), .im (Ty.enc (.lst .b) first457), .any, .any, .any, .any, .any, .any, .any, .any, .any, .any, .any, .any, .any, .any, .any, .any]) (wk_s (wk_s (wk_s (wk_s (wk_s (wk_s (wk_a (wk_s (wk_a (wk_s (wk_s (wk_a (wk_a (wk_a (wk_a (wk_a (wk_a (wk_a (wk_a (wk_a (wk_a (wk_a (wk_a (wk_a (wk_a (wk_a (wk_a wk_n))))))))))))))))))))))))))) (g_set (t := (.lst .b)) 11 (v_call (k_r (t := .raw) (v_ixLP (t := .raw) (v_var (t := (.lst .raw)) (i := 9) rfl) (v_int 1)) fun a460 => (k_p (t := .z) (v_var (t := .z) (i := 4) rfl) (k_n (kc_fin rfl (tt_law_table _ _)))))) fun second459 => (g_norm (L' := [.im (Ty.enc .scr p_script), .im (Ty.enc (.lst .z) sizes424), .im (Ty.enc .z x434), .im (Ty.enc (.lst .z) row435), .im (Ty.enc .z many440), .im (Ty.enc .z last443), .any, .im (Ty.enc (.lst (.tup .z)) lots446), .any, .im (Ty.enc (.lst .raw) words449), .im (Ty.enc (.lst .b) first457), .im (Ty.enc (.lst .b) second459), .any, .any, .any, .any, .any, .any, .any, .any, .any, .any, .any, .any, .any, .any, .any]) (wk_s (wk_s (wk_s (wk_s (wk_s (wk_s (wk_a (wk_s (wk_a (wk_s (wk_s (wk_s (wk_a (wk_a (wk_a (wk_a (wk_a (wk_a (wk_a (wk_a (wk_a (wk_a (wk_a (wk_a (wk_a (wk_a (wk_a wk_n))))))))))))))))))))))))))) (g_set (t := (.lst .b)) 12 (v_call (k_r (t := .raw) (v_ixLP (t := .raw) (v_var (t := (.lst .raw)) (i := 9) rfl) (v_int 2)) fun a462 => (k_p (t := .z) (v_var (t := .z) (i := 4) rfl) (k_n (kc_fin rfl (tt_law_table _ _)))))) fun third461 => (g_norm (L' := [.im (Ty.enc .scr p_script), .im (Ty.enc (.lst .z) sizes424), .im (Ty.enc .z x434), .im (Ty.enc (.lst .z) row435), .im (Ty.enc .z many440), .im (Ty.enc .z last443), .any, .im (Ty.enc (.lst (.tup .z)) lots446), .any, .im (Ty.enc (.lst .raw) words449), .im (Ty.enc (.lst .b) first457), .im (Ty.enc (.lst .b) second459), .im (Ty.enc (.lst .b) third461), .any, .any, .any, .any, .any, .any, .any, .any, .any, .any, .any, .any, .any, .any]) (wk_s (wk_s (wk_s (wk_s (wk_s (wk_s (wk_a (wk_s (wk_a (wk_s (wk_s (wk_s (wk_s (wk_a (wk_a (wk_a (wk_a (wk_a (wk_a (wk_a (wk_a (wk_a (wk_a (wk_a (wk_a (wk_a (wk_a wk_n))))))))))))))))))))))))))) (g_set (t := (.lst tyRule)) 13 (v_fz (t := tyRule) (v_lcP (t := .raw) (u := tyRule) (i_lst (t := .raw) (v_var (t := (.lst .raw)) (i := 9) rfl)) (tg_1 26) (fun x464 => b_yes) (fun x464 => (v_call (k_p (t := .raw) (v_var (t := .raw) (i := 26) rfl) (k_p (t := .z) (v_var (t := .z) (i := 4) rfl) (k_n (kc_fin rfl (tt_law_rule _ _))))))))) fun rules463 => (g_norm (L' := [.im (Ty.enc .scr p_script), .im (Ty.enc (.lst .z) sizes424), .im (Ty.enc .z x434), .im (Ty.enc (.lst .z) row435), .im (Ty.enc .z many440), .im (Ty.enc .z last443), .any, .im (Ty.enc (.lst (.tup .z)) lots446), .any, .im (Ty.enc (.lst .raw) words449), .im (Ty.enc (.lst .b) first457), .im (Ty.enc (.lst .b) second459), .im (Ty.enc (.lst .b) third461), .im (Ty.enc (.lst tyRule) rules463), .any, .any, .any, .any, .any, .any, .any, .any, .any, .any, .any, .any, .any]) (wk_s (wk_s (wk_s (wk_s (wk_s (wk_s (wk_a (wk_s (wk_a (wk_s (wk_s (wk_s (wk_s (wk_s (wk_a (wk_a (wk_a (wk_a (wk_a (wk_a (wk_a (wk_a (wk_a (wk_a (wk_a (wk_a (wk_a wk_n))))))))))))))))))))))))))) (g_set (t := tyRule) 14 (v_ixLP (t := tyRule) (v_var (t := (.lst tyRule)) (i := 13) rfl) (v_int 0)) fun one465 => (g_norm (L' := [.im (Ty.enc .scr p_script), .im (Ty.enc (.lst .z) sizes424), .im (Ty.enc .z x434), .im (Ty.enc (.lst .z) row435), .im (Ty.enc .z many440), .im (Ty.enc .z last443), .any, .im (Ty.enc (.lst (.tup .z)) lots446), .any, .im (Ty.enc (.lst .raw) words449), .im (Ty.enc (.lst .b) first457), .im (Ty.enc (.lst .b) second459), .im (Ty.enc (.lst .b) third461), .im (Ty.enc (.lst tyRule) rules463), .im (Ty.enc tyRule one465), .any, .any, .any, .any, .any, .any, .any, .any, .any, .any, .any, .any]) (wk_s (wk_s (wk_s (wk_s (wk_s (wk_s (wk_a (wk_s (wk_a (wk_s (wk_s (wk_s (wk_s (wk_s (wk_s (wk_a (wk_a (wk_a (wk_a (wk_a (wk_a (wk_a (wk_a (wk_a (wk_a (wk_a (wk_a wk_n))))))))))))))))))))))))))) (g_set (t := tyRule) 15 (v_ixLP (t := tyRule) (v_var (t := (.lst tyRule)) (i := 13) rfl) (v_int 1)) fun two466 => (g_norm (L' := [.im (Ty.enc .scr p_script), .im (Ty.enc (.lst .z) sizes424), .im (Ty.enc .z x434), .im (Ty.enc (.lst .z) row435), .im (Ty.enc .z many440), .im (Ty.enc .z last443), .any, .im (Ty.enc (.lst (.tup .z)) lots446), .any, .im (Ty.enc (.lst .raw) words449), .im (Ty.enc (.lst .b) first457), .im (Ty.enc (.lst .b) second459), .im (Ty.enc (.lst .b) third461), .im (Ty.enc (.lst tyRule) rules463), .im (Ty.enc tyRule one465), .im (Ty.enc tyRule two466), .any, .any, .any, .any, .any, .any, .any, .any, .any, .any, .any]) (wk_s (wk_s (wk_s (wk_s (wk_s (wk_s (wk_a (wk_s (wk_a (wk_s (wk_s (wk_s (wk_s (wk_s (wk_s (wk_s (wk_a (wk_a (wk_a (wk_a (wk_a (wk_a (wk_a (wk_a (wk_a (wk_a (wk_a wk_n))))))))))))))))))))))))))) (g_set (t := tyRule) 16 (v_ixLP (t := tyRule) (v_var (t := (.lst tyRule)) (i := 13) rfl) (v_int 2)) fun three467 => (g_norm (L' := [.im (Ty.enc .scr p_script), .im (Ty.enc (.lst .z) sizes424), .im (Ty.enc .z x434), .im (Ty.enc (.lst .z) row435), .im (Ty.enc .z many440), .im (Ty.enc .z last443), .any, .im (Ty.enc (.lst (.tup .z)) lots446), .any, .im (Ty.enc (.lst .raw) words449), .im (Ty.enc (.lst .b) first457), .im (Ty.enc (.lst .b) second459), .im (Ty.enc (.lst .b) third461), .im (Ty.enc (.lst tyRule) rules463), .im (Ty.enc tyRule one465), .im (Ty.enc tyRule two466), .im (Ty.enc tyRule three467), .any, .any, .any, .any, .any, .any, .any, .any, .any, .any]) (wk_s (wk_s (wk_s (wk_s (wk_s (wk_s (wk_a (wk_s (wk_a (wk_s (wk_s (wk_s (wk_s (wk_s (wk_s (wk_s (wk_s (wk_a (wk_a (wk_a (wk_a (wk_a (wk_a (wk_a (wk_a (wk_a (wk_a wk_n))))))))))))))))))))))))))) (g_set (t := (.tup (.tup .z))) 17 (v_call (k_p (t := (.lst .b)) (v_var (t := (.lst .b)) (i := 10) rfl) (k_p (t := .z) (v_var (t := .z) (i := 4) rfl) (k_n (kc_fin rfl (tt_law_least _ _)))))) fun least468 => (g_norm (L' := [.im (Ty.enc .scr p_script), .im (Ty.enc (.lst .z) sizes424), .im (Ty.enc .z x434), .im (Ty.enc (.lst .z) row435), .im (Ty.enc .z many440), .im (Ty.enc .z last443), .any, .im (Ty.enc (.lst (.tup .z)) lots446), .any, .im (Ty.enc (.lst .raw) words449), .im (Ty.enc (.lst .b) first457), .im (Ty.enc (.lst .b) second459), .im (Ty.enc (.lst .b) third461), .im (Ty.enc (.lst tyRule) rules463), .im (Ty.enc tyRule one465), .im (Ty.enc tyRule two466), .im (Ty.enc tyRule three467), .im (Ty.enc (.tup (.tup .z)) least468), .any, .any, .any, .any, .any, .any, .any, .any, .any]) (wk_s (wk_s (wk_s (wk_s (wk_s (wk_s (wk_a (wk_s (wk_a (wk_s (wk_s (wk_s (wk_s (wk_s (wk_s (wk_s (wk_s (wk_s (wk_a (wk_a (wk_a (wk_a (wk_a (wk_a (wk_a (wk_a (wk_a wk_n))))))))))))))))))))))))))) (g_set (t := (.lst (.tup .z))) 18 (v_fz (t := (.tup .z)) (v_lc (t := .z) (u := (.tup .z)) (i_rng1 (k_r (t := .z) (v_opa (k_r (t := .z) (v_ixLP (t := .z) (v_var (t := (.lst .z)) (i := 3) rfl) (v_int 2)) fun a470 => (k_n (o_int _)))) fun a471 => (k_n (rng1_fin _)))) (tg_1 8) (fun x472 => b_yes) (fun x472 => (v_call (k_r (t := .z) (v_or2 (v_call (k_r (t := (.tup .z)) (v_ixTP (t := (.tup .z)) (v_var (t := (.tup (.tup .z))) (i := 17) rfl) (v_int 0)) fun a473 => (k_n (kc_fin rfl (tt_law_number _))))) (v_and2 (v_opa (k_r (t := .z) (v_ixLP (t := .z) (v_var (t := (.lst .z)) (i := 3) rfl) (v_addP (v_int 3) (v_var (t := .z) (i := 8) rfl))) fun a474 => (k_n (o_int _)))) (v_var (t := .z) (i := 5) rfl))) fun a479 => (k_p (t := .z) (v_var (t := .z) (i := 4) rfl) (k_n (kc_fin rfl (tt_law_voters _ _))))))))) fun greater469 => (g_norm (L' := [.im (Ty.enc .scr p_script), .im (Ty.enc (.lst .z) sizes424), .im (Ty.enc .z x434), .im (Ty.enc (.lst .z) row435), .im (Ty.enc .z many440), .im (Ty.enc .z last443), .any, .im (Ty.enc (.lst (.tup .z)) lots446), .any, .im (Ty.enc (.lst .raw) words449), .im (Ty.enc (.lst .b) first457), .im (Ty.enc (.lst .b) second459), .im (Ty.enc (.lst .b) third461), .im (Ty.enc (.lst tyRule) rules463), .im (Ty.enc tyRule one465), .im (Ty.enc tyRule two466), .im (Ty.enc tyRule three467), .im (Ty.enc (.tup (.tup .z)) least468), .im (Ty.enc (.lst (.tup .z)) greater469), .any, .any, .any, .any, .any, .any, .any, .any]) (wk_s (wk_s (wk_s (wk_s (wk_s (wk_s (wk_a (wk_s (wk_a (wk_s (wk_s (wk_s (wk_s (wk_s (wk_s (wk_s (wk_s (wk_s (wk_s (wk_a (wk_a (wk_a (wk_a (wk_a (wk_a (wk_a (wk_a wk_n))))))))))))))))))))))))))) (g_set (t := (.lst .b)) 19 (v_call (k_p (t := (.lst .b)) (v_var (t := (.lst .b)) (i := 10) rfl) (k_p (t := .z) (v_var (t := .z) (i := 4) rfl) (k_r (t := .z) (v_ixLP (t := .z) (v_var (t := (.lst .z)) (i := 3) rfl) (v_int 6)) fun a482 => (k_n (kc_fin rfl (tt_law_near _ _ _))))))) fun near481 => (g_norm (L' := [.im (Ty.enc .scr p_script), .im (Ty.enc (.lst .z) sizes424), .im (Ty.enc .z x434), .im (Ty.enc (.lst .z) row435), .im (Ty.enc .z many440), .im (Ty.enc .z last443), .any, .im (Ty.enc (.lst (.tup .z)) lots446), .any, .im (Ty.enc (.lst .raw) words449), .im (Ty.enc (.lst .b) first457), .im (Ty.enc (.lst .b) second459), .im (Ty.enc (.lst .b) third461), .im (Ty.enc (.lst tyRule) rules463), .im (Ty.enc tyRule one465), .im (Ty.enc tyRule two466), .im (Ty.enc tyRule three467), .im (Ty.enc (.tup (.tup .z)) least468), .im (Ty.enc (.lst (.tup .z)) greater469), .im (Ty.enc (.lst .b) near481), .any, .any, .any, .any, .any, .any, .any]) (wk_s (wk_s (wk_s (wk_s (wk_s (wk_s (wk_a (wk_s (wk_a (wk_s (wk_s (wk_s (wk_s (wk_s (wk_s (wk_s (wk_s (wk_s (wk_s (wk_s (wk_a (wk_a (wk_a (wk_a (wk_a (wk_a (wk_a wk_n))))))))))))))))))))))))))) (g_set (t := (.lst tyRule)) 13 (v_catL (t := tyRule) (v_var (t := (.lst tyRule)) (i := 13) rfl) (v_fz (t := tyRule) (v_mlst (k_r (t := tyRule) (v_own2P (t := (.pr .z (.pr (.tup .b) (.tup (.tup .z))))) (fun x y => tt_Rule_and x y) (v_var (t := tyRule) (i := 14) rfl) (v_var (t := tyRule) (i := 15) rfl)) fun a490 => (k_r (t := tyRule) (v_own2P (t := (.pr .z (.pr (.tup .b) (.tup (.tup .z))))) (fun x y => tt_Rule_or x y) (v_var (t := tyRule) (i := 14) rfl) (v_var (t := tyRule) (i := 15) rfl)) fun a491 => (k_r (t := tyRule) (v_own1P (t := (.pr .z (.pr (.tup .b) (.tup (.tup .z))))) (fun x => tt_Rule_invert x) (v_var (t := tyRule) (i := 14) rfl)) fun a492 => (k_r (t := tyRule) (v_own2 (t := (.pr .z (.pr (.tup .b) (.tup (.tup .z))))) (fun x y => tt_Rule_or x y) (v_own2 (t := (.pr .z (.pr (.tup .b) (.tup (.tup .z))))) (fun x y => tt_Rule_or x y) (v_own2P (t := (.pr .z (.pr (.tup .b) (.tup (.tup .z))))) (fun x y => tt_Rule_and x y) (v_var (t := tyRule) (i := 14) rfl) (v_var (t := tyRule) (i := 15) rfl)) (v_own2P (t := (.pr .z (.pr (.tup .b) (.tup (.tup .z))))) (fun x y => tt_Rule_and x y) (v_var (t := tyRule) (i := 15) rfl) (v_var (t := tyRule) (i := 16) rfl))) (v_own2P (t := (.pr .z (.pr (.tup .b) (.tup (.tup .z))))) (fun x y => tt_Rule_and x y) (v_var (t := tyRule) (i := 14) rfl) (v_var (t := tyRule) (i := 16) rfl))) fun a493 => (k_r (t := tyRule) (v_own2 (t := (.pr .z (.pr (.tup .b) (.tup (.tup .z))))) (fun x y => tt_Rule_and x y) (v_own2P (t := (.pr .z (.pr (.tup .b) (.tup (.tup .z))))) (fun x y => tt_Rule_or x y) (v_var (t := tyRule) (i := 14) rfl) (v_var (t := tyRule) (i := 15) rfl)) (v_own1P (t := (.pr .z (.pr (.tup .b) (.tup (.tup .z))))) (fun x => tt_Rule_invert x) (v_var (t := tyRule) (i := 16) rfl))) fun a494 => (k_n (kl_fin (t := tyRule) (n := 5) rfl rfl (by decide))))))))))) fun rules483 => (g_norm (L' := [.im (Ty.enc .scr p_script), .im (Ty.enc (.lst .z) sizes424), .im (Ty.enc .z x434), .im (Ty.enc (.lst .z) row435), .im (Ty.enc .z many440), .im (Ty.enc .z last443), .any, .im (Ty.enc (.lst (.tup .z)) lots446), .any, .im (Ty.enc (.lst .raw) words449), .im (Ty.enc (.lst .b) first457), .im (Ty.enc (.lst .b) second459), .im (Ty.enc (.lst .b) third461), .im (Ty.enc (.lst tyRule) rules483), .im (Ty.enc tyRule one465), .im (Ty.enc tyRule two466), .im (Ty.enc tyRule three467), .im (Ty.enc (.tup (.tup .z)) least468), .im (Ty.enc (.lst (.tup .z)) greater469), .im (Ty.enc (.lst .b) near481), .any, .any, .any, .any, .any, .any, .any]) (wk_s (wk_s (wk_s (wk_s (wk_s (wk_s (wk_a (wk_s (wk_a (wk_s (wk_s (wk_s (wk_s (wk_s (wk_s (wk_s (wk_s (wk_s (wk_s (wk_s (wk_a (wk_a (wk_a (wk_a (wk_a (wk_a (wk_a wk_n))))))))))))))))))))))))))) (g_set (t := (.lst tyRule)) 13 (v_catL (t := tyRule) (v_var (t := (.lst tyRule)) (i := 13) rfl) (v_fz (t := tyRule) (v_mlst (k_r (t := tyRule) (v_own1 (t := (.pr .z (.pr (.tup .b) (.tup (.tup .z))))) (fun x => tt_Rule_invert x) (v_own2P (t := (.pr .z (.pr (.tup .b) (.tup (.tup .z))))) (fun x y => tt_Rule_and x y) (v_var (t := tyRule) (i := 15) rfl) (v_var (t := tyRule) (i := 14) rfl))) fun a502 => (k_r (t := tyRule) (v_own1 (t := (.pr .z (.pr (.tup .b) (.tup (.tup .z))))) (fun x => tt_Rule_invert x) (v_own1P (t := (.pr .z (.pr (.tup .b) (.tup (.tup .z))))) (fun x => tt_Rule_invert x) (v_var (t := tyRule) (i := 14) rfl))) fun a503 => (k_r (t := tyRule) (v_make (k_p (t := .z) (v_var (t := .z) (i := 4) rfl) (k_r (t := (.tup (.tup .z))) (v_catTP (t := (.tup .z)) (v_opa (k_p (t := (.lst (.tup .z))) (v_var (t := (.lst (.tup .z))) (i := 18) rfl) (k_n (o_tupL _)))) (v_rev2TP (t := (.tup .z)) (v_var (t := (.tup (.tup .z))) (i := 17) rfl))) fun a500 => (k_n (km_dec (t := tyRule) rfl))))) fun a504 => (k_r (t := tyRule) (v_make (k_p (t := .z) (v_var (t := .z) (i := 4) rfl) (k_r (t := (.tup (.tup .z))) (v_call (k_p (t := (.lst .b)) (v_var (t := (.lst .b)) (i := 19) rfl) (k_p (t := .z) (v_var (t := .z) (i := 4) rfl) (k_n (kc_fin rfl (tt_law_least _ _)))))) fun a501 => (k_n (km_dec (t := tyRule) rfl))))) fun a505 => (k_n (kl_fin (t := tyRule) (n := 4) rfl rfl (by decide)))))))))) fun rules497 => (g_norm (L' := [.im (Ty.enc .scr p_script), .im (Ty.enc (.lst .z) sizes424), .im (Ty.enc .z x434), .im (Ty.enc (.lst .z) row435), .im (Ty.enc .z many440), .im (Ty.enc .z last443), .any, .im (Ty.enc (.lst (.tup .z)) lots446), .any, .im (Ty.enc (.lst .raw) words449), .im (Ty.enc (.lst .b) first457), .im (Ty.enc (.lst .b) second459), .im (Ty.enc (.lst .b) third461), .im (Ty.enc (.lst tyRule) rules497), .im (Ty.enc tyRule one465), .im (Ty.enc tyRule two466), .im (Ty.enc tyRule three467), .im (Ty.enc (.tup (.tup .z)) least468), .im (Ty.enc (.lst (.tup .z)) greater469), .im (Ty.enc (.lst .b) near481), .any, .any, .any, .any, .any, .any, .any]) (wk_s (wk_s (wk_s (wk_s (wk_s (wk_s (wk_a (wk_s (wk_a (wk_s (wk_s (wk_s (wk_s (wk_s (wk_s (wk_s (wk_s (wk_s (wk_s (wk_s (wk_a (wk_a (wk_a (wk_a (wk_a (wk_a (wk_a wk_n))))))))))))))))))))))))))) (g_own (t := (.lst .b)) 20 (v_mlst (k_p (t := (.lst .b)) (v_var (t := (.lst .b)) (i := 10) rfl) (k_p (t := (.lst .b)) (v_var (t := (.lst .b)) (i := 11) rfl) (k_p (t := (.lst .b)) (v_var (t := (.lst .b)) (i := 12) rfl) (k_n (kl_fin (t := (.lst .b)) (n := 3) rfl rfl (by decide))))))) fun tables508 => (g_norm (L' := [.im (Ty.enc .scr p_script), .im (Ty.enc (.lst .z) sizes424), .im (Ty.enc .z x434), .im (Ty.enc (.lst .z) row435), .im (Ty.enc .z many440), .im (Ty.enc .z last443), .any, .im (Ty.enc (.lst (.tup .z)) lots446), .any, .im (Ty.enc (.lst .raw) words449), .im (Ty.enc (.lst .b) first457), .im (Ty.enc (.lst .b) second459), .im (Ty.enc (.lst .b) third461), .im (Ty.enc (.lst tyRule) rules497), .im (Ty.enc tyRule one465), .im (Ty.enc tyRule two466), .im (Ty.enc tyRule three467), .im (Ty.enc (.tup (.tup .z)) least468), .im (Ty.enc (.lst (.tup .z)) greater469), .im (Ty.enc (.lst .b) near481), .ow (.l (List.map (Ty.enc (.lst .b)) tables508)), .any, .any, .any, .any, .any, .any]) (wk_s (wk_s (wk_s (wk_s (wk_s (wk_s (wk_a (wk_s (wk_a (wk_s (wk_s (wk_s (wk_s (wk_s (wk_s (wk_s (wk_s (wk_s (wk_s (wk_s (wk_s (wk_a (wk_a (wk_a (wk_a (wk_a (wk_a wk_n))))))))))))))))))))))))))) (g_app (t := (.lst .b)) rfl (v_fz (t := .b) (v_lc (t := .z) (u := .b) (i_rng1 (k_p (t := .z) (v_addP (v_var (t := .z) (i := 5) rfl) (v_int 1)) (k_n (rng1_fin _)))) (tg_1 6) (fun x509 => b_yes) (fun x509 => (v_and (v_ixLP (t := .b) (v_var (t := (.lst .b)) (i := 10) rfl) (v_var (t := .z) (i := 6) rfl)) (v_ixLP (t := .b) (v_var (t := (.lst .b)) (i := 11) rfl) (v_var (t := .z) (i := 6) rfl)))))) fun tables512 => (g_norm (L' := [.im (Ty.enc .scr p_script), .im (Ty.enc (.lst .z) sizes424), .im (Ty.enc .z x434), .im (Ty.enc (.lst .z) row435), .im (Ty.enc .z many440), .im (Ty.enc .z last443), .any, .im (Ty.enc (.lst (.tup .z)) lots446), .any, .im (Ty.enc (.lst .raw) words449), .im (Ty.enc (.lst .b) first457), .im (Ty.enc (.lst .b) second459), .im (Ty.enc (.lst .b) third461), .im (Ty.enc (.lst tyRule) rules497), .im (Ty.enc tyRule one465), .im (Ty.enc tyRule two466), .im (Ty.enc tyRule three467), .im (Ty.enc (.tup (.tup .z)) least468), .im (Ty.enc (.lst (.tup .z)) greater469), .im (Ty.enc (.lst .b) near481), .ow (.l (List.map (Ty.enc (.lst .b)) tables512)), .any, .any, .any, .any, .any, .any]) (wk_s (wk_s (wk_s (wk_s (wk_s (wk_s (wk_a (wk_s (wk_a (wk_s (wk_s (wk_s (wk_s (wk_s (wk_s (wk_s (wk_s (wk_s (wk_s (wk_s (wk_s (wk_a (wk_a (wk_a (wk_a (wk_a (wk_a wk_n))))))))))))))))))))))))))) (g_app (t := (.lst .b)) rfl (v_fz (t := .b) (v_lc (t := .z) (u := .b) (i_rng1 (k_p (t := .z) (v_addP (v_var (t := .z) (i := 5) rfl) (v_int 1)) (k_n (rng1_fin _)))) (tg_1 6) (fun x513 => b_yes) (fun x513 => (v_or (v_ixLP (t := .b) (v_var (t := (.lst .b)) (i := 10) rfl) (v_var (t := .z) (i := 6) rfl)) (v_ixLP (t := .b) (v_var (t := (.lst .b)) (i := 11) rfl) (v_var (t := .z) (i := 6) rfl)))))) fun tables516 => (g_norm (L' := [.im (Ty.enc .scr p_script), .im (Ty.enc (.lst .z) sizes424), .im (Ty.enc .z x434), .im (Ty.enc (.lst .z) row435), .im (Ty.enc .z many440), .im (Ty.enc .z last443), .any, .im (Ty.enc (.lst (.tup .z)) lots446), .any, .im (Ty.enc (.lst .raw) words449), .im (Ty.enc (.lst .b) first457), .im (Ty.enc (.lst .b) second459), .im (Ty.enc (.lst .b) third461), .im (Ty.enc (.lst tyRule) rules497), .im (Ty.enc tyRule one465), .im (Ty.enc tyRule two466), .im (Ty.enc tyRule three467), .im (Ty.enc (.tup (.tup .z)) least468), .im (Ty.enc (.lst (.tup .z)) greater469), .im (Ty.enc (.lst .b) near481), .ow (.l (List.map (Ty.enc (.lst .b)) tables516)), .any, .any, .any, .any, .any, .any]) (wk_s (wk_s (wk_s (wk_s (wk_s (wk_s (wk_a (wk_s (wk_a (wk_s (wk_s (wk_s (wk_s (wk_s (wk_s (wk_s (wk_s (wk_s (wk_s (wk_s (wk_s (wk_a (wk_a (wk_a (wk_a (wk_a (wk_a wk_n))))))))))))))))))))))))))) (g_app (t := (.lst .b)) rfl (v_fz (t := .b) (v_lc (t := .z) (u := .b) (i_rng1 (k_p (t := .z) (v_addP (v_var (t := .z) (i := 5) rfl) (v_int 1)) (k_n (rng1_fin _)))) (tg_1 6) (fun x517 => b_yes) (fun x517 => (v_not (v_ixLP (t := .b) (v_var (t := (.lst .b)) (i := 10) rfl) (v_subP (v_var (t := .z) (i := 5) rfl) (v_var (t := .z) (i := 6) rfl))))))) fun tables520 => (g_norm (L' := [.im (Ty.enc .scr p_script), .im (Ty.enc (.lst .z) sizes424), .im (Ty.enc .z x434), .im (Ty.enc (.lst .z) row435), .im (Ty.enc .z many440), .im (Ty.enc .z last443), .any, .im (Ty.enc (.lst (.tup .z)) lots446), .any, .im (Ty.enc (.lst .raw) words449), .im (Ty.enc (.lst .b) first457), .im (Ty.enc (.lst .b) second459), .im (Ty.enc (.lst .b) third461), .im (Ty.enc (.lst tyRule) rules497), .im (Ty.enc tyRule one465), .im (Ty.enc tyRule two466), .im (Ty.enc tyRule three467), .im (Ty.enc (.tup (.tup .z)) least468), .im (Ty.enc (.lst (.tup .z)) greater469), .im (Ty.enc (.lst .b) near481), .ow (.l (List.map (Ty.enc (.lst .b)) tables520)), .any, .any, .any, .any, .any, .any]) (wk_s (wk_s (wk_s (wk_s (wk_s (wk_s (wk_a (wk_s (wk_a (wk_s (wk_s (wk_s (wk_s (wk_s (wk_s (wk_s (wk_s (wk_s (wk_s (wk_s (wk_s (wk_a (wk_a (wk_a (wk_a (wk_a (wk_a wk_n))))))))))))))))))))))))))) (g_app (t := (.lst .b)) rfl (v_fz (t := .b) (v_lc (t := .z) (u := .b) (i_rng1 (k_p (t := .z) (v_addP (v_var (t := .z) (i := 5) rfl) (v_int 1)) (k_n (rng1_fin _)))) (tg_1 6) (fun x521 => b_yes) (fun x521 => (v_ge (v_add (v_add (v_opa (k_r (t := .b) (v_ixLP (t := .b) (v_var (t := (.lst .b)) (i := 10) rfl) (v_var (t := .z) (i := 6) rfl)) fun a522 => (k_n (o_intB _)))) (v_opa (k_r (t := .b) (v_ixLP (t := .b) (v_var (t := (.lst .b)) (i := 11) rfl) (v_var (t := .z) (i := 6) rfl)) fun a523 => (k_n (o_intB _))))) (v_opa (k_r (t := .b) (v_ixLP (t := .b) (v_var (t := (.lst .b)) (i := 12) rfl) (v_var (t := .z) (i := 6) rfl)) fun a526 => (k_n (o_intB _))))) (v_int 2))))) fun tables532 => (g_norm (L' := [.im (Ty.enc .scr p_script), .im (Ty.enc (.lst .z) sizes424), .im (Ty.enc .z x434), .im (Ty.enc (.lst .z) row435), .im (Ty.enc .z many440), .im (Ty.enc .z last443), .any, .im (Ty.enc (.lst (.tup .z)) lots446), .any, .im (Ty.enc (.lst .raw) words449), .im (Ty.enc (.lst .b) first457), .im (Ty.enc (.lst .b) second459), .im (Ty.enc (.lst .b) third461), .im (Ty.enc (.lst tyRule) rules497), .im (Ty.enc tyRule one465), .im (Ty.enc tyRule two466), .im (Ty.enc tyRule three467), .im (Ty.enc (.tup (.tup .z)) least468), .im (Ty.enc (.lst (.tup .z)) greater469), .im (Ty.enc (.lst .b) near481), .ow (.l (List.map (Ty.enc (.lst .b)) tables532)), .any, .any, .any, .any, .any, .any]) (wk_s (wk_s (wk_s (wk_s (wk_s (wk_s (wk_a (wk_s (wk_a (wk_s (wk_s (wk_s (wk_s (wk_s (wk_s (wk_s (wk_s (wk_s (wk_s (wk_s (wk_s (wk_a (wk_a (wk_a (wk_a (wk_a (wk_a wk_n))))))))))))))))))))))))))) (g_app (t := (.lst .b)) rfl (v_fz (t := .b) (v_lc (t := .z) (u := .b) (i_rng1 (k_p (t := .z) (v_addP (v_var (t := .z) (i := 5) rfl) (v_int 1)) (k_n (rng1_fin _)))) (tg_1 6) (fun x533 => b_yes) (fun x533 => (v_and (v_or (v_ixLP (t := .b) (v_var (t := (.lst .b)) (i := 10) rfl) (v_var (t := .z) (i := 6) rfl)) (v_ixLP (t := .b) (v_var (t := (.lst .b)) (i := 11) rfl) (v_var (t := .z) (i := 6) rfl))) (v_not (v_ixLP (t := .b) (v_var (t := (.lst .b)) (i := 12) rfl) (v_subP (v_var (t := .z) (i := 5) rfl) (v_var (t := .z) (i := 6) rfl)))))))) fun tables538 => (g_norm (L' := [.im (Ty.enc .scr p_script), .im (Ty.enc (.lst .z) sizes424), .im (Ty.enc .z x434), .im (Ty.enc (.lst .z) row435), .im (Ty.enc .z many440), .im (Ty.enc .z last443), .any, .im (Ty.enc (.lst (.tup .z)) lots446), .any, .im (Ty.enc (.lst .raw) words449), .im (Ty.enc (.lst .b) first457), .im (Ty.enc (.lst .b) second459), .im (Ty.enc (.lst .b) third461), .im (Ty.enc (.lst tyRule) rules497), .im (Ty.enc tyRule one465), .im (Ty.enc tyRule two466), .im (Ty.enc tyRule three467), .im (Ty.enc (.tup (.tup .z)) least468), .im (Ty.enc (.lst (.tup .z)) greater469), .im (Ty.enc (.lst .b) near481), .ow (.l (List.map (Ty.enc (.lst .b)) tables538)), .any, .any, .any, .any, .any, .any]) (wk_s (wk_s (wk_s (wk_s (wk_s (wk_s (wk_a (wk_s (wk_a (wk_s (wk_s (wk_s (wk_s (wk_s (wk_s (wk_s (wk_s (wk_s (wk_s (wk_s (wk_s (wk_a (wk_a (wk_a (wk_a (wk_a (wk_a wk_n))))))))))))))))))))))))))) (g_app (t := (.lst .b)) rfl (v_fz (t := .b) (v_lc (t := .z) (u := .b) (i_rng1 (k_p (t := .z) (v_addP (v_var (t := .z) (i := 5) rfl) (v_int 1)) (k_n (rng1_fin _)))) (tg_1 6) (fun x539 => b_yes) (fun x539 => (v_not (v_and (v_ixLP (t := .b) (v_var (t := (.lst .b)) (i := 10) rfl) (v_subP (v_var (t := .z) (i := 5) rfl) (v_var (t := .z) (i := 6) rfl))) (v_ixLP (t := .b) (v_var (t := (.lst .b)) (i := 11) rfl) (v_subP (v_var (t := .z) (i := 5) rfl) (v_var (t := .z) (i := 6) rfl)))))))) fun tables543 => (g_norm (L' := [.im (Ty.enc .scr p_script), .im (Ty.enc (.lst .z) sizes424), .im (Ty.enc .z x434), .im (Ty.enc (.lst .z) row435), .im (Ty.enc .z many440), .im (Ty.enc .z last443), .any, .im (Ty.enc (.lst (.tup .z)) lots446), .any, .im (Ty.enc (.lst .raw) words449), .im (Ty.enc (.lst .b) first457), .im (Ty.enc (.lst .b) second459), .im (Ty.enc (.lst .b) third461), .im (Ty.enc (.lst tyRule) rules497), .im (Ty.enc tyRule one465), .im (Ty.enc tyRule two466), .im (Ty.enc tyRule three467), .im (Ty.enc (.tup (.tup .z)) least468), .im (Ty.enc (.lst (.tup .z)) greater469), .im (Ty.enc (.lst .b) near481), .ow (.l (List.map (Ty.enc (.lst .b)) tables543)), .any, .any, .any, .any, .any, .any]) (wk_s (wk_s (wk_s (wk_s (wk_s (wk_s (wk_a (wk_s (wk_a (wk_s (wk_s (wk_s (wk_s (wk_s (wk_s (wk_s (wk_s (wk_s (wk_s (wk_s (wk_s (wk_a (wk_a (wk_a (wk_a (wk_a (wk_a wk_n))))))))))))))))))))))))))) (g_frz rfl (g_set (t := (.lst (.lst .b))) 20 (v_catLP (t := (.lst .b)) (v_var (t := (.lst (.lst .b))) (i := 20) rfl) (v_fz (t := (.lst .b)) (v_mlst (k_p (t := (.lst .b)) (v_var (t := (.lst .b)) (i := 10) rfl) (k_p (t := (.lst .b)) (v_var (t := (.lst .b)) (i := 10) rfl) (k_p (t := (.lst .b)) (v_var (t := (.lst .b)) (i := 19) rfl) (k_n (kl_fin (t := (.lst .b)) (n := 3) rfl rfl (by decide))))))))) fun tables544 => (g_norm (L' := [.im (Ty.enc .scr p_script), .im (Ty.enc (.lst .z) sizes424), .im (Ty.enc .z x434), .im (Ty.enc (.lst .z) row435), .im (Ty.enc .z many440), .im (Ty.enc .z last443), .any, .im (Ty.enc (.lst (.tup .z)) lots446), .any, .im (Ty.enc (.lst .raw) words449), .im (Ty.enc (.lst .b) first457), .im (Ty.enc (.lst .b) second459), .im (Ty.enc (.lst .b) third461), .im (Ty.enc (.lst tyRule) rules497), .im (Ty.enc tyRule one465), .im (Ty.enc tyRule two466), .im (Ty.enc tyRule three467), .im (Ty.enc (.tup (.tup .z)) least468), .im (Ty.enc (.lst (.tup .z)) greater469), .im (Ty.enc (.lst .b) near481), .im (Ty.enc (.lst (.lst .b)) tables544), .any, .any, .any, .any, .any, .any]) (wk_s (wk_s (wk_s (wk_s (wk_s (wk_s (wk_a (wk_s (wk_a (wk_s (wk_s (wk_s (wk_s (wk_s (wk_s (wk_s (wk_s (wk_s (wk_s (wk_s (wk_s (wk_a (wk_a (wk_a (wk_a (wk_a (wk_a wk_n))))))))))))))))))))))))))) (g_loop (t := .z) (E := (fun (s545 : Unit) => [.im (Ty.enc .scr p_script), .im (Ty.enc (.lst .z) sizes424), .im (Ty.enc .z x434), .im (Ty.enc (.lst .z) row435), .im (Ty.enc .z many440), .im (Ty.enc .z last443), .any, .im (Ty.enc (.lst (.tup .z)) lots446), .any, .im (Ty.enc (.lst .raw) words449), .im (Ty.enc (.lst .b) first457), .im (Ty.enc (.lst .b) second459), .im (Ty.enc (.lst .b) third461), .im (Ty.enc (.lst tyRule) rules497), .im (Ty.enc tyRule one465), .im (Ty.enc tyRule two466), .im (Ty.enc tyRule three467), .im (Ty.enc (.tup (.tup .z)) least468), .im (Ty.enc (.lst (.tup .z)) greater469), .im (Ty.enc (.lst .b) near481), .im (Ty.enc (.lst (.lst .b)) tables544), .any, .any, .any, .any, .any, .any])) (enc := (Ty.enc .b)) hr_S (i_rng1 (k_p (t := .z) (v_opa (k_p (t := (.lst tyRule)) (v_var (t := (.lst tyRule)) (i := 13) rfl) (k_n (o_lenL _)))) (k_n (rng1_fin _)))) (wk_s (wk_s (wk_s (wk_s (wk_s (wk_s (wk_a (wk_s (wk_a (wk_s (wk_s (wk_s (wk_s (wk_s (wk_s (wk_s (wk_s (wk_s (wk_s (wk_s (wk_s (wk_a (wk_a (wk_a (wk_a (wk_a (wk_a wk_n))))))))))))))))))))))))))) (tg_1 8) (fun s545 x546 => (g_last (g_if (b_not (b_truB (v_call (k_r (t := tyRule) (v_ixLP (t := tyRule) (v_var (t := (.lst tyRule)) (i := 13) rfl) (v_var (t := .z) (i := 8) rfl)) fun a547 => (k_p (t := (.lst (.tup .z))) (v_var (t := (.lst (.tup .z))) (i := 7) rfl) (k_r (t := (.lst .b)) (v_ixLP (t := (.lst .b)) (v_var (t := (.lst (.lst .b))) (i := 20) rfl) (v_var (t := .z) (i := 8) rfl)) fun a548 => (k_n (kc_fin rfl (tt_law_as_told _ _ _))))))))) (g_retSP (v_bl false)) (g_nop (g_endS (wk_s (wk_s (wk_s (wk_s (wk_s (wk_s (wk_a (wk_s (wk_a (wk_s (wk_s (wk_s (wk_s (wk_s (wk_s (wk_s (wk_s (wk_s (wk_s (wk_s (wk_s (wk_a (wk_a (wk_a (wk_a (wk_a (wk_a wk_n)))))))))))))))))))))))))))))))) (fun s545 => (g_loop (t := .z) (E := (fun (s551 : Unit) => [.im (Ty.enc .scr p_script), .im (Ty.enc (.lst .z) sizes424), .im (Ty.enc .z x434), .im (Ty.enc (.lst .z) row435), .im (Ty.enc .z many440), .im (Ty.enc .z last443), .any, .im (Ty.enc (.lst (.tup .z)) lots446), .any, .im (Ty.enc (.lst .raw) words449), .im (Ty.enc (.lst .b) first457), .im (Ty.enc (.lst .b) second459), .im (Ty.enc (.lst .b) third461), .im (Ty.enc (.lst tyRule) rules497), .im (Ty.enc tyRule one465), .im (Ty.enc tyRule two466), .im (Ty.enc tyRule three467), .im (Ty.enc (.tup (.tup .z)) least468), .im (Ty.enc (.lst (.tup .z)) greater469), .im (Ty.enc (.lst .b) near481), .im (Ty.enc (.lst (.lst .b)) tables544), .any, .any, .any, .any, .any, .any])) (enc := (Ty.enc .b)) hr_S (i_rng1 (k_p (t := .z) (v_opa (k_p (t := (.lst tyRule)) (v_var (t := (.lst tyRule)) (i := 13) rfl) (k_n (o_lenL _)))) (k_n (rng1_fin _)))) (wk_s (wk_s (wk_s (wk_s (wk_s (wk_s (wk_a (wk_s (wk_a (wk_s (wk_s (wk_s (wk_s (wk_s (wk_s (wk_s (wk_s (wk_s (wk_s (wk_s (wk_s (wk_a (wk_a (wk_a (wk_a (wk_a (wk_a wk_n))))))))))))))))))))))))))) (tg_1 8) (fun s551 x552 => (g_last (g_loop (t := .z) (E := (fun (s553 : Unit) => [.im (Ty.enc .scr p_script), .im (Ty.enc (.lst .z) sizes424), .im (Ty.enc .z x434), .im (Ty.enc (.lst .z) row435), .im (Ty.enc .z many440), .im (Ty.enc .z last443), .any, .im (Ty.enc (.lst (.tup .z)) lots446), .im (Ty.enc .z x552), .im (Ty.enc (.lst .raw) words449), .im (Ty.enc (.lst .b) first457), .im (Ty.enc (.lst .b) second459), .im (Ty.enc (.lst .b) third461), .im (Ty.enc (.lst tyRule) rules497), .im (Ty.enc tyRule one465), .im (Ty.enc tyRule two466), .im (Ty.enc tyRule three467), .im (Ty.enc (.tup (.tup .z)) least468), .im (Ty.enc (.lst (.tup .z)) greater469), .im (Ty.enc (.lst .b) near481), .im (Ty.enc (.lst (.lst .b)) tables544), .any, .any, .any, .any, .any, .any])) (enc := (Ty.enc .b)) hr_S (i_rng1 (k_p (t := .z) (v_opa (k_p (t := (.lst tyRule)) (v_var (t := (.lst tyRule)) (i := 13) rfl) (k_n (o_lenL _)))) (k_n (rng1_fin _)))) (wk_s (wk_s (wk_s (wk_s (wk_s (wk_s (wk_a (wk_s (wk_s (wk_s (wk_s (wk_s (wk_s (wk_s (wk_s (wk_s (wk_s (wk_s (wk_s (wk_s (wk_s (wk_a (wk_a (wk_a (wk_a (wk_a (wk_a wk_n))))))))))))))))))))))))))) (tg_1 21) (fun s553 x554 => (g_set (t := .b) 22 (v_eqX (t := (.pr .z (.pr (.tup .b) (.tup (.tup .z))))) (fun x y => tt_Rule_eq x y) (v_ixLP (t := tyRule) (v_var (t := (.lst tyRule)) (i := 13) rfl) (v_var (t := .z) (i := 8) rfl)) (v_ixLP (t := tyRule) (v_var (t := (.lst tyRule)) (i := 13) rfl) (v_var (t := .z) (i := 21) rfl))) fun told555 => (g_norm (L' := [.im (Ty.enc .scr p_script), .im (Ty.enc (.lst .z) sizes424), .im (Ty.enc .z x434), .im (Ty.enc (.lst .z) row435), .im (Ty.enc .z many440), .im (Ty.enc .z last443), .any, .im (Ty.enc (.lst (.tup .z)) lots446), .im (Ty.enc .z x552), .im (Ty.enc (.lst .raw) words449), .im (Ty.enc (.lst .b) first457), .im (Ty.enc (.lst .b) second459), .im (Ty.enc (.lst .b) third461), .im (Ty.enc (.lst tyRule) rules497), .im (Ty.enc tyRule one465), .im (Ty.enc tyRule two466), .im (Ty.enc tyRule three467), .im (Ty.enc (.tup (.tup .z)) least468), .im (Ty.enc (.lst (.tup .z)) greater469), .im (Ty.enc (.lst .b) near481), .im (Ty.enc (.lst (.lst .b)) tables544), .im (Ty.enc .z x554), .im (Ty.enc .b told555), .any, .any, .any, .any]) (wk_s (wk_s (wk_s (wk_s (wk_s (wk_s (wk_a (wk_s (wk_s (wk_s (wk_s (wk_s (wk_s (wk_s (wk_s (wk_s (wk_s (wk_s (wk_s (wk_s (wk_s (wk_s (wk_s (wk_a (wk_a (wk_a (wk_a wk_n))))))))))))))))))))))))))) (g_last (g_if (b_or (b_and (b_tst (v_eq (t := (.lst .b)) rfl (v_ixLP (t := (.lst .b)) (v_var (t := (.lst (.lst .b))) (i := 20) rfl) (v_var (t := .z) (i := 8) rfl)) (v_ixLP (t := (.lst .b)) (v_var (t := (.lst (.lst .b))) (i := 20) rfl) (v_var (t := .z) (i := 21) rfl)))) (b_tst (v_notBP (v_var (t := .b) (i := 22) rfl) (v_bl true)))) (b_and (b_tst (v_ne (t := (.lst .b)) rfl (v_ixLP (t := (.lst .b)) (v_var (t := (.lst (.lst .b))) (i := 20) rfl) (v_var (t := .z) (i := 8) rfl)) (v_ixLP (t := (.lst .b)) (v_var (t := (.lst (.lst .b))) (i := 20) rfl) (v_var (t := .z) (i := 21) rfl)))) (b_tst (v_notBP (v_var (t := .b) (i := 22) rfl) (v_bl false))))) (g_retSP (v_bl false)) (g_nop (g_endS (wk_s (wk_s (wk_s (wk_s (wk_s (wk_s (wk_a (wk_s (wk_s (wk_s (wk_s (wk_s (wk_s (wk_s (wk_s (wk_s (wk_s (wk_s (wk_s (wk_s (wk_s (wk_a (wk_a (wk_a (wk_a (wk_a (wk_a wk_n)))))))))))))))))))))))))))))))))) (fun s553 => (g_endS (wk_s (wk_s (wk_s (wk_s (wk_s (wk_s (wk_a (wk_s (wk_a (wk_s (wk_s (wk_s (wk_s (wk_s (wk_s (wk_s (wk_s (wk_s (wk_s (wk_s (wk_s (wk_a (wk_a (wk_a (wk_a (wk_a (wk_a wk_n)))))))))))))))))))))))))))))))) (fun s551 => (g_set (t := .z) 6 (v_add (v_int 1) (v_mod (v_opa (k_r (t := .z) (v_add (v_var (t := .z) (i := 4) rfl) (v_opa (k_r (t := .z) (v_ixLP (t := .z) (v_var (t := (.lst .z)) (i := 3) rfl) (v_int 1)) fun a568 => (k_n (o_int _))))) fun a571 => (k_n (o_int _)))) (v_int 9))) fun number567 => (g_norm (L' := [.im (Ty.enc .scr p_script), .im (Ty.enc (.lst .z) sizes424), .im (Ty.enc .z x434), .im (Ty.enc (.lst .z) row435), .im (Ty.enc .z many440), .im (Ty.enc .z last443), .im (Ty.enc .z number567), .im (Ty.enc (.lst (.tup .z)) lots446), .any, .im (Ty.enc (.lst .raw) words449), .im (Ty.enc (.lst .b) first457), .im (Ty.enc (.lst .b) second459), .im (Ty.enc (.lst .b) third461), .im (Ty.enc (.lst tyRule) rules497), .im (Ty.enc tyRule one465), .im (Ty.enc tyRule two466), .im (Ty.enc tyRule three467), .im (Ty.enc (.tup (.tup .z)) least468), .im (Ty.enc (.lst (.tup .z)) greater469), .im (Ty.enc (.lst .b) near481), .im (Ty.enc (.lst (.lst .b)) tables544), .any, .any, .any, .any, .any, .any]) (wk_s (wk_s (wk_s (wk_s (wk_s (wk_s (wk_s (wk_s (wk_a (wk_s (wk_s (wk_s (wk_s (wk_s (wk_s (wk_s (wk_s (wk_s (wk_s (wk_s (wk_s (wk_a (wk_a (wk_a (wk_a (wk_a (wk_a wk_n))))))))))))))))))))))))))) (g_set (t := tyRule) 23 (v_call (k_p (t := .z) (v_var (t := .z) (i := 6) rfl) (k_n (kc_fin rfl (tt_Rule_majority _))))) fun other576 => (g_norm (L' := [.im (Ty.enc .scr p_script), .im (Ty.enc (.lst .z) sizes424), .im (Ty.enc .z x434), .im (Ty.enc (.lst .z) row435), .im (Ty.enc .z many440), .im (Ty.enc .z last443), .im (Ty.enc .z number567), .im (Ty.enc (.lst (.tup .z)) lots446), .any, .im (Ty.enc (.lst .raw) words449), .im (Ty.enc (.lst .b) first457), .im (Ty.enc (.lst .b) second459), .im (Ty.enc (.lst .b) third461), .im (Ty.enc (.lst tyRule) rules497), .im (Ty.enc tyRule one465), .im (Ty.enc tyRule two466), .im (Ty.enc tyRule three467), .im (Ty.enc (.tup (.tup .z)) least468), .im (Ty.enc (.lst (.tup .z)) greater469), .im (Ty.enc (.lst .b) near481), .im (Ty.enc (.lst (.lst .b)) tables544), .any, .any, .im (Ty.enc tyRule other576), .any, .any, .any]) (wk_s (wk_s (wk_s (wk_s (wk_s (wk_s (wk_s (wk_s (wk_a (wk_s (wk_s (wk_s (wk_s (wk_s (wk_s (wk_s (wk_s (wk_s (wk_s (wk_s (wk_s (wk_a (wk_a (wk_s (wk_a (wk_a (wk_a wk_n))))))))))))))))))))))))))) (g_if (b_or (b_not (b_truB (v_call (k_p (t := tyRule) (v_var (t := tyRule) (i := 14) rfl) (k_p (t := tyRule) (v_var (t := tyRule) (i := 23) rfl) (k_p (t := .z) (v_var (t := .z) (i := 4) rfl) (k_p (t := .z) (v_var (t := .z) (i := 6) rfl) (k_n (kc_fin rfl (tt_law_kept_apart _ _ _ _)))))))))) (b_not (b_truB (v_call (k_p (t := tyRule) (v_var (t := tyRule) (i := 23) rfl) (k_p (t := tyRule) (v_var (t := tyRule) (i := 14) rfl) (k_p (t := .z) (v_var (t := .z) (i := 6) rfl) (k_p (t := .z) (v_var (t := .z) (i := 4) rfl) (k_n (kc_fin rfl (tt_law_kept_apart _ _ _ _))))))))))) (g_retSP (v_bl false)) (g_nop (g_ifP (b_tst (v_ltP (v_var (t := .z) (i := 4) rfl) (v_int 9))) (g_assoc (g_set (t := tyRule) 24 (v_make (k_p (t := .z) (v_addP (v_var (t := .z) (i := 4) rfl) (v_int 1)) (k_p (t := (.tup (.tup .z))) (v_var (t := (.tup (.tup .z))) (i := 17) rfl) (k_n (km_dec (t := tyRule) rfl))))) fun wide580 => (g_norm (L' := [.im (Ty.enc .scr p_script), .im (Ty.enc (.lst .z) sizes424), .im (Ty.enc .z x434), .im (Ty.enc (.lst .z) row435), .im (Ty.enc .z many440), .im (Ty.enc .z last443), .im (Ty.enc .z number567), .im (Ty.enc (.lst (.tup .z)) lots446), .any, .im (Ty.enc (.lst .raw) words449), .im (Ty.enc (.lst .b) first457), .im (Ty.enc (.lst .b) second459), .im (Ty.enc (.lst .b) third461), .im (Ty.enc (.lst tyRule) rules497), .im (Ty.enc tyRule one465), .im (Ty.enc tyRule two466), .im (Ty.enc tyRule three467), .im (Ty.enc (.tup (.tup .z)) least468), .im (Ty.enc (.lst (.tup .z)) greater469), .im (Ty.enc (.lst .b) near481), .im (Ty.enc (.lst (.lst .b)) tables544), .any, .any, .im (Ty.enc tyRule other576), .im (Ty.enc tyRule wide580), .any, .any]) (wk_s (wk_s (wk_s (wk_s (wk_s (wk_s (wk_s (wk_s (wk_a (wk_s (wk_s (wk_s (wk_s (wk_s (wk_s (wk_s (wk_s (wk_s (wk_s (wk_s (wk_s (wk_a (wk_a (wk_s (wk_s (wk_a (wk_a wk_n))))))))))))))))))))))))))) (g_if (b_or (b_not (b_truB (v_call (k_p (t := tyRule) (v_var (t := tyRule) (i := 14) rfl) (k_p (t := tyRule) (v_var (t := tyRule) (i := 24) rfl) (k_p (t := .z) (v_var (t := .z) (i := 4) rfl) (k_p (t := .z) (v_addP (v_var (t := .z) (i := 4) rfl) (v_int 1)) (k_n (kc_fin rfl (tt_law_kept_apart _ _ _ _)))))))))) (b_not (b_truB (v_call (k_p (t := tyRule) (v_var (t := tyRule) (i := 24) rfl) (k_p (t := tyRule) (v_var (t := tyRule) (i := 14) rfl) (k_p (t := .z) (v_addP (v_var (t := .z) (i := 4) rfl) (v_int 1)) (k_p (t := .z) (v_var (t := .z) (i := 4) rfl) (k_n (kc_fin rfl (tt_law_kept_apart _ _ _ _))))))))))) (g_retSP (v_bl false)) (g_nop (g_loopP (t := .raw) (E := (fun (s584 : Unit) => [.im (Ty.enc .scr p_script), .im (Ty.enc (.lst .z) sizes424), .im (Ty.enc .z x434), .im (Ty.enc (.lst .z) row435), .im (Ty.enc .z many440), .im (Ty.enc .z last443), .im (Ty.enc .z number567), .im (Ty.enc (.lst (.tup .z)) lots446), .any, .im (Ty.enc (.lst .raw) words449), .im (Ty.enc (.lst .b) first457), .im (Ty.enc (.lst .b) second459), .im (Ty.enc (.lst .b) third461), .im (Ty.enc (.lst tyRule) rules497), .im (Ty.enc tyRule one465), .im (Ty.enc tyRule two466), .im (Ty.enc tyRule three467), .im (Ty.enc (.tup (.tup .z)) least468), .im (Ty.enc (.lst (.tup .z)) greater469), .im (Ty.enc (.lst .b) near481), .im (Ty.enc (.lst (.lst .b)) tables544), .any, .any, .im (Ty.enc tyRule other576), .im (Ty.enc tyRule wide580), .any, .any])) (enc := (Ty.enc .b)) hr_S (i_lst (t := .raw) (v_fz (t := .raw) (v_mlst (k_p (t := .raw) (v_raw (t := .n) v_non) (k_p (t := .raw) (v_raw (t := .z) (v_var (t := .z) (i := 4) rfl)) (k_p (t := .raw) (v_raw (t := .z) (v_int 0)) (k_p (t := .raw) (v_raw (t := .z) (v_int 1)) (k_p (t := .raw) (v_raw (t := .b) (v_bl true)) (k_p (t := .raw) (v_raw (t := .s) (v_str "rule")) (k_p (t := .raw) (v_tup (k_n (kt_fin (t := .raw) (n := 0) rfl rfl (by decide)))) (k_p (t := .raw) (v_raw (t := (.tup (.tup .z))) (v_var (t := (.tup (.tup .z))) (i := 17) rfl)) (k_p (t := .raw) (v_tup (k_p (t := .raw) (v_raw (t := .z) (v_var (t := .z) (i := 4) rfl)) (k_p (t := .raw) (v_raw (t := (.tup (.tup .z))) (v_var (t := (.tup (.tup .z))) (i := 17) rfl)) (k_n (kt_fin (t := .raw) (n := 2) rfl rfl (by decide)))))) (k_n (kl_fin (t := .raw) (n := 9) rfl rfl (by decide))))))))))))))) (wk_s (wk_s (wk_s (wk_s (wk_s (wk_s (wk_s (wk_s (wk_a (wk_s (wk_s (wk_s (wk_s (wk_s (wk_s (wk_s (wk_s (wk_s (wk_s (wk_s (wk_s (wk_a (wk_a (wk_s (wk_s (wk_a (wk_a wk_n))))))))))))))))))))))))))) (tg_1 25) (fun s584 x585 => (g_last (g_if (b_tst (v_notB (v_eqXr (t := (.pr .z (.pr (.tup .b) (.tup (.tup .z))))) (fun x y => tt_Rule_eq_raw x y) (v_var (t := tyRule) (i := 14) rfl) (v_var (t := .raw) (i := 25) rfl)) (v_bl false))) (g_retSP (v_bl false)) (g_nop (g_endS (wk_s (wk_s (wk_s (wk_s (wk_s (wk_s (wk_s (wk_s (wk_a (wk_s (wk_s (wk_s (wk_s (wk_s (wk_s (wk_s (wk_s (wk_s (wk_s (wk_s (wk_s (wk_a (wk_a (wk_s (wk_s (wk_a (wk_a wk_n)))))))))))))))))))))))))))))))) (fun s584 => (g_last (g_loop (t := .z) (E := (fun (s591 : Unit) => [.im (Ty.enc .scr p_script), .im (Ty.enc (.lst .z) sizes424), .im (Ty.enc .z x434), .im (Ty.enc (.lst .z) row435), .im (Ty.enc .z many440), .im (Ty.enc .z last443), .im (Ty.enc .z number567), .im (Ty.enc (.lst (.tup .z)) lots446), .any, .im (Ty.enc (.lst .raw) words449), .im (Ty.enc (.lst .b) first457), .im (Ty.enc (.lst .b) second459), .im (Ty.enc (.lst .b) third461), .im (Ty.enc (.lst tyRule) rules497), .im (Ty.enc tyRule one465), .im (Ty.enc tyRule two466), .im (Ty.enc tyRule three467), .im (Ty.enc (.tup (.tup .z)) least468), .im (Ty.enc (.lst (.tup .z)) greater469), .im (Ty.enc (.lst .b) near481), .im (Ty.enc (.lst (.lst .b)) tables544), .any, .any, .im (Ty.enc tyRule other576), .im (Ty.enc tyRule wide580), .any, .any])) (enc := (Ty.enc .b)) hr_S (i_rng1 (k_p (t := .z) (v_int 3) (k_n (rng1_fin _)))) (wk_s (wk_s (wk_s (wk_s (wk_s (wk_s (wk_s (wk_s (wk_a (wk_s (wk_s (wk_s (wk_s (wk_s (wk_s (wk_s (wk_s (wk_s (wk_s (wk_s (wk_s (wk_a (wk_a (wk_s (wk_s (wk_a (wk_a wk_n))))))))))))))))))))))))))) (tg_1 8) (fun s591 x592 => (g_last (g_if (b_not (b_truB (v_call (k_r (t := tyRule) (v_ixLP (t := tyRule) (v_var (t := (.lst tyRule)) (i := 13) rfl) (v_var (t := .z) (i := 8) rfl)) fun a593 => (k_p (t := (.lst (.tup .z))) (v_var (t := (.lst (.tup .z))) (i := 7) rfl) (k_r (t := (.lst .b)) (v_ixLP (t := (.lst .b)) (v_var (t := (.lst (.lst .b))) (i := 20) rfl) (v_var (t := .z) (i := 8) rfl)) fun a594 => (k_n (kc_fin rfl (tt_law_as_told _ _ _))))))))) (g_retSP (v_bl false)) (g_nop (g_endS (wk_s (wk_s (wk_s (wk_s (wk_s (wk_s (wk_s (wk_s (wk_a (wk_s (wk_s (wk_s (wk_s (wk_s (wk_s (wk_s (wk_s (wk_s (wk_s (wk_s (wk_s (wk_a (wk_a (wk_s (wk_s (wk_a (wk_a wk_n)))))))))))))))))))))))))))))))) (fun s591 => (g_endS (wk_s (wk_s (wk_a (wk_a (wk_a (wk_a (wk_a (wk_a (wk_a (wk_a (wk_a (wk_a (wk_a (wk_a (wk_a (wk_a (wk_a (wk_a (wk_a (wk_a (wk_a (wk_a (wk_a (wk_a (wk_a (wk_a (wk_a wk_n)))))))))))))))))))))))))))))))))))))) (g_nop (g_loopP (t := .raw) (E := (fun (s600 : Unit) => [.im (Ty.enc .scr p_script), .im (Ty.enc (.lst .z) sizes424), .im (Ty.enc .z x434), .im (Ty.enc (.lst .z) row435), .im (Ty.enc .z many440), .im (Ty.enc .z last443), .im (Ty.enc .z number567), .im (Ty.enc (.lst (.tup .z)) lots446), .any, .im (Ty.enc (.lst .raw) words449), .im (Ty.enc (.lst .b) first457), .im (Ty.enc (.lst .b) second459), .im (Ty.enc (.lst .b) third461), .im (Ty.enc (.lst tyRule) rules497), .im (Ty.enc tyRule one465), .im (Ty.enc tyRule two466), .im (Ty.enc tyRule three467), .im (Ty.enc (.tup (.tup .z)) least468), .im (Ty.enc (.lst (.tup .z)) greater469), .im (Ty.enc (.lst .b) near481), .im (Ty.enc (.lst (.lst .b)) tables544), .any, .any, .im (Ty.enc tyRule other576), .any, .any, .any])) (enc := (Ty.enc .b)) hr_S (i_lst (t := .raw) (v_fz (t := .raw) (v_mlst (k_p (t := .raw) (v_raw (t := .n) v_non) (k_p (t := .raw) (v_raw (t := .z) (v_var (t := .z) (i := 4) rfl)) (k_p (t := .raw) (v_raw (t := .z) (v_int 0)) (k_p (t := .raw) (v_raw (t := .z) (v_int 1)) (k_p (t := .raw) (v_raw (t := .b) (v_bl true)) (k_p (t := .raw) (v_raw (t := .s) (v_str "rule")) (k_p (t := .raw) (v_tup (k_n (kt_fin (t := .raw) (n := 0) rfl rfl (by decide)))) (k_p (t := .raw) (v_raw (t := (.tup (.tup .z))) (v_var (t := (.tup (.tup .z))) (i := 17) rfl)) (k_p (t := .raw) (v_tup (k_p (t := .raw) (v_raw (t := .z) (v_var (t := .z) (i := 4) rfl)) (k_p (t := .raw) (v_raw (t := (.tup (.tup .z))) (v_var (t := (.tup (.tup .z))) (i := 17) rfl)) (k_n (kt_fin (t := .raw) (n := 2) rfl rfl (by decide)))))) (k_n (kl_fin (t := .raw) (n := 9) rfl rfl (by decide))))))))))))))) (wk_s (wk_s (wk_s (wk_s (wk_s (wk_s (wk_s (wk_s (wk_a (wk_s (wk_s (wk_s (wk_s (wk_s (wk_s (wk_s (wk_s (wk_s (wk_s (wk_s (wk_s (wk_a (wk_a (wk_s (wk_a (wk_a (wk_a wk_n))))))))))))))))))))))))))) (tg_1 25) (fun s600 x601 => (g_last (g_if (b_tst (v_notB (v_eqXr (t := (.pr .z (.pr (.tup .b) (.tup (.tup .z))))) (fun x y => tt_Rule_eq_raw x y) (v_var (t := tyRule) (i := 14) rfl) (v_var (t := .raw) (i := 25) rfl)) (v_bl false))) (g_retSP (v_bl false)) (g_nop (g_endS (wk_s (wk_s (wk_s (wk_s (wk_s (wk_s (wk_s (wk_s (wk_a (wk_s (wk_s (wk_s (wk_s (wk_s (wk_s (wk_s (wk_s (wk_s (wk_s (wk_s (wk_s (wk_a (wk_a (wk_s (wk_a (wk_a (wk_a wk_n)))))))))))))))))))))))))))))))) (fun s600 => (g_last (g_loop (t := .z) (E := (fun (s607 : Unit) => [.im (Ty.enc .scr p_script), .im (Ty.enc (.lst .z) sizes424), .im (Ty.enc .z x434), .im (Ty.enc (.lst .z) row435), .im (Ty.enc .z many440), .im (Ty.enc .z last443), .im (Ty.enc .z number567), .im (Ty.enc (.lst (.tup .z)) lots446), .any, .im (Ty.enc (.lst .raw) words449), .im (Ty.enc (.lst .b) first457), .im (Ty.enc (.lst .b) second459), .im (Ty.enc (.lst .b) third461), .im (Ty.enc (.lst tyRule) rules497), .im (Ty.enc tyRule one465), .im (Ty.enc tyRule two466), .im (Ty.enc tyRule three467), .im (Ty.enc (.tup (.tup .z)) least468), .im (Ty.enc (.lst (.tup .z)) greater469), .im (Ty.enc (.lst .b) near481), .im (Ty.enc (.lst (.lst .b)) tables544), .any, .any, .im (Ty.enc tyRule other576), .any, .any, .any])) (enc := (Ty.enc .b)) hr_S (i_rng1 (k_p (t := .z) (v_int 3) (k_n (rng1_fin _)))) (wk_s (wk_s (wk_s (wk_s (wk_s (wk_s (wk_s (wk_s (wk_a (wk_s (wk_s (wk_s (wk_s (wk_s (wk_s (wk_s (wk_s (wk_s (wk_s (wk_s (wk_s (wk_a (wk_a (wk_s (wk_a (wk_a (wk_a wk_n))))))))))))))))))))))))))) (tg_1 8) (fun s607 x608 => (g_last (g_if (b_not (b_truB (v_call (k_r (t := tyRule) (v_ixLP (t := tyRule) (v_var (t := (.lst tyRule)) (i := 13) rfl) (v_var (t := .z) (i := 8) rfl)) fun a609 => (k_p (t := (.lst (.tup .z))) (v_var (t := (.lst (.tup .z))) (i := 7) rfl) (k_r (t := (.lst .b)) (v_ixLP (t := (.lst .b)) (v_var (t := (.lst (.lst .b))) (i := 20) rfl) (v_var (t := .z) (i := 8) rfl)) fun a610 => (k_n (kc_fin rfl (tt_law_as_told _ _ _))))))))) (g_retSP (v_bl false)) (g_nop (g_endS (wk_s (wk_s (wk_s (wk_s (wk_s (wk_s (wk_s (wk_s (wk_a (wk_s (wk_s (wk_s (wk_s (wk_s (wk_s (wk_s (wk_s (wk_s (wk_s (wk_s (wk_s (wk_a (wk_a (wk_s (wk_a (wk_a (wk_a wk_n)))))))))))))))))))))))))))))))) (fun s607 => (g_endS (wk_s (wk_s (wk_a (wk_a (wk_a (wk_a (wk_a (wk_a (wk_a (wk_a (wk_a (wk_a (wk_a (wk_a (wk_a (wk_a (wk_a (wk_a (wk_a (wk_a (wk_a (wk_a (wk_a (wk_a (wk_a (wk_a (wk_a wk_n))))))))))))))))))))))))))))))))))))))))))))))))))))))))))))))))))))))))))))))))))))))))))))))))) (fun s433 => (g_last (g_ret (v_bl true)))))))) (by exact ⟨rfl, ⟨trivial, ⟨trivial, ⟨trivial, ⟨trivial, ⟨trivial, ⟨trivial, ⟨trivial, ⟨trivial, ⟨trivial, ⟨trivial, ⟨trivial, ⟨trivial, ⟨trivial, ⟨trivial, ⟨trivial, ⟨trivial, ⟨trivial, ⟨trivial, ⟨trivial, ⟨trivial, ⟨trivial, ⟨trivial, ⟨trivial, ⟨trivial, ⟨trivial, ⟨trivial, trivial⟩⟩⟩⟩⟩⟩⟩⟩⟩⟩⟩⟩⟩⟩⟩⟩⟩⟩⟩⟩⟩⟩⟩⟩⟩⟩⟩)
end Cm
namespace Cm
open PySem FL
/-! ## what is known of the typed functions -/
def ruleT (b : Nat → Bool) (n : Nat) : Int × List Bool × List (List Int) := ((n : Int), (List.range (2 ^ n)).map b, lls b n)
theorem tv_voters (n m : Nat) (hn : n ≤ 1000) : t_law_voters (m : Int) (n : Int) = .ok (vot n m) := decR_ok rfl (voters_ok n m hn)
theorem tv_cell (ns : List Int) (k : Nat) (h : k ≤ 1000) : ∃ c, t_law_cell ns (k : Int) = .ok c := by
  obtain ⟨d, e, c, rfl⟩ := cell_ok ns k (by omega) (by omega)
  exact ⟨c, decR_ok rfl e⟩
theorem tv_digits (c : Int) (sizes : List Int) (hl : sizes.length ≤ 1000) (hs : ∀ s ∈ sizes, 0 < s ∧ s < 1000000000000000000000000000000000000) : ∃ row, t_law_digits c sizes = .ok row ∧ DigL sizes row := by
  obtain ⟨d, e, row, rfl, h⟩ := digits_ok c sizes hl hs
  exact ⟨row, decR_ok rfl e, h⟩
theorem tv_rule (n : Nat) (nums : List Nat) (hn : n ≤ 20) (h0 : nums ≠ []) (hl : nums.length ≤ 100000) (hg : ∀ m ∈ nums, m ≠ 0 ∧ m < 2 ^ n) : t_Rule_init (n : Int) (nums.map (vot n)) = .ok (ruleT (cont nums) n) :=
  decC_ok rfl (rule_ok n nums hn h0 hl hg) (by
    show D.ins 5 ["many", "book", "least"] [.int n, .tup (bkOf (cont nums) (2 ^ n)), .tup (tts (lls (cont nums) n))] = _
    unfold bkOf; rfl)
theorem tv_are_lots (a : List (List Int)) : t_law_are_lots a a = .ok true := decR_ok rfl (are_lots_ok a)
theorem tv_sized (n lo hi : Nat) (hn : n ≤ 20) : t_law_sized (n : Int) (lo : Int) (hi : Int) = .ok ((sized n lo hi).map fun (k : Nat) => (k : Int)) := decR_ok rfl (sized_ok n lo hi hn)
end Cm
namespace Cm
open PySem FL
/-! ## rules and their tables -/
abbrev ci (l : List Nat) : List Int := l.map fun (x : Nat) => (x : Int)
abbrev tl (b : Nat → Bool) (n : Nat) : List Bool := (List.range (2 ^ n)).map b
theorem tl_congr {b c : Nat → Bool} {n : Nat} (h : ∀ m, m < 2 ^ n → b m = c m) : tl b n = tl c n := List.map_congr_left fun m hm => h m (List.mem_range.mp hm)
theorem ruleT_congr {b c : Nat → Bool} {n : Nat} (h : ∀ m, m < 2 ^ n → b m = c m) : ruleT b n = ruleT c n := by
  unfold ruleT
  rw [show (List.range (2 ^ n)).map b = (List.range (2 ^ n)).map c from tl_congr h, lls_congr h]
theorem tl_get {b : Nat → Bool} {n m : Nat} (h : m < 2 ^ n) : (tl b n)[m]? = some (b m) := by simp [h]
theorem tl_len {b : Nat → Bool} {n : Nat} : (tl b n).length = 2 ^ n := by simp
theorem tl_ix {b : Nat → Bool} {n m : Nat} (h : m < 2 ^ n) : ixT (tl b n) (m : Int) = .ok (b m) := ixT_of (tl_get h)
theorem pow20 {n : Nat} (hn : n ≤ 20) : 2 ^ n ≤ 1048576 := by
  have := Nat.pow_le_pow_right (n := 2) (by decide) hn
  simpa using this
theorem tv_least_lots (bk : List Bool) (b : Nat → Bool) (n : Nat) (hn : n ≤ 20) (hb : bk = tl b n) : t_least_lots (n : Int) (Ty.enc (.lst .b) bk) = .ok (lls b n) := by
  subst hb
  refine decR_ok rfl (least_lots_ok (.lst ((tl b n).map D.bl)) b n hn ?_ ?_)
  · rw [fLen_l]; simp
  · intro j hj
    rw [fIx_l, atI_nat]; simp [hj]
/-- an inverse of vot -/
def inv (l : List Int) : Nat := lotn (l.map Int.toNat)
theorem inv_vot {n m : Nat} (h : m < 2 ^ n) : inv (vot n m) = m := by
  unfold inv vot
  rw [List.map_map]
  have : (bits n m).map (Int.toNat ∘ fun (k : Nat) => (k : Int)) = bits n m := by
    conv => rhs; rw [← List.map_id (bits n m)]
    rfl
  rw [this, lotn_vot h]
theorem lls_perm (b : Nat → Bool) (n : Nat) : ∃ nums : List Nat, lls b n = nums.map (vot n) ∧ nums.Perm (mins b n) := by
  have p : (lls b n).Perm ((mins b n).map (vot n)) := List.mergeSort_perm _ _
  have hm : ∀ m ∈ mins b n, m < 2 ^ n := fun m h => (mem_mins.mp h).1
  refine ⟨(lls b n).map inv, ?_, ?_⟩
  · rw [List.map_map]
    conv => lhs; rw [← List.map_id (lls b n)]
    apply List.map_congr_left
    intro l hl
    obtain ⟨m, h1, rfl⟩ := List.mem_map.mp (p.mem_iff.mp hl)
    show vot n m = vot n (inv (vot n m))
    rw [inv_vot (hm m h1)]
  · refine (p.map inv).trans ?_
    rw [List.map_map]
    have : (mins b n).map (inv ∘ vot n) = mins b n := by
      conv => rhs; rw [← List.map_id (mins b n)]
      apply List.map_congr_left
      intro m h
      exact inv_vot (hm m h)
    rw [this]
theorem lls_len (b : Nat → Bool) (n : Nat) : (lls b n).length ≤ 2 ^ n := by
  obtain ⟨nums, e, p⟩ := lls_perm b n
  rw [e, List.length_map, p.length_eq]
  exact mins_len
/-- the rule made of the least lots of a table -/
theorem tv_rule_least {n : Nat} (hn : n ≤ 16) {b : Nat → Bool} (T : Tab n b) {nums : List Nat} (p : nums.Perm (mins b n)) : t_Rule_init (n : Int) (nums.map (vot n)) = .ok (ruleT b n) := by
  have hl := mins_len (b := b) (n := n)
  have h16 : 2 ^ n ≤ 65536 := by
    have := Nat.pow_le_pow_right (n := 2) (by decide) hn
    simpa using this
  rw [tv_rule n nums (by omega) (fun e => mins_ne T (by subst e; exact p.symm.eq_nil)) (by rw [p.length_eq]; omega) (fun m hm => mins_good T m (p.mem_iff.mp hm))]
  exact congrArg Res.ok (ruleT_congr fun m hm => (cont_perm p m).trans (cont_mins T hm))
theorem tv_rule_lls {n : Nat} (hn : n ≤ 16) {b : Nat → Bool} (T : Tab n b) : t_Rule_init (n : Int) (lls b n) = .ok (ruleT b n) := by
  obtain ⟨nums, e, p⟩ := lls_perm b n
  rw [e]; exact tv_rule_least hn T p
theorem tv_sums (ws : List Int) (hl : ws.length ≤ 20) : t_sums_of ws = .ok ((List.range (2 ^ ws.length)).map (wsum ws)) := by
  unfold t_sums_of
  rw [← sumsF_eq]
  refine wpr_eq' (wpr_b (eq_wpr rfl (wpr_b (wpr_imp (wpr_fold (fun pre (s : List Int) => s = sumsF pre) rfl ?_) ?_))))
  · rintro pre x post s e rfl
    have hle : pre.length < 20 := by
      have := congrArg List.length e
      simp at this; omega
    have hp := pow20 (n := pre.length) (by omega)
    have hsl : (sumsF pre).length = 2 ^ pre.length := by rw [sumsF_eq]; simp
    refine ⟨_, ?_, rfl⟩
    rw [bind_ok, compT_all (fun y => y + x) (by omega) (fun _ _ => rfl), bind_ok, catT_k (by rw [List.length_map]; omega), bind_ok]
    unfold sumsF
    rw [List.foldl_append]
    rfl
  · rintro s rfl
    exact ⟨_, rfl, rfl⟩
def wtab (ws : List Int) (q : Int) : Nat → Bool := fun m => decide (q ≤ wsum ws m)
theorem tv_weighted {n : Nat} (hn : n ≤ 16) {ws : List Int} (hl : ws.length = n) (h0 : ∀ w ∈ ws, 0 ≤ w) {q : Int} (hq : 1 ≤ q) (hq2 : q ≤ ws.sum) : t_Rule_weighted ws q = .ok (ruleT (wtab ws q) n) := by
  have T : Tab n (wtab ws q) := weight_tab hl h0 hq hq2
  have hp := pow20 (n := n) (by omega)
  unfold t_Rule_weighted
  have e : (decide (q < 1) || decide (ws.sum < q)) = false := by simp; omega
  rw [e, if_neg (by decide), tv_sums ws (by omega), bind_ok, hl, compT_mapl, compT_all (f := fun m => Res.ok (decide (q ≤ wsum ws m))) (wtab ws q) (by simp; omega) (fun _ _ => rfl), bind_ok, tv_least_lots _ (wtab ws q) n (by omega) rfl, bind_ok, tv_rule_lls (by omega) T]
theorem tv_and {n : Nat} (hn : n ≤ 16) {b c : Nat → Bool} (T : Tab n b) (S : Tab n c) : t_Rule_and (ruleT b n) (ruleT c n) = .ok (ruleT (fun m => b m && c m) n) := by
  have hp := pow20 (n := n) (by omega)
  unfold t_Rule_and
  have e : (!decide ((ruleT b n).1 = (ruleT c n).1)) = false := by simp [ruleT]
  have e1 : (ruleT b n).1 = (n : Int) := rfl
  have e2 : (ruleT b n).2.1 = tl b n := rfl
  have e3 : (ruleT c n).2.1 = tl c n := rfl
  rw [e, if_neg (by decide), e1, e2, e3, tl_len, rng1T_n (by omega), bind_ok, compT_mapl, compT_all (fun m => b m && c m) (by simp; omega) (fun m hm => by
    have hm := List.mem_range.mp hm
    rw [tl_ix hm, bind_ok, tl_ix hm]
    cases b m <;> simp), bind_ok, tv_least_lots _ (fun m => b m && c m) n (by omega) rfl, bind_ok, tv_rule_lls (by omega) (and_tab T S)]
theorem tv_invert {n : Nat} (hn : n ≤ 16) {b : Nat → Bool} (T : Tab n b) : t_Rule_invert (ruleT b n) = .ok (ruleT (fun m => !b (2 ^ n - 1 - m)) n) := by
  have hp := pow20 (n := n) (by omega)
  have hpos := Nat.two_pow_pos n
  unfold t_Rule_invert
  have e1 : (ruleT b n).1 = (n : Int) := rfl
  have e2 : (ruleT b n).2.1 = tl b n := rfl
  rw [e1, e2, tl_len, bind_ok, rng1T_n (by omega), bind_ok, compT_mapl, compT_all (fun m => !b (2 ^ n - 1 - m)) (by simp; omega) (fun m hm => by
    have hm := List.mem_range.mp hm
    rw [show ((2 ^ n : Nat) : Int) - 1 - (m : Int) = ((2 ^ n - 1 - m : Nat) : Int) by omega, tl_ix (by omega), bind_ok]), bind_ok, tv_least_lots _ (fun m => !b (2 ^ n - 1 - m)) n (by omega) rfl, bind_ok, tv_rule_lls (by omega) (inv_tab T)]
theorem tv_or {n : Nat} (hn : n ≤ 15) {b c : Nat → Bool} (T : Tab n b) (S : Tab n c) : t_Rule_or (ruleT b n) (ruleT c n) = .ok (ruleT (fun m => b m || c m) n) := by
  have h16 : 2 ^ n ≤ 32768 := by
    have := Nat.pow_le_pow_right (n := 2) (by decide) hn
    simpa using this
  obtain ⟨nb, eb, pb⟩ := lls_perm b n
  obtain ⟨nc, ec, pc⟩ := lls_perm c n
  have hlb := mins_len (b := b) (n := n)
  have hlc := mins_len (b := c) (n := n)
  unfold t_Rule_or
  have e : (!decide ((ruleT b n).1 = (ruleT c n).1)) = false := by simp [ruleT]
  have e1 : (ruleT b n).1 = (n : Int) := rfl
  have e2 : (ruleT b n).2.2 = lls b n := rfl
  have e3 : (ruleT c n).2.2 = lls c n := rfl
  rw [e, if_neg (by decide), e1, e2, e3, eb, ec, catT_k (by rw [List.length_map, List.length_map, pb.length_eq, pc.length_eq]; omega), bind_ok, ← List.map_append]
  rw [tv_rule n (nb ++ nc) (by omega) (fun z => mins_ne T (by
      have : nb = [] := (List.append_eq_nil_iff.mp z).1
      subst this; exact pb.symm.eq_nil)) (by rw [List.length_append, pb.length_eq, pc.length_eq]; omega) (fun m hm => by
      rcases List.mem_append.mp hm with h | h
      · exact mins_good T m (pb.mem_iff.mp h)
      · exact mins_good S m (pc.mem_iff.mp h))]
  refine congrArg Res.ok (ruleT_congr fun m hm => ?_)
  have : cont (nb ++ nc) m = (cont nb m || cont nc m) := by unfold cont; rw [List.any_append]
  rw [this, cont_perm pb, cont_perm pc, cont_mins T hm, cont_mins S hm]
end Cm
namespace Cm
open PySem FL
theorem take_ne {α : Type} {l : List α} {k : Nat} (h : 0 < l.length) (hk : 0 < k) : l.take k ≠ [] := by
  cases l with
  | nil => simp at h
  | cons a l => cases k with
    | zero => omega
    | succ k => simp
theorem ci_take (l : List Nat) (k : Nat) : (ci l).take k = ci (l.take k) := by simp
theorem ci_drop (l : List Nat) (k : Nat) : (ci l).drop k = ci (l.drop k) := by simp
theorem ci_mem (x : Nat) (l : List Nat) : ((x : Int) ∈ ci l) ↔ x ∈ l := by
  rw [List.mem_map]
  exact ⟨fun ⟨a, h, e⟩ => by have : a = x := by omega
                             subst this; exact h, fun h => ⟨x, h, rfl⟩⟩
/-- items of a list by drawn numbers -/
theorem pick_ok (al xs : List Nat) (ha : al ≠ []) (hx : xs.length < 16777216) : compT (fun (x : Int) => Res.ok true) (fun (x : Int) => (modT x ((List.length (ci al) : Nat) : Int)).bind fun b => ixT (ci al) b) (ci xs) [] = .ok (ci (xs.map fun x => al.getD (x % al.length) 0)) := by
  have hp : 0 < al.length := List.length_pos_iff.mpr ha
  unfold ci
  rw [compT_mapl, compT_all (fun x => ((al.getD (x % al.length) 0 : Nat) : Int)) hx (fun x _ => by
    have := Nat.mod_lt x hp
    rw [List.length_map, modT_n _ (by omega), bind_ok]
    exact ixT_of (by rw [List.getElem?_map, List.getElem?_eq_getElem this, List.getD_eq_getElem?_getD, List.getElem?_eq_getElem this]; rfl)), List.map_map]
  rfl
theorem tv_drawn (n : Nat) (hn : n ≤ 9) (h1 : 1 ≤ n) (r0 r1 r2 : Nat) (h2 : r2 < 126) (fr : List Nat) (hf : fr.length = 126) :
    wpr (t_law_drawn ((r0 : Int) :: (r1 : Int) :: (r2 : Int) :: ci fr) (n : Int)) fun l => ∃ nums, l = ci nums ∧ Good n nums := by
  have h2n : 2 ≤ 2 ^ n := by
    have := Nat.pow_le_pow_right (n := 2) (by decide) h1
    simpa using this
  have h512 : 2 ^ n ≤ 512 := by
    have := Nat.pow_le_pow_right (n := 2) (by decide) hn
    simpa using this
  have e1 : ((2 ^ n : Nat) : Int) - 1 = ((2 ^ n - 1 : Nat) : Int) := by omega
  generalize hF : (fr.map fun x => 1 + x % (2 ^ n - 1)) = F
  have hFl : F.length = 126 := by rw [← hF]; simpa using hf
  have hFg : ∀ m ∈ F, m ≠ 0 ∧ m < 2 ^ n := fun m h => by
    rw [← hF] at h
    obtain ⟨x, _, rfl⟩ := List.mem_map.mp h
    have := Nat.mod_lt x (show 2 ^ n - 1 > 0 by omega)
    omega
  have hcut : cutT ((r0 : Int) :: (r1 : Int) :: (r2 : Int) :: ci fr) (some (3 : Int)) none = ci fr := cut_lo _ 3 (by simp)
  have hfree : compT (fun (x : Int) => Res.ok true) (fun (x : Int) => (modT x ((2 ^ n - 1 : Nat) : Int)).bind fun b => Res.ok ((1 : Int) + b)) (ci fr) [] = .ok (ci F) := by
    rw [← hF]
    unfold ci
    rw [compT_mapl, compT_all (fun x => ((1 + x % (2 ^ n - 1) : Nat) : Int)) (by omega) (fun x _ => by rw [modT_n _ (by omega), bind_ok]; congr 1)]
    rw [List.map_map]; rfl
  have hfew : (1 : Int) + ((r2 % 12 : Nat) : Int) = ((1 + r2 % 12 : Nat) : Int) := by omega
  have hm12 : modT (r2 : Int) 12 = .ok ((r2 % 12 : Nat) : Int) := modT_n r2 (b := 12) (by decide)
  have hm4 : modT (r2 : Int) 4 = .ok ((r2 % 4 : Nat) : Int) := modT_n r2 (b := 4) (by decide)
  have hmlt := Nat.mod_lt r2 (show 12 > 0 by decide)
  generalize hfw : 1 + r2 % 12 = few at hfew
  have hsub : ∀ (a : List Nat), (∀ x ∈ a, x ∈ F) → a ≠ [] → a.length ≤ 2000 → Good n a := fun a h1 h2 h3 => ⟨h2, h3, fun m hm => hFg m (h1 m hm)⟩
  have i1 : ixT ((r0 : Int) :: (r1 : Int) :: (r2 : Int) :: ci fr) 1 = .ok (r1 : Int) := by simp
  have i2 : ixT ((r0 : Int) :: (r1 : Int) :: (r2 : Int) :: ci fr) 2 = .ok (r2 : Int) := by simp
  unfold t_law_drawn
  generalize (r0 : Int) :: (r1 : Int) :: (r2 : Int) :: ci fr = row at *
  simp only [shlT_1 (show n ≤ 1000 by omega), bind_ok, e1, hcut, hfree, i1, i2, hm12, hfew]
  by_cases c0 : r1 = 0
  · simp only [c0, Int.ofNat_zero, decide_true, if_true, cut_hi]
    exact ⟨_, rfl, F.take few, ci_take _ _, hsub _ (fun x hx => List.mem_of_mem_take hx) (take_ne (by omega) (by omega)) (by simp; omega)⟩
  have d0 : decide ((r1 : Int) = 0) = false := by simp; omega
  simp only [d0, Bool.false_eq_true, if_false]
  by_cases c1 : r1 = 1
  · have e : (1 : Int) + (r2 : Int) = ((1 + r2 : Nat) : Int) := by omega
    have d1 : decide ((r1 : Int) = 1) = true := by simp; omega
    simp only [d1, if_true, e, cut_hi]
    exact ⟨_, rfl, F.take (1 + r2), ci_take _ _, hsub _ (fun x hx => List.mem_of_mem_take hx) (take_ne (by omega) (by omega)) (by simp; omega)⟩
  have d1 : decide ((r1 : Int) = 1) = false := by simp; omega
  simp only [d1, Bool.false_eq_true, if_false]
  obtain ⟨f0, hf0⟩ : ∃ f0, F[0]? = some f0 := ⟨F[0]'(by omega), by simp [hFl]⟩
  obtain ⟨f5, hf5⟩ : ∃ f0, F[5]? = some f0 := ⟨F[5]'(by omega), by simp [hFl]⟩
  have j0 : ixT (ci F) 0 = .ok (f0 : Int) := by simp [hf0]
  have j5 : ixT (ci F) 5 = .ok (f5 : Int) := by simp [hf5]
  have hsz : (1 : Int) + ((f0 % n : Nat) : Int) = ((1 + f0 % n : Nat) : Int) := by omega
  have hsl := Nat.mod_lt f0 (show n > 0 by omega)
  simp only [j0, bind_ok, modT_n f0 (show n ≠ 0 by omega), hsz]
  generalize hs : 1 + f0 % n = size
  have hF0 : f0 ≠ 0 ∧ f0 < 2 ^ n := hFg f0 (List.mem_of_getElem? hf0)
  have hn20 : n ≤ 20 := by omega
  have hszl : ∀ lo hi, (sized n lo hi).length ≤ 512 := fun lo hi => by
    unfold sized
    have := List.length_filter_le (fun m => decide (lo ≤ (vot n m).length) && decide ((vot n m).length ≤ hi)) ((List.range (2 ^ n - 1)).map fun k => 1 + k)
    simp only [List.length_map, List.length_range] at this
    omega
  have hszg : ∀ lo hi, ∀ m ∈ sized n lo hi, m ≠ 0 ∧ m < 2 ^ n := fun lo hi m hm => ⟨(mem_sized.mp hm).1, (mem_sized.mp hm).2.1⟩
  by_cases c2 : r1 = 2
  · have d2 : decide ((r1 : Int) = 2) = true := by simp; omega
    have q1 : (size : Int) + 1 = ((size + 1 : Nat) : Int) := by omega
    have q2 : (2 : Int) + 3 * (few : Int) = ((2 + 3 * few : Nat) : Int) := by omega
    have hne : sized n size (size + 1) ≠ [] := sized_ne (by omega) (by omega) (by omega)
    simp only [d2, if_true, q1, tv_sized n _ _ hn20, bind_ok, mulT_b (show (-1000000000000000000000000000000 : Int) ≤ 3 by omega) (by omega) (show (-1000000000000000000000000000000 : Int) ≤ (few : Int) by omega) (by omega), q2]
    have hc := cut_mid (ci F) 1 (2 + 3 * few) (by simp; omega)
    rw [show ((1 : Nat) : Int) = 1 from rfl] at hc
    rw [hc, ci_drop, ci_take]
    have hp := pick_ok (sized n size (size + 1)) ((F.drop 1).take (2 + 3 * few - 1)) hne (by simp; omega)
    unfold ci at hp ⊢
    rw [hp]
    exact ⟨_, rfl, _, rfl, good_pick hne (hszg _ _) (take_ne (by simp; omega) (by omega)) (by simp; omega)⟩
  have d2 : decide ((r1 : Int) = 2) = false := by simp; omega
  simp only [d2, Bool.false_eq_true, if_false]
  by_cases c3 : r1 = 3
  · have d3 : decide ((r1 : Int) = 3) = true := by simp; omega
    have q2 : (1 : Int) + ((r2 % 4 : Nat) : Int) = ((1 + r2 % 4 : Nat) : Int) := by omega
    have hne : sized n size size ≠ [] := sized_ne (by omega) (by omega) (by omega)
    simp only [d3, if_true, tv_sized n _ _ hn20, bind_ok, hm4, q2]
    have hc := cut_mid (ci F) 1 (1 + r2 % 4) (by simp; omega)
    rw [show ((1 : Nat) : Int) = 1 from rfl] at hc
    rw [hc, ci_drop, ci_take]
    have hp := pick_ok (sized n size size) ((F.drop 1).take (1 + r2 % 4 - 1)) hne (by simp; omega)
    have hg := hszg size size
    have hl := hszl size size
    generalize sized n size size = al at *
    unfold ci at hp ⊢
    rw [hp]
    generalize ((F.drop 1).take (1 + r2 % 4 - 1)).map (fun x => al.getD (x % al.length) 0) = gone
    simp only [bind_ok]
    have ht : compT (fun (x : Int) => Res.ok (!decide (x ∈ List.map (fun (x : Nat) => (x : Int)) gone))) (fun (x : Int) => Res.ok x) (List.map (fun (x : Nat) => (x : Int)) al) [] = .ok (ci (al.filter fun x => !decide (x ∈ gone))) := by
      rw [compT_mapl, compT_flt (fun x => !decide (x ∈ gone)) (fun x => (x : Int)) (by omega) (fun x _ => by rw [nat_dec (ci_mem x gone)]) (fun x _ _ => rfl)]
    rw [ht]
    simp only [bind_ok]
    have rot : ∀ l : List Nat, l ≠ [] → l.length ≤ 512 → (∀ m ∈ l, m ≠ 0 ∧ m < 2 ^ n) → wpr ((modT (f5 : Int) ((List.length (ci l) : Nat) : Int)).bind fun at' => catT (cutT (ci l) (some at') none) (cutT (ci l) none (some at'))) fun l => ∃ nums, l = List.map (fun (x : Nat) => (x : Int)) nums ∧ Good n nums := by
      intro l hl0 hll hlg
      have hp0 : 0 < l.length := List.length_pos_iff.mpr hl0
      have hml := Nat.mod_lt f5 hp0
      rw [show (ci l).length = l.length by simp, modT_n _ (by omega), bind_ok, cut_hi, cut_lo _ _ (by simp; omega), ci_drop, ci_take, catT_k (by simp; omega)]
      refine ⟨_, rfl, l.drop (f5 % l.length) ++ l.take (f5 % l.length), by simp, ?_, by simp; omega, ?_⟩
      · intro e
        have := congrArg List.length e
        simp at this
        omega
      · intro m hm
        rcases List.mem_append.mp hm with h | h
        · exact hlg m (List.mem_of_mem_drop h)
        · exact hlg m (List.mem_of_mem_take h)
    have hfl := List.length_filter_le (fun x => !decide (x ∈ gone)) al
    by_cases hz : (al.filter fun x => !decide (x ∈ gone)) = []
    · have : decide (((List.length (ci (al.filter fun x => !decide (x ∈ gone))) : Nat) : Int) = 0) = true := by rw [hz]; rfl
      simp only [this, if_true, j5, bind_ok]
      exact rot al hne hl hg
    · have : decide (((List.length (ci (al.filter fun x => !decide (x ∈ gone))) : Nat) : Int) = 0) = false := by
        have := List.length_pos_iff.mpr hz
        rw [decide_eq_false_iff_not, show (ci (al.filter fun x => !decide (x ∈ gone))).length = (al.filter fun x => !decide (x ∈ gone)).length by simp]
        omega
      simp only [this, Bool.false_eq_true, if_false, j5, bind_ok]
      exact rot _ hz (by omega) (fun m hm => hg m (List.mem_filter.mp hm).1)
  have d3 : decide ((r1 : Int) = 3) = false := by simp; omega
  simp only [d3, Bool.false_eq_true, if_false]
  by_cases c4 : r1 = 4
  · have d4 : decide ((r1 : Int) = 4) = true := by simp; omega
    have q2 : (1 : Int) + 2 * (few : Int) = ((1 + 2 * few : Nat) : Int) := by omega
    simp only [d4, if_true, bind_ok, mulT_b (show (-1000000000000000000000000000000 : Int) ≤ 2 by omega) (by omega) (show (-1000000000000000000000000000000 : Int) ≤ (few : Int) by omega) (by omega), q2]
    have hc := cut_mid (ci F) 1 (1 + 2 * few) (by simp; omega)
    rw [show ((1 : Nat) : Int) = 1 from rfl] at hc
    rw [hc, ci_drop, ci_take]
    have hlen : ((F.drop 1).take (1 + 2 * few - 1)).length ≤ 126 := by simp; omega
    generalize (F.drop 1).take (1 + 2 * few - 1) = ch at *
    refine wpr_b ?_
    unfold ci
    rw [foldT_map]
    refine wpr_imp (wpr_fold (fun pre (s : Int × List Int) => ∃ (m : Nat) (l : List Nat), s = ((m : Int), ci l) ∧ m < 2 ^ n ∧ l.length = pre.length + 1 ∧ ∀ m ∈ l, m ≠ 0 ∧ m < 2 ^ n) ⟨f0, [f0], rfl, hF0.2, rfl, by simpa using hF0⟩ ?_) ?_
    · rintro pre x post s e ⟨m, l, rfl, hm, hl, hg⟩
      have hmx := Nat.mod_lt x (show n > 0 by omega)
      have hx1 : 2 ^ (x % n) < 2 ^ n := Nat.pow_lt_pow_right (by decide) hmx
      have hx2 : m ^^^ 2 ^ (x % n) < 2 ^ n := Nat.xor_lt_two_pow hm hx1
      have hll : l.length < 16777215 := by
        have := congrArg List.length e
        simp at this
        omega
      simp only [bind_ok, modT_n x (show n ≠ 0 by omega), shlT_1 (show x % n ≤ 1000 by omega), bxor_nat]
      by_cases z : m ^^^ 2 ^ (x % n) = 0
      · have : decide (((m ^^^ 2 ^ (x % n) : Nat) : Int) = 0) = true := by rw [z]; rfl
        simp only [this, if_true, bind_ok]
        rw [appT_k (by simpa using hll)]
        exact ⟨_, rfl, 2 ^ n - 1, l ++ [2 ^ n - 1], by simp, by omega, by simp [hl], by
          intro k hk
          rcases List.mem_append.mp hk with h | h
          · exact hg k h
          · rw [List.mem_singleton.mp h]; omega⟩
      · have : decide (((m ^^^ 2 ^ (x % n) : Nat) : Int) = 0) = false := by simp; omega
        simp only [this, Bool.false_eq_true, if_false, bind_ok]
        rw [appT_k (by simpa using hll)]
        exact ⟨_, rfl, _, l ++ [m ^^^ 2 ^ (x % n)], by simp, hx2, by simp [hl], by
          intro k hk
          rcases List.mem_append.mp hk with h | h
          · exact hg k h
          · rw [List.mem_singleton.mp h]; exact ⟨z, hx2⟩⟩
    · rintro s ⟨m, l, rfl, hm, hl, hg⟩
      exact ⟨_, rfl, l, rfl, fun e => by rw [e] at hl; simp at hl, by omega, hg⟩
  have d4 : decide ((r1 : Int) = 4) = false := by simp; omega
  simp only [d4, Bool.false_eq_true, if_false]
  have q2 : (1 : Int) + (few : Int) = ((1 + few : Nat) : Int) := by omega
  have hc := cut_mid (ci F) 1 (1 + few) (by simp; omega)
  rw [show ((1 : Nat) : Int) = 1 from rfl] at hc
  rw [q2, hc, ci_drop, ci_take]
  have hlen : ((F.drop 1).take (1 + few - 1)).length ≤ 126 := by simp; omega
  have hne : (F.drop 1).take (1 + few - 1) ≠ [] := take_ne (by simp; omega) (by omega)
  generalize (F.drop 1).take (1 + few - 1) = ch at *
  unfold ci
  rw [compT_mapl, compT_all (fun x => ((2 ^ (x % n) ||| 2 ^ (x / 9 % n) : Nat) : Int)) (by omega) (fun x _ => by
    have h1 := Nat.mod_lt x (show n > 0 by omega)
    have h2 := Nat.mod_lt (x / 9) (show n > 0 by omega)
    have h9 : divT (x : Int) 9 = .ok ((x / 9 : Nat) : Int) := divT_n x (b := 9) (by decide) (by decide)
    simp only [bind_ok, modT_n x (show n ≠ 0 by omega), shlT_1 (show x % n ≤ 1000 by omega), h9, modT_n (x / 9) (show n ≠ 0 by omega), shlT_1 (show x / 9 % n ≤ 1000 by omega), bor_nat])]
  refine ⟨_, rfl, ch.map fun x => 2 ^ (x % n) ||| 2 ^ (x / 9 % n), by rw [List.map_map]; rfl, by simpa using hne, by simp; omega, fun m hm => ?_⟩
  obtain ⟨x, _, rfl⟩ := List.mem_map.mp hm
  have h1 := Nat.pow_lt_pow_right (a := 2) (by decide) (Nat.mod_lt x (show n > 0 by omega))
  have h2 := Nat.pow_lt_pow_right (a := 2) (by decide) (Nat.mod_lt (x / 9) (show n > 0 by omega))
  refine ⟨fun e => ?_, Nat.or_lt_two_pow h1 h2⟩
  have : 2 ^ (x % n) ≤ 2 ^ (x % n) ||| 2 ^ (x / 9 % n) := Nat.left_le_or
  have := Nat.two_pow_pos (x % n)
  omega
end Cm
namespace Cm
open PySem FL
/-! ## rules by words -/
inductive Wd where
  | we (ws : List Int) (q : Int) | lo (ls : List Nat) | bo (a b : Wd) | ei (a b : Wd) | op (a : Wd)
def encW (n : Nat) : Wd → D
  | .we ws q => D.tup [Ty.enc .s ("weights" : Str), Ty.enc (.tup .z) ws, Ty.enc .z q]
  | .lo ls => D.tup [Ty.enc .s ("lots" : Str), Ty.enc (.tup (.tup .z)) (ls.map (vot n))]
  | .bo a b => D.tup [Ty.enc .s ("both" : Str), encW n a, encW n b]
  | .ei a b => D.tup [Ty.enc .s ("either" : Str), encW n a, encW n b]
  | .op a => D.tup [Ty.enc .s ("opposite" : Str), encW n a]
def WOk (n : Nat) : Wd → Prop
  | .we ws q => ws.length = n ∧ (∀ w ∈ ws, 0 ≤ w) ∧ 1 ≤ q ∧ q ≤ ws.sum
  | .lo ls => Good n ls
  | .bo a b => WOk n a ∧ WOk n b
  | .ei a b => WOk n a ∧ WOk n b
  | .op a => WOk n a
def tabW (n : Nat) : Wd → Nat → Bool
  | .we ws q => wtab ws q
  | .lo ls => cont ls
  | .bo a b => fun m => tabW n a m && tabW n b m
  | .ei a b => fun m => tabW n a m || tabW n b m
  | .op a => fun m => !tabW n a (2 ^ n - 1 - m)
def Wd.dp : Wd → Nat
  | .we _ _ => 0
  | .lo _ => 0
  | .bo a b => max a.dp b.dp + 1
  | .ei a b => max a.dp b.dp + 1
  | .op a => a.dp + 1
theorem tabW_tab {n : Nat} : ∀ {w : Wd}, WOk n w → Tab n (tabW n w)
  | .we ws q, h => weight_tab h.1 h.2.1 h.2.2.1 h.2.2.2
  | .lo ls, h => cont_tab h.1 h.2.2
  | .bo a b, h => and_tab (tabW_tab h.1) (tabW_tab h.2)
  | .ei a b, h => or_tab (tabW_tab h.1) (tabW_tab h.2)
  | .op a, h => inv_tab (tabW_tab (w := a) h)
theorem strT_k {a b : Str} (h : (PyData.strOk a && PyData.strOk b) = true) : strT a b = .ok (decide (a = b)) := iteC_pos h _ _
theorem sw1 : strT ("weights" : Str) ("weights" : Str) = .ok true := by rw [strT_k (by decide +kernel)]; simp
theorem sw2 : strT ("lots" : Str) ("weights" : Str) = .ok false := by rw [strT_k (by decide +kernel)]; exact congrArg Res.ok (by decide +kernel)
theorem sw3 : strT ("lots" : Str) ("lots" : Str) = .ok true := by rw [strT_k (by decide +kernel)]; simp
theorem sw4 : strT ("both" : Str) ("weights" : Str) = .ok false := by rw [strT_k (by decide +kernel)]; exact congrArg Res.ok (by decide +kernel)
theorem sw5 : strT ("both" : Str) ("lots" : Str) = .ok false := by rw [strT_k (by decide +kernel)]; exact congrArg Res.ok (by decide +kernel)
theorem sw6 : strT ("both" : Str) ("opposite" : Str) = .ok false := by rw [strT_k (by decide +kernel)]; exact congrArg Res.ok (by decide +kernel)
theorem sw7 : strT ("both" : Str) ("both" : Str) = .ok true := by rw [strT_k (by decide +kernel)]; simp
theorem sw8 : strT ("either" : Str) ("weights" : Str) = .ok false := by rw [strT_k (by decide +kernel)]; exact congrArg Res.ok (by decide +kernel)
theorem sw9 : strT ("either" : Str) ("lots" : Str) = .ok false := by rw [strT_k (by decide +kernel)]; exact congrArg Res.ok (by decide +kernel)
theorem sw10 : strT ("either" : Str) ("opposite" : Str) = .ok false := by rw [strT_k (by decide +kernel)]; exact congrArg Res.ok (by decide +kernel)
theorem sw11 : strT ("either" : Str) ("both" : Str) = .ok false := by rw [strT_k (by decide +kernel)]; exact congrArg Res.ok (by decide +kernel)
theorem sw12 : strT ("opposite" : Str) ("weights" : Str) = .ok false := by rw [strT_k (by decide +kernel)]; exact congrArg Res.ok (by decide +kernel)
theorem sw13 : strT ("opposite" : Str) ("lots" : Str) = .ok false := by rw [strT_k (by decide +kernel)]; exact congrArg Res.ok (by decide +kernel)
theorem sw14 : strT ("opposite" : Str) ("opposite" : Str) = .ok true := by rw [strT_k (by decide +kernel)]; simp
theorem rix0 (a : D) (l : List D) : rawIx (D.tup (a :: l)) 0 = .ok a := by unfold rawIx; simp
theorem rix1 (a b : D) (l : List D) : rawIx (D.tup (a :: b :: l)) 1 = .ok b := by unfold rawIx; simp
theorem rix2 (a b c : D) (l : List D) : rawIx (D.tup (a :: b :: c :: l)) 2 = .ok c := by unfold rawIx; simp
theorem cs (x : Str) : castT .s (Ty.enc .s x) = .ok x := castT_ok (t := .s) rfl x
theorem cz (x : Int) : castT .z (Ty.enc .z x) = .ok x := castT_ok (t := .z) rfl x
theorem ctz (x : List Int) : castT (.tup .z) (Ty.enc (.tup .z) x) = .ok x := castT_ok (t := (.tup .z)) rfl x
theorem cttz (x : List (List Int)) : castT (.tup (.tup .z)) (Ty.enc (.tup (.tup .z)) x) = .ok x := castT_ok (t := (.tup (.tup .z))) rfl x
theorem tv_law_number (n m : Nat) (hn : n ≤ 1000) (hm : m < 2 ^ n) : t_law_number (vot n m) = .ok (m : Int) := by
  unfold t_law_number
  refine wpr_eq' (wpr_be rfl (wpr_b ?_))
  unfold vot
  rw [foldT_map]
  refine wpr_imp (wpr_fold (fun pre (s : Int) => s = ((lotn pre : Nat) : Int)) rfl ?_) ?_
  · rintro pre x post s e rfl
    have hx : x < n := (mem_bits.mp (show x ∈ bits n m by rw [e]; simp)).1
    rw [bind_ok, shlT_1 (by omega), bind_ok, bind_ok]
    refine ⟨_, rfl, ?_⟩
    unfold lotn
    simp
  · rintro s rfl
    exact ⟨_, rfl, by rw [lotn_vot hm]⟩
theorem tv_table_n {n : Nat} (hn : n ≤ 15) : ∀ (w : Wd) (d : Nat), WOk n w → w.dp < d → t_law_table_n d (encW n w) (n : Int) = .ok (tl (tabW n w) n)
  | _, 0, _, h => by omega
  | .we ws q, d + 1, h, _ => by
    have hp := pow20 (n := n) (by omega)
    unfold t_law_table_n encW
    simp only [shlT_1 (show n ≤ 1000 by omega), bind_ok, rix0, rix1, rix2, cs, ctz, cz, sw1, if_true]
    refine wpr_eq' (wpr_b (wpr_imp (wpr_fold (fun pre (s : List Int) => s = sumsF pre) rfl ?_) ?_))
    · rintro pre x post s e rfl
      have hle : pre.length < n := by
        have := congrArg List.length e
        have := h.1
        simp at *; omega
      have hp := pow20 (n := pre.length) (by omega)
      have hsl : (sumsF pre).length = 2 ^ pre.length := by rw [sumsF_eq]; simp
      refine ⟨_, ?_, rfl⟩
      rw [compT_all (fun y => y + x) (by omega) (fun _ _ => rfl), bind_ok, catT_k (by rw [List.length_map]; omega)]
      unfold sumsF
      rw [List.foldl_append]
      rfl
    · rintro s rfl
      refine ⟨_, ?_, rfl⟩
      rw [sumsF_eq, h.1, compT_mapl]
      exact compT_all (f := fun m => Res.ok (decide (q ≤ wsum ws m))) (wtab ws q) (by simp; omega) (fun _ _ => rfl)
  | .lo ls, d + 1, h, _ => by
    have hp := pow20 (n := n) (by omega)
    unfold t_law_table_n encW
    simp only [shlT_1 (show n ≤ 1000 by omega), bind_ok, rix0, rix1, rix2, cs, cttz, sw2, sw3, if_true, Bool.false_eq_true, if_false]
    rw [compT_mapl, compT_all (fun m => ((m : Nat) : Int)) (by have := h.2.1; omega) (fun m hm => tv_law_number n m (by omega) (h.2.2 m hm).2), bind_ok, rng1T_n (by omega), bind_ok, compT_mapl]
    refine compT_all (cont ls) (by simp; omega) fun m hm => ?_
    rw [compT_mapl, compT_all (fun t => decide (t &&& m = t)) (by have := h.2.1; omega) (fun t _ => by
      rw [band_nat, nat_dec (show (((m &&& t : Nat) : Int) = (t : Int)) ↔ t &&& m = t by rw [Nat.and_comm]; omega)]), bind_ok]
    unfold cont
    rw [List.any_map]
    rfl
  | .op a, d + 1, h, hd => by
    have hp := pow20 (n := n) (by omega)
    have hpos := Nat.two_pow_pos n
    have ia := tv_table_n hn a d h (by simp only [Wd.dp] at hd; omega)
    unfold t_law_table_n encW
    simp only [shlT_1 (show n ≤ 1000 by omega), bind_ok, rix0, rix1, rix2, cs, sw12, sw13, sw14, if_true, Bool.false_eq_true, if_false, ia]
    rw [rng1T_n (by omega), bind_ok, compT_mapl]
    refine compT_all (tabW n (.op a)) (by simp; omega) fun m hm => ?_
    have hm := List.mem_range.mp hm
    rw [show ((2 ^ n : Nat) : Int) - 1 - (m : Int) = ((2 ^ n - 1 - m : Nat) : Int) by omega, tl_ix (by omega), bind_ok]
    rfl
  | .bo a b, d + 1, h, hd => by
    have hp := pow20 (n := n) (by omega)
    simp only [Wd.dp] at hd
    have ia := tv_table_n hn a d h.1 (by omega)
    have ib := tv_table_n hn b d h.2 (by omega)
    unfold t_law_table_n encW
    simp only [shlT_1 (show n ≤ 1000 by omega), bind_ok, rix0, rix1, rix2, cs, sw4, sw5, sw6, sw7, if_true, Bool.false_eq_true, if_false, ia, ib]
    rw [rng1T_n (by omega), bind_ok, compT_mapl]
    refine compT_all (tabW n (.bo a b)) (by simp; omega) fun m hm => ?_
    have hm := List.mem_range.mp hm
    rw [tl_ix hm, bind_ok, tl_ix hm]
    show _ = Res.ok (tabW n a m && tabW n b m)
    cases tabW n a m <;> simp
  | .ei a b, d + 1, h, hd => by
    have hp := pow20 (n := n) (by omega)
    simp only [Wd.dp] at hd
    have ia := tv_table_n hn a d h.1 (by omega)
    have ib := tv_table_n hn b d h.2 (by omega)
    unfold t_law_table_n encW
    simp only [shlT_1 (show n ≤ 1000 by omega), bind_ok, rix0, rix1, rix2, cs, sw8, sw9, sw10, sw11, if_true, Bool.false_eq_true, if_false, ia, ib]
    rw [rng1T_n (by omega), bind_ok, compT_mapl]
    refine compT_all (tabW n (.ei a b)) (by simp; omega) fun m hm => ?_
    have hm := List.mem_range.mp hm
    rw [tl_ix hm, bind_ok, tl_ix hm]
    show _ = Res.ok (tabW n a m || tabW n b m)
    cases tabW n a m <;> simp
theorem tv_rule_n {n : Nat} (hn : n ≤ 15) : ∀ (w : Wd) (d : Nat), WOk n w → w.dp < d → t_law_rule_n d (encW n w) (n : Int) = .ok (ruleT (tabW n w) n)
  | _, 0, _, h => by omega
  | .we ws q, d + 1, h, _ => by
    unfold t_law_rule_n encW
    simp only [bind_ok, rix0, rix1, rix2, cs, ctz, cz, sw1, if_true]
    exact tv_weighted (by omega) h.1 h.2.1 h.2.2.1 h.2.2.2
  | .lo ls, d + 1, h, _ => by
    unfold t_law_rule_n encW
    simp only [bind_ok, rix0, rix1, rix2, cs, cttz, sw2, sw3, if_true, Bool.false_eq_true, if_false]
    exact tv_rule n ls (by omega) h.1 (by have := h.2.1; omega) h.2.2
  | .op a, d + 1, h, hd => by
    have ia := tv_rule_n hn a d h (by simp only [Wd.dp] at hd; omega)
    unfold t_law_rule_n encW
    simp only [bind_ok, rix0, rix1, rix2, cs, sw12, sw13, sw14, if_true, Bool.false_eq_true, if_false, ia]
    exact tv_invert (by omega) (tabW_tab (w := a) h)
  | .bo a b, d + 1, h, hd => by
    simp only [Wd.dp] at hd
    have ia := tv_rule_n hn a d h.1 (by omega)
    have ib := tv_rule_n hn b d h.2 (by omega)
    unfold t_law_rule_n encW
    simp only [bind_ok, rix0, rix1, rix2, cs, sw4, sw5, sw6, sw7, if_true, Bool.false_eq_true, if_false, ia, ib]
    exact tv_and (by omega) (tabW_tab h.1) (tabW_tab h.2)
  | .ei a b, d + 1, h, hd => by
    simp only [Wd.dp] at hd
    have ia := tv_rule_n hn a d h.1 (by omega)
    have ib := tv_rule_n hn b d h.2 (by omega)
    unfold t_law_rule_n encW
    simp only [bind_ok, rix0, rix1, rix2, cs, sw8, sw9, sw10, sw11, if_true, Bool.false_eq_true, if_false, ia, ib]
    exact tv_or hn (tabW_tab h.1) (tabW_tab h.2)
end Cm
namespace Cm
open PySem FL
theorem bind_as {α β γ : Type} {x : Res α} {f : α → Res β} {g : β → Res γ} : (x.bind f).bind g = x.bind fun a => (f a).bind g := by cases x <;> rfl
theorem four_ok (j : Nat) (h : j < 4) : ∃ c : Nat, ixT [(31 : Int), 4, 2, 6] (j : Int) = .ok (c : Int) ∧ 0 < c ∧ c ≤ 31 := by
  have : j = 0 ∨ j = 1 ∨ j = 2 ∨ j = 3 := by omega
  rcases this with rfl | rfl | rfl | rfl
  · exact ⟨31, rfl, by omega, by omega⟩
  · exact ⟨4, rfl, by omega, by omega⟩
  · exact ⟨2, rfl, by omega, by omega⟩
  · exact ⟨6, rfl, by omega, by omega⟩
theorem sum_ci : ∀ l : List Nat, (ci l).sum = ((l.sum : Nat) : Int)
  | [] => rfl
  | a :: l => by
    show (a : Int) + (ci l).sum = _
    rw [sum_ci l]; simp
theorem sum_ones (n : Nat) : (List.replicate n 1).sum = n := by simp
theorem half_ok {n : Nat} (h : 1 ≤ n) : WOk n (.we (ci (List.replicate n 1)) ((n / 2 + 1 : Nat) : Int)) := by
  refine ⟨by simp, fun w hw => ?_, by omega, ?_⟩
  · obtain ⟨a, _, rfl⟩ := List.mem_map.mp hw; omega
  · rw [sum_ci, sum_ones]; omega
theorem ones_ok {n q : Nat} (h : 1 ≤ q) (h2 : q ≤ n) : WOk n (.we (ci (List.replicate n 1)) (q : Int)) := by
  refine ⟨by simp, fun w hw => ?_, by omega, ?_⟩
  · obtain ⟨a, _, rfl⟩ := List.mem_map.mp hw; omega
  · rw [sum_ci, sum_ones]; omega
theorem nats_ok {n q : Nat} {ws : List Nat} (hl : ws.length = n) (h : 1 ≤ q) (h2 : q ≤ ws.sum) : WOk n (.we (ci ws) (q : Int)) := by
  refine ⟨by simp [hl], fun w hw => ?_, by omega, ?_⟩
  · obtain ⟨a, _, rfl⟩ := List.mem_map.mp hw; omega
  · rw [sum_ci]; omega
theorem pow9 : powT 2 9 = .ok 512 := by
  rw [powT, iteC_pos (by decide)]
  rfl
theorem tv_words (n : Nat) (hn : n ≤ 9) (h1 : 1 ≤ n) (r0 r1 : Nat) (h0 : r0 < 12) (V X : List Nat) (hV : V.length = 9) (hX : X.length = 3) (rest : List Int) :
    ∃ w, t_law_words ((r0 : Int) :: (r1 : Int) :: (ci V ++ (ci X ++ rest))) (n : Int) = .ok (encW n w) ∧ WOk n w ∧ w.dp ≤ 1 := by
  generalize hrow : (r0 : Int) :: (r1 : Int) :: (ci V ++ (ci X ++ rest)) = row
  have i0 : ixT row 0 = .ok (r0 : Int) := by rw [← hrow]; simp
  have i1 : ixT row 1 = .ok (r1 : Int) := by rw [← hrow]; simp
  have iV : ∀ k : Nat, k < 9 → ixT row (2 + (k : Int)) = .ok ((V.getD k 0 : Nat) : Int) := fun k hk => by
    rw [show (2 : Int) + (k : Int) = ((k + 2 : Nat) : Int) by omega]
    refine ixT_of ?_
    rw [← hrow, List.getElem?_cons_succ, List.getElem?_cons_succ, List.getElem?_append_left (by simp; omega), List.getElem?_map, List.getElem?_eq_getElem (by omega), List.getD_eq_getElem?_getD, List.getElem?_eq_getElem (by omega)]
    rfl
  have iX : ∀ k : Nat, k < 3 → ixT row (11 + (k : Int)) = .ok ((X.getD k 0 : Nat) : Int) := fun k hk => by
    rw [show (11 : Int) + (k : Int) = ((k + 11 : Nat) : Int) by omega]
    refine ixT_of ?_
    rw [← hrow, show k + 11 = (k + 9) + 1 + 1 by omega, List.getElem?_cons_succ, List.getElem?_cons_succ, List.getElem?_append_right (by simp; omega)]
    have : k + 9 - (ci V).length = k := by simp; omega
    rw [this, List.getElem?_append_left (by simp; omega), List.getElem?_map, List.getElem?_eq_getElem (by omega), List.getD_eq_getElem?_getD, List.getElem?_eq_getElem (by omega)]
    rfl
  clear hrow
  have hal : compT (fun (_ : Int) => Res.ok true) (fun (_ : Int) => Res.ok (1 : Int)) ((List.range n).map fun (k : Nat) => (k : Int)) [] = .ok (ci (List.replicate n 1)) := by
    rw [compT_mapl, compT_all (f := fun _ => Res.ok (1 : Int)) (fun _ => (1 : Int)) (by simp; omega) (fun _ _ => rfl)]
    refine congrArg Res.ok ?_
    apply List.ext_getElem <;> simp
  obtain ⟨c, hc, hc0, hc1⟩ := four_ok (r1 % 4) (Nat.mod_lt _ (by decide))
  have m4 : modT (r1 : Int) 4 = .ok ((r1 % 4 : Nat) : Int) := modT_n r1 (b := 4) (by decide)
  have m3 : modT (r1 : Int) 3 = .ok ((r1 % 3 : Nat) : Int) := modT_n r1 (b := 3) (by decide)
  have h2n : 2 ≤ 2 ^ n := by
    have := Nat.pow_le_pow_right (n := 2) (by decide) h1
    simpa using this
  have h512 : 2 ^ n ≤ 512 := by
    have := Nat.pow_le_pow_right (n := 2) (by decide) hn
    simpa using this
  have hw : compT (fun (_ : Int) => Res.ok true) (fun (x : Int) => (ixT row (2 + x)).bind fun a => modT a (c : Int)) ((List.range n).map fun (k : Nat) => (k : Int)) [] = .ok (ci ((List.range n).map fun k => V.getD k 0 % c)) := by
    rw [compT_mapl, compT_all (fun k => ((V.getD k 0 % c : Nat) : Int)) (by simp; omega) (fun k hk => by
      have := List.mem_range.mp hk
      rw [iV k (by omega), bind_ok, modT_n _ (by omega)])]
    refine congrArg Res.ok ?_
    unfold ci
    rw [List.map_map]
    rfl
  have e1 : ((2 ^ n : Nat) : Int) - 1 = ((2 ^ n - 1 : Nat) : Int) := by omega
  let M : Nat → Nat := fun k => 1 + X.getD k 0 % 511 % (2 ^ n - 1)
  have hM : ∀ k, M k ≠ 0 ∧ M k < 2 ^ n := fun k => by
    have := Nat.mod_lt (X.getD k 0 % 511) (show 2 ^ n - 1 > 0 by omega)
    constructor <;> (show _; simp only [M]; omega)
  have hlots : compT (fun (_ : Int) => Res.ok true) (fun (x : Int) => (ixT row (11 + x)).bind fun a => (modT a 511).bind fun b => (modT b ((2 ^ n - 1 : Nat) : Int)).bind fun d => t_law_voters (1 + d) (n : Int)) [(0 : Int), 1, 2] [] = .ok (([0, 1, 2].map M).map (vot n)) := by
    have e : [(0 : Int), 1, 2] = [0, 1, 2].map fun (k : Nat) => (k : Int) := rfl
    rw [e, compT_mapl, compT_all (fun k => vot n (M k)) (by simp) (fun k hk => by
      have hk3 : k < 3 := by simp at hk; omega
      have m511 : modT ((X.getD k 0 : Nat) : Int) 511 = .ok ((X.getD k 0 % 511 : Nat) : Int) := modT_n _ (b := 511) (by decide)
      rw [iX k hk3, bind_ok, m511, bind_ok, modT_n _ (by omega), bind_ok]
      have : (1 : Int) + ((X.getD k 0 % 511 % (2 ^ n - 1) : Nat) : Int) = ((M k : Nat) : Int) := by simp only [M]; omega
      rw [this, tv_voters n _ (by omega)]), List.map_map]
    rfl
  have hr3 : rng1T 3 = .ok [0, 1, 2] := rng1T_n (n := 3) (by omega)
  have d2n : divT (n : Int) 2 = .ok ((n / 2 : Nat) : Int) := divT_n n (b := 2) (by decide) (by decide)
  have hlg : ∀ j, j ≤ 2 → Good n (([0, 1, 2].map M).take (j + 1)) := fun j hj => by
    refine ⟨by simp, by simp; omega, fun m hm => ?_⟩
    obtain ⟨k, _, rfl⟩ := List.mem_map.mp (List.mem_of_mem_take hm)
    exact hM k
  unfold t_law_words
  rw [rng1T_n (show n ≤ 1000000000000000000 by omega)]
  simp only [bind_as, bind_ok, i0, i1, m4, m3, hc, hw, hal, pow9, shlT_1 (show n ≤ 1000 by omega), e1, hr3, d2n, show (512 : Int) - 1 = 511 from rfl, hlots]
  -- the weights
  obtain ⟨ws, hws, hwl, hws0⟩ : ∃ ws : List Nat, (if decide ((ci ((List.range n).map fun k => V.getD k 0 % c)).sum = 0) = true then Res.ok (ci (List.replicate n 1)) else Res.ok (ci ((List.range n).map fun k => V.getD k 0 % c))) = Res.ok (ci ws) ∧ ws.length = n ∧ 1 ≤ ws.sum := by
    by_cases z : decide ((ci ((List.range n).map fun k => V.getD k 0 % c)).sum = 0) = true
    · rw [if_pos z]; exact ⟨_, rfl, by simp, by rw [sum_ones]; exact h1⟩
    · rw [if_neg z]
      refine ⟨_, rfl, by simp, ?_⟩
      rw [decide_eq_true_eq, sum_ci] at z
      omega
  rw [hws]
  have hS := sum_ci ws
  have d2s : divT ((ws.sum : Nat) : Int) 2 = .ok ((ws.sum / 2 : Nat) : Int) := divT_n _ (b := 2) (by decide) (by decide)
  have hms := Nat.mod_lt r1 (show ws.sum > 0 by omega)
  have hmn := Nat.mod_lt r1 (show n > 0 by omega)
  have q1 : (1 : Int) + ((r1 % ws.sum : Nat) : Int) = ((1 + r1 % ws.sum : Nat) : Int) := by omega
  have q2 : ((ws.sum / 2 : Nat) : Int) + 1 = ((ws.sum / 2 + 1 : Nat) : Int) := by omega
  have q3 : ((n / 2 : Nat) : Int) + 1 = ((n / 2 + 1 : Nat) : Int) := by omega
  have q4 : (1 : Int) + ((r1 % n : Nat) : Int) = ((1 + r1 % n : Nat) : Int) := by omega
  have q5 : (1 : Int) + ((r1 % 3 : Nat) : Int) = ((r1 % 3 + 1 : Nat) : Int) := by omega
  have q6 : (2 : Int) * (n : Int) + 2 = ((2 * n + 2 : Nat) : Int) := by omega
  have d3 : divT ((2 * n + 2 : Nat) : Int) 3 = .ok (((2 * n + 2) / 3 : Nat) : Int) := divT_n _ (b := 3) (by decide) (by decide)
  obtain ⟨q7, hq7, hq71, hq72⟩ : ∃ q : Nat, (if (((2 * n + 2) / 3 : Nat) : Int) > 1 then (((2 * n + 2) / 3 : Nat) : Int) else 1) = (q : Int) ∧ 1 ≤ q ∧ q ≤ n := by
    split
    · exact ⟨(2 * n + 2) / 3, rfl, by omega, by omega⟩
    · exact ⟨1, rfl, by omega, h1⟩
  have hm3 := Nat.mod_lt r1 (show 3 > 0 by decide)
  have c1 : cutT (([0, 1, 2].map M).map (vot n)) none (some (1 : Int)) = (([0, 1, 2].map M).take 1).map (vot n) := by
    rw [show (some (1 : Int)) = some ((1 : Nat) : Int) from rfl, cut_hi, List.map_take]
  have c2 : cutT (([0, 1, 2].map M).map (vot n)) none (some (2 : Int)) = (([0, 1, 2].map M).take 2).map (vot n) := by
    rw [show (some (2 : Int)) = some ((2 : Nat) : Int) from rfl, cut_hi, List.map_take]
  have g1 := hlg 0 (by omega)
  have g2 := hlg 1 (by omega)
  have g3 := hlg (r1 % 3) (by omega)
  generalize [0, 1, 2].map M = L at *
  simp only [bind_ok, hS, modT_n r1 (show ws.sum ≠ 0 by omega), modT_n r1 (show n ≠ 0 by omega), d2s, q1, q2, q3, q4, q5, c1, c2, cut_hi, ← List.map_take, mulT_b (show (-1000000000000000000000000000000 : Int) ≤ 2 by omega) (by omega) (show (-1000000000000000000000000000000 : Int) ≤ (n : Int) by omega) (by omega), q6, d3, hq7]
  rw [catT_k (by simp), bind_ok, catT_k (by simp), bind_ok, catT_k (by simp), bind_ok]
  have hh := half_ok h1
  have ht : WOk n (.we (ci ws) ((1 + r1 % ws.sum : Nat) : Int)) := nats_ok hwl (by omega) (by omega)
  have hmo : WOk n (.we (ci ws) ((ws.sum / 2 + 1 : Nat) : Int)) := nats_ok hwl (by omega) (by omega)
  have : r0 = 0 ∨ r0 = 1 ∨ r0 = 2 ∨ r0 = 3 ∨ r0 = 4 ∨ r0 = 5 ∨ r0 = 6 ∨ r0 = 7 ∨ r0 = 8 ∨ r0 = 9 ∨ r0 = 10 ∨ r0 = 11 := by omega
  rcases this with rfl | rfl | rfl | rfl | rfl | rfl | rfl | rfl | rfl | rfl | rfl | rfl
  · exact ⟨.we (ci (List.replicate n 1)) ((n / 2 + 1 : Nat) : Int), rfl, hh, by simp [Wd.dp]⟩
  · exact ⟨.we (ci (List.replicate n 1)) ((n / 2 + 1 : Nat) : Int), rfl, hh, by simp [Wd.dp]⟩
  · exact ⟨.we (ci (List.replicate n 1)) ((n / 2 + 1 : Nat) : Int), rfl, hh, by simp [Wd.dp]⟩
  · exact ⟨.we (ci (List.replicate n 1)) ((1 + r1 % n : Nat) : Int), rfl, ones_ok (by omega) (by omega), by simp [Wd.dp]⟩
  · exact ⟨.we (ci ws) ((1 + r1 % ws.sum : Nat) : Int), rfl, ht, by simp [Wd.dp]⟩
  · exact ⟨.we (ci ws) ((ws.sum / 2 + 1 : Nat) : Int), rfl, hmo, by simp [Wd.dp]⟩
  · exact ⟨.lo (L.take (r1 % 3 + 1)), rfl, g3, by simp [Wd.dp]⟩
  · exact ⟨.bo (.we (ci (List.replicate n 1)) ((n / 2 + 1 : Nat) : Int)) (.lo (L.take 1)), rfl, ⟨hh, g1⟩, by simp [Wd.dp]⟩
  · exact ⟨.ei (.we (ci (List.replicate n 1)) ((n / 2 + 1 : Nat) : Int)) (.lo (L.take 2)), rfl, ⟨hh, g2⟩, by simp [Wd.dp]⟩
  · exact ⟨.op (.we (ci ws) ((1 + r1 % ws.sum : Nat) : Int)), rfl, ht, by simp [Wd.dp]⟩
  · exact ⟨.bo (.we (ci ws) ((ws.sum / 2 + 1 : Nat) : Int)) (.lo (L.take 2)), rfl, ⟨hmo, g2⟩, by simp [Wd.dp]⟩
  · exact ⟨.we (ci (List.replicate n 1)) (q7 : Int), rfl, ones_ok hq71 hq72, by simp [Wd.dp]⟩
end Cm
namespace Cm
open PySem FL
/-! ## lots with one voter less or more -/
theorem bit1 (m k : Nat) : decide (Builtin.bitAnd ((m / 2 ^ k : Nat) : Int) 1 = 1) = m.testBit k := by
  have := bit_d m k
  rw [← this]
  push_cast
  rfl
theorem bit0 (m k : Nat) : decide (Builtin.bitAnd ((m / 2 ^ k : Nat) : Int) 1 = 0) = !m.testBit k := by
  rw [← bit1 m k, show (1 : Int) = ((1 : Nat) : Int) from rfl, band_nat]
  have := Nat.and_one_is_mod (m / 2 ^ k)
  rw [this]
  have h := Nat.mod_two_eq_zero_or_one (m / 2 ^ k)
  rcases h with h | h <;> rw [h] <;> rfl
def fw (n m : Nat) : List Nat := ((List.range n).filter fun k => m.testBit k).map fun k => m - 2 ^ k
def mo (n m : Nat) : List Nat := ((List.range n).filter fun k => !m.testBit k).map fun k => m + 2 ^ k
theorem fewer_ok (n m : Nat) (hn : n ≤ 20) : compT (fun (x : Int) => (shrT (m : Int) x).bind fun a => Res.ok (decide (Builtin.bitAnd a 1 = 1))) (fun (x : Int) => (shlT 1 x).bind fun a => Res.ok ((m : Int) - a)) ((List.range n).map fun (k : Nat) => (k : Int)) [] = .ok (ci (fw n m)) := by
  rw [compT_mapl, compT_flt (fun k => m.testBit k) (fun k => ((m - 2 ^ k : Nat) : Int)) (by simp; omega) (fun k _ => by rw [shrT_n, bind_ok, bit1]) (fun k hk hb => by
    have := List.mem_range.mp hk
    have := pow_le_of_bit hb
    rw [shlT_1 (by omega), bind_ok]
    congr 1; omega)]
  refine congrArg Res.ok ?_
  unfold ci fw
  rw [List.map_map]; rfl
theorem more_ok (n m : Nat) (hn : n ≤ 20) : compT (fun (x : Int) => (shrT (m : Int) x).bind fun a => Res.ok (decide (Builtin.bitAnd a 1 = 0))) (fun (x : Int) => (shlT 1 x).bind fun a => Res.ok ((m : Int) + a)) ((List.range n).map fun (k : Nat) => (k : Int)) [] = .ok (ci (mo n m)) := by
  rw [compT_mapl, compT_flt (fun k => !m.testBit k) (fun k => ((m + 2 ^ k : Nat) : Int)) (by simp; omega) (fun k _ => by rw [shrT_n, bind_ok, bit0]) (fun k hk _ => by
    have := List.mem_range.mp hk
    rw [shlT_1 (by omega), bind_ok]
    congr 1)]
  refine congrArg Res.ok ?_
  unfold ci mo
  rw [List.map_map]; rfl
theorem add_bit {n m k : Nat} (hm : m < 2 ^ n) (hk : k < n) (h : m.testBit k = false) : m + 2 ^ k < 2 ^ n ∧ ∀ j, (m + 2 ^ k).testBit j = (m.testBit j || decide (k = j)) := by
  have e : m ||| 2 ^ k = m + 2 ^ k := by
    have hb : (m ||| 2 ^ k).testBit k = true := by rw [Nat.testBit_or, Nat.testBit_two_pow]; simp
    have h1 := sub_bit hb
    have h2 : (m ||| 2 ^ k) ^^^ 2 ^ k = m := by
      apply Nat.eq_of_testBit_eq
      intro j
      rw [Nat.testBit_xor, Nat.testBit_or, Nat.testBit_two_pow]
      by_cases z : k = j
      · subst z; rw [h]; simp
      · simp [z]
    have h3 := pow_le_of_bit hb
    omega
  rw [← e]
  refine ⟨Nat.or_lt_two_pow hm (Nat.pow_lt_pow_right (by decide) hk), fun j => ?_⟩
  rw [Nat.testBit_or, Nat.testBit_two_pow]
theorem fw_lt {n m t : Nat} (hm : m < 2 ^ n) (h : t ∈ fw n m) : t < 2 ^ n := by
  obtain ⟨k, _, rfl⟩ := List.mem_map.mp h
  exact Nat.lt_of_le_of_lt (Nat.sub_le _ _) hm
theorem mo_lt {n m t : Nat} (hm : m < 2 ^ n) (h : t ∈ mo n m) : t < 2 ^ n := by
  obtain ⟨k, hk, rfl⟩ := List.mem_map.mp h
  obtain ⟨h1, h2⟩ := List.mem_filter.mp hk
  exact (add_bit hm (List.mem_range.mp h1) (by simpa using h2)).1
theorem fw_len (n m : Nat) : (fw n m).length ≤ n := by
  unfold fw
  have := List.length_filter_le (fun k => m.testBit k) (List.range n)
  simp at *; exact this
theorem mo_len (n m : Nat) : (mo n m).length ≤ n := by
  unfold mo
  have := List.length_filter_le (fun k => !m.testBit k) (List.range n)
  simp at *; exact this
theorem look_ok {b : Nat → Bool} {n : Nat} {l : List Nat} (hl : l.length ≤ 1000) (h : ∀ t ∈ l, t < 2 ^ n) : compT (fun (x : Int) => Res.ok true) (fun (x : Int) => ixT (tl b n) x) (ci l) [] = .ok (l.map b) := by
  unfold ci
  rw [compT_mapl, compT_all b (by omega) (fun t ht => tl_ix (h t ht))]
theorem smw_fw {b : Nat → Bool} {n m : Nat} : smw b n m = (fw n m).any b := by
  unfold smw fw
  rw [List.any_map, List.any_filter]
  rfl
def maw (b : Nat → Bool) (n m : Nat) : Bool := (mo n m).all b
/-- a greatest losing lot -/
def gl (b : Nat → Bool) (n m : Nat) : Bool := !b m && maw b n m
theorem maw_at {b : Nat → Bool} {n m k : Nat} (h : maw b n m = true) (hk : k < n) (hb : m.testBit k = false) : b (m + 2 ^ k) = true := by
  unfold maw at h
  rw [List.all_eq_true] at h
  exact h _ (List.mem_map.mpr ⟨k, List.mem_filter.mpr ⟨List.mem_range.mpr hk, by simp [hb]⟩, rfl⟩)
theorem maw_range (b : Nat → Bool) (n m : Nat) : maw b n m = (List.range n).all fun k => m.testBit k || b (m + 2 ^ k) := by
  unfold maw mo
  rw [List.all_map, List.all_filter]
  congr 1
  funext k
  simp
/-! ## a table with one lot turned -/
theorem strict {a m n : Nat} (h : a &&& m = a) (hne : a ≠ m) (hm : m < 2 ^ n) : ∃ k, k < n ∧ m.testBit k = true ∧ a.testBit k = false := by
  apply Classical.byContradiction
  intro hn
  apply hne
  apply Nat.eq_of_testBit_eq
  intro j
  cases q : a.testBit j with
  | true => rw [sub_iff.mp h j q]
  | false =>
    cases q2 : m.testBit j with
    | false => rfl
    | true => exact absurd ⟨j, bit_lt hm q2, q2, q⟩ hn
def turn1 (b : Nat → Bool) (t : Nat) : Nat → Bool := fun j => if j = t then !b t else b j
theorem turn_tab {n t : Nat} {b : Nat → Bool} (T : Tab n b) (h0 : t ≠ 0) (h1 : t ≠ 2 ^ n - 1) (ht : t < 2 ^ n) (h : (b t = true ∧ smw b n t = false) ∨ (b t = false ∧ maw b n t = true)) : Tab n (turn1 b t) where
  full := by unfold turn1; rw [if_neg (Ne.symm h1)]; exact T.full
  emp := by unfold turn1; rw [if_neg (Ne.symm h0)]; exact T.emp
  up := fun m m' hm hs e => by
    unfold turn1 at e ⊢
    by_cases q' : m' = t
    · subst q'
      rw [if_pos rfl]
      by_cases q : m = m'
      · subst q; rw [if_pos rfl] at e; exact e
      · rw [if_neg q] at e
        exfalso
        obtain ⟨k, hk, k1, k2⟩ := strict hs q hm
        rcases h with ⟨b1, b2⟩ | ⟨b1, _⟩
        · have : b (m' - 2 ^ k) = true := T.up m (m' - 2 ^ k) (Nat.lt_of_le_of_lt (Nat.sub_le _ _) hm) (sub_iff.mpr fun j hj => by
            rw [bit_sub k1, sub_iff.mp hs j hj]
            by_cases z : k = j
            · subst z; rw [k2] at hj; cases hj
            · simp [z]) e
          unfold smw at b2
          rw [List.any_eq_false] at b2
          exact b2 k (List.mem_range.mpr hk) (by rw [k1, this]; rfl)
        · have := T.up m m' hm hs e
          rw [this] at b1; cases b1
    · rw [if_neg q']
      by_cases q : m = t
      · subst q
        rw [if_pos rfl] at e
        obtain ⟨k, hk, k1, k2⟩ := strict hs (Ne.symm q') hm
        rcases h with ⟨b1, _⟩ | ⟨_, b2⟩
        · rw [b1] at e; cases e
        · have h2 := maw_at b2 hk k2
          refine T.up _ m' hm (sub_iff.mpr fun j hj => ?_) h2
          rw [(add_bit ht hk k2).2 j] at hj
          rw [Bool.or_eq_true, decide_eq_true_eq] at hj
          rcases hj with hj | rfl
          · exact sub_iff.mp hs j hj
          · exact k1
      · rw [if_neg q] at e; exact T.up m m' hm hs e
theorem tl_set {b : Nat → Bool} {n t : Nat} (ht : t < 2 ^ n) : (tl b n).set t (!b t) = tl (turn1 b t) n := by
  apply List.ext_getElem
  · simp
  · intro i h1 h2
    have hi : i < 2 ^ n := by simpa using h1
    rw [List.getElem_set]
    simp only [List.getElem_map, List.getElem_range]
    unfold turn1
    by_cases q : t = i
    · subst q; simp
    · rw [if_neg q, if_neg (Ne.symm q)]
theorem setT_n {α : Type} {xs : List α} {k : Nat} {a : α} (h : k < xs.length) : setT xs (k : Int) a = .ok (xs.set k a) := by
  unfold setT
  have : L2.ixN xs.length (k : Int) = some k := by
    unfold L2.ixN
    simp
    omega
  rw [this]
theorem tv_near {n : Nat} (hn : n ≤ 9) (h1 : 1 ≤ n) {b : Nat → Bool} (T : Tab n b) (at_ : Nat) : ∃ b', t_law_near (tl b n) (n : Int) (at_ : Int) = .ok (tl b' n) ∧ Tab n b' := by
  have h512 : 2 ^ n ≤ 512 := by
    have := Nat.pow_le_pow_right (n := 2) (by decide) hn
    simpa using this
  have h2n : 2 ≤ 2 ^ n := by
    have := Nat.pow_le_pow_right (n := 2) (by decide) h1
    simpa using this
  suffices h : wpr (t_law_near (tl b n) (n : Int) (at_ : Int)) fun l => ∃ b', l = tl b' n ∧ Tab n b' by
    obtain ⟨l, e, b', rfl, T'⟩ := h
    exact ⟨b', e, T'⟩
  unfold t_law_near
  have hr : rng2T 1 ((2 ^ n - 1 : Nat) : Int) = .ok ((List.range (2 ^ n - 1 - 1)).map fun (k : Nat) => ((1 + k : Nat) : Int)) := rng2T_n (m := 1) (n := 2 ^ n - 1) (by omega) (by omega)
  simp only [bind_ok, bind_as, shlT_1 (show n ≤ 1000 by omega), rng1T_n (show n ≤ 1000000000000000000 by omega)]
  rw [show ((2 ^ n : Nat) : Int) - 1 = ((2 ^ n - 1 : Nat) : Int) by omega, hr, bind_ok]
  rw [foldT_map]
  refine wpr_b (wpr_imp (wpr_fold (fun pre (s : List Int) => ∃ l : List Nat, s = ci l ∧ l.length ≤ 2 * pre.length ∧ ∀ t ∈ l, t ≠ 0 ∧ t ≠ 2 ^ n - 1 ∧ t < 2 ^ n ∧ ((b t = true ∧ smw b n t = false) ∨ (b t = false ∧ maw b n t = true))) ⟨[], rfl, by simp, by simp⟩ ?_) ?_)
  · rintro pre x post s e ⟨l, rfl, hl, hg⟩
    obtain ⟨hx, hxl⟩ := range_split e
    have hpre : pre.length ≤ 512 := by
      have := congrArg List.length e
      simp at this; omega
    generalize hmx : 1 + x = m
    have hm0 : m ≠ 0 := by omega
    have hm1 : m ≠ 2 ^ n - 1 := by omega
    have hml : m < 2 ^ n := by omega
    have hlf := look_ok (b := b) (show (fw n m).length ≤ 1000 by have := fw_len n m; omega) (fun t ht => fw_lt hml ht)
    have hlm := look_ok (b := b) (show (mo n m).length ≤ 1000 by have := mo_len n m; omega) (fun t ht => mo_lt hml ht)
    rw [fewer_ok n m (by omega), bind_ok, more_ok n m (by omega), bind_ok]
    simp only [tl_ix hml, bind_ok, hlf, hlm, List.any_map, List.all_map, Function.id_comp]
    have e1 : (fw n m).any b = smw b n m := smw_fw.symm
    have e2 : (mo n m).all b = maw b n m := rfl
    rw [e1, e2]
    have hc : ∀ (l : List Nat), l.length ≤ 2 * pre.length + 1 → appT (ci l) (m : Int) = .ok (ci (l ++ [m])) := fun l hl => by
      rw [appT_k (by simp; omega)]; simp
    cases qb : b m with
    | true =>
      cases qs : smw b n m with
      | true => exact ⟨_, rfl, l, rfl, by simp; omega, hg⟩
      | false =>
        simp only [if_true, Bool.not_false, bind_ok, hc l (by omega), Bool.not_true, Bool.false_eq_true, if_false]
        refine ⟨_, rfl, l ++ [m], rfl, by simp; omega, fun t ht => ?_⟩
        rcases List.mem_append.mp ht with h | h
        · exact hg t h
        · rw [List.mem_singleton.mp h]; exact ⟨hm0, hm1, hml, .inl ⟨qb, qs⟩⟩
    | false =>
      cases qs : maw b n m with
      | false => exact ⟨_, rfl, l, rfl, by simp; omega, hg⟩
      | true =>
        simp only [if_true, Bool.not_false, bind_ok, hc l (by omega), Bool.not_true, Bool.false_eq_true, if_false]
        refine ⟨_, rfl, l ++ [m], rfl, by simp; omega, fun t ht => ?_⟩
        rcases List.mem_append.mp ht with h | h
        · exact hg t h
        · rw [List.mem_singleton.mp h]; exact ⟨hm0, hm1, hml, .inr ⟨qb, qs⟩⟩
  · rintro s ⟨l, rfl, hl, hg⟩
    by_cases z : l = []
    · subst z
      exact ⟨_, rfl, b, rfl, T⟩
    · have hp : 0 < l.length := List.length_pos_iff.mpr z
      have hd : decide (0 < ((List.length (ci l) : Nat) : Int)) = true := by simp; omega
      have hlen : (ci l).length = l.length := by simp
      have hml := Nat.mod_lt at_ hp
      obtain ⟨t, ht⟩ : ∃ t, l[at_ % l.length]? = some t := ⟨_, List.getElem?_eq_getElem hml⟩
      have hg := hg t (List.mem_of_getElem? ht)
      rw [hd, if_pos rfl, hlen, modT_n _ (by omega), bind_ok, ixT_of (a := (t : Int)) (by rw [List.getElem?_map, ht]; rfl), bind_ok, tl_ix hg.2.2.1, bind_ok, setT_n (by rw [tl_len]; exact hg.2.2.1), bind_ok, bind_ok, tl_set hg.2.2.1]
      exact ⟨_, rfl, _, rfl, turn_tab T hg.1 hg.2.1 hg.2.2.1 hg.2.2.2⟩
end Cm
namespace Cm
open PySem FL
/-! ## rows of digits -/
theorem dig_app {S T row : List Int} (h : DigL (S ++ T) row) : ∃ a b, row = a ++ b ∧ DigL S a ∧ DigL T b := by
  refine ⟨row.take S.length, row.drop S.length, (List.take_append_drop _ _).symm, ⟨?_, ?_⟩, ⟨?_, ?_⟩⟩
  · rw [List.length_take, h.1]; simp
  · intro i r s e1 e2
    have hi : i < S.length := by rw [List.getElem?_eq_some_iff] at e2; exact e2.1
    refine h.2 i r s ?_ ?_
    · rwa [List.getElem?_take_of_lt hi] at e1
    · rw [List.getElem?_append_left hi]; exact e2
  · rw [List.length_drop, h.1]; simp
  · intro i r s e1 e2
    refine h.2 (S.length + i) r s ?_ ?_
    · rwa [List.getElem?_drop] at e1
    · rw [List.getElem?_append_right (by omega)]; simpa using e2
theorem any_sizes : (repLT [(31 : Int)] 9).bind (fun a => (catT [(18 : Int), 1000] a).bind fun a => (repLT [(512 : Int)] 3).bind fun c => (catT a c).bind fun a => (catT a [(126 : Int)]).bind fun a => (repLT [(511 : Int)] 126).bind fun c => catT a c) = .ok ([(18 : Int), 1000] ++ List.replicate 9 31 ++ List.replicate 3 512 ++ [126] ++ List.replicate 126 511) := by
  have f1 : ∀ (k : Nat) (x : Int), (List.replicate k [x]).flatten = List.replicate k x := fun k x => by
    induction k with
    | zero => rfl
    | succ k ih => rw [List.replicate_succ, List.flatten_cons, ih, List.replicate_succ]; rfl
  rw [show (9 : Int) = ((9 : Nat) : Int) from rfl, show (3 : Int) = ((3 : Nat) : Int) from rfl, repLT_k (k := 9) (by decide) (by decide), repLT_k (k := 3) (by decide) (by decide), f1, f1]
  have : repLT [(511 : Int)] 126 = .ok (List.replicate 126 511) := by
    rw [show (126 : Int) = ((126 : Nat) : Int) from rfl, repLT_k (k := 126) (by decide) (by decide), f1]
  rw [this]
  simp only [bind_ok]
  rw [catT_k (by simp), bind_ok, catT_k (by simp), bind_ok, catT_k (by simp), bind_ok, catT_k (by simp)]
theorem any_row {row : List Int} (h : DigL ([(18 : Int), 1000] ++ List.replicate 9 31 ++ List.replicate 3 512 ++ [126] ++ List.replicate 126 511) row) :
    ∃ (r0 r1 : Nat) (V X : List Nat) (r14 : Nat) (fr : List Nat), row = (r0 : Int) :: (r1 : Int) :: (ci V ++ (ci X ++ ((r14 : Int) :: ci fr))) ∧ r0 < 18 ∧ V.length = 9 ∧ X.length = 3 ∧ r14 < 126 ∧ fr.length = 126 := by
  obtain ⟨a, fr, rfl, g1, hf⟩ := dig_app h
  obtain ⟨a, c, rfl, g2, hc⟩ := dig_app g1
  obtain ⟨a, X, rfl, g3, hX⟩ := dig_app g2
  obtain ⟨a, V, rfl, g4, hV⟩ := dig_app g3
  obtain ⟨fr, rfl, hf, -⟩ := hf.rep
  obtain ⟨X, rfl, hX, -⟩ := hX.rep
  obtain ⟨V, rfl, hV, -⟩ := hV.rep
  obtain ⟨r14, c, rfl, h14, hc⟩ := hc.cons
  obtain ⟨r0, a, rfl, h0, g5⟩ := g4.cons
  obtain ⟨r1, a, rfl, h1, g6⟩ := g5.cons
  clear h g1 g2 g3 g4 g5
  have h1 := g6.1
  have h2 := hc.1
  have : a = [] := List.length_eq_zero_iff.mp h1
  subst this
  have : c = [] := List.length_eq_zero_iff.mp h2
  subst this
  exact ⟨r0, r1, V, X, r14, fr, by simp [ci], by omega, hV, hX, by omega, hf⟩
theorem tv_any {row : List Int} (h : DigL ([(18 : Int), 1000] ++ List.replicate 9 31 ++ List.replicate 3 512 ++ [126] ++ List.replicate 126 511) row) (n : Nat) (hn : n ≤ 9) (h1 : 1 ≤ n) :
    ∃ w, t_law_any row (n : Int) = .ok (encW n w) ∧ WOk n w ∧ w.dp ≤ 1 := by
  obtain ⟨r0, r1, V, X, r14, fr, rfl, h0, hV, hX, h14, hf⟩ := any_row h
  unfold t_law_any
  have i0 : ixT ((r0 : Int) :: (r1 : Int) :: (ci V ++ (ci X ++ ((r14 : Int) :: ci fr)))) 0 = .ok (r0 : Int) := by simp
  simp only [bind_as, bind_ok, i0]
  by_cases z : r0 < 12
  · rw [if_pos (decide_eq_true (by omega))]
    exact tv_words n hn h1 r0 r1 z V X hV hX _
  · rw [if_neg (by rw [decide_eq_true_eq]; omega)]
    have i14 : ixT ((r0 : Int) :: (r1 : Int) :: (ci V ++ (ci X ++ ((r14 : Int) :: ci fr)))) 14 = .ok (r14 : Int) := by
      refine ixT_of (k := 14) ?_
      rw [List.getElem?_cons_succ, List.getElem?_cons_succ, List.getElem?_append_right (by simp [hV]), List.getElem?_append_right (by simp [hV, hX])]
      simp [hV, hX]
    have c15 : cutT ((r0 : Int) :: (r1 : Int) :: (ci V ++ (ci X ++ ((r14 : Int) :: ci fr)))) (some 15) none = ci fr := by
      rw [show (15 : Int) = ((15 : Nat) : Int) from rfl, cut_lo _ 15 (by simp [hV, hX, hf])]
      rw [List.drop_succ_cons, List.drop_succ_cons, List.drop_append, List.drop_append]
      have e1 : (ci V).drop 13 = [] := List.drop_eq_nil_iff.mpr (by simp [hV])
      have e2 : (ci X).drop (13 - (ci V).length) = [] := List.drop_eq_nil_iff.mpr (by simp [hV, hX])
      rw [e1, e2, List.nil_append, List.nil_append]
      rw [show 13 - (ci V).length - (ci X).length = 1 by simp [hV, hX]]
      rfl
    simp only [i14, bind_ok, c15]
    rw [catT_k (by simp [hf]), bind_ok]
    obtain ⟨l, e, nums, rfl, hg⟩ := tv_drawn n hn h1 0 (r0 - 12) r14 h14 fr hf
    have e12 : (r0 : Int) - 12 = ((r0 - 12 : Nat) : Int) := by omega
    have e' : t_law_drawn ([(0 : Int), (r0 : Int) - 12, (r14 : Int)] ++ ci fr) (n : Int) = .ok (ci nums) := by rw [e12]; exact e
    rw [e', bind_ok, show ci nums = nums.map (fun (k : Nat) => (k : Int)) from rfl, compT_mapl, compT_all (vot n) (by have := hg.2.1; omega) (fun m _ => tv_voters n m (by omega)), bind_ok]
    exact ⟨.lo nums, rfl, hg, by simp [Wd.dp]⟩
theorem tv_table {n : Nat} (hn : n ≤ 15) {w : Wd} (h : WOk n w) (hd : w.dp ≤ 1) : t_law_table (encW n w) (n : Int) = .ok (tl (tabW n w) n) := tv_table_n hn w 5 h (by omega)
theorem tv_lrule {n : Nat} (hn : n ≤ 15) {w : Wd} (h : WOk n w) (hd : w.dp ≤ 1) : t_law_rule (encW n w) (n : Int) = .ok (ruleT (tabW n w) n) := tv_rule_n hn w 5 h (by omega)
/-- what two of three tables say -/
def maj (a b c : Nat → Bool) (m : Nat) : Bool := decide ((2 : Int) ≤ (if a m = true then 1 else 0) + (if b m = true then 1 else 0) + (if c m = true then 1 else 0))
theorem maj_tab {n : Nat} {a b c : Nat → Bool} (A : Tab n a) (B : Tab n b) (C : Tab n c) : Tab n (maj a b c) where
  full := by unfold maj; rw [A.full, B.full, C.full]; decide
  emp := by unfold maj; rw [A.emp, B.emp, C.emp]; decide
  up := fun m m' hm hs e => by
    have ha := A.up m m' hm hs
    have hb := B.up m m' hm hs
    have hc := C.up m m' hm hs
    unfold maj at *
    cases q1 : a m <;> cases q2 : b m <;> cases q3 : c m <;> cases q4 : a m' <;> cases q5 : b m' <;> cases q6 : c m' <;> simp_all
theorem rT1 (b : Nat → Bool) (n : Nat) : (ruleT b n).1 = (n : Int) := rfl
theorem rT2 (b : Nat → Bool) (n : Nat) : (ruleT b n).2.1 = tl b n := rfl
theorem rT3 (b : Nat → Bool) (n : Nat) : (ruleT b n).2.2 = lls b n := rfl
theorem mem_vot {n m k : Nat} : ((k : Int) ∈ vot n m) ↔ k < n ∧ m.testBit k = true := by
  unfold vot
  rw [List.mem_map]
  constructor
  · rintro ⟨j, hj, e⟩
    have : j = k := by omega
    subst this
    exact mem_bits.mp hj
  · intro h
    exact ⟨k, mem_bits.mpr h, rfl⟩
theorem lls_inj {n : Nat} {b c : Nat → Bool} (T : Tab n b) (S : Tab n c) (e : lls b n = lls c n) : ∀ m, m < 2 ^ n → b m = c m := by
  have h1 : ((mins b n).map (vot n)).Perm ((mins c n).map (vot n)) := ((List.mergeSort_perm _ _).symm.trans (show (lls b n).Perm (lls c n) by rw [e])).trans (List.mergeSort_perm _ _)
  have h2 : ∀ m, m ∈ mins b n ↔ m ∈ mins c n := by
    have key : ∀ {x y : Nat → Bool}, ((mins x n).map (vot n)).Perm ((mins y n).map (vot n)) → ∀ m, m ∈ mins x n → m ∈ mins y n := by
      intro x y p m hm
      obtain ⟨m', h, e⟩ := List.mem_map.mp (p.mem_iff.mp (List.mem_map.mpr ⟨m, hm, rfl⟩))
      have := vot_inj (mem_mins.mp h).1 (mem_mins.mp hm).1 e
      subst this; exact h
    exact fun m => ⟨key h1 m, key h1.symm m⟩
  intro m hm
  rw [← cont_mins T hm, ← cont_mins S hm]
  unfold cont
  rw [Bool.eq_iff_iff, List.any_eq_true, List.any_eq_true]
  exact ⟨fun ⟨t, ht, h⟩ => ⟨t, (h2 t).mp ht, h⟩, fun ⟨t, ht, h⟩ => ⟨t, (h2 t).mpr ht, h⟩⟩
theorem tv_eq (n n' : Nat) (b c : Nat → Bool) : t_Rule_eq (ruleT b n) (ruleT c n') = .ok (decide ((n : Int) = (n' : Int)) && decide (lls b n = lls c n')) := by
  unfold t_Rule_eq
  rw [rT1, rT1, rT3, rT3, Bool.true_and]
end Cm
namespace Cm
open PySem FL
theorem tv_lot_number {n m : Nat} (hn : n ≤ 1000) (h : m < 2 ^ n) : t_lot_number (vot n m) = .ok (m : Int) := decR_ok rfl (number_vot hn h)
theorem ixT_last {α : Type} {xs : List α} {a : α} (h : xs.getLast? = some a) : ixT xs (-1) = .ok a := by
  have hl : xs.length ≠ 0 := fun e => by
    have : xs = [] := List.length_eq_zero_iff.mp e
    subst this; cases h
  rw [List.getLast?_eq_getElem?] at h
  unfold ixT L2.atI L2.ixN
  rw [if_neg (by decide), if_pos (by omega)]
  show Res.ofO (xs[((-1 : Int) + xs.length).toNat]?) = _
  rw [show ((-1 : Int) + xs.length).toNat = xs.length - 1 by omega, h]
  rfl
theorem tv_contains {n m : Nat} (hn : n ≤ 1000) (hm : m < 2 ^ n) (b : Nat → Bool) : t_Rule_contains (ruleT b n) (vot n m) = .ok (b m) := by
  unfold t_Rule_contains
  rw [tv_lot_number hn hm, bind_ok]
  exact tl_ix hm
theorem tv_whole (i : Int) : t_law_whole i = .ok true := rfl
theorem tv_least' {n : Nat} (hn : n ≤ 20) (b : Nat → Bool) : t_law_least (tl b n) (n : Int) = .ok (lls b n) := decR_ok rfl (by
  have := law_least_ok b n hn
  unfold bkOf at this
  exact this)
def lots (n : Nat) : List (List Int) := (List.range (2 ^ n)).map (vot n)
theorem tv_told {n : Nat} (hn : n ≤ 15) (b : Nat → Bool) : t_law_as_told (ruleT b n) (lots n) (tl b n) = .ok true := by
  have hp := pow20 (n := n) (by omega)
  have hpos := Nat.two_pow_pos n
  have hl : ixT (lots n) (-1) = .ok (vot n (2 ^ n - 1)) := ixT_last (by
    unfold lots
    rw [List.getLast?_map, List.getLast?_range, if_neg (by omega)]
    rfl)
  unfold t_law_as_told
  have hle : (lots n).length = 2 ^ n := by simp [lots]
  simp only [bind_as, bind_ok, hl, vot_full_len n n (Nat.le_refl n), rT1, rT3, tv_whole, Bool.not_true, Bool.false_eq_true, if_false, decide_true, tv_least' (show n ≤ 20 by omega), tv_are_lots, hle]
  rw [rng1T_n (by omega), bind_ok, loopT_map, loopU (fun m hm => by
    have hm := List.mem_range.mp hm
    have e : ixT (lots n) (m : Int) = .ok (vot n m) := ixT_of (by simp [lots, hm])
    rw [e, bind_ok, tv_contains (by omega) hm, noEr_ok, bind_ok, tl_ix hm, bind_ok]
    simp), bind_ok, out_nx]
/-! ## == against other values -/
theorem eq_raw (b : Nat → Bool) (n : Nat) (d : D) (hd : (∃ i, d = .int i) ∨ (∃ i, d = .bl i) ∨ (∃ i, d = .str i) ∨ d = .non ∨ ∃ l, d = .tup l) : t_Rule_eq_raw (ruleT b n) d = .ok false := by
  refine decR_ok rfl ?_
  show d_Rule_eq [Ty.enc tyRule (ruleT b n), d] = .ok (.bl false)
  generalize Ty.enc tyRule (ruleT b n) = r
  have key : wpr (d_Rule_eq [r, d]) fun x => x = .bl false := by
    refine wpr_F (wps_r (d := .bl false) ?_ rfl)
    rcases hd with ⟨i, rfl⟩ | ⟨i, rfl⟩ | ⟨i, rfl⟩ | rfl | ⟨i, rfl⟩ <;> simp [m_Rule_eq, mIsC2]
  exact wpr_eq key
/-! ## rules of different numbers of voters -/
@[simp] theorem sTry_d (i l mb ms) (ρ : En) : sTry i l mb ms ρ = (match mb ρ with
  | some (.ex e ρ1) => (match xIn l e with
    | some true => backX i (ms (ρ1.set i (.im e)))
    | some false => some (.ex e ρ1)
    | none => none)
  | r => r) := id rfl
@[simp] theorem mIsX_d (l m) (ρ : En) : mIsX l m ρ = (m ρ).bind fun d => match xIn l d with
  | some b => .ok (.bl b)
  | none => .bad := id rfl
@[simp] theorem mXf_d (f m) (ρ : En) : mXf f m ρ = (m ρ).bind fun d => .ofO (fldX f d) := id rfl
theorem differ_and (b c : Nat → Bool) (n m : Nat) (h : n ≠ m) : d_Rule_and [Ty.enc tyRule (ruleT b n), Ty.enc tyRule (ruleT c m)] = .er (.exc 4 ["two", "one"] [.int m, .int n]) :=
  (tt_Rule_and (ruleT b n) (ruleT c m)).er (by
    unfold t_Rule_and
    rw [rT1, rT1, if_pos (by simp; omega)]
    rfl)
theorem differ_or (b c : Nat → Bool) (n m : Nat) (h : n ≠ m) : d_Rule_or [Ty.enc tyRule (ruleT b n), Ty.enc tyRule (ruleT c m)] = .er (.exc 4 ["two", "one"] [.int m, .int n]) :=
  (tt_Rule_or (ruleT b n) (ruleT c m)).er (by
    unfold t_Rule_or
    rw [rT1, rT1, if_pos (by simp; omega)]
    rfl)
theorem tv_joined (b c : Nat → Bool) (n m : Nat) (h : n ≠ m) (w : Int) : t_law_joined (ruleT b n) (ruleT c m) w = .ok (D.tup [.str "differ", .int n, .int m]) := by
  refine decR_ok rfl ?_
  show d_law_joined [Ty.enc tyRule (ruleT b n), Ty.enc tyRule (ruleT c m), .int w] = .ok (D.tup [.str "differ", .int n, .int m])
  have h1 := differ_and b c n m h
  have h2 := differ_or b c n m h
  have i1 : insC 5 (Ty.enc tyRule (ruleT b n)) = true := by rw [enc_ins]; rfl
  have i2 : insC 5 (Ty.enc tyRule (ruleT c m)) = true := by rw [enc_ins]; rfl
  generalize Ty.enc tyRule (ruleT b n) = r at *
  generalize Ty.enc tyRule (ruleT c m) = s at *
  refine wpr_eq (wpr_F (wps_seq (wps_r (d := .tup [.str "differ", .int n, .int m]) ?_ rfl)))
  show sTry _ _ _ _ [.im r, .im s, .im (.int w), .un, .un] = _
  have e1 : xIn [(1, true), (2, true), (3, true), (4, true)] (.exc 4 ["two", "one"] [.int m, .int n]) = some true := rfl
  have e2 : xIn [(1, false), (2, false), (3, false), (4, true)] (.exc 4 ["two", "one"] [.int m, .int n]) = some true := rfl
  have e3 : fldX "one" (.exc 4 ["two", "one"] [.int m, .int n]) = some (.int n) := by simp [fldX, fld, show ¬ ("one" : Str) = "two" from by decide +kernel]
  have e4 : fldX "two" (.exc 4 ["two", "one"] [.int m, .int n]) = some (.int m) := by simp [fldX, fld]
  have hz : noX (.tup [.str "differ", .int n, .int m]) = true := rfl
  generalize D.exc 4 ["two", "one"] [.int m, .int n] = x at *
  by_cases hw : w = 0
  · simp [hw, mOwn2, i1, i2, h1, e1, e2, e3, e4, backX, hz]
  · simp [hw, mOwn2, i1, i2, h2, e1, e2, e3, e4, backX, hz]
theorem tv_apart (b c : Nat → Bool) (n m : Nat) (h : n ≠ m) : t_law_kept_apart (ruleT b n) (ruleT c m) (n : Int) (m : Int) = .ok true := by
  have hstr : strNT "differ" "differ" = .ok false := by
    rw [strNT, iteC_pos (by decide +kernel)]; simp
  have q0 : rawIx (D.tup [.str "differ", .int n, .int m]) 0 = .ok (Ty.enc .s "differ") := rix0 _ _
  have q1 : rawIx (D.tup [.str "differ", .int n, .int m]) 1 = .ok (Ty.enc .z n) := rix1 _ _ _
  have q2 : rawIx (D.tup [.str "differ", .int n, .int m]) 2 = .ok (Ty.enc .z m) := rix2 _ _ _ _
  unfold t_law_kept_apart
  rw [show rng1T 2 = .ok [0, 1] from rng1T_n (n := 2) (by omega), bind_ok, loopU (fun w hw => by
    rw [tv_joined b c n m h w, bind_ok]
    simp only [bind_as, bind_ok, q0, q1, q2, cs, cz, hstr, tv_whole, Bool.not_true, Bool.false_eq_true, if_false, decide_true]), bind_ok, out_nx]
  simp only [bind_ok, tv_eq, noEr_ok]
  rw [show decide ((n : Int) = (m : Int)) = false from decide_eq_false (by omega)]
  rfl
theorem tv_majority {n : Nat} (hn : n ≤ 16) (h1 : 1 ≤ n) : ∃ b, t_Rule_majority (n : Int) = .ok (ruleT b n) ∧ Tab n b := by
  have hal : compT (fun (_ : Int) => Res.ok true) (fun (_ : Int) => Res.ok (1 : Int)) ((List.range n).map fun (k : Nat) => (k : Int)) [] = .ok (ci (List.replicate n 1)) := by
    rw [compT_mapl, compT_all (f := fun _ => Res.ok (1 : Int)) (fun _ => (1 : Int)) (by simp; omega) (fun _ _ => rfl)]
    refine congrArg Res.ok ?_
    apply List.ext_getElem <;> simp
  have d2n : divT (n : Int) 2 = .ok ((n / 2 : Nat) : Int) := divT_n n (b := 2) (by decide) (by decide)
  have hh := half_ok h1
  unfold t_Rule_majority
  simp only [bind_as, bind_ok]
  rw [rng1T_n (by omega), bind_ok, hal, bind_ok, d2n, bind_ok, show ((n / 2 : Nat) : Int) + 1 = ((n / 2 + 1 : Nat) : Int) by omega]
  exact ⟨_, tv_weighted hn hh.1 hh.2.1 hh.2.2.1 hh.2.2.2, weight_tab hh.1 hh.2.1 hh.2.2.1 hh.2.2.2⟩
end Cm
namespace Cm
open PySem FL
theorem compT3 {α β : Type} {f : α → Res β} {x0 x1 x2 : α} {y0 y1 y2 : β} (h0 : f x0 = .ok y0) (h1 : f x1 = .ok y1) (h2 : f x2 = .ok y2) : compT (fun _ => Res.ok true) f [x0, x1, x2] [] = .ok [y0, y1, y2] := by
  unfold compT
  simp only [h0]
  rw [iteC_pos (by simp)]
  unfold compT
  simp only [h1]
  rw [iteC_pos (by simp)]
  unfold compT
  simp only [h2]
  rw [iteC_pos (by simp)]
  unfold compT
  rfl
theorem rep_k (k : Nat) (x : Int) (h : k ≤ 1000) : repLT [x] (k : Int) = .ok (List.replicate k x) := by
  rw [repLT_k h (by simp)]
  congr 1
  induction k with
  | zero => rfl
  | succ k ih => rw [List.replicate_succ, List.flatten_cons, ih (by omega), List.replicate_succ]; rfl
theorem many_ok (x : Int) (hx : x = 0 ∨ x = 1) (r : Nat) (h : r < 9) : ∃ l, ixT [[(5 : Int), 7, 3, 4, 6, 8, 9, 2, 1], [4, 5, 3, 6, 2, 4, 5, 3, 1]] x = .ok l ∧ ∃ n : Nat, ixT l (r : Int) = .ok (n : Int) ∧ 1 ≤ n ∧ n ≤ 9 := by
  have : r = 0 ∨ r = 1 ∨ r = 2 ∨ r = 3 ∨ r = 4 ∨ r = 5 ∨ r = 6 ∨ r = 7 ∨ r = 8 := by omega
  rcases hx with rfl | rfl
  · refine ⟨_, rfl, ?_⟩
    rcases this with rfl | rfl | rfl | rfl | rfl | rfl | rfl | rfl | rfl
    · exact ⟨5, rfl, by omega, by omega⟩
    · exact ⟨7, rfl, by omega, by omega⟩
    · exact ⟨3, rfl, by omega, by omega⟩
    · exact ⟨4, rfl, by omega, by omega⟩
    · exact ⟨6, rfl, by omega, by omega⟩
    · exact ⟨8, rfl, by omega, by omega⟩
    · exact ⟨9, rfl, by omega, by omega⟩
    · exact ⟨2, rfl, by omega, by omega⟩
    · exact ⟨1, rfl, by omega, by omega⟩
  · refine ⟨_, rfl, ?_⟩
    rcases this with rfl | rfl | rfl | rfl | rfl | rfl | rfl | rfl | rfl
    · exact ⟨4, rfl, by omega, by omega⟩
    · exact ⟨5, rfl, by omega, by omega⟩
    · exact ⟨3, rfl, by omega, by omega⟩
    · exact ⟨6, rfl, by omega, by omega⟩
    · exact ⟨2, rfl, by omega, by omega⟩
    · exact ⟨4, rfl, by omega, by omega⟩
    · exact ⟨5, rfl, by omega, by omega⟩
    · exact ⟨3, rfl, by omega, by omega⟩
    · exact ⟨1, rfl, by omega, by omega⟩
/-- the same lots for one voter more -/
theorem vot_more {n m : Nat} (h : m < 2 ^ n) : vot n m = vot (n + 1) m := by
  unfold vot bits
  rw [List.range_succ, List.filter_append]
  have : m.testBit n = false := Nat.testBit_lt_two_pow h
  simp [this]
theorem tv_wide {n : Nat} (hn : n ≤ 15) {b : Nat → Bool} (T : Tab n b) : ∃ c, t_Rule_init ((n : Int) + 1) (lls b n) = .ok (ruleT c (n + 1)) := by
  obtain ⟨nums, e, p⟩ := lls_perm b n
  have hlt : ∀ m ∈ nums, m ≠ 0 ∧ m < 2 ^ n := fun m hm => mins_good T m (p.mem_iff.mp hm)
  have hp := pow20 (n := n) (by omega)
  have hl := lls_len b n
  rw [e] at hl ⊢
  rw [List.length_map] at hl
  have e2 : nums.map (vot n) = nums.map (vot (n + 1)) := List.map_congr_left fun m hm => vot_more (hlt m hm).2
  have h32 : 2 ^ n ≤ 32768 := by
    have := Nat.pow_le_pow_right (n := 2) (by decide) hn
    simpa using this
  rw [e2, show (n : Int) + 1 = ((n + 1 : Nat) : Int) by omega]
  refine ⟨_, tv_rule (n + 1) nums (by omega) ?_ (by omega) fun m hm => ⟨(hlt m hm).1, ?_⟩⟩
  · intro z
    subst z
    exact mins_ne T (List.Perm.eq_nil p.symm)
  · have := (hlt m hm).2
    rw [Nat.pow_succ]; omega
theorem tl_inj {b c : Nat → Bool} {n : Nat} (h : tl b n = tl c n) : ∀ m, m < 2 ^ n → b m = c m := fun m hm => by
  have h1 := tl_get (b := b) hm
  rw [h, tl_get hm] at h1
  exact (Option.some.inj h1).symm
theorem same_dec {b c : Nat → Bool} {n : Nat} (B : Tab n b) (C : Tab n c) : decide (lls b n = lls c n) = decide (tl b n = tl c n) := by
  rw [Bool.eq_iff_iff, decide_eq_true_iff, decide_eq_true_iff]
  exact ⟨fun e => tl_congr (lls_inj B C e), fun e => lls_congr (tl_inj e)⟩
/-- the rule of its least lots in turned order and of some greater lots -/
theorem tv_turned {n : Nat} (hn : n ≤ 9) {b : Nat → Bool} (T : Tab n b) (G : List Nat) (hG : G.length ≤ 3) (nums : List Nat) (e : lls b n = nums.map (vot n)) (p : nums.Perm (mins b n)) (t0 : Nat) (h0 : t0 ∈ nums) (hg : ∀ g ∈ G, g < 2 ^ n ∧ t0 &&& g = t0) :
    t_Rule_init (n : Int) (G.map (vot n) ++ (lls b n).reverse) = .ok (ruleT b n) := by
  have hlt : ∀ m ∈ nums, m ≠ 0 ∧ m < 2 ^ n := fun m hm => mins_good T m (p.mem_iff.mp hm)
  have hp9 := Nat.pow_le_pow_right (n := 2) (by decide) hn
  have hl := lls_len b n
  rw [e, List.length_map] at hl
  have hp : 2 ^ n ≤ 512 := by simpa using hp9
  rw [e, ← List.map_reverse, ← List.map_append, tv_rule n (G ++ nums.reverse) (by omega) (by
    intro z
    have : t0 ∈ G ++ nums.reverse := by simp [h0]
    rw [z] at this; cases this) (by rw [List.length_append, List.length_reverse]; omega) (fun m hm => by
    rcases List.mem_append.mp hm with hm | hm
    · refine ⟨fun z => ?_, (hg m hm).1⟩
      subst z
      have h1 := (hg 0 hm).2
      rw [Nat.and_zero] at h1
      exact (hlt t0 h0).1 h1.symm
    · exact hlt m (List.mem_reverse.mp hm))]
  refine congrArg Res.ok (ruleT_congr fun m hm => ?_)
  rw [← cont_mins T hm, ← cont_perm p m]
  unfold cont
  rw [List.any_append, List.any_reverse, Bool.eq_iff_iff, Bool.or_eq_true]
  constructor
  · rintro (h | h)
    · obtain ⟨g, hgm, hs⟩ := List.any_eq_true.mp h
      exact List.any_eq_true.mpr ⟨t0, h0, decide_eq_true (sub_trans (hg g hgm).2 (of_decide_eq_true hs))⟩
    · exact h
  · exact .inr
theorem sub_or (t g : Nat) : t &&& (t ||| g) = t := sub_iff.mpr fun j hj => by rw [Nat.testBit_or, hj]; rfl
theorem or_lt {n t g : Nat} (ht : t < 2 ^ n) (hg : g < 2 ^ n) : t ||| g < 2 ^ n := Nat.or_lt_two_pow ht hg
/-- the tables of joined rules, as the law writes them -/
theorem fill {n : Nat} (hn : n ≤ 9) (f : Int → Res Bool) (b : Nat → Bool) (h : ∀ m : Nat, m < 2 ^ n → f (m : Int) = .ok (b m)) : compT (fun (_ : Int) => Res.ok true) f ((List.range (2 ^ n)).map fun (k : Nat) => (k : Int)) [] = .ok (tl b n) := by
  have hp := pow20 (n := n) (by omega)
  rw [compT_mapl, compT_all b (by simp; omega) (fun m hm => h m (List.mem_range.mp hm))]
end Cm
namespace Cm
open PySem FL
theorem law_ok (ns : List Int) : t_law ns = .ok true := by
  unfold t_law
  have e9 : repLT [(31 : Int)] 9 = .ok (List.replicate 9 31) := rep_k 9 31 (by omega)
  have e3 : repLT [(512 : Int)] 3 = .ok (List.replicate 3 512) := rep_k 3 512 (by omega)
  have e126 : repLT [(511 : Int)] 126 = .ok (List.replicate 126 511) := rep_k 126 511 (by omega)
  simp only [bind_ok, bind_as, e9, e3, e126]
  rw [catT_k (by simp), bind_ok, catT_k (by simp), bind_ok, catT_k (by simp), bind_ok, catT_k (by simp), bind_ok]
  have hsz0 : ∀ s ∈ [(18 : Int), 1000] ++ List.replicate 9 31 ++ List.replicate 3 512 ++ [126] ++ List.replicate 126 511, 0 < s ∧ s < 1000000000000000000000000000000000000 := fun s hs => by
    simp only [List.mem_append, List.mem_cons, List.mem_replicate, List.not_mem_nil, or_false] at hs
    omega
  have hszl : ([(18 : Int), 1000] ++ List.replicate 9 31 ++ List.replicate 3 512 ++ [126] ++ List.replicate 126 511).length ≤ 1000 := by simp
  have hany := @tv_any
  generalize [(18 : Int), 1000] ++ List.replicate 9 31 ++ List.replicate 3 512 ++ [126] ++ List.replicate 126 511 = sizes at *
  have hr2 : rng1T 2 = .ok [0, 1] := rng1T_n (n := 2) (by omega)
  have hr3 : rng1T 3 = .ok [0, 1, 2] := rng1T_n (n := 3) (by omega)
  simp only [hr2, hr3, bind_ok]
  rw [loopU (fun x hx => by
    have hx : x = 0 ∨ x = 1 := by simpa using hx
    obtain ⟨k, rfl, hk⟩ : ∃ k : Nat, x = (k : Int) ∧ k ≤ 1 := by
      rcases hx with rfl | rfl
      · exact ⟨0, rfl, by omega⟩
      · exact ⟨1, rfl, by omega⟩
    have q0 : (4 : Int) * (k : Int) = ((4 * k : Nat) : Int) := by omega
    have q3 : ((4 * k : Nat) : Int) + 3 = ((4 * k + 3 : Nat) : Int) := by omega
    obtain ⟨c3, hc3⟩ := tv_cell ns (4 * k + 3) (by omega)
    obtain ⟨row, hrow, hd⟩ := tv_digits c3 [9, 8, 4, 512, 512, 512, 512] (by simp) (by
      intro s hs
      simp at hs
      omega)
    obtain ⟨r0, row1, rfl, h0, hd⟩ := DigL.cons hd
    obtain ⟨r1, row1, rfl, h1, hd⟩ := DigL.cons hd
    obtain ⟨r2, row1, rfl, h2, hd⟩ := DigL.cons hd
    obtain ⟨r3, row1, rfl, h3, hd⟩ := DigL.cons hd
    obtain ⟨r4, row1, rfl, h4, hd⟩ := DigL.cons hd
    obtain ⟨r5, row1, rfl, h5, hd⟩ := DigL.cons hd
    obtain ⟨r6, row1, rfl, h6, hd⟩ := DigL.cons hd
    have i0 : ixT ((r0 : Int) :: (r1 : Int) :: (r2 : Int) :: (r3 : Int) :: (r4 : Int) :: (r5 : Int) :: (r6 : Int) :: row1) 0 = .ok (r0 : Int) := by simp
    have i1 : ixT ((r0 : Int) :: (r1 : Int) :: (r2 : Int) :: (r3 : Int) :: (r4 : Int) :: (r5 : Int) :: (r6 : Int) :: row1) 1 = .ok (r1 : Int) := by simp
    have i2 : ixT ((r0 : Int) :: (r1 : Int) :: (r2 : Int) :: (r3 : Int) :: (r4 : Int) :: (r5 : Int) :: (r6 : Int) :: row1) 2 = .ok (r2 : Int) := by simp
    have i6 : ixT ((r0 : Int) :: (r1 : Int) :: (r2 : Int) :: (r3 : Int) :: (r4 : Int) :: (r5 : Int) :: (r6 : Int) :: row1) 6 = .ok (r6 : Int) := by simp
    have ig : ∀ x : Nat, x < 3 → ixT ((r0 : Int) :: (r1 : Int) :: (r2 : Int) :: (r3 : Int) :: (r4 : Int) :: (r5 : Int) :: (r6 : Int) :: row1) (3 + (x : Int)) = .ok (([r3, r4, r5].getD x 0 : Nat) : Int) := fun x hx => by
      have : x = 0 ∨ x = 1 ∨ x = 2 := by omega
      rcases this with rfl | rfl | rfl
      · exact ixT_of (k := 3) rfl
      · exact ixT_of (k := 4) rfl
      · exact ixT_of (k := 5) rfl
    generalize (r0 : Int) :: (r1 : Int) :: (r2 : Int) :: (r3 : Int) :: (r4 : Int) :: (r5 : Int) :: (r6 : Int) :: row1 = row at *
    obtain ⟨ml, hml, n, hn, hn1, hn9⟩ := many_ok (k : Int) hx r0 (by omega)
    have hp := pow20 (n := n) (by omega)
    have hpos := Nat.two_pow_pos n
    have hp9 := Nat.pow_le_pow_right (n := 2) (by decide) hn9
    have qm : ((2 ^ n : Nat) : Int) - 1 = ((2 ^ n - 1 : Nat) : Int) := by omega
    have qm1 : ((2 ^ n - 1 : Nat) : Int) + 1 = ((2 ^ n : Nat) : Int) := by omega
    have hlots : compT (fun (_ : Int) => Res.ok true) (fun (x : Int) => t_law_voters x (n : Int)) ((List.range (2 ^ n)).map fun (k : Nat) => (k : Int)) [] = .ok (lots n) := by
      rw [compT_mapl, compT_all (vot n) (by simp; omega) (fun m _ => tv_voters n m (by omega))]
      rfl
    have hword : ∀ j : Nat, j < 3 → ∃ w, (t_law_cell ns (((4 * k : Nat) : Int) + (j : Int))).bind (fun a => (t_law_digits a sizes).bind fun a => t_law_any a (n : Int)) = .ok (encW n w) ∧ WOk n w ∧ w.dp ≤ 1 := fun j hj => by
      obtain ⟨c, hc⟩ := tv_cell ns (4 * k + j) (by omega)
      obtain ⟨r, hr, hd⟩ := tv_digits c sizes hszl hsz0
      obtain ⟨w, hw, hok, hdp⟩ := hany hd n hn9 hn1
      refine ⟨w, ?_, hok, hdp⟩
      rw [show ((4 * k : Nat) : Int) + (j : Int) = ((4 * k + j : Nat) : Int) by omega, hc, bind_ok, hr, bind_ok, hw]
    obtain ⟨wa, hwa, hoka, hdpa⟩ := hword 0 (by omega)
    obtain ⟨wb, hwb, hokb, hdpb⟩ := hword 1 (by omega)
    obtain ⟨wc, hwc, hokc, hdpc⟩ := hword 2 (by omega)
    simp only [mulT_b (show (-1000000000000000000000000000000 : Int) ≤ 4 by omega) (by omega) (show (-1000000000000000000000000000000 : Int) ≤ (k : Int) by omega) (by omega), q0, q3, hc3, bind_ok, hrow, hml, i0, hn, shlT_1 (show n ≤ 1000 by omega), qm, qm1, rng1T_n (show 2 ^ n ≤ 1000000000000000000 by omega), hlots]
    rw [compT3 (f := fun (x : Int) => (t_law_cell ns (((4 * k : Nat) : Int) + x)).bind fun a => (t_law_digits a sizes).bind fun a => t_law_any a (n : Int)) (x0 := 0) (x1 := 1) (x2 := 2) hwa hwb hwc, bind_ok]
    have j0 : ixT [encW n wa, encW n wb, encW n wc] 0 = .ok (encW n wa) := by simp
    have j1 : ixT [encW n wa, encW n wb, encW n wc] 1 = .ok (encW n wb) := by simp
    have j2 : ixT [encW n wa, encW n wb, encW n wc] 2 = .ok (encW n wc) := by simp
    have y0 := tv_table (show n ≤ 15 by omega) hoka hdpa
    have y1 := tv_table (show n ≤ 15 by omega) hokb hdpb
    have y2 := tv_table (show n ≤ 15 by omega) hokc hdpc
    have z0 := tv_lrule (show n ≤ 15 by omega) hoka hdpa
    have z1 := tv_lrule (show n ≤ 15 by omega) hokb hdpb
    have z2 := tv_lrule (show n ≤ 15 by omega) hokc hdpc
    have A := tabW_tab hoka
    have B := tabW_tab hokb
    have C := tabW_tab hokc
    generalize tabW n wa = a at *
    generalize tabW n wb = b at *
    generalize tabW n wc = c at *
    simp only [j0, j1, j2, bind_ok, y0, y1, y2]
    rw [compT3 (f := fun (x : D) => t_law_rule x (n : Int)) (x0 := encW n wa) (x1 := encW n wb) (x2 := encW n wc) z0 z1 z2, bind_ok]
    have u0 : ixT [ruleT a n, ruleT b n, ruleT c n] 0 = .ok (ruleT a n) := by simp
    have u1 : ixT [ruleT a n, ruleT b n, ruleT c n] 1 = .ok (ruleT b n) := by simp
    have u2 : ixT [ruleT a n, ruleT b n, ruleT c n] 2 = .ok (ruleT c n) := by simp
    obtain ⟨nums, he, pm⟩ := lls_perm a n
    have hlt : ∀ m ∈ nums, m ≠ 0 ∧ m < 2 ^ n := fun m hm => mins_good A m (pm.mem_iff.mp hm)
    obtain ⟨t0, nums', hnn⟩ : ∃ t0 nums', nums = t0 :: nums' := by
      cases nums with
      | nil => exact absurd (List.Perm.eq_nil pm.symm) (mins_ne A)
      | cons t ts => exact ⟨t, ts, rfl⟩
    have ht0 : t0 ∈ nums := by rw [hnn]; simp
    have hl0 : ixT (lls a n) 0 = .ok (vot n t0) := by rw [he, hnn]; simp
    have hgr : compT (fun (_ : Int) => Res.ok true) (fun (x : Int) => (ixT row (3 + x)).bind fun a => t_law_voters (Builtin.bitOr (t0 : Int) (Builtin.bitAnd a ((2 ^ n - 1 : Nat) : Int))) (n : Int)) ((List.range r2).map fun (k : Nat) => (k : Int)) [] = .ok (((List.range r2).map fun x => t0 ||| ([r3, r4, r5].getD x 0 &&& (2 ^ n - 1))).map (vot n)) := by
      rw [compT_mapl, compT_all (fun x => vot n (t0 ||| ([r3, r4, r5].getD x 0 &&& (2 ^ n - 1)))) (by simp; omega) (fun x hx => by
        have := List.mem_range.mp hx
        rw [ig x (by omega), bind_ok, band_nat, bor_nat, tv_voters n _ (by omega)]), List.map_map]
      rfl
    have hG : ∀ g ∈ (List.range r2).map fun x => t0 ||| ([r3, r4, r5].getD x 0 &&& (2 ^ n - 1)), g < 2 ^ n ∧ t0 &&& g = t0 := fun g hg => by
      obtain ⟨x, _, rfl⟩ := List.mem_map.mp hg
      refine ⟨or_lt (hlt t0 ht0).2 ?_, sub_or _ _⟩
      have : [r3, r4, r5].getD x 0 &&& (2 ^ n - 1) ≤ 2 ^ n - 1 := Nat.and_le_right
      omega
    have hturn := tv_turned hn9 A ((List.range r2).map fun x => t0 ||| ([r3, r4, r5].getD x 0 &&& (2 ^ n - 1))) (by simp; omega) nums he pm t0 ht0 hG
    have hGl : (((List.range r2).map fun x => t0 ||| ([r3, r4, r5].getD x 0 &&& (2 ^ n - 1))).map (vot n)).length ≤ 3 := by simp; omega
    have hll := lls_len a n
    obtain ⟨d, hd', Dd⟩ := tv_near hn9 hn1 A r6
    simp only [u0, u1, u2, bind_ok, tv_least' (show n ≤ 20 by omega), i2, rng1T_n (show r2 ≤ 1000000000000000000 by omega), hl0, tv_law_number n t0 (by omega) (hlt t0 ht0).2, hgr, i6, hd']
    generalize ((List.range r2).map fun x => t0 ||| ([r3, r4, r5].getD x 0 &&& (2 ^ n - 1))).map (vot n) = GL at *
    have hgl2 : catT GL (lls a n).reverse = .ok (GL ++ (lls a n).reverse) := catT_k (by rw [List.length_reverse]; omega)
    have hn16 : n ≤ 16 := by omega
    have hn15 : n ≤ 15 := by omega
    have AB := and_tab A B
    have OB := or_tab A B
    have IA := inv_tab A
    have IC := inv_tab C
    simp only [tv_and hn16 A B, tv_or hn15 A B, tv_invert hn16 A, tv_and hn16 B C, tv_or hn15 AB (and_tab B C), tv_and hn16 A C, tv_or hn15 (or_tab AB (and_tab B C)) (and_tab A C), tv_invert hn16 C, tv_and hn16 OB IC, tv_and hn16 B A, tv_invert hn16 (and_tab B A), tv_invert hn16 IA, hgl2, hturn, tv_rule_lls hn16 Dd, bind_ok]
    have hm1 : ruleT (fun m => a m && b m || b m && c m || a m && c m) n = ruleT (maj a b c) n := ruleT_congr fun m _ => by
      unfold maj
      cases a m <;> cases b m <;> cases c m <;> rfl
    have hm2 : ruleT (fun m => !(b (2 ^ n - 1 - m) && a (2 ^ n - 1 - m))) n = ruleT (fun m => !(a (2 ^ n - 1 - m) && b (2 ^ n - 1 - m))) n := ruleT_congr fun m _ => by rw [Bool.and_comm]
    have hm3 : ruleT (fun m => !!a (2 ^ n - 1 - (2 ^ n - 1 - m))) n = ruleT a n := ruleT_congr fun m hm => by rw [Bool.not_not, show 2 ^ n - 1 - (2 ^ n - 1 - m) = m by omega]
    have hsub : ∀ m : Nat, m < 2 ^ n → ((2 ^ n - 1 : Nat) : Int) - (m : Int) = ((2 ^ n - 1 - m : Nat) : Int) := fun m hm => by omega
    have hsl : ∀ m : Nat, 2 ^ n - 1 - m < 2 ^ n := fun m => by omega
    rw [hm1, hm2, hm3, catT_k (by simp), bind_ok, catT_k (by simp), bind_ok]
    rw [fill hn9 _ (fun m => a m && b m) (fun m hm => by
      rw [tl_ix hm, tl_ix hm, bind_ok]; cases a m <;> rfl), bind_ok, appT_k (by simp), bind_ok]
    rw [fill hn9 _ (fun m => a m || b m) (fun m hm => by
      rw [tl_ix hm, tl_ix hm, bind_ok]; cases a m <;> rfl), bind_ok, appT_k (by simp), bind_ok]
    rw [fill hn9 _ (fun m => !a (2 ^ n - 1 - m)) (fun m hm => by
      rw [hsub m hm, tl_ix (hsl m), bind_ok]), bind_ok, appT_k (by simp), bind_ok]
    rw [fill hn9 _ (maj a b c) (fun m hm => by
      rw [tl_ix hm, tl_ix hm, tl_ix hm]; rfl), bind_ok, appT_k (by simp), bind_ok]
    rw [fill hn9 _ (fun m => (a m || b m) && !c (2 ^ n - 1 - m)) (fun m hm => by
      rw [hsub m hm, tl_ix hm, tl_ix hm, tl_ix (hsl m), bind_ok]; cases a m <;> cases b m <;> rfl), bind_ok, appT_k (by simp), bind_ok]
    rw [fill hn9 _ (fun m => !(a (2 ^ n - 1 - m) && b (2 ^ n - 1 - m))) (fun m hm => by
      rw [hsub m hm, tl_ix (hsl m), tl_ix (hsl m), bind_ok]; cases a (2 ^ n - 1 - m) <;> rfl), bind_ok, appT_k (by simp), bind_ok, catT_k (by simp), bind_ok]
    have M := maj_tab A B C
    have P : Tab n (fun m => (a m || b m) && !c (2 ^ n - 1 - m)) := and_tab OB IC
    have IAB : Tab n (fun m => !(a (2 ^ n - 1 - m) && b (2 ^ n - 1 - m))) := inv_tab AB
    obtain ⟨gs, hR, hT, hlen, hTab⟩ : ∃ gs : List (Nat → Bool), [ruleT a n, ruleT b n, ruleT c n] ++ [ruleT (fun m => a m && b m) n, ruleT (fun m => a m || b m) n, ruleT (fun m => !a (2 ^ n - 1 - m)) n, ruleT (maj a b c) n, ruleT (fun m => (a m || b m) && !c (2 ^ n - 1 - m)) n] ++ [ruleT (fun m => !(a (2 ^ n - 1 - m) && b (2 ^ n - 1 - m))) n, ruleT a n, ruleT a n, ruleT d n] = gs.map (fun f => ruleT f n) ∧
        [tl a n, tl b n, tl c n] ++ [tl (fun m => a m && b m) n] ++ [tl (fun m => a m || b m) n] ++ [tl (fun m => !a (2 ^ n - 1 - m)) n] ++ [tl (maj a b c) n] ++ [tl (fun m => (a m || b m) && !c (2 ^ n - 1 - m)) n] ++ [tl (fun m => !(a (2 ^ n - 1 - m) && b (2 ^ n - 1 - m))) n] ++ [tl a n, tl a n, tl d n] = gs.map (fun f => tl f n) ∧ gs.length = 12 ∧ ∀ f ∈ gs, Tab n f := by
      refine ⟨[a, b, c, fun m => a m && b m, fun m => a m || b m, fun m => !a (2 ^ n - 1 - m), maj a b c, fun m => (a m || b m) && !c (2 ^ n - 1 - m), fun m => !(a (2 ^ n - 1 - m) && b (2 ^ n - 1 - m)), a, a, d], rfl, rfl, rfl, fun f hf => ?_⟩
      simp only [List.mem_cons, List.not_mem_nil, or_false] at hf
      rcases hf with h | h | h | h | h | h | h | h | h | h | h | h <;> (rw [h]; assumption)
    rw [hR, hT]
    have hr12 : rng1T ((12 : Nat) : Int) = .ok ((List.range 12).map fun (k : Nat) => (k : Int)) := rng1T_n (n := 12) (by omega)
    have gR : ∀ k : Nat, k < 12 → ∃ f, Tab n f ∧ ixT (gs.map fun f => ruleT f n) (k : Int) = .ok (ruleT f n) ∧ ixT (gs.map fun f => tl f n) (k : Int) = .ok (tl f n) := fun k hk => by
      have hkg : k < gs.length := by omega
      refine ⟨gs[k], hTab _ (List.getElem_mem hkg), ixT_of ?_, ixT_of ?_⟩
      · rw [List.getElem?_map, List.getElem?_eq_getElem hkg]; rfl
      · rw [List.getElem?_map, List.getElem?_eq_getElem hkg]; rfl
    simp only [List.length_map, hlen, hr12, bind_ok]
    generalize (gs.map fun f => ruleT f n) = rules at *
    generalize (gs.map fun f => tl f n) = tables at *
    rw [loopT_map, loopU (fun j hj => by
      obtain ⟨f, F, hr, ht⟩ := gR j (List.mem_range.mp hj)
      simp only [hr, ht, bind_ok, tv_told hn15, Bool.not_true, Bool.false_eq_true, if_false]), bind_ok, out_nx]
    rw [loopT_map, loopU (fun j hj => by
      obtain ⟨f, F, hr, ht⟩ := gR j (List.mem_range.mp hj)
      rw [loopT_map, loopU (fun i hi => by
        obtain ⟨g, G, hr', ht'⟩ := gR i (List.mem_range.mp hi)
        simp only [hr, ht, hr', ht', bind_ok, tv_eq, noEr_ok, decide_true, Bool.true_and, same_dec F G]
        cases decide (tl f n = tl g n) <;> rfl), bind_ok, out_nx]), bind_ok, out_nx]
    have hval : ∀ v ∈ [(Ty.enc .n ()), (Ty.enc .z (n : Int)), (Ty.enc .z (0 : Int)), (Ty.enc .z (1 : Int)), (Ty.enc .b true), (Ty.enc .s ("rule" : Str)), (D.tup []), (Ty.enc (.tup (.tup .z)) (lls a n)), (D.tup [(Ty.enc .z (n : Int)), (Ty.enc (.tup (.tup .z)) (lls a n))])], okY 5 v = true ∧ t_Rule_eq_raw (ruleT a n) v = .ok false := fun v hv => by
      simp only [List.mem_cons, List.not_mem_nil, or_false] at hv
      rcases hv with rfl | rfl | rfl | rfl | rfl | rfl | rfl | rfl | rfl
      · exact ⟨rfl, eq_raw a n _ (.inr (.inr (.inr (.inl rfl))))⟩
      · exact ⟨rfl, eq_raw a n _ (.inl ⟨_, rfl⟩)⟩
      · exact ⟨rfl, eq_raw a n _ (.inl ⟨_, rfl⟩)⟩
      · exact ⟨rfl, eq_raw a n _ (.inl ⟨_, rfl⟩)⟩
      · exact ⟨rfl, eq_raw a n _ (.inr (.inl ⟨_, rfl⟩))⟩
      · exact ⟨rfl, eq_raw a n _ (.inr (.inr (.inl ⟨_, rfl⟩)))⟩
      · exact ⟨rfl, eq_raw a n _ (.inr (.inr (.inr (.inr ⟨_, rfl⟩))))⟩
      · exact ⟨rfl, eq_raw a n _ (.inr (.inr (.inr (.inr ⟨_, rfl⟩))))⟩
      · exact ⟨rfl, eq_raw a n _ (.inr (.inr (.inr (.inr ⟨_, rfl⟩))))⟩
    have h012 : ∀ j : Int, j ∈ [(0 : Int), 1, 2] → ∃ k : Nat, j = (k : Int) ∧ k < 3 := fun j hj => by
      simp at hj
      rcases hj with rfl | rfl | rfl
      · exact ⟨0, rfl, by omega⟩
      · exact ⟨1, rfl, by omega⟩
      · exact ⟨2, rfl, by omega⟩
    have hnum := Nat.mod_lt (n + r1) (show 9 > 0 by decide)
    obtain ⟨o, ho, O⟩ := tv_majority (n := 1 + (n + r1) % 9) (by omega) (by omega)
    have hne : n ≠ 1 + (n + r1) % 9 := by omega
    have m9 : modT ((n : Int) + (r1 : Int)) 9 = .ok (((n + r1) % 9 : Nat) : Int) := by
      rw [show (n : Int) + (r1 : Int) = ((n + r1 : Nat) : Int) by omega]
      exact modT_n _ (b := 9) (by decide)
    have q9 : (1 : Int) + (((n + r1) % 9 : Nat) : Int) = ((1 + (n + r1) % 9 : Nat) : Int) := by omega
    obtain ⟨w, hw⟩ := tv_wide hn15 A
    have hw1 : (n : Int) + 1 = ((n + 1 : Nat) : Int) := by omega
    rw [hw1] at hw
    simp only [i1, bind_ok, m9, q9, ho, tv_apart a o n (1 + (n + r1) % 9) hne, tv_apart o a (1 + (n + r1) % 9) n (Ne.symm hne), Bool.not_true, Bool.false_eq_true, if_false]
    by_cases hn8 : n < 9
    · rw [if_pos (decide_eq_true (show (n : Int) < 9 by omega))]
      simp only [hw1, hw, bind_ok, tv_apart a w n (n + 1) (by omega), tv_apart w a (n + 1) n (by omega), Bool.not_true, Bool.false_eq_true, if_false]
      rw [loopU (fun v hv => by
        obtain ⟨w1, w2⟩ := hval v hv
        rw [w1, w2]
        rfl), bind_ok, out_nx]
      rw [loopU (fun j hj => by
        obtain ⟨k, rfl, hk⟩ := h012 j hj
        obtain ⟨f, F, hr, ht⟩ := gR k (by omega)
        simp only [hr, ht, bind_ok, tv_told hn15, Bool.not_true, Bool.false_eq_true, if_false]), bind_ok, out_nx]
    · rw [if_neg (by rw [decide_eq_true_eq]; omega)]
      rw [loopU (fun v hv => by
        obtain ⟨w1, w2⟩ := hval v hv
        rw [w1, w2]
        rfl), bind_ok, out_nx]
      rw [loopU (fun j hj => by
        obtain ⟨k, rfl, hk⟩ := h012 j hj
        obtain ⟨f, F, hr, ht⟩ := gR k (by omega)
        simp only [hr, ht, bind_ok, tv_told hn15, Bool.not_true, Bool.false_eq_true, if_false]), bind_ok, out_nx]), bind_ok, out_nx]
theorem good (ns : List Int) (_ : ns.length ≤ 63) : d_law [.scr ns] = .ok (.bl true) := (tt_law ns).ok (law_ok ns)
end Cm
namespace Cm
open PySem L2 FL
/-! ### the text -/
def topS (i : Nat) : Stmt := PySem.Challenge.pw_calmspot_k07_rules_joined.main.body.getD i (.Pass ⟨0, 0, 0, 0⟩)
abbrev s_lot_number : Stmt := topS 8
abbrev s_lot_of : Stmt := topS 9
abbrev s_lot_order : Stmt := topS 10
abbrev s_is_lot : Stmt := topS 11
abbrev s_smaller_wins : Stmt := topS 12
abbrev s_sums_of : Stmt := topS 15
abbrev s_law_whole : Stmt := topS 18
abbrev s_law_cell : Stmt := topS 19
abbrev s_law_digits : Stmt := topS 20
abbrev s_law_number : Stmt := topS 21
abbrev s_law_voters : Stmt := topS 22
abbrev s_law_order : Stmt := topS 26
abbrev s_law_near : Stmt := topS 32
abbrev s_BadLot_init : Stmt := inClass (topS 4) 0
abbrev s_BadQuota_init : Stmt := inClass (topS 5) 0
abbrev s_ManyDiffer_init : Stmt := inClass (topS 6) 0
abbrev s_Rule_eq : Stmt := inClass (topS 16) 8
abbrev s_winning_book : Stmt := topS 13
abbrev s_least_lots : Stmt := topS 14
abbrev s_law_words : Stmt := topS 23
abbrev s_law_least : Stmt := topS 27
abbrev s_law_sized : Stmt := topS 28
abbrev s_law_are_lots : Stmt := topS 30
abbrev s_Rule_contains : Stmt := inClass (topS 16) 4
abbrev s_law_drawn : Stmt := topS 29
abbrev s_law_as_told : Stmt := topS 35
abbrev s_Rule_init : Stmt := inClass (topS 16) 0
abbrev s_law_any : Stmt := topS 31
abbrev s_Rule_weighted : Stmt := inClass (topS 16) 1
abbrev s_Rule_and : Stmt := inClass (topS 16) 5
abbrev s_Rule_or : Stmt := inClass (topS 16) 6
abbrev s_Rule_invert : Stmt := inClass (topS 16) 7
abbrev s_law_joined : Stmt := topS 33
abbrev s_Rule_majority : Stmt := inClass (topS 16) 2
abbrev s_law_table : Stmt := topS 24
abbrev s_law_kept_apart : Stmt := topS 34
abbrev s_law_rule : Stmt := topS 25
abbrev s_law : Stmt := topS 36
def cA (K : PySem.W.Frag) (n : Str) : Addr := match PySem.W.nsIn K mainGlobals n with | some (some (.ref a)) => a | _ => 0
def clOf (K : PySem.W.Frag) (xa : Option (Addr × Value × Option Addr)) : Cl := ⟨fun n => match n with | 0 => cA K "CalmError" | 1 => cA K "NoLots" | 2 => cA K "BadLot" | 3 => cA K "BadQuota" | 4 => cA K "ManyDiffer" | 5 => cA K "Rule" | _ => 0, xa⟩
structure Txt (K : PySem.W.Frag) (mg : Str → Option Value) : Type where
  a_lot_number : Addr
  fd_lot_number : FuncData
  F_lot_number : Fun K "lot_number" "lot_number" s_lot_number a_lot_number fd_lot_number
  m_lot_number : mg "lot_number" = some (.ref a_lot_number)
  b_lot_number : Binds K fd_lot_number ["lot"] []
  a_lot_of : Addr
  fd_lot_of : FuncData
  F_lot_of : Fun K "lot_of" "lot_of" s_lot_of a_lot_of fd_lot_of
  m_lot_of : mg "lot_of" = some (.ref a_lot_of)
  b_lot_of : Binds K fd_lot_of ["number", "many"] []
  a_lot_order : Addr
  fd_lot_order : FuncData
  F_lot_order : Fun K "lot_order" "lot_order" s_lot_order a_lot_order fd_lot_order
  m_lot_order : mg "lot_order" = some (.ref a_lot_order)
  b_lot_order : Binds K fd_lot_order ["lot"] []
  a_is_lot : Addr
  fd_is_lot : FuncData
  F_is_lot : Fun K "is_lot" "is_lot" s_is_lot a_is_lot fd_is_lot
  m_is_lot : mg "is_lot" = some (.ref a_is_lot)
  b_is_lot : Binds K fd_is_lot ["lot", "many"] []
  a_smaller_wins : Addr
  fd_smaller_wins : FuncData
  F_smaller_wins : Fun K "smaller_wins" "smaller_wins" s_smaller_wins a_smaller_wins fd_smaller_wins
  m_smaller_wins : mg "smaller_wins" = some (.ref a_smaller_wins)
  b_smaller_wins : Binds K fd_smaller_wins ["book", "number", "many"] []
  a_sums_of : Addr
  fd_sums_of : FuncData
  F_sums_of : Fun K "sums_of" "sums_of" s_sums_of a_sums_of fd_sums_of
  m_sums_of : mg "sums_of" = some (.ref a_sums_of)
  b_sums_of : Binds K fd_sums_of ["weights"] []
  a_law_whole : Addr
  fd_law_whole : FuncData
  F_law_whole : Fun K "_law_whole" "_law_whole" s_law_whole a_law_whole fd_law_whole
  m_law_whole : mg "_law_whole" = some (.ref a_law_whole)
  b_law_whole : Binds K fd_law_whole ["value"] []
  a_law_cell : Addr
  fd_law_cell : FuncData
  F_law_cell : Fun K "_law_cell" "_law_cell" s_law_cell a_law_cell fd_law_cell
  m_law_cell : mg "_law_cell" = some (.ref a_law_cell)
  b_law_cell : Binds K fd_law_cell ["script", "k"] []
  a_law_digits : Addr
  fd_law_digits : FuncData
  F_law_digits : Fun K "_law_digits" "_law_digits" s_law_digits a_law_digits fd_law_digits
  m_law_digits : mg "_law_digits" = some (.ref a_law_digits)
  b_law_digits : Binds K fd_law_digits ["cell", "sizes"] []
  a_law_number : Addr
  fd_law_number : FuncData
  F_law_number : Fun K "_law_number" "_law_number" s_law_number a_law_number fd_law_number
  m_law_number : mg "_law_number" = some (.ref a_law_number)
  b_law_number : Binds K fd_law_number ["lot"] []
  a_law_voters : Addr
  fd_law_voters : FuncData
  F_law_voters : Fun K "_law_voters" "_law_voters" s_law_voters a_law_voters fd_law_voters
  m_law_voters : mg "_law_voters" = some (.ref a_law_voters)
  b_law_voters : Binds K fd_law_voters ["number", "many"] []
  a_law_order : Addr
  fd_law_order : FuncData
  F_law_order : Fun K "_law_order" "_law_order" s_law_order a_law_order fd_law_order
  m_law_order : mg "_law_order" = some (.ref a_law_order)
  b_law_order : Binds K fd_law_order ["lot"] []
  a_law_near : Addr
  fd_law_near : FuncData
  F_law_near : Fun K "_law_near" "_law_near" s_law_near a_law_near fd_law_near
  m_law_near : mg "_law_near" = some (.ref a_law_near)
  b_law_near : Binds K fd_law_near ["table", "many", "at"] []
  a_BadLot_init : Addr
  fd_BadLot_init : FuncData
  F_BadLot_init : Fun K "__init__" "BadLot.__init__" s_BadLot_init a_BadLot_init fd_BadLot_init
  in_BadLot_init : PySem.W.findIn K (.ref (cA K "BadLot")) "__init__" = some (some (.ref a_BadLot_init))
  if_BadLot_init : PySem.W.isFn K (.ref a_BadLot_init) = true
  b_BadLot_init : Binds K fd_BadLot_init ["self", "lot"] []
  ti_BadLot : PySem.W.typeIn K (.ref a_BadLot_init) = some (.type "function")
  a_BadQuota_init : Addr
  fd_BadQuota_init : FuncData
  F_BadQuota_init : Fun K "__init__" "BadQuota.__init__" s_BadQuota_init a_BadQuota_init fd_BadQuota_init
  in_BadQuota_init : PySem.W.findIn K (.ref (cA K "BadQuota")) "__init__" = some (some (.ref a_BadQuota_init))
  if_BadQuota_init : PySem.W.isFn K (.ref a_BadQuota_init) = true
  b_BadQuota_init : Binds K fd_BadQuota_init ["self", "quota"] []
  ti_BadQuota : PySem.W.typeIn K (.ref a_BadQuota_init) = some (.type "function")
  a_ManyDiffer_init : Addr
  fd_ManyDiffer_init : FuncData
  F_ManyDiffer_init : Fun K "__init__" "ManyDiffer.__init__" s_ManyDiffer_init a_ManyDiffer_init fd_ManyDiffer_init
  in_ManyDiffer_init : PySem.W.findIn K (.ref (cA K "ManyDiffer")) "__init__" = some (some (.ref a_ManyDiffer_init))
  if_ManyDiffer_init : PySem.W.isFn K (.ref a_ManyDiffer_init) = true
  b_ManyDiffer_init : Binds K fd_ManyDiffer_init ["self", "one", "two"] []
  ti_ManyDiffer : PySem.W.typeIn K (.ref a_ManyDiffer_init) = some (.type "function")
  a_Rule_eq : Addr
  fd_Rule_eq : FuncData
  F_Rule_eq : Fun K "__eq__" "Rule.__eq__" s_Rule_eq a_Rule_eq fd_Rule_eq
  in_Rule_eq : PySem.W.findIn K (.ref (cA K "Rule")) "__eq__" = some (some (.ref a_Rule_eq))
  if_Rule_eq : PySem.W.isFn K (.ref a_Rule_eq) = true
  b_Rule_eq : Binds K fd_Rule_eq ["self", "other"] []
  a_winning_book : Addr
  fd_winning_book : FuncData
  F_winning_book : Fun K "winning_book" "winning_book" s_winning_book a_winning_book fd_winning_book
  m_winning_book : mg "winning_book" = some (.ref a_winning_book)
  b_winning_book : Binds K fd_winning_book ["many", "numbers"] []
  a_least_lots : Addr
  fd_least_lots : FuncData
  F_least_lots : Fun K "least_lots" "least_lots" s_least_lots a_least_lots fd_least_lots
  m_least_lots : mg "least_lots" = some (.ref a_least_lots)
  b_least_lots : Binds K fd_least_lots ["many", "book"] []
  a_law_words : Addr
  fd_law_words : FuncData
  F_law_words : Fun K "_law_words" "_law_words" s_law_words a_law_words fd_law_words
  m_law_words : mg "_law_words" = some (.ref a_law_words)
  b_law_words : Binds K fd_law_words ["row", "many"] []
  a_law_least : Addr
  fd_law_least : FuncData
  F_law_least : Fun K "_law_least" "_law_least" s_law_least a_law_least fd_law_least
  m_law_least : mg "_law_least" = some (.ref a_law_least)
  b_law_least : Binds K fd_law_least ["table", "many"] []
  a_law_sized : Addr
  fd_law_sized : FuncData
  F_law_sized : Fun K "_law_sized" "_law_sized" s_law_sized a_law_sized fd_law_sized
  m_law_sized : mg "_law_sized" = some (.ref a_law_sized)
  b_law_sized : Binds K fd_law_sized ["many", "low", "high"] []
  a_law_are_lots : Addr
  fd_law_are_lots : FuncData
  F_law_are_lots : Fun K "_law_are_lots" "_law_are_lots" s_law_are_lots a_law_are_lots fd_law_are_lots
  m_law_are_lots : mg "_law_are_lots" = some (.ref a_law_are_lots)
  b_law_are_lots : Binds K fd_law_are_lots ["value", "due"] []
  a_Rule_contains : Addr
  fd_Rule_contains : FuncData
  F_Rule_contains : Fun K "__contains__" "Rule.__contains__" s_Rule_contains a_Rule_contains fd_Rule_contains
  in_Rule_contains : PySem.W.findIn K (.ref (cA K "Rule")) "__contains__" = some (some (.ref a_Rule_contains))
  if_Rule_contains : PySem.W.isFn K (.ref a_Rule_contains) = true
  b_Rule_contains : Binds K fd_Rule_contains ["self", "lot"] []
  a_law_drawn : Addr
  fd_law_drawn : FuncData
  F_law_drawn : Fun K "_law_drawn" "_law_drawn" s_law_drawn a_law_drawn fd_law_drawn
  m_law_drawn : mg "_law_drawn" = some (.ref a_law_drawn)
  b_law_drawn : Binds K fd_law_drawn ["row", "many"] []
  a_law_as_told : Addr
  fd_law_as_told : FuncData
  F_law_as_told : Fun K "_law_as_told" "_law_as_told" s_law_as_told a_law_as_told fd_law_as_told
  m_law_as_told : mg "_law_as_told" = some (.ref a_law_as_told)
  b_law_as_told : Binds K fd_law_as_told ["rule", "lots", "table"] []
  a_Rule_init : Addr
  fd_Rule_init : FuncData
  F_Rule_init : Fun K "__init__" "Rule.__init__" s_Rule_init a_Rule_init fd_Rule_init
  in_Rule_init : PySem.W.findIn K (.ref (cA K "Rule")) "__init__" = some (some (.ref a_Rule_init))
  if_Rule_init : PySem.W.isFn K (.ref a_Rule_init) = true
  b_Rule_init : Binds K fd_Rule_init ["self", "many", "lots"] []
  a_law_any : Addr
  fd_law_any : FuncData
  F_law_any : Fun K "_law_any" "_law_any" s_law_any a_law_any fd_law_any
  m_law_any : mg "_law_any" = some (.ref a_law_any)
  b_law_any : Binds K fd_law_any ["row", "many"] []
  a_Rule_weighted : Addr
  fd_Rule_weighted : FuncData
  F_Rule_weighted : Fun K "weighted" "Rule.weighted" s_Rule_weighted a_Rule_weighted fd_Rule_weighted
  sm_Rule_weighted : SMet K (cA K "Rule") "weighted" a_Rule_weighted
  b_Rule_weighted : Binds K fd_Rule_weighted ["weights", "quota"] []
  a_Rule_and : Addr
  fd_Rule_and : FuncData
  F_Rule_and : Fun K "__and__" "Rule.__and__" s_Rule_and a_Rule_and fd_Rule_and
  in_Rule_and : PySem.W.findIn K (.ref (cA K "Rule")) "__and__" = some (some (.ref a_Rule_and))
  if_Rule_and : PySem.W.isFn K (.ref a_Rule_and) = true
  b_Rule_and : Binds K fd_Rule_and ["self", "other"] []
  a_Rule_or : Addr
  fd_Rule_or : FuncData
  F_Rule_or : Fun K "__or__" "Rule.__or__" s_Rule_or a_Rule_or fd_Rule_or
  in_Rule_or : PySem.W.findIn K (.ref (cA K "Rule")) "__or__" = some (some (.ref a_Rule_or))
  if_Rule_or : PySem.W.isFn K (.ref a_Rule_or) = true
  b_Rule_or : Binds K fd_Rule_or ["self", "other"] []
  a_Rule_invert : Addr
  fd_Rule_invert : FuncData
  F_Rule_invert : Fun K "__invert__" "Rule.__invert__" s_Rule_invert a_Rule_invert fd_Rule_invert
  in_Rule_invert : PySem.W.findIn K (.ref (cA K "Rule")) "__invert__" = some (some (.ref a_Rule_invert))
  if_Rule_invert : PySem.W.isFn K (.ref a_Rule_invert) = true
  b_Rule_invert : Binds K fd_Rule_invert ["self"] []
  a_law_joined : Addr
  fd_law_joined : FuncData
  F_law_joined : Fun K "_law_joined" "_law_joined" s_law_joined a_law_joined fd_law_joined
  m_law_joined : mg "_law_joined" = some (.ref a_law_joined)
  b_law_joined : Binds K fd_law_joined ["first", "second", "way"] []
  a_Rule_majority : Addr
  fd_Rule_majority : FuncData
  F_Rule_majority : Fun K "majority" "Rule.majority" s_Rule_majority a_Rule_majority fd_Rule_majority
  sm_Rule_majority : SMet K (cA K "Rule") "majority" a_Rule_majority
  b_Rule_majority : Binds K fd_Rule_majority ["many"] []
  a_law_table : Addr
  fd_law_table : FuncData
  F_law_table : Fun K "_law_table" "_law_table" s_law_table a_law_table fd_law_table
  m_law_table : mg "_law_table" = some (.ref a_law_table)
  b_law_table : Binds K fd_law_table ["words", "many"] []
  a_law_kept_apart : Addr
  fd_law_kept_apart : FuncData
  F_law_kept_apart : Fun K "_law_kept_apart" "_law_kept_apart" s_law_kept_apart a_law_kept_apart fd_law_kept_apart
  m_law_kept_apart : mg "_law_kept_apart" = some (.ref a_law_kept_apart)
  b_law_kept_apart : Binds K fd_law_kept_apart ["first", "second", "many", "other"] []
  a_law_rule : Addr
  fd_law_rule : FuncData
  F_law_rule : Fun K "_law_rule" "_law_rule" s_law_rule a_law_rule fd_law_rule
  m_law_rule : mg "_law_rule" = some (.ref a_law_rule)
  b_law_rule : Binds K fd_law_rule ["words", "many"] []
  a_law : Addr
  fd_law : FuncData
  F_law : Fun K "law" "law" s_law a_law fd_law
  m_law : mg "law" = some (.ref a_law)
  b_law : Binds K fd_law ["script"] []
  g_CalmError : mg "CalmError" = some (.ref (cA K "CalmError"))
  g_NoLots : mg "NoLots" = some (.ref (cA K "NoLots"))
  g_BadLot : mg "BadLot" = some (.ref (cA K "BadLot"))
  g_BadQuota : mg "BadQuota" = some (.ref (cA K "BadQuota"))
  g_ManyDiffer : mg "ManyDiffer" = some (.ref (cA K "ManyDiffer"))
  g_Rule : mg "Rule" = some (.ref (cA K "Rule"))
  ox_BadLot : OexC K (cA K "BadLot")
  ox_BadQuota : OexC K (cA K "BadQuota")
  ox_ManyDiffer : OexC K (cA K "ManyDiffer")
  s_CalmError : PySem.W.subIn K (.ref (cA K "CalmError")) (.type "BaseException") = some true
  t_CalmError : PySem.W.typeIn K (.ref (cA K "CalmError")) = some (.type "type")
  d_CalmError : PySem.W.hasDictIn K (cA K "CalmError") = true
  q_NoLots : PySem.W.excIn K (cA K "NoLots") [.type "ValueError", .type "Exception", .type "BaseException", .type "object"] "ValueError.__new__" = true
  kp_NoLots : PySem.W.keepIn K (.ref (cA K "NoLots")) = true
  s_NoLots : PySem.W.subIn K (.ref (cA K "NoLots")) (.type "BaseException") = some true
  t_NoLots : PySem.W.typeIn K (.ref (cA K "NoLots")) = some (.type "type")
  d_NoLots : PySem.W.hasDictIn K (cA K "NoLots") = true
  h1_NoLots : PySem.W.findIn K (.ref (cA K "NoLots")) "__getattribute__" = some (some (.builtin "BaseException.__getattribute__"))
  h2_NoLots : PySem.W.findIn K (.ref (cA K "NoLots")) "__getattr__" = some none
  h3_NoLots : PySem.W.findIn K (.ref (cA K "NoLots")) "__class__" = some (some (.builtin "object.__class__"))
  h4_NoLots : PySem.W.mroIn K (cA K "NoLots") (.type "object") = some true
  sa_BadLot : PySem.W.findIn K (.ref (cA K "BadLot")) "__setattr__" = some (some (.builtin "object.__setattr__"))
  kp_BadLot : PySem.W.keepIn K (.ref (cA K "BadLot")) = true
  s_BadLot : PySem.W.subIn K (.ref (cA K "BadLot")) (.type "BaseException") = some true
  t_BadLot : PySem.W.typeIn K (.ref (cA K "BadLot")) = some (.type "type")
  d_BadLot : PySem.W.hasDictIn K (cA K "BadLot") = true
  h1_BadLot : PySem.W.findIn K (.ref (cA K "BadLot")) "__getattribute__" = some (some (.builtin "BaseException.__getattribute__"))
  h2_BadLot : PySem.W.findIn K (.ref (cA K "BadLot")) "__getattr__" = some none
  h3_BadLot : PySem.W.findIn K (.ref (cA K "BadLot")) "__class__" = some (some (.builtin "object.__class__"))
  h4_BadLot : PySem.W.mroIn K (cA K "BadLot") (.type "object") = some true
  sa_BadQuota : PySem.W.findIn K (.ref (cA K "BadQuota")) "__setattr__" = some (some (.builtin "object.__setattr__"))
  kp_BadQuota : PySem.W.keepIn K (.ref (cA K "BadQuota")) = true
  s_BadQuota : PySem.W.subIn K (.ref (cA K "BadQuota")) (.type "BaseException") = some true
  t_BadQuota : PySem.W.typeIn K (.ref (cA K "BadQuota")) = some (.type "type")
  d_BadQuota : PySem.W.hasDictIn K (cA K "BadQuota") = true
  h1_BadQuota : PySem.W.findIn K (.ref (cA K "BadQuota")) "__getattribute__" = some (some (.builtin "BaseException.__getattribute__"))
  h2_BadQuota : PySem.W.findIn K (.ref (cA K "BadQuota")) "__getattr__" = some none
  h3_BadQuota : PySem.W.findIn K (.ref (cA K "BadQuota")) "__class__" = some (some (.builtin "object.__class__"))
  h4_BadQuota : PySem.W.mroIn K (cA K "BadQuota") (.type "object") = some true
  sa_ManyDiffer : PySem.W.findIn K (.ref (cA K "ManyDiffer")) "__setattr__" = some (some (.builtin "object.__setattr__"))
  kp_ManyDiffer : PySem.W.keepIn K (.ref (cA K "ManyDiffer")) = true
  s_ManyDiffer : PySem.W.subIn K (.ref (cA K "ManyDiffer")) (.type "BaseException") = some true
  t_ManyDiffer : PySem.W.typeIn K (.ref (cA K "ManyDiffer")) = some (.type "type")
  d_ManyDiffer : PySem.W.hasDictIn K (cA K "ManyDiffer") = true
  h1_ManyDiffer : PySem.W.findIn K (.ref (cA K "ManyDiffer")) "__getattribute__" = some (some (.builtin "BaseException.__getattribute__"))
  h2_ManyDiffer : PySem.W.findIn K (.ref (cA K "ManyDiffer")) "__getattr__" = some none
  h3_ManyDiffer : PySem.W.findIn K (.ref (cA K "ManyDiffer")) "__class__" = some (some (.builtin "object.__class__"))
  h4_ManyDiffer : PySem.W.mroIn K (cA K "ManyDiffer") (.type "object") = some true
  pg_Rule : PySem.W.plainGet K (cA K "Rule") Str.empty = true
  po_Rule : PySem.W.plainOver K (cA K "Rule") = true
  sa_Rule : PySem.W.findIn K (.ref (cA K "Rule")) "__setattr__" = some (some (.builtin "object.__setattr__"))
  mm_Rule : PySem.W.makesIn K (cA K "Rule") = true
  kp_Rule : PySem.W.keepIn K (.ref (cA K "Rule")) = true
  d_Rule : PySem.W.hasDictIn K (cA K "Rule") = true
  sf_Rule : PySem.W.selfFirst K (cA K "Rule") = true
  h3_Rule : PySem.W.findIn K (.ref (cA K "Rule")) "__class__" = some (some (.builtin "object.__class__"))
  h4_Rule : PySem.W.mroIn K (cA K "Rule") (.type "object") = some true
  hn_ : PySem.W.specialIn K (.builtin "object.__class__") "__get__" = some (some (.builtin "getset_descriptor.__get__"))
  ht_ : PySem.W.takesIn K (.builtin "object.__class__") = some true
  nf_BadLot_lot : PySem.W.findIn K (.ref (cA K "BadLot")) "lot" = some none
  nf_BadQuota_quota : PySem.W.findIn K (.ref (cA K "BadQuota")) "quota" = some none
  nf_ManyDiffer_one : PySem.W.findIn K (.ref (cA K "ManyDiffer")) "one" = some none
  nf_ManyDiffer_two : PySem.W.findIn K (.ref (cA K "ManyDiffer")) "two" = some none
  kit_Rule_Rule : PySem.W.kitOne K (.ref (cA K "Rule")) (.ref (cA K "Rule")) = some true
  kib_Rule_ : PySem.W.kitOne K (.type "int") (.ref (cA K "Rule")) = some false
  nf_Rule_many : PySem.W.findIn K (.ref (cA K "Rule")) "many" = some none
  nf_Rule_least : PySem.W.findIn K (.ref (cA K "Rule")) "least" = some none
  nf_Rule_book : PySem.W.findIn K (.ref (cA K "Rule")) "book" = some none
  u_NoLots_CalmError : PySem.W.subIn K (.ref (cA K "NoLots")) (.ref (cA K "CalmError")) = some true
  u_BadLot_CalmError : PySem.W.subIn K (.ref (cA K "BadLot")) (.ref (cA K "CalmError")) = some true
  u_BadQuota_CalmError : PySem.W.subIn K (.ref (cA K "BadQuota")) (.ref (cA K "CalmError")) = some true
  u_ManyDiffer_CalmError : PySem.W.subIn K (.ref (cA K "ManyDiffer")) (.ref (cA K "CalmError")) = some true
  kit_NoLots_ManyDiffer : PySem.W.kitOne K (.ref (cA K "NoLots")) (.ref (cA K "ManyDiffer")) = some false
  kit_BadLot_ManyDiffer : PySem.W.kitOne K (.ref (cA K "BadLot")) (.ref (cA K "ManyDiffer")) = some false
  kit_BadQuota_ManyDiffer : PySem.W.kitOne K (.ref (cA K "BadQuota")) (.ref (cA K "ManyDiffer")) = some false
  kit_ManyDiffer_ManyDiffer : PySem.W.kitOne K (.ref (cA K "ManyDiffer")) (.ref (cA K "ManyDiffer")) = some true
  kit_NoLots_ValueError : PySem.W.kitOne K (.ref (cA K "NoLots")) (.type "ValueError") = some true
  kit_BadLot_ValueError : PySem.W.kitOne K (.ref (cA K "BadLot")) (.type "ValueError") = some true
  kit_BadQuota_ValueError : PySem.W.kitOne K (.ref (cA K "BadQuota")) (.type "ValueError") = some true
  kit_ManyDiffer_ValueError : PySem.W.kitOne K (.ref (cA K "ManyDiffer")) (.type "ValueError") = some true
  nf_NoLots_two : PySem.W.findIn K (.ref (cA K "NoLots")) "two" = some none
  nf_BadLot_two : PySem.W.findIn K (.ref (cA K "BadLot")) "two" = some none
  nf_BadQuota_two : PySem.W.findIn K (.ref (cA K "BadQuota")) "two" = some none
  nf_NoLots_one : PySem.W.findIn K (.ref (cA K "NoLots")) "one" = some none
  nf_BadLot_one : PySem.W.findIn K (.ref (cA K "BadLot")) "one" = some none
  nf_BadQuota_one : PySem.W.findIn K (.ref (cA K "BadQuota")) "one" = some none
  z_ValueError : mg "ValueError" = none
  z_all : mg "all" = none
  z_any : mg "any" = none
  z_bool : mg "bool" = none
  z_int : mg "int" = none
  z_isinstance : mg "isinstance" = none
  z_len : mg "len" = none
  z_list : mg "list" = none
  z_max : mg "max" = none
  z_range : mg "range" = none
  z_sorted : mg "sorted" = none
  z_sum : mg "sum" = none
  z_tuple : mg "tuple" = none
abbrev Txt.i_BadLot {K : PySem.W.Frag} {mg : Str → Option Value} (T : Txt K mg) := T.in_BadLot_init
abbrev Txt.i_BadQuota {K : PySem.W.Frag} {mg : Str → Option Value} (T : Txt K mg) := T.in_BadQuota_init
abbrev Txt.i_ManyDiffer {K : PySem.W.Frag} {mg : Str → Option Value} (T : Txt K mg) := T.in_ManyDiffer_init
theorem Txt.cls_Rule {K : PySem.W.Frag} {mg : Str → Option Value} (T : Txt K mg) : Cls K (cA K "Rule") := ⟨T.pg_Rule, T.d_Rule, T.po_Rule, T.sa_Rule⟩
theorem Txt.mk_Rule {K : PySem.W.Frag} {mg : Str → Option Value} (T : Txt K mg) : Mk K (cA K "Rule") T.a_Rule_init := ⟨T.mm_Rule, T.in_Rule_init, T.if_Rule_init, T.kp_Rule⟩
theorem Txt.oo_Rule_and {K : PySem.W.Frag} {mg : Str → Option Value} (T : Txt K mg) : OwnOp K (cA K "Rule") "__and__" T.a_Rule_and := ⟨T.sf_Rule, T.in_Rule_and, T.if_Rule_and⟩
theorem Txt.oo_Rule_or {K : PySem.W.Frag} {mg : Str → Option Value} (T : Txt K mg) : OwnOp K (cA K "Rule") "__or__" T.a_Rule_or := ⟨T.sf_Rule, T.in_Rule_or, T.if_Rule_or⟩
theorem Txt.oo_Rule_invert {K : PySem.W.Frag} {mg : Str → Option Value} (T : Txt K mg) : OwnOp K (cA K "Rule") "__invert__" T.a_Rule_invert := ⟨T.sf_Rule, T.in_Rule_invert, T.if_Rule_invert⟩
theorem Txt.oo_Rule_eq {K : PySem.W.Frag} {mg : Str → Option Value} (T : Txt K mg) : OwnOp K (cA K "Rule") "__eq__" T.a_Rule_eq := ⟨T.sf_Rule, T.in_Rule_eq, T.if_Rule_eq⟩
theorem Txt.xc_NoLots {K : PySem.W.Frag} {mg : Str → Option Value} (T : Txt K mg) : XcC K (cA K "NoLots") := ⟨T.d_NoLots, T.h1_NoLots, T.h2_NoLots, T.s_NoLots, T.h3_NoLots, T.hn_, T.ht_, T.h4_NoLots⟩
theorem Txt.xf_NoLots {K : PySem.W.Frag} {mg : Str → Option Value} (T : Txt K mg) : XfC K (cA K "NoLots") := ⟨T.h1_NoLots, T.h2_NoLots, T.s_NoLots, T.d_NoLots⟩
theorem Txt.xc_BadLot {K : PySem.W.Frag} {mg : Str → Option Value} (T : Txt K mg) : XcC K (cA K "BadLot") := ⟨T.d_BadLot, T.h1_BadLot, T.h2_BadLot, T.s_BadLot, T.h3_BadLot, T.hn_, T.ht_, T.h4_BadLot⟩
theorem Txt.xf_BadLot {K : PySem.W.Frag} {mg : Str → Option Value} (T : Txt K mg) : XfC K (cA K "BadLot") := ⟨T.h1_BadLot, T.h2_BadLot, T.s_BadLot, T.d_BadLot⟩
theorem Txt.xc_BadQuota {K : PySem.W.Frag} {mg : Str → Option Value} (T : Txt K mg) : XcC K (cA K "BadQuota") := ⟨T.d_BadQuota, T.h1_BadQuota, T.h2_BadQuota, T.s_BadQuota, T.h3_BadQuota, T.hn_, T.ht_, T.h4_BadQuota⟩
theorem Txt.xf_BadQuota {K : PySem.W.Frag} {mg : Str → Option Value} (T : Txt K mg) : XfC K (cA K "BadQuota") := ⟨T.h1_BadQuota, T.h2_BadQuota, T.s_BadQuota, T.d_BadQuota⟩
theorem Txt.xc_ManyDiffer {K : PySem.W.Frag} {mg : Str → Option Value} (T : Txt K mg) : XcC K (cA K "ManyDiffer") := ⟨T.d_ManyDiffer, T.h1_ManyDiffer, T.h2_ManyDiffer, T.s_ManyDiffer, T.h3_ManyDiffer, T.hn_, T.ht_, T.h4_ManyDiffer⟩
theorem Txt.xf_ManyDiffer {K : PySem.W.Frag} {mg : Str → Option Value} (T : Txt K mg) : XfC K (cA K "ManyDiffer") := ⟨T.h1_ManyDiffer, T.h2_ManyDiffer, T.s_ManyDiffer, T.d_ManyDiffer⟩
theorem Txt.isi_Rule {K : PySem.W.Frag} {mg : Str → Option Value} (T : Txt K mg) : IsiC K (cA K "Rule") := ⟨T.cls_Rule, T.h3_Rule, T.hn_, T.ht_, T.h4_Rule⟩
section
variable {P : Program} {w : World} {K : PySem.W.Frag} {mg : Str → Option Value} {base : Heap} {xa : Option (Addr × Value × Option Addr)}
theorem sc_lot_number : FnScope ["lot", "number", "voter"] ["lot"] (defScope s_lot_number) := ⟨rfl, rfl, rfl, by decide +kernel, rfl, by decide +kernel, by decide +kernel⟩
theorem ok_lot_number (T : Txt K mg) : FnOk P w K mg base (L2.CX P w) 1 T.a_lot_number T.fd_lot_number ["lot"] (spOf K (clOf K xa) 1 d_lot_number) :=
  fn_ok T.F_lot_number sc_lot_number rfl rfl fun cdv A outer s H E hr pw tk => by
    have hu : (A.deeper (PyProof.Rows.envOfC "lot_number" (defScope s_lot_number) s.heap.objs.size T.a_lot_number cdv)).units + 65 < cLine := by have := hr.un; omega
    exact (ss_cons (ss_set 1 (ps_set (i := 1) sc_lot_number.nd rfl (Or.inl rfl) so_int)) (ss_cons (ss_for pw rfl (si_seq (so_var 0 (pv 0))) (g_name 2) (pg_name (i := 2) sc_lot_number.nd rfl (Or.inl rfl)) (ss_one (ss_set 1 (ps_set (i := 1) sc_lot_number.nd rfl (Or.inl rfl) (so_bin op_addU o_add (so_var 1 (pv 1)) (so_bin op_shl o_shl so_int (so_var 2 (pv 2)))))))) (ss_one (ss_ret (so_var 1 (pv 1))))))
theorem sc_lot_of : FnScope ["number", "many", "voter"] ["number", "many"] (defScope s_lot_of) := ⟨rfl, rfl, rfl, by decide +kernel, rfl, by decide +kernel, by decide +kernel⟩
theorem ok_lot_of (T : Txt K mg) : FnOk P w K mg base (L2.CX P w) 1 T.a_lot_of T.fd_lot_of ["number", "many"] (spOf K (clOf K xa) 2 d_lot_of) :=
  fn_ok T.F_lot_of sc_lot_of rfl rfl fun cdv A outer s H E hr pw tk => by
    have hu : (A.deeper (PyProof.Rows.envOfC "lot_of" (defScope s_lot_of) s.heap.objs.size T.a_lot_of cdv)).units + 65 < cLine := by have := hr.un; omega
    exact (ss_one (ss_ret (so_callTy call_tuple_of a_tuple rfl T.z_tuple bt_tuple (sa_cons (so_fz (sc_lc (own := [("voter", 2)]) rfl sc_lot_of.nd (g_name 2) (by decide) (si_rng1 rfl T.z_range (sa_cons (so_var 1 (pv 1)) sa_nil)) (blkOk_by (N := ["number", "many", "voter"]) (sc := defScope s_lot_of) (by decide +kernel)) (fun _ _ _ _ _ => (pg_name (i := 2) sc_lot_of.nd rfl (by first | exact Or.inl rfl | exact Or.inr rfl))) (fun _ _ _ _ _ => (ts_one (sb_cmp (op_eqD hr.units) o_eq (so_bin op_and o_and (so_bin op_shr o_shr (so_var 0 (pv 0)) (so_var 2 (pv 2))) so_int) so_int (nomark _)))) (fun _ _ _ _ _ => (so_var 2 (pv 2))))) sa_nil))))
theorem sc_lot_order : FnScope ["lot"] ["lot"] (defScope s_lot_order) := ⟨rfl, rfl, rfl, by decide +kernel, rfl, by decide +kernel, by decide +kernel⟩
theorem ok_lot_order (T : Txt K mg) : FnOk P w K mg base (L2.CX P w) 1 T.a_lot_order T.fd_lot_order ["lot"] (spOf K (clOf K xa) 1 d_lot_order) :=
  fn_ok T.F_lot_order sc_lot_order rfl rfl fun cdv A outer s H E hr pw tk => by
    have hu : (A.deeper (PyProof.Rows.envOfC "lot_order" (defScope s_lot_order) s.heap.objs.size T.a_lot_order cdv)).units + 65 < cLine := by have := hr.un; omega
    exact (ss_one (ss_ret (so_tup (sa_cons (so_callB call_len a_len rfl T.z_len bt_len (sa_cons (so_var 0 (pv 0)) sa_nil)) (sa_cons (so_var 0 (pv 0)) sa_nil)))))
theorem sc_is_lot : FnScope ["lot", "many", "last", "voter"] ["lot", "many"] (defScope s_is_lot) := ⟨rfl, rfl, rfl, by decide +kernel, rfl, by decide +kernel, by decide +kernel⟩
theorem ok_is_lot (T : Txt K mg) : FnOk P w K mg base (L2.CX P w) 1 T.a_is_lot T.fd_is_lot ["lot", "many"] (spOf K (clOf K xa) 2 d_is_lot) :=
  fn_ok T.F_is_lot sc_is_lot rfl rfl fun cdv A outer s H E hr pw tk => by
    have hu : (A.deeper (PyProof.Rows.envOfC "is_lot" (defScope s_is_lot) s.heap.objs.size T.a_is_lot cdv)).units + 65 < cLine := by have := hr.un; omega
    exact (ss_cons (ss_set 2 (ps_set (i := 2) sc_is_lot.nd rfl (Or.inl rfl) (so_un un_neg o_neg so_int))) (ss_cons (ss_for pw rfl (si_seq (so_var 0 (pv 0))) (g_name 3) (pg_name (i := 3) sc_is_lot.nd rfl (Or.inl rfl)) (ss_cons (ss_if (sw_b (sw_or (sb_cmp op_le o_le (so_var 3 (pv 3)) (so_var 2 (pv 2)) (nomark _)) (sw_or1 (sb_cmp op_ge o_ge (so_var 3 (pv 3)) (so_var 1 (pv 1)) (nomark _))))) (ss_one (ss_ret so_bl)) ss_nil) (ss_one (ss_set 2 (ps_set (i := 2) sc_is_lot.nd rfl (Or.inl rfl) (so_var 3 (pv 3))))))) (ss_one (ss_ret so_bl))))
theorem sc_smaller_wins : FnScope ["book", "number", "many", "voter"] ["book", "number", "many"] (defScope s_smaller_wins) := ⟨rfl, rfl, rfl, by decide +kernel, rfl, by decide +kernel, by decide +kernel⟩
theorem ok_smaller_wins (T : Txt K mg) : FnOk P w K mg base (L2.CX P w) 1 T.a_smaller_wins T.fd_smaller_wins ["book", "number", "many"] (spOf K (clOf K xa) 3 d_smaller_wins) :=
  fn_ok T.F_smaller_wins sc_smaller_wins rfl rfl fun cdv A outer s H E hr pw tk => by
    have hu : (A.deeper (PyProof.Rows.envOfC "smaller_wins" (defScope s_smaller_wins) s.heap.objs.size T.a_smaller_wins cdv)).units + 65 < cLine := by have := hr.un; omega
    exact (ss_cons (ss_for pw rfl (si_rng1 rfl T.z_range (sa_cons (so_var 2 (pv 2)) sa_nil)) (g_name 3) (pg_name (i := 3) sc_smaller_wins.nd rfl (Or.inl rfl)) (ss_one (ss_if (sw_b (sw_and (sb_cmp (op_eqD hr.units) o_eq (so_bin op_and o_and (so_bin op_shr o_shr (so_var 1 (pv 1)) (so_var 3 (pv 3))) so_int) so_int (nomark _)) (sw_and1 (sb_val (so_ix ix_U o_ix (so_var 0 (pv 0)) (so_bin op_sub o_sub (so_var 1 (pv 1)) (so_bin op_shl o_shl so_int (so_var 3 (pv 3)))) (fun _ _ => rfl)))))) (ss_one (ss_ret so_bl)) ss_nil))) (ss_one (ss_ret so_bl)))
theorem sc_sums_of : FnScope ["weights", "sums", "weight", "told"] ["weights"] (defScope s_sums_of) := ⟨rfl, rfl, rfl, by decide +kernel, rfl, by decide +kernel, by decide +kernel⟩
theorem ok_sums_of (T : Txt K mg) : FnOk P w K mg base (L2.CX P w) 1 T.a_sums_of T.fd_sums_of ["weights"] (spOf K (clOf K xa) 1 d_sums_of) :=
  fn_ok T.F_sums_of sc_sums_of rfl rfl fun cdv A outer s H E hr pw tk => by
    have hu : (A.deeper (PyProof.Rows.envOfC "sums_of" (defScope s_sums_of) s.heap.objs.size T.a_sums_of cdv)).units + 65 < cLine := by have := hr.un; omega
    exact (ss_cons (ss_set 1 (ps_set (i := 1) sc_sums_of.nd rfl (Or.inl rfl) (so_fz (sc_lst (sa_cons so_int sa_nil))))) (ss_cons (ss_for pw rfl (si_seq (so_var 0 (pv 0))) (g_name 2) (pg_name (i := 2) sc_sums_of.nd rfl (Or.inr rfl)) (ss_one (ss_set 1 (ps_set (i := 1) sc_sums_of.nd rfl (Or.inl rfl) (so_bin op_addU o_add (so_var 1 (pv 1)) (so_fz (sc_lc (own := [("told", 3)]) rfl sc_sums_of.nd (g_name 3) (by decide) (si_seq (so_var 1 (pv 1))) (blkOk_by (N := ["weights", "sums", "weight", "told"]) (sc := defScope s_sums_of) (by decide +kernel)) (fun _ _ _ _ _ => (pg_name (i := 3) sc_sums_of.nd rfl (by first | exact Or.inl rfl | exact Or.inr rfl))) (fun _ _ _ _ _ => ts_nil) (fun _ _ _ _ _ => (so_bin op_addU o_add (so_var 3 (pv 3)) (so_var 2 (pv 2))))))))))) (ss_one (ss_ret (so_callTy call_tuple_of a_tuple rfl T.z_tuple bt_tuple (sa_cons (so_var 1 (pv 1)) sa_nil))))))
theorem sc_law_whole : FnScope ["value"] ["value"] (defScope s_law_whole) := ⟨rfl, rfl, rfl, by decide +kernel, rfl, by decide +kernel, by decide +kernel⟩
theorem ok_law_whole (T : Txt K mg) : FnOk P w K mg base (L2.CX P w) 1 T.a_law_whole T.fd_law_whole ["value"] (spOf K (clOf K xa) 1 d_law_whole) :=
  fn_ok T.F_law_whole sc_law_whole rfl rfl fun cdv A outer s H E hr pw tk => by
    have hu : (A.deeper (PyProof.Rows.envOfC "_law_whole" (defScope s_law_whole) s.heap.objs.size T.a_law_whole cdv)).units + 65 < cLine := by have := hr.un; omega
    exact (ss_one (ss_ret (so_and (so_isiTy rfl T.z_isinstance (pe_bltn rfl T.z_int bt_int rfl) (so_var 0 (pv 0))) (so_one (so_not (so_isiTy rfl T.z_isinstance (pe_bltn rfl T.z_bool bt_bool rfl) (so_var 0 (pv 0))))))))
theorem sc_law_cell : FnScope ["script", "k", "seed", "cell"] ["script", "k"] (defScope s_law_cell) := ⟨rfl, rfl, rfl, by decide +kernel, rfl, by decide +kernel, by decide +kernel⟩
theorem ok_law_cell (T : Txt K mg) : FnOk P w K mg base (L2.CX P w) 1 T.a_law_cell T.fd_law_cell ["script", "k"] (spOf K (clOf K xa) 2 d_law_cell) :=
  fn_ok T.F_law_cell sc_law_cell rfl rfl fun cdv A outer s H E hr pw tk => by
    have hu : (A.deeper (PyProof.Rows.envOfC "_law_cell" (defScope s_law_cell) s.heap.objs.size T.a_law_cell cdv)).units + 65 < cLine := by have := hr.un; omega
    exact (ss_cons (ss_if (sb_cmp op_lt o_lt (so_var 1 (pv 1)) (so_callB call_len a_len rfl T.z_len bt_len (sa_cons (so_var 0 (pv 0)) sa_nil)) (nomark _)) (ss_one (ss_ret (so_ix ix_U o_ix (so_var 0 (pv 0)) (so_var 1 (pv 1)) (fun _ _ => rfl)))) ss_nil) (ss_cons (ss_set 2 (ps_set (i := 2) sc_law_cell.nd rfl (Or.inl rfl) so_int)) (ss_cons (ss_for pw rfl (si_seq (so_var 0 (pv 0))) (g_name 3) (pg_name (i := 3) sc_law_cell.nd rfl (Or.inl rfl)) (ss_one (ss_set 2 (ps_set (i := 2) sc_law_cell.nd rfl (Or.inl rfl) (so_bin op_modN o_mod (so_callTy call_int1 a_int rfl T.z_int bt_int (sa_cons (so_bin op_addU o_add (so_bin op_mulU o_mul (so_var 2 (pv 2)) so_int) (so_bin op_modN o_mod (so_callTy call_int1 a_int rfl T.z_int bt_int (sa_cons (so_var 3 (pv 3)) sa_nil)) so_int)) sa_nil)) so_int))))) (ss_one (ss_ret (so_bin op_modN o_mod (so_callTy call_int1 a_int rfl T.z_int bt_int (sa_cons (so_bin op_mulU o_mul (so_bin op_mulU o_mul (so_bin op_addU o_add (so_var 2 (pv 2)) so_int) (so_bin op_addU o_add (so_var 1 (pv 1)) so_int)) so_int) sa_nil)) so_int))))))
theorem sc_law_digits : FnScope ["cell", "sizes", "row", "rest", "size", "seed", "k", "twice"] ["cell", "sizes"] (defScope s_law_digits) := ⟨rfl, rfl, rfl, by decide +kernel, rfl, by decide +kernel, by decide +kernel⟩
theorem ok_law_digits (T : Txt K mg) : FnOk P w K mg base (L2.CX P w) 1 T.a_law_digits T.fd_law_digits ["cell", "sizes"] (spOf K (clOf K xa) 2 d_law_digits) :=
  fn_ok T.F_law_digits sc_law_digits rfl rfl fun cdv A outer s H E hr pw tk => by
    have hu : (A.deeper (PyProof.Rows.envOfC "_law_digits" (defScope s_law_digits) s.heap.objs.size T.a_law_digits cdv)).units + 65 < cLine := by have := hr.un; omega
    exact (ss_cons (ss_own 2 (ps_set (i := 2) sc_law_digits.nd rfl (Or.inl rfl) (sc_lst sa_nil))) (ss_cons (ss_set 3 (ps_set (i := 3) sc_law_digits.nd rfl (Or.inl rfl) (so_callTy call_int1 a_int rfl T.z_int bt_int (sa_cons (so_var 0 (pv 0)) sa_nil)))) (ss_cons (ss_if (sb_cmp op_ge o_ge (so_var 3 (pv 3)) (so_bin op_pow o_pow so_int so_int) (nomark _)) (ss_cons (ss_set 3 (ps_set (i := 3) sc_law_digits.nd rfl (Or.inl rfl) (so_bin op_sub o_sub (so_var 3 (pv 3)) (so_bin op_pow o_pow so_int so_int)))) (ss_cons (ss_for pw rfl (si_seq (so_var 1 (pv 1))) (g_name 4) (pg_name (i := 4) sc_law_digits.nd rfl (Or.inl rfl)) (ss_cons (ss_app 2 (ps_expr (pe_bm PySem.F.plainAttrs_list PySem.F.slot_list_append PySem.F.type_list_append mt_append (pv 2) (sa_cons (so_bin op_modN o_mod (so_callTy call_int1 a_int rfl T.z_int bt_int (sa_cons (so_var 3 (pv 3)) sa_nil)) (so_var 4 (pv 4))) sa_nil)))) (ss_one (ss_set 3 (ps_set (i := 3) sc_law_digits.nd rfl (Or.inl rfl) (so_bin op_fdivX o_fdiv (so_callTy call_int1 a_int rfl T.z_int bt_int (sa_cons (so_var 3 (pv 3)) sa_nil)) (so_var 4 (pv 4)))))))) (ss_one (ss_frz 2 (ss_ret (so_var 2 (pv 2))))))) ss_nil) (ss_cons (ss_set 5 (ps_set (i := 5) sc_law_digits.nd rfl (Or.inl rfl) (so_bin op_modN o_mod (so_callTy call_int1 a_int rfl T.z_int bt_int (sa_cons (so_var 3 (pv 3)) sa_nil)) so_int))) (ss_cons (ss_for pw rfl (si_rng1 rfl T.z_range (sa_cons (so_callB call_len a_len rfl T.z_len bt_len (sa_cons (so_var 1 (pv 1)) sa_nil)) sa_nil)) (g_name 6) (pg_name (i := 6) sc_law_digits.nd rfl (Or.inl rfl)) (ss_cons (ss_set 5 (ps_set (i := 5) sc_law_digits.nd rfl (Or.inl rfl) (so_bin op_modN o_mod (so_callTy call_int1 a_int rfl T.z_int bt_int (sa_cons (so_bin op_addU o_add (so_bin op_addU o_add (so_bin op_mulU o_mul (so_var 5 (pv 5)) so_int) (so_bin op_mulU o_mul so_int (so_var 6 (pv 6)))) so_int) sa_nil)) so_int))) (ss_cons (ss_set 7 (ps_set (i := 7) sc_law_digits.nd rfl (Or.inl rfl) (so_bin op_modN o_mod (so_callTy call_int1 a_int rfl T.z_int bt_int (sa_cons (so_bin op_mulU o_mul (so_var 5 (pv 5)) (so_bin op_addU o_add (so_bin op_fdivX o_fdiv (so_var 5 (pv 5)) so_int) so_int)) sa_nil)) so_int))) (ss_one (ss_app 2 (ps_expr (pe_bm PySem.F.plainAttrs_list PySem.F.slot_list_append PySem.F.type_list_append mt_append (pv 2) (sa_cons (so_bin op_modN o_mod (so_bin op_fdivX o_fdiv (so_var 7 (pv 7)) so_int) (so_ix ix_U o_ix (so_var 1 (pv 1)) (so_var 6 (pv 6)) (fun _ _ => rfl))) sa_nil)))))))) (ss_one (ss_frz 2 (ss_ret (so_var 2 (pv 2))))))))))
theorem sc_law_number : FnScope ["lot", "total", "voter"] ["lot"] (defScope s_law_number) := ⟨rfl, rfl, rfl, by decide +kernel, rfl, by decide +kernel, by decide +kernel⟩
theorem ok_law_number (T : Txt K mg) : FnOk P w K mg base (L2.CX P w) 1 T.a_law_number T.fd_law_number ["lot"] (spOf K (clOf K xa) 1 d_law_number) :=
  fn_ok T.F_law_number sc_law_number rfl rfl fun cdv A outer s H E hr pw tk => by
    have hu : (A.deeper (PyProof.Rows.envOfC "_law_number" (defScope s_law_number) s.heap.objs.size T.a_law_number cdv)).units + 65 < cLine := by have := hr.un; omega
    exact (ss_cons (ss_set 1 (ps_set (i := 1) sc_law_number.nd rfl (Or.inl rfl) so_int)) (ss_cons (ss_for pw rfl (si_seq (so_var 0 (pv 0))) (g_name 2) (pg_name (i := 2) sc_law_number.nd rfl (Or.inl rfl)) (ss_one (ss_set 1 (ps_set (i := 1) sc_law_number.nd rfl (Or.inl rfl) (so_bin op_addU o_add (so_var 1 (pv 1)) (so_bin op_shl o_shl so_int (so_var 2 (pv 2)))))))) (ss_one (ss_ret (so_var 1 (pv 1))))))
theorem sc_law_voters : FnScope ["number", "many", "k"] ["number", "many"] (defScope s_law_voters) := ⟨rfl, rfl, rfl, by decide +kernel, rfl, by decide +kernel, by decide +kernel⟩
theorem ok_law_voters (T : Txt K mg) : FnOk P w K mg base (L2.CX P w) 1 T.a_law_voters T.fd_law_voters ["number", "many"] (spOf K (clOf K xa) 2 d_law_voters) :=
  fn_ok T.F_law_voters sc_law_voters rfl rfl fun cdv A outer s H E hr pw tk => by
    have hu : (A.deeper (PyProof.Rows.envOfC "_law_voters" (defScope s_law_voters) s.heap.objs.size T.a_law_voters cdv)).units + 65 < cLine := by have := hr.un; omega
    exact (ss_one (ss_ret (so_callTy call_tuple_of a_tuple rfl T.z_tuple bt_tuple (sa_cons (so_fz (sc_lc (own := [("k", 2)]) rfl sc_law_voters.nd (g_name 2) (by decide) (si_rng1 rfl T.z_range (sa_cons (so_var 1 (pv 1)) sa_nil)) (blkOk_by (N := ["number", "many", "k"]) (sc := defScope s_law_voters) (by decide +kernel)) (fun _ _ _ _ _ => (pg_name (i := 2) sc_law_voters.nd rfl (by first | exact Or.inl rfl | exact Or.inr rfl))) (fun _ _ _ _ _ => (ts_one (sb_cmp (op_eqD hr.units) o_eq (so_bin op_and o_and (so_bin op_shr o_shr (so_var 0 (pv 0)) (so_var 2 (pv 2))) so_int) so_int (nomark _)))) (fun _ _ _ _ _ => (so_var 2 (pv 2))))) sa_nil))))
theorem sc_law_order : FnScope ["lot"] ["lot"] (defScope s_law_order) := ⟨rfl, rfl, rfl, by decide +kernel, rfl, by decide +kernel, by decide +kernel⟩
theorem ok_law_order (T : Txt K mg) : FnOk P w K mg base (L2.CX P w) 1 T.a_law_order T.fd_law_order ["lot"] (spOf K (clOf K xa) 1 d_law_order) :=
  fn_ok T.F_law_order sc_law_order rfl rfl fun cdv A outer s H E hr pw tk => by
    have hu : (A.deeper (PyProof.Rows.envOfC "_law_order" (defScope s_law_order) s.heap.objs.size T.a_law_order cdv)).units + 65 < cLine := by have := hr.un; omega
    exact (ss_one (ss_ret (so_tup (sa_cons (so_callB call_len a_len rfl T.z_len bt_len (sa_cons (so_var 0 (pv 0)) sa_nil)) (sa_cons (so_var 0 (pv 0)) sa_nil)))))
theorem sc_law_near : FnScope ["table", "many", "at", "found", "number", "fewer", "more", "near", "turned", "k", "other"] ["table", "many", "at"] (defScope s_law_near) := ⟨rfl, rfl, rfl, by decide +kernel, rfl, by decide +kernel, by decide +kernel⟩
theorem ok_law_near (T : Txt K mg) : FnOk P w K mg base (L2.CX P w) 1 T.a_law_near T.fd_law_near ["table", "many", "at"] (spOf K (clOf K xa) 3 d_law_near) :=
  fn_ok T.F_law_near sc_law_near rfl rfl fun cdv A outer s H E hr pw tk => by
    have hu : (A.deeper (PyProof.Rows.envOfC "_law_near" (defScope s_law_near) s.heap.objs.size T.a_law_near cdv)).units + 65 < cLine := by have := hr.un; omega
    exact (ss_cons (ss_own 3 (ps_set (i := 3) sc_law_near.nd rfl (Or.inl rfl) (sc_lst sa_nil))) (ss_cons (ss_for pw rfl (si_rng2 rfl T.z_range (sa_cons so_int (sa_cons (so_bin op_sub o_sub (so_bin op_shl o_shl so_int (so_var 1 (pv 1))) so_int) sa_nil))) (g_name 4) (pg_name (i := 4) sc_law_near.nd rfl (Or.inr rfl)) (ss_cons (ss_lcF (own := [("k", 9)]) (i := 5) rfl sc_law_near.nd rfl rfl (sw_true rfl rfl rfl (by decide +kernel)) (g_name 9) (by decide) (si_rng1 rfl T.z_range (sa_cons (so_var 1 (pv 1)) sa_nil)) (blkOk_by (N := ["table", "many", "at", "found", "number", "fewer", "more", "near", "turned", "k", "other"]) (sc := defScope s_law_near) (by decide +kernel)) (fun _ _ _ _ _ => (pg_name (i := 9) sc_law_near.nd rfl (by first | exact Or.inl rfl | exact Or.inr rfl))) (fun _ _ _ _ _ => (ts_one (sb_cmp (op_eqD hr.units) o_eq (so_bin op_and o_and (so_bin op_shr o_shr (so_var 4 (pv 4)) (so_var 9 (pv 9))) so_int) so_int (nomark _)))) (fun _ _ _ _ _ => (so_bin op_sub o_sub (so_var 4 (pv 4)) (so_bin op_shl o_shl so_int (so_var 9 (pv 9)))))) (ss_cons (ss_lcF (own := [("k", 9)]) (i := 6) rfl sc_law_near.nd rfl rfl (sw_true rfl rfl rfl (by decide +kernel)) (g_name 9) (by decide) (si_rng1 rfl T.z_range (sa_cons (so_var 1 (pv 1)) sa_nil)) (blkOk_by (N := ["table", "many", "at", "found", "number", "fewer", "more", "near", "turned", "k", "other"]) (sc := defScope s_law_near) (by decide +kernel)) (fun _ _ _ _ _ => (pg_name (i := 9) sc_law_near.nd rfl (by first | exact Or.inl rfl | exact Or.inr rfl))) (fun _ _ _ _ _ => (ts_one (sb_cmp (op_eqD hr.units) o_eq (so_bin op_and o_and (so_bin op_shr o_shr (so_var 4 (pv 4)) (so_var 9 (pv 9))) so_int) so_int (nomark _)))) (fun _ _ _ _ _ => (so_bin op_addU o_add (so_var 4 (pv 4)) (so_bin op_shl o_shl so_int (so_var 9 (pv 9)))))) (ss_cons (ss_if (sw_b (sw_and (sb_val (so_ix ix_U o_ix (so_var 0 (pv 0)) (so_var 4 (pv 4)) (fun _ _ => rfl))) (sw_and1 (sb_not (sb_val (so_callB (cr_any rfl) a_any rfl T.z_any bt_any (sa_cons (so_fz (sc_lc (own := [("other", 10)]) rfl sc_law_near.nd (g_name 10) (by decide) (si_seq (so_var 5 (pv 5))) (blkOk_by (N := ["table", "many", "at", "found", "number", "fewer", "more", "near", "turned", "k", "other"]) (sc := defScope s_law_near) (by decide +kernel)) (fun _ _ _ _ _ => (pg_name (i := 10) sc_law_near.nd rfl (by first | exact Or.inl rfl | exact Or.inr rfl))) (fun _ _ _ _ _ => ts_nil) (fun _ _ _ _ _ => (so_ix ix_U o_ix (so_var 0 (pv 0)) (so_var 10 (pv 10)) (fun _ _ => rfl))))) sa_nil))))))) (ss_one (ss_app 3 (ps_expr (pe_bm PySem.F.plainAttrs_list PySem.F.slot_list_append PySem.F.type_list_append mt_append (pv 3) (sa_cons (so_var 4 (pv 4)) sa_nil))))) ss_nil) (ss_one (ss_if (sw_b (sw_and (sb_not (sb_val (so_ix ix_U o_ix (so_var 0 (pv 0)) (so_var 4 (pv 4)) (fun _ _ => rfl)))) (sw_and1 (sb_val (so_callB (cr_all rfl) a_all rfl T.z_all bt_all (sa_cons (so_fz (sc_lc (own := [("other", 10)]) rfl sc_law_near.nd (g_name 10) (by decide) (si_seq (so_var 6 (pv 6))) (blkOk_by (N := ["table", "many", "at", "found", "number", "fewer", "more", "near", "turned", "k", "other"]) (sc := defScope s_law_near) (by decide +kernel)) (fun _ _ _ _ _ => (pg_name (i := 10) sc_law_near.nd rfl (by first | exact Or.inl rfl | exact Or.inr rfl))) (fun _ _ _ _ _ => ts_nil) (fun _ _ _ _ _ => (so_ix ix_U o_ix (so_var 0 (pv 0)) (so_var 10 (pv 10)) (fun _ _ => rfl))))) sa_nil)))))) (ss_one (ss_app 3 (ps_expr (pe_bm PySem.F.plainAttrs_list PySem.F.slot_list_append PySem.F.type_list_append mt_append (pv 3) (sa_cons (so_var 4 (pv 4)) sa_nil))))) ss_nil)))))) (ss_cons (ss_own 7 (ps_set (i := 7) sc_law_near.nd rfl (Or.inl rfl) (sc_list rfl T.z_list (so_var 0 (pv 0))))) (ss_cons (ss_if (sb_cmp op_gt o_gt (so_bor 3 (so_callB call_len a_len rfl T.z_len bt_len (sa_cons (so_var 3 (pv 3)) sa_nil))) so_int (nomark _)) (ss_cons (ss_set 8 (ps_set (i := 8) sc_law_near.nd rfl (Or.inl rfl) (so_ixO 3 (pv 3) (so_bin op_modN o_mod (so_callTy call_int1 a_int rfl T.z_int bt_int (sa_cons (so_var 2 (pv 2)) sa_nil)) (so_bor 3 (so_callB call_len a_len rfl T.z_len bt_len (sa_cons (so_var 3 (pv 3)) sa_nil)))) (fun _ _ => rfl)))) (ss_one (ss_idx 7 (ps_asg (so_not (so_ixO 7 (pv 7) (so_var 8 (pv 8)) (fun _ _ => rfl))) (pg_sub (pv 7) (so_var 8 (pv 8)) set_list))))) ss_nil) (ss_one (ss_frz 7 (ss_ret (so_var 7 (pv 7)))))))))
theorem sc_BadLot_init : FnScope ["self", "lot"] ["self", "lot"] (defScope s_BadLot_init) := ⟨rfl, rfl, rfl, by decide +kernel, rfl, by decide +kernel, by decide +kernel⟩
theorem ok_BadLot_init (T : Txt K mg) : FnOk P w K mg base (L2.CX P w) 1 T.a_BadLot_init T.fd_BadLot_init ["self", "lot"] (spX1 K (cA K "BadLot") "lot") := fn_x1 T.F_BadLot_init sc_BadLot_init ⟨⟨_, _, _, _, rfl⟩⟩ T.ox_BadLot T.nf_BadLot_lot (Or.inl rfl) (Or.inl rfl) (by decide +kernel) (by decide +kernel)
theorem sc_BadQuota_init : FnScope ["self", "quota"] ["self", "quota"] (defScope s_BadQuota_init) := ⟨rfl, rfl, rfl, by decide +kernel, rfl, by decide +kernel, by decide +kernel⟩
theorem ok_BadQuota_init (T : Txt K mg) : FnOk P w K mg base (L2.CX P w) 1 T.a_BadQuota_init T.fd_BadQuota_init ["self", "quota"] (spX1 K (cA K "BadQuota") "quota") := fn_x1 T.F_BadQuota_init sc_BadQuota_init ⟨⟨_, _, _, _, rfl⟩⟩ T.ox_BadQuota T.nf_BadQuota_quota (Or.inl rfl) (Or.inl rfl) (by decide +kernel) (by decide +kernel)
theorem sc_ManyDiffer_init : FnScope ["self", "one", "two"] ["self", "one", "two"] (defScope s_ManyDiffer_init) := ⟨rfl, rfl, rfl, by decide +kernel, rfl, by decide +kernel, by decide +kernel⟩
theorem ok_ManyDiffer_init (T : Txt K mg) : FnOk P w K mg base (L2.CX P w) 1 T.a_ManyDiffer_init T.fd_ManyDiffer_init ["self", "one", "two"] (spX2 (cA K "ManyDiffer") "one" "two") := fn_x2 T.F_ManyDiffer_init sc_ManyDiffer_init ⟨_, _, _, _, _, _, _, _, rfl⟩ T.ox_ManyDiffer T.nf_ManyDiffer_one T.nf_ManyDiffer_two (Or.inl rfl) (Or.inl rfl) (Or.inl rfl) (by decide +kernel) (by decide +kernel) (by decide +kernel) (by decide +kernel)
theorem sc_Rule_eq : FnScope ["self", "other"] ["self", "other"] (defScope s_Rule_eq) := ⟨rfl, rfl, rfl, by decide +kernel, rfl, by decide +kernel, by decide +kernel⟩
theorem ok_Rule_eq (T : Txt K mg) : FnOk P w K mg base (L2.CX P w) 1 T.a_Rule_eq T.fd_Rule_eq ["self", "other"] (spOf K (clOf K xa) 2 d_Rule_eq) :=
  fn_ok T.F_Rule_eq sc_Rule_eq rfl rfl fun cdv A outer s H E hr pw tk => by
    have hu : (A.deeper (PyProof.Rows.envOfC "Rule.__eq__" (defScope s_Rule_eq) s.heap.objs.size T.a_Rule_eq cdv)).units + 65 < cLine := by have := hr.un; omega
    exact (ss_one (ss_ret (so_and (so_isC2 (l := [(5, true)]) rfl T.z_isinstance (pe_glob rfl T.g_Rule (v := .ref (cA _ "Rule")) rfl) T.kib_Rule_ (xt_cons ⟨T.kit_Rule_Rule, T.isi_Rule⟩ xt_nil) (so_var 1 (pv 1))) (so_and (so_cmp (op_eqD hr.units) o_eq (so_fld (tab_cons ⟨T.cls_Rule, T.nf_Rule_many⟩ (tab_nil)) (so_var 0 (pv 0))) (so_fld (tab_cons ⟨T.cls_Rule, T.nf_Rule_many⟩ (tab_nil)) (so_var 1 (pv 1))) (nomark _)) (so_one (so_cmp (op_eqD hr.units) o_eq (so_fld (tab_cons ⟨T.cls_Rule, T.nf_Rule_least⟩ (tab_nil)) (so_var 0 (pv 0))) (so_fld (tab_cons ⟨T.cls_Rule, T.nf_Rule_least⟩ (tab_nil)) (so_var 1 (pv 1))) (nomark _)))))))
theorem sc_winning_book : FnScope ["many", "numbers", "number", "told", "book"] ["many", "numbers"] (defScope s_winning_book) := ⟨rfl, rfl, rfl, by decide +kernel, rfl, by decide +kernel, by decide +kernel⟩
theorem ok_winning_book (T : Txt K mg) : FnOk P w K mg base (L2.CX P w) 2 T.a_winning_book T.fd_winning_book ["many", "numbers"] (spOf K (clOf K xa) 2 d_winning_book) :=
  fn_ok T.F_winning_book sc_winning_book rfl rfl fun cdv A outer s H E hr pw tk => by
    have hu : (A.deeper (PyProof.Rows.envOfC "winning_book" (defScope s_winning_book) s.heap.objs.size T.a_winning_book cdv)).units + 65 < cLine := by have := hr.un; omega
    exact (ss_cons (ss_dcF (own := [("number", 2)]) (i := 3) rfl sc_winning_book.nd rfl rfl (sw_trueD rfl rfl rfl (by decide +kernel)) (g_name 2) (by decide) (si_seq (so_var 1 (pv 1))) (blkOk_by (N := ["many", "numbers", "number", "told", "book"]) (sc := defScope s_winning_book) (by decide +kernel)) (fun _ _ _ _ _ => (pg_name (i := 2) sc_winning_book.nd rfl (by first | exact Or.inl rfl | exact Or.inr rfl))) (fun _ _ _ _ _ => ts_nil) (fun _ _ _ _ _ => (so_var 2 (pv 2))) (fun _ _ _ _ _ => so_bl)) (ss_cons (ss_own 4 (ps_set (i := 4) sc_winning_book.nd rfl (Or.inl rfl) (sc_lst sa_nil))) (ss_cons (ss_for pw rfl (si_rng1 rfl T.z_range (sa_cons (so_bin op_shl o_shl so_int (so_var 0 (pv 0))) sa_nil)) (g_name 2) (pg_name (i := 2) sc_winning_book.nd rfl (Or.inl rfl)) (ss_one (ss_app 4 (ps_expr (pe_bm PySem.F.plainAttrs_list PySem.F.slot_list_append PySem.F.type_list_append mt_append (pv 4) (sa_cons (so_or (so_cmp (op_inA hu) o_inA (so_var 2 (pv 2)) (so_var 3 (pv 3)) rfl) (so_one (so_bor 4 (so_call (ok_smaller_wins T) (hr.mono (by decide)) rfl T.m_smaller_wins T.F_smaller_wins.kp T.b_smaller_wins tk (sa_cons (so_var 4 (pv 4)) (sa_cons (so_var 2 (pv 2)) (sa_cons (so_var 0 (pv 0)) sa_nil))))))) sa_nil)))))) (ss_one (ss_frz 4 (ss_ret (so_callTy call_tuple_of a_tuple rfl T.z_tuple bt_tuple (sa_cons (so_var 4 (pv 4)) sa_nil))))))))
theorem sc_least_lots : FnScope ["many", "book", "numbers", "number"] ["many", "book"] (defScope s_least_lots) := ⟨rfl, rfl, rfl, by decide +kernel, rfl, by decide +kernel, by decide +kernel⟩
theorem ok_least_lots (T : Txt K mg) : FnOk P w K mg base (L2.CX P w) 2 T.a_least_lots T.fd_least_lots ["many", "book"] (spOf K (clOf K xa) 2 d_least_lots) :=
  fn_ok T.F_least_lots sc_least_lots rfl rfl fun cdv A outer s H E hr pw tk => by
    have hu : (A.deeper (PyProof.Rows.envOfC "least_lots" (defScope s_least_lots) s.heap.objs.size T.a_least_lots cdv)).units + 65 < cLine := by have := hr.un; omega
    exact (ss_cons (ss_lcF (own := [("number", 3)]) (i := 2) rfl sc_least_lots.nd rfl rfl (sw_true rfl rfl rfl (by decide +kernel)) (g_name 3) (by decide) (si_rng1 rfl T.z_range (sa_cons (so_callB call_len a_len rfl T.z_len bt_len (sa_cons (so_var 1 (pv 1)) sa_nil)) sa_nil)) (blkOk_by (N := ["many", "book", "numbers", "number"]) (sc := defScope s_least_lots) (by decide +kernel)) (fun _ _ _ _ _ => (pg_name (i := 3) sc_least_lots.nd rfl (by first | exact Or.inl rfl | exact Or.inr rfl))) (fun _ _ _ _ _ => (ts_one (sw_b (sw_and (sb_val (so_ix ix_U o_ix (so_var 1 (pv 1)) (so_var 3 (pv 3)) (fun _ _ => rfl))) (sw_and1 (sb_not (sb_val (so_call (ok_smaller_wins T) (hr.mono (by decide)) rfl T.m_smaller_wins T.F_smaller_wins.kp T.b_smaller_wins takes0 (sa_cons (so_var 1 (pv 1)) (sa_cons (so_var 3 (pv 3)) (sa_cons (so_var 0 (pv 0)) sa_nil))))))))))) (fun _ _ _ _ _ => (so_var 3 (pv 3)))) (ss_one (ss_ret (so_callTy call_tuple_of a_tuple rfl T.z_tuple bt_tuple (sa_cons (so_sortO T.F_lot_order T.b_lot_order ⟨⟨_, _, _, _, _, _, _, rfl⟩, fun _ _ _ => rfl, fun _ _ _ => rfl, rfl, rfl, rfl, rfl, by decide +kernel⟩ T.z_len (hr.mono (by decide)) rfl T.z_sorted (so_fz (sc_lc (own := [("number", 3)]) rfl sc_least_lots.nd (g_name 3) (by decide) (si_seq (so_var 2 (pv 2))) (blkOk_by (N := ["many", "book", "numbers", "number"]) (sc := defScope s_least_lots) (by decide +kernel)) (fun _ _ _ _ _ => (pg_name (i := 3) sc_least_lots.nd rfl (by first | exact Or.inl rfl | exact Or.inr rfl))) (fun _ _ _ _ _ => ts_nil) (fun _ _ _ _ _ => (so_call (ok_lot_of T) (hr.mono (by decide)) rfl T.m_lot_of T.F_lot_of.kp T.b_lot_of takes0 (sa_cons (so_var 3 (pv 3)) (sa_cons (so_var 0 (pv 0)) sa_nil)))))) (pe_glob rfl T.m_lot_order (v := .ref T.a_lot_order) rfl)) sa_nil)))))
theorem sc_law_words : FnScope ["row", "many", "alike", "weights", "told", "more", "half", "lots", "menu", "k"] ["row", "many"] (defScope s_law_words) := ⟨rfl, rfl, rfl, by decide +kernel, rfl, by decide +kernel, by decide +kernel⟩
theorem ok_law_words (T : Txt K mg) : FnOk P w K mg base (L2.CX P w) 2 T.a_law_words T.fd_law_words ["row", "many"] (spOf K (clOf K xa) 2 d_law_words) :=
  fn_ok T.F_law_words sc_law_words rfl rfl fun cdv A outer s H E hr pw tk => by
    have hu : (A.deeper (PyProof.Rows.envOfC "_law_words" (defScope s_law_words) s.heap.objs.size T.a_law_words cdv)).units + 65 < cLine := by have := hr.un; omega
    exact (ss_cons (ss_set 2 (ps_set (i := 2) sc_law_words.nd rfl (Or.inl rfl) (so_callTy call_tuple_of a_tuple rfl T.z_tuple bt_tuple (sa_cons (so_fz (sc_lc (own := [("k", 9)]) rfl sc_law_words.nd (g_name 9) (by decide) (si_rng1 rfl T.z_range (sa_cons (so_var 1 (pv 1)) sa_nil)) (blkOk_by (N := ["row", "many", "alike", "weights", "told", "more", "half", "lots", "menu", "k"]) (sc := defScope s_law_words) (by decide +kernel)) (fun _ _ _ _ _ => (pg_name (i := 9) sc_law_words.nd rfl (by first | exact Or.inl rfl | exact Or.inr rfl))) (fun _ _ _ _ _ => ts_nil) (fun _ _ _ _ _ => so_int))) sa_nil)))) (ss_cons (ss_set 3 (ps_set (i := 3) sc_law_words.nd rfl (Or.inl rfl) (so_callTy call_tuple_of a_tuple rfl T.z_tuple bt_tuple (sa_cons (so_fz (sc_lc (own := [("k", 9)]) rfl sc_law_words.nd (g_name 9) (by decide) (si_rng1 rfl T.z_range (sa_cons (so_var 1 (pv 1)) sa_nil)) (blkOk_by (N := ["row", "many", "alike", "weights", "told", "more", "half", "lots", "menu", "k"]) (sc := defScope s_law_words) (by decide +kernel)) (fun _ _ _ _ _ => (pg_name (i := 9) sc_law_words.nd rfl (by first | exact Or.inl rfl | exact Or.inr rfl))) (fun _ _ _ _ _ => ts_nil) (fun _ _ _ _ _ => (so_bin op_modN o_mod (so_callTy call_int1 a_int rfl T.z_int bt_int (sa_cons (so_ix ix_U o_ix (so_var 0 (pv 0)) (so_bin op_addU o_add so_int (so_var 9 (pv 9))) (fun _ _ => rfl)) sa_nil)) (so_ix ix_U o_ix (so_fz (sc_lst (sa_cons so_int (sa_cons so_int (sa_cons so_int (sa_cons so_int sa_nil)))))) (so_bin op_modN o_mod (so_callTy call_int1 a_int rfl T.z_int bt_int (sa_cons (so_ix ix_U o_ix (so_var 0 (pv 0)) so_int (fun _ _ => rfl)) sa_nil)) so_int) (fun _ _ => rfl)))))) sa_nil)))) (ss_cons (ss_if (sb_cmp (op_eqD hr.units) o_eq (so_callB (cr_sumU rfl) a_sum rfl T.z_sum bt_sum (sa_cons (so_var 3 (pv 3)) sa_nil)) so_int (nomark _)) (ss_one (ss_set 3 (ps_set (i := 3) sc_law_words.nd rfl (Or.inl rfl) (so_var 2 (pv 2))))) ss_nil) (ss_cons (ss_set 4 (ps_set (i := 4) sc_law_words.nd rfl (Or.inl rfl) (so_tup (sa_cons so_str (sa_cons (so_var 3 (pv 3)) (sa_cons (so_bin op_addU o_add so_int (so_bin op_modN o_mod (so_callTy call_int1 a_int rfl T.z_int bt_int (sa_cons (so_ix ix_U o_ix (so_var 0 (pv 0)) so_int (fun _ _ => rfl)) sa_nil)) (so_callB (cr_sumU rfl) a_sum rfl T.z_sum bt_sum (sa_cons (so_var 3 (pv 3)) sa_nil)))) sa_nil)))))) (ss_cons (ss_set 5 (ps_set (i := 5) sc_law_words.nd rfl (Or.inl rfl) (so_tup (sa_cons so_str (sa_cons (so_var 3 (pv 3)) (sa_cons (so_bin op_addU o_add (so_bin op_fdivX o_fdiv (so_callB (cr_sumU rfl) a_sum rfl T.z_sum bt_sum (sa_cons (so_var 3 (pv 3)) sa_nil)) so_int) so_int) sa_nil)))))) (ss_cons (ss_set 6 (ps_set (i := 6) sc_law_words.nd rfl (Or.inl rfl) (so_tup (sa_cons so_str (sa_cons (so_var 2 (pv 2)) (sa_cons (so_bin op_addU o_add (so_bin op_fdivX o_fdiv (so_var 1 (pv 1)) so_int) so_int) sa_nil)))))) (ss_cons (ss_set 7 (ps_set (i := 7) sc_law_words.nd rfl (Or.inl rfl) (so_callTy call_tuple_of a_tuple rfl T.z_tuple bt_tuple (sa_cons (so_fz (sc_lc (own := [("k", 9)]) rfl sc_law_words.nd (g_name 9) (by decide) (si_rng1 rfl T.z_range (sa_cons so_int sa_nil)) (blkOk_by (N := ["row", "many", "alike", "weights", "told", "more", "half", "lots", "menu", "k"]) (sc := defScope s_law_words) (by decide +kernel)) (fun _ _ _ _ _ => (pg_name (i := 9) sc_law_words.nd rfl (by first | exact Or.inl rfl | exact Or.inr rfl))) (fun _ _ _ _ _ => ts_nil) (fun _ _ _ _ _ => (so_call (ok_law_voters T) (hr.mono (by decide)) rfl T.m_law_voters T.F_law_voters.kp T.b_law_voters takes0 (sa_cons (so_bin op_addU o_add so_int (so_bin op_modN o_mod (so_bin op_modN o_mod (so_callTy call_int1 a_int rfl T.z_int bt_int (sa_cons (so_ix ix_U o_ix (so_var 0 (pv 0)) (so_bin op_addU o_add so_int (so_var 9 (pv 9))) (fun _ _ => rfl)) sa_nil)) (so_bin op_sub o_sub (so_bin op_pow o_pow so_int so_int) so_int)) (so_bin op_sub o_sub (so_bin op_shl o_shl so_int (so_var 1 (pv 1))) so_int))) (sa_cons (so_var 1 (pv 1)) sa_nil)))))) sa_nil)))) (ss_cons (ss_set 8 (ps_set (i := 8) sc_law_words.nd rfl (Or.inl rfl) (so_fz (sc_lst (sa_cons (so_var 6 (pv 6)) (sa_cons (so_var 6 (pv 6)) (sa_cons (so_var 6 (pv 6)) (sa_cons (so_tup (sa_cons so_str (sa_cons (so_var 2 (pv 2)) (sa_cons (so_bin op_addU o_add so_int (so_bin op_modN o_mod (so_callTy call_int1 a_int rfl T.z_int bt_int (sa_cons (so_ix ix_U o_ix (so_var 0 (pv 0)) so_int (fun _ _ => rfl)) sa_nil)) (so_var 1 (pv 1)))) sa_nil)))) (sa_cons (so_var 4 (pv 4)) (sa_cons (so_var 5 (pv 5)) sa_nil)))))))))) (ss_cons (ss_set 8 (ps_set (i := 8) sc_law_words.nd rfl (Or.inl rfl) (so_bin op_addU o_add (so_var 8 (pv 8)) (so_fz (sc_lst (sa_cons (so_tup (sa_cons so_str (sa_cons (so_sl (so_var 7 (pv 7)) sp_none (sp_some (so_bin op_addU o_add so_int (so_bin op_modN o_mod (so_callTy call_int1 a_int rfl T.z_int bt_int (sa_cons (so_ix ix_U o_ix (so_var 0 (pv 0)) so_int (fun _ _ => rfl)) sa_nil)) so_int)))) sa_nil))) (sa_cons (so_tup (sa_cons so_str (sa_cons (so_var 6 (pv 6)) (sa_cons (so_tup (sa_cons so_str (sa_cons (so_sl (so_var 7 (pv 7)) sp_none (sp_some so_int)) sa_nil))) sa_nil)))) sa_nil))))))) (ss_cons (ss_set 8 (ps_set (i := 8) sc_law_words.nd rfl (Or.inl rfl) (so_bin op_addU o_add (so_var 8 (pv 8)) (so_fz (sc_lst (sa_cons (so_tup (sa_cons so_str (sa_cons (so_var 6 (pv 6)) (sa_cons (so_tup (sa_cons so_str (sa_cons (so_sl (so_var 7 (pv 7)) sp_none (sp_some so_int)) sa_nil))) sa_nil)))) (sa_cons (so_tup (sa_cons so_str (sa_cons (so_var 4 (pv 4)) sa_nil))) (sa_cons (so_tup (sa_cons so_str (sa_cons (so_var 5 (pv 5)) (sa_cons (so_tup (sa_cons so_str (sa_cons (so_sl (so_var 7 (pv 7)) sp_none (sp_some so_int)) sa_nil))) sa_nil)))) sa_nil)))))))) (ss_cons (ss_set 8 (ps_set (i := 8) sc_law_words.nd rfl (Or.inl rfl) (so_bin op_addU o_add (so_var 8 (pv 8)) (so_fz (sc_lst (sa_cons (so_tup (sa_cons so_str (sa_cons (so_var 2 (pv 2)) (sa_cons (so_callB (cr_maxU rfl) a_max rfl T.z_max bt_max (sa_cons so_int (sa_cons (so_bin op_fdivX o_fdiv (so_bin op_addU o_add (so_bin op_mulU o_mul so_int (so_var 1 (pv 1))) so_int) so_int) sa_nil))) sa_nil)))) sa_nil)))))) (ss_one (ss_ret (so_ix ix_U o_ix (so_var 8 (pv 8)) (so_ix ix_U o_ix (so_var 0 (pv 0)) so_int (fun _ _ => rfl)) (fun _ _ => rfl)))))))))))))))
theorem sc_law_least : FnScope ["table", "many", "told", "number", "smaller", "k", "less"] ["table", "many"] (defScope s_law_least) := ⟨rfl, rfl, rfl, by decide +kernel, rfl, by decide +kernel, by decide +kernel⟩
theorem ok_law_least (T : Txt K mg) : FnOk P w K mg base (L2.CX P w) 2 T.a_law_least T.fd_law_least ["table", "many"] (spOf K (clOf K xa) 2 d_law_least) :=
  fn_ok T.F_law_least sc_law_least rfl rfl fun cdv A outer s H E hr pw tk => by
    have hu : (A.deeper (PyProof.Rows.envOfC "_law_least" (defScope s_law_least) s.heap.objs.size T.a_law_least cdv)).units + 65 < cLine := by have := hr.un; omega
    exact (ss_cons (ss_own 2 (ps_set (i := 2) sc_law_least.nd rfl (Or.inl rfl) (sc_lst sa_nil))) (ss_cons (ss_for pw rfl (si_rng1 rfl T.z_range (sa_cons (so_bin op_shl o_shl so_int (so_var 1 (pv 1))) sa_nil)) (g_name 3) (pg_name (i := 3) sc_law_least.nd rfl (Or.inr rfl)) (ss_one (ss_if (sb_val (so_ix ix_U o_ix (so_var 0 (pv 0)) (so_var 3 (pv 3)) (fun _ _ => rfl))) (ss_cons (ss_lcF (own := [("k", 5)]) (i := 4) rfl sc_law_least.nd rfl rfl (sw_true rfl rfl rfl (by decide +kernel)) (g_name 5) (by decide) (si_rng1 rfl T.z_range (sa_cons (so_var 1 (pv 1)) sa_nil)) (blkOk_by (N := ["table", "many", "told", "number", "smaller", "k", "less"]) (sc := defScope s_law_least) (by decide +kernel)) (fun _ _ _ _ _ => (pg_name (i := 5) sc_law_least.nd rfl (by first | exact Or.inl rfl | exact Or.inr rfl))) (fun _ _ _ _ _ => (ts_one (sb_cmp (op_eqD hr.units) o_eq (so_bin op_and o_and (so_bin op_shr o_shr (so_var 3 (pv 3)) (so_var 5 (pv 5))) so_int) so_int (nomark _)))) (fun _ _ _ _ _ => (so_bin op_sub o_sub (so_var 3 (pv 3)) (so_bin op_shl o_shl so_int (so_var 5 (pv 5)))))) (ss_one (ss_if (sb_not (sb_val (so_callB (cr_any rfl) a_any rfl T.z_any bt_any (sa_cons (so_fz (sc_lc (own := [("less", 6)]) rfl sc_law_least.nd (g_name 6) (by decide) (si_seq (so_var 4 (pv 4))) (blkOk_by (N := ["table", "many", "told", "number", "smaller", "k", "less"]) (sc := defScope s_law_least) (by decide +kernel)) (fun _ _ _ _ _ => (pg_name (i := 6) sc_law_least.nd rfl (by first | exact Or.inl rfl | exact Or.inr rfl))) (fun _ _ _ _ _ => ts_nil) (fun _ _ _ _ _ => (so_ix ix_U o_ix (so_var 0 (pv 0)) (so_var 6 (pv 6)) (fun _ _ => rfl))))) sa_nil)))) (ss_one (ss_app 2 (ps_expr (pe_bm PySem.F.plainAttrs_list PySem.F.slot_list_append PySem.F.type_list_append mt_append (pv 2) (sa_cons (so_call (ok_law_voters T) (hr.mono (by decide)) rfl T.m_law_voters T.F_law_voters.kp T.b_law_voters tk (sa_cons (so_var 3 (pv 3)) (sa_cons (so_var 1 (pv 1)) sa_nil))) sa_nil))))) ss_nil))) ss_nil))) (ss_one (ss_frz 2 (ss_ret (so_callTy call_tuple_of a_tuple rfl T.z_tuple bt_tuple (sa_cons (so_sortO T.F_law_order T.b_law_order ⟨⟨_, _, _, _, _, _, _, rfl⟩, fun _ _ _ => rfl, fun _ _ _ => rfl, rfl, rfl, rfl, rfl, by decide +kernel⟩ T.z_len (hr.mono (by decide)) rfl T.z_sorted (so_var 2 (pv 2)) (pe_glob rfl T.m_law_order (v := .ref T.a_law_order) rfl)) sa_nil)))))))
theorem sc_law_sized : FnScope ["many", "low", "high", "number"] ["many", "low", "high"] (defScope s_law_sized) := ⟨rfl, rfl, rfl, by decide +kernel, rfl, by decide +kernel, by decide +kernel⟩
theorem ok_law_sized (T : Txt K mg) : FnOk P w K mg base (L2.CX P w) 2 T.a_law_sized T.fd_law_sized ["many", "low", "high"] (spOf K (clOf K xa) 3 d_law_sized) :=
  fn_ok T.F_law_sized sc_law_sized rfl rfl fun cdv A outer s H E hr pw tk => by
    have hu : (A.deeper (PyProof.Rows.envOfC "_law_sized" (defScope s_law_sized) s.heap.objs.size T.a_law_sized cdv)).units + 65 < cLine := by have := hr.un; omega
    exact (ss_one (ss_ret (so_fz (sc_lc (own := [("number", 3)]) rfl sc_law_sized.nd (g_name 3) (by decide) (si_rng2 rfl T.z_range (sa_cons so_int (sa_cons (so_bin op_shl o_shl so_int (so_var 0 (pv 0))) sa_nil))) (blkOk_by (N := ["many", "low", "high", "number"]) (sc := defScope s_law_sized) (by decide +kernel)) (fun _ _ _ _ _ => (pg_name (i := 3) sc_law_sized.nd rfl (by first | exact Or.inl rfl | exact Or.inr rfl))) (fun _ _ _ _ _ => (ts_one (sb_chain op_le o_le op_le o_le (so_var 1 (pv 1)) (so_callB call_len a_len rfl T.z_len bt_len (sa_cons (so_call (ok_law_voters T) (hr.mono (by decide)) rfl T.m_law_voters T.F_law_voters.kp T.b_law_voters takes0 (sa_cons (so_var 3 (pv 3)) (sa_cons (so_var 0 (pv 0)) sa_nil))) sa_nil)) (so_var 2 (pv 2))))) (fun _ _ _ _ _ => (so_var 3 (pv 3)))))))
theorem sc_law_are_lots : FnScope ["value", "due", "lot", "voter"] ["value", "due"] (defScope s_law_are_lots) := ⟨rfl, rfl, rfl, by decide +kernel, rfl, by decide +kernel, by decide +kernel⟩
theorem ok_law_are_lots (T : Txt K mg) : FnOk P w K mg base (L2.CX P w) 2 T.a_law_are_lots T.fd_law_are_lots ["value", "due"] (spOf K (clOf K xa) 2 d_law_are_lots) :=
  fn_ok T.F_law_are_lots sc_law_are_lots rfl rfl fun cdv A outer s H E hr pw tk => by
    have hu : (A.deeper (PyProof.Rows.envOfC "_law_are_lots" (defScope s_law_are_lots) s.heap.objs.size T.a_law_are_lots cdv)).units + 65 < cLine := by have := hr.un; omega
    exact (ss_cons (ss_if (sw_b (sw_or (sb_not (sb_val (so_isiTy rfl T.z_isinstance (pe_bltn rfl T.z_tuple bt_tuple rfl) (so_var 0 (pv 0))))) (sw_or1 (sb_cmp (op_neD hr.units) o_ne (so_callB call_len a_len rfl T.z_len bt_len (sa_cons (so_var 0 (pv 0)) sa_nil)) (so_callB call_len a_len rfl T.z_len bt_len (sa_cons (so_var 1 (pv 1)) sa_nil)) (nomark _))))) (ss_one (ss_ret so_bl)) ss_nil) (ss_cons (ss_for pw rfl (si_seq (so_var 0 (pv 0))) (g_name 2) (pg_name (i := 2) sc_law_are_lots.nd rfl (Or.inl rfl)) (ss_cons (ss_if (sb_not (sb_val (so_isiTy rfl T.z_isinstance (pe_bltn rfl T.z_tuple bt_tuple rfl) (so_var 2 (pv 2))))) (ss_one (ss_ret so_bl)) ss_nil) (ss_one (ss_for pw rfl (si_seq (so_var 2 (pv 2))) (g_name 3) (pg_name (i := 3) sc_law_are_lots.nd rfl (Or.inl rfl)) (ss_one (ss_if (sb_not (sb_val (so_call (ok_law_whole T) (hr.mono (by decide)) rfl T.m_law_whole T.F_law_whole.kp T.b_law_whole tk (sa_cons (so_var 3 (pv 3)) sa_nil)))) (ss_one (ss_ret so_bl)) ss_nil)))))) (ss_one (ss_ret (so_cmp (op_eqD hr.units) o_eq (so_var 0 (pv 0)) (so_var 1 (pv 1)) (nomark _))))))
theorem sc_Rule_contains : FnScope ["self", "lot"] ["self", "lot"] (defScope s_Rule_contains) := ⟨rfl, rfl, rfl, by decide +kernel, rfl, by decide +kernel, by decide +kernel⟩
theorem ok_Rule_contains (T : Txt K mg) : FnOk P w K mg base (L2.CX P w) 2 T.a_Rule_contains T.fd_Rule_contains ["self", "lot"] (spOf K (clOf K xa) 2 d_Rule_contains) :=
  fn_ok T.F_Rule_contains sc_Rule_contains rfl rfl fun cdv A outer s H E hr pw tk => by
    have hu : (A.deeper (PyProof.Rows.envOfC "Rule.__contains__" (defScope s_Rule_contains) s.heap.objs.size T.a_Rule_contains cdv)).units + 65 < cLine := by have := hr.un; omega
    exact (ss_one (ss_ret (so_ix ix_U o_ix (so_fld (tab_cons ⟨T.cls_Rule, T.nf_Rule_book⟩ (tab_nil)) (so_var 0 (pv 0))) (so_call (ok_lot_number T) (hr.mono (by decide)) rfl T.m_lot_number T.F_lot_number.kp T.b_lot_number tk (sa_cons (so_var 1 (pv 1)) sa_nil)) (fun _ _ => rfl))))
theorem sc_law_drawn : FnScope ["row", "many", "last", "number", "free", "few", "size", "alike", "gone", "told", "at", "change"] ["row", "many"] (defScope s_law_drawn) := ⟨rfl, rfl, rfl, by decide +kernel, rfl, by decide +kernel, by decide +kernel⟩
theorem ok_law_drawn (T : Txt K mg) : FnOk P w K mg base (L2.CX P w) 3 T.a_law_drawn T.fd_law_drawn ["row", "many"] (spOf K (clOf K xa) 2 d_law_drawn) :=
  fn_ok T.F_law_drawn sc_law_drawn rfl rfl fun cdv A outer s H E hr pw tk => by
    have hu : (A.deeper (PyProof.Rows.envOfC "_law_drawn" (defScope s_law_drawn) s.heap.objs.size T.a_law_drawn cdv)).units + 65 < cLine := by have := hr.un; omega
    exact (ss_cons (ss_set 2 (ps_set (i := 2) sc_law_drawn.nd rfl (Or.inr rfl) (so_bin op_sub o_sub (so_bin op_shl o_shl so_int (so_var 1 (pv 1))) so_int))) (ss_cons (ss_lcF (own := [("number", 3)]) (i := 4) rfl sc_law_drawn.nd rfl rfl (sw_true rfl rfl rfl (by decide +kernel)) (g_name 3) (by decide) (si_seq (so_sl (so_var 0 (pv 0)) (sp_some so_int) sp_none)) (blkOk_by (N := ["row", "many", "last", "number", "free", "few", "size", "alike", "gone", "told", "at", "change"]) (sc := defScope s_law_drawn) (by decide +kernel)) (fun _ _ _ _ _ => (pg_name (i := 3) sc_law_drawn.nd rfl (by first | exact Or.inl rfl | exact Or.inr rfl))) (fun _ _ _ _ _ => ts_nil) (fun _ _ _ _ _ => (so_bin op_addU o_add so_int (so_bin op_modN o_mod (so_callTy call_int1 a_int rfl T.z_int bt_int (sa_cons (so_var 3 (pv 3)) sa_nil)) (so_var 2 (pv 2)))))) (ss_cons (ss_set 5 (ps_set (i := 5) sc_law_drawn.nd rfl (Or.inl rfl) (so_bin op_addU o_add so_int (so_bin op_modN o_mod (so_callTy call_int1 a_int rfl T.z_int bt_int (sa_cons (so_ix ix_U o_ix (so_var 0 (pv 0)) so_int (fun _ _ => rfl)) sa_nil)) so_int)))) (ss_cons (ss_if (sb_cmp (op_eqD hr.units) o_eq (so_ix ix_U o_ix (so_var 0 (pv 0)) so_int (fun _ _ => rfl)) so_int (nomark _)) (ss_one (ss_ret (so_sl (so_var 4 (pv 4)) sp_none (sp_some (so_var 5 (pv 5)))))) ss_nil) (ss_cons (ss_if (sb_cmp (op_eqD hr.units) o_eq (so_ix ix_U o_ix (so_var 0 (pv 0)) so_int (fun _ _ => rfl)) so_int (nomark _)) (ss_one (ss_ret (so_sl (so_var 4 (pv 4)) sp_none (sp_some (so_bin op_addU o_add so_int (so_callTy call_int1 a_int rfl T.z_int bt_int (sa_cons (so_ix ix_U o_ix (so_var 0 (pv 0)) so_int (fun _ _ => rfl)) sa_nil))))))) ss_nil) (ss_cons (ss_set 6 (ps_set (i := 6) sc_law_drawn.nd rfl (Or.inl rfl) (so_bin op_addU o_add so_int (so_bin op_modN o_mod (so_callTy call_int1 a_int rfl T.z_int bt_int (sa_cons (so_ix ix_U o_ix (so_var 4 (pv 4)) so_int (fun _ _ => rfl)) sa_nil)) (so_var 1 (pv 1)))))) (ss_cons (ss_if (sb_cmp (op_eqD hr.units) o_eq (so_ix ix_U o_ix (so_var 0 (pv 0)) so_int (fun _ _ => rfl)) so_int (nomark _)) (ss_cons (ss_set 7 (ps_set (i := 7) sc_law_drawn.nd rfl (Or.inr rfl) (so_call (ok_law_sized T) (hr.mono (by decide)) rfl T.m_law_sized T.F_law_sized.kp T.b_law_sized tk (sa_cons (so_var 1 (pv 1)) (sa_cons (so_var 6 (pv 6)) (sa_cons (so_bin op_addU o_add (so_var 6 (pv 6)) so_int) sa_nil)))))) (ss_one (ss_ret (so_fz (sc_lc (own := [("number", 3)]) rfl sc_law_drawn.nd (g_name 3) (by decide) (si_seq (so_sl (so_var 4 (pv 4)) (sp_some so_int) (sp_some (so_bin op_addU o_add so_int (so_bin op_mulU o_mul so_int (so_var 5 (pv 5))))))) (blkOk_by (N := ["row", "many", "last", "number", "free", "few", "size", "alike", "gone", "told", "at", "change"]) (sc := defScope s_law_drawn) (by decide +kernel)) (fun _ _ _ _ _ => (pg_name (i := 3) sc_law_drawn.nd rfl (by first | exact Or.inl rfl | exact Or.inr rfl))) (fun _ _ _ _ _ => ts_nil) (fun _ _ _ _ _ => (so_ix ix_U o_ix (so_var 7 (pv 7)) (so_bin op_modN o_mod (so_callTy call_int1 a_int rfl T.z_int bt_int (sa_cons (so_var 3 (pv 3)) sa_nil)) (so_callB call_len a_len rfl T.z_len bt_len (sa_cons (so_var 7 (pv 7)) sa_nil))) (fun _ _ => rfl)))))))) ss_nil) (ss_cons (ss_if (sb_cmp (op_eqD hr.units) o_eq (so_ix ix_U o_ix (so_var 0 (pv 0)) so_int (fun _ _ => rfl)) so_int (nomark _)) (ss_cons (ss_set 7 (ps_set (i := 7) sc_law_drawn.nd rfl (Or.inr rfl) (so_call (ok_law_sized T) (hr.mono (by decide)) rfl T.m_law_sized T.F_law_sized.kp T.b_law_sized tk (sa_cons (so_var 1 (pv 1)) (sa_cons (so_var 6 (pv 6)) (sa_cons (so_var 6 (pv 6)) sa_nil)))))) (ss_cons (ss_set 8 (ps_set (i := 8) sc_law_drawn.nd rfl (Or.inr rfl) (so_fz (sc_lc (own := [("number", 3)]) rfl sc_law_drawn.nd (g_name 3) (by decide) (si_seq (so_sl (so_var 4 (pv 4)) (sp_some so_int) (sp_some (so_bin op_addU o_add so_int (so_bin op_modN o_mod (so_callTy call_int1 a_int rfl T.z_int bt_int (sa_cons (so_ix ix_U o_ix (so_var 0 (pv 0)) so_int (fun _ _ => rfl)) sa_nil)) so_int))))) (blkOk_by (N := ["row", "many", "last", "number", "free", "few", "size", "alike", "gone", "told", "at", "change"]) (sc := defScope s_law_drawn) (by decide +kernel)) (fun _ _ _ _ _ => (pg_name (i := 3) sc_law_drawn.nd rfl (by first | exact Or.inl rfl | exact Or.inr rfl))) (fun _ _ _ _ _ => ts_nil) (fun _ _ _ _ _ => (so_ix ix_U o_ix (so_var 7 (pv 7)) (so_bin op_modN o_mod (so_callTy call_int1 a_int rfl T.z_int bt_int (sa_cons (so_var 3 (pv 3)) sa_nil)) (so_callB call_len a_len rfl T.z_len bt_len (sa_cons (so_var 7 (pv 7)) sa_nil))) (fun _ _ => rfl))))))) (ss_cons (ss_lcO (own := [("number", 3)]) (i := 9) rfl sc_law_drawn.nd rfl rfl (sw_true rfl rfl rfl (by decide +kernel)) (g_name 3) (by decide) (si_seq (so_var 7 (pv 7))) (blkOk_by (N := ["row", "many", "last", "number", "free", "few", "size", "alike", "gone", "told", "at", "change"]) (sc := defScope s_law_drawn) (by decide +kernel)) (fun _ _ _ _ _ => (pg_name (i := 3) sc_law_drawn.nd rfl (by first | exact Or.inl rfl | exact Or.inr rfl))) (fun _ _ _ _ _ => (ts_one (sb_cmp (op_notInA hu) o_notInA (so_var 3 (pv 3)) (so_var 8 (pv 8)) rfl))) (fun _ _ _ _ _ => (so_var 3 (pv 3)))) (ss_cons (ss_if (sb_cmp (op_eqD hr.units) o_eq (so_bor 9 (so_callB call_len a_len rfl T.z_len bt_len (sa_cons (so_var 9 (pv 9)) sa_nil))) so_int (nomark _)) (ss_one (ss_set 9 (ps_set (i := 9) sc_law_drawn.nd rfl (Or.inl rfl) (so_var 7 (pv 7))))) ss_nil) (ss_cons (ss_frz 9 (ss_set 10 (ps_set (i := 10) sc_law_drawn.nd rfl (Or.inl rfl) (so_bin op_modN o_mod (so_callTy call_int1 a_int rfl T.z_int bt_int (sa_cons (so_ix ix_U o_ix (so_var 4 (pv 4)) so_int (fun _ _ => rfl)) sa_nil)) (so_callB call_len a_len rfl T.z_len bt_len (sa_cons (so_var 9 (pv 9)) sa_nil)))))) (ss_one (ss_ret (so_bin op_addU o_add (so_sl (so_var 9 (pv 9)) (sp_some (so_var 10 (pv 10))) sp_none) (so_sl (so_var 9 (pv 9)) sp_none (sp_some (so_var 10 (pv 10)))))))))))) ss_nil) (ss_cons (ss_if (sb_cmp (op_eqD hr.units) o_eq (so_ix ix_U o_ix (so_var 0 (pv 0)) so_int (fun _ _ => rfl)) so_int (nomark _)) (ss_cons (ss_set 3 (ps_set (i := 3) sc_law_drawn.nd rfl (Or.inl rfl) (so_ix ix_U o_ix (so_var 4 (pv 4)) so_int (fun _ _ => rfl)))) (ss_cons (ss_own 9 (ps_set (i := 9) sc_law_drawn.nd rfl (Or.inl rfl) (sc_lst (sa_cons (so_var 3 (pv 3)) sa_nil)))) (ss_cons (ss_for pw rfl (si_seq (so_sl (so_var 4 (pv 4)) (sp_some so_int) (sp_some (so_bin op_addU o_add so_int (so_bin op_mulU o_mul so_int (so_var 5 (pv 5))))))) (g_name 11) (pg_name (i := 11) sc_law_drawn.nd rfl (Or.inl rfl)) (ss_cons (ss_set 3 (ps_set (i := 3) sc_law_drawn.nd rfl (Or.inl rfl) (so_bin op_xor o_xor (so_var 3 (pv 3)) (so_bin op_shl o_shl so_int (so_bin op_modN o_mod (so_callTy call_int1 a_int rfl T.z_int bt_int (sa_cons (so_var 11 (pv 11)) sa_nil)) (so_var 1 (pv 1))))))) (ss_cons (ss_if (sb_cmp (op_eqD hr.units) o_eq (so_var 3 (pv 3)) so_int (nomark _)) (ss_one (ss_set 3 (ps_set (i := 3) sc_law_drawn.nd rfl (Or.inl rfl) (so_var 2 (pv 2))))) ss_nil) (ss_one (ss_app 9 (ps_expr (pe_bm PySem.F.plainAttrs_list PySem.F.slot_list_append PySem.F.type_list_append mt_append (pv 9) (sa_cons (so_var 3 (pv 3)) sa_nil)))))))) (ss_one (ss_frz 9 (ss_ret (so_var 9 (pv 9)))))))) ss_nil) (ss_one (ss_ret (so_fz (sc_lc (own := [("number", 3)]) rfl sc_law_drawn.nd (g_name 3) (by decide) (si_seq (so_sl (so_var 4 (pv 4)) (sp_some so_int) (sp_some (so_bin op_addU o_add so_int (so_var 5 (pv 5)))))) (blkOk_by (N := ["row", "many", "last", "number", "free", "few", "size", "alike", "gone", "told", "at", "change"]) (sc := defScope s_law_drawn) (by decide +kernel)) (fun _ _ _ _ _ => (pg_name (i := 3) sc_law_drawn.nd rfl (by first | exact Or.inl rfl | exact Or.inr rfl))) (fun _ _ _ _ _ => ts_nil) (fun _ _ _ _ _ => (so_bin op_or o_or (so_bin op_shl o_shl so_int (so_bin op_modN o_mod (so_callTy call_int1 a_int rfl T.z_int bt_int (sa_cons (so_var 3 (pv 3)) sa_nil)) (so_var 1 (pv 1)))) (so_bin op_shl o_shl so_int (so_bin op_modN o_mod (so_bin op_fdivX o_fdiv (so_callTy call_int1 a_int rfl T.z_int bt_int (sa_cons (so_var 3 (pv 3)) sa_nil)) so_int) (so_var 1 (pv 1)))))))))))))))))))
theorem sc_law_as_told : FnScope ["rule", "lots", "table", "many", "number"] ["rule", "lots", "table"] (defScope s_law_as_told) := ⟨rfl, rfl, rfl, by decide +kernel, rfl, by decide +kernel, by decide +kernel⟩
theorem ok_law_as_told (T : Txt K mg) : FnOk P w K mg base (L2.CX P w) 3 T.a_law_as_told T.fd_law_as_told ["rule", "lots", "table"] (spOf K (clOf K xa) 3 d_law_as_told) :=
  fn_ok T.F_law_as_told sc_law_as_told rfl rfl fun cdv A outer s H E hr pw tk => by
    have hu : (A.deeper (PyProof.Rows.envOfC "_law_as_told" (defScope s_law_as_told) s.heap.objs.size T.a_law_as_told cdv)).units + 65 < cLine := by have := hr.un; omega
    exact (ss_cons (ss_set 3 (ps_set (i := 3) sc_law_as_told.nd rfl (Or.inl rfl) (so_callB call_len a_len rfl T.z_len bt_len (sa_cons (so_ix ix_U o_ix (so_var 1 (pv 1)) (so_un un_neg o_neg so_int) (fun _ _ => rfl)) sa_nil)))) (ss_cons (ss_if (sw_b (sw_or (sb_not (sb_val (so_isC2 (l := [(5, true)]) rfl T.z_isinstance (pe_glob rfl T.g_Rule (v := .ref (cA _ "Rule")) rfl) T.kib_Rule_ (xt_cons ⟨T.kit_Rule_Rule, T.isi_Rule⟩ xt_nil) (so_var 0 (pv 0))))) (sw_or (sb_not (sb_val (so_call (ok_law_whole T) (hr.mono (by decide)) rfl T.m_law_whole T.F_law_whole.kp T.b_law_whole tk (sa_cons (so_fld (tab_cons ⟨T.cls_Rule, T.nf_Rule_many⟩ (tab_nil)) (so_var 0 (pv 0))) sa_nil)))) (sw_or1 (sb_cmp (op_neD hr.units) o_ne (so_fld (tab_cons ⟨T.cls_Rule, T.nf_Rule_many⟩ (tab_nil)) (so_var 0 (pv 0))) (so_var 3 (pv 3)) (nomark _)))))) (ss_one (ss_ret so_bl)) ss_nil) (ss_cons (ss_if (sb_not (sb_val (so_call (ok_law_are_lots T) (hr.mono (by decide)) rfl T.m_law_are_lots T.F_law_are_lots.kp T.b_law_are_lots tk (sa_cons (so_fld (tab_cons ⟨T.cls_Rule, T.nf_Rule_least⟩ (tab_nil)) (so_var 0 (pv 0))) (sa_cons (so_call (ok_law_least T) (hr.mono (by decide)) rfl T.m_law_least T.F_law_least.kp T.b_law_least tk (sa_cons (so_var 2 (pv 2)) (sa_cons (so_var 3 (pv 3)) sa_nil))) sa_nil))))) (ss_one (ss_ret so_bl)) ss_nil) (ss_cons (ss_for pw rfl (si_rng1 rfl T.z_range (sa_cons (so_callB call_len a_len rfl T.z_len bt_len (sa_cons (so_var 1 (pv 1)) sa_nil)) sa_nil)) (g_name 4) (pg_name (i := 4) sc_law_as_told.nd rfl (Or.inl rfl)) (ss_one (ss_if (sb_cmp (op_neD hr.units) o_ne (so_cmp (op_inOwn (C := cA _ "Rule") T.in_Rule_contains T.if_Rule_contains (ok_Rule_contains T) (hr.mono (by decide)) T.b_Rule_contains) (o_con (c := 5)) (so_ix ix_U o_ix (so_var 1 (pv 1)) (so_var 4 (pv 4)) (fun _ _ => rfl)) (so_var 0 (pv 0)) rfl) (so_ix ix_U o_ix (so_var 2 (pv 2)) (so_var 4 (pv 4)) (fun _ _ => rfl)) (nomark _)) (ss_one (ss_ret so_bl)) ss_nil))) (ss_one (ss_ret so_bl))))))
theorem sc_Rule_init : FnScope ["self", "many", "lots", "lot"] ["self", "many", "lots"] (defScope s_Rule_init) := ⟨rfl, rfl, rfl, by decide +kernel, rfl, by decide +kernel, by decide +kernel⟩
theorem ok_Rule_init (T : Txt K mg) : FnOk P w K mg base (L2.CX P w) 3 T.a_Rule_init T.fd_Rule_init ["self", "many", "lots"] (spI K (clOf K xa) 5 3 d_Rule_init) :=
  fn_okI T.F_Rule_init sc_Rule_init rfl rfl fun cdv A outer s H E hr pw tk => by
    have hu : (A.deeper (PyProof.Rows.envOfC "Rule.__init__" (defScope s_Rule_init) s.heap.objs.size T.a_Rule_init cdv)).units + 65 < cLine := by have := hr.un; omega
    exact (ss_cons (ss_if (sb_cmp (op_eqD hr.units) o_eq (so_callB call_len a_len rfl T.z_len bt_len (sa_cons (so_var 2 (pv 2)) sa_nil)) so_int (nomark _)) (ss_one (ss_raise0 (c := 1) rfl tk (pm_bare PySem.F.excBase_ValueError T.q_NoLots T.g_NoLots T.kp_NoLots (raises_own T.s_NoLots T.t_NoLots) rfl))) ss_nil) (ss_cons (ss_for pw rfl (si_seq (so_var 2 (pv 2))) (g_name 3) (pg_name (i := 3) sc_Rule_init.nd rfl (Or.inl rfl)) (ss_one (ss_if (sw_b (sw_or (sb_cmp (op_eqD hr.units) o_eq (so_callB call_len a_len rfl T.z_len bt_len (sa_cons (so_var 3 (pv 3)) sa_nil)) so_int (nomark _)) (sw_or1 (sb_not (sb_val (so_call (ok_is_lot T) (hr.mono (by decide)) rfl T.m_is_lot T.F_is_lot.kp T.b_is_lot tk (sa_cons (so_var 3 (pv 3)) (sa_cons (so_var 1 (pv 1)) sa_nil)))))))) (ss_one (ss_raiseX1 (c := 2) rfl tk (pmk_oex T.ox_BadLot T.i_BadLot T.ti_BadLot (ok_BadLot_init T) (hr.mono (by decide)) T.b_BadLot_init .nil passF rfl T.g_BadLot (sa_cons (so_var 3 (pv 3)) sa_nil)))) ss_nil))) (ss_cons (ss_fldS (c := 5) 0 ⟨T.cls_Rule, T.nf_Rule_many⟩ (pv 0) (so_var 1 (pv 1))) (ss_cons (ss_fldS (c := 5) 0 ⟨T.cls_Rule, T.nf_Rule_book⟩ (pv 0) (so_call (ok_winning_book T) (hr.mono (by decide)) rfl T.m_winning_book T.F_winning_book.kp T.b_winning_book tk (sa_cons (so_var 1 (pv 1)) (sa_cons (so_fz (sc_lc (own := [("lot", 3)]) rfl sc_Rule_init.nd (g_name 3) (by decide) (si_seq (so_var 2 (pv 2))) (blkOk_by (N := ["self", "many", "lots", "lot"]) (sc := defScope s_Rule_init) (by decide +kernel)) (fun _ _ _ _ _ => (pg_name (i := 3) sc_Rule_init.nd rfl (by first | exact Or.inl rfl | exact Or.inr rfl))) (fun _ _ _ _ _ => ts_nil) (fun _ _ _ _ _ => (so_call (ok_lot_number T) (hr.mono (by decide)) rfl T.m_lot_number T.F_lot_number.kp T.b_lot_number takes0 (sa_cons (so_var 3 (pv 3)) sa_nil))))) sa_nil)))) (ss_one (ss_fldS (c := 5) 0 ⟨T.cls_Rule, T.nf_Rule_least⟩ (pv 0) (so_call (ok_least_lots T) (hr.mono (by decide)) rfl T.m_least_lots T.F_least_lots.kp T.b_least_lots tk (sa_cons (so_var 1 (pv 1)) (sa_cons (so_fldO (c := 5) 0 ⟨T.cls_Rule, T.nf_Rule_book⟩ (pv 0)) sa_nil)))))))))
theorem sc_law_any : FnScope ["row", "many", "numbers", "number"] ["row", "many"] (defScope s_law_any) := ⟨rfl, rfl, rfl, by decide +kernel, rfl, by decide +kernel, by decide +kernel⟩
theorem ok_law_any (T : Txt K mg) : FnOk P w K mg base (L2.CX P w) 4 T.a_law_any T.fd_law_any ["row", "many"] (spOf K (clOf K xa) 2 d_law_any) :=
  fn_ok T.F_law_any sc_law_any rfl rfl fun cdv A outer s H E hr pw tk => by
    have hu : (A.deeper (PyProof.Rows.envOfC "_law_any" (defScope s_law_any) s.heap.objs.size T.a_law_any cdv)).units + 65 < cLine := by have := hr.un; omega
    exact (ss_cons (ss_if (sb_cmp op_lt o_lt (so_ix ix_U o_ix (so_var 0 (pv 0)) so_int (fun _ _ => rfl)) so_int (nomark _)) (ss_one (ss_ret (so_call (ok_law_words T) (hr.mono (by decide)) rfl T.m_law_words T.F_law_words.kp T.b_law_words tk (sa_cons (so_var 0 (pv 0)) (sa_cons (so_var 1 (pv 1)) sa_nil))))) ss_nil) (ss_cons (ss_set 2 (ps_set (i := 2) sc_law_any.nd rfl (Or.inl rfl) (so_call (ok_law_drawn T) (hr.mono (by decide)) rfl T.m_law_drawn T.F_law_drawn.kp T.b_law_drawn tk (sa_cons (so_bin op_addU o_add (so_fz (sc_lst (sa_cons so_int (sa_cons (so_bin op_sub o_sub (so_callTy call_int1 a_int rfl T.z_int bt_int (sa_cons (so_ix ix_U o_ix (so_var 0 (pv 0)) so_int (fun _ _ => rfl)) sa_nil)) so_int) (sa_cons (so_ix ix_U o_ix (so_var 0 (pv 0)) so_int (fun _ _ => rfl)) sa_nil))))) (so_sl (so_var 0 (pv 0)) (sp_some so_int) sp_none)) (sa_cons (so_var 1 (pv 1)) sa_nil))))) (ss_one (ss_ret (so_tup (sa_cons so_str (sa_cons (so_callTy call_tuple_of a_tuple rfl T.z_tuple bt_tuple (sa_cons (so_fz (sc_lc (own := [("number", 3)]) rfl sc_law_any.nd (g_name 3) (by decide) (si_seq (so_var 2 (pv 2))) (blkOk_by (N := ["row", "many", "numbers", "number"]) (sc := defScope s_law_any) (by decide +kernel)) (fun _ _ _ _ _ => (pg_name (i := 3) sc_law_any.nd rfl (by first | exact Or.inl rfl | exact Or.inr rfl))) (fun _ _ _ _ _ => ts_nil) (fun _ _ _ _ _ => (so_call (ok_law_voters T) (hr.mono (by decide)) rfl T.m_law_voters T.F_law_voters.kp T.b_law_voters takes0 (sa_cons (so_var 3 (pv 3)) (sa_cons (so_var 1 (pv 1)) sa_nil)))))) sa_nil)) sa_nil)))))))
theorem sc_Rule_weighted : FnScope ["weights", "quota", "book", "told"] ["weights", "quota"] (defScope s_Rule_weighted) := ⟨rfl, rfl, rfl, by decide +kernel, rfl, by decide +kernel, by decide +kernel⟩
theorem ok_Rule_weighted (T : Txt K mg) : FnOk P w K mg base (L2.CX P w) 5 T.a_Rule_weighted T.fd_Rule_weighted ["weights", "quota"] (spOf K (clOf K xa) 2 d_Rule_weighted) :=
  fn_ok T.F_Rule_weighted sc_Rule_weighted rfl rfl fun cdv A outer s H E hr pw tk => by
    have hu : (A.deeper (PyProof.Rows.envOfC "Rule.weighted" (defScope s_Rule_weighted) s.heap.objs.size T.a_Rule_weighted cdv)).units + 65 < cLine := by have := hr.un; omega
    exact (ss_cons (ss_if (sw_b (sw_or (sb_cmp op_lt o_lt (so_var 1 (pv 1)) so_int (nomark _)) (sw_or1 (sb_cmp op_gt o_gt (so_var 1 (pv 1)) (so_callB (cr_sumU rfl) a_sum rfl T.z_sum bt_sum (sa_cons (so_var 0 (pv 0)) sa_nil)) (nomark _))))) (ss_one (ss_raiseX1 (c := 3) rfl tk (pmk_oex T.ox_BadQuota T.i_BadQuota T.ti_BadQuota (ok_BadQuota_init T) (hr.mono (by decide)) T.b_BadQuota_init .nil passF rfl T.g_BadQuota (sa_cons (so_var 1 (pv 1)) sa_nil)))) ss_nil) (ss_cons (ss_lcF (own := [("told", 3)]) (i := 2) rfl sc_Rule_weighted.nd rfl rfl (sw_true rfl rfl rfl (by decide +kernel)) (g_name 3) (by decide) (si_seq (so_call (ok_sums_of T) (hr.mono (by decide)) rfl T.m_sums_of T.F_sums_of.kp T.b_sums_of tk (sa_cons (so_var 0 (pv 0)) sa_nil))) (blkOk_by (N := ["weights", "quota", "book", "told"]) (sc := defScope s_Rule_weighted) (by decide +kernel)) (fun _ _ _ _ _ => (pg_name (i := 3) sc_Rule_weighted.nd rfl (by first | exact Or.inl rfl | exact Or.inr rfl))) (fun _ _ _ _ _ => ts_nil) (fun _ _ _ _ _ => (so_cmp op_ge o_ge (so_var 3 (pv 3)) (so_var 1 (pv 1)) (nomark _)))) (ss_one (ss_ret (so_make (c := 5) T.mk_Rule (ok_Rule_init T) (hr.mono (by decide)) rfl T.g_Rule T.b_Rule_init tk (sa_cons (so_callB call_len a_len rfl T.z_len bt_len (sa_cons (so_var 0 (pv 0)) sa_nil)) (sa_cons (so_call (ok_least_lots T) (hr.mono (by decide)) rfl T.m_least_lots T.F_least_lots.kp T.b_least_lots tk (sa_cons (so_callB call_len a_len rfl T.z_len bt_len (sa_cons (so_var 0 (pv 0)) sa_nil)) (sa_cons (so_var 2 (pv 2)) sa_nil))) sa_nil)))))))
theorem sc_Rule_and : FnScope ["self", "other", "book", "k"] ["self", "other"] (defScope s_Rule_and) := ⟨rfl, rfl, rfl, by decide +kernel, rfl, by decide +kernel, by decide +kernel⟩
theorem ok_Rule_and (T : Txt K mg) : FnOk P w K mg base (L2.CX P w) 5 T.a_Rule_and T.fd_Rule_and ["self", "other"] (spOf K (clOf K xa) 2 d_Rule_and) :=
  fn_ok T.F_Rule_and sc_Rule_and rfl rfl fun cdv A outer s H E hr pw tk => by
    have hu : (A.deeper (PyProof.Rows.envOfC "Rule.__and__" (defScope s_Rule_and) s.heap.objs.size T.a_Rule_and cdv)).units + 65 < cLine := by have := hr.un; omega
    exact (ss_cons (ss_if (sb_cmp (op_neD hr.units) o_ne (so_fld (tab_cons ⟨T.cls_Rule, T.nf_Rule_many⟩ (tab_nil)) (so_var 0 (pv 0))) (so_fld (tab_cons ⟨T.cls_Rule, T.nf_Rule_many⟩ (tab_nil)) (so_var 1 (pv 1))) (nomark _)) (ss_one (ss_raiseX2 (c := 4) rfl tk (pmk_oex T.ox_ManyDiffer T.i_ManyDiffer T.ti_ManyDiffer (ok_ManyDiffer_init T) (hr.mono (by decide)) T.b_ManyDiffer_init .nil passF rfl T.g_ManyDiffer (sa_cons (so_fld (tab_cons ⟨T.cls_Rule, T.nf_Rule_many⟩ (tab_nil)) (so_var 0 (pv 0))) (sa_cons (so_fld (tab_cons ⟨T.cls_Rule, T.nf_Rule_many⟩ (tab_nil)) (so_var 1 (pv 1))) sa_nil))))) ss_nil) (ss_cons (ss_lcF (own := [("k", 3)]) (i := 2) rfl sc_Rule_and.nd rfl rfl (sw_true rfl rfl rfl (by decide +kernel)) (g_name 3) (by decide) (si_rng1 rfl T.z_range (sa_cons (so_callB call_len a_len rfl T.z_len bt_len (sa_cons (so_fld (tab_cons ⟨T.cls_Rule, T.nf_Rule_book⟩ (tab_nil)) (so_var 0 (pv 0))) sa_nil)) sa_nil)) (blkOk_by (N := ["self", "other", "book", "k"]) (sc := defScope s_Rule_and) (by decide +kernel)) (fun _ _ _ _ _ => (pg_name (i := 3) sc_Rule_and.nd rfl (by first | exact Or.inl rfl | exact Or.inr rfl))) (fun _ _ _ _ _ => ts_nil) (fun _ _ _ _ _ => (so_and (so_ix ix_U o_ix (so_fld (tab_cons ⟨T.cls_Rule, T.nf_Rule_book⟩ (tab_nil)) (so_var 0 (pv 0))) (so_var 3 (pv 3)) (fun _ _ => rfl)) (so_one (so_ix ix_U o_ix (so_fld (tab_cons ⟨T.cls_Rule, T.nf_Rule_book⟩ (tab_nil)) (so_var 1 (pv 1))) (so_var 3 (pv 3)) (fun _ _ => rfl)))))) (ss_one (ss_ret (so_make (c := 5) T.mk_Rule (ok_Rule_init T) (hr.mono (by decide)) rfl T.g_Rule T.b_Rule_init tk (sa_cons (so_fld (tab_cons ⟨T.cls_Rule, T.nf_Rule_many⟩ (tab_nil)) (so_var 0 (pv 0))) (sa_cons (so_call (ok_least_lots T) (hr.mono (by decide)) rfl T.m_least_lots T.F_least_lots.kp T.b_least_lots tk (sa_cons (so_fld (tab_cons ⟨T.cls_Rule, T.nf_Rule_many⟩ (tab_nil)) (so_var 0 (pv 0))) (sa_cons (so_var 2 (pv 2)) sa_nil))) sa_nil)))))))
theorem sc_Rule_or : FnScope ["self", "other"] ["self", "other"] (defScope s_Rule_or) := ⟨rfl, rfl, rfl, by decide +kernel, rfl, by decide +kernel, by decide +kernel⟩
theorem ok_Rule_or (T : Txt K mg) : FnOk P w K mg base (L2.CX P w) 5 T.a_Rule_or T.fd_Rule_or ["self", "other"] (spOf K (clOf K xa) 2 d_Rule_or) :=
  fn_ok T.F_Rule_or sc_Rule_or rfl rfl fun cdv A outer s H E hr pw tk => by
    have hu : (A.deeper (PyProof.Rows.envOfC "Rule.__or__" (defScope s_Rule_or) s.heap.objs.size T.a_Rule_or cdv)).units + 65 < cLine := by have := hr.un; omega
    exact (ss_cons (ss_if (sb_cmp (op_neD hr.units) o_ne (so_fld (tab_cons ⟨T.cls_Rule, T.nf_Rule_many⟩ (tab_nil)) (so_var 0 (pv 0))) (so_fld (tab_cons ⟨T.cls_Rule, T.nf_Rule_many⟩ (tab_nil)) (so_var 1 (pv 1))) (nomark _)) (ss_one (ss_raiseX2 (c := 4) rfl tk (pmk_oex T.ox_ManyDiffer T.i_ManyDiffer T.ti_ManyDiffer (ok_ManyDiffer_init T) (hr.mono (by decide)) T.b_ManyDiffer_init .nil passF rfl T.g_ManyDiffer (sa_cons (so_fld (tab_cons ⟨T.cls_Rule, T.nf_Rule_many⟩ (tab_nil)) (so_var 0 (pv 0))) (sa_cons (so_fld (tab_cons ⟨T.cls_Rule, T.nf_Rule_many⟩ (tab_nil)) (so_var 1 (pv 1))) sa_nil))))) ss_nil) (ss_one (ss_ret (so_make (c := 5) T.mk_Rule (ok_Rule_init T) (hr.mono (by decide)) rfl T.g_Rule T.b_Rule_init tk (sa_cons (so_fld (tab_cons ⟨T.cls_Rule, T.nf_Rule_many⟩ (tab_nil)) (so_var 0 (pv 0))) (sa_cons (so_bin op_addU o_add (so_fld (tab_cons ⟨T.cls_Rule, T.nf_Rule_least⟩ (tab_nil)) (so_var 0 (pv 0))) (so_fld (tab_cons ⟨T.cls_Rule, T.nf_Rule_least⟩ (tab_nil)) (so_var 1 (pv 1)))) sa_nil))))))
theorem sc_Rule_invert : FnScope ["self", "last", "book", "k"] ["self"] (defScope s_Rule_invert) := ⟨rfl, rfl, rfl, by decide +kernel, rfl, by decide +kernel, by decide +kernel⟩
theorem ok_Rule_invert (T : Txt K mg) : FnOk P w K mg base (L2.CX P w) 5 T.a_Rule_invert T.fd_Rule_invert ["self"] (spOf K (clOf K xa) 1 d_Rule_invert) :=
  fn_ok T.F_Rule_invert sc_Rule_invert rfl rfl fun cdv A outer s H E hr pw tk => by
    have hu : (A.deeper (PyProof.Rows.envOfC "Rule.__invert__" (defScope s_Rule_invert) s.heap.objs.size T.a_Rule_invert cdv)).units + 65 < cLine := by have := hr.un; omega
    exact (ss_cons (ss_set 1 (ps_set (i := 1) sc_Rule_invert.nd rfl (Or.inr rfl) (so_bin op_sub o_sub (so_callB call_len a_len rfl T.z_len bt_len (sa_cons (so_fld (tab_cons ⟨T.cls_Rule, T.nf_Rule_book⟩ (tab_nil)) (so_var 0 (pv 0))) sa_nil)) so_int))) (ss_cons (ss_lcF (own := [("k", 3)]) (i := 2) rfl sc_Rule_invert.nd rfl rfl (sw_true rfl rfl rfl (by decide +kernel)) (g_name 3) (by decide) (si_rng1 rfl T.z_range (sa_cons (so_callB call_len a_len rfl T.z_len bt_len (sa_cons (so_fld (tab_cons ⟨T.cls_Rule, T.nf_Rule_book⟩ (tab_nil)) (so_var 0 (pv 0))) sa_nil)) sa_nil)) (blkOk_by (N := ["self", "last", "book", "k"]) (sc := defScope s_Rule_invert) (by decide +kernel)) (fun _ _ _ _ _ => (pg_name (i := 3) sc_Rule_invert.nd rfl (by first | exact Or.inl rfl | exact Or.inr rfl))) (fun _ _ _ _ _ => ts_nil) (fun _ _ _ _ _ => (so_not (so_ix ix_U o_ix (so_fld (tab_cons ⟨T.cls_Rule, T.nf_Rule_book⟩ (tab_nil)) (so_var 0 (pv 0))) (so_bin op_sub o_sub (so_var 1 (pv 1)) (so_var 3 (pv 3))) (fun _ _ => rfl))))) (ss_one (ss_ret (so_make (c := 5) T.mk_Rule (ok_Rule_init T) (hr.mono (by decide)) rfl T.g_Rule T.b_Rule_init tk (sa_cons (so_fld (tab_cons ⟨T.cls_Rule, T.nf_Rule_many⟩ (tab_nil)) (so_var 0 (pv 0))) (sa_cons (so_call (ok_least_lots T) (hr.mono (by decide)) rfl T.m_least_lots T.F_least_lots.kp T.b_least_lots tk (sa_cons (so_fld (tab_cons ⟨T.cls_Rule, T.nf_Rule_many⟩ (tab_nil)) (so_var 0 (pv 0))) (sa_cons (so_var 2 (pv 2)) sa_nil))) sa_nil)))))))
theorem sc_law_joined : FnScope ["first", "second", "way", "made", "e"] ["first", "second", "way"] (defScope s_law_joined) := ⟨rfl, rfl, rfl, by decide +kernel, rfl, by decide +kernel, by decide +kernel⟩
theorem ok_law_joined (T : Txt K mg) : FnOk P w K mg base (L2.CX P w) 6 T.a_law_joined T.fd_law_joined ["first", "second", "way"] (spOf K (clOf K none) 3 d_law_joined) :=
  fn_ok T.F_law_joined sc_law_joined rfl rfl fun cdv A outer s H E hr pw tk => by
    have hu : (A.deeper (PyProof.Rows.envOfC "_law_joined" (defScope s_law_joined) s.heap.objs.size T.a_law_joined cdv)).units + 65 < cLine := by have := hr.un; omega
    exact (ss_cons (ss_try (i := 4) (l := [(1, true), (2, true), (3, true), (4, true)]) rfl rfl rfl sc_law_joined.nd rfl rfl ⟨rfl, by decide, .inl T.g_CalmError⟩ tk (xt_cons (exm_own T.s_CalmError T.d_CalmError T.t_CalmError T.u_NoLots_CalmError) (xt_cons (exm_own T.s_CalmError T.d_CalmError T.t_CalmError T.u_BadLot_CalmError) (xt_cons (exm_own T.s_CalmError T.d_CalmError T.t_CalmError T.u_BadQuota_CalmError) (xt_cons (exm_own T.s_CalmError T.d_CalmError T.t_CalmError T.u_ManyDiffer_CalmError) xt_nil)))) (fun _ _ _ tk pw => (ss_one (ss_if (sb_cmp (op_eqD hr.units) o_eq (so_var 2 (pv 2)) so_int (nomark _)) (ss_one (ss_set 3 (ps_set (i := 3) sc_law_joined.nd rfl (Or.inl rfl) (so_own2 (c := 5) T.oo_Rule_and rfl (ok_Rule_and T) (hr.mono (by decide)) T.b_Rule_and tk (so_var 0 (pv 0)) (so_var 1 (pv 1)))))) (ss_one (ss_set 3 (ps_set (i := 3) sc_law_joined.nd rfl (Or.inl rfl) (so_own2 (c := 5) T.oo_Rule_or rfl (ok_Rule_or T) (hr.mono (by decide)) T.b_Rule_or tk (so_var 0 (pv 0)) (so_var 1 (pv 1))))))))) (fun _ _ _ _ _ hz hv hk => (ss_cons (ss_if (sw_b (sw_and (sb_val (so_isX (l := [(1, false), (2, false), (3, false), (4, true)]) hz hv rfl T.z_isinstance (pe_glob rfl T.g_ManyDiffer (v := .ref (cA _ "ManyDiffer")) rfl) (fun _ h => h) (xt_cons ⟨T.kit_NoLots_ManyDiffer, T.xc_NoLots⟩ (xt_cons ⟨T.kit_BadLot_ManyDiffer, T.xc_BadLot⟩ (xt_cons ⟨T.kit_BadQuota_ManyDiffer, T.xc_BadQuota⟩ (xt_cons ⟨T.kit_ManyDiffer_ManyDiffer, T.xc_ManyDiffer⟩ xt_nil)))) (so_var 4 (pv 4)))) (sw_and1 (sb_val (so_isX (l := [(1, true), (2, true), (3, true), (4, true)]) hz hv rfl T.z_isinstance (pe_bltn rfl T.z_ValueError bt_ValueError (v := .ty "ValueError") rfl) (fun _ h => h) (xt_cons ⟨T.kit_NoLots_ValueError, T.xc_NoLots⟩ (xt_cons ⟨T.kit_BadLot_ValueError, T.xc_BadLot⟩ (xt_cons ⟨T.kit_BadQuota_ValueError, T.xc_BadQuota⟩ (xt_cons ⟨T.kit_ManyDiffer_ValueError, T.xc_ManyDiffer⟩ xt_nil)))) (so_var 4 (pv 4))))))) (ss_one (ss_ret (so_tup (sa_cons so_str (sa_cons (so_xf (l := [(1, true), (2, true), (3, true), (4, true)]) hz hv hk (xt_cons ⟨T.xf_NoLots, T.nf_NoLots_one⟩ (xt_cons ⟨T.xf_BadLot, T.nf_BadLot_one⟩ (xt_cons ⟨T.xf_BadQuota, T.nf_BadQuota_one⟩ (xt_cons ⟨T.xf_ManyDiffer, T.nf_ManyDiffer_one⟩ xt_nil)))) (so_var 4 (pv 4))) (sa_cons (so_xf (l := [(1, true), (2, true), (3, true), (4, true)]) hz hv hk (xt_cons ⟨T.xf_NoLots, T.nf_NoLots_two⟩ (xt_cons ⟨T.xf_BadLot, T.nf_BadLot_two⟩ (xt_cons ⟨T.xf_BadQuota, T.nf_BadQuota_two⟩ (xt_cons ⟨T.xf_ManyDiffer, T.nf_ManyDiffer_two⟩ xt_nil)))) (so_var 4 (pv 4))) sa_nil)))))) ss_nil) (ss_one (ss_ret (so_tup (sa_cons so_str (sa_cons so_int (sa_cons so_int sa_nil))))))))) (ss_one (ss_ret (so_tup (sa_cons so_str (sa_cons (so_var 3 (pv 3)) (sa_cons so_int sa_nil)))))))
theorem sc_Rule_majority : FnScope ["many", "voter"] ["many"] (defScope s_Rule_majority) := ⟨rfl, rfl, rfl, by decide +kernel, rfl, by decide +kernel, by decide +kernel⟩
theorem ok_Rule_majority (T : Txt K mg) : FnOk P w K mg base (L2.CX P w) 6 T.a_Rule_majority T.fd_Rule_majority ["many"] (spOf K (clOf K xa) 1 d_Rule_majority) :=
  fn_ok T.F_Rule_majority sc_Rule_majority rfl rfl fun cdv A outer s H E hr pw tk => by
    have hu : (A.deeper (PyProof.Rows.envOfC "Rule.majority" (defScope s_Rule_majority) s.heap.objs.size T.a_Rule_majority cdv)).units + 65 < cLine := by have := hr.un; omega
    exact (ss_one (ss_ret (so_smeth T.sm_Rule_weighted (ok_Rule_weighted T) (hr.mono (by decide)) rfl T.g_Rule T.b_Rule_weighted tk (sa_cons (so_callTy call_tuple_of a_tuple rfl T.z_tuple bt_tuple (sa_cons (so_fz (sc_lc (own := [("voter", 1)]) rfl sc_Rule_majority.nd (g_name 1) (by decide) (si_rng1 rfl T.z_range (sa_cons (so_var 0 (pv 0)) sa_nil)) (blkOk_by (N := ["many", "voter"]) (sc := defScope s_Rule_majority) (by decide +kernel)) (fun _ _ _ _ _ => (pg_name (i := 1) sc_Rule_majority.nd rfl (by first | exact Or.inl rfl | exact Or.inr rfl))) (fun _ _ _ _ _ => ts_nil) (fun _ _ _ _ _ => so_int))) sa_nil)) (sa_cons (so_bin op_addU o_add (so_bin op_fdivX o_fdiv (so_var 0 (pv 0)) so_int) so_int) sa_nil)))))
theorem sc_law_table : FnScope ["words", "many", "size", "sums", "weight", "numbers", "first", "second", "number", "known", "lot"] ["words", "many"] (defScope s_law_table) := ⟨rfl, rfl, rfl, by decide +kernel, rfl, by decide +kernel, by decide +kernel⟩
theorem okn_law_table (T : Txt K mg) : ∀ n : Nat, FnOk P w K mg base (L2.CX P w) (1 + n) T.a_law_table T.fd_law_table ["words", "many"] (spOf K (clOf K xa) 2 (d_law_table_n n))
  | 0 => fn_bad rfl
  | n + 1 => fn_ok T.F_law_table sc_law_table rfl rfl fun cdv A outer s H E hr pw tk => by
    replace hr : Room (1 + n) _ := hr
    have ih : FnOk P w K mg base (L2.CX P w) (1 + n) T.a_law_table T.fd_law_table ["words", "many"] (spOf K (clOf K xa) 2 (d_law_table_n n)) := okn_law_table T n
    have hu : (A.deeper (PyProof.Rows.envOfC "_law_table" (defScope s_law_table) s.heap.objs.size T.a_law_table cdv)).units + 65 < cLine := by have := hr.un; omega
    exact (ss_cons (ss_set 2 (ps_set (i := 2) sc_law_table.nd rfl (Or.inr rfl) (so_bin op_shl o_shl so_int (so_var 1 (pv 1))))) (ss_cons (ss_if (sb_cmp (op_eqD hr.units) o_eq (so_ix ix_U o_ix (so_var 0 (pv 0)) so_int (fun _ _ => rfl)) so_str (nomark _)) (ss_cons (ss_set 3 (ps_set (i := 3) sc_law_table.nd rfl (Or.inl rfl) (so_fz (sc_lst (sa_cons so_int sa_nil))))) (ss_cons (ss_for pw rfl (si_seq (so_ix ix_U o_ix (so_var 0 (pv 0)) so_int (fun _ _ => rfl))) (g_name 4) (pg_name (i := 4) sc_law_table.nd rfl (Or.inr rfl)) (ss_one (ss_set 3 (ps_set (i := 3) sc_law_table.nd rfl (Or.inl rfl) (so_bin op_addU o_add (so_var 3 (pv 3)) (so_fz (sc_lc (own := [("known", 9)]) rfl sc_law_table.nd (g_name 9) (by decide) (si_seq (so_var 3 (pv 3))) (blkOk_by (N := ["words", "many", "size", "sums", "weight", "numbers", "first", "second", "number", "known", "lot"]) (sc := defScope s_law_table) (by decide +kernel)) (fun _ _ _ _ _ => (pg_name (i := 9) sc_law_table.nd rfl (by first | exact Or.inl rfl | exact Or.inr rfl))) (fun _ _ _ _ _ => ts_nil) (fun _ _ _ _ _ => (so_bin op_addU o_add (so_var 9 (pv 9)) (so_var 4 (pv 4))))))))))) (ss_one (ss_ret (so_fz (sc_lc (own := [("known", 9)]) rfl sc_law_table.nd (g_name 9) (by decide) (si_seq (so_var 3 (pv 3))) (blkOk_by (N := ["words", "many", "size", "sums", "weight", "numbers", "first", "second", "number", "known", "lot"]) (sc := defScope s_law_table) (by decide +kernel)) (fun _ _ _ _ _ => (pg_name (i := 9) sc_law_table.nd rfl (by first | exact Or.inl rfl | exact Or.inr rfl))) (fun _ _ _ _ _ => ts_nil) (fun _ _ _ _ _ => (so_cmp op_ge o_ge (so_var 9 (pv 9)) (so_ix ix_U o_ix (so_var 0 (pv 0)) so_int (fun _ _ => rfl)) (nomark _))))))))) ss_nil) (ss_cons (ss_if (sb_cmp (op_eqD hr.units) o_eq (so_ix ix_U o_ix (so_var 0 (pv 0)) so_int (fun _ _ => rfl)) so_str (nomark _)) (ss_cons (ss_set 5 (ps_set (i := 5) sc_law_table.nd rfl (Or.inr rfl) (so_fz (sc_lc (own := [("lot", 10)]) rfl sc_law_table.nd (g_name 10) (by decide) (si_seq (so_ix ix_U o_ix (so_var 0 (pv 0)) so_int (fun _ _ => rfl))) (blkOk_by (N := ["words", "many", "size", "sums", "weight", "numbers", "first", "second", "number", "known", "lot"]) (sc := defScope s_law_table) (by decide +kernel)) (fun _ _ _ _ _ => (pg_name (i := 10) sc_law_table.nd rfl (by first | exact Or.inl rfl | exact Or.inr rfl))) (fun _ _ _ _ _ => ts_nil) (fun _ _ _ _ _ => (so_call (ok_law_number T) (hr.mono (by omega)) rfl T.m_law_number T.F_law_number.kp T.b_law_number takes0 (sa_cons (so_var 10 (pv 10)) sa_nil))))))) (ss_one (ss_ret (so_fz (sc_lc (own := [("number", 8)]) rfl sc_law_table.nd (g_name 8) (by decide) (si_rng1 rfl T.z_range (sa_cons (so_var 2 (pv 2)) sa_nil)) (blkOk_by (N := ["words", "many", "size", "sums", "weight", "numbers", "first", "second", "number", "known", "lot"]) (sc := defScope s_law_table) (by decide +kernel)) (fun _ _ _ _ _ => (pg_name (i := 8) sc_law_table.nd rfl (by first | exact Or.inl rfl | exact Or.inr rfl))) (fun _ _ _ _ _ => ts_nil) (fun _ _ _ _ _ => (so_callB (cr_any rfl) a_any rfl T.z_any bt_any (sa_cons (so_fz (sc_lc (own := [("known", 9)]) rfl sc_law_table.nd (g_name 9) (by decide) (si_seq (so_var 5 (pv 5))) (blkOk_by (by kernel_rfl)) (fun _ _ _ _ _ => (pg_name (i := 9) sc_law_table.nd rfl (by first | exact Or.inl rfl | exact Or.inr rfl))) (fun _ _ _ _ _ => ts_nil) (fun _ _ _ _ _ => (so_cmp (op_eqD hr.units) o_eq (so_bin op_and o_and (so_var 8 (pv 8)) (so_var 9 (pv 9))) (so_var 9 (pv 9)) (nomark _))))) sa_nil)))))))) ss_nil) (ss_cons (ss_set 6 (ps_set (i := 6) sc_law_table.nd rfl (Or.inr rfl) (so_call ih (hr.mono (by omega)) rfl T.m_law_table T.F_law_table.kp T.b_law_table tk (sa_cons (so_ix ix_U o_ix (so_var 0 (pv 0)) so_int (fun _ _ => rfl)) (sa_cons (so_var 1 (pv 1)) sa_nil))))) (ss_cons (ss_if (sb_cmp (op_eqD hr.units) o_eq (so_ix ix_U o_ix (so_var 0 (pv 0)) so_int (fun _ _ => rfl)) so_str (nomark _)) (ss_one (ss_ret (so_fz (sc_lc (own := [("number", 8)]) rfl sc_law_table.nd (g_name 8) (by decide) (si_rng1 rfl T.z_range (sa_cons (so_var 2 (pv 2)) sa_nil)) (blkOk_by (N := ["words", "many", "size", "sums", "weight", "numbers", "first", "second", "number", "known", "lot"]) (sc := defScope s_law_table) (by decide +kernel)) (fun _ _ _ _ _ => (pg_name (i := 8) sc_law_table.nd rfl (by first | exact Or.inl rfl | exact Or.inr rfl))) (fun _ _ _ _ _ => ts_nil) (fun _ _ _ _ _ => (so_not (so_ix ix_U o_ix (so_var 6 (pv 6)) (so_bin op_sub o_sub (so_bin op_sub o_sub (so_var 2 (pv 2)) so_int) (so_var 8 (pv 8))) (fun _ _ => rfl)))))))) ss_nil) (ss_cons (ss_set 7 (ps_set (i := 7) sc_law_table.nd rfl (Or.inr rfl) (so_call ih (hr.mono (by omega)) rfl T.m_law_table T.F_law_table.kp T.b_law_table tk (sa_cons (so_ix ix_U o_ix (so_var 0 (pv 0)) so_int (fun _ _ => rfl)) (sa_cons (so_var 1 (pv 1)) sa_nil))))) (ss_cons (ss_if (sb_cmp (op_eqD hr.units) o_eq (so_ix ix_U o_ix (so_var 0 (pv 0)) so_int (fun _ _ => rfl)) so_str (nomark _)) (ss_one (ss_ret (so_fz (sc_lc (own := [("number", 8)]) rfl sc_law_table.nd (g_name 8) (by decide) (si_rng1 rfl T.z_range (sa_cons (so_var 2 (pv 2)) sa_nil)) (blkOk_by (N := ["words", "many", "size", "sums", "weight", "numbers", "first", "second", "number", "known", "lot"]) (sc := defScope s_law_table) (by decide +kernel)) (fun _ _ _ _ _ => (pg_name (i := 8) sc_law_table.nd rfl (by first | exact Or.inl rfl | exact Or.inr rfl))) (fun _ _ _ _ _ => ts_nil) (fun _ _ _ _ _ => (so_and (so_ix ix_U o_ix (so_var 6 (pv 6)) (so_var 8 (pv 8)) (fun _ _ => rfl)) (so_one (so_ix ix_U o_ix (so_var 7 (pv 7)) (so_var 8 (pv 8)) (fun _ _ => rfl))))))))) ss_nil) (ss_one (ss_ret (so_fz (sc_lc (own := [("number", 8)]) rfl sc_law_table.nd (g_name 8) (by decide) (si_rng1 rfl T.z_range (sa_cons (so_var 2 (pv 2)) sa_nil)) (blkOk_by (N := ["words", "many", "size", "sums", "weight", "numbers", "first", "second", "number", "known", "lot"]) (sc := defScope s_law_table) (by decide +kernel)) (fun _ _ _ _ _ => (pg_name (i := 8) sc_law_table.nd rfl (by first | exact Or.inl rfl | exact Or.inr rfl))) (fun _ _ _ _ _ => ts_nil) (fun _ _ _ _ _ => (so_or (so_ix ix_U o_ix (so_var 6 (pv 6)) (so_var 8 (pv 8)) (fun _ _ => rfl)) (so_one (so_ix ix_U o_ix (so_var 7 (pv 7)) (so_var 8 (pv 8)) (fun _ _ => rfl))))))))))))))))
theorem ok_law_table (T : Txt K mg) : FnOk P w K mg base (L2.CX P w) 7 T.a_law_table T.fd_law_table ["words", "many"] (spOf K (clOf K xa) 2 d_law_table) := (okn_law_table T 5).mono (by decide)
theorem sc_law_kept_apart : FnScope ["first", "second", "many", "other", "way", "told"] ["first", "second", "many", "other"] (defScope s_law_kept_apart) := ⟨rfl, rfl, rfl, by decide +kernel, rfl, by decide +kernel, by decide +kernel⟩
theorem ok_law_kept_apart (T : Txt K mg) : FnOk P w K mg base (L2.CX P w) 7 T.a_law_kept_apart T.fd_law_kept_apart ["first", "second", "many", "other"] (spOf K (clOf K none) 4 d_law_kept_apart) :=
  fn_ok T.F_law_kept_apart sc_law_kept_apart rfl rfl fun cdv A outer s H E hr pw tk => by
    have hu : (A.deeper (PyProof.Rows.envOfC "_law_kept_apart" (defScope s_law_kept_apart) s.heap.objs.size T.a_law_kept_apart cdv)).units + 65 < cLine := by have := hr.un; omega
    exact (ss_cons (ss_for pw rfl (si_rng1 rfl T.z_range (sa_cons so_int sa_nil)) (g_name 4) (pg_name (i := 4) sc_law_kept_apart.nd rfl (Or.inl rfl)) (ss_cons (ss_set 5 (ps_set (i := 5) sc_law_kept_apart.nd rfl (Or.inl rfl) (so_call (ok_law_joined T) (hr.mono (by decide)) rfl T.m_law_joined T.F_law_joined.kp T.b_law_joined tk (sa_cons (so_var 0 (pv 0)) (sa_cons (so_var 1 (pv 1)) (sa_cons (so_var 4 (pv 4)) sa_nil)))))) (ss_cons (ss_if (sw_b (sw_or (sb_cmp (op_neD hr.units) o_ne (so_ix ix_U o_ix (so_var 5 (pv 5)) so_int (fun _ _ => rfl)) so_str (nomark _)) (sw_or (sb_not (sb_val (so_call (ok_law_whole T) (hr.mono (by decide)) rfl T.m_law_whole T.F_law_whole.kp T.b_law_whole tk (sa_cons (so_ix ix_U o_ix (so_var 5 (pv 5)) so_int (fun _ _ => rfl)) sa_nil)))) (sw_or1 (sb_not (sb_val (so_call (ok_law_whole T) (hr.mono (by decide)) rfl T.m_law_whole T.F_law_whole.kp T.b_law_whole tk (sa_cons (so_ix ix_U o_ix (so_var 5 (pv 5)) so_int (fun _ _ => rfl)) sa_nil)))))))) (ss_one (ss_ret so_bl)) ss_nil) (ss_one (ss_if (sw_b (sw_or (sb_cmp (op_neD hr.units) o_ne (so_ix ix_U o_ix (so_var 5 (pv 5)) so_int (fun _ _ => rfl)) (so_var 2 (pv 2)) (nomark _)) (sw_or1 (sb_cmp (op_neD hr.units) o_ne (so_ix ix_U o_ix (so_var 5 (pv 5)) so_int (fun _ _ => rfl)) (so_var 3 (pv 3)) (nomark _))))) (ss_one (ss_ret so_bl)) ss_nil))))) (ss_one (ss_ret (so_cmp op_isBl o_isB (so_cmp (op_eqX (C := cA _ "Rule") T.oo_Rule_eq (ok_Rule_eq T) (hr.mono (by decide)) T.b_Rule_eq) (o_eqX (c := 5)) (so_var 0 (pv 0)) (so_var 1 (pv 1)) (nomark _)) so_bl (nomark _)))))
theorem sc_law_rule : FnScope ["words", "many", "first", "second"] ["words", "many"] (defScope s_law_rule) := ⟨rfl, rfl, rfl, by decide +kernel, rfl, by decide +kernel, by decide +kernel⟩
theorem okn_law_rule (T : Txt K mg) : ∀ n : Nat, FnOk P w K mg base (L2.CX P w) (5 + n) T.a_law_rule T.fd_law_rule ["words", "many"] (spOf K (clOf K xa) 2 (d_law_rule_n n))
  | 0 => fn_bad rfl
  | n + 1 => fn_ok T.F_law_rule sc_law_rule rfl rfl fun cdv A outer s H E hr pw tk => by
    replace hr : Room (5 + n) _ := hr
    have ih : FnOk P w K mg base (L2.CX P w) (5 + n) T.a_law_rule T.fd_law_rule ["words", "many"] (spOf K (clOf K xa) 2 (d_law_rule_n n)) := okn_law_rule T n
    have hu : (A.deeper (PyProof.Rows.envOfC "_law_rule" (defScope s_law_rule) s.heap.objs.size T.a_law_rule cdv)).units + 65 < cLine := by have := hr.un; omega
    exact (ss_cons (ss_if (sb_cmp (op_eqD hr.units) o_eq (so_ix ix_U o_ix (so_var 0 (pv 0)) so_int (fun _ _ => rfl)) so_str (nomark _)) (ss_one (ss_ret (so_smeth T.sm_Rule_weighted (ok_Rule_weighted T) (hr.mono (by omega)) rfl T.g_Rule T.b_Rule_weighted tk (sa_cons (so_ix ix_U o_ix (so_var 0 (pv 0)) so_int (fun _ _ => rfl)) (sa_cons (so_ix ix_U o_ix (so_var 0 (pv 0)) so_int (fun _ _ => rfl)) sa_nil))))) ss_nil) (ss_cons (ss_if (sb_cmp (op_eqD hr.units) o_eq (so_ix ix_U o_ix (so_var 0 (pv 0)) so_int (fun _ _ => rfl)) so_str (nomark _)) (ss_one (ss_ret (so_make (c := 5) T.mk_Rule (ok_Rule_init T) (hr.mono (by omega)) rfl T.g_Rule T.b_Rule_init tk (sa_cons (so_var 1 (pv 1)) (sa_cons (so_ix ix_U o_ix (so_var 0 (pv 0)) so_int (fun _ _ => rfl)) sa_nil))))) ss_nil) (ss_cons (ss_set 2 (ps_set (i := 2) sc_law_rule.nd rfl (Or.inl rfl) (so_call ih (hr.mono (by omega)) rfl T.m_law_rule T.F_law_rule.kp T.b_law_rule tk (sa_cons (so_ix ix_U o_ix (so_var 0 (pv 0)) so_int (fun _ _ => rfl)) (sa_cons (so_var 1 (pv 1)) sa_nil))))) (ss_cons (ss_if (sb_cmp (op_eqD hr.units) o_eq (so_ix ix_U o_ix (so_var 0 (pv 0)) so_int (fun _ _ => rfl)) so_str (nomark _)) (ss_one (ss_ret (so_ownInv (c := 5) T.oo_Rule_invert (ok_Rule_invert T) (hr.mono (by omega)) T.b_Rule_invert tk (so_var 2 (pv 2))))) ss_nil) (ss_cons (ss_set 3 (ps_set (i := 3) sc_law_rule.nd rfl (Or.inl rfl) (so_call ih (hr.mono (by omega)) rfl T.m_law_rule T.F_law_rule.kp T.b_law_rule tk (sa_cons (so_ix ix_U o_ix (so_var 0 (pv 0)) so_int (fun _ _ => rfl)) (sa_cons (so_var 1 (pv 1)) sa_nil))))) (ss_cons (ss_if (sb_cmp (op_eqD hr.units) o_eq (so_ix ix_U o_ix (so_var 0 (pv 0)) so_int (fun _ _ => rfl)) so_str (nomark _)) (ss_one (ss_ret (so_own2 (c := 5) T.oo_Rule_and rfl (ok_Rule_and T) (hr.mono (by omega)) T.b_Rule_and tk (so_var 2 (pv 2)) (so_var 3 (pv 3))))) ss_nil) (ss_one (ss_ret (so_own2 (c := 5) T.oo_Rule_or rfl (ok_Rule_or T) (hr.mono (by omega)) T.b_Rule_or tk (so_var 2 (pv 2)) (so_var 3 (pv 3)))))))))))
theorem ok_law_rule (T : Txt K mg) : FnOk P w K mg base (L2.CX P w) 11 T.a_law_rule T.fd_law_rule ["words", "many"] (spOf K (clOf K xa) 2 d_law_rule) := (okn_law_rule T 5).mono (by decide)
theorem sc_law : FnScope ["script", "sizes", "k", "row", "many", "last", "number", "lots", "j", "words", "first", "second", "third", "rules", "one", "two", "three", "least", "greater", "near", "tables", "i", "told", "other", "wide", "value", "said"] ["script"] (defScope s_law) := ⟨rfl, rfl, rfl, by decide +kernel, rfl, by decide +kernel, by decide +kernel⟩
theorem ok_law (T : Txt K mg) : FnOk P w K mg base (L2.CX P w) 12 T.a_law T.fd_law ["script"] (spOf K (clOf K none) 1 d_law) :=
  fn_ok T.F_law sc_law rfl rfl fun cdv A outer s H E hr pw tk => by
    have hu : (A.deeper (PyProof.Rows.envOfC "law" (defScope s_law) s.heap.objs.size T.a_law cdv)).units + 65 < cLine := by have := hr.un; omega
    exact (ss_cons (ss_set 1 (ps_set (i := 1) sc_law.nd rfl (Or.inr rfl) (so_bin op_addU o_add (so_bin op_addU o_add (so_bin op_addU o_add (so_bin op_addU o_add (so_fz (sc_lst (sa_cons so_int (sa_cons so_int sa_nil)))) (so_bin op_mulU o_mul (so_fz (sc_lst (sa_cons so_int sa_nil))) so_int)) (so_bin op_mulU o_mul (so_fz (sc_lst (sa_cons so_int sa_nil))) so_int)) (so_fz (sc_lst (sa_cons so_int sa_nil)))) (so_bin op_mulU o_mul (so_fz (sc_lst (sa_cons so_int sa_nil))) so_int)))) (ss_cons (ss_for pw rfl (si_rng1 rfl T.z_range (sa_cons so_int sa_nil)) (g_name 2) (pg_name (i := 2) sc_law.nd rfl (Or.inr rfl)) (ss_cons (ss_set 3 (ps_set (i := 3) sc_law.nd rfl (Or.inr rfl) (so_call (ok_law_digits T) (hr.mono (by decide)) rfl T.m_law_digits T.F_law_digits.kp T.b_law_digits tk (sa_cons (so_call (ok_law_cell T) (hr.mono (by decide)) rfl T.m_law_cell T.F_law_cell.kp T.b_law_cell tk (sa_cons (so_var 0 (pv 0)) (sa_cons (so_bin op_addU o_add (so_bin op_mulU o_mul so_int (so_var 2 (pv 2))) so_int) sa_nil))) (sa_cons (so_fz (sc_lst (sa_cons so_int (sa_cons so_int (sa_cons so_int (sa_cons so_int (sa_cons so_int (sa_cons so_int (sa_cons so_int sa_nil))))))))) sa_nil))))) (ss_cons (ss_set 4 (ps_set (i := 4) sc_law.nd rfl (Or.inr rfl) (so_ix ix_U o_ix (so_ix ix_U o_ix (so_fz (sc_lst (sa_cons (so_fz (sc_lst (sa_cons so_int (sa_cons so_int (sa_cons so_int (sa_cons so_int (sa_cons so_int (sa_cons so_int (sa_cons so_int (sa_cons so_int (sa_cons so_int sa_nil))))))))))) (sa_cons (so_fz (sc_lst (sa_cons so_int (sa_cons so_int (sa_cons so_int (sa_cons so_int (sa_cons so_int (sa_cons so_int (sa_cons so_int (sa_cons so_int (sa_cons so_int sa_nil))))))))))) sa_nil)))) (so_var 2 (pv 2)) (fun _ _ => rfl)) (so_ix ix_U o_ix (so_var 3 (pv 3)) so_int (fun _ _ => rfl)) (fun _ _ => rfl)))) (ss_cons (ss_set 5 (ps_set (i := 5) sc_law.nd rfl (Or.inr rfl) (so_bin op_sub o_sub (so_bin op_shl o_shl so_int (so_var 4 (pv 4))) so_int))) (ss_cons (ss_lcF (own := [("number", 6)]) (i := 7) rfl sc_law.nd rfl rfl (sw_true rfl rfl rfl (by decide +kernel)) (g_name 6) (by decide) (si_rng1 rfl T.z_range (sa_cons (so_bin op_addU o_add (so_var 5 (pv 5)) so_int) sa_nil)) (blkOk_by (N := ["script", "sizes", "k", "row", "many", "last", "number", "lots", "j", "words", "first", "second", "third", "rules", "one", "two", "three", "least", "greater", "near", "tables", "i", "told", "other", "wide", "value", "said"]) (sc := defScope s_law) (by decide +kernel)) (fun _ _ _ _ _ => (pg_name (i := 6) sc_law.nd rfl (by first | exact Or.inl rfl | exact Or.inr rfl))) (fun _ _ _ _ _ => ts_nil) (fun _ _ _ _ _ => (so_call (ok_law_voters T) (hr.mono (by decide)) rfl T.m_law_voters T.F_law_voters.kp T.b_law_voters takes0 (sa_cons (so_var 6 (pv 6)) (sa_cons (so_var 4 (pv 4)) sa_nil))))) (ss_cons (ss_lcF (own := [("j", 8)]) (i := 9) rfl sc_law.nd rfl rfl (sw_true rfl rfl rfl (by decide +kernel)) (g_name 8) (by decide) (si_rng1 rfl T.z_range (sa_cons so_int sa_nil)) (blkOk_by (N := ["script", "sizes", "k", "row", "many", "last", "number", "lots", "j", "words", "first", "second", "third", "rules", "one", "two", "three", "least", "greater", "near", "tables", "i", "told", "other", "wide", "value", "said"]) (sc := defScope s_law) (by decide +kernel)) (fun _ _ _ _ _ => (pg_name (i := 8) sc_law.nd rfl (by first | exact Or.inl rfl | exact Or.inr rfl))) (fun _ _ _ _ _ => ts_nil) (fun _ _ _ _ _ => (so_call (ok_law_any T) (hr.mono (by decide)) rfl T.m_law_any T.F_law_any.kp T.b_law_any takes0 (sa_cons (so_call (ok_law_digits T) (hr.mono (by decide)) rfl T.m_law_digits T.F_law_digits.kp T.b_law_digits takes0 (sa_cons (so_call (ok_law_cell T) (hr.mono (by decide)) rfl T.m_law_cell T.F_law_cell.kp T.b_law_cell takes0 (sa_cons (so_var 0 (pv 0)) (sa_cons (so_bin op_addU o_add (so_bin op_mulU o_mul so_int (so_var 2 (pv 2))) (so_var 8 (pv 8))) sa_nil))) (sa_cons (so_var 1 (pv 1)) sa_nil))) (sa_cons (so_var 4 (pv 4)) sa_nil))))) (ss_cons (ss_set 10 (ps_set (i := 10) sc_law.nd rfl (Or.inr rfl) (so_call (ok_law_table T) (hr.mono (by decide)) rfl T.m_law_table T.F_law_table.kp T.b_law_table tk (sa_cons (so_ix ix_U o_ix (so_var 9 (pv 9)) so_int (fun _ _ => rfl)) (sa_cons (so_var 4 (pv 4)) sa_nil))))) (ss_cons (ss_set 11 (ps_set (i := 11) sc_law.nd rfl (Or.inr rfl) (so_call (ok_law_table T) (hr.mono (by decide)) rfl T.m_law_table T.F_law_table.kp T.b_law_table tk (sa_cons (so_ix ix_U o_ix (so_var 9 (pv 9)) so_int (fun _ _ => rfl)) (sa_cons (so_var 4 (pv 4)) sa_nil))))) (ss_cons (ss_set 12 (ps_set (i := 12) sc_law.nd rfl (Or.inr rfl) (so_call (ok_law_table T) (hr.mono (by decide)) rfl T.m_law_table T.F_law_table.kp T.b_law_table tk (sa_cons (so_ix ix_U o_ix (so_var 9 (pv 9)) so_int (fun _ _ => rfl)) (sa_cons (so_var 4 (pv 4)) sa_nil))))) (ss_cons (ss_lcF (own := [("said", 26)]) (i := 13) rfl sc_law.nd rfl rfl (sw_true rfl rfl rfl (by decide +kernel)) (g_name 26) (by decide) (si_seq (so_var 9 (pv 9))) (blkOk_by (N := ["script", "sizes", "k", "row", "many", "last", "number", "lots", "j", "words", "first", "second", "third", "rules", "one", "two", "three", "least", "greater", "near", "tables", "i", "told", "other", "wide", "value", "said"]) (sc := defScope s_law) (by decide +kernel)) (fun _ _ _ _ _ => (pg_name (i := 26) sc_law.nd rfl (by first | exact Or.inl rfl | exact Or.inr rfl))) (fun _ _ _ _ _ => ts_nil) (fun _ _ _ _ _ => (so_call (ok_law_rule T) (hr.mono (by decide)) rfl T.m_law_rule T.F_law_rule.kp T.b_law_rule takes0 (sa_cons (so_var 26 (pv 26)) (sa_cons (so_var 4 (pv 4)) sa_nil))))) (ss_cons (ss_set 14 (ps_set (i := 14) sc_law.nd rfl (Or.inl rfl) (so_ix ix_U o_ix (so_var 13 (pv 13)) so_int (fun _ _ => rfl)))) (ss_cons (ss_set 15 (ps_set (i := 15) sc_law.nd rfl (Or.inl rfl) (so_ix ix_U o_ix (so_var 13 (pv 13)) so_int (fun _ _ => rfl)))) (ss_cons (ss_set 16 (ps_set (i := 16) sc_law.nd rfl (Or.inl rfl) (so_ix ix_U o_ix (so_var 13 (pv 13)) so_int (fun _ _ => rfl)))) (ss_cons (ss_set 17 (ps_set (i := 17) sc_law.nd rfl (Or.inr rfl) (so_call (ok_law_least T) (hr.mono (by decide)) rfl T.m_law_least T.F_law_least.kp T.b_law_least tk (sa_cons (so_var 10 (pv 10)) (sa_cons (so_var 4 (pv 4)) sa_nil))))) (ss_cons (ss_lcF (own := [("j", 8)]) (i := 18) rfl sc_law.nd rfl rfl (sw_true rfl rfl rfl (by decide +kernel)) (g_name 8) (by decide) (si_rng1 rfl T.z_range (sa_cons (so_callTy call_int1 a_int rfl T.z_int bt_int (sa_cons (so_ix ix_U o_ix (so_var 3 (pv 3)) so_int (fun _ _ => rfl)) sa_nil)) sa_nil)) (blkOk_by (N := ["script", "sizes", "k", "row", "many", "last", "number", "lots", "j", "words", "first", "second", "third", "rules", "one", "two", "three", "least", "greater", "near", "tables", "i", "told", "other", "wide", "value", "said"]) (sc := defScope s_law) (by decide +kernel)) (fun _ _ _ _ _ => (pg_name (i := 8) sc_law.nd rfl (by first | exact Or.inl rfl | exact Or.inr rfl))) (fun _ _ _ _ _ => ts_nil) (fun _ _ _ _ _ => (so_call (ok_law_voters T) (hr.mono (by decide)) rfl T.m_law_voters T.F_law_voters.kp T.b_law_voters takes0 (sa_cons (so_bin op_or o_or (so_call (ok_law_number T) (hr.mono (by decide)) rfl T.m_law_number T.F_law_number.kp T.b_law_number takes0 (sa_cons (so_ix ix_U o_ix (so_var 17 (pv 17)) so_int (fun _ _ => rfl)) sa_nil)) (so_bin op_and o_and (so_callTy call_int1 a_int rfl T.z_int bt_int (sa_cons (so_ix ix_U o_ix (so_var 3 (pv 3)) (so_bin op_addU o_add so_int (so_var 8 (pv 8))) (fun _ _ => rfl)) sa_nil)) (so_var 5 (pv 5)))) (sa_cons (so_var 4 (pv 4)) sa_nil))))) (ss_cons (ss_set 19 (ps_set (i := 19) sc_law.nd rfl (Or.inl rfl) (so_call (ok_law_near T) (hr.mono (by decide)) rfl T.m_law_near T.F_law_near.kp T.b_law_near tk (sa_cons (so_var 10 (pv 10)) (sa_cons (so_var 4 (pv 4)) (sa_cons (so_ix ix_U o_ix (so_var 3 (pv 3)) so_int (fun _ _ => rfl)) sa_nil)))))) (ss_cons (ss_set 13 (ps_set (i := 13) sc_law.nd rfl (Or.inl rfl) (so_bin op_addU o_add (so_var 13 (pv 13)) (so_fz (sc_lst (sa_cons (so_own2 (c := 5) T.oo_Rule_and rfl (ok_Rule_and T) (hr.mono (by decide)) T.b_Rule_and tk (so_var 14 (pv 14)) (so_var 15 (pv 15))) (sa_cons (so_own2 (c := 5) T.oo_Rule_or rfl (ok_Rule_or T) (hr.mono (by decide)) T.b_Rule_or tk (so_var 14 (pv 14)) (so_var 15 (pv 15))) (sa_cons (so_ownInv (c := 5) T.oo_Rule_invert (ok_Rule_invert T) (hr.mono (by decide)) T.b_Rule_invert tk (so_var 14 (pv 14))) (sa_cons (so_own2 (c := 5) T.oo_Rule_or rfl (ok_Rule_or T) (hr.mono (by decide)) T.b_Rule_or tk (so_own2 (c := 5) T.oo_Rule_or rfl (ok_Rule_or T) (hr.mono (by decide)) T.b_Rule_or tk (so_own2 (c := 5) T.oo_Rule_and rfl (ok_Rule_and T) (hr.mono (by decide)) T.b_Rule_and tk (so_var 14 (pv 14)) (so_var 15 (pv 15))) (so_own2 (c := 5) T.oo_Rule_and rfl (ok_Rule_and T) (hr.mono (by decide)) T.b_Rule_and tk (so_var 15 (pv 15)) (so_var 16 (pv 16)))) (so_own2 (c := 5) T.oo_Rule_and rfl (ok_Rule_and T) (hr.mono (by decide)) T.b_Rule_and tk (so_var 14 (pv 14)) (so_var 16 (pv 16)))) (sa_cons (so_own2 (c := 5) T.oo_Rule_and rfl (ok_Rule_and T) (hr.mono (by decide)) T.b_Rule_and tk (so_own2 (c := 5) T.oo_Rule_or rfl (ok_Rule_or T) (hr.mono (by decide)) T.b_Rule_or tk (so_var 14 (pv 14)) (so_var 15 (pv 15))) (so_ownInv (c := 5) T.oo_Rule_invert (ok_Rule_invert T) (hr.mono (by decide)) T.b_Rule_invert tk (so_var 16 (pv 16)))) sa_nil)))))))))) (ss_cons (ss_set 13 (ps_set (i := 13) sc_law.nd rfl (Or.inl rfl) (so_bin op_addU o_add (so_var 13 (pv 13)) (so_fz (sc_lst (sa_cons (so_ownInv (c := 5) T.oo_Rule_invert (ok_Rule_invert T) (hr.mono (by decide)) T.b_Rule_invert tk (so_own2 (c := 5) T.oo_Rule_and rfl (ok_Rule_and T) (hr.mono (by decide)) T.b_Rule_and tk (so_var 15 (pv 15)) (so_var 14 (pv 14)))) (sa_cons (so_ownInv (c := 5) T.oo_Rule_invert (ok_Rule_invert T) (hr.mono (by decide)) T.b_Rule_invert tk (so_ownInv (c := 5) T.oo_Rule_invert (ok_Rule_invert T) (hr.mono (by decide)) T.b_Rule_invert tk (so_var 14 (pv 14)))) (sa_cons (so_make (c := 5) T.mk_Rule (ok_Rule_init T) (hr.mono (by decide)) rfl T.g_Rule T.b_Rule_init tk (sa_cons (so_var 4 (pv 4)) (sa_cons (so_bin op_addU o_add (so_callTy call_tuple_of a_tuple rfl T.z_tuple bt_tuple (sa_cons (so_var 18 (pv 18)) sa_nil)) (so_rev2 (so_var 17 (pv 17)))) sa_nil))) (sa_cons (so_make (c := 5) T.mk_Rule (ok_Rule_init T) (hr.mono (by decide)) rfl T.g_Rule T.b_Rule_init tk (sa_cons (so_var 4 (pv 4)) (sa_cons (so_call (ok_law_least T) (hr.mono (by decide)) rfl T.m_law_least T.F_law_least.kp T.b_law_least tk (sa_cons (so_var 19 (pv 19)) (sa_cons (so_var 4 (pv 4)) sa_nil))) sa_nil))) sa_nil))))))))) (ss_cons (ss_own 20 (ps_set (i := 20) sc_law.nd rfl (Or.inl rfl) (sc_lst (sa_cons (so_var 10 (pv 10)) (sa_cons (so_var 11 (pv 11)) (sa_cons (so_var 12 (pv 12)) sa_nil)))))) (ss_cons (ss_app 20 (ps_expr (pe_bm PySem.F.plainAttrs_list PySem.F.slot_list_append PySem.F.type_list_append mt_append (pv 20) (sa_cons (so_fz (sc_lc (own := [("number", 6)]) rfl sc_law.nd (g_name 6) (by decide) (si_rng1 rfl T.z_range (sa_cons (so_bin op_addU o_add (so_var 5 (pv 5)) so_int) sa_nil)) (blkOk_by (N := ["script", "sizes", "k", "row", "many", "last", "number", "lots", "j", "words", "first", "second", "third", "rules", "one", "two", "three", "least", "greater", "near", "tables", "i", "told", "other", "wide", "value", "said"]) (sc := defScope s_law) (by decide +kernel)) (fun _ _ _ _ _ => (pg_name (i := 6) sc_law.nd rfl (by first | exact Or.inl rfl | exact Or.inr rfl))) (fun _ _ _ _ _ => ts_nil) (fun _ _ _ _ _ => (so_and (so_ix ix_U o_ix (so_var 10 (pv 10)) (so_var 6 (pv 6)) (fun _ _ => rfl)) (so_one (so_ix ix_U o_ix (so_var 11 (pv 11)) (so_var 6 (pv 6)) (fun _ _ => rfl))))))) sa_nil)))) (ss_cons (ss_app 20 (ps_expr (pe_bm PySem.F.plainAttrs_list PySem.F.slot_list_append PySem.F.type_list_append mt_append (pv 20) (sa_cons (so_fz (sc_lc (own := [("number", 6)]) rfl sc_law.nd (g_name 6) (by decide) (si_rng1 rfl T.z_range (sa_cons (so_bin op_addU o_add (so_var 5 (pv 5)) so_int) sa_nil)) (blkOk_by (N := ["script", "sizes", "k", "row", "many", "last", "number", "lots", "j", "words", "first", "second", "third", "rules", "one", "two", "three", "least", "greater", "near", "tables", "i", "told", "other", "wide", "value", "said"]) (sc := defScope s_law) (by decide +kernel)) (fun _ _ _ _ _ => (pg_name (i := 6) sc_law.nd rfl (by first | exact Or.inl rfl | exact Or.inr rfl))) (fun _ _ _ _ _ => ts_nil) (fun _ _ _ _ _ => (so_or (so_ix ix_U o_ix (so_var 10 (pv 10)) (so_var 6 (pv 6)) (fun _ _ => rfl)) (so_one (so_ix ix_U o_ix (so_var 11 (pv 11)) (so_var 6 (pv 6)) (fun _ _ => rfl))))))) sa_nil)))) (ss_cons (ss_app 20 (ps_expr (pe_bm PySem.F.plainAttrs_list PySem.F.slot_list_append PySem.F.type_list_append mt_append (pv 20) (sa_cons (so_fz (sc_lc (own := [("number", 6)]) rfl sc_law.nd (g_name 6) (by decide) (si_rng1 rfl T.z_range (sa_cons (so_bin op_addU o_add (so_var 5 (pv 5)) so_int) sa_nil)) (blkOk_by (N := ["script", "sizes", "k", "row", "many", "last", "number", "lots", "j", "words", "first", "second", "third", "rules", "one", "two", "three", "least", "greater", "near", "tables", "i", "told", "other", "wide", "value", "said"]) (sc := defScope s_law) (by decide +kernel)) (fun _ _ _ _ _ => (pg_name (i := 6) sc_law.nd rfl (by first | exact Or.inl rfl | exact Or.inr rfl))) (fun _ _ _ _ _ => ts_nil) (fun _ _ _ _ _ => (so_not (so_ix ix_U o_ix (so_var 10 (pv 10)) (so_bin op_sub o_sub (so_var 5 (pv 5)) (so_var 6 (pv 6))) (fun _ _ => rfl)))))) sa_nil)))) (ss_cons (ss_app 20 (ps_expr (pe_bm PySem.F.plainAttrs_list PySem.F.slot_list_append PySem.F.type_list_append mt_append (pv 20) (sa_cons (so_fz (sc_lc (own := [("number", 6)]) rfl sc_law.nd (g_name 6) (by decide) (si_rng1 rfl T.z_range (sa_cons (so_bin op_addU o_add (so_var 5 (pv 5)) so_int) sa_nil)) (blkOk_by (N := ["script", "sizes", "k", "row", "many", "last", "number", "lots", "j", "words", "first", "second", "third", "rules", "one", "two", "three", "least", "greater", "near", "tables", "i", "told", "other", "wide", "value", "said"]) (sc := defScope s_law) (by decide +kernel)) (fun _ _ _ _ _ => (pg_name (i := 6) sc_law.nd rfl (by first | exact Or.inl rfl | exact Or.inr rfl))) (fun _ _ _ _ _ => ts_nil) (fun _ _ _ _ _ => (so_cmp op_ge o_ge (so_bin op_addU o_add (so_bin op_addU o_add (so_callTy call_int1 a_int rfl T.z_int bt_int (sa_cons (so_ix ix_U o_ix (so_var 10 (pv 10)) (so_var 6 (pv 6)) (fun _ _ => rfl)) sa_nil)) (so_callTy call_int1 a_int rfl T.z_int bt_int (sa_cons (so_ix ix_U o_ix (so_var 11 (pv 11)) (so_var 6 (pv 6)) (fun _ _ => rfl)) sa_nil))) (so_callTy call_int1 a_int rfl T.z_int bt_int (sa_cons (so_ix ix_U o_ix (so_var 12 (pv 12)) (so_var 6 (pv 6)) (fun _ _ => rfl)) sa_nil))) so_int (nomark _))))) sa_nil)))) (ss_cons (ss_app 20 (ps_expr (pe_bm PySem.F.plainAttrs_list PySem.F.slot_list_append PySem.F.type_list_append mt_append (pv 20) (sa_cons (so_fz (sc_lc (own := [("number", 6)]) rfl sc_law.nd (g_name 6) (by decide) (si_rng1 rfl T.z_range (sa_cons (so_bin op_addU o_add (so_var 5 (pv 5)) so_int) sa_nil)) (blkOk_by (N := ["script", "sizes", "k", "row", "many", "last", "number", "lots", "j", "words", "first", "second", "third", "rules", "one", "two", "three", "least", "greater", "near", "tables", "i", "told", "other", "wide", "value", "said"]) (sc := defScope s_law) (by decide +kernel)) (fun _ _ _ _ _ => (pg_name (i := 6) sc_law.nd rfl (by first | exact Or.inl rfl | exact Or.inr rfl))) (fun _ _ _ _ _ => ts_nil) (fun _ _ _ _ _ => (so_and (so_or (so_ix ix_U o_ix (so_var 10 (pv 10)) (so_var 6 (pv 6)) (fun _ _ => rfl)) (so_one (so_ix ix_U o_ix (so_var 11 (pv 11)) (so_var 6 (pv 6)) (fun _ _ => rfl)))) (so_one (so_not (so_ix ix_U o_ix (so_var 12 (pv 12)) (so_bin op_sub o_sub (so_var 5 (pv 5)) (so_var 6 (pv 6))) (fun _ _ => rfl)))))))) sa_nil)))) (ss_cons (ss_app 20 (ps_expr (pe_bm PySem.F.plainAttrs_list PySem.F.slot_list_append PySem.F.type_list_append mt_append (pv 20) (sa_cons (so_fz (sc_lc (own := [("number", 6)]) rfl sc_law.nd (g_name 6) (by decide) (si_rng1 rfl T.z_range (sa_cons (so_bin op_addU o_add (so_var 5 (pv 5)) so_int) sa_nil)) (blkOk_by (N := ["script", "sizes", "k", "row", "many", "last", "number", "lots", "j", "words", "first", "second", "third", "rules", "one", "two", "three", "least", "greater", "near", "tables", "i", "told", "other", "wide", "value", "said"]) (sc := defScope s_law) (by decide +kernel)) (fun _ _ _ _ _ => (pg_name (i := 6) sc_law.nd rfl (by first | exact Or.inl rfl | exact Or.inr rfl))) (fun _ _ _ _ _ => ts_nil) (fun _ _ _ _ _ => (so_not (so_and (so_ix ix_U o_ix (so_var 10 (pv 10)) (so_bin op_sub o_sub (so_var 5 (pv 5)) (so_var 6 (pv 6))) (fun _ _ => rfl)) (so_one (so_ix ix_U o_ix (so_var 11 (pv 11)) (so_bin op_sub o_sub (so_var 5 (pv 5)) (so_var 6 (pv 6))) (fun _ _ => rfl)))))))) sa_nil)))) (ss_cons (ss_frz 20 (ss_set 20 (ps_set (i := 20) sc_law.nd rfl (Or.inl rfl) (so_bin op_addU o_add (so_var 20 (pv 20)) (so_fz (sc_lst (sa_cons (so_var 10 (pv 10)) (sa_cons (so_var 10 (pv 10)) (sa_cons (so_var 19 (pv 19)) sa_nil))))))))) (ss_cons (ss_for pw rfl (si_rng1 rfl T.z_range (sa_cons (so_callB call_len a_len rfl T.z_len bt_len (sa_cons (so_var 13 (pv 13)) sa_nil)) sa_nil)) (g_name 8) (pg_name (i := 8) sc_law.nd rfl (Or.inl rfl)) (ss_one (ss_if (sb_not (sb_val (so_call (ok_law_as_told T) (hr.mono (by decide)) rfl T.m_law_as_told T.F_law_as_told.kp T.b_law_as_told tk (sa_cons (so_ix ix_U o_ix (so_var 13 (pv 13)) (so_var 8 (pv 8)) (fun _ _ => rfl)) (sa_cons (so_var 7 (pv 7)) (sa_cons (so_ix ix_U o_ix (so_var 20 (pv 20)) (so_var 8 (pv 8)) (fun _ _ => rfl)) sa_nil)))))) (ss_one (ss_ret so_bl)) ss_nil))) (ss_cons (ss_for pw rfl (si_rng1 rfl T.z_range (sa_cons (so_callB call_len a_len rfl T.z_len bt_len (sa_cons (so_var 13 (pv 13)) sa_nil)) sa_nil)) (g_name 8) (pg_name (i := 8) sc_law.nd rfl (Or.inl rfl)) (ss_one (ss_for pw rfl (si_rng1 rfl T.z_range (sa_cons (so_callB call_len a_len rfl T.z_len bt_len (sa_cons (so_var 13 (pv 13)) sa_nil)) sa_nil)) (g_name 21) (pg_name (i := 21) sc_law.nd rfl (Or.inl rfl)) (ss_cons (ss_set 22 (ps_set (i := 22) sc_law.nd rfl (Or.inl rfl) (so_cmp (op_eqX (C := cA _ "Rule") T.oo_Rule_eq (ok_Rule_eq T) (hr.mono (by decide)) T.b_Rule_eq) (o_eqX (c := 5)) (so_ix ix_U o_ix (so_var 13 (pv 13)) (so_var 8 (pv 8)) (fun _ _ => rfl)) (so_ix ix_U o_ix (so_var 13 (pv 13)) (so_var 21 (pv 21)) (fun _ _ => rfl)) (nomark _)))) (ss_one (ss_if (sw_b (sw_or (sw_b (sw_and (sb_cmp (op_eqD hr.units) o_eq (so_ix ix_U o_ix (so_var 20 (pv 20)) (so_var 8 (pv 8)) (fun _ _ => rfl)) (so_ix ix_U o_ix (so_var 20 (pv 20)) (so_var 21 (pv 21)) (fun _ _ => rfl)) (nomark _)) (sw_and1 (sb_cmp op_notBl o_notB (so_var 22 (pv 22)) so_bl (nomark _))))) (sw_or1 (sw_b (sw_and (sb_cmp (op_neD hr.units) o_ne (so_ix ix_U o_ix (so_var 20 (pv 20)) (so_var 8 (pv 8)) (fun _ _ => rfl)) (so_ix ix_U o_ix (so_var 20 (pv 20)) (so_var 21 (pv 21)) (fun _ _ => rfl)) (nomark _)) (sw_and1 (sb_cmp op_notBl o_notB (so_var 22 (pv 22)) so_bl (nomark _)))))))) (ss_one (ss_ret so_bl)) ss_nil)))))) (ss_cons (ss_set 6 (ps_set (i := 6) sc_law.nd rfl (Or.inl rfl) (so_bin op_addU o_add so_int (so_bin op_modN o_mod (so_callTy call_int1 a_int rfl T.z_int bt_int (sa_cons (so_bin op_addU o_add (so_var 4 (pv 4)) (so_callTy call_int1 a_int rfl T.z_int bt_int (sa_cons (so_ix ix_U o_ix (so_var 3 (pv 3)) so_int (fun _ _ => rfl)) sa_nil))) sa_nil)) so_int)))) (ss_cons (ss_set 23 (ps_set (i := 23) sc_law.nd rfl (Or.inl rfl) (so_smeth T.sm_Rule_majority (ok_Rule_majority T) (hr.mono (by decide)) rfl T.g_Rule T.b_Rule_majority tk (sa_cons (so_var 6 (pv 6)) sa_nil)))) (ss_cons (ss_if (sw_b (sw_or (sb_not (sb_val (so_call (ok_law_kept_apart T) (hr.mono (by decide)) rfl T.m_law_kept_apart T.F_law_kept_apart.kp T.b_law_kept_apart tk (sa_cons (so_var 14 (pv 14)) (sa_cons (so_var 23 (pv 23)) (sa_cons (so_var 4 (pv 4)) (sa_cons (so_var 6 (pv 6)) sa_nil))))))) (sw_or1 (sb_not (sb_val (so_call (ok_law_kept_apart T) (hr.mono (by decide)) rfl T.m_law_kept_apart T.F_law_kept_apart.kp T.b_law_kept_apart tk (sa_cons (so_var 23 (pv 23)) (sa_cons (so_var 14 (pv 14)) (sa_cons (so_var 6 (pv 6)) (sa_cons (so_var 4 (pv 4)) sa_nil)))))))))) (ss_one (ss_ret so_bl)) ss_nil) (ss_cons (ss_if (sb_cmp op_lt o_lt (so_var 4 (pv 4)) so_int (nomark _)) (ss_cons (ss_set 24 (ps_set (i := 24) sc_law.nd rfl (Or.inl rfl) (so_make (c := 5) T.mk_Rule (ok_Rule_init T) (hr.mono (by decide)) rfl T.g_Rule T.b_Rule_init tk (sa_cons (so_bin op_addU o_add (so_var 4 (pv 4)) so_int) (sa_cons (so_var 17 (pv 17)) sa_nil))))) (ss_one (ss_if (sw_b (sw_or (sb_not (sb_val (so_call (ok_law_kept_apart T) (hr.mono (by decide)) rfl T.m_law_kept_apart T.F_law_kept_apart.kp T.b_law_kept_apart tk (sa_cons (so_var 14 (pv 14)) (sa_cons (so_var 24 (pv 24)) (sa_cons (so_var 4 (pv 4)) (sa_cons (so_bin op_addU o_add (so_var 4 (pv 4)) so_int) sa_nil))))))) (sw_or1 (sb_not (sb_val (so_call (ok_law_kept_apart T) (hr.mono (by decide)) rfl T.m_law_kept_apart T.F_law_kept_apart.kp T.b_law_kept_apart tk (sa_cons (so_var 24 (pv 24)) (sa_cons (so_var 14 (pv 14)) (sa_cons (so_bin op_addU o_add (so_var 4 (pv 4)) so_int) (sa_cons (so_var 4 (pv 4)) sa_nil)))))))))) (ss_one (ss_ret so_bl)) ss_nil))) ss_nil) (ss_cons (ss_for pw rfl (si_seq (so_fz (sc_lst (sa_cons so_non (sa_cons (so_var 4 (pv 4)) (sa_cons so_int (sa_cons so_int (sa_cons so_bl (sa_cons so_str (sa_cons (so_tup sa_nil) (sa_cons (so_var 17 (pv 17)) (sa_cons (so_tup (sa_cons (so_var 4 (pv 4)) (sa_cons (so_var 17 (pv 17)) sa_nil))) sa_nil)))))))))))) (g_name 25) (pg_name (i := 25) sc_law.nd rfl (Or.inl rfl)) (ss_one (ss_if (sb_cmp op_notBl o_notB (so_cmp (op_eqX (C := cA _ "Rule") T.oo_Rule_eq (ok_Rule_eq T) (hr.mono (by decide)) T.b_Rule_eq) (o_eqX (c := 5)) (so_var 14 (pv 14)) (so_var 25 (pv 25)) (nomark _)) so_bl (nomark _)) (ss_one (ss_ret so_bl)) ss_nil))) (ss_one (ss_for pw rfl (si_rng1 rfl T.z_range (sa_cons so_int sa_nil)) (g_name 8) (pg_name (i := 8) sc_law.nd rfl (Or.inl rfl)) (ss_one (ss_if (sb_not (sb_val (so_call (ok_law_as_told T) (hr.mono (by decide)) rfl T.m_law_as_told T.F_law_as_told.kp T.b_law_as_told tk (sa_cons (so_ix ix_U o_ix (so_var 13 (pv 13)) (so_var 8 (pv 8)) (fun _ _ => rfl)) (sa_cons (so_var 7 (pv 7)) (sa_cons (so_ix ix_U o_ix (so_var 20 (pv 20)) (so_var 8 (pv 8)) (fun _ _ => rfl)) sa_nil)))))) (ss_one (ss_ret so_bl)) ss_nil))))))))))))))))))))))))))))))))))))) (ss_one (ss_ret so_bl))))
end
/-! ### what the top has written -/
theorem all_mk {l : PySem.W.OpenLaw} {w : World} {K : PySem.W.Frag} {h : Heap} {mg : Str → Option Value} {fa : Addr} (X : K.In h) (G : h.Ns mainGlobals mg) (hfa : mg "law" = some (.ref fa))
    {C_CalmError : Addr} (aC_CalmError : PySem.W.nsIn K mainGlobals "CalmError" = some (some (.ref C_CalmError)))
    {C_NoLots : Addr} (aC_NoLots : PySem.W.nsIn K mainGlobals "NoLots" = some (some (.ref C_NoLots)))
    {C_BadLot : Addr} (aC_BadLot : PySem.W.nsIn K mainGlobals "BadLot" = some (some (.ref C_BadLot)))
    {C_BadQuota : Addr} (aC_BadQuota : PySem.W.nsIn K mainGlobals "BadQuota" = some (some (.ref C_BadQuota)))
    {C_ManyDiffer : Addr} (aC_ManyDiffer : PySem.W.nsIn K mainGlobals "ManyDiffer" = some (some (.ref C_ManyDiffer)))
    {C_Rule : Addr} (aC_Rule : PySem.W.nsIn K mainGlobals "Rule" = some (some (.ref C_Rule)))
    {r0_BadLot : Addr}
    {nm_BadLot qq_BadLot : Str} {N_BadLot : Addr} {bs_BadLot : List Value} {sn_BadLot : List Str} {sub_BadLot : List Value} {ab_BadLot : Bool} {col_BadLot : Option Bool} {dd_BadLot : Option Addr} {m0_BadLot m1_BadLot m2_BadLot m3_BadLot m5_BadLot : Option Value}
    (xL_BadLot : K.lookup C_BadLot = some (excClassObj nm_BadLot qq_BadLot C_BadLot N_BadLot bs_BadLot [.ref r0_BadLot, .type "ValueError", .type "Exception", .type "BaseException", .type "object"] true sn_BadLot sub_BadLot ab_BadLot col_BadLot dd_BadLot m0_BadLot m1_BadLot m2_BadLot m3_BadLot m5_BadLot "ValueError.__new__"))
    {r0_BadQuota : Addr}
    {nm_BadQuota qq_BadQuota : Str} {N_BadQuota : Addr} {bs_BadQuota : List Value} {sn_BadQuota : List Str} {sub_BadQuota : List Value} {ab_BadQuota : Bool} {col_BadQuota : Option Bool} {dd_BadQuota : Option Addr} {m0_BadQuota m1_BadQuota m2_BadQuota m3_BadQuota m5_BadQuota : Option Value}
    (xL_BadQuota : K.lookup C_BadQuota = some (excClassObj nm_BadQuota qq_BadQuota C_BadQuota N_BadQuota bs_BadQuota [.ref r0_BadQuota, .type "ValueError", .type "Exception", .type "BaseException", .type "object"] true sn_BadQuota sub_BadQuota ab_BadQuota col_BadQuota dd_BadQuota m0_BadQuota m1_BadQuota m2_BadQuota m3_BadQuota m5_BadQuota "ValueError.__new__"))
    {r0_ManyDiffer : Addr}
    {nm_ManyDiffer qq_ManyDiffer : Str} {N_ManyDiffer : Addr} {bs_ManyDiffer : List Value} {sn_ManyDiffer : List Str} {sub_ManyDiffer : List Value} {ab_ManyDiffer : Bool} {col_ManyDiffer : Option Bool} {dd_ManyDiffer : Option Addr} {m0_ManyDiffer m1_ManyDiffer m2_ManyDiffer m3_ManyDiffer m5_ManyDiffer : Option Value}
    (xL_ManyDiffer : K.lookup C_ManyDiffer = some (excClassObj nm_ManyDiffer qq_ManyDiffer C_ManyDiffer N_ManyDiffer bs_ManyDiffer [.ref r0_ManyDiffer, .type "ValueError", .type "Exception", .type "BaseException", .type "object"] true sn_ManyDiffer sub_ManyDiffer ab_ManyDiffer col_ManyDiffer dd_ManyDiffer m0_ManyDiffer m1_ManyDiffer m2_ManyDiffer m3_ManyDiffer m5_ManyDiffer "ValueError.__new__"))
    (s_CalmError : PySem.W.subIn K (.ref C_CalmError) (.type "BaseException") = some true)
    (t_CalmError : PySem.W.typeIn K (.ref C_CalmError) = some (.type "type"))
    (d_CalmError : PySem.W.hasDictIn K C_CalmError = true)
    (q_NoLots : PySem.W.excIn K C_NoLots [.type "ValueError", .type "Exception", .type "BaseException", .type "object"] "ValueError.__new__" = true)
    (kp_NoLots : PySem.W.keepIn K (.ref C_NoLots) = true)
    (s_NoLots : PySem.W.subIn K (.ref C_NoLots) (.type "BaseException") = some true)
    (t_NoLots : PySem.W.typeIn K (.ref C_NoLots) = some (.type "type"))
    (d_NoLots : PySem.W.hasDictIn K C_NoLots = true)
    (h1_NoLots : PySem.W.findIn K (.ref C_NoLots) "__getattribute__" = some (some (.builtin "BaseException.__getattribute__")))
    (h2_NoLots : PySem.W.findIn K (.ref C_NoLots) "__getattr__" = some none)
    (h3_NoLots : PySem.W.findIn K (.ref C_NoLots) "__class__" = some (some (.builtin "object.__class__")))
    (h4_NoLots : PySem.W.mroIn K C_NoLots (.type "object") = some true)
    (sa_BadLot : PySem.W.findIn K (.ref C_BadLot) "__setattr__" = some (some (.builtin "object.__setattr__")))
    (kp_BadLot : PySem.W.keepIn K (.ref C_BadLot) = true)
    (s_BadLot : PySem.W.subIn K (.ref C_BadLot) (.type "BaseException") = some true)
    (t_BadLot : PySem.W.typeIn K (.ref C_BadLot) = some (.type "type"))
    (d_BadLot : PySem.W.hasDictIn K C_BadLot = true)
    (h1_BadLot : PySem.W.findIn K (.ref C_BadLot) "__getattribute__" = some (some (.builtin "BaseException.__getattribute__")))
    (h2_BadLot : PySem.W.findIn K (.ref C_BadLot) "__getattr__" = some none)
    (h3_BadLot : PySem.W.findIn K (.ref C_BadLot) "__class__" = some (some (.builtin "object.__class__")))
    (h4_BadLot : PySem.W.mroIn K C_BadLot (.type "object") = some true)
    (sa_BadQuota : PySem.W.findIn K (.ref C_BadQuota) "__setattr__" = some (some (.builtin "object.__setattr__")))
    (kp_BadQuota : PySem.W.keepIn K (.ref C_BadQuota) = true)
    (s_BadQuota : PySem.W.subIn K (.ref C_BadQuota) (.type "BaseException") = some true)
    (t_BadQuota : PySem.W.typeIn K (.ref C_BadQuota) = some (.type "type"))
    (d_BadQuota : PySem.W.hasDictIn K C_BadQuota = true)
    (h1_BadQuota : PySem.W.findIn K (.ref C_BadQuota) "__getattribute__" = some (some (.builtin "BaseException.__getattribute__")))
    (h2_BadQuota : PySem.W.findIn K (.ref C_BadQuota) "__getattr__" = some none)
    (h3_BadQuota : PySem.W.findIn K (.ref C_BadQuota) "__class__" = some (some (.builtin "object.__class__")))
    (h4_BadQuota : PySem.W.mroIn K C_BadQuota (.type "object") = some true)
    (sa_ManyDiffer : PySem.W.findIn K (.ref C_ManyDiffer) "__setattr__" = some (some (.builtin "object.__setattr__")))
    (kp_ManyDiffer : PySem.W.keepIn K (.ref C_ManyDiffer) = true)
    (s_ManyDiffer : PySem.W.subIn K (.ref C_ManyDiffer) (.type "BaseException") = some true)
    (t_ManyDiffer : PySem.W.typeIn K (.ref C_ManyDiffer) = some (.type "type"))
    (d_ManyDiffer : PySem.W.hasDictIn K C_ManyDiffer = true)
    (h1_ManyDiffer : PySem.W.findIn K (.ref C_ManyDiffer) "__getattribute__" = some (some (.builtin "BaseException.__getattribute__")))
    (h2_ManyDiffer : PySem.W.findIn K (.ref C_ManyDiffer) "__getattr__" = some none)
    (h3_ManyDiffer : PySem.W.findIn K (.ref C_ManyDiffer) "__class__" = some (some (.builtin "object.__class__")))
    (h4_ManyDiffer : PySem.W.mroIn K C_ManyDiffer (.type "object") = some true)
    (pg_Rule : PySem.W.plainGet K C_Rule Str.empty = true)
    (po_Rule : PySem.W.plainOver K C_Rule = true)
    (sa_Rule : PySem.W.findIn K (.ref C_Rule) "__setattr__" = some (some (.builtin "object.__setattr__")))
    (mm_Rule : PySem.W.makesIn K C_Rule = true)
    (kp_Rule : PySem.W.keepIn K (.ref C_Rule) = true)
    (d_Rule : PySem.W.hasDictIn K C_Rule = true)
    (sf_Rule : PySem.W.selfFirst K C_Rule = true)
    (h3_Rule : PySem.W.findIn K (.ref C_Rule) "__class__" = some (some (.builtin "object.__class__")))
    (h4_Rule : PySem.W.mroIn K C_Rule (.type "object") = some true)
    (hn_ : PySem.W.specialIn K (.builtin "object.__class__") "__get__" = some (some (.builtin "getset_descriptor.__get__")))
    (ht_ : PySem.W.takesIn K (.builtin "object.__class__") = some true)
    (nf_BadLot_lot : PySem.W.findIn K (.ref C_BadLot) "lot" = some none)
    (nf_BadQuota_quota : PySem.W.findIn K (.ref C_BadQuota) "quota" = some none)
    (nf_ManyDiffer_one : PySem.W.findIn K (.ref C_ManyDiffer) "one" = some none)
    (nf_ManyDiffer_two : PySem.W.findIn K (.ref C_ManyDiffer) "two" = some none)
    (kit_Rule_Rule : PySem.W.kitOne K (.ref C_Rule) (.ref C_Rule) = some true)
    (kib_Rule_ : PySem.W.kitOne K (.type "int") (.ref C_Rule) = some false)
    (nf_Rule_many : PySem.W.findIn K (.ref C_Rule) "many" = some none)
    (nf_Rule_least : PySem.W.findIn K (.ref C_Rule) "least" = some none)
    (nf_Rule_book : PySem.W.findIn K (.ref C_Rule) "book" = some none)
    (u_NoLots_CalmError : PySem.W.subIn K (.ref C_NoLots) (.ref C_CalmError) = some true)
    (u_BadLot_CalmError : PySem.W.subIn K (.ref C_BadLot) (.ref C_CalmError) = some true)
    (u_BadQuota_CalmError : PySem.W.subIn K (.ref C_BadQuota) (.ref C_CalmError) = some true)
    (u_ManyDiffer_CalmError : PySem.W.subIn K (.ref C_ManyDiffer) (.ref C_CalmError) = some true)
    (kit_NoLots_ManyDiffer : PySem.W.kitOne K (.ref C_NoLots) (.ref C_ManyDiffer) = some false)
    (kit_BadLot_ManyDiffer : PySem.W.kitOne K (.ref C_BadLot) (.ref C_ManyDiffer) = some false)
    (kit_BadQuota_ManyDiffer : PySem.W.kitOne K (.ref C_BadQuota) (.ref C_ManyDiffer) = some false)
    (kit_ManyDiffer_ManyDiffer : PySem.W.kitOne K (.ref C_ManyDiffer) (.ref C_ManyDiffer) = some true)
    (kit_NoLots_ValueError : PySem.W.kitOne K (.ref C_NoLots) (.type "ValueError") = some true)
    (kit_BadLot_ValueError : PySem.W.kitOne K (.ref C_BadLot) (.type "ValueError") = some true)
    (kit_BadQuota_ValueError : PySem.W.kitOne K (.ref C_BadQuota) (.type "ValueError") = some true)
    (kit_ManyDiffer_ValueError : PySem.W.kitOne K (.ref C_ManyDiffer) (.type "ValueError") = some true)
    (nf_NoLots_two : PySem.W.findIn K (.ref C_NoLots) "two" = some none)
    (nf_BadLot_two : PySem.W.findIn K (.ref C_BadLot) "two" = some none)
    (nf_BadQuota_two : PySem.W.findIn K (.ref C_BadQuota) "two" = some none)
    (nf_NoLots_one : PySem.W.findIn K (.ref C_NoLots) "one" = some none)
    (nf_BadLot_one : PySem.W.findIn K (.ref C_BadLot) "one" = some none)
    (nf_BadQuota_one : PySem.W.findIn K (.ref C_BadQuota) "one" = some none)
    {f0 : Addr} {od0 an0 : Option Addr} {sl0 : Array (Option Value)} {oc0 kV0 dc0 pm0 cd0 ct0 : Value}
    (a0 : PySem.W.nsIn K mainGlobals "lot_number" = some (some (.ref f0)))
    (l0 : K.lookup f0 = some ⟨oc0, od0, .func (PySem.W.fnOf "lot_number" "lot_number" (defArgs s_lot_number) (defBody s_lot_number) (defScope s_lot_number) .none kV0 dc0 pm0 an0 cd0 ct0), sl0⟩) (c0 : PySem.W.codeIn K cd0 "lot_number" = true) (k0 : PySem.W.keepIn K (.ref f0) = true)
    {f1 : Addr} {od1 an1 : Option Addr} {sl1 : Array (Option Value)} {oc1 kV1 dc1 pm1 cd1 ct1 : Value}
    (a1 : PySem.W.nsIn K mainGlobals "lot_of" = some (some (.ref f1)))
    (l1 : K.lookup f1 = some ⟨oc1, od1, .func (PySem.W.fnOf "lot_of" "lot_of" (defArgs s_lot_of) (defBody s_lot_of) (defScope s_lot_of) .none kV1 dc1 pm1 an1 cd1 ct1), sl1⟩) (c1 : PySem.W.codeIn K cd1 "lot_of" = true) (k1 : PySem.W.keepIn K (.ref f1) = true)
    {f2 : Addr} {od2 an2 : Option Addr} {sl2 : Array (Option Value)} {oc2 kV2 dc2 pm2 cd2 ct2 : Value}
    (a2 : PySem.W.nsIn K mainGlobals "lot_order" = some (some (.ref f2)))
    (l2 : K.lookup f2 = some ⟨oc2, od2, .func (PySem.W.fnOf "lot_order" "lot_order" (defArgs s_lot_order) (defBody s_lot_order) (defScope s_lot_order) .none kV2 dc2 pm2 an2 cd2 ct2), sl2⟩) (c2 : PySem.W.codeIn K cd2 "lot_order" = true) (k2 : PySem.W.keepIn K (.ref f2) = true)
    {f3 : Addr} {od3 an3 : Option Addr} {sl3 : Array (Option Value)} {oc3 kV3 dc3 pm3 cd3 ct3 : Value}
    (a3 : PySem.W.nsIn K mainGlobals "is_lot" = some (some (.ref f3)))
    (l3 : K.lookup f3 = some ⟨oc3, od3, .func (PySem.W.fnOf "is_lot" "is_lot" (defArgs s_is_lot) (defBody s_is_lot) (defScope s_is_lot) .none kV3 dc3 pm3 an3 cd3 ct3), sl3⟩) (c3 : PySem.W.codeIn K cd3 "is_lot" = true) (k3 : PySem.W.keepIn K (.ref f3) = true)
    {f4 : Addr} {od4 an4 : Option Addr} {sl4 : Array (Option Value)} {oc4 kV4 dc4 pm4 cd4 ct4 : Value}
    (a4 : PySem.W.nsIn K mainGlobals "smaller_wins" = some (some (.ref f4)))
    (l4 : K.lookup f4 = some ⟨oc4, od4, .func (PySem.W.fnOf "smaller_wins" "smaller_wins" (defArgs s_smaller_wins) (defBody s_smaller_wins) (defScope s_smaller_wins) .none kV4 dc4 pm4 an4 cd4 ct4), sl4⟩) (c4 : PySem.W.codeIn K cd4 "smaller_wins" = true) (k4 : PySem.W.keepIn K (.ref f4) = true)
    {f5 : Addr} {od5 an5 : Option Addr} {sl5 : Array (Option Value)} {oc5 kV5 dc5 pm5 cd5 ct5 : Value}
    (a5 : PySem.W.nsIn K mainGlobals "sums_of" = some (some (.ref f5)))
    (l5 : K.lookup f5 = some ⟨oc5, od5, .func (PySem.W.fnOf "sums_of" "sums_of" (defArgs s_sums_of) (defBody s_sums_of) (defScope s_sums_of) .none kV5 dc5 pm5 an5 cd5 ct5), sl5⟩) (c5 : PySem.W.codeIn K cd5 "sums_of" = true) (k5 : PySem.W.keepIn K (.ref f5) = true)
    {f6 : Addr} {od6 an6 : Option Addr} {sl6 : Array (Option Value)} {oc6 kV6 dc6 pm6 cd6 ct6 : Value}
    (a6 : PySem.W.nsIn K mainGlobals "_law_whole" = some (some (.ref f6)))
    (l6 : K.lookup f6 = some ⟨oc6, od6, .func (PySem.W.fnOf "_law_whole" "_law_whole" (defArgs s_law_whole) (defBody s_law_whole) (defScope s_law_whole) .none kV6 dc6 pm6 an6 cd6 ct6), sl6⟩) (c6 : PySem.W.codeIn K cd6 "_law_whole" = true) (k6 : PySem.W.keepIn K (.ref f6) = true)
    {f7 : Addr} {od7 an7 : Option Addr} {sl7 : Array (Option Value)} {oc7 kV7 dc7 pm7 cd7 ct7 : Value}
    (a7 : PySem.W.nsIn K mainGlobals "_law_cell" = some (some (.ref f7)))
    (l7 : K.lookup f7 = some ⟨oc7, od7, .func (PySem.W.fnOf "_law_cell" "_law_cell" (defArgs s_law_cell) (defBody s_law_cell) (defScope s_law_cell) .none kV7 dc7 pm7 an7 cd7 ct7), sl7⟩) (c7 : PySem.W.codeIn K cd7 "_law_cell" = true) (k7 : PySem.W.keepIn K (.ref f7) = true)
    {f8 : Addr} {od8 an8 : Option Addr} {sl8 : Array (Option Value)} {oc8 kV8 dc8 pm8 cd8 ct8 : Value}
    (a8 : PySem.W.nsIn K mainGlobals "_law_digits" = some (some (.ref f8)))
    (l8 : K.lookup f8 = some ⟨oc8, od8, .func (PySem.W.fnOf "_law_digits" "_law_digits" (defArgs s_law_digits) (defBody s_law_digits) (defScope s_law_digits) .none kV8 dc8 pm8 an8 cd8 ct8), sl8⟩) (c8 : PySem.W.codeIn K cd8 "_law_digits" = true) (k8 : PySem.W.keepIn K (.ref f8) = true)
    {f9 : Addr} {od9 an9 : Option Addr} {sl9 : Array (Option Value)} {oc9 kV9 dc9 pm9 cd9 ct9 : Value}
    (a9 : PySem.W.nsIn K mainGlobals "_law_number" = some (some (.ref f9)))
    (l9 : K.lookup f9 = some ⟨oc9, od9, .func (PySem.W.fnOf "_law_number" "_law_number" (defArgs s_law_number) (defBody s_law_number) (defScope s_law_number) .none kV9 dc9 pm9 an9 cd9 ct9), sl9⟩) (c9 : PySem.W.codeIn K cd9 "_law_number" = true) (k9 : PySem.W.keepIn K (.ref f9) = true)
    {f10 : Addr} {od10 an10 : Option Addr} {sl10 : Array (Option Value)} {oc10 kV10 dc10 pm10 cd10 ct10 : Value}
    (a10 : PySem.W.nsIn K mainGlobals "_law_voters" = some (some (.ref f10)))
    (l10 : K.lookup f10 = some ⟨oc10, od10, .func (PySem.W.fnOf "_law_voters" "_law_voters" (defArgs s_law_voters) (defBody s_law_voters) (defScope s_law_voters) .none kV10 dc10 pm10 an10 cd10 ct10), sl10⟩) (c10 : PySem.W.codeIn K cd10 "_law_voters" = true) (k10 : PySem.W.keepIn K (.ref f10) = true)
    {f11 : Addr} {od11 an11 : Option Addr} {sl11 : Array (Option Value)} {oc11 kV11 dc11 pm11 cd11 ct11 : Value}
    (a11 : PySem.W.nsIn K mainGlobals "_law_order" = some (some (.ref f11)))
    (l11 : K.lookup f11 = some ⟨oc11, od11, .func (PySem.W.fnOf "_law_order" "_law_order" (defArgs s_law_order) (defBody s_law_order) (defScope s_law_order) .none kV11 dc11 pm11 an11 cd11 ct11), sl11⟩) (c11 : PySem.W.codeIn K cd11 "_law_order" = true) (k11 : PySem.W.keepIn K (.ref f11) = true)
    {f12 : Addr} {od12 an12 : Option Addr} {sl12 : Array (Option Value)} {oc12 kV12 dc12 pm12 cd12 ct12 : Value}
    (a12 : PySem.W.nsIn K mainGlobals "_law_near" = some (some (.ref f12)))
    (l12 : K.lookup f12 = some ⟨oc12, od12, .func (PySem.W.fnOf "_law_near" "_law_near" (defArgs s_law_near) (defBody s_law_near) (defScope s_law_near) .none kV12 dc12 pm12 an12 cd12 ct12), sl12⟩) (c12 : PySem.W.codeIn K cd12 "_law_near" = true) (k12 : PySem.W.keepIn K (.ref f12) = true)
    {f13 : Addr} {od13 an13 : Option Addr} {sl13 : Array (Option Value)} {oc13 kV13 dc13 pm13 cd13 ct13 : Value}
    (a13 : PySem.W.findIn K (.ref C_BadLot) "__init__" = some (some (.ref f13))) (i13 : PySem.W.isFn K (.ref f13) = true)
    (ti13 : PySem.W.typeIn K (.ref f13) = some (.type "function"))
    (l13 : K.lookup f13 = some ⟨oc13, od13, .func (PySem.W.fnOf "__init__" "BadLot.__init__" (defArgs s_BadLot_init) (defBody s_BadLot_init) (defScope s_BadLot_init) .none kV13 dc13 pm13 an13 cd13 ct13), sl13⟩) (c13 : PySem.W.codeIn K cd13 "BadLot.__init__" = true) (k13 : PySem.W.keepIn K (.ref f13) = true)
    {f14 : Addr} {od14 an14 : Option Addr} {sl14 : Array (Option Value)} {oc14 kV14 dc14 pm14 cd14 ct14 : Value}
    (a14 : PySem.W.findIn K (.ref C_BadQuota) "__init__" = some (some (.ref f14))) (i14 : PySem.W.isFn K (.ref f14) = true)
    (ti14 : PySem.W.typeIn K (.ref f14) = some (.type "function"))
    (l14 : K.lookup f14 = some ⟨oc14, od14, .func (PySem.W.fnOf "__init__" "BadQuota.__init__" (defArgs s_BadQuota_init) (defBody s_BadQuota_init) (defScope s_BadQuota_init) .none kV14 dc14 pm14 an14 cd14 ct14), sl14⟩) (c14 : PySem.W.codeIn K cd14 "BadQuota.__init__" = true) (k14 : PySem.W.keepIn K (.ref f14) = true)
    {f15 : Addr} {od15 an15 : Option Addr} {sl15 : Array (Option Value)} {oc15 kV15 dc15 pm15 cd15 ct15 : Value}
    (a15 : PySem.W.findIn K (.ref C_ManyDiffer) "__init__" = some (some (.ref f15))) (i15 : PySem.W.isFn K (.ref f15) = true)
    (ti15 : PySem.W.typeIn K (.ref f15) = some (.type "function"))
    (l15 : K.lookup f15 = some ⟨oc15, od15, .func (PySem.W.fnOf "__init__" "ManyDiffer.__init__" (defArgs s_ManyDiffer_init) (defBody s_ManyDiffer_init) (defScope s_ManyDiffer_init) .none kV15 dc15 pm15 an15 cd15 ct15), sl15⟩) (c15 : PySem.W.codeIn K cd15 "ManyDiffer.__init__" = true) (k15 : PySem.W.keepIn K (.ref f15) = true)
    {f16 : Addr} {od16 an16 : Option Addr} {sl16 : Array (Option Value)} {oc16 kV16 dc16 pm16 cd16 ct16 : Value}
    (a16 : PySem.W.findIn K (.ref C_Rule) "__eq__" = some (some (.ref f16))) (i16 : PySem.W.isFn K (.ref f16) = true)
    (l16 : K.lookup f16 = some ⟨oc16, od16, .func (PySem.W.fnOf "__eq__" "Rule.__eq__" (defArgs s_Rule_eq) (defBody s_Rule_eq) (defScope s_Rule_eq) .none kV16 dc16 pm16 an16 cd16 ct16), sl16⟩) (c16 : PySem.W.codeIn K cd16 "Rule.__eq__" = true) (k16 : PySem.W.keepIn K (.ref f16) = true)
    {f17 : Addr} {od17 an17 : Option Addr} {sl17 : Array (Option Value)} {oc17 kV17 dc17 pm17 cd17 ct17 : Value}
    (a17 : PySem.W.nsIn K mainGlobals "winning_book" = some (some (.ref f17)))
    (l17 : K.lookup f17 = some ⟨oc17, od17, .func (PySem.W.fnOf "winning_book" "winning_book" (defArgs s_winning_book) (defBody s_winning_book) (defScope s_winning_book) .none kV17 dc17 pm17 an17 cd17 ct17), sl17⟩) (c17 : PySem.W.codeIn K cd17 "winning_book" = true) (k17 : PySem.W.keepIn K (.ref f17) = true)
    {f18 : Addr} {od18 an18 : Option Addr} {sl18 : Array (Option Value)} {oc18 kV18 dc18 pm18 cd18 ct18 : Value}
    (a18 : PySem.W.nsIn K mainGlobals "least_lots" = some (some (.ref f18)))
    (l18 : K.lookup f18 = some ⟨oc18, od18, .func (PySem.W.fnOf "least_lots" "least_lots" (defArgs s_least_lots) (defBody s_least_lots) (defScope s_least_lots) .none kV18 dc18 pm18 an18 cd18 ct18), sl18⟩) (c18 : PySem.W.codeIn K cd18 "least_lots" = true) (k18 : PySem.W.keepIn K (.ref f18) = true)
    {f19 : Addr} {od19 an19 : Option Addr} {sl19 : Array (Option Value)} {oc19 kV19 dc19 pm19 cd19 ct19 : Value}
    (a19 : PySem.W.nsIn K mainGlobals "_law_words" = some (some (.ref f19)))
    (l19 : K.lookup f19 = some ⟨oc19, od19, .func (PySem.W.fnOf "_law_words" "_law_words" (defArgs s_law_words) (defBody s_law_words) (defScope s_law_words) .none kV19 dc19 pm19 an19 cd19 ct19), sl19⟩) (c19 : PySem.W.codeIn K cd19 "_law_words" = true) (k19 : PySem.W.keepIn K (.ref f19) = true)
    {f20 : Addr} {od20 an20 : Option Addr} {sl20 : Array (Option Value)} {oc20 kV20 dc20 pm20 cd20 ct20 : Value}
    (a20 : PySem.W.nsIn K mainGlobals "_law_least" = some (some (.ref f20)))
    (l20 : K.lookup f20 = some ⟨oc20, od20, .func (PySem.W.fnOf "_law_least" "_law_least" (defArgs s_law_least) (defBody s_law_least) (defScope s_law_least) .none kV20 dc20 pm20 an20 cd20 ct20), sl20⟩) (c20 : PySem.W.codeIn K cd20 "_law_least" = true) (k20 : PySem.W.keepIn K (.ref f20) = true)
    {f21 : Addr} {od21 an21 : Option Addr} {sl21 : Array (Option Value)} {oc21 kV21 dc21 pm21 cd21 ct21 : Value}
    (a21 : PySem.W.nsIn K mainGlobals "_law_sized" = some (some (.ref f21)))
    (l21 : K.lookup f21 = some ⟨oc21, od21, .func (PySem.W.fnOf "_law_sized" "_law_sized" (defArgs s_law_sized) (defBody s_law_sized) (defScope s_law_sized) .none kV21 dc21 pm21 an21 cd21 ct21), sl21⟩) (c21 : PySem.W.codeIn K cd21 "_law_sized" = true) (k21 : PySem.W.keepIn K (.ref f21) = true)
    {f22 : Addr} {od22 an22 : Option Addr} {sl22 : Array (Option Value)} {oc22 kV22 dc22 pm22 cd22 ct22 : Value}
    (a22 : PySem.W.nsIn K mainGlobals "_law_are_lots" = some (some (.ref f22)))
    (l22 : K.lookup f22 = some ⟨oc22, od22, .func (PySem.W.fnOf "_law_are_lots" "_law_are_lots" (defArgs s_law_are_lots) (defBody s_law_are_lots) (defScope s_law_are_lots) .none kV22 dc22 pm22 an22 cd22 ct22), sl22⟩) (c22 : PySem.W.codeIn K cd22 "_law_are_lots" = true) (k22 : PySem.W.keepIn K (.ref f22) = true)
    {f23 : Addr} {od23 an23 : Option Addr} {sl23 : Array (Option Value)} {oc23 kV23 dc23 pm23 cd23 ct23 : Value}
    (a23 : PySem.W.findIn K (.ref C_Rule) "__contains__" = some (some (.ref f23))) (i23 : PySem.W.isFn K (.ref f23) = true)
    (l23 : K.lookup f23 = some ⟨oc23, od23, .func (PySem.W.fnOf "__contains__" "Rule.__contains__" (defArgs s_Rule_contains) (defBody s_Rule_contains) (defScope s_Rule_contains) .none kV23 dc23 pm23 an23 cd23 ct23), sl23⟩) (c23 : PySem.W.codeIn K cd23 "Rule.__contains__" = true) (k23 : PySem.W.keepIn K (.ref f23) = true)
    {f24 : Addr} {od24 an24 : Option Addr} {sl24 : Array (Option Value)} {oc24 kV24 dc24 pm24 cd24 ct24 : Value}
    (a24 : PySem.W.nsIn K mainGlobals "_law_drawn" = some (some (.ref f24)))
    (l24 : K.lookup f24 = some ⟨oc24, od24, .func (PySem.W.fnOf "_law_drawn" "_law_drawn" (defArgs s_law_drawn) (defBody s_law_drawn) (defScope s_law_drawn) .none kV24 dc24 pm24 an24 cd24 ct24), sl24⟩) (c24 : PySem.W.codeIn K cd24 "_law_drawn" = true) (k24 : PySem.W.keepIn K (.ref f24) = true)
    {f25 : Addr} {od25 an25 : Option Addr} {sl25 : Array (Option Value)} {oc25 kV25 dc25 pm25 cd25 ct25 : Value}
    (a25 : PySem.W.nsIn K mainGlobals "_law_as_told" = some (some (.ref f25)))
    (l25 : K.lookup f25 = some ⟨oc25, od25, .func (PySem.W.fnOf "_law_as_told" "_law_as_told" (defArgs s_law_as_told) (defBody s_law_as_told) (defScope s_law_as_told) .none kV25 dc25 pm25 an25 cd25 ct25), sl25⟩) (c25 : PySem.W.codeIn K cd25 "_law_as_told" = true) (k25 : PySem.W.keepIn K (.ref f25) = true)
    {f26 : Addr} {od26 an26 : Option Addr} {sl26 : Array (Option Value)} {oc26 kV26 dc26 pm26 cd26 ct26 : Value}
    (a26 : PySem.W.findIn K (.ref C_Rule) "__init__" = some (some (.ref f26))) (i26 : PySem.W.isFn K (.ref f26) = true)
    (l26 : K.lookup f26 = some ⟨oc26, od26, .func (PySem.W.fnOf "__init__" "Rule.__init__" (defArgs s_Rule_init) (defBody s_Rule_init) (defScope s_Rule_init) .none kV26 dc26 pm26 an26 cd26 ct26), sl26⟩) (c26 : PySem.W.codeIn K cd26 "Rule.__init__" = true) (k26 : PySem.W.keepIn K (.ref f26) = true)
    {f27 : Addr} {od27 an27 : Option Addr} {sl27 : Array (Option Value)} {oc27 kV27 dc27 pm27 cd27 ct27 : Value}
    (a27 : PySem.W.nsIn K mainGlobals "_law_any" = some (some (.ref f27)))
    (l27 : K.lookup f27 = some ⟨oc27, od27, .func (PySem.W.fnOf "_law_any" "_law_any" (defArgs s_law_any) (defBody s_law_any) (defScope s_law_any) .none kV27 dc27 pm27 an27 cd27 ct27), sl27⟩) (c27 : PySem.W.codeIn K cd27 "_law_any" = true) (k27 : PySem.W.keepIn K (.ref f27) = true)
    {f28 : Addr} {od28 an28 : Option Addr} {sl28 : Array (Option Value)} {oc28 kV28 dc28 pm28 cd28 ct28 : Value}
    {sp28 : Addr} {sr28 : List Value} (sg28 : PySem.W.specialIn K (.ref C_Rule) "__getattribute__" = some (some (.builtin "type.__getattribute__"))) (sd28 : PySem.W.readsIn K C_Rule (.type "type") = true) (st28 : PySem.W.findCls K (.ref C_Rule) (.type "type") "weighted" = some (.get (.builtin "staticmethod.__get__") (.ref sp28) .none (.ref C_Rule))) (sq28 : PySem.W.recIn K sp28 "staticmethod" = some (.ref f28 :: sr28))
    (l28 : K.lookup f28 = some ⟨oc28, od28, .func (PySem.W.fnOf "weighted" "Rule.weighted" (defArgs s_Rule_weighted) (defBody s_Rule_weighted) (defScope s_Rule_weighted) .none kV28 dc28 pm28 an28 cd28 ct28), sl28⟩) (c28 : PySem.W.codeIn K cd28 "Rule.weighted" = true) (k28 : PySem.W.keepIn K (.ref f28) = true)
    {f29 : Addr} {od29 an29 : Option Addr} {sl29 : Array (Option Value)} {oc29 kV29 dc29 pm29 cd29 ct29 : Value}
    (a29 : PySem.W.findIn K (.ref C_Rule) "__and__" = some (some (.ref f29))) (i29 : PySem.W.isFn K (.ref f29) = true)
    (l29 : K.lookup f29 = some ⟨oc29, od29, .func (PySem.W.fnOf "__and__" "Rule.__and__" (defArgs s_Rule_and) (defBody s_Rule_and) (defScope s_Rule_and) .none kV29 dc29 pm29 an29 cd29 ct29), sl29⟩) (c29 : PySem.W.codeIn K cd29 "Rule.__and__" = true) (k29 : PySem.W.keepIn K (.ref f29) = true)
    {f30 : Addr} {od30 an30 : Option Addr} {sl30 : Array (Option Value)} {oc30 kV30 dc30 pm30 cd30 ct30 : Value}
    (a30 : PySem.W.findIn K (.ref C_Rule) "__or__" = some (some (.ref f30))) (i30 : PySem.W.isFn K (.ref f30) = true)
    (l30 : K.lookup f30 = some ⟨oc30, od30, .func (PySem.W.fnOf "__or__" "Rule.__or__" (defArgs s_Rule_or) (defBody s_Rule_or) (defScope s_Rule_or) .none kV30 dc30 pm30 an30 cd30 ct30), sl30⟩) (c30 : PySem.W.codeIn K cd30 "Rule.__or__" = true) (k30 : PySem.W.keepIn K (.ref f30) = true)
    {f31 : Addr} {od31 an31 : Option Addr} {sl31 : Array (Option Value)} {oc31 kV31 dc31 pm31 cd31 ct31 : Value}
    (a31 : PySem.W.findIn K (.ref C_Rule) "__invert__" = some (some (.ref f31))) (i31 : PySem.W.isFn K (.ref f31) = true)
    (l31 : K.lookup f31 = some ⟨oc31, od31, .func (PySem.W.fnOf "__invert__" "Rule.__invert__" (defArgs s_Rule_invert) (defBody s_Rule_invert) (defScope s_Rule_invert) .none kV31 dc31 pm31 an31 cd31 ct31), sl31⟩) (c31 : PySem.W.codeIn K cd31 "Rule.__invert__" = true) (k31 : PySem.W.keepIn K (.ref f31) = true)
    {f32 : Addr} {od32 an32 : Option Addr} {sl32 : Array (Option Value)} {oc32 kV32 dc32 pm32 cd32 ct32 : Value}
    (a32 : PySem.W.nsIn K mainGlobals "_law_joined" = some (some (.ref f32)))
    (l32 : K.lookup f32 = some ⟨oc32, od32, .func (PySem.W.fnOf "_law_joined" "_law_joined" (defArgs s_law_joined) (defBody s_law_joined) (defScope s_law_joined) .none kV32 dc32 pm32 an32 cd32 ct32), sl32⟩) (c32 : PySem.W.codeIn K cd32 "_law_joined" = true) (k32 : PySem.W.keepIn K (.ref f32) = true)
    {f33 : Addr} {od33 an33 : Option Addr} {sl33 : Array (Option Value)} {oc33 kV33 dc33 pm33 cd33 ct33 : Value}
    {sp33 : Addr} {sr33 : List Value} (sg33 : PySem.W.specialIn K (.ref C_Rule) "__getattribute__" = some (some (.builtin "type.__getattribute__"))) (sd33 : PySem.W.readsIn K C_Rule (.type "type") = true) (st33 : PySem.W.findCls K (.ref C_Rule) (.type "type") "majority" = some (.get (.builtin "staticmethod.__get__") (.ref sp33) .none (.ref C_Rule))) (sq33 : PySem.W.recIn K sp33 "staticmethod" = some (.ref f33 :: sr33))
    (l33 : K.lookup f33 = some ⟨oc33, od33, .func (PySem.W.fnOf "majority" "Rule.majority" (defArgs s_Rule_majority) (defBody s_Rule_majority) (defScope s_Rule_majority) .none kV33 dc33 pm33 an33 cd33 ct33), sl33⟩) (c33 : PySem.W.codeIn K cd33 "Rule.majority" = true) (k33 : PySem.W.keepIn K (.ref f33) = true)
    {f34 : Addr} {od34 an34 : Option Addr} {sl34 : Array (Option Value)} {oc34 kV34 dc34 pm34 cd34 ct34 : Value}
    (a34 : PySem.W.nsIn K mainGlobals "_law_table" = some (some (.ref f34)))
    (l34 : K.lookup f34 = some ⟨oc34, od34, .func (PySem.W.fnOf "_law_table" "_law_table" (defArgs s_law_table) (defBody s_law_table) (defScope s_law_table) .none kV34 dc34 pm34 an34 cd34 ct34), sl34⟩) (c34 : PySem.W.codeIn K cd34 "_law_table" = true) (k34 : PySem.W.keepIn K (.ref f34) = true)
    {f35 : Addr} {od35 an35 : Option Addr} {sl35 : Array (Option Value)} {oc35 kV35 dc35 pm35 cd35 ct35 : Value}
    (a35 : PySem.W.nsIn K mainGlobals "_law_kept_apart" = some (some (.ref f35)))
    (l35 : K.lookup f35 = some ⟨oc35, od35, .func (PySem.W.fnOf "_law_kept_apart" "_law_kept_apart" (defArgs s_law_kept_apart) (defBody s_law_kept_apart) (defScope s_law_kept_apart) .none kV35 dc35 pm35 an35 cd35 ct35), sl35⟩) (c35 : PySem.W.codeIn K cd35 "_law_kept_apart" = true) (k35 : PySem.W.keepIn K (.ref f35) = true)
    {f36 : Addr} {od36 an36 : Option Addr} {sl36 : Array (Option Value)} {oc36 kV36 dc36 pm36 cd36 ct36 : Value}
    (a36 : PySem.W.nsIn K mainGlobals "_law_rule" = some (some (.ref f36)))
    (l36 : K.lookup f36 = some ⟨oc36, od36, .func (PySem.W.fnOf "_law_rule" "_law_rule" (defArgs s_law_rule) (defBody s_law_rule) (defScope s_law_rule) .none kV36 dc36 pm36 an36 cd36 ct36), sl36⟩) (c36 : PySem.W.codeIn K cd36 "_law_rule" = true) (k36 : PySem.W.keepIn K (.ref f36) = true)
    {f37 : Addr} {od37 an37 : Option Addr} {sl37 : Array (Option Value)} {oc37 kV37 dc37 pm37 cd37 ct37 : Value}
    (a37 : PySem.W.nsIn K mainGlobals "law" = some (some (.ref f37)))
    (l37 : K.lookup f37 = some ⟨oc37, od37, .func (PySem.W.fnOf "law" "law" (defArgs s_law) (defBody s_law) (defScope s_law) .none kV37 dc37 pm37 an37 cd37 ct37), sl37⟩) (c37 : PySem.W.codeIn K cd37 "law" = true) (k37 : PySem.W.keepIn K (.ref f37) = true)
    (z_ValueError : PySem.W.nsIn K mainGlobals "ValueError" = some none)
    (z_all : PySem.W.nsIn K mainGlobals "all" = some none)
    (z_any : PySem.W.nsIn K mainGlobals "any" = some none)
    (z_bool : PySem.W.nsIn K mainGlobals "bool" = some none)
    (z_int : PySem.W.nsIn K mainGlobals "int" = some none)
    (z_isinstance : PySem.W.nsIn K mainGlobals "isinstance" = some none)
    (z_len : PySem.W.nsIn K mainGlobals "len" = some none)
    (z_list : PySem.W.nsIn K mainGlobals "list" = some none)
    (z_max : PySem.W.nsIn K mainGlobals "max" = some none)
    (z_range : PySem.W.nsIn K mainGlobals "range" = some none)
    (z_sorted : PySem.W.nsIn K mainGlobals "sorted" = some none)
    (z_sum : PySem.W.nsIn K mainGlobals "sum" = some none)
    (z_tuple : PySem.W.nsIn K mainGlobals "tuple" = some none)
    : ∃ fd : FuncData, (∀ (s : Shared) (v : Value), BindsTo s fd ⟨[v], []⟩ [("script", v)]) ∧ ∀ base : Heap, K.In base → base.Ns mainGlobals mg → FnOk l.prog w K mg base (L2.CX l.prog w) 12 fa fd ["script"] (spOf K (clOf K none) 1 d_law) := by
  have e := hfa.symm.trans (PySem.W.mg_of X G a37)
  cases e
  obtain rfl : cA K "CalmError" = C_CalmError := by unfold cA; rw [aC_CalmError]
  obtain rfl : cA K "NoLots" = C_NoLots := by unfold cA; rw [aC_NoLots]
  obtain rfl : cA K "BadLot" = C_BadLot := by unfold cA; rw [aC_BadLot]
  obtain rfl : cA K "BadQuota" = C_BadQuota := by unfold cA; rw [aC_BadQuota]
  obtain rfl : cA K "ManyDiffer" = C_ManyDiffer := by unfold cA; rw [aC_ManyDiffer]
  obtain rfl : cA K "Rule" = C_Rule := by unfold cA; rw [aC_Rule]
  have F0 := fun_mk (st := s_lot_number) l0 c0 k0
  have b0 := F0.binds (ps := ["lot"]) fun _ _ _ _ _ _ us hl => match us, hl with | [_], _ => rfl
  have F1 := fun_mk (st := s_lot_of) l1 c1 k1
  have b1 := F1.binds (ps := ["number", "many"]) fun _ _ _ _ _ _ us hl => match us, hl with | [_, _], _ => rfl
  have F2 := fun_mk (st := s_lot_order) l2 c2 k2
  have b2 := F2.binds (ps := ["lot"]) fun _ _ _ _ _ _ us hl => match us, hl with | [_], _ => rfl
  have F3 := fun_mk (st := s_is_lot) l3 c3 k3
  have b3 := F3.binds (ps := ["lot", "many"]) fun _ _ _ _ _ _ us hl => match us, hl with | [_, _], _ => rfl
  have F4 := fun_mk (st := s_smaller_wins) l4 c4 k4
  have b4 := F4.binds (ps := ["book", "number", "many"]) fun _ _ _ _ _ _ us hl => match us, hl with | [_, _, _], _ => rfl
  have F5 := fun_mk (st := s_sums_of) l5 c5 k5
  have b5 := F5.binds (ps := ["weights"]) fun _ _ _ _ _ _ us hl => match us, hl with | [_], _ => rfl
  have F6 := fun_mk (st := s_law_whole) l6 c6 k6
  have b6 := F6.binds (ps := ["value"]) fun _ _ _ _ _ _ us hl => match us, hl with | [_], _ => rfl
  have F7 := fun_mk (st := s_law_cell) l7 c7 k7
  have b7 := F7.binds (ps := ["script", "k"]) fun _ _ _ _ _ _ us hl => match us, hl with | [_, _], _ => rfl
  have F8 := fun_mk (st := s_law_digits) l8 c8 k8
  have b8 := F8.binds (ps := ["cell", "sizes"]) fun _ _ _ _ _ _ us hl => match us, hl with | [_, _], _ => rfl
  have F9 := fun_mk (st := s_law_number) l9 c9 k9
  have b9 := F9.binds (ps := ["lot"]) fun _ _ _ _ _ _ us hl => match us, hl with | [_], _ => rfl
  have F10 := fun_mk (st := s_law_voters) l10 c10 k10
  have b10 := F10.binds (ps := ["number", "many"]) fun _ _ _ _ _ _ us hl => match us, hl with | [_, _], _ => rfl
  have F11 := fun_mk (st := s_law_order) l11 c11 k11
  have b11 := F11.binds (ps := ["lot"]) fun _ _ _ _ _ _ us hl => match us, hl with | [_], _ => rfl
  have F12 := fun_mk (st := s_law_near) l12 c12 k12
  have b12 := F12.binds (ps := ["table", "many", "at"]) fun _ _ _ _ _ _ us hl => match us, hl with | [_, _, _], _ => rfl
  have F13 := fun_mk (st := s_BadLot_init) l13 c13 k13
  have b13 := F13.binds (ps := ["self", "lot"]) fun _ _ _ _ _ _ us hl => match us, hl with | [_, _], _ => rfl
  have F14 := fun_mk (st := s_BadQuota_init) l14 c14 k14
  have b14 := F14.binds (ps := ["self", "quota"]) fun _ _ _ _ _ _ us hl => match us, hl with | [_, _], _ => rfl
  have F15 := fun_mk (st := s_ManyDiffer_init) l15 c15 k15
  have b15 := F15.binds (ps := ["self", "one", "two"]) fun _ _ _ _ _ _ us hl => match us, hl with | [_, _, _], _ => rfl
  have F16 := fun_mk (st := s_Rule_eq) l16 c16 k16
  have b16 := F16.binds (ps := ["self", "other"]) fun _ _ _ _ _ _ us hl => match us, hl with | [_, _], _ => rfl
  have F17 := fun_mk (st := s_winning_book) l17 c17 k17
  have b17 := F17.binds (ps := ["many", "numbers"]) fun _ _ _ _ _ _ us hl => match us, hl with | [_, _], _ => rfl
  have F18 := fun_mk (st := s_least_lots) l18 c18 k18
  have b18 := F18.binds (ps := ["many", "book"]) fun _ _ _ _ _ _ us hl => match us, hl with | [_, _], _ => rfl
  have F19 := fun_mk (st := s_law_words) l19 c19 k19
  have b19 := F19.binds (ps := ["row", "many"]) fun _ _ _ _ _ _ us hl => match us, hl with | [_, _], _ => rfl
  have F20 := fun_mk (st := s_law_least) l20 c20 k20
  have b20 := F20.binds (ps := ["table", "many"]) fun _ _ _ _ _ _ us hl => match us, hl with | [_, _], _ => rfl
  have F21 := fun_mk (st := s_law_sized) l21 c21 k21
  have b21 := F21.binds (ps := ["many", "low", "high"]) fun _ _ _ _ _ _ us hl => match us, hl with | [_, _, _], _ => rfl
  have F22 := fun_mk (st := s_law_are_lots) l22 c22 k22
  have b22 := F22.binds (ps := ["value", "due"]) fun _ _ _ _ _ _ us hl => match us, hl with | [_, _], _ => rfl
  have F23 := fun_mk (st := s_Rule_contains) l23 c23 k23
  have b23 := F23.binds (ps := ["self", "lot"]) fun _ _ _ _ _ _ us hl => match us, hl with | [_, _], _ => rfl
  have F24 := fun_mk (st := s_law_drawn) l24 c24 k24
  have b24 := F24.binds (ps := ["row", "many"]) fun _ _ _ _ _ _ us hl => match us, hl with | [_, _], _ => rfl
  have F25 := fun_mk (st := s_law_as_told) l25 c25 k25
  have b25 := F25.binds (ps := ["rule", "lots", "table"]) fun _ _ _ _ _ _ us hl => match us, hl with | [_, _, _], _ => rfl
  have F26 := fun_mk (st := s_Rule_init) l26 c26 k26
  have b26 := F26.binds (ps := ["self", "many", "lots"]) fun _ _ _ _ _ _ us hl => match us, hl with | [_, _, _], _ => rfl
  have F27 := fun_mk (st := s_law_any) l27 c27 k27
  have b27 := F27.binds (ps := ["row", "many"]) fun _ _ _ _ _ _ us hl => match us, hl with | [_, _], _ => rfl
  have F28 := fun_mk (st := s_Rule_weighted) l28 c28 k28
  have b28 := F28.binds (ps := ["weights", "quota"]) fun _ _ _ _ _ _ us hl => match us, hl with | [_, _], _ => rfl
  have F29 := fun_mk (st := s_Rule_and) l29 c29 k29
  have b29 := F29.binds (ps := ["self", "other"]) fun _ _ _ _ _ _ us hl => match us, hl with | [_, _], _ => rfl
  have F30 := fun_mk (st := s_Rule_or) l30 c30 k30
  have b30 := F30.binds (ps := ["self", "other"]) fun _ _ _ _ _ _ us hl => match us, hl with | [_, _], _ => rfl
  have F31 := fun_mk (st := s_Rule_invert) l31 c31 k31
  have b31 := F31.binds (ps := ["self"]) fun _ _ _ _ _ _ us hl => match us, hl with | [_], _ => rfl
  have F32 := fun_mk (st := s_law_joined) l32 c32 k32
  have b32 := F32.binds (ps := ["first", "second", "way"]) fun _ _ _ _ _ _ us hl => match us, hl with | [_, _, _], _ => rfl
  have F33 := fun_mk (st := s_Rule_majority) l33 c33 k33
  have b33 := F33.binds (ps := ["many"]) fun _ _ _ _ _ _ us hl => match us, hl with | [_], _ => rfl
  have F34 := fun_mk (st := s_law_table) l34 c34 k34
  have b34 := F34.binds (ps := ["words", "many"]) fun _ _ _ _ _ _ us hl => match us, hl with | [_, _], _ => rfl
  have F35 := fun_mk (st := s_law_kept_apart) l35 c35 k35
  have b35 := F35.binds (ps := ["first", "second", "many", "other"]) fun _ _ _ _ _ _ us hl => match us, hl with | [_, _, _, _], _ => rfl
  have F36 := fun_mk (st := s_law_rule) l36 c36 k36
  have b36 := F36.binds (ps := ["words", "many"]) fun _ _ _ _ _ _ us hl => match us, hl with | [_, _], _ => rfl
  have F37 := fun_mk (st := s_law) l37 c37 k37
  have b37 := F37.binds (ps := ["script"]) fun _ _ _ _ _ _ us hl => match us, hl with | [_], _ => rfl
  let T : Txt K mg := ⟨_, _, F0, PySem.W.mg_of X G a0, b0,
    _, _, F1, PySem.W.mg_of X G a1, b1,
    _, _, F2, PySem.W.mg_of X G a2, b2,
    _, _, F3, PySem.W.mg_of X G a3, b3,
    _, _, F4, PySem.W.mg_of X G a4, b4,
    _, _, F5, PySem.W.mg_of X G a5, b5,
    _, _, F6, PySem.W.mg_of X G a6, b6,
    _, _, F7, PySem.W.mg_of X G a7, b7,
    _, _, F8, PySem.W.mg_of X G a8, b8,
    _, _, F9, PySem.W.mg_of X G a9, b9,
    _, _, F10, PySem.W.mg_of X G a10, b10,
    _, _, F11, PySem.W.mg_of X G a11, b11,
    _, _, F12, PySem.W.mg_of X G a12, b12,
    _, _, F13, a13, i13, b13, ti13,
    _, _, F14, a14, i14, b14, ti14,
    _, _, F15, a15, i15, b15, ti15,
    _, _, F16, a16, i16, b16,
    _, _, F17, PySem.W.mg_of X G a17, b17,
    _, _, F18, PySem.W.mg_of X G a18, b18,
    _, _, F19, PySem.W.mg_of X G a19, b19,
    _, _, F20, PySem.W.mg_of X G a20, b20,
    _, _, F21, PySem.W.mg_of X G a21, b21,
    _, _, F22, PySem.W.mg_of X G a22, b22,
    _, _, F23, a23, i23, b23,
    _, _, F24, PySem.W.mg_of X G a24, b24,
    _, _, F25, PySem.W.mg_of X G a25, b25,
    _, _, F26, a26, i26, b26,
    _, _, F27, PySem.W.mg_of X G a27, b27,
    _, _, F28, ⟨sg28, ⟨_, _, _, sd28, st28, sq28⟩, k28⟩, b28,
    _, _, F29, a29, i29, b29,
    _, _, F30, a30, i30, b30,
    _, _, F31, a31, i31, b31,
    _, _, F32, PySem.W.mg_of X G a32, b32,
    _, _, F33, ⟨sg33, ⟨_, _, _, sd33, st33, sq33⟩, k33⟩, b33,
    _, _, F34, PySem.W.mg_of X G a34, b34,
    _, _, F35, PySem.W.mg_of X G a35, b35,
    _, _, F36, PySem.W.mg_of X G a36, b36,
    _, _, F37, PySem.W.mg_of X G a37, b37,
    PySem.W.mg_of X G aC_CalmError,
    PySem.W.mg_of X G aC_NoLots,
    PySem.W.mg_of X G aC_BadLot,
    PySem.W.mg_of X G aC_BadQuota,
    PySem.W.mg_of X G aC_ManyDiffer,
    PySem.W.mg_of X G aC_Rule,
    ⟨⟨_, _, _, _, _, _, _, _, _, _, _, _, _, _, _, xL_BadLot, rfl⟩, sa_BadLot, s_BadLot, t_BadLot, kp_BadLot⟩,
    ⟨⟨_, _, _, _, _, _, _, _, _, _, _, _, _, _, _, xL_BadQuota, rfl⟩, sa_BadQuota, s_BadQuota, t_BadQuota, kp_BadQuota⟩,
    ⟨⟨_, _, _, _, _, _, _, _, _, _, _, _, _, _, _, xL_ManyDiffer, rfl⟩, sa_ManyDiffer, s_ManyDiffer, t_ManyDiffer, kp_ManyDiffer⟩,
    s_CalmError,
    t_CalmError,
    d_CalmError,
    q_NoLots,
    kp_NoLots,
    s_NoLots,
    t_NoLots,
    d_NoLots,
    h1_NoLots,
    h2_NoLots,
    h3_NoLots,
    h4_NoLots,
    sa_BadLot,
    kp_BadLot,
    s_BadLot,
    t_BadLot,
    d_BadLot,
    h1_BadLot,
    h2_BadLot,
    h3_BadLot,
    h4_BadLot,
    sa_BadQuota,
    kp_BadQuota,
    s_BadQuota,
    t_BadQuota,
    d_BadQuota,
    h1_BadQuota,
    h2_BadQuota,
    h3_BadQuota,
    h4_BadQuota,
    sa_ManyDiffer,
    kp_ManyDiffer,
    s_ManyDiffer,
    t_ManyDiffer,
    d_ManyDiffer,
    h1_ManyDiffer,
    h2_ManyDiffer,
    h3_ManyDiffer,
    h4_ManyDiffer,
    pg_Rule,
    po_Rule,
    sa_Rule,
    mm_Rule,
    kp_Rule,
    d_Rule,
    sf_Rule,
    h3_Rule,
    h4_Rule,
    hn_,
    ht_,
    nf_BadLot_lot,
    nf_BadQuota_quota,
    nf_ManyDiffer_one,
    nf_ManyDiffer_two,
    kit_Rule_Rule,
    kib_Rule_,
    nf_Rule_many,
    nf_Rule_least,
    nf_Rule_book,
    u_NoLots_CalmError,
    u_BadLot_CalmError,
    u_BadQuota_CalmError,
    u_ManyDiffer_CalmError,
    kit_NoLots_ManyDiffer,
    kit_BadLot_ManyDiffer,
    kit_BadQuota_ManyDiffer,
    kit_ManyDiffer_ManyDiffer,
    kit_NoLots_ValueError,
    kit_BadLot_ValueError,
    kit_BadQuota_ValueError,
    kit_ManyDiffer_ValueError,
    nf_NoLots_two,
    nf_BadLot_two,
    nf_BadQuota_two,
    nf_NoLots_one,
    nf_BadLot_one,
    nf_BadQuota_one,
    PySem.W.mg_none_of X G z_ValueError,
    PySem.W.mg_none_of X G z_all,
    PySem.W.mg_none_of X G z_any,
    PySem.W.mg_none_of X G z_bool,
    PySem.W.mg_none_of X G z_int,
    PySem.W.mg_none_of X G z_isinstance,
    PySem.W.mg_none_of X G z_len,
    PySem.W.mg_none_of X G z_list,
    PySem.W.mg_none_of X G z_max,
    PySem.W.mg_none_of X G z_range,
    PySem.W.mg_none_of X G z_sorted,
    PySem.W.mg_none_of X G z_sum,
    PySem.W.mg_none_of X G z_tuple⟩
  exact ⟨PySem.W.fnOf "law" "law" (defArgs s_law) (defBody s_law) (defScope s_law) .none kV37 dc37 pm37 an37 cd37 ct37, fun s v => .of_eq rfl, fun base _ _ => ok_law T⟩
theorem walk {l : PySem.W.OpenLaw} {q : Program} {loose : List Str} {XP : (Str → Option Value) → Heap → Prop} {YP : World → Heap → Prop} {d : DefRec} {K : Params → PySem.W.Frag} (hn : l.most = some 63) (hdf : d.params.defaults = [])
    (hY : ∀ (w : World) (h : Heap), YP w h → (K w.params).In h)
    (F : ∀ (w : World) (mg : Str → Option Value) (fa : Addr) (h : Heap), (K w.params).In h → h.Ns mainGlobals mg → mg d.name = some (.ref fa) →
      ∃ fd : FuncData, (∀ (s : Shared) (u : Value), BindsTo s fd ⟨[u], []⟩ [("script", u)]) ∧ ∀ base : Heap, (K w.params).In base → base.Ns mainGlobals mg → FnOk l.prog w (K w.params) mg base (L2.CX l.prog w) 12 fa fd ["script"] (spOf (K w.params) (clOf (K w.params) none) 1 d_law))
    (good : ∀ ns : List Int, ns.length ≤ 63 → d_law [.scr ns] = .ok (.bl true)) :
    PySem.W.WalkO q loose XP YP l.row.toRowW d [] (fun f vs => PySem.call f vs) :=
  L2.walk_of (n := 63) (k := 12) (x := "script") (CX := fun w => L2.CX l.prog w) (sp := fun w => spOf (K w.params) (clOf (K w.params) none) 1 d_law) hn (by decide) hdf ⟨rfl, by decide, by decide⟩ hY F
    (fun w H a ns hl _ hS => ⟨H, [.scr ns], Same.refl _, .cons (.scr hS) .nil, rfl, by rw [good ns hl]; exact fun v F' H' _ r => by cases r; rfl⟩)
    fun _ _ _ _ _ z => by
      obtain ⟨_, _, _, _, _, _, _, _, _, _, _, _, z⟩ := z
      exact z.elim
end Cm
open PySem PySem.W PyProof.Rows in
set_option maxRecDepth 100000 in
set_option maxHeartbeats 0 in
theorem PySem.Challenge.cw_calmspot_k07_rules_joined_holds : PySem.Challenge.rw_calmspot_k07_rules_joined.Holds := by
  w_on; o_law; k_head; (case hw => w_witness2)
  k_fill
  refine Cm.walk (l := PySem.Challenge.rw_calmspot_k07_rules_joined) rfl rfl (fun w h Y => PySem.W.kIn_of Y) ?F Cm.good
  case F =>
    intro w mg fa h KX G hmg
    refine' Cm.all_mk KX G hmg ?aC_CalmError ?aC_NoLots ?aC_BadLot ?aC_BadQuota ?aC_ManyDiffer ?aC_Rule ?xL_BadLot ?xL_BadQuota ?xL_ManyDiffer ?s_CalmError ?t_CalmError ?d_CalmError ?q_NoLots ?kp_NoLots ?s_NoLots ?t_NoLots ?d_NoLots ?h1_NoLots ?h2_NoLots ?h3_NoLots ?h4_NoLots ?sa_BadLot ?kp_BadLot ?s_BadLot ?t_BadLot ?d_BadLot ?h1_BadLot ?h2_BadLot ?h3_BadLot ?h4_BadLot ?sa_BadQuota ?kp_BadQuota ?s_BadQuota ?t_BadQuota ?d_BadQuota ?h1_BadQuota ?h2_BadQuota ?h3_BadQuota ?h4_BadQuota ?sa_ManyDiffer ?kp_ManyDiffer ?s_ManyDiffer ?t_ManyDiffer ?d_ManyDiffer ?h1_ManyDiffer ?h2_ManyDiffer ?h3_ManyDiffer ?h4_ManyDiffer ?pg_Rule ?po_Rule ?sa_Rule ?mm_Rule ?kp_Rule ?d_Rule ?sf_Rule ?h3_Rule ?h4_Rule ?hn_ ?ht_ ?nf_BadLot_lot ?nf_BadQuota_quota ?nf_ManyDiffer_one ?nf_ManyDiffer_two ?kit_Rule_Rule ?kib_Rule_ ?nf_Rule_many ?nf_Rule_least ?nf_Rule_book ?u_NoLots_CalmError ?u_BadLot_CalmError ?u_BadQuota_CalmError ?u_ManyDiffer_CalmError ?kit_NoLots_ManyDiffer ?kit_BadLot_ManyDiffer ?kit_BadQuota_ManyDiffer ?kit_ManyDiffer_ManyDiffer ?kit_NoLots_ValueError ?kit_BadLot_ValueError ?kit_BadQuota_ValueError ?kit_ManyDiffer_ValueError ?nf_NoLots_two ?nf_BadLot_two ?nf_BadQuota_two ?nf_NoLots_one ?nf_BadLot_one ?nf_BadQuota_one ?a0 ?l0 ?c0 ?k0 ?a1 ?l1 ?c1 ?k1 ?a2 ?l2 ?c2 ?k2 ?a3 ?l3 ?c3 ?k3 ?a4 ?l4 ?c4 ?k4 ?a5 ?l5 ?c5 ?k5 ?a6 ?l6 ?c6 ?k6 ?a7 ?l7 ?c7 ?k7 ?a8 ?l8 ?c8 ?k8 ?a9 ?l9 ?c9 ?k9 ?a10 ?l10 ?c10 ?k10 ?a11 ?l11 ?c11 ?k11 ?a12 ?l12 ?c12 ?k12 ?a13 ?i13 ?ti13 ?l13 ?c13 ?k13 ?a14 ?i14 ?ti14 ?l14 ?c14 ?k14 ?a15 ?i15 ?ti15 ?l15 ?c15 ?k15 ?a16 ?i16 ?l16 ?c16 ?k16 ?a17 ?l17 ?c17 ?k17 ?a18 ?l18 ?c18 ?k18 ?a19 ?l19 ?c19 ?k19 ?a20 ?l20 ?c20 ?k20 ?a21 ?l21 ?c21 ?k21 ?a22 ?l22 ?c22 ?k22 ?a23 ?i23 ?l23 ?c23 ?k23 ?a24 ?l24 ?c24 ?k24 ?a25 ?l25 ?c25 ?k25 ?a26 ?i26 ?l26 ?c26 ?k26 ?a27 ?l27 ?c27 ?k27 ?sg28 ?sd28 ?st28 ?sq28 ?l28 ?c28 ?k28 ?a29 ?i29 ?l29 ?c29 ?k29 ?a30 ?i30 ?l30 ?c30 ?k30 ?a31 ?i31 ?l31 ?c31 ?k31 ?a32 ?l32 ?c32 ?k32 ?sg33 ?sd33 ?st33 ?sq33 ?l33 ?c33 ?k33 ?a34 ?l34 ?c34 ?k34 ?a35 ?l35 ?c35 ?k35 ?a36 ?l36 ?c36 ?k36 ?a37 ?l37 ?c37 ?k37 ?z_ValueError ?z_all ?z_any ?z_bool ?z_int ?z_isinstance ?z_len ?z_list ?z_max ?z_range ?z_sorted ?z_sum ?z_tuple
    (case aC_CalmError => k_is)
    (case aC_NoLots => k_is)
    (case aC_BadLot => k_is)
    (case aC_BadQuota => k_is)
    (case aC_ManyDiffer => k_is)
    (case aC_Rule => k_is)
    (case xL_BadLot => k_is)
    (case xL_BadQuota => k_is)
    (case xL_ManyDiffer => k_is)
    (case s_CalmError => k_is)
    (case t_CalmError => k_is)
    (case d_CalmError => k_is)
    (case q_NoLots => k_exc)
    (case kp_NoLots => k_is)
    (case s_NoLots => k_is)
    (case t_NoLots => k_is)
    (case d_NoLots => k_is)
    (case h1_NoLots => k_is)
    (case h2_NoLots => k_is)
    (case h3_NoLots => k_is)
    (case h4_NoLots => k_is)
    (case sa_BadLot => k_is)
    (case kp_BadLot => k_is)
    (case s_BadLot => k_is)
    (case t_BadLot => k_is)
    (case d_BadLot => k_is)
    (case h1_BadLot => k_is)
    (case h2_BadLot => k_is)
    (case h3_BadLot => k_is)
    (case h4_BadLot => k_is)
    (case sa_BadQuota => k_is)
    (case kp_BadQuota => k_is)
    (case s_BadQuota => k_is)
    (case t_BadQuota => k_is)
    (case d_BadQuota => k_is)
    (case h1_BadQuota => k_is)
    (case h2_BadQuota => k_is)
    (case h3_BadQuota => k_is)
    (case h4_BadQuota => k_is)
    (case sa_ManyDiffer => k_is)
    (case kp_ManyDiffer => k_is)
    (case s_ManyDiffer => k_is)
    (case t_ManyDiffer => k_is)
    (case d_ManyDiffer => k_is)
    (case h1_ManyDiffer => k_is)
    (case h2_ManyDiffer => k_is)
    (case h3_ManyDiffer => k_is)
    (case h4_ManyDiffer => k_is)
    (case pg_Rule => k_is)
    (case po_Rule => k_is)
    (case sa_Rule => k_is)
    (case mm_Rule => k_is)
    (case kp_Rule => k_is)
    (case d_Rule => k_is)
    (case sf_Rule => k_is)
    (case h3_Rule => k_is)
    (case h4_Rule => k_is)
    (case hn_ => k_is)
    (case ht_ => k_is)
    (case nf_BadLot_lot => k_is)
    (case nf_BadQuota_quota => k_is)
    (case nf_ManyDiffer_one => k_is)
    (case nf_ManyDiffer_two => k_is)
    (case kit_Rule_Rule => kit_is)
    (case kib_Rule_ => kit_is)
    (case nf_Rule_many => k_is)
    (case nf_Rule_least => k_is)
    (case nf_Rule_book => k_is)
    (case u_NoLots_CalmError => k_is)
    (case u_BadLot_CalmError => k_is)
    (case u_BadQuota_CalmError => k_is)
    (case u_ManyDiffer_CalmError => k_is)
    (case kit_NoLots_ManyDiffer => kit_is)
    (case kit_BadLot_ManyDiffer => kit_is)
    (case kit_BadQuota_ManyDiffer => kit_is)
    (case kit_ManyDiffer_ManyDiffer => kit_is)
    (case kit_NoLots_ValueError => kit_is)
    (case kit_BadLot_ValueError => kit_is)
    (case kit_BadQuota_ValueError => kit_is)
    (case kit_ManyDiffer_ValueError => kit_is)
    (case nf_NoLots_two => k_is)
    (case nf_BadLot_two => k_is)
    (case nf_BadQuota_two => k_is)
    (case nf_NoLots_one => k_is)
    (case nf_BadLot_one => k_is)
    (case nf_BadQuota_one => k_is)
    (case a0 => k_is)
    (case l0 => k_is)
    (case c0 => k_is)
    (case k0 => k_is)
    (case a1 => k_is)
    (case l1 => k_is)
    (case c1 => k_is)
    (case k1 => k_is)
    (case a2 => k_is)
    (case l2 => k_is)
    (case c2 => k_is)
    (case k2 => k_is)
    (case a3 => k_is)
    (case l3 => k_is)
    (case c3 => k_is)
    (case k3 => k_is)
    (case a4 => k_is)
    (case l4 => k_is)
    (case c4 => k_is)
    (case k4 => k_is)
    (case a5 => k_is)
    (case l5 => k_is)
    (case c5 => k_is)
    (case k5 => k_is)
    (case a6 => k_is)
    (case l6 => k_is)
    (case c6 => k_is)
    (case k6 => k_is)
    (case a7 => k_is)
    (case l7 => k_is)
    (case c7 => k_is)
    (case k7 => k_is)
    (case a8 => k_is)
    (case l8 => k_is)
    (case c8 => k_is)
    (case k8 => k_is)
    (case a9 => k_is)
    (case l9 => k_is)
    (case c9 => k_is)
    (case k9 => k_is)
    (case a10 => k_is)
    (case l10 => k_is)
    (case c10 => k_is)
    (case k10 => k_is)
    (case a11 => k_is)
    (case l11 => k_is)
    (case c11 => k_is)
    (case k11 => k_is)
    (case a12 => k_is)
    (case l12 => k_is)
    (case c12 => k_is)
    (case k12 => k_is)
    (case a13 => k_is)
    (case i13 => k_is)
    (case ti13 => k_is)
    (case l13 => k_is)
    (case c13 => k_is)
    (case k13 => k_is)
    (case a14 => k_is)
    (case i14 => k_is)
    (case ti14 => k_is)
    (case l14 => k_is)
    (case c14 => k_is)
    (case k14 => k_is)
    (case a15 => k_is)
    (case i15 => k_is)
    (case ti15 => k_is)
    (case l15 => k_is)
    (case c15 => k_is)
    (case k15 => k_is)
    (case a16 => k_is)
    (case i16 => k_is)
    (case l16 => k_is)
    (case c16 => k_is)
    (case k16 => k_is)
    (case a17 => k_is)
    (case l17 => k_is)
    (case c17 => k_is)
    (case k17 => k_is)
    (case a18 => k_is)
    (case l18 => k_is)
    (case c18 => k_is)
    (case k18 => k_is)
    (case a19 => k_is)
    (case l19 => k_is)
    (case c19 => k_is)
    (case k19 => k_is)
    (case a20 => k_is)
    (case l20 => k_is)
    (case c20 => k_is)
    (case k20 => k_is)
    (case a21 => k_is)
    (case l21 => k_is)
    (case c21 => k_is)
    (case k21 => k_is)
    (case a22 => k_is)
    (case l22 => k_is)
    (case c22 => k_is)
    (case k22 => k_is)
    (case a23 => k_is)
    (case i23 => k_is)
    (case l23 => k_is)
    (case c23 => k_is)
    (case k23 => k_is)
    (case a24 => k_is)
    (case l24 => k_is)
    (case c24 => k_is)
    (case k24 => k_is)
    (case a25 => k_is)
    (case l25 => k_is)
    (case c25 => k_is)
    (case k25 => k_is)
    (case a26 => k_is)
    (case i26 => k_is)
    (case l26 => k_is)
    (case c26 => k_is)
    (case k26 => k_is)
    (case a27 => k_is)
    (case l27 => k_is)
    (case c27 => k_is)
    (case k27 => k_is)
    (case sg28 => k_is)
    (case sd28 => k_is)
    (case st28 => k_is)
    (case sq28 => k_is)
    (case l28 => k_is)
    (case c28 => k_is)
    (case k28 => k_is)
    (case a29 => k_is)
    (case i29 => k_is)
    (case l29 => k_is)
    (case c29 => k_is)
    (case k29 => k_is)
    (case a30 => k_is)
    (case i30 => k_is)
    (case l30 => k_is)
    (case c30 => k_is)
    (case k30 => k_is)
    (case a31 => k_is)
    (case i31 => k_is)
    (case l31 => k_is)
    (case c31 => k_is)
    (case k31 => k_is)
    (case a32 => k_is)
    (case l32 => k_is)
    (case c32 => k_is)
    (case k32 => k_is)
    (case sg33 => k_is)
    (case sd33 => k_is)
    (case st33 => k_is)
    (case sq33 => k_is)
    (case l33 => k_is)
    (case c33 => k_is)
    (case k33 => k_is)
    (case a34 => k_is)
    (case l34 => k_is)
    (case c34 => k_is)
    (case k34 => k_is)
    (case a35 => k_is)
    (case l35 => k_is)
    (case c35 => k_is)
    (case k35 => k_is)
    (case a36 => k_is)
    (case l36 => k_is)
    (case c36 => k_is)
    (case k36 => k_is)
    (case a37 => k_is)
    (case l37 => k_is)
    (case c37 => k_is)
    (case k37 => k_is)
    (case z_ValueError => k_is)
    (case z_all => k_is)
    (case z_any => k_is)
    (case z_bool => k_is)
    (case z_int => k_is)
    (case z_isinstance => k_is)
    (case z_len => k_is)
    (case z_list => k_is)
    (case z_max => k_is)
    (case z_range => k_is)
    (case z_sorted => k_is)
    (case z_sum => k_is)
    (case z_tuple => k_is)
