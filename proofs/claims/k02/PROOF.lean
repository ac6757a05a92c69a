import PyProof.Rows.All
import Wide.All
import OpenK.AllK
import Wide.FinOn
import HandS.ForMost
import HandS.ForExc
import HandS.Wide
import HandS.WideBits
import HandS.Gcd
import HandS.TupAny
import HandS.TupMul
import HandS.Deep
import HandS.IsInst
import HandS.Zip
import HandS.Style
import HandS.More
import PySem.Challenge.RW_calmspot_k02_arrows_by_turn
set_option Elab.async false
set_option linter.all false
set_option maxRecDepth 100000
set_option maxHeartbeats 4000000
namespace FL
open PySem L2
/-! ## data, environments, results -/
inductive D where
  | non | bl (b : Bool) | int (i : Int) | str (x : Str)
  | lst (xs : List D) | tup (xs : List D) | scr (ns : List Int)
  | dik (ks : List Key) (vs : List D) | dit (ks : List (List Key)) (vs : List D)
  | ins (c : Str) (fs : List Str) (vs : List D)
/-- the content of a list or dict that one slot alone holds -/
inductive Cn where
  | l (ds : List D) | t (ks : List (List Key)) (vs : List D) | k (ks : List Key) (vs : List D)
def Cn.d : Cn → D
  | .l ds => .lst ds
  | .t ks vs => .dit ks vs
  | .k ks vs => .dik ks vs
inductive Sl where
  | un | im (d : D) | ow (b : Bool) (c : Cn)
abbrev En := List Sl
inductive Res (α : Type) where
  | ok (a : α) | er (e : D) | bad
inductive Fl where
  | nx (ρ : En) | rt (d : D) | bk (ρ : En) | ct (ρ : En) | ex (e : D) (ρ : En)
section
variable (K : PySem.W.Frag) (cl : Str → Addr)
mutual
inductive Rp (F : Hp) : V → D → Prop
  | non : Rp F .non .non
  | bl (b : Bool) : Rp F (.bl b) (.bl b)
  | int (i : Int) : Rp F (.int i) (.int i)
  | str (x : Str) : Rp F (.str x) (.str x)
  | lst {a : Addr} {xs : List V} {ds : List D} : F a = some (.lst xs) → RpA F xs ds → Rp F (.ref a) (.lst ds)
  | tup {a : Addr} {xs : List V} {ds : List D} : F a = some (.tup xs) → RpA F xs ds → Rp F (.ref a) (.tup ds)
  | scr {a : Addr} {ns : List Int} : SqL K F a (ns.map V.int) → Rp F (.ref a) (.scr ns)
  | dik {a : Addr} {kvs : List (Key × V)} {ks : List Key} {ds : List D} : F a = some (.dK kvs) → kvs.map (·.1) = ks → RpA F (kvs.map (·.2)) ds → Rp F (.ref a) (.dik ks ds)
  | dit {a : Addr} {kvs : List (List Key × V)} {ks : List (List Key)} {ds : List D} : F a = some (.dT kvs) → kvs.map (·.1) = ks → RpA F (kvs.map (·.2)) ds → Rp F (.ref a) (.dit ks ds)
  | ins {a dx : Addr} {c : Str} {fs : List (Str × V)} {ns : List Str} {ds : List D} : F a = some (.ins (cl c) dx fs) → fs.map (·.1) = ns → RpA F (fs.map (·.2)) ds → Rp F (.ref a) (.ins c ns ds)
inductive RpA (F : Hp) : List V → List D → Prop
  | nil : RpA F [] []
  | cons {v : V} {vs : List V} {d : D} {ds : List D} : Rp F v d → RpA F vs ds → RpA F (v :: vs) (d :: ds)
end
def CnR (F : Hp) (c : Cn) (o : HO) : Prop := match c with
  | .l ds => ∃ vs, o = .lst vs ∧ RpA K cl F vs ds
  | .t ks ds => ∃ kvs, o = .dT kvs ∧ kvs.map (·.1) = ks ∧ RpA K cl F (kvs.map (·.2)) ds
  | .k ks ds => ∃ kvs, o = .dK kvs ∧ kvs.map (·.1) = ks ∧ RpA K cl F (kvs.map (·.2)) ds
/-- an exception's class and own dict -/
def XRp (F : Hp) (c : Value) (dd : Option Addr) (e : D) : Prop :=
  ∃ n, c = .ref (cl n) ∧ ((e = .ins n [] [] ∧ dd = none) ∨ ∃ x fs ds, dd = some x ∧ F x = some (.xd fs) ∧ RpA K cl F (fs.map (·.2)) ds ∧ e = .ins n (fs.map (·.1)) ds)
end
theorem Same.seqL {K : PySem.W.Frag} {H H' : Hp} {a : Addr} {xs : List V} (e : Same H H') (h : SqL K H a xs) : SqL K H' a xs := e.seq h
section
variable {K : PySem.W.Frag} {cl : Str → Addr} {F F' : Hp}
mutual
theorem Rp.mono (m : Same F F') : ∀ {d : D} {v : V}, Rp K cl F v d → Rp K cl F' v d
  | .non, _, h => by cases h; exact .non
  | .bl _, _, h => by cases h; exact .bl _
  | .int _, _, h => by cases h; exact .int _
  | .str _, _, h => by cases h; exact .str _
  | .lst ds, _, h => by cases h with | lst a b => exact .lst (m _ _ a) (RpA.mono m b)
  | .tup ds, _, h => by cases h with | tup a b => exact .tup (m _ _ a) (RpA.mono m b)
  | .scr ns, _, h => by cases h with | scr a => exact .scr (m.seq a)
  | .dik ks ds, _, h => by cases h with | dik a e b => exact .dik (m _ _ a) e (RpA.mono m b)
  | .dit ks ds, _, h => by cases h with | dit a e b => exact .dit (m _ _ a) e (RpA.mono m b)
  | .ins c ns ds, _, h => by cases h with | ins a e b => exact .ins (m _ _ a) e (RpA.mono m b)
theorem RpA.mono (m : Same F F') : ∀ {ds : List D} {vs : List V}, RpA K cl F vs ds → RpA K cl F' vs ds
  | [], _, h => by cases h; exact .nil
  | d :: ds, _, h => by cases h with | cons a b => exact .cons (Rp.mono m a) (RpA.mono m b)
end
theorem RpA.length : ∀ {vs : List V} {ds : List D}, RpA K cl F vs ds → vs.length = ds.length
  | _, _, .nil => rfl
  | _, _, .cons _ h => by simp [RpA.length h]
theorem RpA.get : ∀ {vs : List V} {ds : List D} {i : Nat} {v : V}, RpA K cl F vs ds → vs[i]? = some v → ∃ d, ds[i]? = some d ∧ Rp K cl F v d
  | _, _, _, _, .nil, e => by simp at e
  | _, _, 0, _, .cons a _, e => by simp at e; subst e; exact ⟨_, rfl, a⟩
  | _, _, i + 1, v, .cons _ t, e => by
    obtain ⟨d, h1, h2⟩ := RpA.get (i := i) (v := v) t (by simpa using e)
    exact ⟨d, by simpa using h1, h2⟩
theorem RpA.get' : ∀ {vs : List V} {ds : List D} {i : Nat} {d : D}, RpA K cl F vs ds → ds[i]? = some d → ∃ v, vs[i]? = some v ∧ Rp K cl F v d
  | _, _, _, _, .nil, e => by simp at e
  | _, _, 0, _, .cons a _, e => by simp at e; subst e; exact ⟨_, rfl, a⟩
  | _, _, i + 1, d, .cons _ t, e => by
    obtain ⟨v, h1, h2⟩ := RpA.get' (i := i) (d := d) t (by simpa using e)
    exact ⟨v, by simpa using h1, h2⟩
theorem RpA.app : ∀ {vs us : List V} {ds es : List D}, RpA K cl F vs ds → RpA K cl F us es → RpA K cl F (vs ++ us) (ds ++ es)
  | _, _, _, _, .nil, s => s
  | _, _, _, _, .cons a t, s => .cons a (RpA.app t s)
theorem RpA.take : ∀ {vs : List V} {ds : List D} (n : Nat), RpA K cl F vs ds → RpA K cl F (vs.take n) (ds.take n)
  | _, _, 0, _ => .nil
  | _, _, _ + 1, .nil => .nil
  | _, _, n + 1, .cons a t => .cons a (RpA.take n t)
theorem RpA.drop : ∀ {vs : List V} {ds : List D} (n : Nat), RpA K cl F vs ds → RpA K cl F (vs.drop n) (ds.drop n)
  | _, _, 0, h => h
  | _, _, _ + 1, .nil => .nil
  | _, _, n + 1, .cons a t => RpA.drop n t
theorem RpA.set : ∀ {vs : List V} {ds : List D} {v : V} {d : D} (n : Nat), RpA K cl F vs ds → Rp K cl F v d → RpA K cl F (vs.set n v) (ds.set n d)
  | _, _, _, _, _, .nil, _ => .nil
  | _, _, _, _, 0, .cons a t, h => .cons h t
  | _, _, _, _, n + 1, .cons a t, h => .cons a (RpA.set n t h)
theorem CnR.mono {c : Cn} {o : HO} (m : Same F F') (h : CnR K cl F c o) : CnR K cl F' c o := by
  cases c with
  | l ds => obtain ⟨vs, e, h⟩ := h; exact ⟨vs, e, h.mono m⟩
  | t ks ds => obtain ⟨vs, e, e2, h⟩ := h; exact ⟨vs, e, e2, h.mono m⟩
  | k ks ds => obtain ⟨vs, e, e2, h⟩ := h; exact ⟨vs, e, e2, h.mono m⟩
theorem CnR.rp {c : Cn} {o : HO} {a : Addr} (h : CnR K cl F c o) (e : F a = some o) : Rp K cl F (.ref a) c.d := by
  cases c with
  | l ds => obtain ⟨vs, rfl, h⟩ := h; exact .lst e h
  | t ks ds => obtain ⟨vs, rfl, e2, h⟩ := h; exact .dit e e2 h
  | k ks ds => obtain ⟨vs, rfl, e2, h⟩ := h; exact .dik e e2 h
theorem XRp.mono {c : Value} {dd : Option Addr} {e : D} (m : Same F F') (h : XRp K cl F c dd e) : XRp K cl F' c dd e := by
  obtain ⟨n, e1, h | ⟨x, fs, ds, e2, e3, e4, e5⟩⟩ := h
  · exact ⟨n, e1, .inl h⟩
  · exact ⟨n, e1, .inr ⟨x, fs, ds, e2, m _ _ e3, e4.mono m, e5⟩⟩
end
/-! ## the state -/
/-- B: the heap at the def's entry (kept as it is); F0: what was frozen there; F: what is frozen now -/
structure SOk (K : PySem.W.Frag) (cl : Str → Addr) (B F0 F : Hp) (σ : L2.St) (H : Hp) (ρ : En) : Prop where
  f0 : Same F0 F
  fh : Same F H
  bh : Same B H
  bf : ∀ a, B a ≠ none → F a = F0 a
  len : σ.length = ρ.length
  im : ∀ (i : Nat) (d : D), ρ[i]? = some (.im d) → ∃ v, σ[i]? = some (some v) ∧ Rp K cl F v d
  ow : ∀ (i : Nat) (b : Bool) (c : Cn), ρ[i]? = some (.ow b c) → ∃ (a : Addr) (o : HO), σ[i]? = some (some (.ref a)) ∧ F a = none ∧ B a = none ∧ H a = some o ∧ CnR K cl F c o
  ap : ∀ (i j : Nat) (b : Bool) (c : Cn) (b' : Bool) (c' : Cn) (a : Addr), i ≠ j → ρ[i]? = some (.ow b c) → ρ[j]? = some (.ow b' c') → σ[i]? = some (some (.ref a)) → σ[j]? ≠ some (some (.ref a))
/-- what an expression does to the heaps: it adds -/
structure Gr (F H F' H' : Hp) : Prop where
  f : Same F F'
  fh : Same F' H'
  h : Same H H'
  n : ∀ a, H a ≠ none → F' a = F a
theorem Gr.refl {F H : Hp} (h : Same F H) : Gr F H F H := ⟨Same.refl _, h, Same.refl _, fun _ _ => rfl⟩
theorem Gr.trans {F H F1 H1 F2 H2 : Hp} (a : Gr F H F1 H1) (b : Gr F1 H1 F2 H2) : Gr F H F2 H2 :=
  ⟨a.f.trans b.f, b.fh, a.h.trans b.h, fun x hx => by
    have h1 : H1 x ≠ none := by
      cases e : H x with
      | none => exact absurd e hx
      | some o => rw [a.h x o e]; simp
    rw [b.n x h1, a.n x hx]⟩
/-- a new object, frozen at once -/
theorem Gr.new {F H : Hp} {p : Addr} {o : HO} (fh : Same F H) (hp : H p = none) : Gr F H (upd F p o) (upd H p o) where
  f := fun a u e => by
    have : a ≠ p := fun z => by subst z; rw [fh _ _ e] at hp; cases hp
    rw [upd_ne this]; exact e
  fh := fun a u e => by
    by_cases h : a = p
    · subst h; rw [upd_same] at e ⊢; exact e
    · rw [upd_ne h] at e ⊢; exact fh _ _ e
  h := fun a u e => by
    have : a ≠ p := fun z => by subst z; rw [e] at hp; cases hp
    rw [upd_ne this]; exact e
  n := fun a ha => by
    have : a ≠ p := fun z => by subst z; exact ha hp
    rw [upd_ne this]
/-- a new object that is not frozen -/
theorem Gr.own {F H : Hp} {p : Addr} {o : HO} (fh : Same F H) (hp : H p = none) : Gr F H F (upd H p o) where
  f := Same.refl _
  fh := fun a u e => by
    have : a ≠ p := fun z => by subst z; rw [fh _ _ e] at hp; cases hp
    rw [upd_ne this]; exact fh _ _ e
  h := fun a u e => by
    have : a ≠ p := fun z => by subst z; rw [e] at hp; cases hp
    rw [upd_ne this]; exact e
  n := fun a ha => rfl
section
variable {K : PySem.W.Frag} {cl : Str → Addr} {B F0 F F' H H' : Hp} {σ : L2.St} {ρ : En}
theorem SOk.grow (s : SOk K cl B F0 F σ H ρ) (g : Gr F H F' H') : SOk K cl B F0 F' σ H' ρ where
  f0 := s.f0.trans g.f
  fh := g.fh
  bh := s.bh.trans g.h
  bf := fun a ha => by
    have h1 : H a ≠ none := by
      cases e : B a with
      | none => exact absurd e ha
      | some o => rw [s.bh a o e]; simp
    rw [g.n a h1, s.bf a ha]
  len := s.len
  im := fun i d e => by
    obtain ⟨v, h1, h2⟩ := s.im i d e
    exact ⟨v, h1, h2.mono g.f⟩
  ow := fun i b c e => by
    obtain ⟨a, o, h1, h2, h3, h4, h5⟩ := s.ow i b c e
    exact ⟨a, o, h1, by rw [g.n a (by rw [h4]; simp)]; exact h2, h3, g.h _ _ h4, h5.mono g.f⟩
  ap := s.ap
end
/-! ## expressions -/
/-- what is wanted of a result -/
def PostE (K : PySem.W.Frag) (cl : Str → Addr) (W : WX) (σ : L2.St) (F H : Hp) (r : Res D) (Q : VK) : Prop := match r with
  | .ok d => ∀ v F' H', Gr F H F' H' → Rp K cl F' v d → Q v H'
  | .er e => ∀ c dd F' H', Gr F H F' H' → XRp K cl F' c dd e → W c dd σ H'
  | .bad => False
def PostC (K : PySem.W.Frag) (cl : Str → Addr) (W : WX) (σ : L2.St) (F H : Hp) (r : Res Cn) (Q : VK) : Prop := match r with
  | .ok c => ∀ a o F' H', Gr F H F' H' → H a = none → F' a = none → H' a = some o → CnR K cl F' c o → Q (.ref a) H'
  | .er e => ∀ c dd F' H', Gr F H F' H' → XRp K cl F' c dd e → W c dd σ H'
  | .bad => False
def PostA (K : PySem.W.Frag) (cl : Str → Addr) (W : WX) (σ : L2.St) (F H : Hp) (r : Res (List D)) (Q : List V → Hp → Prop) : Prop := match r with
  | .ok ds => ∀ vs F' H', Gr F H F' H' → RpA K cl F' vs ds → Q vs H'
  | .er e => ∀ c dd F' H', Gr F H F' H' → XRp K cl F' c dd e → W c dd σ H'
  | .bad => False
def PostT (K : PySem.W.Frag) (cl : Str → Addr) (W : WX) (σ : L2.St) (F H : Hp) (r : Res Bool) (Q : Bool → Hp → Prop) : Prop := match r with
  | .ok b => ∀ F' H', Gr F H F' H' → Q b H'
  | .er e => ∀ c dd F' H', Gr F H F' H' → XRp K cl F' c dd e → W c dd σ H'
  | .bad => False
def tM (K : PySem.W.Frag) (cl : Str → Addr) (W : WX) (m : En → Res D) : TE := fun σ H Q => ∃ B F0 F ρ, SOk K cl B F0 F σ H ρ ∧ PostE K cl W σ F H (m ρ) Q
def tC' (K : PySem.W.Frag) (cl : Str → Addr) (W : WX) (m : En → Res Cn) : TE := fun σ H Q => ∃ B F0 F ρ, SOk K cl B F0 F σ H ρ ∧ PostC K cl W σ F H (m ρ) Q
def tA (K : PySem.W.Frag) (cl : Str → Addr) (W : WX) (m : En → Res (List D)) : TA := fun σ H Q => ∃ B F0 F ρ, SOk K cl B F0 F σ H ρ ∧ PostA K cl W σ F H (m ρ) Q
def tT (K : PySem.W.Frag) (cl : Str → Addr) (W : WX) (m : En → Res Bool) : TT := fun σ H Q => ∃ B F0 F ρ, SOk K cl B F0 F σ H ρ ∧ PostT K cl W σ F H (m ρ) Q
theorem _root_.L2.PE.of {X : Cx} {e : Expr} {t u : TE} (h : PE X e t) (i : ∀ σ H Q, u σ H Q → t σ H Q) : PE X e u := ⟨fun p s σ H Q I q => h.run p s σ H Q I (i σ H Q q)⟩
theorem _root_.L2.PA.of {X : Cx} {e : List Expr} {t u : TA} (h : PA X e t) (i : ∀ σ H Q, u σ H Q → t σ H Q) : PA X e u := ⟨fun pos p s σ H Q I q => h.run pos p s σ H Q I (i σ H Q q)⟩
theorem _root_.L2.PT.of {X : Cx} {e : Expr} {t u : TT} (h : PT X e t) (i : ∀ σ H Q, u σ H Q → t σ H Q) : PT X e u := ⟨fun p s σ H Q I q => h.run p s σ H Q I (i σ H Q q)⟩
theorem _root_.L2.PW.of {X : Cx} {e : Expr} {t u : TT} (h : PW X e t) (i : ∀ σ H Q, u σ H Q → t σ H Q) : PW X e u := ⟨fun w p s σ H Q I q => h.run w p s σ H Q I (i σ H Q q)⟩
theorem _root_.L2.PS.of {X : Cx} {e : Stmt} {t u : TS} (h : PS X e t) (i : ∀ D σ H, u D σ H → t D σ H) : PS X e u := ⟨fun p s σ H D I q => h.run p s σ H D I (i D σ H q)⟩
theorem _root_.L2.PSs.of {X : Cx} {e : List Stmt} {t u : TS} (h : PSs X e t) (i : ∀ D σ H, u D σ H → t D σ H) : PSs X e u := ⟨fun p s σ H D I q => h.run p s σ H D I (i D σ H q)⟩
def Res.bind {α β : Type} (r : Res α) (f : α → Res β) : Res β := match r with
  | .ok a => f a
  | .er e => .er e
  | .bad => .bad
def Res.ofO {α : Type} : Option α → Res α
  | some a => .ok a
  | none => .bad
def mVar (i : Nat) : En → Res D := fun ρ => match ρ[i]? with
  | some (.im d) => .ok d
  | _ => .bad
def mC (d : D) : En → Res D := fun _ => .ok d
def mOp1 (f : D → Option D) (ma : En → Res D) : En → Res D := fun ρ => (ma ρ).bind fun x => .ofO (f x)
def mOp2 (f : D → D → Option D) (ma mb : En → Res D) : En → Res D := fun ρ => (ma ρ).bind fun x => (mb ρ).bind fun y => .ofO (f x y)
def mNil : En → Res (List D) := fun _ => .ok []
def mCons (m : En → Res D) (ms : En → Res (List D)) : En → Res (List D) := fun ρ => (m ρ).bind fun x => (ms ρ).bind fun xs => .ok (x :: xs)
def mTup (ms : En → Res (List D)) : En → Res D := fun ρ => (ms ρ).bind fun xs => if xs.length < 16777216 then .ok (.tup xs) else .bad
def mLst (ms : En → Res (List D)) : En → Res Cn := fun ρ => (ms ρ).bind fun xs => if xs.length < 16777216 then .ok (.l xs) else .bad
/-- a fresh list, frozen -/
def mFz (m : En → Res Cn) : En → Res D := fun ρ => (m ρ).bind fun c => .ok c.d
section
variable {X : Cx} {cl : Str → Addr} {W : WX} {e a b : Expr} {es : List Expr} {ma mb m : En → Res D} {ms : En → Res (List D)} {pos : Pos}
abbrev SE (X : Cx) (cl : Str → Addr) (W : WX) (e : Expr) (m : En → Res D) : Prop := PE X e (tM X.K cl W m)
abbrev SC (X : Cx) (cl : Str → Addr) (W : WX) (e : Expr) (m : En → Res Cn) : Prop := PE X e (tC' X.K cl W m)
abbrev SA (X : Cx) (cl : Str → Addr) (W : WX) (es : List Expr) (m : En → Res (List D)) : Prop := PA X es (tA X.K cl W m)
abbrev SB (X : Cx) (cl : Str → Addr) (W : WX) (e : Expr) (m : En → Res Bool) : Prop := PT X e (tT X.K cl W m)
theorem so_var (i : Nat) (h : PE X e (tVar i)) : SE X cl W e (mVar i) := h.of fun σ H Q ⟨B, F0, F, ρ, s, p⟩ => by
  unfold mVar at p
  split at p
  · rename_i d e
    obtain ⟨v, h1, h2⟩ := s.im i d e
    exact ⟨v, h1, p v F H (.refl s.fh) h2⟩
  · exact p.elim
theorem so_c {v : V} {d : D} (h : PE X e (L2.tC v)) (r : ∀ F, Rp X.K cl F v d) : SE X cl W e (mC d) := h.of fun σ H Q ⟨B, F0, F, ρ, s, p⟩ => p v F H (.refl s.fh) (r F)
theorem so_int {i j pos} : SE X cl W (.Constant (.int i) j pos) (mC (.int i)) := so_c pe_int fun _ => .int i
theorem so_bl {i j pos} : SE X cl W (.Constant (.bool i) j pos) (mC (.bl i)) := so_c pe_bl fun _ => .bl i
theorem so_non {j pos} : SE X cl W (.Constant .none j pos) (mC .non) := so_c pe_non fun _ => .non
theorem so_str {i j pos} : SE X cl W (.Constant (.str i) j pos) (mC (.str i)) := so_c pe_str fun _ => .str i
/-- the first part of two -/
theorem step1 {K : PySem.W.Frag} {σ : L2.St} {B F0 F H : Hp} {ρ : En} {r : Res D} {g : D → Res D} {Q : VK} (s : SOk K cl B F0 F σ H ρ) (p : PostE K cl W σ F H (r.bind g) Q) :
    PostE K cl W σ F H r fun v H' => ∃ d F', r = .ok d ∧ Gr F H F' H' ∧ Rp K cl F' v d ∧ PostE K cl W σ F' H' (g d) Q := by
  cases r with
  | bad => exact p
  | er e => exact p
  | ok d =>
    intro v F' H' g1 h1
    refine ⟨d, F', rfl, g1, h1, ?_⟩
    show PostE K cl W σ F' H' (g d) Q
    have p : PostE K cl W σ F H (g d) Q := p
    cases q : g d with
    | bad => rw [q] at p; exact p
    | er e => rw [q] at p; exact fun c dd F2 H2 g2 h2 => p c dd F2 H2 (g1.trans g2) h2
    | ok d2 => rw [q] at p; exact fun v F2 H2 g2 h2 => p v F2 H2 (g1.trans g2) h2
/-- what is wanted of an operation's answer -/
def PostO (K : PySem.W.Frag) (cl : Str → Addr) (F H : Hp) (r : Option D) (Q : VK) : Prop := match r with
  | some d => ∀ v F' H', Gr F H F' H' → Rp K cl F' v d → Q v H'
  | none => False
theorem PostO.of {K : PySem.W.Frag} {σ : L2.St} {F H : Hp} {r : Option D} {Q : VK} (p : PostE K cl W σ F H (.ofO r) Q) : PostO K cl F H r Q := by
  cases r with
  | none => exact p
  | some d => exact p
def Op1 (K : PySem.W.Frag) (cl : Str → Addr) (r : V → Hp → VK → Prop) (f : D → Option D) : Prop := ∀ F H x dx Q, Same F H → Rp K cl F x dx → PostO K cl F H (f dx) Q → r x H Q
def Op2 (K : PySem.W.Frag) (cl : Str → Addr) (r : R2) (f : D → D → Option D) : Prop := ∀ F H x y dx dy Q, Same F H → Rp K cl F x dx → Rp K cl F y dy → PostO K cl F H (f dx dy) Q → r x y H Q
theorem op1_in {r : V → Hp → VK → Prop} {f : D → Option D} (hr : Op1 X.K cl r f) : ∀ σ H Q, tM X.K cl W (mOp1 f ma) σ H Q → tUn r (tM X.K cl W ma) σ H Q := by
  rintro σ H Q ⟨B, F0, F, ρ, s, p⟩
  refine ⟨B, F0, F, ρ, s, ?_⟩
  have p1 := step1 s p
  cases q : ma ρ with
  | bad => rw [q] at p1; exact p1
  | er e => rw [q] at p1; exact p1
  | ok d =>
    rw [q] at p1
    intro v F' H' g1 h1
    obtain ⟨d', F2, e, g2, h2, p2⟩ := p1 v F' H' g1 h1
    exact hr F2 H' v d' Q g2.fh h2 (.of p2)
theorem op2_in {r : R2} {f : D → D → Option D} (hr : Op2 X.K cl r f) : ∀ σ H Q, tM X.K cl W (mOp2 f ma mb) σ H Q → tOp r (tM X.K cl W ma) (tM X.K cl W mb) σ H Q := by
  rintro σ H Q ⟨B, F0, F, ρ, s, p⟩
  refine ⟨B, F0, F, ρ, s, ?_⟩
  have p1 := step1 s p
  cases q : ma ρ with
  | bad => rw [q] at p1; exact p1
  | er e => rw [q] at p1; exact p1
  | ok d =>
    rw [q] at p1
    intro v F' H' g1 h1
    obtain ⟨d', F2, e, g2, h2, p2⟩ := p1 v F' H' g1 h1
    have s2 := s.grow g2
    refine ⟨B, F0, F2, ρ, s2, ?_⟩
    have p3 := step1 s2 p2
    cases q2 : mb ρ with
    | bad => rw [q2] at p3; exact p3
    | er e => rw [q2] at p3; exact p3
    | ok d2 =>
      rw [q2] at p3
      intro u F3 H3 g3 h3
      obtain ⟨d'', F4, e4, g4, h4, p4⟩ := p3 u F3 H3 g3 h3
      exact hr F4 H3 v u d' d'' Q g4.fh (h2.mono g4.f) h4 (.of p4)
theorem so_bin {op : Operator} {r : R2} {f : D → D → Option D} (ho : OpR X (binaryOp op) r) (hr : Op2 X.K cl r f) (ha : SE X cl W a ma) (hb : SE X cl W b mb) : SE X cl W (.BinOp a op b pos) (mOp2 f ma mb) :=
  (pe_op ho ha hb).of (op2_in hr)
theorem so_un {op : UnaryOp} {r : V → Hp → VK → Prop} {f : D → Option D} (ho : UnR X (unaryOp op) r) (hr : Op1 X.K cl r f) (ha : SE X cl W a ma) : SE X cl W (.UnaryOp op a pos) (mOp1 f ma) :=
  (pe_un ho ha).of (op1_in hr)
theorem so_cmp {op : CmpOp} {r : R2} {f : D → D → Option D} (ho : OpR X (compareOp op) r) (hr : Op2 X.K cl r f) (ha : SE X cl W a ma) (hb : SE X cl W b mb) (hm : behindInMarks op b = false) : SE X cl W (.Compare a [op] [b] pos) (mOp2 f ma mb) :=
  (pe_cmpR ho ha hb hm).of (op2_in hr)
theorem so_ix {r : R2} {f : D → D → Option D} (ho : IxR X r) (hr : Op2 X.K cl r f) (ha : SE X cl W a ma) (hb : SE X cl W b mb) (hs : PlainIx b) : SE X cl W (.Subscript a b pos) (mOp2 f ma mb) :=
  (pe_ix ho ha hb hs).of (op2_in hr)
/-! argument lists -/
theorem sa_nil : SA X cl W [] mNil := pa_nil.of fun σ H Q ⟨B, F0, F, ρ, s, p⟩ => p [] F H (.refl s.fh) .nil
theorem sa_cons (ha : SE X cl W e m) (hr : SA X cl W es ms) (hs : starEach (e :: es) X.env = (false, eval e X.env) :: starEach es X.env := by rfl) : SA X cl W (e :: es) (mCons m ms) := by
  refine (pa_cons ha hr hs).of ?_
  rintro σ H Q ⟨B, F0, F, ρ, s, p⟩
  refine ⟨B, F0, F, ρ, s, ?_⟩
  unfold mCons at p
  cases q : m ρ with
  | bad => rw [q] at p; exact p
  | er e => rw [q] at p; exact p
  | ok d =>
    rw [q] at p
    intro v F' H' g1 h1
    refine ⟨B, F0, F', ρ, s.grow g1, ?_⟩
    have p : PostA X.K cl W σ F H ((ms ρ).bind fun xs => .ok (d :: xs)) Q := p
    cases q2 : ms ρ with
    | bad => rw [q2] at p; exact p
    | er e => rw [q2] at p; exact fun c dd F2 H2 g2 h2 => p c dd F2 H2 (g1.trans g2) h2
    | ok ds => rw [q2] at p; exact fun vs F2 H2 g2 h2 => p (v :: vs) F2 H2 (g1.trans g2) (.cons (h1.mono g2.f) h2)
theorem so_tup {x1} (h : SA X cl W es ms) : SE X cl W (.Tuple es x1 pos) (mTup ms) := by
  refine (pe_tup h).of ?_
  rintro σ H Q ⟨B, F0, F, ρ, s, p⟩
  refine ⟨B, F0, F, ρ, s, ?_⟩
  unfold mTup at p
  cases q : ms ρ with
  | bad => rw [q] at p; exact p
  | er e => rw [q] at p; exact p
  | ok ds =>
    rw [q] at p
    intro vs F' H' g1 h1
    have p : PostE X.K cl W σ F H (if ds.length < 16777216 then .ok (.tup ds) else .bad) Q := p
    by_cases hl : ds.length < 16777216
    · rw [if_pos hl] at p
      refine ⟨by rw [h1.length, sizeLine_eq]; omega, fun pp hp => ?_⟩
      have g2 := Gr.new (o := .tup vs) g1.fh hp
      exact p _ _ _ (g1.trans g2) (.tup upd_same (h1.mono g2.f))
    · rw [if_neg hl] at p; exact p.elim
theorem sc_lst (h : SA X cl W es ms) : SC X cl W (.List es pos) (mLst ms) := by
  refine (pe_lst h).of ?_
  rintro σ H Q ⟨B, F0, F, ρ, s, p⟩
  refine ⟨B, F0, F, ρ, s, ?_⟩
  unfold mLst at p
  cases q : ms ρ with
  | bad => rw [q] at p; exact p
  | er e => rw [q] at p; exact p
  | ok ds =>
    rw [q] at p
    intro vs F' H' g1 h1
    have p : PostC X.K cl W σ F H (if ds.length < 16777216 then .ok (.l ds) else .bad) Q := p
    by_cases hl : ds.length < 16777216
    · rw [if_pos hl] at p
      refine ⟨by rw [h1.length, sizeLine_eq]; omega, fun pp hp => ?_⟩
      have g2 := Gr.own (o := .lst vs) g1.fh hp
      have hH : H pp = none := Same.free g1.h hp
      exact p pp _ _ _ (g1.trans g2) hH (by cases z : F' pp with | none => rfl | some o => rw [g1.fh _ _ z] at hp; cases hp) upd_same ⟨vs, rfl, h1⟩
    · rw [if_neg hl] at p; exact p.elim
/-- freezing what is fresh -/
theorem so_fz {m : En → Res Cn} (h : SC X cl W e m) : SE X cl W e (mFz m) := by
  refine PE.of h ?_
  rintro σ H Q ⟨B, F0, F, ρ, s, p⟩
  refine ⟨B, F0, F, ρ, s, ?_⟩
  unfold mFz at p
  cases q : m ρ with
  | bad => rw [q] at p; exact p
  | er e => rw [q] at p; exact p
  | ok c =>
    rw [q] at p
    have p : ∀ v F' H', Gr F H F' H' → Rp X.K cl F' v c.d → Q v H' := p
    intro a o F' H' g hn hf ho hc
    have m1 : Same F' (upd F' a o) := fun b u e => by
      have : b ≠ a := fun z => by subst z; rw [e] at hf; cases hf
      rw [upd_ne this]; exact e
    refine p (.ref a) (upd F' a o) H' ⟨g.f.trans m1, fun b u e => ?_, g.h, fun b hb => ?_⟩ ((hc.mono m1).rp upd_same)
    · by_cases z : b = a
      · subst z; rw [upd_same] at e; cases e; exact ho
      · rw [upd_ne z] at e; exact g.fh _ _ e
    · have : b ≠ a := fun z => by subst z; exact hb hn
      rw [upd_ne this]; exact g.n b hb
end
end FL
namespace L2
open PySem PySem.Spec PyProof.Rows
theorem tuple_mulW1 (l : Addr) (items : Array Value) (n : Nat) (dd : Option Addr) (sl : Array (Option Value)) (x : Int) (u : Tok) (c0 : (decide (x < -(2 ^ 63)) || decide (x ≥ 2 ^ 63)) = false) (c1 : (items.isEmpty || x == 1) = true) :
    Meets (Builtin.«tuple.__mul__» ⟨[.ref l, .int x u], []⟩) (fun _ R s => s.heap.get? l = some { cls := .type "tuple", dict := dd, data := .seq items n, slots := sl } ∧
      R (.ok (.ret (Value.ref l))) s) :=
  .of_wp fun prog w A R s h => by
    obtain ⟨hp, g, d, tk, os⟩ := s
    obtain ⟨hl, h⟩ := h
    have f1 := AutoSeq1.idx_int
    wp_walk using wpAny_loadPart' hl
    repeat (first
      | (refine wpAny_ite_false (decide_eq_false (by rw [c0]; exact Bool.false_ne_true)) ?_; wp_walk using wpAny_loadPart' hl)
      | (refine wpAny_ite_true (decide_eq_true c1) ?_; wp_walk using wpAny_loadPart' hl))
    exact ⟨_, rfl, h⟩
theorem tuple_mulW0 (l : Addr) (items : Array Value) (n : Nat) (dd : Option Addr) (sl : Array (Option Value)) (x : Int) (u : Tok) (c0 : (decide (x < -(2 ^ 63)) || decide (x ≥ 2 ^ 63)) = false) (c1 : (items.isEmpty || x == 1) = false) (c2 : (decide (x ≤ 0) || items.isEmpty) = true) :
    Meets (Builtin.«tuple.__mul__» ⟨[.ref l, .int x u], []⟩) (fun _ R s => s.heap.get? l = some { cls := .type "tuple", dict := dd, data := .seq items n, slots := sl } ∧
      R (.ok (.ret (Value.ref s.heap.objs.size))) { s with heap := s.heap.push { cls := Value.type "tuple", data := Data.seq #[] }, toks := s.toks }) :=
  .of_wp fun prog w A R s h => by
    obtain ⟨hp, g, d, tk, os⟩ := s
    obtain ⟨hl, h⟩ := h
    have f1 := AutoSeq1.idx_int
    wp_walk using wpAny_loadPart' hl
    repeat (first
      | (refine wpAny_ite_false (decide_eq_false (by rw [c0]; exact Bool.false_ne_true)) ?_; wp_walk using wpAny_loadPart' hl)
      | (refine wpAny_ite_false (decide_eq_false (by rw [c1]; exact Bool.false_ne_true)) ?_; wp_walk using wpAny_loadPart' hl)
      | (refine wpAny_ite_true (decide_eq_true c2) ?_; wp_walk using wpAny_loadPart' hl))
    exact ⟨_, rfl, h⟩
def rRepT1 (K : PySem.W.Frag) : R2 := fun x y H Q => ∃ l k xs, x = .ref l ∧ y = .int k ∧ SqT K H l xs ∧ k = 1 ∧ Q (.ref l) H
def rRepT0 (K : PySem.W.Frag) : R2 := fun x y H Q => ∃ l k xs, x = .ref l ∧ y = .int k ∧ SqT K H l xs ∧ xs ≠ [] ∧ -(2 ^ 63) ≤ k ∧ k ≤ 0 ∧ ∀ p, H p = none → Q (.ref p) (upd H p (.tup []))
section
variable {X : Cx}
theorem op_repT1 : OpR X (binaryOp .Mult) (rRepT1 X.K) := by
  intro pins s σ H x y v u Q I rx ry h
  obtain ⟨l, k, xs, rfl, rfl, hT, h1, q⟩ := h
  cases rx
  obtain ⟨t, rfl⟩ := ry
  subst h1
  obtain ⟨its, r, ⟨⟨cls, dd, data, sl⟩, ho, hc, n, hd⟩, hs⟩ := I.tuple hT
  simp only at hc hd
  subst hc hd
  have c1 : (its.toArray.isEmpty || (1 : Int) == 1) = true := by simp
  refine wpAny_binaryOp_repeat_ref (T := "tuple") (U := "int") (by decide) ⟨_, ho, rfl⟩ (fun s' => typeIs_int s' 1 t) noFill_tuple_mul F.fills_int_mul F.slot_int_rmul repeat_tuple F.slot_int_index.lookup
    (call_meets F.slot_int_rmul (typeIs_int s 1 t) F.entry_int_rmul (F.args_int_rmul_2 _ _) (int_rmul_tuple 1 t l its.toArray n dd sl)
      ⟨ho, rfl, ⟨_, ho, rfl⟩, call_meets F.slot_tuple_mul ⟨_, ho, rfl⟩ F.entry_tuple_mul (F.args_tuple_mul_2 _ _) (tuple_mulW1 l its.toArray n dd sl 1 t (by decide) c1) ⟨ho, ?_⟩⟩)
  exact ⟨.ref l, H, I, rfl, q⟩
theorem op_repT0 : OpR X (binaryOp .Mult) (rRepT0 X.K) := by
  intro pins s σ H x y v u Q I rx ry h
  obtain ⟨l, k, xs, rfl, rfl, hT, hne, h1, h2, q⟩ := h
  cases rx
  obtain ⟨t, rfl⟩ := ry
  obtain ⟨its, r, ⟨⟨cls, dd, data, sl⟩, ho, hc, n, hd⟩, hs⟩ := I.tuple hT
  simp only at hc hd
  subst hc hd
  have hle : its.length = xs.length := r.length.symm
  have hn : its ≠ [] := fun e => hne (by
    rw [e] at hle
    exact List.eq_nil_of_length_eq_zero hle.symm)
  have hi : its.toArray.isEmpty = false := by
    cases its with
    | nil => exact absurd rfl hn
    | cons a b => rfl
  have c0 : (decide (k < -(2 ^ 63)) || decide (k ≥ 2 ^ 63)) = false := by
    rw [decide_eq_false (by omega), decide_eq_false (by omega)] <;> rfl
  have c1 : (its.toArray.isEmpty || k == 1) = false := by
    rw [hi, Bool.false_or]
    exact beq_eq_false_iff_ne.mpr (by omega)
  have c2 : (decide (k ≤ 0) || its.toArray.isEmpty) = true := by
    rw [decide_eq_true h2]; rfl
  refine wpAny_binaryOp_repeat_ref (T := "tuple") (U := "int") (by decide) ⟨_, ho, rfl⟩ (fun s' => typeIs_int s' k t) noFill_tuple_mul F.fills_int_mul F.slot_int_rmul repeat_tuple F.slot_int_index.lookup
    (call_meets F.slot_int_rmul (typeIs_int s k t) F.entry_int_rmul (F.args_int_rmul_2 _ _) (int_rmul_tuple k t l its.toArray n dd sl)
      ⟨ho, rfl, ⟨_, ho, rfl⟩, call_meets F.slot_tuple_mul ⟨_, ho, rfl⟩ F.entry_tuple_mul (F.args_tuple_mul_2 _ _) (tuple_mulW0 l its.toArray n dd sl k t c0 c1 c2) ⟨ho, ?_⟩⟩)
  refine ⟨.ref s.heap.objs.size, _, I.laid (t' := s.toks) (o := .tup []) (fun b ob q => Heap.get?_push_of_some _ q) (Nat.le_refl _) ?_, rfl, q _ (I.hok.fresh (Nat.le_refl _))⟩
  exact ⟨Nat.zero_le _, [], .nil, IsTup.new _ _⟩
end
end L2
namespace FL
open PySem L2
/-! ## equality of data -/
mutual
def D.eqv : D → D → Bool
  | .non, .non => true
  | .bl a, .bl b => a == b
  | .bl a, .int j => (if a then 1 else 0) == j
  | .int i, .bl b => i == (if b then 1 else 0)
  | .int i, .int j => i == j
  | .str x, .str y => x == y
  | .lst xs, .lst ys => D.eqvA xs ys
  | .tup xs, .tup ys => D.eqvA xs ys
  | _, _ => false
def D.eqvA : List D → List D → Bool
  | [], [] => true
  | x :: xs, y :: ys => D.eqv x y && D.eqvA xs ys
  | _, _ => false
end
mutual
def D.shp : D → Nat → Bool
  | .non, _ => true
  | .bl _, _ => true
  | .int _, _ => true
  | .str x, _ => PyData.strOk x
  | .lst xs, n + 1 => D.shpA xs n
  | .tup xs, n + 1 => D.shpA xs n
  | _, _ => false
def D.shpA : List D → Nat → Bool
  | [], _ => true
  | x :: xs, n => D.shp x n && D.shpA xs n
end
mutual
def D.py : D → PyData
  | .non => .none
  | .bl b => .bool b
  | .int i => .int i
  | .str x => .str x
  | .lst xs => .list (D.pyA xs)
  | .tup xs => .tuple (D.pyA xs)
  | _ => .dict []
def D.pyA : List D → List PyData
  | [] => []
  | x :: xs => D.py x :: D.pyA xs
end
mutual
theorem shp_ok : ∀ (d : D) (n : Nat), d.shp n = true → d.py.canLay0 = true ∧ d.py.depth ≤ n
  | .non, n, h => ⟨rfl, Nat.zero_le _⟩
  | .bl b, n, h => ⟨rfl, Nat.zero_le _⟩
  | .int i, n, h => ⟨rfl, Nat.zero_le _⟩
  | .str x, n, h => ⟨by simpa [D.py, PyData.canLay0, D.shp] using h, Nat.zero_le _⟩
  | .lst xs, n + 1, h => by
    have := shpA_ok xs n (by simpa [D.shp] using h)
    exact ⟨by simpa [D.py, PyData.canLay0] using this.1, by simpa [D.py, PyData.depth] using this.2⟩
  | .tup xs, n + 1, h => by
    have := shpA_ok xs n (by simpa [D.shp] using h)
    exact ⟨by simpa [D.py, PyData.canLay0] using this.1, by simpa [D.py, PyData.depth] using this.2⟩
  | .lst xs, 0, h => by simp [D.shp] at h
  | .tup xs, 0, h => by simp [D.shp] at h
  | .scr _, n, h => by cases n <;> simp [D.shp] at h
  | .dik _ _, n, h => by cases n <;> simp [D.shp] at h
  | .dit _ _, n, h => by cases n <;> simp [D.shp] at h
  | .ins _ _ _, n, h => by cases n <;> simp [D.shp] at h
theorem shpA_ok : ∀ (ds : List D) (n : Nat), D.shpA ds n = true → PyData.canLayAll0 (D.pyA ds) = true ∧ PyData.depthAll (D.pyA ds) ≤ n
  | [], n, h => ⟨rfl, Nat.zero_le _⟩
  | d :: ds, n, h => by
    simp only [D.shpA, Bool.and_eq_true] at h
    have h1 := shp_ok d n h.1
    have h2 := shpA_ok ds n h.2
    refine ⟨by simp [D.pyA, PyData.canLayAll0, h1.1, h2.1], ?_⟩
    simp only [D.pyA, PyData.depthAll]
    omega
end
mutual
theorem rp_dp {K : PySem.W.Frag} {cl : Str → Addr} {F H : Hp} (m : Same F H) : ∀ (d : D) (n : Nat) (v : V), d.shp n = true → Rp K cl F v d → Dp K H v d.py
  | .non, n, v, h, r => by cases r; exact .non
  | .bl b, n, v, h, r => by cases r; exact .bl _
  | .int i, n, v, h, r => by cases r; exact .int _
  | .str x, n, v, h, r => by cases r; exact .str _
  | .lst xs, n + 1, v, h, r => by
    cases r with
    | lst a b => exact .lst (SqL.of (m _ _ a)) (rpA_dp m xs n _ (by simpa [D.shp] using h) b)
  | .tup xs, n + 1, v, h, r => by
    cases r with
    | tup a b => exact .tup (SqT.of (m _ _ a)) (rpA_dp m xs n _ (by simpa [D.shp] using h) b)
  | .lst xs, 0, v, h, r => by simp [D.shp] at h
  | .tup xs, 0, v, h, r => by simp [D.shp] at h
  | .scr _, n, v, h, r => by cases n <;> simp [D.shp] at h
  | .dik _ _, n, v, h, r => by cases n <;> simp [D.shp] at h
  | .dit _ _, n, v, h, r => by cases n <;> simp [D.shp] at h
  | .ins _ _ _, n, v, h, r => by cases n <;> simp [D.shp] at h
theorem rpA_dp {K : PySem.W.Frag} {cl : Str → Addr} {F H : Hp} (m : Same F H) : ∀ (ds : List D) (n : Nat) (vs : List V), D.shpA ds n = true → RpA K cl F vs ds → DpAll K H vs (D.pyA ds)
  | [], n, vs, h, r => by cases r; exact .nil
  | d :: ds, n, vs, h, r => by
    simp only [D.shpA, Bool.and_eq_true] at h
    cases r with
    | cons a b => exact .cons (rp_dp m d n _ h.1 a) (rpA_dp m ds n _ h.2 b)
end
mutual
theorem eqv_py : ∀ (d e : D) (n k : Nat), d.shp n = true → e.shp k = true → PyData.eqv d.py e.py = D.eqv d e := fun d e n k h1 h2 => by
  cases d <;> cases e <;> first
    | rfl
    | (cases n <;> simp [D.shp] at h1; done)
    | (cases k <;> simp [D.shp] at h2; done)
    | (cases n with
       | zero => simp [D.shp] at h1
       | succ n => cases k with
         | zero => simp [D.shp] at h2
         | succ k =>
           simp only [D.shp] at h1 h2
           simp only [D.py, PyData.eqv, D.eqv]
           exact eqvA_py _ _ n k h1 h2)
    | (cases n <;> simp [D.shp] at h1 <;> simp [D.py, PyData.eqv, D.eqv]; done)
    | (cases k <;> simp [D.shp] at h2 <;> simp [D.py, PyData.eqv, D.eqv]; done)
theorem eqvA_py : ∀ (ds es : List D) (n k : Nat), D.shpA ds n = true → D.shpA es k = true → PyData.eqvAll (D.pyA ds) (D.pyA es) = D.eqvA ds es
  | [], [], _, _, _, _ => rfl
  | [], _ :: _, _, _, _, _ => rfl
  | _ :: _, [], _, _, _, _ => rfl
  | d :: ds, e :: es, n, k, h1, h2 => by
    simp only [D.shpA, Bool.and_eq_true] at h1 h2
    simp only [D.pyA, PyData.eqvAll, D.eqvA]
    rw [eqv_py d e n k h1.1 h2.1, eqvA_py ds es n k h1.2 h2.2]
end
def shp (d : D) : Bool := d.shp 64
theorem shp_sh {d : D} (h : shp d = true) : SeqAt.shaped d.py = true := by
  obtain ⟨h1, h2⟩ := shp_ok d 64 h
  unfold SeqAt.shaped
  rw [h1, Bool.true_and]
  exact decide_eq_true h2
theorem shp_eqv {d e : D} (h : shp d = true) (h' : shp e = true) : PyData.eqv d.py e.py = D.eqv d e := eqv_py d e 64 64 h h'
theorem shp_dp {K : PySem.W.Frag} {cl : Str → Addr} {F H : Hp} {d : D} {v : V} (m : Same F H) (h : shp d = true) (r : Rp K cl F v d) : Dp K H v d.py := rp_dp m d 64 v h r
/-! ## operations -/
def okMul (i j : Int) : Bool := decide (Builtin.Int.intBits i + Builtin.Int.intBits j ≤ 134217728)
def okDiv (i j : Int) : Bool := decide (j ≠ 0) && !Builtin.divisionGoesByPylong i j
def repD (ds : List D) (k : Int) : List D := (List.replicate k.toNat ds).flatten
def fAdd : D → D → Option D
  | .int i, .int j => some (.int (i + j))
  | .tup xs, .tup ys => if xs.length + ys.length < 16777216 then some (.tup (xs ++ ys)) else none
  | .lst xs, .lst ys => if xs.length + ys.length < 16777216 then some (.lst (xs ++ ys)) else none
  | .str x, .str y => if x.length + y.length < 16777216 then some (.str (x ++ y)) else none
  | _, _ => none
def fSub : D → D → Option D
  | .int i, .int j => some (.int (i - j))
  | _, _ => none
def fMul : D → D → Option D
  | .int i, .int j => if okMul i j then some (.int (i * j)) else none
  | .tup xs, .int k => if decide (-1000 ≤ k) && decide (k ≤ 1000) && decide (xs.length ≤ 1000) && !xs.isEmpty then some (.tup (repD xs k)) else none
  | .lst xs, .int k => if decide (-1000 ≤ k) && decide (k ≤ 1000) && decide (xs.length ≤ 1000) then some (.lst (repD xs k)) else none
  | _, _ => none
def fFdiv : D → D → Option D
  | .int i, .int j => if okDiv i j then some (.int (i.fdiv j)) else none
  | _, _ => none
def fMod : D → D → Option D
  | .int i, .int j => if j ≠ 0 then some (.int (i.fmod j)) else none
  | _, _ => none
def okPow (i j : Int) : Bool := decide (0 ≤ j) && decide (j ≤ 1000000) && decide (i.natAbs < 2 ^ 64)
def fPow : D → D → Option D
  | .int i, .int j => if okPow i j then some (.int (i ^ j.toNat)) else none
  | _, _ => none
def fShl : D → D → Option D
  | .int i, .int j => if okPow i j then some (.int (i * 2 ^ j.toNat)) else none
  | _, _ => none
def fShr : D → D → Option D
  | .int i, .int j => if 0 ≤ j then some (.int (i / 2 ^ j.toNat)) else none
  | _, _ => none
def fAnd : D → D → Option D
  | .int i, .int j => some (.int (Builtin.bitAnd i j))
  | _, _ => none
def fOr : D → D → Option D
  | .int i, .int j => some (.int (Builtin.bitOr i j))
  | _, _ => none
def fXor : D → D → Option D
  | .int i, .int j => some (.int (Builtin.bitXor i j))
  | _, _ => none
def fNeg : D → Option D
  | .int i => some (.int (-i))
  | _ => none
def fLt : D → D → Option D
  | .int i, .int j => some (.bl (decide (i < j)))
  | _, _ => none
def fLe : D → D → Option D
  | .int i, .int j => some (.bl (decide (i ≤ j)))
  | _, _ => none
def fGt : D → D → Option D
  | .int i, .int j => some (.bl (decide (j < i)))
  | _, _ => none
def fGe : D → D → Option D
  | .int i, .int j => some (.bl (decide (j ≤ i)))
  | _, _ => none
def fEq (x y : D) : Option D := if shp x && shp y then some (.bl (D.eqv x y)) else none
def fNe (x y : D) : Option D := if shp x && shp y then some (.bl (!D.eqv x y)) else none
def fIsN (x : D) (y : D) : Option D := match y with
  | .non => match x with
    | .non => some (.bl true)
    | _ => some (.bl false)
  | _ => none
def fNotN (x : D) (y : D) : Option D := match y with
  | .non => match x with
    | .non => some (.bl false)
    | _ => some (.bl true)
  | _ => none
def inD (x : D) (ds : List D) : Bool := ds.any fun z => D.eqv z x
def fIn : D → D → Option D
  | x, .lst ds => if shp x && shp (.lst ds) then some (.bl (inD x ds)) else none
  | x, .tup ds => if shp x && shp (.tup ds) then some (.bl (inD x ds)) else none
  | _, _ => none
def fNotIn : D → D → Option D
  | x, .lst ds => if shp x && shp (.lst ds) then some (.bl (!inD x ds)) else none
  | x, .tup ds => if shp x && shp (.tup ds) then some (.bl (!inD x ds)) else none
  | _, _ => none
def fIx : D → D → Option D
  | .lst ds, .int i => atI ds i
  | .tup ds, .int i => atI ds i
  | .scr ns, .int i => (atI ns i).map .int
  | _, _ => none
section
variable {K : PySem.W.Frag} {cl : Str → Addr} {X : Cx}
theorem PostO.int {F H : Hp} {d : D} {v : V} {Q : VK} (m : Same F H) (p : PostO K cl F H (some d) Q) (r : Rp K cl F v d) : Q v H := p v F H (.refl m) r
theorem PostO.new {F H : Hp} {d : D} {Q : VK} {o : HO} {p : Addr} (m : Same F H) (q : PostO K cl F H (some d) Q) (hp : H p = none) (r : ∀ F', Same F F' → F' p = some o → Rp K cl F' (.ref p) d) : Q (.ref p) (upd H p o) := by
  have g := Gr.new (o := o) m hp
  exact q _ _ _ g (r _ g.f upd_same)
/-- an operation on two ints alone -/
theorem op2_I {f : D → D → Option D} {C : Int → Int → Prop} {k : Int → Int → V} {kd : Int → Int → D}
    (hf : ∀ x y z, f x y = some z → ∃ i j, x = .int i ∧ y = .int j ∧ C i j ∧ z = kd i j) (hk : ∀ F i j, Rp K cl F (k i j) (kd i j)) : Op2 K cl (rI C k) f := by
  intro F H x y dx dy Q m rx ry p
  cases q : f dx dy with
  | none => rw [q] at p; exact p.elim
  | some z =>
    rw [q] at p
    obtain ⟨i, j, rfl, rfl, hc, rfl⟩ := hf _ _ _ q
    cases rx; cases ry
    exact ⟨i, j, rfl, rfl, hc, p.int m (hk F i j)⟩
theorem op2_I0 {f : D → D → Option D} {k : Int → Int → V} {kd : Int → Int → D}
    (hf : ∀ x y z, f x y = some z → ∃ i j, x = .int i ∧ y = .int j ∧ z = kd i j) (hk : ∀ F i j, Rp K cl F (k i j) (kd i j)) : Op2 K cl (rI0 k) f := by
  intro F H x y dx dy Q m rx ry p
  cases q : f dx dy with
  | none => rw [q] at p; exact p.elim
  | some z =>
    rw [q] at p
    obtain ⟨i, j, rfl, rfl, rfl⟩ := hf _ _ _ q
    cases rx; cases ry
    exact ⟨i, j, rfl, rfl, p.int m (hk F i j)⟩
theorem o_sub : Op2 K cl (rI0 fun i j => .int (i - j)) fSub := op2_I0 (kd := fun i j => .int (i - j)) (fun x y z h => by cases x <;> cases y <;> simp [fSub] at h; exact ⟨_, _, rfl, rfl, h.symm⟩) fun F i j => .int _
theorem o_fdiv : Op2 K cl (rI (fun i j => okDiv i j = true) fun i j => .int (i.fdiv j)) fFdiv := op2_I (kd := fun i j => .int (i.fdiv j)) (fun x y z h => by cases x <;> cases y <;> simp [fFdiv] at h; exact ⟨_, _, rfl, rfl, h.1, h.2.symm⟩) fun F i j => .int _
theorem op_fdivX : OpR X (binaryOp .FloorDiv) (rI (fun i j => okDiv i j = true) fun i j => .int (i.fdiv j)) := opI fun i j _ _ _ _ _ hc q => by
  unfold okDiv at hc
  simp only [Bool.and_eq_true, decide_eq_true_eq, Bool.not_eq_true'] at hc
  exact PyProof.Rows.floordiv_int hc.1 q (.inl hc.2)
theorem o_mod : Op2 K cl (rI (fun _ j => j ≠ 0) fun i j => .int (i.fmod j)) fMod := op2_I (kd := fun i j => .int (i.fmod j)) (fun x y z h => by cases x <;> cases y <;> simp [fMod] at h; exact ⟨_, _, rfl, rfl, h.1, h.2.symm⟩) fun F i j => .int _
theorem okPow_c {i j : Int} (h : okPow i j = true) : CPow i j := by
  unfold okPow at h
  simp only [Bool.and_eq_true, decide_eq_true_eq] at h
  exact ⟨h.1.1, h.1.2, h.2⟩
theorem o_pow : Op2 K cl (rI CPow fun i j => .int (i ^ j.toNat)) fPow := op2_I (kd := fun i j => .int (i ^ j.toNat)) (fun x y z h => by cases x <;> cases y <;> simp [fPow] at h; exact ⟨_, _, rfl, rfl, okPow_c h.1, h.2.symm⟩) fun F i j => .int _
theorem o_shl : Op2 K cl (rI CPow fun i j => .int (i * 2 ^ j.toNat)) fShl := op2_I (kd := fun i j => .int (i * 2 ^ j.toNat)) (fun x y z h => by cases x <;> cases y <;> simp [fShl] at h; exact ⟨_, _, rfl, rfl, okPow_c h.1, h.2.symm⟩) fun F i j => .int _
theorem o_shr : Op2 K cl (rI (fun _ j => 0 ≤ j) fun i j => .int (i / 2 ^ j.toNat)) fShr := op2_I (kd := fun i j => .int (i / 2 ^ j.toNat)) (fun x y z h => by cases x <;> cases y <;> simp [fShr] at h; exact ⟨_, _, rfl, rfl, h.1, h.2.symm⟩) fun F i j => .int _
theorem o_and : Op2 K cl (rI0 fun i j => .int (Builtin.bitAnd i j)) fAnd := op2_I0 (kd := fun i j => .int (Builtin.bitAnd i j)) (fun x y z h => by cases x <;> cases y <;> simp [fAnd] at h; exact ⟨_, _, rfl, rfl, h.symm⟩) fun F i j => .int _
theorem o_or : Op2 K cl (rI0 fun i j => .int (Builtin.bitOr i j)) fOr := op2_I0 (kd := fun i j => .int (Builtin.bitOr i j)) (fun x y z h => by cases x <;> cases y <;> simp [fOr] at h; exact ⟨_, _, rfl, rfl, h.symm⟩) fun F i j => .int _
theorem o_xor : Op2 K cl (rI0 fun i j => .int (Builtin.bitXor i j)) fXor := op2_I0 (kd := fun i j => .int (Builtin.bitXor i j)) (fun x y z h => by cases x <;> cases y <;> simp [fXor] at h; exact ⟨_, _, rfl, rfl, h.symm⟩) fun F i j => .int _
theorem o_lt : Op2 K cl (rI0 fun i j => .bl (decide (i < j))) fLt := op2_I0 (kd := fun i j => .bl (decide (i < j))) (fun x y z h => by cases x <;> cases y <;> simp [fLt] at h; exact ⟨_, _, rfl, rfl, h.symm⟩) fun F i j => .bl _
theorem o_le : Op2 K cl (rI0 fun i j => .bl (decide (i ≤ j))) fLe := op2_I0 (kd := fun i j => .bl (decide (i ≤ j))) (fun x y z h => by cases x <;> cases y <;> simp [fLe] at h; exact ⟨_, _, rfl, rfl, h.symm⟩) fun F i j => .bl _
theorem o_gt : Op2 K cl (rI0 fun i j => .bl (decide (j < i))) fGt := op2_I0 (kd := fun i j => .bl (decide (j < i))) (fun x y z h => by cases x <;> cases y <;> simp [fGt] at h; exact ⟨_, _, rfl, rfl, h.symm⟩) fun F i j => .bl _
theorem o_ge : Op2 K cl (rI0 fun i j => .bl (decide (j ≤ i))) fGe := op2_I0 (kd := fun i j => .bl (decide (j ≤ i))) (fun x y z h => by cases x <;> cases y <;> simp [fGe] at h; exact ⟨_, _, rfl, rfl, h.symm⟩) fun F i j => .bl _
theorem o_neg : Op1 K cl (rU fun i => .int (-i)) fNeg := by
  intro F H x dx Q m rx p
  cases rx <;> simp only [fNeg] at p <;> first | exact p.elim | exact ⟨_, rfl, p.int m (.int _)⟩
def rAddU (K : PySem.W.Frag) : R2 := fun x y H Q => (rI0 fun i j => .int (i + j)) x y H Q ∨ rCatA K x y H Q ∨ rCat x y H Q ∨ (∃ i j, x = .str i ∧ y = .str j ∧ i.length + j.length ≤ sizeLine ∧ Q (.str (i ++ j)) H)
theorem op_addU : OpR X (binaryOp .Add) (rAddU X.K) := op_add.or (op_catA.or (op_cat.or op_add_str))
theorem o_add : Op2 K cl (rAddU K) fAdd := by
  intro F H x y dx dy Q m rx ry p
  cases rx <;> cases ry <;> simp only [fAdd] at p <;> try exact p.elim
  · exact .inl ⟨_, _, rfl, rfl, p.int m (.int _)⟩
  · rename_i a b
    refine .inr (.inr (.inr ⟨_, _, rfl, rfl, ?_⟩))
    split at p
    · exact ⟨by rw [sizeLine_eq]; omega, p.int m (.str _)⟩
    · exact p.elim
  · rename_i a xs ds ha ra b ys es hb rb
    split at p
    · refine .inr (.inr (.inl ⟨_, _, _, _, rfl, rfl, m _ _ ha, m _ _ hb, by rw [ra.length, rb.length, sizeLine_eq]; omega, fun q hq => ?_⟩))
      exact p.new m hq fun F' hF e => .lst e ((ra.mono hF).app (rb.mono hF))
    · exact p.elim
  · rename_i a xs ds ha ra b ys es hb rb
    split at p
    · refine .inr (.inl ⟨_, _, _, _, rfl, rfl, .of (m _ _ ha), .of (m _ _ hb), by rw [ra.length, rb.length, sizeLine_eq]; omega, fun hx => ?_, fun hx hy => ?_, fun hx hy q hq => ?_⟩)
      · subst hx; cases ra; exact p.int m (.tup hb rb)
      · subst hy; cases rb; rw [List.append_nil] at p; exact p.int m (.tup ha ra)
      · exact p.new m hq fun F' hF e => .tup e ((ra.mono hF).app (rb.mono hF))
    · exact p.elim
theorem RpA.flat {F : Hp} {vs : List V} {ds : List D} (h : RpA K cl F vs ds) : ∀ n : Nat, RpA K cl F (List.replicate n vs).flatten (List.replicate n ds).flatten
  | 0 => .nil
  | n + 1 => by
    rw [List.replicate_succ, List.replicate_succ, List.flatten_cons, List.flatten_cons]
    exact h.app (RpA.flat h n)
def rMulU (K : PySem.W.Frag) : R2 := fun x y H Q => (rI CMulX fun i j => .int (i * j)) x y H Q ∨ rRepT K x y H Q ∨ rRep x y H Q ∨ rRepT1 K x y H Q ∨ rRepT0 K x y H Q
theorem op_mulU : OpR X (binaryOp .Mult) (rMulU X.K) := op_mulX.or (op_repT.or (op_rep.or (op_repT1.or op_repT0)))
theorem o_mul : Op2 K cl (rMulU K) fMul := by
  intro F H x y dx dy Q m rx ry p
  cases rx <;> cases ry <;> simp only [fMul] at p <;> try exact p.elim
  · split at p
    · rename_i h
      exact .inl ⟨_, _, rfl, rfl, by unfold okMul at h; have := of_decide_eq_true h; unfold CMulX; omega, p.int m (.int _)⟩
    · exact p.elim
  · rename_i a xs ds ha ra k
    split at p
    · rename_i h
      simp only [Bool.and_eq_true, decide_eq_true_eq] at h
      have hl := ra.length
      refine .inr (.inr (.inl ⟨_, _, _, rfl, rfl, m _ _ ha, by omega, by omega, ?_, fun q hq => ?_⟩))
      · rw [sizeLine_eq]
        have h1 : xs.length * k.toNat ≤ 1000 * 1000 := Nat.mul_le_mul (by omega) (by omega)
        omega
      · exact p.new m hq fun F' hF e => .lst e ((ra.mono hF).flat _)
    · exact p.elim
  · rename_i a xs ds ha ra k
    split at p
    · rename_i h
      simp only [Bool.and_eq_true, decide_eq_true_eq, Bool.not_eq_true'] at h
      have hl := ra.length
      have hne : xs ≠ [] := by intro e; subst e; cases ra; simp at h
      by_cases h2 : 2 ≤ k
      · exact .inr (.inl ⟨_, _, _, rfl, rfl, .of (m _ _ ha), hne, h2, by omega, by omega, fun q hq => p.new m hq fun F' hF e => .tup e ((ra.mono hF).flat _)⟩)
      · by_cases h1 : k = 1
        · subst h1
          have e : repD ds 1 = ds := by simp [repD]
          rw [e] at p
          exact .inr (.inr (.inr (.inl ⟨_, _, _, rfl, rfl, .of (m _ _ ha), rfl, p.int m (.tup ha ra)⟩)))
        · have e : repD ds k = [] := by
            have : k.toNat = 0 := by omega
            simp [repD, this]
          rw [e] at p
          exact .inr (.inr (.inr (.inr ⟨_, _, _, rfl, rfl, .of (m _ _ ha), hne, by omega, by omega, fun q hq => p.new m hq fun F' hF e => .tup e .nil⟩)))
    · exact p.elim
theorem o_eq : Op2 K cl (rEqD K) fEq := by
  intro F H x y dx dy Q m rx ry p
  unfold fEq at p
  split at p
  · rename_i h
    rw [Bool.and_eq_true] at h
    exact ⟨_, _, shp_dp m h.1 rx, shp_dp m h.2 ry, shp_sh h.1, shp_sh h.2, by rw [shp_eqv h.1 h.2]; exact p.int m (.bl _)⟩
  · exact p.elim
theorem o_ne : Op2 K cl (rNeD K) fNe := by
  intro F H x y dx dy Q m rx ry p
  unfold fNe at p
  split at p
  · rename_i h
    rw [Bool.and_eq_true] at h
    exact ⟨_, _, shp_dp m h.1 rx, shp_dp m h.2 ry, shp_sh h.1, shp_sh h.2, by rw [shp_eqv h.1 h.2]; exact p.int m (.bl _)⟩
  · exact p.elim
theorem o_isN : Op2 K cl (fun x y H Q => y = .non ∧ Q (.bl (decide (x = .non))) H) fIsN := by
  intro F H x y dx dy Q m rx ry p
  unfold fIsN at p
  cases ry <;> simp only at p <;> try exact p.elim
  refine ⟨rfl, ?_⟩
  cases rx <;> exact p.int m (.bl _)
theorem o_notN : Op2 K cl (fun x y H Q => y = .non ∧ Q (.bl (!decide (x = .non))) H) fNotN := by
  intro F H x y dx dy Q m rx ry p
  unfold fNotN at p
  cases ry <;> simp only at p <;> try exact p.elim
  refine ⟨rfl, ?_⟩
  cases rx <;> exact p.int m (.bl _)
/-! in, not in -/
def rInU (K : PySem.W.Frag) : R2 := fun x y H Q => ∃ d ds, Dp K H x d ∧ (Dp K H y (.list ds) ∧ SeqAt.shaped (.list ds) = true ∨ Dp K H y (.tuple ds) ∧ SeqAt.shaped (.tuple ds) = true) ∧ SeqAt.shaped d = true ∧ Q (.bl (ds.any fun z => PyData.eqv z d)) H
def rNotInU (K : PySem.W.Frag) : R2 := fun x y H Q => ∃ d ds, Dp K H x d ∧ (Dp K H y (.list ds) ∧ SeqAt.shaped (.list ds) = true ∨ Dp K H y (.tuple ds) ∧ SeqAt.shaped (.tuple ds) = true) ∧ SeqAt.shaped d = true ∧ Q (.bl (!ds.any fun z => PyData.eqv z d)) H
theorem room_in {A : Around} {d : PyData} {xs : List PyData} (sd : SeqAt.shaped d = true) (hu : A.units + 65 < cLine) : A.units + 1 + min (PyData.depthAll xs) d.depth < cLine := by
  have h1 := SeqAt.depth_of_shaped sd
  have h2 : min (PyData.depthAll xs) d.depth ≤ d.depth := Nat.min_le_right _ _
  omega
theorem op_inU (hu : X.A.units + 65 < cLine) : OpR X (compareOp .In) (rInU X.K) := by
  intro pins s σ H x y v u Q I rx ry h
  obtain ⟨d, ds, hd, he, sd, q⟩ := h
  obtain ⟨as, r1⟩ := Dp.reads I d x v hd rx
  rcases he with ⟨he, se⟩ | ⟨he, se⟩
  · obtain ⟨bs, r2⟩ := Dp.reads I (.list ds) y u he ry
    exact SeqAt.in_list_reads r2 r1 (SeqAt.canLay_of_shaped se) (SeqAt.canLay_of_shaped sd) (room_in sd hu) ⟨.bl _, H, I, rfl, q⟩
  · obtain ⟨bs, r2⟩ := Dp.reads I (.tuple ds) y u he ry
    exact SeqAt.in_tuple_reads r2 r1 (SeqAt.canLay_of_shaped se) (SeqAt.canLay_of_shaped sd) (room_in sd hu) ⟨.bl _, H, I, rfl, q⟩
theorem op_notInU (hu : X.A.units + 65 < cLine) : OpR X (compareOp .NotIn) (rNotInU X.K) := by
  intro pins s σ H x y v u Q I rx ry h
  obtain ⟨d, ds, hd, he, sd, q⟩ := h
  obtain ⟨as, r1⟩ := Dp.reads I d x v hd rx
  rcases he with ⟨he, se⟩ | ⟨he, se⟩
  · obtain ⟨bs, r2⟩ := Dp.reads I (.list ds) y u he ry
    exact SeqAt.notIn_list_reads r2 r1 (SeqAt.canLay_of_shaped se) (SeqAt.canLay_of_shaped sd) (room_in sd hu) ⟨.bl _, H, I, rfl, q⟩
  · obtain ⟨bs, r2⟩ := Dp.reads I (.tuple ds) y u he ry
    exact SeqAt.notIn_tuple_reads r2 r1 (SeqAt.canLay_of_shaped se) (SeqAt.canLay_of_shaped sd) (room_in sd hu) ⟨.bl _, H, I, rfl, q⟩
theorem pyA_any {x : D} (hx : shp x = true) : ∀ (ds : List D) (n : Nat), D.shpA ds n = true → ((D.pyA ds).any fun z => PyData.eqv z x.py) = inD x ds
  | [], _, _ => rfl
  | d :: ds, n, h => by
    simp only [D.shpA, Bool.and_eq_true] at h
    have e := pyA_any hx ds n h.2
    unfold inD at e ⊢
    simp only [D.pyA, List.any_cons]
    rw [e, eqv_py d x n 64 h.1 hx]
theorem o_in : Op2 K cl (rInU K) fIn := by
  intro F H x y dx dy Q m rx ry p
  cases ry with
  | lst a b =>
    simp only [fIn] at p
    split at p
    · rename_i h
      rw [Bool.and_eq_true] at h
      refine ⟨_, _, shp_dp m h.1 rx, .inl ⟨shp_dp m h.2 (.lst a b), shp_sh h.2⟩, shp_sh h.1, ?_⟩
      rw [pyA_any h.1 _ 63 (by simpa [shp, D.shp] using h.2)]
      exact p.int m (.bl _)
    · exact p.elim
  | tup a b =>
    simp only [fIn] at p
    split at p
    · rename_i h
      rw [Bool.and_eq_true] at h
      refine ⟨_, _, shp_dp m h.1 rx, .inr ⟨shp_dp m h.2 (.tup a b), shp_sh h.2⟩, shp_sh h.1, ?_⟩
      rw [pyA_any h.1 _ 63 (by simpa [shp, D.shp] using h.2)]
      exact p.int m (.bl _)
    · exact p.elim
  | _ => simp only [fIn] at p; exact p.elim
theorem o_notIn : Op2 K cl (rNotInU K) fNotIn := by
  intro F H x y dx dy Q m rx ry p
  cases ry with
  | lst a b =>
    simp only [fNotIn] at p
    split at p
    · rename_i h
      rw [Bool.and_eq_true] at h
      refine ⟨_, _, shp_dp m h.1 rx, .inl ⟨shp_dp m h.2 (.lst a b), shp_sh h.2⟩, shp_sh h.1, ?_⟩
      rw [pyA_any h.1 _ 63 (by simpa [shp, D.shp] using h.2)]
      exact p.int m (.bl _)
    · exact p.elim
  | tup a b =>
    simp only [fNotIn] at p
    split at p
    · rename_i h
      rw [Bool.and_eq_true] at h
      refine ⟨_, _, shp_dp m h.1 rx, .inr ⟨shp_dp m h.2 (.tup a b), shp_sh h.2⟩, shp_sh h.1, ?_⟩
      rw [pyA_any h.1 _ 63 (by simpa [shp, D.shp] using h.2)]
      exact p.int m (.bl _)
    · exact p.elim
  | _ => simp only [fNotIn] at p; exact p.elim
/-! items -/
def rIxU (K : PySem.W.Frag) : R2 := fun x y H Q => rIxL K x y H Q ∨ rIxT K x y H Q
theorem ix_U : IxR X (rIxU X.K) := ix_list.or ix_tup
theorem atI_rp {F : Hp} {vs : List V} {ds : List D} {i : Int} {d : D} (h : RpA K cl F vs ds) (e : atI ds i = some d) : ∃ v, atI vs i = some v ∧ Rp K cl F v d := by
  unfold atI at e ⊢
  rw [h.length]
  cases q : ixN ds.length i with
  | none => rw [q] at e; cases e
  | some j =>
    rw [q] at e
    exact h.get' e
theorem atI_map {α β : Type} (f : α → β) (xs : List α) (i : Int) : atI (xs.map f) i = (atI xs i).map f := by
  unfold atI
  rw [List.length_map]
  cases ixN xs.length i with
  | none => rfl
  | some j => simp
theorem o_ix : Op2 K cl (rIxU K) fIx := by
  intro F H x y dx dy Q m rx ry p
  cases rx <;> cases ry <;> simp only [fIx] at p <;> try exact p.elim
  · rename_i a xs ds ha ra i
    cases q : atI ds i with
    | none => rw [q] at p; exact p.elim
    | some d =>
      rw [q] at p
      obtain ⟨v, h1, h2⟩ := atI_rp ra q
      exact .inl ⟨_, _, _, _, rfl, rfl, .of (m _ _ ha), h1, p.int m h2⟩
  · rename_i a xs ds ha ra i
    cases q : atI ds i with
    | none => rw [q] at p; exact p.elim
    | some d =>
      rw [q] at p
      obtain ⟨v, h1, h2⟩ := atI_rp ra q
      exact .inr ⟨_, _, _, _, rfl, rfl, .of (m _ _ ha), h1, p.int m h2⟩
  · rename_i a ns ha i
    cases q : atI ns i with
    | none => rw [q] at p; exact p.elim
    | some d =>
      rw [q] at p
      exact .inl ⟨_, _, _, _, rfl, rfl, m.seq ha, by rw [atI_map, q]; rfl, p.int m (.int _)⟩
end
end FL
namespace FL
open PySem L2
/-! ## in, with dicts -/
def keyOf : D → Option Key
  | .int i => some (.inl i)
  | .str x => some (.inr x)
  | _ => none
def keysOf : List D → Option (List Key)
  | [] => some []
  | d :: ds => match keyOf d, keysOf ds with
    | some k, some ks => some (k :: ks)
    | _, _ => none
def hasK {κ : Type} [DecidableEq κ] (ks : List κ) (k : κ) : Bool := ks.any fun j => decide (j = k)
def dmap : D → D → Option Bool
  | x, .dik ks _ => (keyOf x).map fun k => hasK ks k
  | .tup ds, .dit ks _ => (keysOf ds).map fun k => hasK ks k
  | _, _ => none
def gIn (x y : D) : Option D := match dmap x y with
  | some b => some (.bl b)
  | none => fIn x y
def gNotIn (x y : D) : Option D := match dmap x y with
  | some b => some (.bl (!b))
  | none => fNotIn x y
section
variable {K : PySem.W.Frag} {cl : Str → Addr} {X : Cx}
theorem keyOf_rp {F : Hp} {d : D} {v : V} {k : Key} (r : Rp K cl F v d) (e : keyOf d = some k) : v = kV k := by
  cases r <;> simp [keyOf] at e <;> subst e <;> rfl
theorem keysOf_rp {F : Hp} : ∀ {ds : List D} {vs : List V} {ks : List Key}, RpA K cl F vs ds → keysOf ds = some ks → vs = ks.map kV
  | [], _, _, r, e => by cases r; simp [keysOf] at e; subst e; rfl
  | d :: ds, _, _, r, e => by
    cases r with
    | cons a b =>
      simp only [keysOf] at e
      split at e
      · rename_i k ks h1 h2
        cases e
        rw [keyOf_rp a h1, keysOf_rp b h2]; rfl
      · cases e
theorem valV_some {κ : Type} [DecidableEq κ] (k : κ) : ∀ kvs : List (κ × V), (valV kvs k).isSome = hasK (kvs.map (·.1)) k
  | [] => rfl
  | p :: r => by
    by_cases h : p.1 = k
    · rw [valV_pos h]; simp [h, hasK]
    · rw [valV_neg h, valV_some k r]; simp [h, hasK]
theorem dmap_get {F H : Hp} {x y : V} {dx dy : D} {b : Bool} (m : Same F H) (rx : Rp K cl F x dx) (ry : Rp K cl F y dy) (e : dmap dx dy = some b) : ∃ a o, y = .ref a ∧ DGet H a x o ∧ o.isSome = b := by
  cases ry with
  | dik a e2 h =>
    rename_i ad kvs ks ds
    have e : (keyOf dx).map (fun k => hasK ks k) = some b := by cases dx <;> exact e
    cases q : keyOf dx with
    | none => rw [q] at e; cases e
    | some k =>
      rw [q] at e; cases e
      have := keyOf_rp rx q; subst this
      exact ⟨_, _, rfl, .k (m _ _ a), by rw [valV_some, e2]⟩
  | dit a e2 h =>
    rename_i ad kvs ks ds
    cases rx with
    | tup ha hr =>
      rename_i ax xv xs
      have e : (keysOf xs).map (fun k => hasK ks k) = some b := e
      cases q : keysOf xs with
      | none => rw [q] at e; cases e
      | some k =>
        rw [q] at e; cases e
        have := keysOf_rp hr q; subst this
        exact ⟨_, _, rfl, .t (m _ _ a) (m _ _ ha), by rw [valV_some, e2]⟩
    | _ => cases e
  | _ => cases rx <;> cases e
def rInA (K : PySem.W.Frag) : R2 := fun x y H Q => (∃ a o, y = .ref a ∧ DGet H a x o ∧ Q (.bl o.isSome) H) ∨ rInU K x y H Q
def rNotInA (K : PySem.W.Frag) : R2 := fun x y H Q => (∃ a o, y = .ref a ∧ DGet H a x o ∧ Q (.bl (!o.isSome)) H) ∨ rNotInU K x y H Q
theorem op_inDict (hu : X.A.units + 65 < cLine) : OpR X (compareOp .In) (fun x y H Q => ∃ a o, y = .ref a ∧ DGet H a x o ∧ Q (.bl o.isSome) H) := by
  intro pins s σ H x y v u Q I rx ry h
  obtain ⟨a, o, rfl, g, q⟩ := h
  cases ry
  exact d_in (by omega) I g rx fun s' I' => ⟨.bl _, H, I', rfl, q⟩
theorem op_notInDict (hu : X.A.units + 65 < cLine) : OpR X (compareOp .NotIn) (fun x y H Q => ∃ a o, y = .ref a ∧ DGet H a x o ∧ Q (.bl (!o.isSome)) H) := by
  intro pins s σ H x y v u Q I rx ry h
  obtain ⟨a, o, rfl, g, q⟩ := h
  cases ry
  exact d_notIn (by omega) I g rx fun s' I' => ⟨.bl _, H, I', rfl, q⟩
theorem op_inA (hu : X.A.units + 65 < cLine) : OpR X (compareOp .In) (rInA X.K) := (op_inDict hu).or (op_inU hu)
theorem op_notInA (hu : X.A.units + 65 < cLine) : OpR X (compareOp .NotIn) (rNotInA X.K) := (op_notInDict hu).or (op_notInU hu)
theorem o_inA : Op2 K cl (rInA K) gIn := by
  intro F H x y dx dy Q m rx ry p
  unfold gIn at p
  split at p
  · rename_i b e
    obtain ⟨a, o, h1, h2, h3⟩ := dmap_get m rx ry e
    exact .inl ⟨a, o, h1, h2, by rw [h3]; exact p.int m (.bl _)⟩
  · exact .inr (o_in F H x y dx dy Q m rx ry p)
theorem o_notInA : Op2 K cl (rNotInA K) gNotIn := by
  intro F H x y dx dy Q m rx ry p
  unfold gNotIn at p
  split at p
  · rename_i b e
    obtain ⟨a, o, h1, h2, h3⟩ := dmap_get m rx ry e
    exact .inl ⟨a, o, h1, h2, by rw [h3]; exact p.int m (.bl _)⟩
  · exact .inr (o_notIn F H x y dx dy Q m rx ry p)
end
/-! ## tests -/
def tru : D → Option Bool
  | .non => some false
  | .bl b => some b
  | .int i => some (i != 0)
  | .str x => if x.length < 16777216 then some ((x.length : Int) != 0) else none
  | .lst ds => some (!ds.isEmpty)
  | .tup ds => some (!ds.isEmpty)
  | _ => none
def mTru (m : En → Res D) : En → Res Bool := fun ρ => (m ρ).bind fun d => .ofO (tru d)
def isBl : D → Option Bool
  | .bl b => some b
  | _ => none
def mTst (m : En → Res D) : En → Res Bool := fun ρ => (m ρ).bind fun d => .ofO (isBl d)
def mtNot (m : En → Res Bool) : En → Res Bool := fun ρ => (m ρ).bind fun b => .ok (!b)
def mtAnd (m n : En → Res Bool) : En → Res Bool := fun ρ => (m ρ).bind fun b => if b then n ρ else .ok false
def mtOr (m n : En → Res Bool) : En → Res Bool := fun ρ => (m ρ).bind fun b => if b then .ok true else n ρ
def mAnd (m n : En → Res D) : En → Res D := fun ρ => (m ρ).bind fun d => match isBl d with
  | some true => n ρ
  | some false => .ok (.bl false)
  | none => .bad
def mOr (m n : En → Res D) : En → Res D := fun ρ => (m ρ).bind fun d => match isBl d with
  | some true => .ok (.bl true)
  | some false => n ρ
  | none => .bad
def mNot (m : En → Res D) : En → Res D := fun ρ => (m ρ).bind fun d => match isBl d with
  | some b => .ok (.bl (!b))
  | none => .bad
def mIf (t : En → Res Bool) (m n : En → Res D) : En → Res D := fun ρ => (t ρ).bind fun b => if b then m ρ else n ρ
section
variable {X : Cx} {cl : Str → Addr} {W : WX} {e a b : Expr} {es : List Expr} {ma mb m n : En → Res D} {ms : En → Res (List D)} {pos : Pos} {t u : En → Res Bool}
theorem PostE.gr {K : PySem.W.Frag} {σ : L2.St} {F H F' H' : Hp} {r : Res D} {Q : VK} (p : PostE K cl W σ F H r Q) (g : Gr F H F' H') : PostE K cl W σ F' H' r Q := by
  cases r with
  | bad => exact p
  | er e => exact fun c dd F2 H2 g2 h2 => p c dd F2 H2 (g.trans g2) h2
  | ok d => exact fun v F2 H2 g2 h2 => p v F2 H2 (g.trans g2) h2
theorem PostT.gr {K : PySem.W.Frag} {σ : L2.St} {F H F' H' : Hp} {r : Res Bool} {Q : Bool → Hp → Prop} (p : PostT K cl W σ F H r Q) (g : Gr F H F' H') : PostT K cl W σ F' H' r Q := by
  cases r with
  | bad => exact p
  | er e => exact fun c dd F2 H2 g2 h2 => p c dd F2 H2 (g.trans g2) h2
  | ok d => exact fun F2 H2 g2 => p F2 H2 (g.trans g2)
theorem isBl_rp {K : PySem.W.Frag} {F : Hp} {d : D} {v : V} {b : Bool} (r : Rp K cl F v d) (e : isBl d = some b) : v = .bl b := by
  cases r <;> simp [isBl] at e; subst e; rfl
theorem sb_tst (h : PT X e (tTest (tM X.K cl W m))) : SB X cl W e (mTst m) := by
  refine PT.of h ?_
  rintro σ H Q ⟨B, F0, F, ρ, s, p⟩
  refine ⟨B, F0, F, ρ, s, ?_⟩
  unfold mTst at p
  cases q : m ρ with
  | bad => rw [q] at p; exact p
  | er e => rw [q] at p; exact p
  | ok d =>
    rw [q] at p
    intro v F' H' g h
    cases q2 : isBl d with
    | none => rw [show (Res.ok d).bind (fun d => Res.ofO (isBl d)) = Res.bad by show Res.ofO (isBl d) = _; rw [q2]; rfl] at p; exact p.elim
    | some k =>
      rw [show (Res.ok d).bind (fun d => Res.ofO (isBl d)) = Res.ok k by show Res.ofO (isBl d) = _; rw [q2]; rfl] at p
      exact ⟨k, isBl_rp h q2, p F' H' g⟩
theorem sb_cmp {op : CmpOp} {r : R2} {f : D → D → Option D} (ho : OpR X (compareOp op) r) (hr : Op2 X.K cl r f) (ha : SE X cl W a ma) (hb : SE X cl W b mb) (hm : behindInMarks op b = false) : SB X cl W (.Compare a [op] [b] pos) (mTst (mOp2 f ma mb)) :=
  sb_tst ((pt_cmpR ho ha hb hm).of fun σ H Q h => op2_in hr σ H _ h)
theorem tru_rp {K : PySem.W.Frag} {F H : Hp} {d : D} {v : V} {b : Bool} (fh : Same F H) (r : Rp K cl F v d) (e : tru d = some b) : TruV K v H b := by
  cases r with
  | non => simp [tru] at e; subst e; exact rfl
  | bl b => simp [tru] at e; subst e; exact rfl
  | int i => simp [tru] at e; subst e; rfl
  | str x =>
    simp only [tru] at e
    split at e
    · cases e
      refine ⟨?_, rfl⟩
      rw [sizeLine_eq]
      omega
    · cases e
  | lst a h =>
    rename_i aa xs ds
    simp only [tru, Option.some.injEq] at e
    subst e
    exact .inl ⟨_, .of (fh _ _ a), by have := h.length; cases xs <;> cases ds <;> simp_all⟩
  | tup a h =>
    rename_i aa xs ds
    simp only [tru, Option.some.injEq] at e
    subst e
    exact .inr (.inl ⟨_, .of (fh _ _ a), by have := h.length; cases xs <;> cases ds <;> simp_all⟩)
  | _ => simp [tru] at e
theorem sb_val (h : SE X cl W e m) (he : ∀ whole, isTrue e X.env whole = (do let v ← whole; standAt e.pos; holding [v] (truthy v)) := by intro _; rfl) : SB X cl W e (mTru m) := by
  refine (pt_truth h he).of ?_
  rintro σ H Q ⟨B, F0, F, ρ, s, p⟩
  refine ⟨B, F0, F, ρ, s, ?_⟩
  unfold mTru at p
  cases q : m ρ with
  | bad => rw [q] at p; exact p
  | er e => rw [q] at p; exact p
  | ok d =>
    rw [q] at p
    intro v F' H' g h
    cases q2 : tru d with
    | none => rw [show (Res.ok d).bind (fun d => Res.ofO (tru d)) = Res.bad by show Res.ofO (tru d) = _; rw [q2]; rfl] at p; exact p.elim
    | some k =>
      rw [show (Res.ok d).bind (fun d => Res.ofO (tru d)) = Res.ok k by show Res.ofO (tru d) = _; rw [q2]; rfl] at p
      exact ⟨k, tru_rp g.fh h q2, p F' H' g⟩
/-- the second part behind a test -/
theorem stepT {K : PySem.W.Frag} {σ : L2.St} {B F0 F H : Hp} {ρ : En} {r : Res Bool} {g : Bool → Res D} {Q : VK} (s : SOk K cl B F0 F σ H ρ) (p : PostE K cl W σ F H (r.bind g) Q) :
    PostT K cl W σ F H r fun b H' => ∃ F', Gr F H F' H' ∧ PostE K cl W σ F' H' (g b) Q := by
  cases r with
  | bad => exact p
  | er e => exact p
  | ok d =>
    intro F' H' g1
    have p : PostE K cl W σ F H (g d) Q := p
    exact ⟨F', g1, p.gr g1⟩
theorem stepTT {K : PySem.W.Frag} {σ : L2.St} {B F0 F H : Hp} {ρ : En} {r : Res Bool} {g : Bool → Res Bool} {Q : Bool → Hp → Prop} (s : SOk K cl B F0 F σ H ρ) (p : PostT K cl W σ F H (r.bind g) Q) :
    PostT K cl W σ F H r fun b H' => ∃ F', Gr F H F' H' ∧ PostT K cl W σ F' H' (g b) Q := by
  cases r with
  | bad => exact p
  | er e => exact p
  | ok d =>
    intro F' H' g1
    have p : PostT K cl W σ F H (g d) Q := p
    exact ⟨F', g1, p.gr g1⟩
theorem PostT.imp {K : PySem.W.Frag} {σ : L2.St} {F H : Hp} {r : Res Bool} {Q Q' : Bool → Hp → Prop} (p : PostT K cl W σ F H r Q) (h : ∀ b H', Q b H' → Q' b H') : PostT K cl W σ F H r Q' := by
  cases r with
  | bad => exact p
  | er e => exact p
  | ok b => exact fun F' H' g => h _ _ (p F' H' g)
theorem PostE.imp {K : PySem.W.Frag} {σ : L2.St} {F H : Hp} {r : Res D} {Q Q' : VK} (p : PostE K cl W σ F H r Q) (h : ∀ b H', Q b H' → Q' b H') : PostE K cl W σ F H r Q' := by
  cases r with
  | bad => exact p
  | er e => exact p
  | ok b => exact fun v F' H' g r => h _ _ (p v F' H' g r)
theorem sb_not (h : SB X cl W a t) : SB X cl W (.UnaryOp .Not a pos) (mtNot t) := by
  refine (pt_not h).of ?_
  rintro σ H Q ⟨B, F0, F, ρ, s, p⟩
  refine ⟨B, F0, F, ρ, s, (stepTT s p).imp ?_⟩
  rintro b H' ⟨F', g, p⟩
  exact p F' H' (.refl g.fh)
abbrev SW (X : Cx) (cl : Str → Addr) (W : WX) (e : Expr) (m : En → Res Bool) : Prop := PW X e (tT X.K cl W m)
variable {rest : List Expr}
theorem sw_and1 (h : SB X cl W a t) : SW X cl W (.BoolOp .And [a] pos) t := pw_and1 h
theorem sw_or1 (h : SB X cl W a t) : SW X cl W (.BoolOp .Or [a] pos) t := pw_or1 h
theorem sw_and (ha : SB X cl W a t) (hb : SW X cl W (.BoolOp .And (b :: rest) pos) u) : SW X cl W (.BoolOp .And (a :: b :: rest) pos) (mtAnd t u) := by
  refine (pw_and ha hb).of ?_
  rintro σ H Q ⟨B, F0, F, ρ, s, p⟩
  refine ⟨B, F0, F, ρ, s, (stepTT s p).imp ?_⟩
  rintro b H' ⟨F', g, p⟩
  cases b with
  | true => exact ⟨B, F0, F', ρ, s.grow g, p⟩
  | false => exact p F' H' (.refl g.fh)
theorem sw_or (ha : SB X cl W a t) (hb : SW X cl W (.BoolOp .Or (b :: rest) pos) u) : SW X cl W (.BoolOp .Or (a :: b :: rest) pos) (mtOr t u) := by
  refine (pw_or ha hb).of ?_
  rintro σ H Q ⟨B, F0, F, ρ, s, p⟩
  refine ⟨B, F0, F, ρ, s, (stepTT s p).imp ?_⟩
  rintro b H' ⟨F', g, p⟩
  cases b with
  | false => exact ⟨B, F0, F', ρ, s.grow g, p⟩
  | true => exact p F' H' (.refl g.fh)
theorem sw_b (h : SW X cl W e t) : SB X cl W e t := h.pt
theorem so_one {op} (h : SE X cl W a m) : SE X cl W (.BoolOp op [a] pos) m := pe_one h
theorem so_and (ha : SE X cl W a m) (hb : SE X cl W (.BoolOp .And (b :: rest) pos) n) : SE X cl W (.BoolOp .And (a :: b :: rest) pos) (mAnd m n) := by
  refine (pe_and ha hb).of ?_
  rintro σ H Q ⟨B, F0, F, ρ, s, p⟩
  refine ⟨B, F0, F, ρ, s, (step1 s p).imp ?_⟩
  rintro v H' ⟨d, F', e, g, r, p⟩
  cases q : isBl d with
  | none => rw [q] at p; exact p.elim
  | some b =>
    rw [q] at p
    refine ⟨b, isBl_rp r q, ?_⟩
    cases b with
    | true => exact ⟨B, F0, F', ρ, s.grow g, p⟩
    | false => exact p _ F' H' (.refl g.fh) (.bl _)
theorem so_or (ha : SE X cl W a m) (hb : SE X cl W (.BoolOp .Or (b :: rest) pos) n) : SE X cl W (.BoolOp .Or (a :: b :: rest) pos) (mOr m n) := by
  refine (pe_or ha hb).of ?_
  rintro σ H Q ⟨B, F0, F, ρ, s, p⟩
  refine ⟨B, F0, F, ρ, s, (step1 s p).imp ?_⟩
  rintro v H' ⟨d, F', e, g, r, p⟩
  cases q : isBl d with
  | none => rw [q] at p; exact p.elim
  | some b =>
    rw [q] at p
    refine ⟨b, isBl_rp r q, ?_⟩
    cases b with
    | false => exact ⟨B, F0, F', ρ, s.grow g, p⟩
    | true => exact p _ F' H' (.refl g.fh) (.bl _)
theorem so_not (ha : SE X cl W a m) : SE X cl W (.UnaryOp .Not a pos) (mNot m) := by
  refine (pe_not ha).of ?_
  rintro σ H Q ⟨B, F0, F, ρ, s, p⟩
  refine ⟨B, F0, F, ρ, s, (step1 s p).imp ?_⟩
  rintro v H' ⟨d, F', e, g, r, p⟩
  cases q : isBl d with
  | none => rw [q] at p; exact p.elim
  | some b =>
    rw [q] at p
    exact ⟨b, isBl_rp r q, p _ F' H' (.refl g.fh) (.bl _)⟩
theorem so_if {c : Expr} (hc : SB X cl W c t) (ha : SE X cl W a m) (hb : SE X cl W b n) : SE X cl W (.IfExp c a b pos) (mIf t m n) := by
  refine (pe_ifExp hc ha hb).of ?_
  rintro σ H Q ⟨B, F0, F, ρ, s, p⟩
  refine ⟨B, F0, F, ρ, s, (stepT s p).imp ?_⟩
  rintro b H' ⟨F', g, p⟩
  cases b with
  | true => exact ⟨B, F0, F', ρ, s.grow g, p⟩
  | false => exact ⟨B, F0, F', ρ, s.grow g, p⟩
end
/-! ## calls of built-ins -/
def OpA (K : PySem.W.Frag) (cl : Str → Addr) (r : List V → Hp → VK → Prop) (f : List D → Option D) : Prop := ∀ F H vs ds Q, Same F H → RpA K cl F vs ds → PostO K cl F H (f ds) Q → r vs H Q
def mOpA (f : List D → Option D) (ms : En → Res (List D)) : En → Res D := fun ρ => (ms ρ).bind fun ds => .ofO (f ds)
section
variable {X : Cx} {cl : Str → Addr} {W : WX} {e a b : Expr} {es : List Expr} {ma mb m n : En → Res D} {ms : En → Res (List D)} {p pos : Pos} {x : Str} {id T : String} {r : List V → Hp → VK → Prop} {f : List D → Option D}
theorem PostA.imp {K : PySem.W.Frag} {σ : L2.St} {F H : Hp} {r : Res (List D)} {Q Q' : List V → Hp → Prop} (p : PostA K cl W σ F H r Q) (h : ∀ b H', Q b H' → Q' b H') : PostA K cl W σ F H r Q' := by
  cases r with
  | bad => exact p
  | er e => exact p
  | ok b => exact fun v F' H' g r => h _ _ (p v F' H' g r)
theorem stepA {K : PySem.W.Frag} {σ : L2.St} {B F0 F H : Hp} {ρ : En} {r : Res (List D)} {g : List D → Res D} {Q : VK} (s : SOk K cl B F0 F σ H ρ) (p : PostE K cl W σ F H (r.bind g) Q) :
    PostA K cl W σ F H r fun vs H' => ∃ ds F', r = .ok ds ∧ Gr F H F' H' ∧ RpA K cl F' vs ds ∧ PostE K cl W σ F' H' (g ds) Q := by
  cases r with
  | bad => exact p
  | er e => exact p
  | ok ds =>
    intro vs F' H' g1 h1
    have p : PostE K cl W σ F H (g ds) Q := p
    exact ⟨ds, F', rfl, g1, h1, p.gr g1⟩
theorem opA_in (hr : OpA X.K cl r f) : ∀ σ H Q, tM X.K cl W (mOpA f ms) σ H Q → tCB r (tA X.K cl W ms) σ H Q := by
  rintro σ H Q ⟨B, F0, F, ρ, s, p⟩
  refine ⟨B, F0, F, ρ, s, (stepA s p).imp ?_⟩
  rintro vs H' ⟨ds, F', e, g, h, p⟩
  exact hr F' H' vs ds Q g.fh h (.of p)
theorem so_callB (hc : CallR X (.builtin id) r) (hr : OpA X.K cl r f) (hg : Gl X x) (hm : X.mg x = none) (hv : bootBuiltins x = some (.builtin id)) (ha : SA X cl W (e :: es) ms) (hn : x ≠ "__name__" := by decide) (hdb : (x == ("__debug__" : Str)) = false := by decide)
    (he : starEach (e :: es) X.env = (false, eval e X.env) :: starEach es X.env := by rfl) (hpl : (backTo pos (starEach es X.env)).any (·.1) = false := by rfl) : SE X cl W (.Call (.Name x p) (e :: es) [] pos) (mOpA f ms) :=
  (pe_callB hc hg hm hv ha hn hdb he hpl).of (opA_in hr)
theorem so_callTy (hc : CallR X (.type T) r) (hr : OpA X.K cl r f) (hg : Gl X x) (hm : X.mg x = none) (hv : bootBuiltins x = some (.type T)) (ha : SA X cl W (e :: es) ms) (hn : x ≠ "__name__" := by decide) (hdb : (x == ("__debug__" : Str)) = false := by decide)
    (he : starEach (e :: es) X.env = (false, eval e X.env) :: starEach es X.env := by rfl) (hpl : (backTo pos (starEach es X.env)).any (·.1) = false := by rfl) : SE X cl W (.Call (.Name x p) (e :: es) [] pos) (mOpA f ms) :=
  (pe_callTy hc hg hm hv ha hn hdb he hpl).of (opA_in hr)
theorem so_callF (hc : CallR X (.builtin id) r) (hr : OpA X.K cl r f) (hg : Gl X x) (hm : X.mg x = some (.builtin id)) (ha : SA X cl W (e :: es) ms) (hdb : (x == ("__debug__" : Str)) = false := by decide)
    (he : starEach (e :: es) X.env = (false, eval e X.env) :: starEach es X.env := by rfl) (hpl : (backTo pos (starEach es X.env)).any (·.1) = false := by rfl) : SE X cl W (.Call (.Name x p) (e :: es) [] pos) (mOpA f ms) :=
  (pe_callBfun hc hg hm ha hdb he hpl).of (opA_in hr)
end
def intsOf : List D → Option (List Int)
  | [] => some []
  | .int i :: ds => (intsOf ds).map (i :: ·)
  | _ :: _ => none
def blsOf : List D → Option (List Bool)
  | [] => some []
  | .bl b :: ds => (blsOf ds).map (b :: ·)
  | _ :: _ => none
def fLen : List D → Option D
  | [.lst ds] => some (.int ds.length)
  | [.tup ds] => some (.int ds.length)
  | [.scr ns] => some (.int ns.length)
  | [.str x] => if x.length < 16777216 then some (.int x.length) else none
  | _ => none
def fAbs : List D → Option D
  | [.int i] => some (.int (if i < 0 then -i else i))
  | _ => none
def fInt : List D → Option D
  | [.int i] => some (.int i)
  | [.bl b] => some (.int (if b then 1 else 0))
  | _ => none
def fGcd : List D → Option D
  | [.int a, .int b] => some (.int ((Nat.gcd a.natAbs b.natAbs : Nat) : Int))
  | _ => none
def fTuple : List D → Option D
  | [.lst ds] => some (.tup ds)
  | [.tup ds] => some (.tup ds)
  | _ => none
def fList : List D → Option D
  | [.lst ds] => some (.lst ds)
  | [.tup ds] => some (.lst ds)
  | _ => none
def fSum : List D → Option D
  | [.lst ds] => (intsOf ds).map fun ns => .int ns.sum
  | _ => none
def minI : List Int → Option Int
  | [] => none
  | [a] => some a
  | a :: r => (minI r).map fun m => if a ≤ m then a else m
def maxI : List Int → Option Int
  | [] => none
  | [a] => some a
  | a :: r => (maxI r).map fun m => if m ≤ a then a else m
def fMin : List D → Option D
  | [.lst ds] => (intsOf ds).bind fun ns => (minI ns).map .int
  | [.int i, .int j] => some (.int (if j < i then j else i))
  | _ => none
def fMax : List D → Option D
  | [.lst ds] => (intsOf ds).bind fun ns => (maxI ns).map .int
  | [.int i, .int j] => some (.int (if j > i then j else i))
  | _ => none
def fAny : List D → Option D
  | [.lst ds] => (blsOf ds).map fun bs => .bl (bs.any id)
  | _ => none
def fAll : List D → Option D
  | [.lst ds] => (blsOf ds).map fun bs => .bl (bs.all id)
  | _ => none
section
variable {K : PySem.W.Frag} {cl : Str → Addr} {X : Cx}
theorem RpA.one {F : Hp} {vs : List V} {d : D} (h : RpA K cl F vs [d]) : ∃ v, vs = [v] ∧ Rp K cl F v d := by
  cases h with
  | cons a b => cases b; exact ⟨_, rfl, a⟩
theorem RpA.two {F : Hp} {vs : List V} {d e : D} (h : RpA K cl F vs [d, e]) : ∃ v u, vs = [v, u] ∧ Rp K cl F v d ∧ Rp K cl F u e := by
  cases h with
  | cons a b => obtain ⟨u, rfl, h⟩ := b.one; exact ⟨_, _, rfl, a, h⟩
theorem intsOf_rp {F : Hp} : ∀ {ds : List D} {vs : List V} {ns : List Int}, RpA K cl F vs ds → intsOf ds = some ns → vs = ns.map V.int
  | [], _, _, r, e => by cases r; cases e; rfl
  | d :: ds, _, _, r, e => by
    cases r with
    | cons a b =>
      cases a <;> simp only [intsOf] at e <;> try cases e
      obtain ⟨ns, h1, rfl⟩ := Option.map_eq_some_iff.mp e
      rw [intsOf_rp b h1]; rfl
theorem blsOf_rp {F : Hp} : ∀ {ds : List D} {vs : List V} {ns : List Bool}, RpA K cl F vs ds → blsOf ds = some ns → vs = ns.map V.bl
  | [], _, _, r, e => by cases r; cases e; rfl
  | d :: ds, _, _, r, e => by
    cases r with
    | cons a b =>
      cases a <;> simp only [blsOf] at e <;> try cases e
      obtain ⟨ns, h1, rfl⟩ := Option.map_eq_some_iff.mp e
      rw [blsOf_rp b h1]; rfl
theorem a_len : OpA K cl (fun xs H Q => ∃ x n, xs = [x] ∧ LenV K x H n ∧ Q (.int n) H) fLen := by
  intro F H vs ds Q m r p
  unfold fLen at p
  split at p
  · obtain ⟨v, rfl, h⟩ := r.one
    cases h with | lst a b => exact ⟨_, _, rfl, .inl ⟨_, .of (m _ _ a), rfl⟩, by rw [b.length]; exact p.int m (.int _)⟩
  · obtain ⟨v, rfl, h⟩ := r.one
    cases h with | tup a b => exact ⟨_, _, rfl, .inr ⟨_, .of (m _ _ a), rfl⟩, by rw [b.length]; exact p.int m (.int _)⟩
  · obtain ⟨v, rfl, h⟩ := r.one
    cases h with | scr a => exact ⟨_, _, rfl, .inl ⟨_, m.seq a, rfl⟩, by rw [List.length_map]; exact p.int m (.int _)⟩
  · obtain ⟨v, rfl, h⟩ := r.one
    cases h
    split at p
    · exact ⟨_, _, rfl, ⟨by rw [sizeLine_eq]; omega, rfl⟩, p.int m (.int _)⟩
    · exact p.elim
  · exact p.elim
theorem a_abs : OpA K cl (fun xs H Q => ∃ i, xs = [.int i] ∧ Q (.int (if i < 0 then -i else i)) H) fAbs := by
  intro F H vs ds Q m r p
  unfold fAbs at p
  split at p
  · obtain ⟨v, rfl, h⟩ := r.one
    cases h; exact ⟨_, rfl, p.int m (.int _)⟩
  · exact p.elim
theorem a_int : OpA K cl (fun xs H Q => (∃ i, xs = [.int i] ∧ Q (.int i) H) ∨ ∃ k, xs = [.bl k] ∧ Q (.int (if k then 1 else 0)) H) fInt := by
  intro F H vs ds Q m r p
  unfold fInt at p
  split at p
  · obtain ⟨v, rfl, h⟩ := r.one
    cases h; exact .inl ⟨_, rfl, p.int m (.int _)⟩
  · obtain ⟨v, rfl, h⟩ := r.one
    cases h; exact .inr ⟨_, rfl, p.int m (.int _)⟩
  · exact p.elim
theorem a_gcd : OpA K cl rGcd fGcd := by
  intro F H vs ds Q m r p
  unfold fGcd at p
  split at p
  · obtain ⟨v, u, rfl, h, h2⟩ := r.two
    cases h; cases h2; exact ⟨_, _, rfl, p.int m (.int _)⟩
  · exact p.elim
theorem a_tuple : OpA K cl (fun xs H Q => ∃ p ys, xs = [.ref p] ∧ ((SqL K H p ys ∧ ∀ l, H l = none → Q (.ref l) (upd H l (.tup ys))) ∨ (SqT K H p ys ∧ Q (.ref p) H))) fTuple := by
  intro F H vs ds Q m r p
  unfold fTuple at p
  split at p
  · obtain ⟨v, rfl, h⟩ := r.one
    cases h with | lst a b => exact ⟨_, _, rfl, .inl ⟨.of (m _ _ a), fun l hl => p.new m hl fun F' hF e => .tup e (b.mono hF)⟩⟩
  · obtain ⟨v, rfl, h⟩ := r.one
    cases h with | tup a b => exact ⟨_, _, rfl, .inr ⟨.of (m _ _ a), p.int m (.tup a b)⟩⟩
  · exact p.elim
theorem a_sum : OpA K cl (rSum K) fSum := by
  intro F H vs ds Q m r p
  unfold fSum at p
  split at p
  · obtain ⟨v, rfl, h⟩ := r.one
    cases h with
    | lst a b =>
      rename_i ds aa xs
      cases q : intsOf ds with
      | none => rw [q] at p; exact p.elim
      | some ns =>
        rw [q] at p
        have := intsOf_rp b q; subst this
        exact ⟨_, _, rfl, .of (m _ _ a), p.int m (.int _)⟩
  · exact p.elim
theorem minI_least : ∀ {ns : List Int} {m : Int}, m ∈ ns → (∀ y, y ∈ ns → m ≤ y) → minI ns = some m
  | [a], m, h, _ => by simp at h; subst h; rfl
  | a :: b :: r, m, h, l => by
    have e : ∃ k, minI (b :: r) = some k ∧ k ∈ (b :: r) := by
      have : ∀ (l : List Int), l ≠ [] → ∃ k, minI l = some k ∧ k ∈ l := by
        intro l
        induction l with
        | nil => intro h; exact absurd rfl h
        | cons x t ih =>
          intro _
          cases t with
          | nil => exact ⟨x, rfl, by simp⟩
          | cons y t =>
            obtain ⟨k, h1, h2⟩ := ih (by simp)
            refine ⟨if x ≤ k then x else k, by show (minI (y :: t)).map _ = _; rw [h1]; rfl, ?_⟩
            split
            · simp
            · exact List.mem_cons_of_mem _ h2
      exact this _ (by simp)
    obtain ⟨k, h1, h2⟩ := e
    have hk : ∀ y ∈ (b :: r), k ≤ y := by
      have key : ∀ (l : List Int) (k : Int), minI l = some k → ∀ y ∈ l, k ≤ y := by
        intro l
        induction l with
        | nil => intro k h; cases h
        | cons x t ih =>
          intro k h y hy
          cases t with
          | nil => simp [minI] at h; simp at hy; omega
          | cons z t =>
            simp only [minI] at h
            cases q : minI (z :: t) with
            | none =>
              rw [q] at h; cases h
            | some j =>
              rw [q] at h
              have e : (if x ≤ j then x else j) = k := by simpa using h
              rcases List.mem_cons.mp hy with rfl | hy
              · split at e <;> omega
              · have := ih j q y hy
                split at e <;> omega
      exact key _ _ h1
    show (minI (b :: r)).map _ = _
    rw [h1]
    have h3 := l k (List.mem_cons_of_mem _ h2)
    have h4 := l a (by simp)
    simp only [Option.map_some, Option.some.injEq]
    rcases List.mem_cons.mp h with e | e
    · subst e; rw [if_pos h3]
    · have h5 := hk m e
      split <;> omega
theorem maxI_most : ∀ {ns : List Int} {m : Int}, m ∈ ns → (∀ y, y ∈ ns → y ≤ m) → maxI ns = some m
  | [a], m, h, _ => by simp at h; subst h; rfl
  | a :: b :: r, m, h, l => by
    have e : ∃ k, maxI (b :: r) = some k ∧ k ∈ (b :: r) := by
      have : ∀ (l : List Int), l ≠ [] → ∃ k, maxI l = some k ∧ k ∈ l := by
        intro l
        induction l with
        | nil => intro h; exact absurd rfl h
        | cons x t ih =>
          intro _
          cases t with
          | nil => exact ⟨x, rfl, by simp⟩
          | cons y t =>
            obtain ⟨k, h1, h2⟩ := ih (by simp)
            refine ⟨if k ≤ x then x else k, by show (maxI (y :: t)).map _ = _; rw [h1]; rfl, ?_⟩
            split
            · simp
            · exact List.mem_cons_of_mem _ h2
      exact this _ (by simp)
    obtain ⟨k, h1, h2⟩ := e
    have hk : ∀ y ∈ (b :: r), y ≤ k := by
      have key : ∀ (l : List Int) (k : Int), maxI l = some k → ∀ y ∈ l, y ≤ k := by
        intro l
        induction l with
        | nil => intro k h; cases h
        | cons x t ih =>
          intro k h y hy
          cases t with
          | nil => simp [maxI] at h; simp at hy; omega
          | cons z t =>
            simp only [maxI] at h
            cases q : maxI (z :: t) with
            | none =>
              rw [q] at h; cases h
            | some j =>
              rw [q] at h
              have e : (if j ≤ x then x else j) = k := by simpa using h
              rcases List.mem_cons.mp hy with rfl | hy
              · split at e <;> omega
              · have := ih j q y hy
                split at e <;> omega
      exact key _ _ h1
    show (maxI (b :: r)).map _ = _
    rw [h1]
    have h3 := l k (List.mem_cons_of_mem _ h2)
    have h4 := l a (by simp)
    simp only [Option.map_some, Option.some.injEq]
    rcases List.mem_cons.mp h with e | e
    · subst e; rw [if_pos h3]
    · have h5 := hk m e
      split <;> omega
theorem minI_some {ns : List Int} {k : Int} (h : minI ns = some k) : 0 < ns.length := by
  cases ns with
  | nil => cases h
  | cons => simp
theorem maxI_some {ns : List Int} {k : Int} (h : maxI ns = some k) : 0 < ns.length := by
  cases ns with
  | nil => cases h
  | cons => simp
def rMinU (K : PySem.W.Frag) : List V → Hp → VK → Prop := fun xs H Q => rMin K xs H Q ∨ ∃ i j, xs = [.int i, .int j] ∧ Q (.int (if j < i then j else i)) H
def rMaxU (K : PySem.W.Frag) : List V → Hp → VK → Prop := fun xs H Q => rMax K xs H Q ∨ ∃ i j, xs = [.int i, .int j] ∧ Q (.int (if j > i then j else i)) H
theorem CallR.or {f : Value} {r r' : List V → Hp → VK → Prop} (h : CallR X f r) (h' : CallR X f r') : CallR X f fun xs H Q => r xs H Q ∨ r' xs H Q := by
  intro pins s σ H vs us Q I rr q
  rcases q with q | q
  · exact h pins s σ H vs us Q I rr q
  · exact h' pins s σ H vs us Q I rr q
theorem cr_minU (hc : X.calm = true) : CallR X (.builtin "min") (rMinU X.K) := CallR.or (cr_min hc) (call_min2 hc)
theorem cr_maxU (hc : X.calm = true) : CallR X (.builtin "max") (rMaxU X.K) := CallR.or (cr_max hc) (call_max2 hc)
theorem a_min : OpA K cl (rMinU K) fMin := by
  intro F H vs ds Q m r p
  unfold fMin at p
  split at p
  · obtain ⟨v, rfl, h⟩ := r.one
    cases h with
    | lst a b =>
      rename_i ds aa xs
      cases q : intsOf ds with
      | none => rw [q] at p; exact p.elim
      | some ns =>
        rw [q] at p
        have := intsOf_rp b q; subst this
        cases q2 : minI ns with
        | none => rw [show (some ns : Option (List Int)).bind (fun ns => (minI ns).map D.int) = none by show (minI ns).map _ = _; rw [q2]; rfl] at p; exact p.elim
        | some k =>
          rw [show (some ns : Option (List Int)).bind (fun ns => (minI ns).map D.int) = some (.int k) by show (minI ns).map _ = _; rw [q2]; rfl] at p
          refine .inl ⟨_, _, rfl, .of (m _ _ a), minI_some q2, fun j h1 h2 => ?_⟩
          have := minI_least h1 h2
          rw [q2] at this; cases this
          exact p.int m (.int _)
  · obtain ⟨v, u, rfl, h, h2⟩ := r.two
    cases h; cases h2
    exact .inr ⟨_, _, rfl, p.int m (.int _)⟩
  · exact p.elim
theorem a_max : OpA K cl (rMaxU K) fMax := by
  intro F H vs ds Q m r p
  unfold fMax at p
  split at p
  · obtain ⟨v, rfl, h⟩ := r.one
    cases h with
    | lst a b =>
      rename_i ds aa xs
      cases q : intsOf ds with
      | none => rw [q] at p; exact p.elim
      | some ns =>
        rw [q] at p
        have := intsOf_rp b q; subst this
        cases q2 : maxI ns with
        | none => rw [show (some ns : Option (List Int)).bind (fun ns => (maxI ns).map D.int) = none by show (maxI ns).map _ = _; rw [q2]; rfl] at p; exact p.elim
        | some k =>
          rw [show (some ns : Option (List Int)).bind (fun ns => (maxI ns).map D.int) = some (.int k) by show (maxI ns).map _ = _; rw [q2]; rfl] at p
          refine .inl ⟨_, _, rfl, .of (m _ _ a), maxI_some q2, fun j h1 h2 => ?_⟩
          have := maxI_most h1 h2
          rw [q2] at this; cases this
          exact p.int m (.int _)
  · obtain ⟨v, u, rfl, h, h2⟩ := r.two
    cases h; cases h2
    exact .inr ⟨_, _, rfl, p.int m (.int _)⟩
  · exact p.elim
theorem a_any : OpA K cl (rAny K) fAny := by
  intro F H vs ds Q m r p
  unfold fAny at p
  split at p
  · obtain ⟨v, rfl, h⟩ := r.one
    cases h with
    | lst a b =>
      rename_i ds aa xs
      cases q : blsOf ds with
      | none => rw [q] at p; exact p.elim
      | some ns =>
        rw [q] at p
        have := blsOf_rp b q; subst this
        exact ⟨_, _, rfl, .of (m _ _ a), p.int m (.bl _)⟩
  · exact p.elim
theorem a_all : OpA K cl (rAll K) fAll := by
  intro F H vs ds Q m r p
  unfold fAll at p
  split at p
  · obtain ⟨v, rfl, h⟩ := r.one
    cases h with
    | lst a b =>
      rename_i ds aa xs
      cases q : blsOf ds with
      | none => rw [q] at p; exact p.elim
      | some ns =>
        rw [q] at p
        have := blsOf_rp b q; subst this
        exact ⟨_, _, rfl, .of (m _ _ a), p.int m (.bl _)⟩
  · exact p.elim
end
end FL
namespace FL
open PySem L2
/-! ## calls of the text's own defs -/
def spOf (K : PySem.W.Frag) (cl : Str → Addr) (n : Nat) (φ : List D → Res D) : Sp := fun vs H Q E => ∃ F ds, Same F H ∧ RpA K cl F vs ds ∧ vs.length = n ∧
  match φ ds with
  | .ok d => ∀ v F' H', Gr F H F' H' → Rp K cl F' v d → Q v H'
  | .er e => ∀ c dd F' H', Gr F H F' H' → XRp K cl F' c dd e → E c dd H'
  | .bad => False
def mCall (n : Nat) (φ : List D → Res D) (ms : En → Res (List D)) : En → Res D := fun ρ => (ms ρ).bind fun ds => if ds.length = n then φ ds else .bad
section
variable {X : Cx} {cl : Str → Addr} {W : WX} {e a b : Expr} {es : List Expr} {ms : En → Res (List D)} {p pos : Pos} {x : Str}
theorem call_in {n : Nat} {φ : List D → Res D} : ∀ σ H Q, tM X.K cl W (mCall n φ ms) σ H Q → tCallS (spOf X.K cl n φ) (WE W) (tA X.K cl W ms) σ H Q := by
  rintro σ H Q ⟨B, F0, F, ρ, s, p⟩
  refine ⟨B, F0, F, ρ, s, (stepA s p).imp ?_⟩
  rintro vs H' ⟨ds, F', e, g, h, p⟩
  by_cases hl : ds.length = n
  · rw [if_pos hl] at p
    refine ⟨F', ds, g.fh, h, by rw [h.length, hl], ?_⟩
    cases q : φ ds with
    | bad => rw [q] at p; exact p
    | er e => rw [q] at p; exact p
    | ok d => rw [q] at p; exact p
  · rw [if_neg hl] at p; exact p.elim
theorem so_call {k : Nat} {f : Addr} {fd : FuncData} {ps : List Str} {n : Nat} {φ : List D → Res D} (F : FnOk X.prog X.w X.K X.mg X.base (L2.CX X.prog X.w) k f fd ps (spOf X.K cl n φ)) (hr : Room k X.A) (hg : Gl X x) (hm : X.mg x = some (.ref f))
    (hk : PySem.W.keepIn X.K (.ref f) = true) (hb : Binds X.K fd ps []) (tk : Takes X W) (ha : SA X cl W (e :: es) ms) (hdb : (x == ("__debug__" : Str)) = false := by decide)
    (he : starEach (e :: es) X.env = (false, eval e X.env) :: starEach es X.env := by rfl) (hpl : (backTo pos (starEach es X.env)).any (·.1) = false := by rfl) :
    SE X cl W (.Call (.Name x p) (e :: es) [] pos) (mCall n φ ms) :=
  (pe_callS F hr hg hm hk hb (passAt tk) ha hdb he hpl).of call_in
/-- a call without arguments -/
theorem so_call0 {k : Nat} {f : Addr} {fd : FuncData} {ps : List Str} {φ : List D → Res D} (F : FnOk X.prog X.w X.K X.mg X.base (L2.CX X.prog X.w) k f fd ps (spOf X.K cl 0 φ)) (hr : Room k X.A) (hg : Gl X x) (hm : X.mg x = some (.ref f))
    (hk : PySem.W.keepIn X.K (.ref f) = true) (hb : Binds X.K fd ps []) (tk : Takes X W) (hdb : (x == ("__debug__" : Str)) = false := by decide) :
    SE X cl W (.Call (.Name x p) [] [] pos) (mCall 0 φ mNil) := by
  refine ⟨fun pins s σ H Q I h => ?_⟩
  refine wpAny_Call_Name_kw (ld_glob I hg hm ?_ hdb)
  obtain ⟨B, F0, F1, ρ, so, p⟩ := h
  have h2 : tCallS (spOf X.K cl 0 φ) (WE W) (tA X.K cl W mNil) σ H Q := call_in σ H Q ⟨B, F0, F1, ρ, so, p⟩
  obtain ⟨B, F0, F1, ρ, so, p⟩ := h2
  exact PySem.W.callWith_K0 I.kIn hk (run_fnS (us := []) F hr hb (passAt tk σ) I .nil (p [] F1 H (.refl so.fh) .nil))
end
/-! ## slices, fresh copies, isinstance -/
def cutD (xs : List D) (lo hi : Option Int) : List D := (xs.drop (HT.sIx xs.length 0 lo)).take (HT.sIx xs.length xs.length hi - HT.sIx xs.length 0 lo)
def fSl : D → Option Int → Option Int → Option D
  | .lst ds, lo, hi => some (.lst (cutD ds lo hi))
  | .tup ds, lo, hi => some (.tup (cutD ds lo hi))
  | _, _, _ => none
def intOf : D → Option Int
  | .int i => some i
  | _ => none
def mPart (m : En → Res D) : En → Res (Option Int) := fun ρ => (m ρ).bind fun d => match intOf d with
  | some i => .ok (some i)
  | none => .bad
def mNoPart : En → Res (Option Int) := fun _ => .ok none
def mSl (m : En → Res D) (lo hi : En → Res (Option Int)) : En → Res D := fun ρ => (m ρ).bind fun d => (lo ρ).bind fun l => (hi ρ).bind fun h => .ofO (fSl d l h)
def PostP (K : PySem.W.Frag) (cl : Str → Addr) (W : WX) (σ : L2.St) (F H : Hp) (r : Res (Option Int)) (Q : Option Int → Hp → Prop) : Prop := match r with
  | .ok o => ∀ F' H', Gr F H F' H' → Q o H'
  | .er e => ∀ c dd F' H', Gr F H F' H' → XRp K cl F' c dd e → W c dd σ H'
  | .bad => False
def tP (K : PySem.W.Frag) (cl : Str → Addr) (W : WX) (m : En → Res (Option Int)) : TO := fun σ H Q => ∃ B F0 F ρ, SOk K cl B F0 F σ H ρ ∧ PostP K cl W σ F H (m ρ) Q
def isiTy (u : String) : D → Option Bool
  | .non => kitB "NoneType" u
  | .bl _ => kitB "bool" u
  | .int _ => kitB "int" u
  | .str _ => kitB "str" u
  | .lst _ => kitB "list" u
  | .tup _ => kitB "tuple" u
  | .dik _ _ => kitB "dict" u
  | .dit _ _ => kitB "dict" u
  | _ => none
def mIsiTy (u : String) (m : En → Res D) : En → Res D := fun ρ => (m ρ).bind fun d => match isiTy u d with
  | some b => .ok (.bl b)
  | none => .bad
section
variable {X : Cx} {cl : Str → Addr} {W : WX} {e a b : Expr} {es : List Expr} {m : En → Res D} {ml mh : En → Res (Option Int)} {ms : En → Res (List D)} {p p2 pos : Pos} {x : Str}
abbrev SP' (X : Cx) (cl : Str → Addr) (W : WX) (e : Option Expr) (m : En → Res (Option Int)) : Prop := PO X e (tP X.K cl W m)
theorem PO.of {e : Option Expr} {t u : TO} (h : PO X e t) (i : ∀ σ H Q, u σ H Q → t σ H Q) : PO X e u := ⟨fun p s σ H Q I q => h.run p s σ H Q I (i σ H Q q)⟩
theorem sp_none : SP' X cl W none mNoPart := PO.of po_none fun σ H Q ⟨B, F0, F, ρ, s, p⟩ => p F H (.refl s.fh)
theorem sp_some (h : SE X cl W e m) : SP' X cl W (some e) (mPart m) := PO.of (po_some h) (by
  rintro σ H Q ⟨B, F0, F, ρ, s, p⟩
  refine ⟨B, F0, F, ρ, s, ?_⟩
  unfold mPart at p
  cases q : m ρ with
  | bad => rw [q] at p; exact p
  | er e => rw [q] at p; exact p
  | ok d =>
    rw [q] at p
    intro v F' H' g r
    cases d with
    | int i => cases r; exact ⟨i, rfl, p F' H' g⟩
    | _ => exact p.elim)
theorem cutD_rp {K : PySem.W.Frag} {F : Hp} {vs : List V} {ds : List D} (h : RpA K cl F vs ds) (lo hi : Option Int) : RpA K cl F (cutV vs lo hi) (cutD ds lo hi) := by
  unfold cutV cutD
  rw [h.length]
  exact (h.drop _).take _
def rSlU (K : PySem.W.Frag) : V → Option Int → Option Int → Hp → VK → Prop := fun x lo hi H Q => rSlL K x lo hi H Q ∨ rSlA K x lo hi H Q
theorem sl_U : SlR X (rSlU X.K) := sl_list.or sl_tupA
theorem sl_ok {K : PySem.W.Frag} {F H : Hp} {x : V} {d : D} {lo hi : Option Int} {Q : VK} (m : Same F H) (r : Rp K cl F x d) (p : PostO K cl F H (fSl d lo hi) Q) : rSlU K x lo hi H Q := by
  cases r <;> simp only [fSl] at p <;> try exact p.elim
  · rename_i a xs ds ha ra
    exact .inl ⟨_, _, rfl, .of (m _ _ ha), fun q hq => p.new m hq fun F' hF e => .lst e (cutD_rp (ra.mono hF) _ _)⟩
  · rename_i a xs ds ha ra
    refine .inr ⟨_, _, rfl, .of (m _ _ ha), fun hw => ?_, fun _ q hq => p.new m hq fun F' hF e => .tup e (cutD_rp (ra.mono hF) _ _)⟩
    have e : cutD ds lo hi = ds := by
      unfold cutD
      rw [← ra.length, hw.1, hw.2]
      simp [ra.length]
    rw [e] at p
    exact p.int m (.tup ha ra)
theorem PostP.imp {K : PySem.W.Frag} {σ : L2.St} {F H : Hp} {r : Res (Option Int)} {Q Q' : Option Int → Hp → Prop} (p : PostP K cl W σ F H r Q) (h : ∀ b H', Q b H' → Q' b H') : PostP K cl W σ F H r Q' := by
  cases r with
  | bad => exact p
  | er e => exact p
  | ok b => exact fun F' H' g => h _ _ (p F' H' g)
theorem stepP {K : PySem.W.Frag} {σ : L2.St} {B F0 F H : Hp} {ρ : En} {r : Res (Option Int)} {g : Option Int → Res D} {Q : VK} (s : SOk K cl B F0 F σ H ρ) (p : PostE K cl W σ F H (r.bind g) Q) :
    PostP K cl W σ F H r fun o H' => ∃ F', Gr F H F' H' ∧ PostE K cl W σ F' H' (g o) Q := by
  cases r with
  | bad => exact p
  | er e => exact p
  | ok d =>
    intro F' H' g1
    have p : PostE K cl W σ F H (g d) Q := p
    exact ⟨F', g1, p.gr g1⟩
theorem so_sl {lo hi : Option Expr} (he : SE X cl W e m) (hl : SP' X cl W lo ml) (hu : SP' X cl W hi mh) : SE X cl W (.Subscript e (.Slice lo hi none p2) pos) (mSl m ml mh) := by
  refine (pe_slice sl_U he hl hu).of ?_
  rintro σ H Q ⟨B, F0, F, ρ, s, p⟩
  refine ⟨B, F0, F, ρ, s, (step1 s p).imp ?_⟩
  rintro v H1 ⟨d, F1, e, g1, r, p⟩
  refine ⟨B, F0, F1, ρ, s.grow g1, (stepP (s.grow g1) p).imp ?_⟩
  rintro l H2 ⟨F2, g2, p⟩
  have s2 := (s.grow g1).grow g2
  refine ⟨B, F0, F2, ρ, s2, (stepP s2 p).imp ?_⟩
  rintro u H3 ⟨F3, g3, p⟩
  exact sl_ok g3.fh ((r.mono g2.f).mono g3.f) (.of p)
def fRev : D → Option D
  | .lst ds => some (.lst ds.reverse)
  | _ => none
theorem RpA.rev {K : PySem.W.Frag} {F : Hp} : ∀ {vs : List V} {ds : List D}, RpA K cl F vs ds → RpA K cl F vs.reverse ds.reverse
  | _, _, .nil => .nil
  | _, _, .cons a t => by rw [List.reverse_cons, List.reverse_cons]; exact (RpA.rev t).app (.cons a .nil)
theorem so_rev {k : Nat} {p1 p2 p3 : Pos} (he : SE X cl W e m) : SE X cl W (.Subscript e (.Slice none none (some (.UnaryOp .USub (.Constant (.int 1) k p1) p2)) p3) pos) (mOp1 fRev m) := by
  refine (pe_revL he).of ?_
  rintro σ H Q ⟨B, F0, F, ρ, s, p⟩
  refine ⟨B, F0, F, ρ, s, (step1 s p).imp ?_⟩
  rintro v H1 ⟨d, F1, e, g1, r, p⟩
  cases r with
  | lst a b => exact ⟨_, _, rfl, .of (g1.fh _ _ a), fun q hq => (PostO.of p).new g1.fh hq fun F' hF e => .lst e (RpA.rev (b.mono hF))⟩
  | _ => exact p.elim
/-- list(x): fresh -/
def seqOf : D → Option (List D)
  | .lst ds => some ds
  | .tup ds => some ds
  | _ => none
def mList (m : En → Res D) : En → Res Cn := fun ρ => (m ρ).bind fun d => match seqOf d with
  | some ds => .ok (.l ds)
  | none => .bad
/-- a fresh answer of one value -/
theorem stepC {K : PySem.W.Frag} {σ : L2.St} {B F0 F H : Hp} {ρ : En} {r : Res D} {g : D → Res Cn} {Q : VK} (s : SOk K cl B F0 F σ H ρ) (p : PostC K cl W σ F H (r.bind g) Q) :
    PostE K cl W σ F H r fun v H' => ∃ d F', r = .ok d ∧ Gr F H F' H' ∧ Rp K cl F' v d ∧ PostC K cl W σ F' H' (g d) Q := by
  cases r with
  | bad => exact p
  | er e => exact p
  | ok d =>
    intro v F' H' g1 h1
    have p : PostC K cl W σ F H (g d) Q := p
    refine ⟨d, F', rfl, g1, h1, ?_⟩
    cases q : g d with
    | bad => rw [q] at p; exact p
    | er e => rw [q] at p; exact fun c dd F2 H2 g2 h2 => p c dd F2 H2 (g1.trans g2) h2
    | ok d2 => rw [q] at p; exact fun a o F2 H2 g2 hn => p a o F2 H2 (g1.trans g2) (Same.free g1.h hn)
theorem PostC.put {K : PySem.W.Frag} {σ : L2.St} {F H : Hp} {c : Cn} {Q : VK} {a : Addr} {o : HO} (p : PostC K cl W σ F H (.ok c) Q) (m : Same F H) (hn : H a = none) (h : CnR K cl F c o) : Q (.ref a) (upd H a o) :=
  p a o F _ (.own m hn) hn (by cases z : F a with | none => rfl | some u => rw [m _ _ z] at hn; cases hn) upd_same h
theorem sc_list {e : Expr} (hg : Gl X "list") (hm : X.mg "list" = none) (ha : SE X cl W e m)
    (hs : starEach (e :: []) X.env = (false, eval e X.env) :: starEach [] X.env := by rfl) (he : starEach (e :: []) X.env = (false, eval e X.env) :: starEach [] X.env := by rfl) (hpl : (backTo pos (starEach [] X.env)).any (·.1) = false := by rfl) :
    SC X cl W (.Call (.Name "list" p) [e] [] pos) (mList m) := by
  refine (pe_callTy call_list_of hg hm (by decide +kernel) (pa_cons ha pa_nil hs) (by decide) (by decide) he hpl).of ?_
  rintro σ H Q ⟨B, F0, F, ρ, s, p⟩
  refine ⟨B, F0, F, ρ, s, (stepC s p).imp ?_⟩
  rintro v H1 ⟨d, F1, e, g1, r, p⟩
  show ∃ q ys, [v] = [V.ref q] ∧ _
  cases r with
  | lst a b => exact ⟨_, _, rfl, .inl (.of (g1.fh _ _ a)), fun l hl => p.put g1.fh hl ⟨_, rfl, b⟩⟩
  | tup a b => exact ⟨_, _, rfl, .inr (.of (g1.fh _ _ a)), fun l hl => p.put g1.fh hl ⟨_, rfl, b⟩⟩
  | _ => exact p.elim
/-- isinstance(x, T), T built-in -/
theorem isiTy_rp {K : PySem.W.Frag} {F H : Hp} {v : V} {d : D} {u : String} {b : Bool} (m : Same F H) (r : Rp K cl F v d) (e : isiTy u d = some b) : ∃ t, TyX K H v (.type t) ∧ kitB t u = some b := by
  cases r with
  | non => exact ⟨_, .base .non, e⟩
  | bl => exact ⟨_, .base (.bl _), e⟩
  | int => exact ⟨_, .base (.int _), e⟩
  | str => exact ⟨_, .base (.str _), e⟩
  | lst a _ => exact ⟨_, .base (.lst (m _ _ a)), e⟩
  | tup a _ => exact ⟨_, .base (.tup (m _ _ a)), e⟩
  | dik a _ _ => exact ⟨_, .base (.dK (m _ _ a)), e⟩
  | dit a _ _ => exact ⟨_, .base (.dT (m _ _ a)), e⟩
  | _ => cases e
theorem so_isiTy {u : String} {x : Str} {px : Pos} (hg : Gl X "isinstance") (hm : X.mg "isinstance" = none) (hx : PE X (.Name x px) (L2.tC (.ty u))) (ha : SE X cl W e m)
    (hs1 : starEach (e :: [.Name x px]) X.env = (false, eval e X.env) :: starEach [.Name x px] X.env := by rfl) (hs2 : starEach [.Name x px] X.env = (false, eval (.Name x px) X.env) :: starEach [] X.env := by rfl)
    (hpl : (backTo pos (starEach [.Name x px] X.env)).any (·.1) = false := by rfl) :
    SE X cl W (.Call (.Name "isinstance" p) [e, .Name x px] [] pos) (mIsiTy u m) := by
  refine (pe_callB call_isi hg hm (by decide +kernel) (pa_cons ha (pa_cons hx pa_nil hs2) hs1) (by decide) (by decide) hs1 hpl).of ?_
  rintro σ H Q ⟨B, F0, F, ρ, s, p⟩
  refine ⟨B, F0, F, ρ, s, (step1 s p).imp ?_⟩
  rintro v H1 ⟨d, F1, e, g1, r, p⟩
  cases q : isiTy u d with
  | none => rw [q] at p; exact p.elim
  | some b =>
    rw [q] at p
    obtain ⟨t, h1, h2⟩ := isiTy_rp g1.fh r q
    exact ⟨v, .ty u, _, _, b, rfl, .ty u, h1, kit_ty h2, p _ F1 H1 (.refl g1.fh) (.bl _)⟩
end
end FL
namespace FL
open PySem L2
/-! ## what is walked -/
structure ItOk (K : PySem.W.Frag) (cl : Str → Addr) (J : It) (F : Hp) (ds : List D) : Prop where
  go : ∀ i H, Same F H → i < ds.length → J.go i H
  stop : ∀ i H, Same F H → i = ds.length → J.stop i H
  yld : ∀ i H x H' d F1, Same F F1 → Same F1 H → J.yld i H x H' → ds[i]? = some d → ∃ F2, Gr F1 H F2 H' ∧ Rp K cl F2 x d
def PostI (K : PySem.W.Frag) (cl : Str → Addr) (W : WX) (σ : L2.St) (F H : Hp) (r : Res (List D)) (R : It → Hp → Prop) : Prop := match r with
  | .ok ds => ∀ J F' H', Gr F H F' H' → ItOk K cl J F' ds → R J H'
  | .er e => ∀ c dd F' H', Gr F H F' H' → XRp K cl F' c dd e → W c dd σ H'
  | .bad => False
def tI (K : PySem.W.Frag) (cl : Str → Addr) (W : WX) (m : En → Res (List D)) : TI := fun σ H R => ∃ B F0 F ρ, SOk K cl B F0 F σ H ρ ∧ PostI K cl W σ F H (m ρ) R
abbrev SI (X : Cx) (cl : Str → Addr) (W : WX) (tg e : Expr) (m : En → Res (List D)) : Prop := PI X tg e (tI X.K cl W m)
def elems : D → Option (List D)
  | .lst ds => some ds
  | .tup ds => some ds
  | .scr ns => some (ns.map .int)
  | _ => none
def mSeq (m : En → Res D) : En → Res (List D) := fun ρ => (m ρ).bind fun d => .ofO (elems d)
def rngD (lo : Int) (n : Nat) : List D := (List.range n).map fun (k : Nat) => .int (lo + (k : Int))
theorem p62 : (2 : Int) ^ 62 = 4611686018427387904 := by decide
def rng1Of : List D → Option (List D)
  | [.int j] => if -4611686018427387904 ≤ j ∧ j < 4611686018427387904 then some (rngD 0 j.toNat) else none
  | _ => none
def rng2Of : List D → Option (List D)
  | [.int i, .int j] => if -4611686018427387904 ≤ i ∧ i < 4611686018427387904 ∧ -4611686018427387904 ≤ j ∧ j < 4611686018427387904 then some (rngD i (j - i).toNat) else none
  | _ => none
def mRng1 (ms : En → Res (List D)) : En → Res (List D) := fun ρ => (ms ρ).bind fun ds => .ofO (rng1Of ds)
def mRng2 (ms : En → Res (List D)) : En → Res (List D) := fun ρ => (ms ρ).bind fun ds => .ofO (rng2Of ds)
section
variable {X : Cx} {cl : Str → Addr} {W : WX} {tg e a b : Expr} {es : List Expr} {m : En → Res D} {ms : En → Res (List D)} {p p2 pos : Pos} {x : Str}
theorem _root_.L2.PI.of {tg e : Expr} {t u : TI} (h : PI X tg e t) (i : ∀ σ H R, u σ H R → t σ H R) : PI X tg e u := ⟨fun p s σ H R I q => h.run p s σ H R I (i σ H R q)⟩
theorem it_list {K : PySem.W.Frag} {F : Hp} {a : Addr} {xs : List V} {ds : List D} (h : SqL K F a xs) (r : RpA K cl F xs ds) : ItOk K cl (Itl K a) F ds where
  go := fun i H m hi => ⟨xs, xs[i]'(by rw [r.length]; exact hi), m.seq h, by simp [r.length, hi]⟩
  stop := fun i H m hi => ⟨xs, m.seq h, by rw [r.length, hi]; exact Nat.le_refl _⟩
  yld := fun i H x H' d F1 m1 m2 y e => by
    obtain ⟨rfl, y⟩ := y
    obtain ⟨d', h1, h2⟩ := r.get (y xs ((m1.trans m2).seq h))
    rw [e] at h1; cases h1
    exact ⟨F1, .refl m2, h2.mono m1⟩
theorem Same.seqT {K : PySem.W.Frag} {H H' : Hp} {a : Addr} {xs : List V} (e : Same H H') (h : SqT K H a xs) : SqT K H' a xs := by
  rcases h with (h | ⟨o, h⟩) | h
  · exact .inl (.inl (e _ _ h))
  · exact .inl (.inr ⟨o, e _ _ h⟩)
  · exact .inr h
theorem it_tup {K : PySem.W.Frag} {F : Hp} {a : Addr} {xs : List V} {ds : List D} (h : SqT K F a xs) (r : RpA K cl F xs ds) : ItOk K cl (Itt K a) F ds where
  go := fun i H m hi => ⟨xs, xs[i]'(by rw [r.length]; exact hi), Same.seqT m h, by simp [r.length, hi]⟩
  stop := fun i H m hi => ⟨xs, Same.seqT m h, by rw [r.length, hi]; exact Nat.le_refl _⟩
  yld := fun i H x H' d F1 m1 m2 y e => by
    obtain ⟨rfl, y⟩ := y
    obtain ⟨d', h1, h2⟩ := r.get (y xs (Same.seqT (m1.trans m2) h))
    rw [e] at h1; cases h1
    exact ⟨F1, .refl m2, h2.mono m1⟩
theorem it_rng {K : PySem.W.Frag} {F : Hp} {lo : Int} {n : Nat} : ItOk K cl (Itr lo n) F (rngD lo n) where
  go := fun i H m hi => by have : i < n := by simpa [rngD] using hi
                           exact this
  stop := fun i H m hi => by have : i = n := by simpa [rngD] using hi
                             show n ≤ i
                             omega
  yld := fun i H x H' d F1 m1 m2 y e => by
    obtain ⟨rfl, rfl⟩ := y
    unfold rngD at e
    rw [List.getElem?_map] at e
    by_cases hi : i < n
    · rw [List.getElem?_range hi] at e
      cases e
      exact ⟨F1, .refl m2, .int _⟩
    · rw [List.getElem?_eq_none (by simpa using hi)] at e; cases e
theorem rp_ints {K : PySem.W.Frag} {F : Hp} : ∀ ns : List Int, RpA K cl F (ns.map V.int) (ns.map D.int)
  | [] => .nil
  | n :: ns => .cons (.int n) (rp_ints ns)
/-- a list or a tuple -/
def iSeqU (K : PySem.W.Frag) (tl : TE) : TI := fun σ H R => tl σ H fun x H1 => ∃ a, x = .ref a ∧ (((∃ xs, SqL K H1 a xs) ∧ R (Itl K a) H1) ∨ ((∃ xs, SqT K H1 a xs) ∧ R (Itt K a) H1))
theorem pi_seqU {l : Expr} {tl : TE} (hl : PE X l tl) : PI X tg l (iSeqU X.K tl) := by
  refine ⟨fun pins s σ H R I h => ?_⟩
  refine thn (hl.run pins s σ H _ I h) fun v s1 ⟨x, H1, I1, r1, q1⟩ => ?_
  obtain ⟨a, e, q⟩ := q1
  subst e
  cases r1
  rcases q with ⟨⟨xs, hq⟩, q⟩ | ⟨⟨xs, hq⟩, q⟩
  · obtain ⟨its, rv, p, hz⟩ := I1.list hq
    refine wpAny_pyIter_list p.isList ?_
    refine ⟨s1.heap.objs.size, [s1.heap.objs.size], _, _, H1, rfl, I1.kept (t' := s1.toks) fun b o e => Heap.get?_push_of_some _ e, turn_list a _, ⟨_, Heap.get?_push_size _ rfl, rfl, rfl⟩, fun b hb => ?_, q⟩
    have e : b = s1.heap.objs.size := by simpa using hb
    subst e
    exact I1.fpOk (Nat.le_refl _) (I1.hok.fresh (Nat.le_refl _))
  · obtain ⟨its, rv, p, hz⟩ := I1.tuple hq
    refine wpAny_pyIter_tuple (show s1.heap.IsTuple a its.toArray from p) ?_
    refine ⟨s1.heap.objs.size, [s1.heap.objs.size], _, _, H1, rfl, I1.kept (t' := s1.toks) fun b o e => Heap.get?_push_of_some _ e, turn_tuple a _, ⟨_, Heap.get?_push_size _ rfl, rfl, rfl⟩, fun b hb => ?_, q⟩
    have e : b = s1.heap.objs.size := by simpa using hb
    subst e
    exact I1.fpOk (Nat.le_refl _) (I1.hok.fresh (Nat.le_refl _))
theorem stepI {K : PySem.W.Frag} {σ : L2.St} {B F0 F H : Hp} {ρ : En} {r : Res D} {g : D → Res (List D)} {R : It → Hp → Prop} (s : SOk K cl B F0 F σ H ρ) (p : PostI K cl W σ F H (r.bind g) R) :
    PostE K cl W σ F H r fun v H' => ∃ d F', r = .ok d ∧ Gr F H F' H' ∧ Rp K cl F' v d ∧ PostI K cl W σ F' H' (g d) R := by
  cases r with
  | bad => exact p
  | er e => exact p
  | ok d =>
    intro v F' H' g1 h1
    have p : PostI K cl W σ F H (g d) R := p
    refine ⟨d, F', rfl, g1, h1, ?_⟩
    cases q : g d with
    | bad => rw [q] at p; exact p
    | er e => rw [q] at p; exact fun c dd F2 H2 g2 h2 => p c dd F2 H2 (g1.trans g2) h2
    | ok ds => rw [q] at p; exact fun J F2 H2 g2 h2 => p J F2 H2 (g1.trans g2) h2
theorem si_seq (h : SE X cl W e m) : SI X cl W tg e (mSeq m) := by
  refine (pi_seqU h).of ?_
  rintro σ H R ⟨B, F0, F, ρ, s, p⟩
  refine ⟨B, F0, F, ρ, s, (stepI s p).imp ?_⟩
  rintro v H1 ⟨d, F1, e, g1, r, p⟩
  cases r with
  | lst a b => exact ⟨_, rfl, .inl ⟨⟨_, .of (g1.fh _ _ a)⟩, p _ F1 H1 (.refl g1.fh) (it_list (.of a) b)⟩⟩
  | tup a b => exact ⟨_, rfl, .inr ⟨⟨_, .of (g1.fh _ _ a)⟩, p _ F1 H1 (.refl g1.fh) (it_tup (.of a) b)⟩⟩
  | scr a => exact ⟨_, rfl, .inl ⟨⟨_, g1.fh.seq a⟩, p _ F1 H1 (.refl g1.fh) (it_list a (rp_ints _))⟩⟩
  | _ => exact p.elim
theorem stepIA {K : PySem.W.Frag} {σ : L2.St} {B F0 F H : Hp} {ρ : En} {r : Res (List D)} {g : List D → Res (List D)} {R : It → Hp → Prop} (s : SOk K cl B F0 F σ H ρ) (p : PostI K cl W σ F H (r.bind g) R) :
    PostA K cl W σ F H r fun vs H' => ∃ ds F', r = .ok ds ∧ Gr F H F' H' ∧ RpA K cl F' vs ds ∧ PostI K cl W σ F' H' (g ds) R := by
  cases r with
  | bad => exact p
  | er e => exact p
  | ok d =>
    intro v F' H' g1 h1
    have p : PostI K cl W σ F H (g d) R := p
    refine ⟨d, F', rfl, g1, h1, ?_⟩
    cases q : g d with
    | bad => rw [q] at p; exact p
    | er e => rw [q] at p; exact fun c dd F2 H2 g2 h2 => p c dd F2 H2 (g1.trans g2) h2
    | ok ds => rw [q] at p; exact fun J F2 H2 g2 h2 => p J F2 H2 (g1.trans g2) h2
theorem si_rng1 (hg : Gl X "range") (hm : X.mg "range" = none) (ha : SA X cl W [a] ms) (hs : starEach [a] X.env = [(false, eval a X.env)] := by rfl) : SI X cl W tg (.Call (.Name "range" p) [a] [] pos) (mRng1 ms) := by
  refine (pi_range1 hg hm ha hs).of ?_
  rintro σ H R ⟨B, F0, F, ρ, s, p⟩
  refine ⟨B, F0, F, ρ, s, (stepIA s p).imp ?_⟩
  rintro vs H1 ⟨ds, F1, e, g1, r, p⟩
  cases q : rng1Of ds with
  | none => rw [q] at p; exact p.elim
  | some es =>
    rw [q] at p
    unfold rng1Of at q
    split at q
    · obtain ⟨v, rfl, h⟩ := r.one
      cases h
      split at q
      · rename_i hj
        cases q
        exact ⟨_, rfl, hj.1, hj.2, p _ F1 H1 (.refl g1.fh) it_rng⟩
      · cases q
    · cases q
theorem si_rng2 (hg : Gl X "range") (hm : X.mg "range" = none) (ha : SA X cl W [a, b] ms) (hs : starEach [a, b] X.env = [(false, eval a X.env), (false, eval b X.env)] := by rfl) (hs2 : starEach [b] X.env = [(false, eval b X.env)] := by rfl) :
    SI X cl W tg (.Call (.Name "range" p) [a, b] [] pos) (mRng2 ms) := by
  refine (pi_range2 hg hm ha hs hs2).of ?_
  rintro σ H R ⟨B, F0, F, ρ, s, p⟩
  refine ⟨B, F0, F, ρ, s, (stepIA s p).imp ?_⟩
  rintro vs H1 ⟨ds, F1, e, g1, r, p⟩
  cases q : rng2Of ds with
  | none => rw [q] at p; exact p.elim
  | some es =>
    rw [q] at p
    unfold rng2Of at q
    split at q
    · obtain ⟨v, u, rfl, h, h2⟩ := r.two
      cases h; cases h2
      split at q
      · rename_i hj
        cases q
        exact ⟨_, _, rfl, hj, p _ F1 H1 (.refl g1.fh) it_rng⟩
      · cases q
    · cases q
end
/-! ## targets -/
/-- a target that stores into the slots `is` -/
structure GOk (K : PySem.W.Frag) (cl : Str → Addr) (g : TG) (is : List Nat) (bt : D → En → Option En) : Prop where
  run : ∀ B F0 F σ H ρ v d ρ' Q, SOk K cl B F0 F σ H ρ → Rp K cl F v d → bt d ρ = some ρ' → (∀ σ', SOk K cl B F0 F σ' H ρ' → σ'.length = σ.length → (∀ k, k ∉ is → σ'[k]? = σ[k]? ∧ ρ'[k]? = ρ[k]?) → Q σ' H) → g v σ H Q
  nol : ∀ d ρ ρ', bt d ρ = some ρ' → ∀ k, k ∈ is → ∀ b c, ρ'[k]? ≠ some (.ow b c)
def bName (i : Nat) : D → En → Option En := fun d ρ => some (ρ.set i (.im d))
def bNames : List Nat → List D → En → Option En
  | [], [], ρ => some ρ
  | i :: is, d :: ds, ρ => bNames is ds (ρ.set i (.im d))
  | _, _, _ => none
def bTup (is : List Nat) : D → En → Option En := fun d ρ => match d with
  | .tup ds => bNames is ds ρ
  | _ => none
section
variable {K : PySem.W.Frag} {cl : Str → Addr} {X : Cx} {B F0 F H : Hp} {σ : L2.St} {ρ : En} {i : Nat} {d : D} {v : V}
/-- a slot holds a new frozen value -/
theorem SOk.set (s : SOk K cl B F0 F σ H ρ) (i : Nat) (r : Rp K cl F v d) : SOk K cl B F0 F (σ.set i (some v)) H (ρ.set i (.im d)) where
  f0 := s.f0
  fh := s.fh
  bh := s.bh
  bf := s.bf
  len := by simpa using s.len
  im := fun j d' e => by
    by_cases h : j = i
    · subst h
      by_cases hl : j < ρ.length
      · rw [List.getElem?_set_self hl] at e; cases e
        exact ⟨v, by rw [List.getElem?_set_self (by rw [s.len]; exact hl)], r⟩
      · rw [List.getElem?_eq_none (by simpa using hl)] at e; cases e
    · rw [List.getElem?_set_ne (Ne.symm h)] at e ⊢
      exact s.im j d' e
  ow := fun j b c e => by
    by_cases h : j = i
    · subst h
      by_cases hl : j < ρ.length
      · rw [List.getElem?_set_self hl] at e; cases e
      · rw [List.getElem?_eq_none (by simpa using hl)] at e; cases e
    · rw [List.getElem?_set_ne (Ne.symm h)] at e ⊢
      exact s.ow j b c e
  ap := fun j k b c b' c' a hjk e1 e2 e3 => by
    have key : ∀ {j : Nat} {b : Bool} {c : Cn}, (ρ.set i (.im d))[j]? = some (.ow b c) → j ≠ i ∧ ρ[j]? = some (.ow b c) := fun {j b c} e => by
      by_cases h : j = i
      · subst h
        by_cases hl : j < ρ.length
        · rw [List.getElem?_set_self hl] at e; cases e
        · rw [List.getElem?_eq_none (by simpa using hl)] at e; cases e
      · rw [List.getElem?_set_ne (Ne.symm h)] at e; exact ⟨h, e⟩
    obtain ⟨n1, q1⟩ := key e1
    obtain ⟨n2, q2⟩ := key e2
    rw [List.getElem?_set_ne (Ne.symm n1)] at e3
    rw [List.getElem?_set_ne (Ne.symm n2)]
    exact s.ap j k b c b' c' a hjk q1 q2 e3
theorem g_name (i : Nat) : GOk K cl (gName i) [i] (bName i) where
  run := fun B F0 F σ H ρ v d ρ' Q s r e q => by
    cases e
    exact q _ (s.set i r) (by simp) fun k hk => by
      have : k ≠ i := by simpa using hk
      rw [List.getElem?_set_ne (Ne.symm this), List.getElem?_set_ne (Ne.symm this)]
      exact ⟨rfl, rfl⟩
  nol := fun d ρ ρ' e k hk b c z => by
    cases e
    have : k = i := by simpa using hk
    subst this
    by_cases hl : k < ρ.length
    · rw [List.getElem?_set_self hl] at z; cases z
    · rw [List.getElem?_eq_none (by simpa using hl)] at z; cases z
/-- several names -/
def gNames : List Nat → TGs
  | [] => gNil
  | i :: is => gCons (gName i) (gNames is)
theorem gNames_run : ∀ (is : List Nat) {B F0 F : Hp} {σ : L2.St} {H : Hp} {ρ ρ' : En} {vs : List V} {ds : List D} {Q : L2.St → Hp → Prop}, SOk K cl B F0 F σ H ρ → RpA K cl F vs ds → bNames is ds ρ = some ρ' →
    (∀ σ', SOk K cl B F0 F σ' H ρ' → σ'.length = σ.length → (∀ k, k ∉ is → σ'[k]? = σ[k]? ∧ ρ'[k]? = ρ[k]?) → Q σ' H) → gNames is vs σ H Q
  | [], _, _, _, _, _, _, _, _, ds, _, s, r, e, q => by
    cases ds with
    | nil => cases r; cases e; exact ⟨rfl, q _ s rfl fun _ _ => ⟨rfl, rfl⟩⟩
    | cons => cases e
  | i :: is, _, _, _, _, _, _, _, _, ds, _, s, r, e, q => by
    cases ds with
    | nil => cases e
    | cons d ds =>
      cases r with
      | cons a b =>
        refine ⟨_, _, rfl, gNames_run is (s.set i a) b e fun σ' s' hl hk => q σ' s' (by simpa using hl) fun k hn => ?_⟩
        have n1 : k ≠ i := fun z => hn (by simp [z])
        have n2 : k ∉ is := fun z => hn (by simp [z])
        obtain ⟨h1, h2⟩ := hk k n2
        rw [List.getElem?_set_ne (Ne.symm n1)] at h1 h2
        exact ⟨h1, h2⟩
theorem bNames_nol : ∀ (is : List Nat) (ds : List D) (ρ ρ' : En), bNames is ds ρ = some ρ' → (∀ (k : Nat) (b : Bool) (c : Cn), k ∈ is → ρ'[k]? ≠ some (Sl.ow b c)) ∧ ∀ (k : Nat) (b : Bool) (c : Cn), ρ'[k]? = some (Sl.ow b c) → ρ[k]? = some (Sl.ow b c)
  | [], [], ρ, ρ', e => by cases e; exact ⟨fun k b c h => (nomatch h), fun k b c h => h⟩
  | [], _ :: _, ρ, ρ', e => by cases e
  | i :: is, [], ρ, ρ', e => by cases e
  | i :: is, d :: ds, ρ, ρ', e => by
    obtain ⟨h1, h2⟩ := bNames_nol is ds _ _ e
    have key : ∀ (k : Nat) (b : Bool) (c : Cn), ρ'[k]? = some (Sl.ow b c) → k ≠ i ∧ ρ[k]? = some (.ow b c) := fun k b c z => by
      have z := h2 k b c z
      by_cases h : k = i
      · subst h
        by_cases hl : k < ρ.length
        · rw [List.getElem?_set_self hl] at z; cases z
        · rw [List.getElem?_eq_none (by simpa using hl)] at z; cases z
      · rw [List.getElem?_set_ne (Ne.symm h)] at z; exact ⟨h, z⟩
    refine ⟨fun k b c hk z => ?_, fun k b c z => (key k b c z).2⟩
    rcases List.mem_cons.mp hk with rfl | hk
    · exact (key _ b c z).1 rfl
    · exact h1 k b c hk z
theorem g_tup (is : List Nat) : GOk K cl (gTup K is.length (gNames is)) is (bTup is) where
  run := fun B F0 F σ H ρ v d ρ' Q s r e q => by
    cases r <;> simp only [bTup] at e <;> try cases e
    rename_i a xs ds ha hr
    refine ⟨_, _, rfl, .of (s.fh _ _ ha), ?_, gNames_run is s hr e q⟩
    have : ∀ (is : List Nat) (ds : List D) (ρ ρ' : En), bNames is ds ρ = some ρ' → ds.length = is.length := by
      intro is
      induction is with
      | nil => intro ds ρ ρ' e; cases ds with
        | nil => rfl
        | cons => cases e
      | cons i is ih => intro ds ρ ρ' e; cases ds with
        | nil => cases e
        | cons d ds => simp [ih ds _ _ e]
    rw [hr.length, this is ds ρ ρ' e]
  nol := fun d ρ ρ' e k hk b c => by
    cases d <;> simp only [bTup] at e <;> try cases e
    exact (bNames_nol is _ _ _ e).1 k b c hk
end
end FL
namespace FL
open PySem L2
/-! ## list comprehensions -/
def wipeE (ρ : En) : List Nat → En
  | [] => ρ
  | v :: vs => (wipeE ρ vs).set v .un
def compL (bt : D → En → Option En) (mt : En → Res Bool) (me : En → Res D) (ρ : En) : List D → List D → Res Cn
  | [], acc => .ok (.l acc)
  | d :: ds, acc => match bt d ρ with
    | none => .bad
    | some ρ1 => match mt ρ1 with
      | .ok true => match me ρ1 with
        | .ok e => if acc.length < 16777215 then compL bt mt me ρ ds (acc ++ [e]) else .bad
        | _ => .bad
      | .ok false => compL bt mt me ρ ds acc
      | _ => .bad
def mLc (bt : D → En → Option En) (own : List Nat) (mi : En → Res (List D)) (mt : En → Res Bool) (me : En → Res D) : En → Res Cn := fun ρ => (mi ρ).bind fun ds => compL bt mt me (wipeE ρ own) ds []
def mYes : En → Res Bool := fun _ => .ok true
abbrev W0 : WX := fun _ _ _ _ => False
def tTs (K : PySem.W.Frag) (cl : Str → Addr) (m : En → Res Bool) : TT := tT K cl W0 m
section
variable {K : PySem.W.Frag} {cl : Str → Addr} {X : Cx} {B F0 F H : Hp} {σ σ' : L2.St} {ρ : En}
theorem wipe_get (σ : L2.St) : ∀ (vs : List Nat) (k : Nat), (wipe σ vs)[k]? = if k ∈ vs then (if k < σ.length then some none else none) else σ[k]?
  | [], k => by simp [wipe]
  | v :: vs, k => by
    unfold wipe
    by_cases h : k = v
    · subst h
      rw [if_pos (by simp)]
      split
      · rename_i hl
        rw [List.getElem?_set_self (by rw [wipe_length]; exact hl)]
      · rename_i hl
        rw [List.getElem?_eq_none (by rw [List.length_set, wipe_length]; omega)]
    · rw [List.getElem?_set_ne (Ne.symm h), wipe_get σ vs k]
      by_cases h2 : k ∈ vs
      · rw [if_pos h2, if_pos (List.mem_cons_of_mem _ h2)]
      · rw [if_neg h2, if_neg (by simp [h, h2])]
theorem wipe_eq {vs : List Nat} (hl : σ'.length = σ.length) (h : ∀ k, k ∉ vs → σ'[k]? = (wipe σ vs)[k]?) : wipe σ' vs = wipe σ vs := by
  apply List.ext_getElem?
  intro k
  rw [wipe_get σ' vs k]
  by_cases hk : k ∈ vs
  · rw [if_pos hk, wipe_get σ vs k, if_pos hk, hl]
  · rw [if_neg hk, h k hk]
theorem wipeE_get (ρ : En) : ∀ (vs : List Nat) (k : Nat), (wipeE ρ vs)[k]? = if k ∈ vs then (if k < ρ.length then some .un else none) else ρ[k]?
  | [], k => by simp [wipeE]
  | v :: vs, k => by
    have wl : ∀ vs : List Nat, (wipeE ρ vs).length = ρ.length := by
      intro vs
      induction vs with
      | nil => rfl
      | cons v vs ih => unfold wipeE; rw [List.length_set, ih]
    unfold wipeE
    by_cases h : k = v
    · subst h
      rw [if_pos (by simp)]
      split
      · rename_i hl
        rw [List.getElem?_set_self (by rw [wl]; exact hl)]
      · rename_i hl
        rw [List.getElem?_eq_none (by rw [List.length_set, wl]; omega)]
    · rw [List.getElem?_set_ne (Ne.symm h), wipeE_get ρ vs k]
      by_cases h2 : k ∈ vs
      · rw [if_pos h2, if_pos (List.mem_cons_of_mem _ h2)]
      · rw [if_neg h2, if_neg (by simp [h, h2])]
theorem wipeE_length (ρ : En) : ∀ vs : List Nat, (wipeE ρ vs).length = ρ.length
  | [] => rfl
  | v :: vs => by unfold wipeE; rw [List.length_set, wipeE_length ρ vs]
theorem SOk.wipe (s : SOk K cl B F0 F σ H ρ) (vs : List Nat) : SOk K cl B F0 F (wipe σ vs) H (wipeE ρ vs) := by
  have key : ∀ {k : Nat} {x : Sl}, (wipeE ρ vs)[k]? = some x → x ≠ .un → k ∉ vs ∧ ρ[k]? = some x := fun {k x} e n => by
    rw [wipeE_get] at e
    by_cases h : k ∈ vs
    · rw [if_pos h] at e
      split at e
      · cases e; exact absurd rfl n
      · cases e
    · rw [if_neg h] at e; exact ⟨h, e⟩
  refine ⟨s.f0, s.fh, s.bh, s.bf, by rw [wipe_length, wipeE_length, s.len], fun i d e => ?_, fun i b c e => ?_, fun i j b c b' c' a hij e1 e2 e3 => ?_⟩
  · obtain ⟨h, e⟩ := key e (by intro z; cases z)
    obtain ⟨v, h1, h2⟩ := s.im i d e
    exact ⟨v, by rw [wipe_get, if_neg h]; exact h1, h2⟩
  · obtain ⟨h, e⟩ := key e (by intro z; cases z)
    obtain ⟨a, o, h1, h2⟩ := s.ow i b c e
    exact ⟨a, o, by rw [wipe_get, if_neg h]; exact h1, h2⟩
  · obtain ⟨n1, e1⟩ := key e1 (by intro z; cases z)
    obtain ⟨n2, e2⟩ := key e2 (by intro z; cases z)
    rw [wipe_get, if_neg n1] at e3
    rw [wipe_get, if_neg n2]
    exact s.ap i j b c b' c' a hij e1 e2 e3
end
section
variable {X : Cx} {cl : Str → Addr} {W : WX} {elt tg iter : Expr} {ifs : List Expr} {scope : Scope} {own : List (Str × Nat)} {pos pos' : Pos} {is : List Nat} {g : TG} {bt : D → En → Option En} {mi : En → Res (List D)} {mt : En → Res Bool} {me : En → Res D}
theorem lc_in (G : GOk X.K cl g is bt) (hsub : ∀ i ∈ is, i ∈ own.map (·.2)) : ∀ σ H Q, tC' X.K cl W (mLc bt (own.map (·.2)) mi mt me) σ H Q → tLc (tI X.K cl W mi) g (tTs X.K cl mt) (tM X.K cl W0 me) (own.map (·.2)) σ H Q := by
  rintro σ H Q ⟨B, F0, F, ρ, s, p⟩
  refine ⟨B, F0, F, ρ, s, ?_⟩
  unfold mLc at p
  cases q : mi ρ with
  | bad => rw [q] at p; exact p
  | er e => rw [q] at p; exact p
  | ok ds =>
    rw [q] at p
    have p : PostC X.K cl W σ F H (compL bt mt me (wipeE ρ (own.map (·.2))) ds []) Q := p
    intro J F1 H1 g1 io Da hD
    generalize hvs : own.map (·.2) = vs at *
    generalize hρw : wipeE ρ vs = ρw at *
    generalize hR : compL bt mt me ρw ds [] = R at *
    refine ⟨fun i m Hc => m = ds.length - i ∧ i ≤ ds.length ∧ ∃ Fc av ad, Same F1 Fc ∧ Same Fc Hc ∧ Same H1 Hc ∧ (∀ a, H1 a ≠ none → Fc a = F1 a) ∧ Fc Da = none ∧ Hc Da = some (.lst av) ∧ RpA X.K cl Fc av ad ∧ compL bt mt me ρw (ds.drop i) ad = R,
      ⟨ds.length, by simp, Nat.zero_le _, F1, [], [], Same.refl _, ?_, ?_, fun _ _ => rfl, ?_, upd_same, .nil, by simpa using hR⟩, ?_⟩
    · exact (Gr.own g1.fh hD).fh
    · exact (Gr.own g1.fh hD).h
    · cases z : F1 Da with | none => rfl | some o => rw [g1.fh _ _ z] at hD; cases hD
    rintro i m Hc ⟨rfl, hi, Fc, av, ad, m1, m2, m3, m4, hF, hH, hr, hR'⟩
    have gc : Gr F H Fc Hc := ⟨g1.f.trans m1, m2, g1.h.trans m3, fun a ha => by
      have h1 : H1 a ≠ none := by
        cases e : H a with
        | none => exact absurd e ha
        | some o => rw [g1.h a o e]; simp
      rw [m4 a h1, g1.n a ha]⟩
    by_cases hlt : i < ds.length
    · refine .inr ⟨io.go i Hc (m1.trans m2) hlt, fun H' => ∃ Fc av ad, Same F1 Fc ∧ Same Fc H' ∧ Same H1 H' ∧ (∀ a, H1 a ≠ none → Fc a = F1 a) ∧ Fc Da = none ∧ H' Da = some (.lst av) ∧ RpA X.K cl Fc av ad ∧ compL bt mt me ρw (ds.drop (i + 1)) ad = R, ?_, ?_⟩
      · intro H' h'
        exact ⟨ds.length - (i + 1), by omega, rfl, hlt, h'⟩
      intro x H' y
      have hd : ds[i]? = some ds[i] := by simp [hlt]
      obtain ⟨F2, g2, rx⟩ := io.yld i Hc x H' ds[i] Fc m1 m2 y hd
      have gt : Gr F H F2 H' := gc.trans g2
      have sw := (s.grow gt).wipe vs
      rw [hρw] at sw
      have ed : ds.drop i = ds[i] :: ds.drop (i + 1) := by rw [List.drop_eq_getElem_cons hlt]
      rw [ed] at hR'
      simp only [compL] at hR'
      cases qb : bt ds[i] ρw with
      | none => rw [qb] at hR'; simp only at hR'; rw [← hR'] at p; exact p.elim
      | some ρ1 =>
        rw [qb] at hR'
        simp only at hR'
        refine G.run B F0 F2 (wipe σ vs) H' ρw x ds[i] ρ1 _ sw rx qb fun σ2 s2 hl2 hk2 => ?_
        refine ⟨wipe_eq (by rw [hl2, wipe_length]) fun k hk => (hk2 k fun z => hk (hvs ▸ hsub k z)).1, B, F0, F2, ρ1, s2, ?_⟩
        -- what stands at Da
        have hDa : ∀ {Fx Hx : Hp}, Gr Fc Hc Fx Hx → Fx Da = none ∧ Hx Da = some (.lst av) := fun {Fx Hx} gx => ⟨by rw [gx.n Da (by rw [hH]; simp)]; exact hF, gx.h _ _ hH⟩
        cases qt : mt ρ1 with
        | bad => rw [qt] at hR'; simp only at hR'; rw [← hR'] at p; exact p.elim
        | er e => rw [qt] at hR'; simp only at hR'; rw [← hR'] at p; exact p.elim
        | ok b =>
          rw [qt] at hR'
          intro F3 H3 g3
          cases b with
          | false =>
            simp only at hR'
            show ∃ Fc av ad, _
            have gx := g2.trans g3
            obtain ⟨e1, e2⟩ := hDa gx
            exact ⟨F3, av, ad, m1.trans gx.f, gx.fh, m3.trans gx.h, fun a ha => by
              have : Hc a ≠ none := by
                cases e : H1 a with
                | none => exact absurd e ha
                | some o => rw [m3 a o e]; simp
              rw [gx.n a this, m4 a ha], e1, e2, hr.mono gx.f, hR'⟩
          | true =>
            simp only at hR'
            show tM X.K cl W0 me σ2 H3 _
            refine ⟨B, F0, F3, ρ1, s2.grow g3, ?_⟩
            cases qe : me ρ1 with
            | bad => rw [qe] at hR'; simp only at hR'; rw [← hR'] at p; exact p.elim
            | er e => rw [qe] at hR'; simp only at hR'; rw [← hR'] at p; exact p.elim
            | ok d =>
              rw [qe] at hR'
              simp only at hR'
              intro v F4 H4 g4 r4
              have gx := (g2.trans g3).trans g4
              obtain ⟨e1, e2⟩ := hDa gx
              by_cases hlen : ad.length < 16777215
              · rw [if_pos hlen] at hR'
                refine ⟨av, e2, by rw [hr.length, sizeLine_eq]; omega, F4, av ++ [v], ad ++ [d], m1.trans gx.f, fun a o e => ?_, fun a o e => ?_, fun a ha => ?_, e1, upd_same, (hr.mono gx.f).app (.cons r4 .nil), hR'⟩
                · have : a ≠ Da := fun z => by subst z; rw [e1] at e; cases e
                  rw [upd_ne this]; exact gx.fh _ _ e
                · have : a ≠ Da := fun z => by subst z; rw [hD] at e; cases e
                  rw [upd_ne this]; exact gx.h _ _ (m3 _ _ e)
                · have : Hc a ≠ none := by
                    cases e : H1 a with
                    | none => exact absurd e ha
                    | some o => rw [m3 a o e]; simp
                  rw [gx.n a this, m4 a ha]
              · rw [if_neg hlen] at hR'; rw [← hR'] at p; exact p.elim
    · have e : i = ds.length := by omega
      refine .inl ⟨io.stop i Hc (m1.trans m2) e, ?_⟩
      subst e
      rw [List.drop_length] at hR'
      simp only [compL] at hR'
      rw [← hR'] at p
      exact p Da (.lst av) Fc Hc gc (Same.free g1.h hD) hF hH ⟨av, rfl, hr⟩
/-- [elt for target in iter if ..] -/
theorem sc_lc (hc : X.calm = true) (hN : X.N.Nodup) (G : GOk X.K cl g is bt) (hsub : (is.all fun i => (own.map (·.2)).contains i) = true) (hi : SI X cl W tg iter mi) (ok : BlkOk X.N X.env.scope scope own)
    (hg : ∀ (s : Shared) (H : Hp) (C : Addr) (ce : List (Str × Addr)) (fp : List Addr), PG (X.blk s H scope (compEnvC scope ce C X.env) fp) tg g)
    (ht : ∀ (s : Shared) (H : Hp) (C : Addr) (ce : List (Str × Addr)) (fp : List Addr), PTs (X.blk s H scope (compEnvC scope ce C X.env) fp) ifs (tTs X.K cl mt))
    (he : ∀ (s : Shared) (H : Hp) (C : Addr) (ce : List (Str × Addr)) (fp : List Addr), PE (X.blk s H scope (compEnvC scope ce C X.env) fp) elt (tM X.K cl W0 me)) (hs : ∀ x, foldedSetIterable iter X.env x = pure x := by intro _; rfl) :
    SC X cl W (.ListComp elt [⟨tg, iter, ifs, 0⟩] scope pos) (mLc bt (own.map (·.2)) mi mt me) :=
  (pe_lc hc hN hi ok hg ht he hs).of (lc_in G fun i hi => by simpa using (List.all_eq_true.mp hsub i hi))
theorem ts_nil : PTs X [] (tTs X.K cl mYes) := ⟨fun pins s σ H Q I ⟨B, F0, F, ρ, so, p⟩ => pts_nil.run pins s σ H Q I (p F H (.refl so.fh))⟩
theorem ts_one {c : Expr} {K : PySem.W.Frag} (h : PT X c (tT K cl W0 mt)) : PTs X [c] (tTs K cl mt) := pts_one h
end
/-! ## statements -/
def Lk (ρ : En) (σ : L2.St) (ρ' : En) (σ' : L2.St) : Prop := ∀ (i : Nat) (c : Cn), ρ'[i]? = some (.ow true c) → ρ[i]? = some (.ow true c) ∧ σ'[i]? = σ[i]?
theorem Lk.refl (ρ : En) (σ : L2.St) : Lk ρ σ ρ σ := fun _ _ h => ⟨h, rfl⟩
theorem Lk.trans {ρ ρ1 ρ2 : En} {σ σ1 σ2 : L2.St} (a : Lk ρ σ ρ1 σ1) (b : Lk ρ1 σ1 ρ2 σ2) : Lk ρ σ ρ2 σ2 := fun i c h => by
  obtain ⟨h1, e1⟩ := b i c h
  obtain ⟨h2, e2⟩ := a i c h1
  exact ⟨h2, e1.trans e2⟩
def PostS (K : PySem.W.Frag) (cl : Str → Addr) (W : WX) (B F0 : Hp) (σ : L2.St) (F : Hp) (ρ : En) (r : Option Fl) (D : Ends) : Prop := match r with
  | none => False
  | some (.nx ρ') => ∀ σ' F' H', Same F F' → SOk K cl B F0 F' σ' H' ρ' → Lk ρ σ ρ' σ' → D.nx σ' H'
  | some (.bk ρ') => ∀ σ' F' H', Same F F' → SOk K cl B F0 F' σ' H' ρ' → Lk ρ σ ρ' σ' → D.bk σ' H'
  | some (.ct ρ') => ∀ σ' F' H', Same F F' → SOk K cl B F0 F' σ' H' ρ' → Lk ρ σ ρ' σ' → D.ct σ' H'
  | some (.rt d) => ∀ v F' H', Same F F' → Same F' H' → Same B H' → (∀ a, B a ≠ none → F' a = F0 a) → Rp K cl F' v d → D.rt v H'
  | some (.ex e ρ') => ∀ c dd σ' F' H', Same F F' → SOk K cl B F0 F' σ' H' ρ' → Lk ρ σ ρ' σ' → XRp K cl F' c dd e → W c dd σ' H'
def tS (K : PySem.W.Frag) (cl : Str → Addr) (W : WX) (ms : En → Option Fl) : TS := fun D σ H => ∃ B F0 F ρ, SOk K cl B F0 F σ H ρ ∧ PostS K cl W B F0 σ F ρ (ms ρ) D
abbrev SS (X : Cx) (cl : Str → Addr) (W : WX) (st : Stmt) (m : En → Option Fl) : Prop := PS X st (tS X.K cl W m)
abbrev SSs (X : Cx) (cl : Str → Addr) (W : WX) (st : List Stmt) (m : En → Option Fl) : Prop := PSs X st (tS X.K cl W m)
section
variable {K : PySem.W.Frag} {cl : Str → Addr} {W : WX} {B F0 F F1 H H1 : Hp} {σ σ1 : L2.St} {ρ ρ1 : En} {D D' : Ends}
theorem PostS.tr {r : Option Fl} (p : PostS K cl W B F0 σ F ρ r D) (m : Same F F1) (l : Lk ρ σ ρ1 σ1) : PostS K cl W B F0 σ1 F1 ρ1 r D := by
  cases r with
  | none => exact p
  | some f =>
    cases f with
    | nx ρ' => exact fun σ' F' H' m' s' l' => p σ' F' H' (m.trans m') s' (l.trans l')
    | bk ρ' => exact fun σ' F' H' m' s' l' => p σ' F' H' (m.trans m') s' (l.trans l')
    | ct ρ' => exact fun σ' F' H' m' s' l' => p σ' F' H' (m.trans m') s' (l.trans l')
    | rt d => exact fun v F' H' m' => p v F' H' (m.trans m')
    | ex e ρ' => exact fun c dd σ' F' H' m' s' l' => p c dd σ' F' H' (m.trans m') s' (l.trans l')
end
def runE {α : Type} (ρ : En) (r : Res α) (f : α → Option Fl) : Option Fl := match r with
  | .ok a => f a
  | .er e => some (.ex e ρ)
  | .bad => none
def sSeq (a b : En → Option Fl) : En → Option Fl := fun ρ => match a ρ with
  | some (.nx ρ1) => b ρ1
  | r => r
def sNop : En → Option Fl := fun ρ => some (.nx ρ)
def sSet (i : Nat) (m : En → Res D) : En → Option Fl := fun ρ => runE ρ (m ρ) fun d => some (.nx (ρ.set i (.im d)))
def sOwn (i : Nat) (m : En → Res Cn) : En → Option Fl := fun ρ => runE ρ (m ρ) fun c => some (.nx (ρ.set i (.ow false c)))
def sAsg (bt : D → En → Option En) (m : En → Res D) : En → Option Fl := fun ρ => runE ρ (m ρ) fun d => match bt d ρ with
  | some ρ' => some (.nx ρ')
  | none => none
def sRet (m : En → Res D) : En → Option Fl := fun ρ => runE ρ (m ρ) fun d => some (.rt d)
def sRetN : En → Option Fl := fun _ => some (.rt .non)
def sExp (m : En → Res D) : En → Option Fl := fun ρ => runE ρ (m ρ) fun _ => some (.nx ρ)
def sIf (c : En → Res Bool) (a b : En → Option Fl) : En → Option Fl := fun ρ => runE ρ (c ρ) fun k => if k then a ρ else b ρ
def sBrk : En → Option Fl := fun ρ => some (.bk ρ)
def sCnt : En → Option Fl := fun ρ => some (.ct ρ)
def forL (bt : D → En → Option En) (body : En → Option Fl) : List D → En → Option Fl
  | [], ρ => some (.nx ρ)
  | d :: ds, ρ => match bt d ρ with
    | none => none
    | some ρ1 => match body ρ1 with
      | some (.nx ρ2) => forL bt body ds ρ2
      | some (.ct ρ2) => forL bt body ds ρ2
      | some (.bk ρ2) => some (.nx ρ2)
      | r => r
def sFor (bt : D → En → Option En) (mi : En → Res (List D)) (body : En → Option Fl) : En → Option Fl := fun ρ => runE ρ (mi ρ) fun ds => forL bt body ds ρ
def whN (c : En → Res Bool) (body : En → Option Fl) : Nat → En → Option Fl
  | 0, _ => none
  | n + 1, ρ => runE ρ (c ρ) fun k => if k then (match body ρ with
      | some (.nx ρ2) => whN c body n ρ2
      | some (.ct ρ2) => whN c body n ρ2
      | some (.bk ρ2) => some (.nx ρ2)
      | r => r) else some (.nx ρ)
open Classical in
noncomputable def sWh (c : En → Res Bool) (body : En → Option Fl) : En → Option Fl := fun ρ => if h : ∃ n, whN c body n ρ ≠ none then whN c body (Classical.choose h) ρ else none
theorem whN_mono {c : En → Res Bool} {body : En → Option Fl} : ∀ (n k : Nat) (ρ : En) (r : Fl), whN c body n ρ = some r → whN c body (n + k) ρ = some r
  | 0, _, _, _, h => by cases h
  | n + 1, k, ρ, r, h => by
    rw [Nat.succ_add]
    simp only [whN] at h ⊢
    cases q : c ρ with
    | bad => rw [q] at h; exact h
    | er e => rw [q] at h; exact h
    | ok b =>
      rw [q] at h
      cases b with
      | false => exact h
      | true =>
        simp only [runE, if_true] at h ⊢
        cases q2 : body ρ with
        | none => rw [q2] at h; exact h
        | some f =>
          rw [q2] at h
          cases f with
          | nx ρ2 => exact whN_mono n k ρ2 r h
          | ct ρ2 => exact whN_mono n k ρ2 r h
          | _ => exact h
theorem sWh_eq {c : En → Res Bool} {body : En → Option Fl} {n : Nat} {ρ : En} {r : Fl} (h : whN c body n ρ = some r) : sWh c body ρ = some r := by
  unfold sWh
  have hex : ∃ n, whN c body n ρ ≠ none := ⟨n, by rw [h]; simp⟩
  rw [dif_pos hex]
  have h2 := Classical.choose_spec hex
  generalize Classical.choose hex = k at *
  cases q : whN c body k ρ with
  | none => exact absurd q h2
  | some r' =>
    have a := whN_mono n k ρ r h
    have b := whN_mono k n ρ r' q
    rw [Nat.add_comm, a] at b
    exact b.symm
theorem sWh_some {c : En → Res Bool} {body : En → Option Fl} {ρ : En} {r : Fl} (h : sWh c body ρ = some r) : ∃ n, whN c body n ρ = some r := by
  unfold sWh at h
  split at h
  · exact ⟨_, h⟩
  · cases h
end FL
namespace FL
open PySem L2
section
variable {X : Cx} {cl : Str → Addr} {W : WX} {st : Stmt} {sts : List Stmt} {e : Expr} {pos pos' : Pos} {m : En → Res D} {mc : En → Res Cn} {s1 s2 ms : En → Option Fl} {mt : En → Res Bool} {mi : En → Res (List D)}
theorem SOk.same {K : PySem.W.Frag} {B F0 F F' H H' : Hp} {σ : L2.St} {ρ : En} (s : SOk K cl B F0 F σ H ρ) (g : Gr F H F' H') : Same F F' ∧ Same F' H' ∧ Same B H' ∧ ∀ a, B a ≠ none → F' a = F0 a := ⟨g.f, g.fh, s.bh.trans g.h, (s.grow g).bf⟩
/-- from a statement's wish to an expression's -/
theorem stepS {K : PySem.W.Frag} {B F0 F H : Hp} {σ : L2.St} {ρ : En} {r : Res D} {f : D → Option Fl} {D' : Ends} (s : SOk K cl B F0 F σ H ρ) (p : PostS K cl W B F0 σ F ρ (runE ρ r f) D') :
    PostE K cl W σ F H r fun v H' => ∃ d F', r = .ok d ∧ Gr F H F' H' ∧ Rp K cl F' v d ∧ PostS K cl W B F0 σ F' ρ (f d) D' := by
  cases r with
  | bad => exact p
  | er e => exact fun c dd F' H' g h => p c dd σ F' H' g.f (s.grow g) (.refl _ _) h
  | ok d => exact fun v F' H' g h => ⟨d, F', rfl, g, h, PostS.tr (r := f d) p g.f (.refl _ _)⟩
theorem stepSC {K : PySem.W.Frag} {B F0 F H : Hp} {σ : L2.St} {ρ : En} {r : Res Cn} {f : Cn → Option Fl} {D' : Ends} (s : SOk K cl B F0 F σ H ρ) (p : PostS K cl W B F0 σ F ρ (runE ρ r f) D') :
    PostC K cl W σ F H r fun v H' => ∃ c a o F', v = .ref a ∧ r = .ok c ∧ Gr F H F' H' ∧ H a = none ∧ F' a = none ∧ H' a = some o ∧ CnR K cl F' c o ∧ PostS K cl W B F0 σ F' ρ (f c) D' := by
  cases r with
  | bad => exact p
  | er e => exact fun c dd F' H' g h => p c dd σ F' H' g.f (s.grow g) (.refl _ _) h
  | ok d => exact fun a o F' H' g h1 h2 h3 h4 => ⟨d, a, o, F', rfl, rfl, g, h1, h2, h3, h4, PostS.tr (r := f d) p g.f (.refl _ _)⟩
theorem stepST {K : PySem.W.Frag} {B F0 F H : Hp} {σ : L2.St} {ρ : En} {r : Res Bool} {f : Bool → Option Fl} {D' : Ends} (s : SOk K cl B F0 F σ H ρ) (p : PostS K cl W B F0 σ F ρ (runE ρ r f) D') :
    PostT K cl W σ F H r fun b H' => ∃ F', Gr F H F' H' ∧ PostS K cl W B F0 σ F' ρ (f b) D' := by
  cases r with
  | bad => exact p
  | er e => exact fun c dd F' H' g h => p c dd σ F' H' g.f (s.grow g) (.refl _ _) h
  | ok d => exact fun F' H' g => ⟨F', g, PostS.tr (r := f d) p g.f (.refl _ _)⟩
theorem PostC.imp {K : PySem.W.Frag} {σ : L2.St} {F H : Hp} {r : Res Cn} {Q Q' : VK} (p : PostC K cl W σ F H r Q) (h : ∀ b H', Q b H' → Q' b H') : PostC K cl W σ F H r Q' := by
  cases r with
  | bad => exact p
  | er e => exact p
  | ok b => exact fun a o F' H' g h1 h2 h3 h4 => h _ _ (p a o F' H' g h1 h2 h3 h4)
theorem Lk.set {ρ : En} {σ : L2.St} {i : Nat} {x : Sl} {v : Option V} (h : ∀ c, x ≠ .ow true c) : Lk ρ σ (ρ.set i x) (σ.set i v) := fun j c e => by
  by_cases z : j = i
  · subst z
    by_cases hl : j < ρ.length
    · rw [List.getElem?_set_self hl] at e; cases e; exact absurd rfl (h c)
    · rw [List.getElem?_eq_none (by simpa using hl)] at e; cases e
  · rw [List.getElem?_set_ne (Ne.symm z)] at e ⊢
    exact ⟨e, rfl⟩
/-- a slot takes a fresh list or dict -/
theorem SOk.own {K : PySem.W.Frag} {B F0 F H H' F' : Hp} {σ : L2.St} {ρ : En} {i : Nat} {a : Addr} {o : HO} {c : Cn} (s : SOk K cl B F0 F σ H ρ) (g : Gr F H F' H') (hn : H a = none) (hf : F' a = none) (ho : H' a = some o) (hc : CnR K cl F' c o) :
    SOk K cl B F0 F' (σ.set i (some (.ref a))) H' (ρ.set i (.ow false c)) := by
  have s' := s.grow g
  have hB : B a = none := by
    cases e : B a with
    | none => rfl
    | some u => rw [s.bh a u e] at hn; cases hn
  have nota : ∀ (j : Nat) (b : Bool) (c : Cn), ρ[j]? = some (.ow b c) → σ[j]? ≠ some (some (.ref a)) := fun j b c e z => by
    obtain ⟨a', o', h1, h2, h3, h4, h5⟩ := s.ow j b c e
    rw [h1] at z; cases z
    rw [h4] at hn; cases hn
  refine ⟨s'.f0, s'.fh, s'.bh, s'.bf, by simpa using s'.len, fun j d e => ?_, fun j b c' e => ?_, fun j k b1 c1 b2 c2 x hjk e1 e2 e3 => ?_⟩
  · by_cases h : j = i
    · subst h
      by_cases hl : j < ρ.length
      · rw [List.getElem?_set_self hl] at e; cases e
      · rw [List.getElem?_eq_none (by simpa using hl)] at e; cases e
    · rw [List.getElem?_set_ne (Ne.symm h)] at e ⊢
      exact s'.im j d e
  · by_cases h : j = i
    · subst h
      by_cases hl : j < ρ.length
      · rw [List.getElem?_set_self hl] at e; cases e
        exact ⟨a, o, by rw [List.getElem?_set_self (by rw [s.len]; exact hl)], hf, hB, ho, hc⟩
      · rw [List.getElem?_eq_none (by simpa using hl)] at e; cases e
    · rw [List.getElem?_set_ne (Ne.symm h)] at e ⊢
      exact s'.ow j b c' e
  · have key : ∀ {j : Nat} {b : Bool} {c1 : Cn}, (ρ.set i (.ow false c))[j]? = some (.ow b c1) → (j = i ∧ j < ρ.length) ∨ (j ≠ i ∧ ρ[j]? = some (.ow b c1)) := fun {j b c1} e => by
      by_cases h : j = i
      · subst h
        by_cases hl : j < ρ.length
        · exact .inl ⟨rfl, hl⟩
        · rw [List.getElem?_eq_none (by simpa using hl)] at e; cases e
      · rw [List.getElem?_set_ne (Ne.symm h)] at e; exact .inr ⟨h, e⟩
    have hlen := s.len
    rcases key e1 with ⟨rfl, l1⟩ | ⟨n1, q1⟩
    · rcases key e2 with ⟨rfl, l2⟩ | ⟨n2, q2⟩
      · exact absurd rfl hjk
      · rw [List.getElem?_set_self (by omega)] at e3; cases e3
        rw [List.getElem?_set_ne (Ne.symm n2)]
        exact nota k _ _ q2
    · rw [List.getElem?_set_ne (Ne.symm n1)] at e3
      rcases key e2 with ⟨rfl, l2⟩ | ⟨n2, q2⟩
      · rw [List.getElem?_set_self (by omega)]
        intro z; cases z
        exact nota j _ _ q1 e3
      · rw [List.getElem?_set_ne (Ne.symm n2)]
        exact s'.ap j k b1 c1 b2 c2 x hjk q1 q2 e3
/-- what a slot owns has changed -/
theorem SOk.put {K : PySem.W.Frag} {B F0 F H : Hp} {σ : L2.St} {ρ : En} {i : Nat} {a : Addr} {o : HO} {b : Bool} {c c' : Cn} (s : SOk K cl B F0 F σ H ρ) (hi : ρ[i]? = some (.ow b c)) (ha : σ[i]? = some (some (.ref a))) (hc : CnR K cl F c' o) :
    SOk K cl B F0 F σ (upd H a o) (ρ.set i (.ow b c')) := by
  obtain ⟨a', o', h1, h2, h3, h4, h5⟩ := s.ow i b c hi
  rw [ha] at h1; cases h1
  have hl : i < ρ.length := (List.getElem?_eq_some_iff.mp hi).1
  refine ⟨s.f0, fun x u e => ?_, fun x u e => ?_, s.bf, by simpa using s.len, fun j d e => ?_, fun j b1 c1 e => ?_, fun j k b1 c1 b2 c2 x hjk e1 e2 e3 => ?_⟩
  · have : x ≠ a := fun z => by subst z; rw [h2] at e; cases e
    rw [upd_ne this]; exact s.fh _ _ e
  · have : x ≠ a := fun z => by subst z; rw [h3] at e; cases e
    rw [upd_ne this]; exact s.bh _ _ e
  · by_cases h : j = i
    · subst h; rw [List.getElem?_set_self hl] at e; cases e
    · rw [List.getElem?_set_ne (Ne.symm h)] at e
      exact s.im j d e
  · by_cases h : j = i
    · subst h; rw [List.getElem?_set_self hl] at e; cases e
      exact ⟨a, o, ha, h2, h3, upd_same, hc⟩
    · rw [List.getElem?_set_ne (Ne.symm h)] at e
      obtain ⟨x, u, q1, q2, q3, q4, q5⟩ := s.ow j b1 c1 e
      have : x ≠ a := fun z => by subst z; exact s.ap i j b c b1 c1 x (Ne.symm h) hi e ha q1
      exact ⟨x, u, q1, q2, q3, by rw [upd_ne this]; exact q4, q5⟩
  · have key : ∀ {j : Nat} {b' : Bool} {c1 : Cn}, (ρ.set i (.ow b c'))[j]? = some (.ow b' c1) → ∃ b'' c'', ρ[j]? = some (.ow b'' c'') := fun {j b' c1} e => by
      by_cases h : j = i
      · subst h; exact ⟨_, _, hi⟩
      · rw [List.getElem?_set_ne (Ne.symm h)] at e; exact ⟨_, _, e⟩
    obtain ⟨_, _, q1⟩ := key e1
    obtain ⟨_, _, q2⟩ := key e2
    exact s.ap j k _ _ _ _ x hjk q1 q2 e3
theorem ss_nil : SSs X cl W [] sNop := pss_nil.of fun D σ H ⟨B, F0, F, ρ, s, p⟩ => p σ F H (Same.refl _) s (.refl _ _)
theorem ss_cons (h1 : SS X cl W st s1) (h2 : SSs X cl W sts s2) : SSs X cl W (st :: sts) (sSeq s1 s2) := by
  refine (pss_cons h1 h2).of ?_
  rintro D σ H ⟨B, F0, F, ρ, s, p⟩
  refine ⟨B, F0, F, ρ, s, ?_⟩
  unfold sSeq at p
  cases q : s1 ρ with
  | none => rw [q] at p; exact p
  | some f =>
    rw [q] at p
    cases f with
    | nx ρ1 => exact fun σ1 F1 H1 m1 k1 l1 => ⟨B, F0, F1, ρ1, k1, PostS.tr (r := s2 ρ1) p m1 l1⟩
    | _ => exact p
theorem ss_one (h1 : SS X cl W st s1) : SSs X cl W [st] s1 := pss_one h1
theorem ss_pass : SS X cl W (.Pass pos) sNop := ps_pass.of fun D σ H ⟨B, F0, F, ρ, s, p⟩ => p σ F H (Same.refl _) s (.refl _ _)
theorem ss_break : SS X cl W (.Break pos) sBrk := ps_break.of fun D σ H ⟨B, F0, F, ρ, s, p⟩ => p σ F H (Same.refl _) s (.refl _ _)
theorem ss_continue : SS X cl W (.Continue pos) sCnt := ps_continue.of fun D σ H ⟨B, F0, F, ρ, s, p⟩ => p σ F H (Same.refl _) s (.refl _ _)
theorem set_in {i : Nat} : ∀ D σ H, tS X.K cl W (sSet i m) D σ H → tAsg (tM X.K cl W m) (gName i) D σ H := by
  rintro D σ H ⟨B, F0, F, ρ, s, p⟩
  refine ⟨B, F0, F, ρ, s, (stepS s p).imp ?_⟩
  rintro v H1 ⟨d, F1, e, g, r, p⟩
  exact p _ F1 H1 (Same.refl _) ((s.grow g).set i r) (Lk.set fun c z => by cases z)
theorem own_in {i : Nat} : ∀ D σ H, tS X.K cl W (sOwn i mc) D σ H → tAsg (tC' X.K cl W mc) (gName i) D σ H := by
  rintro D σ H ⟨B, F0, F, ρ, s, p⟩
  refine ⟨B, F0, F, ρ, s, (stepSC s p).imp ?_⟩
  rintro v H1 ⟨c, a, o, F1, rfl, e, g, h1, h2, h3, h4, p⟩
  exact p _ F1 H1 (Same.refl _) (s.own g h1 h2 h3 h4) (Lk.set fun c z => by cases z)
/-- x = e; h: the rule ps_set (or ps_setLc) over what e promises -/
theorem ss_set (i : Nat) (h : PS X st (tAsg (tM X.K cl W m) (gName i))) : SS X cl W st (sSet i m) := h.of set_in
theorem ss_own (i : Nat) (h : PS X st (tAsg (tC' X.K cl W mc) (gName i))) : SS X cl W st (sOwn i mc) := h.of own_in
/-- y = [..]: the list is this name's own -/
theorem fz_in {i : Nat} : ∀ D σ H, tS X.K cl W (sSet i (mFz mc)) D σ H → tAsg (tC' X.K cl W mc) (gName i) D σ H := by
  rintro D σ H ⟨B, F0, F, ρ, s, p⟩
  refine ⟨B, F0, F, ρ, s, ?_⟩
  unfold sSet mFz at p
  cases q : mc ρ with
  | bad => rw [q] at p; exact p
  | er e => rw [q] at p; exact fun c dd F' H' g h => p c dd σ F' H' g.f (s.grow g) (.refl _ _) h
  | ok c =>
    rw [q] at p
    intro a o F1 H1 g h1 h2 h3 h4
    have m1 : Same F1 (upd F1 a o) := fun b u e => by
      have : b ≠ a := fun z => by subst z; rw [h2] at e; cases e
      rw [upd_ne this]; exact e
    have g2 : Gr F H (upd F1 a o) H1 := ⟨g.f.trans m1, fun b u e => by
      by_cases z : b = a
      · subst z; rw [upd_same] at e; cases e; exact h3
      · rw [upd_ne z] at e; exact g.fh _ _ e, g.h, fun b hb => by
      have : b ≠ a := fun z => by subst z; exact hb h1
      rw [upd_ne this]; exact g.n b hb⟩
    exact p _ (upd F1 a o) H1 g2.f ((s.grow g2).set i ((h4.mono m1).rp upd_same)) (Lk.set fun c z => by cases z)
theorem ss_setC (i : Nat) (h : PS X st (tAsg (tC' X.K cl W mc) (gName i))) : SS X cl W st (sSet i (mFz mc)) := h.of fz_in
theorem ss_asg {g : TG} {is : List Nat} {bt : D → En → Option En} (G : GOk X.K cl g is bt) (h : PS X st (tAsg (tM X.K cl W m) g)) : SS X cl W st (sAsg bt m) := by
  refine h.of ?_
  rintro D σ H ⟨B, F0, F, ρ, s, p⟩
  refine ⟨B, F0, F, ρ, s, (stepS s p).imp ?_⟩
  rintro v H1 ⟨d, F1, e, g1, r, p⟩
  cases q : bt d ρ with
  | none => rw [q] at p; exact p.elim
  | some ρ1 =>
    rw [q] at p
    refine G.run B F0 F1 σ H1 ρ v d ρ1 _ (s.grow g1) r q fun σ' s' hl hk => p σ' F1 H1 (Same.refl _) s' fun j c e => ?_
    by_cases hj : j ∈ is
    · exact absurd e (G.nol d ρ ρ1 q j hj true c)
    · obtain ⟨k1, k2⟩ := hk j hj
      rw [k2] at e
      exact ⟨e, k1⟩
theorem ss_ret (h : SE X cl W e m) : SS X cl W (.Return (some e) pos) (sRet m) := by
  refine (ps_ret h).of ?_
  rintro D σ H ⟨B, F0, F, ρ, s, p⟩
  refine ⟨B, F0, F, ρ, s, (stepS s p).imp ?_⟩
  rintro v H1 ⟨d, F1, e, g, r, p⟩
  obtain ⟨a1, a2, a3, a4⟩ := s.same g
  exact p v F1 H1 (Same.refl _) a2 a3 a4 r
theorem ss_retN : SS X cl W (.Return none pos) sRetN := ps_retN.of fun D σ H ⟨B, F0, F, ρ, s, p⟩ => p .non F H (Same.refl _) s.fh s.bh s.bf .non
theorem ss_exp (h : SE X cl W e m) (hs : swapsWith e none pos.line X.env = pure false := by rfl) : SS X cl W (.Expr e pos) (sExp m) := by
  refine (ps_expr h hs).of ?_
  rintro D σ H ⟨B, F0, F, ρ, s, p⟩
  refine ⟨B, F0, F, ρ, s, (stepS s p).imp ?_⟩
  rintro v H1 ⟨d, F1, e, g, r, p⟩
  exact p σ F1 H1 (Same.refl _) (s.grow g) (.refl _ _)
theorem ss_if {c : Expr} {a b : List Stmt} (hc : SB X cl W c mt) (ha : SSs X cl W a s1) (hb : SSs X cl W b s2) : SS X cl W (.If c a b pos) (sIf mt s1 s2) := by
  refine (ps_if hc ha hb).of ?_
  rintro D σ H ⟨B, F0, F, ρ, s, p⟩
  refine ⟨B, F0, F, ρ, s, (stepST s p).imp ?_⟩
  rintro k H1 ⟨F1, g, p⟩
  cases k with
  | true => exact ⟨B, F0, F1, ρ, s.grow g, p⟩
  | false => exact ⟨B, F0, F1, ρ, s.grow g, p⟩
theorem ss_for {tg iter : Expr} {body : List Stmt} {g : TG} {is : List Nat} {bt : D → En → Option En} (hp : PassesOwn (model X.prog X.w) X.A X.env X.xe) (hc : X.calm = true) (hi : SI X cl W tg iter mi) (G : GOk X.K cl g is bt) (hg : PG X tg g) (hb : SSs X cl W body s1)
    (hs : ∀ x, foldedSetIterable iter X.env x = pure x := by intro _; rfl) : SS X cl W (.For tg iter body [] pos) (sFor bt mi s1) := by
  refine (ps_for hp hc hi hg hb hs).of ?_
  rintro D σ H ⟨B, F0, F, ρ, s, p⟩
  refine ⟨B, F0, F, ρ, s, ?_⟩
  unfold sFor at p
  cases q : mi ρ with
  | bad => rw [q] at p; exact p
  | er e => rw [q] at p; exact fun c dd F' H' g h => p c dd σ F' H' g.f (s.grow g) (.refl _ _) h
  | ok ds =>
    rw [q] at p
    intro J F1 H1 g1 io
    have p : PostS X.K cl W B F0 σ F ρ (forL bt s1 ds ρ) D := p
    refine ⟨fun i m σc Hc => m = ds.length - i ∧ i ≤ ds.length ∧ ∃ Fc ρc, Same F1 Fc ∧ SOk X.K cl B F0 Fc σc Hc ρc ∧ PostS X.K cl W B F0 σc Fc ρc (forL bt s1 (ds.drop i) ρc) D,
      ⟨ds.length, by simp, Nat.zero_le _, F1, ρ, Same.refl _, s.grow g1, by rw [List.drop_zero]; exact p.tr g1.f (.refl _ _)⟩, ?_⟩
    rintro i m σc Hc ⟨rfl, hi, Fc, ρc, m1, sc, pc⟩
    by_cases hlt : i < ds.length
    · refine .inr ⟨io.go i Hc (m1.trans sc.fh) hlt, fun σ' H' => ∃ Fc ρc, Same F1 Fc ∧ SOk X.K cl B F0 Fc σ' H' ρc ∧ PostS X.K cl W B F0 σ' Fc ρc (forL bt s1 (ds.drop (i + 1)) ρc) D, ?_, ?_⟩
      · intro σ' H' h'
        exact ⟨ds.length - (i + 1), by omega, rfl, hlt, h'⟩
      intro x H' y
      obtain ⟨F2, g2, rx⟩ := io.yld i Hc x H' ds[i] Fc m1 sc.fh y (by simp [hlt])
      rw [List.drop_eq_getElem_cons hlt] at pc
      simp only [forL] at pc
      cases qb : bt ds[i] ρc with
      | none => rw [qb] at pc; exact pc.elim
      | some ρ1 =>
        rw [qb] at pc
        simp only at pc
        refine G.run B F0 F2 σc H' ρc x ds[i] ρ1 _ (sc.grow g2) rx qb fun σ2 k2 hl hk => ?_
        have l2 : Lk ρc σc ρ1 σ2 := fun j c e => by
          by_cases hj : j ∈ is
          · exact absurd e (G.nol _ ρc ρ1 qb j hj true c)
          · obtain ⟨a1, a2⟩ := hk j hj
            rw [a2] at e
            exact ⟨e, a1⟩
        refine ⟨B, F0, F2, ρ1, k2, ?_⟩
        cases qs : s1 ρ1 with
        | none => rw [qs] at pc; exact pc.elim
        | some f =>
          rw [qs] at pc
          cases f with
          | nx ρ2 => exact fun σ3 F3 H3 m3 k3 l3 => ⟨F3, ρ2, (m1.trans g2.f).trans m3, k3, PostS.tr (r := forL bt s1 (ds.drop (i + 1)) ρ2) pc (g2.f.trans m3) (l2.trans l3)⟩
          | ct ρ2 => exact fun σ3 F3 H3 m3 k3 l3 => ⟨F3, ρ2, (m1.trans g2.f).trans m3, k3, PostS.tr (r := forL bt s1 (ds.drop (i + 1)) ρ2) pc (g2.f.trans m3) (l2.trans l3)⟩
          | bk ρ2 => exact fun σ3 F3 H3 m3 k3 l3 => PostS.tr (r := some (.nx ρ2)) pc (g2.f.trans m3) (l2.trans l3) σ3 F3 H3 (Same.refl _) k3 (.refl _ _)
          | rt d => exact fun v F3 H3 m3 => pc v F3 H3 (g2.f.trans m3)
          | ex e ρ2 => exact fun c dd σ3 F3 H3 m3 k3 l3 => pc c dd σ3 F3 H3 (g2.f.trans m3) k3 (l2.trans l3)
    · have e : i = ds.length := by omega
      refine .inl ⟨io.stop i Hc (m1.trans sc.fh) e, ?_⟩
      subst e
      rw [List.drop_length] at pc
      exact pc σc Fc Hc (Same.refl _) sc (.refl _ _)
theorem ss_while {c : Expr} {body : List Stmt} (hp : PassesOwn (model X.prog X.w) X.A X.env X.xe) (hc : SB X cl W c mt) (hb : SSs X cl W body s1) : SS X cl W (.While c body [] pos) (sWh mt s1) := by
  refine (ps_while hp hc hb).of ?_
  rintro D σ H ⟨B, F0, F, ρ, s, p⟩
  cases q : sWh mt s1 ρ with
  | none => rw [q] at p; exact p.elim
  | some r =>
    rw [q] at p
    obtain ⟨n0, hn0⟩ := sWh_some q
    refine ⟨fun n σc Hc => ∃ Fc ρc r, SOk X.K cl B F0 Fc σc Hc ρc ∧ whN mt s1 n ρc = some r ∧ PostS X.K cl W B F0 σc Fc ρc (some r) D, ⟨n0, F, ρ, r, s, hn0, p⟩, ?_⟩
    rintro n σc Hc ⟨Fc, ρc, rc, sc, hn, pc⟩
    cases n with
    | zero => cases hn
    | succ n =>
      simp only [whN] at hn
      rw [← hn] at pc
      refine ⟨B, F0, Fc, ρc, sc, (stepST sc pc).imp ?_⟩
      rintro k H1 ⟨F1, g1, p1⟩
      cases k with
      | false => exact p1 σc F1 H1 (Same.refl _) (sc.grow g1) (.refl _ _)
      | true =>
        refine ⟨fun σ' H' => ∃ Fc ρc r, SOk X.K cl B F0 Fc σ' H' ρc ∧ whN mt s1 n ρc = some r ∧ PostS X.K cl W B F0 σ' Fc ρc (some r) D, fun σ' H' h' => ⟨n, Nat.lt_succ_self n, h'⟩, ?_⟩
        refine ⟨B, F0, F1, ρc, sc.grow g1, ?_⟩
        simp only [if_true] at p1
        cases qs : s1 ρc with
        | none => rw [qs] at p1; exact p1.elim
        | some f =>
          rw [qs] at p1
          cases f with
          | nx ρ2 =>
            intro σ3 F3 H3 m3 k3 l3
            have p1 : PostS X.K cl W B F0 σc F1 ρc (whN mt s1 n ρ2) D := p1
            cases q2 : whN mt s1 n ρ2 with
            | none => rw [q2] at p1; exact p1.elim
            | some r2 => rw [q2] at p1; exact ⟨F3, ρ2, r2, k3, q2, p1.tr m3 l3⟩
          | ct ρ2 =>
            intro σ3 F3 H3 m3 k3 l3
            have p1 : PostS X.K cl W B F0 σc F1 ρc (whN mt s1 n ρ2) D := p1
            cases q2 : whN mt s1 n ρ2 with
            | none => rw [q2] at p1; exact p1.elim
            | some r2 => rw [q2] at p1; exact ⟨F3, ρ2, r2, k3, q2, p1.tr m3 l3⟩
          | bk ρ2 => exact fun σ3 F3 H3 m3 k3 l3 => p1 σ3 F3 H3 m3 k3 l3
          | rt d => exact p1
          | ex e ρ2 => exact p1
end
/-! ## defs -/
def startE (n : Nat) (ds : List D) : En := ds.map .im ++ List.replicate (n - ds.length) .un
def runF (n : Nat) (ms : En → Option Fl) : List D → Res D := fun ds => match ms (startE n ds) with
  | some (.rt d) => .ok d
  | some (.nx _) => .ok .non
  | some (.ex e _) => .er e
  | _ => .bad
section
variable {P : Program} {w : World} {K : PySem.W.Frag} {mg : Str → Option Value} {base : Heap} {cl : Str → Addr}
theorem start_ok {N : List Str} {vs : List V} {ds : List D} {F H : Hp} (m : Same F H) (r : RpA K cl F vs ds) (hl : vs.length ≤ N.length) : SOk K cl H F F (L2.start N vs) H (startE N.length ds) where
  f0 := Same.refl _
  fh := m
  bh := Same.refl _
  bf := fun _ _ => rfl
  len := by unfold L2.start startE; simp [r.length]
  im := fun i d e => by
    unfold startE at e
    by_cases hi : i < ds.length
    · rw [List.getElem?_append_left (by simpa using hi), List.getElem?_map] at e
      cases q : ds[i]? with
      | none => rw [q] at e; cases e
      | some d' =>
        rw [q] at e; cases e
        obtain ⟨v, h1, h2⟩ := r.get' q
        refine ⟨v, ?_, h2⟩
        unfold L2.start
        rw [List.getElem?_append_left (by simpa [r.length] using hi), List.getElem?_map, h1]; rfl
    · rw [List.getElem?_append_right (by simpa using hi), List.getElem?_replicate] at e
      split at e <;> cases e
  ow := fun i b c e => by
    unfold startE at e
    by_cases hi : i < ds.length
    · rw [List.getElem?_append_left (by simpa using hi), List.getElem?_map] at e
      cases q : ds[i]? with
      | none => rw [q] at e; cases e
      | some d' => rw [q] at e; cases e
    · rw [List.getElem?_append_right (by simpa using hi), List.getElem?_replicate] at e
      split at e <;> cases e
  ap := fun i j b c b' c' a _ e _ _ => by
    unfold startE at e
    by_cases hi : i < ds.length
    · rw [List.getElem?_append_left (by simpa using hi), List.getElem?_map] at e
      cases q : ds[i]? with
      | none => rw [q] at e; cases e
      | some d' => rw [q] at e; cases e
    · rw [List.getElem?_append_right (by simpa using hi), List.getElem?_replicate] at e
      split at e <;> cases e
theorem fn_ok {x qual : Str} {st : Stmt} {f : Addr} {fd : FuncData} {N ps : List Str} {k n nN : Nat} {ms : En → Option Fl} (F : Fun K x qual st f fd) (S : FnScope N ps (defScope st)) (hn : ps.length = n) (hN : N.length = nN)
    (body : ∀ (cdv : Value) (A : Around) (outer : List Env) (s : Shared) (H : Hp) (E : XK), Room k (A.deeper (PyProof.Rows.envOfC qual (defScope st) s.heap.objs.size f cdv)) →
      PassesOwn (model P w) (A.deeper (PyProof.Rows.envOfC qual (defScope st) s.heap.objs.size f cdv)) (PyProof.Rows.envOfC qual (defScope st) s.heap.objs.size f cdv) (cxOf (L2.CX P w) P w K mg base N qual (defScope st) f cdv A outer s H E).xe →
      Takes (cxOf (L2.CX P w) P w K mg base N qual (defScope st) f cdv A outer s H E) (fun cls d _ H => E cls d H) →
      PSs (cxOf (L2.CX P w) P w K mg base N qual (defScope st) f cdv A outer s H E) (defBody st) (tS K cl (fun cls d _ H => E cls d H) ms)) :
    FnOk P w K mg base (L2.CX P w) (k + 1) f fd ps (spOf K cl n (runF nN ms)) := by
  subst hn hN
  refine F.okX S (fun vs H Q E h => ?_) (fun cdv A outer s H vs Q E hr h => ?_)
  · obtain ⟨_, _, _, _, h, _⟩ := h
    exact h
  · obtain ⟨F1, ds, m, r, hl, h⟩ := h
    refine ⟨_, body cdv A outer s H E hr (passes_of rfl) (takes_of rfl rfl rfl rfl), H, F1, F1, _, start_ok m r (by
      have := congrArg List.length S.pre
      rw [List.length_take] at this
      omega), ?_⟩
    unfold runF at h
    cases q : ms (startE N.length ds) with
    | none => rw [q] at h; exact h.elim
    | some f =>
      rw [q] at h
      cases f with
      | rt d => exact fun v F' H' m1 m2 m3 m4 r' => h v F' H' ⟨m1, m2, m3, m4⟩ r'
      | nx ρ' => exact fun σ' F' H' m1 k1 _ => h .non F' H' ⟨m1, k1.fh, k1.bh, k1.bf⟩ .non
      | ex e ρ' => exact fun c dd σ' F' H' m1 k1 _ x => h c dd F' H' ⟨m1, k1.fh, k1.bh, k1.bf⟩ x
      | bk ρ' => exact h.elim
      | ct ρ' => exact h.elim
end
end FL
namespace FL
open PySem L2
/-! ## slots that own their list or dict -/
def frz1 (i : Nat) (ρ : En) : En := match ρ[i]? with
  | some (.ow _ c) => ρ.set i (.im c.d)
  | _ => ρ
def scalD : D → Bool
  | .non => true
  | .bl _ => true
  | .int _ => true
  | .str _ => true
  | _ => false
def mBor (i : Nat) (m : En → Res D) : En → Res D := fun ρ => match m (frz1 i ρ) with
  | .ok d => if scalD d then .ok d else .bad
  | _ => .bad
def mtBor (i : Nat) (m : En → Res Bool) : En → Res Bool := fun ρ => match m (frz1 i ρ) with
  | .ok b => .ok b
  | _ => .bad
def sFrz (i : Nat) (ms : En → Option Fl) : En → Option Fl := fun ρ => ms (frz1 i ρ)
def mIxO (i : Nat) (m : En → Res D) : En → Res D := fun ρ => match ρ[i]? with
  | some (.ow _ (.l ds)) => (m ρ).bind fun k => .ofO (fIx (.lst ds) k)
  | _ => .bad
def sApp (i : Nat) (ms : En → Res (List D)) : En → Option Fl := fun ρ => match ρ[i]? with
  | some (.ow false (.l ds)) => runE ρ (ms ρ) fun vs => match vs with
    | [d] => if ds.length < 16777215 then some (.nx (ρ.set i (.ow false (.l (ds ++ [d]))))) else none
    | _ => none
  | _ => none
def sIns (i : Nat) (ms : En → Res (List D)) : En → Option Fl := fun ρ => match ρ[i]? with
  | some (.ow false (.l ds)) => runE ρ (ms ρ) fun vs => match vs with
    | [.int k, d] => if ds.length < 16777215 ∧ 0 ≤ k ∧ k < 9223372036854775808 then some (.nx (ρ.set i (.ow false (.l (ds.take k.toNat ++ [d] ++ ds.drop k.toNat))))) else none
    | _ => none
  | _ => none
def sIdx (i : Nat) (mk mv : En → Res D) : En → Option Fl := fun ρ => match ρ[i]? with
  | some (.ow false (.l ds)) => runE ρ (mv ρ) fun d => runE ρ (mk ρ) fun k => match k with
    | .int k => match ixN ds.length k with
      | some j => some (.nx (ρ.set i (.ow false (.l (ds.set j d)))))
      | none => none
    | _ => none
  | _ => none
section
variable {κ : Type} [DecidableEq κ]
def putKs (ks : List κ) (k : κ) : List κ := if hasK ks k then ks else ks ++ [k]
def putVs (ks : List κ) (vs : List D) (k : κ) (v : D) : List D := if hasK ks k then List.zipWith (fun j d => if j = k then v else d) ks vs else vs ++ [v]
end
def sPut (i : Nat) (mk mv : En → Res D) : En → Option Fl := fun ρ => match ρ[i]? with
  | some (.ow false (.t ks vs)) => runE ρ (mv ρ) fun d => runE ρ (mk ρ) fun k => match k with
    | .tup es => match keysOf es with
      | some k => if ks.length < 16777215 then some (.nx (ρ.set i (.ow false (.t (putKs ks k) (putVs ks vs k d))))) else none
      | none => none
    | _ => none
  | some (.ow false (.k ks vs)) => runE ρ (mv ρ) fun d => runE ρ (mk ρ) fun k => match keyOf k with
    | some k => if ks.length < 16777215 then some (.nx (ρ.set i (.ow false (.k (putKs ks k) (putVs ks vs k d))))) else none
    | none => none
  | _ => none
def mEmpT : En → Res Cn := fun _ => .ok (.t [] [])
def mEmpK : En → Res Cn := fun _ => .ok (.k [] [])
section
variable {X : Cx} {cl : Str → Addr} {W : WX} {st : Stmt} {sts : List Stmt} {e k : Expr} {pos pos' : Pos} {m mk mv : En → Res D} {ms : En → Res (List D)} {s1 s2 : En → Option Fl} {mt : En → Res Bool} {i : Nat}
theorem SOk.frz {K : PySem.W.Frag} {B F0 F H : Hp} {σ : L2.St} {ρ : En} (s : SOk K cl B F0 F σ H ρ) (i : Nat) : ∃ F1, Same F F1 ∧ SOk K cl B F0 F1 σ H (frz1 i ρ) := by
  unfold frz1
  split
  · rename_i b c hi
    obtain ⟨a, o, h1, h2, h3, h4, h5⟩ := s.ow i b c hi
    have hl : i < ρ.length := (List.getElem?_eq_some_iff.mp hi).1
    have m1 : Same F (upd F a o) := fun x u e => by
      have : x ≠ a := fun z => by subst z; rw [h2] at e; cases e
      rw [upd_ne this]; exact e
    refine ⟨upd F a o, m1, s.f0.trans m1, fun x u e => ?_, s.bh, fun x hx => ?_, by simpa using s.len, fun j d e => ?_, fun j b1 c1 e => ?_, fun j k b1 c1 b2 c2 x hjk e1 e2 e3 => ?_⟩
    · by_cases z : x = a
      · subst z; rw [upd_same] at e; cases e; exact h4
      · rw [upd_ne z] at e; exact s.fh _ _ e
    · have : x ≠ a := fun z => by subst z; exact hx h3
      rw [upd_ne this]; exact s.bf x hx
    · by_cases z : j = i
      · subst z; rw [List.getElem?_set_self hl] at e; cases e
        exact ⟨_, h1, (h5.mono m1).rp upd_same⟩
      · rw [List.getElem?_set_ne (Ne.symm z)] at e
        obtain ⟨v, q1, q2⟩ := s.im j d e
        exact ⟨v, q1, q2.mono m1⟩
    · by_cases z : j = i
      · subst z; rw [List.getElem?_set_self hl] at e; cases e
      · rw [List.getElem?_set_ne (Ne.symm z)] at e
        obtain ⟨x, u, q1, q2, q3, q4, q5⟩ := s.ow j b1 c1 e
        have : x ≠ a := fun w => by subst w; exact s.ap i j b c b1 c1 x (Ne.symm z) hi e h1 q1
        exact ⟨x, u, q1, by rw [upd_ne this]; exact q2, q3, q4, q5.mono m1⟩
    · have key : ∀ {j : Nat} {b' : Bool} {c1 : Cn}, (ρ.set i (.im c.d))[j]? = some (.ow b' c1) → ρ[j]? = some (.ow b' c1) := fun {j b' c1} e => by
        by_cases h : j = i
        · subst h; rw [List.getElem?_set_self hl] at e; cases e
        · rw [List.getElem?_set_ne (Ne.symm h)] at e; exact e
      exact s.ap j k _ _ _ _ x hjk (key e1) (key e2) e3
  · exact ⟨F, Same.refl _, s⟩
theorem scal_rp {K : PySem.W.Frag} {F F' : Hp} {v : V} {d : D} (h : scalD d = true) (r : Rp K cl F v d) : Rp K cl F' v d := by
  cases r <;> simp [scalD] at h <;> constructor
theorem so_bor (i : Nat) (h : SE X cl W e m) : SE X cl W e (mBor i m) := by
  refine PE.of h ?_
  rintro σ H Q ⟨B, F0, F, ρ, s, p⟩
  obtain ⟨F1, m1, s1⟩ := s.frz i
  refine ⟨B, F0, F1, _, s1, ?_⟩
  unfold mBor at p
  cases q : m (frz1 i ρ) with
  | bad => rw [q] at p; exact p.elim
  | er e => rw [q] at p; exact p.elim
  | ok d =>
    rw [q] at p
    intro v F' H' g r
    simp only at p
    split at p
    · rename_i hs
      exact p v F H' ⟨Same.refl _, (m1.trans g.f).trans g.fh, g.h, fun _ _ => rfl⟩ (scal_rp hs r)
    · exact p.elim
theorem sb_bor (i : Nat) (h : SB X cl W e mt) : SB X cl W e (mtBor i mt) := by
  refine PT.of h ?_
  rintro σ H Q ⟨B, F0, F, ρ, s, p⟩
  obtain ⟨F1, m1, s1⟩ := s.frz i
  refine ⟨B, F0, F1, _, s1, ?_⟩
  unfold mtBor at p
  cases q : mt (frz1 i ρ) with
  | bad => rw [q] at p; exact p.elim
  | er e => rw [q] at p; exact p.elim
  | ok d =>
    rw [q] at p
    exact fun F' H' g => p F H' ⟨Same.refl _, (m1.trans g.f).trans g.fh, g.h, fun _ _ => rfl⟩
theorem ss_frz (i : Nat) (h : SS X cl W st s1) : SS X cl W st (sFrz i s1) := by
  refine PS.of h ?_
  rintro D σ H ⟨B, F0, F, ρ, s, p⟩
  obtain ⟨F1, m1, k1⟩ := s.frz i
  refine ⟨B, F0, F1, _, k1, PostS.tr (r := s1 (frz1 i ρ)) p m1 fun j c e => ?_⟩
  unfold frz1 at e
  split at e
  · rename_i b c' hi
    have hl : i < ρ.length := (List.getElem?_eq_some_iff.mp hi).1
    by_cases z : j = i
    · subst z; rw [List.getElem?_set_self hl] at e; cases e
    · rw [List.getElem?_set_ne (Ne.symm z)] at e; exact ⟨e, rfl⟩
  · exact ⟨e, rfl⟩
theorem sss_frz (i : Nat) (h : SSs X cl W sts s1) : SSs X cl W sts (sFrz i s1) := by
  refine PSs.of h ?_
  rintro D σ H ⟨B, F0, F, ρ, s, p⟩
  obtain ⟨F1, m1, k1⟩ := s.frz i
  refine ⟨B, F0, F1, _, k1, PostS.tr (r := s1 (frz1 i ρ)) p m1 fun j c e => ?_⟩
  unfold frz1 at e
  split at e
  · rename_i b c' hi
    have hl : i < ρ.length := (List.getElem?_eq_some_iff.mp hi).1
    by_cases z : j = i
    · subst z; rw [List.getElem?_set_self hl] at e; cases e
    · rw [List.getElem?_set_ne (Ne.symm z)] at e; exact ⟨e, rfl⟩
  · exact ⟨e, rfl⟩
/-- x[k] of an owned list -/
theorem so_ixO {a : Expr} (i : Nat) (ha : PE X a (tVar i)) (hb : SE X cl W k mk) (hs : PlainIx k) : SE X cl W (.Subscript a k pos) (mIxO i mk) := by
  refine (pe_ix ix_U ha hb hs).of ?_
  rintro σ H Q ⟨B, F0, F, ρ, s, p⟩
  unfold mIxO at p
  split at p
  · rename_i b ds hi
    obtain ⟨a, o, h1, h2, h3, h4, vs, rfl, h5⟩ := s.ow i b _ hi
    refine ⟨_, h1, B, F0, F, ρ, s, (step1 s p).imp ?_⟩
    rintro v H1 ⟨d, F1, e, g, r, p⟩
    cases r with
    | int j =>
      have p : PostO X.K cl F1 H1 (atI ds j) Q := PostO.of (r := fIx (.lst ds) (.int j)) p
      cases q : atI ds j with
      | none => rw [q] at p; exact p.elim
      | some d =>
        rw [q] at p
        obtain ⟨v, q1, q2⟩ := atI_rp (h5.mono g.f) q
        exact .inl ⟨_, _, _, _, rfl, rfl, .of (g.h _ _ h4), q1, p.int g.fh q2⟩
    | _ => exact p.elim
  · exact p.elim
/-- from a statement's wish to an argument list's -/
theorem stepSA {K : PySem.W.Frag} {B F0 F H : Hp} {σ : L2.St} {ρ : En} {r : Res (List D)} {f : List D → Option Fl} {D' : Ends} (s : SOk K cl B F0 F σ H ρ) (p : PostS K cl W B F0 σ F ρ (runE ρ r f) D') :
    PostA K cl W σ F H r fun v H' => ∃ d F', r = .ok d ∧ Gr F H F' H' ∧ RpA K cl F' v d ∧ PostS K cl W B F0 σ F' ρ (f d) D' := by
  cases r with
  | bad => exact p
  | er e => exact fun c dd F' H' g h => p c dd σ F' H' g.f (s.grow g) (.refl _ _) h
  | ok d => exact fun v F' H' g h => ⟨d, F', rfl, g, h, PostS.tr (r := f d) p g.f (.refl _ _)⟩
theorem Lk.put {ρ : En} {σ : L2.St} {i : Nat} {x : Sl} (h : ∀ c, x ≠ .ow true c) : Lk ρ σ (ρ.set i x) σ := fun j c e => by
  by_cases z : j = i
  · subst z
    by_cases hl : j < ρ.length
    · rw [List.getElem?_set_self hl] at e; cases e; exact absurd rfl (h c)
    · rw [List.getElem?_eq_none (by simpa using hl)] at e; cases e
  · rw [List.getElem?_set_ne (Ne.symm z)] at e
    exact ⟨e, rfl⟩
theorem ss_app (i : Nat) (h : PS X st (tDrop (tBM X.K "list" rAppend (tVar i) (tA X.K cl W ms)))) : SS X cl W st (sApp i ms) := by
  refine h.of ?_
  rintro D σ H ⟨B, F0, F, ρ, s, p⟩
  unfold sApp at p
  split at p
  · rename_i ds hi
    obtain ⟨a, o, h1, h2, h3, h4, vs, rfl, h5⟩ := s.ow i _ _ hi
    refine ⟨_, h1, .inl ⟨rfl, _, .of h4⟩, B, F0, F, ρ, s, (stepSA s p).imp ?_⟩
    rintro us H1 ⟨es, F1, e, g, r, p⟩
    split at p
    · rename_i d
      obtain ⟨v, rfl, r2⟩ := r.one
      split at p
      · rename_i hl
        refine ⟨a, vs, v, rfl, rfl, g.h _ _ h4, by rw [h5.length, sizeLine_eq]; omega, ?_⟩
        exact p σ F1 _ (Same.refl _) ((s.grow g).put hi h1 ⟨_, rfl, (h5.mono g.f).app (.cons r2 .nil)⟩) (Lk.put fun c z => by cases z)
      · exact p.elim
    · exact p.elim
  · exact p.elim
theorem p63 : (2 : Int) ^ 63 = 9223372036854775808 := by decide
theorem ss_ins (i : Nat) (h : PS X st (tDrop (tBM X.K "list" (fun x vs H Q => ∃ (l : Addr) (xs : List V) (i : Int) (y : V), x = .ref l ∧ vs = [.int i, y] ∧ H l = some (.lst xs) ∧ xs.length < sizeLine ∧ 0 ≤ i ∧ i < 2 ^ 63 ∧
    Q .non (upd H l (.lst (xs.take i.toNat ++ [y] ++ xs.drop i.toNat)))) (tVar i) (tA X.K cl W ms)))) : SS X cl W st (sIns i ms) := by
  refine h.of ?_
  rintro D σ H ⟨B, F0, F, ρ, s, p⟩
  unfold sIns at p
  split at p
  · rename_i ds hi
    obtain ⟨a, o, h1, h2, h3, h4, vs, rfl, h5⟩ := s.ow i _ _ hi
    refine ⟨_, h1, .inl ⟨rfl, _, .of h4⟩, B, F0, F, ρ, s, (stepSA s p).imp ?_⟩
    rintro us H1 ⟨es, F1, e, g, r, p⟩
    split at p
    · rename_i k d
      obtain ⟨v, u, rfl, r1, r2⟩ := r.two
      cases r1
      split at p
      · rename_i hl
        refine ⟨a, vs, k, u, rfl, rfl, g.h _ _ h4, by rw [h5.length, sizeLine_eq]; omega, hl.2.1, by rw [p63]; exact hl.2.2, ?_⟩
        have h6 := h5.mono g.f
        exact p σ F1 _ (Same.refl _) ((s.grow g).put hi h1 ⟨_, rfl, ((h6.take _).app (.cons r2 .nil)).app (h6.drop _)⟩) (Lk.put fun c z => by cases z)
      · exact p.elim
    · exact p.elim
  · exact p.elim
theorem ss_idx (i : Nat) (h : PS X st (tAsg (tM X.K cl W mv) (gSub (tVar i) (tM X.K cl W mk) rSetL))) : SS X cl W st (sIdx i mk mv) := by
  refine h.of ?_
  rintro D σ H ⟨B, F0, F, ρ, s, p⟩
  unfold sIdx at p
  split at p
  · rename_i ds hi
    obtain ⟨a, o, h1, h2, h3, h4, vs, rfl, h5⟩ := s.ow i _ _ hi
    refine ⟨B, F0, F, ρ, s, (stepS s p).imp ?_⟩
    rintro v H1 ⟨d, F1, e, g, r, p⟩
    refine ⟨_, h1, B, F0, F1, ρ, s.grow g, (stepS (s.grow g) p).imp ?_⟩
    rintro u H2 ⟨dk, F2, e2, g2, r2, p⟩
    have sg := (s.grow g).grow g2
    cases r2 with
    | int kk =>
      simp only at p
      split at p
      · rename_i j hj
        have h6 := (h5.mono g.f).mono g2.f
        refine ⟨a, vs, kk, j, rfl, rfl, g2.h _ _ (g.h _ _ h4), by rw [h5.length]; exact hj, ?_⟩
        exact p σ F2 _ (Same.refl _) (sg.put hi h1 ⟨_, rfl, h6.set j (r.mono g2.f)⟩) (Lk.put fun c z => by cases z)
      · exact p.elim
    | _ => exact p.elim
  · exact p.elim
section
variable {κ : Type} [DecidableEq κ] {K : PySem.W.Frag} {F : Hp}
theorem any_has (k : κ) (kvs : List (κ × V)) : (kvs.any fun kv => decide (kv.1 = k)) = hasK (kvs.map (·.1)) k := by
  unfold hasK
  rw [List.any_map]
  rfl
theorem putK_rp {kvs : List (κ × V)} {vs : List D} {k : κ} {v : V} {d : D} (h : RpA K cl F (kvs.map (·.2)) vs) (r : Rp K cl F v d) :
    (putK kvs k v).map (·.1) = putKs (kvs.map (·.1)) k ∧ RpA K cl F ((putK kvs k v).map (·.2)) (putVs (kvs.map (·.1)) vs k d) := by
  unfold putK putKs putVs
  rw [any_has]
  split
  · constructor
    · rw [List.map_map]
      apply List.map_congr_left
      intro p _
      simp only [Function.comp]
      split <;> rfl
    · rename_i hh
      clear hh
      induction kvs generalizing vs with
      | nil => cases h; exact .nil
      | cons p t ih =>
        cases h with
        | cons a b =>
          simp only [List.map_cons, List.zipWith_cons_cons]
          by_cases e : p.1 = k
          · simp only [if_pos e]
            exact .cons r (ih b)
          · simp only [if_neg e]
            exact .cons a (ih b)
  · constructor
    · simp
    · rw [List.map_append]
      exact h.app (.cons r .nil)
end
theorem ss_put (i : Nat) (h : PS X st (sDPut (tVar i) (tM X.K cl W mk) (tM X.K cl W mv))) : SS X cl W st (sPut i mk mv) := by
  refine h.of ?_
  rintro D σ H ⟨B, F0, F, ρ, s, p⟩
  unfold sPut at p
  split at p
  · rename_i ks vs hi
    obtain ⟨a, o, h1, h2, h3, h4, kvs, rfl, rfl, h5⟩ := s.ow i _ _ hi
    refine ⟨B, F0, F, ρ, s, (stepS s p).imp ?_⟩
    rintro v H1 ⟨d, F1, e, g, r, p⟩
    refine ⟨_, h1, B, F0, F1, ρ, s.grow g, (stepS (s.grow g) p).imp ?_⟩
    rintro u H2 ⟨dk, F2, e2, g2, r2, p⟩
    have sg := (s.grow g).grow g2
    cases r2 with
    | tup ha hr =>
      simp only at p
      split at p
      · rename_i k hk
        have := keysOf_rp hr hk; subst this
        split at p
        · rename_i hl
          have h6 := (h5.mono g.f).mono g2.f
          obtain ⟨q1, q2⟩ := putK_rp (k := k) h6 (r.mono g2.f)
          refine ⟨a, _, rfl, .t (g2.h _ _ (g.h _ _ h4)) (g2.fh _ _ ha) (by rw [sizeLine_eq]; rw [List.length_map] at hl; omega), ?_⟩
          exact p σ F2 _ (Same.refl _) (sg.put hi h1 ⟨_, rfl, q1, q2⟩) (Lk.put fun c z => by cases z)
        · exact p.elim
      · exact p.elim
    | _ => exact p.elim
  · rename_i ks vs hi
    obtain ⟨a, o, h1, h2, h3, h4, kvs, rfl, rfl, h5⟩ := s.ow i _ _ hi
    refine ⟨B, F0, F, ρ, s, (stepS s p).imp ?_⟩
    rintro v H1 ⟨d, F1, e, g, r, p⟩
    refine ⟨_, h1, B, F0, F1, ρ, s.grow g, (stepS (s.grow g) p).imp ?_⟩
    rintro u H2 ⟨dk, F2, e2, g2, r2, p⟩
    have sg := (s.grow g).grow g2
    split at p
    · rename_i k hk
      have := keyOf_rp r2 hk; subst this
      split at p
      · rename_i hl
        have h6 := (h5.mono g.f).mono g2.f
        obtain ⟨q1, q2⟩ := putK_rp (k := k) h6 (r.mono g2.f)
        refine ⟨a, _, rfl, .k (g2.h _ _ (g.h _ _ h4)) (by rw [sizeLine_eq]; rw [List.length_map] at hl; omega), ?_⟩
        exact p σ F2 _ (Same.refl _) (sg.put hi h1 ⟨_, rfl, q1, q2⟩) (Lk.put fun c z => by cases z)
      · exact p.elim
    · exact p.elim
  · exact p.elim
theorem sc_empT : SC X cl W (.Dict [] [] pos) mEmpT := pe_dnewT.of fun σ H Q ⟨B, F0, F, ρ, s, p⟩ q hq => PostC.put (c := .t [] []) p s.fh hq ⟨[], rfl, rfl, .nil⟩
theorem sc_empK : SC X cl W (.Dict [] [] pos) mEmpK := pe_dnewK.of fun σ H Q ⟨B, F0, F, ρ, s, p⟩ q hq => PostC.put (c := .k [] []) p s.fh hq ⟨[], rfl, rfl, .nil⟩
end
end FL
namespace FL
open PySem L2
abbrev mI (n : Int) : En → Res D := mC (.int n)
abbrev mBl (b : Bool) : En → Res D := mC (.bl b)
abbrev mNone : En → Res D := mC .non
abbrev mStr (x : Str) : En → Res D := mC (.str x)
theorem bt_len : bootBuiltins "len" = some (.builtin "len") := by decide +kernel
theorem bt_abs : bootBuiltins "abs" = some (.builtin "abs") := by decide +kernel
theorem bt_sum : bootBuiltins "sum" = some (.builtin "sum") := by decide +kernel
theorem bt_min : bootBuiltins "min" = some (.builtin "min") := by decide +kernel
theorem bt_max : bootBuiltins "max" = some (.builtin "max") := by decide +kernel
theorem bt_any : bootBuiltins "any" = some (.builtin "any") := by decide +kernel
theorem bt_all : bootBuiltins "all" = some (.builtin "all") := by decide +kernel
theorem bt_sorted : bootBuiltins "sorted" = some (.builtin "sorted") := by decide +kernel
theorem bt_int : bootBuiltins "int" = some (.type "int") := by decide +kernel
theorem bt_bool : bootBuiltins "bool" = some (.type "bool") := by decide +kernel
theorem bt_str : bootBuiltins "str" = some (.type "str") := by decide +kernel
theorem bt_tuple : bootBuiltins "tuple" = some (.type "tuple") := by decide +kernel
theorem bt_list : bootBuiltins "list" = some (.type "list") := by decide +kernel
section
variable {X : Cx} {cl : Str → Addr} {W : WX} {elt tg iter : Expr} {ifs : List Expr} {scope : Scope} {own : List (Str × Nat)} {pos spos : Pos} {is : List Nat} {g : TG} {bt : D → En → Option En} {mi : En → Res (List D)} {mt : En → Res Bool} {me : En → Res D}
/-- y = [..] on one line, y a plain local: y owns the list, or it is frozen -/
theorem ss_lcO {i : Nat} {y : Str} {py : Pos} (hc : X.calm = true) (hN : X.N.Nodup) (hy : X.N[i]? = some y) (hyl : X.env.scope.names.lookup y = some .local)
    (hsw : swapsWith (.ListComp elt [⟨tg, iter, ifs, 0⟩] scope pos) (some (.Name y py)) spos.line X.env = pure true) (G : GOk X.K cl g is bt) (hsub : (is.all fun i => (own.map (·.2)).contains i) = true) (hi : SI X cl W tg iter mi) (ok : BlkOk X.N X.env.scope scope own)
    (hg : ∀ (s : Shared) (H : Hp) (C : Addr) (ce : List (Str × Addr)) (fp : List Addr), PG (X.blk s H scope (compEnvC scope ce C X.env) fp) tg g)
    (ht : ∀ (s : Shared) (H : Hp) (C : Addr) (ce : List (Str × Addr)) (fp : List Addr), PTs (X.blk s H scope (compEnvC scope ce C X.env) fp) ifs (tTs X.K cl mt))
    (he : ∀ (s : Shared) (H : Hp) (C : Addr) (ce : List (Str × Addr)) (fp : List Addr), PE (X.blk s H scope (compEnvC scope ce C X.env) fp) elt (tM X.K cl W0 me)) (hs : ∀ x, foldedSetIterable iter X.env x = pure x := by intro _; rfl) :
    SS X cl W (.Assign [.Name y py] (.ListComp elt [⟨tg, iter, ifs, 0⟩] scope pos) spos) (sOwn i (mLc bt (own.map (·.2)) mi mt me)) :=
  (ps_setLc (i := i) hc hN hy hyl hsw hi ok hg ht he hs).of fun D σ H h => lc_in G (fun i hi => by simpa using (List.all_eq_true.mp hsub i hi)) σ H _ (own_in D σ H h)
theorem ss_lcF {i : Nat} {y : Str} {py : Pos} (hc : X.calm = true) (hN : X.N.Nodup) (hy : X.N[i]? = some y) (hyl : X.env.scope.names.lookup y = some .local)
    (hsw : swapsWith (.ListComp elt [⟨tg, iter, ifs, 0⟩] scope pos) (some (.Name y py)) spos.line X.env = pure true) (G : GOk X.K cl g is bt) (hsub : (is.all fun i => (own.map (·.2)).contains i) = true) (hi : SI X cl W tg iter mi) (ok : BlkOk X.N X.env.scope scope own)
    (hg : ∀ (s : Shared) (H : Hp) (C : Addr) (ce : List (Str × Addr)) (fp : List Addr), PG (X.blk s H scope (compEnvC scope ce C X.env) fp) tg g)
    (ht : ∀ (s : Shared) (H : Hp) (C : Addr) (ce : List (Str × Addr)) (fp : List Addr), PTs (X.blk s H scope (compEnvC scope ce C X.env) fp) ifs (tTs X.K cl mt))
    (he : ∀ (s : Shared) (H : Hp) (C : Addr) (ce : List (Str × Addr)) (fp : List Addr), PE (X.blk s H scope (compEnvC scope ce C X.env) fp) elt (tM X.K cl W0 me)) (hs : ∀ x, foldedSetIterable iter X.env x = pure x := by intro _; rfl) :
    SS X cl W (.Assign [.Name y py] (.ListComp elt [⟨tg, iter, ifs, 0⟩] scope pos) spos) (sSet i (mFz (mLc bt (own.map (·.2)) mi mt me))) :=
  (ps_setLc (i := i) hc hN hy hyl hsw hi ok hg ht he hs).of fun D σ H h => lc_in G (fun i hi => by simpa using (List.all_eq_true.mp hsub i hi)) σ H _ (fz_in D σ H h)
end
end FL
namespace FL
open PySem L2
/-! ## reckoning with the mirror -/
section
variable {α β : Type} {ρ : En} {a b c : En → Res D} {f : D → D → Option D} {d : D}
@[simp] theorem bind_ok (a : α) (f : α → Res β) : (Res.ok a).bind f = f a := id rfl
@[simp] theorem bind_er (e : D) (f : α → Res β) : (Res.er e).bind f = .er e := id rfl
@[simp] theorem bind_bad (f : α → Res β) : (Res.bad : Res α).bind f = .bad := id rfl
@[simp] theorem ofO_some (a : α) : Res.ofO (some a) = .ok a := id rfl
@[simp] theorem ofO_none : (Res.ofO none : Res α) = .bad := id rfl
@[simp] theorem mC_d (d : D) (ρ : En) : mC d ρ = .ok d := id rfl
@[simp] theorem mVar_d (i : Nat) (ρ : En) : mVar i ρ = (match ρ[i]? with | some (.im d) => .ok d | _ => .bad) := id rfl
@[simp] theorem mOp1_d (g : D → Option D) (a) (ρ : En) : mOp1 g a ρ = (a ρ).bind fun x => .ofO (g x) := id rfl
@[simp] theorem mOp2_d (f) (a b) (ρ : En) : mOp2 f a b ρ = (a ρ).bind fun x => (b ρ).bind fun y => .ofO (f x y) := id rfl
@[simp] theorem mNil_d (ρ : En) : mNil ρ = .ok [] := id rfl
@[simp] theorem mCons_d (a : En → Res D) (b) (ρ : En) : mCons a b ρ = (a ρ).bind fun x => (b ρ).bind fun xs => .ok (x :: xs) := id rfl
@[simp] theorem mTup_d (b) (ρ : En) : mTup b ρ = (b ρ).bind fun xs => if xs.length < 16777216 then .ok (.tup xs) else .bad := id rfl
@[simp] theorem mLst_d (b) (ρ : En) : mLst b ρ = (b ρ).bind fun xs => if xs.length < 16777216 then .ok (.l xs) else .bad := id rfl
@[simp] theorem mFz_d (m : En → Res Cn) (ρ : En) : mFz m ρ = (m ρ).bind fun c => .ok c.d := id rfl
@[simp] theorem Cnd_l (ds) : (Cn.l ds).d = .lst ds := id rfl
@[simp] theorem Cnd_t (ks vs) : (Cn.t ks vs).d = .dit ks vs := id rfl
@[simp] theorem Cnd_k (ks vs) : (Cn.k ks vs).d = .dik ks vs := id rfl
@[simp] theorem mTru_d (m) (ρ : En) : mTru m ρ = (m ρ).bind fun d => .ofO (tru d) := id rfl
@[simp] theorem mTst_d (m) (ρ : En) : mTst m ρ = (m ρ).bind fun d => .ofO (isBl d) := id rfl
@[simp] theorem isBl_bl (b : Bool) : isBl (.bl b) = some b := id rfl
@[simp] theorem tru_bl (b : Bool) : tru (.bl b) = some b := id rfl
@[simp] theorem tru_int (i : Int) : tru (.int i) = some (i != 0) := id rfl
@[simp] theorem tru_non : tru .non = some false := id rfl
@[simp] theorem tru_lst (ds) : tru (.lst ds) = some (!ds.isEmpty) := id rfl
@[simp] theorem tru_tup (ds) : tru (.tup ds) = some (!ds.isEmpty) := id rfl
@[simp] theorem mtNot_d (m) (ρ : En) : mtNot m ρ = (m ρ).bind fun b => .ok (!b) := id rfl
@[simp] theorem mtAnd_d (m n) (ρ : En) : mtAnd m n ρ = (m ρ).bind fun b => if b then n ρ else .ok false := id rfl
@[simp] theorem mtOr_d (m n) (ρ : En) : mtOr m n ρ = (m ρ).bind fun b => if b then .ok true else n ρ := id rfl
@[simp] theorem mAnd_d (m n) (ρ : En) : mAnd m n ρ = (m ρ).bind fun d => match isBl d with | some true => n ρ | some false => .ok (.bl false) | none => .bad := id rfl
@[simp] theorem mOr_d (m n) (ρ : En) : mOr m n ρ = (m ρ).bind fun d => match isBl d with | some true => .ok (.bl true) | some false => n ρ | none => .bad := id rfl
@[simp] theorem mNot_d (m) (ρ : En) : mNot m ρ = (m ρ).bind fun d => match isBl d with | some b => .ok (.bl (!b)) | none => .bad := id rfl
@[simp] theorem mIf_d (t m n) (ρ : En) : mIf t m n ρ = (t ρ).bind fun b => if b then m ρ else n ρ := id rfl
@[simp] theorem mOpA_d (f : List D → Option D) (ms) (ρ : En) : mOpA f ms ρ = (ms ρ).bind fun ds => .ofO (f ds) := id rfl
@[simp] theorem mCall_d (n φ ms) (ρ : En) : mCall n φ ms ρ = (ms ρ).bind fun ds => if ds.length = n then φ ds else .bad := id rfl
@[simp] theorem mPart_d (m) (ρ : En) : mPart m ρ = (m ρ).bind fun d => match intOf d with | some i => .ok (some i) | none => .bad := id rfl
@[simp] theorem intOf_int (i) : intOf (.int i) = some i := id rfl
@[simp] theorem mNoPart_d (ρ : En) : mNoPart ρ = .ok none := id rfl
@[simp] theorem mSl_d (m lo hi) (ρ : En) : mSl m lo hi ρ = (m ρ).bind fun d => (lo ρ).bind fun l => (hi ρ).bind fun h => .ofO (fSl d l h) := id rfl
@[simp] theorem mIsiTy_d (u m) (ρ : En) : mIsiTy u m ρ = (m ρ).bind fun d => match isiTy u d with | some b => .ok (.bl b) | none => .bad := id rfl
@[simp] theorem mList_d (m) (ρ : En) : mList m ρ = (m ρ).bind fun d => match seqOf d with | some ds => .ok (.l ds) | none => .bad := id rfl
@[simp] theorem seqOf_lst (ds) : seqOf (.lst ds) = some ds := id rfl
@[simp] theorem seqOf_tup (ds) : seqOf (.tup ds) = some ds := id rfl
@[simp] theorem mSeq_d (m) (ρ : En) : mSeq m ρ = (m ρ).bind fun d => .ofO (elems d) := id rfl
@[simp] theorem elems_lst (ds) : elems (.lst ds) = some ds := id rfl
@[simp] theorem elems_tup (ds) : elems (.tup ds) = some ds := id rfl
@[simp] theorem elems_scr (ns) : elems (.scr ns) = some (ns.map .int) := id rfl
theorem mRng1_d (m) (ρ : En) : mRng1 m ρ = (m ρ).bind fun ds => .ofO (rng1Of ds) := id rfl
theorem mRng2_d (m) (ρ : En) : mRng2 m ρ = (m ρ).bind fun ds => .ofO (rng2Of ds) := id rfl
@[simp] theorem bName_d (i d ρ) : bName i d ρ = some (ρ.set i (.im d)) := id rfl
@[simp] theorem bTup_d (is ds ρ) : bTup is (.tup ds) ρ = bNames is ds ρ := id rfl
@[simp] theorem bNames_nil (ρ) : bNames [] [] ρ = some ρ := id rfl
@[simp] theorem bNames_cons (i is d ds ρ) : bNames (i :: is) (d :: ds) ρ = bNames is ds (ρ.set i (.im d)) := id rfl
@[simp] theorem mYes_d (ρ : En) : mYes ρ = .ok true := id rfl
@[simp] theorem mLc_d (bt own mi mt me) (ρ : En) : mLc bt own mi mt me ρ = (mi ρ).bind fun ds => compL bt mt me (wipeE ρ own) ds [] := id rfl
@[simp] theorem wipeE_nil (ρ) : wipeE ρ [] = ρ := id rfl
@[simp] theorem wipeE_cons (ρ v vs) : wipeE ρ (v :: vs) = (wipeE ρ vs).set v .un := id rfl
@[simp] theorem runE_ok {α : Type} (ρ) (a : α) (f) : runE ρ (.ok a) f = f a := id rfl
@[simp] theorem runE_er {α : Type} (ρ e) (f : α → Option Fl) : runE ρ (.er e) f = some (.ex e ρ) := id rfl
@[simp] theorem runE_bad {α : Type} (ρ) (f : α → Option Fl) : runE ρ .bad f = none := id rfl
@[simp] theorem sSeq_d (a b) (ρ : En) : sSeq a b ρ = (match a ρ with | some (.nx ρ1) => b ρ1 | r => r) := id rfl
@[simp] theorem sNop_d (ρ : En) : sNop ρ = some (.nx ρ) := id rfl
@[simp] theorem sSet_d (i m) (ρ : En) : sSet i m ρ = runE ρ (m ρ) fun d => some (.nx (ρ.set i (.im d))) := id rfl
@[simp] theorem sOwn_d (i m) (ρ : En) : sOwn i m ρ = runE ρ (m ρ) fun c => some (.nx (ρ.set i (.ow false c))) := id rfl
@[simp] theorem sAsg_d (bt m) (ρ : En) : sAsg bt m ρ = runE ρ (m ρ) fun d => match bt d ρ with | some ρ' => some (.nx ρ') | none => none := id rfl
@[simp] theorem sRet_d (m) (ρ : En) : sRet m ρ = runE ρ (m ρ) fun d => some (.rt d) := id rfl
@[simp] theorem sRetN_d (ρ : En) : sRetN ρ = some (.rt .non) := id rfl
@[simp] theorem sExp_d (m) (ρ : En) : sExp m ρ = runE ρ (m ρ) fun _ => some (.nx ρ) := id rfl
@[simp] theorem sIf_d (c a b) (ρ : En) : sIf c a b ρ = runE ρ (c ρ) fun k => if k then a ρ else b ρ := id rfl
@[simp] theorem sBrk_d (ρ : En) : sBrk ρ = some (.bk ρ) := id rfl
@[simp] theorem sCnt_d (ρ : En) : sCnt ρ = some (.ct ρ) := id rfl
@[simp] theorem sFor_d (bt mi body) (ρ : En) : sFor bt mi body ρ = runE ρ (mi ρ) fun ds => forL bt body ds ρ := id rfl
@[simp] theorem sFrz_d (i ms) (ρ : En) : sFrz i ms ρ = ms (frz1 i ρ) := id rfl
@[simp] theorem frz1_d (i) (ρ : En) : frz1 i ρ = (match ρ[i]? with | some (.ow _ c) => ρ.set i (.im c.d) | _ => ρ) := id rfl
@[simp] theorem mBor_d (i m) (ρ : En) : mBor i m ρ = (match m (frz1 i ρ) with | .ok d => if scalD d then .ok d else .bad | _ => .bad) := id rfl
@[simp] theorem mtBor_d (i m) (ρ : En) : mtBor i m ρ = (match m (frz1 i ρ) with | .ok d => .ok d | _ => .bad) := id rfl
@[simp] theorem scalD_int (i) : scalD (.int i) = true := id rfl
@[simp] theorem scalD_bl (i) : scalD (.bl i) = true := id rfl
@[simp] theorem scalD_non : scalD .non = true := id rfl
@[simp] theorem mIxO_d (i m) (ρ : En) : mIxO i m ρ = (match ρ[i]? with | some (.ow _ (.l ds)) => (m ρ).bind fun k => .ofO (fIx (.lst ds) k) | _ => .bad) := id rfl
@[simp] theorem sApp_d (i ms) (ρ : En) : sApp i ms ρ = (match ρ[i]? with
  | some (.ow false (.l ds)) => runE ρ (ms ρ) fun vs => match vs with
    | [d] => if ds.length < 16777215 then some (.nx (ρ.set i (.ow false (.l (ds ++ [d]))))) else none
    | _ => none
  | _ => none) := id rfl
@[simp] theorem sIns_d (i ms) (ρ : En) : sIns i ms ρ = (match ρ[i]? with
  | some (.ow false (.l ds)) => runE ρ (ms ρ) fun vs => match vs with
    | [.int k, d] => if ds.length < 16777215 ∧ 0 ≤ k ∧ k < 9223372036854775808 then some (.nx (ρ.set i (.ow false (.l (ds.take k.toNat ++ [d] ++ ds.drop k.toNat))))) else none
    | _ => none
  | _ => none) := id rfl
@[simp] theorem sIdx_d (i mk mv) (ρ : En) : sIdx i mk mv ρ = (match ρ[i]? with
  | some (.ow false (.l ds)) => runE ρ (mv ρ) fun d => runE ρ (mk ρ) fun k => match k with
    | .int k => match ixN ds.length k with
      | some j => some (.nx (ρ.set i (.ow false (.l (ds.set j d)))))
      | none => none
    | _ => none
  | _ => none) := id rfl
@[simp] theorem mEmpT_d (ρ : En) : mEmpT ρ = .ok (.t [] []) := id rfl
@[simp] theorem mEmpK_d (ρ : En) : mEmpK ρ = .ok (.k [] []) := id rfl
@[simp] theorem startE_d (n ds) : startE n ds = ds.map .im ++ List.replicate (n - ds.length) .un := id rfl
@[simp] theorem runF_d (n ms ds) : runF n ms ds = (match ms (startE n ds) with | some (.rt d) => .ok d | some (.nx _) => .ok .non | some (.ex e _) => .er e | _ => .bad) := id rfl
@[simp] theorem rep1 {α : Type} (a : α) : List.replicate 1 a = [a] := id rfl
-- operations
@[simp] theorem fAdd_ii (i j) : fAdd (.int i) (.int j) = some (.int (i + j)) := id rfl
@[simp] theorem fAdd_tt (i j) : fAdd (.tup i) (.tup j) = if i.length + j.length < 16777216 then some (.tup (i ++ j)) else none := id rfl
@[simp] theorem fAdd_ll (i j) : fAdd (.lst i) (.lst j) = if i.length + j.length < 16777216 then some (.lst (i ++ j)) else none := id rfl
@[simp] theorem fSub_ii (i j) : fSub (.int i) (.int j) = some (.int (i - j)) := id rfl
@[simp] theorem fMul_ii (i j) : fMul (.int i) (.int j) = if okMul i j then some (.int (i * j)) else none := id rfl
@[simp] theorem fMul_ti (i j) : fMul (.tup i) (.int j) = if decide (-1000 ≤ j) && decide (j ≤ 1000) && decide (i.length ≤ 1000) && !i.isEmpty then some (.tup (repD i j)) else none := id rfl
@[simp] theorem fMul_li (i j) : fMul (.lst i) (.int j) = if decide (-1000 ≤ j) && decide (j ≤ 1000) && decide (i.length ≤ 1000) then some (.lst (repD i j)) else none := id rfl
@[simp] theorem fFdiv_ii (i j) : fFdiv (.int i) (.int j) = if okDiv i j then some (.int (i.fdiv j)) else none := id rfl
@[simp] theorem fMod_ii (i j) : fMod (.int i) (.int j) = if j ≠ 0 then some (.int (i.fmod j)) else none := id rfl
@[simp] theorem fPow_ii (i j) : fPow (.int i) (.int j) = if okPow i j then some (.int (i ^ j.toNat)) else none := id rfl
@[simp] theorem fShl_ii (i j) : fShl (.int i) (.int j) = if okPow i j then some (.int (i * 2 ^ j.toNat)) else none := id rfl
@[simp] theorem fShr_ii (i j) : fShr (.int i) (.int j) = if 0 ≤ j then some (.int (i / 2 ^ j.toNat)) else none := id rfl
@[simp] theorem fAnd_ii (i j) : fAnd (.int i) (.int j) = some (.int (Builtin.bitAnd i j)) := id rfl
@[simp] theorem fNeg_i (i) : fNeg (.int i) = some (.int (-i)) := id rfl
@[simp] theorem fLt_ii (i j) : fLt (.int i) (.int j) = some (.bl (decide (i < j))) := id rfl
@[simp] theorem fLe_ii (i j) : fLe (.int i) (.int j) = some (.bl (decide (i ≤ j))) := id rfl
@[simp] theorem fGt_ii (i j) : fGt (.int i) (.int j) = some (.bl (decide (j < i))) := id rfl
@[simp] theorem fGe_ii (i j) : fGe (.int i) (.int j) = some (.bl (decide (j ≤ i))) := id rfl
@[simp] theorem fIx_l (ds i) : fIx (.lst ds) (.int i) = atI ds i := id rfl
@[simp] theorem fIx_t (ds i) : fIx (.tup ds) (.int i) = atI ds i := id rfl
@[simp] theorem fIx_s (ds i) : fIx (.scr ds) (.int i) = (atI ds i).map .int := id rfl
@[simp] theorem fLen_l (ds) : fLen [.lst ds] = some (.int ds.length) := id rfl
@[simp] theorem fLen_t (ds) : fLen [.tup ds] = some (.int ds.length) := id rfl
@[simp] theorem fLen_s (ds) : fLen [.scr ds] = some (.int ds.length) := id rfl
@[simp] theorem fAbs_i (i) : fAbs [.int i] = some (.int (if i < 0 then -i else i)) := id rfl
@[simp] theorem fInt_i (i) : fInt [.int i] = some (.int i) := id rfl
@[simp] theorem fInt_b (i) : fInt [.bl i] = some (.int (if i then 1 else 0)) := id rfl
@[simp] theorem fGcd_ii (a b) : fGcd [.int a, .int b] = some (.int ((Nat.gcd a.natAbs b.natAbs : Nat) : Int)) := id rfl
@[simp] theorem fTuple_l (ds) : fTuple [.lst ds] = some (.tup ds) := id rfl
@[simp] theorem fTuple_t (ds) : fTuple [.tup ds] = some (.tup ds) := id rfl
@[simp] theorem fSum_l (ds) : fSum [.lst ds] = (intsOf ds).map fun ns => .int ns.sum := id rfl
@[simp] theorem fAny_l (ds) : fAny [.lst ds] = (blsOf ds).map fun ns => .bl (ns.any id) := id rfl
@[simp] theorem fAll_l (ds) : fAll [.lst ds] = (blsOf ds).map fun ns => .bl (ns.all id) := id rfl
@[simp] theorem fRev_l (ds) : fRev (.lst ds) = some (.lst ds.reverse) := id rfl
@[simp] theorem fIsN_nn : fIsN .non .non = some (.bl true) := id rfl
@[simp] theorem fNotN_nn : fNotN .non .non = some (.bl false) := id rfl
theorem isi_int_int (i) : isiTy "int" (.int i) = some true := by simp only [isiTy]; decide +kernel
theorem isi_bool_int (i) : isiTy "bool" (.int i) = some false := by simp only [isiTy]; decide +kernel
theorem isi_tuple_tup (i) : isiTy "tuple" (.tup i) = some true := by simp only [isiTy]; decide +kernel
end
end FL
namespace FL
open PySem L2
/-! ## lists of numbers as data -/
abbrev zs (l : List Int) : List D := l.map .int
abbrev bls (l : List Bool) : List D := l.map .bl
@[simp] theorem intsOf_ints : ∀ l : List Int, intsOf (zs l) = some l
  | [] => rfl
  | a :: l => by show (intsOf (zs l)).map _ = _; rw [intsOf_ints l]; rfl
@[simp] theorem blsOf_bls : ∀ l : List Bool, blsOf (bls l) = some l
  | [] => rfl
  | a :: l => by show (blsOf (bls l)).map _ = _; rw [blsOf_bls l]; rfl
@[simp] theorem blsOf_comp {α : Type} (f : α → Bool) (l : List α) : blsOf (l.map (D.bl ∘ f)) = some (l.map f) := by
  rw [← List.map_map]; exact blsOf_bls _
@[simp] theorem intsOf_comp {α : Type} (f : α → Int) (l : List α) : intsOf (l.map (D.int ∘ f)) = some (l.map f) := by
  rw [← List.map_map]; exact intsOf_ints _
@[simp] theorem blsOf_fun {α : Type} (f : α → Bool) (l : List α) : blsOf (l.map fun x => D.bl (f x)) = some (l.map f) := blsOf_comp f l
@[simp] theorem intsOf_fun {α : Type} (f : α → Int) (l : List α) : intsOf (l.map fun x => D.int (f x)) = some (l.map f) := intsOf_comp f l
theorem atI_nat {α : Type} (xs : List α) (k : Nat) : atI xs (k : Int) = xs[k]? := by
  unfold atI ixN
  rw [if_pos (by omega)]
  by_cases h : k < xs.length
  · rw [if_pos (by omega)]; simp
  · rw [if_neg (by omega)]; simp; omega
theorem atI_of {α : Type} {xs : List α} {i : Int} {k : Nat} (h : i = (k : Int)) : atI xs i = xs[k]? := by rw [h, atI_nat]
@[simp] theorem atI_0 {α : Type} (xs : List α) : atI xs 0 = xs[0]? := atI_nat xs 0
@[simp] theorem atI_1 {α : Type} (xs : List α) : atI xs 1 = xs[1]? := atI_nat xs 1
@[simp] theorem atI_2 {α : Type} (xs : List α) : atI xs 2 = xs[2]? := atI_nat xs 2
@[simp] theorem atI_3 {α : Type} (xs : List α) : atI xs 3 = xs[3]? := atI_nat xs 3
@[simp] theorem atI_4 {α : Type} (xs : List α) : atI xs 4 = xs[4]? := atI_nat xs 4
@[simp] theorem atI_5 {α : Type} (xs : List α) : atI xs 5 = xs[5]? := atI_nat xs 5
@[simp] theorem atI_6 {α : Type} (xs : List α) : atI xs 6 = xs[6]? := atI_nat xs 6
@[simp] theorem atI_7 {α : Type} (xs : List α) : atI xs 7 = xs[7]? := atI_nat xs 7
@[simp] theorem atI_8 {α : Type} (xs : List α) : atI xs 8 = xs[8]? := atI_nat xs 8
theorem atI_last {α : Type} (xs : List α) (h : xs ≠ []) : atI xs (-1) = some (xs.getLast h) := by
  have hl : 0 < xs.length := List.length_pos_iff.mpr h
  unfold atI ixN
  rw [if_neg (by omega), if_pos (by omega)]
  simp only [Option.bind_some]
  rw [List.getLast_eq_getElem, List.getElem?_eq_getElem (by omega)]
  congr 1
  congr 1
  omega
/-! shapes and equality -/
theorem shp_int (i n) : (D.int i).shp n = true := by cases n <;> rfl
theorem shpA_ints : ∀ (l : List Int) (n : Nat), D.shpA (zs l) n = true
  | [], _ => rfl
  | a :: l, n => by show ((D.int a).shp n && D.shpA (zs l) n) = true; rw [shp_int, shpA_ints l n]; rfl
@[simp] theorem shp_i (i : Int) : shp (.int i) = true := rfl
@[simp] theorem shp_n : shp .non = true := rfl
@[simp] theorem shp_b (b : Bool) : shp (.bl b) = true := rfl
@[simp] theorem shp_ti (l : List Int) : shp (.tup (zs l)) = true := shpA_ints l 63
@[simp] theorem shp_li (l : List Int) : shp (.lst (zs l)) = true := shpA_ints l 63
theorem shpA_tups : ∀ (l : List (List Int)) (n : Nat), D.shpA (l.map fun a => .tup (zs a)) (n + 1) = true
  | [], _ => rfl
  | a :: l, n => by show (D.shpA (zs a) n && D.shpA (l.map fun a => .tup (zs a)) (n + 1)) = true; rw [shpA_ints, shpA_tups l n]; rfl
@[simp] theorem shp_tti (l : List (List Int)) : shp (.tup (l.map fun a => .tup (zs a))) = true := shpA_tups l 62
@[simp] theorem shp_lti (l : List (List Int)) : shp (.lst (l.map fun a => .tup (zs a))) = true := shpA_tups l 62
theorem eqvA_ints : ∀ a b : List Int, D.eqvA (zs a) (zs b) = decide (a = b)
  | [], [] => rfl
  | [], _ :: _ => rfl
  | _ :: _, [] => rfl
  | x :: a, y :: b => by
    show (D.eqv (.int x) (.int y) && D.eqvA (zs a) (zs b)) = _
    rw [eqvA_ints a b]
    show ((x == y) && _) = _
    by_cases h : x = y <;> by_cases h2 : a = b <;> simp [h, h2]
@[simp] theorem eqv_i (a b : Int) : D.eqv (.int a) (.int b) = decide (a = b) := by
  show (a == b) = _
  by_cases h : a = b <;> simp [h]
@[simp] theorem eqv_bb (a b : Bool) : D.eqv (.bl a) (.bl b) = decide (a = b) := by
  show (a == b) = _
  cases a <;> cases b <;> rfl
@[simp] theorem eqv_ti (a b : List Int) : D.eqv (.tup (zs a)) (.tup (zs b)) = decide (a = b) := eqvA_ints a b
@[simp] theorem eqv_li (a b : List Int) : D.eqv (.lst (zs a)) (.lst (zs b)) = decide (a = b) := eqvA_ints a b
theorem eqvA_tups : ∀ a b : List (List Int), D.eqvA (a.map fun a => .tup (zs a)) (b.map fun a => .tup (zs a)) = decide (a = b)
  | [], [] => rfl
  | [], _ :: _ => rfl
  | _ :: _, [] => rfl
  | x :: a, y :: b => by
    show (D.eqv (.tup (zs x)) (.tup (zs y)) && D.eqvA (a.map fun a => .tup (zs a)) (b.map fun a => .tup (zs a))) = _
    rw [eqvA_tups a b, eqv_ti]
    by_cases h : x = y <;> by_cases h2 : a = b <;> simp [h, h2]
@[simp] theorem eqv_tti (a b : List (List Int)) : D.eqv (.tup (a.map fun a => .tup (zs a))) (.tup (b.map fun a => .tup (zs a))) = decide (a = b) := eqvA_tups a b
theorem inD_tups (x : List Int) (l : List (List Int)) : inD (.tup (zs x)) (l.map fun a => .tup (zs a)) = decide (x ∈ l) := by
  unfold inD
  rw [List.any_map]
  induction l with
  | nil => rfl
  | cons a l ih =>
    rw [List.any_cons, ih]
    show (D.eqv (.tup (zs a)) (.tup (zs x)) || _) = _
    rw [eqv_ti]
    by_cases h : a = x <;> by_cases h2 : x ∈ l <;> simp [h, h2, Ne.symm, eq_comm]
theorem inD_ints (x : Int) (l : List Int) : inD (.int x) (zs l) = decide (x ∈ l) := by
  unfold inD
  rw [List.any_map]
  induction l with
  | nil => rfl
  | cons a l ih =>
    rw [List.any_cons, ih]
    show (D.eqv (.int a) (.int x) || _) = _
    rw [eqv_i]
    by_cases h : a = x <;> by_cases h2 : x ∈ l <;> simp [h, h2, Ne.symm, eq_comm]
@[simp] theorem fEq_ii (a b : Int) : fEq (.int a) (.int b) = some (.bl (decide (a = b))) := by unfold fEq; simp
@[simp] theorem fNe_ii (a b : Int) : fNe (.int a) (.int b) = some (.bl (!decide (a = b))) := by unfold fNe; simp
@[simp] theorem fEq_tt (a b : List Int) : fEq (.tup (zs a)) (.tup (zs b)) = some (.bl (decide (a = b))) := by unfold fEq; simp only [shp_ti, eqv_ti]; rfl
@[simp] theorem fNe_tt (a b : List Int) : fNe (.tup (zs a)) (.tup (zs b)) = some (.bl (!decide (a = b))) := by unfold fNe; simp only [shp_ti, eqv_ti]; rfl
@[simp] theorem fNe_ttt (a b : List (List Int)) : fNe (.tup (a.map fun a => .tup (zs a))) (.tup (b.map fun a => .tup (zs a))) = some (.bl (!decide (a = b))) := by unfold fNe; simp only [shp_tti, eqv_tti]; rfl
/-! reckoning bounds -/
theorem okMul_of {i j : Int} {a b : Nat} (ha : i.natAbs < 2 ^ a) (hb : j.natAbs < 2 ^ b) (h : a + b ≤ 134217728) : okMul i j = true := by
  unfold okMul
  have x := PyProof.Rows.intBits_le ha
  have y := PyProof.Rows.intBits_le hb
  exact decide_eq_true (by omega)
theorem okMul_small {i j : Int} (ha : i.natAbs < 2 ^ 128) (hb : j.natAbs < 2 ^ 128) : okMul i j = true := okMul_of ha hb (by decide)
/-- by bounds that omega sees -/
theorem okMul_b {i j : Int} (a1 : -1000000000000000000000000000000 ≤ i) (a2 : i ≤ 1000000000000000000000000000000) (b1 : -1000000000000000000000000000000 ≤ j) (b2 : j ≤ 1000000000000000000000000000000) : okMul i j = true :=
  okMul_of (a := 100) (b := 100) (by omega) (by omega) (by decide)
theorem okDiv_small {i j : Int} (h0 : j ≠ 0) (h : j.natAbs < 1073741824) : okDiv i j = true := by
  unfold okDiv
  rw [PyProof.noPylong_small h]
  simp [h0]
theorem okDiv_wide {i j : Int} (h0 : j ≠ 0) (h : j.natAbs < 2 ^ 9000) : okDiv i j = true := by
  unfold okDiv
  rw [PyProof.noPylong_of_log2 (PySem.Flt.log2_lt_of (by decide) h)]
  simp [h0]
/-! ranges -/
theorem rngD_map (lo : Int) (n : Nat) : rngD lo n = zs ((List.range n).map fun (k : Nat) => lo + (k : Int)) := by unfold rngD zs; rw [List.map_map]; rfl
theorem rng1_enc (n : Nat) (h : n ≤ 1000000000000000000) : rng1Of [.int (n : Int)] = some ((List.range n).map fun (k : Nat) => D.int (k : Int)) := by
  have h2 : -4611686018427387904 ≤ ((n : Nat) : Int) ∧ ((n : Nat) : Int) < 4611686018427387904 := by omega
  simp only [rng1Of]
  rw [if_pos h2, Int.toNat_natCast]
  unfold rngD
  congr 1
  apply List.map_congr_left
  intro k _
  rw [Int.zero_add]
theorem rng1_int {j : Int} (n : Nat) (e : j = (n : Int)) (h : n ≤ 1000000000000000000) : rng1Of [.int j] = some ((List.range n).map fun (k : Nat) => D.int (k : Int)) := by rw [e, rng1_enc n h]
theorem rng2_int {i j : Int} (n : Nat) (hi : -1000000000000000000 ≤ i ∧ i ≤ 1000000000000000000) (hj : -1000000000000000000 ≤ j ∧ j ≤ 1000000000000000000) (e : (j - i).toNat = n) : rng2Of [.int i, .int j] = some ((List.range n).map fun (k : Nat) => D.int (i + (k : Int))) := by
  have h2 : -4611686018427387904 ≤ i ∧ i < 4611686018427387904 ∧ -4611686018427387904 ≤ j ∧ j < 4611686018427387904 := by omega
  simp only [rng2Of]
  rw [if_pos h2, e]; rfl
theorem mRng1_ok {m : En → Res D} {ρ : En} {j : Int} (n : Nat) (e : m ρ = .ok (.int j)) (h : j = (n : Int)) (h2 : n ≤ 1000000000000000000) : mRng1 (mCons m mNil) ρ = .ok ((List.range n).map fun (k : Nat) => D.int (k : Int)) := by
  rw [mRng1_d, mCons_d, e, bind_ok, mNil_d, bind_ok, bind_ok, rng1_int n h h2]; rfl
theorem mRng2_ok {m m' : En → Res D} {ρ : En} {i j : Int} (n : Nat) (e : m ρ = .ok (.int i)) (e' : m' ρ = .ok (.int j)) (hi : -1000000000000000000 ≤ i ∧ i ≤ 1000000000000000000) (hj : -1000000000000000000 ≤ j ∧ j ≤ 1000000000000000000) (h : (j - i).toNat = n) :
    mRng2 (mCons m (mCons m' mNil)) ρ = .ok ((List.range n).map fun (k : Nat) => D.int (i + (k : Int))) := by
  rw [mRng2_d, mCons_d, e, bind_ok, mCons_d, e', bind_ok, mNil_d, bind_ok, bind_ok, bind_ok, rng2_int n hi hj h]; rfl
theorem range_split {n x : Nat} {pre post : List Nat} (e : List.range n = pre ++ x :: post) : x = pre.length ∧ x < n := by
  have h : (List.range n)[pre.length]? = some x := by rw [e]; simp
  have h2 : pre.length < n := by
    have := congrArg List.length e
    simp at this
    omega
  rw [List.getElem?_range h2] at h
  have : pre.length = x := Option.some.inj h
  omega
/-! comprehensions -/
theorem compL_map {α : Type} {bt : D → En → Option En} {mt : En → Res Bool} {me : En → Res D} {ρ : En} {enc : α → D} {f : α → D} : ∀ (xs : List α) (acc : List D), (∀ x ∈ xs, ∃ ρ1, bt (enc x) ρ = some ρ1 ∧ mt ρ1 = .ok true ∧ me ρ1 = .ok (f x)) →
    acc.length + xs.length ≤ 16777215 → compL bt mt me ρ (xs.map enc) acc = .ok (.l (acc ++ xs.map f))
  | [], acc, _, _ => by simp [compL]
  | x :: xs, acc, h, hl => by
    obtain ⟨ρ1, h1, h2, h3⟩ := h x (by simp)
    rw [List.length_cons] at hl
    simp only [List.map_cons, compL, h1, h2, h3]
    rw [if_pos (by omega), compL_map xs (acc ++ [f x]) (fun y hy => h y (by simp [hy])) (by simp; omega)]
    simp
theorem compL_filter {α : Type} {bt : D → En → Option En} {mt : En → Res Bool} {me : En → Res D} {ρ : En} {enc : α → D} {f : α → D} {t : α → Bool} : ∀ (xs : List α) (acc : List D), (∀ x ∈ xs, ∃ ρ1, bt (enc x) ρ = some ρ1 ∧ mt ρ1 = .ok (t x) ∧ (t x = true → me ρ1 = .ok (f x))) →
    acc.length + xs.length ≤ 16777215 → compL bt mt me ρ (xs.map enc) acc = .ok (.l (acc ++ (xs.filter t).map f))
  | [], acc, _, _ => by simp [compL]
  | x :: xs, acc, h, hl => by
    obtain ⟨ρ1, h1, h2, h3⟩ := h x (by simp)
    rw [List.length_cons] at hl
    cases q : t x with
    | false =>
      rw [q] at h2
      simp only [List.map_cons, compL, h1, h2, List.filter_cons, q]
      exact compL_filter xs acc (fun y hy => h y (by simp [hy])) (by omega)
    | true =>
      rw [q] at h2
      simp only [List.map_cons, compL, h1, h2, h3 q, List.filter_cons, q, if_true]
      rw [if_pos (by omega), compL_filter xs (acc ++ [f x]) (fun y hy => h y (by simp [hy])) (by simp; omega)]
      simp
/-! what a run gives -/
def wpr {α : Type} (r : Res α) (P : α → Prop) : Prop := ∃ a, r = .ok a ∧ P a
def wps (r : Option Fl) (P : Fl → Prop) : Prop := ∃ f, r = some f ∧ P f
def PF (P : D → Prop) : Fl → Prop
  | .rt d => P d
  | .nx _ => P .non
  | _ => False
def PL (I : En → Prop) (P : Fl → Prop) : Fl → Prop
  | .nx ρ => I ρ
  | .ct ρ => I ρ
  | .bk ρ => P (.nx ρ)
  | f => P f
def PN (b : En → Option Fl) (P : Fl → Prop) : Fl → Prop
  | .nx ρ => wps (b ρ) P
  | f => P f
theorem wpr_ok {α : Type} {a : α} {P : α → Prop} (h : P a) : wpr (.ok a) P := ⟨a, rfl, h⟩
theorem wps_some {f : Fl} {P : Fl → Prop} (h : P f) : wps (some f) P := ⟨f, rfl, h⟩
theorem wps_n {r : Option Fl} {ρ : En} {P : Fl → Prop} (e : r = some (.nx ρ)) (h : P (.nx ρ)) : wps r P := ⟨_, e, h⟩
theorem wps_r {r : Option Fl} {d : D} {P : Fl → Prop} (e : r = some (.rt d)) (h : P (.rt d)) : wps r P := ⟨_, e, h⟩
theorem wps_of {r r' : Option Fl} {P : Fl → Prop} (e : r = r') (h : wps r' P) : wps r P := by rw [e]; exact h
theorem wpr_of {α : Type} {r r' : Res α} {P : α → Prop} (e : r = r') (h : wpr r' P) : wpr r P := by rw [e]; exact h
theorem wpr_imp {α : Type} {r : Res α} {P Q : α → Prop} (h : wpr r P) (i : ∀ a, P a → Q a) : wpr r Q := by
  obtain ⟨a, e, p⟩ := h
  exact ⟨a, e, i a p⟩
theorem wps_imp {r : Option Fl} {P Q : Fl → Prop} (h : wps r P) (i : ∀ a, P a → Q a) : wps r Q := by
  obtain ⟨a, e, p⟩ := h
  exact ⟨a, e, i a p⟩
theorem wpr_F {n : Nat} {ms : En → Option Fl} {ds : List D} {P : D → Prop} (h : wps (ms (startE n ds)) (PF P)) : wpr (runF n ms ds) P := by
  obtain ⟨f, e, p⟩ := h
  unfold runF
  rw [e]
  cases f with
  | rt d => exact ⟨d, rfl, p⟩
  | nx ρ => exact ⟨.non, rfl, p⟩
  | _ => exact p.elim
theorem wps_seq {a b : En → Option Fl} {ρ : En} {P : Fl → Prop} (h : wps (a ρ) (PN b P)) : wps (sSeq a b ρ) P := by
  obtain ⟨f, e, p⟩ := h
  unfold sSeq
  rw [e]
  cases f with
  | nx ρ1 => exact p
  | _ => exact ⟨_, rfl, p⟩
/-- straight on: the first part is reckoned -/
theorem wps_nx {a b : En → Option Fl} {ρ ρ1 : En} {P : Fl → Prop} (e : a ρ = some (.nx ρ1)) (h : wps (b ρ1) P) : wps (sSeq a b ρ) P := wps_seq ⟨_, e, h⟩
theorem wps_if {c : En → Res Bool} {a b : En → Option Fl} {ρ : En} {P : Fl → Prop} {k : Bool} (e : c ρ = .ok k) (h1 : k = true → wps (a ρ) P) (h2 : k = false → wps (b ρ) P) : wps (sIf c a b ρ) P := by
  unfold sIf
  rw [e]
  cases k with
  | true => exact h1 rfl
  | false => exact h2 rfl
theorem forL_wps {α : Type} {bt : D → En → Option En} {body : En → Option Fl} {enc : α → D} {P : Fl → Prop} {all : List α} (I : List α → En → Prop) (hend : ∀ ρ, I all ρ → P (.nx ρ)) :
    ∀ (xs pre : List α) (ρ : En), all = pre ++ xs → I pre ρ →
    (∀ pre x post ρ, all = pre ++ x :: post → I pre ρ → ∃ ρ1, bt (enc x) ρ = some ρ1 ∧ wps (body ρ1) (PL (I (pre ++ [x])) P)) → wps (forL bt body (xs.map enc) ρ) P
  | [], pre, ρ, ha, h, _ => ⟨_, rfl, hend ρ (by rw [ha, List.append_nil]; exact h)⟩
  | x :: xs, pre, ρ, ha, h, t => by
    obtain ⟨ρ1, h1, f, h2, h3⟩ := t pre x xs ρ ha h
    simp only [List.map_cons, forL, h1, h2]
    cases f with
    | nx ρ2 => exact forL_wps I hend xs (pre ++ [x]) ρ2 (by rw [ha]; simp) h3 t
    | ct ρ2 => exact forL_wps I hend xs (pre ++ [x]) ρ2 (by rw [ha]; simp) h3 t
    | bk ρ2 => exact ⟨_, rfl, h3⟩
    | rt d => exact ⟨_, rfl, h3⟩
    | ex e ρ2 => exact ⟨_, rfl, h3⟩
theorem wps_for {α : Type} {bt : D → En → Option En} {mi : En → Res (List D)} {body : En → Option Fl} {ρ : En} {P : Fl → Prop} (xs : List α) (enc : α → D) (hmi : mi ρ = .ok (xs.map enc)) (I : List α → En → Prop) (h0 : I [] ρ)
    (step : ∀ pre x post ρ, xs = pre ++ x :: post → I pre ρ → ∃ ρ1, bt (enc x) ρ = some ρ1 ∧ wps (body ρ1) (PL (I (pre ++ [x])) P)) (hend : ∀ ρ, I xs ρ → P (.nx ρ)) : wps (sFor bt mi body ρ) P := by
  unfold sFor
  rw [hmi]
  exact forL_wps I hend xs [] ρ (by simp) h0 step
theorem wps_while {c : En → Res Bool} {body : En → Option Fl} {ρ : En} {P : Fl → Prop} (I : En → Prop) (μ : En → Nat) (h0 : I ρ)
    (step : ∀ ρ, I ρ → ∃ b, c ρ = .ok b ∧ (b = true → wps (body ρ) (PL (fun ρ2 => I ρ2 ∧ μ ρ2 < μ ρ) P)) ∧ (b = false → P (.nx ρ))) : wps (sWh c body ρ) P := by
  have key : ∀ (n : Nat) (ρ : En), μ ρ < n → I ρ → ∃ f, whN c body n ρ = some f ∧ P f := by
    intro n
    induction n with
    | zero => intro ρ h; omega
    | succ n ih =>
      intro ρ hn hI
      obtain ⟨b, hb, h1, h2⟩ := step ρ hI
      simp only [whN, hb, runE_ok]
      cases b with
      | false => exact ⟨_, rfl, h2 rfl⟩
      | true =>
        obtain ⟨f, e, p⟩ := h1 rfl
        simp only [if_true, e]
        cases f with
        | nx ρ2 => exact ih ρ2 (by have := p.2; omega) p.1
        | ct ρ2 => exact ih ρ2 (by have := p.2; omega) p.1
        | bk ρ2 => exact ⟨_, rfl, p⟩
        | rt d => exact ⟨_, rfl, p⟩
        | ex e ρ2 => exact ⟨_, rfl, p⟩
  obtain ⟨f, e, p⟩ := key (μ ρ + 1) ρ (by omega) h0
  exact ⟨f, sWh_eq e, p⟩
end FL
namespace Cm
open PySem L2 FL
/-- the body of dot; slots: 0 one 1 two 2 k -/
noncomputable def m_dot : En → Option Fl := (sRet (mOpA fSum (mCons (mFz (mLc (bName 2) [2] (mRng1 (mCons (mOpA fLen (mCons (mVar 0) mNil)) mNil)) mYes (mOp2 fMul (mOp2 fIx (mVar 0) (mVar 2)) (mOp2 fIx (mVar 1) (mVar 2))))) mNil)))
noncomputable def d_dot : List D → Res D := runF 3 m_dot
/-- the body of plain; slots: 0 arrow 1 common 2 number -/
noncomputable def m_plain : En → Option Fl := (sSeq (sSet 1 (mI 0)) (sSeq (sFor (bName 2) (mSeq (mVar 0)) (sSet 1 (mOpA fGcd (mCons (mVar 1) (mCons (mVar 2) mNil))))) (sRet (mOpA fTuple (mCons (mFz (mLc (bName 2) [2] (mSeq (mVar 0)) mYes (mOp2 fFdiv (mVar 2) (mVar 1)))) mNil)))))
noncomputable def d_plain : List D → Res D := runF 3 m_plain
/-- the body of opposite; slots: 0 arrow 1 number -/
noncomputable def m_opposite : En → Option Fl := (sRet (mOpA fTuple (mCons (mFz (mLc (bName 1) [1] (mSeq (mVar 0)) mYes (mOp1 fNeg (mVar 1)))) mNil)))
noncomputable def d_opposite : List D → Res D := runF 2 m_opposite
/-- the body of quarter; slots: 0 arrow -/
noncomputable def m_quarter : En → Option Fl := (sRet (mTup (mCons (mOp1 fNeg (mOp2 fIx (mVar 0) (mI 1))) (mCons (mOp2 fIx (mVar 0) (mI 0)) mNil))))
noncomputable def d_quarter : List D → Res D := runF 1 m_quarter
/-- the body of cross; slots: 0 one 1 two -/
noncomputable def m_cross : En → Option Fl := (sRet (mTup (mCons (mOp2 fSub (mOp2 fMul (mOp2 fIx (mVar 0) (mI 1)) (mOp2 fIx (mVar 1) (mI 2))) (mOp2 fMul (mOp2 fIx (mVar 0) (mI 2)) (mOp2 fIx (mVar 1) (mI 1)))) (mCons (mOp2 fSub (mOp2 fMul (mOp2 fIx (mVar 0) (mI 2)) (mOp2 fIx (mVar 1) (mI 0))) (mOp2 fMul (mOp2 fIx (mVar 0) (mI 0)) (mOp2 fIx (mVar 1) (mI 2)))) (mCons (mOp2 fSub (mOp2 fMul (mOp2 fIx (mVar 0) (mI 0)) (mOp2 fIx (mVar 1) (mI 1))) (mOp2 fMul (mOp2 fIx (mVar 0) (mI 1)) (mOp2 fIx (mVar 1) (mI 0)))) mNil)))))
noncomputable def d_cross : List D → Res D := runF 2 m_cross
/-- the body of wedge; slots: 0 one 1 two -/
noncomputable def m_wedge : En → Option Fl := (sRet (mOp2 fSub (mOp2 fMul (mOp2 fIx (mVar 0) (mI 0)) (mOp2 fIx (mVar 1) (mI 1))) (mOp2 fMul (mOp2 fIx (mVar 0) (mI 1)) (mOp2 fIx (mVar 1) (mI 0)))))
noncomputable def d_wedge : List D → Res D := runF 2 m_wedge
/-- the body of half_of; slots: 0 arrow -/
noncomputable def m_half_of : En → Option Fl := (sSeq (sIf (mtOr (mTst (mOp2 fGt (mOp2 fIx (mVar 0) (mI 1)) (mI 0))) (mtAnd (mTst (mOp2 fEq (mOp2 fIx (mVar 0) (mI 1)) (mI 0))) (mTst (mOp2 fGt (mOp2 fIx (mVar 0) (mI 0)) (mI 0))))) (sRet (mI 0)) sNop) (sRet (mI 1)))
noncomputable def d_half_of : List D → Res D := runF 1 m_half_of
/-- the body of _law_whole; slots: 0 value -/
noncomputable def m_law_whole : En → Option Fl := (sRet (mAnd (mIsiTy "int" (mVar 0)) (mNot (mIsiTy "bool" (mVar 0)))))
noncomputable def d_law_whole : List D → Res D := runF 1 m_law_whole
/-- the body of _law_cell; slots: 0 script 1 k 2 seed 3 cell -/
noncomputable def m_law_cell : En → Option Fl := (sSeq (sIf (mTst (mOp2 fLt (mVar 1) (mOpA fLen (mCons (mVar 0) mNil)))) (sRet (mOp2 fIx (mVar 0) (mVar 1))) sNop) (sSeq (sSet 2 (mI 17)) (sSeq (sFor (bName 3) (mSeq (mVar 0)) (sSet 2 (mOp2 fMod (mOpA fInt (mCons (mOp2 fAdd (mOp2 fMul (mVar 2) (mI 31)) (mOp2 fMod (mOpA fInt (mCons (mVar 3) mNil)) (mI 1000003))) mNil)) (mI 1000003)))) (sRet (mOp2 fMod (mOpA fInt (mCons (mOp2 fMul (mOp2 fMul (mOp2 fAdd (mVar 2) (mI 7)) (mOp2 fAdd (mVar 1) (mI 3))) (mI 69621)) mNil)) (mI 2147483647))))))
noncomputable def d_law_cell : List D → Res D := runF 4 m_law_cell
/-- the body of _law_digits; slots: 0 cell 1 sizes 2 row 3 rest 4 size 5 seed 6 k 7 twice -/
noncomputable def m_law_digits : En → Option Fl := (sSeq (sOwn 2 (mLst mNil)) (sSeq (sSet 3 (mOpA fInt (mCons (mVar 0) mNil))) (sSeq (sIf (mTst (mOp2 fGe (mVar 3) (mOp2 fPow (mI 10) (mI 18)))) (sSeq (sSet 3 (mOp2 fSub (mVar 3) (mOp2 fPow (mI 10) (mI 18)))) (sSeq (sFor (bName 4) (mSeq (mVar 1)) (sSeq (sApp 2 (mCons (mOp2 fMod (mOpA fInt (mCons (mVar 3) mNil)) (mVar 4)) mNil)) (sSet 3 (mOp2 fFdiv (mOpA fInt (mCons (mVar 3) mNil)) (mVar 4))))) (sFrz 2 (sRet (mVar 2))))) sNop) (sSeq (sSet 5 (mOp2 fMod (mOpA fInt (mCons (mVar 3) mNil)) (mI 2147483629))) (sSeq (sFor (bName 6) (mRng1 (mCons (mOpA fLen (mCons (mVar 1) mNil)) mNil)) (sSeq (sSet 5 (mOp2 fMod (mOpA fInt (mCons (mOp2 fAdd (mOp2 fAdd (mOp2 fMul (mVar 5) (mI 48271)) (mOp2 fMul (mI 974711) (mVar 6))) (mI 12345)) mNil)) (mI 2147483647))) (sSeq (sSet 7 (mOp2 fMod (mOpA fInt (mCons (mOp2 fMul (mVar 5) (mOp2 fAdd (mOp2 fFdiv (mVar 5) (mI 65537)) (mI 3))) mNil)) (mI 2147483629))) (sApp 2 (mCons (mOp2 fMod (mOp2 fFdiv (mVar 7) (mI 19)) (mOp2 fIx (mVar 1) (mVar 6))) mNil))))) (sFrz 2 (sRet (mVar 2))))))))
noncomputable def d_law_digits : List D → Res D := runF 8 m_law_digits
/-- the body of _law_gcd; slots: 0 one 1 other 2 rest -/
noncomputable def m_law_gcd : En → Option Fl := (sSeq (sSet 0 (mOpA fAbs (mCons (mVar 0) mNil))) (sSeq (sSet 1 (mOpA fAbs (mCons (mVar 1) mNil))) (sSeq (sWh (mTst (mOp2 fNe (mVar 1) (mI 0))) (sSeq (sSet 2 (mOp2 fMod (mOpA fInt (mCons (mVar 0) mNil)) (mVar 1))) (sSeq (sSet 0 (mVar 1)) (sSet 1 (mVar 2))))) (sRet (mVar 0)))))
noncomputable def d_law_gcd : List D → Res D := runF 3 m_law_gcd
/-- the body of _law_dot; slots: 0 one 1 other 2 k -/
noncomputable def m_law_dot : En → Option Fl := (sRet (mOpA fSum (mCons (mFz (mLc (bName 2) [2] (mRng1 (mCons (mOpA fLen (mCons (mVar 0) mNil)) mNil)) mYes (mOp2 fMul (mOp2 fIx (mVar 0) (mVar 2)) (mOp2 fIx (mVar 1) (mVar 2))))) mNil)))
noncomputable def d_law_dot : List D → Res D := runF 3 m_law_dot
/-- the body of _law_flip; slots: 0 arrow 1 number -/
noncomputable def m_law_flip : En → Option Fl := (sRet (mOpA fTuple (mCons (mFz (mLc (bName 1) [1] (mSeq (mVar 0)) mYes (mOp1 fNeg (mVar 1)))) mNil)))
noncomputable def d_law_flip : List D → Res D := runF 2 m_law_flip
/-- the body of _law_half; slots: 0 arrow -/
noncomputable def m_law_half : En → Option Fl := (sRet (mOpA fInt (mCons (mNot (mOr (mOp2 fGt (mOp2 fIx (mVar 0) (mI 1)) (mI 0)) (mAnd (mOp2 fEq (mOp2 fIx (mVar 0) (mI 1)) (mI 0)) (mOp2 fGt (mOp2 fIx (mVar 0) (mI 0)) (mI 0))))) mNil)))
noncomputable def d_law_half : List D → Res D := runF 1 m_law_half
/-- the body of turns_before; slots: 0 one 1 two -/
noncomputable def m_turns_before : En → Option Fl := (sSeq (sIf (mTst (mOp2 fNe (mCall 1 d_half_of (mCons (mVar 0) mNil)) (mCall 1 d_half_of (mCons (mVar 1) mNil)))) (sRet (mOp2 fLt (mCall 1 d_half_of (mCons (mVar 0) mNil)) (mCall 1 d_half_of (mCons (mVar 1) mNil)))) sNop) (sRet (mOp2 fGt (mCall 2 d_wedge (mCons (mVar 0) (mCons (mVar 1) mNil))) (mI 0))))
noncomputable def d_turns_before : List D → Res D := runF 2 m_turns_before
/-- the body of _law_short; slots: 0 arrow 1 common 2 number -/
noncomputable def m_law_short : En → Option Fl := (sSeq (sSet 1 (mI 0)) (sSeq (sFor (bName 2) (mSeq (mVar 0)) (sSet 1 (mCall 2 d_law_gcd (mCons (mVar 1) (mCons (mVar 2) mNil))))) (sRet (mOpA fTuple (mCons (mFz (mLc (bName 2) [2] (mSeq (mVar 0)) mYes (mOp2 fFdiv (mVar 2) (mVar 1)))) mNil)))))
noncomputable def d_law_short : List D → Res D := runF 3 m_law_short
/-- the body of _law_before; slots: 0 one 1 other -/
noncomputable def m_law_before : En → Option Fl := (sSeq (sIf (mTst (mOp2 fNe (mCall 1 d_law_half (mCons (mVar 0) mNil)) (mCall 1 d_law_half (mCons (mVar 1) mNil)))) (sRet (mOp2 fLt (mCall 1 d_law_half (mCons (mVar 0) mNil)) (mCall 1 d_law_half (mCons (mVar 1) mNil)))) sNop) (sRet (mOp2 fGt (mOp2 fSub (mOp2 fMul (mOp2 fIx (mVar 0) (mI 0)) (mOp2 fIx (mVar 1) (mI 1))) (mOp2 fMul (mOp2 fIx (mVar 0) (mI 1)) (mOp2 fIx (mVar 1) (mI 0)))) (mI 0))))
noncomputable def d_law_before : List D → Res D := runF 2 m_law_before
/-- the body of _law_arrow; slots: 0 cell 1 size 2 row 3 span 4 made 5 k 6 number -/
noncomputable def m_law_arrow : En → Option Fl := (sSeq (sSet 2 (mCall 2 d_law_digits (mCons (mVar 0) (mCons (mOp2 fAdd (mFz (mLst (mCons (mI 8) mNil))) (mOp2 fMul (mFz (mLst (mCons (mI 2000001) mNil))) (mI 3))) mNil)))) (sSeq (sSet 3 (mOp2 fIx (mFz (mLst (mCons (mI 9) (mCons (mI 9) (mCons (mI 9) (mCons (mI 2) (mCons (mI 1000) (mCons (mI 1000000) (mCons (mI 9) (mCons (mI 1) mNil)))))))))) (mOp2 fIx (mVar 2) (mI 0)))) (sSeq (sSet 4 (mOpA fTuple (mCons (mFz (mLc (bName 5) [5] (mRng1 (mCons (mVar 1) mNil)) mYes (mOp2 fSub (mOp2 fMod (mOpA fInt (mCons (mOp2 fIx (mVar 2) (mOp2 fAdd (mI 1) (mVar 5))) mNil)) (mOp2 fAdd (mOp2 fMul (mI 2) (mVar 3)) (mI 1))) (mVar 3)))) mNil))) (sSeq (sIf (mtNot (mTru (mOpA fAny (mCons (mFz (mLc (bName 6) [6] (mSeq (mVar 4)) mYes (mOp2 fNe (mVar 6) (mI 0)))) mNil)))) (sRet (mOp2 fAdd (mOp2 fMul (mTup (mCons (mI 0) mNil)) (mOp2 fSub (mVar 1) (mI 1))) (mTup (mCons (mI 1) mNil)))) sNop) (sRet (mVar 4))))))
noncomputable def d_law_arrow : List D → Res D := runF 7 m_law_arrow
/-- the body of _law_space; slots: 0 one 1 other 2 made 3 square 4 number -/
noncomputable def m_law_space : En → Option Fl := (sSeq (sSet 2 (mCall 2 d_cross (mCons (mVar 0) (mCons (mVar 1) mNil)))) (sSeq (sIf (mtOr (mtNot (mTru (mIsiTy "tuple" (mVar 2)))) (mtOr (mTst (mOp2 fNe (mOpA fLen (mCons (mVar 2) mNil)) (mI 3))) (mtNot (mTru (mOpA fAll (mCons (mFz (mLc (bName 4) [4] (mSeq (mVar 2)) mYes (mCall 1 d_law_whole (mCons (mVar 4) mNil)))) mNil)))))) (sRet (mBl false)) sNop) (sSeq (sIf (mtOr (mTst (mOp2 fNe (mCall 2 d_law_dot (mCons (mVar 2) (mCons (mVar 0) mNil))) (mI 0))) (mTst (mOp2 fNe (mCall 2 d_law_dot (mCons (mVar 2) (mCons (mVar 1) mNil))) (mI 0)))) (sRet (mBl false)) sNop) (sSeq (sIf (mTst (mOp2 fNe (mVar 2) (mTup (mCons (mOp2 fSub (mOp2 fMul (mOp2 fIx (mVar 0) (mI 1)) (mOp2 fIx (mVar 1) (mI 2))) (mOp2 fMul (mOp2 fIx (mVar 1) (mI 1)) (mOp2 fIx (mVar 0) (mI 2)))) (mCons (mOp2 fSub (mOp2 fMul (mOp2 fIx (mVar 0) (mI 2)) (mOp2 fIx (mVar 1) (mI 0))) (mOp2 fMul (mOp2 fIx (mVar 1) (mI 2)) (mOp2 fIx (mVar 0) (mI 0)))) (mCons (mOp2 fSub (mOp2 fMul (mOp2 fIx (mVar 0) (mI 0)) (mOp2 fIx (mVar 1) (mI 1))) (mOp2 fMul (mOp2 fIx (mVar 1) (mI 0)) (mOp2 fIx (mVar 0) (mI 1)))) mNil)))))) (sRet (mBl false)) sNop) (sSeq (sSet 3 (mOp2 fSub (mOp2 fMul (mCall 2 d_law_dot (mCons (mVar 0) (mCons (mVar 0) mNil))) (mCall 2 d_law_dot (mCons (mVar 1) (mCons (mVar 1) mNil)))) (mOp2 fMul (mCall 2 d_law_dot (mCons (mVar 0) (mCons (mVar 1) mNil))) (mCall 2 d_law_dot (mCons (mVar 0) (mCons (mVar 1) mNil)))))) (sRet (mOp2 fEq (mCall 2 d_law_dot (mCons (mVar 2) (mCons (mVar 2) mNil))) (mVar 3))))))))
noncomputable def d_law_space : List D → Res D := runF 5 m_law_space
/-- the body of place_in_turn; slots: 0 told 1 arrow 2 low 3 high 4 at -/
noncomputable def m_place_in_turn : En → Option Fl := (sSeq (sSet 2 (mI 0)) (sSeq (sSet 3 (mOpA fLen (mCons (mVar 0) mNil))) (sSeq (sWh (mTst (mOp2 fLt (mVar 2) (mVar 3))) (sSeq (sSet 4 (mOp2 fFdiv (mOp2 fAdd (mVar 2) (mVar 3)) (mI 2))) (sIf (mTru (mCall 2 d_turns_before (mCons (mOp2 fIx (mVar 0) (mVar 4)) (mCons (mVar 1) mNil)))) (sSet 2 (mOp2 fAdd (mVar 4) (mI 1))) (sSet 3 (mVar 4))))) (sRet (mVar 2)))))
noncomputable def d_place_in_turn : List D → Res D := runF 5 m_place_in_turn
/-- the body of _law_single; slots: 0 arrow 1 made 2 number -/
noncomputable def m_law_single : En → Option Fl := (sSeq (sSet 1 (mCall 1 d_plain (mCons (mVar 0) mNil))) (sSeq (sIf (mtOr (mtNot (mTru (mIsiTy "tuple" (mVar 1)))) (mtOr (mTst (mOp2 fNe (mVar 1) (mCall 1 d_law_short (mCons (mVar 0) mNil)))) (mTst (mOp2 fNe (mCall 1 d_plain (mCons (mVar 1) mNil)) (mVar 1))))) (sRet (mBl false)) sNop) (sSeq (sIf (mtOr (mTst (mOp2 fNe (mCall 1 d_opposite (mCons (mVar 0) mNil)) (mCall 1 d_law_flip (mCons (mVar 0) mNil)))) (mTst (mOp2 fNe (mCall 1 d_opposite (mCons (mCall 1 d_opposite (mCons (mVar 0) mNil)) mNil)) (mVar 0)))) (sRet (mBl false)) sNop) (sRet (mOp2 fEq (mCall 2 d_dot (mCons (mVar 0) (mCons (mVar 0) mNil))) (mOpA fSum (mCons (mFz (mLc (bName 2) [2] (mSeq (mVar 0)) mYes (mOp2 fMul (mVar 2) (mVar 2)))) mNil)))))))
noncomputable def d_law_single : List D → Res D := runF 3 m_law_single
/-- the body of by_turn; slots: 0 arrows 1 told 2 known 3 arrow 4 mine -/
noncomputable def m_by_turn : En → Option Fl := (sSeq (sOwn 1 (mLst mNil)) (sSeq (sOwn 2 mEmpT) (sSeq (sFor (bName 3) (mSeq (mVar 0)) (sSeq (sSet 4 (mCall 1 d_plain (mCons (mVar 3) mNil))) (sIf (mtBor 2 (mTst (mOp2 gNotIn (mVar 4) (mVar 2)))) (sSeq (sPut 2 (mVar 4) (mBl true)) (sIns 1 (mCons (mBor 1 (mCall 2 d_place_in_turn (mCons (mVar 1) (mCons (mVar 4) mNil)))) (mCons (mVar 4) mNil)))) sNop))) (sFrz 1 (sRet (mOpA fTuple (mCons (mVar 1) mNil)))))))
noncomputable def d_by_turn : List D → Res D := runF 5 m_by_turn
/-- the body of _law_plane; slots: 0 arrows 1 given 2 k 3 arrow 4 short 5 number -/
noncomputable def m_law_plane : En → Option Fl := (sSeq (sSet 1 (mCall 1 d_by_turn (mCons (mOpA fTuple (mCons (mVar 0) mNil)) mNil))) (sSeq (sIf (mtNot (mTru (mIsiTy "tuple" (mVar 1)))) (sRet (mBl false)) sNop) (sSeq (sFor (bName 2) (mRng2 (mCons (mI 1) (mCons (mOpA fLen (mCons (mVar 1) mNil)) mNil))) (sIf (mtNot (mTru (mCall 2 d_law_before (mCons (mOp2 fIx (mVar 1) (mOp2 fSub (mVar 2) (mI 1))) (mCons (mOp2 fIx (mVar 1) (mVar 2)) mNil))))) (sRet (mBl false)) sNop)) (sSeq (sSet 4 (mFz (mLc (bName 3) [3] (mSeq (mVar 0)) mYes (mCall 1 d_law_short (mCons (mVar 3) mNil))))) (sSeq (sFor (bName 3) (mSeq (mVar 1)) (sIf (mtOr (mtNot (mTru (mIsiTy "tuple" (mVar 3)))) (mtOr (mTst (mOp2 gNotIn (mVar 3) (mVar 4))) (mtNot (mTru (mOpA fAll (mCons (mFz (mLc (bName 5) [5] (mSeq (mVar 3)) mYes (mCall 1 d_law_whole (mCons (mVar 5) mNil)))) mNil)))))) (sRet (mBl false)) sNop)) (sRet (mNot (mOpA fAny (mCons (mFz (mLc (bName 3) [3] (mSeq (mVar 4)) mYes (mOp2 gNotIn (mVar 3) (mVar 1)))) mNil)))))))))
noncomputable def d_law_plane : List D → Res D := runF 6 m_law_plane
/-- the body of law; slots: 0 script 1 shape 2 arrows 3 k 4 arrow 5 made 6 one 7 other 8 line 9 number -/
noncomputable def m_law : En → Option Fl := (sSeq (sSet 1 (mCall 2 d_law_digits (mCons (mCall 2 d_law_cell (mCons (mVar 0) (mCons (mI 0) mNil))) (mCons (mFz (mLst (mCons (mI 12) (mCons (mI 4) (mCons (mI 5) mNil))))) mNil)))) (sSeq (sOwn 2 (mLst mNil)) (sSeq (sFor (bName 3) (mRng1 (mCons (mOp2 fAdd (mI 1) (mOp2 fIx (mVar 1) (mI 0))) mNil)) (sApp 2 (mCons (mCall 2 d_law_arrow (mCons (mCall 2 d_law_cell (mCons (mVar 0) (mCons (mOp2 fAdd (mI 1) (mVar 3)) mNil))) (mCons (mI 2) mNil))) mNil))) (sSeq (sIf (mTst (mOp2 fGt (mOp2 fIx (mVar 1) (mI 1)) (mI 0))) (sFrz 2 (sSet 2 (mOp2 fAdd (mVar 2) (mFz (mLst (mCons (mCall 1 d_law_flip (mCons (mOp2 fIx (mVar 2) (mI 0)) mNil)) (mCons (mTup (mCons (mI 0) (mCons (mOp1 fNeg (mI 1)) mNil))) (mCons (mTup (mCons (mI 1) (mCons (mI 0) mNil))) (mCons (mOpA fTuple (mCons (mFz (mLc (bName 9) [9] (mSeq (mOp2 fIx (mVar 2) (mI 0))) mYes (mOp2 fMul (mVar 9) (mI 3)))) mNil)) mNil))))))))) sNop) (sSeq (sFrz 2 (sIf (mTst (mOp2 fEq (mOp2 fIx (mVar 1) (mI 1)) (mI 2))) (sSet 2 (mOp2 fAdd (mVar 2) (mFz (mLst (mCons (mTup (mCons (mOp1 fNeg (mI 1)) (mCons (mI 0) mNil))) (mCons (mTup (mCons (mI 0) (mCons (mI 1) mNil))) (mCons (mTup (mCons (mOp1 fNeg (mOp2 fIx (mOp2 fIx (mVar 2) (mI 0)) (mI 1))) (mCons (mOp2 fIx (mOp2 fIx (mVar 2) (mI 0)) (mI 0)) mNil))) mNil))))))) sNop)) (sSeq (sIf (mtOr (mtNot (mTru (mCall 1 d_law_plane (mCons (mVar 2) mNil)))) (mtOr (mtNot (mTru (mCall 1 d_law_plane (mCons (mOp1 fRev (mVar 2)) mNil)))) (mTst (mOp2 fNe (mCall 1 d_by_turn (mCons (mOpA fTuple (mCons (mVar 2) mNil)) mNil)) (mCall 1 d_by_turn (mCons (mOpA fTuple (mCons (mOp1 fRev (mVar 2)) mNil)) mNil)))))) (sRet (mBl false)) sNop) (sSeq (sFor (bName 4) (mSeq (mVar 2)) (sSeq (sSet 5 (mCall 1 d_quarter (mCons (mVar 4) mNil))) (sIf (mtOr (mTst (mOp2 fNe (mVar 5) (mTup (mCons (mOp1 fNeg (mOp2 fIx (mVar 4) (mI 1))) (mCons (mOp2 fIx (mVar 4) (mI 0)) mNil))))) (mtNot (mTru (mCall 1 d_law_single (mCons (mVar 4) mNil))))) (sRet (mBl false)) sNop))) (sSeq (sSet 6 (mCall 2 d_law_arrow (mCons (mCall 2 d_law_cell (mCons (mVar 0) (mCons (mI 14) mNil))) (mCons (mI 3) mNil)))) (sSeq (sSet 7 (mCall 2 d_law_arrow (mCons (mCall 2 d_law_cell (mCons (mVar 0) (mCons (mI 15) mNil))) (mCons (mI 3) mNil)))) (sSeq (sIf (mTst (mOp2 fEq (mOp2 fIx (mVar 1) (mI 2)) (mI 4))) (sSet 7 (mOpA fTuple (mCons (mFz (mLc (bName 9) [9] (mSeq (mVar 6)) mYes (mOp2 fMul (mVar 9) (mOp1 fNeg (mI 2))))) mNil))) sNop) (sSeq (sIf (mtOr (mtNot (mTru (mCall 2 d_law_space (mCons (mVar 6) (mCons (mVar 7) mNil))))) (mtOr (mtNot (mTru (mCall 2 d_law_space (mCons (mVar 7) (mCons (mVar 6) mNil))))) (mtNot (mTru (mCall 1 d_law_single (mCons (mVar 6) mNil)))))) (sRet (mBl false)) sNop) (sSeq (sSet 8 (mCall 2 d_law_arrow (mCons (mCall 2 d_law_cell (mCons (mVar 0) (mCons (mI 16) mNil))) (mCons (mI 1) mNil)))) (sSeq (sSet 5 (mCall 2 d_dot (mCons (mVar 6) (mCons (mVar 7) mNil)))) (sRet (mAnd (mCall 1 d_law_whole (mCons (mVar 5) mNil)) (mAnd (mOp2 fEq (mVar 5) (mCall 2 d_law_dot (mCons (mVar 6) (mCons (mVar 7) mNil)))) (mCall 1 d_law_single (mCons (mVar 8) mNil))))))))))))))))))
noncomputable def d_law : List D → Res D := runF 10 m_law
end Cm
namespace Cm
open PySem FL
theorem whole_int (i : Int) : d_law_whole [.int i] = .ok (.bl true) := by
  simp [d_law_whole, m_law_whole, isi_int_int, isi_bool_int]
theorem cell_ok (ns : List Int) (k : Int) (h0 : 0 ≤ k) (h1 : k ≤ 1000) : wpr (d_law_cell [.scr ns, .int k]) fun d => ∃ c, d = .int c := by
  obtain ⟨j, rfl⟩ := Int.eq_ofNat_of_zero_le h0
  refine wpr_F (wps_seq ?_)
  by_cases h : j < ns.length
  · refine wps_if (k := true) (by simp [h]) (fun _ => ?_) (fun q => nomatch q)
    simp [atI_nat, h]
    exact wps_some ⟨_, rfl⟩
  · refine wps_if (k := false) (by simp; omega) (fun q => nomatch q) (fun _ => ?_)
    refine wps_some (wps_nx rfl (wps_seq ?_))
    refine wps_for ns .int rfl (fun _ ρ => ∃ s c, ρ = [.im (.scr ns), .im (.int j), .im (.int s), c] ∧ 0 ≤ s ∧ s < 1000003) ⟨17, .un, rfl, by decide, by decide⟩ ?_ ?_
    · rintro pre x post ρ e ⟨s, c, rfl, hs0, hs1⟩
      have hm : okMul s 31 = true := okMul_b (by omega) (by omega) (by omega) (by omega)
      refine ⟨_, rfl, ?_⟩
      refine wps_n (by simp [hm]; rfl) ?_
      refine ⟨_, _, rfl, ?_, ?_⟩
      · rw [Int.fmod_eq_emod_of_nonneg _ (by decide)]; omega
      · rw [Int.fmod_eq_emod_of_nonneg _ (by decide)]; omega
    · rintro ρ ⟨s, c, rfl, hs0, hs1⟩
      have hm1 : okMul (s + 7) ((j : Int) + 3) = true := okMul_b (by omega) (by omega) (by omega) (by omega)
      have hb := Int.mul_le_mul (a := s + 7) (b := (j : Int) + 3) (c := 2000000) (d := 2000) (by omega) (by omega) (by omega) (by omega)
      have hb0 : 0 ≤ (s + 7) * ((j : Int) + 3) := Int.mul_nonneg (by omega) (by omega)
      have hm2 : okMul ((s + 7) * ((j : Int) + 3)) 69621 = true := okMul_b (by omega) (by omega) (by omega) (by omega)
      exact wps_r (by simp [hm1, hm2]; rfl) ⟨_, rfl⟩
end Cm
namespace Cm
open PySem FL
/-- digits below their sizes -/
def Dig (sizes row : List Int) : Prop := row.length = sizes.length ∧ ∀ (i : Nat) (r s : Int), row[i]? = some r → sizes[i]? = some s → 0 ≤ r ∧ r < s
theorem Dig.snoc {sizes row : List Int} {s r : Int} (h : Dig sizes row) (h0 : 0 ≤ r) (h1 : r < s) : Dig (sizes ++ [s]) (row ++ [r]) := by
  refine ⟨by simp [h.1], fun i x y e1 e2 => ?_⟩
  by_cases hi : i < row.length
  · rw [List.getElem?_append_left hi] at e1
    rw [List.getElem?_append_left (by rw [← h.1]; exact hi)] at e2
    exact h.2 i x y e1 e2
  · rw [List.getElem?_append_right (by omega)] at e1
    rw [List.getElem?_append_right (by rw [← h.1]; omega)] at e2
    have : i - row.length = 0 := by
      cases q : i - row.length with
      | zero => rfl
      | succ k => rw [q] at e1; simp at e1
    rw [this] at e1
    rw [← h.1, this] at e2
    simp at e1 e2
    subst e1 e2
    exact ⟨h0, h1⟩
theorem digits_ok (c : Int) (sizes : List Int) (hl : sizes.length ≤ 1000) (hs : ∀ s ∈ sizes, 0 < s ∧ s < 1073741824) : wpr (d_law_digits [.int c, .lst (zs sizes)]) fun d => ∃ row, d = .lst (zs row) ∧ Dig sizes row := by
  have hp : okPow 10 18 = true := by decide
  refine wpr_F (wps_nx rfl (wps_nx rfl (wps_seq ?_)))
  by_cases h : (1000000000000000000 : Int) ≤ c
  · refine wps_if (k := true) (by simp [hp, h]) (fun _ => ?_) (fun q => nomatch q)
    refine wps_nx (by simp [hp]; rfl) (wps_seq ?_)
    refine wps_for sizes .int rfl (fun pre ρ => ∃ row rest z, ρ = [.im (.int c), .im (.lst (zs sizes)), .ow false (.l (zs row)), .im (.int rest), z, .un, .un, .un] ∧ Dig pre row)
      ⟨[], _, _, rfl, rfl, fun i r s e => by simp at e⟩ ?_ ?_
    · rintro pre x post ρ e ⟨row, rest, z, rfl, hd⟩
      obtain ⟨h0, h1⟩ := hs x (by rw [e]; simp)
      have hne : x ≠ 0 := by omega
      have hdiv : okDiv rest x = true := okDiv_small hne (by omega)
      have hlen : row.length < 16777215 := by
        have := congrArg List.length e
        rw [hd.1]; simp at this; omega
      refine ⟨_, rfl, ?_⟩
      refine wps_nx (ρ1 := [.im (.int c), .im (.lst (zs sizes)), .ow false (.l (zs (row ++ [rest.fmod x]))), .im (.int rest), .im (.int x), .un, .un, .un]) (by simp [hne, hlen]) ?_
      refine wps_n (ρ := [.im (.int c), .im (.lst (zs sizes)), .ow false (.l (zs (row ++ [rest.fmod x]))), .im (.int (rest.fdiv x)), .im (.int x), .un, .un, .un]) (by simp [hdiv]) ?_
      refine ⟨_, _, _, rfl, hd.snoc ?_ ?_⟩
      · rw [Int.fmod_eq_emod_of_nonneg _ (by omega)]; exact Int.emod_nonneg _ hne
      · rw [Int.fmod_eq_emod_of_nonneg _ (by omega)]; exact Int.emod_lt_of_pos _ h0
    · rintro ρ ⟨row, rest, z, rfl, hd⟩
      exact wps_r rfl ⟨row, rfl, hd⟩
  · refine wps_if (k := false) (by simp [hp]; omega) (fun q => nomatch q) (fun _ => wps_some ?_)
    refine wps_nx (ρ1 := [.im (.int c), .im (.lst (zs sizes)), .ow false (.l (zs [])), .im (.int c), .un, .im (.int (c.fmod 2147483629)), .un, .un]) (by simp) (wps_seq ?_)
    refine wps_for (List.range sizes.length) (fun (k : Nat) => D.int (k : Int)) (mRng1_ok (j := (sizes.length : Int)) sizes.length (by simp) rfl (by omega))
      (fun pre ρ => ∃ row seed z1 z2, ρ = [.im (.int c), .im (.lst (zs sizes)), .ow false (.l (zs row)), .im (.int c), .un, .im (.int seed), z1, z2] ∧ 0 ≤ seed ∧ seed < 2147483647 ∧ Dig (sizes.take pre.length) row)
      ⟨[], _, _, _, rfl, ?_, ?_, rfl, fun i r s e => by simp at e⟩ ?_ ?_
    · rw [Int.fmod_eq_emod_of_nonneg _ (by decide)]; omega
    · rw [Int.fmod_eq_emod_of_nonneg _ (by decide)]; omega
    · rintro pre x post ρ e ⟨row, seed, z1, z2, rfl, hs0, hs1, hd⟩
      obtain ⟨rfl, hx⟩ := range_split e
      have hq : sizes[pre.length]? = some sizes[pre.length] := by simp [hx]
      obtain ⟨h0, h1⟩ := hs sizes[pre.length] (List.getElem_mem hx)
      generalize sizes[pre.length] = s at *
      have hne : s ≠ 0 := by omega
      have hm1 : okMul seed 48271 = true := okMul_b (by omega) (by omega) (by omega) (by omega)
      have hm2 : okMul 974711 (pre.length : Int) = true := okMul_b (by omega) (by omega) (by omega) (by omega)
      generalize hS : (seed * 48271 + 974711 * (pre.length : Int) + 12345).fmod 2147483647 = S
      have hS0 : 0 ≤ S ∧ S < 2147483647 := by
        rw [← hS, Int.fmod_eq_emod_of_nonneg _ (by decide)]; omega
      have hd1 : okDiv S 65537 = true := okDiv_small (by decide) (by decide)
      generalize hU : S.fdiv 65537 = U
      have hU0 : 0 ≤ U ∧ U < 2147483647 := by
        rw [← hU, Int.fdiv_eq_ediv_of_nonneg _ (by decide)]; omega
      have hm3 : okMul S (U + 3) = true := okMul_b (by omega) (by omega) (by omega) (by omega)
      generalize hT : (S * (U + 3)).fmod 2147483629 = T
      have hd2 : okDiv T 19 = true := okDiv_small (by decide) (by decide)
      have hlen : row.length < 16777215 := by
        rw [hd.1]; simp; omega
      refine ⟨_, rfl, ?_⟩
      refine wps_nx (ρ1 := [.im (.int c), .im (.lst (zs sizes)), .ow false (.l (zs row)), .im (.int c), .un, .im (.int S), .im (.int (pre.length : Int)), z2]) (by simp only [← hS]; simp [hm1, hm2]) ?_
      refine wps_nx (ρ1 := [.im (.int c), .im (.lst (zs sizes)), .ow false (.l (zs row)), .im (.int c), .un, .im (.int S), .im (.int (pre.length : Int)), .im (.int T)]) (by simp [hd1, hU, hm3, hT]) ?_
      refine wps_n (ρ := [.im (.int c), .im (.lst (zs sizes)), .ow false (.l (zs (row ++ [(T.fdiv 19).fmod s]))), .im (.int c), .un, .im (.int S), .im (.int (pre.length : Int)), .im (.int T)]) (by simp [hd2, atI_nat, hq, hne, hlen]) ?_
      refine ⟨_, _, _, _, rfl, hS0.1, hS0.2, ?_⟩
      have et : sizes.take (pre ++ [pre.length]).length = sizes.take pre.length ++ [s] := by
        rw [List.length_append, List.length_singleton, List.take_succ, hq]; rfl
      rw [et]
      refine hd.snoc ?_ ?_
      · rw [Int.fmod_eq_emod_of_nonneg _ (by omega)]; exact Int.emod_nonneg _ hne
      · rw [Int.fmod_eq_emod_of_nonneg _ (by omega)]; exact Int.emod_lt_of_pos _ h0
    · rintro ρ ⟨row, seed, z1, z2, rfl, hs0, hs1, hd⟩
      rw [List.length_range, List.take_length] at hd
      exact wps_r rfl ⟨row, rfl, hd⟩
end Cm
namespace Cm
open PySem FL
/-! ### the plain law: arrows -/
/-- the greatest common divisor of a tuple, as the program reckons it -/
def gl (l : List Int) : Nat := l.foldl (fun c x => Nat.gcd c x.natAbs) 0
def sh (l : List Int) : List Int := l.map fun x => x.fdiv (gl l)
theorem gl_fold_dvd : ∀ (l : List Int) (c : Nat), (l.foldl (fun c x => Nat.gcd c x.natAbs) c) ∣ c ∧ ∀ x ∈ l, (l.foldl (fun c x => Nat.gcd c x.natAbs) c) ∣ x.natAbs
  | [], c => ⟨Nat.dvd_refl _, fun _ h => (nomatch h)⟩
  | y :: l, c => by
    obtain ⟨h1, h2⟩ := gl_fold_dvd l (Nat.gcd c y.natAbs)
    refine ⟨Nat.dvd_trans h1 (Nat.gcd_dvd_left _ _), fun x hx => ?_⟩
    rcases List.mem_cons.mp hx with rfl | hx
    · exact Nat.dvd_trans h1 (Nat.gcd_dvd_right _ _)
    · exact h2 x hx
theorem gl_fold_great : ∀ (l : List Int) (c d : Nat), d ∣ c → (∀ x ∈ l, d ∣ x.natAbs) → d ∣ (l.foldl (fun c x => Nat.gcd c x.natAbs) c)
  | [], c, d, h, _ => h
  | y :: l, c, d, h, h2 => gl_fold_great l _ d (Nat.dvd_gcd h (h2 y (by simp))) fun x hx => h2 x (by simp [hx])
theorem gl_dvd {l : List Int} {x : Int} (h : x ∈ l) : gl l ∣ x.natAbs := (gl_fold_dvd l 0).2 x h
theorem gl_great {l : List Int} {d : Nat} (h : ∀ x ∈ l, d ∣ x.natAbs) : d ∣ gl l := gl_fold_great l 0 d (Nat.dvd_zero _) h
theorem gl_pos {l : List Int} (h : ∃ x ∈ l, x ≠ 0) : 0 < gl l := by
  obtain ⟨x, hx, h0⟩ := h
  have hd := gl_dvd hx
  have : 0 < x.natAbs := by omega
  exact Nat.pos_of_dvd_of_pos hd this
theorem gl_le {l : List Int} {b : Nat} (h : ∃ x ∈ l, x ≠ 0) (hb : ∀ x ∈ l, x.natAbs ≤ b) : gl l ≤ b := by
  obtain ⟨x, hx, h0⟩ := h
  have hd := gl_dvd hx
  have h1 : 0 < x.natAbs := by omega
  exact Nat.le_trans (Nat.le_of_dvd h1 hd) (hb x hx)
theorem fdiv_mul {x : Int} {g : Nat} (hg : 0 < g) (h : g ∣ x.natAbs) : x.fdiv g * g = x := by
  have h2 : (g : Int) ∣ x := Int.ofNat_dvd_left.mpr h
  rw [Int.fdiv_eq_ediv_of_nonneg _ (by omega)]
  exact Int.ediv_mul_cancel h2
theorem sh_mul {l : List Int} (h : ∃ x ∈ l, x ≠ 0) : (sh l).map (· * (gl l : Int)) = l := by
  unfold sh
  rw [List.map_map]
  conv => rhs; rw [← List.map_id l]
  apply List.map_congr_left
  intro x hx
  exact fdiv_mul (gl_pos h) (gl_dvd hx)
theorem sh_nz {l : List Int} (h : ∃ x ∈ l, x ≠ 0) : ∃ x ∈ sh l, x ≠ 0 := by
  obtain ⟨x, hx, h0⟩ := h
  refine ⟨_, List.mem_map_of_mem hx, fun e => ?_⟩
  have := fdiv_mul (gl_pos ⟨x, hx, h0⟩) (gl_dvd hx)
  rw [e] at this
  omega
theorem gl_sh {l : List Int} (h : ∃ x ∈ l, x ≠ 0) : gl (sh l) = 1 := by
  have hp := gl_pos h
  have : gl (sh l) * gl l ∣ gl l := gl_great fun x hx => by
    have h1 : gl (sh l) ∣ (x.fdiv (gl l)).natAbs := gl_dvd (List.mem_map_of_mem hx)
    have e := fdiv_mul hp (gl_dvd hx)
    rw [← e, Int.natAbs_mul]
    exact Nat.mul_dvd_mul h1 (by simp)
  have h2 := Nat.le_of_dvd hp this
  have h3 := gl_pos (sh_nz h)
  have : gl (sh l) * gl l ≤ 1 * gl l := by omega
  have := Nat.le_of_mul_le_mul_right this hp
  omega
theorem sh_sh {l : List Int} (h : ∃ x ∈ l, x ≠ 0) : sh (sh l) = sh l := by
  show (sh l).map (fun x => x.fdiv (gl (sh l))) = sh l
  rw [gl_sh h]
  conv => rhs; rw [← List.map_id (sh l)]
  apply List.map_congr_left
  intro x _
  simp
theorem sh_length (l : List Int) : (sh l).length = l.length := by simp [sh]
theorem sh_le {l : List Int} {b : Nat} (h : ∃ x ∈ l, x ≠ 0) (hb : ∀ x ∈ l, x.natAbs ≤ b) : ∀ x ∈ sh l, x.natAbs ≤ b := by
  intro y hy
  obtain ⟨x, hx, rfl⟩ := List.mem_map.mp hy
  have e := fdiv_mul (gl_pos h) (gl_dvd hx)
  have h1 := hb x hx
  have hp := gl_pos h
  have : (x.fdiv (gl l)).natAbs * gl l = x.natAbs := by
    have e2 := congrArg Int.natAbs e
    rw [Int.natAbs_mul] at e2
    simpa using e2
  have h2 : (x.fdiv (gl l)).natAbs * 1 ≤ (x.fdiv (gl l)).natAbs * gl l := Nat.mul_le_mul_left _ hp
  omega
/-! the turn -/
def hf (x y : Int) : Int := if 0 < y ∨ (y = 0 ∧ 0 < x) then 0 else 1
def bef : List Int → List Int → Bool
  | [x, y], [u, v] => if hf x y ≠ hf u v then decide (hf x y < hf u v) else decide (0 < x * v - y * u)
  | _, _ => false
theorem bef_irr (a : List Int) : bef a a = false := by
  match a with
  | [x, y] => simp [bef]; have := Int.mul_comm x y; omega
  | [] => rfl
  | [_] => rfl
  | _ :: _ :: _ :: _ => rfl
theorem hf_cases (x y : Int) : (hf x y = 0 ∧ (0 < y ∨ (y = 0 ∧ 0 < x))) ∨ (hf x y = 1 ∧ (y < 0 ∨ (y = 0 ∧ x ≤ 0))) := by
  unfold hf
  by_cases h : 0 < y ∨ (y = 0 ∧ 0 < x)
  · rw [if_pos h]; exact .inl ⟨rfl, h⟩
  · rw [if_neg h]; refine .inr ⟨rfl, ?_⟩; omega
/-- in one half plane -/
theorem wed_trans {x y u v s t : Int} (h1 : 0 ≤ y) (h2 : 0 ≤ v) (h3 : 0 ≤ t) (e1 : y = 0 → 0 < x) (e2 : v = 0 → 0 < u) (e3 : t = 0 → 0 < s)
    (a : 0 < x * v - y * u) (b : 0 < u * t - v * s) : 0 < x * t - y * s := by
  -- v * (x t - y s) = y (u t - v s) + t (x v - y u)
  have key : v * (x * t - y * s) = y * (u * t - v * s) + t * (x * v - y * u) := by
    grind
  have hv : 0 < v := by
    rcases Int.lt_or_eq_of_le h2 with h | h
    · exact h
    · subst h
      have := e2 rfl
      have : 0 ≤ y * u := Int.mul_nonneg h1 (by omega)
      simp at a
      omega
  have hy : 0 ≤ y * (u * t - v * s) := Int.mul_nonneg h1 (by omega)
  have ht : 0 ≤ t * (x * v - y * u) := Int.mul_nonneg h3 (by omega)
  have hpos : 0 < v * (x * t - y * s) := by
    rw [key]
    rcases Int.lt_or_eq_of_le h1 with h | h
    · have : 0 < y * (u * t - v * s) := Int.mul_pos h b
      omega
    · rcases Int.lt_or_eq_of_le h3 with h' | h'
      · have : 0 < t * (x * v - y * u) := Int.mul_pos h' a
        omega
      · subst h'
        have hs := e3 rfl
        have : 0 < v * s := Int.mul_pos hv hs
        simp at b
        omega
  by_cases hc : 0 < x * t - y * s
  · exact hc
  · have : v * (x * t - y * s) ≤ v * 0 := Int.mul_le_mul_of_nonneg_left (by omega) h2
    omega
theorem bef_trans {a b c : List Int} (nb : ∃ x ∈ b, x ≠ 0) (na : ∃ x ∈ a, x ≠ 0) (nc : ∃ x ∈ c, x ≠ 0) (h1 : bef a b = true) (h2 : bef b c = true) : bef a c = true := by
  match a, b, c, h1, h2, na, nb, nc with
  | [x, y], [u, v], [s, t], h1, h2, na, nb, nc =>
    have nz : ∀ p q : Int, (∃ x ∈ [p, q], x ≠ 0) → ¬ (p = 0 ∧ q = 0) := by
      rintro p q ⟨z, hz, h0⟩ ⟨rfl, rfl⟩
      simp at hz
      exact h0 hz
    have n1 := nz _ _ na
    have n2 := nz _ _ nb
    have n3 := nz _ _ nc
    simp only [bef] at h1 h2 ⊢
    rcases hf_cases x y with ⟨ea, pa⟩ | ⟨ea, pa⟩ <;> rcases hf_cases u v with ⟨eb, pb⟩ | ⟨eb, pb⟩ <;> rcases hf_cases s t with ⟨ec, pc⟩ | ⟨ec, pc⟩ <;> rw [ea, eb] at h1 <;> rw [eb, ec] at h2 <;> rw [ea, ec] <;> simp at h1 h2 ⊢
    · have := wed_trans (x := x) (y := y) (u := u) (v := v) (s := s) (t := t) (by omega) (by omega) (by omega) (by omega) (by omega) (by omega) (by omega) (by omega)
      omega
    · have e1 : (-x) * (-v) = x * v := Int.neg_mul_neg _ _
      have e2 : (-y) * (-u) = y * u := Int.neg_mul_neg _ _
      have e3 : (-u) * (-t) = u * t := Int.neg_mul_neg _ _
      have e4 : (-v) * (-s) = v * s := Int.neg_mul_neg _ _
      have e5 : (-x) * (-t) = x * t := Int.neg_mul_neg _ _
      have e6 : (-y) * (-s) = y * s := Int.neg_mul_neg _ _
      have := wed_trans (x := -x) (y := -y) (u := -u) (v := -v) (s := -s) (t := -t) (by omega) (by omega) (by omega) (by omega) (by omega) (by omega) (by omega) (by omega)
      omega
theorem bef_asym {a b : List Int} (h1 : bef a b = true) (h2 : bef b a = true) : False := by
  match a, b, h1, h2 with
  | [x, y], [u, v], h1, h2 =>
    simp only [bef] at h1 h2
    rcases hf_cases x y with ⟨ea, pa⟩ | ⟨ea, pa⟩ <;> rcases hf_cases u v with ⟨eb, pb⟩ | ⟨eb, pb⟩ <;> rw [ea, eb] at h1 <;> rw [ea, eb] at h2 <;> simp at h1 h2
    all_goals
      have q1 := Int.mul_comm x v
      have q2 := Int.mul_comm y u
      omega
end Cm
namespace Cm
open PySem FL
theorem gl_two (x y : Int) : gl [x, y] = Nat.gcd x.natAbs y.natAbs := by simp [gl]
/-- plain arrows of one direction are one -/
theorem bef_tri {a b : List Int} (la : a.length = 2) (lb : b.length = 2) (ga : gl a = 1) (gb : gl b = 1) (h1 : bef a b = false) (h2 : bef b a = false) : a = b := by
  match a, b, la, lb with
  | [x, y], [u, v], _, _ =>
    rw [gl_two] at ga gb
    have hh : hf x y = hf u v ∧ x * v = y * u := by
      simp only [bef] at h1 h2
      by_cases e : hf x y = hf u v
      · refine ⟨e, ?_⟩
        simp [e] at h1 h2
        have := Int.mul_comm x v
        have := Int.mul_comm y u
        omega
      · have e' : ¬ hf u v = hf x y := fun z => e z.symm
        simp [e, e'] at h1 h2
        omega
    obtain ⟨eh, ew⟩ := hh
    have d1 : x.natAbs ∣ u.natAbs := by
      have : x.natAbs ∣ y.natAbs * u.natAbs := ⟨v.natAbs, by rw [← Int.natAbs_mul, ← Int.natAbs_mul, ew]⟩
      exact Nat.Coprime.dvd_of_dvd_mul_left ga this
    have d2 : y.natAbs ∣ v.natAbs := by
      have : y.natAbs ∣ x.natAbs * v.natAbs := ⟨u.natAbs, by rw [← Int.natAbs_mul, ← Int.natAbs_mul, ew]⟩
      exact Nat.Coprime.dvd_of_dvd_mul_left (Nat.Coprime.symm ga) this
    have d3 : u.natAbs ∣ x.natAbs := by
      have : u.natAbs ∣ v.natAbs * x.natAbs := ⟨y.natAbs, by rw [← Int.natAbs_mul, ← Int.natAbs_mul, Int.mul_comm, ew, Int.mul_comm]⟩
      exact Nat.Coprime.dvd_of_dvd_mul_left gb this
    have d4 : v.natAbs ∣ y.natAbs := by
      have : v.natAbs ∣ u.natAbs * y.natAbs := ⟨x.natAbs, by rw [← Int.natAbs_mul, ← Int.natAbs_mul, Int.mul_comm, ← ew, Int.mul_comm]⟩
      exact Nat.Coprime.dvd_of_dvd_mul_left (Nat.Coprime.symm gb) this
    have e1 := Nat.dvd_antisymm d1 d3
    have e2 := Nat.dvd_antisymm d2 d4
    have nz : ¬ (x = 0 ∧ y = 0) := by
      rintro ⟨rfl, rfl⟩
      simp at ga
    have cx : x = u ∨ x = -u := by omega
    have cy : y = v ∨ y = -v := by omega
    have p1 := hf_cases x y
    have p2 := hf_cases u v
    rcases cx with rfl | rfl <;> rcases cy with rfl | rfl
    · rfl
    · -- y = -v
      have : x * v = 0 := by
        have : x * v = -(x * v) := by rw [ew]; grind
        omega
      rcases Int.mul_eq_zero.mp this with rfl | rfl
      · have : v = 0 ∨ v < 0 ∨ 0 < v := by omega
        omega
      · simp
    · have : u * y = 0 := by
        have : u * y = -(u * y) := by
          have : -u * y = y * u := ew
          grind
        omega
      rcases Int.mul_eq_zero.mp this with rfl | rfl
      · simp
      · have : u = 0 ∨ u < 0 ∨ 0 < u := by omega
        omega
    · exfalso
      omega
def Srt (l : List (List Int)) : Prop := l.Pairwise fun a b => bef a b = true
/-- what the program's list holds: plain arrows of the plane -/
def Pl (B : Nat) (a : List Int) : Prop := a.length = 2 ∧ gl a = 1 ∧ ∀ x ∈ a, x.natAbs ≤ B
theorem Pl.nz {B : Nat} {a : List Int} (h : Pl B a) : ∃ x ∈ a, x ≠ 0 := by
  match a, h.1 with
  | [x, y], _ =>
    have g := h.2.1
    rw [gl_two] at g
    by_cases hx : x = 0
    · refine ⟨y, by simp, fun e => ?_⟩
      subst hx e
      simp at g
    · exact ⟨x, by simp, hx⟩
theorem Pl.tri {B : Nat} {a b : List Int} (h : Pl B a) (h' : Pl B b) (n : a ≠ b) : bef a b = true ∨ bef b a = true := by
  cases q : bef a b with
  | true => exact .inl rfl
  | false => cases q2 : bef b a with
    | true => exact .inr rfl
    | false => exact absurd (bef_tri h.1 h'.1 h.2.1 h'.2.1 q q2) n
theorem Pl.trans {B : Nat} {a b c : List Int} (ha : Pl B a) (hb : Pl B b) (hc : Pl B c) (h1 : bef a b = true) (h2 : bef b c = true) : bef a c = true := bef_trans hb.nz ha.nz hc.nz h1 h2
theorem srt_ins {l : List (List Int)} {m : List Int} {p : Nat} (hs : Srt l) (h1 : ∀ a ∈ l.take p, bef a m = true) (h2 : ∀ a ∈ l.drop p, bef m a = true) : Srt (l.take p ++ [m] ++ l.drop p) := by
  unfold Srt at *
  rw [← List.take_append_drop p l, List.pairwise_append] at hs
  rw [List.pairwise_append, List.pairwise_append]
  refine ⟨⟨hs.1, by simp, fun a ha b hb => ?_⟩, hs.2.1, fun a ha b hb => ?_⟩
  · have : b = m := by simpa using hb
    subst this; exact h1 a ha
  · rcases List.mem_append.mp ha with ha | ha
    · exact hs.2.2 a ha b hb
    · have : a = m := by simpa using ha
      subst this; exact h2 b hb
theorem srt_uniq : ∀ {l k : List (List Int)}, Srt l → Srt k → (∀ a, a ∈ l ↔ a ∈ k) → l = k
  | [], [], _, _, _ => rfl
  | [], b :: k, _, _, h => absurd ((h b).mpr (by simp)) (by simp)
  | a :: l, [], _, _, h => absurd ((h a).mp (by simp)) (by simp)
  | a :: l, b :: k, h1, h2, h => by
    unfold Srt at h1 h2
    rw [List.pairwise_cons] at h1 h2
    have e : a = b := by
      rcases List.mem_cons.mp ((h a).mp (by simp)) with e | e
      · exact e
      · rcases List.mem_cons.mp ((h b).mpr (by simp)) with e' | e'
        · exact e'.symm
        · exact (bef_asym (h1.1 b e') (h2.1 a e)).elim
    subst e
    have : l = k := srt_uniq h1.2 h2.2 fun c => by
      constructor
      · intro hc
        rcases List.mem_cons.mp ((h c).mp (by simp [hc])) with e | e
        · subst e; have := h1.1 c hc; rw [bef_irr] at this; cases this
        · exact e
      · intro hc
        rcases List.mem_cons.mp ((h c).mpr (by simp [hc])) with e | e
        · subst e; have := h2.1 c hc; rw [bef_irr] at this; cases this
        · exact e
    rw [this]
theorem srt_nodup {l : List (List Int)} (h : Srt l) : l.Nodup := by
  unfold Srt at h
  exact h.imp fun {a b} hab e => by subst e; rw [bef_irr] at hab; cases hab
end Cm
namespace Cm
open PySem FL
theorem wpr_eq {α : Type} {r : Res α} {x : α} (h : wpr r fun d => d = x) : r = .ok x := by
  obtain ⟨a, e, rfl⟩ := h
  exact e
theorem iabs (a : Int) : (if a < 0 then -a else a) = (a.natAbs : Int) := by split <;> omega
theorem gcd_ok (a b : Int) : d_law_gcd [.int a, .int b] = .ok (.int (Nat.gcd a.natAbs b.natAbs : Nat)) := by
  refine wpr_eq (wpr_F (wps_nx rfl (wps_nx rfl (wps_seq ?_))))
  refine wps_while (fun ρ => ∃ (x y : Nat) (z : Sl), ρ = [.im (.int (x : Int)), .im (.int (y : Int)), z] ∧ Nat.gcd x y = Nat.gcd a.natAbs b.natAbs)
    (fun ρ => match ρ with | [_, .im (.int y), _] => y.natAbs | _ => 0) ⟨a.natAbs, b.natAbs, .un, by simp [iabs], rfl⟩ ?_
  rintro ρ ⟨x, y, z, rfl, hg⟩
  refine ⟨!decide ((y : Int) = 0), by simp, fun h => ?_, fun h => ?_⟩
  · have hy : y ≠ 0 := by simpa using h
    refine wps_n (ρ := [.im (.int (y : Int)), .im (.int ((x : Int) % (y : Int))), .im (.int ((x : Int) % (y : Int)))]) (by simp [hy]; exact Int.fmod_eq_emod_of_nonneg _ (by omega)) ?_
    refine ⟨⟨y, x % y, _, rfl, ?_⟩, ?_⟩
    · rw [← hg, Nat.gcd_comm y, ← Nat.gcd_rec, Nat.gcd_comm]
    · show (((x % y : Nat) : Int)).natAbs < ((y : Int)).natAbs
      rw [Int.natAbs_natCast, Int.natAbs_natCast]
      exact Nat.mod_lt _ (by omega)
  · have hy : y = 0 := by have : (y : Int) = 0 := by simpa using h
                          omega
    subst hy
    refine wps_r rfl ?_
    show D.int (x : Int) = _
    rw [← hg, Nat.gcd_zero_right]
/-- what a tuple is divided by, in both texts -/
theorem gl_snoc (l : List Int) (x : Int) : gl (l ++ [x]) = Nat.gcd (gl l) x.natAbs := by simp [gl]
def Sm (B : Nat) (l : List Int) : Prop := ∀ x ∈ l, x.natAbs ≤ B
theorem div_ok {l : List Int} {x : Int} (h : ∃ x ∈ l, x ≠ 0) (hb : Sm 100000000 l) : okDiv x (gl l) = true := by
  have := gl_pos h
  have := gl_le h hb
  exact okDiv_small (by omega) (by omega)
theorem plain_ok {l : List Int} (h : ∃ x ∈ l, x ≠ 0) (hb : Sm 100000000 l) (hl : l.length ≤ 1000) : d_plain [.tup (zs l)] = .ok (.tup (zs (sh l))) := by
  refine wpr_eq (wpr_F (wps_nx rfl (wps_seq ?_)))
  refine wps_for l .int rfl (fun pre ρ => ∃ z, ρ = [.im (.tup (zs l)), .im (.int (gl pre : Int)), z]) ⟨_, rfl⟩ ?_ ?_
  · rintro pre x post ρ e ⟨z, rfl⟩
    exact ⟨_, rfl, wps_n rfl ⟨.im (.int x), by simp [gl_snoc]⟩⟩
  · rintro ρ ⟨z, rfl⟩
    have hd : ∀ x, okDiv x (gl l) = true := fun x => div_ok h hb
    refine wps_r (d := .tup (zs (sh l))) ?_ rfl
    have hc := compL_map (bt := bName 2) (mt := mYes) (me := mOp2 fFdiv (mVar 2) (mVar 1)) (ρ := [.im (.tup (zs l)), .im (.int (gl l : Int)), .un]) (enc := D.int) (f := fun x => .int (x.fdiv (gl l))) l [] (fun x hx => ⟨_, rfl, rfl, by simp [hd]⟩) (by simp; omega)
    simp [hc, sh]
theorem short_ok {l : List Int} (h : ∃ x ∈ l, x ≠ 0) (hb : Sm 100000000 l) (hl : l.length ≤ 1000) : d_law_short [.tup (zs l)] = .ok (.tup (zs (sh l))) := by
  refine wpr_eq (wpr_F (wps_nx rfl (wps_seq ?_)))
  refine wps_for l .int rfl (fun pre ρ => ∃ z, ρ = [.im (.tup (zs l)), .im (.int (gl pre : Int)), z]) ⟨_, rfl⟩ ?_ ?_
  · rintro pre x post ρ e ⟨z, rfl⟩
    exact ⟨_, rfl, wps_n (by simp [gcd_ok]; rfl) ⟨.im (.int x), by simp [gl_snoc]⟩⟩
  · rintro ρ ⟨z, rfl⟩
    have hd : ∀ x, okDiv x (gl l) = true := fun x => div_ok h hb
    refine wps_r (d := .tup (zs (sh l))) ?_ rfl
    have hc := compL_map (bt := bName 2) (mt := mYes) (me := mOp2 fFdiv (mVar 2) (mVar 1)) (ρ := [.im (.tup (zs l)), .im (.int (gl l : Int)), .un]) (enc := D.int) (f := fun x => .int (x.fdiv (gl l))) l [] (fun x hx => ⟨_, rfl, rfl, by simp [hd]⟩) (by simp; omega)
    simp [hc, sh]
def ng (l : List Int) : List Int := l.map fun x => -x
theorem opp_ok (l : List Int) (hl : l.length ≤ 1000) : d_opposite [.tup (zs l)] = .ok (.tup (zs (ng l))) := by
  have hc := compL_map (bt := bName 1) (mt := mYes) (me := mOp1 fNeg (mVar 1)) (ρ := [.im (.tup (zs l)), .un]) (enc := D.int) (f := fun x => .int (-x)) l [] (fun x hx => ⟨_, rfl, rfl, by simp⟩) (by simp; omega)
  simp [d_opposite, m_opposite, hc, ng]
theorem flip_ok (l : List Int) (hl : l.length ≤ 1000) : d_law_flip [.tup (zs l)] = .ok (.tup (zs (ng l))) := by
  have hc := compL_map (bt := bName 1) (mt := mYes) (me := mOp1 fNeg (mVar 1)) (ρ := [.im (.tup (zs l)), .un]) (enc := D.int) (f := fun x => .int (-x)) l [] (fun x hx => ⟨_, rfl, rfl, by simp⟩) (by simp; omega)
  simp [d_law_flip, m_law_flip, hc, ng]
/-- sums of products -/
def dt (a b : List Int) : Int := ((List.range a.length).map fun k => a[k]! * b[k]!).sum
theorem okm {B : Nat} {x y : Int} (hx : x.natAbs ≤ 1000000000000000) (hy : y.natAbs ≤ 1000000000000000) : okMul x y = true := okMul_b (by omega) (by omega) (by omega) (by omega)
theorem dot_body {a b : List Int} (hl : b.length = a.length) (h1 : Sm 1000000000000000 a) (h2 : Sm 1000000000000000 b) (h3 : a.length ≤ 1000) :
    compL (bName 2) mYes (mOp2 fMul (mOp2 fIx (mVar 0) (mVar 2)) (mOp2 fIx (mVar 1) (mVar 2))) [.im (.tup (zs a)), .im (.tup (zs b)), .un] ((List.range a.length).map fun (k : Nat) => D.int (k : Int)) [] = .ok (.l (zs ((List.range a.length).map fun k => a[k]! * b[k]!))) := by
  have hc := compL_map (bt := bName 2) (mt := mYes) (me := mOp2 fMul (mOp2 fIx (mVar 0) (mVar 2)) (mOp2 fIx (mVar 1) (mVar 2))) (ρ := [.im (.tup (zs a)), .im (.tup (zs b)), .un]) (enc := fun (k : Nat) => D.int (k : Int)) (f := fun k => .int (a[k]! * b[k]!)) (List.range a.length) [] (fun k hk => by
    have hk : k < a.length := by simpa using hk
    have hk2 : k < b.length := by omega
    refine ⟨_, rfl, rfl, ?_⟩
    have hm : okMul a[k] b[k] = true := okm (h1 _ (List.getElem_mem hk)) (h2 _ (List.getElem_mem hk2)) (B := 0)
    simp [atI_nat, hk, hk2, hm]) (by simp; omega)
  rw [hc]
  simp
theorem dot_ok {a b : List Int} (hl : b.length = a.length) (h1 : Sm 1000000000000000 a) (h2 : Sm 1000000000000000 b) (h3 : a.length ≤ 1000) : d_dot [.tup (zs a), .tup (zs b)] = .ok (.int (dt a b)) := by
  have hr := mRng1_ok (m := mOpA fLen (mCons (mVar 0) mNil)) (ρ := [.im (.tup (zs a)), .im (.tup (zs b)), .un]) (j := (a.length : Int)) a.length (by simp) rfl (by omega)
  have hb := dot_body hl h1 h2 h3
  have e : dt a b = ((List.range a.length).map fun k => a[k]! * b[k]!).sum := rfl
  generalize ((List.range a.length).map fun k => a[k]! * b[k]!) = L at hb e
  rw [e]
  unfold d_dot m_dot
  simp only [runF_d, startE_d, sRet_d, mOpA_d, mCons_d, mFz_d, mLc_d, wipeE_cons, wipeE_nil, List.map_cons, List.map_nil, List.length_cons, List.length_nil, List.cons_append, List.nil_append, List.replicate, List.set]
  rw [hr]
  simp only [bind_ok]
  rw [hb]
  simp
theorem ldot_ok {a b : List Int} (hl : b.length = a.length) (h1 : Sm 1000000000000000 a) (h2 : Sm 1000000000000000 b) (h3 : a.length ≤ 1000) : d_law_dot [.tup (zs a), .tup (zs b)] = .ok (.int (dt a b)) := by
  have e : m_law_dot = m_dot := rfl
  unfold d_law_dot
  rw [e]
  exact dot_ok hl h1 h2 h3
end Cm
namespace Cm
open PySem FL
abbrev N14 : Nat := 1000000000000000
theorem half_ok (x y : Int) : d_half_of [.tup (zs [x, y])] = .ok (.int (hf x y)) := by
  unfold d_half_of m_half_of
  by_cases h1 : 0 < y
  · have : hf x y = 0 := by unfold hf; rw [if_pos (by omega)]
    simp [h1, this]
  · by_cases h2 : y = 0
    · subst h2
      by_cases h3 : 0 < x
      · have : hf x 0 = 0 := by unfold hf; rw [if_pos (by omega)]
        simp [h3, this]
      · have : hf x 0 = 1 := by unfold hf; rw [if_neg (by omega)]
        simp [h3, this]
    · have : hf x y = 1 := by unfold hf; rw [if_neg (by omega)]
      simp [h1, h2, this]
theorem lhalf_ok (x y : Int) : d_law_half [.tup (zs [x, y])] = .ok (.int (hf x y)) := by
  unfold d_law_half m_law_half
  by_cases h1 : 0 < y
  · have : hf x y = 0 := by unfold hf; rw [if_pos (by omega)]
    simp [h1, this]
  · by_cases h2 : y = 0
    · subst h2
      by_cases h3 : 0 < x
      · have : hf x 0 = 0 := by unfold hf; rw [if_pos (by omega)]
        simp [h3, this]
      · have : hf x 0 = 1 := by unfold hf; rw [if_neg (by omega)]
        simp [h3, this]
    · have : hf x y = 1 := by unfold hf; rw [if_neg (by omega)]
      simp [h1, h2, this]
theorem okM {x y : Int} (hx : x.natAbs ≤ N14) (hy : y.natAbs ≤ N14) : okMul x y = true := okm (B := 0) hx hy
theorem Sm.two {B : Nat} {x y : Int} (h : Sm B [x, y]) : x.natAbs ≤ B ∧ y.natAbs ≤ B := ⟨h x (by simp), h y (by simp)⟩
theorem wedge_ok {x y u v : Int} (h1 : Sm N14 [x, y]) (h2 : Sm N14 [u, v]) : d_wedge [.tup (zs [x, y]), .tup (zs [u, v])] = .ok (.int (x * v - y * u)) := by
  have := h1.two
  have := h2.two
  have e1 : okMul x v = true := okM (by omega) (by omega)
  have e2 : okMul y u = true := okM (by omega) (by omega)
  unfold d_wedge m_wedge
  simp [e1, e2]
theorem before_ok {a b : List Int} (la : a.length = 2) (lb : b.length = 2) (h1 : Sm N14 a) (h2 : Sm N14 b) : d_turns_before [.tup (zs a), .tup (zs b)] = .ok (.bl (bef a b)) := by
  match a, b, la, lb with
  | [x, y], [u, v], _, _ =>
    have hw := wedge_ok h1 h2
    have hx := half_ok x y
    have hu := half_ok u v
    unfold d_turns_before m_turns_before
    by_cases h : hf x y = hf u v
    · simp at hw hx hu
      simp [hw, hx, hu, h, bef]
    · simp at hw hx hu
      simp [hw, hx, hu, h, bef]
theorem lbefore_ok {a b : List Int} (la : a.length = 2) (lb : b.length = 2) (h1 : Sm N14 a) (h2 : Sm N14 b) : d_law_before [.tup (zs a), .tup (zs b)] = .ok (.bl (bef a b)) := by
  match a, b, la, lb with
  | [x, y], [u, v], _, _ =>
    have hx := lhalf_ok x y
    have hu := lhalf_ok u v
    have := h1.two
    have := h2.two
    have e1 : okMul x v = true := okM (by omega) (by omega)
    have e2 : okMul y u = true := okM (by omega) (by omega)
    unfold d_law_before m_law_before
    by_cases h : hf x y = hf u v
    · simp at hx hu
      simp [hx, hu, h, bef, e1, e2]
    · simp at hx hu
      simp [hx, hu, h, bef]
theorem quarter_ok (x y : Int) : d_quarter [.tup (zs [x, y])] = .ok (.tup (zs [-y, x])) := by
  unfold d_quarter m_quarter
  simp
def cr : List Int → List Int → List Int
  | [a, b, c], [u, v, w] => [b * w - c * v, c * u - a * w, a * v - b * u]
  | _, _ => []
theorem cross_ok {a b c u v w : Int} (h1 : Sm N14 [a, b, c]) (h2 : Sm N14 [u, v, w]) : d_cross [.tup (zs [a, b, c]), .tup (zs [u, v, w])] = .ok (.tup (zs (cr [a, b, c] [u, v, w]))) := by
  have k : ∀ x ∈ [a, b, c], ∀ y ∈ [u, v, w], okMul x y = true := fun x hx y hy => okM (h1 x hx) (h2 y hy)
  simp at k
  unfold d_cross m_cross
  simp [k, cr]
/-- binary search -/
theorem place_ok {B : Nat} {l : List (List Int)} {m : List Int} (hB : B ≤ N14) (hl : l.length ≤ 1000) (hp : ∀ a ∈ l, Pl B a) (hm : Pl B m) (hs : Srt l) :
    wpr (d_place_in_turn [.lst (l.map fun a => .tup (zs a)), .tup (zs m)]) fun d => ∃ p : Nat, d = .int p ∧ p ≤ l.length ∧ (∀ a ∈ l.take p, bef a m = true) ∧ (∀ a ∈ l.drop p, bef a m = false) := by
  refine wpr_F (wps_nx rfl (wps_nx (by simp; rfl) (wps_seq ?_)))
  refine wps_while (fun ρ => ∃ (lo hi : Nat) (z : Sl), ρ = [.im (.lst (l.map fun a => .tup (zs a))), .im (.tup (zs m)), .im (.int (lo : Int)), .im (.int (hi : Int)), z] ∧ lo ≤ hi ∧ hi ≤ l.length ∧ (∀ a ∈ l.take lo, bef a m = true) ∧ (∀ a ∈ l.drop hi, bef a m = false))
    (fun ρ => match ρ with | [_, _, .im (.int lo), .im (.int hi), _] => (hi - lo).toNat | _ => 0) ⟨0, l.length, .un, by simp, by omega, by omega, by simp, by simp⟩ ?_
  rintro ρ ⟨lo, hi, z, rfl, h1, h2, h3, h4⟩
  refine ⟨decide ((lo : Int) < (hi : Int)), by simp, fun h => ?_, fun h => ?_⟩
  · have hlt : lo < hi := by have := of_decide_eq_true h; omega
    have hd : okDiv ((lo : Int) + (hi : Int)) 2 = true := okDiv_small (by decide) (by decide)
    have ea : ((lo : Int) + (hi : Int)).fdiv 2 = (((lo + hi) / 2 : Nat) : Int) := by
      rw [Int.fdiv_eq_ediv_of_nonneg _ (by decide)]; omega
    generalize hat : (lo + hi) / 2 = t at *
    have ht : t < l.length := by omega
    have hmem := List.getElem_mem ht
    have hb := before_ok (hp _ hmem).1 hm.1 (fun x hx => Nat.le_trans ((hp _ hmem).2.2 x hx) hB) (fun x hx => Nat.le_trans (hm.2.2 x hx) hB)
    refine wps_nx (ρ1 := [.im (.lst (l.map fun a => .tup (zs a))), .im (.tup (zs m)), .im (.int (lo : Int)), .im (.int (hi : Int)), .im (.int (t : Int))]) (by simp [hd, ea]) ?_
    have hg : (l.map fun a => D.tup (zs a))[t]? = some (.tup (zs l[t])) := by simp [ht]
    unfold Srt at hs
    refine wps_if (k := bef l[t] m) (by simp only [mTru_d, mCall_d, mCons_d, mOp2_d, mVar_d, mNil_d, List.getElem?_cons_zero, List.getElem?_cons_succ, bind_ok, fIx_l, atI_nat, hg, ofO_some, List.length_cons, List.length_nil, if_true, hb, tru_bl]) (fun hk => ?_) (fun hk => ?_)
    · refine wps_n (ρ := [.im (.lst (l.map fun a => .tup (zs a))), .im (.tup (zs m)), .im (.int ((t + 1 : Nat) : Int)), .im (.int (hi : Int)), .im (.int (t : Int))]) (by simp) ?_
      refine ⟨⟨t + 1, hi, _, rfl, by omega, h2, fun a ha => ?_, h4⟩, ?_⟩
      · obtain ⟨i, hi', rfl⟩ := List.mem_take_iff_getElem.mp ha
        rcases Nat.lt_or_ge i t with hit | hit
        · have hii : i < l.length := by omega
          have := List.pairwise_iff_getElem.mp hs i t hii ht hit
          exact (hp _ (List.getElem_mem hii)).trans (hp _ hmem) hm this hk
        · have : i = t := by omega
          subst this
          exact hk
      · show ((hi : Int) - ((t + 1 : Nat) : Int)).toNat < ((hi : Int) - (lo : Int)).toNat
        omega
    · refine wps_n (ρ := [.im (.lst (l.map fun a => .tup (zs a))), .im (.tup (zs m)), .im (.int (lo : Int)), .im (.int (t : Int)), .im (.int (t : Int))]) (by simp) ?_
      refine ⟨⟨lo, t, _, rfl, by omega, by omega, h3, fun a ha => ?_⟩, ?_⟩
      · obtain ⟨i, hi', rfl⟩ := List.mem_drop_iff_getElem.mp ha
        rcases Nat.eq_zero_or_pos i with rfl | hi0
        · simpa using hk
        · have hii : t + i < l.length := by omega
          have h5 := List.pairwise_iff_getElem.mp hs t (t + i) ht hii (by omega)
          cases q : bef l[t + i] m with
          | false => rfl
          | true =>
            have := (hp _ hmem).trans (hp _ (List.getElem_mem hii)) hm h5 q
            rw [hk] at this; cases this
      · show ((t : Int) - (lo : Int)).toNat < ((hi : Int) - (lo : Int)).toNat
        omega
  · have : lo = hi := by have := of_decide_eq_false h; omega
    subst this
    exact wps_r rfl ⟨lo, rfl, h2, h3, h4⟩
end Cm
namespace Cm
open PySem FL L2
abbrev kz (l : List Int) : List Key := l.map Sum.inl
theorem keysOf_zs : ∀ l : List Int, keysOf (zs l) = some (kz l)
  | [] => rfl
  | a :: l => by
    show (match keyOf (.int a), keysOf (zs l) with | some k, some ks => some (k :: ks) | _, _ => none) = _
    rw [keysOf_zs l]; rfl
theorem kz_inj {a b : List Int} (h : kz a = kz b) : a = b := by
  refine (List.map_inj_right (fun x y e => ?_)).mp h
  exact Sum.inl.inj e
theorem hasK_snoc (ks : List (List Key)) (k j : List Key) : hasK (ks ++ [k]) j = (hasK ks j || decide (k = j)) := by simp [hasK]
abbrev B8 : Nat := 100000000
/-- an arrow of the plane -/
def Ar (B : Nat) (a : List Int) : Prop := a.length = 2 ∧ (∃ x ∈ a, x ≠ 0) ∧ Sm B a
theorem Ar.pl {B : Nat} {a : List Int} (h : Ar B a) : Pl B (sh a) := ⟨by rw [sh_length, h.1], gl_sh h.2.1, sh_le h.2.1 h.2.2⟩
abbrev et (a : List Int) : D := .tup (zs a)
theorem turn_ok {A : List (List Int)} (hl : A.length ≤ 100) (ha : ∀ a ∈ A, Ar B8 a) : wpr (d_by_turn [.tup (A.map et)]) fun d => ∃ L : List (List Int), d = .tup (L.map et) ∧ Srt L ∧ (∀ a ∈ L, Pl B8 a) ∧ (∀ a, a ∈ L ↔ a ∈ A.map sh) ∧ L.length ≤ A.length := by
  refine wpr_F (wps_nx (by simp; rfl) (wps_nx rfl (wps_seq ?_)))
  refine wps_for A et rfl (fun pre ρ => ∃ (L : List (List Int)) (ks : List (List Key)) (vs : List D) (z1 z2 : Sl), ρ = [.im (.tup (A.map et)), .ow false (.l (L.map et)), .ow false (.t ks vs), z1, z2] ∧ Srt L ∧ (∀ a ∈ L, Pl B8 a) ∧ (∀ a, a ∈ L ↔ a ∈ pre.map sh) ∧ (∀ m, hasK ks (kz m) = decide (m ∈ L)) ∧ ks.length = L.length ∧ L.length ≤ pre.length)
    ⟨[], [], [], .un, .un, rfl, List.Pairwise.nil, by simp, by simp, by simp [hasK], rfl, by simp⟩ ?_ ?_
  · rintro pre x post ρ e ⟨L, ks, vs, z1, z2, rfl, h1, h2, h3, h4, h5, h6⟩
    have hx := ha x (by rw [e]; simp)
    have hp := plain_ok hx.2.1 hx.2.2 (by rw [hx.1]; decide)
    have hpl := hx.pl
    have hlen : L.length ≤ 100 := by
      have := congrArg List.length e
      simp at this; omega
    generalize hm : sh x = m at *
    refine ⟨_, rfl, ?_⟩
    refine wps_nx (ρ1 := [.im (.tup (A.map et)), .ow false (.l (L.map et)), .ow false (.t ks vs), .im (et x), .im (et m)]) (by simp [hp]) ?_
    have hin : gNotIn (et m) (.dit ks vs) = some (.bl (!decide (m ∈ L))) := by
      unfold gNotIn dmap
      simp only [keysOf_zs, Option.map_some, h4]
    refine wps_if (k := !decide (m ∈ L)) (by simp [hin]) (fun hk => ?_) (fun hk => ?_)
    · have hn : m ∉ L := by simpa using hk
      have hput : putKs ks (kz m) = ks ++ [kz m] := by
        unfold putKs
        rw [h4, if_neg (by simpa using hn)]
      refine wps_nx (ρ1 := [.im (.tup (A.map et)), .ow false (.l (L.map et)), .ow false (.t (ks ++ [kz m]) (putVs ks vs (kz m) (.bl true))), .im (et x), .im (et m)]) ?_ ?_
      · have hks : ks.length < 16777215 := by omega
        simp [sPut, keysOf_zs, hks, hput]
      · obtain ⟨d, hd, p, rfl, q1, q2, q3⟩ := place_ok (B := B8) (by decide) (by omega) h2 hpl h1
        have hd : d_place_in_turn [.lst (L.map et), et m] = .ok (.int p) := hd
        have h9 : (p : Int) < 9223372036854775808 := by omega
        have h10 : L.length < 16777215 := by omega
        refine wps_n (ρ := [.im (.tup (A.map et)), .ow false (.l ((L.take p ++ [m] ++ L.drop p).map et)), .ow false (.t (ks ++ [kz m]) (putVs ks vs (kz m) (.bl true))), .im (et x), .im (et m)]) ?_ ?_
        · simp only [sIns_d, List.getElem?_cons_succ, List.getElem?_cons_zero, mCons_d, mBor_d, frz1_d, Cnd_l, List.set_cons_succ, List.set_cons_zero, mCall_d, mVar_d, bind_ok, mNil_d, List.length_cons, List.length_nil, if_true, hd, scalD_int, runE_ok]
          rw [if_pos ⟨by simpa using h10, by omega, h9⟩]
          simp [List.map_take, List.map_drop]
        · refine ⟨_, _, _, _, _, rfl, srt_ins h1 q2 (fun a ha => ?_), fun a ha => ?_, fun a => ?_, fun a => ?_, ?_, ?_⟩
          · have q := q3 a ha
            have hmem : a ∈ L := List.mem_of_mem_drop ha
            rcases hpl.tri (h2 a hmem) (fun e => hn (e ▸ hmem)) with h | h
            · exact h
            · rw [q] at h; cases h
          · have : a ∈ L ∨ a = m := by
              simp only [List.mem_append, List.mem_singleton] at ha
              rcases ha with (ha | ha) | ha
              · exact .inl (List.mem_of_mem_take ha)
              · exact .inr ha
              · exact .inl (List.mem_of_mem_drop ha)
            rcases this with h | rfl
            · exact h2 a h
            · exact hpl
          · have : a ∈ L.take p ++ [m] ++ L.drop p ↔ a ∈ L ∨ a = m := by
              conv => rhs; rw [← List.take_append_drop p L]
              simp only [List.mem_append, List.mem_singleton]
              constructor
              · rintro ((h | h) | h)
                · exact .inl (.inl h)
                · exact .inr h
                · exact .inl (.inr h)
              · rintro ((h | h) | h)
                · exact .inl (.inl h)
                · exact .inr h
                · exact .inl (.inr h)
            rw [this, h3]
            simp only [List.map_append, List.map_cons, List.map_nil, List.mem_append, List.mem_singleton, hm]
          · have : a ∈ L.take p ++ [m] ++ L.drop p ↔ a ∈ L ∨ a = m := by
              conv => rhs; rw [← List.take_append_drop p L]
              simp only [List.mem_append, List.mem_singleton]
              constructor
              · rintro ((h | h) | h)
                · exact .inl (.inl h)
                · exact .inr h
                · exact .inl (.inr h)
              · rintro ((h | h) | h)
                · exact .inl (.inl h)
                · exact .inr h
                · exact .inl (.inr h)
            rw [hasK_snoc, h4]
            by_cases e1 : a ∈ L
            · simp only [e1, this, true_or, decide_true, Bool.true_or]
            · have : a ∈ L.take p ++ [m] ++ L.drop p ↔ a = m := by rw [this]; simp [e1]
              simp only [e1, this, decide_false, Bool.false_or]
              by_cases e2 : m = a
              · subst e2; simp
              · have : kz m ≠ kz a := fun z => e2 (kz_inj z)
                have : ¬ a = m := fun z => e2 z.symm
                simp_all
          · simp [h5]; omega
          · simp; omega
    · have hn : m ∈ L := by simpa using hk
      refine wps_some ⟨L, ks, vs, _, _, rfl, h1, h2, fun a => ?_, h4, h5, by simp; omega⟩
      rw [List.map_append, List.mem_append, ← h3]
      simp only [List.map_cons, List.map_nil, List.mem_singleton, hm]
      constructor
      · exact .inl
      · rintro (h | rfl)
        · exact h
        · exact hn
  · rintro ρ ⟨L, ks, vs, z1, z2, rfl, h1, h2, h3, h4, h5, h6⟩
    exact wps_r (d := .tup (L.map et)) (by simp) ⟨L, rfl, h1, h2, h3, h6⟩
end Cm
namespace Cm
open PySem FL L2
theorem arrow_ok (c : Int) (n : Nat) (h1 : 1 ≤ n) (h3 : n ≤ 3) : wpr (d_law_arrow [.int c, .int (n : Int)]) fun d => ∃ l, d = et l ∧ l.length = n ∧ (∃ x ∈ l, x ≠ 0) ∧ Sm 1000000 l := by
  refine wpr_F (wps_seq ?_)
  obtain ⟨d, hd, row, rfl, hr⟩ := digits_ok c [8, 2000001, 2000001, 2000001] (by decide) (by decide)
  obtain ⟨a, b, e, f, rfl⟩ : ∃ a b e f, row = [a, b, e, f] := by
    match row, hr.1 with
    | [a, b, e, f], _ => exact ⟨a, b, e, f, rfl⟩
  have ha := hr.2 0 a 8 rfl rfl
  have hd' : d_law_digits [.int c, .lst [.int 8, .int 2000001, .int 2000001, .int 2000001]] = .ok (.lst (zs [a, b, e, f])) := hd
  have hrep : repD [D.int 2000001] 3 = [.int 2000001, .int 2000001, .int 2000001] := rfl
  refine wps_n (ρ := [.im (.int c), .im (.int n), .im (.lst (zs [a, b, e, f])), .un, .un, .un, .un]) (by simp [hrep, hd']) ?_
  obtain ⟨s, hs, hs1, hs2⟩ : ∃ s : Int, atI (zs [9, 9, 9, 2, 1000, 1000000, 9, 1]) a = some (.int s) ∧ 0 < s ∧ s ≤ 1000000 := by
    obtain ⟨j, rfl⟩ := Int.eq_ofNat_of_zero_le ha.1
    rw [FL.atI_nat]
    have : j < 8 := by omega
    match j, this with
    | 0, _ => exact ⟨_, rfl, by decide, by decide⟩
    | 1, _ => exact ⟨_, rfl, by decide, by decide⟩
    | 2, _ => exact ⟨_, rfl, by decide, by decide⟩
    | 3, _ => exact ⟨_, rfl, by decide, by decide⟩
    | 4, _ => exact ⟨_, rfl, by decide, by decide⟩
    | 5, _ => exact ⟨_, rfl, by decide, by decide⟩
    | 6, _ => exact ⟨_, rfl, by decide, by decide⟩
    | 7, _ => exact ⟨_, rfl, by decide, by decide⟩
  have hs' : atI [D.int 9, .int 9, .int 9, .int 2, .int 1000, .int 1000000, .int 9, .int 1] a = some (.int s) := hs
  refine wps_nx (ρ1 := [.im (.int c), .im (.int n), .im (.lst (zs [a, b, e, f])), .im (.int s), .un, .un, .un]) (by simp [hs']) ?_
  let g : Nat → Int := fun k => ([a, b, e, f][k + 1]!).fmod (2 * s + 1) - s
  have hm : okMul 2 s = true := okMul_b (by omega) (by omega) (by omega) (by omega)
  have hne : 2 * s + 1 ≠ 0 := by omega
  have hr2 := mRng1_ok (m := mVar 1) (ρ := [.im (.int c), .im (.int n), .im (.lst (zs [a, b, e, f])), .im (.int s), .un, .un, .un]) (j := (n : Int)) n (by simp) rfl (by omega)
  have hc := compL_map (bt := bName 5) (mt := mYes) (me := (mOp2 fSub (mOp2 fMod (mOpA fInt (mCons (mOp2 fIx (mVar 2) (mOp2 fAdd (mI 1) (mVar 5))) mNil)) (mOp2 fAdd (mOp2 fMul (mI 2) (mVar 3)) (mI 1))) (mVar 3)))
    (ρ := [.im (.int c), .im (.int n), .im (.lst (zs [a, b, e, f])), .im (.int s), .un, .un, .un]) (enc := fun (k : Nat) => D.int (k : Int)) (f := fun k => .int (g k)) (List.range n) [] (fun k hk => by
      have hk : k < n := by simpa using hk
      have hk2 : k + 1 < [a, b, e, f].length := by simp; omega
      refine ⟨_, rfl, rfl, ?_⟩
      have h4 : atI (zs [a, b, e, f]) (1 + (k : Int)) = some (.int ([a, b, e, f][k + 1]!)) := by
        rw [FL.atI_of (k := k + 1) (by omega), List.getElem?_map, List.getElem?_eq_getElem hk2, List.getElem!_eq_getElem?_getD, List.getElem?_eq_getElem hk2]; rfl
      show mOp2 fSub _ _ _ = _
      simp only [mOp2_d, mOpA_d, mVar_d, mC_d, mCons_d, mNil_d, List.set_cons_succ, List.set_cons_zero, List.getElem?_cons_succ, List.getElem?_cons_zero, bind_ok, fAdd_ii, ofO_some, fIx_l, h4, fInt_i, fMul_ii, hm, if_true, fMod_ii, if_pos hne, fSub_ii]
      rfl) (by simp; omega)
  refine wps_nx (ρ1 := [.im (.int c), .im (.int n), .im (.lst (zs [a, b, e, f])), .im (.int s), .im (et ((List.range n).map g)), .un, .un]) ?_ ?_
  · simp only [sSet_d, mOpA_d, mCons_d, mFz_d, mLc_d, wipeE_cons, wipeE_nil, List.set_cons_succ, List.set_cons_zero]
    rw [hr2, bind_ok, hc]
    simp
  have hgb : ∀ k, -1000000 ≤ g k ∧ g k ≤ 1000000 := fun k => by
    show -1000000 ≤ Int.fmod _ _ - s ∧ Int.fmod _ _ - s ≤ 1000000
    rw [Int.fmod_eq_emod_of_nonneg _ (by omega)]
    have h1 := Int.emod_nonneg ([a, b, e, f][k + 1]!) hne
    have h2 := Int.emod_lt_of_pos ([a, b, e, f][k + 1]!) (show 0 < 2 * s + 1 by omega)
    omega
  generalize hl : (List.range n).map g = l
  have hll : l.length = n := by rw [← hl]; simp
  have hlb : Sm 1000000 l := by
    intro x hx
    rw [← hl] at hx
    obtain ⟨k, _, rfl⟩ := List.mem_map.mp hx
    have := hgb k
    omega
  have hc2 := compL_map (bt := bName 6) (mt := mYes) (me := mOp2 fNe (mVar 6) (mI 0)) (ρ := [.im (.int c), .im (.int n), .im (.lst (zs [a, b, e, f])), .im (.int s), .im (et l), .un, .un]) (enc := D.int) (f := fun x => .bl (!decide (x = 0))) l [] (fun x hx => ⟨_, rfl, rfl, by simp⟩) (by simp; omega)
  have hb : l.map (fun x => D.bl (!decide (x = 0))) = bls (l.map fun x => !decide (x = 0)) := by simp
  rw [hb] at hc2
  refine wps_seq (wps_if (k := !(l.map fun x => !decide (x = 0)).any id) ?_ (fun hk => ?_) (fun hk => ?_))
  · simp only [mtNot_d, mTru_d, mOpA_d, mCons_d, mFz_d, mLc_d, mSeq_d, mVar_d, wipeE_cons, wipeE_nil, List.set_cons_succ, List.set_cons_zero, List.getElem?_cons_succ, List.getElem?_cons_zero, bind_ok, elems_tup, ofO_some]
    rw [hc2]
    generalize (l.map fun x => !decide (x = 0)) = L
    simp
  · have h9 : okMul 1 1 = true := by decide
    refine wps_r (d := et (List.replicate (n - 1) 0 ++ [1])) ?_ ⟨_, rfl, by simp; omega, ⟨1, by simp, by decide⟩, ?_⟩
    · have hcase : n = 1 ∨ n = 2 ∨ n = 3 := by omega
      clear hc hc2 hr2 hgb hl hll
      rcases hcase with rfl | rfl | rfl
      · simp [repD]
      · simp [repD]
      · simp [repD]
    · intro x hx
      rcases List.mem_append.mp hx with h | h
      · rw [List.eq_of_mem_replicate h]; decide
      · simp at h; subst h; decide
  · refine wps_some (wps_r (d := et l) (by simp) ⟨l, rfl, hll, ?_, hlb⟩)
    simp at hk
    exact hk
theorem ng_ng : ∀ l : List Int, ng (ng l) = l
  | [] => rfl
  | a :: l => by show - -a :: ng (ng l) = _; rw [ng_ng l, Int.neg_neg]
theorem ng_sm {B : Nat} {l : List Int} (h : Sm B l) : Sm B (ng l) := by
  intro x hx
  obtain ⟨y, hy, rfl⟩ := List.mem_map.mp hx
  rw [Int.natAbs_neg]; exact h y hy
theorem dt_self (l : List Int) : dt l l = (l.map fun x => x * x).sum := by
  unfold dt
  congr 1
  apply List.ext_getElem
  · simp
  · intro i h1 h2
    have hi : i < l.length := by simpa using h1
    simp [hi]
theorem single_ok {l : List Int} (h : ∃ x ∈ l, x ≠ 0) (hb : Sm 100000000 l) (hl : l.length ≤ 1000) : d_law_single [et l] = .ok (.bl true) := by
  have hp := plain_ok h hb hl
  have hs := short_ok h hb hl
  have hp2 := plain_ok (sh_nz h) (sh_le h hb) (by rw [sh_length]; exact hl)
  rw [sh_sh h] at hp2
  have ho := opp_ok l hl
  have hf := flip_ok l hl
  have ho2 := opp_ok (ng l) (by simpa [ng] using hl)
  rw [ng_ng] at ho2
  have hb14 : Sm 1000000000000000 l := fun x hx => Nat.le_trans (hb x hx) (by decide)
  have hdt := dot_ok (a := l) (b := l) rfl hb14 hb14 hl
  rw [dt_self] at hdt
  have hc := compL_map (bt := bName 2) (mt := mYes) (me := mOp2 fMul (mVar 2) (mVar 2)) (ρ := [.im (et l), .im (et (sh l)), .un]) (enc := D.int) (f := fun x => .int (x * x)) l [] (fun x hx => ⟨_, rfl, rfl, by
    have hm : okMul x x = true := okm (B := 0) (hb14 x hx) (hb14 x hx)
    simp [hm]⟩) (by simp; omega)
  have e : l.map (fun x => D.int (x * x)) = zs (l.map fun x => x * x) := by simp
  rw [e] at hc
  generalize l.map (fun x => x * x) = L at hc hdt
  refine wpr_eq (wpr_F (wps_nx (ρ1 := [.im (et l), .im (et (sh l)), .un]) (by simp [hp]) ?_))
  refine wps_nx (ρ1 := [.im (et l), .im (et (sh l)), .un]) ?_ ?_
  · simp only [sIf_d, mtOr_d, mtNot_d, mTru_d, mIsiTy_d, mVar_d, List.getElem?_cons_succ, List.getElem?_cons_zero, bind_ok, isi_tuple_tup, ofO_some, tru_bl, Bool.not_true, mTst_d, mOp2_d, mCall_d, mCons_d, mNil_d, List.length_cons, List.length_nil, if_true, hs, fNe_tt, decide_true, isBl_bl, hp2, runE_ok, sNop_d, Bool.false_eq_true, if_false]
  refine wps_nx (ρ1 := [.im (et l), .im (et (sh l)), .un]) ?_ ?_
  · simp only [sIf_d, mtOr_d, mtNot_d, mTru_d, mIsiTy_d, mVar_d, List.getElem?_cons_succ, List.getElem?_cons_zero, bind_ok, isi_tuple_tup, ofO_some, tru_bl, Bool.not_true, mTst_d, mOp2_d, mCall_d, mCons_d, mNil_d, List.length_cons, List.length_nil, if_true, ho, hf, ho2, fNe_tt, decide_true, isBl_bl, hp2, runE_ok, sNop_d, Bool.false_eq_true, if_false]
  refine wps_r (d := .bl true) ?_ rfl
  simp only [sRet_d, mOp2_d, mCall_d, mCons_d, mNil_d, mVar_d, List.getElem?_cons_succ, List.getElem?_cons_zero, bind_ok, List.length_cons, List.length_nil, if_true, hdt, mOpA_d, mFz_d, mLc_d, mSeq_d, elems_tup, ofO_some, wipeE_cons, wipeE_nil, List.set_cons_succ, List.set_cons_zero]
  rw [hc]
  simp
end Cm
namespace Cm
open PySem FL L2
theorem notin_l (x : List Int) (l : List (List Int)) : gNotIn (et x) (.lst (l.map et)) = some (.bl (!decide (x ∈ l))) := by
  have h1 : shp (.lst (l.map et)) = true := shp_lti l
  have h2 : inD (et x) (l.map et) = decide (x ∈ l) := inD_tups x l
  show fNotIn (et x) (.lst (l.map et)) = _
  simp only [fNotIn, shp_ti, h1, h2, Bool.and_self, if_true]
theorem notin_t (x : List Int) (l : List (List Int)) : gNotIn (et x) (.tup (l.map et)) = some (.bl (!decide (x ∈ l))) := by
  have h1 : shp (.tup (l.map et)) = true := shp_tti l
  have h2 : inD (et x) (l.map et) = decide (x ∈ l) := inD_tups x l
  show fNotIn (et x) (.tup (l.map et)) = _
  simp only [fNotIn, shp_ti, h1, h2, Bool.and_self, if_true]
theorem b14 {l : List Int} (h : Sm B8 l) : Sm N14 l := fun x hx => Nat.le_trans (h x hx) (by decide)
theorem Pl.b14 {a : List Int} (h : Pl B8 a) : Sm N14 a := Cm.b14 h.2.2
/-- all numbers are whole -/
theorem wholes {ρ : En} (i : Nat) (l : List Int) (hi : i < ρ.length) (hl : l.length ≤ 1000) : compL (bName i) mYes (mCall 1 d_law_whole (mCons (mVar i) mNil)) ρ (l.map D.int) [] = .ok (.l (bls (l.map fun _ => true))) := by
  have hc := compL_map (bt := bName i) (mt := mYes) (me := mCall 1 d_law_whole (mCons (mVar i) mNil)) (ρ := ρ) (enc := D.int) (f := fun _ => .bl true) l [] (fun x hx => ⟨_, rfl, rfl, by
    simp [hi, whole_int]⟩) (by simp; omega)
  rw [hc]
  simp
theorem all_true {α : Type} (l : List α) : (l.map fun _ => true).all id = true := by simp
theorem plane_ok {A : List (List Int)} (hl : A.length ≤ 100) (ha : ∀ a ∈ A, Ar B8 a) : d_law_plane [.lst (A.map et)] = .ok (.bl true) := by
  obtain ⟨d, hd, L, rfl, h1, h2, h3, h4⟩ := turn_ok hl ha
  refine wpr_eq (wpr_F (wps_nx (ρ1 := [.im (.lst (A.map et)), .im (.tup (L.map et)), .un, .un, .un, .un]) (by simp [hd]) ?_))
  refine wps_nx (ρ1 := [.im (.lst (A.map et)), .im (.tup (L.map et)), .un, .un, .un, .un]) (by simp [isi_tuple_tup]) (wps_seq ?_)
  have hr := mRng2_ok (m := mI 1) (m' := mOpA fLen (mCons (mVar 1) mNil)) (ρ := [.im (.lst (A.map et)), .im (.tup (L.map et)), .un, .un, .un, .un]) (i := 1) (j := (L.length : Int)) (L.length - 1) rfl (by simp) (by omega) (by omega) (by omega)
  refine wps_for (List.range (L.length - 1)) (fun (k : Nat) => D.int (1 + (k : Int))) hr (fun _ ρ => ∃ z, ρ = [.im (.lst (A.map et)), .im (.tup (L.map et)), z, .un, .un, .un]) ⟨_, rfl⟩ ?_ ?_
  · rintro pre k post ρ e ⟨z, rfl⟩
    obtain ⟨-, hk⟩ := range_split e
    have k0 : k < L.length := by omega
    have k1 : k + 1 < L.length := by omega
    have hb := lbefore_ok (h2 _ (List.getElem_mem k0)).1 (h2 _ (List.getElem_mem k1)).1 (h2 _ (List.getElem_mem k0)).b14 (h2 _ (List.getElem_mem k1)).b14
    have hs : bef L[k] L[k + 1] = true := List.pairwise_iff_getElem.mp h1 k (k + 1) k0 k1 (by omega)
    rw [hs] at hb
    have g0 : atI (L.map et) (1 + (k : Int) - 1) = some (et L[k]) := by rw [FL.atI_of (k := k) (by omega)]; simp [k0]
    have g1 : atI (L.map et) (1 + (k : Int)) = some (et L[k + 1]) := by rw [FL.atI_of (k := k + 1) (by omega)]; simp [k1]
    refine ⟨_, rfl, wps_n (ρ := [.im (.lst (A.map et)), .im (.tup (L.map et)), .im (.int (1 + (k : Int))), .un, .un, .un]) ?_ ⟨_, rfl⟩⟩
    simp only [sIf_d, mtNot_d, mTru_d, mCall_d, mCons_d, mNil_d, mOp2_d, mVar_d, mC_d, List.set_cons_succ, List.set_cons_zero, List.getElem?_cons_succ, List.getElem?_cons_zero, bind_ok, fSub_ii, ofO_some, fIx_t, g0, g1, List.length_cons, List.length_nil, if_true, hb, tru_bl, Bool.not_true, runE_ok, Bool.false_eq_true, if_false, sNop_d]
  · rintro ρ ⟨z, rfl⟩
    have hc := compL_map (bt := bName 3) (mt := mYes) (me := mCall 1 d_law_short (mCons (mVar 3) mNil)) (ρ := [.im (.lst (A.map et)), .im (.tup (L.map et)), z, .un, .un, .un]) (enc := et) (f := fun a => et (sh a)) A [] (fun a hx => ⟨_, rfl, rfl, by
      have := short_ok (ha a hx).2.1 (ha a hx).2.2 (by rw [(ha a hx).1]; decide)
      simp [this]⟩) (by simp; omega)
    have em : A.map (fun a => et (sh a)) = (A.map sh).map et := by rw [List.map_map]; rfl
    rw [em] at hc
    have hSl : (A.map sh).length ≤ 100 := by simpa using hl
    generalize A.map sh = S at hc h3 hSl
    refine wps_nx (ρ1 := [.im (.lst (A.map et)), .im (.tup (L.map et)), z, .un, .im (.lst (S.map et)), .un]) ?_ (wps_seq ?_)
    · simp only [sSet_d, mFz_d, mLc_d, mSeq_d, mVar_d, wipeE_cons, wipeE_nil, List.set_cons_succ, List.set_cons_zero, List.getElem?_cons_succ, List.getElem?_cons_zero, bind_ok, elems_lst, ofO_some]
      rw [hc]
      simp only [bind_ok, Cnd_l, List.nil_append, runE_ok]
    refine wps_for L et rfl (fun _ ρ => ∃ w, ρ = [.im (.lst (A.map et)), .im (.tup (L.map et)), z, w, .im (.lst (S.map et)), .un]) ⟨_, rfl⟩ ?_ ?_
    · rintro pre a post ρ e ⟨w, rfl⟩
      have hm : a ∈ L := by rw [e]; simp
      have hw := wholes (ρ := [.im (.lst (A.map et)), .im (.tup (L.map et)), z, .im (et a), .im (.lst (S.map et)), .un]) 5 a (by simp) (by rw [(h2 a hm).1]; decide)
      have hn := notin_l a S
      rw [decide_eq_true ((h3 a).mp hm)] at hn
      refine ⟨_, rfl, wps_n (ρ := [.im (.lst (A.map et)), .im (.tup (L.map et)), z, .im (et a), .im (.lst (S.map et)), .un]) ?_ ⟨_, rfl⟩⟩
      simp only [sIf_d, mtOr_d, mtNot_d, mTru_d, mIsiTy_d, mTst_d, mOp2_d, mVar_d, List.set_cons_succ, List.set_cons_zero, List.getElem?_cons_succ, List.getElem?_cons_zero, bind_ok, isi_tuple_tup, ofO_some, tru_bl, Bool.not_true, hn, isBl_bl, mOpA_d, mCons_d, mNil_d, mFz_d, mLc_d, mSeq_d, elems_tup, wipeE_cons, wipeE_nil, hw, Cnd_l, fAll_l, blsOf_bls, Option.map_some, all_true, runE_ok, Bool.false_eq_true, if_false, sNop_d]
    · rintro ρ ⟨w, rfl⟩
      have hc2 := compL_map (bt := bName 3) (mt := mYes) (me := mOp2 gNotIn (mVar 3) (mVar 1)) (ρ := [.im (.lst (A.map et)), .im (.tup (L.map et)), z, .un, .im (.lst (S.map et)), .un]) (enc := et) (f := fun a => .bl (!decide (a ∈ L))) S [] (fun a hx => ⟨_, rfl, rfl, by simp [notin_t]⟩) (by simp; omega)
      have e3 : S.map (fun a => D.bl (!decide (a ∈ L))) = bls (S.map fun a => !decide (a ∈ L)) := by simp
      have e4 : (S.map fun a => !decide (a ∈ L)).any id = false := by
        rw [List.any_eq_false]
        intro b hb
        obtain ⟨a, h, rfl⟩ := List.mem_map.mp hb
        simp [(h3 a).mpr h]
      rw [e3] at hc2
      refine wps_r (d := .bl true) ?_ rfl
      simp only [sRet_d, mNot_d, mOpA_d, mCons_d, mNil_d, mFz_d, mLc_d, mSeq_d, mVar_d, List.set_cons_succ, List.set_cons_zero, List.getElem?_cons_succ, List.getElem?_cons_zero, bind_ok, elems_lst, ofO_some, wipeE_cons, wipeE_nil, hc2, Cnd_l, List.nil_append, fAny_l, blsOf_bls, Option.map_some, e4, isBl_bl, runE_ok, Bool.not_false]
theorem dt3 (a b c u v w : Int) : dt [a, b, c] [u, v, w] = a * u + b * v + c * w := by
  have : List.range 3 = [0, 1, 2] := rfl
  simp [dt, this]
  omega
theorem space_ok {l m : List Int} (hl : l.length = 3) (hm : m.length = 3) (h1 : Sm 10000000 l) (h2 : Sm 10000000 m) : d_law_space [et l, et m] = .ok (.bl true) := by
  have k1 : Sm N14 l := fun x hx => Nat.le_trans (h1 x hx) (by decide)
  have k2 : Sm N14 m := fun x hx => Nat.le_trans (h2 x hx) (by decide)
  have q1 : ∀ x ∈ l, ∀ y ∈ m, okMul x y = true := fun x hx y hy => okM (k1 x hx) (k2 y hy)
  have q2 : ∀ y ∈ m, ∀ x ∈ l, okMul y x = true := fun y hy x hx => okM (k2 y hy) (k1 x hx)
  obtain ⟨a, b, c, el⟩ : ∃ a b c, l = [a, b, c] := by
    match l, hl with
    | [a, b, c], _ => exact ⟨a, b, c, rfl⟩
  obtain ⟨u, v, w, em⟩ : ∃ u v w, m = [u, v, w] := by
    match m, hm with
    | [a, b, c], _ => exact ⟨a, b, c, rfl⟩
  have hx : d_cross [et l, et m] = .ok (et (cr l m)) := by subst el em; exact cross_ok k1 k2
  have B : ∀ {x y s t : Int}, x.natAbs ≤ 10000000 → y.natAbs ≤ 10000000 → s.natAbs ≤ 10000000 → t.natAbs ≤ 10000000 → (x * y - s * t).natAbs ≤ 1000000000000000 := by
    intro x y s t e1 e2 e3 e4
    have f1 : (x * y).natAbs ≤ 10000000 * 10000000 := by rw [Int.natAbs_mul]; exact Nat.mul_le_mul e1 e2
    have f2 : (s * t).natAbs ≤ 10000000 * 10000000 := by rw [Int.natAbs_mul]; exact Nat.mul_le_mul e3 e4
    omega
  have hC : cr l m = [b * w - c * v, c * u - a * w, a * v - b * u] := by subst el em; rfl
  have k3 : Sm 1000000000000000 (cr l m) := by
    rw [hC]
    subst el em
    simp only [Sm, List.mem_cons, List.not_mem_nil, or_false, forall_eq_or_imp, forall_eq] at h1 h2
    intro x hx
    simp only [List.mem_cons, List.not_mem_nil, or_false] at hx
    rcases hx with rfl | rfl | rfl
    · exact B h1.2.1 h2.2.2 h1.2.2 h2.2.1
    · exact B h1.2.2 h2.1 h1.1 h2.2.2
    · exact B h1.1 h2.2.1 h1.2.1 h2.1
  generalize cr l m = C at hx k3 hC
  have hCl : C.length = 3 := by rw [hC]; rfl
  have hw := wholes (ρ := [.im (et l), .im (et m), .im (et C), .un, .un]) 4 C (by simp) (by omega)
  have dd : ∀ {p q : List Int}, p.length = 3 → q.length = 3 → Sm 1000000000000000 p → Sm 1000000000000000 q → d_law_dot [et p, et q] = .ok (.int (dt p q)) := fun h3 h4 h5 h6 => ldot_ok (by rw [h3, h4]) h5 h6 (by rw [h3]; decide)
  have d1 := dd hCl hl k3 k1
  have d2 := dd hCl hm k3 k2
  have d3 := dd hl hl k1 k1
  have d4 := dd hm hm k2 k2
  have d5 := dd hl hm k1 k2
  have d6 := dd hCl hCl k3 k3
  have z1 : dt C l = 0 := by rw [hC, el, dt3]; grind
  have z2 : dt C m = 0 := by rw [hC, em, dt3]; grind
  have z3 : dt C C = dt l l * dt m m - dt l m * dt l m := by rw [hC, el, em, dt3, dt3, dt3, dt3]; grind
  have D : ∀ {p q : List Int}, p.length = 3 → q.length = 3 → Sm 10000000 p → Sm 10000000 q → (dt p q).natAbs ≤ 1000000000000000 := by
    intro p q h3 h4 h5 h6
    match p, q, h3, h4 with
    | [a, b, c], [u, v, w], _, _ =>
      simp only [Sm, List.mem_cons, List.not_mem_nil, or_false, forall_eq_or_imp, forall_eq] at h5 h6
      rw [dt3]
      have f1 : (a * u).natAbs ≤ 10000000 * 10000000 := by rw [Int.natAbs_mul]; exact Nat.mul_le_mul h5.1 h6.1
      have f2 : (b * v).natAbs ≤ 10000000 * 10000000 := by rw [Int.natAbs_mul]; exact Nat.mul_le_mul h5.2.1 h6.2.1
      have f3 : (c * w).natAbs ≤ 10000000 * 10000000 := by rw [Int.natAbs_mul]; exact Nat.mul_le_mul h5.2.2 h6.2.2
      omega
  have m1 : okMul (dt l l) (dt m m) = true := okM (D hl hl h1 h1) (D hm hm h2 h2)
  have m2 : okMul (dt l m) (dt l m) = true := okM (D hl hm h1 h2) (D hl hm h1 h2)
  rw [z1] at d1
  rw [z2] at d2
  have l0 : l[0]? = some a := by rw [el]; rfl
  have l1 : l[1]? = some b := by rw [el]; rfl
  have l2 : l[2]? = some c := by rw [el]; rfl
  have n0 : m[0]? = some u := by rw [em]; rfl
  have n1 : m[1]? = some v := by rw [em]; rfl
  have n2 : m[2]? = some w := by rw [em]; rfl
  have a1 : a ∈ l := by rw [el]; simp
  have a2 : b ∈ l := by rw [el]; simp
  have a3 : c ∈ l := by rw [el]; simp
  have b1 : u ∈ m := by rw [em]; simp
  have b2 : v ∈ m := by rw [em]; simp
  have b3 : w ∈ m := by rw [em]; simp
  have hne : fNe (et C) (.tup [.int (b * w - v * c), .int (c * u - w * a), .int (a * v - u * b)]) = some (.bl false) := by
    have := fNe_tt C [b * w - v * c, c * u - w * a, a * v - u * b]
    have e : C = [b * w - v * c, c * u - w * a, a * v - u * b] := by rw [hC, Int.mul_comm v c, Int.mul_comm w a, Int.mul_comm u b]
    rw [decide_eq_true e] at this
    exact this
  clear el em hC
  refine wpr_eq (wpr_F (wps_nx (ρ1 := [.im (et l), .im (et m), .im (et C), .un, .un]) (by simp [hx]) ?_))
  refine wps_nx (ρ1 := [.im (et l), .im (et m), .im (et C), .un, .un]) ?_ ?_
  · simp [hCl, hw, all_true, isi_tuple_tup]
  refine wps_nx (ρ1 := [.im (et l), .im (et m), .im (et C), .un, .un]) ?_ ?_
  · simp [d1, d2]
  refine wps_nx (ρ1 := [.im (et l), .im (et m), .im (et C), .un, .un]) ?_ ?_
  · simp [l0, l1, l2, n0, n1, n2, q1 _ a1 _ b1, q1 _ a1 _ b2, q1 _ a1 _ b3, q1 _ a2 _ b1, q1 _ a2 _ b2, q1 _ a2 _ b3, q1 _ a3 _ b1, q1 _ a3 _ b2, q1 _ a3 _ b3, q2 _ b1 _ a1, q2 _ b1 _ a2, q2 _ b1 _ a3, q2 _ b2 _ a1, q2 _ b2 _ a2, q2 _ b2 _ a3, q2 _ b3 _ a1, q2 _ b3 _ a2, q2 _ b3 _ a3, hne]
  refine wps_nx (ρ1 := [.im (et l), .im (et m), .im (et C), .im (.int (dt C C)), .un]) ?_ ?_
  · simp [d3, d4, d5, m1, m2, z3]
  exact wps_r (d := .bl true) (by simp [d6]) rfl
end Cm
namespace Cm
open PySem FL L2
theorem Ar.map3 {a : List Int} (h : Ar 1000000 a) (c : Int) (hc : c ≠ 0) (hc2 : c.natAbs ≤ 3) : Ar B8 (a.map fun x => x * c) := by
  refine ⟨by simp [h.1], ?_, ?_⟩
  · obtain ⟨x, hx, h0⟩ := h.2.1
    refine ⟨x * c, List.mem_map_of_mem hx, fun e => ?_⟩
    rcases Int.mul_eq_zero.mp e with e | e
    · exact h0 e
    · exact hc e
  · intro y hy
    obtain ⟨x, hx, rfl⟩ := List.mem_map.mp hy
    have := h.2.2 x hx
    have h2 : (x * c).natAbs ≤ 1000000 * 3 := by rw [Int.natAbs_mul]; exact Nat.mul_le_mul this hc2
    exact Nat.le_trans h2 (by decide)
theorem Ar.mono {B C : Nat} {a : List Int} (h : Ar B a) (hb : B ≤ C) : Ar C a := ⟨h.1, h.2.1, fun x hx => Nat.le_trans (h.2.2 x hx) hb⟩
theorem Ar.ng {B : Nat} {a : List Int} (h : Ar B a) : Ar B (ng a) := by
  refine ⟨by simp [Cm.ng, h.1], ?_, ng_sm h.2.2⟩
  obtain ⟨x, hx, h0⟩ := h.2.1
  exact ⟨-x, List.mem_map_of_mem hx, by omega⟩
theorem Ar.of {x y : Int} {B : Nat} (h : x ≠ 0 ∨ y ≠ 0) (h1 : x.natAbs ≤ B) (h2 : y.natAbs ≤ B) : Ar B [x, y] := by
  refine ⟨rfl, ?_, ?_⟩
  · rcases h with h | h
    · exact ⟨x, by simp, h⟩
    · exact ⟨y, by simp, h⟩
  · intro z hz
    simp at hz
    rcases hz with rfl | rfl
    · exact h1
    · exact h2
/-- the first part: the arrows -/
def m_rest : En → Option Fl := fun _ => none
theorem times_ok {a : List Int} {i : Nat} {ρ : En} (c : Int) (hc : c.natAbs ≤ 3) (mc : En → Res D) (hmc : ∀ ρ, mc ρ = .ok (.int c)) (hi : i < ρ.length) (h : Sm 1000000 a) (hl : a.length ≤ 1000) : compL (bName i) mYes (mOp2 fMul (mVar i) mc) ρ (zs a) [] = .ok (.l (zs (a.map fun x => x * c))) := by
  have := compL_map (bt := bName i) (mt := mYes) (me := mOp2 fMul (mVar i) mc) (ρ := ρ) (enc := D.int) (f := fun x => .int (x * c)) a [] (fun x hx => ⟨_, rfl, rfl, by
    have hx := h x hx
    have hm : okMul x c = true := okMul_b (by omega) (by omega) (by omega) (by omega)
    simp [hi, hmc, hm]⟩) (by simp; omega)
  rw [this]; simp
theorem good (ns : List Int) (hns : ns.length ≤ 63) : d_law [.scr ns] = .ok (.bl true) := by
  obtain ⟨_, hc0, c0, rfl⟩ := cell_ok ns 0 (by decide) (by decide)
  obtain ⟨_, hd0, row, rfl, hrow⟩ := digits_ok c0 [12, 4, 5] (by decide) (by decide)
  obtain ⟨r0, r1, r2, rfl⟩ : ∃ a b c, row = [a, b, c] := by
    match row, hrow.1 with
    | [a, b, c], _ => exact ⟨a, b, c, rfl⟩
  have hr0 := hrow.2 0 r0 12 rfl rfl
  obtain ⟨n, rfl⟩ := Int.eq_ofNat_of_zero_le hr0.1
  have hd0' : d_law_digits [.int c0, .lst [.int 12, .int 4, .int 5]] = .ok (.lst (zs [(n : Int), r1, r2])) := hd0
  refine wpr_eq (wpr_F (wps_nx (ρ1 := [.im (.scr ns), .im (.lst (zs [(n : Int), r1, r2])), .un, .un, .un, .un, .un, .un, .un, .un]) (by simp [hc0, hd0']) (wps_nx (ρ1 := [.im (.scr ns), .im (.lst (zs [(n : Int), r1, r2])), .ow false (.l []), .un, .un, .un, .un, .un, .un, .un]) (by simp) (wps_seq ?_))))
  have hr := mRng1_ok (m := mOp2 fAdd (mI 1) (mOp2 fIx (mVar 1) (mI 0))) (ρ := [.im (.scr ns), .im (.lst (zs [(n : Int), r1, r2])), .ow false (.l []), .un, .un, .un, .un, .un, .un, .un]) (j := 1 + (n : Int)) (n + 1) (by simp) (by omega) (by omega)
  refine wps_for (List.range (n + 1)) (fun (k : Nat) => D.int (k : Int)) hr (fun pre ρ => ∃ A z, ρ = [.im (.scr ns), .im (.lst (zs [(n : Int), r1, r2])), .ow false (.l (A.map et)), z, .un, .un, .un, .un, .un, .un] ∧ A.length = pre.length ∧ ∀ a ∈ A, Ar 1000000 a)
    ⟨[], .un, rfl, rfl, by simp⟩ ?_ ?_
  · rintro pre k post ρ e ⟨A, z, rfl, hA, hAr⟩
    obtain ⟨hk, hk2⟩ := range_split e
    obtain ⟨_, hc, c, rfl⟩ := cell_ok ns (1 + (k : Int)) (by omega) (by omega)
    obtain ⟨_, ha, l, rfl, hl1, hl2, hl3⟩ := arrow_ok c 2 (by decide) (by decide)
    have ha : d_law_arrow [.int c, .int 2] = .ok (et l) := ha
    have hAl : A.length < 16777215 := by omega
    refine ⟨_, rfl, wps_n (ρ := [.im (.scr ns), .im (.lst (zs [(n : Int), r1, r2])), .ow false (.l ((A ++ [l]).map et)), .im (.int (k : Int)), .un, .un, .un, .un, .un, .un]) ?_ ⟨_, _, rfl, by simp [hA], fun a ha => ?_⟩⟩
    · simp [hc, ha, hAl]
    · rcases List.mem_append.mp ha with h | h
      · exact hAr a h
      · simp at h; subst h; exact ⟨hl1, hl2, hl3⟩
  rintro ρ ⟨A, z, rfl, hA, hAr⟩
  rw [List.length_range] at hA
  obtain ⟨a0, A', rfl⟩ : ∃ a0 A', A = a0 :: A' := by
    match A, hA with
    | a :: A, _ => exact ⟨a, A, rfl⟩
  have ha0 := hAr a0 (by simp)
  have hfl := flip_ok a0 (by rw [ha0.1]; decide)
  generalize hA2 : (if 0 < r1 then (a0 :: A') ++ [ng a0, [0, -1], [1, 0], a0.map fun x => x * 3] else a0 :: A') = A2
  have hA2c : ∃ A3, A2 = a0 :: A3 := by
    subst hA2
    split
    · exact ⟨_, rfl⟩
    · exact ⟨_, rfl⟩
  have hA2l : A2.length ≤ 20 := by
    subst hA2
    have : n ≤ 11 := by omega
    split
    · simp at hA ⊢; omega
    · simp at hA ⊢; omega
  have hA2r : ∀ a ∈ A2, Ar B8 a := by
    subst hA2
    intro a ha
    split at ha
    · rcases List.mem_append.mp ha with h | h
      · exact (hAr a h).mono (by decide)
      · simp only [List.mem_cons, List.not_mem_nil, or_false] at h
        rcases h with rfl | rfl | rfl | rfl
        · exact ha0.ng.mono (by decide)
        · exact Ar.of (by decide) (by decide) (by decide)
        · exact Ar.of (by decide) (by decide) (by decide)
        · exact ha0.map3 3 (by decide) (by decide)
    · exact (hAr a ha).mono (by decide)
  have hA2' : ∀ b : Bool, b = decide (0 < r1) → A2 = if b then (a0 :: A') ++ [ng a0, [0, -1], [1, 0], a0.map fun x => x * 3] else a0 :: A' := by
    intro b hb; subst hb; rw [← hA2]; simp
  obtain ⟨sl, hsl, hfz⟩ : ∃ sl : Sl, (sl = .im (.lst (A2.map et)) ∨ ∃ b, sl = .ow b (.l (A2.map et))) ∧ wps (sIf (mTst (mOp2 fGt (mOp2 fIx (mVar 1) (mI 1)) (mI 0))) (sFrz 2 (sSet 2 (mOp2 fAdd (mVar 2) (mFz (mLst (mCons (mCall 1 d_law_flip (mCons (mOp2 fIx (mVar 2) (mI 0)) mNil)) (mCons (mTup (mCons (mI 0) (mCons (mOp1 fNeg (mI 1)) mNil))) (mCons (mTup (mCons (mI 1) (mCons (mI 0) mNil))) (mCons (mOpA fTuple (mCons (mFz (mLc (bName 9) [9] (mSeq (mOp2 fIx (mVar 2) (mI 0))) mYes (mOp2 fMul (mVar 9) (mI 3)))) mNil)) mNil))))))))) sNop [.im (.scr ns), .im (.lst (zs [(n : Int), r1, r2])), .ow false (.l ((a0 :: A').map et)), z, .un, .un, .un, .un, .un, .un])
      (fun f => f = .nx [.im (.scr ns), .im (.lst (zs [(n : Int), r1, r2])), sl, z, .un, .un, .un, .un, .un, .un]) := by
    by_cases h : 0 < r1
    · refine ⟨.im (.lst (A2.map et)), .inl rfl, wps_if (k := true) (by simp [h]) (fun _ => ?_) (fun q => nomatch q)⟩
      rw [hA2' true (by simp [h])]
      have ht : ∀ ρ : En, 9 < ρ.length → compL (bName 9) mYes (mOp2 fMul (mVar 9) (mI 3)) ρ (zs a0) [] = .ok (.l (zs (a0.map fun x => x * 3))) := fun ρ h => times_ok 3 (by decide) (mI 3) (fun _ => rfl) h ha0.2.2 (by rw [ha0.1]; decide)
      have hlen : A'.length + 1 + 4 < 16777216 := by simp at hA; omega
      generalize (a0.map fun x => x * 3) = t at ht
      refine wps_n ?_ rfl
      simp [hfl, ht, hlen]
    · refine ⟨.ow false (.l (A2.map et)), .inr ⟨_, rfl⟩, wps_if (k := false) (by simp; omega) (fun q => nomatch q) (fun _ => ?_)⟩
      rw [hA2' false (by simp; omega)]
      exact wps_some rfl
  refine wps_seq (wps_imp hfz (fun f hf => ?_))
  subst hf
  clear hfz hA2' hfl
  refine wps_seq (wps_of (sFrz_d _ _ _) ?_)
  have hf1 : frz1 2 [.im (.scr ns), .im (.lst (zs [(n : Int), r1, r2])), sl, z, .un, .un, .un, .un, .un, .un] = [.im (.scr ns), .im (.lst (zs [(n : Int), r1, r2])), .im (.lst (A2.map et)), z, .un, .un, .un, .un, .un, .un] := by
    rcases hsl with rfl | ⟨b, rfl⟩
    · rfl
    · rfl
  rw [hf1]
  obtain ⟨A3, rfl⟩ := hA2c
  obtain ⟨p, q, rfl⟩ : ∃ p q, a0 = [p, q] := by
    match a0, ha0.1 with
    | [p, q], _ => exact ⟨p, q, rfl⟩
  generalize hA4 : (if r1 = 2 then ([p, q] :: A3) ++ [[-1, 0], [0, 1], [-q, p]] else [p, q] :: A3) = A4
  have hA4l : A4.length ≤ 30 := by
    subst hA4
    split
    · simp at hA2l ⊢; omega
    · omega
  have hA4r : ∀ a ∈ A4, Ar B8 a := by
    subst hA4
    intro a ha
    split at ha
    · rcases List.mem_append.mp ha with h | h
      · exact hA2r a h
      · simp only [List.mem_cons, List.not_mem_nil, or_false] at h
        have h0 : Ar B8 [p, q] := hA2r _ (by simp)
        rcases h with rfl | rfl | rfl
        · exact Ar.of (by decide) (by decide) (by decide)
        · exact Ar.of (by decide) (by decide) (by decide)
        · refine Ar.of ?_ ?_ ?_
          · obtain ⟨x, hx, h1⟩ := h0.2.1
            simp at hx
            rcases hx with rfl | rfl
            · exact .inr h1
            · exact .inl (by omega)
          · rw [Int.natAbs_neg]; exact h0.2.2 q (by simp)
          · exact h0.2.2 p (by simp)
    · exact hA2r a ha
  have hstep : sIf (mTst (mOp2 fEq (mOp2 fIx (mVar 1) (mI 1)) (mI 2))) (sSet 2 (mOp2 fAdd (mVar 2) (mFz (mLst (mCons (mTup (mCons (mOp1 fNeg (mI 1)) (mCons (mI 0) mNil))) (mCons (mTup (mCons (mI 0) (mCons (mI 1) mNil))) (mCons (mTup (mCons (mOp1 fNeg (mOp2 fIx (mOp2 fIx (mVar 2) (mI 0)) (mI 1))) (mCons (mOp2 fIx (mOp2 fIx (mVar 2) (mI 0)) (mI 0)) mNil))) mNil))))))) sNop [.im (.scr ns), .im (.lst (zs [(n : Int), r1, r2])), .im (.lst (([p, q] :: A3).map et)), z, .un, .un, .un, .un, .un, .un]
      = some (.nx [.im (.scr ns), .im (.lst (zs [(n : Int), r1, r2])), .im (.lst (A4.map et)), z, .un, .un, .un, .un, .un, .un]) := by
    have hlen : A3.length + 1 + 3 < 16777216 := by simp at hA2l; omega
    by_cases h : r1 = 2
    · rw [← hA4, if_pos h]
      simp [h, hlen]
    · rw [← hA4, if_neg h]
      simp [h]
  refine wps_n hstep ?_
  clear hstep hA4 hf1 hsl
  have p1 := plane_ok (A := A4) (by omega) hA4r
  have p2 := plane_ok (A := A4.reverse) (by simp; omega) (fun a h => hA4r a (by simpa using h))
  obtain ⟨_, t1, L1, rfl, t2, t3, t4, t5⟩ := turn_ok (A := A4) (by omega) hA4r
  obtain ⟨_, u1, L2, rfl, u2, u3, u4, u5⟩ := turn_ok (A := A4.reverse) (by simp; omega) (fun a h => hA4r a (by simpa using h))
  have hL : L1 = L2 := srt_uniq t2 u2 fun a => by rw [t4, u4]; simp
  subst hL
  have hrv : (A4.map et).reverse = A4.reverse.map et := by simp
  have hne : fNe (.tup (L1.map et)) (.tup (L1.map et)) = some (.bl (!decide (L1 = L1))) := fNe_ttt L1 L1
  refine wps_nx (ρ1 := [.im (.scr ns), .im (.lst (zs [(n : Int), r1, r2])), .im (.lst (A4.map et)), z, .un, .un, .un, .un, .un, .un]) ?_ (wps_seq ?_)
  · simp [hrv, p1, p2, t1, u1, hne, -List.map_reverse]
  refine wps_for A4 et rfl (fun _ ρ => ∃ x y, ρ = [.im (.scr ns), .im (.lst (zs [(n : Int), r1, r2])), .im (.lst (A4.map et)), z, x, y, .un, .un, .un, .un]) ⟨_, _, rfl⟩ ?_ ?_
  · rintro pre a post ρ e ⟨x, y, rfl⟩
    have ha := hA4r a (by rw [e]; simp)
    have hs := single_ok ha.2.1 ha.2.2 (by rw [ha.1]; decide)
    obtain ⟨p, q, rfl⟩ : ∃ p q, a = [p, q] := by
      match a, ha.1 with
      | [p, q], _ => exact ⟨p, q, rfl⟩
    have hq := quarter_ok p q
    have hn : fNe (et [-q, p]) (.tup [.int (-q), .int p]) = some (.bl (!decide ([-q, p] = [-q, p]))) := fNe_tt [-q, p] [-q, p]
    refine ⟨_, rfl, wps_nx (ρ1 := [.im (.scr ns), .im (.lst (zs [(n : Int), r1, r2])), .im (.lst (A4.map et)), z, .im (et [p, q]), .im (et [-q, p]), .un, .un, .un, .un]) ?_ (wps_n (ρ := [.im (.scr ns), .im (.lst (zs [(n : Int), r1, r2])), .im (.lst (A4.map et)), z, .im (et [p, q]), .im (et [-q, p]), .un, .un, .un, .un]) ?_ ⟨_, _, rfl⟩)⟩
    · have hq : d_quarter [et [p, q]] = .ok (et [-q, p]) := hq
      simp [hq]
    · simp [hn, hs]
  rintro ρ ⟨x, y, rfl⟩
  obtain ⟨_, hc1, c1, rfl⟩ := cell_ok ns 14 (by decide) (by decide)
  obtain ⟨_, hc2, c2, rfl⟩ := cell_ok ns 15 (by decide) (by decide)
  obtain ⟨_, hc3, c3, rfl⟩ := cell_ok ns 16 (by decide) (by decide)
  obtain ⟨_, ha1, l1, rfl, e1, f1, g1⟩ := arrow_ok c1 3 (by decide) (by decide)
  obtain ⟨_, ha2, l2, rfl, e2, f2, g2⟩ := arrow_ok c2 3 (by decide) (by decide)
  obtain ⟨_, ha3, l3, rfl, e3, f3, g3⟩ := arrow_ok c3 1 (by decide) (by decide)
  have ha1 : d_law_arrow [.int c1, .int 3] = .ok (et l1) := ha1
  have ha2 : d_law_arrow [.int c2, .int 3] = .ok (et l2) := ha2
  have ha3 : d_law_arrow [.int c3, .int 1] = .ok (et l3) := ha3
  have g1' : Sm 10000000 l1 := fun x hx => Nat.le_trans (g1 x hx) (by decide)
  have g2' : Sm 10000000 l2 := fun x hx => Nat.le_trans (g2 x hx) (by decide)
  have s1 := single_ok f1 (fun x hx => Nat.le_trans (g1 x hx) (by decide)) (by rw [e1]; decide)
  have s3 := single_ok f3 (fun x hx => Nat.le_trans (g3 x hx) (by decide)) (by rw [e3]; decide)
  generalize hm : (if r2 = 4 then l1.map (fun x => x * (-2)) else l2) = m
  have hml : m.length = 3 := by
    subst hm; split
    · simpa using e1
    · exact e2
  have hms : Sm 10000000 m := by
    subst hm; split
    · intro y hy
      obtain ⟨x, hx, rfl⟩ := List.mem_map.mp hy
      have := g1 x hx
      omega
    · exact g2'
  have ht : ∀ ρ : En, 9 < ρ.length → compL (bName 9) mYes (mOp2 fMul (mVar 9) (mOp1 fNeg (mI 2))) ρ (zs l1) [] = .ok (.l (zs (l1.map fun x => x * (-2)))) := fun ρ h => times_ok (-2) (by decide) (mOp1 fNeg (mI 2)) (fun _ => rfl) h g1 (by rw [e1]; decide)
  have sp1 := space_ok e1 hml g1' hms
  have sp2 := space_ok hml e1 hms g1'
  have dd : d_dot [et l1, et m] = .ok (.int (dt l1 m)) := dot_ok (by rw [hml, e1]) (fun x hx => Nat.le_trans (g1' x hx) (by decide)) (fun x hx => Nat.le_trans (hms x hx) (by decide)) (by rw [e1]; decide)
  have dl : d_law_dot [et l1, et m] = .ok (.int (dt l1 m)) := ldot_ok (by rw [hml, e1]) (fun x hx => Nat.le_trans (g1' x hx) (by decide)) (fun x hx => Nat.le_trans (hms x hx) (by decide)) (by rw [e1]; decide)
  refine wps_nx (ρ1 := [.im (.scr ns), .im (.lst (zs [(n : Int), r1, r2])), .im (.lst (A4.map et)), z, x, y, .im (et l1), .un, .un, .un]) (by simp [hc1, ha1]) ?_
  refine wps_nx (ρ1 := [.im (.scr ns), .im (.lst (zs [(n : Int), r1, r2])), .im (.lst (A4.map et)), z, x, y, .im (et l1), .im (et l2), .un, .un]) (by simp [hc2, ha2]) ?_
  refine wps_nx (ρ1 := [.im (.scr ns), .im (.lst (zs [(n : Int), r1, r2])), .im (.lst (A4.map et)), z, x, y, .im (et l1), .im (et m), .un, .un]) ?_ ?_
  · by_cases h : r2 = 4
    · rw [if_pos h] at hm
      rw [hm] at ht
      simp [h, ht]
    · rw [if_neg h] at hm
      subst hm
      simp [h]
  refine wps_nx (ρ1 := [.im (.scr ns), .im (.lst (zs [(n : Int), r1, r2])), .im (.lst (A4.map et)), z, x, y, .im (et l1), .im (et m), .un, .un]) (by simp [sp1, sp2, s1]) ?_
  refine wps_nx (ρ1 := [.im (.scr ns), .im (.lst (zs [(n : Int), r1, r2])), .im (.lst (A4.map et)), z, x, y, .im (et l1), .im (et m), .im (et l3), .un]) (by simp [hc3, ha3]) ?_
  refine wps_nx (ρ1 := [.im (.scr ns), .im (.lst (zs [(n : Int), r1, r2])), .im (.lst (A4.map et)), z, x, .im (.int (dt l1 m)), .im (et l1), .im (et m), .im (et l3), .un]) (by simp [dd]) ?_
  exact wps_r (d := .bl true) (by simp [whole_int, dl, s3]) rfl
end Cm
namespace Cm
open PySem L2 FL
/-! ### the text -/
def topS (i : Nat) : Stmt := PySem.Challenge.pw_calmspot_k02_arrows_by_turn.main.body.getD i (.Pass ⟨0, 0, 0, 0⟩)
abbrev s_dot : Stmt := topS 2
abbrev s_plain : Stmt := topS 3
abbrev s_opposite : Stmt := topS 4
abbrev s_quarter : Stmt := topS 5
abbrev s_cross : Stmt := topS 6
abbrev s_wedge : Stmt := topS 7
abbrev s_half_of : Stmt := topS 8
abbrev s_law_whole : Stmt := topS 13
abbrev s_law_cell : Stmt := topS 14
abbrev s_law_digits : Stmt := topS 15
abbrev s_law_gcd : Stmt := topS 16
abbrev s_law_dot : Stmt := topS 17
abbrev s_law_flip : Stmt := topS 18
abbrev s_law_half : Stmt := topS 20
abbrev s_turns_before : Stmt := topS 9
abbrev s_law_short : Stmt := topS 19
abbrev s_law_before : Stmt := topS 21
abbrev s_law_arrow : Stmt := topS 22
abbrev s_law_space : Stmt := topS 24
abbrev s_place_in_turn : Stmt := topS 10
abbrev s_law_single : Stmt := topS 25
abbrev s_by_turn : Stmt := topS 11
abbrev s_law_plane : Stmt := topS 23
abbrev s_law : Stmt := topS 26
structure Txt (K : PySem.W.Frag) (mg : Str → Option Value) : Type where
  a_dot : Addr
  fd_dot : FuncData
  F_dot : Fun K "dot" "dot" s_dot a_dot fd_dot
  m_dot : mg "dot" = some (.ref a_dot)
  b_dot : Binds K fd_dot ["one", "two"] []
  a_plain : Addr
  fd_plain : FuncData
  F_plain : Fun K "plain" "plain" s_plain a_plain fd_plain
  m_plain : mg "plain" = some (.ref a_plain)
  b_plain : Binds K fd_plain ["arrow"] []
  a_opposite : Addr
  fd_opposite : FuncData
  F_opposite : Fun K "opposite" "opposite" s_opposite a_opposite fd_opposite
  m_opposite : mg "opposite" = some (.ref a_opposite)
  b_opposite : Binds K fd_opposite ["arrow"] []
  a_quarter : Addr
  fd_quarter : FuncData
  F_quarter : Fun K "quarter" "quarter" s_quarter a_quarter fd_quarter
  m_quarter : mg "quarter" = some (.ref a_quarter)
  b_quarter : Binds K fd_quarter ["arrow"] []
  a_cross : Addr
  fd_cross : FuncData
  F_cross : Fun K "cross" "cross" s_cross a_cross fd_cross
  m_cross : mg "cross" = some (.ref a_cross)
  b_cross : Binds K fd_cross ["one", "two"] []
  a_wedge : Addr
  fd_wedge : FuncData
  F_wedge : Fun K "wedge" "wedge" s_wedge a_wedge fd_wedge
  m_wedge : mg "wedge" = some (.ref a_wedge)
  b_wedge : Binds K fd_wedge ["one", "two"] []
  a_half_of : Addr
  fd_half_of : FuncData
  F_half_of : Fun K "half_of" "half_of" s_half_of a_half_of fd_half_of
  m_half_of : mg "half_of" = some (.ref a_half_of)
  b_half_of : Binds K fd_half_of ["arrow"] []
  a_law_whole : Addr
  fd_law_whole : FuncData
  F_law_whole : Fun K "_law_whole" "_law_whole" s_law_whole a_law_whole fd_law_whole
  m_law_whole : mg "_law_whole" = some (.ref a_law_whole)
  b_law_whole : Binds K fd_law_whole ["value"] []
  a_law_cell : Addr
  fd_law_cell : FuncData
  F_law_cell : Fun K "_law_cell" "_law_cell" s_law_cell a_law_cell fd_law_cell
  m_law_cell : mg "_law_cell" = some (.ref a_law_cell)
  b_law_cell : Binds K fd_law_cell ["script", "k"] []
  a_law_digits : Addr
  fd_law_digits : FuncData
  F_law_digits : Fun K "_law_digits" "_law_digits" s_law_digits a_law_digits fd_law_digits
  m_law_digits : mg "_law_digits" = some (.ref a_law_digits)
  b_law_digits : Binds K fd_law_digits ["cell", "sizes"] []
  a_law_gcd : Addr
  fd_law_gcd : FuncData
  F_law_gcd : Fun K "_law_gcd" "_law_gcd" s_law_gcd a_law_gcd fd_law_gcd
  m_law_gcd : mg "_law_gcd" = some (.ref a_law_gcd)
  b_law_gcd : Binds K fd_law_gcd ["one", "other"] []
  a_law_dot : Addr
  fd_law_dot : FuncData
  F_law_dot : Fun K "_law_dot" "_law_dot" s_law_dot a_law_dot fd_law_dot
  m_law_dot : mg "_law_dot" = some (.ref a_law_dot)
  b_law_dot : Binds K fd_law_dot ["one", "other"] []
  a_law_flip : Addr
  fd_law_flip : FuncData
  F_law_flip : Fun K "_law_flip" "_law_flip" s_law_flip a_law_flip fd_law_flip
  m_law_flip : mg "_law_flip" = some (.ref a_law_flip)
  b_law_flip : Binds K fd_law_flip ["arrow"] []
  a_law_half : Addr
  fd_law_half : FuncData
  F_law_half : Fun K "_law_half" "_law_half" s_law_half a_law_half fd_law_half
  m_law_half : mg "_law_half" = some (.ref a_law_half)
  b_law_half : Binds K fd_law_half ["arrow"] []
  a_turns_before : Addr
  fd_turns_before : FuncData
  F_turns_before : Fun K "turns_before" "turns_before" s_turns_before a_turns_before fd_turns_before
  m_turns_before : mg "turns_before" = some (.ref a_turns_before)
  b_turns_before : Binds K fd_turns_before ["one", "two"] []
  a_law_short : Addr
  fd_law_short : FuncData
  F_law_short : Fun K "_law_short" "_law_short" s_law_short a_law_short fd_law_short
  m_law_short : mg "_law_short" = some (.ref a_law_short)
  b_law_short : Binds K fd_law_short ["arrow"] []
  a_law_before : Addr
  fd_law_before : FuncData
  F_law_before : Fun K "_law_before" "_law_before" s_law_before a_law_before fd_law_before
  m_law_before : mg "_law_before" = some (.ref a_law_before)
  b_law_before : Binds K fd_law_before ["one", "other"] []
  a_law_arrow : Addr
  fd_law_arrow : FuncData
  F_law_arrow : Fun K "_law_arrow" "_law_arrow" s_law_arrow a_law_arrow fd_law_arrow
  m_law_arrow : mg "_law_arrow" = some (.ref a_law_arrow)
  b_law_arrow : Binds K fd_law_arrow ["cell", "size"] []
  a_law_space : Addr
  fd_law_space : FuncData
  F_law_space : Fun K "_law_space" "_law_space" s_law_space a_law_space fd_law_space
  m_law_space : mg "_law_space" = some (.ref a_law_space)
  b_law_space : Binds K fd_law_space ["one", "other"] []
  a_place_in_turn : Addr
  fd_place_in_turn : FuncData
  F_place_in_turn : Fun K "place_in_turn" "place_in_turn" s_place_in_turn a_place_in_turn fd_place_in_turn
  m_place_in_turn : mg "place_in_turn" = some (.ref a_place_in_turn)
  b_place_in_turn : Binds K fd_place_in_turn ["told", "arrow"] []
  a_law_single : Addr
  fd_law_single : FuncData
  F_law_single : Fun K "_law_single" "_law_single" s_law_single a_law_single fd_law_single
  m_law_single : mg "_law_single" = some (.ref a_law_single)
  b_law_single : Binds K fd_law_single ["arrow"] []
  a_by_turn : Addr
  fd_by_turn : FuncData
  F_by_turn : Fun K "by_turn" "by_turn" s_by_turn a_by_turn fd_by_turn
  m_by_turn : mg "by_turn" = some (.ref a_by_turn)
  b_by_turn : Binds K fd_by_turn ["arrows"] []
  a_law_plane : Addr
  fd_law_plane : FuncData
  F_law_plane : Fun K "_law_plane" "_law_plane" s_law_plane a_law_plane fd_law_plane
  m_law_plane : mg "_law_plane" = some (.ref a_law_plane)
  b_law_plane : Binds K fd_law_plane ["arrows"] []
  a_law : Addr
  fd_law : FuncData
  F_law : Fun K "law" "law" s_law a_law fd_law
  m_law : mg "law" = some (.ref a_law)
  b_law : Binds K fd_law ["script"] []
  z_abs : mg "abs" = none
  z_all : mg "all" = none
  z_any : mg "any" = none
  z_bool : mg "bool" = none
  z_int : mg "int" = none
  z_isinstance : mg "isinstance" = none
  z_len : mg "len" = none
  z_range : mg "range" = none
  z_sum : mg "sum" = none
  z_tuple : mg "tuple" = none
  g_gcd : mg "gcd" = some (.builtin "math.gcd")
section
variable {P : Program} {w : World} {K : PySem.W.Frag} {mg : Str → Option Value} {base : Heap} {cl : Str → Addr}
theorem sc_dot : FnScope ["one", "two", "k"] ["one", "two"] (defScope s_dot) := ⟨rfl, rfl, rfl, by decide +kernel, rfl, by decide +kernel, by decide +kernel⟩
theorem ok_dot (T : Txt K mg) : FnOk P w K mg base (L2.CX P w) 1 T.a_dot T.fd_dot ["one", "two"] (spOf K cl 2 d_dot) :=
  fn_ok T.F_dot sc_dot rfl rfl fun cdv A outer s H E hr pw tk => by
    have hu : (A.deeper (PyProof.Rows.envOfC "dot" (defScope s_dot) s.heap.objs.size T.a_dot cdv)).units + 65 < cLine := by have := hr.un; omega
    exact (ss_one (ss_ret (so_callB (cr_sum rfl) a_sum rfl T.z_sum bt_sum (sa_cons (so_fz (sc_lc (own := [("k", 2)]) rfl sc_dot.nd (g_name 2) (by decide) (si_rng1 rfl T.z_range (sa_cons (so_callB call_len a_len rfl T.z_len bt_len (sa_cons (so_var 0 (pv 0)) sa_nil)) sa_nil)) (blkOk_by (N := ["one", "two", "k"]) (sc := defScope s_dot) (by decide +kernel)) (fun _ _ _ _ _ => (pg_name (i := 2) sc_dot.nd rfl (by first | exact Or.inl rfl | exact Or.inr rfl))) (fun _ _ _ _ _ => ts_nil) (fun _ _ _ _ _ => (so_bin op_mulU o_mul (so_ix ix_U o_ix (so_var 0 (pv 0)) (so_var 2 (pv 2)) (fun _ _ => rfl)) (so_ix ix_U o_ix (so_var 1 (pv 1)) (so_var 2 (pv 2)) (fun _ _ => rfl)))))) sa_nil))))
theorem sc_plain : FnScope ["arrow", "common", "number"] ["arrow"] (defScope s_plain) := ⟨rfl, rfl, rfl, by decide +kernel, rfl, by decide +kernel, by decide +kernel⟩
theorem ok_plain (T : Txt K mg) : FnOk P w K mg base (L2.CX P w) 1 T.a_plain T.fd_plain ["arrow"] (spOf K cl 1 d_plain) :=
  fn_ok T.F_plain sc_plain rfl rfl fun cdv A outer s H E hr pw tk => by
    have hu : (A.deeper (PyProof.Rows.envOfC "plain" (defScope s_plain) s.heap.objs.size T.a_plain cdv)).units + 65 < cLine := by have := hr.un; omega
    exact (ss_cons (ss_set 1 (ps_set (i := 1) sc_plain.nd rfl (Or.inr rfl) so_int)) (ss_cons (ss_for pw rfl (si_seq (so_var 0 (pv 0))) (g_name 2) (pg_name (i := 2) sc_plain.nd rfl (Or.inl rfl)) (ss_one (ss_set 1 (ps_set (i := 1) sc_plain.nd rfl (Or.inr rfl) (so_callF cr_gcd a_gcd rfl T.g_gcd (sa_cons (so_var 1 (pv 1)) (sa_cons (so_var 2 (pv 2)) sa_nil))))))) (ss_one (ss_ret (so_callTy call_tuple_of a_tuple rfl T.z_tuple bt_tuple (sa_cons (so_fz (sc_lc (own := [("number", 2)]) rfl sc_plain.nd (g_name 2) (by decide) (si_seq (so_var 0 (pv 0))) (blkOk_by (N := ["arrow", "common", "number"]) (sc := defScope s_plain) (by decide +kernel)) (fun _ _ _ _ _ => (pg_name (i := 2) sc_plain.nd rfl (by first | exact Or.inl rfl | exact Or.inr rfl))) (fun _ _ _ _ _ => ts_nil) (fun _ _ _ _ _ => (so_bin op_fdivX o_fdiv (so_var 2 (pv 2)) (so_var 1 (pv 1)))))) sa_nil))))))
theorem sc_opposite : FnScope ["arrow", "number"] ["arrow"] (defScope s_opposite) := ⟨rfl, rfl, rfl, by decide +kernel, rfl, by decide +kernel, by decide +kernel⟩
theorem ok_opposite (T : Txt K mg) : FnOk P w K mg base (L2.CX P w) 1 T.a_opposite T.fd_opposite ["arrow"] (spOf K cl 1 d_opposite) :=
  fn_ok T.F_opposite sc_opposite rfl rfl fun cdv A outer s H E hr pw tk => by
    have hu : (A.deeper (PyProof.Rows.envOfC "opposite" (defScope s_opposite) s.heap.objs.size T.a_opposite cdv)).units + 65 < cLine := by have := hr.un; omega
    exact (ss_one (ss_ret (so_callTy call_tuple_of a_tuple rfl T.z_tuple bt_tuple (sa_cons (so_fz (sc_lc (own := [("number", 1)]) rfl sc_opposite.nd (g_name 1) (by decide) (si_seq (so_var 0 (pv 0))) (blkOk_by (N := ["arrow", "number"]) (sc := defScope s_opposite) (by decide +kernel)) (fun _ _ _ _ _ => (pg_name (i := 1) sc_opposite.nd rfl (by first | exact Or.inl rfl | exact Or.inr rfl))) (fun _ _ _ _ _ => ts_nil) (fun _ _ _ _ _ => (so_un un_neg o_neg (so_var 1 (pv 1)))))) sa_nil))))
theorem sc_quarter : FnScope ["arrow"] ["arrow"] (defScope s_quarter) := ⟨rfl, rfl, rfl, by decide +kernel, rfl, by decide +kernel, by decide +kernel⟩
theorem ok_quarter (T : Txt K mg) : FnOk P w K mg base (L2.CX P w) 1 T.a_quarter T.fd_quarter ["arrow"] (spOf K cl 1 d_quarter) :=
  fn_ok T.F_quarter sc_quarter rfl rfl fun cdv A outer s H E hr pw tk => by
    have hu : (A.deeper (PyProof.Rows.envOfC "quarter" (defScope s_quarter) s.heap.objs.size T.a_quarter cdv)).units + 65 < cLine := by have := hr.un; omega
    exact (ss_one (ss_ret (so_tup (sa_cons (so_un un_neg o_neg (so_ix ix_U o_ix (so_var 0 (pv 0)) so_int (fun _ _ => rfl))) (sa_cons (so_ix ix_U o_ix (so_var 0 (pv 0)) so_int (fun _ _ => rfl)) sa_nil)))))
theorem sc_cross : FnScope ["one", "two"] ["one", "two"] (defScope s_cross) := ⟨rfl, rfl, rfl, by decide +kernel, rfl, by decide +kernel, by decide +kernel⟩
theorem ok_cross (T : Txt K mg) : FnOk P w K mg base (L2.CX P w) 1 T.a_cross T.fd_cross ["one", "two"] (spOf K cl 2 d_cross) :=
  fn_ok T.F_cross sc_cross rfl rfl fun cdv A outer s H E hr pw tk => by
    have hu : (A.deeper (PyProof.Rows.envOfC "cross" (defScope s_cross) s.heap.objs.size T.a_cross cdv)).units + 65 < cLine := by have := hr.un; omega
    exact (ss_one (ss_ret (so_tup (sa_cons (so_bin op_sub o_sub (so_bin op_mulU o_mul (so_ix ix_U o_ix (so_var 0 (pv 0)) so_int (fun _ _ => rfl)) (so_ix ix_U o_ix (so_var 1 (pv 1)) so_int (fun _ _ => rfl))) (so_bin op_mulU o_mul (so_ix ix_U o_ix (so_var 0 (pv 0)) so_int (fun _ _ => rfl)) (so_ix ix_U o_ix (so_var 1 (pv 1)) so_int (fun _ _ => rfl)))) (sa_cons (so_bin op_sub o_sub (so_bin op_mulU o_mul (so_ix ix_U o_ix (so_var 0 (pv 0)) so_int (fun _ _ => rfl)) (so_ix ix_U o_ix (so_var 1 (pv 1)) so_int (fun _ _ => rfl))) (so_bin op_mulU o_mul (so_ix ix_U o_ix (so_var 0 (pv 0)) so_int (fun _ _ => rfl)) (so_ix ix_U o_ix (so_var 1 (pv 1)) so_int (fun _ _ => rfl)))) (sa_cons (so_bin op_sub o_sub (so_bin op_mulU o_mul (so_ix ix_U o_ix (so_var 0 (pv 0)) so_int (fun _ _ => rfl)) (so_ix ix_U o_ix (so_var 1 (pv 1)) so_int (fun _ _ => rfl))) (so_bin op_mulU o_mul (so_ix ix_U o_ix (so_var 0 (pv 0)) so_int (fun _ _ => rfl)) (so_ix ix_U o_ix (so_var 1 (pv 1)) so_int (fun _ _ => rfl)))) sa_nil))))))
theorem sc_wedge : FnScope ["one", "two"] ["one", "two"] (defScope s_wedge) := ⟨rfl, rfl, rfl, by decide +kernel, rfl, by decide +kernel, by decide +kernel⟩
theorem ok_wedge (T : Txt K mg) : FnOk P w K mg base (L2.CX P w) 1 T.a_wedge T.fd_wedge ["one", "two"] (spOf K cl 2 d_wedge) :=
  fn_ok T.F_wedge sc_wedge rfl rfl fun cdv A outer s H E hr pw tk => by
    have hu : (A.deeper (PyProof.Rows.envOfC "wedge" (defScope s_wedge) s.heap.objs.size T.a_wedge cdv)).units + 65 < cLine := by have := hr.un; omega
    exact (ss_one (ss_ret (so_bin op_sub o_sub (so_bin op_mulU o_mul (so_ix ix_U o_ix (so_var 0 (pv 0)) so_int (fun _ _ => rfl)) (so_ix ix_U o_ix (so_var 1 (pv 1)) so_int (fun _ _ => rfl))) (so_bin op_mulU o_mul (so_ix ix_U o_ix (so_var 0 (pv 0)) so_int (fun _ _ => rfl)) (so_ix ix_U o_ix (so_var 1 (pv 1)) so_int (fun _ _ => rfl))))))
theorem sc_half_of : FnScope ["arrow"] ["arrow"] (defScope s_half_of) := ⟨rfl, rfl, rfl, by decide +kernel, rfl, by decide +kernel, by decide +kernel⟩
theorem ok_half_of (T : Txt K mg) : FnOk P w K mg base (L2.CX P w) 1 T.a_half_of T.fd_half_of ["arrow"] (spOf K cl 1 d_half_of) :=
  fn_ok T.F_half_of sc_half_of rfl rfl fun cdv A outer s H E hr pw tk => by
    have hu : (A.deeper (PyProof.Rows.envOfC "half_of" (defScope s_half_of) s.heap.objs.size T.a_half_of cdv)).units + 65 < cLine := by have := hr.un; omega
    exact (ss_cons (ss_if (sw_b (sw_or (sb_cmp op_gt o_gt (so_ix ix_U o_ix (so_var 0 (pv 0)) so_int (fun _ _ => rfl)) so_int (nomark _)) (sw_or1 (sw_b (sw_and (sb_cmp (op_eqD hr.units) o_eq (so_ix ix_U o_ix (so_var 0 (pv 0)) so_int (fun _ _ => rfl)) so_int (nomark _)) (sw_and1 (sb_cmp op_gt o_gt (so_ix ix_U o_ix (so_var 0 (pv 0)) so_int (fun _ _ => rfl)) so_int (nomark _)))))))) (ss_one (ss_ret so_int)) ss_nil) (ss_one (ss_ret so_int)))
theorem sc_law_whole : FnScope ["value"] ["value"] (defScope s_law_whole) := ⟨rfl, rfl, rfl, by decide +kernel, rfl, by decide +kernel, by decide +kernel⟩
theorem ok_law_whole (T : Txt K mg) : FnOk P w K mg base (L2.CX P w) 1 T.a_law_whole T.fd_law_whole ["value"] (spOf K cl 1 d_law_whole) :=
  fn_ok T.F_law_whole sc_law_whole rfl rfl fun cdv A outer s H E hr pw tk => by
    have hu : (A.deeper (PyProof.Rows.envOfC "_law_whole" (defScope s_law_whole) s.heap.objs.size T.a_law_whole cdv)).units + 65 < cLine := by have := hr.un; omega
    exact (ss_one (ss_ret (so_and (so_isiTy rfl T.z_isinstance (pe_bltn rfl T.z_int bt_int rfl) (so_var 0 (pv 0))) (so_one (so_not (so_isiTy rfl T.z_isinstance (pe_bltn rfl T.z_bool bt_bool rfl) (so_var 0 (pv 0))))))))
theorem sc_law_cell : FnScope ["script", "k", "seed", "cell"] ["script", "k"] (defScope s_law_cell) := ⟨rfl, rfl, rfl, by decide +kernel, rfl, by decide +kernel, by decide +kernel⟩
theorem ok_law_cell (T : Txt K mg) : FnOk P w K mg base (L2.CX P w) 1 T.a_law_cell T.fd_law_cell ["script", "k"] (spOf K cl 2 d_law_cell) :=
  fn_ok T.F_law_cell sc_law_cell rfl rfl fun cdv A outer s H E hr pw tk => by
    have hu : (A.deeper (PyProof.Rows.envOfC "_law_cell" (defScope s_law_cell) s.heap.objs.size T.a_law_cell cdv)).units + 65 < cLine := by have := hr.un; omega
    exact (ss_cons (ss_if (sb_cmp op_lt o_lt (so_var 1 (pv 1)) (so_callB call_len a_len rfl T.z_len bt_len (sa_cons (so_var 0 (pv 0)) sa_nil)) (nomark _)) (ss_one (ss_ret (so_ix ix_U o_ix (so_var 0 (pv 0)) (so_var 1 (pv 1)) (fun _ _ => rfl)))) ss_nil) (ss_cons (ss_set 2 (ps_set (i := 2) sc_law_cell.nd rfl (Or.inl rfl) so_int)) (ss_cons (ss_for pw rfl (si_seq (so_var 0 (pv 0))) (g_name 3) (pg_name (i := 3) sc_law_cell.nd rfl (Or.inl rfl)) (ss_one (ss_set 2 (ps_set (i := 2) sc_law_cell.nd rfl (Or.inl rfl) (so_bin op_modN o_mod (so_callTy call_int1 a_int rfl T.z_int bt_int (sa_cons (so_bin op_addU o_add (so_bin op_mulU o_mul (so_var 2 (pv 2)) so_int) (so_bin op_modN o_mod (so_callTy call_int1 a_int rfl T.z_int bt_int (sa_cons (so_var 3 (pv 3)) sa_nil)) so_int)) sa_nil)) so_int))))) (ss_one (ss_ret (so_bin op_modN o_mod (so_callTy call_int1 a_int rfl T.z_int bt_int (sa_cons (so_bin op_mulU o_mul (so_bin op_mulU o_mul (so_bin op_addU o_add (so_var 2 (pv 2)) so_int) (so_bin op_addU o_add (so_var 1 (pv 1)) so_int)) so_int) sa_nil)) so_int))))))
theorem sc_law_digits : FnScope ["cell", "sizes", "row", "rest", "size", "seed", "k", "twice"] ["cell", "sizes"] (defScope s_law_digits) := ⟨rfl, rfl, rfl, by decide +kernel, rfl, by decide +kernel, by decide +kernel⟩
theorem ok_law_digits (T : Txt K mg) : FnOk P w K mg base (L2.CX P w) 1 T.a_law_digits T.fd_law_digits ["cell", "sizes"] (spOf K cl 2 d_law_digits) :=
  fn_ok T.F_law_digits sc_law_digits rfl rfl fun cdv A outer s H E hr pw tk => by
    have hu : (A.deeper (PyProof.Rows.envOfC "_law_digits" (defScope s_law_digits) s.heap.objs.size T.a_law_digits cdv)).units + 65 < cLine := by have := hr.un; omega
    exact (ss_cons (ss_own 2 (ps_set (i := 2) sc_law_digits.nd rfl (Or.inl rfl) (sc_lst sa_nil))) (ss_cons (ss_set 3 (ps_set (i := 3) sc_law_digits.nd rfl (Or.inl rfl) (so_callTy call_int1 a_int rfl T.z_int bt_int (sa_cons (so_var 0 (pv 0)) sa_nil)))) (ss_cons (ss_if (sb_cmp op_ge o_ge (so_var 3 (pv 3)) (so_bin op_pow o_pow so_int so_int) (nomark _)) (ss_cons (ss_set 3 (ps_set (i := 3) sc_law_digits.nd rfl (Or.inl rfl) (so_bin op_sub o_sub (so_var 3 (pv 3)) (so_bin op_pow o_pow so_int so_int)))) (ss_cons (ss_for pw rfl (si_seq (so_var 1 (pv 1))) (g_name 4) (pg_name (i := 4) sc_law_digits.nd rfl (Or.inl rfl)) (ss_cons (ss_app 2 (ps_expr (pe_bm PySem.F.plainAttrs_list PySem.F.slot_list_append PySem.F.type_list_append mt_append (pv 2) (sa_cons (so_bin op_modN o_mod (so_callTy call_int1 a_int rfl T.z_int bt_int (sa_cons (so_var 3 (pv 3)) sa_nil)) (so_var 4 (pv 4))) sa_nil)))) (ss_one (ss_set 3 (ps_set (i := 3) sc_law_digits.nd rfl (Or.inl rfl) (so_bin op_fdivX o_fdiv (so_callTy call_int1 a_int rfl T.z_int bt_int (sa_cons (so_var 3 (pv 3)) sa_nil)) (so_var 4 (pv 4)))))))) (ss_one (ss_frz 2 (ss_ret (so_var 2 (pv 2))))))) ss_nil) (ss_cons (ss_set 5 (ps_set (i := 5) sc_law_digits.nd rfl (Or.inl rfl) (so_bin op_modN o_mod (so_callTy call_int1 a_int rfl T.z_int bt_int (sa_cons (so_var 3 (pv 3)) sa_nil)) so_int))) (ss_cons (ss_for pw rfl (si_rng1 rfl T.z_range (sa_cons (so_callB call_len a_len rfl T.z_len bt_len (sa_cons (so_var 1 (pv 1)) sa_nil)) sa_nil)) (g_name 6) (pg_name (i := 6) sc_law_digits.nd rfl (Or.inl rfl)) (ss_cons (ss_set 5 (ps_set (i := 5) sc_law_digits.nd rfl (Or.inl rfl) (so_bin op_modN o_mod (so_callTy call_int1 a_int rfl T.z_int bt_int (sa_cons (so_bin op_addU o_add (so_bin op_addU o_add (so_bin op_mulU o_mul (so_var 5 (pv 5)) so_int) (so_bin op_mulU o_mul so_int (so_var 6 (pv 6)))) so_int) sa_nil)) so_int))) (ss_cons (ss_set 7 (ps_set (i := 7) sc_law_digits.nd rfl (Or.inl rfl) (so_bin op_modN o_mod (so_callTy call_int1 a_int rfl T.z_int bt_int (sa_cons (so_bin op_mulU o_mul (so_var 5 (pv 5)) (so_bin op_addU o_add (so_bin op_fdivX o_fdiv (so_var 5 (pv 5)) so_int) so_int)) sa_nil)) so_int))) (ss_one (ss_app 2 (ps_expr (pe_bm PySem.F.plainAttrs_list PySem.F.slot_list_append PySem.F.type_list_append mt_append (pv 2) (sa_cons (so_bin op_modN o_mod (so_bin op_fdivX o_fdiv (so_var 7 (pv 7)) so_int) (so_ix ix_U o_ix (so_var 1 (pv 1)) (so_var 6 (pv 6)) (fun _ _ => rfl))) sa_nil)))))))) (ss_one (ss_frz 2 (ss_ret (so_var 2 (pv 2))))))))))
theorem sc_law_gcd : FnScope ["one", "other", "rest"] ["one", "other"] (defScope s_law_gcd) := ⟨rfl, rfl, rfl, by decide +kernel, rfl, by decide +kernel, by decide +kernel⟩
theorem ok_law_gcd (T : Txt K mg) : FnOk P w K mg base (L2.CX P w) 1 T.a_law_gcd T.fd_law_gcd ["one", "other"] (spOf K cl 2 d_law_gcd) :=
  fn_ok T.F_law_gcd sc_law_gcd rfl rfl fun cdv A outer s H E hr pw tk => by
    have hu : (A.deeper (PyProof.Rows.envOfC "_law_gcd" (defScope s_law_gcd) s.heap.objs.size T.a_law_gcd cdv)).units + 65 < cLine := by have := hr.un; omega
    exact (ss_cons (ss_set 0 (ps_set (i := 0) sc_law_gcd.nd rfl (Or.inl rfl) (so_callB call_abs a_abs rfl T.z_abs bt_abs (sa_cons (so_var 0 (pv 0)) sa_nil)))) (ss_cons (ss_set 1 (ps_set (i := 1) sc_law_gcd.nd rfl (Or.inl rfl) (so_callB call_abs a_abs rfl T.z_abs bt_abs (sa_cons (so_var 1 (pv 1)) sa_nil)))) (ss_cons (ss_while pw (sb_cmp (op_neD hr.units) o_ne (so_var 1 (pv 1)) so_int (nomark _)) (ss_cons (ss_set 2 (ps_set (i := 2) sc_law_gcd.nd rfl (Or.inl rfl) (so_bin op_modN o_mod (so_callTy call_int1 a_int rfl T.z_int bt_int (sa_cons (so_var 0 (pv 0)) sa_nil)) (so_var 1 (pv 1))))) (ss_cons (ss_set 0 (ps_set (i := 0) sc_law_gcd.nd rfl (Or.inl rfl) (so_var 1 (pv 1)))) (ss_one (ss_set 1 (ps_set (i := 1) sc_law_gcd.nd rfl (Or.inl rfl) (so_var 2 (pv 2)))))))) (ss_one (ss_ret (so_var 0 (pv 0)))))))
theorem sc_law_dot : FnScope ["one", "other", "k"] ["one", "other"] (defScope s_law_dot) := ⟨rfl, rfl, rfl, by decide +kernel, rfl, by decide +kernel, by decide +kernel⟩
theorem ok_law_dot (T : Txt K mg) : FnOk P w K mg base (L2.CX P w) 1 T.a_law_dot T.fd_law_dot ["one", "other"] (spOf K cl 2 d_law_dot) :=
  fn_ok T.F_law_dot sc_law_dot rfl rfl fun cdv A outer s H E hr pw tk => by
    have hu : (A.deeper (PyProof.Rows.envOfC "_law_dot" (defScope s_law_dot) s.heap.objs.size T.a_law_dot cdv)).units + 65 < cLine := by have := hr.un; omega
    exact (ss_one (ss_ret (so_callB (cr_sum rfl) a_sum rfl T.z_sum bt_sum (sa_cons (so_fz (sc_lc (own := [("k", 2)]) rfl sc_law_dot.nd (g_name 2) (by decide) (si_rng1 rfl T.z_range (sa_cons (so_callB call_len a_len rfl T.z_len bt_len (sa_cons (so_var 0 (pv 0)) sa_nil)) sa_nil)) (blkOk_by (N := ["one", "other", "k"]) (sc := defScope s_law_dot) (by decide +kernel)) (fun _ _ _ _ _ => (pg_name (i := 2) sc_law_dot.nd rfl (by first | exact Or.inl rfl | exact Or.inr rfl))) (fun _ _ _ _ _ => ts_nil) (fun _ _ _ _ _ => (so_bin op_mulU o_mul (so_ix ix_U o_ix (so_var 0 (pv 0)) (so_var 2 (pv 2)) (fun _ _ => rfl)) (so_ix ix_U o_ix (so_var 1 (pv 1)) (so_var 2 (pv 2)) (fun _ _ => rfl)))))) sa_nil))))
theorem sc_law_flip : FnScope ["arrow", "number"] ["arrow"] (defScope s_law_flip) := ⟨rfl, rfl, rfl, by decide +kernel, rfl, by decide +kernel, by decide +kernel⟩
theorem ok_law_flip (T : Txt K mg) : FnOk P w K mg base (L2.CX P w) 1 T.a_law_flip T.fd_law_flip ["arrow"] (spOf K cl 1 d_law_flip) :=
  fn_ok T.F_law_flip sc_law_flip rfl rfl fun cdv A outer s H E hr pw tk => by
    have hu : (A.deeper (PyProof.Rows.envOfC "_law_flip" (defScope s_law_flip) s.heap.objs.size T.a_law_flip cdv)).units + 65 < cLine := by have := hr.un; omega
    exact (ss_one (ss_ret (so_callTy call_tuple_of a_tuple rfl T.z_tuple bt_tuple (sa_cons (so_fz (sc_lc (own := [("number", 1)]) rfl sc_law_flip.nd (g_name 1) (by decide) (si_seq (so_var 0 (pv 0))) (blkOk_by (N := ["arrow", "number"]) (sc := defScope s_law_flip) (by decide +kernel)) (fun _ _ _ _ _ => (pg_name (i := 1) sc_law_flip.nd rfl (by first | exact Or.inl rfl | exact Or.inr rfl))) (fun _ _ _ _ _ => ts_nil) (fun _ _ _ _ _ => (so_un un_neg o_neg (so_var 1 (pv 1)))))) sa_nil))))
theorem sc_law_half : FnScope ["arrow"] ["arrow"] (defScope s_law_half) := ⟨rfl, rfl, rfl, by decide +kernel, rfl, by decide +kernel, by decide +kernel⟩
theorem ok_law_half (T : Txt K mg) : FnOk P w K mg base (L2.CX P w) 1 T.a_law_half T.fd_law_half ["arrow"] (spOf K cl 1 d_law_half) :=
  fn_ok T.F_law_half sc_law_half rfl rfl fun cdv A outer s H E hr pw tk => by
    have hu : (A.deeper (PyProof.Rows.envOfC "_law_half" (defScope s_law_half) s.heap.objs.size T.a_law_half cdv)).units + 65 < cLine := by have := hr.un; omega
    exact (ss_one (ss_ret (so_callTy call_int1 a_int rfl T.z_int bt_int (sa_cons (so_not (so_or (so_cmp op_gt o_gt (so_ix ix_U o_ix (so_var 0 (pv 0)) so_int (fun _ _ => rfl)) so_int (nomark _)) (so_one (so_and (so_cmp (op_eqD hr.units) o_eq (so_ix ix_U o_ix (so_var 0 (pv 0)) so_int (fun _ _ => rfl)) so_int (nomark _)) (so_one (so_cmp op_gt o_gt (so_ix ix_U o_ix (so_var 0 (pv 0)) so_int (fun _ _ => rfl)) so_int (nomark _))))))) sa_nil))))
theorem sc_turns_before : FnScope ["one", "two"] ["one", "two"] (defScope s_turns_before) := ⟨rfl, rfl, rfl, by decide +kernel, rfl, by decide +kernel, by decide +kernel⟩
theorem ok_turns_before (T : Txt K mg) : FnOk P w K mg base (L2.CX P w) 2 T.a_turns_before T.fd_turns_before ["one", "two"] (spOf K cl 2 d_turns_before) :=
  fn_ok T.F_turns_before sc_turns_before rfl rfl fun cdv A outer s H E hr pw tk => by
    have hu : (A.deeper (PyProof.Rows.envOfC "turns_before" (defScope s_turns_before) s.heap.objs.size T.a_turns_before cdv)).units + 65 < cLine := by have := hr.un; omega
    exact (ss_cons (ss_if (sb_cmp (op_neD hr.units) o_ne (so_call (ok_half_of T) (hr.mono (by decide)) rfl T.m_half_of T.F_half_of.kp T.b_half_of tk (sa_cons (so_var 0 (pv 0)) sa_nil)) (so_call (ok_half_of T) (hr.mono (by decide)) rfl T.m_half_of T.F_half_of.kp T.b_half_of tk (sa_cons (so_var 1 (pv 1)) sa_nil)) (nomark _)) (ss_one (ss_ret (so_cmp op_lt o_lt (so_call (ok_half_of T) (hr.mono (by decide)) rfl T.m_half_of T.F_half_of.kp T.b_half_of tk (sa_cons (so_var 0 (pv 0)) sa_nil)) (so_call (ok_half_of T) (hr.mono (by decide)) rfl T.m_half_of T.F_half_of.kp T.b_half_of tk (sa_cons (so_var 1 (pv 1)) sa_nil)) (nomark _)))) ss_nil) (ss_one (ss_ret (so_cmp op_gt o_gt (so_call (ok_wedge T) (hr.mono (by decide)) rfl T.m_wedge T.F_wedge.kp T.b_wedge tk (sa_cons (so_var 0 (pv 0)) (sa_cons (so_var 1 (pv 1)) sa_nil))) so_int (nomark _)))))
theorem sc_law_short : FnScope ["arrow", "common", "number"] ["arrow"] (defScope s_law_short) := ⟨rfl, rfl, rfl, by decide +kernel, rfl, by decide +kernel, by decide +kernel⟩
theorem ok_law_short (T : Txt K mg) : FnOk P w K mg base (L2.CX P w) 2 T.a_law_short T.fd_law_short ["arrow"] (spOf K cl 1 d_law_short) :=
  fn_ok T.F_law_short sc_law_short rfl rfl fun cdv A outer s H E hr pw tk => by
    have hu : (A.deeper (PyProof.Rows.envOfC "_law_short" (defScope s_law_short) s.heap.objs.size T.a_law_short cdv)).units + 65 < cLine := by have := hr.un; omega
    exact (ss_cons (ss_set 1 (ps_set (i := 1) sc_law_short.nd rfl (Or.inr rfl) so_int)) (ss_cons (ss_for pw rfl (si_seq (so_var 0 (pv 0))) (g_name 2) (pg_name (i := 2) sc_law_short.nd rfl (Or.inl rfl)) (ss_one (ss_set 1 (ps_set (i := 1) sc_law_short.nd rfl (Or.inr rfl) (so_call (ok_law_gcd T) (hr.mono (by decide)) rfl T.m_law_gcd T.F_law_gcd.kp T.b_law_gcd tk (sa_cons (so_var 1 (pv 1)) (sa_cons (so_var 2 (pv 2)) sa_nil))))))) (ss_one (ss_ret (so_callTy call_tuple_of a_tuple rfl T.z_tuple bt_tuple (sa_cons (so_fz (sc_lc (own := [("number", 2)]) rfl sc_law_short.nd (g_name 2) (by decide) (si_seq (so_var 0 (pv 0))) (blkOk_by (N := ["arrow", "common", "number"]) (sc := defScope s_law_short) (by decide +kernel)) (fun _ _ _ _ _ => (pg_name (i := 2) sc_law_short.nd rfl (by first | exact Or.inl rfl | exact Or.inr rfl))) (fun _ _ _ _ _ => ts_nil) (fun _ _ _ _ _ => (so_bin op_fdivX o_fdiv (so_var 2 (pv 2)) (so_var 1 (pv 1)))))) sa_nil))))))
theorem sc_law_before : FnScope ["one", "other"] ["one", "other"] (defScope s_law_before) := ⟨rfl, rfl, rfl, by decide +kernel, rfl, by decide +kernel, by decide +kernel⟩
theorem ok_law_before (T : Txt K mg) : FnOk P w K mg base (L2.CX P w) 2 T.a_law_before T.fd_law_before ["one", "other"] (spOf K cl 2 d_law_before) :=
  fn_ok T.F_law_before sc_law_before rfl rfl fun cdv A outer s H E hr pw tk => by
    have hu : (A.deeper (PyProof.Rows.envOfC "_law_before" (defScope s_law_before) s.heap.objs.size T.a_law_before cdv)).units + 65 < cLine := by have := hr.un; omega
    exact (ss_cons (ss_if (sb_cmp (op_neD hr.units) o_ne (so_call (ok_law_half T) (hr.mono (by decide)) rfl T.m_law_half T.F_law_half.kp T.b_law_half tk (sa_cons (so_var 0 (pv 0)) sa_nil)) (so_call (ok_law_half T) (hr.mono (by decide)) rfl T.m_law_half T.F_law_half.kp T.b_law_half tk (sa_cons (so_var 1 (pv 1)) sa_nil)) (nomark _)) (ss_one (ss_ret (so_cmp op_lt o_lt (so_call (ok_law_half T) (hr.mono (by decide)) rfl T.m_law_half T.F_law_half.kp T.b_law_half tk (sa_cons (so_var 0 (pv 0)) sa_nil)) (so_call (ok_law_half T) (hr.mono (by decide)) rfl T.m_law_half T.F_law_half.kp T.b_law_half tk (sa_cons (so_var 1 (pv 1)) sa_nil)) (nomark _)))) ss_nil) (ss_one (ss_ret (so_cmp op_gt o_gt (so_bin op_sub o_sub (so_bin op_mulU o_mul (so_ix ix_U o_ix (so_var 0 (pv 0)) so_int (fun _ _ => rfl)) (so_ix ix_U o_ix (so_var 1 (pv 1)) so_int (fun _ _ => rfl))) (so_bin op_mulU o_mul (so_ix ix_U o_ix (so_var 0 (pv 0)) so_int (fun _ _ => rfl)) (so_ix ix_U o_ix (so_var 1 (pv 1)) so_int (fun _ _ => rfl)))) so_int (nomark _)))))
theorem sc_law_arrow : FnScope ["cell", "size", "row", "span", "made", "k", "number"] ["cell", "size"] (defScope s_law_arrow) := ⟨rfl, rfl, rfl, by decide +kernel, rfl, by decide +kernel, by decide +kernel⟩
theorem ok_law_arrow (T : Txt K mg) : FnOk P w K mg base (L2.CX P w) 2 T.a_law_arrow T.fd_law_arrow ["cell", "size"] (spOf K cl 2 d_law_arrow) :=
  fn_ok T.F_law_arrow sc_law_arrow rfl rfl fun cdv A outer s H E hr pw tk => by
    have hu : (A.deeper (PyProof.Rows.envOfC "_law_arrow" (defScope s_law_arrow) s.heap.objs.size T.a_law_arrow cdv)).units + 65 < cLine := by have := hr.un; omega
    exact (ss_cons (ss_set 2 (ps_set (i := 2) sc_law_arrow.nd rfl (Or.inr rfl) (so_call (ok_law_digits T) (hr.mono (by decide)) rfl T.m_law_digits T.F_law_digits.kp T.b_law_digits tk (sa_cons (so_var 0 (pv 0)) (sa_cons (so_bin op_addU o_add (so_fz (sc_lst (sa_cons so_int sa_nil))) (so_bin op_mulU o_mul (so_fz (sc_lst (sa_cons so_int sa_nil))) so_int)) sa_nil))))) (ss_cons (ss_set 3 (ps_set (i := 3) sc_law_arrow.nd rfl (Or.inr rfl) (so_ix ix_U o_ix (so_fz (sc_lst (sa_cons so_int (sa_cons so_int (sa_cons so_int (sa_cons so_int (sa_cons so_int (sa_cons so_int (sa_cons so_int (sa_cons so_int sa_nil)))))))))) (so_ix ix_U o_ix (so_var 2 (pv 2)) so_int (fun _ _ => rfl)) (fun _ _ => rfl)))) (ss_cons (ss_set 4 (ps_set (i := 4) sc_law_arrow.nd rfl (Or.inl rfl) (so_callTy call_tuple_of a_tuple rfl T.z_tuple bt_tuple (sa_cons (so_fz (sc_lc (own := [("k", 5)]) rfl sc_law_arrow.nd (g_name 5) (by decide) (si_rng1 rfl T.z_range (sa_cons (so_var 1 (pv 1)) sa_nil)) (blkOk_by (N := ["cell", "size", "row", "span", "made", "k", "number"]) (sc := defScope s_law_arrow) (by decide +kernel)) (fun _ _ _ _ _ => (pg_name (i := 5) sc_law_arrow.nd rfl (by first | exact Or.inl rfl | exact Or.inr rfl))) (fun _ _ _ _ _ => ts_nil) (fun _ _ _ _ _ => (so_bin op_sub o_sub (so_bin op_modN o_mod (so_callTy call_int1 a_int rfl T.z_int bt_int (sa_cons (so_ix ix_U o_ix (so_var 2 (pv 2)) (so_bin op_addU o_add so_int (so_var 5 (pv 5))) (fun _ _ => rfl)) sa_nil)) (so_bin op_addU o_add (so_bin op_mulU o_mul so_int (so_var 3 (pv 3))) so_int)) (so_var 3 (pv 3)))))) sa_nil)))) (ss_cons (ss_if (sb_not (sb_val (so_callB (cr_any rfl) a_any rfl T.z_any bt_any (sa_cons (so_fz (sc_lc (own := [("number", 6)]) rfl sc_law_arrow.nd (g_name 6) (by decide) (si_seq (so_var 4 (pv 4))) (blkOk_by (N := ["cell", "size", "row", "span", "made", "k", "number"]) (sc := defScope s_law_arrow) (by decide +kernel)) (fun _ _ _ _ _ => (pg_name (i := 6) sc_law_arrow.nd rfl (by first | exact Or.inl rfl | exact Or.inr rfl))) (fun _ _ _ _ _ => ts_nil) (fun _ _ _ _ _ => (so_cmp (op_neD hr.units) o_ne (so_var 6 (pv 6)) so_int (nomark _))))) sa_nil)))) (ss_one (ss_ret (so_bin op_addU o_add (so_bin op_mulU o_mul (so_tup (sa_cons so_int sa_nil)) (so_bin op_sub o_sub (so_var 1 (pv 1)) so_int)) (so_tup (sa_cons so_int sa_nil))))) ss_nil) (ss_one (ss_ret (so_var 4 (pv 4))))))))
theorem sc_law_space : FnScope ["one", "other", "made", "square", "number"] ["one", "other"] (defScope s_law_space) := ⟨rfl, rfl, rfl, by decide +kernel, rfl, by decide +kernel, by decide +kernel⟩
theorem ok_law_space (T : Txt K mg) : FnOk P w K mg base (L2.CX P w) 2 T.a_law_space T.fd_law_space ["one", "other"] (spOf K cl 2 d_law_space) :=
  fn_ok T.F_law_space sc_law_space rfl rfl fun cdv A outer s H E hr pw tk => by
    have hu : (A.deeper (PyProof.Rows.envOfC "_law_space" (defScope s_law_space) s.heap.objs.size T.a_law_space cdv)).units + 65 < cLine := by have := hr.un; omega
    exact (ss_cons (ss_set 2 (ps_set (i := 2) sc_law_space.nd rfl (Or.inl rfl) (so_call (ok_cross T) (hr.mono (by decide)) rfl T.m_cross T.F_cross.kp T.b_cross tk (sa_cons (so_var 0 (pv 0)) (sa_cons (so_var 1 (pv 1)) sa_nil))))) (ss_cons (ss_if (sw_b (sw_or (sb_not (sb_val (so_isiTy rfl T.z_isinstance (pe_bltn rfl T.z_tuple bt_tuple rfl) (so_var 2 (pv 2))))) (sw_or (sb_cmp (op_neD hr.units) o_ne (so_callB call_len a_len rfl T.z_len bt_len (sa_cons (so_var 2 (pv 2)) sa_nil)) so_int (nomark _)) (sw_or1 (sb_not (sb_val (so_callB (cr_all rfl) a_all rfl T.z_all bt_all (sa_cons (so_fz (sc_lc (own := [("number", 4)]) rfl sc_law_space.nd (g_name 4) (by decide) (si_seq (so_var 2 (pv 2))) (blkOk_by (N := ["one", "other", "made", "square", "number"]) (sc := defScope s_law_space) (by decide +kernel)) (fun _ _ _ _ _ => (pg_name (i := 4) sc_law_space.nd rfl (by first | exact Or.inl rfl | exact Or.inr rfl))) (fun _ _ _ _ _ => ts_nil) (fun _ _ _ _ _ => (so_call (ok_law_whole T) (hr.mono (by decide)) rfl T.m_law_whole T.F_law_whole.kp T.b_law_whole takes0 (sa_cons (so_var 4 (pv 4)) sa_nil))))) sa_nil)))))))) (ss_one (ss_ret so_bl)) ss_nil) (ss_cons (ss_if (sw_b (sw_or (sb_cmp (op_neD hr.units) o_ne (so_call (ok_law_dot T) (hr.mono (by decide)) rfl T.m_law_dot T.F_law_dot.kp T.b_law_dot tk (sa_cons (so_var 2 (pv 2)) (sa_cons (so_var 0 (pv 0)) sa_nil))) so_int (nomark _)) (sw_or1 (sb_cmp (op_neD hr.units) o_ne (so_call (ok_law_dot T) (hr.mono (by decide)) rfl T.m_law_dot T.F_law_dot.kp T.b_law_dot tk (sa_cons (so_var 2 (pv 2)) (sa_cons (so_var 1 (pv 1)) sa_nil))) so_int (nomark _))))) (ss_one (ss_ret so_bl)) ss_nil) (ss_cons (ss_if (sb_cmp (op_neD hr.units) o_ne (so_var 2 (pv 2)) (so_tup (sa_cons (so_bin op_sub o_sub (so_bin op_mulU o_mul (so_ix ix_U o_ix (so_var 0 (pv 0)) so_int (fun _ _ => rfl)) (so_ix ix_U o_ix (so_var 1 (pv 1)) so_int (fun _ _ => rfl))) (so_bin op_mulU o_mul (so_ix ix_U o_ix (so_var 1 (pv 1)) so_int (fun _ _ => rfl)) (so_ix ix_U o_ix (so_var 0 (pv 0)) so_int (fun _ _ => rfl)))) (sa_cons (so_bin op_sub o_sub (so_bin op_mulU o_mul (so_ix ix_U o_ix (so_var 0 (pv 0)) so_int (fun _ _ => rfl)) (so_ix ix_U o_ix (so_var 1 (pv 1)) so_int (fun _ _ => rfl))) (so_bin op_mulU o_mul (so_ix ix_U o_ix (so_var 1 (pv 1)) so_int (fun _ _ => rfl)) (so_ix ix_U o_ix (so_var 0 (pv 0)) so_int (fun _ _ => rfl)))) (sa_cons (so_bin op_sub o_sub (so_bin op_mulU o_mul (so_ix ix_U o_ix (so_var 0 (pv 0)) so_int (fun _ _ => rfl)) (so_ix ix_U o_ix (so_var 1 (pv 1)) so_int (fun _ _ => rfl))) (so_bin op_mulU o_mul (so_ix ix_U o_ix (so_var 1 (pv 1)) so_int (fun _ _ => rfl)) (so_ix ix_U o_ix (so_var 0 (pv 0)) so_int (fun _ _ => rfl)))) sa_nil)))) (nomark _)) (ss_one (ss_ret so_bl)) ss_nil) (ss_cons (ss_set 3 (ps_set (i := 3) sc_law_space.nd rfl (Or.inl rfl) (so_bin op_sub o_sub (so_bin op_mulU o_mul (so_call (ok_law_dot T) (hr.mono (by decide)) rfl T.m_law_dot T.F_law_dot.kp T.b_law_dot tk (sa_cons (so_var 0 (pv 0)) (sa_cons (so_var 0 (pv 0)) sa_nil))) (so_call (ok_law_dot T) (hr.mono (by decide)) rfl T.m_law_dot T.F_law_dot.kp T.b_law_dot tk (sa_cons (so_var 1 (pv 1)) (sa_cons (so_var 1 (pv 1)) sa_nil)))) (so_bin op_mulU o_mul (so_call (ok_law_dot T) (hr.mono (by decide)) rfl T.m_law_dot T.F_law_dot.kp T.b_law_dot tk (sa_cons (so_var 0 (pv 0)) (sa_cons (so_var 1 (pv 1)) sa_nil))) (so_call (ok_law_dot T) (hr.mono (by decide)) rfl T.m_law_dot T.F_law_dot.kp T.b_law_dot tk (sa_cons (so_var 0 (pv 0)) (sa_cons (so_var 1 (pv 1)) sa_nil))))))) (ss_one (ss_ret (so_cmp (op_eqD hr.units) o_eq (so_call (ok_law_dot T) (hr.mono (by decide)) rfl T.m_law_dot T.F_law_dot.kp T.b_law_dot tk (sa_cons (so_var 2 (pv 2)) (sa_cons (so_var 2 (pv 2)) sa_nil))) (so_var 3 (pv 3)) (nomark _)))))))))
theorem sc_place_in_turn : FnScope ["told", "arrow", "low", "high", "at"] ["told", "arrow"] (defScope s_place_in_turn) := ⟨rfl, rfl, rfl, by decide +kernel, rfl, by decide +kernel, by decide +kernel⟩
theorem ok_place_in_turn (T : Txt K mg) : FnOk P w K mg base (L2.CX P w) 3 T.a_place_in_turn T.fd_place_in_turn ["told", "arrow"] (spOf K cl 2 d_place_in_turn) :=
  fn_ok T.F_place_in_turn sc_place_in_turn rfl rfl fun cdv A outer s H E hr pw tk => by
    have hu : (A.deeper (PyProof.Rows.envOfC "place_in_turn" (defScope s_place_in_turn) s.heap.objs.size T.a_place_in_turn cdv)).units + 65 < cLine := by have := hr.un; omega
    exact (ss_cons (ss_set 2 (ps_set (i := 2) sc_place_in_turn.nd rfl (Or.inl rfl) so_int)) (ss_cons (ss_set 3 (ps_set (i := 3) sc_place_in_turn.nd rfl (Or.inl rfl) (so_callB call_len a_len rfl T.z_len bt_len (sa_cons (so_var 0 (pv 0)) sa_nil)))) (ss_cons (ss_while pw (sb_cmp op_lt o_lt (so_var 2 (pv 2)) (so_var 3 (pv 3)) (nomark _)) (ss_cons (ss_set 4 (ps_set (i := 4) sc_place_in_turn.nd rfl (Or.inl rfl) (so_bin op_fdivX o_fdiv (so_bin op_addU o_add (so_var 2 (pv 2)) (so_var 3 (pv 3))) so_int))) (ss_one (ss_if (sb_val (so_call (ok_turns_before T) (hr.mono (by decide)) rfl T.m_turns_before T.F_turns_before.kp T.b_turns_before tk (sa_cons (so_ix ix_U o_ix (so_var 0 (pv 0)) (so_var 4 (pv 4)) (fun _ _ => rfl)) (sa_cons (so_var 1 (pv 1)) sa_nil)))) (ss_one (ss_set 2 (ps_set (i := 2) sc_place_in_turn.nd rfl (Or.inl rfl) (so_bin op_addU o_add (so_var 4 (pv 4)) so_int)))) (ss_one (ss_set 3 (ps_set (i := 3) sc_place_in_turn.nd rfl (Or.inl rfl) (so_var 4 (pv 4))))))))) (ss_one (ss_ret (so_var 2 (pv 2)))))))
theorem sc_law_single : FnScope ["arrow", "made", "number"] ["arrow"] (defScope s_law_single) := ⟨rfl, rfl, rfl, by decide +kernel, rfl, by decide +kernel, by decide +kernel⟩
theorem ok_law_single (T : Txt K mg) : FnOk P w K mg base (L2.CX P w) 3 T.a_law_single T.fd_law_single ["arrow"] (spOf K cl 1 d_law_single) :=
  fn_ok T.F_law_single sc_law_single rfl rfl fun cdv A outer s H E hr pw tk => by
    have hu : (A.deeper (PyProof.Rows.envOfC "_law_single" (defScope s_law_single) s.heap.objs.size T.a_law_single cdv)).units + 65 < cLine := by have := hr.un; omega
    exact (ss_cons (ss_set 1 (ps_set (i := 1) sc_law_single.nd rfl (Or.inl rfl) (so_call (ok_plain T) (hr.mono (by decide)) rfl T.m_plain T.F_plain.kp T.b_plain tk (sa_cons (so_var 0 (pv 0)) sa_nil)))) (ss_cons (ss_if (sw_b (sw_or (sb_not (sb_val (so_isiTy rfl T.z_isinstance (pe_bltn rfl T.z_tuple bt_tuple rfl) (so_var 1 (pv 1))))) (sw_or (sb_cmp (op_neD hr.units) o_ne (so_var 1 (pv 1)) (so_call (ok_law_short T) (hr.mono (by decide)) rfl T.m_law_short T.F_law_short.kp T.b_law_short tk (sa_cons (so_var 0 (pv 0)) sa_nil)) (nomark _)) (sw_or1 (sb_cmp (op_neD hr.units) o_ne (so_call (ok_plain T) (hr.mono (by decide)) rfl T.m_plain T.F_plain.kp T.b_plain tk (sa_cons (so_var 1 (pv 1)) sa_nil)) (so_var 1 (pv 1)) (nomark _)))))) (ss_one (ss_ret so_bl)) ss_nil) (ss_cons (ss_if (sw_b (sw_or (sb_cmp (op_neD hr.units) o_ne (so_call (ok_opposite T) (hr.mono (by decide)) rfl T.m_opposite T.F_opposite.kp T.b_opposite tk (sa_cons (so_var 0 (pv 0)) sa_nil)) (so_call (ok_law_flip T) (hr.mono (by decide)) rfl T.m_law_flip T.F_law_flip.kp T.b_law_flip tk (sa_cons (so_var 0 (pv 0)) sa_nil)) (nomark _)) (sw_or1 (sb_cmp (op_neD hr.units) o_ne (so_call (ok_opposite T) (hr.mono (by decide)) rfl T.m_opposite T.F_opposite.kp T.b_opposite tk (sa_cons (so_call (ok_opposite T) (hr.mono (by decide)) rfl T.m_opposite T.F_opposite.kp T.b_opposite tk (sa_cons (so_var 0 (pv 0)) sa_nil)) sa_nil)) (so_var 0 (pv 0)) (nomark _))))) (ss_one (ss_ret so_bl)) ss_nil) (ss_one (ss_ret (so_cmp (op_eqD hr.units) o_eq (so_call (ok_dot T) (hr.mono (by decide)) rfl T.m_dot T.F_dot.kp T.b_dot tk (sa_cons (so_var 0 (pv 0)) (sa_cons (so_var 0 (pv 0)) sa_nil))) (so_callB (cr_sum rfl) a_sum rfl T.z_sum bt_sum (sa_cons (so_fz (sc_lc (own := [("number", 2)]) rfl sc_law_single.nd (g_name 2) (by decide) (si_seq (so_var 0 (pv 0))) (blkOk_by (N := ["arrow", "made", "number"]) (sc := defScope s_law_single) (by decide +kernel)) (fun _ _ _ _ _ => (pg_name (i := 2) sc_law_single.nd rfl (by first | exact Or.inl rfl | exact Or.inr rfl))) (fun _ _ _ _ _ => ts_nil) (fun _ _ _ _ _ => (so_bin op_mulU o_mul (so_var 2 (pv 2)) (so_var 2 (pv 2)))))) sa_nil)) (nomark _)))))))
theorem sc_by_turn : FnScope ["arrows", "told", "known", "arrow", "mine"] ["arrows"] (defScope s_by_turn) := ⟨rfl, rfl, rfl, by decide +kernel, rfl, by decide +kernel, by decide +kernel⟩
theorem ok_by_turn (T : Txt K mg) : FnOk P w K mg base (L2.CX P w) 4 T.a_by_turn T.fd_by_turn ["arrows"] (spOf K cl 1 d_by_turn) :=
  fn_ok T.F_by_turn sc_by_turn rfl rfl fun cdv A outer s H E hr pw tk => by
    have hu : (A.deeper (PyProof.Rows.envOfC "by_turn" (defScope s_by_turn) s.heap.objs.size T.a_by_turn cdv)).units + 65 < cLine := by have := hr.un; omega
    exact (ss_cons (ss_own 1 (ps_set (i := 1) sc_by_turn.nd rfl (Or.inl rfl) (sc_lst sa_nil))) (ss_cons (ss_own 2 (ps_set (i := 2) sc_by_turn.nd rfl (Or.inl rfl) sc_empT)) (ss_cons (ss_for pw rfl (si_seq (so_var 0 (pv 0))) (g_name 3) (pg_name (i := 3) sc_by_turn.nd rfl (Or.inl rfl)) (ss_cons (ss_set 4 (ps_set (i := 4) sc_by_turn.nd rfl (Or.inl rfl) (so_call (ok_plain T) (hr.mono (by decide)) rfl T.m_plain T.F_plain.kp T.b_plain tk (sa_cons (so_var 3 (pv 3)) sa_nil)))) (ss_one (ss_if (sb_bor 2 (sb_cmp (op_notInA hu) o_notInA (so_var 4 (pv 4)) (so_var 2 (pv 2)) rfl)) (ss_cons (ss_put 2 (ps_dput (Nat.lt_of_le_of_lt (Nat.add_le_add_left (by decide : 1 ≤ 65) _) hu) (pv 2) (so_var 4 (pv 4)) so_bl rfl)) (ss_one (ss_ins 1 (ps_expr (pe_bm PySem.F.plainAttrs_list PySem.F.slot_list_insert PySem.F.type_list_insert mt_insert (pv 1) (sa_cons (so_bor 1 (so_call (ok_place_in_turn T) (hr.mono (by decide)) rfl T.m_place_in_turn T.F_place_in_turn.kp T.b_place_in_turn tk (sa_cons (so_var 1 (pv 1)) (sa_cons (so_var 4 (pv 4)) sa_nil)))) (sa_cons (so_var 4 (pv 4)) sa_nil))))))) ss_nil)))) (ss_one (ss_frz 1 (ss_ret (so_callTy call_tuple_of a_tuple rfl T.z_tuple bt_tuple (sa_cons (so_var 1 (pv 1)) sa_nil))))))))
theorem sc_law_plane : FnScope ["arrows", "given", "k", "arrow", "short", "number"] ["arrows"] (defScope s_law_plane) := ⟨rfl, rfl, rfl, by decide +kernel, rfl, by decide +kernel, by decide +kernel⟩
theorem ok_law_plane (T : Txt K mg) : FnOk P w K mg base (L2.CX P w) 5 T.a_law_plane T.fd_law_plane ["arrows"] (spOf K cl 1 d_law_plane) :=
  fn_ok T.F_law_plane sc_law_plane rfl rfl fun cdv A outer s H E hr pw tk => by
    have hu : (A.deeper (PyProof.Rows.envOfC "_law_plane" (defScope s_law_plane) s.heap.objs.size T.a_law_plane cdv)).units + 65 < cLine := by have := hr.un; omega
    exact (ss_cons (ss_set 1 (ps_set (i := 1) sc_law_plane.nd rfl (Or.inr rfl) (so_call (ok_by_turn T) (hr.mono (by decide)) rfl T.m_by_turn T.F_by_turn.kp T.b_by_turn tk (sa_cons (so_callTy call_tuple_of a_tuple rfl T.z_tuple bt_tuple (sa_cons (so_var 0 (pv 0)) sa_nil)) sa_nil)))) (ss_cons (ss_if (sb_not (sb_val (so_isiTy rfl T.z_isinstance (pe_bltn rfl T.z_tuple bt_tuple rfl) (so_var 1 (pv 1))))) (ss_one (ss_ret so_bl)) ss_nil) (ss_cons (ss_for pw rfl (si_rng2 rfl T.z_range (sa_cons so_int (sa_cons (so_callB call_len a_len rfl T.z_len bt_len (sa_cons (so_var 1 (pv 1)) sa_nil)) sa_nil))) (g_name 2) (pg_name (i := 2) sc_law_plane.nd rfl (Or.inl rfl)) (ss_one (ss_if (sb_not (sb_val (so_call (ok_law_before T) (hr.mono (by decide)) rfl T.m_law_before T.F_law_before.kp T.b_law_before tk (sa_cons (so_ix ix_U o_ix (so_var 1 (pv 1)) (so_bin op_sub o_sub (so_var 2 (pv 2)) so_int) (fun _ _ => rfl)) (sa_cons (so_ix ix_U o_ix (so_var 1 (pv 1)) (so_var 2 (pv 2)) (fun _ _ => rfl)) sa_nil))))) (ss_one (ss_ret so_bl)) ss_nil))) (ss_cons (ss_lcF (own := [("arrow", 3)]) (i := 4) rfl sc_law_plane.nd rfl rfl (sw_true rfl rfl rfl (by decide +kernel)) (g_name 3) (by decide) (si_seq (so_var 0 (pv 0))) (blkOk_by (N := ["arrows", "given", "k", "arrow", "short", "number"]) (sc := defScope s_law_plane) (by decide +kernel)) (fun _ _ _ _ _ => (pg_name (i := 3) sc_law_plane.nd rfl (by first | exact Or.inl rfl | exact Or.inr rfl))) (fun _ _ _ _ _ => ts_nil) (fun _ _ _ _ _ => (so_call (ok_law_short T) (hr.mono (by decide)) rfl T.m_law_short T.F_law_short.kp T.b_law_short takes0 (sa_cons (so_var 3 (pv 3)) sa_nil)))) (ss_cons (ss_for pw rfl (si_seq (so_var 1 (pv 1))) (g_name 3) (pg_name (i := 3) sc_law_plane.nd rfl (Or.inl rfl)) (ss_one (ss_if (sw_b (sw_or (sb_not (sb_val (so_isiTy rfl T.z_isinstance (pe_bltn rfl T.z_tuple bt_tuple rfl) (so_var 3 (pv 3))))) (sw_or (sb_cmp (op_notInA hu) o_notInA (so_var 3 (pv 3)) (so_var 4 (pv 4)) rfl) (sw_or1 (sb_not (sb_val (so_callB (cr_all rfl) a_all rfl T.z_all bt_all (sa_cons (so_fz (sc_lc (own := [("number", 5)]) rfl sc_law_plane.nd (g_name 5) (by decide) (si_seq (so_var 3 (pv 3))) (blkOk_by (N := ["arrows", "given", "k", "arrow", "short", "number"]) (sc := defScope s_law_plane) (by decide +kernel)) (fun _ _ _ _ _ => (pg_name (i := 5) sc_law_plane.nd rfl (by first | exact Or.inl rfl | exact Or.inr rfl))) (fun _ _ _ _ _ => ts_nil) (fun _ _ _ _ _ => (so_call (ok_law_whole T) (hr.mono (by decide)) rfl T.m_law_whole T.F_law_whole.kp T.b_law_whole takes0 (sa_cons (so_var 5 (pv 5)) sa_nil))))) sa_nil)))))))) (ss_one (ss_ret so_bl)) ss_nil))) (ss_one (ss_ret (so_not (so_callB (cr_any rfl) a_any rfl T.z_any bt_any (sa_cons (so_fz (sc_lc (own := [("arrow", 3)]) rfl sc_law_plane.nd (g_name 3) (by decide) (si_seq (so_var 4 (pv 4))) (blkOk_by (N := ["arrows", "given", "k", "arrow", "short", "number"]) (sc := defScope s_law_plane) (by decide +kernel)) (fun _ _ _ _ _ => (pg_name (i := 3) sc_law_plane.nd rfl (by first | exact Or.inl rfl | exact Or.inr rfl))) (fun _ _ _ _ _ => ts_nil) (fun _ _ _ _ _ => (so_cmp (op_notInA hu) o_notInA (so_var 3 (pv 3)) (so_var 1 (pv 1)) rfl)))) sa_nil))))))))))
theorem sc_law : FnScope ["script", "shape", "arrows", "k", "arrow", "made", "one", "other", "line", "number"] ["script"] (defScope s_law) := ⟨rfl, rfl, rfl, by decide +kernel, rfl, by decide +kernel, by decide +kernel⟩
theorem ok_law (T : Txt K mg) : FnOk P w K mg base (L2.CX P w) 6 T.a_law T.fd_law ["script"] (spOf K cl 1 d_law) :=
  fn_ok T.F_law sc_law rfl rfl fun cdv A outer s H E hr pw tk => by
    have hu : (A.deeper (PyProof.Rows.envOfC "law" (defScope s_law) s.heap.objs.size T.a_law cdv)).units + 65 < cLine := by have := hr.un; omega
    exact (ss_cons (ss_set 1 (ps_set (i := 1) sc_law.nd rfl (Or.inl rfl) (so_call (ok_law_digits T) (hr.mono (by decide)) rfl T.m_law_digits T.F_law_digits.kp T.b_law_digits tk (sa_cons (so_call (ok_law_cell T) (hr.mono (by decide)) rfl T.m_law_cell T.F_law_cell.kp T.b_law_cell tk (sa_cons (so_var 0 (pv 0)) (sa_cons so_int sa_nil))) (sa_cons (so_fz (sc_lst (sa_cons so_int (sa_cons so_int (sa_cons so_int sa_nil))))) sa_nil))))) (ss_cons (ss_own 2 (ps_set (i := 2) sc_law.nd rfl (Or.inl rfl) (sc_lst sa_nil))) (ss_cons (ss_for pw rfl (si_rng1 rfl T.z_range (sa_cons (so_bin op_addU o_add so_int (so_ix ix_U o_ix (so_var 1 (pv 1)) so_int (fun _ _ => rfl))) sa_nil)) (g_name 3) (pg_name (i := 3) sc_law.nd rfl (Or.inl rfl)) (ss_one (ss_app 2 (ps_expr (pe_bm PySem.F.plainAttrs_list PySem.F.slot_list_append PySem.F.type_list_append mt_append (pv 2) (sa_cons (so_call (ok_law_arrow T) (hr.mono (by decide)) rfl T.m_law_arrow T.F_law_arrow.kp T.b_law_arrow tk (sa_cons (so_call (ok_law_cell T) (hr.mono (by decide)) rfl T.m_law_cell T.F_law_cell.kp T.b_law_cell tk (sa_cons (so_var 0 (pv 0)) (sa_cons (so_bin op_addU o_add so_int (so_var 3 (pv 3))) sa_nil))) (sa_cons so_int sa_nil))) sa_nil)))))) (ss_cons (ss_if (sb_cmp op_gt o_gt (so_ix ix_U o_ix (so_var 1 (pv 1)) so_int (fun _ _ => rfl)) so_int (nomark _)) (ss_one (ss_frz 2 (ss_set 2 (ps_set (i := 2) sc_law.nd rfl (Or.inl rfl) (so_bin op_addU o_add (so_var 2 (pv 2)) (so_fz (sc_lst (sa_cons (so_call (ok_law_flip T) (hr.mono (by decide)) rfl T.m_law_flip T.F_law_flip.kp T.b_law_flip tk (sa_cons (so_ix ix_U o_ix (so_var 2 (pv 2)) so_int (fun _ _ => rfl)) sa_nil)) (sa_cons (so_tup (sa_cons so_int (sa_cons (so_un un_neg o_neg so_int) sa_nil))) (sa_cons (so_tup (sa_cons so_int (sa_cons so_int sa_nil))) (sa_cons (so_callTy call_tuple_of a_tuple rfl T.z_tuple bt_tuple (sa_cons (so_fz (sc_lc (own := [("number", 9)]) rfl sc_law.nd (g_name 9) (by decide) (si_seq (so_ix ix_U o_ix (so_var 2 (pv 2)) so_int (fun _ _ => rfl))) (blkOk_by (N := ["script", "shape", "arrows", "k", "arrow", "made", "one", "other", "line", "number"]) (sc := defScope s_law) (by decide +kernel)) (fun _ _ _ _ _ => (pg_name (i := 9) sc_law.nd rfl (by first | exact Or.inl rfl | exact Or.inr rfl))) (fun _ _ _ _ _ => ts_nil) (fun _ _ _ _ _ => (so_bin op_mulU o_mul (so_var 9 (pv 9)) so_int)))) sa_nil)) sa_nil))))))))))) ss_nil) (ss_cons (ss_frz 2 (ss_if (sb_cmp (op_eqD hr.units) o_eq (so_ix ix_U o_ix (so_var 1 (pv 1)) so_int (fun _ _ => rfl)) so_int (nomark _)) (ss_one (ss_set 2 (ps_set (i := 2) sc_law.nd rfl (Or.inl rfl) (so_bin op_addU o_add (so_var 2 (pv 2)) (so_fz (sc_lst (sa_cons (so_tup (sa_cons (so_un un_neg o_neg so_int) (sa_cons so_int sa_nil))) (sa_cons (so_tup (sa_cons so_int (sa_cons so_int sa_nil))) (sa_cons (so_tup (sa_cons (so_un un_neg o_neg (so_ix ix_U o_ix (so_ix ix_U o_ix (so_var 2 (pv 2)) so_int (fun _ _ => rfl)) so_int (fun _ _ => rfl))) (sa_cons (so_ix ix_U o_ix (so_ix ix_U o_ix (so_var 2 (pv 2)) so_int (fun _ _ => rfl)) so_int (fun _ _ => rfl)) sa_nil))) sa_nil))))))))) ss_nil)) (ss_cons (ss_if (sw_b (sw_or (sb_not (sb_val (so_call (ok_law_plane T) (hr.mono (by decide)) rfl T.m_law_plane T.F_law_plane.kp T.b_law_plane tk (sa_cons (so_var 2 (pv 2)) sa_nil)))) (sw_or (sb_not (sb_val (so_call (ok_law_plane T) (hr.mono (by decide)) rfl T.m_law_plane T.F_law_plane.kp T.b_law_plane tk (sa_cons (so_rev (so_var 2 (pv 2))) sa_nil)))) (sw_or1 (sb_cmp (op_neD hr.units) o_ne (so_call (ok_by_turn T) (hr.mono (by decide)) rfl T.m_by_turn T.F_by_turn.kp T.b_by_turn tk (sa_cons (so_callTy call_tuple_of a_tuple rfl T.z_tuple bt_tuple (sa_cons (so_var 2 (pv 2)) sa_nil)) sa_nil)) (so_call (ok_by_turn T) (hr.mono (by decide)) rfl T.m_by_turn T.F_by_turn.kp T.b_by_turn tk (sa_cons (so_callTy call_tuple_of a_tuple rfl T.z_tuple bt_tuple (sa_cons (so_rev (so_var 2 (pv 2))) sa_nil)) sa_nil)) (nomark _)))))) (ss_one (ss_ret so_bl)) ss_nil) (ss_cons (ss_for pw rfl (si_seq (so_var 2 (pv 2))) (g_name 4) (pg_name (i := 4) sc_law.nd rfl (Or.inl rfl)) (ss_cons (ss_set 5 (ps_set (i := 5) sc_law.nd rfl (Or.inl rfl) (so_call (ok_quarter T) (hr.mono (by decide)) rfl T.m_quarter T.F_quarter.kp T.b_quarter tk (sa_cons (so_var 4 (pv 4)) sa_nil)))) (ss_one (ss_if (sw_b (sw_or (sb_cmp (op_neD hr.units) o_ne (so_var 5 (pv 5)) (so_tup (sa_cons (so_un un_neg o_neg (so_ix ix_U o_ix (so_var 4 (pv 4)) so_int (fun _ _ => rfl))) (sa_cons (so_ix ix_U o_ix (so_var 4 (pv 4)) so_int (fun _ _ => rfl)) sa_nil))) (nomark _)) (sw_or1 (sb_not (sb_val (so_call (ok_law_single T) (hr.mono (by decide)) rfl T.m_law_single T.F_law_single.kp T.b_law_single tk (sa_cons (so_var 4 (pv 4)) sa_nil))))))) (ss_one (ss_ret so_bl)) ss_nil)))) (ss_cons (ss_set 6 (ps_set (i := 6) sc_law.nd rfl (Or.inl rfl) (so_call (ok_law_arrow T) (hr.mono (by decide)) rfl T.m_law_arrow T.F_law_arrow.kp T.b_law_arrow tk (sa_cons (so_call (ok_law_cell T) (hr.mono (by decide)) rfl T.m_law_cell T.F_law_cell.kp T.b_law_cell tk (sa_cons (so_var 0 (pv 0)) (sa_cons so_int sa_nil))) (sa_cons so_int sa_nil))))) (ss_cons (ss_set 7 (ps_set (i := 7) sc_law.nd rfl (Or.inl rfl) (so_call (ok_law_arrow T) (hr.mono (by decide)) rfl T.m_law_arrow T.F_law_arrow.kp T.b_law_arrow tk (sa_cons (so_call (ok_law_cell T) (hr.mono (by decide)) rfl T.m_law_cell T.F_law_cell.kp T.b_law_cell tk (sa_cons (so_var 0 (pv 0)) (sa_cons so_int sa_nil))) (sa_cons so_int sa_nil))))) (ss_cons (ss_if (sb_cmp (op_eqD hr.units) o_eq (so_ix ix_U o_ix (so_var 1 (pv 1)) so_int (fun _ _ => rfl)) so_int (nomark _)) (ss_one (ss_set 7 (ps_set (i := 7) sc_law.nd rfl (Or.inl rfl) (so_callTy call_tuple_of a_tuple rfl T.z_tuple bt_tuple (sa_cons (so_fz (sc_lc (own := [("number", 9)]) rfl sc_law.nd (g_name 9) (by decide) (si_seq (so_var 6 (pv 6))) (blkOk_by (N := ["script", "shape", "arrows", "k", "arrow", "made", "one", "other", "line", "number"]) (sc := defScope s_law) (by decide +kernel)) (fun _ _ _ _ _ => (pg_name (i := 9) sc_law.nd rfl (by first | exact Or.inl rfl | exact Or.inr rfl))) (fun _ _ _ _ _ => ts_nil) (fun _ _ _ _ _ => (so_bin op_mulU o_mul (so_var 9 (pv 9)) (so_un un_neg o_neg so_int))))) sa_nil))))) ss_nil) (ss_cons (ss_if (sw_b (sw_or (sb_not (sb_val (so_call (ok_law_space T) (hr.mono (by decide)) rfl T.m_law_space T.F_law_space.kp T.b_law_space tk (sa_cons (so_var 6 (pv 6)) (sa_cons (so_var 7 (pv 7)) sa_nil))))) (sw_or (sb_not (sb_val (so_call (ok_law_space T) (hr.mono (by decide)) rfl T.m_law_space T.F_law_space.kp T.b_law_space tk (sa_cons (so_var 7 (pv 7)) (sa_cons (so_var 6 (pv 6)) sa_nil))))) (sw_or1 (sb_not (sb_val (so_call (ok_law_single T) (hr.mono (by decide)) rfl T.m_law_single T.F_law_single.kp T.b_law_single tk (sa_cons (so_var 6 (pv 6)) sa_nil)))))))) (ss_one (ss_ret so_bl)) ss_nil) (ss_cons (ss_set 8 (ps_set (i := 8) sc_law.nd rfl (Or.inl rfl) (so_call (ok_law_arrow T) (hr.mono (by decide)) rfl T.m_law_arrow T.F_law_arrow.kp T.b_law_arrow tk (sa_cons (so_call (ok_law_cell T) (hr.mono (by decide)) rfl T.m_law_cell T.F_law_cell.kp T.b_law_cell tk (sa_cons (so_var 0 (pv 0)) (sa_cons so_int sa_nil))) (sa_cons so_int sa_nil))))) (ss_cons (ss_set 5 (ps_set (i := 5) sc_law.nd rfl (Or.inl rfl) (so_call (ok_dot T) (hr.mono (by decide)) rfl T.m_dot T.F_dot.kp T.b_dot tk (sa_cons (so_var 6 (pv 6)) (sa_cons (so_var 7 (pv 7)) sa_nil))))) (ss_one (ss_ret (so_and (so_call (ok_law_whole T) (hr.mono (by decide)) rfl T.m_law_whole T.F_law_whole.kp T.b_law_whole tk (sa_cons (so_var 5 (pv 5)) sa_nil)) (so_and (so_cmp (op_eqD hr.units) o_eq (so_var 5 (pv 5)) (so_call (ok_law_dot T) (hr.mono (by decide)) rfl T.m_law_dot T.F_law_dot.kp T.b_law_dot tk (sa_cons (so_var 6 (pv 6)) (sa_cons (so_var 7 (pv 7)) sa_nil))) (nomark _)) (so_one (so_call (ok_law_single T) (hr.mono (by decide)) rfl T.m_law_single T.F_law_single.kp T.b_law_single tk (sa_cons (so_var 8 (pv 8)) sa_nil))))))))))))))))))))
end
/-! ### what the top has written -/
theorem all_mk {l : PySem.W.OpenLaw} {w : World} {K : PySem.W.Frag} {h : Heap} {mg : Str → Option Value} {fa : Addr} (X : K.In h) (G : h.Ns mainGlobals mg) (hfa : mg "law" = some (.ref fa))
    {f0 : Addr} {od0 an0 : Option Addr} {sl0 : Array (Option Value)} {oc0 kV0 dc0 pm0 cd0 ct0 : Value}
    (a0 : PySem.W.nsIn K mainGlobals "dot" = some (some (.ref f0))) (l0 : K.lookup f0 = some ⟨oc0, od0, .func (PySem.W.fnOf "dot" "dot" (defArgs s_dot) (defBody s_dot) (defScope s_dot) .none kV0 dc0 pm0 an0 cd0 ct0), sl0⟩) (c0 : PySem.W.codeIn K cd0 "dot" = true) (k0 : PySem.W.keepIn K (.ref f0) = true)
    {f1 : Addr} {od1 an1 : Option Addr} {sl1 : Array (Option Value)} {oc1 kV1 dc1 pm1 cd1 ct1 : Value}
    (a1 : PySem.W.nsIn K mainGlobals "plain" = some (some (.ref f1))) (l1 : K.lookup f1 = some ⟨oc1, od1, .func (PySem.W.fnOf "plain" "plain" (defArgs s_plain) (defBody s_plain) (defScope s_plain) .none kV1 dc1 pm1 an1 cd1 ct1), sl1⟩) (c1 : PySem.W.codeIn K cd1 "plain" = true) (k1 : PySem.W.keepIn K (.ref f1) = true)
    {f2 : Addr} {od2 an2 : Option Addr} {sl2 : Array (Option Value)} {oc2 kV2 dc2 pm2 cd2 ct2 : Value}
    (a2 : PySem.W.nsIn K mainGlobals "opposite" = some (some (.ref f2))) (l2 : K.lookup f2 = some ⟨oc2, od2, .func (PySem.W.fnOf "opposite" "opposite" (defArgs s_opposite) (defBody s_opposite) (defScope s_opposite) .none kV2 dc2 pm2 an2 cd2 ct2), sl2⟩) (c2 : PySem.W.codeIn K cd2 "opposite" = true) (k2 : PySem.W.keepIn K (.ref f2) = true)
    {f3 : Addr} {od3 an3 : Option Addr} {sl3 : Array (Option Value)} {oc3 kV3 dc3 pm3 cd3 ct3 : Value}
    (a3 : PySem.W.nsIn K mainGlobals "quarter" = some (some (.ref f3))) (l3 : K.lookup f3 = some ⟨oc3, od3, .func (PySem.W.fnOf "quarter" "quarter" (defArgs s_quarter) (defBody s_quarter) (defScope s_quarter) .none kV3 dc3 pm3 an3 cd3 ct3), sl3⟩) (c3 : PySem.W.codeIn K cd3 "quarter" = true) (k3 : PySem.W.keepIn K (.ref f3) = true)
    {f4 : Addr} {od4 an4 : Option Addr} {sl4 : Array (Option Value)} {oc4 kV4 dc4 pm4 cd4 ct4 : Value}
    (a4 : PySem.W.nsIn K mainGlobals "cross" = some (some (.ref f4))) (l4 : K.lookup f4 = some ⟨oc4, od4, .func (PySem.W.fnOf "cross" "cross" (defArgs s_cross) (defBody s_cross) (defScope s_cross) .none kV4 dc4 pm4 an4 cd4 ct4), sl4⟩) (c4 : PySem.W.codeIn K cd4 "cross" = true) (k4 : PySem.W.keepIn K (.ref f4) = true)
    {f5 : Addr} {od5 an5 : Option Addr} {sl5 : Array (Option Value)} {oc5 kV5 dc5 pm5 cd5 ct5 : Value}
    (a5 : PySem.W.nsIn K mainGlobals "wedge" = some (some (.ref f5))) (l5 : K.lookup f5 = some ⟨oc5, od5, .func (PySem.W.fnOf "wedge" "wedge" (defArgs s_wedge) (defBody s_wedge) (defScope s_wedge) .none kV5 dc5 pm5 an5 cd5 ct5), sl5⟩) (c5 : PySem.W.codeIn K cd5 "wedge" = true) (k5 : PySem.W.keepIn K (.ref f5) = true)
    {f6 : Addr} {od6 an6 : Option Addr} {sl6 : Array (Option Value)} {oc6 kV6 dc6 pm6 cd6 ct6 : Value}
    (a6 : PySem.W.nsIn K mainGlobals "half_of" = some (some (.ref f6))) (l6 : K.lookup f6 = some ⟨oc6, od6, .func (PySem.W.fnOf "half_of" "half_of" (defArgs s_half_of) (defBody s_half_of) (defScope s_half_of) .none kV6 dc6 pm6 an6 cd6 ct6), sl6⟩) (c6 : PySem.W.codeIn K cd6 "half_of" = true) (k6 : PySem.W.keepIn K (.ref f6) = true)
    {f7 : Addr} {od7 an7 : Option Addr} {sl7 : Array (Option Value)} {oc7 kV7 dc7 pm7 cd7 ct7 : Value}
    (a7 : PySem.W.nsIn K mainGlobals "_law_whole" = some (some (.ref f7))) (l7 : K.lookup f7 = some ⟨oc7, od7, .func (PySem.W.fnOf "_law_whole" "_law_whole" (defArgs s_law_whole) (defBody s_law_whole) (defScope s_law_whole) .none kV7 dc7 pm7 an7 cd7 ct7), sl7⟩) (c7 : PySem.W.codeIn K cd7 "_law_whole" = true) (k7 : PySem.W.keepIn K (.ref f7) = true)
    {f8 : Addr} {od8 an8 : Option Addr} {sl8 : Array (Option Value)} {oc8 kV8 dc8 pm8 cd8 ct8 : Value}
    (a8 : PySem.W.nsIn K mainGlobals "_law_cell" = some (some (.ref f8))) (l8 : K.lookup f8 = some ⟨oc8, od8, .func (PySem.W.fnOf "_law_cell" "_law_cell" (defArgs s_law_cell) (defBody s_law_cell) (defScope s_law_cell) .none kV8 dc8 pm8 an8 cd8 ct8), sl8⟩) (c8 : PySem.W.codeIn K cd8 "_law_cell" = true) (k8 : PySem.W.keepIn K (.ref f8) = true)
    {f9 : Addr} {od9 an9 : Option Addr} {sl9 : Array (Option Value)} {oc9 kV9 dc9 pm9 cd9 ct9 : Value}
    (a9 : PySem.W.nsIn K mainGlobals "_law_digits" = some (some (.ref f9))) (l9 : K.lookup f9 = some ⟨oc9, od9, .func (PySem.W.fnOf "_law_digits" "_law_digits" (defArgs s_law_digits) (defBody s_law_digits) (defScope s_law_digits) .none kV9 dc9 pm9 an9 cd9 ct9), sl9⟩) (c9 : PySem.W.codeIn K cd9 "_law_digits" = true) (k9 : PySem.W.keepIn K (.ref f9) = true)
    {f10 : Addr} {od10 an10 : Option Addr} {sl10 : Array (Option Value)} {oc10 kV10 dc10 pm10 cd10 ct10 : Value}
    (a10 : PySem.W.nsIn K mainGlobals "_law_gcd" = some (some (.ref f10))) (l10 : K.lookup f10 = some ⟨oc10, od10, .func (PySem.W.fnOf "_law_gcd" "_law_gcd" (defArgs s_law_gcd) (defBody s_law_gcd) (defScope s_law_gcd) .none kV10 dc10 pm10 an10 cd10 ct10), sl10⟩) (c10 : PySem.W.codeIn K cd10 "_law_gcd" = true) (k10 : PySem.W.keepIn K (.ref f10) = true)
    {f11 : Addr} {od11 an11 : Option Addr} {sl11 : Array (Option Value)} {oc11 kV11 dc11 pm11 cd11 ct11 : Value}
    (a11 : PySem.W.nsIn K mainGlobals "_law_dot" = some (some (.ref f11))) (l11 : K.lookup f11 = some ⟨oc11, od11, .func (PySem.W.fnOf "_law_dot" "_law_dot" (defArgs s_law_dot) (defBody s_law_dot) (defScope s_law_dot) .none kV11 dc11 pm11 an11 cd11 ct11), sl11⟩) (c11 : PySem.W.codeIn K cd11 "_law_dot" = true) (k11 : PySem.W.keepIn K (.ref f11) = true)
    {f12 : Addr} {od12 an12 : Option Addr} {sl12 : Array (Option Value)} {oc12 kV12 dc12 pm12 cd12 ct12 : Value}
    (a12 : PySem.W.nsIn K mainGlobals "_law_flip" = some (some (.ref f12))) (l12 : K.lookup f12 = some ⟨oc12, od12, .func (PySem.W.fnOf "_law_flip" "_law_flip" (defArgs s_law_flip) (defBody s_law_flip) (defScope s_law_flip) .none kV12 dc12 pm12 an12 cd12 ct12), sl12⟩) (c12 : PySem.W.codeIn K cd12 "_law_flip" = true) (k12 : PySem.W.keepIn K (.ref f12) = true)
    {f13 : Addr} {od13 an13 : Option Addr} {sl13 : Array (Option Value)} {oc13 kV13 dc13 pm13 cd13 ct13 : Value}
    (a13 : PySem.W.nsIn K mainGlobals "_law_half" = some (some (.ref f13))) (l13 : K.lookup f13 = some ⟨oc13, od13, .func (PySem.W.fnOf "_law_half" "_law_half" (defArgs s_law_half) (defBody s_law_half) (defScope s_law_half) .none kV13 dc13 pm13 an13 cd13 ct13), sl13⟩) (c13 : PySem.W.codeIn K cd13 "_law_half" = true) (k13 : PySem.W.keepIn K (.ref f13) = true)
    {f14 : Addr} {od14 an14 : Option Addr} {sl14 : Array (Option Value)} {oc14 kV14 dc14 pm14 cd14 ct14 : Value}
    (a14 : PySem.W.nsIn K mainGlobals "turns_before" = some (some (.ref f14))) (l14 : K.lookup f14 = some ⟨oc14, od14, .func (PySem.W.fnOf "turns_before" "turns_before" (defArgs s_turns_before) (defBody s_turns_before) (defScope s_turns_before) .none kV14 dc14 pm14 an14 cd14 ct14), sl14⟩) (c14 : PySem.W.codeIn K cd14 "turns_before" = true) (k14 : PySem.W.keepIn K (.ref f14) = true)
    {f15 : Addr} {od15 an15 : Option Addr} {sl15 : Array (Option Value)} {oc15 kV15 dc15 pm15 cd15 ct15 : Value}
    (a15 : PySem.W.nsIn K mainGlobals "_law_short" = some (some (.ref f15))) (l15 : K.lookup f15 = some ⟨oc15, od15, .func (PySem.W.fnOf "_law_short" "_law_short" (defArgs s_law_short) (defBody s_law_short) (defScope s_law_short) .none kV15 dc15 pm15 an15 cd15 ct15), sl15⟩) (c15 : PySem.W.codeIn K cd15 "_law_short" = true) (k15 : PySem.W.keepIn K (.ref f15) = true)
    {f16 : Addr} {od16 an16 : Option Addr} {sl16 : Array (Option Value)} {oc16 kV16 dc16 pm16 cd16 ct16 : Value}
    (a16 : PySem.W.nsIn K mainGlobals "_law_before" = some (some (.ref f16))) (l16 : K.lookup f16 = some ⟨oc16, od16, .func (PySem.W.fnOf "_law_before" "_law_before" (defArgs s_law_before) (defBody s_law_before) (defScope s_law_before) .none kV16 dc16 pm16 an16 cd16 ct16), sl16⟩) (c16 : PySem.W.codeIn K cd16 "_law_before" = true) (k16 : PySem.W.keepIn K (.ref f16) = true)
    {f17 : Addr} {od17 an17 : Option Addr} {sl17 : Array (Option Value)} {oc17 kV17 dc17 pm17 cd17 ct17 : Value}
    (a17 : PySem.W.nsIn K mainGlobals "_law_arrow" = some (some (.ref f17))) (l17 : K.lookup f17 = some ⟨oc17, od17, .func (PySem.W.fnOf "_law_arrow" "_law_arrow" (defArgs s_law_arrow) (defBody s_law_arrow) (defScope s_law_arrow) .none kV17 dc17 pm17 an17 cd17 ct17), sl17⟩) (c17 : PySem.W.codeIn K cd17 "_law_arrow" = true) (k17 : PySem.W.keepIn K (.ref f17) = true)
    {f18 : Addr} {od18 an18 : Option Addr} {sl18 : Array (Option Value)} {oc18 kV18 dc18 pm18 cd18 ct18 : Value}
    (a18 : PySem.W.nsIn K mainGlobals "_law_space" = some (some (.ref f18))) (l18 : K.lookup f18 = some ⟨oc18, od18, .func (PySem.W.fnOf "_law_space" "_law_space" (defArgs s_law_space) (defBody s_law_space) (defScope s_law_space) .none kV18 dc18 pm18 an18 cd18 ct18), sl18⟩) (c18 : PySem.W.codeIn K cd18 "_law_space" = true) (k18 : PySem.W.keepIn K (.ref f18) = true)
    {f19 : Addr} {od19 an19 : Option Addr} {sl19 : Array (Option Value)} {oc19 kV19 dc19 pm19 cd19 ct19 : Value}
    (a19 : PySem.W.nsIn K mainGlobals "place_in_turn" = some (some (.ref f19))) (l19 : K.lookup f19 = some ⟨oc19, od19, .func (PySem.W.fnOf "place_in_turn" "place_in_turn" (defArgs s_place_in_turn) (defBody s_place_in_turn) (defScope s_place_in_turn) .none kV19 dc19 pm19 an19 cd19 ct19), sl19⟩) (c19 : PySem.W.codeIn K cd19 "place_in_turn" = true) (k19 : PySem.W.keepIn K (.ref f19) = true)
    {f20 : Addr} {od20 an20 : Option Addr} {sl20 : Array (Option Value)} {oc20 kV20 dc20 pm20 cd20 ct20 : Value}
    (a20 : PySem.W.nsIn K mainGlobals "_law_single" = some (some (.ref f20))) (l20 : K.lookup f20 = some ⟨oc20, od20, .func (PySem.W.fnOf "_law_single" "_law_single" (defArgs s_law_single) (defBody s_law_single) (defScope s_law_single) .none kV20 dc20 pm20 an20 cd20 ct20), sl20⟩) (c20 : PySem.W.codeIn K cd20 "_law_single" = true) (k20 : PySem.W.keepIn K (.ref f20) = true)
    {f21 : Addr} {od21 an21 : Option Addr} {sl21 : Array (Option Value)} {oc21 kV21 dc21 pm21 cd21 ct21 : Value}
    (a21 : PySem.W.nsIn K mainGlobals "by_turn" = some (some (.ref f21))) (l21 : K.lookup f21 = some ⟨oc21, od21, .func (PySem.W.fnOf "by_turn" "by_turn" (defArgs s_by_turn) (defBody s_by_turn) (defScope s_by_turn) .none kV21 dc21 pm21 an21 cd21 ct21), sl21⟩) (c21 : PySem.W.codeIn K cd21 "by_turn" = true) (k21 : PySem.W.keepIn K (.ref f21) = true)
    {f22 : Addr} {od22 an22 : Option Addr} {sl22 : Array (Option Value)} {oc22 kV22 dc22 pm22 cd22 ct22 : Value}
    (a22 : PySem.W.nsIn K mainGlobals "_law_plane" = some (some (.ref f22))) (l22 : K.lookup f22 = some ⟨oc22, od22, .func (PySem.W.fnOf "_law_plane" "_law_plane" (defArgs s_law_plane) (defBody s_law_plane) (defScope s_law_plane) .none kV22 dc22 pm22 an22 cd22 ct22), sl22⟩) (c22 : PySem.W.codeIn K cd22 "_law_plane" = true) (k22 : PySem.W.keepIn K (.ref f22) = true)
    {f23 : Addr} {od23 an23 : Option Addr} {sl23 : Array (Option Value)} {oc23 kV23 dc23 pm23 cd23 ct23 : Value}
    (a23 : PySem.W.nsIn K mainGlobals "law" = some (some (.ref f23))) (l23 : K.lookup f23 = some ⟨oc23, od23, .func (PySem.W.fnOf "law" "law" (defArgs s_law) (defBody s_law) (defScope s_law) .none kV23 dc23 pm23 an23 cd23 ct23), sl23⟩) (c23 : PySem.W.codeIn K cd23 "law" = true) (k23 : PySem.W.keepIn K (.ref f23) = true)
    (z_abs : PySem.W.nsIn K mainGlobals "abs" = some none)
    (z_all : PySem.W.nsIn K mainGlobals "all" = some none)
    (z_any : PySem.W.nsIn K mainGlobals "any" = some none)
    (z_bool : PySem.W.nsIn K mainGlobals "bool" = some none)
    (z_int : PySem.W.nsIn K mainGlobals "int" = some none)
    (z_isinstance : PySem.W.nsIn K mainGlobals "isinstance" = some none)
    (z_len : PySem.W.nsIn K mainGlobals "len" = some none)
    (z_range : PySem.W.nsIn K mainGlobals "range" = some none)
    (z_sum : PySem.W.nsIn K mainGlobals "sum" = some none)
    (z_tuple : PySem.W.nsIn K mainGlobals "tuple" = some none)
    (g_gcd : PySem.W.nsIn K mainGlobals "gcd" = some (some (.builtin "math.gcd")))
    : ∃ fd : FuncData, (∀ (s : Shared) (v : Value), BindsTo s fd ⟨[v], []⟩ [("script", v)]) ∧ ∀ base : Heap, K.In base → base.Ns mainGlobals mg → FnOk l.prog w K mg base (L2.CX l.prog w) 6 fa fd ["script"] (spOf K (fun _ => 0) 1 d_law) := by
  have e := hfa.symm.trans (PySem.W.mg_of X G a23)
  cases e
  have F0 := fun_mk (st := s_dot) l0 c0 k0
  have b0 := F0.binds (ps := ["one", "two"]) fun _ _ _ _ _ _ us hl => match us, hl with | [_, _], _ => rfl
  have F1 := fun_mk (st := s_plain) l1 c1 k1
  have b1 := F1.binds (ps := ["arrow"]) fun _ _ _ _ _ _ us hl => match us, hl with | [_], _ => rfl
  have F2 := fun_mk (st := s_opposite) l2 c2 k2
  have b2 := F2.binds (ps := ["arrow"]) fun _ _ _ _ _ _ us hl => match us, hl with | [_], _ => rfl
  have F3 := fun_mk (st := s_quarter) l3 c3 k3
  have b3 := F3.binds (ps := ["arrow"]) fun _ _ _ _ _ _ us hl => match us, hl with | [_], _ => rfl
  have F4 := fun_mk (st := s_cross) l4 c4 k4
  have b4 := F4.binds (ps := ["one", "two"]) fun _ _ _ _ _ _ us hl => match us, hl with | [_, _], _ => rfl
  have F5 := fun_mk (st := s_wedge) l5 c5 k5
  have b5 := F5.binds (ps := ["one", "two"]) fun _ _ _ _ _ _ us hl => match us, hl with | [_, _], _ => rfl
  have F6 := fun_mk (st := s_half_of) l6 c6 k6
  have b6 := F6.binds (ps := ["arrow"]) fun _ _ _ _ _ _ us hl => match us, hl with | [_], _ => rfl
  have F7 := fun_mk (st := s_law_whole) l7 c7 k7
  have b7 := F7.binds (ps := ["value"]) fun _ _ _ _ _ _ us hl => match us, hl with | [_], _ => rfl
  have F8 := fun_mk (st := s_law_cell) l8 c8 k8
  have b8 := F8.binds (ps := ["script", "k"]) fun _ _ _ _ _ _ us hl => match us, hl with | [_, _], _ => rfl
  have F9 := fun_mk (st := s_law_digits) l9 c9 k9
  have b9 := F9.binds (ps := ["cell", "sizes"]) fun _ _ _ _ _ _ us hl => match us, hl with | [_, _], _ => rfl
  have F10 := fun_mk (st := s_law_gcd) l10 c10 k10
  have b10 := F10.binds (ps := ["one", "other"]) fun _ _ _ _ _ _ us hl => match us, hl with | [_, _], _ => rfl
  have F11 := fun_mk (st := s_law_dot) l11 c11 k11
  have b11 := F11.binds (ps := ["one", "other"]) fun _ _ _ _ _ _ us hl => match us, hl with | [_, _], _ => rfl
  have F12 := fun_mk (st := s_law_flip) l12 c12 k12
  have b12 := F12.binds (ps := ["arrow"]) fun _ _ _ _ _ _ us hl => match us, hl with | [_], _ => rfl
  have F13 := fun_mk (st := s_law_half) l13 c13 k13
  have b13 := F13.binds (ps := ["arrow"]) fun _ _ _ _ _ _ us hl => match us, hl with | [_], _ => rfl
  have F14 := fun_mk (st := s_turns_before) l14 c14 k14
  have b14 := F14.binds (ps := ["one", "two"]) fun _ _ _ _ _ _ us hl => match us, hl with | [_, _], _ => rfl
  have F15 := fun_mk (st := s_law_short) l15 c15 k15
  have b15 := F15.binds (ps := ["arrow"]) fun _ _ _ _ _ _ us hl => match us, hl with | [_], _ => rfl
  have F16 := fun_mk (st := s_law_before) l16 c16 k16
  have b16 := F16.binds (ps := ["one", "other"]) fun _ _ _ _ _ _ us hl => match us, hl with | [_, _], _ => rfl
  have F17 := fun_mk (st := s_law_arrow) l17 c17 k17
  have b17 := F17.binds (ps := ["cell", "size"]) fun _ _ _ _ _ _ us hl => match us, hl with | [_, _], _ => rfl
  have F18 := fun_mk (st := s_law_space) l18 c18 k18
  have b18 := F18.binds (ps := ["one", "other"]) fun _ _ _ _ _ _ us hl => match us, hl with | [_, _], _ => rfl
  have F19 := fun_mk (st := s_place_in_turn) l19 c19 k19
  have b19 := F19.binds (ps := ["told", "arrow"]) fun _ _ _ _ _ _ us hl => match us, hl with | [_, _], _ => rfl
  have F20 := fun_mk (st := s_law_single) l20 c20 k20
  have b20 := F20.binds (ps := ["arrow"]) fun _ _ _ _ _ _ us hl => match us, hl with | [_], _ => rfl
  have F21 := fun_mk (st := s_by_turn) l21 c21 k21
  have b21 := F21.binds (ps := ["arrows"]) fun _ _ _ _ _ _ us hl => match us, hl with | [_], _ => rfl
  have F22 := fun_mk (st := s_law_plane) l22 c22 k22
  have b22 := F22.binds (ps := ["arrows"]) fun _ _ _ _ _ _ us hl => match us, hl with | [_], _ => rfl
  have F23 := fun_mk (st := s_law) l23 c23 k23
  have b23 := F23.binds (ps := ["script"]) fun _ _ _ _ _ _ us hl => match us, hl with | [_], _ => rfl
  let T : Txt K mg := ⟨_, _, F0, PySem.W.mg_of X G a0, b0,
    _, _, F1, PySem.W.mg_of X G a1, b1,
    _, _, F2, PySem.W.mg_of X G a2, b2,
    _, _, F3, PySem.W.mg_of X G a3, b3,
    _, _, F4, PySem.W.mg_of X G a4, b4,
    _, _, F5, PySem.W.mg_of X G a5, b5,
    _, _, F6, PySem.W.mg_of X G a6, b6,
    _, _, F7, PySem.W.mg_of X G a7, b7,
    _, _, F8, PySem.W.mg_of X G a8, b8,
    _, _, F9, PySem.W.mg_of X G a9, b9,
    _, _, F10, PySem.W.mg_of X G a10, b10,
    _, _, F11, PySem.W.mg_of X G a11, b11,
    _, _, F12, PySem.W.mg_of X G a12, b12,
    _, _, F13, PySem.W.mg_of X G a13, b13,
    _, _, F14, PySem.W.mg_of X G a14, b14,
    _, _, F15, PySem.W.mg_of X G a15, b15,
    _, _, F16, PySem.W.mg_of X G a16, b16,
    _, _, F17, PySem.W.mg_of X G a17, b17,
    _, _, F18, PySem.W.mg_of X G a18, b18,
    _, _, F19, PySem.W.mg_of X G a19, b19,
    _, _, F20, PySem.W.mg_of X G a20, b20,
    _, _, F21, PySem.W.mg_of X G a21, b21,
    _, _, F22, PySem.W.mg_of X G a22, b22,
    _, _, F23, PySem.W.mg_of X G a23, b23,
    PySem.W.mg_none_of X G z_abs,
    PySem.W.mg_none_of X G z_all,
    PySem.W.mg_none_of X G z_any,
    PySem.W.mg_none_of X G z_bool,
    PySem.W.mg_none_of X G z_int,
    PySem.W.mg_none_of X G z_isinstance,
    PySem.W.mg_none_of X G z_len,
    PySem.W.mg_none_of X G z_range,
    PySem.W.mg_none_of X G z_sum,
    PySem.W.mg_none_of X G z_tuple,
    PySem.W.mg_of X G g_gcd⟩
  exact ⟨PySem.W.fnOf "law" "law" (defArgs s_law) (defBody s_law) (defScope s_law) .none kV23 dc23 pm23 an23 cd23 ct23, fun s v => .of_eq rfl, fun base _ _ => ok_law T⟩
theorem walk {l : PySem.W.OpenLaw} {q : Program} {loose : List Str} {XP : (Str → Option Value) → Heap → Prop} {YP : World → Heap → Prop} {d : DefRec} {K : Params → PySem.W.Frag} (hn : l.most = some 63) (hdf : d.params.defaults = [])
    (hY : ∀ (w : World) (h : Heap), YP w h → (K w.params).In h)
    (F : ∀ (w : World) (mg : Str → Option Value) (fa : Addr) (h : Heap), (K w.params).In h → h.Ns mainGlobals mg → mg d.name = some (.ref fa) →
      ∃ fd : FuncData, (∀ (s : Shared) (u : Value), BindsTo s fd ⟨[u], []⟩ [("script", u)]) ∧ ∀ base : Heap, (K w.params).In base → base.Ns mainGlobals mg → FnOk l.prog w (K w.params) mg base (L2.CX l.prog w) 6 fa fd ["script"] (spOf (K w.params) (fun _ => 0) 1 d_law))
    (good : ∀ ns : List Int, ns.length ≤ 63 → d_law [.scr ns] = .ok (.bl true)) :
    PySem.W.WalkO q loose XP YP l.row.toRowW d [] (fun f vs => PySem.call f vs) :=
  L2.walk_of (n := 63) (k := 6) (x := "script") (CX := fun w => L2.CX l.prog w) (sp := fun w => spOf (K w.params) (fun _ => 0) 1 d_law) hn (by decide) hdf ⟨rfl, by decide, by decide⟩ hY F
    (fun w H a ns hl _ hS => ⟨H, [.scr ns], Same.refl _, .cons (.scr hS) .nil, rfl, by rw [good ns hl]; exact fun v F' H' _ r => by cases r; rfl⟩)
    fun _ _ _ _ _ z => by
      obtain ⟨_, _, _, _, _, _, _, _, _, _, _, _, z⟩ := z
      exact z.elim
end Cm
open PySem PySem.W PyProof.Rows in
set_option maxRecDepth 100000 in
set_option maxHeartbeats 0 in
theorem PySem.Challenge.cw_calmspot_k02_arrows_by_turn_holds : PySem.Challenge.rw_calmspot_k02_arrows_by_turn.Holds := by
  w_on; o_law; k_head; (case hw => w_witness2)
  k_fill
  refine Cm.walk (l := PySem.Challenge.rw_calmspot_k02_arrows_by_turn) rfl rfl (fun w h Y => PySem.W.kIn_of Y) ?F Cm.good
  case F =>
    intro w mg fa h KX G hmg
    refine' Cm.all_mk KX G hmg ?a0 ?l0 ?c0 ?k0 ?a1 ?l1 ?c1 ?k1 ?a2 ?l2 ?c2 ?k2 ?a3 ?l3 ?c3 ?k3 ?a4 ?l4 ?c4 ?k4 ?a5 ?l5 ?c5 ?k5 ?a6 ?l6 ?c6 ?k6 ?a7 ?l7 ?c7 ?k7 ?a8 ?l8 ?c8 ?k8 ?a9 ?l9 ?c9 ?k9 ?a10 ?l10 ?c10 ?k10 ?a11 ?l11 ?c11 ?k11 ?a12 ?l12 ?c12 ?k12 ?a13 ?l13 ?c13 ?k13 ?a14 ?l14 ?c14 ?k14 ?a15 ?l15 ?c15 ?k15 ?a16 ?l16 ?c16 ?k16 ?a17 ?l17 ?c17 ?k17 ?a18 ?l18 ?c18 ?k18 ?a19 ?l19 ?c19 ?k19 ?a20 ?l20 ?c20 ?k20 ?a21 ?l21 ?c21 ?k21 ?a22 ?l22 ?c22 ?k22 ?a23 ?l23 ?c23 ?k23 ?z_abs ?z_all ?z_any ?z_bool ?z_int ?z_isinstance ?z_len ?z_range ?z_sum ?z_tuple ?g_gcd
    (case a0 => k_is)
    (case l0 => k_is)
    (case c0 => k_is)
    (case k0 => k_is)
    (case a1 => k_is)
    (case l1 => k_is)
    (case c1 => k_is)
    (case k1 => k_is)
    (case a2 => k_is)
    (case l2 => k_is)
    (case c2 => k_is)
    (case k2 => k_is)
    (case a3 => k_is)
    (case l3 => k_is)
    (case c3 => k_is)
    (case k3 => k_is)
    (case a4 => k_is)
    (case l4 => k_is)
    (case c4 => k_is)
    (case k4 => k_is)
    (case a5 => k_is)
    (case l5 => k_is)
    (case c5 => k_is)
    (case k5 => k_is)
    (case a6 => k_is)
    (case l6 => k_is)
    (case c6 => k_is)
    (case k6 => k_is)
    (case a7 => k_is)
    (case l7 => k_is)
    (case c7 => k_is)
    (case k7 => k_is)
    (case a8 => k_is)
    (case l8 => k_is)
    (case c8 => k_is)
    (case k8 => k_is)
    (case a9 => k_is)
    (case l9 => k_is)
    (case c9 => k_is)
    (case k9 => k_is)
    (case a10 => k_is)
    (case l10 => k_is)
    (case c10 => k_is)
    (case k10 => k_is)
    (case a11 => k_is)
    (case l11 => k_is)
    (case c11 => k_is)
    (case k11 => k_is)
    (case a12 => k_is)
    (case l12 => k_is)
    (case c12 => k_is)
    (case k12 => k_is)
    (case a13 => k_is)
    (case l13 => k_is)
    (case c13 => k_is)
    (case k13 => k_is)
    (case a14 => k_is)
    (case l14 => k_is)
    (case c14 => k_is)
    (case k14 => k_is)
    (case a15 => k_is)
    (case l15 => k_is)
    (case c15 => k_is)
    (case k15 => k_is)
    (case a16 => k_is)
    (case l16 => k_is)
    (case c16 => k_is)
    (case k16 => k_is)
    (case a17 => k_is)
    (case l17 => k_is)
    (case c17 => k_is)
    (case k17 => k_is)
    (case a18 => k_is)
    (case l18 => k_is)
    (case c18 => k_is)
    (case k18 => k_is)
    (case a19 => k_is)
    (case l19 => k_is)
    (case c19 => k_is)
    (case k19 => k_is)
    (case a20 => k_is)
    (case l20 => k_is)
    (case c20 => k_is)
    (case k20 => k_is)
    (case a21 => k_is)
    (case l21 => k_is)
    (case c21 => k_is)
    (case k21 => k_is)
    (case a22 => k_is)
    (case l22 => k_is)
    (case c22 => k_is)
    (case k22 => k_is)
    (case a23 => k_is)
    (case l23 => k_is)
    (case c23 => k_is)
    (case k23 => k_is)
    (case z_abs => k_is)
    (case z_all => k_is)
    (case z_any => k_is)
    (case z_bool => k_is)
    (case z_int => k_is)
    (case z_isinstance => k_is)
    (case z_len => k_is)
    (case z_range => k_is)
    (case z_sum => k_is)
    (case z_tuple => k_is)
    (case g_gcd => k_is)
