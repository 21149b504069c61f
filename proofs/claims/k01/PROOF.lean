import PyProof.Rows.All
import Wide.All
import OpenK.AllK
import Wide.FinOn
import HandS.ForMost
import HandS.Exc
import HandS.ExcOwn
import HandS.WordsExc
import HandS.CallSlots
import HandS.Defaults
import HandS.Wide
import HandS.TupAny
import HandS.TupMul
import HandS.IsInst
import HandS.Flow
import HandS.ExcInit
import HandS.ExcIs
import KE.KExcInit
import HandS.Small
import HandS.ExcValue
import HandS.ExcField
import PyProof.ReprRoads
import KE.KExcIs
import HandS.Head0
import HandS.Head1
import HandS.Head2
import HandS.HeadEnd
import HandS.HeadHook1
import HandS.HeadHook2
import PySem.Challenge.RW_evenkeeps_k01_errors_and_limits
set_option Elab.async false
set_option linter.all false
set_option maxRecDepth 100000
set_option maxHeartbeats 0
/-! M1: data, the view, what stands for what; results; the readings TI, TS. -/
namespace M
open PySem PySem.Spec PyProof.Rows L2

/-- a datum: texts, ints, tuples; a list or an instance that nobody changes any more; an exception; n: a mutable thing of the store -/
inductive D where
  | non | bl (b : Bool) | int (i : Int) | str (x : Str) | ty (n : String) | glo (x : Str)
  | tup (xs : List D) | lst (xs : List D) | dct (ks : List Key) (xs : List D) | obj (C : Str) (fs : List (Str × D)) | exc (C : Str) (fs : List (Str × D)) | ref (n : Nat)
  deriving Inhabited
/-- a mutable thing -/
inductive O where
  | lst (xs : List D) | dct (kvs : List (Key × D)) | ins (C : Str) (fs : List (Str × D))
  deriving Inhabited
abbrev Sto := List O
abbrev Env := List (Option D)

/-- an exception's object -/
def exq (a C : Addr) (d : Option Addr) : HO := .ext fun h => ∃ vs, h.get? a = some ({ cls := .ref C, dict := d, data := .fields vs } : Obj)

/-- the view: K the written part, g where names stand, ρ where the store's things stand, Z what is out of reach, H the heap -/
structure Vw where
  K : PySem.W.Frag
  g : Str → Addr
  Z : Addr → Prop
  ρ : List Addr
  H : Hp
abbrev Vw.to (W : Vw) (ρ : List Addr) (H : Hp) : Vw := { W with ρ := ρ, H := H }
/-- what nobody changes -/
def Vw.fro (W : Vw) (a : Addr) : Prop := a ∉ W.ρ ∧ ¬ W.Z a
def WrT (K : PySem.W.Frag) (a : Addr) (ys : List V) : Prop := ∃ (o : Obj) (its : Array Value) (n : Nat), K.lookup a = some o ∧ o.cls = .type "tuple" ∧ o.data = .seq its n ∧ its.size ≤ sizeLine ∧ Vals ys its.toList
def WrL (K : PySem.W.Frag) (a : Addr) (ys : List V) : Prop := ∃ (its : Array Value) (n : Nat), K.lookup a = some ({ cls := .type "list", data := .seq its n } : Obj) ∧ its.size ≤ sizeLine ∧ Vals ys its.toList
def Vw.Tup (W : Vw) (a : Addr) (ys : List V) : Prop := (W.H a = some (.tup ys) ∧ W.fro a) ∨ WrT W.K a ys
def Vw.Lst (W : Vw) (a : Addr) (ys : List V) : Prop := (Rd W.H a (.lst ys) ∧ W.fro a) ∨ WrL W.K a ys
theorem Vw.Tup.sq {W : Vw} {a : Addr} {ys : List V} (h : W.Tup a ys) : SqT W.K W.H a ys := by
  rcases h with ⟨h, _⟩ | h
  · exact .inl (.inl h)
  · exact .inr h
theorem Vw.Lst.sq {W : Vw} {a : Addr} {ys : List V} (h : W.Lst a ys) : SqL W.K W.H a ys := by
  rcases h with ⟨h, _⟩ | ⟨its, n, h1, h2⟩
  · exact .inl h
  · exact .inr ⟨_, its, n, h1, rfl, rfl, rfl, h2⟩

mutual
/-- the datum d stands for the value v -/
inductive RV (W : Vw) : D → V → Prop
  | non : RV W .non .non
  | bl (b : Bool) : RV W (.bl b) (.bl b)
  | int (i : Int) : RV W (.int i) (.int i)
  | str (x : Str) : RV W (.str x) (.str x)
  | ty (n : String) : RV W (.ty n) (.ty n)
  | glo (x : Str) : RV W (.glo x) (.ref (W.g x))
  | tup {a : Addr} {xs : List D} {ys : List V} : W.Tup a ys → RVs W xs ys → RV W (.tup xs) (.ref a)
  | lst {a : Addr} {xs : List D} {ys : List V} : W.Lst a ys → RVs W xs ys → RV W (.lst xs) (.ref a)
  | dct {a : Addr} {ks : List Key} {xs : List D} {ys : List (Key × V)} : W.H a = some (.dK ys) → W.fro a → ys.map (·.1) = ks → RVs W xs (ys.map (·.2)) → RV W (.dct ks xs) (.ref a)
  | obj {a dx : Addr} {C : Str} {fs : List (Str × D)} {gs : List (Str × V)} : W.H a = some (.ins (W.g C) dx gs) → W.fro a → RFs W fs gs → RV W (.obj C fs) (.ref a)
  | exc {a : Addr} {d : Option Addr} {C : Str} {fs : List (Str × D)} {gs : List (Str × V)} : W.H a = some (exq a (W.g C) d) → W.fro a → (d = none → gs = []) → (∀ dx, d = some dx → W.H dx = some (.xd gs) ∧ W.fro dx) → RFs W fs gs → RV W (.exc C fs) (.ref a)
  | ref {n : Nat} {a : Addr} : W.ρ[n]? = some a → RV W (.ref n) (.ref a)
inductive RVs (W : Vw) : List D → List V → Prop
  | nil : RVs W [] []
  | cons {d : D} {v : V} {ds : List D} {vs : List V} : RV W d v → RVs W ds vs → RVs W (d :: ds) (v :: vs)
inductive RFs (W : Vw) : List (Str × D) → List (Str × V) → Prop
  | nil : RFs W [] []
  | cons {f : Str} {d : D} {v : V} {ds : List (Str × D)} {vs : List (Str × V)} : RV W d v → RFs W ds vs → RFs W ((f, d) :: ds) ((f, v) :: vs)
end

/-- later: more things in the store, what is not in it stands -/
structure Ext (W : Vw) (ρ' : List Addr) (H' : Hp) : Prop where
  pre : W.ρ <+: ρ'
  new : ∀ a ∈ ρ', a ∈ W.ρ ∨ W.H a = none
  keep : ∀ a o, W.H a = some o → a ∉ W.ρ → H' a = some o

section
variable {W : Vw} {ρ' ρ'' : List Addr} {H' H'' : Hp}
theorem Ext.refl : Ext W W.ρ W.H := ⟨List.prefix_refl _, fun _ h => .inl h, fun _ _ h _ => h⟩
theorem Ext.notin (x : Ext W ρ' H') {a : Addr} {o : HO} (h : W.H a = some o) (n : a ∉ W.ρ) : a ∉ ρ' := fun m => by
  rcases x.new a m with q | q
  · exact n q
  · rw [h] at q; cases q
theorem Ext.trans (x : Ext W ρ' H') (y : Ext (W.to ρ' H') ρ'' H'') : Ext W ρ'' H'' where
  pre := x.pre.trans y.pre
  new := fun a m => by
    rcases y.new a m with q | q
    · exact x.new a q
    · by_cases m2 : a ∈ W.ρ
      · exact .inl m2
      · refine .inr ?_
        cases e : W.H a with
        | none => rfl
        | some o =>
          have z := x.keep a o e m2
          rw [show H' a = none from q] at z
          cases z
  keep := fun a o h n => y.keep a o (x.keep a o h n) (x.notin h n)
theorem fro_mono (x : Ext W ρ' H') {a : Addr} {o : HO} (h : W.H a = some o) (f : W.fro a) : (W.to ρ' H').fro a := ⟨x.notin h f.1, f.2⟩
theorem Vw.Tup.mono (x : Ext W ρ' H') {a : Addr} {ys : List V} (h : W.Tup a ys) : (W.to ρ' H').Tup a ys := by
  rcases h with ⟨h, f⟩ | h
  · exact .inl ⟨x.keep _ _ h f.1, fro_mono x h f⟩
  · exact .inr h
theorem Vw.Lst.mono (x : Ext W ρ' H') {a : Addr} {ys : List V} (h : W.Lst a ys) : (W.to ρ' H').Lst a ys := by
  rcases h with ⟨h | ⟨o, h⟩, f⟩ | h
  · exact .inl ⟨.inl (x.keep _ _ h f.1), fro_mono x h f⟩
  · exact .inl ⟨.inr ⟨o, x.keep _ _ h f.1⟩, fro_mono x h f⟩
  · exact .inr h
theorem pre_get {α : Type} {l l' : List α} (h : l <+: l') {n : Nat} {a : α} (e : l[n]? = some a) : l'[n]? = some a := by
  obtain ⟨t, rfl⟩ := h
  rw [List.getElem?_append_left (List.getElem?_eq_some_iff.mp e).1]
  exact e
mutual
theorem RV.mono (x : Ext W ρ' H') : ∀ {d : D} {v : V}, RV W d v → RV (W.to ρ' H') d v
  | _, _, .non => .non
  | _, _, .bl b => .bl b
  | _, _, .int i => .int i
  | _, _, .str s => .str s
  | _, _, .ty n => .ty n
  | _, _, .glo s => .glo (W := W.to ρ' H') s
  | _, _, .tup h r => .tup (h.mono x) (r.mono x)
  | _, _, .lst h r => .lst (h.mono x) (r.mono x)
  | _, _, .dct h f e r => .dct (x.keep _ _ h f.1) (fro_mono x h f) e (r.mono x)
  | _, _, .obj h f r => .obj (x.keep _ _ h f.1) (fro_mono x h f) (r.mono x)
  | _, _, .exc h f a b r => .exc (x.keep _ _ h f.1) (fro_mono x h f) a (fun dx e => ⟨x.keep _ _ (b dx e).1 (b dx e).2.1, fro_mono x (b dx e).1 (b dx e).2⟩) (r.mono x)
  | _, _, .ref h => .ref (pre_get x.pre h)
theorem RVs.mono (x : Ext W ρ' H') : ∀ {d : List D} {v : List V}, RVs W d v → RVs (W.to ρ' H') d v
  | _, _, .nil => .nil
  | _, _, .cons h r => .cons (h.mono x) (r.mono x)
theorem RFs.mono (x : Ext W ρ' H') : ∀ {d : List (Str × D)} {v : List (Str × V)}, RFs W d v → RFs (W.to ρ' H') d v
  | _, _, .nil => .nil
  | _, _, .cons h r => .cons (h.mono x) (r.mono x)
end
end

/-- the thing o of the store stands at a -/
def OR (W : Vw) (a : Addr) : O → Prop
  | .lst xs => ∃ ys, W.H a = some (.lst ys) ∧ RVs W xs ys
  | .dct kvs => ∃ ys : List (Key × V), W.H a = some (.dK ys) ∧ kvs.map (·.1) = ys.map (·.1) ∧ RVs W (kvs.map (·.2)) (ys.map (·.2))
  | .ins C fs => ∃ dx gs, W.H a = some (.ins (W.g C) dx gs) ∧ RFs W fs gs
structure Sim (W : Vw) (st : Sto) : Prop where
  len : W.ρ.length = st.length
  nd : W.ρ.Nodup
  nz : ∀ a ∈ W.ρ, ¬ W.Z a
  zt : ∀ a, W.Z a → ∃ o, W.H a = some o
  at_ : ∀ (n : Nat) (o : O) (a : Addr), st[n]? = some o → W.ρ[n]? = some a → OR W a o
structure EnvR (W : Vw) (env : Env) (σ : L2.St) : Prop where
  len : env.length = σ.length
  at_ : ∀ (i : Nat) (d : D), env[i]? = some (some d) → ∃ v, σ[i]? = some (some v) ∧ RV W d v
theorem EnvR.mono {W : Vw} {ρ' : List Addr} {H' : Hp} (x : Ext W ρ' H') {env : Env} {σ : L2.St} (h : EnvR W env σ) : EnvR (W.to ρ' H') env σ :=
  ⟨h.len, fun i d e => by obtain ⟨v, e1, r⟩ := h.at_ i d e; exact ⟨v, e1, r.mono x⟩⟩
theorem OR.some {W : Vw} {a : Addr} {o : O} (h : OR W a o) : ∃ u, W.H a = some u := by
  cases o with
  | lst xs => obtain ⟨_, e, _⟩ := h; exact ⟨_, e⟩
  | dct xs => obtain ⟨_, e, _⟩ := h; exact ⟨_, e⟩
  | ins C xs => obtain ⟨_, _, e, _⟩ := h; exact ⟨_, e⟩
theorem Sim.tr {W : Vw} {st : Sto} (S : Sim W st) {a : Addr} (h : a ∈ W.ρ) : ∃ u, W.H a = some u := by
  obtain ⟨n, hn⟩ := List.mem_iff_getElem?.mp h
  have hl : n < st.length := by rw [← S.len]; exact (List.getElem?_eq_some_iff.mp hn).1
  exact (S.at_ n _ a (List.getElem?_eq_getElem hl) hn).some

/-! ### results -/
inductive R (α : Type) where
  | ok (a : α) (st : Sto)
  | exc (C : Str) (fs : List (Str × D)) (st : Sto)
  | bad
  deriving Inhabited
def R.bind {α β : Type} (r : R α) (k : α → Sto → R β) : R β := match r with
  | .ok a st => k a st
  | .exc C fs st => .exc C fs st
  | .bad => .bad
theorem R.bind_ok {α β : Type} {a : α} {st : Sto} {k : α → Sto → R β} : (R.ok a st).bind k = k a st := rfl
theorem R.bind_exc {α β : Type} {C : Str} {fs : List (Str × D)} {st : Sto} {k : α → Sto → R β} : (R.exc C fs st).bind k = .exc C fs st := rfl
theorem R.bind_bad {α β : Type} {k : α → Sto → R β} : R.bind R.bad k = .bad := rfl
inductive RS where
  | nx (env : Env) (st : Sto)
  | ret (d : D) (st : Sto)
  | bk (env : Env) (st : Sto)
  | ct (env : Env) (st : Sto)
  | exc (C : Str) (fs : List (Str × D)) (env : Env) (st : Sto)
  | bad
  deriving Inhabited
abbrev IE := Env → Sto → R D
abbrev IA := Env → Sto → R (List D)
abbrev IT := Env → Sto → R Bool
abbrev IS := Env → Sto → RS

/-- what flies: its fields -/
def XR (W : Vw) (fs : List (Str × D)) (d : Option Addr) : Prop := ∃ gs, RFs W fs gs ∧ (d = none → gs = []) ∧ ∀ dx, d = some dx → W.H dx = some (.xd gs) ∧ W.fro dx
/-- what a result asks of what follows; P: how a result stands for a value -/
def Post {α β : Type} (W : Vw) (P : Vw → α → β → Prop) (r : R α) (Q : β → Hp → Prop) (E : XK) : Prop := match r with
  | .ok a st => ∀ ρ' H' b, Ext W ρ' H' → Sim (W.to ρ' H') st → P (W.to ρ' H') a b → Q b H'
  | .exc C fs st => ∀ ρ' H' d, Ext W ρ' H' → Sim (W.to ρ' H') st → XR (W.to ρ' H') fs d → E (.ref (W.g C)) d H'
  | .bad => False
def PostS (W : Vw) (r : RS) (N : Ends) (E : WX) : Prop := match r with
  | .nx env st => ∀ ρ' H' σ', Ext W ρ' H' → Sim (W.to ρ' H') st → EnvR (W.to ρ' H') env σ' → N.nx σ' H'
  | .ret d st => ∀ ρ' H' v, Ext W ρ' H' → Sim (W.to ρ' H') st → RV (W.to ρ' H') d v → N.rt v H'
  | .bk env st => ∀ ρ' H' σ', Ext W ρ' H' → Sim (W.to ρ' H') st → EnvR (W.to ρ' H') env σ' → N.bk σ' H'
  | .ct env st => ∀ ρ' H' σ', Ext W ρ' H' → Sim (W.to ρ' H') st → EnvR (W.to ρ' H') env σ' → N.ct σ' H'
  | .exc C fs env st => ∀ ρ' H' σ' d, Ext W ρ' H' → Sim (W.to ρ' H') st → EnvR (W.to ρ' H') env σ' → XR (W.to ρ' H') fs d → E (.ref (W.g C)) d σ' H'
  | .bad => False
theorem Post.ext {α β : Type} {W : Vw} {ρ' : List Addr} {H' : Hp} {P : Vw → α → β → Prop} {r : R α} {Q : β → Hp → Prop} {E : XK} (x : Ext W ρ' H') (h : Post W P r Q E) : Post (W.to ρ' H') P r Q E := by
  cases r with
  | ok a st => exact fun ρ2 H2 b y => h ρ2 H2 b (x.trans y)
  | exc C fs st => exact fun ρ2 H2 d y => h ρ2 H2 d (x.trans y)
  | bad => exact h
theorem PostS.ext {W : Vw} {ρ' : List Addr} {H' : Hp} {r : RS} {N : Ends} {E : WX} (x : Ext W ρ' H') (h : PostS W r N E) : PostS (W.to ρ' H') r N E := by
  cases r with
  | nx a st => exact fun ρ2 H2 b y => h ρ2 H2 b (x.trans y)
  | ret a st => exact fun ρ2 H2 b y => h ρ2 H2 b (x.trans y)
  | bk a st => exact fun ρ2 H2 b y => h ρ2 H2 b (x.trans y)
  | ct a st => exact fun ρ2 H2 b y => h ρ2 H2 b (x.trans y)
  | exc C fs e st => exact fun ρ2 H2 s d y => h ρ2 H2 s d (x.trans y)
  | bad => exact h
def PB (_ : Vw) (a b : Bool) : Prop := a = b
abbrev PostE (W : Vw) (r : R D) (Q : VK) (E : XK) : Prop := Post W RV r Q E
abbrev PostA (W : Vw) (r : R (List D)) (Q : List V → Hp → Prop) (E : XK) : Prop := Post W RVs r Q E
abbrev PostT (W : Vw) (r : R Bool) (Q : Bool → Hp → Prop) (E : XK) : Prop := Post W PB r Q E

/-- the frame of a body's walk: the written part, the names, the wish -/
structure Fx where
  K : PySem.W.Frag
  g : Str → Addr
  E : WX
/-- a state of the embedding stands for σ, H -/
structure At (F : Fx) (W : Vw) (st : Sto) (env : Env) (σ : L2.St) (H : Hp) : Prop where
  k : W.K = F.K
  g : W.g = F.g
  h : W.H = H
  sim : Sim W st
  env : EnvR W env σ
abbrev Fx.at_ (F : Fx) (σ : L2.St) : XK := fun c d H => F.E c d σ H
def TX {α β : Type} (P : Vw → α → β → Prop) (F : Fx) (i : Env → Sto → R α) : L2.St → Hp → (β → Hp → Prop) → Prop := fun σ H Q => ∃ W st env, At F W st env σ H ∧ Post W P (i env st) Q (F.at_ σ)
abbrev TI (F : Fx) (i : IE) : TE := TX RV F i
abbrev TA_ (F : Fx) (i : IA) : TA := TX RVs F i
abbrev TT_ (F : Fx) (i : IT) : TT := TX PB F i
def TS_ (F : Fx) (i : IS) : TS := fun N σ H => ∃ W st env, At F W st env σ H ∧ PostS W (i env st) N F.E
theorem At.next {F : Fx} {W : Vw} {st st' : Sto} {env : Env} {σ : L2.St} {H H' : Hp} {ρ' : List Addr} (a : At F W st env σ H) (x : Ext W ρ' H') (s : Sim (W.to ρ' H') st') : At F (W.to ρ' H') st' env σ H' :=
  ⟨a.k, a.g, rfl, s, a.env.mono x⟩

/-- a value in hand, what follows -/
def TK {α β : Type} (P : Vw → α → β → Prop) {γ δ : Type} (P' : Vw → γ → δ → Prop) (F : Fx) (k : α → Env → Sto → R γ) (b : β) : L2.St → Hp → (δ → Hp → Prop) → Prop :=
  fun σ H Q => ∃ W st env a, At F W st env σ H ∧ P W a b ∧ Post W P' (k a env st) Q (F.at_ σ)
theorem TX.bind {α β γ δ : Type} {P : Vw → α → β → Prop} {P' : Vw → γ → δ → Prop} {F : Fx} {i : Env → Sto → R α} {k : α → Env → Sto → R γ} {σ : L2.St} {H : Hp} {Q : δ → Hp → Prop}
    (h : TX P' F (fun env st => (i env st).bind fun a s1 => k a env s1) σ H Q) : TX P F i σ H fun b H' => TK P P' F k b σ H' Q := by
  obtain ⟨W, st, env, A, p⟩ := h
  refine ⟨W, st, env, A, ?_⟩
  have p' : Post W P' ((i env st).bind fun a s1 => k a env s1) Q (F.at_ σ) := p
  cases r : i env st with
  | ok a s1 =>
    rw [r] at p'
    exact fun ρ' H' b x s q => ⟨W.to ρ' H', s1, env, a, A.next x s, q, Post.ext x p'⟩
  | exc C fs s1 => rw [r] at p'; exact p'
  | bad => rw [r] at p'; exact p'
theorem PE.imp {X : Cx} {e : Expr} {t t' : TE} (h : PE X e t) (w : ∀ σ H Q, t' σ H Q → t σ H Q) : PE X e t' := ⟨fun p s σ H Q I q => h.run p s σ H Q I (w σ H Q q)⟩
theorem PT.imp {X : Cx} {e : Expr} {t t' : TT} (h : PT X e t) (w : ∀ σ H Q, t' σ H Q → t σ H Q) : PT X e t' := ⟨fun p s σ H Q I q => h.run p s σ H Q I (w σ H Q q)⟩
theorem PW.imp {X : Cx} {e : Expr} {t t' : TT} (h : PW X e t) (w : ∀ σ H Q, t' σ H Q → t σ H Q) : PW X e t' := ⟨fun wh p s σ H Q I q => h.run wh p s σ H Q I (w σ H Q q)⟩
theorem PA.imp {X : Cx} {e : List Expr} {t t' : TA} (h : PA X e t) (w : ∀ σ H Q, t' σ H Q → t σ H Q) : PA X e t' := ⟨fun o p s σ H Q I q => h.run o p s σ H Q I (w σ H Q q)⟩
theorem PS.imp {X : Cx} {e : Stmt} {t t' : TS} (h : PS X e t) (w : ∀ N σ H, t' N σ H → t N σ H) : PS X e t' := ⟨fun p s σ H N I q => h.run p s σ H N I (w N σ H q)⟩
theorem PSs.imp {X : Cx} {e : List Stmt} {t t' : TS} (h : PSs X e t) (w : ∀ N σ H, t' N σ H → t N σ H) : PSs X e t' := ⟨fun p s σ H N I q => h.run p s σ H N I (w N σ H q)⟩
end M
/-! M2: the store's moves; operators. -/
namespace M
open PySem PySem.Spec PyProof.Rows L2

section
variable {W : Vw} {ρ' : List Addr} {H' : Hp} {st : Sto} {a p : Addr} {u : HO}
theorem OR.mono (x : Ext W ρ' H') (e : H' a = W.H a) : ∀ {o : O}, OR W a o → OR (W.to ρ' H') a o
  | .lst xs, ⟨ys, h, r⟩ => ⟨ys, e.trans h, r.mono x⟩
  | .dct kvs, ⟨ys, h, k, r⟩ => ⟨ys, e.trans h, k, r.mono x⟩
  | .ins C fs, ⟨dx, gs, h, r⟩ => ⟨dx, gs, e.trans h, r.mono x⟩
theorem ext_new (o : List Addr) (ho : ∀ a ∈ o, W.H a = none) (hp : W.H p = none) : Ext W (W.ρ ++ o) (upd W.H p u) where
  pre := List.prefix_append _ _
  new := fun a m => (List.mem_append.mp m).imp id (ho a)
  keep := fun b v h _ => by rw [upd_ne (ne_of_none h hp)]; exact h
theorem ext_new0 (hp : W.H p = none) : Ext W W.ρ (upd W.H p u) where
  pre := List.prefix_refl _
  new := fun a m => .inl m
  keep := fun b v h _ => by rw [upd_ne (ne_of_none h hp)]; exact h
theorem Sim.frozen (S : Sim W st) (x : Ext W W.ρ H') (k : ∀ a ∈ W.ρ, H' a = W.H a) : Sim (W.to W.ρ H') st where
  len := S.len
  nd := S.nd
  nz := S.nz
  zt := fun a h => by
    obtain ⟨o, e⟩ := S.zt a h
    exact ⟨o, x.keep a o e fun m => S.nz a m h⟩
  at_ := fun n o a h1 h2 => (S.at_ n o a h1 h2).mono x (k a (List.mem_of_getElem? h2))
theorem Sim.new0 (S : Sim W st) (hp : W.H p = none) : Sim (W.to W.ρ (upd W.H p u)) st := S.frozen (ext_new0 hp) fun a m => by
  obtain ⟨o, e⟩ := S.tr m
  rw [upd_ne (ne_of_none e hp)]
theorem Sim.new (S : Sim W st) (hp : W.H p = none) {o : O} (h : OR (W.to (W.ρ ++ [p]) (upd W.H p u)) p o) : Sim (W.to (W.ρ ++ [p]) (upd W.H p u)) (st ++ [o]) := by
  have x : Ext W (W.ρ ++ [p]) (upd W.H p u) := ext_new [p] (fun a m => by rw [List.mem_singleton.mp m]; exact hp) hp
  have np : p ∉ W.ρ := fun m => by
    obtain ⟨v, e⟩ := S.tr m
    rw [hp] at e; cases e
  refine ⟨by simp [S.len], ?_, fun a m z => ?_, fun a z => ?_, fun n q a h1 h2 => ?_⟩
  · exact List.nodup_append.mpr ⟨S.nd, by simp, fun a m b n e => by rw [List.mem_singleton.mp n] at e; rw [e] at m; exact np m⟩
  · rcases List.mem_append.mp m with m | m
    · exact S.nz a m z
    · obtain ⟨v, e⟩ := S.zt a z
      rw [List.mem_singleton.mp m, hp] at e; cases e
  · obtain ⟨v, e⟩ := S.zt a z
    exact ⟨v, x.keep a v e fun m => S.nz a m z⟩
  · by_cases hn : n < st.length
    · rw [List.getElem?_append_left hn] at h1
      rw [List.getElem?_append_left (by rw [S.len]; exact hn)] at h2
      have m := List.mem_of_getElem? h2
      obtain ⟨v, e⟩ := S.tr m
      exact (S.at_ n q a h1 h2).mono x (upd_ne (ne_of_none e hp))
    · have hn' : n = st.length := by
        have := (List.getElem?_eq_some_iff.mp h1).1
        simp at this; omega
      subst hn'
      rw [List.getElem?_append_right (by omega)] at h1
      rw [List.getElem?_append_right (by rw [S.len]; omega)] at h2
      simp at h1
      simp [S.len] at h2
      subst h1 h2
      exact h
theorem ref_new (S : Sim W st) : RV (W.to (W.ρ ++ [p]) H') (.ref st.length) (.ref p) := .ref (by
  show (W.ρ ++ [p])[st.length]? = some p
  rw [List.getElem?_append_right (by rw [S.len]; omega), S.len]
  simp)
theorem ext_put (m : a ∈ W.ρ) : Ext W W.ρ (upd W.H a u) where
  pre := List.prefix_refl _
  new := fun a m => .inl m
  keep := fun b v h n => by rw [upd_ne (fun e => by rw [e] at n; exact n m)]; exact h
theorem Sim.put (S : Sim W st) {n : Nat} (hn : W.ρ[n]? = some a) {o : O} (h : OR (W.to W.ρ (upd W.H a u)) a o) : Sim (W.to W.ρ (upd W.H a u)) (st.set n o) := by
  have m := List.mem_of_getElem? hn
  have x : Ext W W.ρ (upd W.H a u) := ext_put m
  refine ⟨by simp [S.len], S.nd, S.nz, fun b z => ?_, fun k q b h1 h2 => ?_⟩
  · obtain ⟨v, e⟩ := S.zt b z
    exact ⟨v, x.keep b v e fun m => S.nz b m z⟩
  · by_cases hk : k = n
    · subst hk
      rw [hn] at h2
      cases h2
      have hl : k < st.length := by rw [← S.len]; exact (List.getElem?_eq_some_iff.mp hn).1
      rw [List.getElem?_set_self hl] at h1
      cases h1
      exact h
    · rw [List.getElem?_set_ne (Ne.symm hk)] at h1
      refine (S.at_ k q b h1 h2).mono x (upd_ne fun e => hk ?_)
      subst e
      exact (List.getElem?_inj (List.getElem?_eq_some_iff.mp h2).1 S.nd).mp (h2.trans hn.symm)
theorem new_fro (S : Sim W st) (hp : W.H p = none) : (W.to W.ρ H').fro p := by
  refine ⟨fun m => ?_, fun z => ?_⟩
  · obtain ⟨v, e⟩ := S.tr m
    rw [hp] at e
    cases e
  · obtain ⟨v, e⟩ := S.zt p z
    rw [hp] at e
    cases e
theorem tup_new (S : Sim W st) (hp : W.H p = none) {xs : List D} {ys : List V} (r : RVs W xs ys) : RV (W.to W.ρ (upd W.H p (.tup ys))) (.tup xs) (.ref p) :=
  .tup (.inl ⟨upd_same, new_fro S hp⟩) (r.mono (ext_new0 hp))
theorem lst_or (hp : W.H p = none) {xs : List D} {ys : List V} (r : RVs W xs ys) : OR (W.to (W.ρ ++ [p]) (upd W.H p (.lst ys))) p (.lst xs) :=
  ⟨ys, upd_same, r.mono (ext_new [p] (fun a m => by rw [List.mem_singleton.mp m]; exact hp) hp)⟩
end

/-! ### operators by values -/
abbrev Op1 := D → Sto → Option (D × Sto)
abbrev Op2 := D → D → Sto → Option (D × Sto)
abbrev OpN := List D → Sto → Option (D × Sto)
def PostO (W : Vw) (o : Option (D × Sto)) (Q : VK) : Prop := match o with
  | some (a, st) => ∀ ρ' H' b, Ext W ρ' H' → Sim (W.to ρ' H') st → RV (W.to ρ' H') a b → Q b H'
  | none => False
def ofO (o : Option (D × Sto)) : R D := match o with
  | some (a, st) => .ok a st
  | none => .bad
theorem PostO.of {W : Vw} {o : Option (D × Sto)} {Q : VK} {E : XK} (h : PostE W (ofO o) Q E) : PostO W o Q := by
  cases o with
  | none => exact h
  | some x => exact h
/-- the view and the store at H -/
structure In (F : Fx) (W : Vw) (st : Sto) (H : Hp) : Prop where
  k : W.K = F.K
  g : W.g = F.g
  h : W.H = H
  sim : Sim W st
def r1 (F : Fx) (op : Op1) : V → Hp → VK → Prop := fun x H Q => ∃ W st a, In F W st H ∧ RV W a x ∧ PostO W (op a st) Q
def r2 (F : Fx) (op : Op2) : R2 := fun x y H Q => ∃ W st a b, In F W st H ∧ RV W a x ∧ RV W b y ∧ PostO W (op a b st) Q
def rN (F : Fx) (op : OpN) : List V → Hp → VK → Prop := fun xs H Q => ∃ W st ds, In F W st H ∧ RVs W ds xs ∧ PostO W (op ds st) Q
section
variable {W : Vw} {st : Sto} {Q : VK} {d : D} {v : V}
/-- the answer is d, nothing changed -/
theorem PostO.now (h : PostO W (some (d, st)) Q) (S : Sim W st) (r : RV W d v) : Q v W.H := h W.ρ W.H v Ext.refl S r
theorem PostO.list {p : Addr} {xs : List D} {ys : List V} (h : PostO W (some (.ref st.length, st ++ [.lst xs])) Q) (S : Sim W st) (r : RVs W xs ys) (hp : W.H p = none) : Q (.ref p) (upd W.H p (.lst ys)) :=
  h (W.ρ ++ [p]) _ _ (ext_new [p] (fun a m => by rw [List.mem_singleton.mp m]; exact hp) hp) (S.new hp (lst_or hp r)) (ref_new S)
theorem PostO.tuple {p : Addr} {xs : List D} {ys : List V} (h : PostO W (some (.tup xs, st)) Q) (S : Sim W st) (r : RVs W xs ys) (hp : W.H p = none) : Q (.ref p) (upd W.H p (.tup ys)) :=
  h W.ρ _ _ (ext_new0 hp) (S.new0 hp) (tup_new S hp r)
theorem RVs.length : ∀ {xs : List D} {ys : List V}, RVs W xs ys → xs.length = ys.length
  | _, _, .nil => rfl
  | _, _, .cons _ r => by rw [List.length_cons, List.length_cons, r.length]
theorem RVs.append : ∀ {xs xs' : List D} {ys ys' : List V}, RVs W xs ys → RVs W xs' ys' → RVs W (xs ++ xs') (ys ++ ys')
  | _, _, _, _, .nil, q => q
  | _, _, _, _, .cons h r, q => .cons h (r.append q)
theorem RVs.take : ∀ {xs : List D} {ys : List V} (n : Nat), RVs W xs ys → RVs W (xs.take n) (ys.take n)
  | _, _, 0, _ => by simp only [List.take_zero]; exact .nil
  | _, _, _ + 1, .nil => .nil
  | _, _, n + 1, .cons h r => .cons h (r.take n)
theorem RVs.drop : ∀ {xs : List D} {ys : List V} (n : Nat), RVs W xs ys → RVs W (xs.drop n) (ys.drop n)
  | _, _, 0, q => q
  | _, _, _ + 1, .nil => .nil
  | _, _, n + 1, .cons h r => r.drop n
theorem RVs.get : ∀ {xs : List D} {ys : List V} {n : Nat} {d : D}, RVs W xs ys → xs[n]? = some d → ∃ v, ys[n]? = some v ∧ RV W d v
  | _, _, _, _, .nil, e => by simp at e
  | _, _, 0, _, .cons h r, e => by simp at e; subst e; exact ⟨_, rfl, h⟩
  | _, _, n + 1, _, .cons h r, e => by
    obtain ⟨v, e1, q⟩ := r.get (n := n) (by simpa using e)
    exact ⟨v, by simpa using e1, q⟩
theorem RVs.set : ∀ {xs : List D} {ys : List V} (n : Nat) {d : D} {v : V}, RVs W xs ys → RV W d v → RVs W (xs.set n d) (ys.set n v)
  | _, _, _, _, _, .nil, _ => .nil
  | _, _, 0, _, _, .cons h r, q => .cons q r
  | _, _, n + 1, _, _, .cons h r, q => .cons h (r.set n q)
theorem RVs.rep : ∀ {xs : List D} {ys : List V} (n : Nat), RVs W xs ys → RVs W (List.replicate n xs).flatten (List.replicate n ys).flatten
  | _, _, 0, _ => .nil
  | _, _, n + 1, q => by rw [List.replicate_succ, List.replicate_succ, List.flatten_cons, List.flatten_cons]; exact q.append (q.rep n)
def lstAt (st : Sto) (n : Nat) : Option (List D) := match st[n]? with
  | some (.lst xs) => some xs
  | _ => none
theorem lstAt_eq {st : Sto} {n : Nat} {xs : List D} (h : lstAt st n = some xs) : st[n]? = some (.lst xs) := by
  unfold lstAt at h
  split at h
  · cases h; assumption
  · cases h
/-- a list of the store -/
def mlst (st : Sto) : D → Option (List D)
  | .ref n => lstAt st n
  | _ => none
/-- any list -/
def alst (st : Sto) : D → Option (List D)
  | .ref n => lstAt st n
  | .lst xs => some xs
  | _ => none
/-- list or tuple -/
def aseq (st : Sto) : D → Option (List D)
  | .ref n => lstAt st n
  | .lst xs => some xs
  | .tup xs => some xs
  | _ => none
theorem mlst_at (S : Sim W st) {d : D} {v : V} {xs : List D} (h : mlst st d = some xs) (r : RV W d v) : ∃ n a ys, d = .ref n ∧ v = .ref a ∧ W.ρ[n]? = some a ∧ st[n]? = some (.lst xs) ∧ W.H a = some (.lst ys) ∧ RVs W xs ys := by
  cases r with
  | ref e =>
    rename_i n a
    have q := lstAt_eq (show lstAt st n = some xs from h)
    obtain ⟨ys, e1, r1⟩ := S.at_ n _ a q e
    exact ⟨n, a, ys, rfl, rfl, e, q, e1, r1⟩
  | _ => cases h
theorem alst_at (S : Sim W st) {d : D} {v : V} {xs : List D} (h : alst st d = some xs) (r : RV W d v) : ∃ a ys, v = .ref a ∧ SqL W.K W.H a ys ∧ RVs W xs ys := by
  cases r with
  | ref e =>
    rename_i n a
    have q := lstAt_eq (show lstAt st n = some xs from h)
    obtain ⟨ys, e1, r1⟩ := S.at_ n _ a q e
    exact ⟨a, ys, rfl, .inl (.inl e1), r1⟩
  | lst h1 r1 => cases h; exact ⟨_, _, rfl, h1.sq, r1⟩
  | _ => cases h
theorem aseq_at (S : Sim W st) {d : D} {v : V} {xs : List D} (h : aseq st d = some xs) (r : RV W d v) : ∃ a ys, v = .ref a ∧ (SqL W.K W.H a ys ∨ SqT W.K W.H a ys) ∧ RVs W xs ys := by
  cases r with
  | ref e =>
    rename_i n a
    have q := lstAt_eq (show lstAt st n = some xs from h)
    obtain ⟨ys, e1, r1⟩ := S.at_ n _ a q e
    exact ⟨a, ys, rfl, .inl (.inl (.inl e1)), r1⟩
  | lst h1 r1 => cases h; exact ⟨_, _, rfl, .inl h1.sq, r1⟩
  | tup h1 r1 => cases h; exact ⟨_, _, rfl, .inr h1.sq, r1⟩
  | _ => cases h
theorem tup_at {xs : List D} {v : V} (r : RV W (.tup xs) v) : ∃ a ys, v = .ref a ∧ SqT W.K W.H a ys ∧ RVs W xs ys := by
  cases r with
  | tup h1 r1 => exact ⟨_, _, rfl, h1.sq, r1⟩

/-! ### arithmetic -/
variable {X : Cx} {F : Fx}
theorem OpR.or {f : Value → Value → Sem Value} {r r' : R2} (a : OpR X f r) (b : OpR X f r') : OpR X f (fun x y H Q => r x y H Q ∨ r' x y H Q) :=
  fun p s σ H x y v u Q I rx ry h => h.elim (a p s σ H x y v u Q I rx ry) (b p s σ H x y v u Q I rx ry)
theorem OpR.imp {f : Value → Value → Sem Value} {r r' : R2} (a : OpR X f r) (h : ∀ x y H Q, r' x y H Q → r x y H Q) : OpR X f r' :=
  fun p s σ H x y v u Q I rx ry q => a p s σ H x y v u Q I rx ry (h x y H Q q)
theorem CallR.imp {f : Value} {r r' : List V → Hp → VK → Prop} (a : CallR X f r) (h : ∀ x H Q, r' x H Q → r x H Q) : CallR X f r' :=
  fun p s σ H x u Q I rx q => a p s σ H x u Q I rx (h x H Q q)
theorem CallR.or {f : Value} {r r' : List V → Hp → VK → Prop} (a : CallR X f r) (b : CallR X f r') : CallR X f (fun x H Q => r x H Q ∨ r' x H Q) :=
  fun p s σ H x u Q I rx h => h.elim (a p s σ H x u Q I rx) (b p s σ H x u Q I rx)

/-- any list, as it stands -/
def LsE (K : PySem.W.Frag) (H : Hp) (a : Addr) (ys : List V) : Prop := Rd H a (.lst ys) ∨ WrL K a ys
theorem LsE.at_ {pins : List (Addr × Obj)} {s : Shared} {σ : L2.St} {H : Hp} {a : Addr} {ys : List V} (h : LsE X.K H a ys) (I : Inv X pins σ H s) : ys.length ≤ sizeLine ∧ ∃ (its : List Value) (n : Nat), Vals ys its ∧ ys.length = its.length ∧ s.heap.get? a = some ({ cls := .type "list", data := .seq its.toArray n } : Obj) := by
  rcases h with h | ⟨its, n, hk, hz, r⟩
  · obtain ⟨z, its, n, r, e⟩ := h.ok I.hok
    exact ⟨z, its, n, r, r.length, e⟩
  · have l := r.length
    exact ⟨by rw [l]; simpa using hz, its.toList, n, r, l, by simpa using I.kIn _ _ hk⟩
theorem op_catL : OpR X (binaryOp .Add) (fun x y H Q => ∃ a b xs ys, x = .ref a ∧ y = .ref b ∧ LsE X.K H a xs ∧ LsE X.K H b ys ∧ xs.length + ys.length ≤ sizeLine ∧ ∀ p, H p = none → Q (.ref p) (upd H p (.lst (xs ++ ys)))) := fun pins s σ H x y v u Q I rx ry ⟨a, b, xs, ys, ex, ey, ha, hb, hz, q⟩ => by
  subst ex ey
  cases rx
  cases ry
  obtain ⟨_, is1, n1, r1, l1, e1⟩ := ha.at_ I
  obtain ⟨_, is2, n2, r2, l2, e2⟩ := hb.at_ I
  refine PySem.P.add_list e1 e2 ?_ (by simp only [List.size_toArray]; omega)
  rw [List.append_toArray]
  exact ⟨.ref _, _, I.lnew (t' := s.toks) (r1.append r2) (by rw [List.length_append]; exact hz), rfl, q _ I.fresh⟩
theorem rep_arr (is : List Value) (m : Nat) : List.foldl (fun u v => u ++ v) #[] (List.replicate (if is.toArray.isEmpty = true then 0 else m) is.toArray) = (List.replicate m is).flatten.toArray := by
  have z := foldl_rep is m []
  cases is with
  | nil => simp
  | cons b r => simpa using z
theorem op_repL : OpR X (binaryOp .Mult) (fun x y H Q => ∃ a k xs, x = .ref a ∧ y = .int k ∧ LsE X.K H a xs ∧ -(2 ^ 63) ≤ k ∧ k < 2 ^ 63 ∧ xs.length * k.toNat ≤ sizeLine ∧ ∀ p, H p = none → Q (.ref p) (upd H p (.lst (List.replicate k.toNat xs).flatten))) := fun pins s σ H x y v u Q I rx ry ⟨a, k, xs, ex, ey, ha, h1, h2, hz, q⟩ => by
  subst ex ey
  cases rx
  obtain ⟨tk, rfl⟩ := ry
  obtain ⟨_, is, n, r, l, e⟩ := ha.at_ I
  have z1 : is.toArray.size * k.toNat ≤ sizeLine := by rw [List.size_toArray, ← l]; exact hz
  have z2 : (sizeLine : Nat) ≤ (2 ^ 63 - 1) / 8 := by decide
  have m1 := AutoListH.list___mul___list_int_3 a is.toArray n k tk (by rw [fitsIndex_both h1 h2]; simp) (by omega) (by rw [notLongL z1]; simp)
  refine wpAny_binaryOp_repeat_ref (U := "int") (T := "list") (by decide) ⟨_, e, rfl⟩ (fun s2 => typeIs_int s2 k tk) noFill_list_mul F.fills_int_mul F.slot_int_rmul repeat_list F.slot_int_index.lookup (call_meets F.slot_int_rmul (typeIs_int s k tk) F.entry_int_rmul (F.args_int_rmul_2 _ _) (int___rmul___int_list k tk a is.toArray n) ⟨e, rfl, ⟨_, e, rfl⟩, call_meets F.slot_list_mul ⟨_, e, rfl⟩ F.entry_list_mul (F.args_list_mul_2 _ _) m1 ⟨e, ?_⟩⟩)
  rw [rep_arr]
  exact ⟨.ref _, _, I.lnew (t' := s.toks) (r.rep k.toNat) (by rw [PyProof.Rows.lm_len_rep_flat, Nat.mul_comm]; exact hz), rfl, q _ I.fresh⟩
theorem lst_at {xs : List D} {v : V} (r : RV W (.lst xs) v) : ∃ a ys, v = .ref a ∧ LsE W.K W.H a ys ∧ RVs W xs ys := by
  cases r with
  | lst h1 r1 => exact ⟨_, _, rfl, h1.imp (·.1) id, r1⟩
theorem PostO.listF {p : Addr} {xs : List D} {ys : List V} (h : PostO W (some (.lst xs, st)) Q) (S : Sim W st) (r : RVs W xs ys) (hp : W.H p = none) : Q (.ref p) (upd W.H p (.lst ys)) :=
  h W.ρ _ _ (ext_new0 hp) (S.new0 hp) (.lst (.inl ⟨.inl upd_same, new_fro S hp⟩) (r.mono (ext_new0 hp)))
def smallI (i : Int) : Prop := -(2 ^ 64) < i ∧ i < 2 ^ 64
instance (i : Int) : Decidable (smallI i) := by unfold smallI; infer_instance
def opAdd : Op2 := fun a b st => match a, b with
  | .int i, .int j => some (.int (i + j), st)
  | .str x, .str y => if x.length + y.length ≤ sizeLine then some (.str (x ++ y), st) else none
  | .tup xs, .tup ys => if xs.length + ys.length ≤ sizeLine then some (.tup (xs ++ ys), st) else none
  | .lst xs, .lst ys => if xs.length + ys.length ≤ sizeLine then some (.lst (xs ++ ys), st) else none
  | .ref n, .ref m => match lstAt st n, lstAt st m with
    | some xs, some ys => if xs.length + ys.length ≤ sizeLine then some (.ref st.length, st ++ [.lst (xs ++ ys)]) else none
    | _, _ => none
  | _, _ => none
def opSub : Op2 := fun a b st => match a, b with
  | .int i, .int j => some (.int (i - j), st)
  | _, _ => none
def opMul : Op2 := fun a b st => match a, b with
  | .int i, .int j => if smallI i ∨ smallI j then some (.int (i * j), st) else if i.natAbs.log2 + j.natAbs.log2 < 1000000 then some (.int (i * j), st) else none
  | .lst xs, .int k => if -(2 ^ 63) ≤ k ∧ k < 2 ^ 63 ∧ xs.length * k.toNat ≤ sizeLine then some (.lst (List.replicate k.toNat xs).flatten, st) else none
  | .ref n, .int k => match lstAt st n with
    | some xs => if -(2 ^ 63) ≤ k ∧ k < 2 ^ 63 ∧ xs.length * k.toNat ≤ sizeLine then some (.ref st.length, st ++ [.lst (List.replicate k.toNat xs).flatten]) else none
    | none => none
  | _, _ => none
def opFdiv : Op2 := fun a b st => match a, b with
  | .int i, .int j => if 0 < j ∧ j.natAbs.log2 < 9000 then some (.int (i / j), st) else if j ≠ 0 ∧ j.natAbs < 1073741824 then some (.int (i.fdiv j), st) else none
  | _, _ => none
def opMod : Op2 := fun a b st => match a, b with
  | .int i, .int j => if 0 < j then some (.int (i % j), st) else if j ≠ 0 then some (.int (i.fmod j), st) else none
  | _, _ => none
def opPow : Op2 := fun a b st => match a, b with
  | .int i, .int j => if 0 ≤ j ∧ j ≤ 1000000 ∧ i.natAbs < 2 ^ 64 then some (.int (i ^ j.toNat), st) else none
  | _, _ => none

theorem In.now {H : Hp} (h : In F W st H) (p : PostO W (some (d, st)) Q) (r : RV W d v) : Q v H := by rw [← h.h]; exact p.now h.sim r
theorem or_sub : OpR X (binaryOp .Sub) (r2 F opSub) := OpR.imp op_sub fun x y H Q ⟨W, st, a, b, I, ra, rb, p⟩ => by
  unfold opSub at p
  split at p
  · cases ra; cases rb; exact ⟨_, _, rfl, rfl, I.now p (.int _)⟩
  · exact p.elim
theorem or_pow : OpR X (binaryOp .Pow) (r2 F opPow) := OpR.imp op_pow fun x y H Q ⟨W, st, a, b, I, ra, rb, p⟩ => by
  unfold opPow at p
  split at p
  · split at p
    · cases ra; cases rb; exact ⟨_, _, rfl, rfl, by assumption, I.now p (.int _)⟩
    · exact p.elim
  · exact p.elim
theorem or_mod : OpR X (binaryOp .Mod) (r2 F opMod) := OpR.imp (OpR.or op_mod op_modN) fun x y H Q ⟨W, st, a, b, I, ra, rb, p⟩ => by
  unfold opMod at p
  split at p
  · split at p
    · cases ra; cases rb; exact .inl ⟨_, _, rfl, rfl, by assumption, I.now p (.int _)⟩
    · split at p
      · cases ra; cases rb; exact .inr ⟨_, _, rfl, rfl, by assumption, I.now p (.int _)⟩
      · exact p.elim
  · exact p.elim
theorem or_fdiv : OpR X (binaryOp .FloorDiv) (r2 F opFdiv) := OpR.imp (OpR.or op_fdivW op_fdivN) fun x y H Q ⟨W, st, a, b, I, ra, rb, p⟩ => by
  unfold opFdiv at p
  split at p
  · split at p
    · cases ra; cases rb; exact .inl ⟨_, _, rfl, rfl, by assumption, I.now p (.int _)⟩
    · split at p
      · cases ra; cases rb; exact .inr ⟨_, _, rfl, rfl, by assumption, I.now p (.int _)⟩
      · exact p.elim
  · exact p.elim
theorem or_mul (hk : X.K = F.K) : OpR X (binaryOp .Mult) (r2 F opMul) := OpR.imp (OpR.or op_mulW (OpR.or op_rep (OpR.or op_mul op_repL))) fun x y H Q ⟨W, st, a, b, I, ra, rb, p⟩ => by
  unfold opMul at p
  split at p
  · split at p
    · cases ra; cases rb; exact .inr (.inr (.inl ⟨_, _, rfl, rfl, by assumption, I.now p (.int _)⟩))
    · split at p
      · cases ra; cases rb; exact .inl ⟨_, _, rfl, rfl, by assumption, I.now p (.int _)⟩
      · exact p.elim
  · split at p
    · rename_i c
      obtain ⟨a, ys, rfl, hl, r⟩ := lst_at ra
      cases rb
      have eH := I.h
      subst eH
      rw [I.k, ← hk] at hl
      refine .inr (.inr (.inr ⟨a, _, ys, rfl, rfl, hl, c.1, c.2.1, by rw [← r.length]; exact c.2.2, fun q hq => ?_⟩))
      exact p.listF I.sim (r.rep _) hq
    · exact p.elim
  · split at p
    · rename_i xs hx
      split at p
      · rename_i c
        obtain ⟨n, a, ys, e1, rfl, e2, e3, e4, r⟩ := mlst_at I.sim (d := .ref _) (xs := xs) hx ra
        cases rb
        have eH := I.h
        subst eH
        refine .inr (.inl ⟨a, _, ys, rfl, rfl, e4, c.1, c.2.1, by rw [← r.length]; exact c.2.2, fun q hq => ?_⟩)
        exact p.list I.sim (r.rep _) hq
      · exact p.elim
    · exact p.elim
  · exact p.elim
theorem or_add (hk : X.K = F.K) : OpR X (binaryOp .Add) (r2 F opAdd) := OpR.imp (OpR.or op_add (OpR.or op_add_str (OpR.or op_catA (OpR.or op_cat op_catL)))) fun x y H Q ⟨W, st, a, b, I, ra, rb, p⟩ => by
  unfold opAdd at p
  split at p
  · cases ra; cases rb; exact .inl ⟨_, _, rfl, rfl, I.now p (.int _)⟩
  · split at p
    · cases ra; cases rb; exact .inr (.inl ⟨_, _, rfl, rfl, by assumption, I.now p (.str _)⟩)
    · exact p.elim
  · split at p
    · rename_i c
      obtain ⟨a, xs', rfl, t1, r⟩ := tup_at ra
      obtain ⟨b, ys', rfl, t2, r'⟩ := tup_at rb
      have eK := I.k
      have eH := I.h
      subst eH
      rw [eK, ← hk] at t1 t2
      refine .inr (.inr (.inl ⟨a, b, _, _, rfl, rfl, t1, t2, by rw [← r.length, ← r'.length]; exact c, fun e => ?_, fun e1 e2 => ?_, fun e1 e2 q hq => ?_⟩))
      · subst e
        cases r
        exact p.now I.sim rb
      · subst e2
        cases r'
        rw [List.append_nil] at p
        exact p.now I.sim ra
      · exact p.tuple I.sim (r.append r') hq
    · exact p.elim
  · split at p
    · rename_i c
      obtain ⟨a, xs', rfl, t1, r⟩ := lst_at ra
      obtain ⟨b, ys', rfl, t2, r'⟩ := lst_at rb
      have eK := I.k
      have eH := I.h
      subst eH
      rw [eK, ← hk] at t1 t2
      refine .inr (.inr (.inr (.inr ⟨a, b, _, _, rfl, rfl, t1, t2, by rw [← r.length, ← r'.length]; exact c, fun q hq => ?_⟩)))
      exact p.listF I.sim (r.append r') hq
    · exact p.elim
  · split at p
    · rename_i xs ys h1 h2
      split at p
      · rename_i c
        obtain ⟨n, a, xs', e1, rfl, e2, e3, e4, r⟩ := mlst_at I.sim (d := .ref _) (xs := xs) h1 ra
        obtain ⟨m, b, ys', f1, rfl, f2, f3, f4, r'⟩ := mlst_at I.sim (d := .ref _) (xs := ys) h2 rb
        have eH := I.h
        subst eH
        refine .inr (.inr (.inr (.inl ⟨a, b, _, _, rfl, rfl, e4, f4, by rw [← r.length, ← r'.length]; exact c, fun q hq => ?_⟩)))
        exact p.list I.sim (r.append r') hq
      · exact p.elim
    · exact p.elim
  · exact p.elim
end
end M
/-! M3: expressions: names, constants, operators, comparisons, tests, arguments, displays. -/
namespace M
open PySem PySem.Spec PyProof.Rows L2

section
variable {α β γ δ : Type} {P : Vw → α → β → Prop} {P' : Vw → γ → δ → Prop} {F : Fx} {σ : L2.St} {H : Hp}
theorem Post.mono {W : Vw} {r : R α} {Q Q' : β → Hp → Prop} {E : XK} (h : Post W P r Q E) (m : ∀ b H, Q b H → Q' b H) : Post W P r Q' E := by
  cases r with
  | ok a st => exact fun ρ H b x s p => m _ _ (h ρ H b x s p)
  | exc C fs st => exact h
  | bad => exact h
theorem TX.mono {i : Env → Sto → R α} {Q Q' : β → Hp → Prop} (h : TX P F i σ H Q) (m : ∀ b H, Q b H → Q' b H) : TX P F i σ H Q' := by
  obtain ⟨W, st, env, A, p⟩ := h
  exact ⟨W, st, env, A, p.mono m⟩
/-- a value in hand (a), a further step i that does not look at it, then k -/
theorem TK.bind {κ μ : Type} {P2 : Vw → κ → μ → Prop} {i : Env → Sto → R γ} {k : α → γ → Env → Sto → R κ} {Q : μ → Hp → Prop} {b : β} (mo : ∀ {W : Vw} {ρ' : List Addr} {H' : Hp} {a : α} {b : β}, Ext W ρ' H' → P W a b → P (W.to ρ' H') a b)
    (h : TK P P2 F (fun a env st => (i env st).bind fun c s1 => k a c env s1) b σ H Q) :
    TX P' F i σ H fun c H' => ∃ W st env a d, At F W st env σ H' ∧ P W a b ∧ P' W d c ∧ Post W P2 (k a d env st) Q (F.at_ σ) := by
  obtain ⟨W, st, env, a, A, p, q⟩ := h
  refine ⟨W, st, env, A, ?_⟩
  have q' : Post W P2 ((i env st).bind fun c s1 => k a c env s1) Q (F.at_ σ) := q
  cases r : i env st with
  | ok d s1 =>
    rw [r] at q'
    exact fun ρ' H' c x s pc => ⟨W.to ρ' H', s1, env, a, d, A.next x s, mo x p, pc, Post.ext x q'⟩
  | exc C fs s1 => rw [r] at q'; exact q'
  | bad => rw [r] at q'; exact q'
theorem At.in_ {W : Vw} {st : Sto} {env : Env} (a : At F W st env σ H) : In F W st H := ⟨a.k, a.g, a.h, a.sim⟩
end

section
variable {X : Cx} {F : Fx} {pos : Pos}
/-! ### names, constants -/
def iC (d : D) : IE := fun _ st => .ok d st
def iVar (i : Nat) : IE := fun env st => match env[i]? with
  | some (some d) => .ok d st
  | _ => .bad
theorem e_var {e : Expr} {i : Nat} (h : PE X e (tVar i)) : PE X e (TI F (iVar i)) := PE.imp h fun σ H Q ⟨W, st, env, A, p⟩ => by
  unfold iVar at p
  split at p
  · rename_i d e
    obtain ⟨v, e1, r⟩ := A.env.at_ _ _ e
    refine ⟨v, e1, ?_⟩
    have q := p W.ρ W.H v Ext.refl A.sim r
    rw [A.h] at q
    exact q
  · exact p.elim
/-- the name in slot i -/
theorem e_v (i : Nat) {x : Str} (hN : X.N[i]? = some x := by rfl) (hv : Vis X.env.scope x := by first | exact Or.inl rfl | exact Or.inr (Or.inl rfl) | exact Or.inr (Or.inr rfl)) (hd : (x == ("__debug__" : Str)) = false := by decide)
    (hcd : (x == ("__classdict__" : Str)) = false := by decide) : PE X (.Name x pos) (TI F (iVar i)) := e_var (pe_var hN hv hd hcd)
theorem e_con {e : Expr} {d : D} {v : V} (h : PE X e (tC v)) (r : ∀ W : Vw, W.K = F.K → W.g = F.g → RV W d v) : PE X e (TI F (iC d)) := PE.imp h fun σ H Q ⟨W, st, env, A, p⟩ => by
  have q := p W.ρ W.H v Ext.refl A.sim (r W A.k A.g)
  rw [A.h] at q
  exact q
theorem e_int {i : Int} {j} : PE X (.Constant (.int i) j pos) (TI F (iC (.int i))) := e_con pe_int fun _ _ _ => .int _
theorem e_bl {i : Bool} {j} : PE X (.Constant (.bool i) j pos) (TI F (iC (.bl i))) := e_con pe_bl fun _ _ _ => .bl _
theorem e_str {i : Str} {j} : PE X (.Constant (.str i) j pos) (TI F (iC (.str i))) := e_con pe_str fun _ _ _ => .str _
theorem e_non {j} : PE X (.Constant .none j pos) (TI F (iC .non)) := e_con pe_non fun _ _ _ => .non

/-! ### operators -/
def iBin (f : Op2) (i j : IE) : IE := fun env st => (i env st).bind fun a s1 => (j env s1).bind fun b s2 => ofO (f a b s2)
def iUn (f : Op1) (i : IE) : IE := fun env st => (i env st).bind fun a s1 => ofO (f a s1)
theorem bin_r2 {f : Op2} {i j : IE} {σ : L2.St} {H : Hp} {Q : VK} (h : TI F (iBin f i j) σ H Q) : tOp (r2 F f) (TI F i) (TI F j) σ H Q :=
  (TX.bind (k := fun a env s1 => (j env s1).bind fun b s2 => ofO (f a b s2)) h).mono fun x H1 h1 => (TK.bind (i := j) (k := fun a b env s2 => ofO (f a b s2)) (fun x r => RV.mono x r) h1).mono fun y H2 ⟨W, st, env, a, b, A, ra, rb, p⟩ => ⟨W, st, a, b, A.in_, ra, rb, PostO.of p⟩
theorem e_bin {a b : Expr} {op : Operator} {f : Op2} {i j : IE} (ho : OpR X (binaryOp op) (r2 F f)) (ha : PE X a (TI F i)) (hb : PE X b (TI F j)) : PE X (.BinOp a op b pos) (TI F (iBin f i j)) :=
  PE.imp (pe_op ho ha hb) fun _ _ _ h => bin_r2 h
theorem e_cmp {a b : Expr} {op : CmpOp} {f : Op2} {i j : IE} (ho : OpR X (compareOp op) (r2 F f)) (ha : PE X a (TI F i)) (hb : PE X b (TI F j)) (h1 : behindInMarks op b = false := by first | exact nomark _ | rfl) : PE X (.Compare a [op] [b] pos) (TI F (iBin f i j)) :=
  PE.imp (pe_cmpR ho ha hb h1) fun _ _ _ h => bin_r2 h
theorem e_un {a : Expr} {op : UnaryOp} {f : Op1} {i : IE} (ho : UnR X (unaryOp op) (r1 F f)) (ha : PE X a (TI F i)) : PE X (.UnaryOp op a pos) (TI F (iUn f i)) :=
  PE.imp (pe_un ho ha) fun _ _ _ h => (TX.bind (k := fun a env s1 => ofO (f a s1)) h).mono fun x H1 ⟨W, st, env, a, A, ra, p⟩ => ⟨W, st, a, A.in_, ra, PostO.of p⟩
end

section
variable {X : Cx} {F : Fx} {pos : Pos} {W : Vw} {st : Sto}
/-! ### equality -/
def allP {α β : Type} (f : α → Option β) : List α → Option (List β)
  | [] => some []
  | x :: xs => match f x, allP f xs with
    | some p, some ps => some (p :: ps)
    | _, _ => none
theorem allP_cons {α β : Type} {f : α → Option β} {x : α} {xs : List α} {ps : List β} (h : allP f (x :: xs) = some ps) : ∃ p r, f x = some p ∧ allP f xs = some r ∧ ps = p :: r := by
  unfold allP at h
  split at h
  · rename_i p r e1 e2
    cases h
    exact ⟨p, r, e1, e2, rfl⟩
  · cases h
/-- the datum as the library's plain data -/
def toP (st : Sto) : Nat → D → Option PyData
  | 0, _ => none
  | n + 1, d => match d with
    | .non => some .none
    | .bl b => some (.bool b)
    | .int i => some (.int i)
    | .str x => if PyData.strOk x then some (.str x) else none
    | .tup xs => (allP (toP st n) xs).map .tuple
    | .lst xs => (allP (toP st n) xs).map .list
    | .ref k => match lstAt st k with
      | some xs => (allP (toP st n) xs).map .list
      | none => none
    | _ => none
/-- what toP gives -/
def Good (W : Vw) (n : Nat) (d : D) (p : PyData) : Prop := p.canLay0 = true ∧ p.depth ≤ n ∧ ∀ v, RV W d v → Dp W.K W.H v p
theorem good_all {n : Nat} {f : D → Option PyData} (hf : ∀ d p, f d = some p → Good W n d p) : ∀ {xs : List D} {ps : List PyData}, allP f xs = some ps → PyData.canLayAll0 ps = true ∧ PyData.depthAll ps ≤ n ∧ ∀ ys, RVs W xs ys → DpAll W.K W.H ys ps
  | [], ps, h => by
    cases h
    exact ⟨rfl, Nat.zero_le _, fun ys r => by cases r; exact .nil⟩
  | x :: xs, ps, h => by
    obtain ⟨p, r, e1, e2, rfl⟩ := allP_cons h
    obtain ⟨a1, a2, a3⟩ := hf _ _ e1
    obtain ⟨b1, b2, b3⟩ := good_all hf e2
    refine ⟨by show (PyData.canLay0 p && PyData.canLayAll0 r) = true; rw [a1, b1]; rfl, Nat.max_le.mpr ⟨a2, b2⟩, fun ys q => ?_⟩
    cases q with
    | cons q1 q2 => exact .cons (a3 _ q1) (b3 _ q2)
theorem toP_good (S : Sim W st) : ∀ (n : Nat) (d : D) (p : PyData), toP st n d = some p → Good W n d p
  | 0, _, _, h => by cases h
  | n + 1, d, p, h => by
    cases d with
    | non => cases h; exact ⟨rfl, Nat.zero_le _, fun v r => by cases r; exact .non⟩
    | bl b => cases h; exact ⟨rfl, Nat.zero_le _, fun v r => by cases r; exact .bl _⟩
    | int b => cases h; exact ⟨rfl, Nat.zero_le _, fun v r => by cases r; exact .int _⟩
    | str x =>
      have h' : (if PyData.strOk x then some (PyData.str x) else none) = some p := h
      split at h'
      · rename_i c
        cases h'
        exact ⟨c, Nat.zero_le _, fun v r => by cases r; exact .str _⟩
      · cases h'
    | tup xs =>
      have h' : (allP (toP st n) xs).map PyData.tuple = some p := h
      obtain ⟨ps, e, rfl⟩ := Option.map_eq_some_iff.mp h'
      obtain ⟨b1, b2, b3⟩ := good_all (toP_good S n) e
      exact ⟨b1, Nat.succ_le_succ b2, fun v r => by
        obtain ⟨a, ys, rfl, q, r'⟩ := tup_at r
        exact .tup q (b3 _ r')⟩
    | lst xs =>
      have h' : (allP (toP st n) xs).map PyData.list = some p := h
      obtain ⟨ps, e, rfl⟩ := Option.map_eq_some_iff.mp h'
      obtain ⟨b1, b2, b3⟩ := good_all (toP_good S n) e
      exact ⟨b1, Nat.succ_le_succ b2, fun v r => by
        obtain ⟨a, ys, rfl, q, r'⟩ := alst_at S (xs := xs) rfl r
        exact .lst q (b3 _ r')⟩
    | ref k =>
      have h' : (match lstAt st k with
        | some xs => (allP (toP st n) xs).map PyData.list
        | none => none) = some p := h
      split at h'
      · rename_i xs hx
        obtain ⟨ps, e, rfl⟩ := Option.map_eq_some_iff.mp h'
        obtain ⟨b1, b2, b3⟩ := good_all (toP_good S n) e
        exact ⟨b1, Nat.succ_le_succ b2, fun v r => by
          obtain ⟨a, ys, rfl, q, r'⟩ := alst_at S (d := .ref k) (xs := xs) hx r
          exact .lst q (b3 _ r')⟩
      · cases h'
    | _ => cases h
def opEq (neg : Bool) : Op2 := fun a b st => match a, b with
  | .str x, .str y => some (.bl (if neg then !decide (x = y) else decide (x = y)), st)
  | a, b => match toP st 64 a, toP st 64 b with
    | some p, some q => some (.bl (if neg then !PyData.eqv p q else PyData.eqv p q), st)
    | _, _ => none
theorem eq_red (hk : X.K = F.K) (neg : Bool) (x y : V) (H : Hp) (Q : VK) (h : r2 F (opEq neg) x y H Q) :
    (scal x y = true ∧ Q (.bl (if neg then !decide (x = y) else decide (x = y))) H) ∨ (∃ d e, Dp X.K H x d ∧ Dp X.K H y e ∧ SeqAt.shaped d = true ∧ SeqAt.shaped e = true ∧ Q (.bl (if neg then !PyData.eqv d e else PyData.eqv d e)) H) := by
  obtain ⟨W, st, a, b, I, ra, rb, p⟩ := h
  unfold opEq at p
  split at p
  · rename_i u v
    cases ra
    cases rb
    refine .inl ⟨rfl, ?_⟩
    have e : decide (V.str u = V.str v) = decide (u = v) := by
      rw [Bool.eq_iff_iff]; simp
    rw [e]
    exact I.now p (.bl _)
  · split at p
    · rename_i d e h1 h2
      obtain ⟨a1, a2, a3⟩ := toP_good I.sim _ _ _ h1
      obtain ⟨b1, b2, b3⟩ := toP_good I.sim _ _ _ h2
      have z := I.now p (.bl _)
      have x1 := a3 _ ra
      have x2 := b3 _ rb
      rw [I.k, ← hk, I.h] at x1 x2
      refine .inr ⟨d, e, x1, x2, ?_, ?_, z⟩
      · unfold SeqAt.shaped; rw [a1, decide_eq_true a2]; rfl
      · unfold SeqAt.shaped; rw [b1, decide_eq_true b2]; rfl
    · exact p.elim
theorem or_eq (hk : X.K = F.K) (hu : X.A.units + 64 < cLine) : OpR X (compareOp .Eq) (r2 F (opEq false)) := OpR.imp (OpR.or op_eq (op_eqD hu)) fun x y H Q h => eq_red hk false x y H Q h
theorem or_ne (hk : X.K = F.K) (hu : X.A.units + 64 < cLine) : OpR X (compareOp .NotEq) (r2 F (opEq true)) := OpR.imp (OpR.or op_ne (op_neD hu)) fun x y H Q h => eq_red hk true x y H Q h
def opCmp (f : Int → Int → Bool) : Op2 := fun a b st => match a, b with
  | .int i, .int j => some (.bl (f i j), st)
  | _, _ => none
theorem or_cmp {op : CmpOp} {f : Int → Int → Bool} (h : OpR X (compareOp op) (rI0 fun i j => .bl (f i j))) : OpR X (compareOp op) (r2 F (opCmp f)) := OpR.imp h fun x y H Q ⟨W, st, a, b, I, ra, rb, p⟩ => by
  unfold opCmp at p
  split at p
  · cases ra; cases rb; exact ⟨_, _, rfl, rfl, I.now p (.bl _)⟩
  · exact p.elim
abbrev opLt : Op2 := opCmp fun i j => decide (i < j)
abbrev opLe : Op2 := opCmp fun i j => decide (i ≤ j)
abbrev opGt : Op2 := opCmp fun i j => decide (j < i)
abbrev opGe : Op2 := opCmp fun i j => decide (j ≤ i)
theorem or_lt : OpR X (compareOp .Lt) (r2 F opLt) := or_cmp op_lt
theorem or_le : OpR X (compareOp .LtE) (r2 F opLe) := or_cmp op_le
theorem or_gt : OpR X (compareOp .Gt) (r2 F opGt) := or_cmp op_gt
theorem or_ge : OpR X (compareOp .GtE) (r2 F opGe) := or_cmp op_ge
def D.isNon : D → Bool
  | .non => true
  | _ => false
theorem isNon_iff {W : Vw} {d : D} {v : V} (r : RV W d v) : decide (v = .non) = d.isNon := by
  cases r <;> first | rfl | exact decide_eq_false fun z => nomatch z
def opIs (neg : Bool) : Op2 := fun a b st => match b with
  | .non => some (.bl (if neg then !a.isNon else a.isNon), st)
  | _ => none
theorem or_is : OpR X (compareOp .Is) (r2 F (opIs false)) := OpR.imp op_isN fun x y H Q ⟨W, st, a, b, I, ra, rb, p⟩ => by
  unfold opIs at p
  split at p
  · cases rb
    refine ⟨rfl, ?_⟩
    rw [isNon_iff ra]
    exact I.now p (.bl _)
  · exact p.elim
theorem or_isnot : OpR X (compareOp .IsNot) (r2 F (opIs true)) := OpR.imp op_notN fun x y H Q ⟨W, st, a, b, I, ra, rb, p⟩ => by
  unfold opIs at p
  split at p
  · cases rb
    refine ⟨rfl, ?_⟩
    rw [isNon_iff ra]
    exact I.now p (.bl _)
  · exact p.elim
def opNeg : Op1 := fun a st => match a with
  | .int i => some (.int (-i), st)
  | _ => none
theorem ur_neg : UnR X (unaryOp .USub) (r1 F opNeg) := fun p s σ H x v Q I rx ⟨W, st, a, J, ra, q⟩ => by
  unfold opNeg at q
  split at q
  · cases ra
    exact un_neg p s σ H _ v Q I rx ⟨_, rfl, J.now q (.int _)⟩
  · exact q.elim

/-! ### a chain of two comparisons -/
def kChain (g : Op2) (k : IE) (b : D) (env : Env) : D → Sto → R D
  | .bl true, s3 => (k env s3).bind fun c s4 => ofO (g b c s4)
  | .bl false, s3 => .ok (.bl false) s3
  | _, _ => .bad
def iChain (f g : Op2) (i j k : IE) : IE := fun env st => (i env st).bind fun a s1 => (j env s1).bind fun b s2 => (ofO (f a b s2)).bind (kChain g k b env)
end
end M
/-! M4: chains, tests, arguments, displays, built-in functions, subscripts, slices. -/
namespace M
open PySem PySem.Spec PyProof.Rows L2

section
variable {X : Cx} {F : Fx} {pos : Pos} {W : Vw} {st : Sto} {a b c : Expr} {rest : List Expr}
theorem e_chain {op op' : CmpOp} {f g : Op2} {i j k : IE} (ho : OpR X (compareOp op) (r2 F f)) (ho' : OpR X (compareOp op') (r2 F g)) (ha : PE X a (TI F i)) (hb : PE X b (TI F j)) (hc : PE X c (TI F k))
    (hm : lastMarks [op, op'] [b, c] = false := by with_unfolding_all rfl) : PE X (.Compare a [op, op'] [b, c] pos) (TI F (iChain f g i j k)) := by
  refine PE.imp (pe_chain (r := fun x y H Q => ∃ W st a b, In F W st H ∧ RV W a x ∧ RV W b y ∧ PostO W (f a b st) Q) ho ho' ha hb hc hm) fun σ H Q h => ?_
  refine (TX.bind (k := fun a env s1 => (j env s1).bind fun b s2 => (ofO (f a b s2)).bind (kChain g k b env)) h).mono fun x H1 h1 => ?_
  refine (TK.bind (i := j) (k := fun a b env s2 => (ofO (f a b s2)).bind (kChain g k b env)) (fun x r => RV.mono x r) h1).mono fun y H2 ⟨W, st, env, a, b, A, ra, rb, p⟩ => ?_
  refine ⟨W, st, a, b, A.in_, ra, rb, ?_⟩
  have p1 : PostE W ((ofO (f a b st)).bind (kChain g k b env)) Q (F.at_ σ) := p
  cases e : f a b st with
  | none => rw [e] at p1; exact p1
  | some z =>
    obtain ⟨d, s3⟩ := z
    rw [e] at p1
    intro ρ' H' v x s r
    have p2 : PostE W (kChain g k b env d s3) Q (F.at_ σ) := p1
    cases r with
    | bl t =>
      refine ⟨t, rfl, ?_⟩
      cases t with
      | false => exact p2 ρ' H' _ x s (.bl false)
      | true =>
        have T : TK RV RV F (fun b env s3 => (k env s3).bind fun c s4 => ofO (g b c s4)) y σ H' Q := ⟨W.to ρ' H', s3, env, b, A.next x s, rb.mono x, Post.ext x p2⟩
        exact (TK.bind (i := k) (k := fun b c env s4 => ofO (g b c s4)) (fun x r => RV.mono x r) T).mono fun z H3 ⟨W, st, env, a, b, A, ra, rb, p⟩ => ⟨W, st, a, b, A.in_, ra, rb, PostO.of p⟩
    | _ => exact p2.elim

/-! ### tests -/
def truD (st : Sto) : D → Option Bool
  | .non => some false
  | .bl b => some b
  | .int i => some (i != 0)
  | .str x => if x.length ≤ sizeLine then some ((x.length : Int) != 0) else none
  | .tup xs => some (!xs.isEmpty)
  | .lst xs => some (!xs.isEmpty)
  | .ref n => match st[n]? with
    | some (.lst xs) => some (!xs.isEmpty)
    | some (.dct xs) => some (!xs.isEmpty)
    | _ => none
  | _ => none
theorem RVs.empty {W : Vw} {xs : List D} {ys : List V} (r : RVs W xs ys) : xs.isEmpty = ys.isEmpty := by cases r <;> rfl
theorem tru_of (S : Sim W st) {d : D} {v : V} {k : Bool} (r : RV W d v) (h : truD st d = some k) : TruV W.K v W.H k := by
  cases r with
  | non => cases h; rfl
  | bl b => cases h; rfl
  | int i => cases h; rfl
  | str x =>
    have h' : (if x.length ≤ sizeLine then some ((x.length : Int) != 0) else none) = some k := h
    split at h'
    · cases h'; exact ⟨by assumption, rfl⟩
    · cases h'
  | tup t r => cases h; exact .inr (.inl ⟨_, t.sq, by rw [r.empty]⟩)
  | lst t r => cases h; exact .inl ⟨_, t.sq, by rw [r.empty]⟩
  | @ref n a e =>
    have h' : (match st[n]? with
    | some (.lst xs) => some (!xs.isEmpty)
    | some (.dct xs) => some (!xs.isEmpty)
    | _ => none) = some k := h
    split at h'
    · rename_i xs q
      cases h'
      obtain ⟨ys, e1, r1⟩ := S.at_ n _ a q e
      exact .inl ⟨ys, .inl (.inl e1), by rw [r1.empty]⟩
    · rename_i xs q
      cases h'
      obtain ⟨ys, e1, r1, r2⟩ := S.at_ n _ a q e
      refine .inr (.inr ⟨ys, e1, ?_⟩)
      cases xs <;> cases ys <;> first | rfl | simp at r1
    · cases h'
  | _ => cases h
def tTru (i : IE) : IT := fun env st => (i env st).bind fun d s => match truD s d with
  | some k => .ok k s
  | none => .bad
theorem PostT.now {Q : Bool → Hp → Prop} {E : XK} {k : Bool} (p : PostT W (.ok k st) Q E) (S : Sim W st) : Q k W.H := p W.ρ W.H k Ext.refl S rfl
/-- an expression's value as a test -/
theorem t_tru {i : IE} (hk : X.K = F.K) (ha : PE X a (TI F i)) (he : ∀ whole, isTrue a X.env whole = (do let v ← whole; standAt a.pos; holding [v] (truthy v)) := by intro _; rfl) : PT X a (TT_ F (tTru i)) :=
  PT.imp (pt_truth ha he) fun σ H Q h => (TX.bind (k := fun d env s => match truD s d with
  | some k => .ok k s
  | none => .bad) h).mono fun x H1 ⟨W, st, env, d, A, r, p⟩ => by
    have p' : PostT W (match truD st d with
      | some k => .ok k st
      | none => .bad) Q (F.at_ σ) := p
    cases e : truD st d with
    | none => rw [e] at p'; exact p'.elim
    | some k =>
      rw [e] at p'
      have t := tru_of A.sim r e
      rw [A.k, ← hk, A.h] at t
      have q := PostT.now p' A.sim
      rw [A.h] at q
      exact ⟨k, t, q⟩
def tNot' (i : IT) : IT := fun env st => (i env st).bind fun k s => .ok (!k) s
def tAnd' (i j : IT) : IT := fun env st => (i env st).bind fun k s => if k = true then j env s else .ok false s
def tOr' (i j : IT) : IT := fun env st => (i env st).bind fun k s => if k = true then .ok true s else j env s
theorem t_not {i : IT} (ha : PT X a (TT_ F i)) : PT X (.UnaryOp .Not a pos) (TT_ F (tNot' i)) := PT.imp (pt_not ha) fun σ H Q h =>
  (TX.bind (k := fun k env s => .ok (!k) s) h).mono fun x H1 ⟨W, st, env, d, A, r, p⟩ => by
    cases (show d = x from r)
    have q := PostT.now p A.sim
    rw [A.h] at q
    exact q
theorem w_and1 {i : IT} (ha : PT X a (TT_ F i)) : PW X (.BoolOp .And [a] pos) (TT_ F i) := pw_and1 ha
theorem w_or1 {i : IT} (ha : PT X a (TT_ F i)) : PW X (.BoolOp .Or [a] pos) (TT_ F i) := pw_or1 ha
theorem w_and {i j : IT} (ha : PT X a (TT_ F i)) (hb : PW X (.BoolOp .And (b :: rest) pos) (TT_ F j)) : PW X (.BoolOp .And (a :: b :: rest) pos) (TT_ F (tAnd' i j)) := PW.imp (pw_and ha hb) fun σ H Q h =>
  (TX.bind (k := fun k env s => if k = true then j env s else .ok false s) h).mono fun x H1 ⟨W, st, env, d, A, r, p⟩ => by
    cases (show d = x from r)
    cases x with
    | true => exact ⟨W, st, env, A, p⟩
    | false =>
      have q := PostT.now p A.sim
      rw [A.h] at q
      exact q
theorem w_or {i j : IT} (ha : PT X a (TT_ F i)) (hb : PW X (.BoolOp .Or (b :: rest) pos) (TT_ F j)) : PW X (.BoolOp .Or (a :: b :: rest) pos) (TT_ F (tOr' i j)) := PW.imp (pw_or ha hb) fun σ H Q h =>
  (TX.bind (k := fun k env s => if k = true then .ok true s else j env s) h).mono fun x H1 ⟨W, st, env, d, A, r, p⟩ => by
    cases (show d = x from r)
    cases x with
    | false => exact ⟨W, st, env, A, p⟩
    | true =>
      have q := PostT.now p A.sim
      rw [A.h] at q
      exact q
/-! ### and, or, not as values -/
def iAnd (i j : IE) : IE := fun env st => (i env st).bind fun d s => match truD s d with
  | some true => j env s
  | some false => .ok d s
  | none => .bad
def iOr (i j : IE) : IE := fun env st => (i env st).bind fun d s => match truD s d with
  | some true => .ok d s
  | some false => j env s
  | none => .bad
def kNot (d : D) (s : Sto) : R D := match truD s d with
  | some k => .ok (.bl (!k)) s
  | none => .bad
def iNot (i : IE) : IE := fun env st => (i env st).bind kNot
theorem e_one {op} {i : IE} (h : PE X a (TI F i)) : PE X (.BoolOp op [a] pos) (TI F i) := pe_one h
theorem e_and {i j : IE} (hk : X.K = F.K) (ha : PE X a (TI F i)) (hb : PE X (.BoolOp .And (b :: rest) pos) (TI F j)) : PE X (.BoolOp .And (a :: b :: rest) pos) (TI F (iAnd i j)) := PE.imp (pe_andT ha hb) fun σ H Q h =>
  (TX.bind (k := fun d env s => match truD s d with
  | some true => j env s
  | some false => .ok d s
  | none => .bad) h).mono fun x H1 ⟨W, st, env, d, A, r, p⟩ => by
    have p' : PostE W (match truD st d with
      | some true => j env st
      | some false => .ok d st
      | none => .bad) Q (F.at_ σ) := p
    cases e : truD st d with
    | none => rw [e] at p'; exact p'.elim
    | some k =>
      rw [e] at p'
      have t := tru_of A.sim r e
      rw [A.k, ← hk, A.h] at t
      refine ⟨k, t, ?_⟩
      cases k with
      | true => exact ⟨W, st, env, A, p'⟩
      | false =>
        have q := p' W.ρ W.H x Ext.refl A.sim r
        rw [A.h] at q
        exact q
theorem e_or {i j : IE} (hk : X.K = F.K) (ha : PE X a (TI F i)) (hb : PE X (.BoolOp .Or (b :: rest) pos) (TI F j)) : PE X (.BoolOp .Or (a :: b :: rest) pos) (TI F (iOr i j)) := PE.imp (pe_orT ha hb) fun σ H Q h =>
  (TX.bind (k := fun d env s => match truD s d with
  | some true => .ok d s
  | some false => j env s
  | none => .bad) h).mono fun x H1 ⟨W, st, env, d, A, r, p⟩ => by
    have p' : PostE W (match truD st d with
      | some true => .ok d st
      | some false => j env st
      | none => .bad) Q (F.at_ σ) := p
    cases e : truD st d with
    | none => rw [e] at p'; exact p'.elim
    | some k =>
      rw [e] at p'
      have t := tru_of A.sim r e
      rw [A.k, ← hk, A.h] at t
      refine ⟨k, t, ?_⟩
      cases k with
      | false => exact ⟨W, st, env, A, p'⟩
      | true =>
        have q := p' W.ρ W.H x Ext.refl A.sim r
        rw [A.h] at q
        exact q
theorem e_not {i : IE} (hk : X.K = F.K) (ha : PE X a (TI F i)) : PE X (.UnaryOp .Not a pos) (TI F (iNot i)) := PE.imp (pe_notT ha) fun σ H Q h =>
  (TX.bind (k := fun d env s => kNot d s) h).mono fun x H1 ⟨W, st, env, d, A, r, p⟩ => by
    have p' : PostE W (kNot d st) Q (F.at_ σ) := p
    unfold kNot at p'
    cases e : truD st d with
    | none => rw [e] at p'; exact p'.elim
    | some k =>
      rw [e] at p'
      have t := tru_of A.sim r e
      rw [A.k, ← hk, A.h] at t
      have q := p' W.ρ W.H (.bl (!k)) Ext.refl A.sim (.bl _)
      rw [A.h] at q
      exact ⟨k, t, q⟩
def iIf (c : IT) (i j : IE) : IE := fun env st => (c env st).bind fun k s => if k = true then i env s else j env s
theorem e_if {t : IT} {i j : IE} (hc : PT X c (TT_ F t)) (ha : PE X a (TI F i)) (hb : PE X b (TI F j)) : PE X (.IfExp c a b pos) (TI F (iIf t i j)) := PE.imp (pe_ifExp hc ha hb) fun σ H Q h =>
  (TX.bind (k := fun k env s => if k = true then i env s else j env s) h).mono fun x H1 ⟨W, st, env, d, A, r, p⟩ => by
    cases (show d = x from r)
    cases x with
    | true => exact ⟨W, st, env, A, p⟩
    | false => exact ⟨W, st, env, A, p⟩

/-! ### arguments, displays -/
def aNil : IA := fun _ st => .ok [] st
def aCons (i : IE) (j : IA) : IA := fun env st => (i env st).bind fun d s => (j env s).bind fun ds s2 => .ok (d :: ds) s2
theorem a_nil : PA X [] (TA_ F aNil) := PA.imp pa_nil fun σ H Q ⟨W, st, env, A, p⟩ => by
  have q := p W.ρ W.H [] Ext.refl A.sim .nil
  rw [A.h] at q
  exact q
theorem a_cons {e : Expr} {es : List Expr} {i : IE} {j : IA} (ha : PE X e (TI F i)) (hr : PA X es (TA_ F j)) (hs : starEach (e :: es) X.env = (false, eval e X.env) :: starEach es X.env := by rfl) : PA X (e :: es) (TA_ F (aCons i j)) :=
  PA.imp (pa_cons ha hr hs) fun σ H Q h => (TX.bind (k := fun d env s => (j env s).bind fun ds s2 => .ok (d :: ds) s2) h).mono fun x H1 h1 =>
    (TK.bind (i := j) (k := fun d ds env s2 => .ok (d :: ds) s2) (fun x r => RV.mono x r) h1).mono fun y H2 ⟨W, st, env, a, b, A, ra, rb, p⟩ => by
      have q := p W.ρ W.H (x :: y) Ext.refl A.sim (.cons ra rb)
      rw [A.h] at q
      exact q
def iN (f : OpN) (j : IA) : IE := fun env st => (j env st).bind fun ds s => ofO (f ds s)
theorem n_rN {f : OpN} {j : IA} {σ : L2.St} {H : Hp} {Q : VK} (h : TI F (iN f j) σ H Q) : TA_ F j σ H fun vs H1 => rN F f vs H1 Q :=
  (TX.bind (k := fun ds env s => ofO (f ds s)) h).mono fun x H1 ⟨W, st, env, d, A, r, p⟩ => ⟨W, st, d, A.in_, r, PostO.of p⟩
def opTup : OpN := fun ds st => if ds.length ≤ sizeLine then some (.tup ds, st) else none
def opLst : OpN := fun ds st => if ds.length ≤ sizeLine then some (.ref st.length, st ++ [.lst ds]) else none
theorem e_tup {es : List Expr} {j : IA} {x1} (h : PA X es (TA_ F j)) : PE X (.Tuple es x1 pos) (TI F (iN opTup j)) := PE.imp (pe_tup h) fun σ H Q h => (n_rN h).mono fun vs H1 ⟨W, st, ds, I, r, p⟩ => by
  unfold opTup at p
  split at p
  · rename_i c
    have eH := I.h
    subst eH
    exact ⟨by rw [← r.length]; exact c, fun q hq => p.tuple I.sim r hq⟩
  · exact p.elim
theorem e_lst {es : List Expr} {j : IA} (h : PA X es (TA_ F j)) : PE X (.List es pos) (TI F (iN opLst j)) := PE.imp (pe_lst h) fun σ H Q h => (n_rN h).mono fun vs H1 ⟨W, st, ds, I, r, p⟩ => by
  unfold opLst at p
  split at p
  · rename_i c
    have eH := I.h
    subst eH
    exact ⟨by rw [← r.length]; exact c, fun q hq => p.list I.sim r hq⟩
  · exact p.elim

/-! ### built-in functions -/
theorem e_callB {e : Expr} {es : List Expr} {x : Str} {p : Pos} {id : String} {f : OpN} {j : IA} (hc : CallR X (.builtin id) (rN F f)) (hg : Gl X x) (hm : X.mg x = none) (hv : bootBuiltins x = some (.builtin id)) (ha : PA X (e :: es) (TA_ F j)) (hn : x ≠ "__name__" := by decide) (hdb : (x == ("__debug__" : Str)) = false := by decide)
    (he : starEach (e :: es) X.env = (false, eval e X.env) :: starEach es X.env := by rfl) (hpl : (backTo pos (starEach es X.env)).any (·.1) = false := by rfl) : PE X (.Call (.Name x p) (e :: es) [] pos) (TI F (iN f j)) :=
  PE.imp (pe_callB hc hg hm hv ha hn hdb he hpl) fun σ H Q h => n_rN h
theorem e_callTy {e : Expr} {es : List Expr} {x : Str} {p : Pos} {id : String} {f : OpN} {j : IA} (hc : CallR X (.type id) (rN F f)) (hg : Gl X x) (hm : X.mg x = none) (hv : bootBuiltins x = some (.type id)) (ha : PA X (e :: es) (TA_ F j)) (hn : x ≠ "__name__" := by decide) (hdb : (x == ("__debug__" : Str)) = false := by decide)
    (he : starEach (e :: es) X.env = (false, eval e X.env) :: starEach es X.env := by rfl) (hpl : (backTo pos (starEach es X.env)).any (·.1) = false := by rfl) : PE X (.Call (.Name x p) (e :: es) [] pos) (TI F (iN f j)) :=
  PE.imp (pe_callTy hc hg hm hv ha hn hdb he hpl) fun σ H Q h => n_rN h
theorem rv1 {W : Vw} {d : D} {vs : List V} (r : RVs W [d] vs) : ∃ v, vs = [v] ∧ RV W d v := by
  cases r with
  | cons h r => cases r; exact ⟨_, rfl, h⟩
theorem rv2 {W : Vw} {d e : D} {vs : List V} (r : RVs W [d, e] vs) : ∃ v u, vs = [v, u] ∧ RV W d v ∧ RV W e u := by
  cases r with
  | cons h r =>
    obtain ⟨u, rfl, q⟩ := rv1 r
    exact ⟨_, _, rfl, h, q⟩
theorem rv3 {W : Vw} {d e f : D} {vs : List V} (r : RVs W [d, e, f] vs) : ∃ v u w, vs = [v, u, w] ∧ RV W d v ∧ RV W e u ∧ RV W f w := by
  cases r with
  | cons h r =>
    obtain ⟨u, w, rfl, q⟩ := rv2 r
    exact ⟨_, _, _, rfl, h, q⟩
def lenD (st : Sto) : D → Option Nat
  | .str x => if x.length ≤ sizeLine then some x.length else none
  | d => (aseq st d).map (·.length)
def opLen : OpN := fun ds st => match ds with
  | [d] => (lenD st d).map fun n => (.int n, st)
  | _ => none
theorem cr_len (hk : X.K = F.K) : CallR X (.builtin "len") (rN F opLen) := CallR.imp call_len fun xs H Q ⟨W, st, ds, I, r, p⟩ => by
  unfold opLen at p
  split at p
  · rename_i d
    obtain ⟨v, rfl, rv⟩ := rv1 r
    cases e : lenD st d with
    | none => rw [e] at p; exact p.elim
    | some n =>
      rw [e] at p
      have q := I.now p (.int _)
      refine ⟨v, n, rfl, ?_, q⟩
      have seq : ∀ xs, aseq st d = some xs → n = xs.length → LenV X.K v H n := fun xs hx hn => by
        obtain ⟨a, ys, rfl, hs, ry⟩ := aseq_at I.sim hx rv
        rw [I.k, ← hk, I.h] at hs
        rcases hs with hs | hs
        · exact .inl ⟨ys, hs, by rw [hn, ry.length]⟩
        · exact .inr ⟨ys, hs, by rw [hn, ry.length]⟩
      have fin : lenD st d = (aseq st d).map (·.length) → LenV X.K v H n := fun z => by
        rw [z] at e
        obtain ⟨xs, hx, hn⟩ := Option.map_eq_some_iff.mp e
        exact seq xs hx hn.symm
      cases d with
      | str x =>
        cases rv
        have e' : (if x.length ≤ sizeLine then some x.length else none) = some n := e
        split at e'
        · cases e'; exact ⟨by assumption, rfl⟩
        · cases e'
      | _ => exact fin rfl
  · exact p.elim
def opAbs : OpN := fun ds st => match ds with
  | [.int i] => some (.int (if i < 0 then -i else i), st)
  | _ => none
theorem cr_abs : CallR X (.builtin "abs") (rN F opAbs) := CallR.imp call_abs fun xs H Q ⟨W, st, ds, I, r, p⟩ => by
  unfold opAbs at p
  split at p
  · obtain ⟨v, rfl, rv⟩ := rv1 r
    cases rv
    exact ⟨_, rfl, I.now p (.int _)⟩
  · exact p.elim
def opMax : OpN := fun ds st => match ds with
  | [.int i, .int j] => some (.int (if j > i then j else i), st)
  | _ => none
theorem cr_max (hc : X.calm = true) : CallR X (.builtin "max") (rN F opMax) := CallR.imp (call_max2 hc) fun xs H Q ⟨W, st, ds, I, r, p⟩ => by
  unfold opMax at p
  split at p
  · obtain ⟨v, u, rfl, rv, ru⟩ := rv2 r
    cases rv
    cases ru
    exact ⟨_, _, rfl, I.now p (.int _)⟩
  · exact p.elim
def opMin : OpN := fun ds st => match ds with
  | [.int i, .int j] => some (.int (if j < i then j else i), st)
  | _ => none
theorem cr_min (hc : X.calm = true) : CallR X (.builtin "min") (rN F opMin) := CallR.imp (call_min2 hc) fun xs H Q ⟨W, st, ds, I, r, p⟩ => by
  unfold opMin at p
  split at p
  · obtain ⟨v, u, rfl, rv, ru⟩ := rv2 r
    cases rv
    cases ru
    exact ⟨_, _, rfl, I.now p (.int _)⟩
  · exact p.elim
def opInt : OpN := fun ds st => match ds with
  | [.int i] => some (.int i, st)
  | [.bl k] => some (.int (if k then 1 else 0), st)
  | _ => none
theorem cr_int : CallR X (.type "int") (rN F opInt) := CallR.imp call_int1 fun xs H Q ⟨W, st, ds, I, r, p⟩ => by
  unfold opInt at p
  split at p
  · obtain ⟨v, rfl, rv⟩ := rv1 r
    cases rv
    exact .inl ⟨_, rfl, I.now p (.int _)⟩
  · obtain ⟨v, rfl, rv⟩ := rv1 r
    cases rv
    exact .inr ⟨_, rfl, I.now p (.int _)⟩
  · exact p.elim
def opStr : OpN := fun ds st => match ds with
  | [.int i] => if i.natAbs.log2 < 1920 then some (.str (toString i), st) else none
  | _ => none
theorem cr_str : CallR X (.type "str") (rN F opStr) := CallR.imp call_str_int fun xs H Q ⟨W, st, ds, I, r, p⟩ => by
  unfold opStr at p
  split at p
  · split at p
    · obtain ⟨v, rfl, rv⟩ := rv1 r
      cases rv
      exact ⟨_, rfl, by assumption, I.now p (.str _)⟩
    · exact p.elim
  · exact p.elim
def opTuple : OpN := fun ds st => match ds with
  | [.tup xs] => some (.tup xs, st)
  | [d] => (alst st d).map fun xs => (.tup xs, st)
  | _ => none
theorem cr_tuple (hk : X.K = F.K) : CallR X (.type "tuple") (rN F opTuple) := CallR.imp call_tuple_of fun xs H Q ⟨W, st, ds, I, r, p⟩ => by
  unfold opTuple at p
  split at p
  · obtain ⟨v, rfl, rv⟩ := rv1 r
    obtain ⟨a, ys, rfl, hs, ry⟩ := tup_at rv
    rw [I.k, ← hk, I.h] at hs
    exact ⟨a, ys, rfl, .inr ⟨hs, I.now p rv⟩⟩
  · rename_i d _
    obtain ⟨v, rfl, rv⟩ := rv1 r
    cases e : alst st d with
    | none => rw [e] at p; exact p.elim
    | some xs =>
      rw [e] at p
      obtain ⟨a, ys, rfl, hs, ry⟩ := alst_at I.sim e rv
      have eH := I.h
      subst eH
      rw [I.k, ← hk] at hs
      exact ⟨a, ys, rfl, .inl ⟨hs, fun l hl => p.tuple I.sim ry hl⟩⟩
  · exact p.elim
def opList : OpN := fun ds st => match ds with
  | [d] => (aseq st d).map fun xs => (.ref st.length, st ++ [.lst xs])
  | _ => none
theorem cr_list (hk : X.K = F.K) : CallR X (.type "list") (rN F opList) := CallR.imp call_list_of fun xs H Q ⟨W, st, ds, I, r, p⟩ => by
  unfold opList at p
  split at p
  · rename_i d
    obtain ⟨v, rfl, rv⟩ := rv1 r
    cases e : aseq st d with
    | none => rw [e] at p; exact p.elim
    | some xs =>
      rw [e] at p
      obtain ⟨a, ys, rfl, hs, ry⟩ := aseq_at I.sim e rv
      have eH := I.h
      subst eH
      rw [I.k, ← hk] at hs
      exact ⟨a, ys, rfl, hs, fun l hl => p.list I.sim ry hl⟩
  · exact p.elim

/-! ### subscripts -/
theorem atI_rel {W : Vw} {xs : List D} {ys : List V} {i : Int} {d : D} (r : RVs W xs ys) (h : atI xs i = some d) : ∃ v, atI ys i = some v ∧ RV W d v := by
  unfold atI at h ⊢
  rw [← r.length]
  obtain ⟨j, hj, h2⟩ := Option.bind_eq_some_iff.mp h
  obtain ⟨v, hv, rv⟩ := r.get h2
  exact ⟨v, by rw [hj]; exact hv, rv⟩
def opIx : Op2 := fun a b st => match a, b with
  | .str z, .int i => if z.length ≤ sizeLine then (atI z.cps.toList i).map fun c => (.str ⟨#[c]⟩, st) else none
  | a, .int i => match aseq st a with
    | some xs => (atI xs i).map fun d => (d, st)
    | none => none
  | _, _ => none
theorem IxR.imp {r r' : R2} (a : IxR X r) (h : ∀ x y H Q, r' x y H Q → r x y H Q) : IxR X r' := fun e f p s σ H x y v u Q I rx ry q hs => a e f p s σ H x y v u Q I rx ry (h x y H Q q) hs
theorem ir_ix (hk : X.K = F.K) : IxR X (r2 F opIx) := IxR.imp ix_seq fun x y H Q ⟨W, st, a, b, I, ra, rb, p⟩ => by
  unfold opIx at p
  split at p
  · rename_i z i
    cases ra
    cases rb
    split at p
    · rename_i c
      cases e : atI z.cps.toList i with
      | none => rw [e] at p; exact p.elim
      | some c' =>
        rw [e] at p
        exact .inr (.inr ⟨z, i, c', rfl, rfl, c, e, I.now p (.str _)⟩)
    · exact p.elim
  · rename_i i _
    cases rb
    cases e : aseq st a with
    | none => rw [e] at p; exact p.elim
    | some xs =>
      rw [e] at p
      cases e2 : atI xs i with
      | none =>
        have p' : PostO W ((atI xs i).map fun d => (d, st)) Q := p
        rw [e2] at p'; exact p'.elim
      | some d =>
        have p' : PostO W ((atI xs i).map fun d => (d, st)) Q := p
        rw [e2] at p'
        obtain ⟨q, ys, rfl, hs, ry⟩ := aseq_at I.sim e ra
        obtain ⟨v, hv, rv⟩ := atI_rel ry e2
        rw [I.k, ← hk, I.h] at hs
        have z := I.now p' rv
        rcases hs with hs | hs
        · exact .inl ⟨q, ys, i, v, rfl, rfl, hs, hv, z⟩
        · exact .inr (.inl ⟨q, ys, i, v, rfl, rfl, hs, hv, z⟩)
  · exact p.elim
theorem e_ix {i j : IE} (hk : X.K = F.K) (ha : PE X a (TI F i)) (hb : PE X b (TI F j)) (hs : PlainIx b := by exact fun _ _ => rfl) : PE X (.Subscript a b pos) (TI F (iBin opIx i j)) :=
  PE.imp (pe_ix (ir_ix hk) ha hb hs) fun _ _ _ h => bin_r2 h
end
end M
/-! M5: statements, targets, while, for. -/
namespace M
open PySem PySem.Spec PyProof.Rows L2

def liftS {α : Type} (r : R α) (env : Env) (k : α → Sto → RS) : RS := match r with
  | .ok a st => k a st
  | .exc C fs st => .exc C fs env st
  | .bad => .bad
/-- a target's store -/
abbrev IG := D → Env → Sto → R Env
def PE_ (W : Vw) (env : Env) (σ : L2.St) : Prop := EnvR W env σ
def TG_ (F : Fx) (g : IG) : TG := fun v σ H Q => ∃ W st env d, At F W st env σ H ∧ RV W d v ∧ Post W PE_ (g d env st) Q (F.at_ σ)
theorem EnvR.set {W : Vw} {env : Env} {σ : L2.St} {d : D} {v : V} (h : EnvR W env σ) (r : RV W d v) (i : Nat) : EnvR W (env.set i (some d)) (σ.set i (some v)) := by
  refine ⟨by simp [h.len], fun j e q => ?_⟩
  by_cases hj : j = i
  · subst hj
    by_cases hl : j < env.length
    · rw [List.getElem?_set_self hl] at q
      cases q
      exact ⟨v, List.getElem?_set_self (by rw [← h.len]; exact hl), r⟩
    · rw [List.getElem?_eq_none (by simpa using hl)] at q; cases q
  · rw [List.getElem?_set_ne (Ne.symm hj)] at q
    obtain ⟨u, e1, r1⟩ := h.at_ j e q
    exact ⟨u, by rw [List.getElem?_set_ne (Ne.symm hj)]; exact e1, r1⟩

section
variable {X : Cx} {F : Fx} {pos : Pos} {st : Stmt} {rest : List Stmt} {e : Expr}
theorem PostS.nx {W : Vw} {s : Sto} {env : Env} {σ : L2.St} {N : Ends} {E : WX} (p : PostS W (.nx env s) N E) (S : Sim W s) (e : EnvR W env σ) : N.nx σ W.H := p W.ρ W.H σ Ext.refl S e
theorem PostS.mono {W : Vw} {r : RS} {N N' : Ends} {E : WX} (p : PostS W r N E) (h1 : ∀ σ H, N.nx σ H → N'.nx σ H) (h2 : ∀ v H, N.rt v H → N'.rt v H) (h3 : ∀ σ H, N.bk σ H → N'.bk σ H) (h4 : ∀ σ H, N.ct σ H → N'.ct σ H) : PostS W r N' E := by
  cases r with
  | nx a st => exact fun ρ2 H2 b x s y => h1 _ _ (p ρ2 H2 b x s y)
  | ret a st => exact fun ρ2 H2 b x s y => h2 _ _ (p ρ2 H2 b x s y)
  | bk a st => exact fun ρ2 H2 b x s y => h3 _ _ (p ρ2 H2 b x s y)
  | ct a st => exact fun ρ2 H2 b x s y => h4 _ _ (p ρ2 H2 b x s y)
  | exc C fs e st => exact p
  | bad => exact p
/-- an expression first -/
theorem TX.bindS {α β : Type} {P : Vw → α → β → Prop} {i : Env → Sto → R α} {k : α → Env → Sto → RS} {σ : L2.St} {H : Hp} {N : Ends}
    (h : TS_ F (fun env st => liftS (i env st) env fun a s => k a env s) N σ H) : TX P F i σ H fun b H' => ∃ W st env a, At F W st env σ H' ∧ P W a b ∧ PostS W (k a env st) N F.E := by
  obtain ⟨W, s, env, A, p⟩ := h
  refine ⟨W, s, env, A, ?_⟩
  have p' : PostS W (liftS (i env s) env fun a s => k a env s) N F.E := p
  cases r : i env s with
  | ok a s1 =>
    rw [r] at p'
    exact fun ρ' H' b x S q => ⟨W.to ρ' H', s1, env, a, A.next x S, q, PostS.ext x p'⟩
  | exc C fs s1 =>
    rw [r] at p'
    exact fun ρ' H' d x S q => p' ρ' H' σ d x S (A.env.mono x) q
  | bad => rw [r] at p'; exact p'
/-! ### blocks -/
def sNil : IS := fun env st => .nx env st
def kSeq (j : IS) : RS → RS
  | .nx env st => j env st
  | r => r
def sSeq (i j : IS) : IS := fun env st => kSeq j (i env st)
theorem s_nil : PSs X [] (TS_ F sNil) := PSs.imp pss_nil fun N σ H ⟨W, s, env, A, p⟩ => by
  have q := PostS.nx p A.sim A.env
  rw [A.h] at q
  exact q
theorem TS_.seq {i j : IS} {N : Ends} {σ : L2.St} {H : Hp} (h : TS_ F (sSeq i j) N σ H) : TS_ F i { N with nx := TS_ F j N } σ H := by
  obtain ⟨W, s, env, A, p⟩ := h
  refine ⟨W, s, env, A, ?_⟩
  have p' : PostS W (kSeq j (i env s)) N F.E := p
  cases r : i env s with
  | nx e2 s2 => rw [r] at p'; exact fun ρ' H' σ' x S q => ⟨W.to ρ' H', s2, e2, ⟨A.k, A.g, rfl, S, q⟩, PostS.ext x p'⟩
  | ret d s2 => rw [r] at p'; exact p'
  | bk e2 s2 => rw [r] at p'; exact p'
  | ct e2 s2 => rw [r] at p'; exact p'
  | exc C fs e2 s2 => rw [r] at p'; exact p'
  | bad => rw [r] at p'; exact p'
theorem s_cons {i j : IS} (h1 : PS X st (TS_ F i)) (h2 : PSs X rest (TS_ F j)) : PSs X (st :: rest) (TS_ F (sSeq i j)) := PSs.imp (pss_cons h1 h2) fun _ _ _ h => h.seq
theorem s_one {i : IS} (h1 : PS X st (TS_ F i)) : PSs X [st] (TS_ F i) := pss_one h1
def sBreak : IS := fun env st => .bk env st
def sCont : IS := fun env st => .ct env st
theorem s_break : PS X (.Break pos) (TS_ F sBreak) := PS.imp ps_break fun N σ H ⟨W, s, env, A, p⟩ => by
  have q := p W.ρ W.H σ Ext.refl A.sim A.env
  rw [A.h] at q
  exact q
theorem s_continue : PS X (.Continue pos) (TS_ F sCont) := PS.imp ps_continue fun N σ H ⟨W, s, env, A, p⟩ => by
  have q := p W.ρ W.H σ Ext.refl A.sim A.env
  rw [A.h] at q
  exact q
theorem s_pass : PS X (.Pass pos) (TS_ F sNil) := PS.imp ps_pass fun N σ H ⟨W, s, env, A, p⟩ => by
  have q := PostS.nx p A.sim A.env
  rw [A.h] at q
  exact q
theorem s_doc {x j pos'} : PS X (.Expr (.Constant (.str x) j pos) pos') (TS_ F sNil) := PS.imp ps_doc fun N σ H ⟨W, s, env, A, p⟩ => by
  have q := PostS.nx p A.sim A.env
  rw [A.h] at q
  exact q
/-- what is never reached -/
def sNever : IS := fun _ _ => .bad
theorem s_never : PS X st (TS_ F sNever) := PS.imp ps_never fun N σ H ⟨W, s, env, A, p⟩ => p
def sExpr (i : IE) : IS := fun env st => liftS (i env st) env fun _ s => .nx env s
theorem s_expr {i : IE} (he : PE X e (TI F i)) (hs : swapsWith e none pos.line X.env = pure false := by rfl) : PS X (.Expr e pos) (TS_ F (sExpr i)) := PS.imp (ps_expr he hs) fun N σ H h =>
  (TX.bindS (k := fun _ env s => .nx env s) h).mono fun x H1 ⟨W, s, env, a, A, r, p⟩ => by
    have q := PostS.nx p A.sim A.env
    rw [A.h] at q
    exact q
def sRet (i : IE) : IS := fun env st => liftS (i env st) env fun d s => .ret d s
theorem s_ret {i : IE} (he : PE X e (TI F i)) : PS X (.Return (some e) pos) (TS_ F (sRet i)) := PS.imp (ps_ret he) fun N σ H h =>
  (TX.bindS (k := fun d env s => .ret d s) h).mono fun x H1 ⟨W, s, env, a, A, r, p⟩ => by
    have q := p W.ρ W.H x Ext.refl A.sim r
    rw [A.h] at q
    exact q
def sRetN : IS := fun env st => .ret .non st
theorem s_retN : PS X (.Return none pos) (TS_ F sRetN) := PS.imp ps_retN fun N σ H ⟨W, s, env, A, p⟩ => by
  have q := p W.ρ W.H .non Ext.refl A.sim .non
  rw [A.h] at q
  exact q
def sIf (c : IT) (i j : IS) : IS := fun env st => liftS (c env st) env fun k s => if k = true then i env s else j env s
theorem s_if {c : Expr} {a b : List Stmt} {t : IT} {i j : IS} (hc : PT X c (TT_ F t)) (ha : PSs X a (TS_ F i)) (hb : PSs X b (TS_ F j)) : PS X (.If c a b pos) (TS_ F (sIf t i j)) := PS.imp (ps_if hc ha hb) fun N σ H h =>
  (TX.bindS (k := fun k env s => if k = true then i env s else j env s) h).mono fun x H1 ⟨W, s, env, a, A, r, p⟩ => by
    cases (show a = x from r)
    cases x with
    | true => exact ⟨W, s, env, A, p⟩
    | false => exact ⟨W, s, env, A, p⟩
/-! ### targets, assignments -/
def gVar (i : Nat) : IG := fun d env st => .ok (env.set i (some d)) st
theorem g_name {i : Nat} {x : Str} (hN : X.N.Nodup) (hi : X.N[i]? = some x) (hx : Loc X.env.scope x) (hf : X.fn x = true ∨ X.env.scope.names.lookup x = some .local := by first | exact .inl rfl | exact .inr rfl | assumption) : PG X (.Name x pos) (TG_ F (gVar i)) := by
  refine ⟨fun pins s σ H v u Q I r h => (pg_name (X := X) (pos := pos) hN hi hx hf).run pins s σ H v u Q I r ?_⟩
  obtain ⟨W, s, env, d, A, rv, p⟩ := h
  have q := p W.ρ W.H (σ.set i (some v)) Ext.refl A.sim (A.env.set rv i)
  rw [A.h] at q
  exact q
def sSet (i : Nat) (e : IE) : IS := fun env st => liftS (e env st) env fun d s => .nx (env.set i (some d)) s
theorem s_set {i : Nat} {x : Str} {j : IE} {pos' : Pos} (hN : X.N.Nodup) (hi : X.N[i]? = some x) (hx : Loc X.env.scope x) (he : PE X e (TI F j)) (hs : swapsWith e (some (.Name x pos')) pos.line X.env = pure false := by rfl) (hf : X.fn x = true ∨ X.env.scope.names.lookup x = some .local := by first | exact .inl rfl | exact .inr rfl | assumption) :
    PS X (.Assign [.Name x pos'] e pos) (TS_ F (sSet i j)) := PS.imp (ps_set hN hi hx he hs hf) fun N σ H h =>
  (TX.bindS (k := fun d env s => .nx (env.set i (some d)) s) h).mono fun v H1 ⟨W, s, env, a, A, r, p⟩ => by
    have q := PostS.nx p A.sim (A.env.set r i)
    rw [A.h] at q
    exact q
/-- x, y = a, b: both first -/
def sPar (i k : Nat) (a : IA) : IS := fun env st => liftS (a env st) env fun ds s => match ds with
  | [d, e] => .nx ((env.set i (some d)).set k (some e)) s
  | _ => .bad
theorem s_par {i j : Nat} {x y : Str} {a b : Expr} {ta : IA} {px py pt : Pos} {kt k2 pt2} (hc : X.calm = true) (hN : X.N.Nodup) (hi : X.N[i]? = some x) (hj : X.N[j]? = some y) (hij : i ≠ j)
    (hx : X.env.scope.names.lookup x = some .local) (hy : X.env.scope.names.lookup y = some .local) (ha : PA X [a, b] (TA_ F ta))
    (hw : swappedStores [.Tuple [.Name x px, .Name y py] kt pt] (.Tuple [a, b] k2 pt2) X.env = pure (some [x, y]))
    (hs : swapsWithSole [.Tuple [.Name x px, .Name y py] kt pt] (.Tuple [a, b] k2 pt2) pos.line X.env = pure false := by rfl) :
    PS X (.Assign [.Tuple [.Name x px, .Name y py] kt pt] (.Tuple [a, b] k2 pt2) pos) (TS_ F (sPar i j ta)) := PS.imp (ps_par hc hN hi hj hij hx hy ha hw hs) fun N σ H h =>
  (TX.bindS (k := fun ds env s => match ds with
  | [d, e] => .nx ((env.set i (some d)).set j (some e)) s
  | _ => .bad) h).mono fun vs H1 ⟨W, s, env, ds, A, r, p⟩ => by
    split at p
    · obtain ⟨v, u, rfl, r1, r2⟩ := rv2 r
      have q := PostS.nx p A.sim ((A.env.set r1 i).set r2 j)
      rw [A.h] at q
      exact ⟨v, u, rfl, q⟩
    · exact p.elim
/-- target = e -/
def sAsg (g : IG) (e : IE) : IS := fun env st => liftS (e env st) env fun d s => liftS (g d env s) env fun env' s' => .nx env' s'
theorem s_asg {tg : Expr} {g : IG} {j : IE} (he : PE X e (TI F j)) (hg : PG X tg (TG_ F g)) (hs : swapsWithSole [tg] e pos.line X.env = pure false := by rfl) (hw : swappedStores [tg] e X.env = pure none := by rfl)
    (h1 : (assignEach [tg] X.env).map (·.2) = [assign tg X.env] := by rfl) : PS X (.Assign [tg] e pos) (TS_ F (sAsg g j)) := PS.imp (ps_asg he hg hs hw h1) fun N σ H h =>
  (TX.bindS (k := fun d env s => liftS (g d env s) env fun env' s' => .nx env' s') h).mono fun v H1 ⟨W, s, env, a, A, r, p⟩ => by
    refine ⟨W, s, env, a, A, r, ?_⟩
    have p' : PostS W (liftS (g a env s) env fun env' s' => .nx env' s') N F.E := p
    cases q : g a env s with
    | ok e2 s2 => rw [q] at p'; exact p'
    | exc C fs s2 =>
      rw [q] at p'
      exact fun ρ' H' d x S z => p' ρ' H' σ d x S (A.env.mono x) z
    | bad => rw [q] at p'; exact p'
/-! ### targets that are tuples -/
abbrev IGs := List D → Env → Sto → R Env
def TGs_ (F : Fx) (g : IGs) : TGs := fun vs σ H Q => ∃ W st env ds, At F W st env σ H ∧ RVs W ds vs ∧ Post W PE_ (g ds env st) Q (F.at_ σ)
def gsNil : IGs := fun ds env st => match ds with
  | [] => .ok env st
  | _ => .bad
def gsVar (i : Nat) (r : IGs) : IGs := fun ds env st => match ds with
  | d :: ds => r ds (env.set i (some d)) st
  | _ => .bad
end
/-- the wish does not look at the slots (no try around in this frame) -/
def Fx.flat (F : Fx) : Prop := ∀ c d σ σ' H, F.E c d σ H → F.E c d σ' H
section
variable {X : Cx} {F : Fx} {pos : Pos}
theorem gs_nil : PGs X [] (TGs_ F gsNil) := by
  refine ⟨fun pins s σ H vs us Q I r h => (pgs_nil (X := X)).run pins s σ H vs us Q I r ?_⟩
  obtain ⟨W, s, env, ds, A, rv, p⟩ := h
  unfold gsNil at p
  split at p
  · cases rv
    have q := p W.ρ W.H σ Ext.refl A.sim A.env
    rw [A.h] at q
    exact ⟨rfl, q⟩
  · exact p.elim
theorem gs_name {i : Nat} {x : Str} {es : List Expr} {g : IGs} (hN : X.N.Nodup) (hi : X.N[i]? = some x) (hx : Loc X.env.scope x) (h2 : PGs X es (TGs_ F g)) (ne : ∀ ds env st C fs s, g ds env st ≠ .exc C fs s)
    (hs : (assignEach (.Name x pos :: es) X.env).map (·.2) = assign (.Name x pos) X.env :: (assignEach es X.env).map (·.2) := by rfl) (hf : X.fn x = true ∨ X.env.scope.names.lookup x = some .local := by first | exact .inl rfl | exact .inr rfl | assumption) :
    PGs X (.Name x pos :: es) (TGs_ F (gsVar i g)) := by
  refine ⟨fun pins s σ H vs us Q I r h => (pgs_cons (X := X) (pg_name (pos := pos) hN hi hx hf) h2 hs).run pins s σ H vs us Q I r ?_⟩
  obtain ⟨W, s, env, ds, A, rv, p⟩ := h
  unfold gsVar at p
  split at p
  · rename_i d ds
    cases rv with
    | cons h1 h3 =>
      refine ⟨_, _, rfl, W, s, env.set i (some d), ds, ⟨A.k, A.g, A.h, A.sim, A.env.set h1 i⟩, h3, ?_⟩
      cases q : g ds (env.set i (some d)) s with
      | ok e2 s2 => rw [q] at p; exact p
      | exc C fs s2 => exact absurd q (ne _ _ _ _ _ _)
      | bad => rw [q] at p; exact p
  · exact p.elim
theorem gsNil_ne : ∀ ds env st C fs s, gsNil ds env st ≠ .exc C fs s := fun ds env st C fs s h => by
  unfold gsNil at h
  split at h <;> cases h
theorem gsVar_ne {i : Nat} {g : IGs} (ne : ∀ ds env st C fs s, g ds env st ≠ .exc C fs s) : ∀ ds env st C fs s, gsVar i g ds env st ≠ .exc C fs s := fun ds env st C fs s h => by
  unfold gsVar at h
  split at h
  · exact ne _ _ _ _ _ _ h
  · cases h
/-- (a, b, ..) = a tuple of n -/
def gTup' (n : Nat) (g : IGs) : IG := fun d env st => match d with
  | .tup xs => if xs.length = n then g xs env st else .bad
  | _ => .bad
theorem g_tup {es : List Expr} {k n : Nat} {g : IGs} (hk : X.K = F.K) (hc : X.calm = true) (h : PGs X es (TGs_ F g))
    (hn : (assignEach es X.env).length = n := by rfl) (hst : (assignEach es X.env).findIdx? (·.1) = none := by rfl) : PG X (.Tuple es k pos) (TG_ F (gTup' n g)) := by
  refine ⟨fun pins s σ H v u Q I r hw => (pg_tup (X := X) (k := k) (pos := pos) hc h hn hst).run pins s σ H v u Q I r ?_⟩
  obtain ⟨W, s, env, d, A, rv, p⟩ := hw
  unfold gTup' at p
  split at p
  · rename_i xs
    split at p
    · rename_i c
      obtain ⟨a, ys, rfl, hs, ry⟩ := tup_at rv
      rw [A.k, ← hk, A.h] at hs
      exact ⟨a, ys, rfl, hs, by rw [← ry.length]; exact c, W, s, env, xs, A, ry, p⟩
    · exact p.elim
  · exact p.elim
/-! ### while -/
def kWhile (b : IS) (again : IS) : RS → RS
  | .nx env st => again env st
  | .ct env st => again env st
  | .bk env st => .nx env st
  | r => r
def sWhileN (c : IT) (b : IS) : Nat → IS
  | 0 => fun _ _ => .bad
  | n + 1 => fun env st => liftS (c env st) env fun k s => if k = true then kWhile b (sWhileN c b n) (b env s) else .nx env s
/-- while, with a bound of the turns read off the state at its start -/
def sWhile (m : Env → Sto → Nat) (c : IT) (b : IS) : IS := fun env st => sWhileN c b (m env st) env st
theorem s_while {m : Env → Sto → Nat} {c : Expr} {body : List Stmt} {t : IT} {b : IS} (hp : PassesOwn (model X.prog X.w) X.A X.env X.xe) (hc : PT X c (TT_ F t)) (hb : PSs X body (TS_ F b)) : PS X (.While c body [] pos) (TS_ F (sWhile m t b)) := by
  refine PS.imp (ps_while hp hc hb) fun N σ H ⟨W, s, env, A, p⟩ => ?_
  refine ⟨fun n σ H => TS_ F (sWhileN t b n) N σ H, ⟨m env s, W, s, env, A, p⟩, fun n σ H h => ?_⟩
  cases n with
  | zero =>
    obtain ⟨W, s, env, A, p⟩ := h
    exact p.elim
  | succ n =>
    refine (TX.bindS (k := fun k env s => if k = true then kWhile b (sWhileN t b n) (b env s) else .nx env s) h).mono fun x H1 ⟨W, s, env, a, A, r, p⟩ => ?_
    cases (show a = x from r)
    cases x with
    | false =>
      have q := PostS.nx p A.sim A.env
      rw [A.h] at q
      exact q
    | true =>
      rw [if_pos rfl]
      refine ⟨TS_ F (sWhileN t b n) N, fun σ' H' h => ⟨n, Nat.lt_succ_self n, h⟩, W, s, env, A, ?_⟩
      have p' : PostS W (kWhile b (sWhileN t b n) (b env s)) N F.E := p
      cases q : b env s with
      | nx e2 s2 => rw [q] at p'; exact fun ρ' H' σ' x S z => ⟨W.to ρ' H', s2, e2, ⟨A.k, A.g, rfl, S, z⟩, PostS.ext x p'⟩
      | ct e2 s2 => rw [q] at p'; exact fun ρ' H' σ' x S z => ⟨W.to ρ' H', s2, e2, ⟨A.k, A.g, rfl, S, z⟩, PostS.ext x p'⟩
      | bk e2 s2 => rw [q] at p'; exact p'
      | ret d s2 => rw [q] at p'; exact p'
      | exc C fs e2 s2 => rw [q] at p'; exact p'
      | bad => rw [q] at p'; exact p'
/-! ### for -/
/-- a later view, of which new things may be out of reach -/
structure VX (W V : Vw) : Prop where
  k : V.K = W.K
  g : V.g = W.g
  x : Ext W V.ρ V.H
  z : ∀ a, V.Z a → W.Z a ∨ W.H a = none
theorem VX.of {W : Vw} {ρ' : List Addr} {H' : Hp} (x : Ext W ρ' H') : VX W (W.to ρ' H') := ⟨rfl, rfl, x, fun _ h => .inl h⟩
section
variable {W V : Vw}
theorem VX.fro (x : VX W V) {a : Addr} {o : HO} (h : W.H a = some o) (f : W.fro a) : V.fro a := ⟨x.x.notin h f.1, fun z => (x.z a z).elim f.2 fun e => by rw [h] at e; cases e⟩
theorem Vw.Tup.vx (x : VX W V) {a : Addr} {ys : List L2.V} (h : W.Tup a ys) : V.Tup a ys := by
  rcases h with ⟨h, f⟩ | h
  · exact .inl ⟨x.x.keep _ _ h f.1, x.fro h f⟩
  · exact .inr (by rw [x.k]; exact h)
theorem Vw.Lst.vx (x : VX W V) {a : Addr} {ys : List L2.V} (h : W.Lst a ys) : V.Lst a ys := by
  rcases h with ⟨h | ⟨o, h⟩, f⟩ | h
  · exact .inl ⟨.inl (x.x.keep _ _ h f.1), x.fro h f⟩
  · exact .inl ⟨.inr ⟨o, x.x.keep _ _ h f.1⟩, x.fro h f⟩
  · exact .inr (by rw [x.k]; exact h)
mutual
theorem RV.vx (x : VX W V) : ∀ {d : D} {v : L2.V}, RV W d v → RV V d v
  | _, _, .non => .non
  | _, _, .bl b => .bl b
  | _, _, .int i => .int i
  | _, _, .str s => .str s
  | _, _, .ty n => .ty n
  | _, _, .glo s => by rw [← x.g]; exact .glo s
  | _, _, .tup h r => .tup (h.vx x) (r.vx x)
  | _, _, .lst h r => .lst (h.vx x) (r.vx x)
  | _, _, .dct h f e r => .dct (x.x.keep _ _ h f.1) (x.fro h f) e (r.vx x)
  | _, _, .obj h f r => .obj (by rw [x.g]; exact x.x.keep _ _ h f.1) (x.fro h f) (r.vx x)
  | _, _, .exc h f a b r => .exc (by rw [x.g]; exact x.x.keep _ _ h f.1) (x.fro h f) a (fun dx e => ⟨x.x.keep _ _ (b dx e).1 (b dx e).2.1, x.fro (b dx e).1 (b dx e).2⟩) (r.vx x)
  | _, _, .ref h => .ref (pre_get x.x.pre h)
theorem RVs.vx (x : VX W V) : ∀ {d : List D} {v : List L2.V}, RVs W d v → RVs V d v
  | _, _, .nil => .nil
  | _, _, .cons h r => .cons (h.vx x) (r.vx x)
theorem RFs.vx (x : VX W V) : ∀ {d : List (Str × D)} {v : List (Str × L2.V)}, RFs W d v → RFs V d v
  | _, _, .nil => .nil
  | _, _, .cons h r => .cons (h.vx x) (r.vx x)
end
end
/-- what a loop walks: at the turn i, the store as it is: stuck, the end, an item -/
abbrev Nx := Nat → Sto → Option (Option D)
structure ItOk (W : Vw) (a : Nx × Nat) (J : It) : Prop where
  go : ∀ V st i d, VX W V → Sim V st → a.1 i st = some (some d) → J.go i V.H ∧ ∀ x H2, J.yld i V.H x H2 → Ext V V.ρ H2 ∧ Sim (V.to V.ρ H2) st ∧ RV (V.to V.ρ H2) d x
  stop : ∀ V st i, VX W V → Sim V st → a.1 i st = some none → J.stop i V.H
abbrev IW := Env → Sto → R (Nx × Nat)
abbrev TW (F : Fx) (i : IW) : L2.TI := fun σ H Q => TX ItOk F i σ H Q
def forL (nx : Nx) (g : IG) (b : IS) : Nat → Nat → IS
  | 0, i => fun env st => match nx i st with
    | some none => .nx env st
    | _ => .bad
  | m + 1, i => fun env st => match nx i st with
    | some none => .nx env st
    | some (some d) => liftS (g d env st) env fun env1 s1 => kWhile b (forL nx g b m (i + 1)) (b env1 s1)
    | none => .bad
def sFor (w : IW) (g : IG) (b : IS) : IS := fun env st => liftS (w env st) env fun a s => forL a.1 g b a.2 0 env s
theorem s_for {tg iter : Expr} {body : List Stmt} {w : IW} {g : IG} {b : IS} (hp : PassesOwn (model X.prog X.w) X.A X.env X.xe) (hc : X.calm = true) (hi : PI X tg iter (TW F w)) (hg : PG X tg (TG_ F g)) (hb : PSs X body (TS_ F b))
    (hs : ∀ x, foldedSetIterable iter X.env x = pure x := by intro _; rfl) : PS X (.For tg iter body [] pos) (TS_ F (sFor w g b)) := by
  refine PS.imp (ps_for hp hc hi hg hb hs) fun N σ H h => ?_
  refine (TX.bindS (k := fun a env s => forL a.1 g b a.2 0 env s) h).mono fun J H1 ⟨W0, s, env, a, A, r, p⟩ => ?_
  obtain ⟨nx, m⟩ := a
  refine ⟨fun i m σ H => ∃ ρ' st env, At F (W0.to ρ' H) st env σ H ∧ Ext W0 ρ' H ∧ PostS (W0.to ρ' H) (forL nx g b m i env st) N F.E, ⟨m, W0.ρ, s, env, ?_⟩, fun i m σ H ⟨ρ', st, env, A, x, p⟩ => ?_⟩
  · have eH := A.h
    subst eH
    exact ⟨A, Ext.refl, p⟩
  · have S := A.sim
    have p' : PostS (W0.to ρ' H) (forL nx g b m i env st) N F.E := p
    cases m with
    | zero =>
      unfold forL at p'
      split at p'
      · rename_i e
        exact .inl ⟨r.stop (W0.to ρ' H) st i (.of x) S e, PostS.nx p' S A.env⟩
      · exact p'.elim
    | succ m =>
    unfold forL at p'
    split at p'
    · rename_i e
      exact .inl ⟨r.stop (W0.to ρ' H) st i (.of x) S e, PostS.nx p' S A.env⟩
    · rename_i d e
      obtain ⟨h1, h2⟩ := r.go (W0.to ρ' H) st i d (.of x) S e
      refine .inr ⟨h1, fun σ' H' => ∃ ρ' st env, At F (W0.to ρ' H') st env σ' H' ∧ Ext W0 ρ' H' ∧ PostS (W0.to ρ' H') (forL nx g b m (i + 1) env st) N F.E, fun σ' H' h => ⟨m, Nat.lt_succ_self m, h⟩, fun v H2 hy => ?_⟩
      obtain ⟨x2, S2, rv⟩ := h2 v H2 hy
      refine ⟨W0.to ρ' H2, st, env, d, ⟨A.k, A.g, rfl, S2, A.env.mono x2⟩, rv, ?_⟩
      have p2 := PostS.ext x2 p'
      have xx : Ext W0 ρ' H2 := x.trans x2
      cases q : g d env st with
      | bad => rw [q] at p2; exact p2
      | exc C fs s2 =>
        rw [q] at p2
        exact fun ρ3 H3 d x S z => p2 ρ3 H3 σ d x S ((A.env.mono x2).mono x) z
      | ok e2 s2 =>
        rw [q] at p2
        intro ρ3 H3 σ3 x3 S3 z3
        refine ⟨W0.to ρ3 H3, s2, e2, ⟨A.k, A.g, rfl, S3, z3⟩, ?_⟩
        have p3 : PostS (W0.to ρ3 H3) (kWhile b (forL nx g b m (i + 1)) (b e2 s2)) N F.E := PostS.ext (W := W0.to ρ' H2) x3 p2
        have x4 : Ext W0 ρ3 H3 := xx.trans x3
        cases q : b e2 s2 with
        | nx e3 s3 => rw [q] at p3; exact fun ρ5 H5 σ5 x5 S5 z => ⟨ρ5, s3, e3, ⟨A.k, A.g, rfl, S5, z⟩, x4.trans x5, PostS.ext (W := W0.to ρ3 H3) x5 p3⟩
        | ct e3 s3 => rw [q] at p3; exact fun ρ5 H5 σ5 x5 S5 z => ⟨ρ5, s3, e3, ⟨A.k, A.g, rfl, S5, z⟩, x4.trans x5, PostS.ext (W := W0.to ρ3 H3) x5 p3⟩
        | bk e3 s3 => rw [q] at p3; exact p3
        | ret d s3 => rw [q] at p3; exact p3
        | exc C fs e3 s3 => rw [q] at p3; exact p3
        | bad => rw [q] at p3; exact p3
    · exact p'.elim
/-! ### what is walked -/
def nxL (xs : List D) : Nx := fun i _ => some xs[i]?
def nxM (n : Nat) : Nx := fun i st => (lstAt st n).map fun xs => xs[i]?
def kSeqW (d : D) (s : Sto) : R (Nx × Nat) := match d with
  | .lst xs => .ok (nxL xs, xs.length) s
  | .ref n => match lstAt s n with
    | some xs => .ok (nxM n, xs.length) s
    | none => .bad
  | _ => .bad
def kTupW (d : D) (s : Sto) : R (Nx × Nat) := match d with
  | .tup xs => .ok (nxL xs, xs.length) s
  | _ => .bad
def wSeq (i : IE) : IW := fun env st => (i env st).bind kSeqW
def wTup (i : IE) : IW := fun env st => (i env st).bind kTupW
theorem PI.imp {tg e : Expr} {t t' : L2.TI} (h : PI X tg e t) (w : ∀ σ H Q, t' σ H Q → t σ H Q) : PI X tg e t' := ⟨fun p s σ H Q I q => h.run p s σ H Q I (w σ H Q q)⟩
theorem itok_tup {W : Vw} {a : Addr} {xs : List D} {ys : List V} {m : Nat} (t : W.Tup a ys) (r : RVs W xs ys) : ItOk W (nxL xs, m) (Itt W.K a) where
  go := fun V st i d x S e => by
    have e' : xs[i]? = some d := Option.some.inj e
    have t' := (t.vx x).sq
    have r' := r.vx x
    rw [x.k] at t'
    obtain ⟨v, hv, rv⟩ := r'.get e'
    refine ⟨⟨ys, v, t', hv⟩, fun y H2 ⟨e2, f⟩ => ?_⟩
    subst e2
    have q := f ys t'
    rw [hv] at q
    cases q
    exact ⟨Ext.refl, S, rv⟩
  stop := fun V st i x S e => by
    have e' : xs[i]? = none := Option.some.inj e
    refine ⟨ys, by rw [← x.k]; exact (t.vx x).sq, ?_⟩
    rw [← r.length]
    exact List.getElem?_eq_none_iff.mp e'
theorem itok_lst {W : Vw} {a : Addr} {xs : List D} {ys : List V} {m : Nat} (t : W.Lst a ys) (r : RVs W xs ys) : ItOk W (nxL xs, m) (Itl W.K a) where
  go := fun V st i d x S e => by
    have e' : xs[i]? = some d := Option.some.inj e
    have t' := (t.vx x).sq
    have r' := r.vx x
    rw [x.k] at t'
    obtain ⟨v, hv, rv⟩ := r'.get e'
    refine ⟨⟨ys, v, t', hv⟩, fun y H2 ⟨e2, f⟩ => ?_⟩
    subst e2
    have q := f ys t'
    rw [hv] at q
    cases q
    exact ⟨Ext.refl, S, rv⟩
  stop := fun V st i x S e => by
    have e' : xs[i]? = none := Option.some.inj e
    refine ⟨ys, by rw [← x.k]; exact (t.vx x).sq, ?_⟩
    rw [← r.length]
    exact List.getElem?_eq_none_iff.mp e'
theorem itok_ref {W : Vw} {a : Addr} {n m : Nat} (h : W.ρ[n]? = some a) : ItOk W (nxM n, m) (Itl W.K a) where
  go := fun V st i d x S e => by
    obtain ⟨xs, hx, e'⟩ := Option.map_eq_some_iff.mp (show (lstAt st n).map (fun xs => xs[i]?) = some (some d) from e)
    obtain ⟨ys, h1, r1⟩ := S.at_ n _ a (lstAt_eq hx) (pre_get x.x.pre h)
    obtain ⟨v, hv, rv⟩ := r1.get e'
    refine ⟨⟨ys, v, .inl (.inl h1), hv⟩, fun y H2 ⟨e2, f⟩ => ?_⟩
    subst e2
    have q := f ys (.inl (.inl h1))
    rw [hv] at q
    cases q
    exact ⟨Ext.refl, S, rv⟩
  stop := fun V st i x S e => by
    obtain ⟨xs, hx, e'⟩ := Option.map_eq_some_iff.mp (show (lstAt st n).map (fun xs => xs[i]?) = some none from e)
    obtain ⟨ys, h1, r1⟩ := S.at_ n _ a (lstAt_eq hx) (pre_get x.x.pre h)
    exact ⟨ys, .inl (.inl h1), by rw [← r1.length]; exact List.getElem?_eq_none_iff.mp e'⟩
theorem w_tup {tg l : Expr} {i : IE} (hk : X.K = F.K) (hl : PE X l (TI F i)) : PI X tg l (TW F (wTup i)) := PI.imp (pi_tup hl) fun σ H Q h =>
  (TX.bind (k := fun d env s => kTupW d s) h).mono fun x H1 ⟨W, s, env, d, A, r, p⟩ => by
    have p' : Post W ItOk (kTupW d s) Q (F.at_ σ) := p
    unfold kTupW at p'
    split at p'
    · rename_i xs
      cases r with
      | tup t r =>
        have q := p' W.ρ W.H _ Ext.refl A.sim (itok_tup t r)
        have t' := t.sq
        rw [A.k, ← hk] at q t'
        rw [A.h] at q t'
        exact ⟨_, rfl, ⟨_, t'⟩, q⟩
    · exact p'.elim
theorem w_seq {tg l : Expr} {i : IE} (hk : X.K = F.K) (hl : PE X l (TI F i)) : PI X tg l (TW F (wSeq i)) := PI.imp (pi_list hl) fun σ H Q h =>
  (TX.bind (k := fun d env s => kSeqW d s) h).mono fun x H1 ⟨W, s, env, d, A, r, p⟩ => by
    have p' : Post W ItOk (kSeqW d s) Q (F.at_ σ) := p
    unfold kSeqW at p'
    split at p'
    · rename_i xs
      cases r with
      | lst t r =>
        have q := p' W.ρ W.H _ Ext.refl A.sim (itok_lst t r)
        have t' := t.sq
        rw [A.k, ← hk] at q t'
        rw [A.h] at q t'
        exact ⟨_, rfl, ⟨_, t'⟩, q⟩
    · rename_i n
      cases e : lstAt s n with
      | none => rw [e] at p'; exact p'.elim
      | some xs =>
        rw [e] at p'
        cases r with
        | ref h =>
          have q := p' W.ρ W.H _ Ext.refl A.sim (itok_ref h)
          obtain ⟨ys, h1, r1⟩ := A.sim.at_ n _ _ (lstAt_eq e) h
          rw [A.k, ← hk] at q
          rw [A.h] at q h1
          exact ⟨_, rfl, ⟨ys, .inl (.inl h1)⟩, q⟩
    · exact p'.elim
def nxR (lo : Int) (n : Nat) : Nx := fun i _ => if i < n then some (some (.int (lo + i))) else some none
theorem itok_rng {W : Vw} {lo : Int} {n m : Nat} : ItOk W (nxR lo n, m) (Itr lo n) where
  go := fun V st i d x S e => by
    have e' : (if i < n then some (some (D.int (lo + i))) else some none) = some (some d) := e
    split at e'
    · rename_i c
      cases e'
      exact ⟨c, fun y H2 ⟨e2, f⟩ => by subst e2; subst f; exact ⟨Ext.refl, S, .int _⟩⟩
    · cases e'
  stop := fun V st i x S e => by
    have e' : (if i < n then some (some (D.int (lo + i))) else some none) = some none := e
    split at e'
    · cases e'
    · rename_i c
      exact Nat.not_lt.mp c
def kRng1 (ds : List D) (s : Sto) : R (Nx × Nat) := match ds with
  | [.int j] => if -(2 ^ 62) ≤ j ∧ j < 2 ^ 62 then .ok (nxR 0 j.toNat, j.toNat) s else .bad
  | _ => .bad
def kRng2 (ds : List D) (s : Sto) : R (Nx × Nat) := match ds with
  | [.int i, .int j] => if -(2 ^ 62) ≤ i ∧ i < 2 ^ 62 ∧ -(2 ^ 62) ≤ j ∧ j < 2 ^ 62 then .ok (nxR i (j - i).toNat, (j - i).toNat) s else .bad
  | _ => .bad
def wRng1 (i : IA) : IW := fun env st => (i env st).bind kRng1
def wRng2 (i : IA) : IW := fun env st => (i env st).bind kRng2
theorem w_rng1 {tg a : Expr} {p pos : Pos} {i : IA} (hg : Gl X "range") (hm : X.mg "range" = none) (ha : PA X [a] (TA_ F i)) (hs : starEach [a] X.env = [(false, eval a X.env)] := by rfl) : PI X tg (.Call (.Name "range" p) [a] [] pos) (TW F (wRng1 i)) := PI.imp (pi_range1 hg hm ha hs) fun σ H Q h =>
  (TX.bind (k := fun d env s => kRng1 d s) h).mono fun x H1 ⟨W, s, env, d, A, r, p⟩ => by
    have p' : Post W ItOk (kRng1 d s) Q (F.at_ σ) := p
    unfold kRng1 at p'
    split at p'
    · split at p'
      · rename_i c
        obtain ⟨v, rfl, rv⟩ := rv1 r
        cases rv
        have q := p' W.ρ W.H _ Ext.refl A.sim itok_rng
        rw [A.h] at q
        exact ⟨_, rfl, c.1, c.2, q⟩
      · exact p'.elim
    · exact p'.elim
theorem w_rng2 {tg a b : Expr} {p pos : Pos} {i : IA} (hg : Gl X "range") (hm : X.mg "range" = none) (ha : PA X [a, b] (TA_ F i)) (hs : starEach [a, b] X.env = [(false, eval a X.env), (false, eval b X.env)] := by rfl) (hs2 : starEach [b] X.env = [(false, eval b X.env)] := by rfl) :
    PI X tg (.Call (.Name "range" p) [a, b] [] pos) (TW F (wRng2 i)) := PI.imp (pi_range2 hg hm ha hs hs2) fun σ H Q h =>
  (TX.bind (k := fun d env s => kRng2 d s) h).mono fun x H1 ⟨W, s, env, d, A, r, p⟩ => by
    have p' : Post W ItOk (kRng2 d s) Q (F.at_ σ) := p
    unfold kRng2 at p'
    split at p'
    · split at p'
      · rename_i c
        obtain ⟨v, u, rfl, rv, ru⟩ := rv2 r
        cases rv
        cases ru
        have q := p' W.ρ W.H _ Ext.refl A.sim itok_rng
        rw [A.h] at q
        exact ⟨_, _, rfl, c, q⟩
      · exact p'.elim
    · exact p'.elim
end
end M
/-! M6: list comprehensions. -/
namespace M
open PySem PySem.Spec PyProof.Rows L2

/-- an error in a comprehension is not carried -/
def R.nox {α : Type} : R α → R α
  | .exc _ _ _ => .bad
  | r => r
abbrev Fx.quiet (F : Fx) : Fx := { F with E := fun _ _ _ _ => False }
/-- a target of a comprehension: one slot, or a tuple of slots -/
inductive Pat where
  | one (i : Nat)
  | tup (is : List Nat)
def Pat.slots : Pat → List Nat
  | .one i => [i]
  | .tup is => is
def setAll : List Nat → List D → Env → Option Env
  | [], [], env => some env
  | i :: is, d :: ds, env => setAll is ds (env.set i (some d))
  | _, _, _ => none
def Pat.bind : Pat → D → Env → Option Env
  | .one i, d, env => some (env.set i (some d))
  | .tup is, .tup xs, env => setAll is xs env
  | _, _, _ => none
def wipeE (env : Env) : List Nat → Env
  | [] => env
  | v :: vs => (wipeE env vs).set v none
def compApp (n : Nat) (v : D) (s : Sto) (k : Sto → R Unit) : R Unit := match lstAt s n with
  | some acc => if acc.length < sizeLine then k (s.set n (.lst (acc ++ [v]))) else .bad
  | none => .bad
def compL (nx : Nx) (p : Pat) (t : IT) (e : IE) (env0 : Env) (n : Nat) : Nat → Nat → Sto → R Unit
  | 0, i => fun st => match nx i st with
    | some none => .ok () st
    | _ => .bad
  | m + 1, i => fun st => match nx i st with
    | some none => .ok () st
    | some (some d) => match p.bind d env0 with
      | some env => ((t env st).nox).bind fun k s1 => if k = true then ((e env s1).nox).bind fun v s2 => compApp n v s2 (compL nx p t e env0 n m (i + 1)) else compL nx p t e env0 n m (i + 1) s1
      | none => .bad
    | none => .bad
def iComp (w : IW) (p : Pat) (t : IT) (e : IE) : IE := fun env st => (w env st).bind fun a s => (compL a.1 p t e (wipeE env p.slots) s.length a.2 0 (s ++ [.lst []])).bind fun _ s2 => .ok (.ref s.length) s2
def tYes' : IT := fun _ st => .ok true st

theorem wipeE_len (env : Env) : ∀ vs : List Nat, (wipeE env vs).length = env.length
  | [] => rfl
  | v :: vs => by unfold wipeE; rw [List.length_set, wipeE_len env vs]
theorem EnvR.clear {W : Vw} {env : Env} {σ : L2.St} (h : EnvR W env σ) (i : Nat) : EnvR W (env.set i none) (σ.set i none) := by
  refine ⟨by simp [h.len], fun j e q => ?_⟩
  by_cases hj : j = i
  · subst hj
    by_cases hl : j < env.length
    · rw [List.getElem?_set_self hl] at q; cases q
    · rw [List.getElem?_eq_none (by simpa using hl)] at q; cases q
  · rw [List.getElem?_set_ne (Ne.symm hj)] at q
    obtain ⟨u, e1, r1⟩ := h.at_ j e q
    exact ⟨u, by rw [List.getElem?_set_ne (Ne.symm hj)]; exact e1, r1⟩
theorem EnvR.wipe {W : Vw} {env : Env} {σ : L2.St} (h : EnvR W env σ) : ∀ vs : List Nat, EnvR W (wipeE env vs) (L2.wipe σ vs)
  | [] => h
  | v :: vs => (h.wipe vs).clear v
theorem wipe_set {i : Nat} {x : Option V} : ∀ {vs : List Nat} {σ : L2.St}, i ∈ vs → L2.wipe (σ.set i x) vs = L2.wipe σ vs
  | v :: vs, σ, h => by
    unfold L2.wipe
    by_cases hi : i ∈ vs
    · rw [wipe_set hi]
    · have e : i = v := by
        rcases List.mem_cons.mp h with e | e
        · exact e
        · exact absurd e hi
      subst e
      have aux : ∀ {vs : List Nat} {σ : L2.St}, i ∉ vs → L2.wipe (σ.set i x) vs = (L2.wipe σ vs).set i x := by
        intro vs
        induction vs with
        | nil => intro σ _; rfl
        | cons u us ih =>
          intro σ hn
          have h1 : i ≠ u := fun e => hn (by simp [e])
          have h2 : i ∉ us := fun e => hn (by simp [e])
          unfold L2.wipe
          rw [ih h2, List.set_comm _ _ h1]
      rw [aux hi, List.set_set]
theorem wipe_wipe (σ : L2.St) : ∀ vs : List Nat, L2.wipe (L2.wipe σ vs) vs = L2.wipe σ vs := by
  have aux : ∀ (us vs : List Nat), (∀ i ∈ us, i ∈ vs) → L2.wipe (L2.wipe σ us) vs = L2.wipe σ vs := by
    intro us vs
    induction us with
    | nil => intro _; rfl
    | cons u us ih =>
      intro h
      rw [show L2.wipe σ (u :: us) = (L2.wipe σ us).set u none from rfl, wipe_set (h u (by simp)), ih fun i hi => h i (by simp [hi])]
  exact fun vs => aux vs vs fun _ h => h

section
variable {X : Cx} {F : Fx} {pos : Pos}
/-- how a target's reading stands for a pattern -/
structure PatOk (K : PySem.W.Frag) (p : Pat) (g : TG) : Prop where
  go : ∀ (W : Vw) (d : D) (v : V) (env env' : Env) (σ : L2.St) (Q : L2.St → Hp → Prop), W.K = K → RV W d v → EnvR W env σ → p.bind d env = some env' → (∀ σ', EnvR W env' σ' → L2.wipe σ' p.slots = L2.wipe σ p.slots → Q σ' W.H) → g v σ W.H Q
theorem patOk_one {K : PySem.W.Frag} {i : Nat} : PatOk K (.one i) (gName i) := ⟨fun W d v env env' σ Q _ r e b h => by
  cases b
  exact h _ (e.set r i) (wipe_set (by simp [Pat.slots]))⟩
def gsOf : List Nat → TGs
  | [] => gNil
  | i :: is => gCons (gName i) (gsOf is)
theorem gsOf_ok {W : Vw} {Q : L2.St → Hp → Prop} {sl : List Nat} : ∀ {is : List Nat} {ds : List D} {vs : List V} {env env' : Env} {σ : L2.St}, (∀ i ∈ is, i ∈ sl) → RVs W ds vs → EnvR W env σ → setAll is ds env = some env' → (∀ σ', EnvR W env' σ' → L2.wipe σ' sl = L2.wipe σ sl → Q σ' W.H) → gsOf is vs σ W.H Q
  | [], _, _, _, _, _, _, .nil, e, b, h => by cases b; exact ⟨rfl, h _ e rfl⟩
  | [], _, _, _, _, _, _, .cons _ _, e, b, h => by cases b
  | _ :: _, _, _, _, _, _, _, .nil, e, b, h => by cases b
  | i :: is, _, _, _, _, _, hs, .cons h1 r, e, b, h =>
    ⟨_, _, rfl, gsOf_ok (fun j hj => hs j (by simp [hj])) r (e.set h1 i) b fun σ' e' w => h σ' e' (by rw [w, wipe_set (hs i (by simp))])⟩
theorem patOk_tup {K : PySem.W.Frag} {is : List Nat} {n : Nat} (hn : is.length = n) : PatOk K (.tup is) (gTup K n (gsOf is)) := ⟨fun W d v env env' σ Q hk r e b h => by
  cases d with
  | tup xs =>
    obtain ⟨a, ys, rfl, t, ry⟩ := tup_at r
    have len : ∀ {is : List Nat} {ds : List D} {env env' : Env}, setAll is ds env = some env' → ds.length = is.length := by
      intro is
      induction is with
      | nil => intro ds env env' h; cases ds <;> first | rfl | cases h
      | cons i is ih => intro ds env env' h; cases ds with
        | nil => cases h
        | cons d ds => rw [List.length_cons, List.length_cons, ih h]
    rw [hk] at t
    exact ⟨a, ys, rfl, t, by rw [← ry.length, len b, hn], gsOf_ok (fun _ h => h) ry e b h⟩
  | _ => cases b⟩
def PU (_ : Vw) (_ _ : Unit) : Prop := True
/-- a turn's pieces -/
theorem comp_ok {w : IW} {p : Pat} {t : IT} {e : IE} {g : TG} {σ : L2.St} {H : Hp} {Q : VK} (hp : PatOk F.K p g) (h : TI F (iComp w p t e) σ H Q) : tLc (TW F w) g (TT_ F.quiet t) (TI F.quiet e) p.slots σ H Q := by
  refine (TX.bind (k := fun a env s => (compL a.1 p t e (wipeE env p.slots) s.length a.2 0 (s ++ [.lst []])).bind fun _ s2 => R.ok (D.ref s.length) s2) h).mono fun J H1 ⟨W0, s, env, a, A, r, q⟩ => ?_
  obtain ⟨nx, m⟩ := a
  intro D hD
  have eH := A.h
  subst eH
  have S0 := A.sim
  have x1 : Ext W0 (W0.ρ ++ [D]) (upd W0.H D (.lst [])) := ext_new [D] (fun a m => by rw [List.mem_singleton.mp m]; exact hD) hD
  have S1 : Sim (W0.to (W0.ρ ++ [D]) (upd W0.H D (.lst []))) (s ++ [.lst []]) := S0.new hD (lst_or hD .nil)
  generalize hW : W0.to (W0.ρ ++ [D]) (upd W0.H D (.lst [])) = W1 at S1
  have hH1 : W1.H = upd W0.H D (.lst []) := by rw [← hW]
  have hg1 : W1.g = W0.g := by rw [← hW]
  have hK1 : W1.K = W0.K := by rw [← hW]
  have hn : W1.ρ[s.length]? = some D := by
    rw [← hW]
    show (W0.ρ ++ [D])[s.length]? = some D
    rw [List.getElem?_append_right (by rw [S0.len]; omega), S0.len]
    simp
  have toW : ∀ ρ' H', Ext W1 ρ' H' → Ext W0 ρ' H' := fun ρ' H' x => by subst hW; exact x1.trans x
  have eqW : ∀ ρ' H', W1.to ρ' H' = W0.to ρ' H' := fun ρ' H' => by subst hW; rfl
  have q1 : Post W1 PU (compL nx p t e (wipeE env p.slots) s.length m 0 (s ++ [.lst []])) (fun _ H' => Q (.ref D) H') (F.at_ σ) := by
    have q' : PostE W0 ((compL nx p t e (wipeE env p.slots) s.length m 0 (s ++ [.lst []])).bind fun _ s2 => .ok (.ref s.length) s2) Q (F.at_ σ) := q
    cases z : compL nx p t e (wipeE env p.slots) s.length m 0 (s ++ [.lst []]) with
    | ok u s2 =>
      rw [z] at q'
      intro ρ' H' _ x S _
      rw [eqW] at S
      exact q' ρ' H' (.ref D) (toW _ _ x) S (.ref (pre_get x.pre hn))
    | exc C fs s2 => rw [z] at q'; intro ρ' H' d x S z; rw [eqW] at S z; rw [hg1]; exact q' ρ' H' d (toW _ _ x) S z
    | bad => rw [z] at q'; exact q'.elim
  have env1 : EnvR W1 (wipeE env p.slots) (L2.wipe σ p.slots) := by
    subst hW
    exact (A.env.wipe p.slots).mono x1
  refine ⟨fun i m H => ∃ ρ' st, Ext W1 ρ' H ∧ Sim (W1.to ρ' H) st ∧ Post (W1.to ρ' H) PU (compL nx p t e (wipeE env p.slots) s.length m i st) (fun _ H' => Q (.ref D) H') (F.at_ σ), ⟨m, W1.ρ, s ++ [.lst []], ?_⟩, fun i m H ⟨ρ', st, x, S, q⟩ => ?_⟩
  · rw [← hH1]
    exact ⟨Ext.refl, S1, q1⟩
  cases m with
  | zero =>
    unfold compL at q
    split at q
    · rename_i en
      refine .inl ⟨r.stop (W0.to ρ' H) st i (.of (toW _ _ x)) (by rw [← eqW]; exact S) en, ?_⟩
      exact q ρ' H () (Ext.refl (W := W1.to ρ' H)) S trivial
    · exact q.elim
  | succ m =>
    unfold compL at q
    split at q
    · rename_i en
      refine .inl ⟨r.stop (W0.to ρ' H) st i (.of (toW _ _ x)) (by rw [← eqW]; exact S) en, ?_⟩
      exact q ρ' H () (Ext.refl (W := W1.to ρ' H)) S trivial
    · rename_i d en
      obtain ⟨h1, h2⟩ := r.go (W0.to ρ' H) st i d (.of (toW _ _ x)) (by rw [← eqW]; exact S) en
      refine .inr ⟨h1, fun H => ∃ ρ' st, Ext W1 ρ' H ∧ Sim (W1.to ρ' H) st ∧ Post (W1.to ρ' H) PU (compL nx p t e (wipeE env p.slots) s.length m (i + 1) st) (fun _ H' => Q (.ref D) H') (F.at_ σ), fun H' z => ⟨m, Nat.lt_succ_self m, z⟩, fun v H2 hy => ?_⟩
      obtain ⟨x2, S2, rv⟩ := h2 v H2 hy
      rw [← eqW] at x2 S2 rv
      have x3 : Ext W1 ρ' H2 := x.trans x2
      cases hb : p.bind d (wipeE env p.slots) with
      | none => rw [hb] at q; exact q.elim
      | some env' =>
        rw [hb] at q
        refine hp.go (W1.to ρ' H2) d v _ _ _ _ (by rw [← A.k, ← hK1]) rv (env1.mono x3) hb fun σ' er ew => ⟨by rw [ew, wipe_wipe], ?_⟩
        have q2 : Post (W1.to ρ' H2) PU (((t env' st).nox).bind fun k s1 => if k = true then ((e env' s1).nox).bind fun v s2 => compApp s.length v s2 (compL nx p t e (wipeE env p.slots) s.length m (i + 1)) else compL nx p t e (wipeE env p.slots) s.length m (i + 1) s1) (fun _ H' => Q (.ref D) H') (F.at_ σ) := Post.ext (W := W1.to ρ' H) x2 q
        refine ⟨W1.to ρ' H2, st, env', ⟨by rw [← A.k, ← hK1], by rw [← A.g, ← hg1], rfl, S2, er⟩, ?_⟩
        cases ht : t env' st with
        | bad => rw [ht] at q2; exact q2.elim
        | exc C fs s1 => rw [ht] at q2; exact q2.elim
        | ok k s1 =>
          rw [ht] at q2
          intro ρ3 H3 b x4 S3 eb
          cases (show k = b from eb)
          have q3 : Post (W1.to ρ3 H3) PU (if k = true then ((e env' s1).nox).bind fun v s2 => compApp s.length v s2 (compL nx p t e (wipeE env p.slots) s.length m (i + 1)) else compL nx p t e (wipeE env p.slots) s.length m (i + 1) s1) (fun _ H' => Q (.ref D) H') (F.at_ σ) := Post.ext (W := W1.to ρ' H2) x4 q2
          cases k with
          | false => exact ⟨ρ3, s1, x3.trans x4, S3, q3⟩
          | true =>
            rw [if_pos rfl] at q3 ⊢
            refine ⟨W1.to ρ3 H3, s1, env', ⟨by rw [← A.k, ← hK1], by rw [← A.g, ← hg1], rfl, S3, er.mono (W := W1.to ρ' H2) x4⟩, ?_⟩
            cases he : e env' s1 with
            | bad => rw [he] at q3; exact q3.elim
            | exc C fs s2 => rw [he] at q3; exact q3.elim
            | ok y s2 =>
              rw [he] at q3
              intro ρ5 H5 yv x5 S5 ry
              have q4 : Post (W1.to ρ5 H5) PU (compApp s.length y s2 (compL nx p t e (wipeE env p.slots) s.length m (i + 1))) (fun _ H' => Q (.ref D) H') (F.at_ σ) := Post.ext (W := W1.to ρ3 H3) x5 q3
              have x6 : Ext W1 ρ5 H5 := (x3.trans x4).trans x5
              unfold compApp at q4
              split at q4
              · rename_i acc ha
                split at q4
                · rename_i c
                  have hn5 := pre_get x6.pre hn
                  obtain ⟨ys, hl, rl⟩ := S5.at_ s.length _ D (lstAt_eq ha) hn5
                  have x7 : Ext (W1.to ρ5 H5) ρ5 (upd H5 D (.lst (ys ++ [yv]))) := ext_put (W := W1.to ρ5 H5) (List.mem_of_getElem? hn5)
                  refine ⟨ys, hl, by rw [← rl.length]; exact c, ρ5, s2.set s.length (.lst (acc ++ [y])), x6.trans x7, Sim.put (W := W1.to ρ5 H5) S5 hn5 ⟨ys ++ [yv], upd_same, RVs.mono x7 (rl.append (.cons ry .nil))⟩, Post.ext (W := W1.to ρ5 H5) x7 q4⟩
                · exact q4.elim
              · exact q4.elim
    · exact q.elim
theorem e_lc {elt tg iter : Expr} {ifs : List Expr} {scope : Scope} {own : List (Str × Nat)} {g : TG} {p : Pat} {w : IW} {t : IT} {e : IE} (hp : PatOk F.K p g) (ho : own.map (·.2) = p.slots) (hc : X.calm = true) (hN : X.N.Nodup) (hi : PI X tg iter (TW F w)) (ok : BlkOk X.N X.env.scope scope own)
    (hg : ∀ (s : Shared) (H : Hp) (C : Addr) (cl : List (Str × Addr)) (fp : List Addr), PG (X.blk s H scope (compEnvC scope cl C X.env) fp) tg g) (ht : ∀ (s : Shared) (H : Hp) (C : Addr) (cl : List (Str × Addr)) (fp : List Addr), PTs (X.blk s H scope (compEnvC scope cl C X.env) fp) ifs (TT_ F.quiet t))
    (he : ∀ (s : Shared) (H : Hp) (C : Addr) (cl : List (Str × Addr)) (fp : List Addr), PE (X.blk s H scope (compEnvC scope cl C X.env) fp) elt (TI F.quiet e)) (hs : ∀ x, foldedSetIterable iter X.env x = pure x := by intro _; rfl) :
    PE X (.ListComp elt [⟨tg, iter, ifs, 0⟩] scope pos) (TI F (iComp w p t e)) := PE.imp (pe_lc hc hN hi ok hg ht he hs) fun σ H Q h => by rw [ho]; exact comp_ok hp h
theorem ts_nil : PTs X [] (TT_ F tYes') := ⟨fun pins s σ H Q I h => (pts_nil (X := X)).run pins s σ H Q I (by
  obtain ⟨W, st, env, A, p⟩ := h
  have q := PostT.now p A.sim
  rw [A.h] at q
  exact q)⟩
theorem ts_one {c : Expr} {t : IT} (h : PT X c (TT_ F t)) : PTs X [c] (TT_ F t) := pts_one h
/-- name = [..] -/
theorem s_setLc {i : Nat} {y : Str} {py : Pos} {elt tg iter : Expr} {ifs : List Expr} {scope : Scope} {own : List (Str × Nat)} {spos : Pos} {g : TG} {p : Pat} {w : IW} {t : IT} {e : IE} (hp : PatOk F.K p g) (ho : own.map (·.2) = p.slots) (hc : X.calm = true) (hN : X.N.Nodup) (hy : X.N[i]? = some y) (hyl : X.env.scope.names.lookup y = some .local)
    (hsw : swapsWith (.ListComp elt [⟨tg, iter, ifs, 0⟩] scope pos) (some (.Name y py)) spos.line X.env = pure true) (hi : PI X tg iter (TW F w)) (ok : BlkOk X.N X.env.scope scope own)
    (hg : ∀ (s : Shared) (H : Hp) (C : Addr) (cl : List (Str × Addr)) (fp : List Addr), PG (X.blk s H scope (compEnvC scope cl C X.env) fp) tg g) (ht : ∀ (s : Shared) (H : Hp) (C : Addr) (cl : List (Str × Addr)) (fp : List Addr), PTs (X.blk s H scope (compEnvC scope cl C X.env) fp) ifs (TT_ F.quiet t))
    (he : ∀ (s : Shared) (H : Hp) (C : Addr) (cl : List (Str × Addr)) (fp : List Addr), PE (X.blk s H scope (compEnvC scope cl C X.env) fp) elt (TI F.quiet e)) (hs : ∀ x, foldedSetIterable iter X.env x = pure x := by intro _; rfl) :
    PS X (.Assign [.Name y py] (.ListComp elt [⟨tg, iter, ifs, 0⟩] scope pos) spos) (TS_ F (sSet i (iComp w p t e))) := PS.imp (ps_setLc hc hN hy hyl hsw hi ok hg ht he hs) fun N σ H h => by
  rw [ho]
  exact comp_ok hp ((TX.bindS (k := fun d env s => .nx (env.set i (some d)) s) h).mono fun v H1 ⟨W, s, env, a, A, r, p⟩ => by
    have q := PostS.nx p A.sim (A.env.set r i)
    rw [A.h] at q
    exact q)
end
end M
/-! M7: defs and their calls. -/
namespace M
open PySem PySem.Spec PyProof.Rows L2

/-- what a def is: arguments and store in, result out -/
abbrev Fn := List D → Sto → R D
/-- its promise -/
def SPx (K : PySem.W.Frag) (g : Str → Addr) (f : Fn) : Sp := fun vs H Q E => ∃ W st ds, W.K = K ∧ W.g = g ∧ W.H = H ∧ Sim W st ∧ RVs W ds vs ∧ PostE W (f ds st) Q E
/-- how a body ends -/
def endB : RS → R D
  | .nx _ st => .ok .non st
  | .ret d st => .ok d st
  | .exc C fs _ st => .exc C fs st
  | _ => .bad
/-- a def by its body: n slots, p parameters -/
def runB (b : IS) (n p : Nat) : Fn := fun ds st => if ds.length = p then endB (b (ds.map some ++ List.replicate (n - p) none) st) else .bad
theorem env_start {W : Vw} {ds : List D} {vs : List V} {N : List Str} {p : Nat} (r : RVs W ds vs) (hl : ds.length = p) : EnvR W (ds.map some ++ List.replicate (N.length - p) none) (L2.start N vs) := by
  unfold L2.start
  refine ⟨by simp [r.length, ← hl], fun i d e => ?_⟩
  by_cases hi : i < ds.length
  · rw [List.getElem?_append_left (by simpa using hi), List.getElem?_map] at e
    cases q : ds[i]? with
    | none => rw [q] at e; cases e
    | some d' =>
      rw [q] at e
      cases e
      obtain ⟨v, hv, rv⟩ := r.get q
      exact ⟨v, by rw [List.getElem?_append_left (by rw [List.length_map, ← r.length]; exact hi), List.getElem?_map, hv]; rfl, rv⟩
  · rw [List.getElem?_append_right (by simpa using hi), List.getElem?_replicate] at e
    split at e <;> cases e
section
variable {P : Program} {w : World} {K : PySem.W.Frag} {mg : Str → Option Value} {base : Heap} {g : Str → Addr}
abbrev Fx.of (K : PySem.W.Frag) (g : Str → Addr) (E : XK) : Fx := ⟨K, g, fun c d _ H => E c d H⟩
/-- a def's promise, where no repr is under way -/
structure FnG (P : Program) (w : World) (K : PySem.W.Frag) (mg : Str → Option Value) (base : Heap) (k : Nat) (f : Addr) (fd : FuncData) (ps : List Str) (sp : Sp) : Prop where
  len : ∀ vs H Q E, sp vs H Q E → vs.length = ps.length
  run : ∀ (A : Around) (outer : List PySem.Env) (s : Shared) (H : Hp) (args : Args) (us : List Value) (vs : List V) (Q : VK) (E : XK), Room k A → A.guards = some [] → Env0 P w K mg base A outer s H → BindsTo s fd args (ps.zip us) → Vals vs us → sp vs H Q E →
    codeAny (model P w) A (.call (.ref f) args) (CR (L2.CX P w) outer P w H s Q E) s
theorem FnG.of {k : Nat} {f : Addr} {fd : FuncData} {ps : List Str} {sp : Sp} (G : FnOk P w K mg base (L2.CX P w) k f fd ps sp) : FnG P w K mg base k f fd ps sp := ⟨G.len, fun A o s H a us vs Q E hr _ => G.run A o s H a us vs Q E hr⟩
theorem FnG.imp {k : Nat} {f : Addr} {fd : FuncData} {ps : List Str} {sp sp' : Sp} (G : FnG P w K mg base k f fd ps sp) (h : ∀ vs H Q E, sp' vs H Q E → sp vs H Q E) : FnG P w K mg base k f fd ps sp' :=
  ⟨fun vs H Q E q => G.len vs H Q E (h _ _ _ _ q), fun A o s H a us vs Q E hr hg e b v q => G.run A o s H a us vs Q E hr hg e b v (h _ _ _ _ q)⟩
theorem FnG.mono {j k : Nat} {f : Addr} {fd : FuncData} {ps : List Str} {sp : Sp} (G : FnG P w K mg base j f fd ps sp) (h : j ≤ k) : FnG P w K mg base k f fd ps sp := ⟨G.len, fun A o s H a us vs Q E hr => G.run A o s H a us vs Q E (hr.mono h)⟩
/-- THE RULE for a def: its body's walk -/
theorem fn_ok {x qual : Str} {params : Arguments} {body : List Stmt} {scope : Scope} {dvs : List V} {kws : List (Str × V)} {f : Addr} {fd : FuncData} {N ps : List Str} {k : Nat} {b : IS} (Fd : FunD K x qual params body scope dvs kws f fd) (S : FnScope N ps scope)
    (hb : ∀ (cdv : Value) (A : Around) (outer : List PySem.Env) (s : Shared) (H : Hp) (E : XK), Room k (A.deeper (envOfC qual scope s.heap.objs.size f cdv)) → A.guards = some [] → PSs (cxOf (L2.CX P w) P w K mg base N qual scope f cdv A outer s H E) body (TS_ (Fx.of K g E) b)) :
    FnG P w K mg base (k + 1) f fd ps (SPx K g (runB b N.length ps.length)) := by
  have len : ∀ vs H Q E, SPx K g (runB b N.length ps.length) vs H Q E → vs.length = ps.length := fun vs H Q E ⟨W, st, ds, _, _, _, _, r, p⟩ => by
    unfold runB at p
    split at p
    · rename_i c
      rw [← r.length, c]
    · exact p.elim
  refine ⟨len, fun A outer s H args us vs Q E hr hgd e0 hbi rv hsp => ?_⟩
  obtain ⟨oc, od, dV, kV, doc, pm, an, cdv, ct, osl, rfl, lk, hcd, _, _⟩ := Fd.ex
  have hl := len _ _ _ _ hsp
  have kin : K.In s.heap := e0.mod.kin.keeps fun b o e => (e0.bs b o e).1
  have kinds : ∀ y ∈ ps.zip us, scope.names.lookup y.1 = some .local ∨ (scope.names.lookup y.1 = some .cell ∧ ((cellsFrom (s.heap.objs.size + 1) scope.names []).lookup y.1).isSome = true) := fun ⟨n, v⟩ hy =>
    (S.par n (List.of_mem_zip hy).1).elim .inl fun q => .inr ⟨q, PySem.W.cellsFrom_some _ _ _ (.inl q)⟩
  refine codeAny_call_function hr.depth (kin _ _ lk) rfl S.co S.gen rfl (PySem.W.codeRec_of kin hcd) (hbi _ _ _ _ (wpAny_newFunctionEnv_cells S.kind kinds fun env he s1 x => ?_))
  subst he
  refine ⟨(e0.mod.nolimit.keeps fun b o e => (e0.bs b o e).1).keeps x.toInCall.keep, codeAny_func ?_⟩
  have wk : TS_ (Fx.of K g E) b { nx := fun _ H' => Q .non H', rt := Q } (L2.start N vs) H := by
    obtain ⟨W, st, ds, hk, hg, hh, S, r, p⟩ := hsp
    unfold runB at p
    split at p
    · rename_i c
      refine ⟨W, st, _, ⟨hk, hg, hh, S, env_start r c⟩, ?_⟩
      cases q : b (ds.map some ++ List.replicate (N.length - ps.length) none) st with
      | nx e s => rw [q] at p; exact fun ρ' H' σ' x S z => p ρ' H' .non x S .non
      | ret d s => rw [q] at p; exact p
      | bk e s => rw [q] at p; exact p.elim
      | ct e s => rw [q] at p; exact p.elim
      | exc C fs e s => rw [q] at p; exact fun ρ' H' σ' d x S z => p ρ' H' d x S
      | bad => rw [q] at p; exact p.elim
    · exact p.elim
  have I0 : Inv (cxOf (L2.CX P w) P w K mg base N qual scope f cdv A outer s H E) [] (L2.start N vs) H s1 := inv_start S hr.hd e0 hl rv x
  refine wpAny_mono ((hb cdv A outer s H E (hr.deeper _) hgd).run [] s1 _ H _ I0 wk) (fun fl s' hs => ?_) fun e s' hs => hs
  have fin : ∀ {σ' : L2.St} {H' : Hp} {v : V} {u : Value}, Inv (cxOf (L2.CX P w) P w K mg base N qual scope f cdv A outer s H E) [] σ' H' s' → RelV v u → Q v H' → CE outer P w H s Q u s' :=
    fun J r q => ⟨_, _, J.os, J.bare, J.base, J.hok, r, q⟩
  cases fl with
  | ret u => obtain ⟨v, σ', H', J, r, q⟩ := hs; exact fin J r q
  | next => obtain ⟨σ', H', J, q⟩ := hs; exact fin (v := V.non) (u := Value.none) J rfl q
  | brk => obtain ⟨_, _, _, q⟩ := hs; exact q.elim
  | cont => obtain ⟨_, _, _, q⟩ := hs; exact q.elim
end

/-! ### calls -/
def iCall (f : Fn) (dd : List D) (j : IA) : IE := fun env st => (j env st).bind fun ds s => f (ds ++ dd) s
section
variable {X : Cx} {F : Fx} {k : Nat} {f : Addr} {fd : FuncData} {ps : List Str} {ds : List Value} {dvs : List V} {x : Str} {p pos : Pos} {e : Expr} {es : List Expr} {fs : Fn} {j : IA} {dd : List D}
theorem sp_of {σ : L2.St} {H : Hp} {Q : VK} {vs : List V} (hdd : ∀ W : Vw, W.K = F.K → W.g = F.g → RVs W dd dvs) (h : TK RVs RV F (fun ds env s => fs (ds ++ dd) s) vs σ H Q) : SPx F.K F.g fs (vs ++ dvs) H Q (F.at_ σ) := by
  obtain ⟨W, st, env, ds, A, r, p⟩ := h
  exact ⟨W, st, ds ++ dd, A.k, A.g, A.h, A.sim, r.append (hdd W A.k A.g), p⟩
/-- the callee runs -/
theorem run_g {pins : List (Addr × Obj)} {σ : L2.St} {H : Hp} {s : Shared} {Q : VK} {us : List Value} {vs : List V} {sp : Sp} (G : FnG X.prog X.w X.K X.mg X.base k f fd ps sp) (hr : Room k X.A) (hgd : X.A.guards = some []) (hb : Binds X.K fd ps ds) (hd : Vals dvs ds) (tk : Takes X F.E)
    (I : Inv X pins σ H s) (r : Vals vs us) (h : sp (vs ++ dvs) H Q (F.at_ σ)) : wpAny (model X.prog X.w) X.A (call (.ref f) us) (EP X pins σ Q) X.xe s := by
  have r2 : Vals (vs ++ dvs) (us ++ ds) := r.append hd
  refine wpAny_call (codeAny_mono (G.run X.A X.stack s H ⟨us, []⟩ (us ++ ds) (vs ++ dvs) Q (F.at_ σ) hr hgd I.env0 (hb s us I.kIn (r2.length.symm.trans (G.len _ _ _ _ h))) r2 h) fun r s' hq => ?_)
  cases r with
  | error e => exact tk e s' (XE.of_call I (fun _ _ _ h => h) hq)
  | ok fl =>
    cases fl with
    | ret u => exact I.after hq
    | next => exact hq.elim
    | brk => exact hq.elim
    | cont => exact hq.elim
theorem e_call (G : FnG X.prog X.w X.K X.mg X.base k f fd ps (SPx F.K F.g fs)) (hr : Room k X.A) (hgd : X.A.guards = some []) (hg : Gl X x) (hm : X.mg x = some (.ref f)) (hk : PySem.W.keepIn X.K (.ref f) = true) (hb : Binds X.K fd ps ds) (hd : Vals dvs ds) (hdd : ∀ W : Vw, W.K = F.K → W.g = F.g → RVs W dd dvs) (tk : Takes X F.E)
    (ha : PA X (e :: es) (TA_ F j)) (hdb : (x == ("__debug__" : Str)) = false := by decide) (he : starEach (e :: es) X.env = (false, eval e X.env) :: starEach es X.env := by rfl) (hpl : (backTo pos (starEach es X.env)).any (·.1) = false := by rfl) :
    PE X (.Call (.Name x p) (e :: es) [] pos) (TI F (iCall fs dd j)) := by
  refine ⟨fun pins s σ H Q I h => ?_⟩
  refine wpAny_Call_Name_kw (ld_glob I hg hm (PySem.W.callWith_K (h₀ := X.base) I.ok.mod.kin hk (thn (ha.run pos pins s σ H _ I (TX.bind (k := fun ds env s => fs (ds ++ dd) s) h)) fun us s1 ⟨vs, H1, I1, r, q⟩ => ⟨I1.kIn, ?_⟩) he hpl) hdb)
  exact run_g G hr hgd hb hd tk I1 r (sp_of hdd q)
theorem e_call0 (G : FnG X.prog X.w X.K X.mg X.base k f fd ps (SPx F.K F.g fs)) (hr : Room k X.A) (hgd : X.A.guards = some []) (hg : Gl X x) (hm : X.mg x = some (.ref f)) (hk : PySem.W.keepIn X.K (.ref f) = true) (hb : Binds X.K fd ps ds) (hd : Vals dvs ds) (hdd : ∀ W : Vw, W.K = F.K → W.g = F.g → RVs W dd dvs) (tk : Takes X F.E)
    (hdb : (x == ("__debug__" : Str)) = false := by decide) : PE X (.Call (.Name x p) [] [] pos) (TI F (iCall fs dd aNil)) := by
  refine ⟨fun pins s σ H Q I h => ?_⟩
  refine wpAny_Call_Name_kw (ld_glob I hg hm (PySem.W.callWith_K0 I.kIn hk (run_g (us := []) (vs := []) G hr hgd hb hd tk I .nil ?_)) hdb)
  obtain ⟨W, st, env, A, p⟩ := h
  exact sp_of (vs := []) hdd ⟨W, st, env, [], A, .nil, p⟩
end

/-! ### defs that look at nothing of the store -/
mutual
def noRef : D → Bool
  | .tup xs => noRefs xs
  | .lst xs => noRefs xs
  | .dct _ xs => noRefs xs
  | .obj _ fs => noRefF fs
  | .exc _ fs => noRefF fs
  | .ref _ => false
  | .non => true
  | .bl _ => true
  | .int _ => true
  | .str _ => true
  | .ty _ => true
  | .glo _ => true
def noRefs : List D → Bool
  | [] => true
  | x :: xs => noRef x && noRefs xs
def noRefF : List (Str × D) → Bool
  | [] => true
  | x :: xs => noRef x.2 && noRefF xs
end
def allF (f : D → Option D) : List (Str × D) → Option (List (Str × D))
  | [] => some []
  | (x, d) :: xs => match f d, allF f xs with
    | some p, some ps => some ((x, p) :: ps)
    | _, _ => none
/-- nobody changes it any more -/
def frz (st : Sto) : Nat → D → Option D
  | 0, _ => none
  | n + 1, d => match d with
    | .tup xs => (allP (frz st n) xs).map .tup
    | .lst xs => (allP (frz st n) xs).map .lst
    | .dct ks xs => (allP (frz st n) xs).map (.dct ks)
    | .obj C fs => (allF (frz st n) fs).map (.obj C)
    | .exc C fs => (allF (frz st n) fs).map (.exc C)
    | .ref k => match st[k]? with
      | some (.lst xs) => (allP (frz st n) xs).map .lst
      | some (.ins C fs) => (allF (frz st n) fs).map (.obj C)
      | some (.dct kvs) => (allP (frz st n) (kvs.map (·.2))).map (.dct (kvs.map (·.1)))
      | _ => none
    | d => some d
section
variable {W W' : Vw} {st : Sto}
/-- what may be said of W's things in W' -/
structure Into (W W' : Vw) : Prop where
  k : W'.K = W.K
  g : W'.g = W.g
  h : W'.H = W.H
  fro : ∀ a, W.fro a → W'.fro a
  ref : ∀ a ∈ W.ρ, W'.fro a
theorem Vw.Tup.into (i : Into W W') {a : Addr} {ys : List V} (h : W.Tup a ys) : W'.Tup a ys := by
  rcases h with ⟨h, f⟩ | h
  · exact .inl ⟨by rw [i.h]; exact h, i.fro a f⟩
  · exact .inr (by rw [i.k]; exact h)
theorem Vw.Lst.into (i : Into W W') {a : Addr} {ys : List V} (h : W.Lst a ys) : W'.Lst a ys := by
  rcases h with ⟨h, f⟩ | h
  · exact .inl ⟨by rw [i.h]; exact h, i.fro a f⟩
  · exact .inr (by rw [i.k]; exact h)
theorem allP_rv {f : D → Option D} (hf : ∀ d d' v, f d = some d' → RV W d v → RV W' d' v) : ∀ {xs xs' : List D} {ys : List V}, allP f xs = some xs' → RVs W xs ys → RVs W' xs' ys
  | [], _, _, h, .nil => by cases h; exact .nil
  | x :: xs, _, _, h, .cons r rs => by
    obtain ⟨p, q, e1, e2, rfl⟩ := allP_cons h
    exact .cons (hf _ _ _ e1 r) (allP_rv hf e2 rs)
theorem allF_rv {f : D → Option D} (hf : ∀ d d' v, f d = some d' → RV W d v → RV W' d' v) : ∀ {xs xs' : List (Str × D)} {ys : List (Str × V)}, allF f xs = some xs' → RFs W xs ys → RFs W' xs' ys
  | [], _, _, h, .nil => by cases h; exact .nil
  | (x, d) :: xs, _, _, h, .cons r rs => by
    unfold allF at h
    split at h
    · rename_i p ps e1 e2
      cases h
      exact .cons (hf _ _ _ e1 r) (allF_rv hf e2 rs)
    · cases h
theorem frz_rv (i : Into W W') (S : Sim W st) : ∀ (n : Nat) (d d' : D) (v : V), frz st n d = some d' → RV W d v → RV W' d' v
  | 0, _, _, _, h, _ => by cases h
  | n + 1, d, d', v, h, r => by
    have ih := frz_rv i S n
    cases r with
    | non => cases h; exact .non
    | bl b => cases h; exact .bl b
    | int b => cases h; exact .int b
    | str b => cases h; exact .str b
    | ty b => cases h; exact .ty b
    | glo b => cases h; rw [← i.g]; exact .glo b
    | tup t r =>
      obtain ⟨xs, e, rfl⟩ := Option.map_eq_some_iff.mp h
      exact .tup (t.into i) (allP_rv ih e r)
    | lst t r =>
      obtain ⟨xs, e, rfl⟩ := Option.map_eq_some_iff.mp h
      exact .lst (t.into i) (allP_rv ih e r)
    | dct t f k r =>
      obtain ⟨xs, e, rfl⟩ := Option.map_eq_some_iff.mp h
      exact .dct (by rw [i.h]; exact t) (i.fro _ f) k (allP_rv ih e r)
    | obj t f r =>
      obtain ⟨xs, e, rfl⟩ := Option.map_eq_some_iff.mp h
      exact .obj (by rw [i.h, i.g]; exact t) (i.fro _ f) (allF_rv ih e r)
    | exc t f a b r =>
      obtain ⟨xs, e, rfl⟩ := Option.map_eq_some_iff.mp h
      exact .exc (by rw [i.h, i.g]; exact t) (i.fro _ f) a (fun dx q => ⟨by rw [i.h]; exact (b dx q).1, i.fro _ (b dx q).2⟩) (allF_rv ih e r)
    | @ref k a e =>
      have h' : (match st[k]? with
      | some (O.lst xs) => (allP (frz st n) xs).map D.lst
      | some (O.ins C fs) => (allF (frz st n) fs).map (D.obj C)
      | some (O.dct kvs) => (allP (frz st n) (kvs.map (·.2))).map (D.dct (kvs.map (·.1)))
      | _ => none) = some d' := h
      have m := List.mem_of_getElem? e
      split at h'
      · rename_i xs q
        obtain ⟨xs', e2, rfl⟩ := Option.map_eq_some_iff.mp h'
        obtain ⟨ys, h1, r1⟩ := S.at_ k _ a q e
        exact .lst (.inl ⟨.inl (by rw [i.h]; exact h1), i.ref a m⟩) (allP_rv ih e2 r1)
      · rename_i C xs q
        obtain ⟨xs', e2, rfl⟩ := Option.map_eq_some_iff.mp h'
        obtain ⟨dx, ys, h1, r1⟩ := S.at_ k _ a q e
        exact .obj (by rw [i.h, i.g]; exact h1) (i.ref a m) (allF_rv ih e2 r1)
      · rename_i kvs q
        obtain ⟨xs', e2, rfl⟩ := Option.map_eq_some_iff.mp h'
        obtain ⟨ys, h1, hk, r1⟩ := S.at_ k _ a q e
        exact .dct (by rw [i.h]; exact h1) (i.ref a m) hk.symm (allP_rv ih e2 r1)
      · cases h'
mutual
theorem noRef_rv (i : ∀ a, W.fro a → W'.fro a) (hk : W'.K = W.K) (hg : W'.g = W.g) (hh : W'.H = W.H) : ∀ {d : D} {v : V}, noRef d = true → RV W d v → RV W' d v
  | _, _, _, .non => .non
  | _, _, _, .bl _ => .bl _
  | _, _, _, .int _ => .int _
  | _, _, _, .str _ => .str _
  | _, _, _, .ty _ => .ty _
  | _, _, _, .glo x => by rw [← hg]; exact .glo x
  | .tup xs, _, h, .tup t r => .tup (by
      rcases t with ⟨t, f⟩ | t
      · exact .inl ⟨by rw [hh]; exact t, i _ f⟩
      · exact .inr (by rw [hk]; exact t)) (noRefs_rv i hk hg hh (show noRefs xs = true from h) r)
  | .lst xs, _, h, .lst t r => .lst (by
      rcases t with ⟨t, f⟩ | t
      · exact .inl ⟨by rw [hh]; exact t, i _ f⟩
      · exact .inr (by rw [hk]; exact t)) (noRefs_rv i hk hg hh (show noRefs xs = true from h) r)
  | .dct ks xs, _, h, .dct t f k r => .dct (by rw [hh]; exact t) (i _ f) k (noRefs_rv i hk hg hh (show noRefs xs = true from h) r)
  | .obj C fs, _, h, .obj t f r => .obj (by rw [hh, hg]; exact t) (i _ f) (noRefF_rv i hk hg hh (show noRefF fs = true from h) r)
  | .exc C fs, _, h, .exc t f a b r => .exc (by rw [hh, hg]; exact t) (i _ f) a (fun dx q => ⟨by rw [hh]; exact (b dx q).1, i _ (b dx q).2⟩) (noRefF_rv i hk hg hh (show noRefF fs = true from h) r)
  | .ref n, _, h, _ => by cases h
theorem noRefs_rv (i : ∀ a, W.fro a → W'.fro a) (hk : W'.K = W.K) (hg : W'.g = W.g) (hh : W'.H = W.H) : ∀ {d : List D} {v : List V}, noRefs d = true → RVs W d v → RVs W' d v
  | _, _, _, .nil => .nil
  | x :: xs, _, h, .cons r rs => by
    have h' := Bool.and_eq_true_iff.mp (show (noRef x && noRefs xs) = true from h)
    exact .cons (noRef_rv i hk hg hh h'.1 r) (noRefs_rv i hk hg hh h'.2 rs)
theorem noRefF_rv (i : ∀ a, W.fro a → W'.fro a) (hk : W'.K = W.K) (hg : W'.g = W.g) (hh : W'.H = W.H) : ∀ {d : List (Str × D)} {v : List (Str × V)}, noRefF d = true → RFs W d v → RFs W' d v
  | _, _, _, .nil => .nil
  | (f, x) :: xs, _, h, .cons r rs => by
    have h' := Bool.and_eq_true_iff.mp (show (noRef x && noRefF xs) = true from h)
    exact .cons (noRef_rv i hk hg hh h'.1 r) (noRefF_rv i hk hg hh h'.2 rs)
end
end
/-- a def that knows no thing of the store: it is run upon an empty one, what it hands back is frozen -/
def pureA (f : Fn) : Fn := fun ds st => if noRefs ds = true then (match f ds [] with
  | .ok d s => match frz s 70 d with
    | some d' => .ok d' st
    | none => .bad
  | .exc C fs s => match allF (frz s 70) fs with
    | some fs' => .exc C fs' st
    | none => .bad
  | .bad => .bad) else .bad
def atom : D → Bool
  | .non => true
  | .bl _ => true
  | .int _ => true
  | .str _ => true
  | _ => false
/-- .. that may read what the store holds, and hands back a plain value -/
def pureB (f : Fn) : Fn := fun ds st => match allP (frz st 70) ds with
  | some ds' => (match f ds' [] with
    | .ok d _ => if atom d = true then .ok d st else .bad
    | _ => .bad)
  | none => .bad
theorem atom_rv {W W' : Vw} {d : D} {v : V} (h : atom d = true) (r : RV W d v) : RV W' d v := by
  cases r <;> first | exact .non | exact .bl _ | exact .int _ | exact .str _ | cases h
section
variable {P : Program} {w : World} {K : PySem.W.Frag} {mg : Str → Option Value} {base : Heap} {g : Str → Addr} {k : Nat} {fa : Addr} {fd : FuncData} {ps : List Str} {f : Fn}
theorem ext_hide {W : Vw} {Z : Addr → Prop} {ρ' : List Addr} {H' : Hp} (x : Ext { W with ρ := [], Z := Z } ρ' H') : Ext W W.ρ H' := ⟨List.prefix_refl _, fun a m => .inl m, fun a o h _ => x.keep a o h (by simp)⟩
theorem fn_pureA (G : FnG P w K mg base k fa fd ps (SPx K g f)) : FnG P w K mg base k fa fd ps (SPx K g (pureA f)) := G.imp fun vs H Q E ⟨W, st, ds, hk, hg, hh, S, r, p⟩ => by
  unfold pureA at p
  split at p
  · rename_i c
    let W1 : Vw := { W with ρ := [], Z := fun a => W.Z a ∨ a ∈ W.ρ }
    have S1 : Sim W1 [] := ⟨rfl, List.nodup_nil, fun a m => by simp [W1] at m, fun a z => z.elim (S.zt a) S.tr, fun n o a h _ => by simp at h⟩
    have r1 : RVs W1 ds vs := noRefs_rv (W' := W1) (fun a h => ⟨by simp [W1], fun z => z.elim h.2 h.1⟩) rfl rfl rfl c r
    have key : ∀ ρ' H' s, Ext W1 ρ' H' → Sim (W1.to ρ' H') s → Ext W W.ρ H' ∧ Sim (W.to W.ρ H') st ∧ Into (W1.to ρ' H') (W.to W.ρ H') := fun ρ' H' s x Ss => by
      have xx : Ext W W.ρ H' := ext_hide x
      refine ⟨xx, S.frozen xx fun a m => ?_, ⟨rfl, rfl, rfl, fun a h => ⟨fun m => h.2 (.inr m), fun z => h.2 (.inl z)⟩, fun a m => ?_⟩⟩
      · obtain ⟨o, e⟩ := S.tr m
        rw [e]
        exact x.keep a o e (by simp [W1])
      · have hn : W.H a = none := (x.new a m).elim (fun z => by simp [W1] at z) id
        refine ⟨fun m => ?_, fun z => ?_⟩
        · obtain ⟨o, e⟩ := S.tr m
          rw [hn] at e; cases e
        · obtain ⟨o, e⟩ := S.zt a z
          rw [hn] at e; cases e
    refine ⟨W1, [], ds, hk, hg, hh, S1, r1, ?_⟩
    cases q : f ds [] with
    | bad => rw [q] at p; exact p.elim
    | ok d s =>
      rw [q] at p
      intro ρ' H' v x Ss rv
      obtain ⟨k1, k2, k3⟩ := key ρ' H' s x Ss
      cases e : frz s 70 d with
      | none =>
        have p' : PostE W (match frz s 70 d with
          | some d' => .ok d' st
          | none => .bad) Q E := p
        rw [e] at p'; exact p'.elim
      | some d' =>
        have p' : PostE W (match frz s 70 d with
          | some d' => .ok d' st
          | none => .bad) Q E := p
        rw [e] at p'
        exact p' W.ρ H' v k1 k2 (frz_rv k3 Ss 70 d d' v e rv)
    | exc C fs s =>
      rw [q] at p
      intro ρ' H' d x Ss ⟨gs, rg, z1, z2⟩
      obtain ⟨k1, k2, k3⟩ := key ρ' H' s x Ss
      cases e : allF (frz s 70) fs with
      | none =>
        have p' : PostE W (match allF (frz s 70) fs with
          | some fs' => .exc C fs' st
          | none => .bad) Q E := p
        rw [e] at p'; exact p'.elim
      | some fs' =>
        have p' : PostE W (match allF (frz s 70) fs with
          | some fs' => .exc C fs' st
          | none => .bad) Q E := p
        rw [e] at p'
        exact p' W.ρ H' d k1 k2 ⟨gs, allF_rv (frz_rv k3 Ss 70) e rg, z1, fun dx hd => ⟨(z2 dx hd).1, k3.fro _ (z2 dx hd).2⟩⟩
  · exact p.elim
theorem fn_pureB (G : FnG P w K mg base k fa fd ps (SPx K g f)) : FnG P w K mg base k fa fd ps (SPx K g (pureB f)) := G.imp fun vs H Q E ⟨W, st, ds, hk, hg, hh, S, r, p⟩ => by
  unfold pureB at p
  split at p
  · rename_i ds' hds
    let W1 : Vw := { W with ρ := [] }
    have S1 : Sim W1 [] := ⟨rfl, List.nodup_nil, fun a m => by simp [W1] at m, S.zt, fun n o a h _ => by simp at h⟩
    have r1 : RVs W1 ds' vs := allP_rv (W := W) (W' := W1) (frz_rv (W := W) (W' := W1) ⟨rfl, rfl, rfl, fun a h => ⟨by simp [W1], h.2⟩, fun a m => ⟨by simp [W1], S.nz a m⟩⟩ S 70) hds r
    refine ⟨W1, [], ds', hk, hg, hh, S1, r1, ?_⟩
    cases q : f ds' [] with
    | bad => rw [q] at p; exact p.elim
    | exc C fs s => rw [q] at p; exact p.elim
    | ok d s =>
      rw [q] at p
      intro ρ' H' v x Ss rv
      have p' : PostE W (if atom d = true then .ok d st else .bad) Q E := p
      split at p'
      · rename_i c
        have xx : Ext W W.ρ H' := ext_hide (Z := W.Z) x
        refine p' W.ρ H' v xx (S.frozen xx fun a m => ?_) (atom_rv c rv)
        obtain ⟨o, e⟩ := S.tr m
        rw [e]
        exact x.keep a o e (by simp [W1])
      · exact p'.elim
  · exact p.elim
end

/-! ### the law's call -/
section
variable {P : Program} {w : World} {K : PySem.W.Frag} {mg mb : Str → Option Value} {k : Nat} {fa a : Addr} {fd : FuncData} {x : Str} {sp : Sp} {s1 : Shared} {vs : List Value} {ns : List Int}
/-- what is to be shown of the call -/
abbrev LawEnd (s1 : Shared) (r : Result) (s' : Shared) : Prop := r = .ok (.ret (.bool true)) ∧ OldK s1.heap s'.heap ∧ s'.os = s1.os ∧ AllBare s'.gens
theorem law_core {H : Hp} (KX : K.In s1.heap) (hns : s1.heap.Ns mainGlobals mg) (hb : s1.heap.Ns builtinsNs mb) (hbb : ∀ x : Str, x ≠ "__name__" → mb x = bootBuiltins x) (hlim : s1.heap.NoLimit) (hg : s1.gens = #[])
    (ha : s1.heap.get? a = some { cls := .type "list", data := .seq vs.toArray }) (hr : Room k callerA) (G : ∀ base : Heap, FnG P w K mg base k fa fd [x] sp) (bi : ∀ (s : Shared) (u : Value), BindsTo s fd ⟨[u], []⟩ [(x, u)])
    (hO : Only H) (hok : HOk P w H s1.heap) (hA : ∀ b, H b ≠ none → b = a) (hK : H a ≠ none → K.lookup a = none) (hsp : sp [.ref a] H (fun v _ => v = .bl true) fun _ _ _ => False) :
    codeAny (model P w) callerA (.call (.ref fa) ⟨[.ref a], []⟩) (LawEnd s1) s1 := by
  have not : ∀ {b : Addr} {o : Obj}, s1.heap.get? b = some o → (∀ u, H b = some u → False) → (hidT s1.heap H).get? b = some o := fun {b o} e n => hidT_get e (by
    cases q : H b with
    | none => rfl
    | some u => exact (n u q).elim)
  have dic : ∀ {b : Addr} {m : Str → Option Value}, s1.heap.Ns b m → (hidT s1.heap H).Ns b m := fun {b m} ⟨o, es, ep, e, d, r⟩ => ⟨o, es, ep, not e (fun u q => by
    have e' := hA b (by rw [q]; exact fun z => nomatch z)
    subst e'
    rw [ha] at e
    cases e
    exact nomatch (show Data.seq vs.toArray _ = Data.dict es ep from d)), d, r⟩
  have kin : K.In (hidT s1.heap H) := fun b o e => not (KX b o e) fun u q => by
    have e' := hA b (by rw [q]; exact fun z => nomatch z)
    subst e'
    rw [hK (by rw [q]; exact fun z => nomatch z)] at e
    cases e
  have md : Mod K mg (hidT s1.heap H) := ⟨kin, dic hns, ⟨mb, dic hb, hbb⟩, by obtain ⟨mc, h1, h2⟩ := hlim; exact ⟨mc, dic h1, h2⟩⟩
  have e0 : Env0 P w K mg (hidT s1.heap H) callerA [] s1 H := ⟨rfl, md, fun b o e => of_hidT e, Nat.le_of_eq (hidT_size _ _), trivial, (fun b m => absurd (show b ∈ ([] : List Addr) from m) (by simp)), hok, .of_eq hg⟩
  refine codeAny_mono ((G _).run callerA [] s1 H ⟨[.ref a], []⟩ [.ref a] [.ref a] _ _ hr rfl e0 (bi s1 (.ref a)) (.cons rfl .nil) hsp) fun r s' h => ?_
  cases r with
  | error e =>
    obtain ⟨_, _, _, _, _, _, _, _, _, _, _, _, z⟩ := h
    exact z.elim
  | ok fl =>
    cases fl with
    | next => exact h.elim
    | brk => exact h.elim
    | cont => exact h.elim
    | ret u =>
      obtain ⟨v, H', os, bare, un, hok', rv, q⟩ := h
      cases (show v = .bl true from q)
      cases (show u = Value.bool true from rv)
      refine ⟨rfl, OldK.of_keep fun b o e => ?_, os, bare⟩
      rcases hO b with q | ⟨ob, xs, q⟩
      · exact un.keep b o e q (fun m => nomatch (show b ∈ ([] : List Addr) from m)) (by simp)
      · have z1 := (hok b _ q).1
        have z2 := (hok' b _ (un.frzs b ob _ q)).1
        rw [e] at z1
        cases z1
        exact z2
theorem law_callG (KX : K.In s1.heap) (hns : s1.heap.Ns mainGlobals mg) (hb : s1.heap.Ns builtinsNs mb) (hbb : ∀ x : Str, x ≠ "__name__" → mb x = bootBuiltins x) (hlim : s1.heap.NoLimit) (hg : s1.gens = #[])
    (ha : s1.heap.get? a = some { cls := .type "list", data := .seq vs.toArray }) (hi : IntsAre vs ns) (hl : ns.length ≤ sizeLine) (hr : Room k callerA) (G : ∀ base : Heap, FnG P w K mg base k fa fd [x] sp) (bi : ∀ (s : Shared) (u : Value), BindsTo s fd ⟨[u], []⟩ [(x, u)])
    (hsp : ∀ H : Hp, Only H → LsE K H a (ns.map V.int) → sp [.ref a] H (fun v _ => v = .bl true) fun _ _ _ => False) : codeAny (model P w) callerA (.call (.ref fa) ⟨[.ref a], []⟩) (LawEnd s1) s1 := by
  have rv := vals_ints hi
  cases hk : K.lookup a with
  | some o =>
    have e := KX a o hk
    rw [ha] at e
    cases e
    have O : Only (fun _ => none) := fun _ => .inl rfl
    exact law_core KX hns hb hbb hlim hg ha hr G bi O (fun b u z => by cases (show (none : Option HO) = some u from z)) (fun b z => absurd rfl z) (fun z => absurd rfl z) (hsp _ O (.inr ⟨vs.toArray, _, hk, by rw [List.size_toArray, hi.length]; exact hl, by simpa using rv⟩))
  | none =>
    let H : Hp := fun b => if b = a then some (.frz { cls := .type "list", data := .seq vs.toArray } (.lst (ns.map V.int))) else none
    have at_ : H a = some (.frz { cls := .type "list", data := .seq vs.toArray } (.lst (ns.map V.int))) := if_pos rfl
    have off : ∀ b, b ≠ a → H b = none := fun b h => if_neg h
    have O : Only H := fun b => by
      by_cases h : b = a
      · subst h; exact .inr ⟨_, _, at_⟩
      · exact .inl (off b h)
    refine law_core KX hns hb hbb hlim hg ha hr G bi O (fun b u z => ?_) (fun b z => ?_) (fun _ => hk) (hsp _ O (.inl (.inr ⟨_, at_⟩)))
    · by_cases h : b = a
      · subst h
        rw [at_] at z
        cases z
        exact ⟨ha, by rw [List.length_map]; exact hl, vs, _, rv, ha⟩
      · rw [off b h] at z; cases z
    · by_cases h : b = a
      · exact h
      · exact absurd (off b h) z
end
end M
/-! M8: exceptions of the program's own classes, over any of the built-in bases, made by position and by name. -/
namespace M
open PySem PySem.Spec PyProof.Rows L2
open PySem.HandSPX (excO)

/-- a base: its name, its makers, its mro, and what the library says of it -/
structure XB (B newId initId : String) (tail : List Value) : Prop where
  f : ExcBaseFacts B newId initId tail
  pass : ∀ self : Value, refuseLoop self "__setattr__" tail = pure ()
  obj : tail.contains (.type "object") = true
  ne : tail.isEmpty = false
/-- own classes, then the base's mro -/
def over (tail : List Value) : List Value → Bool
  | .ref _ :: r => over tail r
  | l => l == tail
theorem over_cases (tail : List Value) : ∀ l : List Value, over tail l = true → (∃ c r, l = .ref c :: r ∧ over tail r = true) ∨ l = tail
  | [], e => .inr (beq_iff_eq.mp e)
  | v :: r, e => by
    cases v with
    | ref c => exact .inl ⟨c, r, rfl, e⟩
    | _ => exact .inr (beq_iff_eq.mp e)
section
variable {B newId initId : String} {tail : List Value}
theorem XB.passes (b : XB B newId initId tail) (self : Value) (l : List Value) (h : over tail l = true) : refuseLoop self "__setattr__" l = pure () := by
  induction l with
  | nil =>
    rcases over_cases tail [] h with ⟨c, r, e, _⟩ | e
    · cases e
    · rw [e]; exact b.pass self
  | cons a r ih =>
    rcases over_cases tail (a :: r) h with ⟨c, r', e, q⟩ | e
    · cases e
      rw [refuseLoop_ref]
      exact ih q
    · rw [e]; exact b.pass self
theorem over_contains (X : String) (l : List Value) (h : over tail l = true) : l.contains (.type X) = tail.contains (.type X) := by
  induction l with
  | nil =>
    rcases over_cases tail [] h with ⟨c, r, e, _⟩ | e
    · cases e
    · rw [e]
  | cons a r ih =>
    rcases over_cases tail (a :: r) h with ⟨c, r', e, q⟩ | e
    · cases e
      rw [List.contains_cons, ih q]; rfl
    · rw [e]
theorem XB.nonempty (b : XB B newId initId tail) {l : List Value} (h : over tail l = true) : l.isEmpty = false := by
  cases l with
  | nil =>
    rcases over_cases tail [] h with ⟨c, r, e, _⟩ | e
    · cases e
    · rw [e]; exact b.ne
  | cons a r => rfl
end
theorem xbV : XB "ValueError" "ValueError.__new__" "ValueError.__init__" [.type "ValueError", .type "Exception", .type "BaseException", .type "object"] := ⟨F.excBase_ValueError, F.store_ValueError.passes, by decide +kernel, rfl⟩
theorem xbL : XB "LookupError" "LookupError.__new__" "LookupError.__init__" [.type "LookupError", .type "Exception", .type "BaseException", .type "object"] := ⟨F.excBase_LookupError, F.store_LookupError.passes, by decide +kernel, rfl⟩
theorem xbR : XB "RuntimeError" "RuntimeError.__new__" "RuntimeError.__init__" [.type "RuntimeError", .type "Exception", .type "BaseException", .type "object"] := ⟨F.excBase_RuntimeError, F.store_RuntimeError.passes, by decide +kernel, rfl⟩

/-! ### the call of such a class, keywords too -/
section
open Builtin Builtin.ObjectAttr PySem.W
variable {h : Heap} {g : Array GenState} {d : Drawn} {t : Nat} {os : OsState}
variable {nm q : Str} {C N : Addr} {bs bm bmB : List Value} {hdct : Bool} {sn : List Str} {sub : List Value} {ab : Bool} {col : Option Bool} {dd : Option Addr} {k0 k1 k2 k3 k5 : Option Value} {B newId initId : String}
variable (F : ExcBaseFacts B newId initId bmB) (hT : ∀ X : String, bm.contains (.type X) = bmB.contains (.type X))
include F hT
theorem checkK {M : Model} {A : Around} {E : Value → Shared → Prop} {rest : List Value} {kw : List (Str × Value)} {Q : Unit → Shared → Prop}
    (hC : h.get? C = some (excClassObj nm q C N bs bm hdct sn sub ab col dd k0 k1 k2 k3 k5 newId)) (hq : Q () ⟨h, g, d, t, os⟩) : wpAny M A (checkBuiltinCall newId ⟨.ref C :: rest, kw⟩) Q E ⟨h, g, d, t, os⟩ := by
  have c1 : (Value.ref C :: bm).contains (.type B) = true := by rw [List.contains_cons, hT, F.hasB, Bool.or_true]
  have c2 := F.noStar
  simp only [checkBuiltinCall, F.newKind, F.newSplit, F.newRow]
  repeat (first | refine wpAny_loadPart_at hC ?_ | (refine wpAny_isSubtype_exc hC ?_; rw [c1]) | refine wpAny_staticBase_exc hC ?_ | refine wpAny_madeBy_exc hC ?_ | simp only [bne_self_eq_false, Bool.false_eq_true, if_false] | wp_step)
  exact hq
theorem newK {prog : Program} {w : World} {A : Around} {R : Result → Shared → Prop} {rest : List Value} {kw : List (Str × Value)}
    (hC : h.get? C = some (excClassObj nm q C N bs bm hdct sn sub ab col dd k0 k1 k2 k3 k5 newId))
    (hq : R (.ok (.ret (.ref (h.objs.size + 1)))) ⟨(h.push { cls := .type "tuple", data := .seq rest.toArray }).push { cls := .ref C, data := .fields #[.ref h.objs.size, .none, .none, .none, .bool false, .none] }, g, d, t, os⟩) (hrest : rest.length ≤ sizeLine) :
    codeAny (model prog w) A (.builtin newId ⟨.ref C :: rest, kw⟩) R ⟨h, g, d, t, os⟩ := by
  have e0 := F.ends
  have c1 : (Value.ref C :: bm).contains (.type B) = true := by rw [List.contains_cons, hT, F.hasB, Bool.or_true]
  have c2 : (Value.ref C :: bm).contains (.type "AttributeError") = false := by rw [List.contains_cons, hT, F.noAttr]; rfl
  have c3 : (Value.ref C :: bm).contains (.type "NameError") = false := by rw [List.contains_cons, hT, F.noName]; rfl
  refine codeAny_builtinAt F.entry (by
    unfold Builtin.«BaseException.__new__»
    refine PySem.wpAt_bind ?_
    show PySem.wpAt _ _ _ (stack >>= _) _ _ _
    refine PySem.wpAt_bind (PySem.wpAt_stack fun p below => PySem.wpAt_of_wpAny ?_)
    wp_walk
    refine PySem.wpAt_of_wpAny ?_
    rw [F.owner]
    repeat (first | with_reducible refine wpAny_madeHere_exc F.canon hC ?_ | with_reducible refine wpAny_loadPart_at hC ?_ | (with_reducible refine wpAny_isSubtype_exc hC ?_; first | rw [c1] | rw [c2] | rw [c3]) | wp_step)
    show R _ _
    rw [Heap.size_push]
    exact hq)
theorem typeCallK {prog : Program} {w : World} {A : Around} {E : Value → Shared → Prop} {rest : List Value} {kw : List (Str × Value)} {fI : Addr} {Q : Fin → Shared → Prop}
    (hC : h.get? C = some (excClassObj nm q C N bs bm hdct sn sub ab col dd k0 k1 k2 k3 k5 newId))
    (hi : W.Looks (model prog w) h (typeLookup (.ref C) "__init__") (some (.ref fI))) (hb : ∀ self, W.Looks (model prog w) h (bindSpecial (.ref fI) self) (.ref fI, [self])) (hrest : rest.length ≤ sizeLine)
    (hq : codeAny (model prog w) A (.call (.ref fI) ⟨.ref (h.objs.size + 1) :: rest, kw⟩)
      (fun r s' => match r with | .ok (.ret v) => v = .none ∧ Q (.done (.ret (.ref (h.objs.size + 1)))) s' | .ok _ => False | .error e => E e s')
      ⟨(h.push (W.kdv_tup rest)).push (excO C h.objs.size), g, d, t, os⟩) :
    wpAny (model prog w) A (Builtin.«type.__call__» ⟨.ref C :: rest, kw⟩) Q E ⟨h, g, d, t, os⟩ := by
  repeat (first | with_reducible refine wpAny_loadPart_at hC ?_ | with_reducible refine wpAny_madeBy_exc hC ?_ | wp_step)
  refine codeAny_call_builtin_code (Code.quiet_builtin _ F.quiet) (checkK F hT hC (newK F hT hC ?_ hrest))
  show wpAny _ _ _ _ _ _
  have kp : ∀ b o, h.get? b = some o → ((h.push (W.kdv_tup rest)).push (excO C h.objs.size)).get? b = some o := fun b o e => Heap.get?_push_of_some _ (Heap.get?_push_of_some _ e)
  have hC1 := kp _ _ hC
  have at1 : ((h.push (W.kdv_tup rest)).push (excO C h.objs.size)).get? (h.objs.size + 1) = some (excO C h.objs.size) := by heap_get
  have own : (Value.ref C :: bm).contains (.ref C) = true := by simp
  have j1 := hi.keeps kp
  have j2 := (hb (.ref (h.objs.size + 1))).keeps kp
  unfold isInstance
  repeat (first | with_reducible refine wpAny_loadPart_at at1 ?_ | (with_reducible refine wpAny_isSubtype_exc hC1 ?_; rw [own]) | wp_step)
  show wpAny _ _ (typeLookup (.ref C) _) _ _ _
  refine j1.at (wpAny_holding (wpAny_bind (j2.at (wpAny_bind (wpAny_call (codeAny_mono hq fun r s' z => ?_))))))
  rcases r with e | (v | _ | _ | _) <;> first | exact z | exact z.elim | skip
  obtain ⟨rfl, z⟩ := z
  first
    | exact wpAny_pure (wpAny_pure z)
    | (wp_walk; exact z)
theorem callK {prog : Program} {w : World} {A : Around} {R : Result → Shared → Prop} {rest : List Value} {kw : List (Str × Value)} {fI : Addr}
    (hC : h.get? C = some (excClassObj nm q C N bs bm hdct sn sub ab col dd k0 k1 k2 k3 k5 newId))
    (hi : W.Looks (model prog w) h (typeLookup (.ref C) "__init__") (some (.ref fI))) (hb : ∀ self, W.Looks (model prog w) h (bindSpecial (.ref fI) self) (.ref fI, [self])) (hrest : rest.length ≤ sizeLine)
    (hq : codeAny (model prog w) (A.under (.builtin "type.__call__" ⟨.ref C :: rest, kw⟩)) (.call (.ref fI) ⟨.ref (h.objs.size + 1) :: rest, kw⟩) (W.InitBack (h.objs.size + 1) R)
      ⟨(h.push (W.kdv_tup rest)).push (excO C h.objs.size), g, d, t, os⟩) :
    codeAny (model prog w) A (.call (.ref C) ⟨rest, kw⟩) R ⟨h, g, d, t, os⟩ := by
  have a1 := tc_lookup
  have a2 := tc_bind (.ref C)
  have a3 : (⟨h, g, d, t, os⟩ : Shared).TypeIs (.ref C) "type" := ⟨_, hC, rfl⟩
  refine codeAny_of_tree (show wpAny _ _ (callAny (.ref C) _) _ _ _ from ?_)
  repeat (any_goals (first | assumption | with_reducible refine wpAny_loadPart_at hC ?_ | wp_step))
  refine ⟨rfl, codeAny_call_builtin_at (Code.quiet_builtin _ (by decide +kernel)) entry_typeCall (wpAny_check_type_call_sub hC (typeCallK F hT hC hi hb hrest (codeAny_mono hq fun r s' z => ?_)))⟩
  rcases r with e | (v | _ | _ | _) <;> exact z
end

/-! ### self.f = v in such an exception -/
section
open Builtin Builtin.ObjectAttr PySem.W
variable {prog : Program} {w : World} {A : Around} {R : Result → Shared → Prop} {hp : Heap} {g : Array GenState} {d : Drawn} {t : Nat} {os : OsState}
variable {B newId initId : String} {tail : List Value} {K : W.Frag} {name : Str} {tk : Tok} {v : Value} {x C : Addr} {fv : Array Value} {cd : ClassData}
/-- what the store begins with -/
theorem osaRun (b : XB B newId initId tail) {dx : Option Addr} {od : Option Obj} (X : K.In hp) (I : W.InstAt hp x { cls := .ref C, dict := dx, data := .fields fv } C od) (hcd : W.clsIn K C = some cd) (hm : over tail cd.mro = true) (ha : W.findIn K (.ref C) name = some none)
    (go : wpAny (model prog w) A.in1 (storeInOwnDict (.ref x) (.ref C) (.str name tk) name v false) (fun fin s' => match fin with | .done f => R (.ok f) s' | .again c' => c'.quiet = true ∧ codeAny (model prog w) A c' R s') (fun e s' => R (.error e) s') ⟨hp, g, d, t, os⟩) :
    codeAny (model prog w) A (.call (.builtin "object.__setattr__") ⟨[.ref x, .str name tk, v], []⟩) R ⟨hp, g, d, t, os⟩ := by
  have SF := F.store_object
  have h1 : cd.mro.contains (.type "object") = true := (over_contains "object" _ hm).trans b.obj
  have sub : W.Looks (model prog w) hp (isInstance (.ref x) (.type "object")) true := I.type.andThen (W.looks_mroIn X (by unfold W.mroIn; rw [hcd, Option.bind_some, if_neg (by rw [b.nonempty hm]; decide), h1]))
  have h2 : W.Looks (model prog w) hp (mroOf (.ref C)) cd.mro := (W.looks_clsIn X hcd).andThen .now
  have h3 : W.Looks (model prog w) hp (storeTaker? none) none := .now
  refine codeAny_call_builtin SF.slot.plain SF.entry (@W.check_slot (model prog w) _ _ ⟨hp, g, d, t, os⟩ "object.__setattr__" "object" "__setattr__" (.ref x) [.str name tk, v] [] _ SF.kind SF.split sub (SF.args (.ref x) (.str name tk) v) ?_)
  rw [W.osa_eq, refuse_eq]
  refine wpAny_bind (wpAny_bind (I.type.at (wpAny_bind (h2.at ?_))))
  rw [b.passes _ _ hm]
  exact wpAny_pure (wpAny_bind (I.type.at (wpAny_bind ((W.looks_findIn X ha).at (wpAny_bind (h3.at go))))))
theorem osaNew (b : XB B newId initId tail) (X : K.In hp) (hx : hp.get? x = some { cls := .ref C, data := .fields fv }) (hcd : W.clsIn K C = some cd) (hm : over tail cd.mro = true) (hh : cd.hasDict = true) (ha : W.findIn K (.ref C) name = some none)
    (hq : ∀ h' tk' dx, (∀ b o, b ≠ x → hp.get? b = some o → h'.get? b = some o) → hp.objs.size ≤ dx → dx ≠ x → h'.get? x = some { cls := .ref C, dict := some dx, data := .fields fv } →
      h'.Ns1 dx (fun y => if y = name then some v else none) → R (.ok (.ret .none)) ⟨h', g, d, tk', os⟩) :
    codeAny (model prog w) A (.call (.builtin "object.__setattr__") ⟨[.ref x, .str name tk, v], []⟩) R ⟨hp, g, d, t, os⟩ := by
  refine osaRun (od := none) b X ⟨hx, rfl, rfl, trivial⟩ hcd hm ha ?_
  have ns : x ≠ hp.objs.size := Nat.ne_of_lt (Heap.lt_size hx)
  have lk : W.Looks (model prog w) hp (classData C) cd := W.looks_clsIn X hcd
  obtain ⟨nm, bs, mro, nsx, qn, hd, sn, sb, ab, col, del⟩ := cd
  cases (show hd = true from hh)
  unfold storeInOwnDict ownDictForStores
  repeat (first | with_reducible refine PySem.HandSPX.store_in_new ?_ ?_ | with_reducible refine wpAny_loadPart_at hx ?_ | with_reducible refine lk.at ?_ | wp_step)
  · exact ⟨_, #[], _, (Heap.get?_update_ne _ _ _ _ ns.symm).trans (Heap.get?_push_at rfl rfl), rfl, fun e he => absurd he (by simp), fun _ => rfl⟩
  · intro h' tk' hn' hs
    have hx1 : (hp.push { cls := .type "dict", data := .dict #[] }).get? x = some { cls := .ref C, data := .fields fv } := Heap.get?_push_of_some _ hx
    exact hq h' tk' hp.objs.size (fun b o hb ho => (hs.2 b (Nat.ne_of_lt (Heap.lt_size ho))).trans ((Heap.get?_update_ne _ _ _ _ hb).trans (Heap.get?_push_of_some _ ho))) (Nat.le_refl _) ns.symm ((hs.2 x ns).trans (Heap.get?_update_self _ hx1 rfl)) hn'
theorem osaOld (b : XB B newId initId tail) {dx : Addr} {m0 : Str → Option Value} {nl : List Str} (X : K.In hp) (hx : hp.get? x = some { cls := .ref C, dict := some dx, data := .fields fv }) (hns : hp.Ns1 dx m0) (hw : Within m0 nl) (hz : nl.length ≤ 1000) (hcd : W.clsIn K C = some cd) (hm : over tail cd.mro = true) (hh : cd.hasDict = true)
    (ha : W.findIn K (.ref C) name = some none)
    (hq : ∀ h' tk', (∀ b o, b ≠ dx → hp.get? b = some o → h'.get? b = some o) → h'.Ns1 dx (fun y => if y = name then some v else m0 y) → R (.ok (.ret .none)) ⟨h', g, d, tk', os⟩) :
    codeAny (model prog w) A (.call (.builtin "object.__setattr__") ⟨[.ref x, .str name tk, v], []⟩) R ⟨hp, g, d, t, os⟩ := by
  obtain ⟨oD, _, _, hoD, _, _⟩ := hns.count hw
  refine osaRun b (od := some oD) X ⟨hx, rfl, rfl, hoD⟩ hcd hm ha ?_
  have lk : W.Looks (model prog w) hp (classData C) cd := W.looks_clsIn X hcd
  obtain ⟨nm, bs, mro, nsx, qn, hd, sn, sb, ab, col, del⟩ := cd
  cases (show hd = true from hh)
  unfold storeInOwnDict ownDictForStores
  repeat (first | with_reducible refine PySem.OEX.store_in_old hns hw hz ?_ | with_reducible refine wpAny_loadPart_at hx ?_ | with_reducible refine lk.at ?_ | wp_step)
  intro h' tk' hn' hs
  exact hq h' tk' (fun b o hb ho => (hs.2 b hb).trans ho) hn'
end

/-- what the written part says of an exception class of the program -/
structure XC (K : PySem.W.Frag) (C : Addr) : Prop where
  cls : ∃ B newId initId tail, XB B newId initId tail ∧ ∃ nm q N bs bm sn sub ab col dd k0 k1 k2 k3 k5, K.lookup C = some (excClassObj nm q C N bs bm true sn sub ab col dd k0 k1 k2 k3 k5 newId) ∧ over tail bm = true
  sa : PySem.W.findIn K (.ref C) "__setattr__" = some (some (.builtin "object.__setattr__"))
  exC : PySem.W.subIn K (.ref C) (.type "BaseException") = some true
  tyC : PySem.W.typeIn K (.ref C) = some (.type "type")
  kC : PySem.W.keepIn K (.ref C) = true
section
variable {X : Cx} {pins : List (Addr × Obj)} {σ : L2.St} {H : Hp} {s : Shared} {a C dx : Addr} {f : Str} {y : V} {u : Value} {fs : List (Str × V)} {Q : Unit → Shared → Prop} {E : Value → Shared → Prop} {A : Around}
theorem xst_new (T : XC X.K C) (I : Inv X pins σ H s) (e : H a = some (exo a C none)) (hno : PySem.W.findIn X.K (.ref C) f = some none) (ry : RelV y u)
    (h : ∀ dx s', H dx = none → dx ≠ a → Inv X pins σ (upd (upd H dx (exd dx [(f, y)])) a (exo a C (some dx))) s' → Q () s') : wpAny (model X.prog X.w) A (setAttr (.ref a) f u) Q E s := by
  obtain ⟨B, newId, initId, tail, b, nm, q, N, bs, bm, sn, sub, ab, col, dd, k0, k1, k2, k3, k5, hC, hbm⟩ := T.cls
  have hcl : PySem.W.clsIn X.K C = some { name := nm, bases := bs, mro := .ref C :: bm, ns := N, qualname := q, hasDict := true, slotNames := sn, subclasses := sub, abstract := ab, collection := col, hasDel := false } := by unfold PySem.W.clsIn; rw [hC] <;> rfl
  obtain ⟨t1, ho⟩ := exo_at I.hok e
  obtain ⟨hp, g, d, t, os⟩ := s
  refine PySem.W.set_plain I.kIn (ox := { cls := .ref C, dict := none, data := .fields #[.ref t1, .none, .none, .none, .bool false, .none] }) (od := none) ⟨ho, rfl, rfl, trivial⟩ T.sa (osaNew b I.kIn ho hcl (show over tail (.ref C :: bm) = true from hbm) rfl hno fun h' tk' dx k dn dne hx hn => ?_)
  have hnd : H dx = none := I.hok.fresh dn
  have n1 : ∀ {b : Addr} {o : Obj}, hp.get? b = some o → b ≠ dx := fun {b o} q => Nat.ne_of_lt (Nat.lt_of_lt_of_le (Heap.lt_size q) dn)
  have n2 : ∀ {b : Addr}, H b = none → b ≠ a := fun {b} n z => by rw [z, e] at n; cases n
  have U : Un X.fs [] H (upd (upd H dx (exd dx [(f, y)])) a (exo a C (some dx))) hp h' := {
    keep := fun b o q n _ _ => k b o (n2 n) q
    slot := fun b o q n _ _ => ⟨o.slots, k b o (n2 n) q⟩
    free := fun b o q n _ => by rw [upd_ne (n2 n), upd_ne (n1 q)]; exact n
    there := fun b o q _ => by
      by_cases hb : b = a
      · exact ⟨_, by rw [hb]; exact hx⟩
      · exact ⟨o, k b o hb q⟩
    tups := fun b xs q => by rw [upd_ne (at_ne e q exo_tup), upd_ne (ne_of_none q hnd)]; exact q
    frzs := fun b o v q => by rw [upd_ne (at_ne e q exo_frz), upd_ne (ne_of_none q hnd)]; exact q
    tbls := fun b ps q => ⟨#[], by rw [upd_ne (at_ne e q exo_tbl), upd_ne (ne_of_none q hnd), q]; simp⟩ }
  refine h dx _ hnd dne (I.un (t' := tk') U fun b o q => ?_)
  by_cases hb : b = a
  · subst hb
    rw [upd_same] at q
    cases q
    exact exo_ok hx
  · rw [upd_ne hb] at q
    by_cases hd : b = dx
    · subst hd
      rw [upd_same] at q
      cases q
      exact exd_ok hn (relO_put (fs := []) ry fun g => True.intro)
    · rw [upd_ne hd] at q
      refine (I.hok b o q).stay (fun c v hc z => k c v ?_ z) (fun c hc => by rw [upd_ne (at_ne e hc exo_own), upd_ne (ne_of_none hc hnd)]; exact hc) (fun c xs hc => by rw [upd_ne (at_ne e hc exo_tup), upd_ne (ne_of_none hc hnd)]; exact hc)
      rcases hc with hc | hc
      · rw [hc]; exact hb
      · exact at_ne e hc exo_own
theorem xst_old (T : XC X.K C) (I : Inv X pins σ H s) (e : H a = some (exo a C (some dx))) (ed : H dx = some (exd dx fs)) (hl : fs.length ≤ 900) (hno : PySem.W.findIn X.K (.ref C) f = some none) (ry : RelV y u)
    (h : ∀ s', Inv X pins σ (upd H dx (exd dx ((f, y) :: fs))) s' → Q () s') : wpAny (model X.prog X.w) A (setAttr (.ref a) f u) Q E s := by
  obtain ⟨B, newId, initId, tail, b, nm, q, N, bs, bm, sn, sub, ab, col, dd, k0, k1, k2, k3, k5, hC, hbm⟩ := T.cls
  have hcl : PySem.W.clsIn X.K C = some { name := nm, bases := bs, mro := .ref C :: bm, ns := N, qualname := q, hasDict := true, slotNames := sn, subclasses := sub, abstract := ab, collection := col, hasDel := false } := by unfold PySem.W.clsIn; rw [hC] <;> rfl
  obtain ⟨t1, ho⟩ := exo_at I.hok e
  obtain ⟨mA, hns, rel⟩ := exd_at I.hok ed
  have hw := within_of rel
  obtain ⟨hp, g, d, t, os⟩ := s
  obtain ⟨oD, _, _, hoD, _, _⟩ := hns.count hw
  refine PySem.W.set_plain I.kIn (ox := { cls := .ref C, dict := some dx, data := .fields #[.ref t1, .none, .none, .none, .bool false, .none] }) (od := some oD) ⟨ho, rfl, rfl, hoD⟩ T.sa (osaOld b I.kIn ho hns hw (by rw [List.length_map]; omega) hcl (show over tail (.ref C :: bm) = true from hbm) rfl hno fun h' tk' k hn => ?_)
  have hd : ∃ o, h'.get? dx = some o := by
    obtain ⟨o, _, _, e', _⟩ := hn
    exact ⟨o, e'⟩
  exact h _ (I.write (t' := tk') (x := dx) (e := dx) (o := exd dx ((f, y) :: fs)) (by rw [ed]; exact True.intro) (.inl rfl) k hd (exd_ok hn (relO_put ry rel)))
end
end M
/-! M9: making exceptions as values; their fields. -/
namespace M
open PySem PySem.Spec PyProof.Rows L2

/-! ### __init__ of one and of two fields -/
/-- self.f = e, by the heap -/
def tXst (K : PySem.W.Frag) (f : Str) (to te : TE) : TS := fun D σ H => te σ H fun y H1 => to σ H1 fun x H2 => ∃ a C : Addr, x = .ref a ∧ XC K C ∧ PySem.W.findIn K (.ref C) f = some none ∧
  ((H2 a = some (exo a C none) ∧ ∀ dx, H2 dx = none → dx ≠ a → D.nx σ (upd (upd H2 dx (exd dx [(f, y)])) a (exo a C (some dx)))) ∨
    ∃ (dx : Addr) (fs : List (Str × V)), H2 a = some (exo a C (some dx)) ∧ H2 dx = some (exd dx fs) ∧ fs.length ≤ 900 ∧ D.nx σ (upd H2 dx (exd dx ((f, y) :: fs))))
theorem ps_xst {X : Cx} {o e : Expr} {to te : TE} {f : Str} {p' pos : Pos} (ho : PE X o to) (he : PE X e te) (hs : swapsWith e (some (.Attribute o f p')) pos.line X.env = pure false := by rfl) : PS X (.Assign [.Attribute o f p'] e pos) (tXst X.K f to te) := by
  refine ⟨fun pins s σ H D I h => plainObj_wpAny_Assign_Attribute (thn (he.run pins s σ H _ I h) fun v s1 ⟨y, H1, I1, r1, q1⟩ => thn (ho.run pins s1 σ H1 _ I1 q1) fun u s2 ⟨x, H2, I2, r2, a, C, ex, T, hno, q⟩ => ?_) hs⟩
  subst ex
  cases (show u = Value.ref a from r2)
  rcases q with ⟨ea, q⟩ | ⟨dx, fs, ea, ed, hl, q⟩
  · exact xst_new T I2 ea hno r1 fun dx s' n ne J => ⟨σ, _, J, q dx n ne⟩
  · exact xst_old T I2 ea ed hl hno r1 fun s' J => ⟨σ, _, J, q⟩
/-- the promise of such an __init__ -/
def spX (K : PySem.W.Frag) (fs : List Str) : Sp := fun vs H Q _ => ∃ (a C : Addr) (ys : List V), vs = .ref a :: ys ∧ ys.length = fs.length ∧ XC K C ∧ (∀ f ∈ fs, PySem.W.findIn K (.ref C) f = some none) ∧ H a = some (exo a C none) ∧
  ∀ d, H d = none → d ≠ a → Q .non (upd (upd H d (exd d (fs.zip ys).reverse)) a (exo a C (some d)))
section
variable {P : Program} {w : World} {K : PySem.W.Frag} {mg : Str → Option Value} {base : Heap} {qual : Str} {params : Arguments} {scope : Scope} {dvs : List V} {kws : List (Str × V)} {f : Addr} {fd : FuncData} {k : Nat} {p1 p2 p3 p4 q1 q2 q3 q4 : Pos} {CX : CXT}
theorem ok_init1 {x1 : Str} (Fd : FunD K "__init__" qual params [.Assign [.Attribute (.Name "self" p1) x1 p2] (.Name x1 p3) p4] scope dvs kws f fd) (S : FnScope ["self", x1] ["self", x1] scope) (v0 : scope.names.lookup ("self" : Str) = some .local) (v1 : scope.names.lookup x1 = some .local)
    (d1 : (x1 == ("__debug__" : Str)) = false) (c1 : (x1 == ("__classdict__" : Str)) = false) : FnOk P w K mg base CX (k + 1) f fd ["self", x1] (spX K [x1]) := by
  refine Fd.ok S (fun vs H Q E h => ?_) (fun cdv A outer s H vs Q E hr h => ⟨_, pss_one (ps_xst (pe_var (i := 0) rfl (.inl v0)) (pe_var (i := 1) rfl (.inl v1) d1 c1)), ?_⟩)
  · obtain ⟨a, C, ys, rfl, hl, _⟩ := h
    rw [List.length_cons, hl]; rfl
  · obtain ⟨a, C, ys, rfl, hl, T, hf, ea, q⟩ := h
    match ys, hl with
    | [y], _ => exact ⟨y, rfl, .ref a, rfl, a, C, rfl, T, hf _ (by simp), .inl ⟨ea, fun d hd ne => q d hd ne⟩⟩
theorem upd_comm {H : Hp} {a b : Addr} {o u : HO} (h : a ≠ b) : upd (upd H a o) b u = upd (upd H b u) a o := by
  funext c
  by_cases e : c = a
  · rw [e, upd_ne h, upd_same, upd_same]
  · by_cases e2 : c = b
    · rw [e2, upd_same, upd_ne h.symm, upd_same]
    · rw [upd_ne e2, upd_ne e, upd_ne e, upd_ne e2]
theorem ok_init2 {x1 x2 : Str} (Fd : FunD K "__init__" qual params [.Assign [.Attribute (.Name "self" p1) x1 p2] (.Name x1 p3) p4, .Assign [.Attribute (.Name "self" q1) x2 q2] (.Name x2 q3) q4] scope dvs kws f fd) (S : FnScope ["self", x1, x2] ["self", x1, x2] scope)
    (v0 : scope.names.lookup ("self" : Str) = some .local) (v1 : scope.names.lookup x1 = some .local) (v2 : scope.names.lookup x2 = some .local)
    (d1 : (x1 == ("__debug__" : Str)) = false) (c1 : (x1 == ("__classdict__" : Str)) = false) (d2 : (x2 == ("__debug__" : Str)) = false) (c2 : (x2 == ("__classdict__" : Str)) = false) : FnOk P w K mg base CX (k + 1) f fd ["self", x1, x2] (spX K [x1, x2]) := by
  refine Fd.ok S (fun vs H Q E h => ?_) (fun cdv A outer s H vs Q E hr h => ⟨_, pss_cons (ps_xst (pe_var (i := 0) rfl (.inl v0)) (pe_var (i := 1) rfl (.inl v1) d1 c1)) (pss_one (ps_xst (pe_var (i := 0) rfl (.inl v0)) (pe_var (i := 2) rfl (.inl v2) d2 c2))), ?_⟩)
  · obtain ⟨a, C, ys, rfl, hl, _⟩ := h
    rw [List.length_cons, hl]; rfl
  · obtain ⟨a, C, ys, rfl, hl, T, hf, ea, q⟩ := h
    match ys, hl with
    | [y, z], _ =>
      refine ⟨y, rfl, .ref a, rfl, a, C, rfl, T, hf _ (by simp), .inl ⟨ea, fun d hd ne => ?_⟩⟩
      refine ⟨z, rfl, .ref a, rfl, a, C, rfl, T, hf _ (by simp), .inr ⟨d, [(x1, y)], upd_same, by rw [upd_ne ne, upd_same], by show 1 ≤ 900; decide, ?_⟩⟩
      have e : upd (upd (upd H d (exd d [(x1, y)])) a (exo a C (some d))) d (exd d [(x2, z), (x1, y)]) = upd (upd H d (exd d [(x2, z), (x1, y)])) a (exo a C (some d)) := by
        rw [upd_comm (a := d) (b := a) ne, upd_upd, upd_comm (a := a) (b := d) ne.symm]
      show Q .non (upd (upd (upd H d (exd d [(x1, y)])) a (exo a C (some d))) d (exd d [(x2, z), (x1, y)]))
      rw [e]
      exact q d hd ne
end

/-! ### C(..) as a value -/
section
variable {X : Cx} {CX : CXT} {k n : Nat} {fI C : Addr} {fd : FuncData} {ps ks : List Str} {E : Value → Shared → Prop}
theorem exq_ok {P : Program} {w : World} {H : Hp} {h : Heap} {a C : Addr} {d : Option Addr} {vs : Array Value} (e : h.get? a = some ({ cls := .ref C, dict := d, data := .fields vs } : Obj)) : ObjOk P w H h a (exq a C d) :=
  ⟨⟨vs, e⟩, ⟨_, e⟩, fun h1 h2 ⟨v, q⟩ k => ⟨v, k _ q⟩⟩
/-- an exception that was just made is one that nobody changes -/
theorem retag {pins : List (Addr × Obj)} {σ : L2.St} {H : Hp} {s : Shared} {a C d : Addr} {gs : List (Str × V)} (ne : d ≠ a) (I : Inv X pins σ (upd (upd H d (exd d gs)) a (exo a C (some d))) s) : Inv X pins σ (upd (upd H a (exq a C (some d))) d (.xd gs)) s := by
  have ea : (upd (upd H d (exd d gs)) a (exo a C (some d))) a = some (exo a C (some d)) := upd_same
  obtain ⟨t1, ho⟩ := exo_at I.hok ea
  have J := I.write (t' := s.toks) (h' := s.heap) (x := a) (e := a) (o := exq a C (some d)) (by rw [ea]; exact True.intro) (.inl rfl) (fun _ _ _ q => q) ⟨_, ho⟩ (exq_ok ho)
  rw [upd_upd] at J
  have ed : (upd (upd H d (exd d gs)) a (exq a C (some d))) d = some (exd d gs) := by rw [upd_ne ne, upd_same]
  obtain ⟨mA, hn, rel⟩ := exd_at J.hok ed
  obtain ⟨oD, _, _, hoD, _⟩ := id hn
  have J2 := J.write (t' := s.toks) (h' := s.heap) (x := d) (e := d) (o := .xd gs) (by rw [ed]; exact True.intro) (.inl rfl) (fun _ _ _ q => q) ⟨_, hoD⟩ ⟨mA, hn, rel⟩
  rw [upd_comm (a := d) (b := a) ne, upd_upd] at J2
  exact J2
theorem run_mkx {pins : List (Addr × Obj)} {σ : L2.St} {H : Hp} {s : Shared} {Q : VK} {us ws : List Value} {vs zs ys : List V} {g : List Value → List Value → List Value} {gV : List V → List V → List V} {fs : List Str} (T : XC X.K C) (iC : PySem.W.findIn X.K (.ref C) "__init__" = some (some (.ref fI))) (tI : PySem.W.typeIn X.K (.ref fI) = some (.type "function"))
    (F1 : FnOk X.prog X.w X.K X.mg X.base CX k fI fd ps (spX X.K fs)) (hr : Room (k + 1) X.A) (hb : KBn X.K fd ps (n + 1) ks g gV) (hx : Passes CX X (fun _ _ _ => False)) (I : Inv X pins σ H s) (r : Vals vs us) (rz : Vals zs ws) (hl : vs.length ≤ 1000) (l1 : vs.length = n) (l2 : zs.length = ks.length)
    (hg : ∀ a, gV (.ref a :: vs) zs = .ref a :: ys) (hy : ys.length = fs.length) (hf : ∀ f ∈ fs, PySem.W.findIn X.K (.ref C) f = some none)
    (q : ∀ a d, H a = none → H d = none → d ≠ a → Q (.ref a) (upd (upd H a (exq a C (some d))) d (.xd (fs.zip ys).reverse))) :
    wpAny (model X.prog X.w) X.A (call (.ref C) us (ks.zip ws)) (EP X pins σ Q) X.xe s := by
  obtain ⟨B, newId, initId, tail, b, nm, qn, N, bs, bm, sn, sub, ab, col, dd, k0, k1, k2, k3, k5, hC, hbm⟩ := T.cls
  obtain ⟨hp, g0, dr, tk, os⟩ := s
  have hsz : hp.objs.size ≤ hp.objs.size + 1 := Nat.le_succ _
  have hn : H (hp.objs.size + 1) = none := I.hok.fresh hsz
  have kk : ∀ b o, hp.get? b = some o → ((hp.push (PySem.W.kdv_tup us)).push (PySem.HandSPX.excO C hp.objs.size)).get? b = some o := fun b o e => Heap.get?_push_of_some _ (Heap.get?_push_of_some _ e)
  have hget : ((hp.push (PySem.W.kdv_tup us)).push (PySem.HandSPX.excO C hp.objs.size)).get? (hp.objs.size + 1) = some (PySem.HandSPX.excO C hp.objs.size) := by heap_get
  have I2 : Inv X pins σ (upd H (hp.objs.size + 1) (exo (hp.objs.size + 1) C none)) ⟨(hp.push (PySem.W.kdv_tup us)).push (PySem.HandSPX.excO C hp.objs.size), g0, dr, tk, os⟩ :=
    I.laid (t' := tk) (a := hp.objs.size + 1) (o := exo (hp.objs.size + 1) C none) (h' := (hp.push (PySem.W.kdv_tup us)).push (PySem.HandSPX.excO C hp.objs.size)) kk hsz (exo_ok hget)
  have r1 : Vals (V.ref (hp.objs.size + 1) :: vs) (Value.ref (hp.objs.size + 1) :: us) := .cons rfl r
  have r2 := hb.rel r1 rz
  have hsp : spX X.K fs (gV (.ref (hp.objs.size + 1) :: vs) zs) (upd H (hp.objs.size + 1) (exo (hp.objs.size + 1) C none)) (fun v H' => v = .non ∧ Q (.ref (hp.objs.size + 1)) H' ∨ v = .non ∧ ∃ d, H d = none ∧ d ≠ hp.objs.size + 1 ∧ H' = upd (upd H d (exd d (fs.zip ys).reverse)) (hp.objs.size + 1) (exo (hp.objs.size + 1) C (some d))) (fun _ _ _ => False) := by
    refine ⟨hp.objs.size + 1, C, ys, hg _, hy, T, hf, upd_same, fun d hd ne => .inr ⟨rfl, d, ?_, ne, ?_⟩⟩
    · rw [upd_ne ne] at hd
      exact hd
    · rw [upd_comm (a := hp.objs.size + 1) (b := d) ne.symm, upd_upd]
  have n1 : (Value.ref (hp.objs.size + 1) :: us).length = n + 1 := by rw [List.length_cons, ← r.length, l1]
  have hus : us.length ≤ sizeLine := by rw [← Paired.length r, sizeLine_eq]; omega
  refine wpAny_call (callK b.f (fun Y => over_contains Y bm hbm) (I.kIn _ _ hC) (PySem.W.looks_findIn I.kIn iC) (fun self => PySem.W.bind_fn I.kIn self tI) hus
    (codeAny_mono (F1.run _ X.stack _ _ ⟨Value.ref (hp.objs.size + 1) :: us, ks.zip ws⟩ (g (Value.ref (hp.objs.size + 1) :: us) ws) _ _ (fun _ _ _ => False) (hr.make C us (ks.zip ws)) (I2.env0.make C us (ks.zip ws)) (hb.to _ (Value.ref (hp.objs.size + 1) :: us) ws I2.kIn n1 (rz.length.symm.trans l2)) r2 hsp) fun r s' hq' => ?_))
  cases r with
  | error er => exact hx pins σ _ _ er s' I2 hq'
  | ok fl =>
    cases fl with
    | ret u =>
      obtain ⟨v, H2, J, rv, z⟩ := I2.after hq'
      rcases z with ⟨rfl, z⟩ | ⟨rfl, d, hd, ne, rfl⟩
      · exact ⟨rv, .ref (hp.objs.size + 1), H2, J, rfl, z⟩
      · exact ⟨rv, .ref (hp.objs.size + 1), _, retag ne J, rfl, q _ d hn hd ne⟩
    | next => exact False.elim hq'
    | brk => exact False.elim hq'
    | cont => exact False.elim hq'
end

/-! ### .. in the embedding -/
theorem kbn_plain {K : PySem.W.Frag} {x qual : Str} {params : Arguments} {body : List Stmt} {scope : Scope} {kws : List (Str × V)} {f : Addr} {fd : FuncData} {ps : List Str} (F : FunD K x qual params body scope [] kws f fd) (n : Nat) (ks : List Str) (g : {α : Type} → List α → List α → List α)
    (hrel : ∀ {vs zs : List V} {us ws : List Value}, Vals vs us → Vals zs ws → Vals (g vs zs) (g us ws))
    (h : ∀ (kV doc pm : Value) (an : Option Addr) (cdv ct : Value) (us ws : List Value), us.length = n → ws.length = ks.length → bindArgs (PySem.W.fnOf x qual params body scope .none kV doc pm an cdv ct) ⟨us, ks.zip ws⟩ = pure (ps.zip (g us ws))) : KBn K fd ps n ks (fun us ws => g us ws) (fun vs zs => g vs zs) := by
  obtain ⟨oc, od, dV, kV, doc, pm, an, cdv, ct, osl, rfl, lk, hcd, hD, hK⟩ := F.ex
  rcases hD with ⟨_, rfl⟩ | ⟨e, _⟩
  · exact ⟨fun s us ws X l1 l2 => .of_eq (h kV doc pm an cdv ct us ws l1 l2), fun r1 r2 => hrel r1 r2⟩
  · exact absurd rfl e
/-- what is known of an exception class with its __init__ -/
structure XI (X : Cx) (k n : Nat) (C : Addr) (fs ks : List Str) (gV : List V → List V → List V) : Prop where
  cls : XC X.K C
  nf : ∀ f ∈ fs, PySem.W.findIn X.K (.ref C) f = some none
  ini : ∃ (fI : Addr) (fd : FuncData) (ps : List Str) (g : List Value → List Value → List Value), PySem.W.findIn X.K (.ref C) "__init__" = some (some (.ref fI)) ∧ PySem.W.typeIn X.K (.ref fI) = some (.type "function") ∧
    FnOk X.prog X.w X.K X.mg X.base (L2.CX X.prog X.w) k fI fd ps (spX X.K fs) ∧ KBn X.K fd ps (n + 1) ks g gV
/-- how the fields' values come of the arguments -/
structure Perm (gD : List D → List D → List D) (gV : List V → List V → List V) (n m : Nat) (fs : List Str) : Prop where
  rel : ∀ (W : Vw) ds es vs zs, RVs W ds vs → RVs W es zs → ds.length = n → es.length = m → ∃ ys, (∀ a, gV (.ref a :: vs) zs = .ref a :: ys) ∧ ys.length = fs.length ∧ RVs W (gD ds es) ys
def opMkx (C : Str) (n m : Nat) (fs : List Str) (gD : List D → List D → List D) (ds es : List D) (st : Sto) : R D := if ds.length = n ∧ es.length = m ∧ n ≤ 1000 then .ok (.exc C (fs.zip (gD ds es)).reverse) st else .bad
def iMkx (C : Str) (n m : Nat) (fs : List Str) (gD : List D → List D → List D) (j k : IA) : IE := fun env st => (j env st).bind fun ds s => (k env s).bind fun es s2 => opMkx C n m fs gD ds es s2
theorem zip_rf {W : Vw} : ∀ {fs : List Str} {ds : List D} {vs : List V}, RVs W ds vs → RFs W (fs.zip ds) (fs.zip vs)
  | [], _, _, _ => .nil
  | _ :: _, _, _, .nil => .nil
  | f :: fs, _, _, .cons h r => .cons h (zip_rf r)
theorem rf_append {W : Vw} : ∀ {ds ds' : List (Str × D)} {vs vs' : List (Str × V)}, RFs W ds vs → RFs W ds' vs' → RFs W (ds ++ ds') (vs ++ vs')
  | _, _, _, _, .nil, q => q
  | _, _, _, _, .cons h r, q => .cons h (rf_append r q)
theorem rf_reverse {W : Vw} : ∀ {ds : List (Str × D)} {vs : List (Str × V)}, RFs W ds vs → RFs W ds.reverse vs.reverse
  | _, _, .nil => .nil
  | _, _, .cons h r => by rw [List.reverse_cons, List.reverse_cons]; exact rf_append (rf_reverse r) (.cons h .nil)
section
variable {X : Cx} {F : Fx} {k n : Nat} {C x : Str} {fs ks : List Str} {gV : List V → List V → List V} {gD : List D → List D → List D} {p pos : Pos} {e : Expr} {es : List Expr} {kws : List Keyword} {j jk : IA}
theorem k_nil : PK X [] (TA_ F aNil) := ⟨fun pos pins s σ H Q I h => (pk_nil (X := X)).run pos pins s σ H Q I (by
  obtain ⟨W, st, env, A, p⟩ := h
  have q := p W.ρ W.H [] Ext.refl A.sim .nil
  rw [A.h] at q
  exact q)⟩
theorem k_cons {nm : Option Str} {kpos : Pos} {i : IE} {j : IA} (ha : PE X e (TI F i)) (hr : PK X kws (TA_ F j)) : PK X (⟨nm, e, kpos⟩ :: kws) (TA_ F (aCons i j)) := ⟨fun pos pins s σ H Q I h => (pk_cons (nm := nm) (kpos := kpos) ha hr).run pos pins s σ H Q I
  ((TX.bind (k := fun d env s => (j env s).bind fun ds s2 => .ok (d :: ds) s2) h).mono fun x H1 h1 =>
    (TK.bind (i := j) (k := fun d ds env s2 => .ok (d :: ds) s2) (fun x r => RV.mono x r) h1).mono fun y H2 ⟨W, st, env, a, b, A, ra, rb, p⟩ => by
      have q := p W.ρ W.H (x :: y) Ext.refl A.sim (.cons ra rb)
      rw [A.h] at q
      exact q)⟩
theorem mkx_core {pins : List (Addr × Obj)} {σ : L2.St} {H : Hp} {s : Shared} {Q : VK} {us ws : List Value} {vs zs : List V} {W : Vw} {st : Sto} {env : Env} {ds es : List D} (T : XI X k n (F.g C) fs ks gV) (pm : Perm gD gV n ks.length fs) (hr : Room (k + 1) X.A)
    (I : Inv X pins σ H s) (r : Vals vs us) (rz : Vals zs ws) (A : At F W st env σ H) (rd : RVs W ds vs) (re : RVs W es zs) (p : PostE W (opMkx C n ks.length fs gD ds es st) Q (F.at_ σ)) :
    wpAny (model X.prog X.w) X.A (call (.ref (F.g C)) us (ks.zip ws)) (EP X pins σ Q) X.xe s := by
  unfold opMkx at p
  split at p
  · rename_i c
    obtain ⟨ys, e1, e2, ry⟩ := pm.rel W ds es vs zs rd re c.1 c.2.1
    obtain ⟨fI, fd, ps, g, iC, tI, F1, hb⟩ := T.ini
    have l1 : vs.length = n := by rw [← rd.length]; exact c.1
    have eH := A.h
    subst eH
    refine run_mkx (CX := L2.CX X.prog X.w) T.cls iC tI F1 hr hb passL I r rz (by rw [l1]; exact c.2.2) l1 (by rw [← re.length]; exact c.2.1) e1 e2 T.nf fun a d ha hd ne => ?_
    have x1 : Ext W W.ρ (upd W.H a (exq a (F.g C) (some d))) := ext_new0 ha
    have hd1 : (upd W.H a (exq a (F.g C) (some d))) d = none := by rw [upd_ne ne]; exact hd
    have x2 : Ext (W.to W.ρ (upd W.H a (exq a (F.g C) (some d)))) W.ρ (upd (upd W.H a (exq a (F.g C) (some d))) d (.xd (fs.zip ys).reverse)) := ext_new0 hd1
    have S1 : Sim (W.to W.ρ (upd W.H a (exq a (F.g C) (some d)))) st := A.sim.new0 ha
    have x := x1.trans x2
    refine p W.ρ _ _ x (S1.new0 hd1) ?_
    have fa : (W.to W.ρ (upd (upd W.H a (exq a (F.g C) (some d))) d (.xd (fs.zip ys).reverse))).fro a := new_fro A.sim ha
    have fd : (W.to W.ρ (upd (upd W.H a (exq a (F.g C) (some d))) d (.xd (fs.zip ys).reverse))).fro d := new_fro A.sim hd
    refine .exc (d := some d) ?_ fa (fun z => by cases z) (fun dx z => ?_) (rf_reverse (zip_rf (ry.mono x)))
    · show (upd (upd W.H a (exq a (F.g C) (some d))) d (.xd (fs.zip ys).reverse)) a = some (exq a (W.g C) (some d))
      rw [upd_ne ne.symm, upd_same, A.g]
    · cases z
      exact ⟨upd_same, fd⟩
  · exact p.elim
/-- C(e, ..) -/
theorem e_mkx (T : XI X k n (F.g C) fs [] gV) (pm : Perm gD gV n 0 fs) (hr : Room (k + 1) X.A) (hg : Gl X x) (hm : X.mg x = some (.ref (F.g C))) (ha : PA X (e :: es) (TA_ F j)) (hdb : (x == ("__debug__" : Str)) = false := by decide)
    (he : starEach (e :: es) X.env = (false, eval e X.env) :: starEach es X.env := by rfl) (hpl : (backTo pos (starEach es X.env)).any (·.1) = false := by rfl) : PE X (.Call (.Name x p) (e :: es) [] pos) (TI F (iMkx C n 0 fs gD j aNil)) := by
  refine ⟨fun pins s σ H Q I h => ?_⟩
  refine wpAny_Call_Name_kw (ld_glob I hg hm (PySem.W.callWith_K (h₀ := X.base) I.ok.mod.kin T.cls.kC (thn (ha.run pos pins s σ H _ I (TX.bind (k := fun ds env s => opMkx C n 0 fs gD ds [] s) h)) fun us s1 ⟨vs, H1, I1, r, W, st, env, ds, A, rd, p⟩ => ⟨I1.kIn, ?_⟩) he hpl) hdb)
  exact mkx_core (ws := []) (zs := []) (ks := []) T pm hr I1 r .nil A rd .nil p
/-- C(k = e, ..) -/
theorem e_mkxK (T : XI X k 0 (F.g C) fs ks gV) (pm : Perm gD gV 0 ks.length fs) (hr : Room (k + 1) X.A) (hg : Gl X x) (hm : X.mg x = some (.ref (F.g C))) (hkw : PK X kws (TA_ F jk)) (hall : (backToKw pos (keywordEach kws X.env)).all (·.1.isSome) = true := by rfl) (hks : (backToKw pos (keywordEach kws X.env)).filterMap (·.1) = ks := by rfl)
    (hdb : (x == ("__debug__" : Str)) = false := by decide) (hpl : ((backTo pos (starEach [] X.env)).any (·.1) || (backToKw pos (keywordEach kws X.env)).any (·.1.isNone)) = false := by rfl) : PE X (.Call (.Name x p) [] kws pos) (TI F (iMkx C 0 ks.length fs gD aNil jk)) := by
  refine ⟨fun pins s σ H Q I h => ?_⟩
  refine wpAny_Call_Name_kw (ld_glob I hg hm (PySem.W.callWith_KW0 (h₀ := X.base) I.ok.mod.kin T.cls.kC hall (thn (hkw.run pos pins s σ H _ I (TX.bind (k := fun es env s => opMkx C 0 ks.length fs gD [] es s) h)) fun ws s1 ⟨zs, H1, I1, rz, W, st, env, es, A, re, p⟩ => ⟨I1.kIn, ?_⟩) hpl) hdb)
  rw [hks]
  exact mkx_core (us := []) (vs := []) T pm hr I1 .nil rz A .nil re p
/-- C() of a class without own __init__ -/
theorem e_mk0 {B newId initId : String} {tail : List Value} (b : XB B newId initId tail) (q : PySem.W.excIn X.K (F.g C) tail newId = true) (kC : PySem.W.keepIn X.K (.ref (F.g C)) = true) (hg : Gl X x) (hm : X.mg x = some (.ref (F.g C))) (hdb : (x == ("__debug__" : Str)) = false := by decide) :
    PE X (.Call (.Name x p) [] [] pos) (TI F (iC (.exc C []))) := by
  refine ⟨fun pins s σ H Q I ⟨W, st, env, A, p⟩ => ?_⟩
  refine wpAny_Call_Name_kw (ld_glob I hg hm (PySem.W.callWith_K0 I.kIn kC ?_) hdb)
  show wpAny _ _ (call (.ref (F.g C)) []) _ _ _
  obtain ⟨bm, N, nm, qn, bs, hdct, sn, sub, ab, col, dd, k0, k1, k2, k3, k5, mN, hC, hN, hni, T⟩ := exc_obj I.kIn q
  obtain ⟨hp, g0, dr, tk, os⟩ := s
  refine wpAny_call_exc_subT b.f T hC hN hni (fun h' a hmx => ?_) (Nat.zero_le _)
  have eH := A.h
  subst eH
  have hn : W.H a = none := I.hok.gone hmx.new
  obtain ⟨t, ht, _, _⟩ := hmx.there
  have J : Inv X pins σ (upd W.H a (exq a (F.g C) none)) ⟨h', g0, dr, tk, os⟩ := I.laidN (t' := tk) (o := exq a (F.g C) none) hmx.keeps hmx.new hn (exq_ok ht)
  refine ⟨.ref a, _, J, rfl, p W.ρ _ _ (ext_new0 hn) (A.sim.new0 hn) (.exc (d := none) ?_ (new_fro A.sim hn) (fun _ => rfl) (fun dx z => by cases z) .nil)⟩
  rw [← A.g]
  exact upd_same
end
end M
/-! M10: frozen lists and dicts, slices, stores in lists, repr, isinstance, an exception's field, names. -/
namespace M
open PySem PySem.Spec PyProof.Rows L2

section
variable {X : Cx} {F : Fx} {pos : Pos} {W : Vw} {st : Sto}
/-! ### displays nobody changes -/
def opLstF : OpN := fun ds st => if ds.length ≤ sizeLine then some (.lst ds, st) else none
theorem e_lstF {es : List Expr} {j : IA} (h : PA X es (TA_ F j)) : PE X (.List es pos) (TI F (iN opLstF j)) := PE.imp (pe_lst h) fun σ H Q h => (n_rN h).mono fun vs H1 ⟨W, st, ds, I, r, p⟩ => by
  unfold opLstF at p
  split at p
  · rename_i c
    have eH := I.h
    subst eH
    exact ⟨by rw [← r.length]; exact c, fun q hq => p.listF I.sim r hq⟩
  · exact p.elim
theorem e_dct0 : PE X (.Dict [] [] pos) (TI F (iC (.dct [] []))) := PE.imp pe_dnewK fun σ H Q ⟨W, st, env, A, p⟩ q hq => by
  have eH := A.h
  subst eH
  exact p W.ρ _ _ (ext_new0 hq) (A.sim.new0 hq) (.dct upd_same (new_fro A.sim hq) rfl .nil)
def opListF : OpN := fun ds st => match ds with
  | [d] => (aseq st d).map fun xs => (.lst xs, st)
  | _ => none
theorem cr_listF (hk : X.K = F.K) : CallR X (.type "list") (rN F opListF) := CallR.imp call_list_of fun xs H Q ⟨W, st, ds, I, r, p⟩ => by
  unfold opListF at p
  split at p
  · rename_i d
    obtain ⟨v, rfl, rv⟩ := rv1 r
    cases e : aseq st d with
    | none => rw [e] at p; exact p.elim
    | some xs =>
      rw [e] at p
      obtain ⟨a, ys, rfl, hs, ry⟩ := aseq_at I.sim e rv
      have eH := I.h
      subst eH
      rw [I.k, ← hk] at hs
      exact ⟨a, ys, rfl, hs, fun l hl => p.listF I.sim ry hl⟩
  · exact p.elim

/-! ### names -/
theorem e_glo {x : Str} (hg : Gl X x) (hm : X.mg x = some (.ref (F.g x))) (hd : (x == ("__debug__" : Str)) = false := by decide) : PE X (.Name x pos) (TI F (iC (.glo x))) := e_con (pe_glob hg hm (v := .ref (F.g x)) rfl hd) fun W _ e => by rw [← e]; exact .glo x
theorem e_gint {x : Str} {i : Int} (hg : Gl X x) (hm : ∃ t, X.mg x = some (.int i t)) (hd : (x == ("__debug__" : Str)) = false := by decide) : PE X (.Name x pos) (TI F (iC (.int i))) := by
  obtain ⟨t, hm⟩ := hm
  exact e_con (pe_glob hg hm (v := .int i) ⟨t, rfl⟩ hd) fun W _ _ => .int i
theorem e_gstr {x z : Str} (hg : Gl X x) (hm : ∃ t, X.mg x = some (.str z t)) (hd : (x == ("__debug__" : Str)) = false := by decide) : PE X (.Name x pos) (TI F (iC (.str z))) := by
  obtain ⟨t, hm⟩ := hm
  exact e_con (pe_glob hg hm (v := .str z) ⟨t, rfl⟩ hd) fun W _ _ => .str z
theorem e_bty {x : Str} {n : String} (hg : Gl X x) (hm : X.mg x = none) (hv : bootBuiltins x = some (.type n)) (hn : x ≠ "__name__" := by decide) (hd : (x == ("__debug__" : Str)) = false := by decide) : PE X (.Name x pos) (TI F (iC (.ty n))) := e_con (pe_bltn hg hm hv (v := .ty n) rfl hn hd) fun W _ _ => .ty n

/-! ### all -/
def asB : D → Option Bool
  | .bl b => some b
  | _ => none
def opAll : OpN := fun ds st => match ds with
  | [d] => match alst st d with
    | some xs => (allP asB xs).map fun bs => (.bl (bs.all id), st)
    | none => none
  | _ => none
theorem asB_rv : ∀ {xs : List D} {bs : List Bool} {ys : List V}, allP asB xs = some bs → RVs W xs ys → ys = bs.map V.bl
  | [], _, _, h, .nil => by cases h; rfl
  | x :: xs, _, _, h, .cons r rs => by
    obtain ⟨p, q, e1, e2, rfl⟩ := allP_cons h
    rw [asB_rv e2 rs]
    cases r <;> cases e1
    rfl
theorem cr_allL (hk : X.K = F.K) (hc : X.calm = true) : CallR X (.builtin "all") (rN F opAll) := CallR.imp (cr_all hc) fun xs H Q ⟨W, st, ds, I, r, p⟩ => by
  unfold opAll at p
  split at p
  · rename_i d
    obtain ⟨v, rfl, rv⟩ := rv1 r
    split at p
    · rename_i xs e
      obtain ⟨a, ys, rfl, hs, ry⟩ := alst_at I.sim e rv
      rw [I.k, ← hk, I.h] at hs
      cases e2 : allP asB xs with
      | none => rw [e2] at p; exact p.elim
      | some bs =>
        rw [e2] at p
        rw [asB_rv e2 ry] at hs
        exact ⟨a, bs, rfl, hs, I.now p (.bl _)⟩
    · exact p.elim
  · exact p.elim

/-! ### repr -/
def rpr (st : Sto) : D → Option Str
  | .dct [] [] => some (dictText [])
  | d => match toP st 64 d with
    | some p => if p.showable = true ∧ p.shown.length ≤ sizeLine then some p.shown else none
    | none => none
def opRepr : OpN := fun ds st => match ds with
  | [d] => (rpr st d).map fun x => (.str x, st)
  | _ => none
theorem cr_repr (hk : X.K = F.K) (hgd : X.A.guards = some []) (hu : X.A.units + (64 + 1) < cLine) : CallR X (.builtin "repr") (rN F opRepr) := fun pins s σ H vs us Q I r ⟨W, st, ds, J, rd, p⟩ => by
  unfold opRepr at p
  split at p
  · rename_i d
    obtain ⟨v, rfl, rv⟩ := rv1 rd
    obtain ⟨u, rfl, ru⟩ := vals1 r
    have eK := J.k
    have eH := J.h
    cases e : rpr st d with
    | none => rw [e] at p; exact p.elim
    | some x =>
      rw [e] at p
      have q := J.now p (.str x)
      have keep : ∀ (h' : Heap) (tk : Nat), (∀ b o, s.heap.get? b = some o → h'.get? b = some o) → Inv X pins σ H { s with heap := h', toks := tk } := fun h' tk k => I.kept k
      have heap : ∀ {a : Addr} {pd : PyData} {as : List Addr}, Reads s.heap (.ref a) pd as → pd.showable = true → (pd.hasDict = true → sysModules ∉ as) → pd.depth ≤ 64 → pd.shown.length ≤ sizeLine → pd.shown = x → wpAny (model X.prog X.w) X.A (call (.builtin "repr") [.ref a]) (EP X pins σ Q) X.xe s := fun {a pd as} rr h1 h2 h3 h4 h5 =>
        repr_of_reads' rr h1 h2 hgd (by omega) (fun b o z => z) (fun h' t tk k => ⟨.str x, H, keep h' tk k, ⟨t, by rw [h5]⟩, q⟩) h4
      unfold rpr at e
      split at e
      · cases e
        cases rv with
        | @dct a _ _ ys h1 h2 h3 h4 =>
          cases ru
          cases ys with
          | cons y ys => cases h4
          | nil =>
          obtain ⟨_, hs, vs2, kvr, o, es, ep, ho, hx, hd, _, hp, _⟩ := (show ObjOk X.prog X.w H s.heap a (.dK []) from I.hok a _ (by rw [← eH]; exact h1))
          have e0 : vs2 = [] := by
            cases vs2 with
            | nil => rfl
            | cons z zs => cases kvr
          subst e0
          have e1 : es.toList = [] := by
            generalize es.toList = el at hp
            cases hp
            rfl
          refine heap (pd := .dict []) (as := [a] ++ []) (.dict (as := []) (bs := []) ho hx.1 hd (by rw [e1]; exact .nil) (by rw [e1]; exact .nil)) rfl (fun _ m => ?_) (by decide) (by decide) rfl
          have m' : sysModules = a := by simpa using m
          rw [← m'] at hs
          simp at hs
      · split at e
        · rename_i pd hp
          split at e
          · rename_i c
            cases e
            obtain ⟨a1, a2, a3⟩ := toP_good J.sim _ _ _ hp
            have x1 := a3 _ rv
            rw [eK, ← hk, eH] at x1
            obtain ⟨as, rr⟩ := Dp.reads I pd v u x1 ru
            cases rr with
            | none => exact PySem.P.repr_of_none ⟨.str _, H, I.tok _, ⟨_, rfl⟩, q⟩
            | bool b => exact PySem.P.repr_of_bool ⟨.str _, H, I.tok _, ⟨_, rfl⟩, q⟩
            | int i t => exact PySem.P.repr_of_int (by simpa [PyData.showable] using c.1) ⟨.str _, H, I.tok _, ⟨_, rfl⟩, q⟩
            | str z t => exact PySem.P.repr_of_str ⟨.str _, H, I.tok _, ⟨_, rfl⟩, q⟩ c.2
            | list h1 h2 h3 h4 => exact heap (.list h1 h2 h3 h4) c.1 (fun z => by rw [PyData.hasDict_of_canLay _ a1] at z; cases z) a2 c.2 rfl
            | tuple h1 h2 h3 h4 => exact heap (.tuple h1 h2 h3 h4) c.1 (fun z => by rw [PyData.hasDict_of_canLay _ a1] at z; cases z) a2 c.2 rfl
            | dict h1 h2 h3 h4 h5 => exact heap (.dict h1 h2 h3 h4 h5) c.1 (fun z => by rw [PyData.hasDict_of_canLay _ a1] at z; cases z) a2 c.2 rfl
          · cases e
        · cases e
  · exact p.elim
end
end M
/-! M11: slices, stores in lists, isinstance, an exception's field. -/
namespace M
open PySem PySem.Spec PyProof.Rows L2

section
variable {X : Cx} {F : Fx} {pos p2 : Pos} {W : Vw} {st : Sto}
/-! ### slices -/
def PN (_ : Vw) (a b : Option Int) : Prop := a = b
abbrev IO := Env → Sto → R (Option Int)
abbrev TO_ (F : Fx) (i : IO) : L2.TO := TX PN F i
def oNone : IO := fun _ st => .ok none st
def kPart (d : D) (s : Sto) : R (Option Int) := match d with
  | .int i => .ok (some i) s
  | _ => .bad
def oSome (i : IE) : IO := fun env st => (i env st).bind kPart
theorem o_none : PO X none (TO_ F oNone) := ⟨fun pins s σ H Q I h => (po_none (X := X)).run pins s σ H Q I (by
  obtain ⟨W, st, env, A, p⟩ := h
  have q := p W.ρ W.H none Ext.refl A.sim rfl
  rw [A.h] at q
  exact q)⟩
theorem o_some {e : Expr} {i : IE} (he : PE X e (TI F i)) : PO X (some e) (TO_ F (oSome i)) := ⟨fun pins s σ H Q I h => (po_some he).run pins s σ H Q I ((TX.bind (k := fun d env s => kPart d s) h).mono fun x H1 ⟨W, st, env, d, A, r, p⟩ => by
  unfold kPart at p
  cases r with
  | int i =>
    have q := p W.ρ W.H (some i) Ext.refl A.sim rfl
    rw [A.h] at q
    exact ⟨i, rfl, q⟩
  | _ => exact p.elim)⟩
def cutL {α : Type} (xs : List α) (lo hi : Option Int) : List α := (xs.drop (HT.sIx xs.length 0 lo)).take (HT.sIx xs.length xs.length hi - HT.sIx xs.length 0 lo)
theorem RVs.cut {xs : List D} {ys : List V} (r : RVs W xs ys) (lo hi : Option Int) : RVs W (cutL xs lo hi) (cutV ys lo hi) := by
  unfold cutL cutV
  rw [r.length]
  exact (r.drop _).take _
/-- a slice of a list is a new one that nobody changes -/
def opSl (a : D) (lo hi : Option Int) (st : Sto) : Option (D × Sto) := match a with
  | .str z => if z.length ≤ sizeLine then some (.str (cutS z lo hi), st) else none
  | .tup xs => if HT.sIx xs.length 0 lo = 0 ∧ HT.sIx xs.length xs.length hi = xs.length then none else some (.tup (cutL xs lo hi), st)
  | a => (alst st a).map fun xs => (.lst (cutL xs lo hi), st)
def rS (F : Fx) : V → Option Int → Option Int → Hp → VK → Prop := fun x lo hi H Q => ∃ W st a, In F W st H ∧ RV W a x ∧ PostO W (opSl a lo hi st) Q
theorem SlR.imp {r r' : V → Option Int → Option Int → Hp → VK → Prop} (a : SlR X r) (h : ∀ x l u H Q, r' x l u H Q → r x l u H Q) : SlR X r' := fun p s σ H x v vl vu lo hi sl Q I rx hs pl pu q => a p s σ H x v vl vu lo hi sl Q I rx hs pl pu (h x lo hi H Q q)
theorem sr_sl (hk : X.K = F.K) : SlR X (rS F) := SlR.imp (sl_list.or (sl_tup.or sl_str)) fun x lo hi H Q ⟨W, st, a, I, ra, p⟩ => by
  have eH := I.h
  subst eH
  unfold opSl at p
  split at p
  · cases ra
    split at p
    · exact .inr (.inr ⟨_, rfl, by assumption, p.now I.sim (.str _)⟩)
    · exact p.elim
  · split at p
    · exact p.elim
    · rename_i c
      obtain ⟨q, ys, rfl, hs, ry⟩ := tup_at ra
      rw [I.k, ← hk] at hs
      refine .inr (.inl ⟨q, ys, rfl, hs, by rw [← ry.length]; exact c, fun l hl => p.tuple I.sim (ry.cut lo hi) hl⟩)
  · cases e : alst st a with
    | none => rw [e] at p; exact p.elim
    | some xs =>
      rw [e] at p
      obtain ⟨q, ys, rfl, hs, ry⟩ := alst_at I.sim e ra
      rw [I.k, ← hk] at hs
      exact .inl ⟨q, ys, rfl, hs, fun l hl => p.listF I.sim (ry.cut lo hi) hl⟩
def iSl (i : IE) (lo hi : IO) : IE := fun env st => (i env st).bind fun a s => (lo env s).bind fun l s1 => (hi env s1).bind fun u s2 => ofO (opSl a l u s2)
def P2 (W : Vw) (a : D × Option Int) (b : V × Option Int) : Prop := RV W a.1 b.1 ∧ a.2 = b.2
theorem TK.pair {α β γ δ κ μ : Type} {P : Vw → α → β → Prop} {P' : Vw → γ → δ → Prop} {P2 : Vw → κ → μ → Prop} {σ : L2.St} {H : Hp} {k : α → γ → Env → Sto → R κ} {Q : μ → Hp → Prop} {b : β} {c : δ} (h : ∃ W st env a d, At F W st env σ H ∧ P W a b ∧ P' W d c ∧ Post W P2 (k a d env st) Q (F.at_ σ)) :
    TK (fun W (x : α × γ) (y : β × δ) => P W x.1 y.1 ∧ P' W x.2 y.2) P2 F (fun x env st => k x.1 x.2 env st) (b, c) σ H Q := by
  obtain ⟨W, st, env, a, d, A, r1, r2, p⟩ := h
  exact ⟨W, st, env, (a, d), A, ⟨r1, r2⟩, p⟩
theorem e_sl {a : Expr} {lo hi : Option Expr} {i : IE} {l u : IO} (hk : X.K = F.K) (ha : PE X a (TI F i)) (hl : PO X lo (TO_ F l)) (hu : PO X hi (TO_ F u)) : PE X (.Subscript a (.Slice lo hi none p2) pos) (TI F (iSl i l u)) := PE.imp (pe_slice (sr_sl hk) ha hl hu) fun σ H Q h =>
  (TX.bind (k := fun a env s => (l env s).bind fun x s1 => (u env s1).bind fun y s2 => ofO (opSl a x y s2)) h).mono fun x H1 h1 =>
    (TK.bind (i := l) (k := fun a x env s1 => (u env s1).bind fun y s2 => ofO (opSl a x y s2)) (fun x r => RV.mono x r) h1).mono fun y H2 h2 =>
      (TK.bind (P := fun W (x : D × Option Int) (y : V × Option Int) => RV W x.1 y.1 ∧ PN W x.2 y.2) (i := u) (k := fun a y env s2 => ofO (opSl a.1 a.2 y s2)) (fun x r => ⟨RV.mono x r.1, r.2⟩) (TK.pair (P := RV) (P' := PN) (k := fun a x env s1 => (u env s1).bind fun y s2 => ofO (opSl a x y s2)) h2)).mono fun z H3 ⟨W, st, env, a, b, A, ra, rb, p⟩ => by
        cases (show b = z from rb)
        obtain ⟨ra, e⟩ := ra
        cases (show a.2 = y from e)
        exact ⟨W, st, a.1, A.in_, ra, PostO.of p⟩

/-! ### xs[i] = v -/
def kSet (d o k : D) (env : Env) (st : Sto) : R Env := match o, k with
  | .ref n, .int i => match lstAt st n with
    | some xs => match ixN xs.length i with
      | some j => .ok env (st.set n (.lst (xs.set j d)))
      | none => .bad
    | none => .bad
  | _, _ => .bad
def gIx (i j : IE) : IG := fun d env st => (i env st).bind fun o s => (j env s).bind fun k s2 => kSet d o k env s2
theorem g_ix {o k : Expr} {i j : IE} (ho : PE X o (TI F i)) (hk : PE X k (TI F j))
    (ha : ∀ v, assign (.Subscript o k pos) X.env v = (do let p1 ← holding [v] (eval o X.env); let p2 ← holding [v, p1] (eval k X.env); standAt pos; holding [v, p1, p2] (setItem p1 p2 v); release [v, p1, p2] []) := by intro _; rfl) : PG X (.Subscript o k pos) (TG_ F (gIx i j)) := by
  refine ⟨fun pins s σ H v u Q I r h => (pg_sub ho hk set_list ha).run pins s σ H v u Q I r ?_⟩
  have h0 : TK RV PE_ F (fun d env st => (i env st).bind fun o s => (j env s).bind fun k s2 => kSet d o k env s2) v σ H Q := h
  refine (TK.bind (i := i) (k := fun d o env s => (j env s).bind fun k s2 => kSet d o k env s2) (fun x r => RV.mono x r) h0).mono fun x H1 h1 => ?_
  refine (TK.bind (P := fun W (x : D × D) (y : V × V) => RV W x.1 y.1 ∧ RV W x.2 y.2) (i := j) (k := fun a k env s2 => kSet a.1 a.2 k env s2) (fun x r => ⟨RV.mono x r.1, RV.mono x r.2⟩) (TK.pair (P := RV) (P' := RV) (k := fun d o env s => (j env s).bind fun k s2 => kSet d o k env s2) h1)).mono fun y H2 ⟨W, st, env, a, b, A, ra, rb, p⟩ => ?_
  obtain ⟨ra, ro⟩ := ra
  have eH := A.h
  subst eH
  obtain ⟨d, o'⟩ := a
  have p' : Post W PE_ (kSet d o' b env st) Q (F.at_ σ) := p
  unfold kSet at p'
  split at p'
  · rename_i n i'
    split at p'
    · rename_i xs hx
      split at p'
      · rename_i jx hj
        obtain ⟨m, q, ys, e1, e2, e3, e4, e5, ry⟩ := mlst_at A.sim (d := .ref n) (xs := xs) hx ro
        cases e1
        cases rb
        cases (show x = V.ref q from e2)
        have x7 : Ext W W.ρ (upd W.H q (.lst (ys.set jx v))) := ext_put (List.mem_of_getElem? e3)
        have z : EnvR (W.to W.ρ (upd W.H q (.lst (ys.set jx v)))) env σ := A.env.mono x7
        exact ⟨q, ys, _, jx, rfl, rfl, e5, by rw [← ry.length]; exact hj, p' W.ρ _ σ x7 (A.sim.put e3 ⟨_, upd_same, RVs.mono x7 (ry.set jx ra)⟩) z⟩
      · exact p'.elim
    · exact p'.elim
  · exact p'.elim

/-! ### isinstance -/
inductive Tg where
  | ty (n : String)
  | own (C : Str)
  deriving DecidableEq
def Tg.val (g : Str → Addr) : Tg → Value
  | .ty n => .type n
  | .own C => .ref (g C)
def tagD (st : Sto) : D → Option Tg
  | .non => some (.ty "NoneType")
  | .bl _ => some (.ty "bool")
  | .int _ => some (.ty "int")
  | .str _ => some (.ty "str")
  | .tup _ => some (.ty "tuple")
  | .lst _ => some (.ty "list")
  | .dct _ _ => some (.ty "dict")
  | .exc C _ => some (.own C)
  | .ref n => match st[n]? with
    | some (.lst _) => some (.ty "list")
    | some (.dct _) => some (.ty "dict")
    | _ => none
  | _ => none
def clsD : D → Option Tg
  | .ty n => some (.ty n)
  | .glo C => some (.own C)
  | _ => none
/-- what an own exception class must have for isinstance and for fields -/
structure XF (K : PySem.W.Frag) (C : Addr) : Prop where
  fld : XfC K C
  cl : (PySem.W.clsIn K C).isSome = true
  ca : PySem.W.findIn K (.ref C) "__class__" = some (some (.builtin "object.__class__"))
  sp : PySem.W.specialIn K (.builtin "object.__class__") "__get__" = some (some (.builtin "getset_descriptor.__get__"))
  tk : PySem.W.takesIn K (.builtin "object.__class__") = some true
  mr : PySem.W.mroIn K C (.type "object") = some true
/-- the classes of exceptions, and what isinstance says of pairs -/
structure Isa (K : PySem.W.Frag) (g : Str → Addr) (xs : List Str) (tb : Tg → Tg → Option Bool) : Prop where
  xf : ∀ C ∈ xs, XF K (g C)
  tb : ∀ t c b, tb t c = some b → PySem.W.kitOne K (t.val g) (c.val g) = some b
def opIsi (xs : List Str) (tb : Tg → Tg → Option Bool) : OpN := fun ds st => match ds with
  | [.exc C _, c] => if C ∈ xs then (match clsD c with
    | some u => (tb (.own C) u).map fun b => (.bl b, st)
    | none => none) else none
  | [d, c] => match tagD st d, clsD c with
    | some (.ty n), some u => (tb (.ty n) u).map fun b => (.bl b, st)
    | _, _ => none
  | _ => none
theorem clsD_val {c : D} {v : V} {u : Tg} {w : Value} (h : clsD c = some u) (r : RV W c v) (hg : W.g = F.g) (rw_ : RelV v w) : w = u.val F.g := by
  cases r <;> cases h
  · exact rw_
  · rw [← hg]; exact rw_
theorem tag_ty {d : D} {v : V} {n : String} (hk : X.K = F.K) {H : Hp} (I : In F W st H) (h : tagD st d = some (.ty n)) (r : RV W d v) : TyX X.K H v (.type n) := by
  have eH := I.h
  subst eH
  cases r with
  | non => cases h; exact .base .non
  | bl b => cases h; exact .base (.bl _)
  | int b => cases h; exact .base (.int _)
  | str b => cases h; exact .base (.str _)
  | tup t _ =>
    cases h
    rcases t with ⟨t, _⟩ | ⟨o, its, n, q, c, _⟩
    · exact .base (.tup t)
    · exact .kTuple (by rw [hk, ← I.k]; exact q) c
  | lst t _ =>
    cases h
    rcases t with ⟨t | ⟨o, t⟩, _⟩ | ⟨its, n, q, c⟩
    · exact .base (.lst t)
    · exact .base (.frz t)
    · exact .kList (by rw [hk, ← I.k]; exact q) rfl
  | dct t _ _ _ => cases h; exact .base (.dK t)
  | @ref m a e =>
    have h' : (match st[m]? with
    | some (.lst _) => some (Tg.ty "list")
    | some (.dct _) => some (Tg.ty "dict")
    | _ => none) = some (.ty n) := h
    split at h'
    · rename_i xs q
      cases h'
      obtain ⟨ys, h1, _⟩ := I.sim.at_ _ _ _ q e
      exact .base (.lst h1)
    · rename_i xs q
      cases h'
      obtain ⟨ys, h1, _⟩ := I.sim.at_ _ _ _ q e
      exact .base (.dK h1)
    · cases h'
  | _ => cases h
theorem exc_inst {H : Hp} {pins : List (Addr × Obj)} {σ : L2.St} {s : Shared} {C : Str} {fs : List (Str × D)} {v : V} {u : Value} (J : In F W st H) (I : Inv X pins σ H s) (r : RV W (.exc C fs) v) (ru : RelV v u) : ∃ (a : Addr) (ox : Obj) (od : Option Obj), u = .ref a ∧ v = .ref a ∧ PySem.W.InstAt s.heap a ox (F.g C) od ∧
    ∃ gs, RFs W fs gs ∧ ∀ f x, gs.lookup f = some x → ∃ oo y, od = some oo ∧ PySem.W.lookIn f oo = some (some y) ∧ RelV x y := by
  have eH := J.h
  have eg := J.g
  subst eH
  cases r with
  | @exc a d _ _ gs h1 h2 h3 h4 h5 =>
    obtain ⟨⟨vs, ho⟩, _⟩ := I.hok a _ h1
    rw [eg] at ho
    cases d with
    | none =>
      cases h3 rfl
      exact ⟨a, _, none, ru, rfl, ⟨ho, rfl, rfl, trivial⟩, [], h5, fun f x z => by cases z⟩
    | some dx =>
      obtain ⟨mA, hns, hr⟩ := (show ObjOk X.prog X.w W.H s.heap dx (.xd gs) from I.hok dx _ (h4 dx rfl).1)
      obtain ⟨od, hod, hl⟩ := lookIn_ns hns
      refine ⟨a, _, some od, ru, rfl, ⟨ho, rfl, rfl, hod⟩, gs, h5, fun f x z => ?_⟩
      obtain ⟨y, hy, ry⟩ := RelO.some_of (v := x) (o := mA f) (by rw [← z]; exact hr f)
      exact ⟨od, y, rfl, by rw [hl, hy], ry⟩
theorem cr_isi {xs : List Str} {tb : Tg → Tg → Option Bool} (hk : X.K = F.K) (T : Isa F.K F.g xs tb) : CallR X (.builtin "isinstance") (rN F (opIsi xs tb)) := fun pins s σ H vs us Q I r ⟨W, st, ds, J, rd, p⟩ => by
  unfold opIsi at p
  split at p
  · rename_i C fs c
    split at p
    · rename_i hC
      obtain ⟨v1, v2, rfl, rv1, rv2⟩ := rv2 rd
      obtain ⟨u1, u2, rfl, ru1, ru2⟩ := vals2 r
      split at p
      · rename_i u hu
        cases e : tb (.own C) u with
        | none => rw [e] at p; exact p.elim
        | some b =>
          rw [e] at p
          obtain ⟨a, ox, od, rfl, rfl, IA, _⟩ := exc_inst J I rv1 ru1
          have e2 := clsD_val hu rv2 J.g ru2
          subst e2
          have q := J.now p (.bl b)
          have Z := T.xf C hC
          have kk := T.tb _ _ _ e
          rw [← hk] at Z kk
          exact PySem.W.kia_one (PySem.W.kitx_exc Z.cl Z.fld.ga Z.fld.gg Z.fld.exC Z.ca Z.sp Z.tk Z.mr) I.kIn IA kk (fun z => nomatch z) fun tk => ⟨.bl b, H, I.tok tk, rfl, q⟩
      · exact p.elim
    · exact p.elim
  · rename_i d c _
    obtain ⟨v1, v2, rfl, rv1, rv2⟩ := rv2 rd
    obtain ⟨u1, u2, rfl, ru1, ru2⟩ := vals2 r
    split at p
    · rename_i n u hn hu
      cases e : tb (.ty n) u with
      | none => rw [e] at p; exact p.elim
      | some b =>
        rw [e] at p
        have e2 := clsD_val hu rv2 J.g ru2
        subst e2
        have q := J.now p (.bl b)
        have kk := T.tb _ _ _ e
        rw [← hk] at kk
        obtain ⟨P, Z, pp, hx⟩ := kit_of I ru1 (tag_ty hk J hn rv1)
        exact PySem.W.kia_one Z I.kIn pp kk hx fun tk => ⟨.bl b, H, I.tok tk, rfl, q⟩
    · exact p.elim
  · exact p.elim

/-! ### e.f of an exception -/
/-- the classes whose instances have f of their own alone -/
structure Fld (K : PySem.W.Frag) (g : Str → Addr) (f : Str) (xs : List Str) : Prop where
  xf : ∀ C ∈ xs, XfC K (g C)
  no : ∀ C ∈ xs, PySem.W.findIn K (.ref (g C)) f = some none
def opFld (xs : List Str) (f : Str) : Op1 := fun d st => match d with
  | .exc C fs => if C ∈ xs then (fs.lookup f).map fun x => (x, st) else none
  | _ => none
theorem rf_lookup {f : Str} : ∀ {fs : List (Str × D)} {gs : List (Str × V)} {d : D}, RFs W fs gs → fs.lookup f = some d → ∃ v, gs.lookup f = some v ∧ RV W d v
  | _, _, _, .nil, h => by cases h
  | _, _, d, .cons (f := n) r rs, h => by
    simp only [List.lookup] at h ⊢
    split at h
    · cases h; exact ⟨_, rfl, r⟩
    · exact rf_lookup rs h
theorem e_fld {e : Expr} {f : Str} {xs : List Str} {i : IE} (hk : X.K = F.K) (T : Fld F.K F.g f xs) (he : PE X e (TI F i)) (hb : attributeBase e f X.env (eval e X.env) = eval e X.env := by rfl) : PE X (.Attribute e f pos) (TI F (iUn (opFld xs f) i)) := by
  refine ⟨fun pins s σ H Q I h => ?_⟩
  refine attr_of hb (thn (he.run pins s σ H _ I (TX.bind (k := fun a env s1 => ofO (opFld xs f a s1)) h)) fun u s1 ⟨v, H1, I1, ru, W, st, env, d, A, rd, p⟩ => ?_)
  replace p := PostO.of p
  unfold opFld at p
  split at p
  · rename_i C fs
    split at p
    · rename_i hC
      cases e : fs.lookup f with
      | none => rw [e] at p; exact p.elim
      | some d =>
        rw [e] at p
        obtain ⟨a, ox, od, rfl, rfl, IA, gs, rg, look⟩ := exc_inst A.in_ I1 rd ru
        obtain ⟨x, hx, rx⟩ := rf_lookup rg e
        obtain ⟨oo, y, rfl, hl, ry⟩ := look f x hx
        have Z := T.xf C hC
        have no := T.no C hC
        rw [← hk] at Z no
        exact PySem.HandSPX.exc_get I1.kIn IA Z.ga Z.gg Z.exC (PySem.W.findObj_own Z.hdC no rfl hl) (handed_of ry) ⟨x, H1, I1.tok _, ry, A.in_.now p rx⟩
    · exact p.elim
  · exact p.elim
end
end M
/-! M12: list comprehensions whose list nobody changes. -/
namespace M
open PySem PySem.Spec PyProof.Rows L2

def compF (nx : Nx) (p : Pat) (t : IT) (e : IE) (env0 : Env) : Nat → Nat → List D → Sto → R (List D)
  | 0, i, acc => fun st => match nx i st with
    | some none => .ok acc st
    | _ => .bad
  | m + 1, i, acc => fun st => match nx i st with
    | some none => .ok acc st
    | some (some d) => match p.bind d env0 with
      | some env => ((t env st).nox).bind fun k s1 => if k = true then ((e env s1).nox).bind fun v s2 => if acc.length < sizeLine then compF nx p t e env0 m (i + 1) (acc ++ [v]) s2 else .bad else compF nx p t e env0 m (i + 1) acc s1
      | none => .bad
    | none => .bad
def iCompF (w : IW) (p : Pat) (t : IT) (e : IE) : IE := fun env st => (w env st).bind fun a s => (compF a.1 p t e (wipeE env p.slots) a.2 0 [] s).bind fun xs s2 => .ok (.lst xs) s2

section
variable {W : Vw} {ρ' : List Addr} {H' : Hp} {q : Addr} {u : HO} {st : Sto}
theorem zfro {a : Addr} (f : W.fro a) (hz : W.Z q) : a ≠ q := fun e => f.2 (e ▸ hz)
/-- what is out of reach may change -/
theorem Vw.Tup.zput (hz : W.Z q) {a : Addr} {ys : List V} (h : W.Tup a ys) : (W.to W.ρ (upd W.H q u)).Tup a ys := by
  rcases h with ⟨h, f⟩ | h
  · exact .inl ⟨(upd_ne (zfro f hz)).trans h, f⟩
  · exact .inr h
theorem Vw.Lst.zput (hz : W.Z q) {a : Addr} {ys : List V} (h : W.Lst a ys) : (W.to W.ρ (upd W.H q u)).Lst a ys := by
  rcases h with ⟨h | ⟨o, h⟩, f⟩ | h
  · exact .inl ⟨.inl ((upd_ne (zfro f hz)).trans h), f⟩
  · exact .inl ⟨.inr ⟨o, (upd_ne (zfro f hz)).trans h⟩, f⟩
  · exact .inr h
mutual
theorem RV.zput (hz : W.Z q) : ∀ {d : D} {v : V}, RV W d v → RV (W.to W.ρ (upd W.H q u)) d v
  | _, _, .non => .non
  | _, _, .bl b => .bl b
  | _, _, .int i => .int i
  | _, _, .str s => .str s
  | _, _, .ty n => .ty n
  | _, _, .glo s => .glo (W := W.to W.ρ (upd W.H q u)) s
  | _, _, .tup h r => .tup (h.zput hz) (r.zput hz)
  | _, _, .lst h r => .lst (h.zput hz) (r.zput hz)
  | _, _, .dct h f e r => .dct ((upd_ne (zfro f hz)).trans h) f e (r.zput hz)
  | _, _, .obj h f r => .obj ((upd_ne (zfro f hz)).trans h) f (r.zput hz)
  | _, _, .exc h f a b r => .exc ((upd_ne (zfro f hz)).trans h) f a (fun dx e => ⟨(upd_ne (zfro (b dx e).2 hz)).trans (b dx e).1, (b dx e).2⟩) (r.zput hz)
  | _, _, .ref h => .ref h
theorem RVs.zput (hz : W.Z q) : ∀ {d : List D} {v : List V}, RVs W d v → RVs (W.to W.ρ (upd W.H q u)) d v
  | _, _, .nil => .nil
  | _, _, .cons h r => .cons (h.zput hz) (r.zput hz)
theorem RFs.zput (hz : W.Z q) : ∀ {d : List (Str × D)} {v : List (Str × V)}, RFs W d v → RFs (W.to W.ρ (upd W.H q u)) d v
  | _, _, .nil => .nil
  | _, _, .cons h r => .cons (h.zput hz) (r.zput hz)
end
theorem OR.zput (hz : W.Z q) {a : Addr} (n : a ≠ q) : ∀ {o : O}, OR W a o → OR (W.to W.ρ (upd W.H q u)) a o
  | .lst xs, ⟨ys, h, r⟩ => ⟨ys, (upd_ne n).trans h, r.zput hz⟩
  | .dct kvs, ⟨ys, h, k, r⟩ => ⟨ys, (upd_ne n).trans h, k, r.zput hz⟩
  | .ins C fs, ⟨dx, gs, h, r⟩ => ⟨dx, gs, (upd_ne n).trans h, r.zput hz⟩
theorem Sim.zput (S : Sim W st) (hz : W.Z q) : Sim (W.to W.ρ (upd W.H q u)) st where
  len := S.len
  nd := S.nd
  nz := S.nz
  zt := fun a h => by
    by_cases e : a = q
    · exact ⟨u, by rw [e]; exact upd_same⟩
    · obtain ⟨o, z⟩ := S.zt a h
      exact ⟨o, (upd_ne e).trans z⟩
  at_ := fun n o a h1 h2 => (S.at_ n o a h1 h2).zput hz fun e => S.nz a (List.mem_of_getElem? h2) (show W.Z a by rw [e]; exact hz)
theorem EnvR.zput {env : Env} {σ : L2.St} (h : EnvR W env σ) (hz : W.Z q) : EnvR (W.to W.ρ (upd W.H q u)) env σ := ⟨h.len, fun i d e => by obtain ⟨v, e1, r⟩ := h.at_ i d e; exact ⟨v, e1, r.zput hz⟩⟩
/-- the list at q hidden -/
abbrev Vw.hide (W : Vw) (q : Addr) : Vw := { W with Z := fun a => W.Z a ∨ a = q }
theorem Vw.fro.unhide {a : Addr} (f : (W.hide q).fro a) : W.fro a := ⟨f.1, fun z => f.2 (.inl z)⟩
theorem Vw.Tup.unhide {a : Addr} {ys : List V} (h : (W.hide q).Tup a ys) : W.Tup a ys := h.imp (fun h => ⟨h.1, h.2.unhide⟩) id
theorem Vw.Lst.unhide {a : Addr} {ys : List V} (h : (W.hide q).Lst a ys) : W.Lst a ys := h.imp (fun h => ⟨h.1, h.2.unhide⟩) id
mutual
theorem RV.unhide : ∀ {d : D} {v : V}, RV (W.hide q) d v → RV W d v
  | _, _, .non => .non
  | _, _, .bl b => .bl b
  | _, _, .int i => .int i
  | _, _, .str s => .str s
  | _, _, .ty n => .ty n
  | _, _, .glo s => .glo (W := W) s
  | _, _, .tup h r => .tup h.unhide r.unhide
  | _, _, .lst h r => .lst h.unhide r.unhide
  | _, _, .dct h f e r => .dct h f.unhide e r.unhide
  | _, _, .obj h f r => .obj h f.unhide r.unhide
  | _, _, .exc h f a b r => .exc h f.unhide a (fun dx e => ⟨(b dx e).1, (b dx e).2.unhide⟩) r.unhide
  | _, _, .ref h => .ref h
theorem RVs.unhide : ∀ {d : List D} {v : List V}, RVs (W.hide q) d v → RVs W d v
  | _, _, .nil => .nil
  | _, _, .cons h r => .cons h.unhide r.unhide
theorem RFs.unhide : ∀ {d : List (Str × D)} {v : List (Str × V)}, RFs (W.hide q) d v → RFs W d v
  | _, _, .nil => .nil
  | _, _, .cons h r => .cons h.unhide r.unhide
end
theorem Sim.unhide (S : Sim (W.hide q) st) : Sim W st where
  len := S.len
  nd := S.nd
  nz := fun a m z => S.nz a m (.inl z)
  zt := fun a h => S.zt a (.inl h)
  at_ := fun n o a h1 h2 => match o, S.at_ n o a h1 h2 with
    | .lst xs, ⟨ys, h, r⟩ => ⟨ys, h, r.unhide⟩
    | .dct kvs, ⟨ys, h, k, r⟩ => ⟨ys, h, k, r.unhide⟩
    | .ins C fs, ⟨dx, gs, h, r⟩ => ⟨dx, gs, h, r.unhide⟩
theorem Vw.fro.hide {a : Addr} (f : W.fro a) (n : a ≠ q) : (W.hide q).fro a := ⟨f.1, fun z => z.elim f.2 n⟩
end
section
variable {W : Vw} {q : Addr} {st : Sto} (hq : W.H q = none)
theorem Vw.Tup.hideN (hq : W.H q = none) {a : Addr} {ys : List V} (h : W.Tup a ys) : (W.hide q).Tup a ys := h.imp (fun h => ⟨h.1, h.2.hide (ne_of_none h.1 hq)⟩) id
theorem Vw.Lst.hideN (hq : W.H q = none) {a : Addr} {ys : List V} (h : W.Lst a ys) : (W.hide q).Lst a ys := by
  rcases h with ⟨h | ⟨o, h⟩, f⟩ | h
  · exact .inl ⟨.inl h, f.hide (ne_of_none h hq)⟩
  · exact .inl ⟨.inr ⟨o, h⟩, f.hide (ne_of_none h hq)⟩
  · exact .inr h
mutual
theorem RV.hideN (hq : W.H q = none) : ∀ {d : D} {v : V}, RV W d v → RV (W.hide q) d v
  | _, _, .non => .non
  | _, _, .bl b => .bl b
  | _, _, .int i => .int i
  | _, _, .str s => .str s
  | _, _, .ty n => .ty n
  | _, _, .glo s => .glo (W := W.hide q) s
  | _, _, .tup h r => .tup (h.hideN hq) (r.hideN hq)
  | _, _, .lst h r => .lst (h.hideN hq) (r.hideN hq)
  | _, _, .dct h f e r => .dct h (f.hide (ne_of_none h hq)) e (r.hideN hq)
  | _, _, .obj h f r => .obj h (f.hide (ne_of_none h hq)) (r.hideN hq)
  | _, _, .exc h f a b r => .exc h (f.hide (ne_of_none h hq)) a (fun dx e => ⟨(b dx e).1, (b dx e).2.hide (ne_of_none (b dx e).1 hq)⟩) (r.hideN hq)
  | _, _, .ref h => .ref h
theorem RVs.hideN (hq : W.H q = none) : ∀ {d : List D} {v : List V}, RVs W d v → RVs (W.hide q) d v
  | _, _, .nil => .nil
  | _, _, .cons h r => .cons (h.hideN hq) (r.hideN hq)
theorem RFs.hideN (hq : W.H q = none) : ∀ {d : List (Str × D)} {v : List (Str × V)}, RFs W d v → RFs (W.hide q) d v
  | _, _, .nil => .nil
  | _, _, .cons h r => .cons (h.hideN hq) (r.hideN hq)
end
end
section
variable {W : Vw} {q : Addr} {st : Sto} {u : HO}
/-- a new thing is laid at q and hidden at once: what stood for values still does -/
theorem RV.laidH (hq : W.H q = none) {d : D} {v : V} (r : RV W d v) : RV ((W.hide q).to W.ρ (upd W.H q u)) d v := (r.hideN hq).zput (W := W.hide q) (.inr rfl)
theorem Sim.laidH (S : Sim W st) (hq : W.H q = none) : Sim ((W.hide q).to W.ρ (upd W.H q u)) st where
  len := S.len
  nd := S.nd
  nz := fun a m z => z.elim (S.nz a m) fun e => by
    obtain ⟨o, h⟩ := S.tr m
    rw [e, hq] at h
    cases h
  zt := fun a h => by
    by_cases e : a = q
    · exact ⟨u, by rw [e]; exact upd_same⟩
    · obtain ⟨o, z⟩ := S.zt a (h.elim id fun z => absurd z e)
      exact ⟨o, (upd_ne e).trans z⟩
  at_ := fun n o a h1 h2 => by
    obtain ⟨v, z⟩ := S.tr (List.mem_of_getElem? h2)
    have ne : a ≠ q := ne_of_none z hq
    match o, S.at_ n o a h1 h2 with
    | .lst xs, ⟨ys, h, r⟩ => exact ⟨ys, (upd_ne ne).trans h, (r.hideN hq).zput (W := W.hide q) (.inr rfl)⟩
    | .dct kvs, ⟨ys, h, k, r⟩ => exact ⟨ys, (upd_ne ne).trans h, k, (r.hideN hq).zput (W := W.hide q) (.inr rfl)⟩
    | .ins C fs, ⟨dx, gs, h, r⟩ => exact ⟨dx, gs, (upd_ne ne).trans h, (r.hideN hq).zput (W := W.hide q) (.inr rfl)⟩
theorem EnvR.laidH {env : Env} {σ : L2.St} (h : EnvR W env σ) (hq : W.H q = none) : EnvR ((W.hide q).to W.ρ (upd W.H q u)) env σ := ⟨h.len, fun i d e => by obtain ⟨v, e1, r⟩ := h.at_ i d e; exact ⟨v, e1, r.laidH hq⟩⟩
end
/-! ### the comprehension -/
def PL (W : Vw) (xs : List D) (v : V) : Prop := RV W (.lst xs) v
section
variable {X : Cx} {F : Fx} {pos : Pos}
theorem compF_ok {w : IW} {p : Pat} {t : IT} {e : IE} {g : TG} {σ : L2.St} {H : Hp} {Q : VK} (hp : PatOk F.K p g) (h : TI F (iCompF w p t e) σ H Q) : tLc (TW F w) g (TT_ F.quiet t) (TI F.quiet e) p.slots σ H Q := by
  refine (TX.bind (k := fun a env s => (compF a.1 p t e (wipeE env p.slots) a.2 0 [] s).bind fun xs s2 => R.ok (D.lst xs) s2) h).mono fun J H1 ⟨W0, s, env, a, A, r, q⟩ => ?_
  obtain ⟨nx, m⟩ := a
  intro D hD
  have eH := A.h
  subst eH
  have nz0 : ¬ W0.Z D := fun z => by
    obtain ⟨o, e⟩ := A.sim.zt D z
    rw [hD] at e
    cases e
  let V : List Addr → Hp → Vw := fun ρ H => (W0.hide D).to ρ H
  have q1 : Post W0 PL (compF nx p t e (wipeE env p.slots) m 0 [] s) Q (F.at_ σ) := by
    have q' : PostE W0 ((compF nx p t e (wipeE env p.slots) m 0 [] s).bind fun xs s2 => .ok (.lst xs) s2) Q (F.at_ σ) := q
    cases z : compF nx p t e (wipeE env p.slots) m 0 [] s with
    | ok u s2 => rw [z] at q'; exact q'
    | exc C fs s2 => rw [z] at q'; exact q'
    | bad => rw [z] at q'; exact q'.elim
  have vx : ∀ {ρ' : List Addr} {H' : Hp}, Ext W0 ρ' H' → VX W0 (V ρ' H') := fun x => ⟨rfl, rfl, x, fun a z => z.elim .inl fun e => .inr (by rw [e]; exact hD)⟩
  refine ⟨fun i m H => ∃ ρ' st acc ys, Ext W0 ρ' H ∧ D ∉ ρ' ∧ H D = some (.lst ys) ∧ Sim (V ρ' H) st ∧ EnvR (V ρ' H) (wipeE env p.slots) (L2.wipe σ p.slots) ∧ RVs (V ρ' H) acc ys ∧ Post W0 PL (compF nx p t e (wipeE env p.slots) m i acc st) Q (F.at_ σ),
    ⟨m, W0.ρ, s, [], [], ext_new0 hD, fun z => ?_, upd_same, A.sim.laidH hD, (A.env.wipe p.slots).laidH hD, .nil, q1⟩, fun i m H ⟨ρ', st, acc, ys, x, nD, eD, S, er, ra, q⟩ => ?_⟩
  · obtain ⟨o, e⟩ := A.sim.tr z
    rw [hD] at e
    cases e
  have done : nx i st = some none → Post W0 PL (.ok acc st) Q (F.at_ σ) → J.stop i H ∧ Q (.ref D) H := fun en q => by
    refine ⟨r.stop (V ρ' H) st i (vx x) S en, q ρ' H (.ref D) x (Sim.unhide (W := W0.to ρ' H) S) ?_⟩
    exact .lst (.inl ⟨.inl eD, nD, nz0⟩) (RVs.unhide (W := W0.to ρ' H) ra)
  cases m with
  | zero =>
    unfold compF at q
    split at q
    · exact .inl (done (by assumption) q)
    · exact q.elim
  | succ m =>
    unfold compF at q
    split at q
    · exact .inl (done (by assumption) q)
    · rename_i d en
      obtain ⟨h1, h2⟩ := r.go (V ρ' H) st i d (vx x) S en
      refine .inr ⟨h1, fun H => ∃ ρ' st acc ys, Ext W0 ρ' H ∧ D ∉ ρ' ∧ H D = some (.lst ys) ∧ Sim (V ρ' H) st ∧ EnvR (V ρ' H) (wipeE env p.slots) (L2.wipe σ p.slots) ∧ RVs (V ρ' H) acc ys ∧ Post W0 PL (compF nx p t e (wipeE env p.slots) m (i + 1) acc st) Q (F.at_ σ), fun H' z => ⟨m, Nat.lt_succ_self m, z⟩, fun v H2 hy => ?_⟩
      obtain ⟨x2, S2, rv⟩ := h2 v H2 hy
      -- how a step in the hidden view looks from W0
      have low : ∀ {ρ2 ρ3 : List Addr} {H2 H3 : Hp}, Ext W0 ρ2 H2 → Ext (V ρ2 H2) ρ3 H3 → Ext (W0.to ρ2 H2) ρ3 H3 := fun x y => ⟨y.pre, y.new, y.keep⟩
      cases hb : p.bind d (wipeE env p.slots) with
      | none => rw [hb] at q; exact q.elim
      | some env' =>
        rw [hb] at q
        refine hp.go (V ρ' H2) d v _ _ _ _ A.k rv (er.mono x2) hb fun σ' er' ew => ⟨by rw [ew, wipe_wipe], ?_⟩
        have x3 : Ext W0 ρ' H2 := x.trans (low x x2)
        have eD2 : H2 D = some (.lst ys) := x2.keep D _ eD nD
        have q2 : Post W0 PL (((t env' st).nox).bind fun k s1 => if k = true then ((e env' s1).nox).bind fun v s2 => if acc.length < sizeLine then compF nx p t e (wipeE env p.slots) m (i + 1) (acc ++ [v]) s2 else .bad else compF nx p t e (wipeE env p.slots) m (i + 1) acc s1) Q (F.at_ σ) := q
        refine ⟨V ρ' H2, st, env', ⟨A.k, A.g, rfl, S2, er'⟩, ?_⟩
        cases ht : t env' st with
        | bad => rw [ht] at q2; exact q2.elim
        | exc C fs s1 => rw [ht] at q2; exact q2.elim
        | ok k s1 =>
          rw [ht] at q2
          intro ρ3 H3 b x4 S3 eb
          cases (show k = b from eb)
          have x5 : Ext W0 ρ3 H3 := x3.trans (low x3 x4)
          have nD3 : D ∉ ρ3 := x4.notin eD2 nD
          have eD3 : H3 D = some (.lst ys) := x4.keep D _ eD2 nD
          have q3 : Post W0 PL (if k = true then ((e env' s1).nox).bind fun v s2 => if acc.length < sizeLine then compF nx p t e (wipeE env p.slots) m (i + 1) (acc ++ [v]) s2 else .bad else compF nx p t e (wipeE env p.slots) m (i + 1) acc s1) Q (F.at_ σ) := q2
          have er3 : EnvR (V ρ3 H3) (wipeE env p.slots) (L2.wipe σ p.slots) := (er.mono x2).mono x4
          have ra3 : RVs (V ρ3 H3) acc ys := (ra.mono x2).mono x4
          cases k with
          | false => exact ⟨ρ3, s1, acc, ys, x5, nD3, eD3, S3, er3, ra3, q3⟩
          | true =>
            rw [if_pos rfl] at q3 ⊢
            refine ⟨V ρ3 H3, s1, env', ⟨A.k, A.g, rfl, S3, er'.mono x4⟩, ?_⟩
            cases he : e env' s1 with
            | bad => rw [he] at q3; exact q3.elim
            | exc C fs s2 => rw [he] at q3; exact q3.elim
            | ok y s2 =>
              rw [he] at q3
              intro ρ5 H5 yv x6 S5 ry
              have q4 : Post W0 PL (if acc.length < sizeLine then compF nx p t e (wipeE env p.slots) m (i + 1) (acc ++ [y]) s2 else .bad) Q (F.at_ σ) := q3
              have x7 : Ext W0 ρ5 H5 := x5.trans (low x5 x6)
              have nD5 : D ∉ ρ5 := x6.notin eD3 nD3
              have eD5 : H5 D = some (.lst ys) := x6.keep D _ eD3 nD3
              split at q4
              · rename_i c
                have x8 : Ext W0 ρ5 (upd H5 D (.lst (ys ++ [yv]))) := ⟨x7.pre, x7.new, fun a o h n => by rw [upd_ne (ne_of_none h hD)]; exact x7.keep a o h n⟩
                refine ⟨ys, eD5, by rw [← ra3.length]; exact c, ρ5, s2, acc ++ [y], ys ++ [yv], x8, nD5, upd_same, Sim.zput (W := V ρ5 H5) S5 (.inr rfl), EnvR.zput (W := V ρ5 H5) (er3.mono x6) (.inr rfl), RVs.zput (W := V ρ5 H5) (.inr rfl) ((ra3.mono x6).append (.cons ry .nil)), q4⟩
              · exact q4.elim
    · exact q.elim
theorem e_lcF {elt tg iter : Expr} {ifs : List Expr} {scope : Scope} {own : List (Str × Nat)} {g : TG} {p : Pat} {w : IW} {t : IT} {e : IE} (hp : PatOk F.K p g) (ho : own.map (·.2) = p.slots) (hc : X.calm = true) (hN : X.N.Nodup) (hi : PI X tg iter (TW F w)) (ok : BlkOk X.N X.env.scope scope own)
    (hg : ∀ (s : Shared) (H : Hp) (C : Addr) (cl : List (Str × Addr)) (fp : List Addr), PG (X.blk s H scope (compEnvC scope cl C X.env) fp) tg g) (ht : ∀ (s : Shared) (H : Hp) (C : Addr) (cl : List (Str × Addr)) (fp : List Addr), PTs (X.blk s H scope (compEnvC scope cl C X.env) fp) ifs (TT_ F.quiet t))
    (he : ∀ (s : Shared) (H : Hp) (C : Addr) (cl : List (Str × Addr)) (fp : List Addr), PE (X.blk s H scope (compEnvC scope cl C X.env) fp) elt (TI F.quiet e)) (hs : ∀ x, foldedSetIterable iter X.env x = pure x := by intro _; rfl) :
    PE X (.ListComp elt [⟨tg, iter, ifs, 0⟩] scope pos) (TI F (iCompF w p t e)) := PE.imp (pe_lc hc hN hi ok hg ht he hs) fun σ H Q h => by rw [ho]; exact compF_ok hp h
/-- name = [..] -/
theorem s_setLcF {i : Nat} {y : Str} {py : Pos} {elt tg iter : Expr} {ifs : List Expr} {scope : Scope} {own : List (Str × Nat)} {spos : Pos} {g : TG} {p : Pat} {w : IW} {t : IT} {e : IE} (hp : PatOk F.K p g) (ho : own.map (·.2) = p.slots) (hc : X.calm = true) (hN : X.N.Nodup) (hy : X.N[i]? = some y) (hyl : X.env.scope.names.lookup y = some .local)
    (hsw : swapsWith (.ListComp elt [⟨tg, iter, ifs, 0⟩] scope pos) (some (.Name y py)) spos.line X.env = pure true) (hi : PI X tg iter (TW F w)) (ok : BlkOk X.N X.env.scope scope own)
    (hg : ∀ (s : Shared) (H : Hp) (C : Addr) (cl : List (Str × Addr)) (fp : List Addr), PG (X.blk s H scope (compEnvC scope cl C X.env) fp) tg g) (ht : ∀ (s : Shared) (H : Hp) (C : Addr) (cl : List (Str × Addr)) (fp : List Addr), PTs (X.blk s H scope (compEnvC scope cl C X.env) fp) ifs (TT_ F.quiet t))
    (he : ∀ (s : Shared) (H : Hp) (C : Addr) (cl : List (Str × Addr)) (fp : List Addr), PE (X.blk s H scope (compEnvC scope cl C X.env) fp) elt (TI F.quiet e)) (hs : ∀ x, foldedSetIterable iter X.env x = pure x := by intro _; rfl) :
    PS X (.Assign [.Name y py] (.ListComp elt [⟨tg, iter, ifs, 0⟩] scope pos) spos) (TS_ F (sSet i (iCompF w p t e))) := PS.imp (ps_setLc hc hN hy hyl hsw hi ok hg ht he hs) fun N σ H h => by
  rw [ho]
  exact compF_ok hp ((TX.bindS (k := fun d env s => .nx (env.set i (some d)) s) h).mono fun v H1 ⟨W, s, env, a, A, r, p⟩ => by
    have q := PostS.nx p A.sim (A.env.set r i)
    rw [A.h] at q
    exact q)
end
end M
/-! M13: what the head tells: own exception classes, isinstance's table; the Hook; the law's end. -/
namespace M
open PySem PySem.Spec PyProof.Rows L2

/-- a family of exceptions -/
inductive Fam where
  | v | l | r
  deriving DecidableEq
def Fam.nm : Fam → String
  | .v => "ValueError"
  | .l => "LookupError"
  | .r => "RuntimeError"
def Fam.new : Fam → String
  | .v => "ValueError.__new__"
  | .l => "LookupError.__new__"
  | .r => "RuntimeError.__new__"
def Fam.ini : Fam → String
  | .v => "ValueError.__init__"
  | .l => "LookupError.__init__"
  | .r => "RuntimeError.__init__"
def Fam.tail (f : Fam) : List Value := [.type f.nm, .type "Exception", .type "BaseException", .type "object"]
theorem Fam.xb : ∀ f : Fam, XB f.nm f.new f.ini f.tail
  | .v => xbV
  | .l => xbL
  | .r => xbR
section
variable {K : PySem.W.Frag}
open He (eqO eqO_ok ba)
/-- the class object -/
def xclsB (K : PySem.W.Frag) (f : Fam) (C : Addr) : Bool := match K.lookup C with
  | some ⟨.type t, _, .cls cd, sl⟩ => (match cd.mro, sl.toList with
    | .ref c1 :: bm, [_, _, _, _, some (.builtin n), _] => decide (t = "type") && (decide (c1 = C) && (decide (n = f.new) && (!cd.hasDel && (cd.hasDict && over f.tail bm))))
    | _, _ => false)
  | _ => false
theorem xclsB_ok {f : Fam} {C : Addr} (h : xclsB K f C = true) : ∃ nm q N bs bm sn sub ab col dd k0 k1 k2 k3 k5, K.lookup C = some (excClassObj nm q C N bs bm true sn sub ab col dd k0 k1 k2 k3 k5 f.new) ∧ over f.tail bm = true := by
  unfold xclsB at h
  split at h
  · rename_i t dd cd sl ho
    split at h
    · rename_i c1 bm k0 k1 k2 k3 n k5 hm hs
      obtain ⟨h1, h⟩ := ba h
      obtain ⟨h2, h⟩ := ba h
      obtain ⟨h3, h⟩ := ba h
      obtain ⟨h4, h⟩ := ba h
      obtain ⟨h5, h6⟩ := ba h
      have e1 := of_decide_eq_true h1
      have e2 := of_decide_eq_true h2
      have e3 := of_decide_eq_true h3
      obtain ⟨cn, cb, cm, cns, cq, chd, csn, csub, cab, ccol, cdel⟩ := cd
      have e4 : cdel = false := by simpa using h4
      have e5 : chd = true := h5
      have e6 : cm = .ref c1 :: bm := hm
      subst e1 e2 e3 e4 e5 e6
      have e7 : sl = #[k0, k1, k2, k3, some (.builtin f.new), k5] := by
        obtain ⟨l⟩ := sl
        rw [show l = _ from hs]
      subst e7
      exact ⟨_, _, _, _, bm, _, _, _, _, _, _, _, _, _, _, ho, h6⟩
    · cases h
  · cases h
def xcB (K : PySem.W.Frag) (f : Fam) (C : Addr) : Bool := xclsB K f C && (eqO (PySem.W.findIn K (.ref C) "__setattr__") (some (some (.builtin "object.__setattr__"))) && (decide (PySem.W.subIn K (.ref C) (.type "BaseException") = some true) && (decide (PySem.W.typeIn K (.ref C) = some (.type "type")) && PySem.W.keepIn K (.ref C))))
theorem xcB_ok {f : Fam} {C : Addr} (h : xcB K f C = true) : XC K C := by
  obtain ⟨h1, h⟩ := ba h
  obtain ⟨h2, h⟩ := ba h
  obtain ⟨h3, h⟩ := ba h
  obtain ⟨h4, h5⟩ := ba h
  exact ⟨⟨_, _, _, _, f.xb, xclsB_ok h1⟩, eqO_ok h2, of_decide_eq_true h3, of_decide_eq_true h4, h5⟩
/-- isinstance, fields -/
def xfAll (K : PySem.W.Frag) (C : Addr) : Bool := xfB K C && ((PySem.W.clsIn K C).isSome && (eqO (PySem.W.findIn K (.ref C) "__class__") (some (some (.builtin "object.__class__"))) && (eqO (PySem.W.specialIn K (.builtin "object.__class__") "__get__") (some (some (.builtin "getset_descriptor.__get__"))) && (decide (PySem.W.takesIn K (.builtin "object.__class__") = some true) && decide (PySem.W.mroIn K C (.type "object") = some true)))))
theorem xfAll_ok {C : Addr} (h : xfAll K C = true) : XF K C := by
  obtain ⟨h1, h⟩ := ba h
  obtain ⟨h2, h⟩ := ba h
  obtain ⟨h3, h⟩ := ba h
  obtain ⟨h4, h⟩ := ba h
  obtain ⟨h5, h6⟩ := ba h
  exact ⟨xfB_ok h1, h2, eqO_ok h3, eqO_ok h4, of_decide_eq_true h5, of_decide_eq_true h6⟩
/-- an own exception class: its name, family, the fields of its __init__ (none: it has none) -/
structure XD where
  nm : Str
  fam : Fam
  fs : Option (List Str)
def XD.ok (K : PySem.W.Frag) (d : XD) : Bool := xfAll K (He.ga K d.nm) && (match d.fs with
  | none => PySem.W.excIn K (He.ga K d.nm) d.fam.tail d.fam.new && PySem.W.keepIn K (.ref (He.ga K d.nm))
  | some fs => xcB K d.fam (He.ga K d.nm) && (fs.all (fun f => eqO (PySem.W.findIn K (.ref (He.ga K d.nm)) f) (some none)) && (eqO (PySem.W.findIn K (.ref (He.ga K d.nm)) "__init__") (some (some (.ref (He.ma K (He.ga K d.nm) "__init__")))) && decide (PySem.W.typeIn K (.ref (He.ma K (He.ga K d.nm) "__init__")) = some (.type "function")))))
theorem XD.xf {d : XD} (h : d.ok K = true) : XF K (He.ga K d.nm) := xfAll_ok (ba h).1
theorem XD.plain {d : XD} (h : d.ok K = true) (e : d.fs = none) : PySem.W.excIn K (He.ga K d.nm) d.fam.tail d.fam.new = true ∧ PySem.W.keepIn K (.ref (He.ga K d.nm)) = true := by
  have h2 := (ba h).2
  rw [e] at h2
  exact ba h2
theorem XD.made {d : XD} {fs : List Str} (h : d.ok K = true) (e : d.fs = some fs) : XC K (He.ga K d.nm) ∧ (∀ f ∈ fs, PySem.W.findIn K (.ref (He.ga K d.nm)) f = some none) ∧ PySem.W.findIn K (.ref (He.ga K d.nm)) "__init__" = some (some (.ref (He.ma K (He.ga K d.nm) "__init__"))) ∧ PySem.W.typeIn K (.ref (He.ma K (He.ga K d.nm) "__init__")) = some (.type "function") := by
  have h2 := (ba h).2
  rw [e] at h2
  obtain ⟨h3, h⟩ := ba h2
  obtain ⟨h4, h⟩ := ba h
  obtain ⟨h5, h6⟩ := ba h
  exact ⟨xcB_ok h3, fun f hf => eqO_ok (List.all_eq_true.mp h4 f hf), eqO_ok h5, of_decide_eq_true h6⟩
/-- isinstance's table -/
def isaB (K : PySem.W.Frag) (q : Tg × Tg × Bool) : Bool := decide (PySem.W.kitOne K (q.1.val (He.ga K)) (q.2.1.val (He.ga K)) = some q.2.2)
def isaT (tb : List (Tg × Tg × Bool)) (t c : Tg) : Option Bool := (tb.find? fun q => decide (q.1 = t) && decide (q.2.1 = c)).map fun q => q.2.2
theorem isaT_ok {tb : List (Tg × Tg × Bool)} (h : tb.all (isaB K) = true) (t c : Tg) (b : Bool) (e : isaT tb t c = some b) : PySem.W.kitOne K (t.val (He.ga K)) (c.val (He.ga K)) = some b := by
  obtain ⟨q, hq, eb⟩ := Option.map_eq_some_iff.mp e
  have hm := List.mem_of_find?_eq_some hq
  have hp : (decide (q.1 = t) && decide (q.2.1 = c)) = true := List.find?_some (p := fun q : Tg × Tg × Bool => decide (q.1 = t) && decide (q.2.1 = c)) hq
  obtain ⟨h1, h2⟩ := ba hp
  have z := of_decide_eq_true (List.all_eq_true.mp h q hm)
  have e1 := of_decide_eq_true h1
  have e2 := of_decide_eq_true h2
  rw [← e1, ← e2, ← eb]
  exact z
end

/-! ### the Hook -/
abbrev AlM : Type := Bool × He.AlD
def obsM (B : PySem.W.Frag → Bool) (fa : List He.Fa) (fn : List He.DefD) (K : PySem.W.Frag) : AlM := (B K, He.obsD fa fn K)
def SaysM (B : PySem.W.Frag → Bool) (fa : List He.Fa) (fn : List He.DefD) (K : PySem.W.Frag) : Prop := obsM B fa fn K = (true, He.valD fn)
def obsMG (n : Nat) (B : PySem.W.Frag → Bool) (fa : List He.Fa) (fn : List He.DefD) (g : Addr → Option Obj) : AlM := obsM B fa fn (He.frG g (He.asD g n))
def hookM (n : Nat) (B : PySem.W.Frag → Bool) (fa : List He.Fa) (fn : List He.DefD) : PySem.W.Hook where
  α := AlM
  obs := fun s => obsMG n B fa fn s.heap.get?
  val := fun _ => (true, He.valD fn)
  says := fun _ h => ∃ K : PySem.W.Frag, K.In h ∧ SaysM B fa fn K
  of := fun _ _ e => ⟨_, He.frG_in, e⟩
  keeps := fun _ _ _ ⟨K, hK, c⟩ k => ⟨K, PySem.W.Frag.In.keeps hK k, c⟩
theorem obsMG_eq {n : Nat} {B : PySem.W.Frag → Bool} {fa : List He.Fa} {fn : List He.DefD} {g : Addr → Option Obj} {s : Shared} (h : ∀ a, g a = s.heap.get? a) : obsMG n B fa fn g = (hookM n B fa fn).obs s := by
  have e : g = s.heap.get? := funext h
  rw [e] <;> rfl
theorem SaysM.says {B : PySem.W.Frag → Bool} {fa : List He.Fa} {fn : List He.DefD} {K : PySem.W.Frag} (c : SaysM B fa fn K) : He.SaysD fa fn K := congrArg (fun z : AlM => z.2) c
theorem SaysM.b {B : PySem.W.Frag → Bool} {fa : List He.Fa} {fn : List He.DefD} {K : PySem.W.Frag} (c : SaysM B fa fn K) : B K = true := congrArg (fun z : AlM => z.1) c

/-! ### the law's end -/
theorem walk_ofM {l : PySem.W.OpenLaw} {n k : Nat} {q : Program} {loose : List Str} {XP : (Str → Option Value) → Heap → Prop} {YP : World → Heap → Prop} {d : DefRec} {x : Str} {f : Fn}
    (hn : l.most = some n) (hn2 : n ≤ sizeLine) (hdf : d.params.defaults = []) (hr : Room k callerA)
    (F : ∀ (w : World) (mg : Str → Option Value) (fa : Addr) (h : Heap), YP w h → h.Ns mainGlobals mg → mg d.name = some (.ref fa) →
      ∃ (K : PySem.W.Frag) (fd : FuncData), K.In h ∧ (∀ (s : Shared) (u : Value), BindsTo s fd ⟨[u], []⟩ [(x, u)]) ∧ ∀ base : Heap, FnG l.prog w K mg base k fa fd [x] (SPx K (He.ga K) f))
    (hf : ∀ ns : List Int, ns.length ≤ n → ∃ st, f [.lst (ns.map .int)] [] = .ok (.bl true) st) :
    PySem.W.WalkO q loose XP YP l.row.toRowW d [] (fun f vs => PySem.call f vs) := by
  refine Att.attach_call hn hdf fun w s₀ s₁ mg mb fa o pm cd doc a vs ns G Y ho hd hcd hmg hobj hints hlen hg => ?_
  obtain ⟨K, fd, KX, hb, hF⟩ := F w mg fa _ Y G.T.g hmg
  refine law_callG KX G.T.g G.T.b G.T.builtins G.T.nolimit hg hobj hints (Nat.le_trans hlen hn2) hr hF hb fun H hO hS => ?_
  obtain ⟨st, e⟩ := hf ns hlen
  let W : Vw := ⟨K, He.ga K, fun _ => False, [], H⟩
  have rr : ∀ ns : List Int, RVs W (ns.map D.int) (ns.map V.int) := fun ns => by
    induction ns with
    | nil => exact .nil
    | cons i is ih => exact .cons (.int i) ih
  refine ⟨W, [], _, rfl, rfl, rfl, ⟨rfl, List.nodup_nil, (fun _ m => by cases m), (fun _ z => False.elim z), (fun n o a h _ => by simp at h)⟩, .cons (.lst (hS.imp (fun h => ⟨h, ⟨(fun m => by cases m), (fun z => z)⟩⟩) id) (rr ns)) .nil, ?_⟩
  rw [e]
  intro ρ' H' v _ _ rv
  cases rv
  rfl
end M
/-! M14: the arguments of exceptions. -/
namespace M
open PySem PySem.Spec PyProof.Rows L2
def gCat {α : Type} (a b : List α) : List α := a ++ b
def gRev {α : Type} (a b : List α) : List α := a ++ b.reverse
theorem vals_rev : ∀ {vs : List V} {us : List Value}, Vals vs us → Vals vs.reverse us.reverse
  | [], [], .nil => .nil
  | _ :: _, _ :: _, .cons h r => by
    rw [List.reverse_cons, List.reverse_cons]
    exact Vals.append (vals_rev r) (.cons h .nil)
theorem hCat {vs zs : List V} {us ws : List Value} (r : Vals vs us) (q : Vals zs ws) : Vals (gCat vs zs) (gCat us ws) := Vals.append r q
theorem hRev {vs zs : List V} {us ws : List Value} (r : Vals vs us) (q : Vals zs ws) : Vals (gRev vs zs) (gRev us ws) := Vals.append r (vals_rev q)
theorem RVs.rev {W : Vw} : ∀ {ds : List D} {vs : List V}, RVs W ds vs → RVs W ds.reverse vs.reverse
  | [], [], .nil => .nil
  | _ :: _, _ :: _, .cons h r => by
    rw [List.reverse_cons, List.reverse_cons]
    exact (RVs.rev r).append (.cons h .nil)
theorem pm_pos {n : Nat} {fs : List Str} (h : n = fs.length := by rfl) : Perm gCat gCat n 0 fs := ⟨fun W ds es vs zs r q l1 l2 => ⟨vs ++ zs, fun a => rfl, by rw [List.length_append, ← r.length, ← q.length, l1, l2, h]; rfl, r.append q⟩⟩
theorem pm_kw {m : Nat} {fs : List Str} (h : m = fs.length := by rfl) : Perm gCat gCat 0 m fs := ⟨fun W ds es vs zs r q l1 l2 => ⟨vs ++ zs, fun a => rfl, by rw [List.length_append, ← r.length, ← q.length, l1, l2, h]; omega, r.append q⟩⟩
theorem pm_rev {m : Nat} {fs : List Str} (h : m = fs.length := by rfl) : Perm gRev gRev 0 m fs := ⟨fun W ds es vs zs r q l1 l2 => ⟨vs ++ zs.reverse, fun a => rfl, by rw [List.length_append, List.length_reverse, ← r.length, ← q.length, l1, l2, h]; omega, r.append q.rev⟩⟩
/-- XI without a frame -/
structure XI_ (P : Program) (w : World) (K : PySem.W.Frag) (mg : Str → Option Value) (base : Heap) (k n : Nat) (C : Addr) (fs ks : List Str) (gV : {α : Type} → List α → List α → List α) : Prop where
  cls : XC K C
  nf : ∀ f ∈ fs, PySem.W.findIn K (.ref C) f = some none
  ini : ∃ (fI : Addr) (fd : FuncData) (ps : List Str) (g : List Value → List Value → List Value), PySem.W.findIn K (.ref C) "__init__" = some (some (.ref fI)) ∧ PySem.W.typeIn K (.ref fI) = some (.type "function") ∧ FnOk P w K mg base (L2.CX P w) k fI fd ps (spX K fs) ∧ KBn K fd ps (n + 1) ks g gV
theorem XI_.of {X : Cx} {k n : Nat} {C : Addr} {fs ks : List Str} {gV : {α : Type} → List α → List α → List α} (h : XI_ X.prog X.w X.K X.mg X.base k n C fs ks gV) : XI X k n C fs ks gV := ⟨h.cls, h.nf, h.ini⟩
/-! ### comparisons as tests -/
section
variable {X : Cx} {F : Fx} {pos : Pos} {a b c : Expr}
def kBl (d : D) (s : Sto) : R Bool := match d with
  | .bl k => .ok k s
  | _ => .bad
def tBl (i : IE) : IT := fun env st => (i env st).bind kBl
theorem tbl_of {i : IE} {σ : L2.St} {H : Hp} {Q : Bool → Hp → Prop} (h : TT_ F (tBl i) σ H Q) : tTest (TI F i) σ H Q := (TX.bind (k := fun d env s => kBl d s) h).mono fun x H1 ⟨W, st, env, d, A, r, p⟩ => by
  unfold kBl at p
  cases r with
  | bl k =>
    have q := PostT.now p A.sim
    rw [A.h] at q
    exact ⟨k, rfl, q⟩
  | _ => exact p.elim
theorem tTest_mono {t t' : TE} {σ : L2.St} {H : Hp} {Q : Bool → Hp → Prop} (m : ∀ Q : VK, t σ H Q → t' σ H Q) (h : tTest t σ H Q) : tTest t' σ H Q := m _ h
theorem t_cmp {op : CmpOp} {f : Op2} {i j : IE} (ho : OpR X (compareOp op) (r2 F f)) (ha : PE X a (TI F i)) (hb : PE X b (TI F j)) (h1 : behindInMarks op b = false := by first | exact nomark _ | rfl) : PT X (.Compare a [op] [b] pos) (TT_ F (tBl (iBin f i j))) :=
  PT.imp (pt_cmpR ho ha hb h1) fun σ H Q h => tTest_mono (fun Q h => bin_r2 h) (tbl_of h)
theorem t_ws {i : IT} (h : PW X a (TT_ F i)) : PT X a (TT_ F i) := h.pt
end
end M
/-! RL: laws of the embedding's functions: loops, comprehensions, texts. -/
namespace M
open PySem L2

theorem lstAt_set {st : Sto} {n : Nat} {xs ys : List D} (h : lstAt st n = some ys) : lstAt (st.set n (.lst xs)) n = some xs := by
  have hl : n < st.length := by
    by_cases c : n < st.length
    · exact c
    · unfold lstAt at h
      rw [List.getElem?_eq_none (by omega)] at h
      cases h
  unfold lstAt
  rw [List.getElem?_set_self hl]
theorem lstAt_new (st : Sto) (xs : List D) : lstAt (st ++ [.lst xs]) st.length = some xs := by
  unfold lstAt
  rw [List.getElem?_append_right (Nat.le_refl _), Nat.sub_self]
  rfl
theorem opMul_s {i j : Int} {st : Sto} (h : smallI i ∨ smallI j) : opMul (.int i) (.int j) st = some (.int (i * j), st) := if_pos h
theorem opFdiv_s {i j : Int} {st : Sto} (h : 0 < j) (h2 : j.natAbs.log2 < 9000) : opFdiv (.int i) (.int j) st = some (.int (i / j), st) := if_pos ⟨h, h2⟩
theorem opMod_s {i j : Int} {st : Sto} (h : 0 < j) : opMod (.int i) (.int j) st = some (.int (i % j), st) := if_pos h
/-- a for over a list that goes on to its end -/
theorem forL_inv {nx : Nx} {g : IG} {b : IS} {xs : List D} (P : Env → Sto → Prop) (hn : ∀ i st, nx i st = some xs[i]?)
    (step : ∀ d ∈ xs, ∀ env st, P env st → ∃ e1 s1, g d env st = .ok e1 s1 ∧ ∃ e2 s2, (b e1 s1 = .nx e2 s2 ∨ b e1 s1 = .ct e2 s2) ∧ P e2 s2) :
    ∀ (m i : Nat) (env : Env) (st : Sto), xs.length ≤ i + m → P env st → ∃ e2 s2, forL nx g b m i env st = .nx e2 s2 ∧ P e2 s2
  | 0, i, env, st, hl, h => ⟨env, st, by unfold forL; rw [hn, List.getElem?_eq_none (by omega)], h⟩
  | m + 1, i, env, st, hl, h => by
    unfold forL
    rw [hn]
    cases q : xs[i]? with
    | none => exact ⟨env, st, rfl, h⟩
    | some d =>
      obtain ⟨e1, s1, h1, e2, s2, h2, h3⟩ := step d (List.mem_of_getElem? q) env st h
      obtain ⟨e3, s3, h4, h5⟩ := forL_inv P hn step m (i + 1) e2 s2 (by omega) h3
      refine ⟨e3, s3, ?_, h5⟩
      show liftS (g d env st) env (fun env1 s1 => kWhile b (forL nx g b m (i + 1)) (b env1 s1)) = _
      rw [h1]
      show kWhile b (forL nx g b m (i + 1)) (b e1 s1) = _
      rcases h2 with h2 | h2
      · rw [h2]; exact h4
      · rw [h2]; exact h4
theorem nxL_at (xs : List D) (i : Nat) (st : Sto) : nxL xs i st = some xs[i]? := rfl
theorem nxR_at (n : Nat) (i : Nat) (st : Sto) : nxR 0 n i st = some ((List.range n).map fun k : Nat => D.int (k : Int))[i]? := by
  unfold nxR
  by_cases h : i < n
  · rw [if_pos h, List.getElem?_map, List.getElem?_range h]
    simp
  · rw [if_neg h, List.getElem?_eq_none (by simpa using h)]
/-- a comprehension that keeps all, and changes nothing -/
theorem compF_map {nx : Nx} {p : Pat} {e : IE} {env0 : Env} {xs : List D} {st : Sto} (f : D → D) (hn : ∀ i st, nx i st = some xs[i]?)
    (h : ∀ d ∈ xs, ∃ env, p.bind d env0 = some env ∧ e env st = .ok (f d) st) :
    ∀ (m i : Nat) (acc : List D), xs.length ≤ i + m → acc.length + xs.length ≤ sizeLine + i → compF nx p tYes' e env0 m i acc st = .ok (acc ++ (xs.drop i).map f) st
  | 0, i, acc, hl, _ => by
    unfold compF
    rw [hn, List.getElem?_eq_none (by omega), List.drop_of_length_le (by omega)]
    simp
  | m + 1, i, acc, hl, hz => by
    unfold compF
    rw [hn]
    cases q : xs[i]? with
    | none =>
      have hi : xs.length ≤ i := List.getElem?_eq_none_iff.mp q
      rw [List.drop_of_length_le hi]
      simp
    | some d =>
      obtain ⟨env, h1, h2⟩ := h d (List.mem_of_getElem? q)
      obtain ⟨hi, hd⟩ := List.getElem?_eq_some_iff.mp q
      show (match p.bind d env0 with
        | some env => ((tYes' env st).nox).bind fun k s1 => if k = true then ((e env s1).nox).bind fun v s2 => if acc.length < sizeLine then compF nx p tYes' e env0 m (i + 1) (acc ++ [v]) s2 else .bad else compF nx p tYes' e env0 m (i + 1) acc s1
        | none => .bad) = _
      rw [h1]
      show ((e env st).nox).bind (fun v s2 => if acc.length < sizeLine then compF nx p tYes' e env0 m (i + 1) (acc ++ [v]) s2 else .bad) = _
      rw [h2]
      show (if acc.length < sizeLine then compF nx p tYes' e env0 m (i + 1) (acc ++ [f d]) st else .bad) = _
      rw [if_pos (by omega), compF_map f hn h m (i + 1) (acc ++ [f d]) (by omega) (by simp; omega), List.drop_eq_getElem_cons hi, hd]
      simp
/-! ### texts -/
theorem strOk_append (a b : Str) : PyData.strOk (a ++ b) = (PyData.strOk a && PyData.strOk b) := by
  show (a.cps ++ b.cps).all _ = _
  rw [Array.all_append]
  rfl
theorem strOk_of (s : String) : PyData.strOk (Str.ofString s) = true := by
  unfold PyData.strOk
  rw [Str.ofString_eq_toList]
  simp only [List.all_toArray, List.all_map, List.all_eq_true]
  intro c _
  have h : c.val.toNat < 0x110000 := by
    have := c.valid
    simp only [UInt32.isValidChar, Nat.isValidChar] at this
    omega
  exact decide_eq_true h
/-! ### steps -/
theorem sSeq_nx {i j : IS} {env e1 : Env} {st s1 : Sto} (h : i env st = .nx e1 s1) : sSeq i j env st = j e1 s1 := by
  show kSeq j (i env st) = _
  rw [h]; rfl
theorem sSeq_ret {i j : IS} {env : Env} {st s1 : Sto} {d : D} (h : i env st = .ret d s1) : sSeq i j env st = .ret d s1 := by
  show kSeq j (i env st) = _
  rw [h]; rfl
theorem sSet_ok {k : Nat} {e : IE} {env : Env} {st s : Sto} {d : D} (h : e env st = .ok d s) : sSet k e env st = .nx (env.set k (some d)) s := by
  show liftS (e env st) env _ = _
  rw [h]; rfl
theorem sRet_ok {e : IE} {env : Env} {st s : Sto} {d : D} (h : e env st = .ok d s) : sRet e env st = .ret d s := by
  show liftS (e env st) env _ = _
  rw [h]; rfl
theorem sIf_t {c : IT} {i j : IS} {env : Env} {st s : Sto} (h : c env st = .ok true s) : sIf c i j env st = i env s := by
  show liftS (c env st) env _ = _
  rw [h]; rfl
theorem sIf_f {c : IT} {i j : IS} {env : Env} {st s : Sto} (h : c env st = .ok false s) : sIf c i j env st = j env s := by
  show liftS (c env st) env _ = _
  rw [h]; rfl
theorem sIf_skip {c : IT} {i : IS} {env : Env} {st s : Sto} (h : c env st = .ok false s) : sIf c i sNil env st = .nx env s := sIf_f h
theorem iBin_ok {f : Op2} {i j : IE} {env : Env} {st s1 s2 s3 : Sto} {a b d : D} (h1 : i env st = .ok a s1) (h2 : j env s1 = .ok b s2) (h3 : f a b s2 = some (d, s3)) : iBin f i j env st = .ok d s3 := by
  show ((i env st).bind fun a s1 => (j env s1).bind fun b s2 => ofO (f a b s2)) = _
  rw [h1]
  show ((j env s1).bind fun b s2 => ofO (f a b s2)) = _
  rw [h2]
  show ofO (f a b s2) = _
  rw [h3]; rfl
theorem iUn_ok {f : Op1} {i : IE} {env : Env} {st s1 s2 : Sto} {a d : D} (h1 : i env st = .ok a s1) (h2 : f a s1 = some (d, s2)) : iUn f i env st = .ok d s2 := by
  show ((i env st).bind fun a s1 => ofO (f a s1)) = _
  rw [h1]
  show ofO (f a s1) = _
  rw [h2]; rfl
theorem iN_ok {f : OpN} {j : IA} {env : Env} {st s1 s2 : Sto} {ds : List D} {d : D} (h1 : j env st = .ok ds s1) (h2 : f ds s1 = some (d, s2)) : iN f j env st = .ok d s2 := by
  show ((j env st).bind fun ds s => ofO (f ds s)) = _
  rw [h1]
  show ofO (f ds s1) = _
  rw [h2]; rfl
theorem aCons_ok {i : IE} {j : IA} {env : Env} {st s1 s2 : Sto} {d : D} {ds : List D} (h1 : i env st = .ok d s1) (h2 : j env s1 = .ok ds s2) : aCons i j env st = .ok (d :: ds) s2 := by
  show ((i env st).bind fun d s => (j env s).bind fun ds s2 => .ok (d :: ds) s2) = _
  rw [h1]
  show ((j env s1).bind fun ds s2 => .ok (d :: ds) s2) = _
  rw [h2]; rfl
theorem aNil_ok {env : Env} {st : Sto} : aNil env st = .ok [] st := rfl
theorem iCall_ok {f : Fn} {dd : List D} {j : IA} {env : Env} {st s1 s2 : Sto} {ds : List D} {d : D} (h1 : j env st = .ok ds s1) (h2 : f (ds ++ dd) s1 = .ok d s2) : iCall f dd j env st = .ok d s2 := by
  show ((j env st).bind fun ds s => f (ds ++ dd) s) = _
  rw [h1]; exact h2
theorem iAnd_t {i j : IE} {env : Env} {st s1 : Sto} {d : D} {r : R D} (h1 : i env st = .ok d s1) (h2 : truD s1 d = some true) (h3 : j env s1 = r) : iAnd i j env st = r := by
  show ((i env st).bind fun d s => match truD s d with
    | some true => j env s
    | some false => .ok d s
    | none => .bad) = _
  rw [h1]
  show (match truD s1 d with
    | some true => j env s1
    | some false => .ok d s1
    | none => .bad) = _
  rw [h2]; exact h3
theorem tTru_ok {i : IE} {env : Env} {st s1 : Sto} {d : D} {k : Bool} (h1 : i env st = .ok d s1) (h2 : truD s1 d = some k) : tTru i env st = .ok k s1 := by
  show ((i env st).bind fun d s => match truD s d with
    | some k => .ok k s
    | none => .bad) = _
  rw [h1]
  show (match truD s1 d with
    | some k => R.ok k s1
    | none => R.bad) = _
  rw [h2]
theorem tBl_ok {i : IE} {env : Env} {st s1 : Sto} {k : Bool} (h1 : i env st = .ok (.bl k) s1) : tBl i env st = .ok k s1 := by
  show ((i env st).bind kBl) = _
  rw [h1]; rfl
theorem tNot_ok {i : IT} {env : Env} {st s1 : Sto} {k : Bool} (h1 : i env st = .ok k s1) : tNot' i env st = .ok (!k) s1 := by
  show ((i env st).bind fun k s => .ok (!k) s) = _
  rw [h1]; rfl
theorem tOr_f {i j : IT} {env : Env} {st s1 : Sto} {r : R Bool} (h1 : i env st = .ok false s1) (h2 : j env s1 = r) : tOr' i j env st = r := by
  show ((i env st).bind fun k s => if k = true then .ok true s else j env s) = _
  rw [h1]; exact h2
theorem wSeq_ok {i : IE} {env : Env} {st s1 : Sto} {xs : List D} (h : i env st = .ok (.lst xs) s1) : wSeq i env st = .ok (nxL xs, xs.length) s1 := by
  show ((i env st).bind kSeqW) = _
  rw [h]; rfl
theorem iCompF_ok {w : IW} {nx : Nx} {m : Nat} {p : Pat} {e : IE} {env : Env} {st : Sto} {xs : List D} (f : D → D) (hw : w env st = .ok (nx, m) st) (hn : ∀ i st, nx i st = some xs[i]?) (hm : xs.length ≤ m) (hl : xs.length ≤ sizeLine)
    (h : ∀ d ∈ xs, ∃ env', p.bind d (wipeE env p.slots) = some env' ∧ e env' st = .ok (f d) st) : iCompF w p tYes' e env st = .ok (.lst (xs.map f)) st := by
  show ((w env st).bind fun a s => (compF a.1 p tYes' e (wipeE env p.slots) a.2 0 [] s).bind fun xs s2 => R.ok (D.lst xs) s2) = _
  rw [hw]
  show ((compF nx p tYes' e (wipeE env p.slots) m 0 [] st).bind fun xs s2 => R.ok (D.lst xs) s2) = _
  rw [compF_map f hn h m 0 [] (by omega) (by simpa using hl)]
  rfl
theorem sFor_ok {w : IW} {nx : Nx} {m : Nat} {g : IG} {b : IS} {env : Env} {st s1 : Sto} {xs : List D} (P : Env → Sto → Prop) (hw : w env st = .ok (nx, m) s1) (hn : ∀ i st, nx i st = some xs[i]?) (hm : xs.length ≤ m) (h0 : P env s1)
    (step : ∀ d ∈ xs, ∀ env st, P env st → ∃ e1 s1, g d env st = .ok e1 s1 ∧ ∃ e2 s2, (b e1 s1 = .nx e2 s2 ∨ b e1 s1 = .ct e2 s2) ∧ P e2 s2) : ∃ e2 s2, sFor w g b env st = .nx e2 s2 ∧ P e2 s2 := by
  obtain ⟨e2, s2, h1, h2⟩ := forL_inv P hn step m 0 env s1 (by omega) h0
  refine ⟨e2, s2, ?_, h2⟩
  show liftS (w env st) env (fun a s => forL a.1 g b a.2 0 env s) = _
  rw [hw]; exact h1
theorem runB_ret {b : IS} {n p : Nat} {ds : List D} {st s : Sto} {d : D} (hl : ds.length = p) (h : b (ds.map some ++ List.replicate (n - p) none) st = .ret d s) : runB b n p ds st = .ok d s := by
  unfold runB
  rw [if_pos hl, h]; rfl
theorem seq_for_ret {w : IW} {nx : Nx} {m : Nat} {g : IG} {b j : IS} {env : Env} {st s1 : Sto} {xs : List D} {d : D} (P : Env → Sto → Prop) (hw : w env st = .ok (nx, m) s1) (hn : ∀ i st, nx i st = some xs[i]?) (hm : xs.length ≤ m) (h0 : P env s1)
    (step : ∀ d ∈ xs, ∀ env st, P env st → ∃ e1 s1, g d env st = .ok e1 s1 ∧ ∃ e2 s2, (b e1 s1 = .nx e2 s2 ∨ b e1 s1 = .ct e2 s2) ∧ P e2 s2) (hj : ∀ e2 s2, P e2 s2 → ∃ s3, j e2 s2 = .ret d s3) : ∃ s3, sSeq (sFor w g b) j env st = .ret d s3 := by
  obtain ⟨e2, s2, h1, h2⟩ := sFor_ok P hw hn hm h0 step
  obtain ⟨s3, h3⟩ := hj e2 s2 h2
  exact ⟨s3, (sSeq_nx h1).trans h3⟩
theorem for_goal {w : IW} {nx : Nx} {m : Nat} {g : IG} {b : IS} {env : Env} {st s1 : Sto} {xs : List D} {Q : Env → Sto → Prop} (P : Env → Sto → Prop) (hw : w env st = .ok (nx, m) s1) (hn : ∀ i st, nx i st = some xs[i]?) (hm : xs.length ≤ m) (h0 : P env s1)
    (step : ∀ d ∈ xs, ∀ env st, P env st → ∃ e1 s1, g d env st = .ok e1 s1 ∧ ∃ e2 s2, (b e1 s1 = .nx e2 s2 ∨ b e1 s1 = .ct e2 s2) ∧ P e2 s2) (hj : ∀ e2 s2, P e2 s2 → Q e2 s2) : ∃ e2 s2, (sFor w g b env st = .nx e2 s2 ∨ sFor w g b env st = .ct e2 s2) ∧ Q e2 s2 := by
  obtain ⟨e2, s2, h1, h2⟩ := sFor_ok P hw hn hm h0 step
  exact ⟨e2, s2, .inl h1, hj e2 s2 h2⟩
end M
/-! the law law_k01_errors_and_limits as Lean functions -/
namespace M
open PySem
def xs_k01 : List Str := ["InvalidText", "NotARatio", "NotASampler", "NotAJoin", "NotAPlayer", "InvalidLength", "InvalidItem", "InvalidPlace", "InvalidCount", "InvalidFraction", "InvalidDraws", "InvalidEdit", "UnknownPlace", "NotDrawn", "DrawnTwice", "BelowOne", "Unsettled", "TooMuch", "UnlikePlaces", "NothingBack", "Held", "ZeroBelow", "Gap", "Missing", "Refused"]
def tl_k01 : List (Tg × Tg × Bool) := [(.own "InvalidText", .own "KeepError", false), (.own "InvalidText", .ty "LookupError", false), (.own "InvalidText", .own "ProgramError", false), (.own "InvalidText", .ty "RuntimeError", false), (.own "InvalidText", .own "TextError", true), (.own "InvalidText", .ty "ValueError", true), (.own "NotARatio", .own "KeepError", false), (.own "NotARatio", .ty "LookupError", false), (.own "NotARatio", .own "ProgramError", false), (.own "NotARatio", .ty "RuntimeError", false), (.own "NotARatio", .own "TextError", true), (.own "NotARatio", .ty "ValueError", true), (.own "NotASampler", .own "KeepError", false), (.own "NotASampler", .ty "LookupError", false), (.own "NotASampler", .own "ProgramError", false), (.own "NotASampler", .ty "RuntimeError", false), (.own "NotASampler", .own "TextError", true), (.own "NotASampler", .ty "ValueError", true), (.own "NotAJoin", .own "KeepError", false), (.own "NotAJoin", .ty "LookupError", false), (.own "NotAJoin", .own "ProgramError", false), (.own "NotAJoin", .ty "RuntimeError", false), (.own "NotAJoin", .own "TextError", true), (.own "NotAJoin", .ty "ValueError", true), (.own "NotAPlayer", .own "KeepError", false), (.own "NotAPlayer", .ty "LookupError", false), (.own "NotAPlayer", .own "ProgramError", false), (.own "NotAPlayer", .ty "RuntimeError", false), (.own "NotAPlayer", .own "TextError", true), (.own "NotAPlayer", .ty "ValueError", true), (.own "InvalidLength", .own "KeepError", false), (.own "InvalidLength", .ty "LookupError", false), (.own "InvalidLength", .own "ProgramError", false), (.own "InvalidLength", .ty "RuntimeError", false), (.own "InvalidLength", .own "TextError", true), (.own "InvalidLength", .ty "ValueError", true), (.own "InvalidItem", .own "KeepError", false), (.own "InvalidItem", .ty "LookupError", false), (.own "InvalidItem", .own "ProgramError", false), (.own "InvalidItem", .ty "RuntimeError", false), (.own "InvalidItem", .own "TextError", true), (.own "InvalidItem", .ty "ValueError", true), (.own "InvalidPlace", .own "KeepError", false), (.own "InvalidPlace", .ty "LookupError", false), (.own "InvalidPlace", .own "ProgramError", false), (.own "InvalidPlace", .ty "RuntimeError", false), (.own "InvalidPlace", .own "TextError", true), (.own "InvalidPlace", .ty "ValueError", true), (.own "InvalidCount", .own "KeepError", false), (.own "InvalidCount", .ty "LookupError", false), (.own "InvalidCount", .own "ProgramError", false), (.own "InvalidCount", .ty "RuntimeError", false), (.own "InvalidCount", .own "TextError", true), (.own "InvalidCount", .ty "ValueError", true), (.own "InvalidFraction", .own "KeepError", false), (.own "InvalidFraction", .ty "LookupError", false), (.own "InvalidFraction", .own "ProgramError", false), (.own "InvalidFraction", .ty "RuntimeError", false), (.own "InvalidFraction", .own "TextError", true), (.own "InvalidFraction", .ty "ValueError", true), (.own "InvalidDraws", .own "KeepError", false), (.own "InvalidDraws", .ty "LookupError", false), (.own "InvalidDraws", .own "ProgramError", false), (.own "InvalidDraws", .ty "RuntimeError", false), (.own "InvalidDraws", .own "TextError", true), (.own "InvalidDraws", .ty "ValueError", true), (.own "InvalidEdit", .own "KeepError", false), (.own "InvalidEdit", .ty "LookupError", false), (.own "InvalidEdit", .own "ProgramError", false), (.own "InvalidEdit", .ty "RuntimeError", false), (.own "InvalidEdit", .own "TextError", true), (.own "InvalidEdit", .ty "ValueError", true), (.own "UnknownPlace", .own "KeepError", false), (.own "UnknownPlace", .ty "LookupError", true), (.own "UnknownPlace", .own "ProgramError", true), (.own "UnknownPlace", .ty "RuntimeError", false), (.own "UnknownPlace", .own "TextError", false), (.own "UnknownPlace", .ty "ValueError", false), (.own "NotDrawn", .own "KeepError", false), (.own "NotDrawn", .ty "LookupError", true), (.own "NotDrawn", .own "ProgramError", true), (.own "NotDrawn", .ty "RuntimeError", false), (.own "NotDrawn", .own "TextError", false), (.own "NotDrawn", .ty "ValueError", false), (.own "DrawnTwice", .own "KeepError", false), (.own "DrawnTwice", .ty "LookupError", true), (.own "DrawnTwice", .own "ProgramError", true), (.own "DrawnTwice", .ty "RuntimeError", false), (.own "DrawnTwice", .own "TextError", false), (.own "DrawnTwice", .ty "ValueError", false), (.own "BelowOne", .own "KeepError", false), (.own "BelowOne", .ty "LookupError", true), (.own "BelowOne", .own "ProgramError", true), (.own "BelowOne", .ty "RuntimeError", false), (.own "BelowOne", .own "TextError", false), (.own "BelowOne", .ty "ValueError", false), (.own "Unsettled", .own "KeepError", false), (.own "Unsettled", .ty "LookupError", true), (.own "Unsettled", .own "ProgramError", true), (.own "Unsettled", .ty "RuntimeError", false), (.own "Unsettled", .own "TextError", false), (.own "Unsettled", .ty "ValueError", false), (.own "TooMuch", .own "KeepError", false), (.own "TooMuch", .ty "LookupError", true), (.own "TooMuch", .own "ProgramError", true), (.own "TooMuch", .ty "RuntimeError", false), (.own "TooMuch", .own "TextError", false), (.own "TooMuch", .ty "ValueError", false), (.own "UnlikePlaces", .own "KeepError", true), (.own "UnlikePlaces", .ty "LookupError", false), (.own "UnlikePlaces", .own "ProgramError", false), (.own "UnlikePlaces", .ty "RuntimeError", true), (.own "UnlikePlaces", .own "TextError", false), (.own "UnlikePlaces", .ty "ValueError", false), (.own "NothingBack", .own "KeepError", true), (.own "NothingBack", .ty "LookupError", false), (.own "NothingBack", .own "ProgramError", false), (.own "NothingBack", .ty "RuntimeError", true), (.own "NothingBack", .own "TextError", false), (.own "NothingBack", .ty "ValueError", false), (.own "Held", .own "KeepError", true), (.own "Held", .ty "LookupError", false), (.own "Held", .own "ProgramError", false), (.own "Held", .ty "RuntimeError", true), (.own "Held", .own "TextError", false), (.own "Held", .ty "ValueError", false), (.own "ZeroBelow", .own "KeepError", true), (.own "ZeroBelow", .ty "LookupError", false), (.own "ZeroBelow", .own "ProgramError", false), (.own "ZeroBelow", .ty "RuntimeError", true), (.own "ZeroBelow", .own "TextError", false), (.own "ZeroBelow", .ty "ValueError", false), (.own "Gap", .own "KeepError", true), (.own "Gap", .ty "LookupError", false), (.own "Gap", .own "ProgramError", false), (.own "Gap", .ty "RuntimeError", true), (.own "Gap", .own "TextError", false), (.own "Gap", .ty "ValueError", false), (.own "Missing", .own "KeepError", true), (.own "Missing", .ty "LookupError", false), (.own "Missing", .own "ProgramError", false), (.own "Missing", .ty "RuntimeError", true), (.own "Missing", .own "TextError", false), (.own "Missing", .ty "ValueError", false), (.own "Refused", .own "KeepError", true), (.own "Refused", .ty "LookupError", false), (.own "Refused", .own "ProgramError", false), (.own "Refused", .ty "RuntimeError", true), (.own "Refused", .own "TextError", false), (.own "Refused", .ty "ValueError", false)]
abbrev tb_k01 := isaT tl_k01
def fl_k01 (f : Str) : List Str := if f = "at" then ["Gap"] else if f = "demand" then ["Refused"] else if f = "index" then ["InvalidDraws", "InvalidEdit"] else if f = "line" then ["UnknownPlace", "NotDrawn", "DrawnTwice", "BelowOne", "Unsettled"] else if f = "name" then ["Missing", "Refused"] else if f = "value" then ["InvalidText", "NotARatio", "NotASampler", "NotAJoin", "NotAPlayer", "InvalidLength", "InvalidItem", "InvalidPlace", "InvalidCount", "InvalidFraction"] else if f = "what" then ["TooMuch"] else []
def B_k01__law_dip : IS := (sSeq (sAsg (gIx (iVar 0) (iC (.int 2))) (iBin opAdd (iBin opIx (iVar 0) (iC (.int 2))) (iC (.int 1))))
  (sSeq (sIf (tBl (iBin opGt (iBin opIx (iVar 0) (iC (.int 0))) (iC (.int 0)))) (sSeq (sSet 2 (iBin opMod (iN opInt (aCons (iBin opIx (iVar 0) (iC (.int 0))) aNil)) (iVar 1)))
  (sSeq (sAsg (gIx (iVar 0) (iC (.int 0))) (iBin opFdiv (iBin opIx (iVar 0) (iC (.int 0))) (iVar 1)))
  (sRet (iVar 2)))) sNil)
  (sSeq (sSet 3 (iN opInt (aCons (iBin opIx (iVar 0) (iC (.int 1))) aNil)))
  (sSeq (sAsg (gIx (iVar 0) (iC (.int 1))) (iBin opMod (iN opInt (aCons (iBin opAdd (iBin opAdd (iBin opMul (iVar 3) (iBin opAdd (iBin opMod (iVar 3) (iC (.int 48611))) (iC (.int 8191)))) (iBin opMul (iC (.int 6151)) (iBin opIx (iVar 0) (iC (.int 2))))) (iC (.int 11))) aNil)) (iC (.int 998244353))))
  (sRet (iBin opMod (iN opInt (aCons (iBin opFdiv (iBin opIx (iVar 0) (iC (.int 1))) (iC (.int 131))) aNil)) (iVar 1)))))))
def k01__law_dip : Fn := runB B_k01__law_dip 4 2
def B_k01__law_any : IS := (sRet (iBin opIx (iVar 1) (iCall k01__law_dip [] (aCons (iVar 0) (aCons (iN opLen (aCons (iVar 1) aNil)) aNil)))))
def k01__law_any : Fn := runB B_k01__law_any 2 2
def B_k01__law_due : IS := (sRet (iBin opMul (iCompF (wRng1 (aCons (iC (.int 3)) aNil)) (.one 1) tYes' (iBin (opEq false) (iVar 1) (iVar 0))) (iC (.int 2))))
def k01__law_due : Fn := runB B_k01__law_due 2 1
def B_k01__law_families : IS := (sSeq (sSet 1 (iN opLstF (aCons (iN (opIsi xs_k01 tb_k01) (aCons (iVar 0) (aCons (iC (.glo "TextError")) aNil))) (aCons (iN (opIsi xs_k01 tb_k01) (aCons (iVar 0) (aCons (iC (.glo "ProgramError")) aNil))) (aCons (iN (opIsi xs_k01 tb_k01) (aCons (iVar 0) (aCons (iC (.glo "KeepError")) aNil))) aNil)))))
  (sRet (iBin opAdd (iVar 1) (iN opLstF (aCons (iN (opIsi xs_k01 tb_k01) (aCons (iVar 0) (aCons (iC (.ty "ValueError")) aNil))) (aCons (iN (opIsi xs_k01 tb_k01) (aCons (iVar 0) (aCons (iC (.ty "LookupError")) aNil))) (aCons (iN (opIsi xs_k01 tb_k01) (aCons (iVar 0) (aCons (iC (.ty "RuntimeError")) aNil))) aNil)))))))
def k01__law_families : Fn := runB B_k01__law_families 2 1
def B_k01__law_others_right : IS := (sSeq (sSet 2 (iN opLstF (aCons (iMkx "UnknownPlace" 1 0 ["line"] gCat (aCons (iVar 0) aNil) aNil) (aCons (iMkx "NotDrawn" 1 0 ["line"] gCat (aCons (iVar 0) aNil) aNil) (aCons (iMkx "DrawnTwice" 1 0 ["line"] gCat (aCons (iVar 0) aNil) aNil) (aCons (iMkx "BelowOne" 1 0 ["line"] gCat (aCons (iVar 0) aNil) aNil) (aCons (iMkx "Unsettled" 0 1 ["line"] gCat aNil (aCons (iVar 0) aNil)) aNil)))))))
  (sSeq (sIf (tNot' (tTru (iN opAll (aCons (iCompF (wSeq (iVar 2)) (.one 3) tYes' (iAnd (iBin (opEq false) (iN opRepr (aCons (iUn (opFld (fl_k01 "line") "line") (iVar 3)) aNil)) (iN opRepr (aCons (iVar 0) aNil))) (iBin (opEq false) (iCall k01__law_families [] (aCons (iVar 3) aNil)) (iCall k01__law_due [] (aCons (iC (.int 1)) aNil))))) aNil)))) (sRet (iC (.bl false))) sNil)
  (sSeq (sFor (wSeq (iN opLstF (aCons (iMkx "TooMuch" 1 0 ["what"] gCat (aCons (iVar 0) aNil) aNil) (aCons (iMkx "TooMuch" 0 1 ["what"] gCat aNil (aCons (iVar 0) aNil)) aNil)))) (gVar 3) (sIf (tOr' (tBl (iBin (opEq true) (iN opRepr (aCons (iUn (opFld (fl_k01 "what") "what") (iVar 3)) aNil)) (iN opRepr (aCons (iVar 0) aNil)))) (tBl (iBin (opEq true) (iCall k01__law_families [] (aCons (iVar 3) aNil)) (iCall k01__law_due [] (aCons (iC (.int 1)) aNil))))) (sRet (iC (.bl false))) sNil))
  (sSeq (sFor (wSeq (iN opLstF (aCons (iMkx "Refused" 2 0 ["name", "demand"] gCat (aCons (iVar 0) (aCons (iVar 1) aNil)) aNil) (aCons (iMkx "Refused" 0 2 ["name", "demand"] gRev aNil (aCons (iVar 1) (aCons (iVar 0) aNil))) aNil)))) (gVar 3) (sIf (tOr' (tBl (iBin (opEq true) (iN opLstF (aCons (iN opRepr (aCons (iUn (opFld (fl_k01 "name") "name") (iVar 3)) aNil)) (aCons (iN opRepr (aCons (iUn (opFld (fl_k01 "demand") "demand") (iVar 3)) aNil)) aNil))) (iN opLstF (aCons (iN opRepr (aCons (iVar 0) aNil)) (aCons (iN opRepr (aCons (iVar 1) aNil)) aNil))))) (tBl (iBin (opEq true) (iCall k01__law_families [] (aCons (iVar 3) aNil)) (iCall k01__law_due [] (aCons (iC (.int 2)) aNil))))) (sRet (iC (.bl false))) sNil))
  (sSeq (sPar 4 5 (aCons (iMkx "Gap" 1 0 ["at"] gCat (aCons (iVar 0) aNil) aNil) (aCons (iMkx "Missing" 0 1 ["name"] gCat aNil (aCons (iVar 0) aNil)) aNil)))
  (sSeq (sIf (tBl (iBin (opEq true) (iN opLstF (aCons (iN opRepr (aCons (iUn (opFld (fl_k01 "at") "at") (iVar 4)) aNil)) (aCons (iN opRepr (aCons (iUn (opFld (fl_k01 "name") "name") (iVar 5)) aNil)) aNil))) (iBin opMul (iN opLstF (aCons (iN opRepr (aCons (iVar 0) aNil)) aNil)) (iC (.int 2))))) (sRet (iC (.bl false))) sNil)
  (sSeq (sSet 6 (iN opLstF (aCons (iVar 4) (aCons (iVar 5) (aCons (iC (.exc "UnlikePlaces" [])) (aCons (iC (.exc "NothingBack" [])) (aCons (iC (.exc "Held" [])) (aCons (iC (.exc "ZeroBelow" [])) aNil))))))))
  (sRet (iBin (opEq false) (iCompF (wSeq (iVar 6)) (.one 3) tYes' (iCall k01__law_families [] (aCons (iVar 3) aNil))) (iBin opMul (iN opLstF (aCons (iCall k01__law_due [] (aCons (iC (.int 2)) aNil)) aNil)) (iC (.int 6))))))))))))
def k01__law_others_right : Fn := runB B_k01__law_others_right 7 2
def B_k01__law_texts_right : IS := (sSeq (sSet 1 (iN opLstF (aCons (iMkx "InvalidText" 1 0 ["value"] gCat (aCons (iVar 0) aNil) aNil) (aCons (iMkx "NotARatio" 1 0 ["value"] gCat (aCons (iVar 0) aNil) aNil) (aCons (iMkx "NotASampler" 1 0 ["value"] gCat (aCons (iVar 0) aNil) aNil) (aCons (iMkx "NotAJoin" 1 0 ["value"] gCat (aCons (iVar 0) aNil) aNil) (aCons (iMkx "NotAPlayer" 1 0 ["value"] gCat (aCons (iVar 0) aNil) aNil) aNil)))))))
  (sSeq (sSet 1 (iBin opAdd (iVar 1) (iN opLstF (aCons (iMkx "InvalidLength" 1 0 ["value"] gCat (aCons (iVar 0) aNil) aNil) (aCons (iMkx "InvalidItem" 1 0 ["value"] gCat (aCons (iVar 0) aNil) aNil) (aCons (iMkx "InvalidPlace" 1 0 ["value"] gCat (aCons (iVar 0) aNil) aNil) (aCons (iMkx "InvalidCount" 1 0 ["value"] gCat (aCons (iVar 0) aNil) aNil) aNil)))))))
  (sSeq (sSet 1 (iBin opAdd (iVar 1) (iN opLstF (aCons (iMkx "InvalidFraction" 1 0 ["value"] gCat (aCons (iVar 0) aNil) aNil) (aCons (iMkx "InvalidText" 0 1 ["value"] gCat aNil (aCons (iVar 0) aNil)) (aCons (iMkx "InvalidFraction" 0 1 ["value"] gCat aNil (aCons (iVar 0) aNil)) aNil))))))
  (sSeq (sIf (tNot' (tTru (iN opAll (aCons (iCompF (wSeq (iVar 1)) (.one 2) tYes' (iAnd (iBin (opEq false) (iN opRepr (aCons (iUn (opFld (fl_k01 "value") "value") (iVar 2)) aNil)) (iN opRepr (aCons (iVar 0) aNil))) (iBin (opEq false) (iCall k01__law_families [] (aCons (iVar 2) aNil)) (iCall k01__law_due [] (aCons (iC (.int 0)) aNil))))) aNil)))) (sRet (iC (.bl false))) sNil)
  (sSeq (sSet 1 (iN opLstF (aCons (iMkx "InvalidDraws" 1 0 ["index"] gCat (aCons (iVar 0) aNil) aNil) (aCons (iMkx "InvalidEdit" 1 0 ["index"] gCat (aCons (iVar 0) aNil) aNil) (aCons (iMkx "InvalidDraws" 0 1 ["index"] gCat aNil (aCons (iVar 0) aNil)) aNil)))))
  (sRet (iN opAll (aCons (iCompF (wSeq (iVar 1)) (.one 2) tYes' (iAnd (iBin (opEq false) (iN opRepr (aCons (iUn (opFld (fl_k01 "index") "index") (iVar 2)) aNil)) (iN opRepr (aCons (iVar 0) aNil))) (iBin (opEq false) (iCall k01__law_families [] (aCons (iVar 2) aNil)) (iCall k01__law_due [] (aCons (iC (.int 0)) aNil))))) aNil))))))))
def k01__law_texts_right : Fn := runB B_k01__law_texts_right 3 1
def B_k01__law_well : IS := (sSeq (sSet 2 (iBin opAdd (iC (.int 41)) (iVar 1)))
  (sSeq (sFor (wSeq (iSl (iVar 0) oNone (oSome (iC (.int 4))))) (gVar 3) (sSet 2 (iBin opMod (iN opInt (aCons (iBin opAdd (iBin opAdd (iBin opMul (iVar 2) (iC (.int 6007))) (iBin opMul (iVar 3) (iC (.int 19)))) (iC (.int 5))) aNil)) (iC (.int 998244353)))))
  (sSeq (sSet 4 (iIf (tBl (iBin opLt (iVar 1) (iN opLen (aCons (iVar 0) aNil)))) (iBin opIx (iVar 0) (iVar 1)) (iBin opAdd (iBin opMul (iVar 2) (iC (.int 53))) (iVar 1))))
  (sSeq (sSet 5 (iIf (tOr' (tBl (iBin opLt (iVar 4) (iC (.int 0)))) (tBl (iBin opGe (iVar 4) (iBin opPow (iC (.int 10)) (iC (.int 18)))))) (iN opAbs (aCons (iVar 4) aNil)) (iC (.int 0))))
  (sRet (iN opLst (aCons (iVar 5) (aCons (iBin opMod (iN opInt (aCons (iBin opAdd (iBin opAdd (iBin opMul (iVar 4) (iC (.int 3301))) (iBin opMul (iVar 2) (iC (.int 7)))) (iC (.int 271))) aNil)) (iC (.int 998244353))) (aCons (iC (.int 0)) aNil)))))))))
def k01__law_well : Fn := runB B_k01__law_well 6 2
def B_k01_law : IS := (sSeq (sSet 1 (iN opLstF (aCons (iC (.int 3)) (aCons (iC (.int 24)) (aCons (iC (.int 6)) (aCons (iC (.int 4)) (aCons (iC (.int 3)) (aCons (iC (.int 60)) (aCons (iC (.int 19)) aNil)))))))))
  (sSeq (sIf (tBl (iBin (opEq true) (iVar 1) (iN opLstF (aCons (iC (.int 3)) (aCons (iC (.int 24)) (aCons (iC (.int 6)) (aCons (iC (.int 4)) (aCons (iC (.int 3)) (aCons (iC (.int 60)) (aCons (iC (.int 19)) aNil)))))))))) (sRet (iC (.bl false))) sNil)
  (sSeq (sFor (wRng1 (aCons (iN opMax (aCons (iC (.int 2)) (aCons (iN opMin (aCons (iN opLen (aCons (iVar 0) aNil)) (aCons (iC (.int 3)) aNil))) aNil))) aNil)) (gVar 2) (sSeq (sSet 3 (iCall k01__law_well [] (aCons (iVar 0) (aCons (iVar 2) aNil))))
  (sSeq (sSet 4 (iBin opMul (iCall k01__law_dip [] (aCons (iVar 3) (aCons (iBin opPow (iC (.int 10)) (iC (.int 40))) aNil))) (iCall k01__law_any [] (aCons (iVar 3) (aCons (iN opLstF (aCons (iC (.int 1)) (aCons (iUn opNeg (iC (.int 1))) aNil))) aNil)))))
  (sSeq (sSet 5 (iN opLstF (aCons (iVar 4) (aCons (iBin opAdd (iC (.str "b")) (iN opStr (aCons (iCall k01__law_dip [] (aCons (iVar 3) (aCons (iC (.int 89)) aNil))) aNil))) (aCons (iC .non) (aCons (iC (.bl true)) (aCons (iC (.bl false)) (aCons (iN opTup (aCons (iVar 4) (aCons (iC (.str "x")) aNil))) (aCons (iN opLstF (aCons (iC (.int 3)) aNil)) (aCons (iC (.dct [] [])) (aCons (iC (.int 0)) (aCons (iC (.int 1)) aNil))))))))))))
  (sFor (wSeq (iVar 5)) (gVar 6) (sIf (tOr' (tNot' (tTru (iCall k01__law_texts_right [] (aCons (iVar 6) aNil)))) (tNot' (tTru (iCall k01__law_others_right [] (aCons (iVar 6) (aCons (iCall k01__law_any [] (aCons (iVar 3) (aCons (iVar 5) aNil))) aNil)))))) (sRet (iC (.bl false))) sNil))))))
  (sRet (iC (.bl true))))))
def k01_law : Fn := runB B_k01_law 7 1
end M
/-! k01: the plain law. -/
namespace M
open PySem L2
def WellAt (st : Sto) (n : Nat) : Prop := ∃ d s c : Int, 0 ≤ d ∧ lstAt st n = some [.int d, .int s, .int c]
theorem dip_ok {st : Sto} {n : Nat} {many : Int} (hw : WellAt st n) (hm : 0 < many) (hl : many.natAbs.log2 < 9000) :
    ∃ r st', k01__law_dip [.ref n, .int many] st = .ok (.int r) st' ∧ 0 ≤ r ∧ r < many ∧ WellAt st' n := by
  obtain ⟨d, s, c, hd, h⟩ := hw
  have h1 : ∀ x, lstAt (st.set n (.lst x)) n = some x := fun x => lstAt_set h
  have h2 : ∀ x y, lstAt ((st.set n (.lst x)).set n (.lst y)) n = some y := fun x y => lstAt_set (h1 x)
  have e1 : smallI (s % 48611 + 8191) := by unfold smallI; omega
  have e2 : smallI 6151 := by unfold smallI; omega
  have l1 : ∀ i st, opFdiv (.int i) (.int 131) st = some (.int (i / 131), st) := fun i st => opFdiv_s (by decide) (by decide)
  by_cases hp : 0 < d
  · simp [k01__law_dip, runB, B_k01__law_dip, sSeq, sAsg, liftS, iBin, iVar, iC, R.bind, ofO, opIx, aseq, h, atI, ixN, opAdd, gIx, kSet, kSeq, sIf, tBl, kBl, opCmp, h1, h2, hp, sSet, iN, aCons, aNil, opInt, opMod_s hm, opFdiv_s hm hl, sRet, endB]
    exact ⟨_, _, ⟨rfl, rfl⟩, Int.emod_nonneg _ (by omega), Int.emod_lt_of_pos _ hm, d / many, s, c + 1, Int.ediv_nonneg hd (by omega), h1 _⟩
  · simp [k01__law_dip, runB, B_k01__law_dip, sSeq, sAsg, liftS, iBin, iVar, iC, R.bind, ofO, opIx, aseq, h, atI, ixN, opAdd, gIx, kSet, kSeq, sIf, tBl, kBl, opCmp, h1, h2, hp, sSet, iN, aCons, aNil, opInt, opMod_s, opFdiv_s, hm, sRet, endB, sNil, opMul_s, e1, e2, l1]
    exact ⟨_, _, ⟨rfl, rfl⟩, Int.emod_nonneg _ (by omega), Int.emod_lt_of_pos _ hm, d, _, _, hd, h1 _⟩
theorem any_ok {st : Sto} {n : Nat} {xs : List D} (hw : WellAt st n) (hx : 0 < xs.length) (hl : xs.length < 2 ^ 60) : ∃ t st', k01__law_any [.ref n, .lst xs] st = .ok t st' ∧ t ∈ xs ∧ WellAt st' n := by
  have hlog : ((xs.length : Nat) : Int).natAbs.log2 < 9000 := by
    rw [Int.natAbs_natCast]
    have := (Nat.log2_lt (by omega)).mpr hl
    omega
  obtain ⟨r, st', h1, h2, h3, h4⟩ := dip_ok (many := xs.length) hw (by omega) hlog
  have hr : r.toNat < xs.length := by omega
  refine ⟨xs[r.toNat], st', ?_, List.getElem_mem hr, h4⟩
  simp [k01__law_any, runB, B_k01__law_any, iBin, iVar, R.bind, iCall, aCons, aNil, iN, opLen, lenD, aseq, ofO, h1, sRet, liftS, endB, opIx, atI, ixN, h2, h3, hr]
/-- which of a family's truths -/
def fam : Int → List D
  | 0 => [.bl true, .bl false, .bl false, .bl true, .bl false, .bl false]
  | 1 => [.bl false, .bl true, .bl false, .bl false, .bl true, .bl false]
  | _ => [.bl false, .bl false, .bl true, .bl false, .bl false, .bl true]
theorem due0 (st : Sto) : k01__law_due [.int 0] st = .ok (.lst (fam 0)) st := by kernel_rfl
theorem due1 (st : Sto) : k01__law_due [.int 1] st = .ok (.lst (fam 1)) st := by kernel_rfl
theorem due2 (st : Sto) : k01__law_due [.int 2] st = .ok (.lst (fam 2)) st := by kernel_rfl
theorem fam0 (fs : List (Str × D)) (st : Sto) : ∀ C ∈ (["InvalidText", "NotARatio", "NotASampler", "NotAJoin", "NotAPlayer", "InvalidLength", "InvalidItem", "InvalidPlace", "InvalidCount", "InvalidFraction", "InvalidDraws", "InvalidEdit"] : List Str), k01__law_families [.exc C fs] st = .ok (.lst (fam 0)) st := by
  simp only [List.forall_mem_cons]
  refine ⟨?_, ?_, ?_, ?_, ?_, ?_, ?_, ?_, ?_, ?_, ?_, ?_, by simp⟩ <;> kernel_rfl
theorem fam1 (fs : List (Str × D)) (st : Sto) : ∀ C ∈ (["UnknownPlace", "NotDrawn", "DrawnTwice", "BelowOne", "Unsettled", "TooMuch"] : List Str), k01__law_families [.exc C fs] st = .ok (.lst (fam 1)) st := by
  simp only [List.forall_mem_cons]
  refine ⟨?_, ?_, ?_, ?_, ?_, ?_, by simp⟩ <;> kernel_rfl
theorem fam2 (fs : List (Str × D)) (st : Sto) : ∀ C ∈ (["UnlikePlaces", "NothingBack", "Held", "ZeroBelow", "Gap", "Missing", "Refused"] : List Str), k01__law_families [.exc C fs] st = .ok (.lst (fam 2)) st := by
  simp only [List.forall_mem_cons]
  refine ⟨?_, ?_, ?_, ?_, ?_, ?_, ?_, by simp⟩ <;> kernel_rfl
def ex (f : Str) (Cs : List Str) (x : D) : List D := Cs.map fun C => .exc C [(f, x)]
theorem eqF0 (st : Sto) : opEq false (.lst (fam 0)) (.lst (fam 0)) st = some (.bl true, st) := by kernel_rfl
theorem eqF1 (st : Sto) : opEq false (.lst (fam 1)) (.lst (fam 1)) st = some (.bl true, st) := by kernel_rfl
theorem neF1 (st : Sto) : opEq true (.lst (fam 1)) (.lst (fam 1)) st = some (.bl false, st) := by kernel_rfl
theorem neF2 (st : Sto) : opEq true (.lst (fam 2)) (.lst (fam 2)) st = some (.bl false, st) := by kernel_rfl
theorem iVar_ok {i : Nat} {env : Env} {st : Sto} {d : D} (h : env[i]? = some (some d)) : iVar i env st = .ok d st := by
  unfold iVar
  rw [h]
theorem rp_ok {i : IE} {env : Env} {st : Sto} {d : D} {z : Str} (h : i env st = .ok d st) (hx : rpr st d = some z) : iN opRepr (aCons i aNil) env st = .ok (.str z) st :=
  iN_ok (aCons_ok h aNil_ok) (by show (rpr st d).map _ = _; rw [hx]; rfl)
theorem fl_ok {fl : List Str} {f : Str} {i : IE} {env : Env} {st : Sto} {C : Str} {fs : List (Str × D)} {x : D} (h : i env st = .ok (.exc C fs) st) (hC : C ∈ fl) (hx : fs.lookup f = some x) : iUn (opFld fl f) i env st = .ok x st :=
  iUn_ok h (by show (if C ∈ fl then (fs.lookup f).map fun x => (x, st) else none) = _; rw [if_pos hC, hx]; rfl)
theorem fam_ok {i : IE} {env : Env} {st : Sto} {d r : D} (h : i env st = .ok d st) (hf : k01__law_families [d] st = .ok r st) : iCall k01__law_families [] (aCons i aNil) env st = .ok r st := iCall_ok (aCons_ok h aNil_ok) hf
theorem due_ok {k : Int} {env : Env} {st : Sto} {r : D} (hf : k01__law_due [.int k] st = .ok r st) : iCall k01__law_due [] (aCons (iC (.int k)) aNil) env st = .ok r st := iCall_ok (aCons_ok rfl aNil_ok) hf
theorem eqS (z : Str) (st : Sto) : opEq false (.str z) (.str z) st = some (.bl true, st) := by simp [opEq]
theorem neS (z : Str) (st : Sto) : opEq true (.str z) (.str z) st = some (.bl false, st) := by simp [opEq]
theorem el_ok {fl : List Str} {f C : Str} {k : Int} {x : D} {z : Str} {env : Env} {st : Sto} {j : Nat} (hj : env[j]? = some (some (.exc C [(f, x)]))) (h0 : env[0]? = some (some x)) (hx : rpr st x = some z) (hC : C ∈ fl) (hf : k01__law_families [.exc C [(f, x)]] st = .ok (.lst (fam k)) st)
    (hd : k01__law_due [.int k] st = .ok (.lst (fam k)) st) (he : opEq false (.lst (fam k)) (.lst (fam k)) st = some (.bl true, st)) :
    (iAnd (iBin (opEq false) (iN opRepr (aCons (iUn (opFld fl f) (iVar j)) aNil)) (iN opRepr (aCons (iVar 0) aNil))) (iBin (opEq false) (iCall k01__law_families [] (aCons (iVar j) aNil)) (iCall k01__law_due [] (aCons (iC (.int k)) aNil)))) env st = .ok (.bl true) st :=
  iAnd_t (iBin_ok (rp_ok (fl_ok (iVar_ok hj) hC (by simp [List.lookup])) hx) (rp_ok (iVar_ok h0) hx) (eqS z st)) rfl (iBin_ok (fam_ok (iVar_ok hj) hf) (due_ok hd) he)
theorem all_t {i : IE} {env : Env} {st : Sto} {xs : List D} (h : i env st = .ok (.lst (xs.map fun _ => D.bl true)) st) : iN opAll (aCons i aNil) env st = .ok (.bl true) st := by
  refine iN_ok (aCons_ok h aNil_ok) ?_
  have e : ∀ xs : List D, allP asB (xs.map fun _ => D.bl true) = some (xs.map fun _ => true) := fun xs => by
    induction xs with
    | nil => rfl
    | cons a r ih => rw [List.map_cons, List.map_cons]; unfold allP; rw [ih]; rfl
  show ((allP asB (xs.map fun _ => D.bl true)).map fun bs : List Bool => (D.bl (bs.all id), st)) = _
  rw [e]
  simp
abbrev n12 : List Str := ["InvalidText", "NotARatio", "NotASampler", "NotAJoin", "NotAPlayer", "InvalidLength", "InvalidItem", "InvalidPlace", "InvalidCount", "InvalidFraction", "InvalidText", "InvalidFraction"]
theorem texts_ok {st : Sto} {x : D} {z : Str} (hx : rpr st x = some z) : k01__law_texts_right [x] st = .ok (.bl true) st := by
  have key : ∀ (f : Str) (Cs : List Str) (y : Option D), (∀ C ∈ Cs, C ∈ fl_k01 f ∧ C ∈ (["InvalidText", "NotARatio", "NotASampler", "NotAJoin", "NotAPlayer", "InvalidLength", "InvalidItem", "InvalidPlace", "InvalidCount", "InvalidFraction", "InvalidDraws", "InvalidEdit"] : List Str)) → Cs.length ≤ 100 →
      iN opAll (aCons (iCompF (wSeq (iVar 1)) (.one 2) tYes' (iAnd (iBin (opEq false) (iN opRepr (aCons (iUn (opFld (fl_k01 f) f) (iVar 2)) aNil)) (iN opRepr (aCons (iVar 0) aNil))) (iBin (opEq false) (iCall k01__law_families [] (aCons (iVar 2) aNil)) (iCall k01__law_due [] (aCons (iC (.int 0)) aNil))))) aNil) [some x, some (.lst (ex f Cs x)), y] st = .ok (.bl true) st := fun f Cs y h hl =>
    all_t (iCompF_ok (fun _ => .bl true) (wSeq_ok (iVar_ok rfl)) (nxL_at _) (Nat.le_refl _) (by unfold ex; rw [List.length_map]; exact Nat.le_trans hl (by decide)) fun d hd => ⟨[some x, some (.lst (ex f Cs x)), some d], rfl, by
      obtain ⟨C, hC, rfl⟩ := List.mem_map.mp hd
      exact el_ok rfl rfl hx (h C hC).1 (fam0 _ _ C (h C hC).2) (due0 st) (eqF0 st)⟩)
  refine runB_ret rfl ?_
  unfold B_k01__law_texts_right
  rw [sSeq_nx (e1 := [some x, some (.lst (ex "value" (n12.take 5) x)), none]) (s1 := st) (by kernel_rfl), sSeq_nx (e1 := [some x, some (.lst (ex "value" (n12.take 9) x)), none]) (s1 := st) (by kernel_rfl), sSeq_nx (e1 := [some x, some (.lst (ex "value" n12 x)), none]) (s1 := st) (by kernel_rfl),
    sSeq_nx (e1 := [some x, some (.lst (ex "value" n12 x)), none]) (s1 := st) (sIf_skip (tNot_ok (tTru_ok (key "value" n12 none (by decide +kernel) (by decide)) rfl))),
    sSeq_nx (e1 := [some x, some (.lst (ex "index" ["InvalidDraws", "InvalidEdit", "InvalidDraws"] x)), none]) (s1 := st) (by kernel_rfl)]
  exact sRet_ok (key "index" _ none (by decide +kernel) (by decide))
theorem ne2 {a b : Str} (st : Sto) (ha : PyData.strOk a = true) (hb : PyData.strOk b = true) : opEq true (.lst [.str a, .str b]) (.lst [.str a, .str b]) st = some (.bl false, st) := by
  simp [opEq, toP, allP, ha, hb, PyData.eqv, PyData.eqvAll]
abbrev n5 : List Str := ["UnknownPlace", "NotDrawn", "DrawnTwice", "BelowOne", "Unsettled"]
theorem others_ok {st : Sto} {x y : D} {z u : Str} (hx : rpr st x = some z) (hy : rpr st y = some u) (hz : PyData.strOk z = true) (hu : PyData.strOk u = true) : k01__law_others_right [x, y] st = .ok (.bl true) st := by
  refine runB_ret rfl ?_
  unfold B_k01__law_others_right
  have e2 : ∀ q, ([some x, some y, some (.lst (ex "line" n5 x)), q, none, none, none] : Env) = [some x, some y, some (.lst (ex "line" n5 x)), q, none, none, none] := fun _ => rfl
  rw [sSeq_nx (e1 := [some x, some y, some (.lst (ex "line" n5 x)), none, none, none, none]) (s1 := st) (by kernel_rfl)]
  rw [sSeq_nx (e1 := [some x, some y, some (.lst (ex "line" n5 x)), none, none, none, none]) (s1 := st) (sIf_skip (tNot_ok (tTru_ok (all_t (iCompF_ok (xs := ex "line" n5 x) (fun _ => .bl true) (wSeq_ok (iVar_ok rfl)) (nxL_at _) (Nat.le_refl _) (show 5 ≤ sizeLine by decide) fun d hd => ⟨[some x, some y, some (.lst (ex "line" n5 x)), some d, none, none, none], rfl, by
      obtain ⟨C, hC, rfl⟩ := List.mem_map.mp hd
      have h1 : ∀ C ∈ n5, C ∈ fl_k01 "line" ∧ C ∈ (["UnknownPlace", "NotDrawn", "DrawnTwice", "BelowOne", "Unsettled", "TooMuch"] : List Str) := by decide +kernel
      exact el_ok rfl rfl hx (h1 C hC).1 (fam1 _ _ C (h1 C hC).2) (due1 st) (eqF1 st)⟩)) rfl)))]
  obtain ⟨E, s2, h1, rfl, q, rfl⟩ := sFor_ok (w := wSeq (iN opLstF (aCons (iMkx "TooMuch" 1 0 ["what"] gCat (aCons (iVar 0) aNil) aNil) (aCons (iMkx "TooMuch" 0 1 ["what"] gCat aNil (aCons (iVar 0) aNil)) aNil)))) (g := gVar 3) (b := (sIf (tOr' (tBl (iBin (opEq true) (iN opRepr (aCons (iUn (opFld (fl_k01 "what") "what") (iVar 3)) aNil)) (iN opRepr (aCons (iVar 0) aNil)))) (tBl (iBin (opEq true) (iCall k01__law_families [] (aCons (iVar 3) aNil)) (iCall k01__law_due [] (aCons (iC (.int 1)) aNil))))) (sRet (iC (.bl false))) sNil))
    (xs := ex "what" ["TooMuch", "TooMuch"] x) (env := [some x, some y, some (.lst (ex "line" n5 x)), none, none, none, none]) (st := st) (s1 := st) (fun env s => s = st ∧ ∃ q, env = [some x, some y, some (.lst (ex "line" n5 x)), q, none, none, none]) (wSeq_ok (by kernel_rfl)) (nxL_at _) (Nat.le_refl _) ⟨rfl, none, rfl⟩ fun d hd env s ⟨e1, q, e2⟩ => by
      subst e1 e2
      obtain ⟨C, hC, rfl⟩ := List.mem_map.mp hd
      refine ⟨[some x, some y, some (.lst (ex "line" n5 x)), some (.exc C [("what", x)]), none, none, none], _, rfl, [some x, some y, some (.lst (ex "line" n5 x)), some (.exc C [("what", x)]), none, none, none], s, .inl ?_, rfl, _, rfl⟩
      have h1 : ∀ C ∈ (["TooMuch", "TooMuch"] : List Str), C ∈ fl_k01 "what" ∧ C ∈ (["UnknownPlace", "NotDrawn", "DrawnTwice", "BelowOne", "Unsettled", "TooMuch"] : List Str) := by decide +kernel
      exact sIf_skip (tOr_f (tBl_ok (iBin_ok (rp_ok (fl_ok (iVar_ok rfl) (h1 C hC).1 (by simp [List.lookup])) hx) (rp_ok (iVar_ok rfl) hx) (neS z s))) (tBl_ok (iBin_ok (fam_ok (iVar_ok rfl) (fam1 _ _ C (h1 C hC).2)) (due_ok (due1 s)) (neF1 s))))
  rw [sSeq_nx h1]
  clear h1
  have hfl : ∀ C ∈ (["Refused"] : List Str), C ∈ fl_k01 "name" ∧ C ∈ fl_k01 "demand" := by decide +kernel
  have hft : ("Gap" : Str) ∈ fl_k01 "at" ∧ ("Missing" : Str) ∈ fl_k01 "name" := by decide +kernel
  obtain ⟨h3, h4⟩ := hfl "Refused" (by simp)
  let rf : D := .exc "Refused" [("demand", y), ("name", x)]
  have f2 : ∀ fs s, ∀ C ∈ (["UnlikePlaces", "NothingBack", "Held", "ZeroBelow", "Gap", "Missing", "Refused"] : List Str), k01__law_families [.exc C fs] s = .ok (.lst (fam 2)) s := fun fs s => fam2 fs s
  obtain ⟨E, s2, h1, rfl, q2, rfl⟩ := sFor_ok (w := wSeq (iN opLstF (aCons (iMkx "Refused" 2 0 ["name", "demand"] gCat (aCons (iVar 0) (aCons (iVar 1) aNil)) aNil) (aCons (iMkx "Refused" 0 2 ["name", "demand"] gRev aNil (aCons (iVar 1) (aCons (iVar 0) aNil))) aNil)))) (g := gVar 3)
    (b := (sIf (tOr' (tBl (iBin (opEq true) (iN opLstF (aCons (iN opRepr (aCons (iUn (opFld (fl_k01 "name") "name") (iVar 3)) aNil)) (aCons (iN opRepr (aCons (iUn (opFld (fl_k01 "demand") "demand") (iVar 3)) aNil)) aNil))) (iN opLstF (aCons (iN opRepr (aCons (iVar 0) aNil)) (aCons (iN opRepr (aCons (iVar 1) aNil)) aNil))))) (tBl (iBin (opEq true) (iCall k01__law_families [] (aCons (iVar 3) aNil)) (iCall k01__law_due [] (aCons (iC (.int 2)) aNil))))) (sRet (iC (.bl false))) sNil))
    (xs := [rf, rf]) (env := [some x, some y, some (.lst (ex "line" n5 x)), q, none, none, none]) (st := s2) (s1 := s2) (fun env s => s = s2 ∧ ∃ q, env = [some x, some y, some (.lst (ex "line" n5 x)), q, none, none, none]) (wSeq_ok (by kernel_rfl)) (nxL_at _) (Nat.le_refl _) ⟨rfl, q, rfl⟩ fun d hd env s ⟨e1, q, e2⟩ => by
      subst e1 e2
      have ed : d = rf := by simpa using hd
      subst ed
      refine ⟨[some x, some y, some (.lst (ex "line" n5 x)), some rf, none, none, none], _, rfl, [some x, some y, some (.lst (ex "line" n5 x)), some rf, none, none, none], s, .inl ?_, rfl, _, rfl⟩
      have r1 : iN opRepr (aCons (iUn (opFld (fl_k01 "name") "name") (iVar 3)) aNil) [some x, some y, some (.lst (ex "line" n5 x)), some rf, none, none, none] s = .ok (.str z) s := rp_ok (fl_ok (iVar_ok rfl) h3 (by kernel_rfl)) hx
      have r2 : iN opRepr (aCons (iUn (opFld (fl_k01 "demand") "demand") (iVar 3)) aNil) [some x, some y, some (.lst (ex "line" n5 x)), some rf, none, none, none] s = .ok (.str u) s := rp_ok (fl_ok (iVar_ok rfl) h4 (by kernel_rfl)) hy
      exact sIf_skip (tOr_f (tBl_ok (iBin_ok (iN_ok (aCons_ok r1 (aCons_ok r2 aNil_ok)) (by kernel_rfl)) (iN_ok (aCons_ok (rp_ok (iVar_ok rfl) hx) (aCons_ok (rp_ok (iVar_ok rfl) hy) aNil_ok)) (by kernel_rfl)) (ne2 s hz hu))) (tBl_ok (iBin_ok (fam_ok (iVar_ok rfl) (f2 _ _ "Refused" (by simp))) (due_ok (due2 s)) (neF2 s))))
  rw [sSeq_nx h1]
  clear h1
  have hx' : rpr s2 x = some z := hx
  rw [sSeq_nx (e1 := [some x, some y, some (.lst (ex "line" n5 x)), q2, some (.exc "Gap" [("at", x)]), some (.exc "Missing" [("name", x)]), none]) (s1 := s2) (by kernel_rfl)]
  have r1 : iN opRepr (aCons (iUn (opFld (fl_k01 "at") "at") (iVar 4)) aNil) [some x, some y, some (.lst (ex "line" n5 x)), q2, some (.exc "Gap" [("at", x)]), some (.exc "Missing" [("name", x)]), none] s2 = .ok (.str z) s2 := rp_ok (fl_ok (iVar_ok rfl) hft.1 (by kernel_rfl)) hx
  have r2 : iN opRepr (aCons (iUn (opFld (fl_k01 "name") "name") (iVar 5)) aNil) [some x, some y, some (.lst (ex "line" n5 x)), q2, some (.exc "Gap" [("at", x)]), some (.exc "Missing" [("name", x)]), none] s2 = .ok (.str z) s2 := rp_ok (fl_ok (iVar_ok rfl) hft.2 (by kernel_rfl)) hx
  rw [sSeq_nx (sIf_skip (tBl_ok (iBin_ok (iN_ok (aCons_ok r1 (aCons_ok r2 aNil_ok)) (d := .lst [.str z, .str z]) (s2 := s2) (by kernel_rfl)) (iBin_ok (iN_ok (aCons_ok (rp_ok (iVar_ok rfl) hx) aNil_ok) (d := .lst [.str z]) (s2 := s2) (by kernel_rfl)) rfl (d := .lst [.str z, .str z]) (s3 := s2) (by kernel_rfl)) (ne2 s2 hz hz))))]
  let xs : List D := [.exc "Gap" [("at", x)], .exc "Missing" [("name", x)], .exc "UnlikePlaces" [], .exc "NothingBack" [], .exc "Held" [], .exc "ZeroBelow" []]
  rw [sSeq_nx (e1 := [some x, some y, some (.lst (ex "line" n5 x)), q2, some (.exc "Gap" [("at", x)]), some (.exc "Missing" [("name", x)]), some (.lst xs)]) (s1 := s2) (by kernel_rfl)]
  refine sRet_ok (iBin_ok (iCompF_ok (xs := xs) (fun _ => .lst (fam 2)) (wSeq_ok (iVar_ok rfl)) (nxL_at _) (Nat.le_refl _) (show 6 ≤ sizeLine by decide) fun d hd => ⟨[some x, some y, some (.lst (ex "line" n5 x)), some d, some (.exc "Gap" [("at", x)]), some (.exc "Missing" [("name", x)]), some (.lst xs)], rfl, ?_⟩) (iBin_ok (iN_ok (aCons_ok (due_ok (due2 s2)) aNil_ok) (d := .lst [.lst (fam 2)]) (s2 := s2) (by kernel_rfl)) rfl (d := .lst [.lst (fam 2), .lst (fam 2), .lst (fam 2), .lst (fam 2), .lst (fam 2), .lst (fam 2)]) (s3 := s2) (by kernel_rfl)) (s3 := s2) (by kernel_rfl))
  refine fam_ok (iVar_ok rfl) ?_
  simp only [xs, List.mem_cons, List.not_mem_nil, or_false] at hd
  rcases hd with rfl | rfl | rfl | rfl | rfl | rfl <;> exact f2 _ _ _ (by simp)
theorem well_ok (ns : List Int) (k : Nat) (st : Sto) : ∃ d s : Int, 0 ≤ d ∧ k01__law_well [.lst (ns.map .int), .int k] st = .ok (.ref st.length) (st ++ [.lst [.int d, .int s, .int 0]]) := by
  have m1 : smallI 6007 := by unfold smallI; omega
  have m2 : smallI 19 := by unfold smallI; omega
  have m3 : smallI 53 := by unfold smallI; omega
  have m4 : smallI 3301 := by unfold smallI; omega
  have m5 : smallI 7 := by unfold smallI; omega
  obtain ⟨E, s2, h1, e1, m, e3, e2⟩ := sFor_ok (w := wSeq (iSl (iVar 0) oNone (oSome (iC (.int 4))))) (g := gVar 3) (b := sSet 2 (iBin opMod (iN opInt (aCons (iBin opAdd (iBin opAdd (iBin opMul (iVar 2) (iC (.int 6007))) (iBin opMul (iVar 3) (iC (.int 19)))) (iC (.int 5))) aNil)) (iC (.int 998244353))))
    (xs := cutL (ns.map D.int) none (some 4)) (env := [some (.lst (ns.map .int)), some (.int k), some (.int (41 + k)), none, none, none]) (st := st) (s1 := st) (fun env s => s = st ∧ ∃ (m : Int) (q : Option D), env = [some (.lst (ns.map .int)), some (.int k), some (.int m), q, none, none]) (wSeq_ok (by kernel_rfl)) (nxL_at _) (Nat.le_refl _) ⟨rfl, _, none, rfl⟩ fun d hd env s ⟨e1, m, q, e2⟩ => by
      subst e1 e2
      have hm : d ∈ ns.map D.int := List.mem_of_mem_drop (List.mem_of_mem_take hd)
      obtain ⟨i, _, rfl⟩ := List.mem_map.mp hm
      refine ⟨_, s, rfl, _, s, .inl (sSet_ok (d := .int ((m * 6007 + i * 19 + 5) % 998244353)) ?_), rfl, (m * 6007 + i * 19 + 5) % 998244353, some (.int i), rfl⟩
      simp [iBin, iVar, iC, R.bind, ofO, opMul_s, m1, m2, opAdd, iN, aCons, aNil, opInt, opMod_s]
  subst e1 e2
  have hown : ∃ o : Int, iIf (tBl (iBin opLt (iVar 1) (iN opLen (aCons (iVar 0) aNil)))) (iBin opIx (iVar 0) (iVar 1)) (iBin opAdd (iBin opMul (iVar 2) (iC (.int 53))) (iVar 1)) [some (.lst (ns.map .int)), some (.int k), some (.int m), e3, none, none] s2 = .ok (.int o) s2 := by
    by_cases hk : k < ns.length
    · exact ⟨ns[k], by simp [iIf, tBl, kBl, iBin, iVar, R.bind, iN, aCons, aNil, opLen, lenD, aseq, ofO, opCmp, hk, opIx, atI, ixN]⟩
    · exact ⟨m * 53 + k, by simp [iIf, tBl, kBl, iBin, iVar, iC, R.bind, iN, aCons, aNil, opLen, lenD, aseq, ofO, opCmp, hk, opMul_s, m3, opAdd]⟩
  obtain ⟨o, hown⟩ := hown
  have hdig : ∃ d : Int, 0 ≤ d ∧ iIf (tOr' (tBl (iBin opLt (iVar 4) (iC (.int 0)))) (tBl (iBin opGe (iVar 4) (iBin opPow (iC (.int 10)) (iC (.int 18)))))) (iN opAbs (aCons (iVar 4) aNil)) (iC (.int 0)) [some (.lst (ns.map .int)), some (.int k), some (.int m), e3, some (.int o), none] s2 = .ok (.int d) s2 := by
    have pw : ∀ st, opPow (.int 10) (.int 18) st = some (.int (10 ^ 18), st) := fun st => by kernel_rfl
    by_cases h0 : o < 0
    · exact ⟨-o, by omega, by simp [iIf, tOr', tBl, kBl, iBin, iVar, iC, R.bind, ofO, opCmp, h0, iN, aCons, aNil, opAbs]⟩
    · by_cases h1 : (10 : Int) ^ 18 ≤ o
      · refine ⟨o, by omega, ?_⟩
        have h1' : (1000000000000000000 : Int) ≤ o := h1
        simp [iIf, tOr', tBl, kBl, iBin, iVar, iC, R.bind, ofO, opCmp, h0, pw, h1', iN, aCons, aNil, opAbs]
      · refine ⟨0, by omega, ?_⟩
        have h1' : ¬ (1000000000000000000 : Int) ≤ o := h1
        simp [iIf, tOr', tBl, kBl, iBin, iVar, iC, R.bind, ofO, opCmp, h0, pw, h1']
  obtain ⟨d, hd, hdig⟩ := hdig
  refine ⟨d, (o * 3301 + m * 7 + 271) % 998244353, hd, ?_⟩
  refine runB_ret rfl ?_
  unfold B_k01__law_well
  rw [sSeq_nx (e1 := [some (.lst (ns.map .int)), some (.int k), some (.int (41 + k)), none, none, none]) (s1 := s2) (by kernel_rfl), sSeq_nx h1, sSeq_nx (sSet_ok hown)]
  refine (sSeq_nx (sSet_ok hdig)).trans ?_
  refine sRet_ok ?_
  simp [iN, aCons, aNil, iVar, iBin, iC, R.bind, ofO, opMul_s, m4, m5, opAdd, opInt, opMod_s, opLst]
  rw [if_pos (by decide : 3 ≤ sizeLine)]
theorem rp_int {i : Int} (h : i.natAbs.log2 < 1920) (s : Sto) : rpr s (.int i) = some (Str.ofString (toString i)) := by
  have h2 := int_text_fits h
  show (match toP s 64 (.int i) with
    | some p => if p.showable = true ∧ p.shown.length ≤ sizeLine then some p.shown else none
    | none => none) = _
  show (if (PyData.int i).showable = true ∧ (PyData.int i).shown.length ≤ sizeLine then some (PyData.int i).shown else none) = _
  rw [if_pos ⟨by simpa [PyData.showable] using h, h2⟩]
  rfl
theorem rp_b : ∀ r : Fin 89, (PyData.strOk (("b" : Str) ++ (toString ((r.val : Nat) : Int) : String)) && (decide ((reprText (("b" : Str) ++ (toString ((r.val : Nat) : Int) : String))).length ≤ sizeLine) && PyData.strOk (reprText (("b" : Str) ++ (toString ((r.val : Nat) : Int) : String))))) = true := by decide +kernel
theorem rp_str {x : Str} (h1 : PyData.strOk x = true) (h2 : (reprText x).length ≤ sizeLine) (s : Sto) : rpr s (.str x) = some (reprText x) := by
  have e : toP s 64 (.str x) = some (.str x) := by
    show (if PyData.strOk x = true then some (PyData.str x) else none) = _
    rw [if_pos h1]
  show (match toP s 64 (.str x) with
    | some p => if p.showable = true ∧ p.shown.length ≤ sizeLine then some p.shown else none
    | none => none) = _
  rw [e]
  show (if (PyData.str x).showable = true ∧ (PyData.str x).shown.length ≤ sizeLine then some (PyData.str x).shown else none) = _
  rw [if_pos ⟨rfl, h2⟩]
  rfl
theorem rp_pair {i : Int} (h : i.natAbs.log2 < 1920) (s : Sto) : ∃ z, rpr s (.tup [.int i, .str "x"]) = some z ∧ PyData.strOk z = true := by
  have h2 := PyProof.Rows.int_text_len_1921 h
  have e : toP s 64 (.tup [.int i, .str "x"]) = some (.tuple [.int i, .str "x"]) := by kernel_rfl
  have hs : (PyData.tuple [.int i, .str "x"]).shown = ("(" : Str) ++ (Str.ofString (toString i) ++ ", " ++ reprText "x") ++ ")" := by kernel_rfl
  have hl : (PyData.tuple [.int i, .str "x"]).shown.length ≤ sizeLine := by
    rw [hs, strLen_append, strLen_append, strLen_append, strLen_append]
    have z1 : ("(" : Str).length = 1 := by kernel_rfl
    have z2 : (", " : Str).length = 2 := by kernel_rfl
    have z3 : (")" : Str).length = 1 := by kernel_rfl
    have z4 : (reprText "x").length = 3 := by kernel_rfl
    have z5 : 2000 ≤ sizeLine := by decide
    omega
  refine ⟨(PyData.tuple [.int i, .str "x"]).shown, ?_, ?_⟩
  · show (match toP s 64 (.tup [.int i, .str "x"]) with
      | some p => if p.showable = true ∧ p.shown.length ≤ sizeLine then some p.shown else none
      | none => none) = _
    rw [e]
    show (if (PyData.tuple [.int i, .str "x"]).showable = true ∧ (PyData.tuple [.int i, .str "x"]).shown.length ≤ sizeLine then some (PyData.tuple [.int i, .str "x"]).shown else none) = _
    rw [if_pos ⟨by simpa [PyData.showable, PyData.showableAll] using h, hl⟩]
  · rw [hs, strOk_append, strOk_append, strOk_append, strOk_append, strOk_of (toString i)]
    kernel_rfl
/-- a value whose repr is told, whatever the store -/
def Shown (d : D) : Prop := ∀ s : Sto, ∃ z, rpr s d = some z ∧ PyData.strOk z = true
theorem shown_things {i : Int} {r : Int} (hi : i.natAbs.log2 < 1920) (h0 : 0 ≤ r) (h1 : r < 89) : ∀ d ∈ ([.int i, .str (("b" : Str) ++ (toString r : String)), .non, .bl true, .bl false, .tup [.int i, .str "x"], .lst [.int 3], .dct [] [], .int 0, .int 1] : List D), Shown d := by
  simp only [List.forall_mem_cons]
  refine ⟨fun s => ⟨_, rp_int hi s, strOk_of _⟩, fun s => ?_, fun s => ⟨"None", by kernel_rfl, by decide +kernel⟩, fun s => ⟨"True", by kernel_rfl, by decide +kernel⟩, fun s => ⟨"False", by kernel_rfl, by decide +kernel⟩, fun s => rp_pair hi s, fun s => ⟨"[3]", by kernel_rfl, by decide +kernel⟩, fun s => ⟨"{}", by kernel_rfl, by decide +kernel⟩, fun s => ⟨"0", by kernel_rfl, by decide +kernel⟩, fun s => ⟨"1", by kernel_rfl, by decide +kernel⟩, by simp⟩
  have z := rp_b ⟨r.toNat, by omega⟩
  have e : ((r.toNat : Nat) : Int) = r := Int.toNat_of_nonneg h0
  simp only [e] at z
  obtain ⟨z1, z2⟩ := He.ba z
  obtain ⟨z2, z3⟩ := He.ba z2
  exact ⟨_, rp_str z1 (of_decide_eq_true z2) s, z3⟩
theorem well_at (d s : Int) (h : 0 ≤ d) (st : Sto) : WellAt (st ++ [.lst [.int d, .int s, .int 0]]) st.length := ⟨d, s, 0, h, lstAt_new st _⟩
theorem one_thing {n : Nat} {things : List D} {t : D} {s : Sto} (hw : WellAt s n) (hs : ∀ d ∈ things, Shown d) (ht : t ∈ things) (hl : 0 < things.length) (hl2 : things.length < 2 ^ 60) {a b c d e : Option D} :
    ∃ s2, WellAt s2 n ∧ tOr' (tNot' (tTru (iCall k01__law_texts_right [] (aCons (iVar 6) aNil)))) (tNot' (tTru (iCall k01__law_others_right [] (aCons (iVar 6) (aCons (iCall k01__law_any [] (aCons (iVar 3) (aCons (iVar 5) aNil))) aNil))))) [a, b, c, some (.ref n), e, some (.lst things), some t] s = .ok false s2 := by
  obtain ⟨u, s2, h1, h2, h3⟩ := any_ok hw hl hl2
  obtain ⟨z, hz1, hz2⟩ := hs t ht s
  obtain ⟨z', hz3, hz4⟩ := hs t ht s2
  obtain ⟨y, hy1, hy2⟩ := hs u h2 s2
  refine ⟨s2, h3, tOr_f (tNot_ok (tTru_ok (iCall_ok (aCons_ok (iVar_ok rfl) aNil_ok) (texts_ok hz1)) rfl)) (tNot_ok (tTru_ok (iCall_ok (aCons_ok (iVar_ok rfl) (aCons_ok (iCall_ok (aCons_ok (iVar_ok rfl) (aCons_ok (iVar_ok rfl) aNil_ok)) h1) aNil_ok)) (others_ok hz3 hy1 hz4 hy2)) rfl))⟩
theorem law_k01 (ns : List Int) (h : ns.length ≤ 63) : ∃ st, k01_law [.lst (ns.map .int)] [] = .ok (.bl true) st := by
  have key : ∃ st, B_k01_law [some (.lst (ns.map .int)), none, none, none, none, none, none] [] = .ret (.bl true) st := by
    let told : D := .lst [.int 3, .int 24, .int 6, .int 4, .int 3, .int 60, .int 19]
    let sc : D := .lst (ns.map .int)
    unfold B_k01_law
    rw [sSeq_nx (e1 := [some sc, some told, none, none, none, none, none]) (s1 := []) (by kernel_rfl), sSeq_nx (e1 := [some sc, some told, none, none, none, none, none]) (s1 := []) (by kernel_rfl)]
    have hrng : ∃ m : Nat, wRng1 (aCons (iN opMax (aCons (iC (.int 2)) (aCons (iN opMin (aCons (iN opLen (aCons (iVar 0) aNil)) (aCons (iC (.int 3)) aNil))) aNil))) aNil) [some sc, some told, none, none, none, none, none] [] = .ok (nxR 0 m, m) [] := by
      have q : ∃ j : Int, 0 ≤ j ∧ j ≤ 63 ∧ iN opMax (aCons (iC (.int 2)) (aCons (iN opMin (aCons (iN opLen (aCons (iVar 0) aNil)) (aCons (iC (.int 3)) aNil))) aNil)) [some sc, some told, none, none, none, none, none] [] = .ok (.int j) [] := by
        refine ⟨if (if (3 : Int) < ns.length then 3 else (ns.length : Int)) > 2 then (if (3 : Int) < ns.length then 3 else (ns.length : Int)) else 2, ?_, ?_, ?_⟩
        · split <;> (try split) <;> omega
        · split <;> (try split) <;> omega
        · simp [sc, iN, aCons, aNil, iC, iVar, R.bind, opLen, lenD, aseq, opMin, opMax, ofO]
      obtain ⟨j, h1, h2, h3⟩ := q
      refine ⟨j.toNat, ?_⟩
      show ((aCons _ aNil [some sc, some told, none, none, none, none, none] []).bind kRng1) = _
      rw [aCons_ok h3 aNil_ok]
      show (if -(2 ^ 62) ≤ j ∧ j < 2 ^ 62 then R.ok (nxR 0 j.toNat, j.toNat) [] else R.bad) = _
      rw [if_pos ⟨by omega, by omega⟩]
    obtain ⟨m, hrng⟩ := hrng
    refine seq_for_ret (xs := (List.range m).map fun k : Nat => D.int (k : Int)) (fun env _ => ∃ a b c d e, env = [some sc, some told, a, b, c, d, e]) hrng (nxR_at m) (by simp) ⟨_, _, _, _, _, rfl⟩ (fun d hd env s ⟨a, b, c, dd, e, ee⟩ => ?_) fun env s ⟨a, b, c, dd, e, ee⟩ => ⟨s, by subst ee; exact sRet_ok rfl⟩
    subst ee
    obtain ⟨k, _, rfl⟩ := List.mem_map.mp hd
    refine ⟨[some sc, some told, some (.int k), b, c, dd, e], s, rfl, ?_⟩
    obtain ⟨w1, w2, hw0, hw1⟩ := well_ok ns k s
    have hat := well_at w1 w2 hw0 s
    generalize hs1 : s ++ [O.lst [.int w1, .int w2, .int 0]] = s1 at hw1 hat
    generalize hn : s.length = n at hw1 hat
    have c1 : iCall k01__law_well [] (aCons (iVar 0) (aCons (iVar 2) aNil)) [some sc, some told, some (.int k), b, c, dd, e] s = .ok (.ref n) s1 := iCall_ok (aCons_ok (iVar_ok rfl) (aCons_ok (iVar_ok rfl) aNil_ok)) hw1
    rw [sSeq_nx (e1 := [some sc, some told, some (.int k), some (.ref n), c, dd, e]) (s1 := s1) (sSet_ok c1)]
    obtain ⟨r1, s2, d1, d2, d3, hat2⟩ := dip_ok (many := 10 ^ 40) hat (by decide) (by decide +kernel)
    obtain ⟨t, s3, a1, a2, hat3⟩ := any_ok (xs := [.int 1, .int (-1)]) hat2 (by decide) (by decide)
    have pw : ∀ st, opPow (.int 10) (.int 40) st = some (.int (10 ^ 40), st) := fun st => by kernel_rfl
    have ht : ∃ sg : Int, t = .int sg ∧ (sg = 1 ∨ sg = -1) := by
      simp only [List.mem_cons, List.not_mem_nil, or_false] at a2
      rcases a2 with rfl | rfl
      · exact ⟨1, rfl, .inl rfl⟩
      · exact ⟨-1, rfl, .inr rfl⟩
    obtain ⟨sg, rfl, hsg⟩ := ht
    have hsm : smallI sg := by unfold smallI; rcases hsg with rfl | rfl <;> omega
    have c2 : iBin opMul (iCall k01__law_dip [] (aCons (iVar 3) (aCons (iBin opPow (iC (.int 10)) (iC (.int 40))) aNil))) (iCall k01__law_any [] (aCons (iVar 3) (aCons (iN opLstF (aCons (iC (.int 1)) (aCons (iUn opNeg (iC (.int 1))) aNil))) aNil))) [some sc, some told, some (.int k), some (.ref n), c, dd, e] s1 = .ok (.int (r1 * sg)) s3 :=
      iBin_ok (iCall_ok (aCons_ok (iVar_ok rfl) (aCons_ok (iBin_ok rfl rfl (pw s1)) aNil_ok)) d1) (iCall_ok (aCons_ok (iVar_ok rfl) (aCons_ok (d := .lst [.int 1, .int (-1)]) (s1 := s2) (by kernel_rfl) aNil_ok)) a1) (opMul_s (.inr hsm))
    rw [sSeq_nx (e1 := [some sc, some told, some (.int k), some (.ref n), some (.int (r1 * sg)), dd, e]) (s1 := s3) (sSet_ok c2)]
    obtain ⟨r2, s4, g1, g2, g3, hat4⟩ := dip_ok (many := 89) hat3 (by decide) (by decide +kernel)
    have hlog : (r1 * sg).natAbs.log2 < 1920 := by
      have q : (r1 * sg).natAbs < 2 ^ 200 := by
        have z : (10 : Int) ^ 40 < 2 ^ 200 := by decide
        rcases hsg with rfl | rfl <;> omega
      by_cases z : (r1 * sg).natAbs = 0
      · rw [z]; decide
      · have := (Nat.log2_lt z).mpr q
        omega
    have r2small : r2.natAbs.log2 < 1920 := by
      have q : r2.natAbs < 2 ^ 8 := by omega
      by_cases z : r2.natAbs = 0
      · rw [z]; decide
      · have := (Nat.log2_lt z).mpr q
        omega
    let things : List D := [.int (r1 * sg), .str (("b" : Str) ++ (toString r2 : String)), .non, .bl true, .bl false, .tup [.int (r1 * sg), .str "x"], .lst [.int 3], .dct [] [], .int 0, .int 1]
    have hsh := shown_things hlog g2 g3
    have c3 : sSet 5 (iN opLstF (aCons (iVar 4) (aCons (iBin opAdd (iC (.str "b")) (iN opStr (aCons (iCall k01__law_dip [] (aCons (iVar 3) (aCons (iC (.int 89)) aNil))) aNil))) (aCons (iC .non) (aCons (iC (.bl true)) (aCons (iC (.bl false)) (aCons (iN opTup (aCons (iVar 4) (aCons (iC (.str "x")) aNil))) (aCons (iN opLstF (aCons (iC (.int 3)) aNil)) (aCons (iC (.dct [] [])) (aCons (iC (.int 0)) (aCons (iC (.int 1)) aNil))))))))))) [some sc, some told, some (.int k), some (.ref n), some (.int (r1 * sg)), dd, e] s3 = .nx [some sc, some told, some (.int k), some (.ref n), some (.int (r1 * sg)), some (.lst things), e] s4 := by
      refine sSet_ok (iN_ok (aCons_ok (iVar_ok rfl) (aCons_ok (iBin_ok rfl (iN_ok (aCons_ok (iCall_ok (aCons_ok (iVar_ok rfl) (aCons_ok rfl aNil_ok)) g1) aNil_ok) (d := .str (toString r2 : String)) (s2 := s4) ?_) (d := .str (("b" : Str) ++ (toString r2 : String))) (s3 := s4) ?_) (ds := things.drop 2) (s2 := s4) (by kernel_rfl))) (by kernel_rfl))
      · show (if r2.natAbs.log2 < 1920 then some (D.str (toString r2 : String), s4) else none) = _
        rw [if_pos r2small]
      · show (if ("b" : Str).length + (Str.ofString (toString r2)).length ≤ sizeLine then some (D.str (("b" : Str) ++ (toString r2 : String)), s4) else none) = _
        have z := PyProof.Rows.int_text_len_1921 r2small
        have z1 : ("b" : Str).length = 1 := by kernel_rfl
        have z5 : 2000 ≤ sizeLine := by decide
        rw [if_pos (by omega)]
    rw [sSeq_nx c3]
    refine for_goal (xs := things) (fun env s => WellAt s n ∧ ∃ q, env = [some sc, some told, some (.int k), some (.ref n), some (.int (r1 * sg)), some (.lst things), q]) (wSeq_ok (iVar_ok rfl)) (nxL_at _) (Nat.le_refl _) ⟨hat4, _, rfl⟩ (fun t ht env s ⟨hw, q, eq⟩ => ?_) fun env s ⟨_, q, eq⟩ => ⟨_, _, _, _, _, eq⟩
    subst eq
    obtain ⟨s5, hw5, h5⟩ := one_thing (things := things) (a := some sc) (b := some told) (c := some (.int k)) (d := none) (e := some (.int (r1 * sg))) hw hsh ht (show 0 < 10 by decide) (show 10 < 2 ^ 60 by decide)
    exact ⟨[some sc, some told, some (.int k), some (.ref n), some (.int (r1 * sg)), some (.lst things), some t], s, rfl, _, s5, .inl (sIf_skip h5), hw5, _, rfl⟩
  obtain ⟨st, h⟩ := key
  exact ⟨st, runB_ret rfl h⟩
end M
/-! the walks -/
namespace M
open PySem PySem.Spec PyProof.Rows L2
def top (i : Nat) : Stmt := PySem.Challenge.pw_evenkeeps_k01_errors_and_limits.main.body.getD i (.Pass ⟨0, 0, 0, 0⟩)
def inCls (st : Stmt) (j : Nat) : Stmt := match st with
  | .ClassDef _ _ _ b _ _ _ _ _ _ _ => b.getD j (.Pass ⟨0, 0, 0, 0⟩)
  | s => s
abbrev dF (x : Str) (i : Nat) : He.DefD := ⟨(x, none), x, x, defArgs (top i), defBody (top i), defScope (top i), [], []⟩
abbrev dM (c q : Str) (i j : Nat) : He.DefD := ⟨(c, some "__init__"), "__init__", q, defArgs (inCls (top i) j), defBody (inCls (top i) j), defScope (inCls (top i) j), [], []⟩
def fn_ : List He.DefD := [dF "_law_dip" 38, dF "_law_any" 39, dF "_law_due" 41, dF "_law_families" 40, dF "_law_others_right" 43, dF "_law_texts_right" 42, dF "_law_well" 37, dF "law" 44, dM "InvalidText" "InvalidText.__init__" 4 0, dM "NotARatio" "NotARatio.__init__" 5 0, dM "NotASampler" "NotASampler.__init__" 6 0, dM "NotAJoin" "NotAJoin.__init__" 7 0, dM "NotAPlayer" "NotAPlayer.__init__" 8 0, dM "InvalidLength" "InvalidLength.__init__" 9 0, dM "InvalidItem" "InvalidItem.__init__" 10 0, dM "InvalidPlace" "InvalidPlace.__init__" 11 0, dM "InvalidCount" "InvalidCount.__init__" 12 0, dM "InvalidFraction" "InvalidFraction.__init__" 13 0, dM "InvalidDraws" "InvalidDraws.__init__" 14 0, dM "InvalidEdit" "InvalidEdit.__init__" 15 0, dM "UnknownPlace" "UnknownPlace.__init__" 16 0, dM "NotDrawn" "NotDrawn.__init__" 17 0, dM "DrawnTwice" "DrawnTwice.__init__" 18 0, dM "BelowOne" "BelowOne.__init__" 19 0, dM "Unsettled" "Unsettled.__init__" 20 0, dM "TooMuch" "TooMuch.__init__" 21 0, dM "Gap" "Gap.__init__" 26 0, dM "Missing" "Missing.__init__" 27 0, dM "Refused" "Refused.__init__" 28 0]
def fa_ : List He.Fa := [.glo "BelowOne", .glo "DrawnTwice", .glo "Gap", .glo "Held", .glo "InvalidCount", .glo "InvalidDraws", .glo "InvalidEdit", .glo "InvalidFraction", .glo "InvalidItem", .glo "InvalidLength", .glo "InvalidPlace", .glo "InvalidText", .glo "KeepError", .glo "Missing", .glo "NotAJoin", .glo "NotAPlayer", .glo "NotARatio", .glo "NotASampler", .glo "NotDrawn", .glo "NothingBack", .glo "ProgramError", .glo "Refused", .glo "TextError", .glo "TooMuch", .glo "UnknownPlace", .glo "UnlikePlaces", .glo "Unsettled", .glo "ZeroBelow", .glo "_law_any", .glo "_law_dip", .glo "_law_due", .glo "_law_families", .glo "_law_others_right", .glo "_law_texts_right", .glo "_law_well", .free "LookupError", .free "RuntimeError", .free "ValueError", .free "abs", .free "all", .free "int", .free "isinstance", .free "len", .free "max", .free "min", .free "range", .free "repr", .free "str", .int "MOST_DRAWS" 6, .int "MOST_LENGTH" 60, .int "MOST_NESTED" 4, .int "MOST_ON_A_WAY" 3, .int "MOST_PLACES" 3, .int "MOST_STATEMENTS" 24, .int "SETTLED" 19, .glo "law"]
def xd_ : List XD := [⟨"InvalidText", .v, some ["value"]⟩, ⟨"NotARatio", .v, some ["value"]⟩, ⟨"NotASampler", .v, some ["value"]⟩, ⟨"NotAJoin", .v, some ["value"]⟩, ⟨"NotAPlayer", .v, some ["value"]⟩, ⟨"InvalidLength", .v, some ["value"]⟩, ⟨"InvalidItem", .v, some ["value"]⟩, ⟨"InvalidPlace", .v, some ["value"]⟩, ⟨"InvalidCount", .v, some ["value"]⟩, ⟨"InvalidFraction", .v, some ["value"]⟩, ⟨"InvalidDraws", .v, some ["index"]⟩, ⟨"InvalidEdit", .v, some ["index"]⟩, ⟨"UnknownPlace", .l, some ["line"]⟩, ⟨"NotDrawn", .l, some ["line"]⟩, ⟨"DrawnTwice", .l, some ["line"]⟩, ⟨"BelowOne", .l, some ["line"]⟩, ⟨"Unsettled", .l, some ["line"]⟩, ⟨"TooMuch", .l, some ["what"]⟩, ⟨"UnlikePlaces", .r, none⟩, ⟨"NothingBack", .r, none⟩, ⟨"Held", .r, none⟩, ⟨"ZeroBelow", .r, none⟩, ⟨"Gap", .r, some ["at"]⟩, ⟨"Missing", .r, some ["name"]⟩, ⟨"Refused", .r, some ["name", "demand"]⟩]
def bB_ (K : PySem.W.Frag) : Bool := xd_.all (fun d => d.ok K) && tl_k01.all (isaB K)
structure Cn (K : PySem.W.Frag) (mg : Str → Option Value) : Prop where
  c : SaysM bB_ fa_ fn_ K
  h : ∃ h : Heap, K.In h ∧ h.Ns mainGlobals mg
section
variable {P : Program} {w : World} {K : PySem.W.Frag} {mg : Str → Option Value} {base : Heap}
theorem Cn.glo (C : Cn K mg) (i : Nat) {x : Str} (h : fa_[i]? = some (.glo x) := by rfl) : mg x = some (.ref (He.ga K x)) := by
  obtain ⟨h0, X, G⟩ := C.h
  exact He.glo_ok X G (C.c.says.fact i h)
theorem Cn.free (C : Cn K mg) (i : Nat) {x : Str} (h : fa_[i]? = some (.free x) := by rfl) : mg x = none := by
  obtain ⟨h0, X, G⟩ := C.h
  exact He.free_ok X G (C.c.says.fact i h)
theorem Cn.int (C : Cn K mg) (i : Nat) {x : Str} {n : Int} (h : fa_[i]? = some (.int x n) := by rfl) : ∃ t, mg x = some (.int n t) := by
  obtain ⟨h0, X, G⟩ := C.h
  exact He.int_ok X G (C.c.says.fact i h)
theorem Cn.xd (C : Cn K mg) (i : Nat) {d : XD} (h : xd_[i]? = some d := by rfl) : d.ok K = true := List.all_eq_true.mp (He.ba C.c.b).1 d (List.mem_of_getElem? h)
theorem Cn.g_BelowOne (C : Cn K mg) : mg "BelowOne" = some (.ref (He.ga K "BelowOne")) := C.glo 0
theorem Cn.g_DrawnTwice (C : Cn K mg) : mg "DrawnTwice" = some (.ref (He.ga K "DrawnTwice")) := C.glo 1
theorem Cn.g_Gap (C : Cn K mg) : mg "Gap" = some (.ref (He.ga K "Gap")) := C.glo 2
theorem Cn.g_Held (C : Cn K mg) : mg "Held" = some (.ref (He.ga K "Held")) := C.glo 3
theorem Cn.g_InvalidCount (C : Cn K mg) : mg "InvalidCount" = some (.ref (He.ga K "InvalidCount")) := C.glo 4
theorem Cn.g_InvalidDraws (C : Cn K mg) : mg "InvalidDraws" = some (.ref (He.ga K "InvalidDraws")) := C.glo 5
theorem Cn.g_InvalidEdit (C : Cn K mg) : mg "InvalidEdit" = some (.ref (He.ga K "InvalidEdit")) := C.glo 6
theorem Cn.g_InvalidFraction (C : Cn K mg) : mg "InvalidFraction" = some (.ref (He.ga K "InvalidFraction")) := C.glo 7
theorem Cn.g_InvalidItem (C : Cn K mg) : mg "InvalidItem" = some (.ref (He.ga K "InvalidItem")) := C.glo 8
theorem Cn.g_InvalidLength (C : Cn K mg) : mg "InvalidLength" = some (.ref (He.ga K "InvalidLength")) := C.glo 9
theorem Cn.g_InvalidPlace (C : Cn K mg) : mg "InvalidPlace" = some (.ref (He.ga K "InvalidPlace")) := C.glo 10
theorem Cn.g_InvalidText (C : Cn K mg) : mg "InvalidText" = some (.ref (He.ga K "InvalidText")) := C.glo 11
theorem Cn.g_KeepError (C : Cn K mg) : mg "KeepError" = some (.ref (He.ga K "KeepError")) := C.glo 12
theorem Cn.g_Missing (C : Cn K mg) : mg "Missing" = some (.ref (He.ga K "Missing")) := C.glo 13
theorem Cn.g_NotAJoin (C : Cn K mg) : mg "NotAJoin" = some (.ref (He.ga K "NotAJoin")) := C.glo 14
theorem Cn.g_NotAPlayer (C : Cn K mg) : mg "NotAPlayer" = some (.ref (He.ga K "NotAPlayer")) := C.glo 15
theorem Cn.g_NotARatio (C : Cn K mg) : mg "NotARatio" = some (.ref (He.ga K "NotARatio")) := C.glo 16
theorem Cn.g_NotASampler (C : Cn K mg) : mg "NotASampler" = some (.ref (He.ga K "NotASampler")) := C.glo 17
theorem Cn.g_NotDrawn (C : Cn K mg) : mg "NotDrawn" = some (.ref (He.ga K "NotDrawn")) := C.glo 18
theorem Cn.g_NothingBack (C : Cn K mg) : mg "NothingBack" = some (.ref (He.ga K "NothingBack")) := C.glo 19
theorem Cn.g_ProgramError (C : Cn K mg) : mg "ProgramError" = some (.ref (He.ga K "ProgramError")) := C.glo 20
theorem Cn.g_Refused (C : Cn K mg) : mg "Refused" = some (.ref (He.ga K "Refused")) := C.glo 21
theorem Cn.g_TextError (C : Cn K mg) : mg "TextError" = some (.ref (He.ga K "TextError")) := C.glo 22
theorem Cn.g_TooMuch (C : Cn K mg) : mg "TooMuch" = some (.ref (He.ga K "TooMuch")) := C.glo 23
theorem Cn.g_UnknownPlace (C : Cn K mg) : mg "UnknownPlace" = some (.ref (He.ga K "UnknownPlace")) := C.glo 24
theorem Cn.g_UnlikePlaces (C : Cn K mg) : mg "UnlikePlaces" = some (.ref (He.ga K "UnlikePlaces")) := C.glo 25
theorem Cn.g_Unsettled (C : Cn K mg) : mg "Unsettled" = some (.ref (He.ga K "Unsettled")) := C.glo 26
theorem Cn.g_ZeroBelow (C : Cn K mg) : mg "ZeroBelow" = some (.ref (He.ga K "ZeroBelow")) := C.glo 27
theorem Cn.g__law_any (C : Cn K mg) : mg "_law_any" = some (.ref (He.ga K "_law_any")) := C.glo 28
theorem Cn.g__law_dip (C : Cn K mg) : mg "_law_dip" = some (.ref (He.ga K "_law_dip")) := C.glo 29
theorem Cn.g__law_due (C : Cn K mg) : mg "_law_due" = some (.ref (He.ga K "_law_due")) := C.glo 30
theorem Cn.g__law_families (C : Cn K mg) : mg "_law_families" = some (.ref (He.ga K "_law_families")) := C.glo 31
theorem Cn.g__law_others_right (C : Cn K mg) : mg "_law_others_right" = some (.ref (He.ga K "_law_others_right")) := C.glo 32
theorem Cn.g__law_texts_right (C : Cn K mg) : mg "_law_texts_right" = some (.ref (He.ga K "_law_texts_right")) := C.glo 33
theorem Cn.g__law_well (C : Cn K mg) : mg "_law_well" = some (.ref (He.ga K "_law_well")) := C.glo 34
theorem Cn.f_LookupError (C : Cn K mg) : mg "LookupError" = none := C.free 35
theorem Cn.f_RuntimeError (C : Cn K mg) : mg "RuntimeError" = none := C.free 36
theorem Cn.f_ValueError (C : Cn K mg) : mg "ValueError" = none := C.free 37
theorem Cn.f_abs (C : Cn K mg) : mg "abs" = none := C.free 38
theorem Cn.f_all (C : Cn K mg) : mg "all" = none := C.free 39
theorem Cn.f_int (C : Cn K mg) : mg "int" = none := C.free 40
theorem Cn.f_isinstance (C : Cn K mg) : mg "isinstance" = none := C.free 41
theorem Cn.f_len (C : Cn K mg) : mg "len" = none := C.free 42
theorem Cn.f_max (C : Cn K mg) : mg "max" = none := C.free 43
theorem Cn.f_min (C : Cn K mg) : mg "min" = none := C.free 44
theorem Cn.f_range (C : Cn K mg) : mg "range" = none := C.free 45
theorem Cn.f_repr (C : Cn K mg) : mg "repr" = none := C.free 46
theorem Cn.f_str (C : Cn K mg) : mg "str" = none := C.free 47
theorem Cn.n_MOST_DRAWS (C : Cn K mg) : ∃ t, mg "MOST_DRAWS" = some (.int 6 t) := C.int 48
theorem Cn.n_MOST_LENGTH (C : Cn K mg) : ∃ t, mg "MOST_LENGTH" = some (.int 60 t) := C.int 49
theorem Cn.n_MOST_NESTED (C : Cn K mg) : ∃ t, mg "MOST_NESTED" = some (.int 4 t) := C.int 50
theorem Cn.n_MOST_ON_A_WAY (C : Cn K mg) : ∃ t, mg "MOST_ON_A_WAY" = some (.int 3 t) := C.int 51
theorem Cn.n_MOST_PLACES (C : Cn K mg) : ∃ t, mg "MOST_PLACES" = some (.int 3 t) := C.int 52
theorem Cn.n_MOST_STATEMENTS (C : Cn K mg) : ∃ t, mg "MOST_STATEMENTS" = some (.int 24 t) := C.int 53
theorem Cn.n_SETTLED (C : Cn K mg) : ∃ t, mg "SETTLED" = some (.int 19 t) := C.int 54
theorem Cn.g_law (C : Cn K mg) : mg "law" = some (.ref (He.ga K "law")) := C.glo 55
theorem Cn.xall (C : Cn K mg) : ∀ d ∈ xd_, XF K (He.ga K d.nm) := fun d hd => XD.xf (List.all_eq_true.mp (He.ba C.c.b).1 d hd)
theorem Cn.isa (C : Cn K mg) : Isa K (He.ga K) xs_k01 tb_k01 := ⟨fun c hc => by
  have e : xs_k01 = xd_.map XD.nm := rfl
  rw [e] at hc
  obtain ⟨d, hd, rfl⟩ := List.mem_map.mp hc
  exact C.xall d hd, isaT_ok (He.ba C.c.b).2⟩
theorem Cn.fld_at (C : Cn K mg) : Fld K (He.ga K) "at" (fl_k01 "at") := by
  have key : ((fl_k01 "at").all fun c => xd_.any fun d => decide (d.nm = c) && (match d.fs with
    | some fs => fs.contains "at"
    | none => false)) = true := by decide +kernel
  have get : ∀ c ∈ fl_k01 "at", ∃ d ∈ xd_, ∃ fs, d.nm = c ∧ d.fs = some fs ∧ ("at" : Str) ∈ fs := fun c hc => by
    obtain ⟨d, hd, z⟩ := List.any_eq_true.mp (List.all_eq_true.mp key c hc)
    obtain ⟨z1, z2⟩ := He.ba z
    cases e : d.fs with
    | none => rw [e] at z2; cases z2
    | some fs => rw [e] at z2; exact ⟨d, hd, fs, of_decide_eq_true z1, e, List.contains_iff_mem.mp z2⟩
  refine ⟨fun c hc => ?_, fun c hc => ?_⟩
  · obtain ⟨d, hd, fs, rfl, e, m⟩ := get c hc
    exact (XD.xf (List.all_eq_true.mp (He.ba C.c.b).1 d hd)).fld
  · obtain ⟨d, hd, fs, rfl, e, m⟩ := get c hc
    exact (XD.made (List.all_eq_true.mp (He.ba C.c.b).1 d hd) e).2.1 _ m
theorem Cn.fld_demand (C : Cn K mg) : Fld K (He.ga K) "demand" (fl_k01 "demand") := by
  have key : ((fl_k01 "demand").all fun c => xd_.any fun d => decide (d.nm = c) && (match d.fs with
    | some fs => fs.contains "demand"
    | none => false)) = true := by decide +kernel
  have get : ∀ c ∈ fl_k01 "demand", ∃ d ∈ xd_, ∃ fs, d.nm = c ∧ d.fs = some fs ∧ ("demand" : Str) ∈ fs := fun c hc => by
    obtain ⟨d, hd, z⟩ := List.any_eq_true.mp (List.all_eq_true.mp key c hc)
    obtain ⟨z1, z2⟩ := He.ba z
    cases e : d.fs with
    | none => rw [e] at z2; cases z2
    | some fs => rw [e] at z2; exact ⟨d, hd, fs, of_decide_eq_true z1, e, List.contains_iff_mem.mp z2⟩
  refine ⟨fun c hc => ?_, fun c hc => ?_⟩
  · obtain ⟨d, hd, fs, rfl, e, m⟩ := get c hc
    exact (XD.xf (List.all_eq_true.mp (He.ba C.c.b).1 d hd)).fld
  · obtain ⟨d, hd, fs, rfl, e, m⟩ := get c hc
    exact (XD.made (List.all_eq_true.mp (He.ba C.c.b).1 d hd) e).2.1 _ m
theorem Cn.fld_index (C : Cn K mg) : Fld K (He.ga K) "index" (fl_k01 "index") := by
  have key : ((fl_k01 "index").all fun c => xd_.any fun d => decide (d.nm = c) && (match d.fs with
    | some fs => fs.contains "index"
    | none => false)) = true := by decide +kernel
  have get : ∀ c ∈ fl_k01 "index", ∃ d ∈ xd_, ∃ fs, d.nm = c ∧ d.fs = some fs ∧ ("index" : Str) ∈ fs := fun c hc => by
    obtain ⟨d, hd, z⟩ := List.any_eq_true.mp (List.all_eq_true.mp key c hc)
    obtain ⟨z1, z2⟩ := He.ba z
    cases e : d.fs with
    | none => rw [e] at z2; cases z2
    | some fs => rw [e] at z2; exact ⟨d, hd, fs, of_decide_eq_true z1, e, List.contains_iff_mem.mp z2⟩
  refine ⟨fun c hc => ?_, fun c hc => ?_⟩
  · obtain ⟨d, hd, fs, rfl, e, m⟩ := get c hc
    exact (XD.xf (List.all_eq_true.mp (He.ba C.c.b).1 d hd)).fld
  · obtain ⟨d, hd, fs, rfl, e, m⟩ := get c hc
    exact (XD.made (List.all_eq_true.mp (He.ba C.c.b).1 d hd) e).2.1 _ m
theorem Cn.fld_line (C : Cn K mg) : Fld K (He.ga K) "line" (fl_k01 "line") := by
  have key : ((fl_k01 "line").all fun c => xd_.any fun d => decide (d.nm = c) && (match d.fs with
    | some fs => fs.contains "line"
    | none => false)) = true := by decide +kernel
  have get : ∀ c ∈ fl_k01 "line", ∃ d ∈ xd_, ∃ fs, d.nm = c ∧ d.fs = some fs ∧ ("line" : Str) ∈ fs := fun c hc => by
    obtain ⟨d, hd, z⟩ := List.any_eq_true.mp (List.all_eq_true.mp key c hc)
    obtain ⟨z1, z2⟩ := He.ba z
    cases e : d.fs with
    | none => rw [e] at z2; cases z2
    | some fs => rw [e] at z2; exact ⟨d, hd, fs, of_decide_eq_true z1, e, List.contains_iff_mem.mp z2⟩
  refine ⟨fun c hc => ?_, fun c hc => ?_⟩
  · obtain ⟨d, hd, fs, rfl, e, m⟩ := get c hc
    exact (XD.xf (List.all_eq_true.mp (He.ba C.c.b).1 d hd)).fld
  · obtain ⟨d, hd, fs, rfl, e, m⟩ := get c hc
    exact (XD.made (List.all_eq_true.mp (He.ba C.c.b).1 d hd) e).2.1 _ m
theorem Cn.fld_name (C : Cn K mg) : Fld K (He.ga K) "name" (fl_k01 "name") := by
  have key : ((fl_k01 "name").all fun c => xd_.any fun d => decide (d.nm = c) && (match d.fs with
    | some fs => fs.contains "name"
    | none => false)) = true := by decide +kernel
  have get : ∀ c ∈ fl_k01 "name", ∃ d ∈ xd_, ∃ fs, d.nm = c ∧ d.fs = some fs ∧ ("name" : Str) ∈ fs := fun c hc => by
    obtain ⟨d, hd, z⟩ := List.any_eq_true.mp (List.all_eq_true.mp key c hc)
    obtain ⟨z1, z2⟩ := He.ba z
    cases e : d.fs with
    | none => rw [e] at z2; cases z2
    | some fs => rw [e] at z2; exact ⟨d, hd, fs, of_decide_eq_true z1, e, List.contains_iff_mem.mp z2⟩
  refine ⟨fun c hc => ?_, fun c hc => ?_⟩
  · obtain ⟨d, hd, fs, rfl, e, m⟩ := get c hc
    exact (XD.xf (List.all_eq_true.mp (He.ba C.c.b).1 d hd)).fld
  · obtain ⟨d, hd, fs, rfl, e, m⟩ := get c hc
    exact (XD.made (List.all_eq_true.mp (He.ba C.c.b).1 d hd) e).2.1 _ m
theorem Cn.fld_value (C : Cn K mg) : Fld K (He.ga K) "value" (fl_k01 "value") := by
  have key : ((fl_k01 "value").all fun c => xd_.any fun d => decide (d.nm = c) && (match d.fs with
    | some fs => fs.contains "value"
    | none => false)) = true := by decide +kernel
  have get : ∀ c ∈ fl_k01 "value", ∃ d ∈ xd_, ∃ fs, d.nm = c ∧ d.fs = some fs ∧ ("value" : Str) ∈ fs := fun c hc => by
    obtain ⟨d, hd, z⟩ := List.any_eq_true.mp (List.all_eq_true.mp key c hc)
    obtain ⟨z1, z2⟩ := He.ba z
    cases e : d.fs with
    | none => rw [e] at z2; cases z2
    | some fs => rw [e] at z2; exact ⟨d, hd, fs, of_decide_eq_true z1, e, List.contains_iff_mem.mp z2⟩
  refine ⟨fun c hc => ?_, fun c hc => ?_⟩
  · obtain ⟨d, hd, fs, rfl, e, m⟩ := get c hc
    exact (XD.xf (List.all_eq_true.mp (He.ba C.c.b).1 d hd)).fld
  · obtain ⟨d, hd, fs, rfl, e, m⟩ := get c hc
    exact (XD.made (List.all_eq_true.mp (He.ba C.c.b).1 d hd) e).2.1 _ m
theorem Cn.fld_what (C : Cn K mg) : Fld K (He.ga K) "what" (fl_k01 "what") := by
  have key : ((fl_k01 "what").all fun c => xd_.any fun d => decide (d.nm = c) && (match d.fs with
    | some fs => fs.contains "what"
    | none => false)) = true := by decide +kernel
  have get : ∀ c ∈ fl_k01 "what", ∃ d ∈ xd_, ∃ fs, d.nm = c ∧ d.fs = some fs ∧ ("what" : Str) ∈ fs := fun c hc => by
    obtain ⟨d, hd, z⟩ := List.any_eq_true.mp (List.all_eq_true.mp key c hc)
    obtain ⟨z1, z2⟩ := He.ba z
    cases e : d.fs with
    | none => rw [e] at z2; cases z2
    | some fs => rw [e] at z2; exact ⟨d, hd, fs, of_decide_eq_true z1, e, List.contains_iff_mem.mp z2⟩
  refine ⟨fun c hc => ?_, fun c hc => ?_⟩
  · obtain ⟨d, hd, fs, rfl, e, m⟩ := get c hc
    exact (XD.xf (List.all_eq_true.mp (He.ba C.c.b).1 d hd)).fld
  · obtain ⟨d, hd, fs, rfl, e, m⟩ := get c hc
    exact (XD.made (List.all_eq_true.mp (He.ba C.c.b).1 d hd) e).2.1 _ m
theorem Cn.xp_InvalidText (C : Cn K mg) : XI_ P w K mg base 1 1 (He.ga K "InvalidText") ["value"] [] gCat := by
  obtain ⟨fd, Fd⟩ := C.c.says.def_ 8 rfl
  obtain ⟨z1, z2, z3, z4⟩ := XD.made (C.xd 0) rfl
  exact ⟨z1, z2, ⟨_, fd, ["self", "value"], _, z3, z4, ok_init1 Fd (⟨rfl, rfl, rfl, by decide +kernel, rfl, by decide +kernel, by decide +kernel⟩ : FnScope ["self", "value"] ["self", "value"] _) rfl rfl (by decide) (by decide), kbn_plain Fd 2 [] (fun {α} => gCat) hCat fun _ _ _ _ _ _ us ws h1 h2 => match us, ws, h1, h2 with
    | [_, _], [], _, _ => rfl⟩⟩
theorem Cn.xk_InvalidText (C : Cn K mg) : XI_ P w K mg base 1 0 (He.ga K "InvalidText") ["value"] ["value"] gCat := by
  obtain ⟨fd, Fd⟩ := C.c.says.def_ 8 rfl
  obtain ⟨z1, z2, z3, z4⟩ := XD.made (C.xd 0) rfl
  exact ⟨z1, z2, ⟨_, fd, ["self", "value"], _, z3, z4, ok_init1 Fd (⟨rfl, rfl, rfl, by decide +kernel, rfl, by decide +kernel, by decide +kernel⟩ : FnScope ["self", "value"] ["self", "value"] _) rfl rfl (by decide) (by decide), kbn_plain Fd 1 ["value"] (fun {α} => gCat) hCat fun _ _ _ _ _ _ us ws h1 h2 => match us, ws, h1, h2 with
    | [_], [_], _, _ => rfl⟩⟩
theorem Cn.xp_NotARatio (C : Cn K mg) : XI_ P w K mg base 1 1 (He.ga K "NotARatio") ["value"] [] gCat := by
  obtain ⟨fd, Fd⟩ := C.c.says.def_ 9 rfl
  obtain ⟨z1, z2, z3, z4⟩ := XD.made (C.xd 1) rfl
  exact ⟨z1, z2, ⟨_, fd, ["self", "value"], _, z3, z4, ok_init1 Fd (⟨rfl, rfl, rfl, by decide +kernel, rfl, by decide +kernel, by decide +kernel⟩ : FnScope ["self", "value"] ["self", "value"] _) rfl rfl (by decide) (by decide), kbn_plain Fd 2 [] (fun {α} => gCat) hCat fun _ _ _ _ _ _ us ws h1 h2 => match us, ws, h1, h2 with
    | [_, _], [], _, _ => rfl⟩⟩
theorem Cn.xp_NotASampler (C : Cn K mg) : XI_ P w K mg base 1 1 (He.ga K "NotASampler") ["value"] [] gCat := by
  obtain ⟨fd, Fd⟩ := C.c.says.def_ 10 rfl
  obtain ⟨z1, z2, z3, z4⟩ := XD.made (C.xd 2) rfl
  exact ⟨z1, z2, ⟨_, fd, ["self", "value"], _, z3, z4, ok_init1 Fd (⟨rfl, rfl, rfl, by decide +kernel, rfl, by decide +kernel, by decide +kernel⟩ : FnScope ["self", "value"] ["self", "value"] _) rfl rfl (by decide) (by decide), kbn_plain Fd 2 [] (fun {α} => gCat) hCat fun _ _ _ _ _ _ us ws h1 h2 => match us, ws, h1, h2 with
    | [_, _], [], _, _ => rfl⟩⟩
theorem Cn.xp_NotAJoin (C : Cn K mg) : XI_ P w K mg base 1 1 (He.ga K "NotAJoin") ["value"] [] gCat := by
  obtain ⟨fd, Fd⟩ := C.c.says.def_ 11 rfl
  obtain ⟨z1, z2, z3, z4⟩ := XD.made (C.xd 3) rfl
  exact ⟨z1, z2, ⟨_, fd, ["self", "value"], _, z3, z4, ok_init1 Fd (⟨rfl, rfl, rfl, by decide +kernel, rfl, by decide +kernel, by decide +kernel⟩ : FnScope ["self", "value"] ["self", "value"] _) rfl rfl (by decide) (by decide), kbn_plain Fd 2 [] (fun {α} => gCat) hCat fun _ _ _ _ _ _ us ws h1 h2 => match us, ws, h1, h2 with
    | [_, _], [], _, _ => rfl⟩⟩
theorem Cn.xp_NotAPlayer (C : Cn K mg) : XI_ P w K mg base 1 1 (He.ga K "NotAPlayer") ["value"] [] gCat := by
  obtain ⟨fd, Fd⟩ := C.c.says.def_ 12 rfl
  obtain ⟨z1, z2, z3, z4⟩ := XD.made (C.xd 4) rfl
  exact ⟨z1, z2, ⟨_, fd, ["self", "value"], _, z3, z4, ok_init1 Fd (⟨rfl, rfl, rfl, by decide +kernel, rfl, by decide +kernel, by decide +kernel⟩ : FnScope ["self", "value"] ["self", "value"] _) rfl rfl (by decide) (by decide), kbn_plain Fd 2 [] (fun {α} => gCat) hCat fun _ _ _ _ _ _ us ws h1 h2 => match us, ws, h1, h2 with
    | [_, _], [], _, _ => rfl⟩⟩
theorem Cn.xp_InvalidLength (C : Cn K mg) : XI_ P w K mg base 1 1 (He.ga K "InvalidLength") ["value"] [] gCat := by
  obtain ⟨fd, Fd⟩ := C.c.says.def_ 13 rfl
  obtain ⟨z1, z2, z3, z4⟩ := XD.made (C.xd 5) rfl
  exact ⟨z1, z2, ⟨_, fd, ["self", "value"], _, z3, z4, ok_init1 Fd (⟨rfl, rfl, rfl, by decide +kernel, rfl, by decide +kernel, by decide +kernel⟩ : FnScope ["self", "value"] ["self", "value"] _) rfl rfl (by decide) (by decide), kbn_plain Fd 2 [] (fun {α} => gCat) hCat fun _ _ _ _ _ _ us ws h1 h2 => match us, ws, h1, h2 with
    | [_, _], [], _, _ => rfl⟩⟩
theorem Cn.xp_InvalidItem (C : Cn K mg) : XI_ P w K mg base 1 1 (He.ga K "InvalidItem") ["value"] [] gCat := by
  obtain ⟨fd, Fd⟩ := C.c.says.def_ 14 rfl
  obtain ⟨z1, z2, z3, z4⟩ := XD.made (C.xd 6) rfl
  exact ⟨z1, z2, ⟨_, fd, ["self", "value"], _, z3, z4, ok_init1 Fd (⟨rfl, rfl, rfl, by decide +kernel, rfl, by decide +kernel, by decide +kernel⟩ : FnScope ["self", "value"] ["self", "value"] _) rfl rfl (by decide) (by decide), kbn_plain Fd 2 [] (fun {α} => gCat) hCat fun _ _ _ _ _ _ us ws h1 h2 => match us, ws, h1, h2 with
    | [_, _], [], _, _ => rfl⟩⟩
theorem Cn.xp_InvalidPlace (C : Cn K mg) : XI_ P w K mg base 1 1 (He.ga K "InvalidPlace") ["value"] [] gCat := by
  obtain ⟨fd, Fd⟩ := C.c.says.def_ 15 rfl
  obtain ⟨z1, z2, z3, z4⟩ := XD.made (C.xd 7) rfl
  exact ⟨z1, z2, ⟨_, fd, ["self", "value"], _, z3, z4, ok_init1 Fd (⟨rfl, rfl, rfl, by decide +kernel, rfl, by decide +kernel, by decide +kernel⟩ : FnScope ["self", "value"] ["self", "value"] _) rfl rfl (by decide) (by decide), kbn_plain Fd 2 [] (fun {α} => gCat) hCat fun _ _ _ _ _ _ us ws h1 h2 => match us, ws, h1, h2 with
    | [_, _], [], _, _ => rfl⟩⟩
theorem Cn.xp_InvalidCount (C : Cn K mg) : XI_ P w K mg base 1 1 (He.ga K "InvalidCount") ["value"] [] gCat := by
  obtain ⟨fd, Fd⟩ := C.c.says.def_ 16 rfl
  obtain ⟨z1, z2, z3, z4⟩ := XD.made (C.xd 8) rfl
  exact ⟨z1, z2, ⟨_, fd, ["self", "value"], _, z3, z4, ok_init1 Fd (⟨rfl, rfl, rfl, by decide +kernel, rfl, by decide +kernel, by decide +kernel⟩ : FnScope ["self", "value"] ["self", "value"] _) rfl rfl (by decide) (by decide), kbn_plain Fd 2 [] (fun {α} => gCat) hCat fun _ _ _ _ _ _ us ws h1 h2 => match us, ws, h1, h2 with
    | [_, _], [], _, _ => rfl⟩⟩
theorem Cn.xp_InvalidFraction (C : Cn K mg) : XI_ P w K mg base 1 1 (He.ga K "InvalidFraction") ["value"] [] gCat := by
  obtain ⟨fd, Fd⟩ := C.c.says.def_ 17 rfl
  obtain ⟨z1, z2, z3, z4⟩ := XD.made (C.xd 9) rfl
  exact ⟨z1, z2, ⟨_, fd, ["self", "value"], _, z3, z4, ok_init1 Fd (⟨rfl, rfl, rfl, by decide +kernel, rfl, by decide +kernel, by decide +kernel⟩ : FnScope ["self", "value"] ["self", "value"] _) rfl rfl (by decide) (by decide), kbn_plain Fd 2 [] (fun {α} => gCat) hCat fun _ _ _ _ _ _ us ws h1 h2 => match us, ws, h1, h2 with
    | [_, _], [], _, _ => rfl⟩⟩
theorem Cn.xk_InvalidFraction (C : Cn K mg) : XI_ P w K mg base 1 0 (He.ga K "InvalidFraction") ["value"] ["value"] gCat := by
  obtain ⟨fd, Fd⟩ := C.c.says.def_ 17 rfl
  obtain ⟨z1, z2, z3, z4⟩ := XD.made (C.xd 9) rfl
  exact ⟨z1, z2, ⟨_, fd, ["self", "value"], _, z3, z4, ok_init1 Fd (⟨rfl, rfl, rfl, by decide +kernel, rfl, by decide +kernel, by decide +kernel⟩ : FnScope ["self", "value"] ["self", "value"] _) rfl rfl (by decide) (by decide), kbn_plain Fd 1 ["value"] (fun {α} => gCat) hCat fun _ _ _ _ _ _ us ws h1 h2 => match us, ws, h1, h2 with
    | [_], [_], _, _ => rfl⟩⟩
theorem Cn.xp_InvalidDraws (C : Cn K mg) : XI_ P w K mg base 1 1 (He.ga K "InvalidDraws") ["index"] [] gCat := by
  obtain ⟨fd, Fd⟩ := C.c.says.def_ 18 rfl
  obtain ⟨z1, z2, z3, z4⟩ := XD.made (C.xd 10) rfl
  exact ⟨z1, z2, ⟨_, fd, ["self", "index"], _, z3, z4, ok_init1 Fd (⟨rfl, rfl, rfl, by decide +kernel, rfl, by decide +kernel, by decide +kernel⟩ : FnScope ["self", "index"] ["self", "index"] _) rfl rfl (by decide) (by decide), kbn_plain Fd 2 [] (fun {α} => gCat) hCat fun _ _ _ _ _ _ us ws h1 h2 => match us, ws, h1, h2 with
    | [_, _], [], _, _ => rfl⟩⟩
theorem Cn.xk_InvalidDraws (C : Cn K mg) : XI_ P w K mg base 1 0 (He.ga K "InvalidDraws") ["index"] ["index"] gCat := by
  obtain ⟨fd, Fd⟩ := C.c.says.def_ 18 rfl
  obtain ⟨z1, z2, z3, z4⟩ := XD.made (C.xd 10) rfl
  exact ⟨z1, z2, ⟨_, fd, ["self", "index"], _, z3, z4, ok_init1 Fd (⟨rfl, rfl, rfl, by decide +kernel, rfl, by decide +kernel, by decide +kernel⟩ : FnScope ["self", "index"] ["self", "index"] _) rfl rfl (by decide) (by decide), kbn_plain Fd 1 ["index"] (fun {α} => gCat) hCat fun _ _ _ _ _ _ us ws h1 h2 => match us, ws, h1, h2 with
    | [_], [_], _, _ => rfl⟩⟩
theorem Cn.xp_InvalidEdit (C : Cn K mg) : XI_ P w K mg base 1 1 (He.ga K "InvalidEdit") ["index"] [] gCat := by
  obtain ⟨fd, Fd⟩ := C.c.says.def_ 19 rfl
  obtain ⟨z1, z2, z3, z4⟩ := XD.made (C.xd 11) rfl
  exact ⟨z1, z2, ⟨_, fd, ["self", "index"], _, z3, z4, ok_init1 Fd (⟨rfl, rfl, rfl, by decide +kernel, rfl, by decide +kernel, by decide +kernel⟩ : FnScope ["self", "index"] ["self", "index"] _) rfl rfl (by decide) (by decide), kbn_plain Fd 2 [] (fun {α} => gCat) hCat fun _ _ _ _ _ _ us ws h1 h2 => match us, ws, h1, h2 with
    | [_, _], [], _, _ => rfl⟩⟩
theorem Cn.xp_UnknownPlace (C : Cn K mg) : XI_ P w K mg base 1 1 (He.ga K "UnknownPlace") ["line"] [] gCat := by
  obtain ⟨fd, Fd⟩ := C.c.says.def_ 20 rfl
  obtain ⟨z1, z2, z3, z4⟩ := XD.made (C.xd 12) rfl
  exact ⟨z1, z2, ⟨_, fd, ["self", "line"], _, z3, z4, ok_init1 Fd (⟨rfl, rfl, rfl, by decide +kernel, rfl, by decide +kernel, by decide +kernel⟩ : FnScope ["self", "line"] ["self", "line"] _) rfl rfl (by decide) (by decide), kbn_plain Fd 2 [] (fun {α} => gCat) hCat fun _ _ _ _ _ _ us ws h1 h2 => match us, ws, h1, h2 with
    | [_, _], [], _, _ => rfl⟩⟩
theorem Cn.xp_NotDrawn (C : Cn K mg) : XI_ P w K mg base 1 1 (He.ga K "NotDrawn") ["line"] [] gCat := by
  obtain ⟨fd, Fd⟩ := C.c.says.def_ 21 rfl
  obtain ⟨z1, z2, z3, z4⟩ := XD.made (C.xd 13) rfl
  exact ⟨z1, z2, ⟨_, fd, ["self", "line"], _, z3, z4, ok_init1 Fd (⟨rfl, rfl, rfl, by decide +kernel, rfl, by decide +kernel, by decide +kernel⟩ : FnScope ["self", "line"] ["self", "line"] _) rfl rfl (by decide) (by decide), kbn_plain Fd 2 [] (fun {α} => gCat) hCat fun _ _ _ _ _ _ us ws h1 h2 => match us, ws, h1, h2 with
    | [_, _], [], _, _ => rfl⟩⟩
theorem Cn.xp_DrawnTwice (C : Cn K mg) : XI_ P w K mg base 1 1 (He.ga K "DrawnTwice") ["line"] [] gCat := by
  obtain ⟨fd, Fd⟩ := C.c.says.def_ 22 rfl
  obtain ⟨z1, z2, z3, z4⟩ := XD.made (C.xd 14) rfl
  exact ⟨z1, z2, ⟨_, fd, ["self", "line"], _, z3, z4, ok_init1 Fd (⟨rfl, rfl, rfl, by decide +kernel, rfl, by decide +kernel, by decide +kernel⟩ : FnScope ["self", "line"] ["self", "line"] _) rfl rfl (by decide) (by decide), kbn_plain Fd 2 [] (fun {α} => gCat) hCat fun _ _ _ _ _ _ us ws h1 h2 => match us, ws, h1, h2 with
    | [_, _], [], _, _ => rfl⟩⟩
theorem Cn.xp_BelowOne (C : Cn K mg) : XI_ P w K mg base 1 1 (He.ga K "BelowOne") ["line"] [] gCat := by
  obtain ⟨fd, Fd⟩ := C.c.says.def_ 23 rfl
  obtain ⟨z1, z2, z3, z4⟩ := XD.made (C.xd 15) rfl
  exact ⟨z1, z2, ⟨_, fd, ["self", "line"], _, z3, z4, ok_init1 Fd (⟨rfl, rfl, rfl, by decide +kernel, rfl, by decide +kernel, by decide +kernel⟩ : FnScope ["self", "line"] ["self", "line"] _) rfl rfl (by decide) (by decide), kbn_plain Fd 2 [] (fun {α} => gCat) hCat fun _ _ _ _ _ _ us ws h1 h2 => match us, ws, h1, h2 with
    | [_, _], [], _, _ => rfl⟩⟩
theorem Cn.xk_Unsettled (C : Cn K mg) : XI_ P w K mg base 1 0 (He.ga K "Unsettled") ["line"] ["line"] gCat := by
  obtain ⟨fd, Fd⟩ := C.c.says.def_ 24 rfl
  obtain ⟨z1, z2, z3, z4⟩ := XD.made (C.xd 16) rfl
  exact ⟨z1, z2, ⟨_, fd, ["self", "line"], _, z3, z4, ok_init1 Fd (⟨rfl, rfl, rfl, by decide +kernel, rfl, by decide +kernel, by decide +kernel⟩ : FnScope ["self", "line"] ["self", "line"] _) rfl rfl (by decide) (by decide), kbn_plain Fd 1 ["line"] (fun {α} => gCat) hCat fun _ _ _ _ _ _ us ws h1 h2 => match us, ws, h1, h2 with
    | [_], [_], _, _ => rfl⟩⟩
theorem Cn.xp_TooMuch (C : Cn K mg) : XI_ P w K mg base 1 1 (He.ga K "TooMuch") ["what"] [] gCat := by
  obtain ⟨fd, Fd⟩ := C.c.says.def_ 25 rfl
  obtain ⟨z1, z2, z3, z4⟩ := XD.made (C.xd 17) rfl
  exact ⟨z1, z2, ⟨_, fd, ["self", "what"], _, z3, z4, ok_init1 Fd (⟨rfl, rfl, rfl, by decide +kernel, rfl, by decide +kernel, by decide +kernel⟩ : FnScope ["self", "what"] ["self", "what"] _) rfl rfl (by decide) (by decide), kbn_plain Fd 2 [] (fun {α} => gCat) hCat fun _ _ _ _ _ _ us ws h1 h2 => match us, ws, h1, h2 with
    | [_, _], [], _, _ => rfl⟩⟩
theorem Cn.xk_TooMuch (C : Cn K mg) : XI_ P w K mg base 1 0 (He.ga K "TooMuch") ["what"] ["what"] gCat := by
  obtain ⟨fd, Fd⟩ := C.c.says.def_ 25 rfl
  obtain ⟨z1, z2, z3, z4⟩ := XD.made (C.xd 17) rfl
  exact ⟨z1, z2, ⟨_, fd, ["self", "what"], _, z3, z4, ok_init1 Fd (⟨rfl, rfl, rfl, by decide +kernel, rfl, by decide +kernel, by decide +kernel⟩ : FnScope ["self", "what"] ["self", "what"] _) rfl rfl (by decide) (by decide), kbn_plain Fd 1 ["what"] (fun {α} => gCat) hCat fun _ _ _ _ _ _ us ws h1 h2 => match us, ws, h1, h2 with
    | [_], [_], _, _ => rfl⟩⟩
theorem Cn.x_UnlikePlaces (C : Cn K mg) : PySem.W.excIn K (He.ga K "UnlikePlaces") (Fam.tail .r) (Fam.new .r) = true ∧ PySem.W.keepIn K (.ref (He.ga K "UnlikePlaces")) = true := XD.plain (C.xd 18) rfl
theorem Cn.x_NothingBack (C : Cn K mg) : PySem.W.excIn K (He.ga K "NothingBack") (Fam.tail .r) (Fam.new .r) = true ∧ PySem.W.keepIn K (.ref (He.ga K "NothingBack")) = true := XD.plain (C.xd 19) rfl
theorem Cn.x_Held (C : Cn K mg) : PySem.W.excIn K (He.ga K "Held") (Fam.tail .r) (Fam.new .r) = true ∧ PySem.W.keepIn K (.ref (He.ga K "Held")) = true := XD.plain (C.xd 20) rfl
theorem Cn.x_ZeroBelow (C : Cn K mg) : PySem.W.excIn K (He.ga K "ZeroBelow") (Fam.tail .r) (Fam.new .r) = true ∧ PySem.W.keepIn K (.ref (He.ga K "ZeroBelow")) = true := XD.plain (C.xd 21) rfl
theorem Cn.xp_Gap (C : Cn K mg) : XI_ P w K mg base 1 1 (He.ga K "Gap") ["at"] [] gCat := by
  obtain ⟨fd, Fd⟩ := C.c.says.def_ 26 rfl
  obtain ⟨z1, z2, z3, z4⟩ := XD.made (C.xd 22) rfl
  exact ⟨z1, z2, ⟨_, fd, ["self", "at"], _, z3, z4, ok_init1 Fd (⟨rfl, rfl, rfl, by decide +kernel, rfl, by decide +kernel, by decide +kernel⟩ : FnScope ["self", "at"] ["self", "at"] _) rfl rfl (by decide) (by decide), kbn_plain Fd 2 [] (fun {α} => gCat) hCat fun _ _ _ _ _ _ us ws h1 h2 => match us, ws, h1, h2 with
    | [_, _], [], _, _ => rfl⟩⟩
theorem Cn.xk_Missing (C : Cn K mg) : XI_ P w K mg base 1 0 (He.ga K "Missing") ["name"] ["name"] gCat := by
  obtain ⟨fd, Fd⟩ := C.c.says.def_ 27 rfl
  obtain ⟨z1, z2, z3, z4⟩ := XD.made (C.xd 23) rfl
  exact ⟨z1, z2, ⟨_, fd, ["self", "name"], _, z3, z4, ok_init1 Fd (⟨rfl, rfl, rfl, by decide +kernel, rfl, by decide +kernel, by decide +kernel⟩ : FnScope ["self", "name"] ["self", "name"] _) rfl rfl (by decide) (by decide), kbn_plain Fd 1 ["name"] (fun {α} => gCat) hCat fun _ _ _ _ _ _ us ws h1 h2 => match us, ws, h1, h2 with
    | [_], [_], _, _ => rfl⟩⟩
theorem Cn.xp_Refused (C : Cn K mg) : XI_ P w K mg base 1 2 (He.ga K "Refused") ["name", "demand"] [] gCat := by
  obtain ⟨fd, Fd⟩ := C.c.says.def_ 28 rfl
  obtain ⟨z1, z2, z3, z4⟩ := XD.made (C.xd 24) rfl
  exact ⟨z1, z2, ⟨_, fd, ["self", "name", "demand"], _, z3, z4, ok_init2 Fd (⟨rfl, rfl, rfl, by decide +kernel, rfl, by decide +kernel, by decide +kernel⟩ : FnScope ["self", "name", "demand"] ["self", "name", "demand"] _) rfl rfl rfl (by decide) (by decide) (by decide) (by decide), kbn_plain Fd 3 [] (fun {α} => gCat) hCat fun _ _ _ _ _ _ us ws h1 h2 => match us, ws, h1, h2 with
    | [_, _, _], [], _, _ => rfl⟩⟩
theorem Cn.xr_Refused (C : Cn K mg) : XI_ P w K mg base 1 0 (He.ga K "Refused") ["name", "demand"] ["demand", "name"] gRev := by
  obtain ⟨fd, Fd⟩ := C.c.says.def_ 28 rfl
  obtain ⟨z1, z2, z3, z4⟩ := XD.made (C.xd 24) rfl
  exact ⟨z1, z2, ⟨_, fd, ["self", "name", "demand"], _, z3, z4, ok_init2 Fd (⟨rfl, rfl, rfl, by decide +kernel, rfl, by decide +kernel, by decide +kernel⟩ : FnScope ["self", "name", "demand"] ["self", "name", "demand"] _) rfl rfl rfl (by decide) (by decide) (by decide) (by decide), kbn_plain Fd 1 ["demand", "name"] (fun {α} => gRev) hRev fun _ _ _ _ _ _ us ws h1 h2 => match us, ws, h1, h2 with
    | [_], [_, _], _, _ => rfl⟩⟩
abbrev N__law_dip : List Str := ["_law_well_here", "_law_many", "_law_digit", "_law_state"]
theorem sc__law_dip : FnScope N__law_dip ["_law_well_here", "_law_many"] (defScope (top 38)) := ⟨rfl, rfl, rfl, by decide +kernel, rfl, by decide +kernel, by decide +kernel⟩
theorem ok__law_dip (C : Cn K mg) {fd : FuncData} (Fd : FunD K "_law_dip" "_law_dip" (defArgs (top 38)) (defBody (top 38)) (defScope (top 38)) [] [] (He.ga K "_law_dip") fd) : FnG P w K mg base 1 (He.ga K "_law_dip") fd ["_law_well_here", "_law_many"] (SPx K (He.ga K) k01__law_dip) := by
  have sc := sc__law_dip
  refine fn_ok (k := 0) (N := N__law_dip) (b := B_k01__law_dip) Fd sc fun cdv A outer s H E hr hgd => ?_
  have hu := hr.units
  have hu1 : (A.deeper (envOfC "_law_dip" (defScope (top 38)) s.heap.objs.size (He.ga K "_law_dip") cdv)).units + (64 + 1) < cLine := by have := hr.un; omega
  unfold B_k01__law_dip
  exact (s_cons (s_asg (e_bin (or_add rfl) (e_ix rfl (e_v 0) e_int) e_int) (g_ix (e_v 0) e_int))
  (s_cons (s_if (t_cmp or_gt (e_ix rfl (e_v 0) e_int) e_int) (s_cons (s_set (i := 2) sc.nd rfl (by first | exact .inl rfl | exact .inr rfl) (e_bin or_mod (e_callTy cr_int rfl C.f_int (by decide +kernel) (a_cons (e_ix rfl (e_v 0) e_int) a_nil)) (e_v 1)))
  (s_cons (s_asg (e_bin or_fdiv (e_ix rfl (e_v 0) e_int) (e_v 1)) (g_ix (e_v 0) e_int))
  (s_one (s_ret (e_v 2))))) s_nil)
  (s_cons (s_set (i := 3) sc.nd rfl (by first | exact .inl rfl | exact .inr rfl) (e_callTy cr_int rfl C.f_int (by decide +kernel) (a_cons (e_ix rfl (e_v 0) e_int) a_nil)))
  (s_cons (s_asg (e_bin or_mod (e_callTy cr_int rfl C.f_int (by decide +kernel) (a_cons (e_bin (or_add rfl) (e_bin (or_add rfl) (e_bin (or_mul rfl) (e_v 3) (e_bin (or_add rfl) (e_bin or_mod (e_v 3) e_int) e_int)) (e_bin (or_mul rfl) e_int (e_ix rfl (e_v 0) e_int))) e_int) a_nil)) e_int) (g_ix (e_v 0) e_int))
  (s_one (s_ret (e_bin or_mod (e_callTy cr_int rfl C.f_int (by decide +kernel) (a_cons (e_bin or_fdiv (e_ix rfl (e_v 0) e_int) e_int) a_nil)) (e_v 1))))))))
abbrev N__law_any : List Str := ["_law_well_here", "_law_things"]
theorem sc__law_any : FnScope N__law_any ["_law_well_here", "_law_things"] (defScope (top 39)) := ⟨rfl, rfl, rfl, by decide +kernel, rfl, by decide +kernel, by decide +kernel⟩
theorem ok__law_any (C : Cn K mg) {fd : FuncData} (Fd : FunD K "_law_any" "_law_any" (defArgs (top 39)) (defBody (top 39)) (defScope (top 39)) [] [] (He.ga K "_law_any") fd) : FnG P w K mg base 2 (He.ga K "_law_any") fd ["_law_well_here", "_law_things"] (SPx K (He.ga K) k01__law_any) := by
  have sc := sc__law_any
  obtain ⟨fd__law_dip, F__law_dip⟩ := C.c.says.def_ 0 rfl
  have G__law_dip := ok__law_dip (P := P) (w := w) (base := base) C F__law_dip
  have b__law_dip : Binds K fd__law_dip ["_law_well_here", "_law_many"] [] := F__law_dip.bindsN fun _ _ _ _ _ _ us hl => match us, hl with | [_, _], _ => rfl
  refine fn_ok (k := 1) (N := N__law_any) (b := B_k01__law_any) Fd sc fun cdv A outer s H E hr hgd => ?_
  have hu := hr.units
  have hu1 : (A.deeper (envOfC "_law_any" (defScope (top 39)) s.heap.objs.size (He.ga K "_law_any") cdv)).units + (64 + 1) < cLine := by have := hr.un; omega
  unfold B_k01__law_any
  exact (s_one (s_ret (e_ix rfl (e_v 1) (e_call (dd := []) (dvs := []) (ds := []) (G__law_dip.mono (by omega)) hr hgd rfl C.g__law_dip F__law_dip.kp b__law_dip .nil (fun _ _ _ => .nil) (takes_of rfl rfl rfl rfl) (a_cons (e_v 0) (a_cons (e_callB (cr_len rfl) rfl C.f_len (by decide +kernel) (a_cons (e_v 1) a_nil)) a_nil))))))
abbrev N__law_due : List Str := ["_law_family", "_law_at"]
theorem sc__law_due : FnScope N__law_due ["_law_family"] (defScope (top 41)) := ⟨rfl, rfl, rfl, by decide +kernel, rfl, by decide +kernel, by decide +kernel⟩
theorem ok__law_due (C : Cn K mg) {fd : FuncData} (Fd : FunD K "_law_due" "_law_due" (defArgs (top 41)) (defBody (top 41)) (defScope (top 41)) [] [] (He.ga K "_law_due") fd) : FnG P w K mg base 1 (He.ga K "_law_due") fd ["_law_family"] (SPx K (He.ga K) k01__law_due) := by
  have sc := sc__law_due
  refine fn_ok (k := 0) (N := N__law_due) (b := B_k01__law_due) Fd sc fun cdv A outer s H E hr hgd => ?_
  have hu := hr.units
  have hu1 : (A.deeper (envOfC "_law_due" (defScope (top 41)) s.heap.objs.size (He.ga K "_law_due") cdv)).units + (64 + 1) < cLine := by have := hr.un; omega
  unfold B_k01__law_due
  exact (s_one (s_ret (e_bin (or_mul rfl) (e_lcF (patOk_one (i := 1)) rfl rfl sc.nd (w_rng1 rfl C.f_range (a_cons e_int a_nil)) (blkOk_by (own := [("_law_at", 1)]) (N := N__law_due) (sc := defScope (top 41)) (by decide +kernel)) (fun _ _ _ _ _ => pg_name (i := 1) sc.nd rfl (by first | exact .inl rfl | exact .inr rfl)) (fun _ _ _ _ _ => ts_nil) (fun _ _ _ _ _ => (e_cmp (or_eq rfl hu) (e_v 1) (e_v 0)))) e_int)))
abbrev N__law_families : List Str := ["_law_e", "_law_own"]
theorem sc__law_families : FnScope N__law_families ["_law_e"] (defScope (top 40)) := ⟨rfl, rfl, rfl, by decide +kernel, rfl, by decide +kernel, by decide +kernel⟩
theorem ok__law_families (C : Cn K mg) {fd : FuncData} (Fd : FunD K "_law_families" "_law_families" (defArgs (top 40)) (defBody (top 40)) (defScope (top 40)) [] [] (He.ga K "_law_families") fd) : FnG P w K mg base 1 (He.ga K "_law_families") fd ["_law_e"] (SPx K (He.ga K) k01__law_families) := by
  have sc := sc__law_families
  refine fn_ok (k := 0) (N := N__law_families) (b := B_k01__law_families) Fd sc fun cdv A outer s H E hr hgd => ?_
  have hu := hr.units
  have hu1 : (A.deeper (envOfC "_law_families" (defScope (top 40)) s.heap.objs.size (He.ga K "_law_families") cdv)).units + (64 + 1) < cLine := by have := hr.un; omega
  unfold B_k01__law_families
  exact (s_cons (s_set (i := 1) sc.nd rfl (by first | exact .inl rfl | exact .inr rfl) (e_lstF (a_cons (e_callB (cr_isi rfl C.isa) rfl C.f_isinstance (by decide +kernel) (a_cons (e_v 0) (a_cons (e_glo rfl C.g_TextError) a_nil))) (a_cons (e_callB (cr_isi rfl C.isa) rfl C.f_isinstance (by decide +kernel) (a_cons (e_v 0) (a_cons (e_glo rfl C.g_ProgramError) a_nil))) (a_cons (e_callB (cr_isi rfl C.isa) rfl C.f_isinstance (by decide +kernel) (a_cons (e_v 0) (a_cons (e_glo rfl C.g_KeepError) a_nil))) a_nil)))))
  (s_one (s_ret (e_bin (or_add rfl) (e_v 1) (e_lstF (a_cons (e_callB (cr_isi rfl C.isa) rfl C.f_isinstance (by decide +kernel) (a_cons (e_v 0) (a_cons (e_bty rfl C.f_ValueError (by decide +kernel)) a_nil))) (a_cons (e_callB (cr_isi rfl C.isa) rfl C.f_isinstance (by decide +kernel) (a_cons (e_v 0) (a_cons (e_bty rfl C.f_LookupError (by decide +kernel)) a_nil))) (a_cons (e_callB (cr_isi rfl C.isa) rfl C.f_isinstance (by decide +kernel) (a_cons (e_v 0) (a_cons (e_bty rfl C.f_RuntimeError (by decide +kernel)) a_nil))) a_nil))))))))
abbrev N__law_others_right : List Str := ["_law_thing", "_law_other", "_law_found", "_law_e", "_law_near", "_law_far", "_law_rest"]
theorem sc__law_others_right : FnScope N__law_others_right ["_law_thing", "_law_other"] (defScope (top 43)) := ⟨rfl, rfl, rfl, by decide +kernel, rfl, by decide +kernel, by decide +kernel⟩
theorem ok__law_others_right (C : Cn K mg) {fd : FuncData} (Fd : FunD K "_law_others_right" "_law_others_right" (defArgs (top 43)) (defBody (top 43)) (defScope (top 43)) [] [] (He.ga K "_law_others_right") fd) : FnG P w K mg base 3 (He.ga K "_law_others_right") fd ["_law_thing", "_law_other"] (SPx K (He.ga K) k01__law_others_right) := by
  have sc := sc__law_others_right
  obtain ⟨fd__law_due, F__law_due⟩ := C.c.says.def_ 2 rfl
  have G__law_due := ok__law_due (P := P) (w := w) (base := base) C F__law_due
  have b__law_due : Binds K fd__law_due ["_law_family"] [] := F__law_due.bindsN fun _ _ _ _ _ _ us hl => match us, hl with | [_], _ => rfl
  obtain ⟨fd__law_families, F__law_families⟩ := C.c.says.def_ 3 rfl
  have G__law_families := ok__law_families (P := P) (w := w) (base := base) C F__law_families
  have b__law_families : Binds K fd__law_families ["_law_e"] [] := F__law_families.bindsN fun _ _ _ _ _ _ us hl => match us, hl with | [_], _ => rfl
  refine fn_ok (k := 2) (N := N__law_others_right) (b := B_k01__law_others_right) Fd sc fun cdv A outer s H E hr hgd => ?_
  have hu := hr.units
  have hu1 : (A.deeper (envOfC "_law_others_right" (defScope (top 43)) s.heap.objs.size (He.ga K "_law_others_right") cdv)).units + (64 + 1) < cLine := by have := hr.un; omega
  unfold B_k01__law_others_right
  exact (s_cons (s_set (i := 2) sc.nd rfl (by first | exact .inl rfl | exact .inr rfl) (e_lstF (a_cons (e_mkx (XI_.of (C.xp_UnknownPlace (P := P) (w := w) (base := base))) pm_pos (hr.mono (by omega)) rfl C.g_UnknownPlace (a_cons (e_v 0) a_nil)) (a_cons (e_mkx (XI_.of (C.xp_NotDrawn (P := P) (w := w) (base := base))) pm_pos (hr.mono (by omega)) rfl C.g_NotDrawn (a_cons (e_v 0) a_nil)) (a_cons (e_mkx (XI_.of (C.xp_DrawnTwice (P := P) (w := w) (base := base))) pm_pos (hr.mono (by omega)) rfl C.g_DrawnTwice (a_cons (e_v 0) a_nil)) (a_cons (e_mkx (XI_.of (C.xp_BelowOne (P := P) (w := w) (base := base))) pm_pos (hr.mono (by omega)) rfl C.g_BelowOne (a_cons (e_v 0) a_nil)) (a_cons (e_mkxK (ks := ["line"]) (XI_.of (C.xk_Unsettled (P := P) (w := w) (base := base))) pm_kw (hr.mono (by omega)) rfl C.g_Unsettled (k_cons (e_v 0) k_nil)) a_nil)))))))
  (s_cons (s_if (t_not (t_tru rfl (e_callB (cr_allL rfl rfl) rfl C.f_all (by decide +kernel) (a_cons (e_lcF (patOk_one (i := 3)) rfl rfl sc.nd (w_seq rfl (e_v 2)) (blkOk_by (own := [("_law_e", 3)]) (N := N__law_others_right) (sc := defScope (top 43)) (by decide +kernel)) (fun _ _ _ _ _ => pg_name (i := 3) sc.nd rfl (by first | exact .inl rfl | exact .inr rfl)) (fun _ _ _ _ _ => ts_nil) (fun _ _ _ _ _ => (e_and rfl (e_cmp (or_eq rfl hu) (e_callB (cr_repr rfl hgd hu1) rfl C.f_repr (by decide +kernel) (a_cons (e_fld rfl C.fld_line (e_v 3)) a_nil)) (e_callB (cr_repr rfl hgd hu1) rfl C.f_repr (by decide +kernel) (a_cons (e_v 0) a_nil))) (e_one (e_cmp (or_eq rfl hu) (e_call (dd := []) (dvs := []) (ds := []) (G__law_families.mono (by omega)) hr hgd rfl C.g__law_families F__law_families.kp b__law_families .nil (fun _ _ _ => .nil) takes0 (a_cons (e_v 3) a_nil)) (e_call (dd := []) (dvs := []) (ds := []) (G__law_due.mono (by omega)) hr hgd rfl C.g__law_due F__law_due.kp b__law_due .nil (fun _ _ _ => .nil) takes0 (a_cons e_int a_nil))))))) a_nil)))) (s_one (s_ret e_bl)) s_nil)
  (s_cons (s_for (passes_of rfl) rfl (w_seq rfl (e_lstF (a_cons (e_mkx (XI_.of (C.xp_TooMuch (P := P) (w := w) (base := base))) pm_pos (hr.mono (by omega)) rfl C.g_TooMuch (a_cons (e_v 0) a_nil)) (a_cons (e_mkxK (ks := ["what"]) (XI_.of (C.xk_TooMuch (P := P) (w := w) (base := base))) pm_kw (hr.mono (by omega)) rfl C.g_TooMuch (k_cons (e_v 0) k_nil)) a_nil)))) (g_name (i := 3) sc.nd rfl (by first | exact .inl rfl | exact .inr rfl)) (s_one (s_if (t_ws (w_or (t_cmp (or_ne rfl hu) (e_callB (cr_repr rfl hgd hu1) rfl C.f_repr (by decide +kernel) (a_cons (e_fld rfl C.fld_what (e_v 3)) a_nil)) (e_callB (cr_repr rfl hgd hu1) rfl C.f_repr (by decide +kernel) (a_cons (e_v 0) a_nil))) (w_or1 (t_cmp (or_ne rfl hu) (e_call (dd := []) (dvs := []) (ds := []) (G__law_families.mono (by omega)) hr hgd rfl C.g__law_families F__law_families.kp b__law_families .nil (fun _ _ _ => .nil) (takes_of rfl rfl rfl rfl) (a_cons (e_v 3) a_nil)) (e_call (dd := []) (dvs := []) (ds := []) (G__law_due.mono (by omega)) hr hgd rfl C.g__law_due F__law_due.kp b__law_due .nil (fun _ _ _ => .nil) (takes_of rfl rfl rfl rfl) (a_cons e_int a_nil)))))) (s_one (s_ret e_bl)) s_nil)))
  (s_cons (s_for (passes_of rfl) rfl (w_seq rfl (e_lstF (a_cons (e_mkx (XI_.of (C.xp_Refused (P := P) (w := w) (base := base))) pm_pos (hr.mono (by omega)) rfl C.g_Refused (a_cons (e_v 0) (a_cons (e_v 1) a_nil))) (a_cons (e_mkxK (ks := ["demand", "name"]) (XI_.of (C.xr_Refused (P := P) (w := w) (base := base))) pm_rev (hr.mono (by omega)) rfl C.g_Refused (k_cons (e_v 1) (k_cons (e_v 0) k_nil))) a_nil)))) (g_name (i := 3) sc.nd rfl (by first | exact .inl rfl | exact .inr rfl)) (s_one (s_if (t_ws (w_or (t_cmp (or_ne rfl hu) (e_lstF (a_cons (e_callB (cr_repr rfl hgd hu1) rfl C.f_repr (by decide +kernel) (a_cons (e_fld rfl C.fld_name (e_v 3)) a_nil)) (a_cons (e_callB (cr_repr rfl hgd hu1) rfl C.f_repr (by decide +kernel) (a_cons (e_fld rfl C.fld_demand (e_v 3)) a_nil)) a_nil))) (e_lstF (a_cons (e_callB (cr_repr rfl hgd hu1) rfl C.f_repr (by decide +kernel) (a_cons (e_v 0) a_nil)) (a_cons (e_callB (cr_repr rfl hgd hu1) rfl C.f_repr (by decide +kernel) (a_cons (e_v 1) a_nil)) a_nil)))) (w_or1 (t_cmp (or_ne rfl hu) (e_call (dd := []) (dvs := []) (ds := []) (G__law_families.mono (by omega)) hr hgd rfl C.g__law_families F__law_families.kp b__law_families .nil (fun _ _ _ => .nil) (takes_of rfl rfl rfl rfl) (a_cons (e_v 3) a_nil)) (e_call (dd := []) (dvs := []) (ds := []) (G__law_due.mono (by omega)) hr hgd rfl C.g__law_due F__law_due.kp b__law_due .nil (fun _ _ _ => .nil) (takes_of rfl rfl rfl rfl) (a_cons e_int a_nil)))))) (s_one (s_ret e_bl)) s_nil)))
  (s_cons (s_par (i := 4) (j := 5) rfl sc.nd rfl rfl (by decide) rfl rfl (a_cons (e_mkx (XI_.of (C.xp_Gap (P := P) (w := w) (base := base))) pm_pos (hr.mono (by omega)) rfl C.g_Gap (a_cons (e_v 0) a_nil)) (a_cons (e_mkxK (ks := ["name"]) (XI_.of (C.xk_Missing (P := P) (w := w) (base := base))) pm_kw (hr.mono (by omega)) rfl C.g_Missing (k_cons (e_v 0) k_nil)) a_nil)) rfl)
  (s_cons (s_if (t_cmp (or_ne rfl hu) (e_lstF (a_cons (e_callB (cr_repr rfl hgd hu1) rfl C.f_repr (by decide +kernel) (a_cons (e_fld rfl C.fld_at (e_v 4)) a_nil)) (a_cons (e_callB (cr_repr rfl hgd hu1) rfl C.f_repr (by decide +kernel) (a_cons (e_fld rfl C.fld_name (e_v 5)) a_nil)) a_nil))) (e_bin (or_mul rfl) (e_lstF (a_cons (e_callB (cr_repr rfl hgd hu1) rfl C.f_repr (by decide +kernel) (a_cons (e_v 0) a_nil)) a_nil)) e_int)) (s_one (s_ret e_bl)) s_nil)
  (s_cons (s_set (i := 6) sc.nd rfl (by first | exact .inl rfl | exact .inr rfl) (e_lstF (a_cons (e_v 4) (a_cons (e_v 5) (a_cons (e_mk0 (Fam.xb .r) (C.x_UnlikePlaces).1 (C.x_UnlikePlaces).2 rfl C.g_UnlikePlaces) (a_cons (e_mk0 (Fam.xb .r) (C.x_NothingBack).1 (C.x_NothingBack).2 rfl C.g_NothingBack) (a_cons (e_mk0 (Fam.xb .r) (C.x_Held).1 (C.x_Held).2 rfl C.g_Held) (a_cons (e_mk0 (Fam.xb .r) (C.x_ZeroBelow).1 (C.x_ZeroBelow).2 rfl C.g_ZeroBelow) a_nil))))))))
  (s_one (s_ret (e_cmp (or_eq rfl hu) (e_lcF (patOk_one (i := 3)) rfl rfl sc.nd (w_seq rfl (e_v 6)) (blkOk_by (own := [("_law_e", 3)]) (N := N__law_others_right) (sc := defScope (top 43)) (by decide +kernel)) (fun _ _ _ _ _ => pg_name (i := 3) sc.nd rfl (by first | exact .inl rfl | exact .inr rfl)) (fun _ _ _ _ _ => ts_nil) (fun _ _ _ _ _ => (e_call (dd := []) (dvs := []) (ds := []) (G__law_families.mono (by omega)) hr hgd rfl C.g__law_families F__law_families.kp b__law_families .nil (fun _ _ _ => .nil) takes0 (a_cons (e_v 3) a_nil)))) (e_bin (or_mul rfl) (e_lstF (a_cons (e_call (dd := []) (dvs := []) (ds := []) (G__law_due.mono (by omega)) hr hgd rfl C.g__law_due F__law_due.kp b__law_due .nil (fun _ _ _ => .nil) (takes_of rfl rfl rfl rfl) (a_cons e_int a_nil)) a_nil)) e_int)))))))))))
abbrev N__law_texts_right : List Str := ["_law_thing", "_law_found", "_law_e"]
theorem sc__law_texts_right : FnScope N__law_texts_right ["_law_thing"] (defScope (top 42)) := ⟨rfl, rfl, rfl, by decide +kernel, rfl, by decide +kernel, by decide +kernel⟩
theorem ok__law_texts_right (C : Cn K mg) {fd : FuncData} (Fd : FunD K "_law_texts_right" "_law_texts_right" (defArgs (top 42)) (defBody (top 42)) (defScope (top 42)) [] [] (He.ga K "_law_texts_right") fd) : FnG P w K mg base 3 (He.ga K "_law_texts_right") fd ["_law_thing"] (SPx K (He.ga K) k01__law_texts_right) := by
  have sc := sc__law_texts_right
  obtain ⟨fd__law_due, F__law_due⟩ := C.c.says.def_ 2 rfl
  have G__law_due := ok__law_due (P := P) (w := w) (base := base) C F__law_due
  have b__law_due : Binds K fd__law_due ["_law_family"] [] := F__law_due.bindsN fun _ _ _ _ _ _ us hl => match us, hl with | [_], _ => rfl
  obtain ⟨fd__law_families, F__law_families⟩ := C.c.says.def_ 3 rfl
  have G__law_families := ok__law_families (P := P) (w := w) (base := base) C F__law_families
  have b__law_families : Binds K fd__law_families ["_law_e"] [] := F__law_families.bindsN fun _ _ _ _ _ _ us hl => match us, hl with | [_], _ => rfl
  refine fn_ok (k := 2) (N := N__law_texts_right) (b := B_k01__law_texts_right) Fd sc fun cdv A outer s H E hr hgd => ?_
  have hu := hr.units
  have hu1 : (A.deeper (envOfC "_law_texts_right" (defScope (top 42)) s.heap.objs.size (He.ga K "_law_texts_right") cdv)).units + (64 + 1) < cLine := by have := hr.un; omega
  unfold B_k01__law_texts_right
  exact (s_cons (s_set (i := 1) sc.nd rfl (by first | exact .inl rfl | exact .inr rfl) (e_lstF (a_cons (e_mkx (XI_.of (C.xp_InvalidText (P := P) (w := w) (base := base))) pm_pos (hr.mono (by omega)) rfl C.g_InvalidText (a_cons (e_v 0) a_nil)) (a_cons (e_mkx (XI_.of (C.xp_NotARatio (P := P) (w := w) (base := base))) pm_pos (hr.mono (by omega)) rfl C.g_NotARatio (a_cons (e_v 0) a_nil)) (a_cons (e_mkx (XI_.of (C.xp_NotASampler (P := P) (w := w) (base := base))) pm_pos (hr.mono (by omega)) rfl C.g_NotASampler (a_cons (e_v 0) a_nil)) (a_cons (e_mkx (XI_.of (C.xp_NotAJoin (P := P) (w := w) (base := base))) pm_pos (hr.mono (by omega)) rfl C.g_NotAJoin (a_cons (e_v 0) a_nil)) (a_cons (e_mkx (XI_.of (C.xp_NotAPlayer (P := P) (w := w) (base := base))) pm_pos (hr.mono (by omega)) rfl C.g_NotAPlayer (a_cons (e_v 0) a_nil)) a_nil)))))))
  (s_cons (s_set (i := 1) sc.nd rfl (by first | exact .inl rfl | exact .inr rfl) (e_bin (or_add rfl) (e_v 1) (e_lstF (a_cons (e_mkx (XI_.of (C.xp_InvalidLength (P := P) (w := w) (base := base))) pm_pos (hr.mono (by omega)) rfl C.g_InvalidLength (a_cons (e_v 0) a_nil)) (a_cons (e_mkx (XI_.of (C.xp_InvalidItem (P := P) (w := w) (base := base))) pm_pos (hr.mono (by omega)) rfl C.g_InvalidItem (a_cons (e_v 0) a_nil)) (a_cons (e_mkx (XI_.of (C.xp_InvalidPlace (P := P) (w := w) (base := base))) pm_pos (hr.mono (by omega)) rfl C.g_InvalidPlace (a_cons (e_v 0) a_nil)) (a_cons (e_mkx (XI_.of (C.xp_InvalidCount (P := P) (w := w) (base := base))) pm_pos (hr.mono (by omega)) rfl C.g_InvalidCount (a_cons (e_v 0) a_nil)) a_nil)))))))
  (s_cons (s_set (i := 1) sc.nd rfl (by first | exact .inl rfl | exact .inr rfl) (e_bin (or_add rfl) (e_v 1) (e_lstF (a_cons (e_mkx (XI_.of (C.xp_InvalidFraction (P := P) (w := w) (base := base))) pm_pos (hr.mono (by omega)) rfl C.g_InvalidFraction (a_cons (e_v 0) a_nil)) (a_cons (e_mkxK (ks := ["value"]) (XI_.of (C.xk_InvalidText (P := P) (w := w) (base := base))) pm_kw (hr.mono (by omega)) rfl C.g_InvalidText (k_cons (e_v 0) k_nil)) (a_cons (e_mkxK (ks := ["value"]) (XI_.of (C.xk_InvalidFraction (P := P) (w := w) (base := base))) pm_kw (hr.mono (by omega)) rfl C.g_InvalidFraction (k_cons (e_v 0) k_nil)) a_nil))))))
  (s_cons (s_if (t_not (t_tru rfl (e_callB (cr_allL rfl rfl) rfl C.f_all (by decide +kernel) (a_cons (e_lcF (patOk_one (i := 2)) rfl rfl sc.nd (w_seq rfl (e_v 1)) (blkOk_by (own := [("_law_e", 2)]) (N := N__law_texts_right) (sc := defScope (top 42)) (by decide +kernel)) (fun _ _ _ _ _ => pg_name (i := 2) sc.nd rfl (by first | exact .inl rfl | exact .inr rfl)) (fun _ _ _ _ _ => ts_nil) (fun _ _ _ _ _ => (e_and rfl (e_cmp (or_eq rfl hu) (e_callB (cr_repr rfl hgd hu1) rfl C.f_repr (by decide +kernel) (a_cons (e_fld rfl C.fld_value (e_v 2)) a_nil)) (e_callB (cr_repr rfl hgd hu1) rfl C.f_repr (by decide +kernel) (a_cons (e_v 0) a_nil))) (e_one (e_cmp (or_eq rfl hu) (e_call (dd := []) (dvs := []) (ds := []) (G__law_families.mono (by omega)) hr hgd rfl C.g__law_families F__law_families.kp b__law_families .nil (fun _ _ _ => .nil) takes0 (a_cons (e_v 2) a_nil)) (e_call (dd := []) (dvs := []) (ds := []) (G__law_due.mono (by omega)) hr hgd rfl C.g__law_due F__law_due.kp b__law_due .nil (fun _ _ _ => .nil) takes0 (a_cons e_int a_nil))))))) a_nil)))) (s_one (s_ret e_bl)) s_nil)
  (s_cons (s_set (i := 1) sc.nd rfl (by first | exact .inl rfl | exact .inr rfl) (e_lstF (a_cons (e_mkx (XI_.of (C.xp_InvalidDraws (P := P) (w := w) (base := base))) pm_pos (hr.mono (by omega)) rfl C.g_InvalidDraws (a_cons (e_v 0) a_nil)) (a_cons (e_mkx (XI_.of (C.xp_InvalidEdit (P := P) (w := w) (base := base))) pm_pos (hr.mono (by omega)) rfl C.g_InvalidEdit (a_cons (e_v 0) a_nil)) (a_cons (e_mkxK (ks := ["index"]) (XI_.of (C.xk_InvalidDraws (P := P) (w := w) (base := base))) pm_kw (hr.mono (by omega)) rfl C.g_InvalidDraws (k_cons (e_v 0) k_nil)) a_nil)))))
  (s_one (s_ret (e_callB (cr_allL rfl rfl) rfl C.f_all (by decide +kernel) (a_cons (e_lcF (patOk_one (i := 2)) rfl rfl sc.nd (w_seq rfl (e_v 1)) (blkOk_by (own := [("_law_e", 2)]) (N := N__law_texts_right) (sc := defScope (top 42)) (by decide +kernel)) (fun _ _ _ _ _ => pg_name (i := 2) sc.nd rfl (by first | exact .inl rfl | exact .inr rfl)) (fun _ _ _ _ _ => ts_nil) (fun _ _ _ _ _ => (e_and rfl (e_cmp (or_eq rfl hu) (e_callB (cr_repr rfl hgd hu1) rfl C.f_repr (by decide +kernel) (a_cons (e_fld rfl C.fld_index (e_v 2)) a_nil)) (e_callB (cr_repr rfl hgd hu1) rfl C.f_repr (by decide +kernel) (a_cons (e_v 0) a_nil))) (e_one (e_cmp (or_eq rfl hu) (e_call (dd := []) (dvs := []) (ds := []) (G__law_families.mono (by omega)) hr hgd rfl C.g__law_families F__law_families.kp b__law_families .nil (fun _ _ _ => .nil) takes0 (a_cons (e_v 2) a_nil)) (e_call (dd := []) (dvs := []) (ds := []) (G__law_due.mono (by omega)) hr hgd rfl C.g__law_due F__law_due.kp b__law_due .nil (fun _ _ _ => .nil) takes0 (a_cons e_int a_nil))))))) a_nil)))))))))
abbrev N__law_well : List Str := ["_law_script", "_law_spot", "_law_mixed", "_law_number", "_law_own", "_law_digits"]
theorem sc__law_well : FnScope N__law_well ["_law_script", "_law_spot"] (defScope (top 37)) := ⟨rfl, rfl, rfl, by decide +kernel, rfl, by decide +kernel, by decide +kernel⟩
theorem ok__law_well (C : Cn K mg) {fd : FuncData} (Fd : FunD K "_law_well" "_law_well" (defArgs (top 37)) (defBody (top 37)) (defScope (top 37)) [] [] (He.ga K "_law_well") fd) : FnG P w K mg base 1 (He.ga K "_law_well") fd ["_law_script", "_law_spot"] (SPx K (He.ga K) k01__law_well) := by
  have sc := sc__law_well
  refine fn_ok (k := 0) (N := N__law_well) (b := B_k01__law_well) Fd sc fun cdv A outer s H E hr hgd => ?_
  have hu := hr.units
  have hu1 : (A.deeper (envOfC "_law_well" (defScope (top 37)) s.heap.objs.size (He.ga K "_law_well") cdv)).units + (64 + 1) < cLine := by have := hr.un; omega
  unfold B_k01__law_well
  exact (s_cons (s_set (i := 2) sc.nd rfl (by first | exact .inl rfl | exact .inr rfl) (e_bin (or_add rfl) e_int (e_v 1)))
  (s_cons (s_for (passes_of rfl) rfl (w_seq rfl (e_sl rfl (e_v 0) o_none (o_some e_int))) (g_name (i := 3) sc.nd rfl (by first | exact .inl rfl | exact .inr rfl)) (s_one (s_set (i := 2) sc.nd rfl (by first | exact .inl rfl | exact .inr rfl) (e_bin or_mod (e_callTy cr_int rfl C.f_int (by decide +kernel) (a_cons (e_bin (or_add rfl) (e_bin (or_add rfl) (e_bin (or_mul rfl) (e_v 2) e_int) (e_bin (or_mul rfl) (e_v 3) e_int)) e_int) a_nil)) e_int))))
  (s_cons (s_set (i := 4) sc.nd rfl (by first | exact .inl rfl | exact .inr rfl) (e_if (t_cmp or_lt (e_v 1) (e_callB (cr_len rfl) rfl C.f_len (by decide +kernel) (a_cons (e_v 0) a_nil))) (e_ix rfl (e_v 0) (e_v 1)) (e_bin (or_add rfl) (e_bin (or_mul rfl) (e_v 2) e_int) (e_v 1))))
  (s_cons (s_set (i := 5) sc.nd rfl (by first | exact .inl rfl | exact .inr rfl) (e_if (t_ws (w_or (t_cmp or_lt (e_v 4) e_int) (w_or1 (t_cmp or_ge (e_v 4) (e_bin or_pow e_int e_int))))) (e_callB cr_abs rfl C.f_abs (by decide +kernel) (a_cons (e_v 4) a_nil)) e_int))
  (s_one (s_ret (e_lst (a_cons (e_v 5) (a_cons (e_bin or_mod (e_callTy cr_int rfl C.f_int (by decide +kernel) (a_cons (e_bin (or_add rfl) (e_bin (or_add rfl) (e_bin (or_mul rfl) (e_v 4) e_int) (e_bin (or_mul rfl) (e_v 2) e_int)) e_int) a_nil)) e_int) (a_cons e_int a_nil))))))))))
abbrev N_law : List Str := ["_law_script", "_law_told", "_law_spot", "_law_well_here", "_law_number", "_law_things", "_law_thing"]
theorem sc_law : FnScope N_law ["_law_script"] (defScope (top 44)) := ⟨rfl, rfl, rfl, by decide +kernel, rfl, by decide +kernel, by decide +kernel⟩
theorem ok_law (C : Cn K mg) {fd : FuncData} (Fd : FunD K "law" "law" (defArgs (top 44)) (defBody (top 44)) (defScope (top 44)) [] [] (He.ga K "law") fd) : FnG P w K mg base 4 (He.ga K "law") fd ["_law_script"] (SPx K (He.ga K) k01_law) := by
  have sc := sc_law
  obtain ⟨fd__law_any, F__law_any⟩ := C.c.says.def_ 1 rfl
  have G__law_any := ok__law_any (P := P) (w := w) (base := base) C F__law_any
  have b__law_any : Binds K fd__law_any ["_law_well_here", "_law_things"] [] := F__law_any.bindsN fun _ _ _ _ _ _ us hl => match us, hl with | [_, _], _ => rfl
  obtain ⟨fd__law_dip, F__law_dip⟩ := C.c.says.def_ 0 rfl
  have G__law_dip := ok__law_dip (P := P) (w := w) (base := base) C F__law_dip
  have b__law_dip : Binds K fd__law_dip ["_law_well_here", "_law_many"] [] := F__law_dip.bindsN fun _ _ _ _ _ _ us hl => match us, hl with | [_, _], _ => rfl
  obtain ⟨fd__law_others_right, F__law_others_right⟩ := C.c.says.def_ 4 rfl
  have G__law_others_right := ok__law_others_right (P := P) (w := w) (base := base) C F__law_others_right
  have b__law_others_right : Binds K fd__law_others_right ["_law_thing", "_law_other"] [] := F__law_others_right.bindsN fun _ _ _ _ _ _ us hl => match us, hl with | [_, _], _ => rfl
  obtain ⟨fd__law_texts_right, F__law_texts_right⟩ := C.c.says.def_ 5 rfl
  have G__law_texts_right := ok__law_texts_right (P := P) (w := w) (base := base) C F__law_texts_right
  have b__law_texts_right : Binds K fd__law_texts_right ["_law_thing"] [] := F__law_texts_right.bindsN fun _ _ _ _ _ _ us hl => match us, hl with | [_], _ => rfl
  obtain ⟨fd__law_well, F__law_well⟩ := C.c.says.def_ 6 rfl
  have G__law_well := ok__law_well (P := P) (w := w) (base := base) C F__law_well
  have b__law_well : Binds K fd__law_well ["_law_script", "_law_spot"] [] := F__law_well.bindsN fun _ _ _ _ _ _ us hl => match us, hl with | [_, _], _ => rfl
  refine fn_ok (k := 3) (N := N_law) (b := B_k01_law) Fd sc fun cdv A outer s H E hr hgd => ?_
  have hu := hr.units
  have hu1 : (A.deeper (envOfC "law" (defScope (top 44)) s.heap.objs.size (He.ga K "law") cdv)).units + (64 + 1) < cLine := by have := hr.un; omega
  unfold B_k01_law
  exact (s_cons (s_set (i := 1) sc.nd rfl (by first | exact .inl rfl | exact .inr rfl) (e_lstF (a_cons (e_gint rfl C.n_MOST_PLACES) (a_cons (e_gint rfl C.n_MOST_STATEMENTS) (a_cons (e_gint rfl C.n_MOST_DRAWS) (a_cons (e_gint rfl C.n_MOST_NESTED) (a_cons (e_gint rfl C.n_MOST_ON_A_WAY) (a_cons (e_gint rfl C.n_MOST_LENGTH) (a_cons (e_gint rfl C.n_SETTLED) a_nil)))))))))
  (s_cons (s_if (t_cmp (or_ne rfl hu) (e_v 1) (e_lstF (a_cons e_int (a_cons e_int (a_cons e_int (a_cons e_int (a_cons e_int (a_cons e_int (a_cons e_int a_nil))))))))) (s_one (s_ret e_bl)) s_nil)
  (s_cons (s_for (passes_of rfl) rfl (w_rng1 rfl C.f_range (a_cons (e_callB (cr_max rfl) rfl C.f_max (by decide +kernel) (a_cons e_int (a_cons (e_callB (cr_min rfl) rfl C.f_min (by decide +kernel) (a_cons (e_callB (cr_len rfl) rfl C.f_len (by decide +kernel) (a_cons (e_v 0) a_nil)) (a_cons e_int a_nil))) a_nil))) a_nil)) (g_name (i := 2) sc.nd rfl (by first | exact .inl rfl | exact .inr rfl)) (s_cons (s_set (i := 3) sc.nd rfl (by first | exact .inl rfl | exact .inr rfl) (e_call (dd := []) (dvs := []) (ds := []) (G__law_well.mono (by omega)) hr hgd rfl C.g__law_well F__law_well.kp b__law_well .nil (fun _ _ _ => .nil) (takes_of rfl rfl rfl rfl) (a_cons (e_v 0) (a_cons (e_v 2) a_nil))))
  (s_cons (s_set (i := 4) sc.nd rfl (by first | exact .inl rfl | exact .inr rfl) (e_bin (or_mul rfl) (e_call (dd := []) (dvs := []) (ds := []) (G__law_dip.mono (by omega)) hr hgd rfl C.g__law_dip F__law_dip.kp b__law_dip .nil (fun _ _ _ => .nil) (takes_of rfl rfl rfl rfl) (a_cons (e_v 3) (a_cons (e_bin or_pow e_int e_int) a_nil))) (e_call (dd := []) (dvs := []) (ds := []) (G__law_any.mono (by omega)) hr hgd rfl C.g__law_any F__law_any.kp b__law_any .nil (fun _ _ _ => .nil) (takes_of rfl rfl rfl rfl) (a_cons (e_v 3) (a_cons (e_lstF (a_cons e_int (a_cons (e_un ur_neg e_int) a_nil))) a_nil)))))
  (s_cons (s_set (i := 5) sc.nd rfl (by first | exact .inl rfl | exact .inr rfl) (e_lstF (a_cons (e_v 4) (a_cons (e_bin (or_add rfl) e_str (e_callTy cr_str rfl C.f_str (by decide +kernel) (a_cons (e_call (dd := []) (dvs := []) (ds := []) (G__law_dip.mono (by omega)) hr hgd rfl C.g__law_dip F__law_dip.kp b__law_dip .nil (fun _ _ _ => .nil) (takes_of rfl rfl rfl rfl) (a_cons (e_v 3) (a_cons e_int a_nil))) a_nil))) (a_cons e_non (a_cons e_bl (a_cons e_bl (a_cons (e_tup (a_cons (e_v 4) (a_cons e_str a_nil))) (a_cons (e_lstF (a_cons e_int a_nil)) (a_cons e_dct0 (a_cons e_int (a_cons e_int a_nil))))))))))))
  (s_one (s_for (passes_of rfl) rfl (w_seq rfl (e_v 5)) (g_name (i := 6) sc.nd rfl (by first | exact .inl rfl | exact .inr rfl)) (s_one (s_if (t_ws (w_or (t_not (t_tru rfl (e_call (dd := []) (dvs := []) (ds := []) (G__law_texts_right.mono (by omega)) hr hgd rfl C.g__law_texts_right F__law_texts_right.kp b__law_texts_right .nil (fun _ _ _ => .nil) (takes_of rfl rfl rfl rfl) (a_cons (e_v 6) a_nil)))) (w_or1 (t_not (t_tru rfl (e_call (dd := []) (dvs := []) (ds := []) (G__law_others_right.mono (by omega)) hr hgd rfl C.g__law_others_right F__law_others_right.kp b__law_others_right .nil (fun _ _ _ => .nil) (takes_of rfl rfl rfl rfl) (a_cons (e_v 6) (a_cons (e_call (dd := []) (dvs := []) (ds := []) (G__law_any.mono (by omega)) hr hgd rfl C.g__law_any F__law_any.kp b__law_any .nil (fun _ _ _ => .nil) (takes_of rfl rfl rfl rfl) (a_cons (e_v 3) (a_cons (e_v 5) a_nil))) a_nil)))))))) (s_one (s_ret e_bl)) s_nil))))))))
  (s_one (s_ret e_bl)))))
end
end M
/-! the head, the end -/
namespace M
open PySem PySem.W PySem.Calls PyProof.Rows
abbrev R_ : OpenRow := OpenLaw.row PySem.Challenge.rw_evenkeeps_k01_errors_and_limits
abbrev qv_ : Program := view R_.prog [44]
def names_ : List PySem.Str := (["TextError", "ProgramError", "KeepError", "InvalidText", "NotARatio", "NotASampler", "NotAJoin", "NotAPlayer", "InvalidLength", "InvalidItem", "InvalidPlace", "InvalidCount", "InvalidFraction", "InvalidDraws", "InvalidEdit", "UnknownPlace", "NotDrawn", "DrawnTwice", "BelowOne", "Unsettled", "TooMuch", "UnlikePlaces", "NothingBack", "Held", "ZeroBelow", "Gap", "Missing", "Refused", "MOST_PLACES", "MOST_STATEMENTS"] : List PySem.Str) ++ (["MOST_DRAWS", "MOST_NESTED", "MOST_ON_A_WAY", "MOST_LENGTH", "SETTLED", "_law_well", "_law_dip", "_law_any", "_law_families", "_law_due", "_law_texts_right", "_law_others_right"] : List PySem.Str)
abbrev hk_ : PySem.W.Hook := hookM 4 bB_ fa_ fn_
def ob_ (s : PySem.W.SharedT) : AlM := obsMG 4 bB_ fa_ fn_ (HandSHeadRun.getT s)
theorem ob_eq_ (s : PySem.W.SharedT) : ob_ s = hk_.obs s.abs := obsMG_eq (HandSHeadRun.getT_eq s)
theorem run_ (w : World) : HandSHeadRun.RunEq R_ qv_ hk_ ob_ 9000 names_ w := by
  intro os
  kernel_rfl
theorem facts_ {P : Program} {w : World} {K : PySem.W.Frag} {h : Heap} {mg : Str → Option Value} {f : Addr} (X : K.In h) (G : h.Ns mainGlobals mg) (hfa : mg ("law" : Str) = some (.ref f)) (c : SaysM bB_ fa_ fn_ K) :
    ∃ fd : FuncData, (∀ (s : Shared) (v : Value), BindsTo s fd ⟨[v], []⟩ [("_law_script", v)]) ∧ ∀ base : Heap, FnG P w K mg base 4 f fd ["_law_script"] (SPx K (He.ga K) k01_law) := by
  have C : Cn K mg := ⟨c, h, X, G⟩
  obtain ⟨fd, F⟩ := c.says.def_ 7 rfl
  have e := hfa.symm.trans C.g_law
  cases e
  have b := L2.FunD.bindsA (ps := ["_law_script"]) F fun _ _ _ _ _ _ us hl => match us, hl with | [_], _ => rfl
  exact ⟨fd, fun s v => b s [v] rfl, fun base => ok_law C F⟩
end M
open PySem PySem.W PySem.Calls PyProof.Rows
theorem PySem.Challenge.cw_evenkeeps_k01_errors_and_limits_holds : PySem.Challenge.rw_evenkeeps_k01_errors_and_limits.Holds := by
  w_on; o_law
  refine HandSHeadRun.head_any (r := M.R_) (q := M.qv_) (H := M.hk_) (ob := M.ob_) (M := 9000) (loose := M.names_) (d := HandSHeadRun.topDef M.R_.prog 44) (kwd := []) M.ob_eq_
    (by kernel_rfl) (fun s => by kernel_rfl) M.run_ (by kernel_rfl) (by kernel_rfl) (by kernel_rfl) (by rfl) (by first | assumption | decide +kernel) (by decide +kernel) ⟨rfl, rfl, rfl, rfl, rfl, by decide +kernel⟩ ?hw ?hc
  case hw => w_witness2
  case hc =>
    refine M.walk_ofM (l := PySem.Challenge.rw_evenkeeps_k01_errors_and_limits) (n := 63) (k := 4) (x := "_law_script") (f := M.k01_law) rfl (by decide) (by kernel_rfl) ⟨rfl, by decide, by decide⟩ ?F M.law_k01
    intro w mg fa h Y G hmg0
    obtain ⟨K, KX, c⟩ := Y
    have hmg : mg ("law" : PySem.Str) = some (.ref fa) := by
      have e : (HandSHeadRun.topDef M.R_.prog 44).name = ("law" : PySem.Str) := by kernel_rfl
      rw [← e]
      exact hmg0
    obtain ⟨fd, hb, hF⟩ := M.facts_ (P := M.R_.prog) (w := w) KX G hmg c
    exact ⟨K, fd, KX, hb, hF⟩
