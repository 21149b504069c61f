import PyProof.Rows.All
import Wide.All
import OpenK.AllK
import Wide.FinOn
import HandS.ForMost
import HandS.Exc
import HandS.ExcOwn
import HandS.WordsExc
import HandS.CallSlots
import HandS.Defaults
import HandS.Wide
import HandS.TupAny
import HandS.TupMul
import HandS.IsInst
import HandS.Flow
import HandS.ExcInit
import HandS.ExcIs
import KE.KExcInit
import HandS.Small
import HandS.ExcValue
import HandS.ExcField
import PyProof.ReprRoads
import KE.KExcIs
import HandS.Head0
import HandS.Head1
import HandS.Head2
import HandS.HeadEnd
import HandS.HeadHook1
import HandS.HeadHook2
import HandS.MakeKw
import HandS.MakeKwOnly
import HandS.Property
import KE.KOpsOwn
import KE.KCallOwn
import KE.KFmtOwn
import PyProof.InstNe
import HandS.FStr
import HandS.StrMore
import HandS.RaiseMore
import OpenK.KOps
import HandS.Star
import KE.DataMinMax
import HandS.Flt
import PyProof.Rows.StrMeet
import PyProof.Rows.SortStr
import PyProof.Rows.SetFrom
import PyProof.SetKind
import HandS.Set
import HandS.Strs
import HandS.SetBool
import PyProof.Draws
import HandS.Iter
import HandS.Style
import HandS.HotCalls
import KE.KTryMore
import KE.Datum
import KE.DatumIndex
import HandS.ExcInitHot
import PyProof.MaxThree
import PySem.Challenge.RW_evenkeeps_k13_forms_in_texts
import PyProof.StrLawsTight
import PyProof.StrLawsChain
import PyProof.StrLawsFirst
import PyProof.StrLawsRepr
set_option Elab.async false
set_option linter.all false
set_option maxRecDepth 100000
set_option maxHeartbeats 0
/-! M1: data, the view, what stands for what; results; the readings TI, TS. -/
namespace M
open PySem PySem.Spec PyProof.Rows L2

/-- a datum: texts, ints, tuples; a list or an instance that nobody changes any more; an exception; n: a mutable thing of the store -/
inductive D where
  | non | bl (b : Bool) | int (i : Int) | str (x : Str) | ty (n : String) | glo (x : Str)
  | tup (xs : List D) | lst (xs : List D) | dct (ks : List Key) (xs : List D) | obj (C : Str) (fs : List (Str × D)) | exc (C : Str) (fs : List (Str × D)) | ref (n : Nat)
  deriving Inhabited
/-- a mutable thing -/
inductive O where
  | lst (xs : List D) | dct (kvs : List (Key × D)) | ins (C : Str) (fs : List (Str × D))
  deriving Inhabited
abbrev Sto := List O
abbrev Env := List (Option D)

/-- an exception's object -/
def exq (a C : Addr) (d : Option Addr) : HO := .ext fun h => ∃ (o : Obj) (vs : Array Value), h.get? a = some o ∧ o.cls = .ref C ∧ o.dict = d ∧ o.data = .fields vs

/-- the view: K the written part, g where names stand, ρ where the store's things stand, Z what is out of reach, H the heap -/
structure Vw where
  K : PySem.W.Frag
  g : Str → Addr
  Z : Addr → Prop
  ρ : List Addr
  H : Hp
abbrev Vw.to (W : Vw) (ρ : List Addr) (H : Hp) : Vw := { W with ρ := ρ, H := H }
/-- what nobody changes -/
def Vw.fro (W : Vw) (a : Addr) : Prop := a ∉ W.ρ ∧ ¬ W.Z a
def WrT (K : PySem.W.Frag) (a : Addr) (ys : List V) : Prop := ∃ (o : Obj) (its : Array Value) (n : Nat), K.lookup a = some o ∧ o.cls = .type "tuple" ∧ o.data = .seq its n ∧ its.size ≤ sizeLine ∧ Vals ys its.toList
def WrL (K : PySem.W.Frag) (a : Addr) (ys : List V) : Prop := ∃ (its : Array Value) (n : Nat), K.lookup a = some ({ cls := .type "list", data := .seq its n } : Obj) ∧ its.size ≤ sizeLine ∧ Vals ys its.toList
def Vw.Tup (W : Vw) (a : Addr) (ys : List V) : Prop := (W.H a = some (.tup ys) ∧ W.fro a) ∨ WrT W.K a ys
def Vw.Lst (W : Vw) (a : Addr) (ys : List V) : Prop := (Rd W.H a (.lst ys) ∧ W.fro a) ∨ WrL W.K a ys
theorem Vw.Tup.sq {W : Vw} {a : Addr} {ys : List V} (h : W.Tup a ys) : SqT W.K W.H a ys := by
  rcases h with ⟨h, _⟩ | h
  · exact .inl (.inl h)
  · exact .inr h
theorem Vw.Lst.sq {W : Vw} {a : Addr} {ys : List V} (h : W.Lst a ys) : SqL W.K W.H a ys := by
  rcases h with ⟨h, _⟩ | ⟨its, n, h1, h2⟩
  · exact .inl h
  · exact .inr ⟨_, its, n, h1, rfl, rfl, rfl, h2⟩

mutual
/-- the datum d stands for the value v -/
inductive RV (W : Vw) : D → V → Prop
  | non : RV W .non .non
  | bl (b : Bool) : RV W (.bl b) (.bl b)
  | int (i : Int) : RV W (.int i) (.int i)
  | str (x : Str) : RV W (.str x) (.str x)
  | ty (n : String) : RV W (.ty n) (.ty n)
  | glo (x : Str) : RV W (.glo x) (.ref (W.g x))
  | tup {a : Addr} {xs : List D} {ys : List V} : W.Tup a ys → RVs W xs ys → RV W (.tup xs) (.ref a)
  | lst {a : Addr} {xs : List D} {ys : List V} : W.Lst a ys → RVs W xs ys → RV W (.lst xs) (.ref a)
  | dct {a : Addr} {ks : List Key} {xs : List D} {ys : List (Key × V)} : W.H a = some (.dK ys) → W.fro a → ys.map (·.1) = ks → RVs W xs (ys.map (·.2)) → RV W (.dct ks xs) (.ref a)
  | obj {a dx : Addr} {C : Str} {fs : List (Str × D)} {gs : List (Str × V)} : W.H a = some (.ins (W.g C) dx gs) → W.fro a → RFs W fs gs → RV W (.obj C fs) (.ref a)
  | exc {a : Addr} {d : Option Addr} {C : Str} {fs : List (Str × D)} {gs : List (Str × V)} : W.H a = some (exq a (W.g C) d) → W.fro a → (d = none → gs = []) → (∀ dx, d = some dx → W.H dx = some (.xd gs) ∧ W.fro dx) → RFs W fs gs → RV W (.exc C fs) (.ref a)
  | ref {n : Nat} {a : Addr} : W.ρ[n]? = some a → RV W (.ref n) (.ref a)
inductive RVs (W : Vw) : List D → List V → Prop
  | nil : RVs W [] []
  | cons {d : D} {v : V} {ds : List D} {vs : List V} : RV W d v → RVs W ds vs → RVs W (d :: ds) (v :: vs)
inductive RFs (W : Vw) : List (Str × D) → List (Str × V) → Prop
  | nil : RFs W [] []
  | cons {f : Str} {d : D} {v : V} {ds : List (Str × D)} {vs : List (Str × V)} : RV W d v → RFs W ds vs → RFs W ((f, d) :: ds) ((f, v) :: vs)
end

/-- later: more things in the store, what is not in it stands -/
structure Ext (W : Vw) (ρ' : List Addr) (H' : Hp) : Prop where
  pre : W.ρ <+: ρ'
  new : ∀ a ∈ ρ', a ∈ W.ρ ∨ W.H a = none
  keep : ∀ a o, W.H a = some o → a ∉ W.ρ → H' a = some o

section
variable {W : Vw} {ρ' ρ'' : List Addr} {H' H'' : Hp}
theorem Ext.refl : Ext W W.ρ W.H := ⟨List.prefix_refl _, fun _ h => .inl h, fun _ _ h _ => h⟩
theorem Ext.notin (x : Ext W ρ' H') {a : Addr} {o : HO} (h : W.H a = some o) (n : a ∉ W.ρ) : a ∉ ρ' := fun m => by
  rcases x.new a m with q | q
  · exact n q
  · rw [h] at q; cases q
theorem Ext.trans (x : Ext W ρ' H') (y : Ext (W.to ρ' H') ρ'' H'') : Ext W ρ'' H'' where
  pre := x.pre.trans y.pre
  new := fun a m => by
    rcases y.new a m with q | q
    · exact x.new a q
    · by_cases m2 : a ∈ W.ρ
      · exact .inl m2
      · refine .inr ?_
        cases e : W.H a with
        | none => rfl
        | some o =>
          have z := x.keep a o e m2
          rw [show H' a = none from q] at z
          cases z
  keep := fun a o h n => y.keep a o (x.keep a o h n) (x.notin h n)
theorem fro_mono (x : Ext W ρ' H') {a : Addr} {o : HO} (h : W.H a = some o) (f : W.fro a) : (W.to ρ' H').fro a := ⟨x.notin h f.1, f.2⟩
theorem Vw.Tup.mono (x : Ext W ρ' H') {a : Addr} {ys : List V} (h : W.Tup a ys) : (W.to ρ' H').Tup a ys := by
  rcases h with ⟨h, f⟩ | h
  · exact .inl ⟨x.keep _ _ h f.1, fro_mono x h f⟩
  · exact .inr h
theorem Vw.Lst.mono (x : Ext W ρ' H') {a : Addr} {ys : List V} (h : W.Lst a ys) : (W.to ρ' H').Lst a ys := by
  rcases h with ⟨h | ⟨o, h⟩, f⟩ | h
  · exact .inl ⟨.inl (x.keep _ _ h f.1), fro_mono x h f⟩
  · exact .inl ⟨.inr ⟨o, x.keep _ _ h f.1⟩, fro_mono x h f⟩
  · exact .inr h
theorem pre_get {α : Type} {l l' : List α} (h : l <+: l') {n : Nat} {a : α} (e : l[n]? = some a) : l'[n]? = some a := by
  obtain ⟨t, rfl⟩ := h
  rw [List.getElem?_append_left (List.getElem?_eq_some_iff.mp e).1]
  exact e
mutual
theorem RV.mono (x : Ext W ρ' H') : ∀ {d : D} {v : V}, RV W d v → RV (W.to ρ' H') d v
  | _, _, .non => .non
  | _, _, .bl b => .bl b
  | _, _, .int i => .int i
  | _, _, .str s => .str s
  | _, _, .ty n => .ty n
  | _, _, .glo s => .glo (W := W.to ρ' H') s
  | _, _, .tup h r => .tup (h.mono x) (r.mono x)
  | _, _, .lst h r => .lst (h.mono x) (r.mono x)
  | _, _, .dct h f e r => .dct (x.keep _ _ h f.1) (fro_mono x h f) e (r.mono x)
  | _, _, .obj h f r => .obj (x.keep _ _ h f.1) (fro_mono x h f) (r.mono x)
  | _, _, .exc h f a b r => .exc (x.keep _ _ h f.1) (fro_mono x h f) a (fun dx e => ⟨x.keep _ _ (b dx e).1 (b dx e).2.1, fro_mono x (b dx e).1 (b dx e).2⟩) (r.mono x)
  | _, _, .ref h => .ref (pre_get x.pre h)
theorem RVs.mono (x : Ext W ρ' H') : ∀ {d : List D} {v : List V}, RVs W d v → RVs (W.to ρ' H') d v
  | _, _, .nil => .nil
  | _, _, .cons h r => .cons (h.mono x) (r.mono x)
theorem RFs.mono (x : Ext W ρ' H') : ∀ {d : List (Str × D)} {v : List (Str × V)}, RFs W d v → RFs (W.to ρ' H') d v
  | _, _, .nil => .nil
  | _, _, .cons h r => .cons (h.mono x) (r.mono x)
end
end

/-- the thing o of the store stands at a -/
def OR (W : Vw) (a : Addr) : O → Prop
  | .lst xs => ∃ ys, W.H a = some (.lst ys) ∧ RVs W xs ys
  | .dct kvs => ∃ ys : List (Key × V), W.H a = some (.dK ys) ∧ kvs.map (·.1) = ys.map (·.1) ∧ RVs W (kvs.map (·.2)) (ys.map (·.2))
  | .ins C fs => ∃ dx gs, W.H a = some (.ins (W.g C) dx gs) ∧ RFs W fs gs
structure Sim (W : Vw) (st : Sto) : Prop where
  len : W.ρ.length = st.length
  nd : W.ρ.Nodup
  nz : ∀ a ∈ W.ρ, ¬ W.Z a
  zt : ∀ a, W.Z a → ∃ o, W.H a = some o
  at_ : ∀ (n : Nat) (o : O) (a : Addr), st[n]? = some o → W.ρ[n]? = some a → OR W a o
structure EnvR (W : Vw) (env : Env) (σ : L2.St) : Prop where
  len : env.length = σ.length
  at_ : ∀ (i : Nat) (d : D), env[i]? = some (some d) → ∃ v, σ[i]? = some (some v) ∧ RV W d v
theorem EnvR.mono {W : Vw} {ρ' : List Addr} {H' : Hp} (x : Ext W ρ' H') {env : Env} {σ : L2.St} (h : EnvR W env σ) : EnvR (W.to ρ' H') env σ :=
  ⟨h.len, fun i d e => by obtain ⟨v, e1, r⟩ := h.at_ i d e; exact ⟨v, e1, r.mono x⟩⟩
theorem OR.some {W : Vw} {a : Addr} {o : O} (h : OR W a o) : ∃ u, W.H a = some u := by
  cases o with
  | lst xs => obtain ⟨_, e, _⟩ := h; exact ⟨_, e⟩
  | dct xs => obtain ⟨_, e, _⟩ := h; exact ⟨_, e⟩
  | ins C xs => obtain ⟨_, _, e, _⟩ := h; exact ⟨_, e⟩
theorem Sim.tr {W : Vw} {st : Sto} (S : Sim W st) {a : Addr} (h : a ∈ W.ρ) : ∃ u, W.H a = some u := by
  obtain ⟨n, hn⟩ := List.mem_iff_getElem?.mp h
  have hl : n < st.length := by rw [← S.len]; exact (List.getElem?_eq_some_iff.mp hn).1
  exact (S.at_ n _ a (List.getElem?_eq_getElem hl) hn).some

/-! ### results -/
inductive R (α : Type) where
  | ok (a : α) (st : Sto)
  | exc (C : Str) (fs : List (Str × D)) (st : Sto)
  | bad
  deriving Inhabited
def R.bind {α β : Type} (r : R α) (k : α → Sto → R β) : R β := match r with
  | .ok a st => k a st
  | .exc C fs st => .exc C fs st
  | .bad => .bad
theorem R.bind_ok {α β : Type} {a : α} {st : Sto} {k : α → Sto → R β} : (R.ok a st).bind k = k a st := rfl
theorem R.bind_exc {α β : Type} {C : Str} {fs : List (Str × D)} {st : Sto} {k : α → Sto → R β} : (R.exc C fs st).bind k = .exc C fs st := rfl
theorem R.bind_bad {α β : Type} {k : α → Sto → R β} : R.bind R.bad k = .bad := rfl
inductive RS where
  | nx (env : Env) (st : Sto)
  | ret (d : D) (st : Sto)
  | bk (env : Env) (st : Sto)
  | ct (env : Env) (st : Sto)
  | exc (C : Str) (fs : List (Str × D)) (env : Env) (st : Sto)
  | bad
  deriving Inhabited
abbrev IE := Env → Sto → R D
abbrev IA := Env → Sto → R (List D)
abbrev IT := Env → Sto → R Bool
abbrev IS := Env → Sto → RS

/-- what flies: its fields -/
def XR (W : Vw) (fs : List (Str × D)) (d : Option Addr) : Prop := ∃ gs, RFs W fs gs ∧ (d = none → gs = []) ∧ ∀ dx, d = some dx → W.H dx = some (.xd gs) ∧ W.fro dx
/-- what a result asks of what follows; P: how a result stands for a value -/
def Post {α β : Type} (W : Vw) (P : Vw → α → β → Prop) (r : R α) (Q : β → Hp → Prop) (E : XK) : Prop := match r with
  | .ok a st => ∀ ρ' H' b, Ext W ρ' H' → Sim (W.to ρ' H') st → P (W.to ρ' H') a b → Q b H'
  | .exc C fs st => ∀ ρ' H' d, Ext W ρ' H' → Sim (W.to ρ' H') st → XR (W.to ρ' H') fs d → E (.ref (W.g C)) d H'
  | .bad => False
def PostS (W : Vw) (r : RS) (N : Ends) (E : WX) : Prop := match r with
  | .nx env st => ∀ ρ' H' σ', Ext W ρ' H' → Sim (W.to ρ' H') st → EnvR (W.to ρ' H') env σ' → N.nx σ' H'
  | .ret d st => ∀ ρ' H' v, Ext W ρ' H' → Sim (W.to ρ' H') st → RV (W.to ρ' H') d v → N.rt v H'
  | .bk env st => ∀ ρ' H' σ', Ext W ρ' H' → Sim (W.to ρ' H') st → EnvR (W.to ρ' H') env σ' → N.bk σ' H'
  | .ct env st => ∀ ρ' H' σ', Ext W ρ' H' → Sim (W.to ρ' H') st → EnvR (W.to ρ' H') env σ' → N.ct σ' H'
  | .exc C fs env st => ∀ ρ' H' σ' d, Ext W ρ' H' → Sim (W.to ρ' H') st → EnvR (W.to ρ' H') env σ' → XR (W.to ρ' H') fs d → E (.ref (W.g C)) d σ' H'
  | .bad => False
theorem Post.ext {α β : Type} {W : Vw} {ρ' : List Addr} {H' : Hp} {P : Vw → α → β → Prop} {r : R α} {Q : β → Hp → Prop} {E : XK} (x : Ext W ρ' H') (h : Post W P r Q E) : Post (W.to ρ' H') P r Q E := by
  cases r with
  | ok a st => exact fun ρ2 H2 b y => h ρ2 H2 b (x.trans y)
  | exc C fs st => exact fun ρ2 H2 d y => h ρ2 H2 d (x.trans y)
  | bad => exact h
theorem PostS.ext {W : Vw} {ρ' : List Addr} {H' : Hp} {r : RS} {N : Ends} {E : WX} (x : Ext W ρ' H') (h : PostS W r N E) : PostS (W.to ρ' H') r N E := by
  cases r with
  | nx a st => exact fun ρ2 H2 b y => h ρ2 H2 b (x.trans y)
  | ret a st => exact fun ρ2 H2 b y => h ρ2 H2 b (x.trans y)
  | bk a st => exact fun ρ2 H2 b y => h ρ2 H2 b (x.trans y)
  | ct a st => exact fun ρ2 H2 b y => h ρ2 H2 b (x.trans y)
  | exc C fs e st => exact fun ρ2 H2 s d y => h ρ2 H2 s d (x.trans y)
  | bad => exact h
def PB (_ : Vw) (a b : Bool) : Prop := a = b
abbrev PostE (W : Vw) (r : R D) (Q : VK) (E : XK) : Prop := Post W RV r Q E
abbrev PostA (W : Vw) (r : R (List D)) (Q : List V → Hp → Prop) (E : XK) : Prop := Post W RVs r Q E
abbrev PostT (W : Vw) (r : R Bool) (Q : Bool → Hp → Prop) (E : XK) : Prop := Post W PB r Q E

/-- the frame of a body's walk: the written part, the names, the wish -/
structure Fx where
  K : PySem.W.Frag
  g : Str → Addr
  E : WX
/-- a state of the embedding stands for σ, H -/
structure At (F : Fx) (W : Vw) (st : Sto) (env : Env) (σ : L2.St) (H : Hp) : Prop where
  k : W.K = F.K
  g : W.g = F.g
  h : W.H = H
  sim : Sim W st
  env : EnvR W env σ
abbrev Fx.at_ (F : Fx) (σ : L2.St) : XK := fun c d H => F.E c d σ H
def TX {α β : Type} (P : Vw → α → β → Prop) (F : Fx) (i : Env → Sto → R α) : L2.St → Hp → (β → Hp → Prop) → Prop := fun σ H Q => ∃ W st env, At F W st env σ H ∧ Post W P (i env st) Q (F.at_ σ)
abbrev TI (F : Fx) (i : IE) : TE := TX RV F i
abbrev TA_ (F : Fx) (i : IA) : TA := TX RVs F i
abbrev TT_ (F : Fx) (i : IT) : TT := TX PB F i
def TS_ (F : Fx) (i : IS) : TS := fun N σ H => ∃ W st env, At F W st env σ H ∧ PostS W (i env st) N F.E
theorem At.next {F : Fx} {W : Vw} {st st' : Sto} {env : Env} {σ : L2.St} {H H' : Hp} {ρ' : List Addr} (a : At F W st env σ H) (x : Ext W ρ' H') (s : Sim (W.to ρ' H') st') : At F (W.to ρ' H') st' env σ H' :=
  ⟨a.k, a.g, rfl, s, a.env.mono x⟩

/-- a value in hand, what follows -/
def TK {α β : Type} (P : Vw → α → β → Prop) {γ δ : Type} (P' : Vw → γ → δ → Prop) (F : Fx) (k : α → Env → Sto → R γ) (b : β) : L2.St → Hp → (δ → Hp → Prop) → Prop :=
  fun σ H Q => ∃ W st env a, At F W st env σ H ∧ P W a b ∧ Post W P' (k a env st) Q (F.at_ σ)
theorem TX.bind {α β γ δ : Type} {P : Vw → α → β → Prop} {P' : Vw → γ → δ → Prop} {F : Fx} {i : Env → Sto → R α} {k : α → Env → Sto → R γ} {σ : L2.St} {H : Hp} {Q : δ → Hp → Prop}
    (h : TX P' F (fun env st => (i env st).bind fun a s1 => k a env s1) σ H Q) : TX P F i σ H fun b H' => TK P P' F k b σ H' Q := by
  obtain ⟨W, st, env, A, p⟩ := h
  refine ⟨W, st, env, A, ?_⟩
  have p' : Post W P' ((i env st).bind fun a s1 => k a env s1) Q (F.at_ σ) := p
  cases r : i env st with
  | ok a s1 =>
    rw [r] at p'
    exact fun ρ' H' b x s q => ⟨W.to ρ' H', s1, env, a, A.next x s, q, Post.ext x p'⟩
  | exc C fs s1 => rw [r] at p'; exact p'
  | bad => rw [r] at p'; exact p'
theorem PE.imp {X : Cx} {e : Expr} {t t' : TE} (h : PE X e t) (w : ∀ σ H Q, t' σ H Q → t σ H Q) : PE X e t' := ⟨fun p s σ H Q I q => h.run p s σ H Q I (w σ H Q q)⟩
theorem PT.imp {X : Cx} {e : Expr} {t t' : TT} (h : PT X e t) (w : ∀ σ H Q, t' σ H Q → t σ H Q) : PT X e t' := ⟨fun p s σ H Q I q => h.run p s σ H Q I (w σ H Q q)⟩
theorem PW.imp {X : Cx} {e : Expr} {t t' : TT} (h : PW X e t) (w : ∀ σ H Q, t' σ H Q → t σ H Q) : PW X e t' := ⟨fun wh p s σ H Q I q => h.run wh p s σ H Q I (w σ H Q q)⟩
theorem PA.imp {X : Cx} {e : List Expr} {t t' : TA} (h : PA X e t) (w : ∀ σ H Q, t' σ H Q → t σ H Q) : PA X e t' := ⟨fun o p s σ H Q I q => h.run o p s σ H Q I (w σ H Q q)⟩
theorem PS.imp {X : Cx} {e : Stmt} {t t' : TS} (h : PS X e t) (w : ∀ N σ H, t' N σ H → t N σ H) : PS X e t' := ⟨fun p s σ H N I q => h.run p s σ H N I (w N σ H q)⟩
theorem PSs.imp {X : Cx} {e : List Stmt} {t t' : TS} (h : PSs X e t) (w : ∀ N σ H, t' N σ H → t N σ H) : PSs X e t' := ⟨fun p s σ H N I q => h.run p s σ H N I (w N σ H q)⟩
end M
/-! M2: the store's moves; operators. -/
namespace M
open PySem PySem.Spec PyProof.Rows L2

section
variable {W : Vw} {ρ' : List Addr} {H' : Hp} {st : Sto} {a p : Addr} {u : HO}
theorem OR.mono (x : Ext W ρ' H') (e : H' a = W.H a) : ∀ {o : O}, OR W a o → OR (W.to ρ' H') a o
  | .lst xs, ⟨ys, h, r⟩ => ⟨ys, e.trans h, r.mono x⟩
  | .dct kvs, ⟨ys, h, k, r⟩ => ⟨ys, e.trans h, k, r.mono x⟩
  | .ins C fs, ⟨dx, gs, h, r⟩ => ⟨dx, gs, e.trans h, r.mono x⟩
theorem ext_new (o : List Addr) (ho : ∀ a ∈ o, W.H a = none) (hp : W.H p = none) : Ext W (W.ρ ++ o) (upd W.H p u) where
  pre := List.prefix_append _ _
  new := fun a m => (List.mem_append.mp m).imp id (ho a)
  keep := fun b v h _ => by rw [upd_ne (ne_of_none h hp)]; exact h
theorem ext_new0 (hp : W.H p = none) : Ext W W.ρ (upd W.H p u) where
  pre := List.prefix_refl _
  new := fun a m => .inl m
  keep := fun b v h _ => by rw [upd_ne (ne_of_none h hp)]; exact h
theorem Sim.frozen (S : Sim W st) (x : Ext W W.ρ H') (k : ∀ a ∈ W.ρ, H' a = W.H a) : Sim (W.to W.ρ H') st where
  len := S.len
  nd := S.nd
  nz := S.nz
  zt := fun a h => by
    obtain ⟨o, e⟩ := S.zt a h
    exact ⟨o, x.keep a o e fun m => S.nz a m h⟩
  at_ := fun n o a h1 h2 => (S.at_ n o a h1 h2).mono x (k a (List.mem_of_getElem? h2))
theorem Sim.new0 (S : Sim W st) (hp : W.H p = none) : Sim (W.to W.ρ (upd W.H p u)) st := S.frozen (ext_new0 hp) fun a m => by
  obtain ⟨o, e⟩ := S.tr m
  rw [upd_ne (ne_of_none e hp)]
theorem Sim.new (S : Sim W st) (hp : W.H p = none) {o : O} (h : OR (W.to (W.ρ ++ [p]) (upd W.H p u)) p o) : Sim (W.to (W.ρ ++ [p]) (upd W.H p u)) (st ++ [o]) := by
  have x : Ext W (W.ρ ++ [p]) (upd W.H p u) := ext_new [p] (fun a m => by rw [List.mem_singleton.mp m]; exact hp) hp
  have np : p ∉ W.ρ := fun m => by
    obtain ⟨v, e⟩ := S.tr m
    rw [hp] at e; cases e
  refine ⟨by simp [S.len], ?_, fun a m z => ?_, fun a z => ?_, fun n q a h1 h2 => ?_⟩
  · exact List.nodup_append.mpr ⟨S.nd, by simp, fun a m b n e => by rw [List.mem_singleton.mp n] at e; rw [e] at m; exact np m⟩
  · rcases List.mem_append.mp m with m | m
    · exact S.nz a m z
    · obtain ⟨v, e⟩ := S.zt a z
      rw [List.mem_singleton.mp m, hp] at e; cases e
  · obtain ⟨v, e⟩ := S.zt a z
    exact ⟨v, x.keep a v e fun m => S.nz a m z⟩
  · by_cases hn : n < st.length
    · rw [List.getElem?_append_left hn] at h1
      rw [List.getElem?_append_left (by rw [S.len]; exact hn)] at h2
      have m := List.mem_of_getElem? h2
      obtain ⟨v, e⟩ := S.tr m
      exact (S.at_ n q a h1 h2).mono x (upd_ne (ne_of_none e hp))
    · have hn' : n = st.length := by
        have := (List.getElem?_eq_some_iff.mp h1).1
        simp at this; omega
      subst hn'
      rw [List.getElem?_append_right (by omega)] at h1
      rw [List.getElem?_append_right (by rw [S.len]; omega)] at h2
      simp at h1
      simp [S.len] at h2
      subst h1 h2
      exact h
theorem ref_new (S : Sim W st) : RV (W.to (W.ρ ++ [p]) H') (.ref st.length) (.ref p) := .ref (by
  show (W.ρ ++ [p])[st.length]? = some p
  rw [List.getElem?_append_right (by rw [S.len]; omega), S.len]
  simp)
theorem ext_put (m : a ∈ W.ρ) : Ext W W.ρ (upd W.H a u) where
  pre := List.prefix_refl _
  new := fun a m => .inl m
  keep := fun b v h n => by rw [upd_ne (fun e => by rw [e] at n; exact n m)]; exact h
theorem Sim.put (S : Sim W st) {n : Nat} (hn : W.ρ[n]? = some a) {o : O} (h : OR (W.to W.ρ (upd W.H a u)) a o) : Sim (W.to W.ρ (upd W.H a u)) (st.set n o) := by
  have m := List.mem_of_getElem? hn
  have x : Ext W W.ρ (upd W.H a u) := ext_put m
  refine ⟨by simp [S.len], S.nd, S.nz, fun b z => ?_, fun k q b h1 h2 => ?_⟩
  · obtain ⟨v, e⟩ := S.zt b z
    exact ⟨v, x.keep b v e fun m => S.nz b m z⟩
  · by_cases hk : k = n
    · subst hk
      rw [hn] at h2
      cases h2
      have hl : k < st.length := by rw [← S.len]; exact (List.getElem?_eq_some_iff.mp hn).1
      rw [List.getElem?_set_self hl] at h1
      cases h1
      exact h
    · rw [List.getElem?_set_ne (Ne.symm hk)] at h1
      refine (S.at_ k q b h1 h2).mono x (upd_ne fun e => hk ?_)
      subst e
      exact (List.getElem?_inj (List.getElem?_eq_some_iff.mp h2).1 S.nd).mp (h2.trans hn.symm)
theorem new_fro (S : Sim W st) (hp : W.H p = none) : (W.to W.ρ H').fro p := by
  refine ⟨fun m => ?_, fun z => ?_⟩
  · obtain ⟨v, e⟩ := S.tr m
    rw [hp] at e
    cases e
  · obtain ⟨v, e⟩ := S.zt p z
    rw [hp] at e
    cases e
theorem tup_new (S : Sim W st) (hp : W.H p = none) {xs : List D} {ys : List V} (r : RVs W xs ys) : RV (W.to W.ρ (upd W.H p (.tup ys))) (.tup xs) (.ref p) :=
  .tup (.inl ⟨upd_same, new_fro S hp⟩) (r.mono (ext_new0 hp))
theorem lst_or (hp : W.H p = none) {xs : List D} {ys : List V} (r : RVs W xs ys) : OR (W.to (W.ρ ++ [p]) (upd W.H p (.lst ys))) p (.lst xs) :=
  ⟨ys, upd_same, r.mono (ext_new [p] (fun a m => by rw [List.mem_singleton.mp m]; exact hp) hp)⟩
end

/-! ### operators by values -/
abbrev Op1 := D → Sto → Option (D × Sto)
abbrev Op2 := D → D → Sto → Option (D × Sto)
abbrev OpN := List D → Sto → Option (D × Sto)
def PostO (W : Vw) (o : Option (D × Sto)) (Q : VK) : Prop := match o with
  | some (a, st) => ∀ ρ' H' b, Ext W ρ' H' → Sim (W.to ρ' H') st → RV (W.to ρ' H') a b → Q b H'
  | none => False
def ofO (o : Option (D × Sto)) : R D := match o with
  | some (a, st) => .ok a st
  | none => .bad
theorem PostO.of {W : Vw} {o : Option (D × Sto)} {Q : VK} {E : XK} (h : PostE W (ofO o) Q E) : PostO W o Q := by
  cases o with
  | none => exact h
  | some x => exact h
/-- the view and the store at H -/
structure In (F : Fx) (W : Vw) (st : Sto) (H : Hp) : Prop where
  k : W.K = F.K
  g : W.g = F.g
  h : W.H = H
  sim : Sim W st
def r1 (F : Fx) (op : Op1) : V → Hp → VK → Prop := fun x H Q => ∃ W st a, In F W st H ∧ RV W a x ∧ PostO W (op a st) Q
def r2 (F : Fx) (op : Op2) : R2 := fun x y H Q => ∃ W st a b, In F W st H ∧ RV W a x ∧ RV W b y ∧ PostO W (op a b st) Q
def rN (F : Fx) (op : OpN) : List V → Hp → VK → Prop := fun xs H Q => ∃ W st ds, In F W st H ∧ RVs W ds xs ∧ PostO W (op ds st) Q
section
variable {W : Vw} {st : Sto} {Q : VK} {d : D} {v : V}
/-- the answer is d, nothing changed -/
theorem PostO.now (h : PostO W (some (d, st)) Q) (S : Sim W st) (r : RV W d v) : Q v W.H := h W.ρ W.H v Ext.refl S r
theorem PostO.list {p : Addr} {xs : List D} {ys : List V} (h : PostO W (some (.ref st.length, st ++ [.lst xs])) Q) (S : Sim W st) (r : RVs W xs ys) (hp : W.H p = none) : Q (.ref p) (upd W.H p (.lst ys)) :=
  h (W.ρ ++ [p]) _ _ (ext_new [p] (fun a m => by rw [List.mem_singleton.mp m]; exact hp) hp) (S.new hp (lst_or hp r)) (ref_new S)
theorem PostO.tuple {p : Addr} {xs : List D} {ys : List V} (h : PostO W (some (.tup xs, st)) Q) (S : Sim W st) (r : RVs W xs ys) (hp : W.H p = none) : Q (.ref p) (upd W.H p (.tup ys)) :=
  h W.ρ _ _ (ext_new0 hp) (S.new0 hp) (tup_new S hp r)
theorem RVs.length : ∀ {xs : List D} {ys : List V}, RVs W xs ys → xs.length = ys.length
  | _, _, .nil => rfl
  | _, _, .cons _ r => by rw [List.length_cons, List.length_cons, r.length]
theorem RVs.append : ∀ {xs xs' : List D} {ys ys' : List V}, RVs W xs ys → RVs W xs' ys' → RVs W (xs ++ xs') (ys ++ ys')
  | _, _, _, _, .nil, q => q
  | _, _, _, _, .cons h r, q => .cons h (r.append q)
theorem RVs.take : ∀ {xs : List D} {ys : List V} (n : Nat), RVs W xs ys → RVs W (xs.take n) (ys.take n)
  | _, _, 0, _ => by simp only [List.take_zero]; exact .nil
  | _, _, _ + 1, .nil => .nil
  | _, _, n + 1, .cons h r => .cons h (r.take n)
theorem RVs.drop : ∀ {xs : List D} {ys : List V} (n : Nat), RVs W xs ys → RVs W (xs.drop n) (ys.drop n)
  | _, _, 0, q => q
  | _, _, _ + 1, .nil => .nil
  | _, _, n + 1, .cons h r => r.drop n
theorem RVs.get : ∀ {xs : List D} {ys : List V} {n : Nat} {d : D}, RVs W xs ys → xs[n]? = some d → ∃ v, ys[n]? = some v ∧ RV W d v
  | _, _, _, _, .nil, e => by simp at e
  | _, _, 0, _, .cons h r, e => by simp at e; subst e; exact ⟨_, rfl, h⟩
  | _, _, n + 1, _, .cons h r, e => by
    obtain ⟨v, e1, q⟩ := r.get (n := n) (by simpa using e)
    exact ⟨v, by simpa using e1, q⟩
theorem RVs.set : ∀ {xs : List D} {ys : List V} (n : Nat) {d : D} {v : V}, RVs W xs ys → RV W d v → RVs W (xs.set n d) (ys.set n v)
  | _, _, _, _, _, .nil, _ => .nil
  | _, _, 0, _, _, .cons h r, q => .cons q r
  | _, _, n + 1, _, _, .cons h r, q => .cons h (r.set n q)
theorem RVs.rep : ∀ {xs : List D} {ys : List V} (n : Nat), RVs W xs ys → RVs W (List.replicate n xs).flatten (List.replicate n ys).flatten
  | _, _, 0, _ => .nil
  | _, _, n + 1, q => by rw [List.replicate_succ, List.replicate_succ, List.flatten_cons, List.flatten_cons]; exact q.append (q.rep n)
def lstAt (st : Sto) (n : Nat) : Option (List D) := match st[n]? with
  | some (.lst xs) => some xs
  | _ => none
theorem lstAt_eq {st : Sto} {n : Nat} {xs : List D} (h : lstAt st n = some xs) : st[n]? = some (.lst xs) := by
  unfold lstAt at h
  split at h
  · cases h; assumption
  · cases h
/-- a list of the store -/
def mlst (st : Sto) : D → Option (List D)
  | .ref n => lstAt st n
  | _ => none
/-- any list -/
def alst (st : Sto) : D → Option (List D)
  | .ref n => lstAt st n
  | .lst xs => some xs
  | _ => none
/-- list or tuple -/
def aseq (st : Sto) : D → Option (List D)
  | .ref n => lstAt st n
  | .lst xs => some xs
  | .tup xs => some xs
  | _ => none
theorem mlst_at (S : Sim W st) {d : D} {v : V} {xs : List D} (h : mlst st d = some xs) (r : RV W d v) : ∃ n a ys, d = .ref n ∧ v = .ref a ∧ W.ρ[n]? = some a ∧ st[n]? = some (.lst xs) ∧ W.H a = some (.lst ys) ∧ RVs W xs ys := by
  cases r with
  | ref e =>
    rename_i n a
    have q := lstAt_eq (show lstAt st n = some xs from h)
    obtain ⟨ys, e1, r1⟩ := S.at_ n _ a q e
    exact ⟨n, a, ys, rfl, rfl, e, q, e1, r1⟩
  | _ => cases h
theorem alst_at (S : Sim W st) {d : D} {v : V} {xs : List D} (h : alst st d = some xs) (r : RV W d v) : ∃ a ys, v = .ref a ∧ SqL W.K W.H a ys ∧ RVs W xs ys := by
  cases r with
  | ref e =>
    rename_i n a
    have q := lstAt_eq (show lstAt st n = some xs from h)
    obtain ⟨ys, e1, r1⟩ := S.at_ n _ a q e
    exact ⟨a, ys, rfl, .inl (.inl e1), r1⟩
  | lst h1 r1 => cases h; exact ⟨_, _, rfl, h1.sq, r1⟩
  | _ => cases h
theorem aseq_at (S : Sim W st) {d : D} {v : V} {xs : List D} (h : aseq st d = some xs) (r : RV W d v) : ∃ a ys, v = .ref a ∧ (SqL W.K W.H a ys ∨ SqT W.K W.H a ys) ∧ RVs W xs ys := by
  cases r with
  | ref e =>
    rename_i n a
    have q := lstAt_eq (show lstAt st n = some xs from h)
    obtain ⟨ys, e1, r1⟩ := S.at_ n _ a q e
    exact ⟨a, ys, rfl, .inl (.inl (.inl e1)), r1⟩
  | lst h1 r1 => cases h; exact ⟨_, _, rfl, .inl h1.sq, r1⟩
  | tup h1 r1 => cases h; exact ⟨_, _, rfl, .inr h1.sq, r1⟩
  | _ => cases h
theorem tup_at {xs : List D} {v : V} (r : RV W (.tup xs) v) : ∃ a ys, v = .ref a ∧ SqT W.K W.H a ys ∧ RVs W xs ys := by
  cases r with
  | tup h1 r1 => exact ⟨_, _, rfl, h1.sq, r1⟩

/-! ### arithmetic -/
variable {X : Cx} {F : Fx}
theorem OpR.or {f : Value → Value → Sem Value} {r r' : R2} (a : OpR X f r) (b : OpR X f r') : OpR X f (fun x y H Q => r x y H Q ∨ r' x y H Q) :=
  fun p s σ H x y v u Q I rx ry h => h.elim (a p s σ H x y v u Q I rx ry) (b p s σ H x y v u Q I rx ry)
theorem OpR.imp {f : Value → Value → Sem Value} {r r' : R2} (a : OpR X f r) (h : ∀ x y H Q, r' x y H Q → r x y H Q) : OpR X f r' :=
  fun p s σ H x y v u Q I rx ry q => a p s σ H x y v u Q I rx ry (h x y H Q q)
theorem CallR.imp {f : Value} {r r' : List V → Hp → VK → Prop} (a : CallR X f r) (h : ∀ x H Q, r' x H Q → r x H Q) : CallR X f r' :=
  fun p s σ H x u Q I rx q => a p s σ H x u Q I rx (h x H Q q)
theorem CallR.or {f : Value} {r r' : List V → Hp → VK → Prop} (a : CallR X f r) (b : CallR X f r') : CallR X f (fun x H Q => r x H Q ∨ r' x H Q) :=
  fun p s σ H x u Q I rx h => h.elim (a p s σ H x u Q I rx) (b p s σ H x u Q I rx)

/-- any list, as it stands -/
def LsE (K : PySem.W.Frag) (H : Hp) (a : Addr) (ys : List V) : Prop := Rd H a (.lst ys) ∨ WrL K a ys
theorem LsE.at_ {pins : List (Addr × Obj)} {s : Shared} {σ : L2.St} {H : Hp} {a : Addr} {ys : List V} (h : LsE X.K H a ys) (I : Inv X pins σ H s) : ys.length ≤ sizeLine ∧ ∃ (its : List Value) (n : Nat), Vals ys its ∧ ys.length = its.length ∧ s.heap.get? a = some ({ cls := .type "list", data := .seq its.toArray n } : Obj) := by
  rcases h with h | ⟨its, n, hk, hz, r⟩
  · obtain ⟨z, its, n, r, e⟩ := h.ok I.hok
    exact ⟨z, its, n, r, r.length, e⟩
  · have l := r.length
    exact ⟨by rw [l]; simpa using hz, its.toList, n, r, l, by simpa using I.kIn _ _ hk⟩
theorem op_catL : OpR X (binaryOp .Add) (fun x y H Q => ∃ a b xs ys, x = .ref a ∧ y = .ref b ∧ LsE X.K H a xs ∧ LsE X.K H b ys ∧ xs.length + ys.length ≤ sizeLine ∧ ∀ p, H p = none → Q (.ref p) (upd H p (.lst (xs ++ ys)))) := fun pins s σ H x y v u Q I rx ry ⟨a, b, xs, ys, ex, ey, ha, hb, hz, q⟩ => by
  subst ex ey
  cases rx
  cases ry
  obtain ⟨_, is1, n1, r1, l1, e1⟩ := ha.at_ I
  obtain ⟨_, is2, n2, r2, l2, e2⟩ := hb.at_ I
  refine PySem.P.add_list e1 e2 ?_ (by simp only [List.size_toArray]; omega)
  rw [List.append_toArray]
  exact ⟨.ref _, _, I.lnew (t' := s.toks) (r1.append r2) (by rw [List.length_append]; exact hz), rfl, q _ I.fresh⟩
theorem rep_arr (is : List Value) (m : Nat) : List.foldl (fun u v => u ++ v) #[] (List.replicate (if is.toArray.isEmpty = true then 0 else m) is.toArray) = (List.replicate m is).flatten.toArray := by
  have z := foldl_rep is m []
  cases is with
  | nil => simp
  | cons b r => simpa using z
theorem op_repL : OpR X (binaryOp .Mult) (fun x y H Q => ∃ a k xs, x = .ref a ∧ y = .int k ∧ LsE X.K H a xs ∧ -(2 ^ 63) ≤ k ∧ k < 2 ^ 63 ∧ xs.length * k.toNat ≤ sizeLine ∧ ∀ p, H p = none → Q (.ref p) (upd H p (.lst (List.replicate k.toNat xs).flatten))) := fun pins s σ H x y v u Q I rx ry ⟨a, k, xs, ex, ey, ha, h1, h2, hz, q⟩ => by
  subst ex ey
  cases rx
  obtain ⟨tk, rfl⟩ := ry
  obtain ⟨_, is, n, r, l, e⟩ := ha.at_ I
  have z1 : is.toArray.size * k.toNat ≤ sizeLine := by rw [List.size_toArray, ← l]; exact hz
  have z2 : (sizeLine : Nat) ≤ (2 ^ 63 - 1) / 8 := by decide
  have m1 := AutoListH.list___mul___list_int_3 a is.toArray n k tk (by rw [fitsIndex_both h1 h2]; simp) (by omega) (by rw [notLongL z1]; simp)
  refine wpAny_binaryOp_repeat_ref (U := "int") (T := "list") (by decide) ⟨_, e, rfl⟩ (fun s2 => typeIs_int s2 k tk) noFill_list_mul F.fills_int_mul F.slot_int_rmul repeat_list F.slot_int_index.lookup (call_meets F.slot_int_rmul (typeIs_int s k tk) F.entry_int_rmul (F.args_int_rmul_2 _ _) (int___rmul___int_list k tk a is.toArray n) ⟨e, rfl, ⟨_, e, rfl⟩, call_meets F.slot_list_mul ⟨_, e, rfl⟩ F.entry_list_mul (F.args_list_mul_2 _ _) m1 ⟨e, ?_⟩⟩)
  rw [rep_arr]
  exact ⟨.ref _, _, I.lnew (t' := s.toks) (r.rep k.toNat) (by rw [PyProof.Rows.lm_len_rep_flat, Nat.mul_comm]; exact hz), rfl, q _ I.fresh⟩
theorem lst_at {xs : List D} {v : V} (r : RV W (.lst xs) v) : ∃ a ys, v = .ref a ∧ LsE W.K W.H a ys ∧ RVs W xs ys := by
  cases r with
  | lst h1 r1 => exact ⟨_, _, rfl, h1.imp (·.1) id, r1⟩
theorem PostO.listF {p : Addr} {xs : List D} {ys : List V} (h : PostO W (some (.lst xs, st)) Q) (S : Sim W st) (r : RVs W xs ys) (hp : W.H p = none) : Q (.ref p) (upd W.H p (.lst ys)) :=
  h W.ρ _ _ (ext_new0 hp) (S.new0 hp) (.lst (.inl ⟨.inl upd_same, new_fro S hp⟩) (r.mono (ext_new0 hp)))
def smallI (i : Int) : Prop := -(2 ^ 64) < i ∧ i < 2 ^ 64
instance (i : Int) : Decidable (smallI i) := by unfold smallI; infer_instance
def opAdd : Op2 := fun a b st => match a, b with
  | .int i, .int j => some (.int (i + j), st)
  | .str x, .str y => if x.length + y.length ≤ sizeLine then some (.str (x ++ y), st) else none
  | .tup xs, .tup ys => if xs.length + ys.length ≤ sizeLine then some (.tup (xs ++ ys), st) else none
  | .lst xs, .lst ys => if xs.length + ys.length ≤ sizeLine then some (.lst (xs ++ ys), st) else none
  | .ref n, .ref m => match lstAt st n, lstAt st m with
    | some xs, some ys => if xs.length + ys.length ≤ sizeLine then some (.ref st.length, st ++ [.lst (xs ++ ys)]) else none
    | _, _ => none
  | _, _ => none
def opSub : Op2 := fun a b st => match a, b with
  | .int i, .int j => some (.int (i - j), st)
  | _, _ => none
def opMul : Op2 := fun a b st => match a, b with
  | .int i, .int j => if smallI i ∨ smallI j then some (.int (i * j), st) else if i.natAbs.log2 + j.natAbs.log2 < 1000000 then some (.int (i * j), st) else none
  | .lst xs, .int k => if -(2 ^ 63) ≤ k ∧ k < 2 ^ 63 ∧ xs.length * k.toNat ≤ sizeLine then some (.lst (List.replicate k.toNat xs).flatten, st) else none
  | .ref n, .int k => match lstAt st n with
    | some xs => if -(2 ^ 63) ≤ k ∧ k < 2 ^ 63 ∧ xs.length * k.toNat ≤ sizeLine then some (.ref st.length, st ++ [.lst (List.replicate k.toNat xs).flatten]) else none
    | none => none
  | _, _ => none
def opFdiv : Op2 := fun a b st => match a, b with
  | .int i, .int j => if 0 < j ∧ j.natAbs.log2 < 9000 then some (.int (i / j), st) else if j ≠ 0 ∧ j.natAbs < 1073741824 then some (.int (i.fdiv j), st) else none
  | _, _ => none
def opMod : Op2 := fun a b st => match a, b with
  | .int i, .int j => if 0 < j then some (.int (i % j), st) else if j ≠ 0 then some (.int (i.fmod j), st) else none
  | _, _ => none
def opPow : Op2 := fun a b st => match a, b with
  | .int i, .int j => if 0 ≤ j ∧ j ≤ 1000000 ∧ i.natAbs < 2 ^ 64 then some (.int (i ^ j.toNat), st) else none
  | _, _ => none

theorem In.now {H : Hp} (h : In F W st H) (p : PostO W (some (d, st)) Q) (r : RV W d v) : Q v H := by rw [← h.h]; exact p.now h.sim r
theorem or_sub : OpR X (binaryOp .Sub) (r2 F opSub) := OpR.imp op_sub fun x y H Q ⟨W, st, a, b, I, ra, rb, p⟩ => by
  unfold opSub at p
  split at p
  · cases ra; cases rb; exact ⟨_, _, rfl, rfl, I.now p (.int _)⟩
  · exact p.elim
theorem or_pow : OpR X (binaryOp .Pow) (r2 F opPow) := OpR.imp op_pow fun x y H Q ⟨W, st, a, b, I, ra, rb, p⟩ => by
  unfold opPow at p
  split at p
  · split at p
    · cases ra; cases rb; exact ⟨_, _, rfl, rfl, by assumption, I.now p (.int _)⟩
    · exact p.elim
  · exact p.elim
theorem or_mod : OpR X (binaryOp .Mod) (r2 F opMod) := OpR.imp (OpR.or op_mod op_modN) fun x y H Q ⟨W, st, a, b, I, ra, rb, p⟩ => by
  unfold opMod at p
  split at p
  · split at p
    · cases ra; cases rb; exact .inl ⟨_, _, rfl, rfl, by assumption, I.now p (.int _)⟩
    · split at p
      · cases ra; cases rb; exact .inr ⟨_, _, rfl, rfl, by assumption, I.now p (.int _)⟩
      · exact p.elim
  · exact p.elim
theorem or_fdiv : OpR X (binaryOp .FloorDiv) (r2 F opFdiv) := OpR.imp (OpR.or op_fdivW op_fdivN) fun x y H Q ⟨W, st, a, b, I, ra, rb, p⟩ => by
  unfold opFdiv at p
  split at p
  · split at p
    · cases ra; cases rb; exact .inl ⟨_, _, rfl, rfl, by assumption, I.now p (.int _)⟩
    · split at p
      · cases ra; cases rb; exact .inr ⟨_, _, rfl, rfl, by assumption, I.now p (.int _)⟩
      · exact p.elim
  · exact p.elim
theorem or_mul (hk : X.K = F.K) : OpR X (binaryOp .Mult) (r2 F opMul) := OpR.imp (OpR.or op_mulW (OpR.or op_rep (OpR.or op_mul op_repL))) fun x y H Q ⟨W, st, a, b, I, ra, rb, p⟩ => by
  unfold opMul at p
  split at p
  · split at p
    · cases ra; cases rb; exact .inr (.inr (.inl ⟨_, _, rfl, rfl, by assumption, I.now p (.int _)⟩))
    · split at p
      · cases ra; cases rb; exact .inl ⟨_, _, rfl, rfl, by assumption, I.now p (.int _)⟩
      · exact p.elim
  · split at p
    · rename_i c
      obtain ⟨a, ys, rfl, hl, r⟩ := lst_at ra
      cases rb
      have eH := I.h
      subst eH
      rw [I.k, ← hk] at hl
      refine .inr (.inr (.inr ⟨a, _, ys, rfl, rfl, hl, c.1, c.2.1, by rw [← r.length]; exact c.2.2, fun q hq => ?_⟩))
      exact p.listF I.sim (r.rep _) hq
    · exact p.elim
  · split at p
    · rename_i xs hx
      split at p
      · rename_i c
        obtain ⟨n, a, ys, e1, rfl, e2, e3, e4, r⟩ := mlst_at I.sim (d := .ref _) (xs := xs) hx ra
        cases rb
        have eH := I.h
        subst eH
        refine .inr (.inl ⟨a, _, ys, rfl, rfl, e4, c.1, c.2.1, by rw [← r.length]; exact c.2.2, fun q hq => ?_⟩)
        exact p.list I.sim (r.rep _) hq
      · exact p.elim
    · exact p.elim
  · exact p.elim
theorem or_add (hk : X.K = F.K) : OpR X (binaryOp .Add) (r2 F opAdd) := OpR.imp (OpR.or op_add (OpR.or op_add_str (OpR.or op_catA (OpR.or op_cat op_catL)))) fun x y H Q ⟨W, st, a, b, I, ra, rb, p⟩ => by
  unfold opAdd at p
  split at p
  · cases ra; cases rb; exact .inl ⟨_, _, rfl, rfl, I.now p (.int _)⟩
  · split at p
    · cases ra; cases rb; exact .inr (.inl ⟨_, _, rfl, rfl, by assumption, I.now p (.str _)⟩)
    · exact p.elim
  · split at p
    · rename_i c
      obtain ⟨a, xs', rfl, t1, r⟩ := tup_at ra
      obtain ⟨b, ys', rfl, t2, r'⟩ := tup_at rb
      have eK := I.k
      have eH := I.h
      subst eH
      rw [eK, ← hk] at t1 t2
      refine .inr (.inr (.inl ⟨a, b, _, _, rfl, rfl, t1, t2, by rw [← r.length, ← r'.length]; exact c, fun e => ?_, fun e1 e2 => ?_, fun e1 e2 q hq => ?_⟩))
      · subst e
        cases r
        exact p.now I.sim rb
      · subst e2
        cases r'
        rw [List.append_nil] at p
        exact p.now I.sim ra
      · exact p.tuple I.sim (r.append r') hq
    · exact p.elim
  · split at p
    · rename_i c
      obtain ⟨a, xs', rfl, t1, r⟩ := lst_at ra
      obtain ⟨b, ys', rfl, t2, r'⟩ := lst_at rb
      have eK := I.k
      have eH := I.h
      subst eH
      rw [eK, ← hk] at t1 t2
      refine .inr (.inr (.inr (.inr ⟨a, b, _, _, rfl, rfl, t1, t2, by rw [← r.length, ← r'.length]; exact c, fun q hq => ?_⟩)))
      exact p.listF I.sim (r.append r') hq
    · exact p.elim
  · split at p
    · rename_i xs ys h1 h2
      split at p
      · rename_i c
        obtain ⟨n, a, xs', e1, rfl, e2, e3, e4, r⟩ := mlst_at I.sim (d := .ref _) (xs := xs) h1 ra
        obtain ⟨m, b, ys', f1, rfl, f2, f3, f4, r'⟩ := mlst_at I.sim (d := .ref _) (xs := ys) h2 rb
        have eH := I.h
        subst eH
        refine .inr (.inr (.inr (.inl ⟨a, b, _, _, rfl, rfl, e4, f4, by rw [← r.length, ← r'.length]; exact c, fun q hq => ?_⟩)))
        exact p.list I.sim (r.append r') hq
      · exact p.elim
    · exact p.elim
  · exact p.elim
end
end M
/-! M3: expressions: names, constants, operators, comparisons, tests, arguments, displays. -/
namespace M
open PySem PySem.Spec PyProof.Rows L2

section
variable {α β γ δ : Type} {P : Vw → α → β → Prop} {P' : Vw → γ → δ → Prop} {F : Fx} {σ : L2.St} {H : Hp}
theorem Post.mono {W : Vw} {r : R α} {Q Q' : β → Hp → Prop} {E : XK} (h : Post W P r Q E) (m : ∀ b H, Q b H → Q' b H) : Post W P r Q' E := by
  cases r with
  | ok a st => exact fun ρ H b x s p => m _ _ (h ρ H b x s p)
  | exc C fs st => exact h
  | bad => exact h
theorem TX.mono {i : Env → Sto → R α} {Q Q' : β → Hp → Prop} (h : TX P F i σ H Q) (m : ∀ b H, Q b H → Q' b H) : TX P F i σ H Q' := by
  obtain ⟨W, st, env, A, p⟩ := h
  exact ⟨W, st, env, A, p.mono m⟩
/-- a value in hand (a), a further step i that does not look at it, then k -/
theorem TK.bind {κ μ : Type} {P2 : Vw → κ → μ → Prop} {i : Env → Sto → R γ} {k : α → γ → Env → Sto → R κ} {Q : μ → Hp → Prop} {b : β} (mo : ∀ {W : Vw} {ρ' : List Addr} {H' : Hp} {a : α} {b : β}, Ext W ρ' H' → P W a b → P (W.to ρ' H') a b)
    (h : TK P P2 F (fun a env st => (i env st).bind fun c s1 => k a c env s1) b σ H Q) :
    TX P' F i σ H fun c H' => ∃ W st env a d, At F W st env σ H' ∧ P W a b ∧ P' W d c ∧ Post W P2 (k a d env st) Q (F.at_ σ) := by
  obtain ⟨W, st, env, a, A, p, q⟩ := h
  refine ⟨W, st, env, A, ?_⟩
  have q' : Post W P2 ((i env st).bind fun c s1 => k a c env s1) Q (F.at_ σ) := q
  cases r : i env st with
  | ok d s1 =>
    rw [r] at q'
    exact fun ρ' H' c x s pc => ⟨W.to ρ' H', s1, env, a, d, A.next x s, mo x p, pc, Post.ext x q'⟩
  | exc C fs s1 => rw [r] at q'; exact q'
  | bad => rw [r] at q'; exact q'
theorem At.in_ {W : Vw} {st : Sto} {env : Env} (a : At F W st env σ H) : In F W st H := ⟨a.k, a.g, a.h, a.sim⟩
end

section
variable {X : Cx} {F : Fx} {pos : Pos}
/-! ### names, constants -/
def iC (d : D) : IE := fun _ st => .ok d st
def iVar (i : Nat) : IE := fun env st => match env[i]? with
  | some (some d) => .ok d st
  | _ => .bad
theorem e_var {e : Expr} {i : Nat} (h : PE X e (tVar i)) : PE X e (TI F (iVar i)) := PE.imp h fun σ H Q ⟨W, st, env, A, p⟩ => by
  unfold iVar at p
  split at p
  · rename_i d e
    obtain ⟨v, e1, r⟩ := A.env.at_ _ _ e
    refine ⟨v, e1, ?_⟩
    have q := p W.ρ W.H v Ext.refl A.sim r
    rw [A.h] at q
    exact q
  · exact p.elim
/-- the name in slot i -/
theorem e_v (i : Nat) {x : Str} (hN : X.N[i]? = some x := by rfl) (hv : Vis X.env.scope x := by first | exact Or.inl rfl | exact Or.inr (Or.inl rfl) | exact Or.inr (Or.inr rfl)) (hd : (x == ("__debug__" : Str)) = false := by decide)
    (hcd : (x == ("__classdict__" : Str)) = false := by decide) : PE X (.Name x pos) (TI F (iVar i)) := e_var (pe_var hN hv hd hcd)
theorem e_con {e : Expr} {d : D} {v : V} (h : PE X e (tC v)) (r : ∀ W : Vw, W.K = F.K → W.g = F.g → RV W d v) : PE X e (TI F (iC d)) := PE.imp h fun σ H Q ⟨W, st, env, A, p⟩ => by
  have q := p W.ρ W.H v Ext.refl A.sim (r W A.k A.g)
  rw [A.h] at q
  exact q
theorem e_int {i : Int} {j} : PE X (.Constant (.int i) j pos) (TI F (iC (.int i))) := e_con pe_int fun _ _ _ => .int _
theorem e_bl {i : Bool} {j} : PE X (.Constant (.bool i) j pos) (TI F (iC (.bl i))) := e_con pe_bl fun _ _ _ => .bl _
theorem e_str {i : Str} {j} : PE X (.Constant (.str i) j pos) (TI F (iC (.str i))) := e_con pe_str fun _ _ _ => .str _
theorem e_non {j} : PE X (.Constant .none j pos) (TI F (iC .non)) := e_con pe_non fun _ _ _ => .non

/-! ### operators -/
def iBin (f : Op2) (i j : IE) : IE := fun env st => (i env st).bind fun a s1 => (j env s1).bind fun b s2 => ofO (f a b s2)
def iUn (f : Op1) (i : IE) : IE := fun env st => (i env st).bind fun a s1 => ofO (f a s1)
theorem bin_r2 {f : Op2} {i j : IE} {σ : L2.St} {H : Hp} {Q : VK} (h : TI F (iBin f i j) σ H Q) : tOp (r2 F f) (TI F i) (TI F j) σ H Q :=
  (TX.bind (k := fun a env s1 => (j env s1).bind fun b s2 => ofO (f a b s2)) h).mono fun x H1 h1 => (TK.bind (i := j) (k := fun a b env s2 => ofO (f a b s2)) (fun x r => RV.mono x r) h1).mono fun y H2 ⟨W, st, env, a, b, A, ra, rb, p⟩ => ⟨W, st, a, b, A.in_, ra, rb, PostO.of p⟩
theorem e_bin {a b : Expr} {op : Operator} {f : Op2} {i j : IE} (ho : OpR X (binaryOp op) (r2 F f)) (ha : PE X a (TI F i)) (hb : PE X b (TI F j)) : PE X (.BinOp a op b pos) (TI F (iBin f i j)) :=
  PE.imp (pe_op ho ha hb) fun _ _ _ h => bin_r2 h
theorem e_cmp {a b : Expr} {op : CmpOp} {f : Op2} {i j : IE} (ho : OpR X (compareOp op) (r2 F f)) (ha : PE X a (TI F i)) (hb : PE X b (TI F j)) (h1 : behindInMarks op b = false := by first | exact nomark _ | rfl) : PE X (.Compare a [op] [b] pos) (TI F (iBin f i j)) :=
  PE.imp (pe_cmpR ho ha hb h1) fun _ _ _ h => bin_r2 h
theorem e_un {a : Expr} {op : UnaryOp} {f : Op1} {i : IE} (ho : UnR X (unaryOp op) (r1 F f)) (ha : PE X a (TI F i)) : PE X (.UnaryOp op a pos) (TI F (iUn f i)) :=
  PE.imp (pe_un ho ha) fun _ _ _ h => (TX.bind (k := fun a env s1 => ofO (f a s1)) h).mono fun x H1 ⟨W, st, env, a, A, ra, p⟩ => ⟨W, st, a, A.in_, ra, PostO.of p⟩
end

section
variable {X : Cx} {F : Fx} {pos : Pos} {W : Vw} {st : Sto}
/-! ### equality -/
def allP {α β : Type} (f : α → Option β) : List α → Option (List β)
  | [] => some []
  | x :: xs => match f x, allP f xs with
    | some p, some ps => some (p :: ps)
    | _, _ => none
theorem allP_cons {α β : Type} {f : α → Option β} {x : α} {xs : List α} {ps : List β} (h : allP f (x :: xs) = some ps) : ∃ p r, f x = some p ∧ allP f xs = some r ∧ ps = p :: r := by
  unfold allP at h
  split at h
  · rename_i p r e1 e2
    cases h
    exact ⟨p, r, e1, e2, rfl⟩
  · cases h
/-- the datum as the library's plain data -/
def toP (st : Sto) : Nat → D → Option PyData
  | 0, _ => none
  | n + 1, d => match d with
    | .non => some .none
    | .bl b => some (.bool b)
    | .int i => some (.int i)
    | .str x => if PyData.strOk x then some (.str x) else none
    | .tup xs => (allP (toP st n) xs).map .tuple
    | .lst xs => (allP (toP st n) xs).map .list
    | .ref k => match lstAt st k with
      | some xs => (allP (toP st n) xs).map .list
      | none => none
    | _ => none
/-- what toP gives -/
def Good (W : Vw) (n : Nat) (d : D) (p : PyData) : Prop := p.canLay0 = true ∧ p.depth ≤ n ∧ ∀ v, RV W d v → Dp W.K W.H v p
theorem good_all {n : Nat} {f : D → Option PyData} (hf : ∀ d p, f d = some p → Good W n d p) : ∀ {xs : List D} {ps : List PyData}, allP f xs = some ps → PyData.canLayAll0 ps = true ∧ PyData.depthAll ps ≤ n ∧ ∀ ys, RVs W xs ys → DpAll W.K W.H ys ps
  | [], ps, h => by
    cases h
    exact ⟨rfl, Nat.zero_le _, fun ys r => by cases r; exact .nil⟩
  | x :: xs, ps, h => by
    obtain ⟨p, r, e1, e2, rfl⟩ := allP_cons h
    obtain ⟨a1, a2, a3⟩ := hf _ _ e1
    obtain ⟨b1, b2, b3⟩ := good_all hf e2
    refine ⟨by show (PyData.canLay0 p && PyData.canLayAll0 r) = true; rw [a1, b1]; rfl, Nat.max_le.mpr ⟨a2, b2⟩, fun ys q => ?_⟩
    cases q with
    | cons q1 q2 => exact .cons (a3 _ q1) (b3 _ q2)
theorem toP_good (S : Sim W st) : ∀ (n : Nat) (d : D) (p : PyData), toP st n d = some p → Good W n d p
  | 0, _, _, h => by cases h
  | n + 1, d, p, h => by
    cases d with
    | non => cases h; exact ⟨rfl, Nat.zero_le _, fun v r => by cases r; exact .non⟩
    | bl b => cases h; exact ⟨rfl, Nat.zero_le _, fun v r => by cases r; exact .bl _⟩
    | int b => cases h; exact ⟨rfl, Nat.zero_le _, fun v r => by cases r; exact .int _⟩
    | str x =>
      have h' : (if PyData.strOk x then some (PyData.str x) else none) = some p := h
      split at h'
      · rename_i c
        cases h'
        exact ⟨c, Nat.zero_le _, fun v r => by cases r; exact .str _⟩
      · cases h'
    | tup xs =>
      have h' : (allP (toP st n) xs).map PyData.tuple = some p := h
      obtain ⟨ps, e, rfl⟩ := Option.map_eq_some_iff.mp h'
      obtain ⟨b1, b2, b3⟩ := good_all (toP_good S n) e
      exact ⟨b1, Nat.succ_le_succ b2, fun v r => by
        obtain ⟨a, ys, rfl, q, r'⟩ := tup_at r
        exact .tup q (b3 _ r')⟩
    | lst xs =>
      have h' : (allP (toP st n) xs).map PyData.list = some p := h
      obtain ⟨ps, e, rfl⟩ := Option.map_eq_some_iff.mp h'
      obtain ⟨b1, b2, b3⟩ := good_all (toP_good S n) e
      exact ⟨b1, Nat.succ_le_succ b2, fun v r => by
        obtain ⟨a, ys, rfl, q, r'⟩ := alst_at S (xs := xs) rfl r
        exact .lst q (b3 _ r')⟩
    | ref k =>
      have h' : (match lstAt st k with
        | some xs => (allP (toP st n) xs).map PyData.list
        | none => none) = some p := h
      split at h'
      · rename_i xs hx
        obtain ⟨ps, e, rfl⟩ := Option.map_eq_some_iff.mp h'
        obtain ⟨b1, b2, b3⟩ := good_all (toP_good S n) e
        exact ⟨b1, Nat.succ_le_succ b2, fun v r => by
          obtain ⟨a, ys, rfl, q, r'⟩ := alst_at S (d := .ref k) (xs := xs) hx r
          exact .lst q (b3 _ r')⟩
      · cases h'
    | _ => cases h
def opEq (neg : Bool) : Op2 := fun a b st => match a, b with
  | .str x, .str y => some (.bl (if neg then !decide (x = y) else decide (x = y)), st)
  | a, b => match toP st 64 a, toP st 64 b with
    | some p, some q => some (.bl (if neg then !PyData.eqv p q else PyData.eqv p q), st)
    | _, _ => none
theorem eq_red (hk : X.K = F.K) (neg : Bool) (x y : V) (H : Hp) (Q : VK) (h : r2 F (opEq neg) x y H Q) :
    (scal x y = true ∧ Q (.bl (if neg then !decide (x = y) else decide (x = y))) H) ∨ (∃ d e, Dp X.K H x d ∧ Dp X.K H y e ∧ SeqAt.shaped d = true ∧ SeqAt.shaped e = true ∧ Q (.bl (if neg then !PyData.eqv d e else PyData.eqv d e)) H) := by
  obtain ⟨W, st, a, b, I, ra, rb, p⟩ := h
  unfold opEq at p
  split at p
  · rename_i u v
    cases ra
    cases rb
    refine .inl ⟨rfl, ?_⟩
    have e : decide (V.str u = V.str v) = decide (u = v) := by
      rw [Bool.eq_iff_iff]; simp
    rw [e]
    exact I.now p (.bl _)
  · split at p
    · rename_i d e h1 h2
      obtain ⟨a1, a2, a3⟩ := toP_good I.sim _ _ _ h1
      obtain ⟨b1, b2, b3⟩ := toP_good I.sim _ _ _ h2
      have z := I.now p (.bl _)
      have x1 := a3 _ ra
      have x2 := b3 _ rb
      rw [I.k, ← hk, I.h] at x1 x2
      refine .inr ⟨d, e, x1, x2, ?_, ?_, z⟩
      · unfold SeqAt.shaped; rw [a1, decide_eq_true a2]; rfl
      · unfold SeqAt.shaped; rw [b1, decide_eq_true b2]; rfl
    · exact p.elim
theorem or_eq (hk : X.K = F.K) (hu : X.A.units + 64 < cLine) : OpR X (compareOp .Eq) (r2 F (opEq false)) := OpR.imp (OpR.or op_eq (op_eqD hu)) fun x y H Q h => eq_red hk false x y H Q h
theorem or_ne (hk : X.K = F.K) (hu : X.A.units + 64 < cLine) : OpR X (compareOp .NotEq) (r2 F (opEq true)) := OpR.imp (OpR.or op_ne (op_neD hu)) fun x y H Q h => eq_red hk true x y H Q h
def opCmp (f : Int → Int → Bool) : Op2 := fun a b st => match a, b with
  | .int i, .int j => some (.bl (f i j), st)
  | _, _ => none
theorem or_cmp {op : CmpOp} {f : Int → Int → Bool} (h : OpR X (compareOp op) (rI0 fun i j => .bl (f i j))) : OpR X (compareOp op) (r2 F (opCmp f)) := OpR.imp h fun x y H Q ⟨W, st, a, b, I, ra, rb, p⟩ => by
  unfold opCmp at p
  split at p
  · cases ra; cases rb; exact ⟨_, _, rfl, rfl, I.now p (.bl _)⟩
  · exact p.elim
abbrev opLt : Op2 := opCmp fun i j => decide (i < j)
abbrev opLe : Op2 := opCmp fun i j => decide (i ≤ j)
abbrev opGt : Op2 := opCmp fun i j => decide (j < i)
abbrev opGe : Op2 := opCmp fun i j => decide (j ≤ i)
theorem or_lt : OpR X (compareOp .Lt) (r2 F opLt) := or_cmp op_lt
theorem or_le : OpR X (compareOp .LtE) (r2 F opLe) := or_cmp op_le
theorem or_gt : OpR X (compareOp .Gt) (r2 F opGt) := or_cmp op_gt
theorem or_ge : OpR X (compareOp .GtE) (r2 F opGe) := or_cmp op_ge
def D.isNon : D → Bool
  | .non => true
  | _ => false
theorem isNon_iff {W : Vw} {d : D} {v : V} (r : RV W d v) : decide (v = .non) = d.isNon := by
  cases r <;> first | rfl | exact decide_eq_false fun z => nomatch z
def opIs (neg : Bool) : Op2 := fun a b st => match b with
  | .non => some (.bl (if neg then !a.isNon else a.isNon), st)
  | _ => none
theorem or_is : OpR X (compareOp .Is) (r2 F (opIs false)) := OpR.imp op_isN fun x y H Q ⟨W, st, a, b, I, ra, rb, p⟩ => by
  unfold opIs at p
  split at p
  · cases rb
    refine ⟨rfl, ?_⟩
    rw [isNon_iff ra]
    exact I.now p (.bl _)
  · exact p.elim
theorem or_isnot : OpR X (compareOp .IsNot) (r2 F (opIs true)) := OpR.imp op_notN fun x y H Q ⟨W, st, a, b, I, ra, rb, p⟩ => by
  unfold opIs at p
  split at p
  · cases rb
    refine ⟨rfl, ?_⟩
    rw [isNon_iff ra]
    exact I.now p (.bl _)
  · exact p.elim
def opNeg : Op1 := fun a st => match a with
  | .int i => some (.int (-i), st)
  | _ => none
theorem ur_neg : UnR X (unaryOp .USub) (r1 F opNeg) := fun p s σ H x v Q I rx ⟨W, st, a, J, ra, q⟩ => by
  unfold opNeg at q
  split at q
  · cases ra
    exact un_neg p s σ H _ v Q I rx ⟨_, rfl, J.now q (.int _)⟩
  · exact q.elim

/-! ### a chain of two comparisons -/
def kChain (g : Op2) (k : IE) (b : D) (env : Env) : D → Sto → R D
  | .bl true, s3 => (k env s3).bind fun c s4 => ofO (g b c s4)
  | .bl false, s3 => .ok (.bl false) s3
  | _, _ => .bad
def iChain (f g : Op2) (i j k : IE) : IE := fun env st => (i env st).bind fun a s1 => (j env s1).bind fun b s2 => (ofO (f a b s2)).bind (kChain g k b env)
end
end M
/-! M4: chains, tests, arguments, displays, built-in functions, subscripts, slices. -/
namespace M
open PySem PySem.Spec PyProof.Rows L2

section
variable {X : Cx} {F : Fx} {pos : Pos} {W : Vw} {st : Sto} {a b c : Expr} {rest : List Expr}
theorem e_chain {op op' : CmpOp} {f g : Op2} {i j k : IE} (ho : OpR X (compareOp op) (r2 F f)) (ho' : OpR X (compareOp op') (r2 F g)) (ha : PE X a (TI F i)) (hb : PE X b (TI F j)) (hc : PE X c (TI F k))
    (hm : lastMarks [op, op'] [b, c] = false := by with_unfolding_all rfl) : PE X (.Compare a [op, op'] [b, c] pos) (TI F (iChain f g i j k)) := by
  refine PE.imp (pe_chain (r := fun x y H Q => ∃ W st a b, In F W st H ∧ RV W a x ∧ RV W b y ∧ PostO W (f a b st) Q) ho ho' ha hb hc hm) fun σ H Q h => ?_
  refine (TX.bind (k := fun a env s1 => (j env s1).bind fun b s2 => (ofO (f a b s2)).bind (kChain g k b env)) h).mono fun x H1 h1 => ?_
  refine (TK.bind (i := j) (k := fun a b env s2 => (ofO (f a b s2)).bind (kChain g k b env)) (fun x r => RV.mono x r) h1).mono fun y H2 ⟨W, st, env, a, b, A, ra, rb, p⟩ => ?_
  refine ⟨W, st, a, b, A.in_, ra, rb, ?_⟩
  have p1 : PostE W ((ofO (f a b st)).bind (kChain g k b env)) Q (F.at_ σ) := p
  cases e : f a b st with
  | none => rw [e] at p1; exact p1
  | some z =>
    obtain ⟨d, s3⟩ := z
    rw [e] at p1
    intro ρ' H' v x s r
    have p2 : PostE W (kChain g k b env d s3) Q (F.at_ σ) := p1
    cases r with
    | bl t =>
      refine ⟨t, rfl, ?_⟩
      cases t with
      | false => exact p2 ρ' H' _ x s (.bl false)
      | true =>
        have T : TK RV RV F (fun b env s3 => (k env s3).bind fun c s4 => ofO (g b c s4)) y σ H' Q := ⟨W.to ρ' H', s3, env, b, A.next x s, rb.mono x, Post.ext x p2⟩
        exact (TK.bind (i := k) (k := fun b c env s4 => ofO (g b c s4)) (fun x r => RV.mono x r) T).mono fun z H3 ⟨W, st, env, a, b, A, ra, rb, p⟩ => ⟨W, st, a, b, A.in_, ra, rb, PostO.of p⟩
    | _ => exact p2.elim

/-! ### tests -/
def truD (st : Sto) : D → Option Bool
  | .non => some false
  | .bl b => some b
  | .int i => some (i != 0)
  | .str x => if x.length ≤ sizeLine then some ((x.length : Int) != 0) else none
  | .tup xs => some (!xs.isEmpty)
  | .lst xs => some (!xs.isEmpty)
  | .ref n => match st[n]? with
    | some (.lst xs) => some (!xs.isEmpty)
    | some (.dct xs) => some (!xs.isEmpty)
    | _ => none
  | _ => none
theorem RVs.empty {W : Vw} {xs : List D} {ys : List V} (r : RVs W xs ys) : xs.isEmpty = ys.isEmpty := by cases r <;> rfl
theorem tru_of (S : Sim W st) {d : D} {v : V} {k : Bool} (r : RV W d v) (h : truD st d = some k) : TruV W.K v W.H k := by
  cases r with
  | non => cases h; rfl
  | bl b => cases h; rfl
  | int i => cases h; rfl
  | str x =>
    have h' : (if x.length ≤ sizeLine then some ((x.length : Int) != 0) else none) = some k := h
    split at h'
    · cases h'; exact ⟨by assumption, rfl⟩
    · cases h'
  | tup t r => cases h; exact .inr (.inl ⟨_, t.sq, by rw [r.empty]⟩)
  | lst t r => cases h; exact .inl ⟨_, t.sq, by rw [r.empty]⟩
  | @ref n a e =>
    have h' : (match st[n]? with
    | some (.lst xs) => some (!xs.isEmpty)
    | some (.dct xs) => some (!xs.isEmpty)
    | _ => none) = some k := h
    split at h'
    · rename_i xs q
      cases h'
      obtain ⟨ys, e1, r1⟩ := S.at_ n _ a q e
      exact .inl ⟨ys, .inl (.inl e1), by rw [r1.empty]⟩
    · rename_i xs q
      cases h'
      obtain ⟨ys, e1, r1, r2⟩ := S.at_ n _ a q e
      refine .inr (.inr ⟨ys, e1, ?_⟩)
      cases xs <;> cases ys <;> first | rfl | simp at r1
    · cases h'
  | _ => cases h
def tTru (i : IE) : IT := fun env st => (i env st).bind fun d s => match truD s d with
  | some k => .ok k s
  | none => .bad
theorem PostT.now {Q : Bool → Hp → Prop} {E : XK} {k : Bool} (p : PostT W (.ok k st) Q E) (S : Sim W st) : Q k W.H := p W.ρ W.H k Ext.refl S rfl
/-- an expression's value as a test -/
theorem t_tru {i : IE} (hk : X.K = F.K) (ha : PE X a (TI F i)) (he : ∀ whole, isTrue a X.env whole = (do let v ← whole; standAt a.pos; holding [v] (truthy v)) := by intro _; rfl) : PT X a (TT_ F (tTru i)) :=
  PT.imp (pt_truth ha he) fun σ H Q h => (TX.bind (k := fun d env s => match truD s d with
  | some k => .ok k s
  | none => .bad) h).mono fun x H1 ⟨W, st, env, d, A, r, p⟩ => by
    have p' : PostT W (match truD st d with
      | some k => .ok k st
      | none => .bad) Q (F.at_ σ) := p
    cases e : truD st d with
    | none => rw [e] at p'; exact p'.elim
    | some k =>
      rw [e] at p'
      have t := tru_of A.sim r e
      rw [A.k, ← hk, A.h] at t
      have q := PostT.now p' A.sim
      rw [A.h] at q
      exact ⟨k, t, q⟩
def tNot' (i : IT) : IT := fun env st => (i env st).bind fun k s => .ok (!k) s
def tAnd' (i j : IT) : IT := fun env st => (i env st).bind fun k s => if k = true then j env s else .ok false s
def tOr' (i j : IT) : IT := fun env st => (i env st).bind fun k s => if k = true then .ok true s else j env s
theorem t_not {i : IT} (ha : PT X a (TT_ F i)) : PT X (.UnaryOp .Not a pos) (TT_ F (tNot' i)) := PT.imp (pt_not ha) fun σ H Q h =>
  (TX.bind (k := fun k env s => .ok (!k) s) h).mono fun x H1 ⟨W, st, env, d, A, r, p⟩ => by
    cases (show d = x from r)
    have q := PostT.now p A.sim
    rw [A.h] at q
    exact q
theorem w_and1 {i : IT} (ha : PT X a (TT_ F i)) : PW X (.BoolOp .And [a] pos) (TT_ F i) := pw_and1 ha
theorem w_or1 {i : IT} (ha : PT X a (TT_ F i)) : PW X (.BoolOp .Or [a] pos) (TT_ F i) := pw_or1 ha
theorem w_and {i j : IT} (ha : PT X a (TT_ F i)) (hb : PW X (.BoolOp .And (b :: rest) pos) (TT_ F j)) : PW X (.BoolOp .And (a :: b :: rest) pos) (TT_ F (tAnd' i j)) := PW.imp (pw_and ha hb) fun σ H Q h =>
  (TX.bind (k := fun k env s => if k = true then j env s else .ok false s) h).mono fun x H1 ⟨W, st, env, d, A, r, p⟩ => by
    cases (show d = x from r)
    cases x with
    | true => exact ⟨W, st, env, A, p⟩
    | false =>
      have q := PostT.now p A.sim
      rw [A.h] at q
      exact q
theorem w_or {i j : IT} (ha : PT X a (TT_ F i)) (hb : PW X (.BoolOp .Or (b :: rest) pos) (TT_ F j)) : PW X (.BoolOp .Or (a :: b :: rest) pos) (TT_ F (tOr' i j)) := PW.imp (pw_or ha hb) fun σ H Q h =>
  (TX.bind (k := fun k env s => if k = true then .ok true s else j env s) h).mono fun x H1 ⟨W, st, env, d, A, r, p⟩ => by
    cases (show d = x from r)
    cases x with
    | false => exact ⟨W, st, env, A, p⟩
    | true =>
      have q := PostT.now p A.sim
      rw [A.h] at q
      exact q
/-! ### and, or, not as values -/
def iAnd (i j : IE) : IE := fun env st => (i env st).bind fun d s => match truD s d with
  | some true => j env s
  | some false => .ok d s
  | none => .bad
def iOr (i j : IE) : IE := fun env st => (i env st).bind fun d s => match truD s d with
  | some true => .ok d s
  | some false => j env s
  | none => .bad
def kNot (d : D) (s : Sto) : R D := match truD s d with
  | some k => .ok (.bl (!k)) s
  | none => .bad
def iNot (i : IE) : IE := fun env st => (i env st).bind kNot
theorem e_one {op} {i : IE} (h : PE X a (TI F i)) : PE X (.BoolOp op [a] pos) (TI F i) := pe_one h
theorem e_and {i j : IE} (hk : X.K = F.K) (ha : PE X a (TI F i)) (hb : PE X (.BoolOp .And (b :: rest) pos) (TI F j)) : PE X (.BoolOp .And (a :: b :: rest) pos) (TI F (iAnd i j)) := PE.imp (pe_andT ha hb) fun σ H Q h =>
  (TX.bind (k := fun d env s => match truD s d with
  | some true => j env s
  | some false => .ok d s
  | none => .bad) h).mono fun x H1 ⟨W, st, env, d, A, r, p⟩ => by
    have p' : PostE W (match truD st d with
      | some true => j env st
      | some false => .ok d st
      | none => .bad) Q (F.at_ σ) := p
    cases e : truD st d with
    | none => rw [e] at p'; exact p'.elim
    | some k =>
      rw [e] at p'
      have t := tru_of A.sim r e
      rw [A.k, ← hk, A.h] at t
      refine ⟨k, t, ?_⟩
      cases k with
      | true => exact ⟨W, st, env, A, p'⟩
      | false =>
        have q := p' W.ρ W.H x Ext.refl A.sim r
        rw [A.h] at q
        exact q
theorem e_or {i j : IE} (hk : X.K = F.K) (ha : PE X a (TI F i)) (hb : PE X (.BoolOp .Or (b :: rest) pos) (TI F j)) : PE X (.BoolOp .Or (a :: b :: rest) pos) (TI F (iOr i j)) := PE.imp (pe_orT ha hb) fun σ H Q h =>
  (TX.bind (k := fun d env s => match truD s d with
  | some true => .ok d s
  | some false => j env s
  | none => .bad) h).mono fun x H1 ⟨W, st, env, d, A, r, p⟩ => by
    have p' : PostE W (match truD st d with
      | some true => .ok d st
      | some false => j env st
      | none => .bad) Q (F.at_ σ) := p
    cases e : truD st d with
    | none => rw [e] at p'; exact p'.elim
    | some k =>
      rw [e] at p'
      have t := tru_of A.sim r e
      rw [A.k, ← hk, A.h] at t
      refine ⟨k, t, ?_⟩
      cases k with
      | false => exact ⟨W, st, env, A, p'⟩
      | true =>
        have q := p' W.ρ W.H x Ext.refl A.sim r
        rw [A.h] at q
        exact q
theorem e_not {i : IE} (hk : X.K = F.K) (ha : PE X a (TI F i)) : PE X (.UnaryOp .Not a pos) (TI F (iNot i)) := PE.imp (pe_notT ha) fun σ H Q h =>
  (TX.bind (k := fun d env s => kNot d s) h).mono fun x H1 ⟨W, st, env, d, A, r, p⟩ => by
    have p' : PostE W (kNot d st) Q (F.at_ σ) := p
    unfold kNot at p'
    cases e : truD st d with
    | none => rw [e] at p'; exact p'.elim
    | some k =>
      rw [e] at p'
      have t := tru_of A.sim r e
      rw [A.k, ← hk, A.h] at t
      have q := p' W.ρ W.H (.bl (!k)) Ext.refl A.sim (.bl _)
      rw [A.h] at q
      exact ⟨k, t, q⟩
def iIf (c : IT) (i j : IE) : IE := fun env st => (c env st).bind fun k s => if k = true then i env s else j env s
theorem e_if {t : IT} {i j : IE} (hc : PT X c (TT_ F t)) (ha : PE X a (TI F i)) (hb : PE X b (TI F j)) : PE X (.IfExp c a b pos) (TI F (iIf t i j)) := PE.imp (pe_ifExp hc ha hb) fun σ H Q h =>
  (TX.bind (k := fun k env s => if k = true then i env s else j env s) h).mono fun x H1 ⟨W, st, env, d, A, r, p⟩ => by
    cases (show d = x from r)
    cases x with
    | true => exact ⟨W, st, env, A, p⟩
    | false => exact ⟨W, st, env, A, p⟩

/-! ### arguments, displays -/
def aNil : IA := fun _ st => .ok [] st
def aCons (i : IE) (j : IA) : IA := fun env st => (i env st).bind fun d s => (j env s).bind fun ds s2 => .ok (d :: ds) s2
theorem a_nil : PA X [] (TA_ F aNil) := PA.imp pa_nil fun σ H Q ⟨W, st, env, A, p⟩ => by
  have q := p W.ρ W.H [] Ext.refl A.sim .nil
  rw [A.h] at q
  exact q
theorem a_cons {e : Expr} {es : List Expr} {i : IE} {j : IA} (ha : PE X e (TI F i)) (hr : PA X es (TA_ F j)) (hs : starEach (e :: es) X.env = (false, eval e X.env) :: starEach es X.env := by rfl) : PA X (e :: es) (TA_ F (aCons i j)) :=
  PA.imp (pa_cons ha hr hs) fun σ H Q h => (TX.bind (k := fun d env s => (j env s).bind fun ds s2 => .ok (d :: ds) s2) h).mono fun x H1 h1 =>
    (TK.bind (i := j) (k := fun d ds env s2 => .ok (d :: ds) s2) (fun x r => RV.mono x r) h1).mono fun y H2 ⟨W, st, env, a, b, A, ra, rb, p⟩ => by
      have q := p W.ρ W.H (x :: y) Ext.refl A.sim (.cons ra rb)
      rw [A.h] at q
      exact q
def iN (f : OpN) (j : IA) : IE := fun env st => (j env st).bind fun ds s => ofO (f ds s)
theorem n_rN {f : OpN} {j : IA} {σ : L2.St} {H : Hp} {Q : VK} (h : TI F (iN f j) σ H Q) : TA_ F j σ H fun vs H1 => rN F f vs H1 Q :=
  (TX.bind (k := fun ds env s => ofO (f ds s)) h).mono fun x H1 ⟨W, st, env, d, A, r, p⟩ => ⟨W, st, d, A.in_, r, PostO.of p⟩
def opTup : OpN := fun ds st => if ds.length ≤ sizeLine then some (.tup ds, st) else none
def opLst : OpN := fun ds st => if ds.length ≤ sizeLine then some (.ref st.length, st ++ [.lst ds]) else none
theorem e_tup {es : List Expr} {j : IA} {x1} (h : PA X es (TA_ F j)) : PE X (.Tuple es x1 pos) (TI F (iN opTup j)) := PE.imp (pe_tup h) fun σ H Q h => (n_rN h).mono fun vs H1 ⟨W, st, ds, I, r, p⟩ => by
  unfold opTup at p
  split at p
  · rename_i c
    have eH := I.h
    subst eH
    exact ⟨by rw [← r.length]; exact c, fun q hq => p.tuple I.sim r hq⟩
  · exact p.elim
theorem e_lst {es : List Expr} {j : IA} (h : PA X es (TA_ F j)) : PE X (.List es pos) (TI F (iN opLst j)) := PE.imp (pe_lst h) fun σ H Q h => (n_rN h).mono fun vs H1 ⟨W, st, ds, I, r, p⟩ => by
  unfold opLst at p
  split at p
  · rename_i c
    have eH := I.h
    subst eH
    exact ⟨by rw [← r.length]; exact c, fun q hq => p.list I.sim r hq⟩
  · exact p.elim

/-! ### built-in functions -/
theorem e_callB {e : Expr} {es : List Expr} {x : Str} {p : Pos} {id : String} {f : OpN} {j : IA} (hc : CallR X (.builtin id) (rN F f)) (hg : Gl X x) (hm : X.mg x = none) (hv : bootBuiltins x = some (.builtin id)) (ha : PA X (e :: es) (TA_ F j)) (hn : x ≠ "__name__" := by decide) (hdb : (x == ("__debug__" : Str)) = false := by decide)
    (he : starEach (e :: es) X.env = (false, eval e X.env) :: starEach es X.env := by rfl) (hpl : (backTo pos (starEach es X.env)).any (·.1) = false := by rfl) : PE X (.Call (.Name x p) (e :: es) [] pos) (TI F (iN f j)) :=
  PE.imp (pe_callB hc hg hm hv ha hn hdb he hpl) fun σ H Q h => n_rN h
theorem e_callTy {e : Expr} {es : List Expr} {x : Str} {p : Pos} {id : String} {f : OpN} {j : IA} (hc : CallR X (.type id) (rN F f)) (hg : Gl X x) (hm : X.mg x = none) (hv : bootBuiltins x = some (.type id)) (ha : PA X (e :: es) (TA_ F j)) (hn : x ≠ "__name__" := by decide) (hdb : (x == ("__debug__" : Str)) = false := by decide)
    (he : starEach (e :: es) X.env = (false, eval e X.env) :: starEach es X.env := by rfl) (hpl : (backTo pos (starEach es X.env)).any (·.1) = false := by rfl) : PE X (.Call (.Name x p) (e :: es) [] pos) (TI F (iN f j)) :=
  PE.imp (pe_callTy hc hg hm hv ha hn hdb he hpl) fun σ H Q h => n_rN h
theorem rv1 {W : Vw} {d : D} {vs : List V} (r : RVs W [d] vs) : ∃ v, vs = [v] ∧ RV W d v := by
  cases r with
  | cons h r => cases r; exact ⟨_, rfl, h⟩
theorem rv2 {W : Vw} {d e : D} {vs : List V} (r : RVs W [d, e] vs) : ∃ v u, vs = [v, u] ∧ RV W d v ∧ RV W e u := by
  cases r with
  | cons h r =>
    obtain ⟨u, rfl, q⟩ := rv1 r
    exact ⟨_, _, rfl, h, q⟩
theorem rv3 {W : Vw} {d e f : D} {vs : List V} (r : RVs W [d, e, f] vs) : ∃ v u w, vs = [v, u, w] ∧ RV W d v ∧ RV W e u ∧ RV W f w := by
  cases r with
  | cons h r =>
    obtain ⟨u, w, rfl, q⟩ := rv2 r
    exact ⟨_, _, _, rfl, h, q⟩
def lenD (st : Sto) : D → Option Nat
  | .str x => if x.length ≤ sizeLine then some x.length else none
  | d => (aseq st d).map (·.length)
def opLen : OpN := fun ds st => match ds with
  | [d] => (lenD st d).map fun n => (.int n, st)
  | _ => none
theorem cr_len (hk : X.K = F.K) : CallR X (.builtin "len") (rN F opLen) := CallR.imp call_len fun xs H Q ⟨W, st, ds, I, r, p⟩ => by
  unfold opLen at p
  split at p
  · rename_i d
    obtain ⟨v, rfl, rv⟩ := rv1 r
    cases e : lenD st d with
    | none => rw [e] at p; exact p.elim
    | some n =>
      rw [e] at p
      have q := I.now p (.int _)
      refine ⟨v, n, rfl, ?_, q⟩
      have seq : ∀ xs, aseq st d = some xs → n = xs.length → LenV X.K v H n := fun xs hx hn => by
        obtain ⟨a, ys, rfl, hs, ry⟩ := aseq_at I.sim hx rv
        rw [I.k, ← hk, I.h] at hs
        rcases hs with hs | hs
        · exact .inl ⟨ys, hs, by rw [hn, ry.length]⟩
        · exact .inr ⟨ys, hs, by rw [hn, ry.length]⟩
      have fin : lenD st d = (aseq st d).map (·.length) → LenV X.K v H n := fun z => by
        rw [z] at e
        obtain ⟨xs, hx, hn⟩ := Option.map_eq_some_iff.mp e
        exact seq xs hx hn.symm
      cases d with
      | str x =>
        cases rv
        have e' : (if x.length ≤ sizeLine then some x.length else none) = some n := e
        split at e'
        · cases e'; exact ⟨by assumption, rfl⟩
        · cases e'
      | _ => exact fin rfl
  · exact p.elim
def opAbs : OpN := fun ds st => match ds with
  | [.int i] => some (.int (if i < 0 then -i else i), st)
  | _ => none
theorem cr_abs : CallR X (.builtin "abs") (rN F opAbs) := CallR.imp call_abs fun xs H Q ⟨W, st, ds, I, r, p⟩ => by
  unfold opAbs at p
  split at p
  · obtain ⟨v, rfl, rv⟩ := rv1 r
    cases rv
    exact ⟨_, rfl, I.now p (.int _)⟩
  · exact p.elim
def opMax : OpN := fun ds st => match ds with
  | [.int i, .int j] => some (.int (if j > i then j else i), st)
  | _ => none
theorem cr_max (hc : X.calm = true) : CallR X (.builtin "max") (rN F opMax) := CallR.imp (call_max2 hc) fun xs H Q ⟨W, st, ds, I, r, p⟩ => by
  unfold opMax at p
  split at p
  · obtain ⟨v, u, rfl, rv, ru⟩ := rv2 r
    cases rv
    cases ru
    exact ⟨_, _, rfl, I.now p (.int _)⟩
  · exact p.elim
def opMin : OpN := fun ds st => match ds with
  | [.int i, .int j] => some (.int (if j < i then j else i), st)
  | _ => none
theorem cr_min (hc : X.calm = true) : CallR X (.builtin "min") (rN F opMin) := CallR.imp (call_min2 hc) fun xs H Q ⟨W, st, ds, I, r, p⟩ => by
  unfold opMin at p
  split at p
  · obtain ⟨v, u, rfl, rv, ru⟩ := rv2 r
    cases rv
    cases ru
    exact ⟨_, _, rfl, I.now p (.int _)⟩
  · exact p.elim
def opInt : OpN := fun ds st => match ds with
  | [.int i] => some (.int i, st)
  | [.bl k] => some (.int (if k then 1 else 0), st)
  | _ => none
theorem cr_int : CallR X (.type "int") (rN F opInt) := CallR.imp call_int1 fun xs H Q ⟨W, st, ds, I, r, p⟩ => by
  unfold opInt at p
  split at p
  · obtain ⟨v, rfl, rv⟩ := rv1 r
    cases rv
    exact .inl ⟨_, rfl, I.now p (.int _)⟩
  · obtain ⟨v, rfl, rv⟩ := rv1 r
    cases rv
    exact .inr ⟨_, rfl, I.now p (.int _)⟩
  · exact p.elim
def opStr : OpN := fun ds st => match ds with
  | [.int i] => if i.natAbs.log2 < 1920 then some (.str (toString i), st) else none
  | _ => none
theorem cr_str : CallR X (.type "str") (rN F opStr) := CallR.imp call_str_int fun xs H Q ⟨W, st, ds, I, r, p⟩ => by
  unfold opStr at p
  split at p
  · split at p
    · obtain ⟨v, rfl, rv⟩ := rv1 r
      cases rv
      exact ⟨_, rfl, by assumption, I.now p (.str _)⟩
    · exact p.elim
  · exact p.elim
def opTuple : OpN := fun ds st => match ds with
  | [.tup xs] => some (.tup xs, st)
  | [d] => (alst st d).map fun xs => (.tup xs, st)
  | _ => none
theorem cr_tuple (hk : X.K = F.K) : CallR X (.type "tuple") (rN F opTuple) := CallR.imp call_tuple_of fun xs H Q ⟨W, st, ds, I, r, p⟩ => by
  unfold opTuple at p
  split at p
  · obtain ⟨v, rfl, rv⟩ := rv1 r
    obtain ⟨a, ys, rfl, hs, ry⟩ := tup_at rv
    rw [I.k, ← hk, I.h] at hs
    exact ⟨a, ys, rfl, .inr ⟨hs, I.now p rv⟩⟩
  · rename_i d _
    obtain ⟨v, rfl, rv⟩ := rv1 r
    cases e : alst st d with
    | none => rw [e] at p; exact p.elim
    | some xs =>
      rw [e] at p
      obtain ⟨a, ys, rfl, hs, ry⟩ := alst_at I.sim e rv
      have eH := I.h
      subst eH
      rw [I.k, ← hk] at hs
      exact ⟨a, ys, rfl, .inl ⟨hs, fun l hl => p.tuple I.sim ry hl⟩⟩
  · exact p.elim
def opList : OpN := fun ds st => match ds with
  | [d] => (aseq st d).map fun xs => (.ref st.length, st ++ [.lst xs])
  | _ => none
theorem cr_list (hk : X.K = F.K) : CallR X (.type "list") (rN F opList) := CallR.imp call_list_of fun xs H Q ⟨W, st, ds, I, r, p⟩ => by
  unfold opList at p
  split at p
  · rename_i d
    obtain ⟨v, rfl, rv⟩ := rv1 r
    cases e : aseq st d with
    | none => rw [e] at p; exact p.elim
    | some xs =>
      rw [e] at p
      obtain ⟨a, ys, rfl, hs, ry⟩ := aseq_at I.sim e rv
      have eH := I.h
      subst eH
      rw [I.k, ← hk] at hs
      exact ⟨a, ys, rfl, hs, fun l hl => p.list I.sim ry hl⟩
  · exact p.elim

/-! ### subscripts -/
theorem atI_rel {W : Vw} {xs : List D} {ys : List V} {i : Int} {d : D} (r : RVs W xs ys) (h : atI xs i = some d) : ∃ v, atI ys i = some v ∧ RV W d v := by
  unfold atI at h ⊢
  rw [← r.length]
  obtain ⟨j, hj, h2⟩ := Option.bind_eq_some_iff.mp h
  obtain ⟨v, hv, rv⟩ := r.get h2
  exact ⟨v, by rw [hj]; exact hv, rv⟩
def opIx : Op2 := fun a b st => match a, b with
  | .str z, .int i => if z.length ≤ sizeLine then (atI z.cps.toList i).map fun c => (.str ⟨#[c]⟩, st) else none
  | a, .int i => match aseq st a with
    | some xs => (atI xs i).map fun d => (d, st)
    | none => none
  | _, _ => none
theorem IxR.imp {r r' : R2} (a : IxR X r) (h : ∀ x y H Q, r' x y H Q → r x y H Q) : IxR X r' := fun e f p s σ H x y v u Q I rx ry q hs => a e f p s σ H x y v u Q I rx ry (h x y H Q q) hs
theorem ir_ix (hk : X.K = F.K) : IxR X (r2 F opIx) := IxR.imp ix_seq fun x y H Q ⟨W, st, a, b, I, ra, rb, p⟩ => by
  unfold opIx at p
  split at p
  · rename_i z i
    cases ra
    cases rb
    split at p
    · rename_i c
      cases e : atI z.cps.toList i with
      | none => rw [e] at p; exact p.elim
      | some c' =>
        rw [e] at p
        exact .inr (.inr ⟨z, i, c', rfl, rfl, c, e, I.now p (.str _)⟩)
    · exact p.elim
  · rename_i i _
    cases rb
    cases e : aseq st a with
    | none => rw [e] at p; exact p.elim
    | some xs =>
      rw [e] at p
      cases e2 : atI xs i with
      | none =>
        have p' : PostO W ((atI xs i).map fun d => (d, st)) Q := p
        rw [e2] at p'; exact p'.elim
      | some d =>
        have p' : PostO W ((atI xs i).map fun d => (d, st)) Q := p
        rw [e2] at p'
        obtain ⟨q, ys, rfl, hs, ry⟩ := aseq_at I.sim e ra
        obtain ⟨v, hv, rv⟩ := atI_rel ry e2
        rw [I.k, ← hk, I.h] at hs
        have z := I.now p' rv
        rcases hs with hs | hs
        · exact .inl ⟨q, ys, i, v, rfl, rfl, hs, hv, z⟩
        · exact .inr (.inl ⟨q, ys, i, v, rfl, rfl, hs, hv, z⟩)
  · exact p.elim
theorem e_ix {i j : IE} (hk : X.K = F.K) (ha : PE X a (TI F i)) (hb : PE X b (TI F j)) (hs : PlainIx b := by exact fun _ _ => rfl) : PE X (.Subscript a b pos) (TI F (iBin opIx i j)) :=
  PE.imp (pe_ix (ir_ix hk) ha hb hs) fun _ _ _ h => bin_r2 h
end
end M
/-! M5: statements, targets, while, for. -/
namespace M
open PySem PySem.Spec PyProof.Rows L2

def liftS {α : Type} (r : R α) (env : Env) (k : α → Sto → RS) : RS := match r with
  | .ok a st => k a st
  | .exc C fs st => .exc C fs env st
  | .bad => .bad
/-- a target's store -/
abbrev IG := D → Env → Sto → R Env
def PE_ (W : Vw) (env : Env) (σ : L2.St) : Prop := EnvR W env σ
def TG_ (F : Fx) (g : IG) : TG := fun v σ H Q => ∃ W st env d, At F W st env σ H ∧ RV W d v ∧ Post W PE_ (g d env st) Q (F.at_ σ)
theorem EnvR.set {W : Vw} {env : Env} {σ : L2.St} {d : D} {v : V} (h : EnvR W env σ) (r : RV W d v) (i : Nat) : EnvR W (env.set i (some d)) (σ.set i (some v)) := by
  refine ⟨by simp [h.len], fun j e q => ?_⟩
  by_cases hj : j = i
  · subst hj
    by_cases hl : j < env.length
    · rw [List.getElem?_set_self hl] at q
      cases q
      exact ⟨v, List.getElem?_set_self (by rw [← h.len]; exact hl), r⟩
    · rw [List.getElem?_eq_none (by simpa using hl)] at q; cases q
  · rw [List.getElem?_set_ne (Ne.symm hj)] at q
    obtain ⟨u, e1, r1⟩ := h.at_ j e q
    exact ⟨u, by rw [List.getElem?_set_ne (Ne.symm hj)]; exact e1, r1⟩

section
variable {X : Cx} {F : Fx} {pos : Pos} {st : Stmt} {rest : List Stmt} {e : Expr}
theorem PostS.nx {W : Vw} {s : Sto} {env : Env} {σ : L2.St} {N : Ends} {E : WX} (p : PostS W (.nx env s) N E) (S : Sim W s) (e : EnvR W env σ) : N.nx σ W.H := p W.ρ W.H σ Ext.refl S e
theorem PostS.mono {W : Vw} {r : RS} {N N' : Ends} {E : WX} (p : PostS W r N E) (h1 : ∀ σ H, N.nx σ H → N'.nx σ H) (h2 : ∀ v H, N.rt v H → N'.rt v H) (h3 : ∀ σ H, N.bk σ H → N'.bk σ H) (h4 : ∀ σ H, N.ct σ H → N'.ct σ H) : PostS W r N' E := by
  cases r with
  | nx a st => exact fun ρ2 H2 b x s y => h1 _ _ (p ρ2 H2 b x s y)
  | ret a st => exact fun ρ2 H2 b x s y => h2 _ _ (p ρ2 H2 b x s y)
  | bk a st => exact fun ρ2 H2 b x s y => h3 _ _ (p ρ2 H2 b x s y)
  | ct a st => exact fun ρ2 H2 b x s y => h4 _ _ (p ρ2 H2 b x s y)
  | exc C fs e st => exact p
  | bad => exact p
/-- an expression first -/
theorem TX.bindS {α β : Type} {P : Vw → α → β → Prop} {i : Env → Sto → R α} {k : α → Env → Sto → RS} {σ : L2.St} {H : Hp} {N : Ends}
    (h : TS_ F (fun env st => liftS (i env st) env fun a s => k a env s) N σ H) : TX P F i σ H fun b H' => ∃ W st env a, At F W st env σ H' ∧ P W a b ∧ PostS W (k a env st) N F.E := by
  obtain ⟨W, s, env, A, p⟩ := h
  refine ⟨W, s, env, A, ?_⟩
  have p' : PostS W (liftS (i env s) env fun a s => k a env s) N F.E := p
  cases r : i env s with
  | ok a s1 =>
    rw [r] at p'
    exact fun ρ' H' b x S q => ⟨W.to ρ' H', s1, env, a, A.next x S, q, PostS.ext x p'⟩
  | exc C fs s1 =>
    rw [r] at p'
    exact fun ρ' H' d x S q => p' ρ' H' σ d x S (A.env.mono x) q
  | bad => rw [r] at p'; exact p'
/-! ### blocks -/
def sNil : IS := fun env st => .nx env st
def kSeq (j : IS) : RS → RS
  | .nx env st => j env st
  | r => r
def sSeq (i j : IS) : IS := fun env st => kSeq j (i env st)
theorem s_nil : PSs X [] (TS_ F sNil) := PSs.imp pss_nil fun N σ H ⟨W, s, env, A, p⟩ => by
  have q := PostS.nx p A.sim A.env
  rw [A.h] at q
  exact q
theorem TS_.seq {i j : IS} {N : Ends} {σ : L2.St} {H : Hp} (h : TS_ F (sSeq i j) N σ H) : TS_ F i { N with nx := TS_ F j N } σ H := by
  obtain ⟨W, s, env, A, p⟩ := h
  refine ⟨W, s, env, A, ?_⟩
  have p' : PostS W (kSeq j (i env s)) N F.E := p
  cases r : i env s with
  | nx e2 s2 => rw [r] at p'; exact fun ρ' H' σ' x S q => ⟨W.to ρ' H', s2, e2, ⟨A.k, A.g, rfl, S, q⟩, PostS.ext x p'⟩
  | ret d s2 => rw [r] at p'; exact p'
  | bk e2 s2 => rw [r] at p'; exact p'
  | ct e2 s2 => rw [r] at p'; exact p'
  | exc C fs e2 s2 => rw [r] at p'; exact p'
  | bad => rw [r] at p'; exact p'
theorem s_cons {i j : IS} (h1 : PS X st (TS_ F i)) (h2 : PSs X rest (TS_ F j)) : PSs X (st :: rest) (TS_ F (sSeq i j)) := PSs.imp (pss_cons h1 h2) fun _ _ _ h => h.seq
theorem s_one {i : IS} (h1 : PS X st (TS_ F i)) : PSs X [st] (TS_ F i) := pss_one h1
def sBreak : IS := fun env st => .bk env st
def sCont : IS := fun env st => .ct env st
theorem s_break : PS X (.Break pos) (TS_ F sBreak) := PS.imp ps_break fun N σ H ⟨W, s, env, A, p⟩ => by
  have q := p W.ρ W.H σ Ext.refl A.sim A.env
  rw [A.h] at q
  exact q
theorem s_continue : PS X (.Continue pos) (TS_ F sCont) := PS.imp ps_continue fun N σ H ⟨W, s, env, A, p⟩ => by
  have q := p W.ρ W.H σ Ext.refl A.sim A.env
  rw [A.h] at q
  exact q
theorem s_pass : PS X (.Pass pos) (TS_ F sNil) := PS.imp ps_pass fun N σ H ⟨W, s, env, A, p⟩ => by
  have q := PostS.nx p A.sim A.env
  rw [A.h] at q
  exact q
theorem s_doc {x j pos'} : PS X (.Expr (.Constant (.str x) j pos) pos') (TS_ F sNil) := PS.imp ps_doc fun N σ H ⟨W, s, env, A, p⟩ => by
  have q := PostS.nx p A.sim A.env
  rw [A.h] at q
  exact q
/-- what is never reached -/
def sNever : IS := fun _ _ => .bad
theorem s_never : PS X st (TS_ F sNever) := PS.imp ps_never fun N σ H ⟨W, s, env, A, p⟩ => p
def sExpr (i : IE) : IS := fun env st => liftS (i env st) env fun _ s => .nx env s
theorem s_expr {i : IE} (he : PE X e (TI F i)) (hs : swapsWith e none pos.line X.env = pure false := by rfl) : PS X (.Expr e pos) (TS_ F (sExpr i)) := PS.imp (ps_expr he hs) fun N σ H h =>
  (TX.bindS (k := fun _ env s => .nx env s) h).mono fun x H1 ⟨W, s, env, a, A, r, p⟩ => by
    have q := PostS.nx p A.sim A.env
    rw [A.h] at q
    exact q
def sRet (i : IE) : IS := fun env st => liftS (i env st) env fun d s => .ret d s
theorem s_ret {i : IE} (he : PE X e (TI F i)) : PS X (.Return (some e) pos) (TS_ F (sRet i)) := PS.imp (ps_ret he) fun N σ H h =>
  (TX.bindS (k := fun d env s => .ret d s) h).mono fun x H1 ⟨W, s, env, a, A, r, p⟩ => by
    have q := p W.ρ W.H x Ext.refl A.sim r
    rw [A.h] at q
    exact q
def sRetN : IS := fun env st => .ret .non st
theorem s_retN : PS X (.Return none pos) (TS_ F sRetN) := PS.imp ps_retN fun N σ H ⟨W, s, env, A, p⟩ => by
  have q := p W.ρ W.H .non Ext.refl A.sim .non
  rw [A.h] at q
  exact q
def sIf (c : IT) (i j : IS) : IS := fun env st => liftS (c env st) env fun k s => if k = true then i env s else j env s
theorem s_if {c : Expr} {a b : List Stmt} {t : IT} {i j : IS} (hc : PT X c (TT_ F t)) (ha : PSs X a (TS_ F i)) (hb : PSs X b (TS_ F j)) : PS X (.If c a b pos) (TS_ F (sIf t i j)) := PS.imp (ps_if hc ha hb) fun N σ H h =>
  (TX.bindS (k := fun k env s => if k = true then i env s else j env s) h).mono fun x H1 ⟨W, s, env, a, A, r, p⟩ => by
    cases (show a = x from r)
    cases x with
    | true => exact ⟨W, s, env, A, p⟩
    | false => exact ⟨W, s, env, A, p⟩
/-! ### targets, assignments -/
def gVar (i : Nat) : IG := fun d env st => .ok (env.set i (some d)) st
theorem g_name {i : Nat} {x : Str} (hN : X.N.Nodup) (hi : X.N[i]? = some x) (hx : Loc X.env.scope x) (hf : X.fn x = true ∨ X.env.scope.names.lookup x = some .local := by first | exact .inl rfl | exact .inr rfl | assumption) : PG X (.Name x pos) (TG_ F (gVar i)) := by
  refine ⟨fun pins s σ H v u Q I r h => (pg_name (X := X) (pos := pos) hN hi hx hf).run pins s σ H v u Q I r ?_⟩
  obtain ⟨W, s, env, d, A, rv, p⟩ := h
  have q := p W.ρ W.H (σ.set i (some v)) Ext.refl A.sim (A.env.set rv i)
  rw [A.h] at q
  exact q
def sSet (i : Nat) (e : IE) : IS := fun env st => liftS (e env st) env fun d s => .nx (env.set i (some d)) s
theorem s_set {i : Nat} {x : Str} {j : IE} {pos' : Pos} (hN : X.N.Nodup) (hi : X.N[i]? = some x) (hx : Loc X.env.scope x) (he : PE X e (TI F j)) (hs : swapsWith e (some (.Name x pos')) pos.line X.env = pure false := by rfl) (hf : X.fn x = true ∨ X.env.scope.names.lookup x = some .local := by first | exact .inl rfl | exact .inr rfl | assumption) :
    PS X (.Assign [.Name x pos'] e pos) (TS_ F (sSet i j)) := PS.imp (ps_set hN hi hx he hs hf) fun N σ H h =>
  (TX.bindS (k := fun d env s => .nx (env.set i (some d)) s) h).mono fun v H1 ⟨W, s, env, a, A, r, p⟩ => by
    have q := PostS.nx p A.sim (A.env.set r i)
    rw [A.h] at q
    exact q
/-- x, y = a, b: both first -/
def sPar (i k : Nat) (a : IA) : IS := fun env st => liftS (a env st) env fun ds s => match ds with
  | [d, e] => .nx ((env.set i (some d)).set k (some e)) s
  | _ => .bad
theorem s_par {i j : Nat} {x y : Str} {a b : Expr} {ta : IA} {px py pt : Pos} {kt k2 pt2} (hc : X.calm = true) (hN : X.N.Nodup) (hi : X.N[i]? = some x) (hj : X.N[j]? = some y) (hij : i ≠ j)
    (hx : X.env.scope.names.lookup x = some .local) (hy : X.env.scope.names.lookup y = some .local) (ha : PA X [a, b] (TA_ F ta))
    (hw : swappedStores [.Tuple [.Name x px, .Name y py] kt pt] (.Tuple [a, b] k2 pt2) X.env = pure (some [x, y]))
    (hs : swapsWithSole [.Tuple [.Name x px, .Name y py] kt pt] (.Tuple [a, b] k2 pt2) pos.line X.env = pure false := by rfl) :
    PS X (.Assign [.Tuple [.Name x px, .Name y py] kt pt] (.Tuple [a, b] k2 pt2) pos) (TS_ F (sPar i j ta)) := PS.imp (ps_par hc hN hi hj hij hx hy ha hw hs) fun N σ H h =>
  (TX.bindS (k := fun ds env s => match ds with
  | [d, e] => .nx ((env.set i (some d)).set j (some e)) s
  | _ => .bad) h).mono fun vs H1 ⟨W, s, env, ds, A, r, p⟩ => by
    split at p
    · obtain ⟨v, u, rfl, r1, r2⟩ := rv2 r
      have q := PostS.nx p A.sim ((A.env.set r1 i).set r2 j)
      rw [A.h] at q
      exact ⟨v, u, rfl, q⟩
    · exact p.elim
/-- target = e -/
def sAsg (g : IG) (e : IE) : IS := fun env st => liftS (e env st) env fun d s => liftS (g d env s) env fun env' s' => .nx env' s'
theorem s_asg {tg : Expr} {g : IG} {j : IE} (he : PE X e (TI F j)) (hg : PG X tg (TG_ F g)) (hs : swapsWithSole [tg] e pos.line X.env = pure false := by rfl) (hw : swappedStores [tg] e X.env = pure none := by rfl)
    (h1 : (assignEach [tg] X.env).map (·.2) = [assign tg X.env] := by rfl) : PS X (.Assign [tg] e pos) (TS_ F (sAsg g j)) := PS.imp (ps_asg he hg hs hw h1) fun N σ H h =>
  (TX.bindS (k := fun d env s => liftS (g d env s) env fun env' s' => .nx env' s') h).mono fun v H1 ⟨W, s, env, a, A, r, p⟩ => by
    refine ⟨W, s, env, a, A, r, ?_⟩
    have p' : PostS W (liftS (g a env s) env fun env' s' => .nx env' s') N F.E := p
    cases q : g a env s with
    | ok e2 s2 => rw [q] at p'; exact p'
    | exc C fs s2 =>
      rw [q] at p'
      exact fun ρ' H' d x S z => p' ρ' H' σ d x S (A.env.mono x) z
    | bad => rw [q] at p'; exact p'
/-! ### targets that are tuples -/
abbrev IGs := List D → Env → Sto → R Env
def TGs_ (F : Fx) (g : IGs) : TGs := fun vs σ H Q => ∃ W st env ds, At F W st env σ H ∧ RVs W ds vs ∧ Post W PE_ (g ds env st) Q (F.at_ σ)
def gsNil : IGs := fun ds env st => match ds with
  | [] => .ok env st
  | _ => .bad
def gsVar (i : Nat) (r : IGs) : IGs := fun ds env st => match ds with
  | d :: ds => r ds (env.set i (some d)) st
  | _ => .bad
end
/-- the wish does not look at the slots (no try around in this frame) -/
def Fx.flat (F : Fx) : Prop := ∀ c d σ σ' H, F.E c d σ H → F.E c d σ' H
section
variable {X : Cx} {F : Fx} {pos : Pos}
theorem gs_nil : PGs X [] (TGs_ F gsNil) := by
  refine ⟨fun pins s σ H vs us Q I r h => (pgs_nil (X := X)).run pins s σ H vs us Q I r ?_⟩
  obtain ⟨W, s, env, ds, A, rv, p⟩ := h
  unfold gsNil at p
  split at p
  · cases rv
    have q := p W.ρ W.H σ Ext.refl A.sim A.env
    rw [A.h] at q
    exact ⟨rfl, q⟩
  · exact p.elim
theorem gs_name {i : Nat} {x : Str} {es : List Expr} {g : IGs} (hN : X.N.Nodup) (hi : X.N[i]? = some x) (hx : Loc X.env.scope x) (h2 : PGs X es (TGs_ F g)) (ne : ∀ ds env st C fs s, g ds env st ≠ .exc C fs s)
    (hs : (assignEach (.Name x pos :: es) X.env).map (·.2) = assign (.Name x pos) X.env :: (assignEach es X.env).map (·.2) := by rfl) (hf : X.fn x = true ∨ X.env.scope.names.lookup x = some .local := by first | exact .inl rfl | exact .inr rfl | assumption) :
    PGs X (.Name x pos :: es) (TGs_ F (gsVar i g)) := by
  refine ⟨fun pins s σ H vs us Q I r h => (pgs_cons (X := X) (pg_name (pos := pos) hN hi hx hf) h2 hs).run pins s σ H vs us Q I r ?_⟩
  obtain ⟨W, s, env, ds, A, rv, p⟩ := h
  unfold gsVar at p
  split at p
  · rename_i d ds
    cases rv with
    | cons h1 h3 =>
      refine ⟨_, _, rfl, W, s, env.set i (some d), ds, ⟨A.k, A.g, A.h, A.sim, A.env.set h1 i⟩, h3, ?_⟩
      cases q : g ds (env.set i (some d)) s with
      | ok e2 s2 => rw [q] at p; exact p
      | exc C fs s2 => exact absurd q (ne _ _ _ _ _ _)
      | bad => rw [q] at p; exact p
  · exact p.elim
theorem gsNil_ne : ∀ ds env st C fs s, gsNil ds env st ≠ .exc C fs s := fun ds env st C fs s h => by
  unfold gsNil at h
  split at h <;> cases h
theorem gsVar_ne {i : Nat} {g : IGs} (ne : ∀ ds env st C fs s, g ds env st ≠ .exc C fs s) : ∀ ds env st C fs s, gsVar i g ds env st ≠ .exc C fs s := fun ds env st C fs s h => by
  unfold gsVar at h
  split at h
  · exact ne _ _ _ _ _ _ h
  · cases h
/-- (a, b, ..) = a tuple of n -/
def gTup' (n : Nat) (g : IGs) : IG := fun d env st => match d with
  | .tup xs => if xs.length = n then g xs env st else .bad
  | _ => .bad
theorem g_tup {es : List Expr} {k n : Nat} {g : IGs} (hk : X.K = F.K) (hc : X.calm = true) (h : PGs X es (TGs_ F g))
    (hn : (assignEach es X.env).length = n := by rfl) (hst : (assignEach es X.env).findIdx? (·.1) = none := by rfl) : PG X (.Tuple es k pos) (TG_ F (gTup' n g)) := by
  refine ⟨fun pins s σ H v u Q I r hw => (pg_tup (X := X) (k := k) (pos := pos) hc h hn hst).run pins s σ H v u Q I r ?_⟩
  obtain ⟨W, s, env, d, A, rv, p⟩ := hw
  unfold gTup' at p
  split at p
  · rename_i xs
    split at p
    · rename_i c
      obtain ⟨a, ys, rfl, hs, ry⟩ := tup_at rv
      rw [A.k, ← hk, A.h] at hs
      exact ⟨a, ys, rfl, hs, by rw [← ry.length]; exact c, W, s, env, xs, A, ry, p⟩
    · exact p.elim
  · exact p.elim
/-! ### while -/
def kWhile (b : IS) (again : IS) : RS → RS
  | .nx env st => again env st
  | .ct env st => again env st
  | .bk env st => .nx env st
  | r => r
def sWhileN (c : IT) (b : IS) : Nat → IS
  | 0 => fun _ _ => .bad
  | n + 1 => fun env st => liftS (c env st) env fun k s => if k = true then kWhile b (sWhileN c b n) (b env s) else .nx env s
/-- while, with a bound of the turns read off the state at its start -/
def sWhile (m : Env → Sto → Nat) (c : IT) (b : IS) : IS := fun env st => sWhileN c b (m env st) env st
theorem s_while {m : Env → Sto → Nat} {c : Expr} {body : List Stmt} {t : IT} {b : IS} (hp : PassesOwn (model X.prog X.w) X.A X.env X.xe) (hc : PT X c (TT_ F t)) (hb : PSs X body (TS_ F b)) : PS X (.While c body [] pos) (TS_ F (sWhile m t b)) := by
  refine PS.imp (ps_while hp hc hb) fun N σ H ⟨W, s, env, A, p⟩ => ?_
  refine ⟨fun n σ H => TS_ F (sWhileN t b n) N σ H, ⟨m env s, W, s, env, A, p⟩, fun n σ H h => ?_⟩
  cases n with
  | zero =>
    obtain ⟨W, s, env, A, p⟩ := h
    exact p.elim
  | succ n =>
    refine (TX.bindS (k := fun k env s => if k = true then kWhile b (sWhileN t b n) (b env s) else .nx env s) h).mono fun x H1 ⟨W, s, env, a, A, r, p⟩ => ?_
    cases (show a = x from r)
    cases x with
    | false =>
      have q := PostS.nx p A.sim A.env
      rw [A.h] at q
      exact q
    | true =>
      rw [if_pos rfl]
      refine ⟨TS_ F (sWhileN t b n) N, fun σ' H' h => ⟨n, Nat.lt_succ_self n, h⟩, W, s, env, A, ?_⟩
      have p' : PostS W (kWhile b (sWhileN t b n) (b env s)) N F.E := p
      cases q : b env s with
      | nx e2 s2 => rw [q] at p'; exact fun ρ' H' σ' x S z => ⟨W.to ρ' H', s2, e2, ⟨A.k, A.g, rfl, S, z⟩, PostS.ext x p'⟩
      | ct e2 s2 => rw [q] at p'; exact fun ρ' H' σ' x S z => ⟨W.to ρ' H', s2, e2, ⟨A.k, A.g, rfl, S, z⟩, PostS.ext x p'⟩
      | bk e2 s2 => rw [q] at p'; exact p'
      | ret d s2 => rw [q] at p'; exact p'
      | exc C fs e2 s2 => rw [q] at p'; exact p'
      | bad => rw [q] at p'; exact p'
/-! ### for -/
/-- a later view, of which new things may be out of reach -/
structure VX (W V : Vw) : Prop where
  k : V.K = W.K
  g : V.g = W.g
  x : Ext W V.ρ V.H
  z : ∀ a, V.Z a → W.Z a ∨ W.H a = none
theorem VX.of {W : Vw} {ρ' : List Addr} {H' : Hp} (x : Ext W ρ' H') : VX W (W.to ρ' H') := ⟨rfl, rfl, x, fun _ h => .inl h⟩
section
variable {W V : Vw}
theorem VX.fro (x : VX W V) {a : Addr} {o : HO} (h : W.H a = some o) (f : W.fro a) : V.fro a := ⟨x.x.notin h f.1, fun z => (x.z a z).elim f.2 fun e => by rw [h] at e; cases e⟩
theorem Vw.Tup.vx (x : VX W V) {a : Addr} {ys : List L2.V} (h : W.Tup a ys) : V.Tup a ys := by
  rcases h with ⟨h, f⟩ | h
  · exact .inl ⟨x.x.keep _ _ h f.1, x.fro h f⟩
  · exact .inr (by rw [x.k]; exact h)
theorem Vw.Lst.vx (x : VX W V) {a : Addr} {ys : List L2.V} (h : W.Lst a ys) : V.Lst a ys := by
  rcases h with ⟨h | ⟨o, h⟩, f⟩ | h
  · exact .inl ⟨.inl (x.x.keep _ _ h f.1), x.fro h f⟩
  · exact .inl ⟨.inr ⟨o, x.x.keep _ _ h f.1⟩, x.fro h f⟩
  · exact .inr (by rw [x.k]; exact h)
mutual
theorem RV.vx (x : VX W V) : ∀ {d : D} {v : L2.V}, RV W d v → RV V d v
  | _, _, .non => .non
  | _, _, .bl b => .bl b
  | _, _, .int i => .int i
  | _, _, .str s => .str s
  | _, _, .ty n => .ty n
  | _, _, .glo s => by rw [← x.g]; exact .glo s
  | _, _, .tup h r => .tup (h.vx x) (r.vx x)
  | _, _, .lst h r => .lst (h.vx x) (r.vx x)
  | _, _, .dct h f e r => .dct (x.x.keep _ _ h f.1) (x.fro h f) e (r.vx x)
  | _, _, .obj h f r => .obj (by rw [x.g]; exact x.x.keep _ _ h f.1) (x.fro h f) (r.vx x)
  | _, _, .exc h f a b r => .exc (by rw [x.g]; exact x.x.keep _ _ h f.1) (x.fro h f) a (fun dx e => ⟨x.x.keep _ _ (b dx e).1 (b dx e).2.1, x.fro (b dx e).1 (b dx e).2⟩) (r.vx x)
  | _, _, .ref h => .ref (pre_get x.x.pre h)
theorem RVs.vx (x : VX W V) : ∀ {d : List D} {v : List L2.V}, RVs W d v → RVs V d v
  | _, _, .nil => .nil
  | _, _, .cons h r => .cons (h.vx x) (r.vx x)
theorem RFs.vx (x : VX W V) : ∀ {d : List (Str × D)} {v : List (Str × L2.V)}, RFs W d v → RFs V d v
  | _, _, .nil => .nil
  | _, _, .cons h r => .cons (h.vx x) (r.vx x)
end
end
/-- what a loop walks: at the turn i, the store as it is: stuck, the end, an item -/
abbrev Nx := Nat → Sto → Option (Option D)
structure ItOk (W : Vw) (a : Nx × Nat) (J : It) : Prop where
  go : ∀ V st i d, VX W V → Sim V st → a.1 i st = some (some d) → J.go i V.H ∧ ∀ x H2, J.yld i V.H x H2 → Ext V V.ρ H2 ∧ Sim (V.to V.ρ H2) st ∧ RV (V.to V.ρ H2) d x
  stop : ∀ V st i, VX W V → Sim V st → a.1 i st = some none → J.stop i V.H
abbrev IW := Env → Sto → R (Nx × Nat)
abbrev TW (F : Fx) (i : IW) : L2.TI := fun σ H Q => TX ItOk F i σ H Q
def forL (nx : Nx) (g : IG) (b : IS) : Nat → Nat → IS
  | 0, i => fun env st => match nx i st with
    | some none => .nx env st
    | _ => .bad
  | m + 1, i => fun env st => match nx i st with
    | some none => .nx env st
    | some (some d) => liftS (g d env st) env fun env1 s1 => kWhile b (forL nx g b m (i + 1)) (b env1 s1)
    | none => .bad
def sFor (w : IW) (g : IG) (b : IS) : IS := fun env st => liftS (w env st) env fun a s => forL a.1 g b a.2 0 env s
theorem s_for {tg iter : Expr} {body : List Stmt} {w : IW} {g : IG} {b : IS} (hp : PassesOwn (model X.prog X.w) X.A X.env X.xe) (hc : X.calm = true) (hi : PI X tg iter (TW F w)) (hg : PG X tg (TG_ F g)) (hb : PSs X body (TS_ F b))
    (hs : ∀ x, foldedSetIterable iter X.env x = pure x := by intro _; rfl) : PS X (.For tg iter body [] pos) (TS_ F (sFor w g b)) := by
  refine PS.imp (ps_for hp hc hi hg hb hs) fun N σ H h => ?_
  refine (TX.bindS (k := fun a env s => forL a.1 g b a.2 0 env s) h).mono fun J H1 ⟨W0, s, env, a, A, r, p⟩ => ?_
  obtain ⟨nx, m⟩ := a
  refine ⟨fun i m σ H => ∃ ρ' st env, At F (W0.to ρ' H) st env σ H ∧ Ext W0 ρ' H ∧ PostS (W0.to ρ' H) (forL nx g b m i env st) N F.E, ⟨m, W0.ρ, s, env, ?_⟩, fun i m σ H ⟨ρ', st, env, A, x, p⟩ => ?_⟩
  · have eH := A.h
    subst eH
    exact ⟨A, Ext.refl, p⟩
  · have S := A.sim
    have p' : PostS (W0.to ρ' H) (forL nx g b m i env st) N F.E := p
    cases m with
    | zero =>
      unfold forL at p'
      split at p'
      · rename_i e
        exact .inl ⟨r.stop (W0.to ρ' H) st i (.of x) S e, PostS.nx p' S A.env⟩
      · exact p'.elim
    | succ m =>
    unfold forL at p'
    split at p'
    · rename_i e
      exact .inl ⟨r.stop (W0.to ρ' H) st i (.of x) S e, PostS.nx p' S A.env⟩
    · rename_i d e
      obtain ⟨h1, h2⟩ := r.go (W0.to ρ' H) st i d (.of x) S e
      refine .inr ⟨h1, fun σ' H' => ∃ ρ' st env, At F (W0.to ρ' H') st env σ' H' ∧ Ext W0 ρ' H' ∧ PostS (W0.to ρ' H') (forL nx g b m (i + 1) env st) N F.E, fun σ' H' h => ⟨m, Nat.lt_succ_self m, h⟩, fun v H2 hy => ?_⟩
      obtain ⟨x2, S2, rv⟩ := h2 v H2 hy
      refine ⟨W0.to ρ' H2, st, env, d, ⟨A.k, A.g, rfl, S2, A.env.mono x2⟩, rv, ?_⟩
      have p2 := PostS.ext x2 p'
      have xx : Ext W0 ρ' H2 := x.trans x2
      cases q : g d env st with
      | bad => rw [q] at p2; exact p2
      | exc C fs s2 =>
        rw [q] at p2
        exact fun ρ3 H3 d x S z => p2 ρ3 H3 σ d x S ((A.env.mono x2).mono x) z
      | ok e2 s2 =>
        rw [q] at p2
        intro ρ3 H3 σ3 x3 S3 z3
        refine ⟨W0.to ρ3 H3, s2, e2, ⟨A.k, A.g, rfl, S3, z3⟩, ?_⟩
        have p3 : PostS (W0.to ρ3 H3) (kWhile b (forL nx g b m (i + 1)) (b e2 s2)) N F.E := PostS.ext (W := W0.to ρ' H2) x3 p2
        have x4 : Ext W0 ρ3 H3 := xx.trans x3
        cases q : b e2 s2 with
        | nx e3 s3 => rw [q] at p3; exact fun ρ5 H5 σ5 x5 S5 z => ⟨ρ5, s3, e3, ⟨A.k, A.g, rfl, S5, z⟩, x4.trans x5, PostS.ext (W := W0.to ρ3 H3) x5 p3⟩
        | ct e3 s3 => rw [q] at p3; exact fun ρ5 H5 σ5 x5 S5 z => ⟨ρ5, s3, e3, ⟨A.k, A.g, rfl, S5, z⟩, x4.trans x5, PostS.ext (W := W0.to ρ3 H3) x5 p3⟩
        | bk e3 s3 => rw [q] at p3; exact p3
        | ret d s3 => rw [q] at p3; exact p3
        | exc C fs e3 s3 => rw [q] at p3; exact p3
        | bad => rw [q] at p3; exact p3
    · exact p'.elim
/-! ### what is walked -/
def nxL (xs : List D) : Nx := fun i _ => some xs[i]?
def nxM (n : Nat) : Nx := fun i st => (lstAt st n).map fun xs => xs[i]?
def kSeqW (d : D) (s : Sto) : R (Nx × Nat) := match d with
  | .lst xs => .ok (nxL xs, xs.length) s
  | .ref n => match lstAt s n with
    | some xs => .ok (nxM n, xs.length) s
    | none => .bad
  | _ => .bad
def kTupW (d : D) (s : Sto) : R (Nx × Nat) := match d with
  | .tup xs => .ok (nxL xs, xs.length) s
  | _ => .bad
def wSeq (i : IE) : IW := fun env st => (i env st).bind kSeqW
def wTup (i : IE) : IW := fun env st => (i env st).bind kTupW
theorem PI.imp {tg e : Expr} {t t' : L2.TI} (h : PI X tg e t) (w : ∀ σ H Q, t' σ H Q → t σ H Q) : PI X tg e t' := ⟨fun p s σ H Q I q => h.run p s σ H Q I (w σ H Q q)⟩
theorem itok_tup {W : Vw} {a : Addr} {xs : List D} {ys : List V} {m : Nat} (t : W.Tup a ys) (r : RVs W xs ys) : ItOk W (nxL xs, m) (Itt W.K a) where
  go := fun V st i d x S e => by
    have e' : xs[i]? = some d := Option.some.inj e
    have t' := (t.vx x).sq
    have r' := r.vx x
    rw [x.k] at t'
    obtain ⟨v, hv, rv⟩ := r'.get e'
    refine ⟨⟨ys, v, t', hv⟩, fun y H2 ⟨e2, f⟩ => ?_⟩
    subst e2
    have q := f ys t'
    rw [hv] at q
    cases q
    exact ⟨Ext.refl, S, rv⟩
  stop := fun V st i x S e => by
    have e' : xs[i]? = none := Option.some.inj e
    refine ⟨ys, by rw [← x.k]; exact (t.vx x).sq, ?_⟩
    rw [← r.length]
    exact List.getElem?_eq_none_iff.mp e'
theorem itok_lst {W : Vw} {a : Addr} {xs : List D} {ys : List V} {m : Nat} (t : W.Lst a ys) (r : RVs W xs ys) : ItOk W (nxL xs, m) (Itl W.K a) where
  go := fun V st i d x S e => by
    have e' : xs[i]? = some d := Option.some.inj e
    have t' := (t.vx x).sq
    have r' := r.vx x
    rw [x.k] at t'
    obtain ⟨v, hv, rv⟩ := r'.get e'
    refine ⟨⟨ys, v, t', hv⟩, fun y H2 ⟨e2, f⟩ => ?_⟩
    subst e2
    have q := f ys t'
    rw [hv] at q
    cases q
    exact ⟨Ext.refl, S, rv⟩
  stop := fun V st i x S e => by
    have e' : xs[i]? = none := Option.some.inj e
    refine ⟨ys, by rw [← x.k]; exact (t.vx x).sq, ?_⟩
    rw [← r.length]
    exact List.getElem?_eq_none_iff.mp e'
theorem itok_ref {W : Vw} {a : Addr} {n m : Nat} (h : W.ρ[n]? = some a) : ItOk W (nxM n, m) (Itl W.K a) where
  go := fun V st i d x S e => by
    obtain ⟨xs, hx, e'⟩ := Option.map_eq_some_iff.mp (show (lstAt st n).map (fun xs => xs[i]?) = some (some d) from e)
    obtain ⟨ys, h1, r1⟩ := S.at_ n _ a (lstAt_eq hx) (pre_get x.x.pre h)
    obtain ⟨v, hv, rv⟩ := r1.get e'
    refine ⟨⟨ys, v, .inl (.inl h1), hv⟩, fun y H2 ⟨e2, f⟩ => ?_⟩
    subst e2
    have q := f ys (.inl (.inl h1))
    rw [hv] at q
    cases q
    exact ⟨Ext.refl, S, rv⟩
  stop := fun V st i x S e => by
    obtain ⟨xs, hx, e'⟩ := Option.map_eq_some_iff.mp (show (lstAt st n).map (fun xs => xs[i]?) = some none from e)
    obtain ⟨ys, h1, r1⟩ := S.at_ n _ a (lstAt_eq hx) (pre_get x.x.pre h)
    exact ⟨ys, .inl (.inl h1), by rw [← r1.length]; exact List.getElem?_eq_none_iff.mp e'⟩
theorem w_tup {tg l : Expr} {i : IE} (hk : X.K = F.K) (hl : PE X l (TI F i)) : PI X tg l (TW F (wTup i)) := PI.imp (pi_tup hl) fun σ H Q h =>
  (TX.bind (k := fun d env s => kTupW d s) h).mono fun x H1 ⟨W, s, env, d, A, r, p⟩ => by
    have p' : Post W ItOk (kTupW d s) Q (F.at_ σ) := p
    unfold kTupW at p'
    split at p'
    · rename_i xs
      cases r with
      | tup t r =>
        have q := p' W.ρ W.H _ Ext.refl A.sim (itok_tup t r)
        have t' := t.sq
        rw [A.k, ← hk] at q t'
        rw [A.h] at q t'
        exact ⟨_, rfl, ⟨_, t'⟩, q⟩
    · exact p'.elim
theorem w_seq {tg l : Expr} {i : IE} (hk : X.K = F.K) (hl : PE X l (TI F i)) : PI X tg l (TW F (wSeq i)) := PI.imp (pi_list hl) fun σ H Q h =>
  (TX.bind (k := fun d env s => kSeqW d s) h).mono fun x H1 ⟨W, s, env, d, A, r, p⟩ => by
    have p' : Post W ItOk (kSeqW d s) Q (F.at_ σ) := p
    unfold kSeqW at p'
    split at p'
    · rename_i xs
      cases r with
      | lst t r =>
        have q := p' W.ρ W.H _ Ext.refl A.sim (itok_lst t r)
        have t' := t.sq
        rw [A.k, ← hk] at q t'
        rw [A.h] at q t'
        exact ⟨_, rfl, ⟨_, t'⟩, q⟩
    · rename_i n
      cases e : lstAt s n with
      | none => rw [e] at p'; exact p'.elim
      | some xs =>
        rw [e] at p'
        cases r with
        | ref h =>
          have q := p' W.ρ W.H _ Ext.refl A.sim (itok_ref h)
          obtain ⟨ys, h1, r1⟩ := A.sim.at_ n _ _ (lstAt_eq e) h
          rw [A.k, ← hk] at q
          rw [A.h] at q h1
          exact ⟨_, rfl, ⟨ys, .inl (.inl h1)⟩, q⟩
    · exact p'.elim
def nxR (lo : Int) (n : Nat) : Nx := fun i _ => if i < n then some (some (.int (lo + i))) else some none
theorem itok_rng {W : Vw} {lo : Int} {n m : Nat} : ItOk W (nxR lo n, m) (Itr lo n) where
  go := fun V st i d x S e => by
    have e' : (if i < n then some (some (D.int (lo + i))) else some none) = some (some d) := e
    split at e'
    · rename_i c
      cases e'
      exact ⟨c, fun y H2 ⟨e2, f⟩ => by subst e2; subst f; exact ⟨Ext.refl, S, .int _⟩⟩
    · cases e'
  stop := fun V st i x S e => by
    have e' : (if i < n then some (some (D.int (lo + i))) else some none) = some none := e
    split at e'
    · cases e'
    · rename_i c
      exact Nat.not_lt.mp c
def kRng1 (ds : List D) (s : Sto) : R (Nx × Nat) := match ds with
  | [.int j] => if -(2 ^ 62) ≤ j ∧ j < 2 ^ 62 then .ok (nxR 0 j.toNat, j.toNat) s else .bad
  | _ => .bad
def kRng2 (ds : List D) (s : Sto) : R (Nx × Nat) := match ds with
  | [.int i, .int j] => if -(2 ^ 62) ≤ i ∧ i < 2 ^ 62 ∧ -(2 ^ 62) ≤ j ∧ j < 2 ^ 62 then .ok (nxR i (j - i).toNat, (j - i).toNat) s else .bad
  | _ => .bad
def wRng1 (i : IA) : IW := fun env st => (i env st).bind kRng1
def wRng2 (i : IA) : IW := fun env st => (i env st).bind kRng2
theorem w_rng1 {tg a : Expr} {p pos : Pos} {i : IA} (hg : Gl X "range") (hm : X.mg "range" = none) (ha : PA X [a] (TA_ F i)) (hs : starEach [a] X.env = [(false, eval a X.env)] := by rfl) : PI X tg (.Call (.Name "range" p) [a] [] pos) (TW F (wRng1 i)) := PI.imp (pi_range1 hg hm ha hs) fun σ H Q h =>
  (TX.bind (k := fun d env s => kRng1 d s) h).mono fun x H1 ⟨W, s, env, d, A, r, p⟩ => by
    have p' : Post W ItOk (kRng1 d s) Q (F.at_ σ) := p
    unfold kRng1 at p'
    split at p'
    · split at p'
      · rename_i c
        obtain ⟨v, rfl, rv⟩ := rv1 r
        cases rv
        have q := p' W.ρ W.H _ Ext.refl A.sim itok_rng
        rw [A.h] at q
        exact ⟨_, rfl, c.1, c.2, q⟩
      · exact p'.elim
    · exact p'.elim
theorem w_rng2 {tg a b : Expr} {p pos : Pos} {i : IA} (hg : Gl X "range") (hm : X.mg "range" = none) (ha : PA X [a, b] (TA_ F i)) (hs : starEach [a, b] X.env = [(false, eval a X.env), (false, eval b X.env)] := by rfl) (hs2 : starEach [b] X.env = [(false, eval b X.env)] := by rfl) :
    PI X tg (.Call (.Name "range" p) [a, b] [] pos) (TW F (wRng2 i)) := PI.imp (pi_range2 hg hm ha hs hs2) fun σ H Q h =>
  (TX.bind (k := fun d env s => kRng2 d s) h).mono fun x H1 ⟨W, s, env, d, A, r, p⟩ => by
    have p' : Post W ItOk (kRng2 d s) Q (F.at_ σ) := p
    unfold kRng2 at p'
    split at p'
    · split at p'
      · rename_i c
        obtain ⟨v, u, rfl, rv, ru⟩ := rv2 r
        cases rv
        cases ru
        have q := p' W.ρ W.H _ Ext.refl A.sim itok_rng
        rw [A.h] at q
        exact ⟨_, _, rfl, c, q⟩
      · exact p'.elim
    · exact p'.elim
end
end M
/-! M6: list comprehensions. -/
namespace M
open PySem PySem.Spec PyProof.Rows L2

/-- an error in a comprehension is not carried -/
def R.nox {α : Type} : R α → R α
  | .exc _ _ _ => .bad
  | r => r
abbrev Fx.quiet (F : Fx) : Fx := { F with E := fun _ _ _ _ => False }
/-- a target of a comprehension: one slot, or a tuple of slots -/
inductive Pat where
  | one (i : Nat)
  | tup (is : List Nat)
def Pat.slots : Pat → List Nat
  | .one i => [i]
  | .tup is => is
def setAll : List Nat → List D → Env → Option Env
  | [], [], env => some env
  | i :: is, d :: ds, env => setAll is ds (env.set i (some d))
  | _, _, _ => none
def Pat.bind : Pat → D → Env → Option Env
  | .one i, d, env => some (env.set i (some d))
  | .tup is, .tup xs, env => setAll is xs env
  | _, _, _ => none
def wipeE (env : Env) : List Nat → Env
  | [] => env
  | v :: vs => (wipeE env vs).set v none
def compApp (n : Nat) (v : D) (s : Sto) (k : Sto → R Unit) : R Unit := match lstAt s n with
  | some acc => if acc.length < sizeLine then k (s.set n (.lst (acc ++ [v]))) else .bad
  | none => .bad
def compL (nx : Nx) (p : Pat) (t : IT) (e : IE) (env0 : Env) (n : Nat) : Nat → Nat → Sto → R Unit
  | 0, i => fun st => match nx i st with
    | some none => .ok () st
    | _ => .bad
  | m + 1, i => fun st => match nx i st with
    | some none => .ok () st
    | some (some d) => match p.bind d env0 with
      | some env => ((t env st).nox).bind fun k s1 => if k = true then ((e env s1).nox).bind fun v s2 => compApp n v s2 (compL nx p t e env0 n m (i + 1)) else compL nx p t e env0 n m (i + 1) s1
      | none => .bad
    | none => .bad
def iComp (w : IW) (p : Pat) (t : IT) (e : IE) : IE := fun env st => (w env st).bind fun a s => (compL a.1 p t e (wipeE env p.slots) s.length a.2 0 (s ++ [.lst []])).bind fun _ s2 => .ok (.ref s.length) s2
def tYes' : IT := fun _ st => .ok true st

theorem wipeE_len (env : Env) : ∀ vs : List Nat, (wipeE env vs).length = env.length
  | [] => rfl
  | v :: vs => by unfold wipeE; rw [List.length_set, wipeE_len env vs]
theorem EnvR.clear {W : Vw} {env : Env} {σ : L2.St} (h : EnvR W env σ) (i : Nat) : EnvR W (env.set i none) (σ.set i none) := by
  refine ⟨by simp [h.len], fun j e q => ?_⟩
  by_cases hj : j = i
  · subst hj
    by_cases hl : j < env.length
    · rw [List.getElem?_set_self hl] at q; cases q
    · rw [List.getElem?_eq_none (by simpa using hl)] at q; cases q
  · rw [List.getElem?_set_ne (Ne.symm hj)] at q
    obtain ⟨u, e1, r1⟩ := h.at_ j e q
    exact ⟨u, by rw [List.getElem?_set_ne (Ne.symm hj)]; exact e1, r1⟩
theorem EnvR.wipe {W : Vw} {env : Env} {σ : L2.St} (h : EnvR W env σ) : ∀ vs : List Nat, EnvR W (wipeE env vs) (L2.wipe σ vs)
  | [] => h
  | v :: vs => (h.wipe vs).clear v
theorem wipe_set {i : Nat} {x : Option V} : ∀ {vs : List Nat} {σ : L2.St}, i ∈ vs → L2.wipe (σ.set i x) vs = L2.wipe σ vs
  | v :: vs, σ, h => by
    unfold L2.wipe
    by_cases hi : i ∈ vs
    · rw [wipe_set hi]
    · have e : i = v := by
        rcases List.mem_cons.mp h with e | e
        · exact e
        · exact absurd e hi
      subst e
      have aux : ∀ {vs : List Nat} {σ : L2.St}, i ∉ vs → L2.wipe (σ.set i x) vs = (L2.wipe σ vs).set i x := by
        intro vs
        induction vs with
        | nil => intro σ _; rfl
        | cons u us ih =>
          intro σ hn
          have h1 : i ≠ u := fun e => hn (by simp [e])
          have h2 : i ∉ us := fun e => hn (by simp [e])
          unfold L2.wipe
          rw [ih h2, List.set_comm _ _ h1]
      rw [aux hi, List.set_set]
theorem wipe_wipe (σ : L2.St) : ∀ vs : List Nat, L2.wipe (L2.wipe σ vs) vs = L2.wipe σ vs := by
  have aux : ∀ (us vs : List Nat), (∀ i ∈ us, i ∈ vs) → L2.wipe (L2.wipe σ us) vs = L2.wipe σ vs := by
    intro us vs
    induction us with
    | nil => intro _; rfl
    | cons u us ih =>
      intro h
      rw [show L2.wipe σ (u :: us) = (L2.wipe σ us).set u none from rfl, wipe_set (h u (by simp)), ih fun i hi => h i (by simp [hi])]
  exact fun vs => aux vs vs fun _ h => h

section
variable {X : Cx} {F : Fx} {pos : Pos}
/-- how a target's reading stands for a pattern -/
structure PatOk (K : PySem.W.Frag) (p : Pat) (g : TG) : Prop where
  go : ∀ (W : Vw) (d : D) (v : V) (env env' : Env) (σ : L2.St) (Q : L2.St → Hp → Prop), W.K = K → RV W d v → EnvR W env σ → p.bind d env = some env' → (∀ σ', EnvR W env' σ' → L2.wipe σ' p.slots = L2.wipe σ p.slots → Q σ' W.H) → g v σ W.H Q
theorem patOk_one {K : PySem.W.Frag} {i : Nat} : PatOk K (.one i) (gName i) := ⟨fun W d v env env' σ Q _ r e b h => by
  cases b
  exact h _ (e.set r i) (wipe_set (by simp [Pat.slots]))⟩
def gsOf : List Nat → TGs
  | [] => gNil
  | i :: is => gCons (gName i) (gsOf is)
theorem gsOf_ok {W : Vw} {Q : L2.St → Hp → Prop} {sl : List Nat} : ∀ {is : List Nat} {ds : List D} {vs : List V} {env env' : Env} {σ : L2.St}, (∀ i ∈ is, i ∈ sl) → RVs W ds vs → EnvR W env σ → setAll is ds env = some env' → (∀ σ', EnvR W env' σ' → L2.wipe σ' sl = L2.wipe σ sl → Q σ' W.H) → gsOf is vs σ W.H Q
  | [], _, _, _, _, _, _, .nil, e, b, h => by cases b; exact ⟨rfl, h _ e rfl⟩
  | [], _, _, _, _, _, _, .cons _ _, e, b, h => by cases b
  | _ :: _, _, _, _, _, _, _, .nil, e, b, h => by cases b
  | i :: is, _, _, _, _, _, hs, .cons h1 r, e, b, h =>
    ⟨_, _, rfl, gsOf_ok (fun j hj => hs j (by simp [hj])) r (e.set h1 i) b fun σ' e' w => h σ' e' (by rw [w, wipe_set (hs i (by simp))])⟩
theorem patOk_tup {K : PySem.W.Frag} {is : List Nat} {n : Nat} (hn : is.length = n) : PatOk K (.tup is) (gTup K n (gsOf is)) := ⟨fun W d v env env' σ Q hk r e b h => by
  cases d with
  | tup xs =>
    obtain ⟨a, ys, rfl, t, ry⟩ := tup_at r
    have len : ∀ {is : List Nat} {ds : List D} {env env' : Env}, setAll is ds env = some env' → ds.length = is.length := by
      intro is
      induction is with
      | nil => intro ds env env' h; cases ds <;> first | rfl | cases h
      | cons i is ih => intro ds env env' h; cases ds with
        | nil => cases h
        | cons d ds => rw [List.length_cons, List.length_cons, ih h]
    rw [hk] at t
    exact ⟨a, ys, rfl, t, by rw [← ry.length, len b, hn], gsOf_ok (fun _ h => h) ry e b h⟩
  | _ => cases b⟩
def PU (_ : Vw) (_ _ : Unit) : Prop := True
/-- a turn's pieces -/
theorem comp_ok {w : IW} {p : Pat} {t : IT} {e : IE} {g : TG} {σ : L2.St} {H : Hp} {Q : VK} (hp : PatOk F.K p g) (h : TI F (iComp w p t e) σ H Q) : tLc (TW F w) g (TT_ F.quiet t) (TI F.quiet e) p.slots σ H Q := by
  refine (TX.bind (k := fun a env s => (compL a.1 p t e (wipeE env p.slots) s.length a.2 0 (s ++ [.lst []])).bind fun _ s2 => R.ok (D.ref s.length) s2) h).mono fun J H1 ⟨W0, s, env, a, A, r, q⟩ => ?_
  obtain ⟨nx, m⟩ := a
  intro D hD
  have eH := A.h
  subst eH
  have S0 := A.sim
  have x1 : Ext W0 (W0.ρ ++ [D]) (upd W0.H D (.lst [])) := ext_new [D] (fun a m => by rw [List.mem_singleton.mp m]; exact hD) hD
  have S1 : Sim (W0.to (W0.ρ ++ [D]) (upd W0.H D (.lst []))) (s ++ [.lst []]) := S0.new hD (lst_or hD .nil)
  generalize hW : W0.to (W0.ρ ++ [D]) (upd W0.H D (.lst [])) = W1 at S1
  have hH1 : W1.H = upd W0.H D (.lst []) := by rw [← hW]
  have hg1 : W1.g = W0.g := by rw [← hW]
  have hK1 : W1.K = W0.K := by rw [← hW]
  have hn : W1.ρ[s.length]? = some D := by
    rw [← hW]
    show (W0.ρ ++ [D])[s.length]? = some D
    rw [List.getElem?_append_right (by rw [S0.len]; omega), S0.len]
    simp
  have toW : ∀ ρ' H', Ext W1 ρ' H' → Ext W0 ρ' H' := fun ρ' H' x => by subst hW; exact x1.trans x
  have eqW : ∀ ρ' H', W1.to ρ' H' = W0.to ρ' H' := fun ρ' H' => by subst hW; rfl
  have q1 : Post W1 PU (compL nx p t e (wipeE env p.slots) s.length m 0 (s ++ [.lst []])) (fun _ H' => Q (.ref D) H') (F.at_ σ) := by
    have q' : PostE W0 ((compL nx p t e (wipeE env p.slots) s.length m 0 (s ++ [.lst []])).bind fun _ s2 => .ok (.ref s.length) s2) Q (F.at_ σ) := q
    cases z : compL nx p t e (wipeE env p.slots) s.length m 0 (s ++ [.lst []]) with
    | ok u s2 =>
      rw [z] at q'
      intro ρ' H' _ x S _
      rw [eqW] at S
      exact q' ρ' H' (.ref D) (toW _ _ x) S (.ref (pre_get x.pre hn))
    | exc C fs s2 => rw [z] at q'; intro ρ' H' d x S z; rw [eqW] at S z; rw [hg1]; exact q' ρ' H' d (toW _ _ x) S z
    | bad => rw [z] at q'; exact q'.elim
  have env1 : EnvR W1 (wipeE env p.slots) (L2.wipe σ p.slots) := by
    subst hW
    exact (A.env.wipe p.slots).mono x1
  refine ⟨fun i m H => ∃ ρ' st, Ext W1 ρ' H ∧ Sim (W1.to ρ' H) st ∧ Post (W1.to ρ' H) PU (compL nx p t e (wipeE env p.slots) s.length m i st) (fun _ H' => Q (.ref D) H') (F.at_ σ), ⟨m, W1.ρ, s ++ [.lst []], ?_⟩, fun i m H ⟨ρ', st, x, S, q⟩ => ?_⟩
  · rw [← hH1]
    exact ⟨Ext.refl, S1, q1⟩
  cases m with
  | zero =>
    unfold compL at q
    split at q
    · rename_i en
      refine .inl ⟨r.stop (W0.to ρ' H) st i (.of (toW _ _ x)) (by rw [← eqW]; exact S) en, ?_⟩
      exact q ρ' H () (Ext.refl (W := W1.to ρ' H)) S trivial
    · exact q.elim
  | succ m =>
    unfold compL at q
    split at q
    · rename_i en
      refine .inl ⟨r.stop (W0.to ρ' H) st i (.of (toW _ _ x)) (by rw [← eqW]; exact S) en, ?_⟩
      exact q ρ' H () (Ext.refl (W := W1.to ρ' H)) S trivial
    · rename_i d en
      obtain ⟨h1, h2⟩ := r.go (W0.to ρ' H) st i d (.of (toW _ _ x)) (by rw [← eqW]; exact S) en
      refine .inr ⟨h1, fun H => ∃ ρ' st, Ext W1 ρ' H ∧ Sim (W1.to ρ' H) st ∧ Post (W1.to ρ' H) PU (compL nx p t e (wipeE env p.slots) s.length m (i + 1) st) (fun _ H' => Q (.ref D) H') (F.at_ σ), fun H' z => ⟨m, Nat.lt_succ_self m, z⟩, fun v H2 hy => ?_⟩
      obtain ⟨x2, S2, rv⟩ := h2 v H2 hy
      rw [← eqW] at x2 S2 rv
      have x3 : Ext W1 ρ' H2 := x.trans x2
      cases hb : p.bind d (wipeE env p.slots) with
      | none => rw [hb] at q; exact q.elim
      | some env' =>
        rw [hb] at q
        refine hp.go (W1.to ρ' H2) d v _ _ _ _ (by rw [← A.k, ← hK1]) rv (env1.mono x3) hb fun σ' er ew => ⟨by rw [ew, wipe_wipe], ?_⟩
        have q2 : Post (W1.to ρ' H2) PU (((t env' st).nox).bind fun k s1 => if k = true then ((e env' s1).nox).bind fun v s2 => compApp s.length v s2 (compL nx p t e (wipeE env p.slots) s.length m (i + 1)) else compL nx p t e (wipeE env p.slots) s.length m (i + 1) s1) (fun _ H' => Q (.ref D) H') (F.at_ σ) := Post.ext (W := W1.to ρ' H) x2 q
        refine ⟨W1.to ρ' H2, st, env', ⟨by rw [← A.k, ← hK1], by rw [← A.g, ← hg1], rfl, S2, er⟩, ?_⟩
        cases ht : t env' st with
        | bad => rw [ht] at q2; exact q2.elim
        | exc C fs s1 => rw [ht] at q2; exact q2.elim
        | ok k s1 =>
          rw [ht] at q2
          intro ρ3 H3 b x4 S3 eb
          cases (show k = b from eb)
          have q3 : Post (W1.to ρ3 H3) PU (if k = true then ((e env' s1).nox).bind fun v s2 => compApp s.length v s2 (compL nx p t e (wipeE env p.slots) s.length m (i + 1)) else compL nx p t e (wipeE env p.slots) s.length m (i + 1) s1) (fun _ H' => Q (.ref D) H') (F.at_ σ) := Post.ext (W := W1.to ρ' H2) x4 q2
          cases k with
          | false => exact ⟨ρ3, s1, x3.trans x4, S3, q3⟩
          | true =>
            rw [if_pos rfl] at q3 ⊢
            refine ⟨W1.to ρ3 H3, s1, env', ⟨by rw [← A.k, ← hK1], by rw [← A.g, ← hg1], rfl, S3, er.mono (W := W1.to ρ' H2) x4⟩, ?_⟩
            cases he : e env' s1 with
            | bad => rw [he] at q3; exact q3.elim
            | exc C fs s2 => rw [he] at q3; exact q3.elim
            | ok y s2 =>
              rw [he] at q3
              intro ρ5 H5 yv x5 S5 ry
              have q4 : Post (W1.to ρ5 H5) PU (compApp s.length y s2 (compL nx p t e (wipeE env p.slots) s.length m (i + 1))) (fun _ H' => Q (.ref D) H') (F.at_ σ) := Post.ext (W := W1.to ρ3 H3) x5 q3
              have x6 : Ext W1 ρ5 H5 := (x3.trans x4).trans x5
              unfold compApp at q4
              split at q4
              · rename_i acc ha
                split at q4
                · rename_i c
                  have hn5 := pre_get x6.pre hn
                  obtain ⟨ys, hl, rl⟩ := S5.at_ s.length _ D (lstAt_eq ha) hn5
                  have x7 : Ext (W1.to ρ5 H5) ρ5 (upd H5 D (.lst (ys ++ [yv]))) := ext_put (W := W1.to ρ5 H5) (List.mem_of_getElem? hn5)
                  refine ⟨ys, hl, by rw [← rl.length]; exact c, ρ5, s2.set s.length (.lst (acc ++ [y])), x6.trans x7, Sim.put (W := W1.to ρ5 H5) S5 hn5 ⟨ys ++ [yv], upd_same, RVs.mono x7 (rl.append (.cons ry .nil))⟩, Post.ext (W := W1.to ρ5 H5) x7 q4⟩
                · exact q4.elim
              · exact q4.elim
    · exact q.elim
theorem e_lc {elt tg iter : Expr} {ifs : List Expr} {scope : Scope} {own : List (Str × Nat)} {g : TG} {p : Pat} {w : IW} {t : IT} {e : IE} (hp : PatOk F.K p g) (ho : own.map (·.2) = p.slots) (hc : X.calm = true) (hN : X.N.Nodup) (hi : PI X tg iter (TW F w)) (ok : BlkOk X.N X.env.scope scope own)
    (hg : ∀ (s : Shared) (H : Hp) (C : Addr) (cl : List (Str × Addr)) (fp : List Addr), PG (X.blk s H scope (compEnvC scope cl C X.env) fp) tg g) (ht : ∀ (s : Shared) (H : Hp) (C : Addr) (cl : List (Str × Addr)) (fp : List Addr), PTs (X.blk s H scope (compEnvC scope cl C X.env) fp) ifs (TT_ F.quiet t))
    (he : ∀ (s : Shared) (H : Hp) (C : Addr) (cl : List (Str × Addr)) (fp : List Addr), PE (X.blk s H scope (compEnvC scope cl C X.env) fp) elt (TI F.quiet e)) (hs : ∀ x, foldedSetIterable iter X.env x = pure x := by intro _; rfl) :
    PE X (.ListComp elt [⟨tg, iter, ifs, 0⟩] scope pos) (TI F (iComp w p t e)) := PE.imp (pe_lc hc hN hi ok hg ht he hs) fun σ H Q h => by rw [ho]; exact comp_ok hp h
theorem ts_nil : PTs X [] (TT_ F tYes') := ⟨fun pins s σ H Q I h => (pts_nil (X := X)).run pins s σ H Q I (by
  obtain ⟨W, st, env, A, p⟩ := h
  have q := PostT.now p A.sim
  rw [A.h] at q
  exact q)⟩
theorem ts_one {c : Expr} {t : IT} (h : PT X c (TT_ F t)) : PTs X [c] (TT_ F t) := pts_one h
/-- name = [..] -/
theorem s_setLc {i : Nat} {y : Str} {py : Pos} {elt tg iter : Expr} {ifs : List Expr} {scope : Scope} {own : List (Str × Nat)} {spos : Pos} {g : TG} {p : Pat} {w : IW} {t : IT} {e : IE} (hp : PatOk F.K p g) (ho : own.map (·.2) = p.slots) (hc : X.calm = true) (hN : X.N.Nodup) (hy : X.N[i]? = some y) (hyl : X.env.scope.names.lookup y = some .local)
    (hsw : swapsWith (.ListComp elt [⟨tg, iter, ifs, 0⟩] scope pos) (some (.Name y py)) spos.line X.env = pure true) (hi : PI X tg iter (TW F w)) (ok : BlkOk X.N X.env.scope scope own)
    (hg : ∀ (s : Shared) (H : Hp) (C : Addr) (cl : List (Str × Addr)) (fp : List Addr), PG (X.blk s H scope (compEnvC scope cl C X.env) fp) tg g) (ht : ∀ (s : Shared) (H : Hp) (C : Addr) (cl : List (Str × Addr)) (fp : List Addr), PTs (X.blk s H scope (compEnvC scope cl C X.env) fp) ifs (TT_ F.quiet t))
    (he : ∀ (s : Shared) (H : Hp) (C : Addr) (cl : List (Str × Addr)) (fp : List Addr), PE (X.blk s H scope (compEnvC scope cl C X.env) fp) elt (TI F.quiet e)) (hs : ∀ x, foldedSetIterable iter X.env x = pure x := by intro _; rfl) :
    PS X (.Assign [.Name y py] (.ListComp elt [⟨tg, iter, ifs, 0⟩] scope pos) spos) (TS_ F (sSet i (iComp w p t e))) := PS.imp (ps_setLc hc hN hy hyl hsw hi ok hg ht he hs) fun N σ H h => by
  rw [ho]
  exact comp_ok hp ((TX.bindS (k := fun d env s => .nx (env.set i (some d)) s) h).mono fun v H1 ⟨W, s, env, a, A, r, p⟩ => by
    have q := PostS.nx p A.sim (A.env.set r i)
    rw [A.h] at q
    exact q)
end
end M
/-! M7: defs and their calls. -/
namespace M
open PySem PySem.Spec PyProof.Rows L2

/-- what a def is: arguments and store in, result out -/
abbrev Fn := List D → Sto → R D
/-- its promise -/
def SPx (K : PySem.W.Frag) (g : Str → Addr) (f : Fn) : Sp := fun vs H Q E => ∃ W st ds, W.K = K ∧ W.g = g ∧ W.H = H ∧ Sim W st ∧ RVs W ds vs ∧ PostE W (f ds st) Q E
/-- how a body ends -/
def endB : RS → R D
  | .nx _ st => .ok .non st
  | .ret d st => .ok d st
  | .exc C fs _ st => .exc C fs st
  | _ => .bad
/-- a def by its body: n slots, p parameters -/
def runB (b : IS) (n p : Nat) : Fn := fun ds st => if ds.length = p then endB (b (ds.map some ++ List.replicate (n - p) none) st) else .bad
theorem env_start {W : Vw} {ds : List D} {vs : List V} {N : List Str} {p : Nat} (r : RVs W ds vs) (hl : ds.length = p) : EnvR W (ds.map some ++ List.replicate (N.length - p) none) (L2.start N vs) := by
  unfold L2.start
  refine ⟨by simp [r.length, ← hl], fun i d e => ?_⟩
  by_cases hi : i < ds.length
  · rw [List.getElem?_append_left (by simpa using hi), List.getElem?_map] at e
    cases q : ds[i]? with
    | none => rw [q] at e; cases e
    | some d' =>
      rw [q] at e
      cases e
      obtain ⟨v, hv, rv⟩ := r.get q
      exact ⟨v, by rw [List.getElem?_append_left (by rw [List.length_map, ← r.length]; exact hi), List.getElem?_map, hv]; rfl, rv⟩
  · rw [List.getElem?_append_right (by simpa using hi), List.getElem?_replicate] at e
    split at e <;> cases e
section
variable {P : Program} {w : World} {K : PySem.W.Frag} {mg : Str → Option Value} {base : Heap} {g : Str → Addr}
abbrev Fx.of (K : PySem.W.Frag) (g : Str → Addr) (E : XK) : Fx := ⟨K, g, fun c d _ H => E c d H⟩
/-- a def's promise, where no repr is under way -/
structure FnG (P : Program) (w : World) (K : PySem.W.Frag) (mg : Str → Option Value) (base : Heap) (k : Nat) (f : Addr) (fd : FuncData) (ps : List Str) (sp : Sp) : Prop where
  len : ∀ vs H Q E, sp vs H Q E → vs.length = ps.length
  run : ∀ (A : Around) (outer : List PySem.Env) (s : Shared) (H : Hp) (args : Args) (us : List Value) (vs : List V) (Q : VK) (E : XK), Room k A → A.guards = some [] → Env0 P w K mg base A outer s H → BindsTo s fd args (ps.zip us) → Vals vs us → sp vs H Q E →
    codeAny (model P w) A (.call (.ref f) args) (CR (L2.CX P w) outer P w H s Q E) s
theorem FnG.of {k : Nat} {f : Addr} {fd : FuncData} {ps : List Str} {sp : Sp} (G : FnOk P w K mg base (L2.CX P w) k f fd ps sp) : FnG P w K mg base k f fd ps sp := ⟨G.len, fun A o s H a us vs Q E hr _ => G.run A o s H a us vs Q E hr⟩
theorem FnG.imp {k : Nat} {f : Addr} {fd : FuncData} {ps : List Str} {sp sp' : Sp} (G : FnG P w K mg base k f fd ps sp) (h : ∀ vs H Q E, sp' vs H Q E → sp vs H Q E) : FnG P w K mg base k f fd ps sp' :=
  ⟨fun vs H Q E q => G.len vs H Q E (h _ _ _ _ q), fun A o s H a us vs Q E hr hg e b v q => G.run A o s H a us vs Q E hr hg e b v (h _ _ _ _ q)⟩
theorem FnG.mono {j k : Nat} {f : Addr} {fd : FuncData} {ps : List Str} {sp : Sp} (G : FnG P w K mg base j f fd ps sp) (h : j ≤ k) : FnG P w K mg base k f fd ps sp := ⟨G.len, fun A o s H a us vs Q E hr => G.run A o s H a us vs Q E (hr.mono h)⟩
/-- THE RULE for a def: its body's walk -/
theorem fn_ok {x qual : Str} {params : Arguments} {body : List Stmt} {scope : Scope} {dvs : List V} {kws : List (Str × V)} {f : Addr} {fd : FuncData} {N ps : List Str} {k : Nat} {b : IS} (Fd : FunD K x qual params body scope dvs kws f fd) (S : FnScope N ps scope)
    (hb : ∀ (cdv : Value) (A : Around) (outer : List PySem.Env) (s : Shared) (H : Hp) (E : XK), Room k (A.deeper (envOfC qual scope s.heap.objs.size f cdv)) → A.guards = some [] → PSs (cxOf (L2.CX P w) P w K mg base N qual scope f cdv A outer s H E) body (TS_ (Fx.of K g E) b)) :
    FnG P w K mg base (k + 1) f fd ps (SPx K g (runB b N.length ps.length)) := by
  have len : ∀ vs H Q E, SPx K g (runB b N.length ps.length) vs H Q E → vs.length = ps.length := fun vs H Q E ⟨W, st, ds, _, _, _, _, r, p⟩ => by
    unfold runB at p
    split at p
    · rename_i c
      rw [← r.length, c]
    · exact p.elim
  refine ⟨len, fun A outer s H args us vs Q E hr hgd e0 hbi rv hsp => ?_⟩
  obtain ⟨oc, od, dV, kV, doc, pm, an, cdv, ct, osl, rfl, lk, hcd, _, _⟩ := Fd.ex
  have hl := len _ _ _ _ hsp
  have kin : K.In s.heap := e0.mod.kin.keeps fun b o e => (e0.bs b o e).1
  have kinds : ∀ y ∈ ps.zip us, scope.names.lookup y.1 = some .local ∨ (scope.names.lookup y.1 = some .cell ∧ ((cellsFrom (s.heap.objs.size + 1) scope.names []).lookup y.1).isSome = true) := fun ⟨n, v⟩ hy =>
    (S.par n (List.of_mem_zip hy).1).elim .inl fun q => .inr ⟨q, PySem.W.cellsFrom_some _ _ _ (.inl q)⟩
  refine codeAny_call_function hr.depth (kin _ _ lk) rfl S.co S.gen rfl (PySem.W.codeRec_of kin hcd) (hbi _ _ _ _ (wpAny_newFunctionEnv_cells S.kind kinds fun env he s1 x => ?_))
  subst he
  refine ⟨(e0.mod.nolimit.keeps fun b o e => (e0.bs b o e).1).keeps x.toInCall.keep, codeAny_func ?_⟩
  have wk : TS_ (Fx.of K g E) b { nx := fun _ H' => Q .non H', rt := Q } (L2.start N vs) H := by
    obtain ⟨W, st, ds, hk, hg, hh, S, r, p⟩ := hsp
    unfold runB at p
    split at p
    · rename_i c
      refine ⟨W, st, _, ⟨hk, hg, hh, S, env_start r c⟩, ?_⟩
      cases q : b (ds.map some ++ List.replicate (N.length - ps.length) none) st with
      | nx e s => rw [q] at p; exact fun ρ' H' σ' x S z => p ρ' H' .non x S .non
      | ret d s => rw [q] at p; exact p
      | bk e s => rw [q] at p; exact p.elim
      | ct e s => rw [q] at p; exact p.elim
      | exc C fs e s => rw [q] at p; exact fun ρ' H' σ' d x S z => p ρ' H' d x S
      | bad => rw [q] at p; exact p.elim
    · exact p.elim
  have I0 : Inv (cxOf (L2.CX P w) P w K mg base N qual scope f cdv A outer s H E) [] (L2.start N vs) H s1 := inv_start S hr.hd e0 hl rv x
  refine wpAny_mono ((hb cdv A outer s H E (hr.deeper _) hgd).run [] s1 _ H _ I0 wk) (fun fl s' hs => ?_) fun e s' hs => hs
  have fin : ∀ {σ' : L2.St} {H' : Hp} {v : V} {u : Value}, Inv (cxOf (L2.CX P w) P w K mg base N qual scope f cdv A outer s H E) [] σ' H' s' → RelV v u → Q v H' → CE outer P w H s Q u s' :=
    fun J r q => ⟨_, _, J.os, J.bare, J.base, J.hok, r, q⟩
  cases fl with
  | ret u => obtain ⟨v, σ', H', J, r, q⟩ := hs; exact fin J r q
  | next => obtain ⟨σ', H', J, q⟩ := hs; exact fin (v := V.non) (u := Value.none) J rfl q
  | brk => obtain ⟨_, _, _, q⟩ := hs; exact q.elim
  | cont => obtain ⟨_, _, _, q⟩ := hs; exact q.elim
end

/-! ### calls -/
def iCall (f : Fn) (dd : List D) (j : IA) : IE := fun env st => (j env st).bind fun ds s => f (ds ++ dd) s
section
variable {X : Cx} {F : Fx} {k : Nat} {f : Addr} {fd : FuncData} {ps : List Str} {ds : List Value} {dvs : List V} {x : Str} {p pos : Pos} {e : Expr} {es : List Expr} {fs : Fn} {j : IA} {dd : List D}
theorem sp_of {σ : L2.St} {H : Hp} {Q : VK} {vs : List V} (hdd : ∀ W : Vw, W.K = F.K → W.g = F.g → RVs W dd dvs) (h : TK RVs RV F (fun ds env s => fs (ds ++ dd) s) vs σ H Q) : SPx F.K F.g fs (vs ++ dvs) H Q (F.at_ σ) := by
  obtain ⟨W, st, env, ds, A, r, p⟩ := h
  exact ⟨W, st, ds ++ dd, A.k, A.g, A.h, A.sim, r.append (hdd W A.k A.g), p⟩
/-- the callee runs -/
theorem run_g {pins : List (Addr × Obj)} {σ : L2.St} {H : Hp} {s : Shared} {Q : VK} {us : List Value} {vs : List V} {sp : Sp} (G : FnG X.prog X.w X.K X.mg X.base k f fd ps sp) (hr : Room k X.A) (hgd : X.A.guards = some []) (hb : Binds X.K fd ps ds) (hd : Vals dvs ds) (tk : Takes X F.E)
    (I : Inv X pins σ H s) (r : Vals vs us) (h : sp (vs ++ dvs) H Q (F.at_ σ)) : wpAny (model X.prog X.w) X.A (call (.ref f) us) (EP X pins σ Q) X.xe s := by
  have r2 : Vals (vs ++ dvs) (us ++ ds) := r.append hd
  refine wpAny_call (codeAny_mono (G.run X.A X.stack s H ⟨us, []⟩ (us ++ ds) (vs ++ dvs) Q (F.at_ σ) hr hgd I.env0 (hb s us I.kIn (r2.length.symm.trans (G.len _ _ _ _ h))) r2 h) fun r s' hq => ?_)
  cases r with
  | error e => exact tk e s' (XE.of_call I (fun _ _ _ h => h) hq)
  | ok fl =>
    cases fl with
    | ret u => exact I.after hq
    | next => exact hq.elim
    | brk => exact hq.elim
    | cont => exact hq.elim
theorem e_call (G : FnG X.prog X.w X.K X.mg X.base k f fd ps (SPx F.K F.g fs)) (hr : Room k X.A) (hgd : X.A.guards = some []) (hg : Gl X x) (hm : X.mg x = some (.ref f)) (hk : PySem.W.keepIn X.K (.ref f) = true) (hb : Binds X.K fd ps ds) (hd : Vals dvs ds) (hdd : ∀ W : Vw, W.K = F.K → W.g = F.g → RVs W dd dvs) (tk : Takes X F.E)
    (ha : PA X (e :: es) (TA_ F j)) (hdb : (x == ("__debug__" : Str)) = false := by decide) (he : starEach (e :: es) X.env = (false, eval e X.env) :: starEach es X.env := by rfl) (hpl : (backTo pos (starEach es X.env)).any (·.1) = false := by rfl) :
    PE X (.Call (.Name x p) (e :: es) [] pos) (TI F (iCall fs dd j)) := by
  refine ⟨fun pins s σ H Q I h => ?_⟩
  refine wpAny_Call_Name_kw (ld_glob I hg hm (PySem.W.callWith_K (h₀ := X.base) I.ok.mod.kin hk (thn (ha.run pos pins s σ H _ I (TX.bind (k := fun ds env s => fs (ds ++ dd) s) h)) fun us s1 ⟨vs, H1, I1, r, q⟩ => ⟨I1.kIn, ?_⟩) he hpl) hdb)
  exact run_g G hr hgd hb hd tk I1 r (sp_of hdd q)
theorem e_call0 (G : FnG X.prog X.w X.K X.mg X.base k f fd ps (SPx F.K F.g fs)) (hr : Room k X.A) (hgd : X.A.guards = some []) (hg : Gl X x) (hm : X.mg x = some (.ref f)) (hk : PySem.W.keepIn X.K (.ref f) = true) (hb : Binds X.K fd ps ds) (hd : Vals dvs ds) (hdd : ∀ W : Vw, W.K = F.K → W.g = F.g → RVs W dd dvs) (tk : Takes X F.E)
    (hdb : (x == ("__debug__" : Str)) = false := by decide) : PE X (.Call (.Name x p) [] [] pos) (TI F (iCall fs dd aNil)) := by
  refine ⟨fun pins s σ H Q I h => ?_⟩
  refine wpAny_Call_Name_kw (ld_glob I hg hm (PySem.W.callWith_K0 I.kIn hk (run_g (us := []) (vs := []) G hr hgd hb hd tk I .nil ?_)) hdb)
  obtain ⟨W, st, env, A, p⟩ := h
  exact sp_of (vs := []) hdd ⟨W, st, env, [], A, .nil, p⟩
end

/-! ### defs that look at nothing of the store -/
mutual
def noRef : D → Bool
  | .tup xs => noRefs xs
  | .lst xs => noRefs xs
  | .dct _ xs => noRefs xs
  | .obj _ fs => noRefF fs
  | .exc _ fs => noRefF fs
  | .ref _ => false
  | .non => true
  | .bl _ => true
  | .int _ => true
  | .str _ => true
  | .ty _ => true
  | .glo _ => true
def noRefs : List D → Bool
  | [] => true
  | x :: xs => noRef x && noRefs xs
def noRefF : List (Str × D) → Bool
  | [] => true
  | x :: xs => noRef x.2 && noRefF xs
end
def allF (f : D → Option D) : List (Str × D) → Option (List (Str × D))
  | [] => some []
  | (x, d) :: xs => match f d, allF f xs with
    | some p, some ps => some ((x, p) :: ps)
    | _, _ => none
/-- nobody changes it any more -/
def frz (st : Sto) : Nat → D → Option D
  | 0, _ => none
  | n + 1, d => match d with
    | .tup xs => (allP (frz st n) xs).map .tup
    | .lst xs => (allP (frz st n) xs).map .lst
    | .dct ks xs => (allP (frz st n) xs).map (.dct ks)
    | .obj C fs => (allF (frz st n) fs).map (.obj C)
    | .exc C fs => (allF (frz st n) fs).map (.exc C)
    | .ref k => match st[k]? with
      | some (.lst xs) => (allP (frz st n) xs).map .lst
      | some (.ins C fs) => (allF (frz st n) fs).map (.obj C)
      | some (.dct kvs) => (allP (frz st n) (kvs.map (·.2))).map (.dct (kvs.map (·.1)))
      | _ => none
    | d => some d
section
variable {W W' : Vw} {st : Sto}
/-- what may be said of W's things in W' -/
structure Into (W W' : Vw) : Prop where
  k : W'.K = W.K
  g : W'.g = W.g
  h : W'.H = W.H
  fro : ∀ a, W.fro a → W'.fro a
  ref : ∀ a ∈ W.ρ, W'.fro a
theorem Vw.Tup.into (i : Into W W') {a : Addr} {ys : List V} (h : W.Tup a ys) : W'.Tup a ys := by
  rcases h with ⟨h, f⟩ | h
  · exact .inl ⟨by rw [i.h]; exact h, i.fro a f⟩
  · exact .inr (by rw [i.k]; exact h)
theorem Vw.Lst.into (i : Into W W') {a : Addr} {ys : List V} (h : W.Lst a ys) : W'.Lst a ys := by
  rcases h with ⟨h, f⟩ | h
  · exact .inl ⟨by rw [i.h]; exact h, i.fro a f⟩
  · exact .inr (by rw [i.k]; exact h)
theorem allP_rv {f : D → Option D} (hf : ∀ d d' v, f d = some d' → RV W d v → RV W' d' v) : ∀ {xs xs' : List D} {ys : List V}, allP f xs = some xs' → RVs W xs ys → RVs W' xs' ys
  | [], _, _, h, .nil => by cases h; exact .nil
  | x :: xs, _, _, h, .cons r rs => by
    obtain ⟨p, q, e1, e2, rfl⟩ := allP_cons h
    exact .cons (hf _ _ _ e1 r) (allP_rv hf e2 rs)
theorem allF_rv {f : D → Option D} (hf : ∀ d d' v, f d = some d' → RV W d v → RV W' d' v) : ∀ {xs xs' : List (Str × D)} {ys : List (Str × V)}, allF f xs = some xs' → RFs W xs ys → RFs W' xs' ys
  | [], _, _, h, .nil => by cases h; exact .nil
  | (x, d) :: xs, _, _, h, .cons r rs => by
    unfold allF at h
    split at h
    · rename_i p ps e1 e2
      cases h
      exact .cons (hf _ _ _ e1 r) (allF_rv hf e2 rs)
    · cases h
theorem frz_rv (i : Into W W') (S : Sim W st) : ∀ (n : Nat) (d d' : D) (v : V), frz st n d = some d' → RV W d v → RV W' d' v
  | 0, _, _, _, h, _ => by cases h
  | n + 1, d, d', v, h, r => by
    have ih := frz_rv i S n
    cases r with
    | non => cases h; exact .non
    | bl b => cases h; exact .bl b
    | int b => cases h; exact .int b
    | str b => cases h; exact .str b
    | ty b => cases h; exact .ty b
    | glo b => cases h; rw [← i.g]; exact .glo b
    | tup t r =>
      obtain ⟨xs, e, rfl⟩ := Option.map_eq_some_iff.mp h
      exact .tup (t.into i) (allP_rv ih e r)
    | lst t r =>
      obtain ⟨xs, e, rfl⟩ := Option.map_eq_some_iff.mp h
      exact .lst (t.into i) (allP_rv ih e r)
    | dct t f k r =>
      obtain ⟨xs, e, rfl⟩ := Option.map_eq_some_iff.mp h
      exact .dct (by rw [i.h]; exact t) (i.fro _ f) k (allP_rv ih e r)
    | obj t f r =>
      obtain ⟨xs, e, rfl⟩ := Option.map_eq_some_iff.mp h
      exact .obj (by rw [i.h, i.g]; exact t) (i.fro _ f) (allF_rv ih e r)
    | exc t f a b r =>
      obtain ⟨xs, e, rfl⟩ := Option.map_eq_some_iff.mp h
      exact .exc (by rw [i.h, i.g]; exact t) (i.fro _ f) a (fun dx q => ⟨by rw [i.h]; exact (b dx q).1, i.fro _ (b dx q).2⟩) (allF_rv ih e r)
    | @ref k a e =>
      have h' : (match st[k]? with
      | some (O.lst xs) => (allP (frz st n) xs).map D.lst
      | some (O.ins C fs) => (allF (frz st n) fs).map (D.obj C)
      | some (O.dct kvs) => (allP (frz st n) (kvs.map (·.2))).map (D.dct (kvs.map (·.1)))
      | _ => none) = some d' := h
      have m := List.mem_of_getElem? e
      split at h'
      · rename_i xs q
        obtain ⟨xs', e2, rfl⟩ := Option.map_eq_some_iff.mp h'
        obtain ⟨ys, h1, r1⟩ := S.at_ k _ a q e
        exact .lst (.inl ⟨.inl (by rw [i.h]; exact h1), i.ref a m⟩) (allP_rv ih e2 r1)
      · rename_i C xs q
        obtain ⟨xs', e2, rfl⟩ := Option.map_eq_some_iff.mp h'
        obtain ⟨dx, ys, h1, r1⟩ := S.at_ k _ a q e
        exact .obj (by rw [i.h, i.g]; exact h1) (i.ref a m) (allF_rv ih e2 r1)
      · rename_i kvs q
        obtain ⟨xs', e2, rfl⟩ := Option.map_eq_some_iff.mp h'
        obtain ⟨ys, h1, hk, r1⟩ := S.at_ k _ a q e
        exact .dct (by rw [i.h]; exact h1) (i.ref a m) hk.symm (allP_rv ih e2 r1)
      · cases h'
mutual
theorem noRef_rv (i : ∀ a, W.fro a → W'.fro a) (hk : W'.K = W.K) (hg : W'.g = W.g) (hh : W'.H = W.H) : ∀ {d : D} {v : V}, noRef d = true → RV W d v → RV W' d v
  | _, _, _, .non => .non
  | _, _, _, .bl _ => .bl _
  | _, _, _, .int _ => .int _
  | _, _, _, .str _ => .str _
  | _, _, _, .ty _ => .ty _
  | _, _, _, .glo x => by rw [← hg]; exact .glo x
  | .tup xs, _, h, .tup t r => .tup (by
      rcases t with ⟨t, f⟩ | t
      · exact .inl ⟨by rw [hh]; exact t, i _ f⟩
      · exact .inr (by rw [hk]; exact t)) (noRefs_rv i hk hg hh (show noRefs xs = true from h) r)
  | .lst xs, _, h, .lst t r => .lst (by
      rcases t with ⟨t, f⟩ | t
      · exact .inl ⟨by rw [hh]; exact t, i _ f⟩
      · exact .inr (by rw [hk]; exact t)) (noRefs_rv i hk hg hh (show noRefs xs = true from h) r)
  | .dct ks xs, _, h, .dct t f k r => .dct (by rw [hh]; exact t) (i _ f) k (noRefs_rv i hk hg hh (show noRefs xs = true from h) r)
  | .obj C fs, _, h, .obj t f r => .obj (by rw [hh, hg]; exact t) (i _ f) (noRefF_rv i hk hg hh (show noRefF fs = true from h) r)
  | .exc C fs, _, h, .exc t f a b r => .exc (by rw [hh, hg]; exact t) (i _ f) a (fun dx q => ⟨by rw [hh]; exact (b dx q).1, i _ (b dx q).2⟩) (noRefF_rv i hk hg hh (show noRefF fs = true from h) r)
  | .ref n, _, h, _ => by cases h
theorem noRefs_rv (i : ∀ a, W.fro a → W'.fro a) (hk : W'.K = W.K) (hg : W'.g = W.g) (hh : W'.H = W.H) : ∀ {d : List D} {v : List V}, noRefs d = true → RVs W d v → RVs W' d v
  | _, _, _, .nil => .nil
  | x :: xs, _, h, .cons r rs => by
    have h' := Bool.and_eq_true_iff.mp (show (noRef x && noRefs xs) = true from h)
    exact .cons (noRef_rv i hk hg hh h'.1 r) (noRefs_rv i hk hg hh h'.2 rs)
theorem noRefF_rv (i : ∀ a, W.fro a → W'.fro a) (hk : W'.K = W.K) (hg : W'.g = W.g) (hh : W'.H = W.H) : ∀ {d : List (Str × D)} {v : List (Str × V)}, noRefF d = true → RFs W d v → RFs W' d v
  | _, _, _, .nil => .nil
  | (f, x) :: xs, _, h, .cons r rs => by
    have h' := Bool.and_eq_true_iff.mp (show (noRef x && noRefF xs) = true from h)
    exact .cons (noRef_rv i hk hg hh h'.1 r) (noRefF_rv i hk hg hh h'.2 rs)
end
end
/-- a def that knows no thing of the store: it is run upon an empty one, what it hands back is frozen -/
def pureA (f : Fn) : Fn := fun ds st => if noRefs ds = true then (match f ds [] with
  | .ok d s => match frz s 70 d with
    | some d' => .ok d' st
    | none => .bad
  | .exc C fs s => match allF (frz s 70) fs with
    | some fs' => .exc C fs' st
    | none => .bad
  | .bad => .bad) else .bad
def atom : D → Bool
  | .non => true
  | .bl _ => true
  | .int _ => true
  | .str _ => true
  | _ => false
/-- .. that may read what the store holds, and hands back a plain value -/
def pureB (f : Fn) : Fn := fun ds st => match allP (frz st 70) ds with
  | some ds' => (match f ds' [] with
    | .ok d _ => if atom d = true then .ok d st else .bad
    | _ => .bad)
  | none => .bad
theorem atom_rv {W W' : Vw} {d : D} {v : V} (h : atom d = true) (r : RV W d v) : RV W' d v := by
  cases r <;> first | exact .non | exact .bl _ | exact .int _ | exact .str _ | cases h
section
variable {P : Program} {w : World} {K : PySem.W.Frag} {mg : Str → Option Value} {base : Heap} {g : Str → Addr} {k : Nat} {fa : Addr} {fd : FuncData} {ps : List Str} {f : Fn}
theorem ext_hide {W : Vw} {Z : Addr → Prop} {ρ' : List Addr} {H' : Hp} (x : Ext { W with ρ := [], Z := Z } ρ' H') : Ext W W.ρ H' := ⟨List.prefix_refl _, fun a m => .inl m, fun a o h _ => x.keep a o h (by simp)⟩
theorem fn_pureA (G : FnG P w K mg base k fa fd ps (SPx K g f)) : FnG P w K mg base k fa fd ps (SPx K g (pureA f)) := G.imp fun vs H Q E ⟨W, st, ds, hk, hg, hh, S, r, p⟩ => by
  unfold pureA at p
  split at p
  · rename_i c
    let W1 : Vw := { W with ρ := [], Z := fun a => W.Z a ∨ a ∈ W.ρ }
    have S1 : Sim W1 [] := ⟨rfl, List.nodup_nil, fun a m => by simp [W1] at m, fun a z => z.elim (S.zt a) S.tr, fun n o a h _ => by simp at h⟩
    have r1 : RVs W1 ds vs := noRefs_rv (W' := W1) (fun a h => ⟨by simp [W1], fun z => z.elim h.2 h.1⟩) rfl rfl rfl c r
    have key : ∀ ρ' H' s, Ext W1 ρ' H' → Sim (W1.to ρ' H') s → Ext W W.ρ H' ∧ Sim (W.to W.ρ H') st ∧ Into (W1.to ρ' H') (W.to W.ρ H') := fun ρ' H' s x Ss => by
      have xx : Ext W W.ρ H' := ext_hide x
      refine ⟨xx, S.frozen xx fun a m => ?_, ⟨rfl, rfl, rfl, fun a h => ⟨fun m => h.2 (.inr m), fun z => h.2 (.inl z)⟩, fun a m => ?_⟩⟩
      · obtain ⟨o, e⟩ := S.tr m
        rw [e]
        exact x.keep a o e (by simp [W1])
      · have hn : W.H a = none := (x.new a m).elim (fun z => by simp [W1] at z) id
        refine ⟨fun m => ?_, fun z => ?_⟩
        · obtain ⟨o, e⟩ := S.tr m
          rw [hn] at e; cases e
        · obtain ⟨o, e⟩ := S.zt a z
          rw [hn] at e; cases e
    refine ⟨W1, [], ds, hk, hg, hh, S1, r1, ?_⟩
    cases q : f ds [] with
    | bad => rw [q] at p; exact p.elim
    | ok d s =>
      rw [q] at p
      intro ρ' H' v x Ss rv
      obtain ⟨k1, k2, k3⟩ := key ρ' H' s x Ss
      cases e : frz s 70 d with
      | none =>
        have p' : PostE W (match frz s 70 d with
          | some d' => .ok d' st
          | none => .bad) Q E := p
        rw [e] at p'; exact p'.elim
      | some d' =>
        have p' : PostE W (match frz s 70 d with
          | some d' => .ok d' st
          | none => .bad) Q E := p
        rw [e] at p'
        exact p' W.ρ H' v k1 k2 (frz_rv k3 Ss 70 d d' v e rv)
    | exc C fs s =>
      rw [q] at p
      intro ρ' H' d x Ss ⟨gs, rg, z1, z2⟩
      obtain ⟨k1, k2, k3⟩ := key ρ' H' s x Ss
      cases e : allF (frz s 70) fs with
      | none =>
        have p' : PostE W (match allF (frz s 70) fs with
          | some fs' => .exc C fs' st
          | none => .bad) Q E := p
        rw [e] at p'; exact p'.elim
      | some fs' =>
        have p' : PostE W (match allF (frz s 70) fs with
          | some fs' => .exc C fs' st
          | none => .bad) Q E := p
        rw [e] at p'
        exact p' W.ρ H' d k1 k2 ⟨gs, allF_rv (frz_rv k3 Ss 70) e rg, z1, fun dx hd => ⟨(z2 dx hd).1, k3.fro _ (z2 dx hd).2⟩⟩
  · exact p.elim
theorem fn_pureB (G : FnG P w K mg base k fa fd ps (SPx K g f)) : FnG P w K mg base k fa fd ps (SPx K g (pureB f)) := G.imp fun vs H Q E ⟨W, st, ds, hk, hg, hh, S, r, p⟩ => by
  unfold pureB at p
  split at p
  · rename_i ds' hds
    let W1 : Vw := { W with ρ := [] }
    have S1 : Sim W1 [] := ⟨rfl, List.nodup_nil, fun a m => by simp [W1] at m, S.zt, fun n o a h _ => by simp at h⟩
    have r1 : RVs W1 ds' vs := allP_rv (W := W) (W' := W1) (frz_rv (W := W) (W' := W1) ⟨rfl, rfl, rfl, fun a h => ⟨by simp [W1], h.2⟩, fun a m => ⟨by simp [W1], S.nz a m⟩⟩ S 70) hds r
    refine ⟨W1, [], ds', hk, hg, hh, S1, r1, ?_⟩
    cases q : f ds' [] with
    | bad => rw [q] at p; exact p.elim
    | exc C fs s => rw [q] at p; exact p.elim
    | ok d s =>
      rw [q] at p
      intro ρ' H' v x Ss rv
      have p' : PostE W (if atom d = true then .ok d st else .bad) Q E := p
      split at p'
      · rename_i c
        have xx : Ext W W.ρ H' := ext_hide (Z := W.Z) x
        refine p' W.ρ H' v xx (S.frozen xx fun a m => ?_) (atom_rv c rv)
        obtain ⟨o, e⟩ := S.tr m
        rw [e]
        exact x.keep a o e (by simp [W1])
      · exact p'.elim
  · exact p.elim
end

/-! ### the law's call -/
section
variable {P : Program} {w : World} {K : PySem.W.Frag} {mg mb : Str → Option Value} {k : Nat} {fa a : Addr} {fd : FuncData} {x : Str} {sp : Sp} {s1 : Shared} {vs : List Value} {ns : List Int}
/-- what is to be shown of the call -/
abbrev LawEnd (s1 : Shared) (r : Result) (s' : Shared) : Prop := r = .ok (.ret (.bool true)) ∧ OldK s1.heap s'.heap ∧ s'.os = s1.os ∧ AllBare s'.gens
theorem law_core {H : Hp} (KX : K.In s1.heap) (hns : s1.heap.Ns mainGlobals mg) (hb : s1.heap.Ns builtinsNs mb) (hbb : ∀ x : Str, x ≠ "__name__" → mb x = bootBuiltins x) (hlim : s1.heap.NoLimit) (hg : s1.gens = #[])
    (ha : s1.heap.get? a = some { cls := .type "list", data := .seq vs.toArray }) (hr : Room k callerA) (G : ∀ base : Heap, FnG P w K mg base k fa fd [x] sp) (bi : ∀ (s : Shared) (u : Value), BindsTo s fd ⟨[u], []⟩ [(x, u)])
    (hO : Only H) (hok : HOk P w H s1.heap) (hA : ∀ b, H b ≠ none → b = a) (hK : H a ≠ none → K.lookup a = none) (hsp : sp [.ref a] H (fun v _ => v = .bl true) fun _ _ _ => False) :
    codeAny (model P w) callerA (.call (.ref fa) ⟨[.ref a], []⟩) (LawEnd s1) s1 := by
  have not : ∀ {b : Addr} {o : Obj}, s1.heap.get? b = some o → (∀ u, H b = some u → False) → (hidT s1.heap H).get? b = some o := fun {b o} e n => hidT_get e (by
    cases q : H b with
    | none => rfl
    | some u => exact (n u q).elim)
  have dic : ∀ {b : Addr} {m : Str → Option Value}, s1.heap.Ns b m → (hidT s1.heap H).Ns b m := fun {b m} ⟨o, es, ep, e, d, r⟩ => ⟨o, es, ep, not e (fun u q => by
    have e' := hA b (by rw [q]; exact fun z => nomatch z)
    subst e'
    rw [ha] at e
    cases e
    exact nomatch (show Data.seq vs.toArray _ = Data.dict es ep from d)), d, r⟩
  have kin : K.In (hidT s1.heap H) := fun b o e => not (KX b o e) fun u q => by
    have e' := hA b (by rw [q]; exact fun z => nomatch z)
    subst e'
    rw [hK (by rw [q]; exact fun z => nomatch z)] at e
    cases e
  have md : Mod K mg (hidT s1.heap H) := ⟨kin, dic hns, ⟨mb, dic hb, hbb⟩, by obtain ⟨mc, h1, h2⟩ := hlim; exact ⟨mc, dic h1, h2⟩⟩
  have e0 : Env0 P w K mg (hidT s1.heap H) callerA [] s1 H := ⟨rfl, md, fun b o e => of_hidT e, Nat.le_of_eq (hidT_size _ _), trivial, (fun b m => absurd (show b ∈ ([] : List Addr) from m) (by simp)), hok, .of_eq hg⟩
  refine codeAny_mono ((G _).run callerA [] s1 H ⟨[.ref a], []⟩ [.ref a] [.ref a] _ _ hr rfl e0 (bi s1 (.ref a)) (.cons rfl .nil) hsp) fun r s' h => ?_
  cases r with
  | error e =>
    obtain ⟨_, _, _, _, _, _, _, _, _, _, _, _, z⟩ := h
    exact z.elim
  | ok fl =>
    cases fl with
    | next => exact h.elim
    | brk => exact h.elim
    | cont => exact h.elim
    | ret u =>
      obtain ⟨v, H', os, bare, un, hok', rv, q⟩ := h
      cases (show v = .bl true from q)
      cases (show u = Value.bool true from rv)
      refine ⟨rfl, OldK.of_keep fun b o e => ?_, os, bare⟩
      rcases hO b with q | ⟨ob, xs, q⟩
      · exact un.keep b o e q (fun m => nomatch (show b ∈ ([] : List Addr) from m)) (by simp)
      · have z1 := (hok b _ q).1
        have z2 := (hok' b _ (un.frzs b ob _ q)).1
        rw [e] at z1
        cases z1
        exact z2
theorem law_callG (KX : K.In s1.heap) (hns : s1.heap.Ns mainGlobals mg) (hb : s1.heap.Ns builtinsNs mb) (hbb : ∀ x : Str, x ≠ "__name__" → mb x = bootBuiltins x) (hlim : s1.heap.NoLimit) (hg : s1.gens = #[])
    (ha : s1.heap.get? a = some { cls := .type "list", data := .seq vs.toArray }) (hi : IntsAre vs ns) (hl : ns.length ≤ sizeLine) (hr : Room k callerA) (G : ∀ base : Heap, FnG P w K mg base k fa fd [x] sp) (bi : ∀ (s : Shared) (u : Value), BindsTo s fd ⟨[u], []⟩ [(x, u)])
    (hsp : ∀ H : Hp, Only H → LsE K H a (ns.map V.int) → sp [.ref a] H (fun v _ => v = .bl true) fun _ _ _ => False) : codeAny (model P w) callerA (.call (.ref fa) ⟨[.ref a], []⟩) (LawEnd s1) s1 := by
  have rv := vals_ints hi
  cases hk : K.lookup a with
  | some o =>
    have e := KX a o hk
    rw [ha] at e
    cases e
    have O : Only (fun _ => none) := fun _ => .inl rfl
    exact law_core KX hns hb hbb hlim hg ha hr G bi O (fun b u z => by cases (show (none : Option HO) = some u from z)) (fun b z => absurd rfl z) (fun z => absurd rfl z) (hsp _ O (.inr ⟨vs.toArray, _, hk, by rw [List.size_toArray, hi.length]; exact hl, by simpa using rv⟩))
  | none =>
    let H : Hp := fun b => if b = a then some (.frz { cls := .type "list", data := .seq vs.toArray } (.lst (ns.map V.int))) else none
    have at_ : H a = some (.frz { cls := .type "list", data := .seq vs.toArray } (.lst (ns.map V.int))) := if_pos rfl
    have off : ∀ b, b ≠ a → H b = none := fun b h => if_neg h
    have O : Only H := fun b => by
      by_cases h : b = a
      · subst h; exact .inr ⟨_, _, at_⟩
      · exact .inl (off b h)
    refine law_core KX hns hb hbb hlim hg ha hr G bi O (fun b u z => ?_) (fun b z => ?_) (fun _ => hk) (hsp _ O (.inl (.inr ⟨_, at_⟩)))
    · by_cases h : b = a
      · subst h
        rw [at_] at z
        cases z
        exact ⟨ha, by rw [List.length_map]; exact hl, vs, _, rv, ha⟩
      · rw [off b h] at z; cases z
    · by_cases h : b = a
      · exact h
      · exact absurd (off b h) z
end
end M
/-! M8: exceptions of the program's own classes, over any of the built-in bases, made by position and by name. -/
namespace M
open PySem PySem.Spec PyProof.Rows L2
open PySem.HandSPX (excO)

/-- a base: its name, its makers, its mro, and what the library says of it -/
structure XB (B newId initId : String) (tail : List Value) : Prop where
  f : ExcBaseFacts B newId initId tail
  pass : ∀ self : Value, refuseLoop self "__setattr__" tail = pure ()
  obj : tail.contains (.type "object") = true
  ne : tail.isEmpty = false
/-- own classes, then the base's mro -/
def over (tail : List Value) : List Value → Bool
  | .ref _ :: r => over tail r
  | l => l == tail
theorem over_cases (tail : List Value) : ∀ l : List Value, over tail l = true → (∃ c r, l = .ref c :: r ∧ over tail r = true) ∨ l = tail
  | [], e => .inr (beq_iff_eq.mp e)
  | v :: r, e => by
    cases v with
    | ref c => exact .inl ⟨c, r, rfl, e⟩
    | _ => exact .inr (beq_iff_eq.mp e)
section
variable {B newId initId : String} {tail : List Value}
theorem XB.passes (b : XB B newId initId tail) (self : Value) (l : List Value) (h : over tail l = true) : refuseLoop self "__setattr__" l = pure () := by
  induction l with
  | nil =>
    rcases over_cases tail [] h with ⟨c, r, e, _⟩ | e
    · cases e
    · rw [e]; exact b.pass self
  | cons a r ih =>
    rcases over_cases tail (a :: r) h with ⟨c, r', e, q⟩ | e
    · cases e
      rw [refuseLoop_ref]
      exact ih q
    · rw [e]; exact b.pass self
theorem over_contains (X : String) (l : List Value) (h : over tail l = true) : l.contains (.type X) = tail.contains (.type X) := by
  induction l with
  | nil =>
    rcases over_cases tail [] h with ⟨c, r, e, _⟩ | e
    · cases e
    · rw [e]
  | cons a r ih =>
    rcases over_cases tail (a :: r) h with ⟨c, r', e, q⟩ | e
    · cases e
      rw [List.contains_cons, ih q]; rfl
    · rw [e]
theorem XB.nonempty (b : XB B newId initId tail) {l : List Value} (h : over tail l = true) : l.isEmpty = false := by
  cases l with
  | nil =>
    rcases over_cases tail [] h with ⟨c, r, e, _⟩ | e
    · cases e
    · rw [e]; exact b.ne
  | cons a r => rfl
end
theorem xbV : XB "ValueError" "ValueError.__new__" "ValueError.__init__" [.type "ValueError", .type "Exception", .type "BaseException", .type "object"] := ⟨F.excBase_ValueError, F.store_ValueError.passes, by decide +kernel, rfl⟩
theorem xbL : XB "LookupError" "LookupError.__new__" "LookupError.__init__" [.type "LookupError", .type "Exception", .type "BaseException", .type "object"] := ⟨F.excBase_LookupError, F.store_LookupError.passes, by decide +kernel, rfl⟩
theorem xbR : XB "RuntimeError" "RuntimeError.__new__" "RuntimeError.__init__" [.type "RuntimeError", .type "Exception", .type "BaseException", .type "object"] := ⟨F.excBase_RuntimeError, F.store_RuntimeError.passes, by decide +kernel, rfl⟩

/-! ### the call of such a class, keywords too -/
section
open Builtin Builtin.ObjectAttr PySem.W
variable {h : Heap} {g : Array GenState} {d : Drawn} {t : Nat} {os : OsState}
variable {nm q : Str} {C N : Addr} {bs bm bmB : List Value} {hdct : Bool} {sn : List Str} {sub : List Value} {ab : Bool} {col : Option Bool} {dd : Option Addr} {k0 k1 k2 k3 k5 : Option Value} {B newId initId : String}
variable (F : ExcBaseFacts B newId initId bmB) (hT : ∀ X : String, bm.contains (.type X) = bmB.contains (.type X))
include F hT
theorem checkK {M : Model} {A : Around} {E : Value → Shared → Prop} {rest : List Value} {kw : List (Str × Value)} {Q : Unit → Shared → Prop}
    (hC : h.get? C = some (excClassObj nm q C N bs bm hdct sn sub ab col dd k0 k1 k2 k3 k5 newId)) (hq : Q () ⟨h, g, d, t, os⟩) : wpAny M A (checkBuiltinCall newId ⟨.ref C :: rest, kw⟩) Q E ⟨h, g, d, t, os⟩ := by
  have c1 : (Value.ref C :: bm).contains (.type B) = true := by rw [List.contains_cons, hT, F.hasB, Bool.or_true]
  have c2 := F.noStar
  simp only [checkBuiltinCall, F.newKind, F.newSplit, F.newRow]
  repeat (first | refine wpAny_loadPart_at hC ?_ | (refine wpAny_isSubtype_exc hC ?_; rw [c1]) | refine wpAny_staticBase_exc hC ?_ | refine wpAny_madeBy_exc hC ?_ | simp only [bne_self_eq_false, Bool.false_eq_true, if_false] | wp_step)
  exact hq
theorem newK {prog : Program} {w : World} {A : Around} {R : Result → Shared → Prop} {rest : List Value} {kw : List (Str × Value)}
    (hC : h.get? C = some (excClassObj nm q C N bs bm hdct sn sub ab col dd k0 k1 k2 k3 k5 newId))
    (hq : R (.ok (.ret (.ref (h.objs.size + 1)))) ⟨(h.push { cls := .type "tuple", data := .seq rest.toArray }).push { cls := .ref C, data := .fields #[.ref h.objs.size, .none, .none, .none, .bool false, .none] }, g, d, t, os⟩) (hrest : rest.length ≤ sizeLine) :
    codeAny (model prog w) A (.builtin newId ⟨.ref C :: rest, kw⟩) R ⟨h, g, d, t, os⟩ := by
  have e0 := F.ends
  have c1 : (Value.ref C :: bm).contains (.type B) = true := by rw [List.contains_cons, hT, F.hasB, Bool.or_true]
  have c2 : (Value.ref C :: bm).contains (.type "AttributeError") = false := by rw [List.contains_cons, hT, F.noAttr]; rfl
  have c3 : (Value.ref C :: bm).contains (.type "NameError") = false := by rw [List.contains_cons, hT, F.noName]; rfl
  refine codeAny_builtinAt F.entry (by
    unfold Builtin.«BaseException.__new__»
    refine PySem.wpAt_bind ?_
    show PySem.wpAt _ _ _ (stack >>= _) _ _ _
    refine PySem.wpAt_bind (PySem.wpAt_stack fun p below => PySem.wpAt_of_wpAny ?_)
    wp_walk
    refine PySem.wpAt_of_wpAny ?_
    rw [F.owner]
    repeat (first | with_reducible refine wpAny_madeHere_exc F.canon hC ?_ | with_reducible refine wpAny_loadPart_at hC ?_ | (with_reducible refine wpAny_isSubtype_exc hC ?_; first | rw [c1] | rw [c2] | rw [c3]) | wp_step)
    show R _ _
    rw [Heap.size_push]
    exact hq)
theorem typeCallK {prog : Program} {w : World} {A : Around} {E : Value → Shared → Prop} {rest : List Value} {kw : List (Str × Value)} {fI : Addr} {Q : Fin → Shared → Prop}
    (hC : h.get? C = some (excClassObj nm q C N bs bm hdct sn sub ab col dd k0 k1 k2 k3 k5 newId))
    (hi : W.Looks (model prog w) h (typeLookup (.ref C) "__init__") (some (.ref fI))) (hb : ∀ self, W.Looks (model prog w) h (bindSpecial (.ref fI) self) (.ref fI, [self])) (hrest : rest.length ≤ sizeLine)
    (hq : codeAny (model prog w) A (.call (.ref fI) ⟨.ref (h.objs.size + 1) :: rest, kw⟩)
      (fun r s' => match r with | .ok (.ret v) => v = .none ∧ Q (.done (.ret (.ref (h.objs.size + 1)))) s' | .ok _ => False | .error e => E e s')
      ⟨(h.push (W.kdv_tup rest)).push (excO C h.objs.size), g, d, t, os⟩) :
    wpAny (model prog w) A (Builtin.«type.__call__» ⟨.ref C :: rest, kw⟩) Q E ⟨h, g, d, t, os⟩ := by
  repeat (first | with_reducible refine wpAny_loadPart_at hC ?_ | with_reducible refine wpAny_madeBy_exc hC ?_ | wp_step)
  refine codeAny_call_builtin_code (Code.quiet_builtin _ F.quiet) (checkK F hT hC (newK F hT hC ?_ hrest))
  show wpAny _ _ _ _ _ _
  have kp : ∀ b o, h.get? b = some o → ((h.push (W.kdv_tup rest)).push (excO C h.objs.size)).get? b = some o := fun b o e => Heap.get?_push_of_some _ (Heap.get?_push_of_some _ e)
  have hC1 := kp _ _ hC
  have at1 : ((h.push (W.kdv_tup rest)).push (excO C h.objs.size)).get? (h.objs.size + 1) = some (excO C h.objs.size) := by heap_get
  have own : (Value.ref C :: bm).contains (.ref C) = true := by simp
  have j1 := hi.keeps kp
  have j2 := (hb (.ref (h.objs.size + 1))).keeps kp
  unfold isInstance
  repeat (first | with_reducible refine wpAny_loadPart_at at1 ?_ | (with_reducible refine wpAny_isSubtype_exc hC1 ?_; rw [own]) | wp_step)
  show wpAny _ _ (typeLookup (.ref C) _) _ _ _
  refine j1.at (wpAny_holding (wpAny_bind (j2.at (wpAny_bind (wpAny_call (codeAny_mono hq fun r s' z => ?_))))))
  rcases r with e | (v | _ | _ | _) <;> first | exact z | exact z.elim | skip
  obtain ⟨rfl, z⟩ := z
  first
    | exact wpAny_pure (wpAny_pure z)
    | (wp_walk; exact z)
theorem callK {prog : Program} {w : World} {A : Around} {R : Result → Shared → Prop} {rest : List Value} {kw : List (Str × Value)} {fI : Addr}
    (hC : h.get? C = some (excClassObj nm q C N bs bm hdct sn sub ab col dd k0 k1 k2 k3 k5 newId))
    (hi : W.Looks (model prog w) h (typeLookup (.ref C) "__init__") (some (.ref fI))) (hb : ∀ self, W.Looks (model prog w) h (bindSpecial (.ref fI) self) (.ref fI, [self])) (hrest : rest.length ≤ sizeLine)
    (hq : codeAny (model prog w) (A.under (.builtin "type.__call__" ⟨.ref C :: rest, kw⟩)) (.call (.ref fI) ⟨.ref (h.objs.size + 1) :: rest, kw⟩) (W.InitBack (h.objs.size + 1) R)
      ⟨(h.push (W.kdv_tup rest)).push (excO C h.objs.size), g, d, t, os⟩) :
    codeAny (model prog w) A (.call (.ref C) ⟨rest, kw⟩) R ⟨h, g, d, t, os⟩ := by
  have a1 := tc_lookup
  have a2 := tc_bind (.ref C)
  have a3 : (⟨h, g, d, t, os⟩ : Shared).TypeIs (.ref C) "type" := ⟨_, hC, rfl⟩
  refine codeAny_of_tree (show wpAny _ _ (callAny (.ref C) _) _ _ _ from ?_)
  repeat (any_goals (first | assumption | with_reducible refine wpAny_loadPart_at hC ?_ | wp_step))
  refine ⟨rfl, codeAny_call_builtin_at (Code.quiet_builtin _ (by decide +kernel)) entry_typeCall (wpAny_check_type_call_sub hC (typeCallK F hT hC hi hb hrest (codeAny_mono hq fun r s' z => ?_)))⟩
  rcases r with e | (v | _ | _ | _) <;> exact z
end

/-! ### self.f = v in such an exception -/
section
open Builtin Builtin.ObjectAttr PySem.W
variable {prog : Program} {w : World} {A : Around} {R : Result → Shared → Prop} {hp : Heap} {g : Array GenState} {d : Drawn} {t : Nat} {os : OsState}
variable {B newId initId : String} {tail : List Value} {K : W.Frag} {name : Str} {tk : Tok} {v : Value} {x C : Addr} {fv : Array Value} {cd : ClassData}
/-- what the store begins with -/
theorem osaRun (b : XB B newId initId tail) {dx : Option Addr} {od : Option Obj} (X : K.In hp) (I : W.InstAt hp x { cls := .ref C, dict := dx, data := .fields fv } C od) (hcd : W.clsIn K C = some cd) (hm : over tail cd.mro = true) (ha : W.findIn K (.ref C) name = some none)
    (go : wpAny (model prog w) A.in1 (storeInOwnDict (.ref x) (.ref C) (.str name tk) name v false) (fun fin s' => match fin with | .done f => R (.ok f) s' | .again c' => c'.quiet = true ∧ codeAny (model prog w) A c' R s') (fun e s' => R (.error e) s') ⟨hp, g, d, t, os⟩) :
    codeAny (model prog w) A (.call (.builtin "object.__setattr__") ⟨[.ref x, .str name tk, v], []⟩) R ⟨hp, g, d, t, os⟩ := by
  have SF := F.store_object
  have h1 : cd.mro.contains (.type "object") = true := (over_contains "object" _ hm).trans b.obj
  have sub : W.Looks (model prog w) hp (isInstance (.ref x) (.type "object")) true := I.type.andThen (W.looks_mroIn X (by unfold W.mroIn; rw [hcd, Option.bind_some, if_neg (by rw [b.nonempty hm]; decide), h1]))
  have h2 : W.Looks (model prog w) hp (mroOf (.ref C)) cd.mro := (W.looks_clsIn X hcd).andThen .now
  have h3 : W.Looks (model prog w) hp (storeTaker? none) none := .now
  refine codeAny_call_builtin SF.slot.plain SF.entry (@W.check_slot (model prog w) _ _ ⟨hp, g, d, t, os⟩ "object.__setattr__" "object" "__setattr__" (.ref x) [.str name tk, v] [] _ SF.kind SF.split sub (SF.args (.ref x) (.str name tk) v) ?_)
  rw [W.osa_eq, refuse_eq]
  refine wpAny_bind (wpAny_bind (I.type.at (wpAny_bind (h2.at ?_))))
  rw [b.passes _ _ hm]
  exact wpAny_pure (wpAny_bind (I.type.at (wpAny_bind ((W.looks_findIn X ha).at (wpAny_bind (h3.at go))))))
theorem osaNew (b : XB B newId initId tail) (X : K.In hp) (hx : hp.get? x = some { cls := .ref C, data := .fields fv }) (hcd : W.clsIn K C = some cd) (hm : over tail cd.mro = true) (hh : cd.hasDict = true) (ha : W.findIn K (.ref C) name = some none)
    (hq : ∀ h' tk' dx, (∀ b o, b ≠ x → hp.get? b = some o → h'.get? b = some o) → hp.objs.size ≤ dx → dx ≠ x → h'.get? x = some { cls := .ref C, dict := some dx, data := .fields fv } →
      h'.Ns1 dx (fun y => if y = name then some v else none) → R (.ok (.ret .none)) ⟨h', g, d, tk', os⟩) :
    codeAny (model prog w) A (.call (.builtin "object.__setattr__") ⟨[.ref x, .str name tk, v], []⟩) R ⟨hp, g, d, t, os⟩ := by
  refine osaRun (od := none) b X ⟨hx, rfl, rfl, trivial⟩ hcd hm ha ?_
  have ns : x ≠ hp.objs.size := Nat.ne_of_lt (Heap.lt_size hx)
  have lk : W.Looks (model prog w) hp (classData C) cd := W.looks_clsIn X hcd
  obtain ⟨nm, bs, mro, nsx, qn, hd, sn, sb, ab, col, del⟩ := cd
  cases (show hd = true from hh)
  unfold storeInOwnDict ownDictForStores
  repeat (first | with_reducible refine PySem.HandSPX.store_in_new ?_ ?_ | with_reducible refine wpAny_loadPart_at hx ?_ | with_reducible refine lk.at ?_ | wp_step)
  · exact ⟨_, #[], _, (Heap.get?_update_ne _ _ _ _ ns.symm).trans (Heap.get?_push_at rfl rfl), rfl, fun e he => absurd he (by simp), fun _ => rfl⟩
  · intro h' tk' hn' hs
    have hx1 : (hp.push { cls := .type "dict", data := .dict #[] }).get? x = some { cls := .ref C, data := .fields fv } := Heap.get?_push_of_some _ hx
    exact hq h' tk' hp.objs.size (fun b o hb ho => (hs.2 b (Nat.ne_of_lt (Heap.lt_size ho))).trans ((Heap.get?_update_ne _ _ _ _ hb).trans (Heap.get?_push_of_some _ ho))) (Nat.le_refl _) ns.symm ((hs.2 x ns).trans (Heap.get?_update_self _ hx1 rfl)) hn'
theorem osaOld (b : XB B newId initId tail) {dx : Addr} {m0 : Str → Option Value} {nl : List Str} (X : K.In hp) (hx : hp.get? x = some { cls := .ref C, dict := some dx, data := .fields fv }) (hns : hp.Ns1 dx m0) (hw : Within m0 nl) (hz : nl.length ≤ 1000) (hcd : W.clsIn K C = some cd) (hm : over tail cd.mro = true) (hh : cd.hasDict = true)
    (ha : W.findIn K (.ref C) name = some none)
    (hq : ∀ h' tk', (∀ b o, b ≠ dx → hp.get? b = some o → h'.get? b = some o) → h'.Ns1 dx (fun y => if y = name then some v else m0 y) → R (.ok (.ret .none)) ⟨h', g, d, tk', os⟩) :
    codeAny (model prog w) A (.call (.builtin "object.__setattr__") ⟨[.ref x, .str name tk, v], []⟩) R ⟨hp, g, d, t, os⟩ := by
  obtain ⟨oD, _, _, hoD, _, _⟩ := hns.count hw
  refine osaRun b (od := some oD) X ⟨hx, rfl, rfl, hoD⟩ hcd hm ha ?_
  have lk : W.Looks (model prog w) hp (classData C) cd := W.looks_clsIn X hcd
  obtain ⟨nm, bs, mro, nsx, qn, hd, sn, sb, ab, col, del⟩ := cd
  cases (show hd = true from hh)
  unfold storeInOwnDict ownDictForStores
  repeat (first | with_reducible refine PySem.OEX.store_in_old hns hw hz ?_ | with_reducible refine wpAny_loadPart_at hx ?_ | with_reducible refine lk.at ?_ | wp_step)
  intro h' tk' hn' hs
  exact hq h' tk' (fun b o hb ho => (hs.2 b hb).trans ho) hn'
end

/-- what the written part says of an exception class of the program -/
structure XC (K : PySem.W.Frag) (C : Addr) : Prop where
  cls : ∃ B newId initId tail, XB B newId initId tail ∧ ∃ nm q N bs bm sn sub ab col dd k0 k1 k2 k3 k5, K.lookup C = some (excClassObj nm q C N bs bm true sn sub ab col dd k0 k1 k2 k3 k5 newId) ∧ over tail bm = true
  sa : PySem.W.findIn K (.ref C) "__setattr__" = some (some (.builtin "object.__setattr__"))
  exC : PySem.W.subIn K (.ref C) (.type "BaseException") = some true
  tyC : PySem.W.typeIn K (.ref C) = some (.type "type")
  kC : PySem.W.keepIn K (.ref C) = true
section
variable {X : Cx} {pins : List (Addr × Obj)} {σ : L2.St} {H : Hp} {s : Shared} {a C dx : Addr} {f : Str} {y : V} {u : Value} {fs : List (Str × V)} {Q : Unit → Shared → Prop} {E : Value → Shared → Prop} {A : Around}
theorem xst_new (T : XC X.K C) (I : Inv X pins σ H s) (e : H a = some (exo a C none)) (hno : PySem.W.findIn X.K (.ref C) f = some none) (ry : RelV y u)
    (h : ∀ dx s', H dx = none → dx ≠ a → Inv X pins σ (upd (upd H dx (exd dx [(f, y)])) a (exo a C (some dx))) s' → Q () s') : wpAny (model X.prog X.w) A (setAttr (.ref a) f u) Q E s := by
  obtain ⟨B, newId, initId, tail, b, nm, q, N, bs, bm, sn, sub, ab, col, dd, k0, k1, k2, k3, k5, hC, hbm⟩ := T.cls
  have hcl : PySem.W.clsIn X.K C = some { name := nm, bases := bs, mro := .ref C :: bm, ns := N, qualname := q, hasDict := true, slotNames := sn, subclasses := sub, abstract := ab, collection := col, hasDel := false } := by unfold PySem.W.clsIn; rw [hC] <;> rfl
  obtain ⟨t1, ho⟩ := exo_at I.hok e
  obtain ⟨hp, g, d, t, os⟩ := s
  refine PySem.W.set_plain I.kIn (ox := { cls := .ref C, dict := none, data := .fields #[.ref t1, .none, .none, .none, .bool false, .none] }) (od := none) ⟨ho, rfl, rfl, trivial⟩ T.sa (osaNew b I.kIn ho hcl (show over tail (.ref C :: bm) = true from hbm) rfl hno fun h' tk' dx k dn dne hx hn => ?_)
  have hnd : H dx = none := I.hok.fresh dn
  have n1 : ∀ {b : Addr} {o : Obj}, hp.get? b = some o → b ≠ dx := fun {b o} q => Nat.ne_of_lt (Nat.lt_of_lt_of_le (Heap.lt_size q) dn)
  have n2 : ∀ {b : Addr}, H b = none → b ≠ a := fun {b} n z => by rw [z, e] at n; cases n
  have U : Un X.fs [] H (upd (upd H dx (exd dx [(f, y)])) a (exo a C (some dx))) hp h' := {
    keep := fun b o q n _ _ => k b o (n2 n) q
    slot := fun b o q n _ _ => ⟨o.slots, k b o (n2 n) q⟩
    free := fun b o q n _ => by rw [upd_ne (n2 n), upd_ne (n1 q)]; exact n
    there := fun b o q _ => by
      by_cases hb : b = a
      · exact ⟨_, by rw [hb]; exact hx⟩
      · exact ⟨o, k b o hb q⟩
    tups := fun b xs q => by rw [upd_ne (at_ne e q exo_tup), upd_ne (ne_of_none q hnd)]; exact q
    frzs := fun b o v q => by rw [upd_ne (at_ne e q exo_frz), upd_ne (ne_of_none q hnd)]; exact q
    tbls := fun b ps q => ⟨#[], by rw [upd_ne (at_ne e q exo_tbl), upd_ne (ne_of_none q hnd), q]; simp⟩ }
  refine h dx _ hnd dne (I.un (t' := tk') U fun b o q => ?_)
  by_cases hb : b = a
  · subst hb
    rw [upd_same] at q
    cases q
    exact exo_ok hx
  · rw [upd_ne hb] at q
    by_cases hd : b = dx
    · subst hd
      rw [upd_same] at q
      cases q
      exact exd_ok hn (relO_put (fs := []) ry fun g => True.intro)
    · rw [upd_ne hd] at q
      refine (I.hok b o q).stay (fun c v hc z => k c v ?_ z) (fun c hc => by rw [upd_ne (at_ne e hc exo_own), upd_ne (ne_of_none hc hnd)]; exact hc) (fun c xs hc => by rw [upd_ne (at_ne e hc exo_tup), upd_ne (ne_of_none hc hnd)]; exact hc)
      rcases hc with hc | hc
      · rw [hc]; exact hb
      · exact at_ne e hc exo_own
theorem xst_old (T : XC X.K C) (I : Inv X pins σ H s) (e : H a = some (exo a C (some dx))) (ed : H dx = some (exd dx fs)) (hl : fs.length ≤ 900) (hno : PySem.W.findIn X.K (.ref C) f = some none) (ry : RelV y u)
    (h : ∀ s', Inv X pins σ (upd H dx (exd dx ((f, y) :: fs))) s' → Q () s') : wpAny (model X.prog X.w) A (setAttr (.ref a) f u) Q E s := by
  obtain ⟨B, newId, initId, tail, b, nm, q, N, bs, bm, sn, sub, ab, col, dd, k0, k1, k2, k3, k5, hC, hbm⟩ := T.cls
  have hcl : PySem.W.clsIn X.K C = some { name := nm, bases := bs, mro := .ref C :: bm, ns := N, qualname := q, hasDict := true, slotNames := sn, subclasses := sub, abstract := ab, collection := col, hasDel := false } := by unfold PySem.W.clsIn; rw [hC] <;> rfl
  obtain ⟨t1, ho⟩ := exo_at I.hok e
  obtain ⟨mA, hns, rel⟩ := exd_at I.hok ed
  have hw := within_of rel
  obtain ⟨hp, g, d, t, os⟩ := s
  obtain ⟨oD, _, _, hoD, _, _⟩ := hns.count hw
  refine PySem.W.set_plain I.kIn (ox := { cls := .ref C, dict := some dx, data := .fields #[.ref t1, .none, .none, .none, .bool false, .none] }) (od := some oD) ⟨ho, rfl, rfl, hoD⟩ T.sa (osaOld b I.kIn ho hns hw (by rw [List.length_map]; omega) hcl (show over tail (.ref C :: bm) = true from hbm) rfl hno fun h' tk' k hn => ?_)
  have hd : ∃ o, h'.get? dx = some o := by
    obtain ⟨o, _, _, e', _⟩ := hn
    exact ⟨o, e'⟩
  exact h _ (I.write (t' := tk') (x := dx) (e := dx) (o := exd dx ((f, y) :: fs)) (by rw [ed]; exact True.intro) (.inl rfl) k hd (exd_ok hn (relO_put ry rel)))
end
end M
/-! M9: making exceptions as values; their fields. -/
namespace M
open PySem PySem.Spec PyProof.Rows L2

/-! ### __init__ of one and of two fields -/
/-- self.f = e, by the heap -/
def tXst (K : PySem.W.Frag) (f : Str) (to te : TE) : TS := fun D σ H => te σ H fun y H1 => to σ H1 fun x H2 => ∃ a C : Addr, x = .ref a ∧ XC K C ∧ PySem.W.findIn K (.ref C) f = some none ∧
  ((H2 a = some (exo a C none) ∧ ∀ dx, H2 dx = none → dx ≠ a → D.nx σ (upd (upd H2 dx (exd dx [(f, y)])) a (exo a C (some dx)))) ∨
    ∃ (dx : Addr) (fs : List (Str × V)), H2 a = some (exo a C (some dx)) ∧ H2 dx = some (exd dx fs) ∧ fs.length ≤ 900 ∧ D.nx σ (upd H2 dx (exd dx ((f, y) :: fs))))
theorem ps_xst {X : Cx} {o e : Expr} {to te : TE} {f : Str} {p' pos : Pos} (ho : PE X o to) (he : PE X e te) (hs : swapsWith e (some (.Attribute o f p')) pos.line X.env = pure false := by rfl) : PS X (.Assign [.Attribute o f p'] e pos) (tXst X.K f to te) := by
  refine ⟨fun pins s σ H D I h => plainObj_wpAny_Assign_Attribute (thn (he.run pins s σ H _ I h) fun v s1 ⟨y, H1, I1, r1, q1⟩ => thn (ho.run pins s1 σ H1 _ I1 q1) fun u s2 ⟨x, H2, I2, r2, a, C, ex, T, hno, q⟩ => ?_) hs⟩
  subst ex
  cases (show u = Value.ref a from r2)
  rcases q with ⟨ea, q⟩ | ⟨dx, fs, ea, ed, hl, q⟩
  · exact xst_new T I2 ea hno r1 fun dx s' n ne J => ⟨σ, _, J, q dx n ne⟩
  · exact xst_old T I2 ea ed hl hno r1 fun s' J => ⟨σ, _, J, q⟩
/-- the promise of such an __init__ -/
def spX (K : PySem.W.Frag) (fs : List Str) : Sp := fun vs H Q _ => ∃ (a C : Addr) (ys : List V), vs = .ref a :: ys ∧ ys.length = fs.length ∧ XC K C ∧ (∀ f ∈ fs, PySem.W.findIn K (.ref C) f = some none) ∧ H a = some (exo a C none) ∧
  ∀ d, H d = none → d ≠ a → Q .non (upd (upd H d (exd d (fs.zip ys).reverse)) a (exo a C (some d)))
section
variable {P : Program} {w : World} {K : PySem.W.Frag} {mg : Str → Option Value} {base : Heap} {qual : Str} {params : Arguments} {scope : Scope} {dvs : List V} {kws : List (Str × V)} {f : Addr} {fd : FuncData} {k : Nat} {p1 p2 p3 p4 q1 q2 q3 q4 : Pos} {CX : CXT}
theorem ok_init1 {x1 : Str} (Fd : FunD K "__init__" qual params [.Assign [.Attribute (.Name "self" p1) x1 p2] (.Name x1 p3) p4] scope dvs kws f fd) (S : FnScope ["self", x1] ["self", x1] scope) (v0 : scope.names.lookup ("self" : Str) = some .local) (v1 : scope.names.lookup x1 = some .local)
    (d1 : (x1 == ("__debug__" : Str)) = false) (c1 : (x1 == ("__classdict__" : Str)) = false) : FnOk P w K mg base CX (k + 1) f fd ["self", x1] (spX K [x1]) := by
  refine Fd.ok S (fun vs H Q E h => ?_) (fun cdv A outer s H vs Q E hr h => ⟨_, pss_one (ps_xst (pe_var (i := 0) rfl (.inl v0)) (pe_var (i := 1) rfl (.inl v1) d1 c1)), ?_⟩)
  · obtain ⟨a, C, ys, rfl, hl, _⟩ := h
    rw [List.length_cons, hl]; rfl
  · obtain ⟨a, C, ys, rfl, hl, T, hf, ea, q⟩ := h
    match ys, hl with
    | [y], _ => exact ⟨y, rfl, .ref a, rfl, a, C, rfl, T, hf _ (by simp), .inl ⟨ea, fun d hd ne => q d hd ne⟩⟩
theorem upd_comm {H : Hp} {a b : Addr} {o u : HO} (h : a ≠ b) : upd (upd H a o) b u = upd (upd H b u) a o := by
  funext c
  by_cases e : c = a
  · rw [e, upd_ne h, upd_same, upd_same]
  · by_cases e2 : c = b
    · rw [e2, upd_same, upd_ne h.symm, upd_same]
    · rw [upd_ne e2, upd_ne e, upd_ne e, upd_ne e2]
theorem ok_init2 {x1 x2 : Str} (Fd : FunD K "__init__" qual params [.Assign [.Attribute (.Name "self" p1) x1 p2] (.Name x1 p3) p4, .Assign [.Attribute (.Name "self" q1) x2 q2] (.Name x2 q3) q4] scope dvs kws f fd) (S : FnScope ["self", x1, x2] ["self", x1, x2] scope)
    (v0 : scope.names.lookup ("self" : Str) = some .local) (v1 : scope.names.lookup x1 = some .local) (v2 : scope.names.lookup x2 = some .local)
    (d1 : (x1 == ("__debug__" : Str)) = false) (c1 : (x1 == ("__classdict__" : Str)) = false) (d2 : (x2 == ("__debug__" : Str)) = false) (c2 : (x2 == ("__classdict__" : Str)) = false) : FnOk P w K mg base CX (k + 1) f fd ["self", x1, x2] (spX K [x1, x2]) := by
  refine Fd.ok S (fun vs H Q E h => ?_) (fun cdv A outer s H vs Q E hr h => ⟨_, pss_cons (ps_xst (pe_var (i := 0) rfl (.inl v0)) (pe_var (i := 1) rfl (.inl v1) d1 c1)) (pss_one (ps_xst (pe_var (i := 0) rfl (.inl v0)) (pe_var (i := 2) rfl (.inl v2) d2 c2))), ?_⟩)
  · obtain ⟨a, C, ys, rfl, hl, _⟩ := h
    rw [List.length_cons, hl]; rfl
  · obtain ⟨a, C, ys, rfl, hl, T, hf, ea, q⟩ := h
    match ys, hl with
    | [y, z], _ =>
      refine ⟨y, rfl, .ref a, rfl, a, C, rfl, T, hf _ (by simp), .inl ⟨ea, fun d hd ne => ?_⟩⟩
      refine ⟨z, rfl, .ref a, rfl, a, C, rfl, T, hf _ (by simp), .inr ⟨d, [(x1, y)], upd_same, by rw [upd_ne ne, upd_same], by show 1 ≤ 900; decide, ?_⟩⟩
      have e : upd (upd (upd H d (exd d [(x1, y)])) a (exo a C (some d))) d (exd d [(x2, z), (x1, y)]) = upd (upd H d (exd d [(x2, z), (x1, y)])) a (exo a C (some d)) := by
        rw [upd_comm (a := d) (b := a) ne, upd_upd, upd_comm (a := a) (b := d) ne.symm]
      show Q .non (upd (upd (upd H d (exd d [(x1, y)])) a (exo a C (some d))) d (exd d [(x2, z), (x1, y)]))
      rw [e]
      exact q d hd ne
end

/-! ### C(..) as a value -/
section
variable {X : Cx} {CX : CXT} {k n : Nat} {fI C : Addr} {fd : FuncData} {ps ks : List Str} {E : Value → Shared → Prop}
theorem exq_ok2 {P : Program} {w : World} {H : Hp} {h : Heap} {a C : Addr} {d : Option Addr} {o : Obj} {vs : Array Value} (e : h.get? a = some o) (c : o.cls = .ref C) (hd : o.dict = d) (dt : o.data = .fields vs) : ObjOk P w H h a (exq a C d) :=
  ⟨⟨o, vs, e, c, hd, dt⟩, ⟨_, e⟩, fun h1 h2 ⟨o, v, q, r⟩ k => ⟨o, v, k _ q, r⟩⟩
theorem exq_ok {P : Program} {w : World} {H : Hp} {h : Heap} {a C : Addr} {d : Option Addr} {vs : Array Value} (e : h.get? a = some ({ cls := .ref C, dict := d, data := .fields vs } : Obj)) : ObjOk P w H h a (exq a C d) :=
  ⟨⟨_, vs, e, rfl, rfl, rfl⟩, ⟨_, e⟩, fun h1 h2 ⟨o, v, q, r⟩ k => ⟨o, v, k _ q, r⟩⟩
/-- an exception that was just made is one that nobody changes -/
theorem retag {pins : List (Addr × Obj)} {σ : L2.St} {H : Hp} {s : Shared} {a C d : Addr} {gs : List (Str × V)} (ne : d ≠ a) (I : Inv X pins σ (upd (upd H d (exd d gs)) a (exo a C (some d))) s) : Inv X pins σ (upd (upd H a (exq a C (some d))) d (.xd gs)) s := by
  have ea : (upd (upd H d (exd d gs)) a (exo a C (some d))) a = some (exo a C (some d)) := upd_same
  obtain ⟨t1, ho⟩ := exo_at I.hok ea
  have J := I.write (t' := s.toks) (h' := s.heap) (x := a) (e := a) (o := exq a C (some d)) (by rw [ea]; exact True.intro) (.inl rfl) (fun _ _ _ q => q) ⟨_, ho⟩ (exq_ok ho)
  rw [upd_upd] at J
  have ed : (upd (upd H d (exd d gs)) a (exq a C (some d))) d = some (exd d gs) := by rw [upd_ne ne, upd_same]
  obtain ⟨mA, hn, rel⟩ := exd_at J.hok ed
  obtain ⟨oD, _, _, hoD, _⟩ := id hn
  have J2 := J.write (t' := s.toks) (h' := s.heap) (x := d) (e := d) (o := .xd gs) (by rw [ed]; exact True.intro) (.inl rfl) (fun _ _ _ q => q) ⟨_, hoD⟩ ⟨mA, hn, rel⟩
  rw [upd_comm (a := d) (b := a) ne, upd_upd] at J2
  exact J2
theorem run_mkx {pins : List (Addr × Obj)} {σ : L2.St} {H : Hp} {s : Shared} {Q : VK} {us ws : List Value} {vs zs ys : List V} {g : List Value → List Value → List Value} {gV : List V → List V → List V} {fs : List Str} (T : XC X.K C) (iC : PySem.W.findIn X.K (.ref C) "__init__" = some (some (.ref fI))) (tI : PySem.W.typeIn X.K (.ref fI) = some (.type "function"))
    (F1 : FnOk X.prog X.w X.K X.mg X.base CX k fI fd ps (spX X.K fs)) (hr : Room (k + 1) X.A) (hb : KBn X.K fd ps (n + 1) ks g gV) (hx : Passes CX X (fun _ _ _ => False)) (I : Inv X pins σ H s) (r : Vals vs us) (rz : Vals zs ws) (hl : vs.length ≤ 1000) (l1 : vs.length = n) (l2 : zs.length = ks.length)
    (hg : ∀ a, gV (.ref a :: vs) zs = .ref a :: ys) (hy : ys.length = fs.length) (hf : ∀ f ∈ fs, PySem.W.findIn X.K (.ref C) f = some none)
    (q : ∀ a d, H a = none → H d = none → d ≠ a → Q (.ref a) (upd (upd H a (exq a C (some d))) d (.xd (fs.zip ys).reverse))) :
    wpAny (model X.prog X.w) X.A (call (.ref C) us (ks.zip ws)) (EP X pins σ Q) X.xe s := by
  obtain ⟨B, newId, initId, tail, b, nm, qn, N, bs, bm, sn, sub, ab, col, dd, k0, k1, k2, k3, k5, hC, hbm⟩ := T.cls
  obtain ⟨hp, g0, dr, tk, os⟩ := s
  have hsz : hp.objs.size ≤ hp.objs.size + 1 := Nat.le_succ _
  have hn : H (hp.objs.size + 1) = none := I.hok.fresh hsz
  have kk : ∀ b o, hp.get? b = some o → ((hp.push (PySem.W.kdv_tup us)).push (PySem.HandSPX.excO C hp.objs.size)).get? b = some o := fun b o e => Heap.get?_push_of_some _ (Heap.get?_push_of_some _ e)
  have hget : ((hp.push (PySem.W.kdv_tup us)).push (PySem.HandSPX.excO C hp.objs.size)).get? (hp.objs.size + 1) = some (PySem.HandSPX.excO C hp.objs.size) := by heap_get
  have I2 : Inv X pins σ (upd H (hp.objs.size + 1) (exo (hp.objs.size + 1) C none)) ⟨(hp.push (PySem.W.kdv_tup us)).push (PySem.HandSPX.excO C hp.objs.size), g0, dr, tk, os⟩ :=
    I.laid (t' := tk) (a := hp.objs.size + 1) (o := exo (hp.objs.size + 1) C none) (h' := (hp.push (PySem.W.kdv_tup us)).push (PySem.HandSPX.excO C hp.objs.size)) kk hsz (exo_ok hget)
  have r1 : Vals (V.ref (hp.objs.size + 1) :: vs) (Value.ref (hp.objs.size + 1) :: us) := .cons rfl r
  have r2 := hb.rel r1 rz
  have hsp : spX X.K fs (gV (.ref (hp.objs.size + 1) :: vs) zs) (upd H (hp.objs.size + 1) (exo (hp.objs.size + 1) C none)) (fun v H' => v = .non ∧ Q (.ref (hp.objs.size + 1)) H' ∨ v = .non ∧ ∃ d, H d = none ∧ d ≠ hp.objs.size + 1 ∧ H' = upd (upd H d (exd d (fs.zip ys).reverse)) (hp.objs.size + 1) (exo (hp.objs.size + 1) C (some d))) (fun _ _ _ => False) := by
    refine ⟨hp.objs.size + 1, C, ys, hg _, hy, T, hf, upd_same, fun d hd ne => .inr ⟨rfl, d, ?_, ne, ?_⟩⟩
    · rw [upd_ne ne] at hd
      exact hd
    · rw [upd_comm (a := hp.objs.size + 1) (b := d) ne.symm, upd_upd]
  have n1 : (Value.ref (hp.objs.size + 1) :: us).length = n + 1 := by rw [List.length_cons, ← r.length, l1]
  have hus : us.length ≤ sizeLine := by rw [← Paired.length r, sizeLine_eq]; omega
  refine wpAny_call (callK b.f (fun Y => over_contains Y bm hbm) (I.kIn _ _ hC) (PySem.W.looks_findIn I.kIn iC) (fun self => PySem.W.bind_fn I.kIn self tI) hus
    (codeAny_mono (F1.run _ X.stack _ _ ⟨Value.ref (hp.objs.size + 1) :: us, ks.zip ws⟩ (g (Value.ref (hp.objs.size + 1) :: us) ws) _ _ (fun _ _ _ => False) (hr.make C us (ks.zip ws)) (I2.env0.make C us (ks.zip ws)) (hb.to _ (Value.ref (hp.objs.size + 1) :: us) ws I2.kIn n1 (rz.length.symm.trans l2)) r2 hsp) fun r s' hq' => ?_))
  cases r with
  | error er => exact hx pins σ _ _ er s' I2 hq'
  | ok fl =>
    cases fl with
    | ret u =>
      obtain ⟨v, H2, J, rv, z⟩ := I2.after hq'
      rcases z with ⟨rfl, z⟩ | ⟨rfl, d, hd, ne, rfl⟩
      · exact ⟨rv, .ref (hp.objs.size + 1), H2, J, rfl, z⟩
      · exact ⟨rv, .ref (hp.objs.size + 1), _, retag ne J, rfl, q _ d hn hd ne⟩
    | next => exact False.elim hq'
    | brk => exact False.elim hq'
    | cont => exact False.elim hq'
end

/-! ### .. in the embedding -/
theorem kbn_plain {K : PySem.W.Frag} {x qual : Str} {params : Arguments} {body : List Stmt} {scope : Scope} {kws : List (Str × V)} {f : Addr} {fd : FuncData} {ps : List Str} (F : FunD K x qual params body scope [] kws f fd) (n : Nat) (ks : List Str) (g : {α : Type} → List α → List α → List α)
    (hrel : ∀ {vs zs : List V} {us ws : List Value}, Vals vs us → Vals zs ws → Vals (g vs zs) (g us ws))
    (h : ∀ (kV doc pm : Value) (an : Option Addr) (cdv ct : Value) (us ws : List Value), us.length = n → ws.length = ks.length → bindArgs (PySem.W.fnOf x qual params body scope .none kV doc pm an cdv ct) ⟨us, ks.zip ws⟩ = pure (ps.zip (g us ws))) : KBn K fd ps n ks (fun us ws => g us ws) (fun vs zs => g vs zs) := by
  obtain ⟨oc, od, dV, kV, doc, pm, an, cdv, ct, osl, rfl, lk, hcd, hD, hK⟩ := F.ex
  rcases hD with ⟨_, rfl⟩ | ⟨e, _⟩
  · exact ⟨fun s us ws X l1 l2 => .of_eq (h kV doc pm an cdv ct us ws l1 l2), fun r1 r2 => hrel r1 r2⟩
  · exact absurd rfl e
/-- what is known of an exception class with its __init__ -/
structure XI (X : Cx) (k n : Nat) (C : Addr) (fs ks : List Str) (gV : List V → List V → List V) : Prop where
  cls : XC X.K C
  nf : ∀ f ∈ fs, PySem.W.findIn X.K (.ref C) f = some none
  ini : ∃ (fI : Addr) (fd : FuncData) (ps : List Str) (g : List Value → List Value → List Value), PySem.W.findIn X.K (.ref C) "__init__" = some (some (.ref fI)) ∧ PySem.W.typeIn X.K (.ref fI) = some (.type "function") ∧
    FnOk X.prog X.w X.K X.mg X.base (L2.CX X.prog X.w) k fI fd ps (spX X.K fs) ∧ KBn X.K fd ps (n + 1) ks g gV
/-- how the fields' values come of the arguments -/
structure Perm (gD : List D → List D → List D) (gV : List V → List V → List V) (n m : Nat) (fs : List Str) : Prop where
  rel : ∀ (W : Vw) ds es vs zs, RVs W ds vs → RVs W es zs → ds.length = n → es.length = m → ∃ ys, (∀ a, gV (.ref a :: vs) zs = .ref a :: ys) ∧ ys.length = fs.length ∧ RVs W (gD ds es) ys
def opMkx (C : Str) (n m : Nat) (fs : List Str) (gD : List D → List D → List D) (ds es : List D) (st : Sto) : R D := if ds.length = n ∧ es.length = m ∧ n ≤ 1000 then .ok (.exc C (fs.zip (gD ds es)).reverse) st else .bad
def iMkx (C : Str) (n m : Nat) (fs : List Str) (gD : List D → List D → List D) (j k : IA) : IE := fun env st => (j env st).bind fun ds s => (k env s).bind fun es s2 => opMkx C n m fs gD ds es s2
theorem zip_rf {W : Vw} : ∀ {fs : List Str} {ds : List D} {vs : List V}, RVs W ds vs → RFs W (fs.zip ds) (fs.zip vs)
  | [], _, _, _ => .nil
  | _ :: _, _, _, .nil => .nil
  | f :: fs, _, _, .cons h r => .cons h (zip_rf r)
theorem rf_append {W : Vw} : ∀ {ds ds' : List (Str × D)} {vs vs' : List (Str × V)}, RFs W ds vs → RFs W ds' vs' → RFs W (ds ++ ds') (vs ++ vs')
  | _, _, _, _, .nil, q => q
  | _, _, _, _, .cons h r, q => .cons h (rf_append r q)
theorem rf_reverse {W : Vw} : ∀ {ds : List (Str × D)} {vs : List (Str × V)}, RFs W ds vs → RFs W ds.reverse vs.reverse
  | _, _, .nil => .nil
  | _, _, .cons h r => by rw [List.reverse_cons, List.reverse_cons]; exact rf_append (rf_reverse r) (.cons h .nil)
section
variable {X : Cx} {F : Fx} {k n : Nat} {C x : Str} {fs ks : List Str} {gV : List V → List V → List V} {gD : List D → List D → List D} {p pos : Pos} {e : Expr} {es : List Expr} {kws : List Keyword} {j jk : IA}
theorem k_nil : PK X [] (TA_ F aNil) := ⟨fun pos pins s σ H Q I h => (pk_nil (X := X)).run pos pins s σ H Q I (by
  obtain ⟨W, st, env, A, p⟩ := h
  have q := p W.ρ W.H [] Ext.refl A.sim .nil
  rw [A.h] at q
  exact q)⟩
theorem k_cons {nm : Option Str} {kpos : Pos} {i : IE} {j : IA} (ha : PE X e (TI F i)) (hr : PK X kws (TA_ F j)) : PK X (⟨nm, e, kpos⟩ :: kws) (TA_ F (aCons i j)) := ⟨fun pos pins s σ H Q I h => (pk_cons (nm := nm) (kpos := kpos) ha hr).run pos pins s σ H Q I
  ((TX.bind (k := fun d env s => (j env s).bind fun ds s2 => .ok (d :: ds) s2) h).mono fun x H1 h1 =>
    (TK.bind (i := j) (k := fun d ds env s2 => .ok (d :: ds) s2) (fun x r => RV.mono x r) h1).mono fun y H2 ⟨W, st, env, a, b, A, ra, rb, p⟩ => by
      have q := p W.ρ W.H (x :: y) Ext.refl A.sim (.cons ra rb)
      rw [A.h] at q
      exact q)⟩
theorem mkx_core {pins : List (Addr × Obj)} {σ : L2.St} {H : Hp} {s : Shared} {Q : VK} {us ws : List Value} {vs zs : List V} {W : Vw} {st : Sto} {env : Env} {ds es : List D} (T : XI X k n (F.g C) fs ks gV) (pm : Perm gD gV n ks.length fs) (hr : Room (k + 1) X.A)
    (I : Inv X pins σ H s) (r : Vals vs us) (rz : Vals zs ws) (A : At F W st env σ H) (rd : RVs W ds vs) (re : RVs W es zs) (p : PostE W (opMkx C n ks.length fs gD ds es st) Q (F.at_ σ)) :
    wpAny (model X.prog X.w) X.A (call (.ref (F.g C)) us (ks.zip ws)) (EP X pins σ Q) X.xe s := by
  unfold opMkx at p
  split at p
  · rename_i c
    obtain ⟨ys, e1, e2, ry⟩ := pm.rel W ds es vs zs rd re c.1 c.2.1
    obtain ⟨fI, fd, ps, g, iC, tI, F1, hb⟩ := T.ini
    have l1 : vs.length = n := by rw [← rd.length]; exact c.1
    have eH := A.h
    subst eH
    refine run_mkx (CX := L2.CX X.prog X.w) T.cls iC tI F1 hr hb passL I r rz (by rw [l1]; exact c.2.2) l1 (by rw [← re.length]; exact c.2.1) e1 e2 T.nf fun a d ha hd ne => ?_
    have x1 : Ext W W.ρ (upd W.H a (exq a (F.g C) (some d))) := ext_new0 ha
    have hd1 : (upd W.H a (exq a (F.g C) (some d))) d = none := by rw [upd_ne ne]; exact hd
    have x2 : Ext (W.to W.ρ (upd W.H a (exq a (F.g C) (some d)))) W.ρ (upd (upd W.H a (exq a (F.g C) (some d))) d (.xd (fs.zip ys).reverse)) := ext_new0 hd1
    have S1 : Sim (W.to W.ρ (upd W.H a (exq a (F.g C) (some d)))) st := A.sim.new0 ha
    have x := x1.trans x2
    refine p W.ρ _ _ x (S1.new0 hd1) ?_
    have fa : (W.to W.ρ (upd (upd W.H a (exq a (F.g C) (some d))) d (.xd (fs.zip ys).reverse))).fro a := new_fro A.sim ha
    have fd : (W.to W.ρ (upd (upd W.H a (exq a (F.g C) (some d))) d (.xd (fs.zip ys).reverse))).fro d := new_fro A.sim hd
    refine .exc (d := some d) ?_ fa (fun z => by cases z) (fun dx z => ?_) (rf_reverse (zip_rf (ry.mono x)))
    · show (upd (upd W.H a (exq a (F.g C) (some d))) d (.xd (fs.zip ys).reverse)) a = some (exq a (W.g C) (some d))
      rw [upd_ne ne.symm, upd_same, A.g]
    · cases z
      exact ⟨upd_same, fd⟩
  · exact p.elim
/-- C(e, ..) -/
theorem e_mkx (T : XI X k n (F.g C) fs [] gV) (pm : Perm gD gV n 0 fs) (hr : Room (k + 1) X.A) (hg : Gl X x) (hm : X.mg x = some (.ref (F.g C))) (ha : PA X (e :: es) (TA_ F j)) (hdb : (x == ("__debug__" : Str)) = false := by decide)
    (he : starEach (e :: es) X.env = (false, eval e X.env) :: starEach es X.env := by rfl) (hpl : (backTo pos (starEach es X.env)).any (·.1) = false := by rfl) : PE X (.Call (.Name x p) (e :: es) [] pos) (TI F (iMkx C n 0 fs gD j aNil)) := by
  refine ⟨fun pins s σ H Q I h => ?_⟩
  refine wpAny_Call_Name_kw (ld_glob I hg hm (PySem.W.callWith_K (h₀ := X.base) I.ok.mod.kin T.cls.kC (thn (ha.run pos pins s σ H _ I (TX.bind (k := fun ds env s => opMkx C n 0 fs gD ds [] s) h)) fun us s1 ⟨vs, H1, I1, r, W, st, env, ds, A, rd, p⟩ => ⟨I1.kIn, ?_⟩) he hpl) hdb)
  exact mkx_core (ws := []) (zs := []) (ks := []) T pm hr I1 r .nil A rd .nil p
/-- C(k = e, ..) -/
theorem e_mkxK (T : XI X k 0 (F.g C) fs ks gV) (pm : Perm gD gV 0 ks.length fs) (hr : Room (k + 1) X.A) (hg : Gl X x) (hm : X.mg x = some (.ref (F.g C))) (hkw : PK X kws (TA_ F jk)) (hall : (backToKw pos (keywordEach kws X.env)).all (·.1.isSome) = true := by rfl) (hks : (backToKw pos (keywordEach kws X.env)).filterMap (·.1) = ks := by rfl)
    (hdb : (x == ("__debug__" : Str)) = false := by decide) (hpl : ((backTo pos (starEach [] X.env)).any (·.1) || (backToKw pos (keywordEach kws X.env)).any (·.1.isNone)) = false := by rfl) : PE X (.Call (.Name x p) [] kws pos) (TI F (iMkx C 0 ks.length fs gD aNil jk)) := by
  refine ⟨fun pins s σ H Q I h => ?_⟩
  refine wpAny_Call_Name_kw (ld_glob I hg hm (PySem.W.callWith_KW0 (h₀ := X.base) I.ok.mod.kin T.cls.kC hall (thn (hkw.run pos pins s σ H _ I (TX.bind (k := fun es env s => opMkx C 0 ks.length fs gD [] es s) h)) fun ws s1 ⟨zs, H1, I1, rz, W, st, env, es, A, re, p⟩ => ⟨I1.kIn, ?_⟩) hpl) hdb)
  rw [hks]
  exact mkx_core (us := []) (vs := []) T pm hr I1 .nil rz A .nil re p
/-- C() of a class without own __init__ -/
theorem e_mk0 {B newId initId : String} {tail : List Value} (b : XB B newId initId tail) (q : PySem.W.excIn X.K (F.g C) tail newId = true) (kC : PySem.W.keepIn X.K (.ref (F.g C)) = true) (hg : Gl X x) (hm : X.mg x = some (.ref (F.g C))) (hdb : (x == ("__debug__" : Str)) = false := by decide) :
    PE X (.Call (.Name x p) [] [] pos) (TI F (iC (.exc C []))) := by
  refine ⟨fun pins s σ H Q I ⟨W, st, env, A, p⟩ => ?_⟩
  refine wpAny_Call_Name_kw (ld_glob I hg hm (PySem.W.callWith_K0 I.kIn kC ?_) hdb)
  show wpAny _ _ (call (.ref (F.g C)) []) _ _ _
  obtain ⟨bm, N, nm, qn, bs, hdct, sn, sub, ab, col, dd, k0, k1, k2, k3, k5, mN, hC, hN, hni, T⟩ := exc_obj I.kIn q
  obtain ⟨hp, g0, dr, tk, os⟩ := s
  refine wpAny_call_exc_subT b.f T hC hN hni (fun h' a hmx => ?_) (Nat.zero_le _)
  have eH := A.h
  subst eH
  have hn : W.H a = none := I.hok.gone hmx.new
  obtain ⟨t, ht, _, _⟩ := hmx.there
  have J : Inv X pins σ (upd W.H a (exq a (F.g C) none)) ⟨h', g0, dr, tk, os⟩ := I.laidN (t' := tk) (o := exq a (F.g C) none) hmx.keeps hmx.new hn (exq_ok ht)
  refine ⟨.ref a, _, J, rfl, p W.ρ _ _ (ext_new0 hn) (A.sim.new0 hn) (.exc (d := none) ?_ (new_fro A.sim hn) (fun _ => rfl) (fun dx z => by cases z) .nil)⟩
  rw [← A.g]
  exact upd_same
end
end M
/-! M10: frozen lists and dicts, slices, stores in lists, repr, isinstance, an exception's field, names. -/
namespace M
open PySem PySem.Spec PyProof.Rows L2

section
variable {X : Cx} {F : Fx} {pos : Pos} {W : Vw} {st : Sto}
/-! ### displays nobody changes -/
def opLstF : OpN := fun ds st => if ds.length ≤ sizeLine then some (.lst ds, st) else none
theorem e_lstF {es : List Expr} {j : IA} (h : PA X es (TA_ F j)) : PE X (.List es pos) (TI F (iN opLstF j)) := PE.imp (pe_lst h) fun σ H Q h => (n_rN h).mono fun vs H1 ⟨W, st, ds, I, r, p⟩ => by
  unfold opLstF at p
  split at p
  · rename_i c
    have eH := I.h
    subst eH
    exact ⟨by rw [← r.length]; exact c, fun q hq => p.listF I.sim r hq⟩
  · exact p.elim
theorem e_dct0 : PE X (.Dict [] [] pos) (TI F (iC (.dct [] []))) := PE.imp pe_dnewK fun σ H Q ⟨W, st, env, A, p⟩ q hq => by
  have eH := A.h
  subst eH
  exact p W.ρ _ _ (ext_new0 hq) (A.sim.new0 hq) (.dct upd_same (new_fro A.sim hq) rfl .nil)
def opListF : OpN := fun ds st => match ds with
  | [d] => (aseq st d).map fun xs => (.lst xs, st)
  | _ => none
theorem cr_listF (hk : X.K = F.K) : CallR X (.type "list") (rN F opListF) := CallR.imp call_list_of fun xs H Q ⟨W, st, ds, I, r, p⟩ => by
  unfold opListF at p
  split at p
  · rename_i d
    obtain ⟨v, rfl, rv⟩ := rv1 r
    cases e : aseq st d with
    | none => rw [e] at p; exact p.elim
    | some xs =>
      rw [e] at p
      obtain ⟨a, ys, rfl, hs, ry⟩ := aseq_at I.sim e rv
      have eH := I.h
      subst eH
      rw [I.k, ← hk] at hs
      exact ⟨a, ys, rfl, hs, fun l hl => p.listF I.sim ry hl⟩
  · exact p.elim

/-! ### names -/
theorem e_glo {x : Str} (hg : Gl X x) (hm : X.mg x = some (.ref (F.g x))) (hd : (x == ("__debug__" : Str)) = false := by decide) : PE X (.Name x pos) (TI F (iC (.glo x))) := e_con (pe_glob hg hm (v := .ref (F.g x)) rfl hd) fun W _ e => by rw [← e]; exact .glo x
theorem e_gint {x : Str} {i : Int} (hg : Gl X x) (hm : ∃ t, X.mg x = some (.int i t)) (hd : (x == ("__debug__" : Str)) = false := by decide) : PE X (.Name x pos) (TI F (iC (.int i))) := by
  obtain ⟨t, hm⟩ := hm
  exact e_con (pe_glob hg hm (v := .int i) ⟨t, rfl⟩ hd) fun W _ _ => .int i
theorem e_gstr {x z : Str} (hg : Gl X x) (hm : ∃ t, X.mg x = some (.str z t)) (hd : (x == ("__debug__" : Str)) = false := by decide) : PE X (.Name x pos) (TI F (iC (.str z))) := by
  obtain ⟨t, hm⟩ := hm
  exact e_con (pe_glob hg hm (v := .str z) ⟨t, rfl⟩ hd) fun W _ _ => .str z
theorem e_bty {x : Str} {n : String} (hg : Gl X x) (hm : X.mg x = none) (hv : bootBuiltins x = some (.type n)) (hn : x ≠ "__name__" := by decide) (hd : (x == ("__debug__" : Str)) = false := by decide) : PE X (.Name x pos) (TI F (iC (.ty n))) := e_con (pe_bltn hg hm hv (v := .ty n) rfl hn hd) fun W _ _ => .ty n

/-! ### all -/
def asB : D → Option Bool
  | .bl b => some b
  | _ => none
def opAll : OpN := fun ds st => match ds with
  | [d] => match alst st d with
    | some xs => (allP asB xs).map fun bs => (.bl (bs.all id), st)
    | none => none
  | _ => none
theorem asB_rv : ∀ {xs : List D} {bs : List Bool} {ys : List V}, allP asB xs = some bs → RVs W xs ys → ys = bs.map V.bl
  | [], _, _, h, .nil => by cases h; rfl
  | x :: xs, _, _, h, .cons r rs => by
    obtain ⟨p, q, e1, e2, rfl⟩ := allP_cons h
    rw [asB_rv e2 rs]
    cases r <;> cases e1
    rfl
theorem cr_allL (hk : X.K = F.K) (hc : X.calm = true) : CallR X (.builtin "all") (rN F opAll) := CallR.imp (cr_all hc) fun xs H Q ⟨W, st, ds, I, r, p⟩ => by
  unfold opAll at p
  split at p
  · rename_i d
    obtain ⟨v, rfl, rv⟩ := rv1 r
    split at p
    · rename_i xs e
      obtain ⟨a, ys, rfl, hs, ry⟩ := alst_at I.sim e rv
      rw [I.k, ← hk, I.h] at hs
      cases e2 : allP asB xs with
      | none => rw [e2] at p; exact p.elim
      | some bs =>
        rw [e2] at p
        rw [asB_rv e2 ry] at hs
        exact ⟨a, bs, rfl, hs, I.now p (.bl _)⟩
    · exact p.elim
  · exact p.elim

/-! ### repr -/
def rpr (st : Sto) : D → Option Str
  | .dct [] [] => some (dictText [])
  | d => match toP st 64 d with
    | some p => if p.showable = true ∧ p.shown.length ≤ sizeLine then some p.shown else none
    | none => none
def opRepr : OpN := fun ds st => match ds with
  | [d] => (rpr st d).map fun x => (.str x, st)
  | _ => none
theorem cr_repr (hk : X.K = F.K) (hgd : X.A.guards = some []) (hu : X.A.units + (64 + 1) < cLine) : CallR X (.builtin "repr") (rN F opRepr) := fun pins s σ H vs us Q I r ⟨W, st, ds, J, rd, p⟩ => by
  unfold opRepr at p
  split at p
  · rename_i d
    obtain ⟨v, rfl, rv⟩ := rv1 rd
    obtain ⟨u, rfl, ru⟩ := vals1 r
    have eK := J.k
    have eH := J.h
    cases e : rpr st d with
    | none => rw [e] at p; exact p.elim
    | some x =>
      rw [e] at p
      have q := J.now p (.str x)
      have keep : ∀ (h' : Heap) (tk : Nat), (∀ b o, s.heap.get? b = some o → h'.get? b = some o) → Inv X pins σ H { s with heap := h', toks := tk } := fun h' tk k => I.kept k
      have heap : ∀ {a : Addr} {pd : PyData} {as : List Addr}, Reads s.heap (.ref a) pd as → pd.showable = true → (pd.hasDict = true → sysModules ∉ as) → pd.depth ≤ 64 → pd.shown.length ≤ sizeLine → pd.shown = x → wpAny (model X.prog X.w) X.A (call (.builtin "repr") [.ref a]) (EP X pins σ Q) X.xe s := fun {a pd as} rr h1 h2 h3 h4 h5 =>
        repr_of_reads' rr h1 h2 hgd (by omega) (fun b o z => z) (fun h' t tk k => ⟨.str x, H, keep h' tk k, ⟨t, by rw [h5]⟩, q⟩) h4
      unfold rpr at e
      split at e
      · cases e
        cases rv with
        | @dct a _ _ ys h1 h2 h3 h4 =>
          cases ru
          cases ys with
          | cons y ys => cases h4
          | nil =>
          obtain ⟨_, hs, vs2, kvr, o, es, ep, ho, hx, hd, _, hp, _⟩ := (show ObjOk X.prog X.w H s.heap a (.dK []) from I.hok a _ (by rw [← eH]; exact h1))
          have e0 : vs2 = [] := by
            cases vs2 with
            | nil => rfl
            | cons z zs => cases kvr
          subst e0
          have e1 : es.toList = [] := by
            generalize es.toList = el at hp
            cases hp
            rfl
          refine heap (pd := .dict []) (as := [a] ++ []) (.dict (as := []) (bs := []) ho hx.1 hd (by rw [e1]; exact .nil) (by rw [e1]; exact .nil)) rfl (fun _ m => ?_) (by decide) (by decide) rfl
          have m' : sysModules = a := by simpa using m
          rw [← m'] at hs
          simp at hs
      · split at e
        · rename_i pd hp
          split at e
          · rename_i c
            cases e
            obtain ⟨a1, a2, a3⟩ := toP_good J.sim _ _ _ hp
            have x1 := a3 _ rv
            rw [eK, ← hk, eH] at x1
            obtain ⟨as, rr⟩ := Dp.reads I pd v u x1 ru
            cases rr with
            | none => exact PySem.P.repr_of_none ⟨.str _, H, I.tok _, ⟨_, rfl⟩, q⟩
            | bool b => exact PySem.P.repr_of_bool ⟨.str _, H, I.tok _, ⟨_, rfl⟩, q⟩
            | int i t => exact PySem.P.repr_of_int (by simpa [PyData.showable] using c.1) ⟨.str _, H, I.tok _, ⟨_, rfl⟩, q⟩
            | str z t => exact PySem.P.repr_of_str ⟨.str _, H, I.tok _, ⟨_, rfl⟩, q⟩ c.2
            | list h1 h2 h3 h4 => exact heap (.list h1 h2 h3 h4) c.1 (fun z => by rw [PyData.hasDict_of_canLay _ a1] at z; cases z) a2 c.2 rfl
            | tuple h1 h2 h3 h4 => exact heap (.tuple h1 h2 h3 h4) c.1 (fun z => by rw [PyData.hasDict_of_canLay _ a1] at z; cases z) a2 c.2 rfl
            | dict h1 h2 h3 h4 h5 => exact heap (.dict h1 h2 h3 h4 h5) c.1 (fun z => by rw [PyData.hasDict_of_canLay _ a1] at z; cases z) a2 c.2 rfl
          · cases e
        · cases e
  · exact p.elim
end
end M
/-! M11: slices, stores in lists, isinstance, an exception's field. -/
namespace M
open PySem PySem.Spec PyProof.Rows L2

section
variable {X : Cx} {F : Fx} {pos p2 : Pos} {W : Vw} {st : Sto}
/-! ### slices -/
def PN (_ : Vw) (a b : Option Int) : Prop := a = b
abbrev IO := Env → Sto → R (Option Int)
abbrev TO_ (F : Fx) (i : IO) : L2.TO := TX PN F i
def oNone : IO := fun _ st => .ok none st
def kPart (d : D) (s : Sto) : R (Option Int) := match d with
  | .int i => .ok (some i) s
  | _ => .bad
def oSome (i : IE) : IO := fun env st => (i env st).bind kPart
theorem o_none : PO X none (TO_ F oNone) := ⟨fun pins s σ H Q I h => (po_none (X := X)).run pins s σ H Q I (by
  obtain ⟨W, st, env, A, p⟩ := h
  have q := p W.ρ W.H none Ext.refl A.sim rfl
  rw [A.h] at q
  exact q)⟩
theorem o_some {e : Expr} {i : IE} (he : PE X e (TI F i)) : PO X (some e) (TO_ F (oSome i)) := ⟨fun pins s σ H Q I h => (po_some he).run pins s σ H Q I ((TX.bind (k := fun d env s => kPart d s) h).mono fun x H1 ⟨W, st, env, d, A, r, p⟩ => by
  unfold kPart at p
  cases r with
  | int i =>
    have q := p W.ρ W.H (some i) Ext.refl A.sim rfl
    rw [A.h] at q
    exact ⟨i, rfl, q⟩
  | _ => exact p.elim)⟩
def cutL {α : Type} (xs : List α) (lo hi : Option Int) : List α := (xs.drop (HT.sIx xs.length 0 lo)).take (HT.sIx xs.length xs.length hi - HT.sIx xs.length 0 lo)
theorem RVs.cut {xs : List D} {ys : List V} (r : RVs W xs ys) (lo hi : Option Int) : RVs W (cutL xs lo hi) (cutV ys lo hi) := by
  unfold cutL cutV
  rw [r.length]
  exact (r.drop _).take _
/-- a slice of a list is a new one that nobody changes -/
def opSl (a : D) (lo hi : Option Int) (st : Sto) : Option (D × Sto) := match a with
  | .str z => if z.length ≤ sizeLine then some (.str (cutS z lo hi), st) else none
  | .tup xs => if HT.sIx xs.length 0 lo = 0 ∧ HT.sIx xs.length xs.length hi = xs.length then none else some (.tup (cutL xs lo hi), st)
  | a => (alst st a).map fun xs => (.lst (cutL xs lo hi), st)
def rS (F : Fx) : V → Option Int → Option Int → Hp → VK → Prop := fun x lo hi H Q => ∃ W st a, In F W st H ∧ RV W a x ∧ PostO W (opSl a lo hi st) Q
theorem SlR.imp {r r' : V → Option Int → Option Int → Hp → VK → Prop} (a : SlR X r) (h : ∀ x l u H Q, r' x l u H Q → r x l u H Q) : SlR X r' := fun p s σ H x v vl vu lo hi sl Q I rx hs pl pu q => a p s σ H x v vl vu lo hi sl Q I rx hs pl pu (h x lo hi H Q q)
theorem sr_sl (hk : X.K = F.K) : SlR X (rS F) := SlR.imp (sl_list.or (sl_tup.or sl_str)) fun x lo hi H Q ⟨W, st, a, I, ra, p⟩ => by
  have eH := I.h
  subst eH
  unfold opSl at p
  split at p
  · cases ra
    split at p
    · exact .inr (.inr ⟨_, rfl, by assumption, p.now I.sim (.str _)⟩)
    · exact p.elim
  · split at p
    · exact p.elim
    · rename_i c
      obtain ⟨q, ys, rfl, hs, ry⟩ := tup_at ra
      rw [I.k, ← hk] at hs
      refine .inr (.inl ⟨q, ys, rfl, hs, by rw [← ry.length]; exact c, fun l hl => p.tuple I.sim (ry.cut lo hi) hl⟩)
  · cases e : alst st a with
    | none => rw [e] at p; exact p.elim
    | some xs =>
      rw [e] at p
      obtain ⟨q, ys, rfl, hs, ry⟩ := alst_at I.sim e ra
      rw [I.k, ← hk] at hs
      exact .inl ⟨q, ys, rfl, hs, fun l hl => p.listF I.sim (ry.cut lo hi) hl⟩
def iSl (i : IE) (lo hi : IO) : IE := fun env st => (i env st).bind fun a s => (lo env s).bind fun l s1 => (hi env s1).bind fun u s2 => ofO (opSl a l u s2)
def P2 (W : Vw) (a : D × Option Int) (b : V × Option Int) : Prop := RV W a.1 b.1 ∧ a.2 = b.2
theorem TK.pair {α β γ δ κ μ : Type} {P : Vw → α → β → Prop} {P' : Vw → γ → δ → Prop} {P2 : Vw → κ → μ → Prop} {σ : L2.St} {H : Hp} {k : α → γ → Env → Sto → R κ} {Q : μ → Hp → Prop} {b : β} {c : δ} (h : ∃ W st env a d, At F W st env σ H ∧ P W a b ∧ P' W d c ∧ Post W P2 (k a d env st) Q (F.at_ σ)) :
    TK (fun W (x : α × γ) (y : β × δ) => P W x.1 y.1 ∧ P' W x.2 y.2) P2 F (fun x env st => k x.1 x.2 env st) (b, c) σ H Q := by
  obtain ⟨W, st, env, a, d, A, r1, r2, p⟩ := h
  exact ⟨W, st, env, (a, d), A, ⟨r1, r2⟩, p⟩
theorem e_sl {a : Expr} {lo hi : Option Expr} {i : IE} {l u : IO} (hk : X.K = F.K) (ha : PE X a (TI F i)) (hl : PO X lo (TO_ F l)) (hu : PO X hi (TO_ F u)) : PE X (.Subscript a (.Slice lo hi none p2) pos) (TI F (iSl i l u)) := PE.imp (pe_slice (sr_sl hk) ha hl hu) fun σ H Q h =>
  (TX.bind (k := fun a env s => (l env s).bind fun x s1 => (u env s1).bind fun y s2 => ofO (opSl a x y s2)) h).mono fun x H1 h1 =>
    (TK.bind (i := l) (k := fun a x env s1 => (u env s1).bind fun y s2 => ofO (opSl a x y s2)) (fun x r => RV.mono x r) h1).mono fun y H2 h2 =>
      (TK.bind (P := fun W (x : D × Option Int) (y : V × Option Int) => RV W x.1 y.1 ∧ PN W x.2 y.2) (i := u) (k := fun a y env s2 => ofO (opSl a.1 a.2 y s2)) (fun x r => ⟨RV.mono x r.1, r.2⟩) (TK.pair (P := RV) (P' := PN) (k := fun a x env s1 => (u env s1).bind fun y s2 => ofO (opSl a x y s2)) h2)).mono fun z H3 ⟨W, st, env, a, b, A, ra, rb, p⟩ => by
        cases (show b = z from rb)
        obtain ⟨ra, e⟩ := ra
        cases (show a.2 = y from e)
        exact ⟨W, st, a.1, A.in_, ra, PostO.of p⟩

/-! ### xs[i] = v -/
def kSet (d o k : D) (env : Env) (st : Sto) : R Env := match o, k with
  | .ref n, .int i => match lstAt st n with
    | some xs => match ixN xs.length i with
      | some j => .ok env (st.set n (.lst (xs.set j d)))
      | none => .bad
    | none => .bad
  | _, _ => .bad
def gIx (i j : IE) : IG := fun d env st => (i env st).bind fun o s => (j env s).bind fun k s2 => kSet d o k env s2
theorem g_ix {o k : Expr} {i j : IE} (ho : PE X o (TI F i)) (hk : PE X k (TI F j))
    (ha : ∀ v, assign (.Subscript o k pos) X.env v = (do let p1 ← holding [v] (eval o X.env); let p2 ← holding [v, p1] (eval k X.env); standAt pos; holding [v, p1, p2] (setItem p1 p2 v); release [v, p1, p2] []) := by intro _; rfl) : PG X (.Subscript o k pos) (TG_ F (gIx i j)) := by
  refine ⟨fun pins s σ H v u Q I r h => (pg_sub ho hk set_list ha).run pins s σ H v u Q I r ?_⟩
  have h0 : TK RV PE_ F (fun d env st => (i env st).bind fun o s => (j env s).bind fun k s2 => kSet d o k env s2) v σ H Q := h
  refine (TK.bind (i := i) (k := fun d o env s => (j env s).bind fun k s2 => kSet d o k env s2) (fun x r => RV.mono x r) h0).mono fun x H1 h1 => ?_
  refine (TK.bind (P := fun W (x : D × D) (y : V × V) => RV W x.1 y.1 ∧ RV W x.2 y.2) (i := j) (k := fun a k env s2 => kSet a.1 a.2 k env s2) (fun x r => ⟨RV.mono x r.1, RV.mono x r.2⟩) (TK.pair (P := RV) (P' := RV) (k := fun d o env s => (j env s).bind fun k s2 => kSet d o k env s2) h1)).mono fun y H2 ⟨W, st, env, a, b, A, ra, rb, p⟩ => ?_
  obtain ⟨ra, ro⟩ := ra
  have eH := A.h
  subst eH
  obtain ⟨d, o'⟩ := a
  have p' : Post W PE_ (kSet d o' b env st) Q (F.at_ σ) := p
  unfold kSet at p'
  split at p'
  · rename_i n i'
    split at p'
    · rename_i xs hx
      split at p'
      · rename_i jx hj
        obtain ⟨m, q, ys, e1, e2, e3, e4, e5, ry⟩ := mlst_at A.sim (d := .ref n) (xs := xs) hx ro
        cases e1
        cases rb
        cases (show x = V.ref q from e2)
        have x7 : Ext W W.ρ (upd W.H q (.lst (ys.set jx v))) := ext_put (List.mem_of_getElem? e3)
        have z : EnvR (W.to W.ρ (upd W.H q (.lst (ys.set jx v)))) env σ := A.env.mono x7
        exact ⟨q, ys, _, jx, rfl, rfl, e5, by rw [← ry.length]; exact hj, p' W.ρ _ σ x7 (A.sim.put e3 ⟨_, upd_same, RVs.mono x7 (ry.set jx ra)⟩) z⟩
      · exact p'.elim
    · exact p'.elim
  · exact p'.elim

/-! ### isinstance -/
inductive Tg where
  | ty (n : String)
  | own (C : Str)
  deriving DecidableEq
def Tg.val (g : Str → Addr) : Tg → Value
  | .ty n => .type n
  | .own C => .ref (g C)
def tagD (st : Sto) : D → Option Tg
  | .non => some (.ty "NoneType")
  | .bl _ => some (.ty "bool")
  | .int _ => some (.ty "int")
  | .str _ => some (.ty "str")
  | .tup _ => some (.ty "tuple")
  | .lst _ => some (.ty "list")
  | .dct _ _ => some (.ty "dict")
  | .exc C _ => some (.own C)
  | .ref n => match st[n]? with
    | some (.lst _) => some (.ty "list")
    | some (.dct _) => some (.ty "dict")
    | _ => none
  | _ => none
def clsD : D → Option Tg
  | .ty n => some (.ty n)
  | .glo C => some (.own C)
  | _ => none
/-- what an own exception class must have for isinstance and for fields -/
structure XF (K : PySem.W.Frag) (C : Addr) : Prop where
  fld : XfC K C
  cl : (PySem.W.clsIn K C).isSome = true
  ca : PySem.W.findIn K (.ref C) "__class__" = some (some (.builtin "object.__class__"))
  sp : PySem.W.specialIn K (.builtin "object.__class__") "__get__" = some (some (.builtin "getset_descriptor.__get__"))
  tk : PySem.W.takesIn K (.builtin "object.__class__") = some true
  mr : PySem.W.mroIn K C (.type "object") = some true
/-- the classes of exceptions, and what isinstance says of pairs -/
structure Isa (K : PySem.W.Frag) (g : Str → Addr) (xs : List Str) (tb : Tg → Tg → Option Bool) : Prop where
  xf : ∀ C ∈ xs, XF K (g C)
  tb : ∀ t c b, tb t c = some b → PySem.W.kitOne K (t.val g) (c.val g) = some b
def opIsi (xs : List Str) (tb : Tg → Tg → Option Bool) : OpN := fun ds st => match ds with
  | [.exc C _, c] => if C ∈ xs then (match clsD c with
    | some u => (tb (.own C) u).map fun b => (.bl b, st)
    | none => none) else none
  | [d, c] => match tagD st d, clsD c with
    | some (.ty n), some u => (tb (.ty n) u).map fun b => (.bl b, st)
    | _, _ => none
  | _ => none
theorem clsD_val {c : D} {v : V} {u : Tg} {w : Value} (h : clsD c = some u) (r : RV W c v) (hg : W.g = F.g) (rw_ : RelV v w) : w = u.val F.g := by
  cases r <;> cases h
  · exact rw_
  · rw [← hg]; exact rw_
theorem tag_ty {d : D} {v : V} {n : String} (hk : X.K = F.K) {H : Hp} (I : In F W st H) (h : tagD st d = some (.ty n)) (r : RV W d v) : TyX X.K H v (.type n) := by
  have eH := I.h
  subst eH
  cases r with
  | non => cases h; exact .base .non
  | bl b => cases h; exact .base (.bl _)
  | int b => cases h; exact .base (.int _)
  | str b => cases h; exact .base (.str _)
  | tup t _ =>
    cases h
    rcases t with ⟨t, _⟩ | ⟨o, its, n, q, c, _⟩
    · exact .base (.tup t)
    · exact .kTuple (by rw [hk, ← I.k]; exact q) c
  | lst t _ =>
    cases h
    rcases t with ⟨t | ⟨o, t⟩, _⟩ | ⟨its, n, q, c⟩
    · exact .base (.lst t)
    · exact .base (.frz t)
    · exact .kList (by rw [hk, ← I.k]; exact q) rfl
  | dct t _ _ _ => cases h; exact .base (.dK t)
  | @ref m a e =>
    have h' : (match st[m]? with
    | some (.lst _) => some (Tg.ty "list")
    | some (.dct _) => some (Tg.ty "dict")
    | _ => none) = some (.ty n) := h
    split at h'
    · rename_i xs q
      cases h'
      obtain ⟨ys, h1, _⟩ := I.sim.at_ _ _ _ q e
      exact .base (.lst h1)
    · rename_i xs q
      cases h'
      obtain ⟨ys, h1, _⟩ := I.sim.at_ _ _ _ q e
      exact .base (.dK h1)
    · cases h'
  | _ => cases h
theorem exc_inst {H : Hp} {pins : List (Addr × Obj)} {σ : L2.St} {s : Shared} {C : Str} {fs : List (Str × D)} {v : V} {u : Value} (J : In F W st H) (I : Inv X pins σ H s) (r : RV W (.exc C fs) v) (ru : RelV v u) : ∃ (a : Addr) (ox : Obj) (od : Option Obj), u = .ref a ∧ v = .ref a ∧ PySem.W.InstAt s.heap a ox (F.g C) od ∧
    ∃ gs, RFs W fs gs ∧ ∀ f x, gs.lookup f = some x → ∃ oo y, od = some oo ∧ PySem.W.lookIn f oo = some (some y) ∧ RelV x y := by
  have eH := J.h
  have eg := J.g
  subst eH
  cases r with
  | @exc a d _ _ gs h1 h2 h3 h4 h5 =>
    obtain ⟨⟨o, vs, ho, hc, hd0, hdt⟩, _⟩ := I.hok a _ h1
    rw [eg] at hc
    have nc : PySem.W.notCls o = true := by unfold PySem.W.notCls; rw [hdt] <;> rfl
    cases d with
    | none =>
      cases h3 rfl
      exact ⟨a, _, none, ru, rfl, ⟨ho, hc, nc, by rw [hd0]; trivial⟩, [], h5, fun f x z => by cases z⟩
    | some dx =>
      obtain ⟨mA, hns, hr⟩ := (show ObjOk X.prog X.w W.H s.heap dx (.xd gs) from I.hok dx _ (h4 dx rfl).1)
      obtain ⟨od, hod, hl⟩ := lookIn_ns hns
      refine ⟨a, _, some od, ru, rfl, ⟨ho, hc, nc, by rw [hd0]; exact hod⟩, gs, h5, fun f x z => ?_⟩
      obtain ⟨y, hy, ry⟩ := RelO.some_of (v := x) (o := mA f) (by rw [← z]; exact hr f)
      exact ⟨od, y, rfl, by rw [hl, hy], ry⟩
theorem cr_isi {xs : List Str} {tb : Tg → Tg → Option Bool} (hk : X.K = F.K) (T : Isa F.K F.g xs tb) : CallR X (.builtin "isinstance") (rN F (opIsi xs tb)) := fun pins s σ H vs us Q I r ⟨W, st, ds, J, rd, p⟩ => by
  unfold opIsi at p
  split at p
  · rename_i C fs c
    split at p
    · rename_i hC
      obtain ⟨v1, v2, rfl, rv1, rv2⟩ := rv2 rd
      obtain ⟨u1, u2, rfl, ru1, ru2⟩ := vals2 r
      split at p
      · rename_i u hu
        cases e : tb (.own C) u with
        | none => rw [e] at p; exact p.elim
        | some b =>
          rw [e] at p
          obtain ⟨a, ox, od, rfl, rfl, IA, _⟩ := exc_inst J I rv1 ru1
          have e2 := clsD_val hu rv2 J.g ru2
          subst e2
          have q := J.now p (.bl b)
          have Z := T.xf C hC
          have kk := T.tb _ _ _ e
          rw [← hk] at Z kk
          exact PySem.W.kia_one (PySem.W.kitx_exc Z.cl Z.fld.ga Z.fld.gg Z.fld.exC Z.ca Z.sp Z.tk Z.mr) I.kIn IA kk (fun z => nomatch z) fun tk => ⟨.bl b, H, I.tok tk, rfl, q⟩
      · exact p.elim
    · exact p.elim
  · rename_i d c _
    obtain ⟨v1, v2, rfl, rv1, rv2⟩ := rv2 rd
    obtain ⟨u1, u2, rfl, ru1, ru2⟩ := vals2 r
    split at p
    · rename_i n u hn hu
      cases e : tb (.ty n) u with
      | none => rw [e] at p; exact p.elim
      | some b =>
        rw [e] at p
        have e2 := clsD_val hu rv2 J.g ru2
        subst e2
        have q := J.now p (.bl b)
        have kk := T.tb _ _ _ e
        rw [← hk] at kk
        obtain ⟨P, Z, pp, hx⟩ := kit_of I ru1 (tag_ty hk J hn rv1)
        exact PySem.W.kia_one Z I.kIn pp kk hx fun tk => ⟨.bl b, H, I.tok tk, rfl, q⟩
    · exact p.elim
  · exact p.elim

/-! ### e.f of an exception -/
/-- the classes whose instances have f of their own alone -/
structure Fld (K : PySem.W.Frag) (g : Str → Addr) (f : Str) (xs : List Str) : Prop where
  xf : ∀ C ∈ xs, XfC K (g C)
  no : ∀ C ∈ xs, PySem.W.findIn K (.ref (g C)) f = some none
def opFld (xs : List Str) (f : Str) : Op1 := fun d st => match d with
  | .exc C fs => if C ∈ xs then (fs.lookup f).map fun x => (x, st) else none
  | _ => none
theorem rf_lookup {f : Str} : ∀ {fs : List (Str × D)} {gs : List (Str × V)} {d : D}, RFs W fs gs → fs.lookup f = some d → ∃ v, gs.lookup f = some v ∧ RV W d v
  | _, _, _, .nil, h => by cases h
  | _, _, d, .cons (f := n) r rs, h => by
    simp only [List.lookup] at h ⊢
    split at h
    · cases h; exact ⟨_, rfl, r⟩
    · exact rf_lookup rs h
theorem e_fld {e : Expr} {f : Str} {xs : List Str} {i : IE} (hk : X.K = F.K) (T : Fld F.K F.g f xs) (he : PE X e (TI F i)) (hb : attributeBase e f X.env (eval e X.env) = eval e X.env := by rfl) : PE X (.Attribute e f pos) (TI F (iUn (opFld xs f) i)) := by
  refine ⟨fun pins s σ H Q I h => ?_⟩
  refine attr_of hb (thn (he.run pins s σ H _ I (TX.bind (k := fun a env s1 => ofO (opFld xs f a s1)) h)) fun u s1 ⟨v, H1, I1, ru, W, st, env, d, A, rd, p⟩ => ?_)
  replace p := PostO.of p
  unfold opFld at p
  split at p
  · rename_i C fs
    split at p
    · rename_i hC
      cases e : fs.lookup f with
      | none => rw [e] at p; exact p.elim
      | some d =>
        rw [e] at p
        obtain ⟨a, ox, od, rfl, rfl, IA, gs, rg, look⟩ := exc_inst A.in_ I1 rd ru
        obtain ⟨x, hx, rx⟩ := rf_lookup rg e
        obtain ⟨oo, y, rfl, hl, ry⟩ := look f x hx
        have Z := T.xf C hC
        have no := T.no C hC
        rw [← hk] at Z no
        exact PySem.HandSPX.exc_get I1.kIn IA Z.ga Z.gg Z.exC (PySem.W.findObj_own Z.hdC no rfl hl) (handed_of ry) ⟨x, H1, I1.tok _, ry, A.in_.now p rx⟩
    · exact p.elim
  · exact p.elim
end
end M
/-! M12: list comprehensions whose list nobody changes. -/
namespace M
open PySem PySem.Spec PyProof.Rows L2

def compF (nx : Nx) (p : Pat) (t : IT) (e : IE) (env0 : Env) : Nat → Nat → List D → Sto → R (List D)
  | 0, i, acc => fun st => match nx i st with
    | some none => .ok acc st
    | _ => .bad
  | m + 1, i, acc => fun st => match nx i st with
    | some none => .ok acc st
    | some (some d) => match p.bind d env0 with
      | some env => ((t env st).nox).bind fun k s1 => if k = true then ((e env s1).nox).bind fun v s2 => if acc.length < sizeLine then compF nx p t e env0 m (i + 1) (acc ++ [v]) s2 else .bad else compF nx p t e env0 m (i + 1) acc s1
      | none => .bad
    | none => .bad
def iCompF (w : IW) (p : Pat) (t : IT) (e : IE) : IE := fun env st => (w env st).bind fun a s => (compF a.1 p t e (wipeE env p.slots) a.2 0 [] s).bind fun xs s2 => .ok (.lst xs) s2

section
variable {W : Vw} {ρ' : List Addr} {H' : Hp} {q : Addr} {u : HO} {st : Sto}
theorem zfro {a : Addr} (f : W.fro a) (hz : W.Z q) : a ≠ q := fun e => f.2 (e ▸ hz)
/-- what is out of reach may change -/
theorem Vw.Tup.zput (hz : W.Z q) {a : Addr} {ys : List V} (h : W.Tup a ys) : (W.to W.ρ (upd W.H q u)).Tup a ys := by
  rcases h with ⟨h, f⟩ | h
  · exact .inl ⟨(upd_ne (zfro f hz)).trans h, f⟩
  · exact .inr h
theorem Vw.Lst.zput (hz : W.Z q) {a : Addr} {ys : List V} (h : W.Lst a ys) : (W.to W.ρ (upd W.H q u)).Lst a ys := by
  rcases h with ⟨h | ⟨o, h⟩, f⟩ | h
  · exact .inl ⟨.inl ((upd_ne (zfro f hz)).trans h), f⟩
  · exact .inl ⟨.inr ⟨o, (upd_ne (zfro f hz)).trans h⟩, f⟩
  · exact .inr h
mutual
theorem RV.zput (hz : W.Z q) : ∀ {d : D} {v : V}, RV W d v → RV (W.to W.ρ (upd W.H q u)) d v
  | _, _, .non => .non
  | _, _, .bl b => .bl b
  | _, _, .int i => .int i
  | _, _, .str s => .str s
  | _, _, .ty n => .ty n
  | _, _, .glo s => .glo (W := W.to W.ρ (upd W.H q u)) s
  | _, _, .tup h r => .tup (h.zput hz) (r.zput hz)
  | _, _, .lst h r => .lst (h.zput hz) (r.zput hz)
  | _, _, .dct h f e r => .dct ((upd_ne (zfro f hz)).trans h) f e (r.zput hz)
  | _, _, .obj h f r => .obj ((upd_ne (zfro f hz)).trans h) f (r.zput hz)
  | _, _, .exc h f a b r => .exc ((upd_ne (zfro f hz)).trans h) f a (fun dx e => ⟨(upd_ne (zfro (b dx e).2 hz)).trans (b dx e).1, (b dx e).2⟩) (r.zput hz)
  | _, _, .ref h => .ref h
theorem RVs.zput (hz : W.Z q) : ∀ {d : List D} {v : List V}, RVs W d v → RVs (W.to W.ρ (upd W.H q u)) d v
  | _, _, .nil => .nil
  | _, _, .cons h r => .cons (h.zput hz) (r.zput hz)
theorem RFs.zput (hz : W.Z q) : ∀ {d : List (Str × D)} {v : List (Str × V)}, RFs W d v → RFs (W.to W.ρ (upd W.H q u)) d v
  | _, _, .nil => .nil
  | _, _, .cons h r => .cons (h.zput hz) (r.zput hz)
end
theorem OR.zput (hz : W.Z q) {a : Addr} (n : a ≠ q) : ∀ {o : O}, OR W a o → OR (W.to W.ρ (upd W.H q u)) a o
  | .lst xs, ⟨ys, h, r⟩ => ⟨ys, (upd_ne n).trans h, r.zput hz⟩
  | .dct kvs, ⟨ys, h, k, r⟩ => ⟨ys, (upd_ne n).trans h, k, r.zput hz⟩
  | .ins C fs, ⟨dx, gs, h, r⟩ => ⟨dx, gs, (upd_ne n).trans h, r.zput hz⟩
theorem Sim.zput (S : Sim W st) (hz : W.Z q) : Sim (W.to W.ρ (upd W.H q u)) st where
  len := S.len
  nd := S.nd
  nz := S.nz
  zt := fun a h => by
    by_cases e : a = q
    · exact ⟨u, by rw [e]; exact upd_same⟩
    · obtain ⟨o, z⟩ := S.zt a h
      exact ⟨o, (upd_ne e).trans z⟩
  at_ := fun n o a h1 h2 => (S.at_ n o a h1 h2).zput hz fun e => S.nz a (List.mem_of_getElem? h2) (show W.Z a by rw [e]; exact hz)
theorem EnvR.zput {env : Env} {σ : L2.St} (h : EnvR W env σ) (hz : W.Z q) : EnvR (W.to W.ρ (upd W.H q u)) env σ := ⟨h.len, fun i d e => by obtain ⟨v, e1, r⟩ := h.at_ i d e; exact ⟨v, e1, r.zput hz⟩⟩
/-- the list at q hidden -/
abbrev Vw.hide (W : Vw) (q : Addr) : Vw := { W with Z := fun a => W.Z a ∨ a = q }
theorem Vw.fro.unhide {a : Addr} (f : (W.hide q).fro a) : W.fro a := ⟨f.1, fun z => f.2 (.inl z)⟩
theorem Vw.Tup.unhide {a : Addr} {ys : List V} (h : (W.hide q).Tup a ys) : W.Tup a ys := h.imp (fun h => ⟨h.1, h.2.unhide⟩) id
theorem Vw.Lst.unhide {a : Addr} {ys : List V} (h : (W.hide q).Lst a ys) : W.Lst a ys := h.imp (fun h => ⟨h.1, h.2.unhide⟩) id
mutual
theorem RV.unhide : ∀ {d : D} {v : V}, RV (W.hide q) d v → RV W d v
  | _, _, .non => .non
  | _, _, .bl b => .bl b
  | _, _, .int i => .int i
  | _, _, .str s => .str s
  | _, _, .ty n => .ty n
  | _, _, .glo s => .glo (W := W) s
  | _, _, .tup h r => .tup h.unhide r.unhide
  | _, _, .lst h r => .lst h.unhide r.unhide
  | _, _, .dct h f e r => .dct h f.unhide e r.unhide
  | _, _, .obj h f r => .obj h f.unhide r.unhide
  | _, _, .exc h f a b r => .exc h f.unhide a (fun dx e => ⟨(b dx e).1, (b dx e).2.unhide⟩) r.unhide
  | _, _, .ref h => .ref h
theorem RVs.unhide : ∀ {d : List D} {v : List V}, RVs (W.hide q) d v → RVs W d v
  | _, _, .nil => .nil
  | _, _, .cons h r => .cons h.unhide r.unhide
theorem RFs.unhide : ∀ {d : List (Str × D)} {v : List (Str × V)}, RFs (W.hide q) d v → RFs W d v
  | _, _, .nil => .nil
  | _, _, .cons h r => .cons h.unhide r.unhide
end
theorem Sim.unhide (S : Sim (W.hide q) st) : Sim W st where
  len := S.len
  nd := S.nd
  nz := fun a m z => S.nz a m (.inl z)
  zt := fun a h => S.zt a (.inl h)
  at_ := fun n o a h1 h2 => match o, S.at_ n o a h1 h2 with
    | .lst xs, ⟨ys, h, r⟩ => ⟨ys, h, r.unhide⟩
    | .dct kvs, ⟨ys, h, k, r⟩ => ⟨ys, h, k, r.unhide⟩
    | .ins C fs, ⟨dx, gs, h, r⟩ => ⟨dx, gs, h, r.unhide⟩
theorem Vw.fro.hide {a : Addr} (f : W.fro a) (n : a ≠ q) : (W.hide q).fro a := ⟨f.1, fun z => z.elim f.2 n⟩
end
section
variable {W : Vw} {q : Addr} {st : Sto} (hq : W.H q = none)
theorem Vw.Tup.hideN (hq : W.H q = none) {a : Addr} {ys : List V} (h : W.Tup a ys) : (W.hide q).Tup a ys := h.imp (fun h => ⟨h.1, h.2.hide (ne_of_none h.1 hq)⟩) id
theorem Vw.Lst.hideN (hq : W.H q = none) {a : Addr} {ys : List V} (h : W.Lst a ys) : (W.hide q).Lst a ys := by
  rcases h with ⟨h | ⟨o, h⟩, f⟩ | h
  · exact .inl ⟨.inl h, f.hide (ne_of_none h hq)⟩
  · exact .inl ⟨.inr ⟨o, h⟩, f.hide (ne_of_none h hq)⟩
  · exact .inr h
mutual
theorem RV.hideN (hq : W.H q = none) : ∀ {d : D} {v : V}, RV W d v → RV (W.hide q) d v
  | _, _, .non => .non
  | _, _, .bl b => .bl b
  | _, _, .int i => .int i
  | _, _, .str s => .str s
  | _, _, .ty n => .ty n
  | _, _, .glo s => .glo (W := W.hide q) s
  | _, _, .tup h r => .tup (h.hideN hq) (r.hideN hq)
  | _, _, .lst h r => .lst (h.hideN hq) (r.hideN hq)
  | _, _, .dct h f e r => .dct h (f.hide (ne_of_none h hq)) e (r.hideN hq)
  | _, _, .obj h f r => .obj h (f.hide (ne_of_none h hq)) (r.hideN hq)
  | _, _, .exc h f a b r => .exc h (f.hide (ne_of_none h hq)) a (fun dx e => ⟨(b dx e).1, (b dx e).2.hide (ne_of_none (b dx e).1 hq)⟩) (r.hideN hq)
  | _, _, .ref h => .ref h
theorem RVs.hideN (hq : W.H q = none) : ∀ {d : List D} {v : List V}, RVs W d v → RVs (W.hide q) d v
  | _, _, .nil => .nil
  | _, _, .cons h r => .cons (h.hideN hq) (r.hideN hq)
theorem RFs.hideN (hq : W.H q = none) : ∀ {d : List (Str × D)} {v : List (Str × V)}, RFs W d v → RFs (W.hide q) d v
  | _, _, .nil => .nil
  | _, _, .cons h r => .cons (h.hideN hq) (r.hideN hq)
end
end
section
variable {W : Vw} {q : Addr} {st : Sto} {u : HO}
/-- a new thing is laid at q and hidden at once: what stood for values still does -/
theorem RV.laidH (hq : W.H q = none) {d : D} {v : V} (r : RV W d v) : RV ((W.hide q).to W.ρ (upd W.H q u)) d v := (r.hideN hq).zput (W := W.hide q) (.inr rfl)
theorem Sim.laidH (S : Sim W st) (hq : W.H q = none) : Sim ((W.hide q).to W.ρ (upd W.H q u)) st where
  len := S.len
  nd := S.nd
  nz := fun a m z => z.elim (S.nz a m) fun e => by
    obtain ⟨o, h⟩ := S.tr m
    rw [e, hq] at h
    cases h
  zt := fun a h => by
    by_cases e : a = q
    · exact ⟨u, by rw [e]; exact upd_same⟩
    · obtain ⟨o, z⟩ := S.zt a (h.elim id fun z => absurd z e)
      exact ⟨o, (upd_ne e).trans z⟩
  at_ := fun n o a h1 h2 => by
    obtain ⟨v, z⟩ := S.tr (List.mem_of_getElem? h2)
    have ne : a ≠ q := ne_of_none z hq
    match o, S.at_ n o a h1 h2 with
    | .lst xs, ⟨ys, h, r⟩ => exact ⟨ys, (upd_ne ne).trans h, (r.hideN hq).zput (W := W.hide q) (.inr rfl)⟩
    | .dct kvs, ⟨ys, h, k, r⟩ => exact ⟨ys, (upd_ne ne).trans h, k, (r.hideN hq).zput (W := W.hide q) (.inr rfl)⟩
    | .ins C fs, ⟨dx, gs, h, r⟩ => exact ⟨dx, gs, (upd_ne ne).trans h, (r.hideN hq).zput (W := W.hide q) (.inr rfl)⟩
theorem EnvR.laidH {env : Env} {σ : L2.St} (h : EnvR W env σ) (hq : W.H q = none) : EnvR ((W.hide q).to W.ρ (upd W.H q u)) env σ := ⟨h.len, fun i d e => by obtain ⟨v, e1, r⟩ := h.at_ i d e; exact ⟨v, e1, r.laidH hq⟩⟩
end
/-! ### the comprehension -/
def PL (W : Vw) (xs : List D) (v : V) : Prop := RV W (.lst xs) v
section
variable {X : Cx} {F : Fx} {pos : Pos}
theorem compF_ok {w : IW} {p : Pat} {t : IT} {e : IE} {g : TG} {σ : L2.St} {H : Hp} {Q : VK} (hp : PatOk F.K p g) (h : TI F (iCompF w p t e) σ H Q) : tLc (TW F w) g (TT_ F.quiet t) (TI F.quiet e) p.slots σ H Q := by
  refine (TX.bind (k := fun a env s => (compF a.1 p t e (wipeE env p.slots) a.2 0 [] s).bind fun xs s2 => R.ok (D.lst xs) s2) h).mono fun J H1 ⟨W0, s, env, a, A, r, q⟩ => ?_
  obtain ⟨nx, m⟩ := a
  intro D hD
  have eH := A.h
  subst eH
  have nz0 : ¬ W0.Z D := fun z => by
    obtain ⟨o, e⟩ := A.sim.zt D z
    rw [hD] at e
    cases e
  let V : List Addr → Hp → Vw := fun ρ H => (W0.hide D).to ρ H
  have q1 : Post W0 PL (compF nx p t e (wipeE env p.slots) m 0 [] s) Q (F.at_ σ) := by
    have q' : PostE W0 ((compF nx p t e (wipeE env p.slots) m 0 [] s).bind fun xs s2 => .ok (.lst xs) s2) Q (F.at_ σ) := q
    cases z : compF nx p t e (wipeE env p.slots) m 0 [] s with
    | ok u s2 => rw [z] at q'; exact q'
    | exc C fs s2 => rw [z] at q'; exact q'
    | bad => rw [z] at q'; exact q'.elim
  have vx : ∀ {ρ' : List Addr} {H' : Hp}, Ext W0 ρ' H' → VX W0 (V ρ' H') := fun x => ⟨rfl, rfl, x, fun a z => z.elim .inl fun e => .inr (by rw [e]; exact hD)⟩
  refine ⟨fun i m H => ∃ ρ' st acc ys, Ext W0 ρ' H ∧ D ∉ ρ' ∧ H D = some (.lst ys) ∧ Sim (V ρ' H) st ∧ EnvR (V ρ' H) (wipeE env p.slots) (L2.wipe σ p.slots) ∧ RVs (V ρ' H) acc ys ∧ Post W0 PL (compF nx p t e (wipeE env p.slots) m i acc st) Q (F.at_ σ),
    ⟨m, W0.ρ, s, [], [], ext_new0 hD, fun z => ?_, upd_same, A.sim.laidH hD, (A.env.wipe p.slots).laidH hD, .nil, q1⟩, fun i m H ⟨ρ', st, acc, ys, x, nD, eD, S, er, ra, q⟩ => ?_⟩
  · obtain ⟨o, e⟩ := A.sim.tr z
    rw [hD] at e
    cases e
  have done : nx i st = some none → Post W0 PL (.ok acc st) Q (F.at_ σ) → J.stop i H ∧ Q (.ref D) H := fun en q => by
    refine ⟨r.stop (V ρ' H) st i (vx x) S en, q ρ' H (.ref D) x (Sim.unhide (W := W0.to ρ' H) S) ?_⟩
    exact .lst (.inl ⟨.inl eD, nD, nz0⟩) (RVs.unhide (W := W0.to ρ' H) ra)
  cases m with
  | zero =>
    unfold compF at q
    split at q
    · exact .inl (done (by assumption) q)
    · exact q.elim
  | succ m =>
    unfold compF at q
    split at q
    · exact .inl (done (by assumption) q)
    · rename_i d en
      obtain ⟨h1, h2⟩ := r.go (V ρ' H) st i d (vx x) S en
      refine .inr ⟨h1, fun H => ∃ ρ' st acc ys, Ext W0 ρ' H ∧ D ∉ ρ' ∧ H D = some (.lst ys) ∧ Sim (V ρ' H) st ∧ EnvR (V ρ' H) (wipeE env p.slots) (L2.wipe σ p.slots) ∧ RVs (V ρ' H) acc ys ∧ Post W0 PL (compF nx p t e (wipeE env p.slots) m (i + 1) acc st) Q (F.at_ σ), fun H' z => ⟨m, Nat.lt_succ_self m, z⟩, fun v H2 hy => ?_⟩
      obtain ⟨x2, S2, rv⟩ := h2 v H2 hy
      -- how a step in the hidden view looks from W0
      have low : ∀ {ρ2 ρ3 : List Addr} {H2 H3 : Hp}, Ext W0 ρ2 H2 → Ext (V ρ2 H2) ρ3 H3 → Ext (W0.to ρ2 H2) ρ3 H3 := fun x y => ⟨y.pre, y.new, y.keep⟩
      cases hb : p.bind d (wipeE env p.slots) with
      | none => rw [hb] at q; exact q.elim
      | some env' =>
        rw [hb] at q
        refine hp.go (V ρ' H2) d v _ _ _ _ A.k rv (er.mono x2) hb fun σ' er' ew => ⟨by rw [ew, wipe_wipe], ?_⟩
        have x3 : Ext W0 ρ' H2 := x.trans (low x x2)
        have eD2 : H2 D = some (.lst ys) := x2.keep D _ eD nD
        have q2 : Post W0 PL (((t env' st).nox).bind fun k s1 => if k = true then ((e env' s1).nox).bind fun v s2 => if acc.length < sizeLine then compF nx p t e (wipeE env p.slots) m (i + 1) (acc ++ [v]) s2 else .bad else compF nx p t e (wipeE env p.slots) m (i + 1) acc s1) Q (F.at_ σ) := q
        refine ⟨V ρ' H2, st, env', ⟨A.k, A.g, rfl, S2, er'⟩, ?_⟩
        cases ht : t env' st with
        | bad => rw [ht] at q2; exact q2.elim
        | exc C fs s1 => rw [ht] at q2; exact q2.elim
        | ok k s1 =>
          rw [ht] at q2
          intro ρ3 H3 b x4 S3 eb
          cases (show k = b from eb)
          have x5 : Ext W0 ρ3 H3 := x3.trans (low x3 x4)
          have nD3 : D ∉ ρ3 := x4.notin eD2 nD
          have eD3 : H3 D = some (.lst ys) := x4.keep D _ eD2 nD
          have q3 : Post W0 PL (if k = true then ((e env' s1).nox).bind fun v s2 => if acc.length < sizeLine then compF nx p t e (wipeE env p.slots) m (i + 1) (acc ++ [v]) s2 else .bad else compF nx p t e (wipeE env p.slots) m (i + 1) acc s1) Q (F.at_ σ) := q2
          have er3 : EnvR (V ρ3 H3) (wipeE env p.slots) (L2.wipe σ p.slots) := (er.mono x2).mono x4
          have ra3 : RVs (V ρ3 H3) acc ys := (ra.mono x2).mono x4
          cases k with
          | false => exact ⟨ρ3, s1, acc, ys, x5, nD3, eD3, S3, er3, ra3, q3⟩
          | true =>
            rw [if_pos rfl] at q3 ⊢
            refine ⟨V ρ3 H3, s1, env', ⟨A.k, A.g, rfl, S3, er'.mono x4⟩, ?_⟩
            cases he : e env' s1 with
            | bad => rw [he] at q3; exact q3.elim
            | exc C fs s2 => rw [he] at q3; exact q3.elim
            | ok y s2 =>
              rw [he] at q3
              intro ρ5 H5 yv x6 S5 ry
              have q4 : Post W0 PL (if acc.length < sizeLine then compF nx p t e (wipeE env p.slots) m (i + 1) (acc ++ [y]) s2 else .bad) Q (F.at_ σ) := q3
              have x7 : Ext W0 ρ5 H5 := x5.trans (low x5 x6)
              have nD5 : D ∉ ρ5 := x6.notin eD3 nD3
              have eD5 : H5 D = some (.lst ys) := x6.keep D _ eD3 nD3
              split at q4
              · rename_i c
                have x8 : Ext W0 ρ5 (upd H5 D (.lst (ys ++ [yv]))) := ⟨x7.pre, x7.new, fun a o h n => by rw [upd_ne (ne_of_none h hD)]; exact x7.keep a o h n⟩
                refine ⟨ys, eD5, by rw [← ra3.length]; exact c, ρ5, s2, acc ++ [y], ys ++ [yv], x8, nD5, upd_same, Sim.zput (W := V ρ5 H5) S5 (.inr rfl), EnvR.zput (W := V ρ5 H5) (er3.mono x6) (.inr rfl), RVs.zput (W := V ρ5 H5) (.inr rfl) ((ra3.mono x6).append (.cons ry .nil)), q4⟩
              · exact q4.elim
    · exact q.elim
theorem e_lcF {elt tg iter : Expr} {ifs : List Expr} {scope : Scope} {own : List (Str × Nat)} {g : TG} {p : Pat} {w : IW} {t : IT} {e : IE} (hp : PatOk F.K p g) (ho : own.map (·.2) = p.slots) (hc : X.calm = true) (hN : X.N.Nodup) (hi : PI X tg iter (TW F w)) (ok : BlkOk X.N X.env.scope scope own)
    (hg : ∀ (s : Shared) (H : Hp) (C : Addr) (cl : List (Str × Addr)) (fp : List Addr), PG (X.blk s H scope (compEnvC scope cl C X.env) fp) tg g) (ht : ∀ (s : Shared) (H : Hp) (C : Addr) (cl : List (Str × Addr)) (fp : List Addr), PTs (X.blk s H scope (compEnvC scope cl C X.env) fp) ifs (TT_ F.quiet t))
    (he : ∀ (s : Shared) (H : Hp) (C : Addr) (cl : List (Str × Addr)) (fp : List Addr), PE (X.blk s H scope (compEnvC scope cl C X.env) fp) elt (TI F.quiet e)) (hs : ∀ x, foldedSetIterable iter X.env x = pure x := by intro _; rfl) :
    PE X (.ListComp elt [⟨tg, iter, ifs, 0⟩] scope pos) (TI F (iCompF w p t e)) := PE.imp (pe_lc hc hN hi ok hg ht he hs) fun σ H Q h => by rw [ho]; exact compF_ok hp h
/-- name = [..] -/
theorem s_setLcF {i : Nat} {y : Str} {py : Pos} {elt tg iter : Expr} {ifs : List Expr} {scope : Scope} {own : List (Str × Nat)} {spos : Pos} {g : TG} {p : Pat} {w : IW} {t : IT} {e : IE} (hp : PatOk F.K p g) (ho : own.map (·.2) = p.slots) (hc : X.calm = true) (hN : X.N.Nodup) (hy : X.N[i]? = some y) (hyl : X.env.scope.names.lookup y = some .local)
    (hsw : swapsWith (.ListComp elt [⟨tg, iter, ifs, 0⟩] scope pos) (some (.Name y py)) spos.line X.env = pure true) (hi : PI X tg iter (TW F w)) (ok : BlkOk X.N X.env.scope scope own)
    (hg : ∀ (s : Shared) (H : Hp) (C : Addr) (cl : List (Str × Addr)) (fp : List Addr), PG (X.blk s H scope (compEnvC scope cl C X.env) fp) tg g) (ht : ∀ (s : Shared) (H : Hp) (C : Addr) (cl : List (Str × Addr)) (fp : List Addr), PTs (X.blk s H scope (compEnvC scope cl C X.env) fp) ifs (TT_ F.quiet t))
    (he : ∀ (s : Shared) (H : Hp) (C : Addr) (cl : List (Str × Addr)) (fp : List Addr), PE (X.blk s H scope (compEnvC scope cl C X.env) fp) elt (TI F.quiet e)) (hs : ∀ x, foldedSetIterable iter X.env x = pure x := by intro _; rfl) :
    PS X (.Assign [.Name y py] (.ListComp elt [⟨tg, iter, ifs, 0⟩] scope pos) spos) (TS_ F (sSet i (iCompF w p t e))) := PS.imp (ps_setLc hc hN hy hyl hsw hi ok hg ht he hs) fun N σ H h => by
  rw [ho]
  exact compF_ok hp ((TX.bindS (k := fun d env s => .nx (env.set i (some d)) s) h).mono fun v H1 ⟨W, s, env, a, A, r, p⟩ => by
    have q := PostS.nx p A.sim (A.env.set r i)
    rw [A.h] at q
    exact q)
end
end M
/-! M13: what the head tells: own exception classes, isinstance's table; the Hook; the law's end. -/
namespace M
open PySem PySem.Spec PyProof.Rows L2

/-- a family of exceptions -/
inductive Fam where
  | v | l | r
  deriving DecidableEq
def Fam.nm : Fam → String
  | .v => "ValueError"
  | .l => "LookupError"
  | .r => "RuntimeError"
def Fam.new : Fam → String
  | .v => "ValueError.__new__"
  | .l => "LookupError.__new__"
  | .r => "RuntimeError.__new__"
def Fam.ini : Fam → String
  | .v => "ValueError.__init__"
  | .l => "LookupError.__init__"
  | .r => "RuntimeError.__init__"
def Fam.tail (f : Fam) : List Value := [.type f.nm, .type "Exception", .type "BaseException", .type "object"]
theorem Fam.xb : ∀ f : Fam, XB f.nm f.new f.ini f.tail
  | .v => xbV
  | .l => xbL
  | .r => xbR
section
variable {K : PySem.W.Frag}
open He (eqO eqO_ok ba)
/-- the class object -/
def xclsB (K : PySem.W.Frag) (f : Fam) (C : Addr) : Bool := match K.lookup C with
  | some ⟨.type t, _, .cls cd, sl⟩ => (match cd.mro, sl.toList with
    | .ref c1 :: bm, [_, _, _, _, some (.builtin n), _] => decide (t = "type") && (decide (c1 = C) && (decide (n = f.new) && (!cd.hasDel && (cd.hasDict && over f.tail bm))))
    | _, _ => false)
  | _ => false
theorem xclsB_ok {f : Fam} {C : Addr} (h : xclsB K f C = true) : ∃ nm q N bs bm sn sub ab col dd k0 k1 k2 k3 k5, K.lookup C = some (excClassObj nm q C N bs bm true sn sub ab col dd k0 k1 k2 k3 k5 f.new) ∧ over f.tail bm = true := by
  unfold xclsB at h
  split at h
  · rename_i t dd cd sl ho
    split at h
    · rename_i c1 bm k0 k1 k2 k3 n k5 hm hs
      obtain ⟨h1, h⟩ := ba h
      obtain ⟨h2, h⟩ := ba h
      obtain ⟨h3, h⟩ := ba h
      obtain ⟨h4, h⟩ := ba h
      obtain ⟨h5, h6⟩ := ba h
      have e1 := of_decide_eq_true h1
      have e2 := of_decide_eq_true h2
      have e3 := of_decide_eq_true h3
      obtain ⟨cn, cb, cm, cns, cq, chd, csn, csub, cab, ccol, cdel⟩ := cd
      have e4 : cdel = false := by simpa using h4
      have e5 : chd = true := h5
      have e6 : cm = .ref c1 :: bm := hm
      subst e1 e2 e3 e4 e5 e6
      have e7 : sl = #[k0, k1, k2, k3, some (.builtin f.new), k5] := by
        obtain ⟨l⟩ := sl
        rw [show l = _ from hs]
      subst e7
      exact ⟨_, _, _, _, bm, _, _, _, _, _, _, _, _, _, _, ho, h6⟩
    · cases h
  · cases h
def xcB (K : PySem.W.Frag) (f : Fam) (C : Addr) : Bool := xclsB K f C && (eqO (PySem.W.findIn K (.ref C) "__setattr__") (some (some (.builtin "object.__setattr__"))) && (decide (PySem.W.subIn K (.ref C) (.type "BaseException") = some true) && (decide (PySem.W.typeIn K (.ref C) = some (.type "type")) && PySem.W.keepIn K (.ref C))))
theorem xcB_ok {f : Fam} {C : Addr} (h : xcB K f C = true) : XC K C := by
  obtain ⟨h1, h⟩ := ba h
  obtain ⟨h2, h⟩ := ba h
  obtain ⟨h3, h⟩ := ba h
  obtain ⟨h4, h5⟩ := ba h
  exact ⟨⟨_, _, _, _, f.xb, xclsB_ok h1⟩, eqO_ok h2, of_decide_eq_true h3, of_decide_eq_true h4, h5⟩
/-- isinstance, fields -/
def xfAll (K : PySem.W.Frag) (C : Addr) : Bool := xfB K C && ((PySem.W.clsIn K C).isSome && (eqO (PySem.W.findIn K (.ref C) "__class__") (some (some (.builtin "object.__class__"))) && (eqO (PySem.W.specialIn K (.builtin "object.__class__") "__get__") (some (some (.builtin "getset_descriptor.__get__"))) && (decide (PySem.W.takesIn K (.builtin "object.__class__") = some true) && decide (PySem.W.mroIn K C (.type "object") = some true)))))
theorem xfAll_ok {C : Addr} (h : xfAll K C = true) : XF K C := by
  obtain ⟨h1, h⟩ := ba h
  obtain ⟨h2, h⟩ := ba h
  obtain ⟨h3, h⟩ := ba h
  obtain ⟨h4, h⟩ := ba h
  obtain ⟨h5, h6⟩ := ba h
  exact ⟨xfB_ok h1, h2, eqO_ok h3, eqO_ok h4, of_decide_eq_true h5, of_decide_eq_true h6⟩
/-- an own exception class: its name, family, the fields of its __init__ (none: it has none) -/
structure XD where
  nm : Str
  fam : Fam
  fs : Option (List Str)
def XD.ok (K : PySem.W.Frag) (d : XD) : Bool := xfAll K (He.ga K d.nm) && (match d.fs with
  | none => PySem.W.excIn K (He.ga K d.nm) d.fam.tail d.fam.new && PySem.W.keepIn K (.ref (He.ga K d.nm))
  | some fs => xcB K d.fam (He.ga K d.nm) && (fs.all (fun f => eqO (PySem.W.findIn K (.ref (He.ga K d.nm)) f) (some none)) && (eqO (PySem.W.findIn K (.ref (He.ga K d.nm)) "__init__") (some (some (.ref (He.ma K (He.ga K d.nm) "__init__")))) && decide (PySem.W.typeIn K (.ref (He.ma K (He.ga K d.nm) "__init__")) = some (.type "function")))))
theorem XD.xf {d : XD} (h : d.ok K = true) : XF K (He.ga K d.nm) := xfAll_ok (ba h).1
theorem XD.plain {d : XD} (h : d.ok K = true) (e : d.fs = none) : PySem.W.excIn K (He.ga K d.nm) d.fam.tail d.fam.new = true ∧ PySem.W.keepIn K (.ref (He.ga K d.nm)) = true := by
  have h2 := (ba h).2
  rw [e] at h2
  exact ba h2
theorem XD.made {d : XD} {fs : List Str} (h : d.ok K = true) (e : d.fs = some fs) : XC K (He.ga K d.nm) ∧ (∀ f ∈ fs, PySem.W.findIn K (.ref (He.ga K d.nm)) f = some none) ∧ PySem.W.findIn K (.ref (He.ga K d.nm)) "__init__" = some (some (.ref (He.ma K (He.ga K d.nm) "__init__"))) ∧ PySem.W.typeIn K (.ref (He.ma K (He.ga K d.nm) "__init__")) = some (.type "function") := by
  have h2 := (ba h).2
  rw [e] at h2
  obtain ⟨h3, h⟩ := ba h2
  obtain ⟨h4, h⟩ := ba h
  obtain ⟨h5, h6⟩ := ba h
  exact ⟨xcB_ok h3, fun f hf => eqO_ok (List.all_eq_true.mp h4 f hf), eqO_ok h5, of_decide_eq_true h6⟩
/-- isinstance's table -/
def isaB (K : PySem.W.Frag) (q : Tg × Tg × Bool) : Bool := decide (PySem.W.kitOne K (q.1.val (He.ga K)) (q.2.1.val (He.ga K)) = some q.2.2)
def isaT (tb : List (Tg × Tg × Bool)) (t c : Tg) : Option Bool := (tb.find? fun q => decide (q.1 = t) && decide (q.2.1 = c)).map fun q => q.2.2
theorem isaT_ok {tb : List (Tg × Tg × Bool)} (h : tb.all (isaB K) = true) (t c : Tg) (b : Bool) (e : isaT tb t c = some b) : PySem.W.kitOne K (t.val (He.ga K)) (c.val (He.ga K)) = some b := by
  obtain ⟨q, hq, eb⟩ := Option.map_eq_some_iff.mp e
  have hm := List.mem_of_find?_eq_some hq
  have hp : (decide (q.1 = t) && decide (q.2.1 = c)) = true := List.find?_some (p := fun q : Tg × Tg × Bool => decide (q.1 = t) && decide (q.2.1 = c)) hq
  obtain ⟨h1, h2⟩ := ba hp
  have z := of_decide_eq_true (List.all_eq_true.mp h q hm)
  have e1 := of_decide_eq_true h1
  have e2 := of_decide_eq_true h2
  rw [← e1, ← e2, ← eb]
  exact z
end

/-! ### the Hook -/
abbrev AlM : Type := Bool × He.AlD
def obsM (B : PySem.W.Frag → Bool) (fa : List He.Fa) (fn : List He.DefD) (K : PySem.W.Frag) : AlM := (B K, He.obsD fa fn K)
def SaysM (B : PySem.W.Frag → Bool) (fa : List He.Fa) (fn : List He.DefD) (K : PySem.W.Frag) : Prop := obsM B fa fn K = (true, He.valD fn)
def obsMG (n : Nat) (B : PySem.W.Frag → Bool) (fa : List He.Fa) (fn : List He.DefD) (g : Addr → Option Obj) : AlM := obsM B fa fn (He.frG g (He.asD g n))
def hookM (n : Nat) (B : PySem.W.Frag → Bool) (fa : List He.Fa) (fn : List He.DefD) : PySem.W.Hook where
  α := AlM
  obs := fun s => obsMG n B fa fn s.heap.get?
  val := fun _ => (true, He.valD fn)
  says := fun _ h => ∃ K : PySem.W.Frag, K.In h ∧ SaysM B fa fn K
  of := fun _ _ e => ⟨_, He.frG_in, e⟩
  keeps := fun _ _ _ ⟨K, hK, c⟩ k => ⟨K, PySem.W.Frag.In.keeps hK k, c⟩
theorem obsMG_eq {n : Nat} {B : PySem.W.Frag → Bool} {fa : List He.Fa} {fn : List He.DefD} {g : Addr → Option Obj} {s : Shared} (h : ∀ a, g a = s.heap.get? a) : obsMG n B fa fn g = (hookM n B fa fn).obs s := by
  have e : g = s.heap.get? := funext h
  rw [e] <;> rfl
theorem SaysM.says {B : PySem.W.Frag → Bool} {fa : List He.Fa} {fn : List He.DefD} {K : PySem.W.Frag} (c : SaysM B fa fn K) : He.SaysD fa fn K := congrArg (fun z : AlM => z.2) c
theorem SaysM.b {B : PySem.W.Frag → Bool} {fa : List He.Fa} {fn : List He.DefD} {K : PySem.W.Frag} (c : SaysM B fa fn K) : B K = true := congrArg (fun z : AlM => z.1) c

/-! ### the law's end -/
theorem walk_ofM {l : PySem.W.OpenLaw} {n k : Nat} {q : Program} {loose : List Str} {XP : (Str → Option Value) → Heap → Prop} {YP : World → Heap → Prop} {d : DefRec} {x : Str} {f : Fn}
    (hn : l.most = some n) (hn2 : n ≤ sizeLine) (hdf : d.params.defaults = []) (hr : Room k callerA)
    (F : ∀ (w : World) (mg : Str → Option Value) (fa : Addr) (h : Heap), YP w h → h.Ns mainGlobals mg → mg d.name = some (.ref fa) →
      ∃ (K : PySem.W.Frag) (fd : FuncData), K.In h ∧ (∀ (s : Shared) (u : Value), BindsTo s fd ⟨[u], []⟩ [(x, u)]) ∧ ∀ base : Heap, FnG l.prog w K mg base k fa fd [x] (SPx K (He.ga K) f))
    (hf : ∀ ns : List Int, ns.length ≤ n → ∃ st, f [.lst (ns.map .int)] [] = .ok (.bl true) st) :
    PySem.W.WalkO q loose XP YP l.row.toRowW d [] (fun f vs => PySem.call f vs) := by
  refine Att.attach_call hn hdf fun w s₀ s₁ mg mb fa o pm cd doc a vs ns G Y ho hd hcd hmg hobj hints hlen hg => ?_
  obtain ⟨K, fd, KX, hb, hF⟩ := F w mg fa _ Y G.T.g hmg
  refine law_callG KX G.T.g G.T.b G.T.builtins G.T.nolimit hg hobj hints (Nat.le_trans hlen hn2) hr hF hb fun H hO hS => ?_
  obtain ⟨st, e⟩ := hf ns hlen
  let W : Vw := ⟨K, He.ga K, fun _ => False, [], H⟩
  have rr : ∀ ns : List Int, RVs W (ns.map D.int) (ns.map V.int) := fun ns => by
    induction ns with
    | nil => exact .nil
    | cons i is ih => exact .cons (.int i) ih
  refine ⟨W, [], _, rfl, rfl, rfl, ⟨rfl, List.nodup_nil, (fun _ m => by cases m), (fun _ z => False.elim z), (fun n o a h _ => by simp at h)⟩, .cons (.lst (hS.imp (fun h => ⟨h, ⟨(fun m => by cases m), (fun z => z)⟩⟩) id) (rr ns)) .nil, ?_⟩
  rw [e]
  intro ρ' H' v _ _ rv
  cases rv
  rfl
end M
/-! M14: the arguments of exceptions. -/
namespace M
open PySem PySem.Spec PyProof.Rows L2
def gCat {α : Type} (a b : List α) : List α := a ++ b
def gRev {α : Type} (a b : List α) : List α := a ++ b.reverse
theorem vals_rev : ∀ {vs : List V} {us : List Value}, Vals vs us → Vals vs.reverse us.reverse
  | [], [], .nil => .nil
  | _ :: _, _ :: _, .cons h r => by
    rw [List.reverse_cons, List.reverse_cons]
    exact Vals.append (vals_rev r) (.cons h .nil)
theorem hCat {vs zs : List V} {us ws : List Value} (r : Vals vs us) (q : Vals zs ws) : Vals (gCat vs zs) (gCat us ws) := Vals.append r q
theorem hRev {vs zs : List V} {us ws : List Value} (r : Vals vs us) (q : Vals zs ws) : Vals (gRev vs zs) (gRev us ws) := Vals.append r (vals_rev q)
theorem RVs.rev {W : Vw} : ∀ {ds : List D} {vs : List V}, RVs W ds vs → RVs W ds.reverse vs.reverse
  | [], [], .nil => .nil
  | _ :: _, _ :: _, .cons h r => by
    rw [List.reverse_cons, List.reverse_cons]
    exact (RVs.rev r).append (.cons h .nil)
theorem pm_pos {n : Nat} {fs : List Str} (h : n = fs.length := by rfl) : Perm gCat gCat n 0 fs := ⟨fun W ds es vs zs r q l1 l2 => ⟨vs ++ zs, fun a => rfl, by rw [List.length_append, ← r.length, ← q.length, l1, l2, h]; rfl, r.append q⟩⟩
theorem pm_kw {m : Nat} {fs : List Str} (h : m = fs.length := by rfl) : Perm gCat gCat 0 m fs := ⟨fun W ds es vs zs r q l1 l2 => ⟨vs ++ zs, fun a => rfl, by rw [List.length_append, ← r.length, ← q.length, l1, l2, h]; omega, r.append q⟩⟩
theorem pm_rev {m : Nat} {fs : List Str} (h : m = fs.length := by rfl) : Perm gRev gRev 0 m fs := ⟨fun W ds es vs zs r q l1 l2 => ⟨vs ++ zs.reverse, fun a => rfl, by rw [List.length_append, List.length_reverse, ← r.length, ← q.length, l1, l2, h]; omega, r.append q.rev⟩⟩
/-- XI without a frame -/
structure XI_ (P : Program) (w : World) (K : PySem.W.Frag) (mg : Str → Option Value) (base : Heap) (k n : Nat) (C : Addr) (fs ks : List Str) (gV : {α : Type} → List α → List α → List α) : Prop where
  cls : XC K C
  nf : ∀ f ∈ fs, PySem.W.findIn K (.ref C) f = some none
  ini : ∃ (fI : Addr) (fd : FuncData) (ps : List Str) (g : List Value → List Value → List Value), PySem.W.findIn K (.ref C) "__init__" = some (some (.ref fI)) ∧ PySem.W.typeIn K (.ref fI) = some (.type "function") ∧ FnOk P w K mg base (L2.CX P w) k fI fd ps (spX K fs) ∧ KBn K fd ps (n + 1) ks g gV
theorem XI_.of {X : Cx} {k n : Nat} {C : Addr} {fs ks : List Str} {gV : {α : Type} → List α → List α → List α} (h : XI_ X.prog X.w X.K X.mg X.base k n C fs ks gV) : XI X k n C fs ks gV := ⟨h.cls, h.nf, h.ini⟩
/-! ### comparisons as tests -/
section
variable {X : Cx} {F : Fx} {pos : Pos} {a b c : Expr}
def kBl (d : D) (s : Sto) : R Bool := match d with
  | .bl k => .ok k s
  | _ => .bad
def tBl (i : IE) : IT := fun env st => (i env st).bind kBl
theorem tbl_of {i : IE} {σ : L2.St} {H : Hp} {Q : Bool → Hp → Prop} (h : TT_ F (tBl i) σ H Q) : tTest (TI F i) σ H Q := (TX.bind (k := fun d env s => kBl d s) h).mono fun x H1 ⟨W, st, env, d, A, r, p⟩ => by
  unfold kBl at p
  cases r with
  | bl k =>
    have q := PostT.now p A.sim
    rw [A.h] at q
    exact ⟨k, rfl, q⟩
  | _ => exact p.elim
theorem tTest_mono {t t' : TE} {σ : L2.St} {H : Hp} {Q : Bool → Hp → Prop} (m : ∀ Q : VK, t σ H Q → t' σ H Q) (h : tTest t σ H Q) : tTest t' σ H Q := m _ h
theorem t_cmp {op : CmpOp} {f : Op2} {i j : IE} (ho : OpR X (compareOp op) (r2 F f)) (ha : PE X a (TI F i)) (hb : PE X b (TI F j)) (h1 : behindInMarks op b = false := by first | exact nomark _ | rfl) : PT X (.Compare a [op] [b] pos) (TT_ F (tBl (iBin f i j))) :=
  PT.imp (pt_cmpR ho ha hb h1) fun σ H Q h => tTest_mono (fun Q h => bin_r2 h) (tbl_of h)
theorem t_ws {i : IT} (h : PW X a (TT_ F i)) : PT X a (TT_ F i) := h.pt
end
end M
/-! M15: instances of own classes: making, fields, methods. -/
namespace M
open PySem PySem.Spec PyProof.Rows L2

/-! ### C(..) -/
theorem make_guards {A : Around} {C : Addr} {us : List Value} {kw : List (Str × Value)} (h : A.guards = some []) : (A.under (.builtin "type.__call__" ⟨.ref C :: us, kw⟩)).guards = some [] := by
  first | exact h | simp [Around.under, Code.guards, h]
def opNew (C : Str) (f : Fn) (ds : List D) (st : Sto) : R D := match f (.ref st.length :: ds) (st ++ [.ins C []]) with
  | .ok d s => if d.isNon = true then .ok (.ref st.length) s else .bad
  | .exc D fs s => .exc D fs s
  | .bad => .bad
def iNew (C : Str) (f : Fn) (dd : List D) (j : IA) : IE := fun env st => (j env st).bind fun ds s => opNew C f (ds ++ dd) s
section
variable {X : Cx} {F : Fx} {k n : Nat} {C x : Str} {fI : Addr} {fd : FuncData} {ps ks : List Str} {f : Fn} {dd : List D} {dvs : List V} {ds : List Value} {p pos : Pos} {e : Expr} {es : List Expr} {kws : List Keyword} {j jk : IA}
theorem new_sp {W : Vw} {st : Sto} {H : Hp} {Q : VK} {E : XK} {es : List D} {vs : List V} {a dx : Addr} (J : In F W st H) (ha : H a = none) (hd : H dx = none) (ne : dx ≠ a) (r : RVs W es vs) (p : PostE W (opNew C f es st) Q E) :
    SPx F.K F.g f (.ref a :: vs) (upd (upd H dx (.own a)) a (.ins (F.g C) dx [])) (fun v H2 => v = .non ∧ Q (.ref a) H2) E := by
  have eH := J.h
  subst eH
  have x1 : Ext W W.ρ (upd W.H dx (.own a)) := ext_new0 hd
  have S1 : Sim (W.to W.ρ (upd W.H dx (.own a))) st := J.sim.new0 hd
  have ha1 : (upd W.H dx (.own a)) a = none := by rw [upd_ne ne.symm]; exact ha
  have x2 : Ext (W.to W.ρ (upd W.H dx (.own a))) (W.ρ ++ [a]) (upd (upd W.H dx (.own a)) a (.ins (F.g C) dx [])) := ext_new [a] (fun b m => by rw [List.mem_singleton.mp m]; exact ha1) ha1
  have x := x1.trans x2
  have S2 : Sim (W.to (W.ρ ++ [a]) (upd (upd W.H dx (.own a)) a (.ins (F.g C) dx []))) (st ++ [.ins C []]) := S1.new (W := W.to W.ρ (upd W.H dx (.own a))) ha1 ⟨dx, [], by show (upd (upd W.H dx (.own a)) a (.ins (F.g C) dx [])) a = some (.ins (W.g C) dx []); rw [upd_same, J.g], .nil⟩
  have hr : (W.ρ ++ [a])[st.length]? = some a := by
    rw [List.getElem?_append_right (by rw [J.sim.len]; omega), J.sim.len]
    simp
  refine ⟨W.to (W.ρ ++ [a]) (upd (upd W.H dx (.own a)) a (.ins (F.g C) dx [])), st ++ [.ins C []], .ref st.length :: es, J.k, J.g, rfl, S2, .cons (.ref hr) (r.mono x), ?_⟩
  unfold opNew at p
  cases q : f (.ref st.length :: es) (st ++ [.ins C []]) with
  | bad => rw [q] at p; exact p.elim
  | exc D fs s =>
    rw [q] at p
    exact fun ρ' H' d y S z => p ρ' H' d (x.trans y) S z
  | ok d s =>
    rw [q] at p
    have p' : PostE W (if d.isNon = true then .ok (.ref st.length) s else .bad) Q E := p
    split at p'
    · rename_i c
      intro ρ' H' b y S rb
      refine ⟨?_, p' ρ' H' (.ref a) (x.trans y) S (.ref (pre_get y.pre hr))⟩
      cases rb <;> first | rfl | cases c
    · exact p'.elim
theorem run_new {pins : List (Addr × Obj)} {σ : L2.St} {H : Hp} {s : Shared} {Q : VK} {us us2 : List Value} {vs2 : List V} {kw : List (Str × Value)} {es : List D} {W : Vw} {st : Sto} {env : Env} (Mc : Mk X.K (F.g C) fI) (G : FnG X.prog X.w X.K X.mg X.base k fI fd ps (SPx F.K F.g f)) (hr : Room (k + 1) X.A) (hgd : X.A.guards = some [])
    (hb : ∀ (s : Shared) (v : Value), X.K.In s.heap → BindsTo s fd ⟨v :: us, kw⟩ (ps.zip (v :: us2))) (tk : Takes X F.E) (I : Inv X pins σ H s) (r : Vals vs2 us2) (A : At F W st env σ H) (re : RVs W es vs2) (p : PostE W (opNew C f es st) Q (F.at_ σ)) :
    wpAny (model X.prog X.w) X.A (call (.ref (F.g C)) us kw) (EP X pins σ Q) X.xe s := by
  have hq := new_sp A.in_ (I.hok.fresh (Nat.le_succ _)) (I.hok.fresh (Nat.le_refl _)) (Nat.ne_of_lt (Nat.lt_succ_self s.heap.objs.size)) re p
  have I2 := Inv.made (C := F.g C) I
  have r2 : Vals (V.ref (s.heap.objs.size + 1) :: vs2) (Value.ref (s.heap.objs.size + 1) :: us2) := .cons rfl r
  refine wpAny_call (make_map (f := fI) I.kIn Mc.makes Mc.init (beq_iff_eq.mp Mc.fn) (codeAny_mono (G.run _ X.stack _ _ ⟨Value.ref (s.heap.objs.size + 1) :: us, kw⟩ (Value.ref (s.heap.objs.size + 1) :: us2) _ _ (F.at_ σ) (hr.make (F.g C) us kw) (make_guards hgd)
    (I2.env0.make (F.g C) us kw) (hb _ _ I2.kIn) r2 hq) fun r s' hq' => ?_))
  cases r with
  | error e => exact tk e s' (XE.of_call I2 (fun _ _ _ h => h) hq')
  | ok fl =>
    cases fl with
    | ret u =>
      obtain ⟨v, H', I3, rv, ev, q3⟩ := I2.after hq'
      subst ev
      exact ⟨rv, V.ref (s.heap.objs.size + 1), H', I3, rfl, q3⟩
    | next => exact False.elim hq'
    | brk => exact False.elim hq'
    | cont => exact False.elim hq'
/-- C(e, ..), defaults behind -/
theorem e_new (Mc : Mk X.K (F.g C) fI) (G : FnG X.prog X.w X.K X.mg X.base k fI fd ps (SPx F.K F.g f)) (hr : Room (k + 1) X.A) (hgd : X.A.guards = some []) (hg : Gl X x) (hm : X.mg x = some (.ref (F.g C))) (hb : Binds X.K fd ps ds) (hd : Vals dvs ds) (hdd : ∀ W : Vw, W.K = F.K → W.g = F.g → RVs W dd dvs) (tk : Takes X F.E)
    (ha : PA X (e :: es) (TA_ F j)) (hdb : (x == ("__debug__" : Str)) = false := by decide) (he : starEach (e :: es) X.env = (false, eval e X.env) :: starEach es X.env := by rfl) (hpl : (backTo pos (starEach es X.env)).any (·.1) = false := by rfl) (hn : ∀ vs st, opNew C f vs st ≠ .bad → vs.length + 1 = ps.length) :
    PE X (.Call (.Name x p) (e :: es) [] pos) (TI F (iNew C f dd j)) := by
  refine ⟨fun pins s σ H Q I h => ?_⟩
  refine wpAny_Call_Name_kw (ld_glob I hg hm (PySem.W.callWith_K (h₀ := X.base) I.ok.mod.kin Mc.kp (thn (ha.run pos pins s σ H _ I (TX.bind (k := fun ds env s => opNew C f (ds ++ dd) s) h)) fun us s1 ⟨vs, H1, I1, r, W, st, env, es, A, re, q⟩ => ⟨I1.kIn, ?_⟩) he hpl) hdb)
  have re2 := re.append (hdd W A.k A.g)
  have r2 : Vals (vs ++ dvs) (us ++ ds) := r.append hd
  have hl : (es ++ dd).length + 1 = ps.length := hn _ st fun z => by
    have q' : PostE W (opNew C f (es ++ dd) st) Q (F.at_ σ) := q
    rw [z] at q'
    exact q'
  refine run_new (vs2 := vs ++ dvs) (us2 := us ++ ds) (es := es ++ dd) Mc G hr hgd (fun s v kin => ?_) tk I1 r2 A re2 q
  have e1 : (us ++ ds).length = (es ++ dd).length := by rw [← r2.length, re2.length]
  exact hb s (v :: us) kin (by show (us ++ ds).length + 1 = ps.length; omega)
/-- C(k = e, ..) -/
theorem e_newK (Mc : Mk X.K (F.g C) fI) (G : FnG X.prog X.w X.K X.mg X.base k fI fd ps (SPx F.K F.g f)) (hr : Room (k + 1) X.A) (hgd : X.A.guards = some []) (hg : Gl X x) (hm : X.mg x = some (.ref (F.g C)))
    (hb : ∀ (s : Shared) (v : Value) (ws : List Value), ws.length = ks.length → X.K.In s.heap → BindsTo s fd ⟨[v], ks.zip ws⟩ (ps.zip (v :: ws))) (tk : Takes X F.E)
    (hkw : PK X kws (TA_ F jk)) (hall : (backToKw pos (keywordEach kws X.env)).all (·.1.isSome) = true := by rfl) (hks : (backToKw pos (keywordEach kws X.env)).filterMap (·.1) = ks := by rfl) (hn : ∀ vs st, opNew C f vs st ≠ .bad → vs.length = ks.length)
    (hdb : (x == ("__debug__" : Str)) = false := by decide) (hpl : ((backTo pos (starEach [] X.env)).any (·.1) || (backToKw pos (keywordEach kws X.env)).any (·.1.isNone)) = false := by rfl) : PE X (.Call (.Name x p) [] kws pos) (TI F (iNew C f [] jk)) := by
  refine ⟨fun pins s σ H Q I h => ?_⟩
  refine wpAny_Call_Name_kw (ld_glob I hg hm (PySem.W.callWith_KW0 (h₀ := X.base) I.ok.mod.kin Mc.kp hall (thn (hkw.run pos pins s σ H _ I (TX.bind (k := fun ds env s => opNew C f (ds ++ []) s) h)) fun ws s1 ⟨zs, H1, I1, rz, W, st, env, es, A, re, q⟩ => ⟨I1.kIn, ?_⟩) hpl) hdb)
  rw [hks]
  have q' : PostE W (opNew C f es st) Q (F.at_ σ) := by
    have q0 : PostE W (opNew C f (es ++ []) st) Q (F.at_ σ) := q
    rw [List.append_nil] at q0
    exact q0
  have hl : es.length = ks.length := hn _ st fun z => by rw [z] at q'; exact q'
  exact run_new (us := []) (vs2 := zs) (us2 := ws) (es := es) Mc G hr hgd (fun s v kin => hb s v ws (by rw [← rz.length, ← re.length, hl]) kin) tk I1 rz A re q'
end
end M
/-! M16: fields of instances, properties, own ==. -/
namespace M
open PySem PySem.Spec PyProof.Rows L2

/-- an instance, in the store or frozen -/
def insD (st : Sto) : D → Option (Str × List (Str × D))
  | .ref n => match st[n]? with
    | some (.ins C fs) => some (C, fs)
    | _ => none
  | .obj C fs => some (C, fs)
  | _ => none
theorem insD_at {W : Vw} {st : Sto} (S : Sim W st) {d : D} {v : V} {C : Str} {fs : List (Str × D)} (h : insD st d = some (C, fs)) (r : RV W d v) : ∃ a dx gs, v = .ref a ∧ W.H a = some (.ins (W.g C) dx gs) ∧ RFs W fs gs := by
  cases r with
  | obj h1 _ r1 => cases h; exact ⟨_, _, _, rfl, h1, r1⟩
  | @ref n a e =>
    have h' : (match st[n]? with
    | some (.ins C fs) => some (C, fs)
    | _ => none) = some (C, fs) := h
    split at h'
    · rename_i C' fs' q
      cases h'
      obtain ⟨dx, gs, h1, r1⟩ := S.at_ n _ a q e
      exact ⟨a, dx, gs, rfl, h1, r1⟩
    · cases h'
  | _ => cases h
/-- the classes whose instances have f of their own alone -/
structure Has (K : PySem.W.Frag) (g : Str → Addr) (f : Str) (xs : List Str) : Prop where
  cl : ∀ C ∈ xs, Cls K (g C)
  no : ∀ C ∈ xs, NoAttr K (g C) f
def opGet (xs : List Str) (f : Str) : Op1 := fun d st => match insD st d with
  | some (C, fs) => if C ∈ xs then (fs.lookup f).map fun x => (x, st) else none
  | none => none
def putD (f : Str) (v : D) : List (Str × D) → List (Str × D)
  | [] => [(f, v)]
  | (g, x) :: r => if g = f then (g, v) :: r else (g, x) :: putD f v r
theorem putD_rel {W : Vw} {f : Str} {d : D} {v : V} (r : RV W d v) : ∀ {fs : List (Str × D)} {gs : List (Str × V)}, RFs W fs gs → RFs W (putD f d fs) (putF f v gs)
  | _, _, .nil => .cons r .nil
  | _, _, .cons (f := g) q rs => by
    unfold putD putF
    by_cases h : g = f
    · rw [if_pos h, if_pos h]; exact .cons r rs
    · rw [if_neg h, if_neg h]; exact .cons q (putD_rel r rs)
theorem RFs.length {W : Vw} : ∀ {fs : List (Str × D)} {gs : List (Str × V)}, RFs W fs gs → fs.length = gs.length
  | _, _, .nil => rfl
  | _, _, .cons _ r => by rw [List.length_cons, List.length_cons, r.length]
section
variable {X : Cx} {F : Fx} {pos : Pos} {f : Str} {xs : List Str} {e o : Expr} {i j : IE}
theorem e_get (hk : X.K = F.K) (T : Has F.K F.g f xs) (he : PE X e (TI F i)) (hb : attributeBase e f X.env (eval e X.env) = eval e X.env := by rfl) : PE X (.Attribute e f pos) (TI F (iUn (opGet xs f) i)) := PE.imp (pe_fld he hb) fun σ H Q h =>
  (TX.bind (k := fun a env s1 => ofO (opGet xs f a s1)) h).mono fun x H1 ⟨W, st, env, d, A, r, p⟩ => by
    replace p := PostO.of p
    unfold opGet at p
    split at p
    · rename_i C fs hd
      split at p
      · rename_i hC
        cases q : fs.lookup f with
        | none => rw [q] at p; exact p.elim
        | some y =>
          rw [q] at p
          obtain ⟨a, dx, gs, rfl, ha, rg⟩ := insD_at A.sim hd r
          obtain ⟨v, hv, rv⟩ := rf_lookup rg q
          have z := A.in_.now p rv
          have cl := T.cl C hC
          have no := T.no C hC
          rw [A.g, A.h] at ha
          rw [← hk] at cl no
          exact ⟨a, _, dx, gs, v, rfl, ha, cl, no, hv, z⟩
      · exact p.elim
    · exact p.elim
/-- o.f = e, o in the store -/
def kPut (xs : List Str) (f : Str) (y o : D) (env : Env) (st : Sto) : RS := match o with
  | .ref n => match st[n]? with
    | some (.ins C fs) => if C ∈ xs ∧ fs.length < 1000 then .nx env (st.set n (.ins C (putD f y fs))) else .bad
    | _ => .bad
  | _ => .bad
def sPut (xs : List Str) (f : Str) (i j : IE) : IS := fun env st => liftS (j env st) env fun y s => liftS (i env s) env fun o s2 => kPut xs f y o env s2
theorem TKS.bind {α β γ δ : Type} {P : Vw → α → β → Prop} {P' : Vw → γ → δ → Prop} {i : Env → Sto → R γ} {k : α → γ → Env → Sto → RS} {N : Ends} {b : β} {σ : L2.St} {H : Hp} (mo : ∀ {W : Vw} {ρ' : List Addr} {H' : Hp} {a : α} {b : β}, Ext W ρ' H' → P W a b → P (W.to ρ' H') a b)
    (h : ∃ W st env a, At F W st env σ H ∧ P W a b ∧ PostS W (liftS (i env st) env fun c s1 => k a c env s1) N F.E) :
    TX P' F i σ H fun c H' => ∃ W st env a d, At F W st env σ H' ∧ P W a b ∧ P' W d c ∧ PostS W (k a d env st) N F.E := by
  obtain ⟨W, st, env, a, A, p, q⟩ := h
  refine ⟨W, st, env, A, ?_⟩
  cases r : i env st with
  | ok d s1 =>
    rw [r] at q
    exact fun ρ' H' c x s pc => ⟨W.to ρ' H', s1, env, a, d, A.next x s, mo x p, pc, PostS.ext x q⟩
  | exc C fs s1 =>
    rw [r] at q
    exact fun ρ' H' d x S z => q ρ' H' σ d x S (A.env.mono x) z
  | bad => rw [r] at q; exact q
theorem s_put {p' : Pos} (hk : X.K = F.K) (T : Has F.K F.g f xs) (ho : PE X o (TI F i)) (he : PE X e (TI F j)) (hs : swapsWith e (some (.Attribute o f p')) pos.line X.env = pure false := by rfl) : PS X (.Assign [.Attribute o f p'] e pos) (TS_ F (sPut xs f i j)) := PS.imp (ps_fld ho he hs) fun N σ H h =>
  (TX.bindS (k := fun y env s => liftS (i env s) env fun o s2 => kPut xs f y o env s2) h).mono fun y H1 h1 => (TKS.bind (P' := RV) (k := fun y o env s2 => kPut xs f y o env s2) (fun x r => RV.mono x r) h1).mono fun x H2 ⟨W, st, env, d, b, A, rd, rb, p⟩ => by
    have p' : PostS W (kPut xs f d b env st) N F.E := p
    unfold kPut at p'
    split at p'
    · rename_i n
      split at p'
      · rename_i C fs hq
        split at p'
        · rename_i hC
          cases rb with
          | @ref _ a e =>
            obtain ⟨dx, gs, ha, rg⟩ := A.sim.at_ n _ a hq e
            have cl := T.cl C hC.1
            have no := T.no C hC.1
            have eH := A.h
            subst eH
            rw [← hk] at cl no
            have x7 : Ext W W.ρ (upd W.H a (.ins (W.g C) dx (putF f y gs))) := ext_put (List.mem_of_getElem? e)
            have S := A.sim.put e (o := .ins C (putD f d fs)) (u := .ins (W.g C) dx (putF f y gs)) ⟨dx, _, upd_same, RFs.mono x7 (putD_rel rd rg)⟩
            have q := p' W.ρ _ σ x7 S (A.env.mono x7)
            rw [A.g] at ha q
            exact ⟨a, _, dx, gs, rfl, ha, cl, no, by rw [← rg.length]; exact hC.2, q⟩
        · exact p'.elim
      · exact p'.elim
    · exact p'.elim

/-! ### properties -/
variable {k : Nat} {C : Str} {pa ga : Addr} {fd : FuncData} {fn : Fn}
def iProp (C : Str) (fn : Fn) (i : IE) : IE := fun env st => (i env st).bind fun d s => match insD s d with
  | some (C', _) => if C' = C then fn [d] s else .bad
  | none => .bad
theorem e_prop (hk : X.K = F.K) (cl : Cls F.K (F.g C)) (hp : PropOf F.K (F.g C) f pa ga) (G : FnG X.prog X.w X.K X.mg X.base k ga fd ["self"] (SPx F.K F.g fn)) (hr : Room (k + 1) X.A) (hgd : X.A.guards = some []) (hb : Binds X.K fd ["self"] []) (tk : Takes X F.E) (ne : ∀ ds st D fs s, fn ds st ≠ .exc D fs s) (he : PE X e (TI F i))
    (hab : attributeBase e f X.env (eval e X.env) = eval e X.env := by rfl) : PE X (.Attribute e f pos) (TI F (iProp C fn i)) := by
  refine ⟨fun pins s σ H Q I h => ?_⟩
  refine attr_of hab (thn (he.run pins s σ H _ I (TX.bind (k := fun d env s => match insD s d with
    | some (C', _) => if C' = C then fn [d] s else .bad
    | none => .bad) h)) fun u s1 ⟨x, H1, I1, rx, W, st, env, d, A, r, p⟩ => ?_)
  have p' : PostE W (match insD st d with
    | some (C', _) => if C' = C then fn [d] st else .bad
    | none => .bad) Q (F.at_ σ) := p
  split at p'
  · rename_i C' fs hd
    split at p'
    · rename_i hC
      subst hC
      obtain ⟨a, dx, gs, rfl, ea, rg⟩ := insD_at A.sim hd r
      cases rx
      rw [A.g, A.h] at ea
      rw [← hk] at cl hp
      obtain ⟨mA, O, _, _, _, _⟩ := ins_get I1.hok ea
      obtain ⟨od, J, _⟩ := O.look
      obtain ⟨rest, hrec⟩ := hp.rec_
      have hc : (PySem.W.clsIn X.K (F.g C')).isSome = true := by
        obtain ⟨cd, q, _⟩ := PySem.W.any_some cl.hd
        rw [q]; rfl
      have p2 : PostE W (fn [d] st) Q (fun _ _ _ => False) := by
        cases q : fn [d] st with
        | ok y s2 => rw [q] at p'; exact p'
        | exc D fs s2 => exact absurd q (ne _ _ _ _ _)
        | bad => rw [q] at p'; exact p'
      have I2 := I1.tok (s1.toks + 1)
      refine PySem.W.get_bind I1.kIn J (PySem.W.plainGet_of (cl.get f)).1 (PySem.W.findObj_data hc hp.at_ hp.get hp.tak) (PySem.W.plainGet_of (cl.get f)).2 (wpAny_call (PySem.W.prop_get (s := { s1 with toks := s1.toks + 1 }) I1.kIn hrec ?_))
      refine codeAny_mono (G.run X.A.in1 X.stack { s1 with toks := s1.toks + 1 } H1 ⟨[.ref a], []⟩ [.ref a] [.ref a] Q (fun _ _ _ => False) hr.in1 hgd I2.env0.in1 (hb _ [.ref a] I2.kIn rfl) (.cons rfl .nil) ⟨W, st, [d], A.k, A.g, A.h, A.sim, .cons r .nil, p2⟩) fun r s' hq => ?_
      cases r with
      | error er =>
        obtain ⟨_, _, _, _, _, _, _, _, _, _, _, _, z⟩ := hq
        exact z.elim
      | ok fl =>
        cases fl with
        | ret u =>
          obtain ⟨v, H', I3, rv, q3⟩ := I2.after hq
          show wpAny _ _ (handedOut u) _ _ _
          rw [PySem.W.handedOut_of (handed_of rv)]
          exact wpAny_pure ⟨v, H', I3, rv, q3⟩
        | next => exact False.elim hq
        | brk => exact False.elim hq
        | cont => exact False.elim hq
    · exact p'.elim
  · exact p'.elim
end
end M
/-! M17: == and != by an own __eq__. -/
namespace M
open PySem PySem.Spec PyProof.Rows L2

section
variable {prog : Program} {w : World} {A : Around} {E : Value → Shared → Prop} {s : Shared} {K : PySem.W.Frag} {x C f : Addr} {ox : Obj} {od : Option Obj} {b tb : Value}
open Builtin in
theorem ne_entry {Q : Fin → Shared → Prop} (hu : A.units < cLine) (kin : K.In s.heap) (I : PySem.W.InstAt s.heap x ox C od) (hs : PySem.W.findIn K (.ref C) "__eq__" = some (some (.ref f))) (hf : PySem.W.isFn K (.ref f) = true)
    (h : wpAny (model prog w) A (call (.ref f) [.ref x, b]) (fun v s' => ∃ k, v = .bool k ∧ Q (.done (.ret (.bool (!k)))) s') E s) : wpAny (model prog w) A (Builtin.«object.__ne__» ⟨[.ref x, b], []⟩) Q E s := by
  unfold Builtin.«object.__ne__»
  repeat (first
    | with_reducible refine wpAny_cRoomFor hu ?_
    | (refine wpAny_bind (m := callSpecialIfBound? (.ref x) (Str.ofString "__eq__") [b]) (PySem.W.ifBound_K kin I hs hf (wpAny_mono h (fun r s' hr => by
          obtain ⟨k, rfl, hq⟩ := hr
          repeat (first | exact hq | exact wpAny_pure hq | exact wpAny_truthy_bool hq | (refine wpAny_bind (m := truthy (.bool _)) (wpAny_truthy_bool ?_)) | wp_step)) fun _ _ e => e)))
    | wp_step)
theorem ne_bound {Mo : Model} {args : List Value} {Q : Option Value → Shared → Prop} (kin : K.In s.heap) (I : PySem.W.InstAt s.heap x ox C od) (hs : PySem.W.findIn K (.ref C) "__ne__" = some (some (.builtin "object.__ne__")))
    (h : wpAny Mo A (call (.builtin "object.__ne__") (.ref x :: args)) (fun v => Q (some v)) E s) : wpAny Mo A (callSpecialIfBound? (.ref x) "__ne__" args) Q E s := by
  simp only [bindSpecialIfBound?, callSpecialIfBound?]
  have L := (PySem.W.looks_findIn (M := Mo) kin hs)
  refine wpAny_holding (wpAny_bind (wpAny_bind (wpAny_bind (I.type.here (L.here ?_)))))
  refine wpAny_bind (wpAny_askSetting (wpAny_ite ?_))
  have last : wpAny Mo A (call (.builtin "object.__ne__") ([.ref x] ++ args) >>= fun v => pure (some v)) Q E s := wpAny_bind (wpAny_mono h (fun v s2 q => wpAny_pure q) fun _ _ q => q)
  split
  · exact wpAny_bind (wpAny_of_eq (F.cmp_object.ne.bind _) (wpAny_pure (by exact last)))
  · exact wpAny_tryCatch (wpAny_bind (wpAny_of_eq (F.cmp_object.ne.bind _) (wpAny_pure (by exact last))))
theorem neK {Q : Value → Shared → Prop} (hu : A.units + 1 < cLine) (kin : K.In s.heap) (I : PySem.W.InstAt s.heap x ox C od) (hb : PySem.W.Looks (model prog w) s.heap (typeOf b) tb) (hn : PySem.W.notFirst K C tb = true) (hne : PySem.W.findIn K (.ref C) "__ne__" = some (some (.builtin "object.__ne__")))
    (hm : PySem.W.mroIn K C (.type "object") = some true) (hs : PySem.W.findIn K (.ref C) "__eq__" = some (some (.ref f))) (hf : PySem.W.isFn K (.ref f) = true)
    (h : wpAny (model prog w) A.in1 (call (.ref f) [.ref x, b]) (fun v s' => ∃ k, v = .bool k ∧ Q (.bool (!k)) s') E s) : wpAny (model prog w) A (richCompare .NotEq (.ref x) b) Q E s := by
  have one : wpAny (model prog w) A (tryCompare (.ref x) "__ne__" b) (fun r s' => ∃ v, r = some v ∧ Q v s') E s := by
    simp only [tryCompare]
    refine wpAny_bind (ne_bound kin I hne (wpAny_call (codeAny_call_builtin F.cmp_object.ne.plain F.cmpEntry_ne (PySem.W.check_slot F.cmpKind_ne F.cmpSplit_ne (I.type.andThen (PySem.W.looks_mroIn kin hm)) (F.cmpArgs_ne _ _)
      (ne_entry (A := A.in1) (by show A.units + 1 < cLine; exact hu) kin I hs hf (wpAny_mono h (fun v s2 hv => ?_) fun _ _ e => e))))))
    obtain ⟨k, rfl, q⟩ := hv
    first | exact ⟨k, rfl, wpAny_pure ⟨_, rfl, q⟩⟩ | exact ⟨k, rfl, wpAny_pure (wpAny_pure ⟨_, rfl, q⟩)⟩
  unfold richCompare
  simp only [oneThing_ref]
  refine wpAny_holding (wpAny_bind (wpAny_cRoomFor (by omega) ?_))
  rw [cmpInfo_NotEq]
  dsimp only
  refine wpAny_bind (I.type.here ?_)
  refine wpAny_bind (hb.here ?_)
  split
  · rename_i q
    have e : PySem.W.subIn K tb (.ref C) = some false := by
      rcases Bool.or_eq_true_iff.mp hn with e | e
      · rw [beq_iff_eq.mp e] at q; simp at q
      · exact beq_iff_eq.mp e
    refine wpAny_bind ((PySem.W.looks_subIn kin e).here ?_)
    simp only [Bool.false_eq_true, if_false]
    refine wpAny_bind (wpAny_mono one (fun r s2 ⟨v, e1, hq⟩ => by subst e1; exact wpAny_pure hq) fun _ _ e => e)
  · refine wpAny_bind (wpAny_pure ?_)
    simp only [Bool.false_eq_true, if_false]
    refine wpAny_bind (wpAny_mono one (fun r s2 ⟨v, e1, hq⟩ => by subst e1; exact wpAny_pure hq) fun _ _ e => e)
end

/-! ### the operators -/
/-- what is known of the class with its own __eq__ -/
structure EqC (K : PySem.W.Frag) (g : Str → Addr) (C : Str) (fE : Addr) (ts : List String) : Prop where
  eq : PySem.W.findIn K (.ref (g C)) "__eq__" = some (some (.ref fE))
  fn : PySem.W.isFn K (.ref fE) = true
  ne : PySem.W.findIn K (.ref (g C)) "__ne__" = some (some (.builtin "object.__ne__"))
  mr : PySem.W.mroIn K (g C) (.type "object") = some true
  ty : ∀ t ∈ ts, PySem.W.subIn K (.type t) (.ref (g C)) = some false
def optR : R D → Option (D × Sto)
  | .ok d s => some (d, s)
  | _ => none
def kNe : Option (D × Sto) → Option (D × Sto)
  | some (.bl k, s) => some (.bl (!k), s)
  | _ => none
/-- the other side: one of these types, or of the class -/
def okR (C : Str) (ts : List String) (st : Sto) (b : D) : Bool := match insD st b with
  | some (C', _) => decide (C' = C)
  | none => match tagD st b with
    | some (.ty t) => ts.contains t
    | _ => false
def opEqI (C : Str) (ts : List String) (fn : Fn) (neg : Bool) : Op2 := fun a b st => match insD st a with
  | some (C', _) => if C' = C ∧ okR C ts st b = true then (if neg then kNe (optR (fn [a, b] st)) else optR (fn [a, b] st)) else none
  | none => opEq neg a b st
section
variable {X : Cx} {F : Fx} {W : Vw} {st : Sto} {k : Nat} {C : Str} {fE : Addr} {ts : List String} {fd : FuncData} {ps : List Str} {fn : Fn}
theorem okR_look {pins : List (Addr × Obj)} {σ : L2.St} {H : Hp} {s : Shared} {b : D} {v : V} {u : Value} (hk : X.K = F.K) (J : In F W st H) (I : Inv X pins σ H s) (T : EqC F.K F.g C fE ts) (h : okR C ts st b = true) (r : RV W b v) (ru : RelV v u) : ∃ tb, PySem.W.Looks (model X.prog X.w) s.heap (typeOf u) tb ∧ PySem.W.notFirst X.K (F.g C) tb = true := by
  unfold okR at h
  split at h
  · rename_i C' fs hd
    have e := of_decide_eq_true h
    subst e
    obtain ⟨a, dx, gs, rfl, ea, _⟩ := insD_at J.sim hd r
    cases ru
    rw [J.g, J.h] at ea
    obtain ⟨mA, O, _⟩ := ins_get I.hok ea
    obtain ⟨od, JI, _⟩ := O.look
    exact ⟨_, JI.type, by simp [PySem.W.notFirst]⟩
  · split at h
    · rename_i t ht
      obtain ⟨P, Z, pp, _⟩ := kit_of I ru (tag_ty hk J ht r)
      refine ⟨_, Z.ty _ _ I.kIn pp, ?_⟩
      have q := T.ty t (List.contains_iff_mem.mp h)
      rw [← hk] at q
      unfold PySem.W.notFirst
      rw [q]
      simp
    · cases h
theorem eqI_call {A' : Around} {pins : List (Addr × Obj)} {σ : L2.St} {H : Hp} {s : Shared} {Q : VK} {a b : D} {x y : V} {v u : Value} (J : In F W st H) (I : Inv X pins σ H s) (G : FnG X.prog X.w X.K X.mg X.base k fE fd ps (SPx F.K F.g fn)) (hr : Room k A') (hgd : A'.guards = some []) (he : Env0 X.prog X.w X.K X.mg X.base A' X.stack s H) (hb : Binds X.K fd ps [])
    (ra : RV W a x) (rb : RV W b y) (rx : RelV x v) (ry : RelV y u) (p : PostO W (optR (fn [a, b] st)) Q) : wpAny (model X.prog X.w) A' (call (.ref fE) [v, u]) (EP X pins σ Q) X.xe s := by
  have p2 : PostE W (fn [a, b] st) Q (fun _ _ _ => False) := by
    cases q : fn [a, b] st with
    | ok d s2 => rw [q] at p; exact p
    | exc D fs s2 => rw [q] at p; exact p.elim
    | bad => rw [q] at p; exact p.elim
  have sp : SPx F.K F.g fn [x, y] H Q (fun _ _ _ => False) := ⟨W, st, [a, b], J.k, J.g, J.h, J.sim, .cons ra (.cons rb .nil), p2⟩
  have r2 : Vals [x, y] [v, u] := .cons rx (.cons ry .nil)
  have hl := G.len _ _ _ _ sp
  refine wpAny_call (codeAny_mono (G.run A' X.stack s H ⟨[v, u], []⟩ [v, u] [x, y] Q (fun _ _ _ => False) hr hgd he (by simpa using hb s [v, u] I.kIn (by simpa using hl)) r2 sp) fun r s' hq => ?_)
  cases r with
  | error er =>
    obtain ⟨_, _, _, _, _, _, _, _, _, _, _, _, z⟩ := hq
    exact z.elim
  | ok fl =>
    cases fl with
    | ret u => exact I.after hq
    | next => exact False.elim hq
    | brk => exact False.elim hq
    | cont => exact False.elim hq
theorem or_eqI (hk : X.K = F.K) (hu : X.A.units + 64 < cLine) (T : EqC F.K F.g C fE ts) (G : FnG X.prog X.w X.K X.mg X.base k fE fd ps (SPx F.K F.g fn)) (hr : Room k X.A) (hgd : X.A.guards = some []) (hb : Binds X.K fd ps []) : OpR X (compareOp .Eq) (r2 F (opEqI C ts fn false)) := fun pins s σ H x y v u Q I rx ry h => by
  have h0 := h
  obtain ⟨W, st, a, b, J, ra, rb, p⟩ := h
  unfold opEqI at p
  split at p
  · rename_i C' fs hd
    split at p
    · rename_i c
      obtain ⟨rfl, hok⟩ := c
      obtain ⟨q, dx, gs, rfl, ea, _⟩ := insD_at J.sim hd ra
      cases rx
      rw [J.g, J.h] at ea
      obtain ⟨mA, O, _⟩ := ins_get I.hok ea
      obtain ⟨od, JI, _⟩ := O.look
      obtain ⟨tb, hlt, hnf⟩ := okR_look hk J I T hok rb ry
      obtain ⟨m, hF⟩ := I.fr
      have T1 := T.eq
      have T2 := T.fn
      rw [← hk] at T1 T2
      refine PySem.W.cmp_K (op := .Eq) (tb := tb) (by omega) hF I.ok.mod.kin JI hlt hnf T1 T2 ?_
      refine wpAny_mono (eqI_call J I G hr hgd I.env0 hb ra rb rfl ry p) (fun z s' hz => ?_) fun _ _ e => e
      obtain ⟨d, H', I', rd, q⟩ := hz
      have fin : EP X pins σ Q z s' := ⟨d, H', I', rd, q⟩
      cases z <;> first | exact fin | (cases d <;> first | (obtain ⟨_, e⟩ := rd; cases e) | cases rd)
    · exact p.elim
  · exact or_eq hk hu pins s σ H x y v u Q I rx ry ⟨W, st, a, b, J, ra, rb, p⟩
theorem or_neI (hk : X.K = F.K) (hu : X.A.units + 64 < cLine) (T : EqC F.K F.g C fE ts) (G : FnG X.prog X.w X.K X.mg X.base k fE fd ps (SPx F.K F.g fn)) (hr : Room (k + 1) X.A) (hgd : X.A.guards = some []) (hb : Binds X.K fd ps []) : OpR X (compareOp .NotEq) (r2 F (opEqI C ts fn true)) := fun pins s σ H x y v u Q I rx ry h => by
  obtain ⟨W, st, a, b, J, ra, rb, p⟩ := h
  unfold opEqI at p
  split at p
  · rename_i C' fs hd
    split at p
    · rename_i c
      obtain ⟨rfl, hok⟩ := c
      obtain ⟨q, dx, gs, rfl, ea, _⟩ := insD_at J.sim hd ra
      cases rx
      rw [J.g, J.h] at ea
      obtain ⟨mA, O, _⟩ := ins_get I.hok ea
      obtain ⟨od, JI, _⟩ := O.look
      obtain ⟨tb, hlt, hnf⟩ := okR_look hk J I T hok rb ry
      have T1 := T.eq
      have T2 := T.fn
      have T3 := T.ne
      have T4 := T.mr
      rw [← hk] at T1 T2 T3 T4
      have p1 : PostO W (kNe (optR (fn [a, b] st))) Q := p
      show wpAny (model X.prog X.w) X.A (richCompare .NotEq (.ref q) u) (EP X pins σ Q) X.xe s
      have p2 : PostO W (optR (fn [a, b] st)) (fun z H' => ∃ k, z = .bl k ∧ Q (.bl (!k)) H') := by
        cases z : optR (fn [a, b] st) with
        | none => rw [z] at p1; exact p1.elim
        | some w =>
          obtain ⟨d, s2⟩ := w
          rw [z] at p1
          cases d with
          | bl k =>
            intro ρ' H' v x S r
            cases r
            exact ⟨k, rfl, p1 ρ' H' (.bl (!k)) x S (.bl _)⟩
          | _ => exact p1.elim
      refine neK (by omega) I.kIn JI hlt hnf T3 T4 T1 T2 (wpAny_mono (eqI_call (A' := X.A.in1) J I G hr.in1 hgd I.env0.in1 hb ra rb rfl ry p2) (fun z s' hz => ?_) fun _ _ e => e)
      obtain ⟨d, H', I', rd, k, rfl, q⟩ := hz
      cases rd
      exact ⟨k, rfl, .bl (!k), H', I', rfl, q⟩
    · exact p.elim
  · exact or_ne hk hu pins s σ H x y v u Q I rx ry ⟨W, st, a, b, J, ra, rb, p⟩
end
end M
/-! M18: methods of texts and lists, f-strings, str and repr by own methods. -/
namespace M
open PySem PySem.Spec PyProof.Rows L2

/-! ### methods of texts -/
def rM1 (F : Fx) (f : Op2) : V → List V → Hp → VK → Prop := fun x xs H Q => ∃ y, xs = [y] ∧ r2 F f x y H Q
def isS : D → Bool
  | .str _ => true
  | _ => false
def iM1 (f : Op2) (i j : IE) : IE := fun env st => (i env st).bind fun a s1 => if isS a = true then (j env s1).bind fun b s2 => ofO (f a b s2) else .bad
theorem MtR.imp {X : Cx} {id : String} {r r' : V → List V → Hp → VK → Prop} (a : MtR X id r) (h : ∀ x xs H Q, r' x xs H Q → r x xs H Q) : MtR X id r' := fun p s σ H x xs v us Q I rx rs q => a p s σ H x xs v us Q I rx rs (h x xs H Q q)
section
variable {X : Cx} {F : Fx} {W : Vw} {st : Sto} {pos apos : Pos} {o e : Expr} {i j : IE} {f : Op2} {id : String} {name : Str}
theorem m1_red {σ : L2.St} {H : Hp} {Q : VK} (h : TI F (iM1 f i j) σ H Q) : tM1 (rM1 F f) (TI F i) (TI F j) σ H Q :=
  (TX.bind (k := fun a env s1 => if isS a = true then (j env s1).bind fun b s2 => ofO (f a b s2) else .bad) h).mono fun x H1 ⟨W, st, env, a, A, r, p⟩ => by
    have p' : PostE W (if isS a = true then (j env st).bind fun b s2 => ofO (f a b s2) else .bad) Q (F.at_ σ) := p
    split at p'
    · rename_i c
      have hx : ∃ z, x = .str z := by
        cases r <;> first | exact ⟨_, rfl⟩ | cases c
      have T : TK RV RV F (fun a env s1 => (j env s1).bind fun b s2 => ofO (f a b s2)) x σ H1 Q := ⟨W, st, env, a, A, r, p'⟩
      exact ⟨hx, (TK.bind (i := j) (k := fun a b env s2 => ofO (f a b s2)) (fun x r => RV.mono x r) T).mono fun y H2 ⟨W, st, env, a, b, A, ra, rb, p⟩ => ⟨y, rfl, W, st, a, b, A.in_, ra, rb, PostO.of p⟩⟩
    · exact p'.elim
theorem e_m1 (slot : Slot "str" name id) (ty : typeOf (.builtin id) = pure (.type "method_descriptor")) (rule : MtR X id (rM1 F f)) (ho : PE X o (TI F i)) (he : PE X e (TI F j))
    (hs : starEach [e] X.env = [(false, eval e X.env)] := by rfl) (hbase : attributeBase o name X.env (eval o X.env) = eval o X.env := by rfl) (hline : (apos.endLine == pos.line) = true := by rfl) : PE X (.Call (.Attribute o name apos) [e] [] pos) (TI F (iM1 f i j)) :=
  PE.imp (pe_m1 slot ty rule ho he hs hbase hline) fun _ _ _ h => m1_red h
def opSplit : Op2 := fun a b st => match a, b with
  | .str x, .str y => if (y.length == 0) = false ∧ x.length + 2 ≤ sizeLine then some (.lst ((Txt.split x y).map .str), st) else none
  | _, _ => none
theorem rvs_strs : ∀ ys : List Str, RVs W (ys.map D.str) (ys.map V.str)
  | [] => .nil
  | y :: ys => .cons (.str y) (rvs_strs ys)
theorem mr_split : MtR X "str.split" (rM1 F opSplit) := MtR.imp mt_split fun x xs H Q ⟨y, e, W, st, a, b, J, ra, rb, p⟩ => by
  subst e
  unfold opSplit at p
  split at p
  · split at p
    · rename_i c
      cases ra
      cases rb
      have eH := J.h
      subst eH
      exact ⟨_, _, rfl, rfl, c.1, c.2, fun q hq => p.listF J.sim (rvs_strs _) hq⟩
    · exact p.elim
  · exact p.elim
def opPart : Op2 := fun a b st => match a, b with
  | .str x, .str y => if (y.length == 0) = false ∧ x.length ≤ sizeLine then some (.tup [.str (Txt.partition x y).1, .str (Txt.partition x y).2.1, .str (Txt.partition x y).2.2], st) else none
  | _, _ => none
theorem mr_part : MtR X "str.partition" (rM1 F opPart) := MtR.imp mt_partition fun x xs H Q ⟨y, e, W, st, a, b, J, ra, rb, p⟩ => by
  subst e
  unfold opPart at p
  split at p
  · split at p
    · rename_i c
      cases ra
      cases rb
      have eH := J.h
      subst eH
      exact ⟨_, _, rfl, rfl, c.1, c.2, fun q hq => p.tuple J.sim (.cons (.str _) (.cons (.str _) (.cons (.str _) .nil))) hq⟩
    · exact p.elim
  · exact p.elim
def opTT (g : Str → Str → D) (c : Str → Bool) : Op2 := fun a b st => match a, b with
  | .str x, .str y => if c x = true then some (g x y, st) else none
  | _, _ => none
abbrev opStarts : Op2 := opTT (fun x y => .bl (Txt.startswith x y)) fun _ => true
abbrev opLstripC : Op2 := opTT (fun x y => .str (Txt.lstripChars x y)) fun x => decide (x.length ≤ sizeLine)
theorem mr_starts : MtR X "str.startswith" (rM1 F opStarts) := MtR.imp mt_startswith fun x xs H Q ⟨y, e, W, st, a, b, J, ra, rb, p⟩ => by
  subst e
  unfold opStarts opTT at p
  split at p
  · split at p
    · cases ra; cases rb; exact ⟨_, _, rfl, rfl, J.now p (.bl _)⟩
    · exact p.elim
  · exact p.elim
theorem mr_lstripC : MtR X "str.lstrip" (rM1 F opLstripC) := MtR.imp mt_lstripChars fun x xs H Q ⟨y, e, W, st, a, b, J, ra, rb, p⟩ => by
  subst e
  unfold opLstripC opTT at p
  split at p
  · split at p
    · rename_i c
      cases ra; cases rb; exact ⟨_, _, rfl, rfl, of_decide_eq_true c, J.now p (.str _)⟩
    · exact p.elim
  · exact p.elim
def asS : D → Option Str
  | .str x => some x
  | _ => none
theorem asS_rv : ∀ {xs : List D} {ss : List Str} {ys : List V}, allP asS xs = some ss → RVs W xs ys → ys = ss.map V.str
  | [], _, _, h, .nil => by cases h; rfl
  | x :: xs, _, _, h, .cons r rs => by
    obtain ⟨p, q, e1, e2, rfl⟩ := allP_cons h
    rw [asS_rv e2 rs]
    cases r <;> cases e1
    rfl
def opJoin : Op2 := fun a b st => match a with
  | .str x => match aseq st b with
    | some ds => match allP asS ds with
      | some ys => if (ys.map (·.length)).sum + ys.length * x.length ≤ 16777216 then some (.str (Txt.join x ys), st) else none
      | none => none
    | none => none
  | _ => none
theorem mr_join (hk : X.K = F.K) : MtR X "str.join" (rM1 F opJoin) := MtR.imp mt_join fun x xs H Q ⟨y, e, W, st, a, b, J, ra, rb, p⟩ => by
  subst e
  unfold opJoin at p
  split at p
  · split at p
    · rename_i ds hd
      split at p
      · rename_i ys hy
        split at p
        · rename_i c
          cases ra
          obtain ⟨q, zs, rfl, hs, rz⟩ := aseq_at J.sim hd rb
          rw [J.k, ← hk, J.h, asS_rv hy rz] at hs
          exact ⟨_, q, ys, rfl, rfl, hs, c, J.now p (.str _)⟩
        · exact p.elim
      · exact p.elim
    · exact p.elim
  · exact p.elim

/-! ### methods of lists -/
def isL (st : Sto) : D → Bool
  | .ref n => (lstAt st n).isSome
  | .lst _ => true
  | _ => false
def iMl (f : D → OpN) (i : IE) (j : IA) : IE := fun env st => (i env st).bind fun a s1 => if isL s1 a = true then (j env s1).bind fun ds s2 => ofO (f a ds s2) else .bad
def rMl (F : Fx) (f : D → OpN) : V → List V → Hp → VK → Prop := fun x xs H Q => ∃ W st a ds, In F W st H ∧ RV W a x ∧ RVs W ds xs ∧ PostO W (f a ds st) Q
theorem isL_ty {H : Hp} {a : D} {x : V} (hk : X.K = F.K) (J : In F W st H) (h : isL st a = true) (r : RV W a x) : tyV X.K "list" x H := by
  have eH := J.h
  subst eH
  cases r with
  | lst t _ =>
    have q := t.sq
    rw [J.k, ← hk] at q
    exact .inl ⟨rfl, _, q⟩
  | @ref n a e =>
    obtain ⟨xs, hx⟩ := Option.isSome_iff_exists.mp (show (lstAt st n).isSome = true from h)
    obtain ⟨ys, h1, _⟩ := J.sim.at_ n _ a (lstAt_eq hx) e
    exact .inl ⟨rfl, ys, .inl (.inl h1)⟩
  | _ => cases h
theorem ml_red {f : D → OpN} {j : IA} {σ : L2.St} {H : Hp} {Q : VK} (hk : X.K = F.K) (h : TI F (iMl f i j) σ H Q) : tBM X.K "list" (rMl F f) (TI F i) (TA_ F j) σ H Q :=
  (TX.bind (k := fun a env s1 => if isL s1 a = true then (j env s1).bind fun ds s2 => ofO (f a ds s2) else .bad) h).mono fun x H1 ⟨W, st, env, a, A, r, p⟩ => by
    have p' : PostE W (if isL st a = true then (j env st).bind fun ds s2 => ofO (f a ds s2) else .bad) Q (F.at_ σ) := p
    split at p'
    · rename_i c
      have T : TK RV RV F (fun a env s1 => (j env s1).bind fun ds s2 => ofO (f a ds s2)) x σ H1 Q := ⟨W, st, env, a, A, r, p'⟩
      exact ⟨isL_ty hk A.in_ c r, (TK.bind (i := j) (P' := RVs) (k := fun a ds env s2 => ofO (f a ds s2)) (fun x r => RV.mono x r) T).mono fun y H2 ⟨W, st, env, a, b, A, ra, rb, p⟩ => ⟨W, st, a, b, A.in_, ra, rb, PostO.of p⟩⟩
    · exact p'.elim
theorem e_ml {f : D → OpN} {j : IA} {es : List Expr} (hk : X.K = F.K) (slot : Slot "list" name id) (hty : typeOf (.builtin id) = pure (.type "method_descriptor")) (hm : MtR X id (rMl F f)) (ho : PE X o (TI F i)) (ha : PA X (e :: es) (TA_ F j))
    (hbase : attributeBase o name X.env (eval o X.env) = eval o X.env := by rfl)
    (hfew : ((backTo pos (starEach (e :: es) X.env)).all (fun x => !x.1) && (backToKw pos (keywordEach [] X.env)).all (fun x => x.1.isSome) && decide ((e :: es).length + ([] : List Keyword).length + (if ([] : List Keyword).isEmpty then 0 else 1) < 30)) = true := by rfl)
    (hline : (apos.endLine == pos.line) = true := by rfl) (hs : starEach (e :: es) X.env = (false, eval e X.env) :: starEach es X.env := by rfl) (hplain : (backTo pos (starEach es X.env)).any (·.1) = false := by rfl) :
    PE X (.Call (.Attribute o name apos) (e :: es) [] pos) (TI F (iMl f i j)) := PE.imp (pe_bm PySem.F.plainAttrs_list slot hty hm ho ha hbase hfew hline hs hplain) fun _ _ _ h => ml_red hk h
def opAppend (a : D) : OpN := fun ds st => match a, ds with
  | .ref n, [d] => match lstAt st n with
    | some xs => if xs.length < sizeLine then some (.non, st.set n (.lst (xs ++ [d]))) else none
    | none => none
  | _, _ => none
theorem mr_append : MtR X "list.append" (rMl F opAppend) := MtR.imp mt_append fun x xs H Q ⟨W, st, a, ds, J, ra, rd, p⟩ => by
  unfold opAppend at p
  split at p
  · rename_i n d
    split at p
    · rename_i zs hz
      split at p
      · rename_i c
        obtain ⟨y, rfl, ry⟩ := rv1 rd
        obtain ⟨m, q, ys, e1, e2, e3, e4, e5, r5⟩ := mlst_at J.sim (d := .ref n) (xs := zs) hz ra
        cases e1
        have eH := J.h
        subst eH
        have x7 : Ext W W.ρ (upd W.H q (.lst (ys ++ [y]))) := ext_put (List.mem_of_getElem? e3)
        exact ⟨q, ys, y, e2, rfl, e5, by rw [← r5.length]; exact c, p W.ρ _ .non x7 (J.sim.put e3 ⟨_, upd_same, RVs.mono x7 (r5.append (.cons ry .nil))⟩) .non⟩
      · exact p.elim
    · exact p.elim
  · exact p.elim
def opExtend (a : D) : OpN := fun ds st => match a, ds with
  | .ref n, [.ref k] => match lstAt st n, lstAt st k with
    | some xs, some ys => if xs.length + ys.length ≤ sizeLine then some (.non, st.set n (.lst (xs ++ ys))) else none
    | _, _ => none
  | _, _ => none
theorem mr_extend : MtR X "list.extend" (rMl F opExtend) := MtR.imp mt_extend fun x xs H Q ⟨W, st, a, ds, J, ra, rd, p⟩ => by
  unfold opExtend at p
  split at p
  · rename_i n k
    split at p
    · rename_i zs us hz hu
      split at p
      · rename_i c
        obtain ⟨y, rfl, ry⟩ := rv1 rd
        obtain ⟨m, q, ys, e1, e2, e3, e4, e5, r5⟩ := mlst_at J.sim (d := .ref n) (xs := zs) hz ra
        obtain ⟨m2, q2, ys2, f1, f2, f3, f4, f5, r6⟩ := mlst_at J.sim (d := .ref k) (xs := us) hu ry
        cases e1
        have eH := J.h
        subst eH
        have x7 : Ext W W.ρ (upd W.H q (.lst (ys ++ ys2))) := ext_put (List.mem_of_getElem? e3)
        exact ⟨q, q2, ys, ys2, e2, by rw [f2], e5, f5, by rw [← r5.length, ← r6.length]; exact c, p W.ρ _ .non x7 (J.sim.put e3 ⟨_, upd_same, RVs.mono x7 (r5.append r6)⟩) .non⟩
      · exact p.elim
    · exact p.elim
  · exact p.elim

/-! ### f-strings -/
def opFmt : Op1 := fun a st => match a with
  | .str y => if y.length ≤ sizeLine then some (.str y, st) else none
  | .int i => if i.natAbs.log2 < 1920 then some (.str (toString i), st) else none
  | _ => none
theorem e_fmt (he : PE X e (TI F i)) : PE X (.FormattedValue e (-1) none pos) (TI F (iUn opFmt i)) := PE.imp (pe_fmt he) fun σ H Q h => (TX.bind (k := fun a env s1 => ofO (opFmt a s1)) h).mono fun x H1 ⟨W, st, env, a, A, r, p⟩ => by
  replace p := PostO.of p
  unfold opFmt at p
  split at p
  · split at p
    · cases r; exact .inl ⟨_, rfl, by assumption, A.in_.now p (.str _)⟩
    · exact p.elim
  · split at p
    · cases r; exact .inr ⟨_, rfl, by assumption, A.in_.now p (.str _)⟩
    · exact p.elim
  · exact p.elim
theorem e_joined1 (he : PE X e (TI F i)) : PE X (.JoinedStr [e] pos) (TI F i) := pe_joined1 he
def kJs (acc : Str) (k : Str → Env → Sto → R D) (d : D) (env : Env) (s : Sto) : R D := match d with
  | .str y => if (acc ++ y).length ≤ sizeLine then k (acc ++ y) env s else .bad
  | _ => .bad
def iJs : List IE → Str → Env → Sto → R D
  | [], acc => fun _ st => .ok (.str acc) st
  | i :: is, acc => fun env st => (i env st).bind fun d s => kJs acc (iJs is) d env s
inductive PJs (X : Cx) (F : Fx) : List Expr → List IE → Prop where
  | nil : PJs X F [] []
  | cons {e : Expr} {i : IE} {es : List Expr} {is : List IE} (h : PE X e (TI F i)) (r : PJs X F es is) : PJs X F (e :: es) (i :: is)
theorem PJs.pj {es : List Expr} {is : List IE} (h : PJs X F es is) : PJ X es (is.map (TI F)) := by
  induction h with
  | nil => exact .nil
  | cons h _ ih => exact .cons h ih
theorem js_red {σ : L2.St} {Q : VK} : ∀ (is : List IE) (acc : Str) (H : Hp), TI F (iJs is acc) σ H Q → tJs (is.map (TI F)) acc σ H fun out H1 => Q (.str out) H1
  | [], acc, H, ⟨W, st, env, A, p⟩ => by
    have q := p W.ρ W.H (.str acc) Ext.refl A.sim (.str _)
    rw [A.h] at q
    exact q
  | i :: is, acc, H, h => (TX.bind (k := fun d env s => kJs acc (iJs is) d env s) h).mono fun x H1 ⟨W, st, env, a, A, r, p⟩ => by
    have p' : PostE W (kJs acc (iJs is) a env st) Q (F.at_ σ) := p
    unfold kJs at p'
    split at p'
    · split at p'
      · rename_i c
        cases r
        exact ⟨_, rfl, c, js_red is _ H1 ⟨W, st, env, A, p'⟩⟩
      · exact p'.elim
    · exact p'.elim
theorem e_joined {v1 v2 : Expr} {rest : List Expr} {is : List IE} (h : PJs X F (v1 :: v2 :: rest) is) : PE X (.JoinedStr (v1 :: v2 :: rest) pos) (TI F (iJs is Str.empty)) := PE.imp (pe_joined h.pj) fun σ H Q h => js_red is _ H h
end
end M
/-! M19: in, starred parts, str and repr by own methods, isinstance of instances, defs as values, divmod, sorted. -/
namespace M
open PySem PySem.Spec PyProof.Rows L2

/-! ### in -/
def flatD : D → Bool
  | .non => true
  | .bl _ => true
  | .int _ => true
  | .str _ => true
  | _ => false
def eqD : D → D → Bool
  | .non, .non => true
  | .bl a, .bl b => a == b
  | .bl a, .int b => (if a then 1 else 0) == b
  | .int a, .bl b => a == (if b then 1 else 0)
  | .int a, .int b => a == b
  | .str a, .str b => a == b
  | _, _ => false
def inD (x : D) (xs : List D) : Bool := xs.any fun y => eqD y x
section
variable {X : Cx} {F : Fx} {W : Vw} {st : Sto} {pos apos p : Pos} {o e : Expr} {es : List Expr} {i : IE} {j : IA}
theorem flat_rv {d : D} {v : V} (h : flatD d = true) (r : RV W d v) : flatV v = true := by cases r <;> first | rfl | cases h
theorem eq_rv {a b : D} {x y : V} (ha : flatD a = true) (hb : flatD b = true) (ra : RV W a x) (rb : RV W b y) : eqV x y = eqD a b := by
  cases ra <;> cases ha <;> cases rb <;> cases hb <;> rfl
theorem flats_rv : ∀ {xs : List D} {ys : List V}, xs.all flatD = true → RVs W xs ys → ys.all flatV = true
  | _, _, _, .nil => rfl
  | x :: xs, _, h, .cons r rs => by
    obtain ⟨h1, h2⟩ := Bool.and_eq_true_iff.mp (show (flatD x && xs.all flatD) = true from h)
    show (_ && _) = true
    rw [flat_rv h1 r, flats_rv h2 rs]; rfl
theorem in_rv {a : D} {x : V} (ha : flatD a = true) (ra : RV W a x) : ∀ {xs : List D} {ys : List V}, xs.all flatD = true → RVs W xs ys → inV x ys = inD a xs
  | _, _, _, .nil => rfl
  | y :: xs, _, h, .cons r rs => by
    obtain ⟨h1, h2⟩ := Bool.and_eq_true_iff.mp (show (flatD y && xs.all flatD) = true from h)
    have ih := in_rv ha ra h2 rs
    unfold inV inD at ih ⊢
    rw [List.any_cons, List.any_cons, ih, eq_rv h1 ha r ra]
def opIn (neg : Bool) : Op2 := fun a b st => match a, b with
  | .str x, .str y => some (.bl (if neg then !(!(Builtin.Str.occurrences y x 0 y.length 1).isEmpty) else !(Builtin.Str.occurrences y x 0 y.length 1).isEmpty), st)
  | a, b => match aseq st b with
    | some xs => if flatD a = true ∧ xs.all flatD = true then some (.bl (if neg then !inD a xs else inD a xs), st) else none
    | none => none
theorem in_red (hk : X.K = F.K) {neg : Bool} {x y : V} {H : Hp} {Q : VK} (h : r2 F (opIn neg) x y H Q) : rIn X.K neg x y H Q ∨ ∃ i j, x = .str i ∧ y = .str j ∧ Q (.bl (if neg then !(!(Builtin.Str.occurrences j i 0 j.length 1).isEmpty) else !(Builtin.Str.occurrences j i 0 j.length 1).isEmpty)) H := by
  obtain ⟨W, st, a, b, I, ra, rb, p⟩ := h
  unfold opIn at p
  split at p
  · cases ra; cases rb
    exact .inr ⟨_, _, rfl, rfl, I.now p (.bl _)⟩
  · split at p
    · rename_i xs hx
      split at p
      · rename_i c
        obtain ⟨q, ys, rfl, hs, ry⟩ := aseq_at I.sim hx rb
        have z := I.now p (.bl _)
        rw [← in_rv c.1 ra c.2 ry] at z
        rw [I.k, ← hk, I.h] at hs
        exact .inl ⟨q, ys, rfl, hs, flat_rv c.1 ra, flats_rv c.2 ry, z⟩
      · exact p.elim
    · exact p.elim
theorem or_in (hk : X.K = F.K) : OpR X (compareOp .In) (r2 F (opIn false)) := OpR.imp (OpR.or op_in_seq op_in_str) fun x y H Q h => in_red hk h
theorem or_notin (hk : X.K = F.K) : OpR X (compareOp .NotIn) (r2 F (opIn true)) := OpR.imp (OpR.or op_notIn_seq op_notIn_str) fun x y H Q h => in_red hk h

/-! ### *xs in a display or a call -/
def kStar (a : D) (s : Sto) (r : List D) : R (List D) := match aseq s a with
  | some xs => .ok (xs ++ r) s
  | none => .bad
/-- the starred list is read before the rest is asked -/
def aStar (i : IE) (j : IA) : IA := fun env st => (i env st).bind fun a s => match aseq s a with
  | some xs => (j env s).bind fun r s2 => .ok (xs ++ r) s2
  | none => .bad
theorem a_star {sp : Pos} (hk : X.K = F.K) (he : PE X e (TI F i)) (hr : PA X es (TA_ F j)) (hs : starEach (.Starred e sp :: es) X.env = (true, eval e X.env) :: starEach es X.env := by rfl) : PA X (.Starred e sp :: es) (TA_ F (aStar i j)) := PA.imp (StX.pa_star he hr hs) fun σ H Q h =>
  (TX.bind (k := fun a env s => match aseq s a with
    | some xs => (j env s).bind fun r s2 => .ok (xs ++ r) s2
    | none => .bad) h).mono fun x H1 ⟨W, st, env, a, A, r, p⟩ => by
    have p' : PostA W (match aseq st a with
      | some xs => (j env st).bind fun r s2 => .ok (xs ++ r) s2
      | none => .bad) Q (F.at_ σ) := p
    split at p'
    · rename_i xs hx
      obtain ⟨q, ys, rfl, hq, ry⟩ := aseq_at A.sim hx r
      have T : TK RVs RVs F (fun (zs : List D) env s => (j env s).bind fun r s2 => R.ok (zs ++ r) s2) ys σ H1 Q := ⟨W, st, env, xs, A, ry, p'⟩
      rw [A.k, ← hk, A.h] at hq
      refine ⟨q, ys, rfl, hq.symm, (TK.bind (i := j) (P' := RVs) (k := fun zs r env s2 => R.ok (zs ++ r) s2) (fun x r => RVs.mono x r) T).mono fun zs H2 ⟨W, st, env, a, b, A, ra, rb, p⟩ => ?_⟩
      have z := p W.ρ W.H (ys ++ zs) Ext.refl A.sim (ra.append rb)
      rw [A.h] at z
      exact z
    · exact p'.elim

/-! ### str(o), repr(o) -/
variable {k : Nat} {C : Str} {fS : Addr} {fd : FuncData} {ps : List Str} {fn : Fn}
def strR : Option (D × Sto) → Option (D × Sto)
  | some (.str z, s) => some (.str z, s)
  | _ => none
theorem own1_call {A' : Around} {pins : List (Addr × Obj)} {σ : L2.St} {H : Hp} {s : Shared} {Q : VK} {a : D} {x : V} {v : Value} (J : In F W st H) (I : Inv X pins σ H s) (G : FnG X.prog X.w X.K X.mg X.base k fS fd ps (SPx F.K F.g fn)) (hr : Room k A') (hgd : A'.guards = some []) (he : Env0 X.prog X.w X.K X.mg X.base A' X.stack s H) (hb : Binds X.K fd ps [])
    (ra : RV W a x) (rx : RelV x v) (p : PostO W (strR (optR (fn [a] st))) Q) : wpAny (model X.prog X.w) A' (call (.ref fS) [v]) (PySem.W.StrBack (EP X pins σ Q)) X.xe s := by
  have p2 : PostE W (fn [a] st) (fun z H' => (∃ y, z = .str y) ∧ Q z H') (fun _ _ _ => False) := by
    cases q : fn [a] st with
    | ok d s2 =>
      rw [q] at p
      cases d with
      | str y =>
        intro ρ' H' b x S r
        cases r
        exact ⟨⟨_, rfl⟩, p ρ' H' _ x S (.str _)⟩
      | _ => exact p.elim
    | exc D fs s2 => rw [q] at p; exact p.elim
    | bad => rw [q] at p; exact p.elim
  have sp : SPx F.K F.g fn [x] H _ (fun _ _ _ => False) := ⟨W, st, [a], J.k, J.g, J.h, J.sim, .cons ra .nil, p2⟩
  have r2 : Vals [x] [v] := .cons rx .nil
  have hl := G.len _ _ _ _ sp
  refine wpAny_call (codeAny_mono (G.run A' X.stack s H ⟨[v], []⟩ [v] [x] _ (fun _ _ _ => False) hr hgd he (by simpa using hb s [v] I.kIn (by simpa using hl)) r2 sp) fun r s' hq => ?_)
  cases r with
  | error er =>
    obtain ⟨_, _, _, _, _, _, _, _, _, _, _, _, z⟩ := hq
    exact z.elim
  | ok fl =>
    cases fl with
    | ret u =>
      obtain ⟨z, H', I', rz, ⟨y, rfl⟩, q⟩ := I.after hq
      obtain ⟨t, rfl⟩ := rz
      exact ⟨.str y, H', I', ⟨t, rfl⟩, q⟩
    | next => exact False.elim hq
    | brk => exact False.elim hq
    | cont => exact False.elim hq
def opStrI (C : Str) (fn : Fn) : OpN := fun ds st => match ds with
  | [.str a] => some (.str a, st)
  | [.int i] => opStr [.int i] st
  | [d] => match insD st d with
    | some (C', _) => if C' = C then strR (optR (fn [d] st)) else none
    | none => none
  | _ => none
theorem cr_strI (hk : X.K = F.K) (hs : PySem.W.findIn F.K (.ref (F.g C)) "__str__" = some (some (.ref fS))) (hf : PySem.W.isFn F.K (.ref fS) = true) (G : FnG X.prog X.w X.K X.mg X.base k fS fd ps (SPx F.K F.g fn)) (hr : Room (k + 2) X.A) (hgd : X.A.guards = some []) (hb : Binds X.K fd ps []) : CallR X (.type "str") (rN F (opStrI C fn)) := fun pins s σ H xs us Q I r ⟨W, st, ds, J, rd, p⟩ => by
  unfold opStrI at p
  split at p
  · obtain ⟨v, rfl, rv⟩ := rv1 rd
    cases rv
    obtain ⟨u, rfl, t, rfl⟩ := vals1 r
    exact PySem.P.str_of_str ⟨.str _, H, I, ⟨t, rfl⟩, J.now p (.str _)⟩
  · exact cr_str pins s σ H xs us Q I r ⟨W, st, _, J, rd, p⟩
  · rename_i d _ _
    obtain ⟨v, rfl, rv⟩ := rv1 rd
    obtain ⟨u, rfl, ru⟩ := vals1 r
    split at p
    · rename_i C' fs hd
      split at p
      · rename_i hC
        subst hC
        obtain ⟨q, dx, gs, rfl, ea, _⟩ := insD_at J.sim hd rv
        cases ru
        rw [J.g, J.h] at ea
        obtain ⟨mA, O, _⟩ := ins_get I.hok ea
        obtain ⟨od, JI, _⟩ := O.look
        rw [← hk] at hs hf
        have un := hr.units0
        refine PySem.W.kso_call (by have := hr.un; show X.A.units + 1 + 1 < cLine; omega) I.kIn JI hs hf (own1_call (A' := X.A.in1.in1) J I G (hr.in1.in1) hgd I.env0.in1.in1 hb rv rfl p)
      · exact p.elim
    · exact p.elim
  · exact p.elim
def opReprI (C : Str) (fn : Fn) : OpN := fun ds st => match ds with
  | [d] => match insD st d with
    | some (C', _) => if C' = C then strR (optR (fn [d] st)) else none
    | none => opRepr [d] st
  | _ => none
theorem cr_reprI (hk : X.K = F.K) (hu : X.A.units + (64 + 1) < cLine) (hs : PySem.W.findIn F.K (.ref (F.g C)) "__repr__" = some (some (.ref fS))) (hf : PySem.W.isFn F.K (.ref fS) = true) (G : FnG X.prog X.w X.K X.mg X.base k fS fd ps (SPx F.K F.g fn)) (hr : Room (k + 1) X.A) (hgd : X.A.guards = some []) (hb : Binds X.K fd ps []) : CallR X (.builtin "repr") (rN F (opReprI C fn)) := fun pins s σ H xs us Q I r ⟨W, st, ds, J, rd, p⟩ => by
  unfold opReprI at p
  split at p
  · rename_i d
    have rd0 := rd
    obtain ⟨v, rfl, rv⟩ := rv1 rd
    have r0 := r
    obtain ⟨u, rfl, ru⟩ := vals1 r
    split at p
    · rename_i C' fs hd
      split at p
      · rename_i hC
        subst hC
        obtain ⟨q, dx, gs, rfl, ea, _⟩ := insD_at J.sim hd rv
        cases ru
        rw [J.g, J.h] at ea
        obtain ⟨mA, O, _⟩ := ins_get I.hok ea
        obtain ⟨od, JI, _⟩ := O.look
        rw [← hk] at hs hf
        obtain ⟨m, hF⟩ := I.fr
        exact PySem.W.repr_K (by show X.A.units + 1 < cLine; omega) hF I.ok.mod.kin JI hs hf (own1_call (A' := X.A.in1) J I G hr.in1 hgd I.env0.in1 hb rv rfl p)
      · exact p.elim
    · exact cr_repr hk hgd hu pins s σ H _ _ Q I r0 ⟨W, st, [d], J, rd0, p⟩
  · exact p.elim
end
end M
/-! M20: defs as values, isinstance of instances, divmod, sorted, max. -/
namespace M
open PySem PySem.Spec PyProof.Rows L2

section
variable {X : Cx} {F : Fx} {W : Vw} {st : Sto} {pos apos p : Pos} {o e fe : Expr} {es : List Expr} {i : IE} {j : IA} {k : Nat} {fs : List (Str × Fn)}
/-! ### a value that is a def is called -/
structure HeldG (X : Cx) (F : Fx) (k : Nat) (fs : List (Str × Fn)) : Prop where
  ex : ∀ q ∈ fs, ∃ (fd : FuncData) (ps : List Str), FnG X.prog X.w X.K X.mg X.base k (F.g q.1) fd ps (SPx F.K F.g q.2) ∧ PySem.W.keepIn X.K (.ref (F.g q.1)) = true ∧ Binds X.K fd ps []
def kCallV (fs : List (Str × Fn)) (d : D) (j : IA) (env : Env) (s : Sto) : R D := match d with
  | .glo x => match fs.lookup x with
    | some f => (j env s).bind fun ds s2 => f ds s2
    | none => .bad
  | _ => .bad
def iCallV (fs : List (Str × Fn)) (i : IE) (j : IA) : IE := fun env st => (i env st).bind fun d s => kCallV fs d j env s
theorem mem_lookup {x : Str} {f : Fn} : ∀ {fs : List (Str × Fn)}, fs.lookup x = some f → (x, f) ∈ fs
  | (y, g) :: fs, h => by
    simp only [List.lookup] at h
    split at h
    · rename_i q
      cases h
      rw [beq_iff_eq.mp q]
      exact .head _
    · exact .tail _ (mem_lookup h)
theorem callV_core (T : HeldG X F k fs) (hr : Room k X.A) (hgd : X.A.guards = some []) (tk : Takes X F.E) (hf : PE X fe (TI F i)) (ha : PA X (e :: es) (TA_ F j)) (he : starEach (e :: es) X.env = (false, eval e X.env) :: starEach es X.env) (hpl : (backTo pos (starEach es X.env)).any (·.1) = false)
    {pins : List (Addr × Obj)} {s : Shared} {σ : L2.St} {H : Hp} {Q : VK} (I : Inv X pins σ H s) (h : TI F (iCallV fs i j) σ H Q) :
    wpAny (model X.prog X.w) X.A (eval fe X.env) (fun f s₁ => wpAny (model X.prog X.w) X.A (callWith pos f [] (backTo pos (starEach (e :: es) X.env)) (backToKw pos (keywordEach [] X.env))) (EP X pins σ Q) X.xe s₁) X.xe s := by
  refine thn (hf.run pins s σ H _ I (TX.bind (k := fun d env s => kCallV fs d j env s) h)) fun u s1 ⟨v, H1, I1, ru, W, st, env, d, A, rd, p⟩ => ?_
  have p' : PostE W (kCallV fs d j env st) Q (F.at_ σ) := p
  unfold kCallV at p'
  split at p'
  · rename_i x
    split at p'
    · rename_i f hl
      cases rd
      cases ru
      rw [A.g]
      obtain ⟨fd, ps, G, hk, hb⟩ := T.ex _ (mem_lookup hl)
      have T2 : TI F (fun env s => (j env s).bind fun ds s2 => f ds s2) σ H1 Q := ⟨W, st, env, A, p'⟩
      have T3 : TA_ F j σ H1 fun b H' => TK RVs RV F (fun ds env s => f ds s) b σ H' Q := TX.bind (k := fun ds env s => f ds s) (σ := σ) (H := H1) (Q := Q) (i := j) (P := RVs) (P' := RV) T2
      refine PySem.W.callWith_K (h₀ := X.base) I1.ok.mod.kin hk (thn (ha.run pos pins s1 σ H1 _ I1 T3) fun us s2 ⟨vs, H2, I2, r, W, st, env, ds, A, rd, p⟩ => ⟨I2.kIn, ?_⟩) he hpl
      have sp : SPx F.K F.g f (vs ++ []) H2 Q (F.at_ σ) := ⟨W, st, ds, A.k, A.g, A.h, A.sim, by rw [List.append_nil]; exact rd, p⟩
      exact run_g G hr hgd hb .nil tk I2 r sp
    · exact p'.elim
  · exact p'.elim
theorem e_callN {x : Str} (T : HeldG X F k fs) (hr : Room k X.A) (hgd : X.A.guards = some []) (tk : Takes X F.E) (hf : PE X (.Name x p) (TI F i)) (ha : PA X (e :: es) (TA_ F j)) (he : starEach (e :: es) X.env = (false, eval e X.env) :: starEach es X.env := by rfl) (hpl : (backTo pos (starEach es X.env)).any (·.1) = false := by rfl) :
    PE X (.Call (.Name x p) (e :: es) [] pos) (TI F (iCallV fs i j)) := ⟨fun pins s σ H Q I h => wpAny_Call_Name_kw (callV_core T hr hgd tk hf ha he hpl I h)⟩
theorem e_callS {a b : Expr} {sp : Pos} (T : HeldG X F k fs) (hr : Room k X.A) (hgd : X.A.guards = some []) (tk : Takes X F.E) (hf : PE X (.Subscript a b sp) (TI F i)) (ha : PA X (e :: es) (TA_ F j)) (he : starEach (e :: es) X.env = (false, eval e X.env) :: starEach es X.env := by rfl) (hpl : (backTo pos (starEach es X.env)).any (·.1) = false := by rfl)
    (ht : eval (.Call (.Subscript a b sp) (e :: es) [] pos) X.env = (do let f ← eval (.Subscript a b sp) X.env; callWith pos f [] (backTo pos (starEach (e :: es) X.env)) (backToKw pos (keywordEach [] X.env))) := by rfl) :
    PE X (.Call (.Subscript a b sp) (e :: es) [] pos) (TI F (iCallV fs i j)) := ⟨fun pins s σ H Q I h => by rw [ht]; exact wpAny_bind (callV_core T hr hgd tk hf ha he hpl I h)⟩

/-! ### isinstance, instances too -/
structure InsF (K : PySem.W.Frag) (C : Addr) : Prop where
  cl : Cls K C
  ca : PySem.W.findIn K (.ref C) "__class__" = some (some (.builtin "object.__class__"))
  sp : PySem.W.specialIn K (.builtin "object.__class__") "__get__" = some (some (.builtin "getset_descriptor.__get__"))
  tk : PySem.W.takesIn K (.builtin "object.__class__") = some true
  mr : PySem.W.mroIn K C (.type "object") = some true
def opIsiI (cs : List Str) (xs : List Str) (tb : Tg → Tg → Option Bool) : OpN := fun ds st => match ds with
  | [d, c] => match insD st d with
    | some (C, _) => if C ∈ cs then (match clsD c with
      | some u => (tb (.own C) u).map fun b => (.bl b, st)
      | none => none) else none
    | none => opIsi xs tb [d, c] st
  | _ => none
theorem cr_isiI {cs xs : List Str} {tb : Tg → Tg → Option Bool} (hk : X.K = F.K) (T : Isa F.K F.g xs tb) (TC : ∀ C ∈ cs, InsF F.K (F.g C)) : CallR X (.builtin "isinstance") (rN F (opIsiI cs xs tb)) := fun pins s σ H vs us Q I r ⟨W, st, ds, J, rd, p⟩ => by
  unfold opIsiI at p
  split at p
  · rename_i d c
    split at p
    · rename_i C fs hd
      split at p
      · rename_i hC
        split at p
        · rename_i u hu
          cases e : tb (.own C) u with
          | none => rw [e] at p; exact p.elim
          | some b =>
            rw [e] at p
            obtain ⟨v1, v2, rfl, rv1, rv2⟩ := rv2 rd
            obtain ⟨u1, u2, rfl, ru1, ru2⟩ := vals2 r
            have e2 := clsD_val hu rv2 J.g ru2
            subst e2
            have q := J.now p (.bl b)
            have kk := T.tb _ _ _ e
            obtain ⟨a, dx, gs, rfl, ea, _⟩ := insD_at J.sim hd rv1
            rw [J.g, J.h] at ea
            have Z := TC C hC
            rw [← hk] at Z kk
            exact isinst_ok I ru1 (.ins ea Z.cl Z.ca Z.sp Z.tk Z.mr) kk fun tk => ⟨.bl b, H, I.tok tk, rfl, q⟩
        · exact p.elim
      · exact p.elim
    · exact cr_isi hk T pins s σ H vs us Q I r ⟨W, st, _, J, rd, p⟩
  · exact p.elim

/-! ### divmod -/
def opDivmod : OpN := fun ds st => match ds with
  | [.int i, .int j] => if 0 < j ∧ j < 1073741824 then some (.tup [.int (i / j), .int (i % j)], st) else none
  | _ => none
theorem cr_divmod : CallR X (.builtin "divmod") (rN F opDivmod) := CallR.imp call_divmod fun xs H Q ⟨W, st, ds, I, r, p⟩ => by
  unfold opDivmod at p
  split at p
  · split at p
    · rename_i c
      obtain ⟨v, u, rfl, rv, ru⟩ := rv2 r
      cases rv
      cases ru
      have eH := I.h
      subst eH
      exact ⟨_, _, rfl, c, fun q hq => p.tuple I.sim (.cons (.int _) (.cons (.int _) .nil)) hq⟩
    · exact p.elim
  · exact p.elim
end
end M
/-! M21: max, sorted texts. -/
namespace M
open PySem PySem.Spec PyProof.Rows L2

def asI : D → Option Int
  | .int i => some i
  | _ => none
section
variable {X : Cx} {F : Fx} {W : Vw} {st : Sto}
theorem asI_rv : ∀ {xs : List D} {ss : List Int} {ys : List V}, allP asI xs = some ss → RVs W xs ys → ys = ss.map V.int
  | [], _, _, h, .nil => by cases h; rfl
  | x :: xs, _, _, h, .cons r rs => by
    obtain ⟨p, q, e1, e2, rfl⟩ := allP_cons h
    rw [asI_rv e2 rs]
    cases r <;> cases e1
    rfl
theorem alike_ints (ns : List Int) : PySem.W.AlikeAll (ns.map PyData.int) := ⟨fun x hx y hy => by
  obtain ⟨i, _, rfl⟩ := List.mem_map.mp hx
  obtain ⟨j, _, rfl⟩ := List.mem_map.mp hy
  rfl, fun x hx => by
  obtain ⟨i, _, rfl⟩ := List.mem_map.mp hx
  exact fun z => nomatch z⟩
theorem depth_ints : ∀ ns : List Int, PyData.depthAll (ns.map PyData.int) = 0
  | [] => rfl
  | _ :: ns => by
    have ih := depth_ints ns
    show Nat.max (PyData.depth _) (PyData.depthAll _) = 0
    rw [ih]; rfl
/-- max(i, j), max(i, j, k), max(xs) -/
def opMaxG : OpN := fun ds st => match ds with
  | [.int i, .int j] => some (.int (if j > i then j else i), st)
  | [.int i, .int j, .int k] => some (.int (if (if i < j then j else i) < k then k else if i < j then j else i), st)
  | [d] => match aseq st d with
    | some xs => match allP asI xs with
      | some (n :: ns) => some (.int (ns.foldl max n), st)
      | _ => none
    | none => none
  | _ => none
theorem cr_maxG (hk : X.K = F.K) (hc : X.calm = true) (hu : X.A.units + 64 < cLine) : CallR X (.builtin "max") (rN F opMaxG) := fun pins s σ H vs us Q I r ⟨W, st, ds, J, rd, p⟩ => by
  unfold opMaxG at p
  split at p
  · obtain ⟨v, u, rfl, rv, ru⟩ := rv2 rd
    cases rv
    cases ru
    exact call_max2 hc pins s σ H _ us Q I r ⟨_, _, rfl, J.now p (.int _)⟩
  · rename_i i j k
    obtain ⟨v, u, w, rfl, rv, ru, rw_⟩ := rv3 rd
    cases rv
    cases ru
    cases rw_
    refine call_max3Nu hc pins s σ H _ us Q I r ⟨_, _, _, V.int (if (if i < j then j else i) < k then k else if i < j then j else i), rfl, ?_, J.now p (.int _)⟩
    by_cases h1 : i < j <;> by_cases h2 : j < k <;> by_cases h3 : i < k <;> simp [nuMax3, nuMax2, nuLt, nuCB, h1, h2, h3]
  · rename_i d _ _
    obtain ⟨v, rfl, rv⟩ := rv1 rd
    split at p
    · rename_i xs hx
      split at p
      · rename_i n ns hn
        obtain ⟨q, ys, rfl, hs, ry⟩ := aseq_at J.sim hx rv
        rw [J.k, ← hk, J.h, asI_rv hn ry] at hs
        obtain ⟨u, rfl, ru⟩ := vals1 r
        cases ru
        have z := J.now p (.int _)
        have key : ∀ {its : List Value}, Vals ((n :: ns).map V.int) its → ReadsAll s.heap its.toArray.toList ((n :: ns).map PyData.int) [] := fun rv => by
          have e := ints_readAll s.heap rv.ints
          simpa using e
        have fin : ∀ (i : Nat) (v : Value) (h' : Heap) (tk : Nat) (bs : List Addr), Reads h' v (PySem.W.maxD (.int n) (ns.map PyData.int)) bs → (∀ b o, s.heap.get? b = some o → h'.get? b = some o) → EP X pins σ Q v { s with heap := h', toks := tk } := fun i v h' tk bs hr hk' => by
          rw [PySem.W.maxD_ints] at hr
          cases hr
          exact ⟨.int _, H, I.kept hk', ⟨_, rfl⟩, z⟩
        have hd : X.A.units + 1 + PyData.depthAll (PyData.int n :: ns.map PyData.int) < cLine := by
          have e := depth_ints (n :: ns)
          rw [List.map_cons] at e
          rw [e]; omega
        rcases hs with hs | hs
        · obtain ⟨its, rv, pl, _⟩ := I.list hs
          exact PySem.W.max_list_data (I.ok.hd hc) pl.isList (key rv) (alike_ints (n :: ns)) hd fun i v h' tk bs _ hr hk' => fin i v h' tk bs hr hk'
        · obtain ⟨its, rv, pl, _⟩ := I.tuple hs
          exact PySem.W.max_tuple_data (I.ok.hd hc) pl (key rv) (alike_ints (n :: ns)) hd fun i v h' tk bs _ hr hk' => fin i v h' tk bs hr hk'
      · exact p.elim
    · exact p.elim
  · exact p.elim
end
end M
/-! M22: sorted texts. -/
namespace M
open PySem PySem.Spec PyProof.Rows L2

def leS (a b : Str) : Bool := !ltCps b.cps.toList a.cps.toList
theorem leS_iff {a b : Str} : leS a b = true ↔ a.cps.toList ≤ b.cps.toList := by
  unfold leS
  rw [ltCps_eq, Bool.not_eq_true', decide_eq_false_iff_not]
  exact Iff.rfl
theorem leS_trans (a b c : Str) (h1 : leS a b = true) (h2 : leS b c = true) : leS a c = true := leS_iff.mpr (List.le_trans (leS_iff.mp h1) (leS_iff.mp h2))
theorem leS_total (a b : Str) : (leS a b || leS b a) = true := by
  rcases List.le_total a.cps.toList b.cps.toList with h | h
  · rw [leS_iff.mpr h]; rfl
  · rw [leS_iff.mpr h, Bool.or_true]
theorem leS_anti {a b : Str} (h1 : leS a b = true) (h2 : leS b a = true) : a = b := by
  have e := List.le_antisymm (leS_iff.mp h1) (leS_iff.mp h2)
  obtain ⟨x⟩ := a
  obtain ⟨y⟩ := b
  have e2 : x = y := Array.toList_inj.mp e
  rw [e2]
def sortT (l : List Str) : List Str := l.mergeSort leS
theorem sorted_pair : ∀ {l : List Str} {p : Str}, risingS p l = true → (p :: l).Pairwise fun a b => leS a b = true
  | [], p, _ => List.pairwise_singleton _ _
  | x :: l, p, h => by
    obtain ⟨h1, h2⟩ := Bool.and_eq_true_iff.mp (show (!ltCps x.cps.toList p.cps.toList && risingS x l) = true from h)
    have ih := sorted_pair h2
    refine List.Pairwise.cons (fun y hy => ?_) ih
    rcases List.mem_cons.mp hy with rfl | hy
    · exact h1
    · exact leS_trans _ _ _ h1 (List.rel_of_pairwise_cons ih hy)
theorem sorted_is {ys xs : List Str} (p : ys.Perm xs) (h : sortedS ys = true) : ys = sortT xs := by
  have h1 : ys.Pairwise fun a b => leS a b = true := by
    cases ys with
    | nil => exact .nil
    | cons y l => exact sorted_pair h
  exact List.Perm.eq_of_pairwise (fun a b _ _ x y => leS_anti x y) h1 (List.pairwise_mergeSort leS_trans leS_total xs) (p.trans (List.mergeSort_perm xs leS).symm)
section
variable {X : Cx} {F : Fx} {W : Vw} {st : Sto}
def opSortS : OpN := fun ds st => match ds with
  | [d] => match alst st d with
    | some xs => match allP asS xs with
      | some ss => if ss.length < 64 then some (.lst ((sortT ss).map .str), st) else none
      | none => none
    | none => none
  | _ => none
theorem cr_sortS (hk : X.K = F.K) : CallR X (.builtin "sorted") (rN F opSortS) := CallR.imp cr_sortedS fun xs H Q ⟨W, st, ds, I, r, p⟩ => by
  unfold opSortS at p
  split at p
  · rename_i d
    obtain ⟨v, rfl, rv⟩ := rv1 r
    split at p
    · rename_i zs hz
      split at p
      · rename_i ss hs
        split at p
        · rename_i c
          obtain ⟨q, ys, rfl, hq, ry⟩ := alst_at I.sim hz rv
          have eH := I.h
          subst eH
          rw [I.k, ← hk, asS_rv hs ry] at hq
          refine ⟨q, ss, rfl, hq, c, fun us l pm so hl => ?_⟩
          have e := sorted_is pm so
          subst e
          exact p.listF I.sim (rvs_strs _) hl
        · exact p.elim
      · exact p.elim
    · exact p.elim
  · exact p.elim
end
end M
/-! M23: sets of texts: the set itself. -/
namespace M
open PySem PySem.Spec PyProof.Rows L2

def GoodS (w : World) (e : Int × Value) : Prop := ∃ x tk, e.2 = Value.str x tk ∧ e.1 = hashStr w x
def keyS (e : Int × Value) : Str := match e.2 with | .str x _ => x | _ => Str.empty
def insU (l : List Str) (x : Str) : List Str := if x ∈ l then l else l ++ [x]
def dedupS (l : List Str) : List Str := l.foldl insU []
/-- the set of the texts l (each once) at a; its table rises and can be walked -/
def SetS (w : World) (h : Heap) (a : Addr) (l : List Str) : Prop :=
  ∃ o es ep t, h.get? a = some o ∧ o.ExactSet ∧ o.data = .set es ep t ∧ (∀ e ∈ es.toList, GoodS w e) ∧ (es.toList.map keyS).Perm l ∧ l.Nodup ∧
    es.size < scanBound ∧ t.fits es.size = true ∧ Ris t.place.toList ∧ (w.params.followText "set-order" = true ∨ t.led = true)
section
variable {P : Program} {w : World} {h h' : Heap} {a : Addr} {l : List Str}
theorem SetS.at (R : SetS w h a l) (k : ∀ o, h.get? a = some o → h'.get? a = some o) : SetS w h' a l := by
  obtain ⟨o, es, ep, t, ho, r⟩ := R
  exact ⟨o, es, ep, t, k o ho, r⟩
theorem SetS.typeIs {s : Shared} (R : SetS w s.heap a l) : s.TypeIs (.ref a) "set" := by
  obtain ⟨o, es, ep, t, ho, hx, _⟩ := R
  exact ⟨o, ho, hx.1⟩
theorem goodS_elems {l : List (Int × Value)} (g : ∀ e ∈ l, GoodS w e) : ElemsOf (strKind P w) l := fun e he => by
  obtain ⟨x, tk, h1, h2⟩ := g e he
  exact ⟨⟨x, by rw [h1]; exact beq_self_eq_true x, h2⟩, by rw [h1] <;> rfl⟩
theorem goodS_is {e : Int × Value} (g : GoodS w e) (x : Str) : (strKind P w).is x e.2 = true ↔ keyS e = x := by
  obtain ⟨k0, tk, h1, _⟩ := g
  unfold keyS
  rw [h1]
  show ((k0 == x) = true) ↔ k0 = x
  exact beq_iff_eq
theorem nodup_insU {l : List Str} {x : Str} (n : l.Nodup) : (insU l x).Nodup := by
  unfold insU
  split
  · exact n
  · rename_i c
    exact (List.perm_append_singleton x l).nodup_iff.mpr (List.nodup_cons.mpr ⟨c, n⟩)
end
section
variable {P : Program} {w : World} {A : Around} {E : Value → Shared → Prop} {s : Shared} {a : Addr} {l : List Str}
theorem setS_tail {g : Bool → Sem Unit} (hg : ∀ (b : Bool) (s₁ : Shared) (Q' : Unit → Shared → Prop), Q' () s₁ → wpAny (model P w) A (g b) Q' E s₁)
    {o : Obj} {es : Array (Int × Value)} {ep : Nat} {t : SetTable} (ho : s.heap.get? a = some o) (hex : o.ExactSet) (hd : o.data = .set es ep t)
    {es1 : Array (Int × Value)} {t2 : SetTable} {l' : List Str} (g1 : ∀ e ∈ es1.toList, GoodS w e) (p1 : (es1.toList.map keyS).Perm l') (nd1 : l'.Nodup)
    (hb1 : es1.size < scanBound) (hf2 : t2.fits es1.size = true) (hr : Ris t2.place.toList) (hl : w.params.followText "set-order" = true ∨ t2.led = true) {wasDummy : Bool} {R : Option Bool → Shared → Prop}
    (hR : ∀ h', Heap.SameBut a s.heap h' → SetS w h' a l' → R (some true) { s with heap := h' }) :
    wpAny (model P w) A (do
        storeSet a es1 t2
        if (!wasDummy && t2.tooFull) = true then do
            g (relayAll t2 es1 (SetTable.grown es1.size)).2.2
            storeSet a (relayAll t2 es1 (SetTable.grown es1.size)).1 (relayAll t2 es1 (SetTable.grown es1.size)).2.1
            pure (some true)
          else pure (some true)) R E s := by
  refine wpAny_bind (wpAny_storeSet_of ho hd ?_ (fits_of_scanBound hb1))
  have ho1 := store_at (es' := es1) (t' := t2) ho hd
  have sb1 := Heap.SameBut.update s.heap a (Obj.putSet es1 t2)
  split
  · have pm := relayAll_perm t2 es1 (SetTable.grown es1.size)
    have hf3 := relayAll_fits t2 es1 (SetTable.grown es1.size)
    have hr3 := relayAll_ris t2 es1 (SetTable.grown es1.size)
    have hl3 := relayAll_led t2 es1 (SetTable.grown es1.size)
    generalize relayAll t2 es1 (SetTable.grown es1.size) = Z at pm hf3 hr3 hl3 ⊢
    obtain ⟨es2, t3, gave⟩ := Z
    dsimp only at pm hf3 hr3 hl3 ⊢
    have hsz : es2.size = es1.size := by rw [← Array.length_toList, pm.length_eq, Array.length_toList]
    have hb2 : es2.size < scanBound := by rw [hsz]; exact hb1
    refine wpAny_bind (hg _ _ _ ?_)
    refine wpAny_bind (wpAny_storeSet_of ho1 rfl ?_ (fits_of_scanBound hb2))
    have ho2 := store_at (es' := es2) (t' := t3) ho1 rfl
    refine wpAny_pure (hR _ (sb1.trans (Heap.SameBut.update _ a _)) ?_)
    exact ⟨_, es2, _, t3, ho2, hex, rfl, fun e he => g1 e (pm.mem_iff.mp he), (pm.map keyS).trans p1, nd1, hb2, hf3, hr3, hl.imp id fun z => by rw [hl3]; exact z⟩
  · exact wpAny_pure (hR _ sb1 ⟨_, es1, _, t2, ho1, hex, rfl, g1, p1, nd1, hb1, hf2, hr, hl⟩)
theorem setS_hashed {k : Str} {tk : Tok} {Q : Bool → Shared → Prop} (R : SetS w s.heap a l) (room : l.length + 1 < scanBound)
    (hQ : ∀ (b : Bool) h', Heap.SameBut a s.heap h' → SetS w h' a (insU l k) → Q b { s with heap := h' }) :
    wpAny (model P w) A (setAddHashed a (.str k tk) ((strKind P w).hash k)) Q E s := by
  obtain ⟨o, es, ep, t, ho, hex, hd, g, p, nd, hb, hf, hr, hl⟩ := R
  have hkey : (strKind P w).is k (.str k tk) = true := beq_self_eq_true k
  have hsc : (Value.str k tk).scannable = true := rfl
  have hel : ElemsOf (strKind P w) es.toList := goodS_elems g
  unfold setAddHashed setAddHashedIn
  refine wpAny_holding (wpAny_bind (wpAny_setState_of ho hd hf ?_))
  dsimp only
  rw [byScan_of hsc hb hel]
  simp only [↓reduceIte]
  unfold setAddByScan
  refine wpAny_bind ?_
  refine wpAny_bind (wpAny_rule ?_)
  refine wpAny_bind (wpAny_setScan_of hkey ho hd hf hel ?_)
  cases hfi : List.findIdx? (fun e => (strKind P w).is k e.2) es.toList with
  | some j =>
    dsimp only
    obtain ⟨hj, pj, _⟩ := List.findIdx?_eq_some_iff_getElem.mp hfi
    have hk : k ∈ l := p.mem_iff.mp (List.mem_map.mpr ⟨es.toList[j], List.getElem_mem hj, (goodS_is (g _ (List.getElem_mem hj)) k).mp pj⟩)
    have eu : insU l k = l := by unfold insU; rw [if_pos hk]
    refine wpAny_pure (wpAny_pure ?_)
    exact hQ _ s.heap (Heap.SameBut.refl a s.heap) (by rw [eu]; exact ⟨o, es, ep, t, ho, hex, hd, g, p, nd, hb, hf, hr, hl⟩)
  | none =>
    dsimp only
    have hnk : k ∉ l := fun z => by
      obtain ⟨e, he, q⟩ := List.mem_map.mp (p.mem_iff.mpr z)
      have c := List.findIdx?_eq_none_iff.mp hfi e he
      rw [(goodS_is (g e he) k).mpr q] at c
      cases c
    have eu : insU l k = l ++ [k] := by unfold insU; rw [if_neg hnk]
    have hgw : ∀ (b : Bool) {s₁ : Shared} {Q' : Unit → Shared → Prop}, Q' () s₁ → wpAny (model P w) A (match b with | true => rule "set.scan.the-table-gave-way" | false => pure ()) Q' E s₁ :=
      fun b s₁ Q' q => by cases b <;> first | exact wpAny_pure q | exact wpAny_rule q
    have pm := layNew_perm t es ((strKind P w).hash k) (.str k tk)
    have hf1 := layNew_fits t es ((strKind P w).hash k) (.str k tk)
    have hr1 := layNew_ris t es ((strKind P w).hash k) (.str k tk) hr
    have hl1 := layNew_led t es ((strKind P w).hash k) (.str k tk)
    generalize layNew t es ((strKind P w).hash k) (.str k tk) = Z at pm hf1 hr1 hl1 ⊢
    obtain ⟨es1, t1, wasDummy, gave⟩ := Z
    dsimp only at pm hf1 hr1 hl1 ⊢
    rw [Array.toList_push] at pm
    have pc : es1.toList.Perm (((strKind P w).hash k, Value.str k tk) :: es.toList) := pm.trans (List.perm_append_singleton _ _)
    have pk : (es1.toList.map keyS).Perm (l ++ [k]) := (pc.map keyS).trans ((List.Perm.cons k p).trans (List.perm_append_singleton k l).symm)
    have g1 : ∀ e ∈ es1.toList, GoodS w e := fun e he => by
      rcases List.mem_cons.mp (pc.mem_iff.mp he) with z | z
      · rw [z]; exact ⟨k, tk, rfl, rfl⟩
      · exact g e z
    have nd1 : (l ++ [k]).Nodup := (List.perm_append_singleton k l).nodup_iff.mpr (List.nodup_cons.mpr ⟨hnk, nd⟩)
    have hn : es.size = l.length := by rw [← p.length_eq, List.length_map, Array.length_toList]
    have hsz : es1.size = l.length + 1 := by rw [← Array.length_toList, pc.length_eq, List.length_cons, Array.length_toList, hn]
    have hb1 : es1.size < scanBound := by rw [hsz]; exact room
    have hled : w.params.followText "set-order" = true ∨ t1.led = true := hl.imp id fun z => by rw [hl1]; exact z
    have fin : ∀ h', Heap.SameBut a s.heap h' → SetS w h' a (l ++ [k]) → Q true { s with heap := h' } := fun h' sb r => hQ true h' sb (by rw [eu]; exact r)
    refine wpAny_bind (hgw _ ?_)
    split
    · refine wpAny_bind ?_
      rw [hashByValue_scannable 8 hsc]
      refine wpAny_pure ?_
      refine setS_tail ?_ ho hex hd g1 pk nd1 hb1 ?_ ?_ ?_ ?_
      · intro b s₁ Q' q; cases b <;> first | exact wpAny_pure q | exact wpAny_rule q
      · first | (split <;> first | exact hf1 | exact SetTable.fits_plain_off hf1) | exact hf1
      · first | (split <;> exact hr1) | exact hr1
      · first | (split <;> exact hled) | exact hled
      · intro h' sb r; dsimp only; exact wpAny_pure (fin h' sb r)
    · refine wpAny_bind (wpAny_pure ?_)
      simp only [↓reduceIte]
      refine setS_tail ?_ ho hex hd g1 pk nd1 hb1 hf1 hr1 hled ?_
      · intro b s₁ Q' q; cases b <;> first | exact wpAny_pure q | exact wpAny_rule q
      · intro h' sb r; dsimp only; exact wpAny_pure (fin h' sb r)
theorem setS_fresh {h : Heap} (w : World) : SetS w (h.push { cls := .type "set", dict := none, data := .set #[] 0 (.fresh 0 0 (!w.params.followText "set-order")) }) h.objs.size [] :=
  ⟨_, #[], 0, _, Heap.get?_push_size _ rfl, ⟨rfl, rfl, rfl⟩, rfl, (fun e he => by simp at he), .refl _, List.nodup_nil, (by decide), (by rfl), List.Pairwise.nil, by
    show _ ∨ (!w.params.followText "set-order") = true
    cases w.params.followText "set-order"
    · exact .inr rfl
    · exact .inl rfl⟩
theorem strsAre_keys : ∀ {l : List Value}, (∀ v ∈ l, ∃ x t, v = Value.str x t) → StrsAre l (l.map fun v => keyS (0, v))
  | [], _ => .nil
  | v :: l, h => by
    obtain ⟨x, t, rfl⟩ := h v List.mem_cons_self
    exact .cons x t (strsAre_keys fun u hu => h u (List.mem_cons_of_mem _ hu))
end
end M
/-! M24: set(xs) for a list of texts, sorted of a set of texts. -/
namespace M
open PySem PySem.Spec PyProof.Rows L2

def firstS (val : Nat → Str) (i : Nat) : List Str := dedupS ((List.range i).map val)
theorem firstS_succ (val : Nat → Str) (i : Nat) : firstS val (i + 1) = insU (firstS val i) (val i) := by
  unfold firstS dedupS
  rw [List.range_succ, List.map_append, List.foldl_append]
  rfl
theorem insU_len (l : List Str) (x : Str) : (insU l x).length ≤ l.length + 1 := by
  unfold insU
  split
  · exact Nat.le_succ _
  · rw [List.length_append]; exact Nat.le_refl _
theorem firstS_len (val : Nat → Str) : ∀ i, (firstS val i).length ≤ i
  | 0 => Nat.le_refl _
  | i + 1 => by
    rw [firstS_succ]
    have := firstS_len val i
    have := insU_len (firstS val i) (val i)
    omega
theorem map_getD (xs : List Str) : (List.range xs.length).map (fun i => xs.getD i Str.empty) = xs := by
  refine List.ext_getElem (by simp) fun i h1 h2 => ?_
  simp [List.getD_eq_getElem?_getD, List.getElem?_eq_getElem h2]
theorem firstS_all (xs : List Str) : firstS (fun i => xs.getD i Str.empty) xs.length = dedupS xs := by
  unfold firstS
  rw [map_getD]
theorem dedupS_len (xs : List Str) : (dedupS xs).length ≤ xs.length := by
  rw [← firstS_all]
  exact firstS_len _ _
theorem strs_nth : ∀ {us : List Value} {xs : List Str}, StrsAre us xs → ∀ (i : Nat) (v : Value), us[i]? = some v → ∃ t, v = .str (xs.getD i Str.empty) t
  | _, _, .nil, i, v, h => by simp at h
  | _, _, .cons x t r, 0, v, h => by simp at h; exact ⟨t, by rw [← h]; rfl⟩
  | _, _, .cons x t r, i + 1, v, h => by
    simp only [List.getElem?_cons_succ] at h
    obtain ⟨t', e⟩ := strs_nth r i v h
    exact ⟨t', by rw [e]; rfl⟩
section
variable {P : Program} {w : World} {A : Around} {R : Result → Shared → Prop} {I : Addr} {fp wr : List Addr} {G : Array GenState → Array GenState → Prop} {n : Nat} {Pv : Nat → Value → Prop} {St : Nat → Shared → Prop}
theorem set_loopS (W : WalksS P w A.in1 I fp wr G n Pv St) (D : Addr) (hSf : D ∉ fp)
    (val : Nat → Str) (hval : ∀ i v, Pv i v → ∃ t, v = .str (val i) t) (hb : n + 1 < scanBound) :
    ∀ (k i : Nat) (s : Shared), n - i = k → i ≤ n → St i s → SetS w s.heap D (firstS val i) →
      (∀ s', Moved (D :: wr) G s s' → SetS w s'.heap D (firstS val n) → R (.ok (.ret .none)) s') →
      codeAny (model P w) A (.builtin "set.update.loop" ⟨[.ref D, .ref I], []⟩) R s := by
  have hSw : D ∉ wr := fun h => hSf (W.sub _ h)
  have hsub : ∀ b ∈ wr, b ∈ D :: wr := fun b hb => List.mem_cons_of_mem _ hb
  intro k
  induction k with
  | zero =>
    intro i s hk hi hst hS hR
    have hin : i = n := by omega
    subst hin
    refine codeAny_builtin F.entry_set_update_loop ?_
    rw [Around.under_plainId F.plain_set_update_loop _]
    show wpAny _ A.in1 (pyNext (.ref I) >>= _) _ _ s
    refine wpAny_bind (W.done s _ _ hst fun s' hm => ?_)
    show wpAny _ A.in1 (ret Value.none) _ _ s'
    exact wpAny_pure (hR s' (hm.mono hsub) (hS.at fun o ho => hm.heap D _ hSw ho))
  | succ k ih =>
    intro i s hk hi hst hS hR
    have hlt : i < n := by omega
    refine codeAny_builtin F.entry_set_update_loop ?_
    rw [Around.under_plainId F.plain_set_update_loop _]
    show wpAny _ A.in1 (pyNext (.ref I) >>= _) _ _ s
    refine wpAny_bind (W.item i s _ _ hlt hst fun v s' hP hst' hm => ?_)
    obtain ⟨t, rfl⟩ := hval i v hP
    have hS' : SetS w s'.heap D (firstS val i) := hS.at fun o ho => hm.heap D _ hSw ho
    show wpAny _ A.in1 (holding [Value.str (val i) t] (setAdd D (.str (val i) t)) >>= _) _ _ s'
    refine wpAny_bind (wpAny_holding ?_)
    unfold setAdd
    refine wpAny_holding ?_
    refine wpAny_bind ((PySem.strKind P w).pyHash (k := val i) (beq_self_eq_true _) ?_)
    have hroom : (firstS val i).length + 1 < scanBound := by have := firstS_len val i; omega
    refine setS_hashed (s := { s' with toks := s'.toks + 1 }) hS' hroom fun b h' hsb hS2 => ?_
    have hSi : SetS w h' D (firstS val (i + 1)) := by rw [firstS_succ]; exact hS2
    refine wpAny_pure ⟨plainId_quiet F.plain_set_update_loop _, ih (i + 1) _ (by omega) hlt (W.frame _ s' _ _ hst' (Nat.le_succ _) fun b hb o e => ?_) hSi fun s'' hm'' hS'' => ?_⟩
    · rw [hsb.2 b (fun h : b = D => hSf (by rw [← h]; exact hb))]; exact e
    · refine hR s'' (Moved.trans W.gtrans ((hm.mono hsub).then_heap (Nat.le_succ _) fun b o hb e => ?_) hm'') hS''
      rw [hsb.2 b (fun h : b = D => hb (by rw [h]; exact List.mem_cons_self))]; exact e
end
section
variable {P : Program} {w : World} {A : Around} {E : Value → Shared → Prop} {s : Shared}
abbrev ledIs (w : World) : Bool := !w.params.followText "set-order"
theorem code_set_led1 (a : Value) {Q₁ : Value → Shared → Prop}
    (h : Q₁ (.ref s.heap.objs.size) { s with heap := s.heap.push { cls := .type "set", dict := none, data := .set #[] 0 (.fresh 0 0 (ledIs w)) } }) :
    codeAny (model P w) A (.call (.builtin "set.__new__") ⟨[.type "set", a], []⟩) (wants Q₁ E) s := by
  refine codeAny_of_tree ?_
  show wpAny _ A.in1 (do checkBuiltinCall "set.__new__" ⟨[.type "set", a], []⟩; again (.builtin "set.__new__" ⟨[.type "set", a], []⟩)) _ _ s
  refine wpAny_bind (wpAny_of_eq (F.newCall_set_1 a) (wpAny_pure ⟨plainId_quiet F.plain_set_new _, codeAny_builtin F.entry_set_new ?_⟩))
  rw [Around.under_plainId F.plain_set_new _]
  unfold Builtin.«set.__new__» Builtin.Frozenset.newClass
  have hsub := sub_set_self
  obtain ⟨hp, g, d, tk, os⟩ := s
  dsimp only
  wp_walk
  refine wpAny_askSetting (wpAny_pure ?_)
  dsimp only
  simp only [newObj]
  refine wpAny_bind (wpAny_alloc (wpAny_pure ?_))
  exact wpAny_pure h
set_option maxHeartbeats 3200000 in
theorem call_setS {l : Addr} {items : Array Value} {xs : List Str} {Q : Value → Shared → Prop}
    (hh : A.handled = none) (hl : s.heap.IsList l items) (hi : StrsAre items.toList xs) (hb : items.size + 1 < scanBound)
    (h : ∀ (h' : Heap) (tk : Nat), SetS w h' s.heap.objs.size (dedupS xs) →
      (∀ b o, b < s.heap.objs.size → s.heap.get? b = some o → h'.get? b = some o) → Q (.ref s.heap.objs.size) { s with heap := h', toks := tk }) :
    wpAny (model P w) A (call (.type "set") [.ref l]) Q E s := by
  obtain ⟨c, tl, hmro⟩ := F.called_set.mro
  have hmade := F.called_set.made
  have hsub := F.called_set.sub
  refine wpAny_call (codeAny_of_tree ?_)
  show wpAny _ _ (callAny (.type "set") _) _ _ _
  refine wpAny_pure ⟨Code.quiet_builtin _ (by decide +kernel), codeAny_builtin F.entry_type_call ?_⟩
  rw [Around.under_plain (weight_type_call_type "set" [.ref l] []) rfl]
  have h1 := F.called_set.notType
  have h2 := F.called_set.canCreate
  have hct := F.typeCall_set_1 (.ref l)
  repeat (any_goals (first | assumption | wp_step))

  refine codeAny_mono (code_set_led1 (.ref l) (E := E) (Q₁ := fun obj s₁ => obj = .ref s.heap.objs.size ∧ s₁ = { s with heap := s.heap.push { cls := .type "set", dict := none, data := .set #[] 0 (.fresh 0 0 (ledIs w)) } }) ⟨rfl, rfl⟩) fun r s₁ hr => ?_
  cases r with
  | error e => exact hr
  | ok fl =>
    cases fl with
    | ret obj =>
      obtain ⟨rfl, rfl⟩ := hr
      have hS : (s.heap.push { cls := .type "set", dict := none, data := .set #[] 0 (.fresh 0 0 (ledIs w)) }).get? s.heap.objs.size = some { cls := .type "set", dict := none, data := .set #[] 0 (.fresh 0 0 (ledIs w)) } := Heap.get?_push_size _ rfl
      have hT : Shared.TypeIs { s with heap := s.heap.push { cls := .type "set", dict := none, data := .set #[] 0 (.fresh 0 0 (ledIs w)) } } (.ref s.heap.objs.size) "set" := ⟨_, hS, rfl⟩
      have hli := F.called_set.init.lookup
      have hbi := F.called_set.init.bind (.ref s.heap.objs.size)
      repeat (any_goals (first | assumption | wp_step))

      refine codeAny_mono (codeAny_call_builtin (R := wants (fun r s₂ => r = .none ∧ ∃ h' tk, s₂ = { s with heap := h', toks := tk } ∧
          SetS w h' s.heap.objs.size (dedupS xs) ∧
          (∀ b o, b < s.heap.objs.size → s.heap.get? b = some o → h'.get? b = some o)) E) F.called_set.init.plain F.entry_set_init (check_set_init_1 hT ?_)) fun r₂ s₂ hr₂ => ?_
      · obtain ⟨ol, hol, hcl, nl, hdl⟩ := hl
        obtain ⟨ocls, odict, odata, oslots⟩ := ol
        simp only at hcl hdl
        subst hcl; subst hdl
        have hol' : (s.heap.push { cls := .type "set", dict := none, data := .set #[] 0 (.fresh 0 0 (ledIs w)) }).get? l = some { cls := .type "list", dict := odict, data := .seq items nl, slots := oslots } := Heap.get?_push_of_some _ hol
        have hsls := F.sub_list_set
        have hslf := F.sub_list_frozenset
        have hne : (Value.type "list" == Value.type "dict") = false := by decide
        have hl1 : (s.heap.push { cls := .type "set", dict := none, data := .set #[] 0 (.fresh 0 0 (ledIs w)) }).IsList l items := ⟨_, hol', rfl, nl, rfl⟩
        unfold Builtin.«set.__init__» noKeywords Builtin.Frozenset.updateFrom
        generalize hPI : pyIter = PI
        wp_walk
        subst hPI

        refine wpAny_pyIter_list hl1 ?_
        refine wpAny_bind (wpAny_runValue ?_)
        have hlS : l < s.heap.objs.size := Heap.lt_size hol
        have hh3 : A.in1.in1.in1.handled = none := by simp [hh]
        have hneI : l ≠ (s.heap.push { cls := .type "set", dict := none, data := .set #[] 0 (.fresh 0 0 (ledIs w)) }).objs.size := by
          rw [Heap.size_push]; exact Nat.ne_of_lt (Nat.lt_succ_of_lt hlS)
        have hSf : s.heap.objs.size ∉ [(s.heap.push { cls := .type "set", dict := none, data := .set #[] 0 (.fresh 0 0 (ledIs w)) }).objs.size, l] := by
          rw [Heap.size_push]; simp only [List.mem_cons, List.mem_singleton, List.not_mem_nil, or_false, not_or]
          exact ⟨Nat.ne_of_lt (Nat.lt_succ_self _), Nat.ne_of_gt hlS⟩
        have hxs : xs.length = items.size := by rw [← StrsAre.len_eq hi, Array.length_toList]
        have hval : ∀ (i : Nat) (v : Value), items[i]? = some v → ∃ t, v = .str ((fun i => xs.getD i Str.empty) i) t := fun i v hv =>
          strs_nth hi i v (by rw [Array.getElem?_toList]; exact hv)
        refine set_loopS ((Walks.list hh3 _ l hneI items).toS) s.heap.objs.size
          hSf (fun i => xs.getD i Str.empty) hval hb (items.size - 0) 0 _ (by omega) (Nat.zero_le _)
          ⟨⟨_, Heap.get?_push_size _ rfl, rfl, rfl⟩, (hl1.push _)⟩ ?hS0 ?hR
        case hS0 =>
          exact (setS_fresh w).at fun o ho => Heap.get?_push_of_some _ ho
        case hR =>
          intro s' hm hS'
          obtain ⟨h', g', d', tk', os'⟩ := s'
          have eg : g' = s.gens := hm.gens
          have ed : d' = s.drawn := hm.drawn
          have eo : os' = s.os := hm.os
          subst eg; subst ed; subst eo
          show wpAny _ _ _ _ _ _
          refine wpAny_pure ?_
          show wpAny _ _ (ret Value.none) _ _ _
          refine wpAny_pure ⟨rfl, h', tk', rfl, by have q := hS'; rw [← hxs, firstS_all] at q; exact q, fun b o hb e => ?_⟩
          have hb1 : b ≠ s.heap.objs.size := Nat.ne_of_lt hb
          have hb2 : b ≠ (s.heap.push { cls := .type "set", dict := none, data := .set #[] 0 (.fresh 0 0 (ledIs w)) }).objs.size := by
            rw [Heap.size_push]; exact Nat.ne_of_lt (Nat.lt_succ_of_lt hb)
          exact hm.heap b o (by simp only [List.mem_cons, List.mem_singleton, List.not_mem_nil, or_false, not_or]; exact ⟨hb1, hb2⟩) (Heap.get?_push_of_some _ (Heap.get?_push_of_some _ e))

      · cases r₂ with
        | error e => exact hr₂
        | ok fl₂ =>
          cases fl₂ with
          | ret r =>
            obtain ⟨rfl, h', tk, rfl, hS', hk'⟩ := hr₂
            repeat (any_goals (first | assumption | wp_step))
            exact h _ _ hS' hk'
          | _ => exact hr₂.elim
    | _ => exact hr.elim
end
section
variable {P : Program} {w : World} {A : Around} {E : Value → Shared → Prop} {s : Shared} {a : Addr} {l : List Str}
/-- sorted of a set of texts -/
theorem sorted_setS {Q : Value → Shared → Prop} (R : SetS w s.heap a l) (hh : A.handled = none) (h64 : l.length < 64)
    (hQ : ∀ s' p (out : Array Value) (c : Nat), (∀ b o, s.heap.get? b = some o → s'.heap.get? b = some o) → s'.gens = s.gens → s'.os = s.os → s.heap.objs.size ≤ p →
      s'.heap.get? p = some (seqObj "list" out c) → StrsAre out.toList (sortT l) → Q (.ref p) s') :
    wpAny (model P w) A (call (.builtin "sorted") [.ref a]) Q E s := by
  obtain ⟨o, es, ep, t, ho, hex, hd, g, p, nd, hb, hf, hr, hl⟩ := R
  refine Calls.call_function_entry kind_sorted plain_sorted entry_sorted (args_sorted1 _) ?_
  unfold Builtin.«sorted»
  refine wpAny_bind (m := checkCount "sorted" 1 1 _) (wpAny_pure ?_)
  refine wpAny_bind (collect_set (A := A.in1) hh ⟨o, ho, hex.1, hd⟩ hf hb hr hl fun s1 vs k1 hz g1 o1 pm => ?_)
  have hvl : vs.length = l.length := by rw [pm.length_eq, List.length_map, ← p.length_eq, List.length_map]
  have hS : StrsAre vs (vs.map strOf) := strsAre_map vs fun v hv => by
    obtain ⟨e, he, q⟩ := List.mem_map.mp (pm.mem_iff.mp hv)
    obtain ⟨x, tk, h1, _⟩ := g e he
    exact ⟨x, tk, by rw [← q]; exact h1⟩
  have pk : (vs.map strOf).Perm l := by
    have q := pm.map strOf
    rw [List.map_map] at q
    have e : es.toList.map (strOf ∘ fun x => x.2) = es.toList.map keyS := List.map_congr_left fun e he => by
      obtain ⟨x, tk, h1, _⟩ := g e he
      unfold keyS
      show strOf e.2 = _
      rw [h1]
      rfl
    rw [e] at q
    exact q.trans p
  refine wpAny_bind (wpAny_newList ?_ (by rw [hvl, sizeLine_eq]; omega))
  have hoL : (s1.heap.push (seqObj "list" vs.toArray 0)).get? s1.heap.objs.size = some (seqObj "list" vs.toArray 0) := Heap.get?_push_size _ rfl
  refine wpAny_bind (wpAny_holding (wpAny_call_entry slot_list_sort ⟨_, hoL, rfl⟩ entry_list_sort (list_sort_treeK strKind_oneLt hoL hS.keysOf (fun v₁ v₂ rest e => keyKind_strs (by rw [← e]; exact hS)) (by rw [hvl]; exact h64) fun st' a1 a2 => ⟨_, rfl, ?_⟩) (args_list_sort _)))
  obtain ⟨ys, h1, h2, h3⟩ := sorted_out_str hS a1 a2
  have e := sorted_is (h2.trans pk) h3
  subst e
  obtain ⟨c, hc⟩ := sortedHeap_at (vs := vs) (out := (arrOf st').map (·.2)) hoL
  refine wpAny_pure ⟨_, rfl, hQ _ s1.heap.objs.size _ c (fun b u e => ?_) g1 o1 hz hc h1⟩
  have q := k1 b u e
  have hlt := Heap.lt_size q
  show (sortedHeap (s1.heap.push (seqObj "list" vs.toArray 0)) s1.heap.objs.size vs _).get? b = some u
  rw [sortedHeap_old (Nat.ne_of_lt hlt) (by rw [size_push']; exact Nat.lt_succ_of_lt hlt)]
  exact Heap.get?_push_of_some _ q
end
end M
/-! M25: sorted(set(e)), texts. -/
namespace M
open PySem PySem.Spec PyProof.Rows L2

/-- the set of the texts l -/
def SetSO (w : World) (a : Addr) (l : List Str) : HO := .ext fun h => SetS w h a l
section
variable {X : Cx} {F : Fx} {pos : Pos}
theorem setSO_new {w : World} {P : Program} {H : Hp} {h : Heap} {a : Addr} {l : List Str} (R : SetS w h a l) : ObjOk P w H h a (SetSO w a l) := by
  have ⟨o, _, _, _, ho, _⟩ := R
  exact ⟨R, ⟨o, ho⟩, fun h1 h2 p k => SetS.at p k⟩
theorem setSO_get {pins : List (Addr × Obj)} {σ : L2.St} {H : Hp} {s : Shared} {a : Addr} {l : List Str} (I : Inv X pins σ H s) (ha : H a = some (SetSO X.w a l)) : SetS X.w s.heap a l := (I.hok a _ ha).1
def rSetS (w : World) (K : PySem.W.Frag) : List V → Hp → VK → Prop := fun vs H Q => ∃ (a : Addr) (xs : List Str), vs = [V.ref a] ∧ SqL K H a (xs.map V.str) ∧ xs.length < 64 ∧ ∀ p, H p = none → Q (.ref p) (upd H p (SetSO w p (dedupS xs)))
theorem cr_setS (hc : X.calm = true) : CallR X (.type "set") (rSetS X.w X.K) := by
  intro pins s σ H vs us Q I r h
  obtain ⟨a, xs, rfl, hs, h64, q⟩ := h
  obtain ⟨its, rv, hl, _⟩ := I.list hs
  rw [Vals.ref1 r]
  have hlen0 := rv.length
  rw [List.length_map] at hlen0
  refine call_setS (items := its.toArray) (xs := xs) (I.ok.hd hc) hl.isList (by simpa using rv.strs) (by unfold scanBound; simp only [List.size_toArray]; omega) fun h' tk R k => ?_
  exact ⟨.ref _, upd H s.heap.objs.size (SetSO X.w s.heap.objs.size (dedupS xs)), I.laid (t' := tk) (fun b u e => k b u (Heap.lt_size e) e) (Nat.le_refl _) (setSO_new R), rfl, q _ (I.hok.fresh (Nat.le_refl _))⟩
def rSortedSO (w : World) : List V → Hp → VK → Prop := fun vs H Q => ∃ (a : Addr) (l : List Str), vs = [V.ref a] ∧ H a = some (SetSO w a l) ∧ l.length < 64 ∧ ∀ p, H p = none → Q (.ref p) (upd H p (.lst ((sortT l).map V.str)))
theorem sortT_len (l : List Str) : (sortT l).length = l.length := (List.mergeSort_perm l leS).length_eq
theorem cr_sortedSO (hc : X.calm = true) : CallR X (.builtin "sorted") (rSortedSO X.w) := by
  intro pins s σ H vs us Q I r h
  obtain ⟨a, l, rfl, ha, h64, q⟩ := h
  have R := setSO_get I ha
  rw [Vals.ref1 r]
  refine sorted_setS R (I.ok.hd hc) h64 fun s' p out c k g o hp hg hi => ?_
  have hlen : ((sortT l).map V.str).length ≤ sizeLine := by rw [List.length_map, sortT_len, sizeLine_eq]; omega
  have hn : H p = none := I.hok.fresh hp
  have J : Inv X pins σ (upd H p (.lst ((sortT l).map V.str))) { s with heap := s'.heap, gens := s'.gens, drawn := s'.drawn, toks := s'.toks } :=
    I.call (ch := []) (Un.laid k hp hn) (I.hok.laid k hp ⟨hlen, out.toList, c, vals_of_strs hi, hg⟩) (by rw [g]; exact I.bare) (fun _ z => nomatch z)
  have e : s' = { s with heap := s'.heap, gens := s'.gens, drawn := s'.drawn, toks := s'.toks } := by
    cases s'
    cases s
    cases o
    rfl
  rw [e]
  exact ⟨.ref p, _, J, rfl, q p hn⟩
def opSortSet : OpN := fun ds st => match ds with
  | [d] => match alst st d with
    | some xs => match allP asS xs with
      | some ss => if ss.length < 64 then some (.lst ((sortT (dedupS ss)).map .str), st) else none
      | none => none
    | none => none
  | _ => none
theorem PostO.extO {W : Vw} {ρ' : List Addr} {H' : Hp} {o : Option (D × Sto)} {Q : VK} (x : Ext W ρ' H') (h : PostO W o Q) : PostO (W.to ρ' H') o Q := by
  cases o with
  | none => exact h
  | some z => exact fun ρ2 H2 b y => h ρ2 H2 b (x.trans y)
theorem sortSet_ok {W : Vw} {st : Sto} {ds : List D} {vs : List V} {w : World} {K : PySem.W.Frag} {H : Hp} {Q : VK} (hk : K = F.K) (I : In F W st H) (r : RVs W ds vs) (p : PostO W (opSortSet ds st) Q) : rSetS w K vs H fun x H1 => rSortedSO w [x] H1 Q := by
  unfold opSortSet at p
  split at p
  · rename_i d
    obtain ⟨v, rfl, rv⟩ := rv1 r
    split at p
    · rename_i zs hz
      split at p
      · rename_i ss hs
        split at p
        · rename_i c
          obtain ⟨q, ys, rfl, hq, ry⟩ := alst_at I.sim hz rv
          have eH := I.h
          subst eH
          rw [I.k, ← hk, asS_rv hs ry] at hq
          refine ⟨q, ss, rfl, hq, c, fun a ha => ⟨a, dedupS ss, rfl, upd_same, Nat.lt_of_le_of_lt (dedupS_len ss) c, fun b hb => ?_⟩⟩
          exact (PostO.extO (ext_new0 ha) p).listF (I.sim.new0 ha) (rvs_strs _) hb
        · exact p.elim
      · exact p.elim
    · exact p.elim
  · exact p.elim
/-- sorted(set(e)) -/
theorem e_sortSet {e : Expr} {j : IA} {q1 q2 pos2 : Pos} (hc : X.calm = true) (hk : X.K = F.K) (hg : Gl X "sorted") (hm : X.mg "sorted" = none) (hg2 : Gl X "set") (hm2 : X.mg "set" = none) (ha : PA X [e] (TA_ F j))
    (he : starEach [e] X.env = [(false, eval e X.env)] := by rfl) (hs : starEach [.Call (.Name "set" q2) [e] [] pos2] X.env = [(false, eval (.Call (.Name "set" q2) [e] [] pos2) X.env)] := by rfl) :
    PE X (.Call (.Name "sorted" q1) [.Call (.Name "set" q2) [e] [] pos2] [] pos) (TI F (iN opSortSet j)) :=
  PE.imp (pe_callB (cr_sortedSO hc) hg hm rfl (pa_cons (pe_callTy (cr_setS hc) hg2 hm2 rfl ha (by decide) (by decide) (by rw [he]; rfl) (by rfl)) pa_nil hs) (by decide) (by decide) hs (by rfl)) fun σ H Q h =>
    (n_rN h).mono fun vs H1 ⟨W, st, ds, I, r, p⟩ => sortSet_ok hk I r p
end
end M
/-! M26: sorted({..}), texts. -/
namespace M
open PySem PySem.Spec PyProof.Rows L2

section
variable {P : Program} {w : World} {A : Around} {E : Value → Shared → Prop} {s : Shared} {a : Addr} {l : List Str}
theorem setS_add {k : Str} {tk : Tok} {Q : Value → Shared → Prop} (R : SetS w s.heap a l) (room : l.length + 1 < scanBound)
    (hQ : ∀ h', Heap.SameBut a s.heap h' → SetS w h' a (insU l k) → Q .none { s with heap := h', toks := s.toks + 1 }) :
    wpAny (model P w) A (call (.builtin "set.add") [.ref a, .str k tk]) Q E s := by
  refine wpAny_call_entry F.slot_set_add R.typeIs F.entry_set_add ?_ (F.args_set_add_2 _ _)
  unfold Builtin.«set.add» Builtin.Frozenset.oneOther
  simp only [List.isEmpty_nil, bind_assoc]
  unfold Builtin.Frozenset.addrOf setAdd
  refine wpAny_bind (wpAny_pure ?_)
  try dsimp only
  refine wpAny_bind (wpAny_pure ?_)
  try dsimp only
  refine wpAny_bind ?_
  refine wpAny_holding ?_
  refine wpAny_bind ((PySem.strKind P w).pyHash (k := k) (beq_self_eq_true _) ?_)
  refine setS_hashed (s := { s with toks := s.toks + 1 }) R room fun b h' sb r => ?_
  show wpAny _ _ (ret Value.none) _ _ _
  exact wpAny_pure ⟨_, rfl, hQ h' sb r⟩
end
section
variable {X : Cx}
theorem addSO_ok {pins : List (Addr × Obj)} {σ : L2.St} {H : Hp} {s : Shared} {E : Value → Shared → Prop} {D : Addr} {l : List Str} {y : Str} {tk : Tok} {Q : Value → Shared → Prop} (I : Inv X pins σ H s) (hD : H D = some (SetSO X.w D l)) (room : l.length + 1 < scanBound)
    (h : ∀ s', Inv X pins σ (upd H D (SetSO X.w D (insU l y))) s' → Q .none s') : wpAny (model X.prog X.w) X.A (call (.builtin "set.add") [.ref D, .str y tk]) Q E s := by
  refine setS_add (setSO_get I hD) room fun h' sb new => ?_
  have he : ∃ u, h'.get? D = some u := by
    have ⟨o, _, _, _, ho, _⟩ := new
    exact ⟨o, ho⟩
  exact h _ (I.write (e := D) (t' := s.toks + 1) (by rw [hD]; trivial) (.inl rfl) (fun b u hb hu => (sb.2 b hb).trans hu) he (setSO_new new))
/-- {elt for target in iter if ..}, elt a text: D the new set -/
def tScS (w : World) (wi : L2.TI) (g : TG) (tt : TT) (te : TE) (vs : List Nat) : TE := fun σ H Q => wi σ H fun J H1 => ∀ D, H1 D = none → ∃ W : Nat → Nat → Hp → Prop, (∃ m, W 0 m (upd H1 D (SetSO w D []))) ∧ ∀ i m H, W i m H →
  (J.stop i H ∧ Q (.ref D) H) ∨ (J.go i H ∧ ∃ Nx : Hp → Prop, (∀ H', Nx H' → ∃ m', m' < m ∧ W (i + 1) m' H') ∧ ∀ x H', J.yld i H x H' → g x (wipe σ vs) H' fun σ2 H2 => wipe σ2 vs = wipe σ vs ∧ tt σ2 H2 fun b H3 =>
    if b = true then te σ2 H3 fun y H4 => ∃ (c : Str) (l : List Str), y = .str c ∧ H4 D = some (SetSO w D l) ∧ l.length + 1 < scanBound ∧ Nx (upd H4 D (SetSO w D (insU l c))) else Nx H3)
theorem scS_core {pins : List (Addr × Obj)} {s : Shared} {σ : L2.St} {H : Hp} {Q : VK} {elt tg iter : Expr} {ifs : List Expr} {scope : Scope} {own : List (Str × Nat)} {pos pos' : Pos} {wi : L2.TI} {g : TG} {tt : TT} {te : TE} {use : Option (Value → Sem Unit)} {Qf : Value → Shared → Prop}
    (hc : X.calm = true) (hN : X.N.Nodup) (I : Inv X pins σ H s) (hi : PI X tg iter wi) (ok : BlkOk X.N X.env.scope scope own)
    (hg : ∀ (s : Shared) (H : Hp) (C : Addr) (cl : List (Str × Addr)) (fp : List Addr), PG (X.blk s H scope (compEnvC scope cl C X.env) fp) tg g) (ht : ∀ (s : Shared) (H : Hp) (C : Addr) (cl : List (Str × Addr)) (fp : List Addr), PTs (X.blk s H scope (compEnvC scope cl C X.env) fp) ifs tt)
    (he : ∀ (s : Shared) (H : Hp) (C : Addr) (cl : List (Str × Addr)) (fp : List Addr), PE (X.blk s H scope (compEnvC scope cl C X.env) fp) elt te) (hs : ∀ x, foldedSetIterable iter X.env x = pure x)
    (h : tScS X.w wi g tt te (own.map (·.2)) σ H Q)
    (hRR : ∀ D C s' m H', Inv X pins σ H' s' → Q (.ref D) H' → s'.heap.Ns C m → FpOk X pins H' C → compPost (model X.prog X.w) X.A X.xe use Qf (.ref D) C (.ok .next) s') :
    wpAny (model X.prog X.w) X.A (comprehension (.SetComp elt [⟨tg, iter, ifs, 0⟩] scope pos) scope X.env pos' (newSet (.type "set")) false (eval iter X.env) use) Qf X.xe s := by
  have hfree : ∀ y ∈ scope.names, y.2 = .free → ∃ c, X.env.cells.lookup y.1 = some c := fun y hy e => by
    rcases ok.free y hy e with k | k
    · exact I.ok.has _ (.inl k)
    · exact I.ok.has _ (.inr k)
  refine wpAny_comprehension_free (use := use) rfl hs (closure_ok hfree) ok.kind (fun y hy e => by rw [ok.uniq y hy, e])
    (thn (hi.run pins s σ H _ I h) fun xv s1 hx => thn hx fun itv s2 h2 => ?_)
  obtain ⟨it, fp, tn, J, H2, e, I2, T, st2, f2, q⟩ := h2
  subst e
  refine PpSet.newSet_ok (newEnv_comp ?_)
  generalize hD : s2.heap.objs.size = D
  have hDn : H2 D = none := I2.hok.fresh (Nat.le_of_eq hD)
  obtain ⟨W, ⟨m0, w0⟩, turn⟩ := q D hDn
  -- the new list
  generalize hs3 : ({ s2 with heap := s2.heap.push { cls := .type "set", dict := none, data := .set #[] 0 (.fresh 0 0 (!X.w.params.followText "set-order")) } } : Shared) = s3
  have I3 : Inv X pins σ (upd H2 D (SetSO X.w D [])) s3 := by
    rw [← hs3]
    refine I2.laid (t' := s2.toks) (fun b o e => Heap.get?_push_of_some _ e) (Nat.le_of_eq hD) ?_
    rw [← hD]
    exact setSO_new (setS_fresh X.w)
  have h3 : s3.heap = s2.heap.push { cls := .type "set", dict := none, data := .set #[] 0 (.fresh 0 0 (!X.w.params.followText "set-order")) } := by rw [← hs3]
  have sz : ∀ b ∈ fp, b < s2.heap.objs.size := fun b hb => by
    obtain ⟨o, e, _⟩ := T.obj _ _ st2 b hb
    exact Heap.lt_size e
  have f3 : ∀ b ∈ fp, FpOk X pins (upd H2 D (SetSO X.w D [])) b ∧ b < s3.heap.objs.size := fun b hb => by
    have hlt := sz b hb
    refine ⟨⟨?_, (f2 b hb).2⟩, by rw [h3, Heap.size_push]; exact Nat.lt_succ_of_lt hlt⟩
    rw [upd_ne (by rw [← hD]; exact Nat.ne_of_lt hlt)]
    exact (f2 b hb).1
  have st3 : tn 0 s3.heap := T.keep _ _ _ st2 fun b _ o e => by rw [h3]; exact Heap.get?_push_of_some _ e
  have I4 := block_start I3 ok hN f3
  have pg := hg s3 (upd H2 D (SetSO X.w D [])) s3.heap.objs.size (cellsFrom (s3.heap.objs.size + 1) scope.names (cloFrom X.env.cells scope.names [])) fp
  have pt := ht s3 (upd H2 D (SetSO X.w D [])) s3.heap.objs.size (cellsFrom (s3.heap.objs.size + 1) scope.names (cloFrom X.env.cells scope.names [])) fp
  have pe := he s3 (upd H2 D (SetSO X.w D [])) s3.heap.objs.size (cellsFrom (s3.heap.objs.size + 1) scope.names (cloFrom X.env.cells scope.names [])) fp
  show codeAny _ _ (.compStart (.SetComp elt [⟨tg, iter, ifs, 0⟩] scope pos) 0 (.ref it) (.ref D) (compEnvC scope (cellsFrom (s3.heap.objs.size + 1) scope.names (cloFrom X.env.cells scope.names [])) s3.heap.objs.size X.env)) (compPost (model X.prog X.w) X.A X.xe use Qf (.ref D) s3.heap.objs.size) { s3 with heap := pushCells (s3.heap.push { cls := .type "dict", data := .dict #[] }) scope.names }
  have nfp : ∀ b ∈ fp, (upd H2 D (SetSO X.w D [])) b = none := fun b hb => (f3 b hb).1.1
  generalize hce : compEnvC scope (cellsFrom (s3.heap.objs.size + 1) scope.names (cloFrom X.env.cells scope.names [])) s3.heap.objs.size X.env = ce at I4 pg pt pe ⊢
  have cL : ce.locals = s3.heap.objs.size := by subst hce; rfl
  generalize hH3 : upd H2 D (SetSO X.w D []) = H3 at I3 I4 pg pt pe w0 nfp f3
  generalize hs4 : ({ s3 with heap := pushCells (s3.heap.push { cls := .type "dict", data := .dict #[] }) scope.names } : Shared) = s4 at I4 ⊢
  have st4 : tn 0 s4.heap := T.keep _ _ _ st3 fun b _ o e => by rw [← hs4]; exact pushCells_keeps _ _ _ _ (Heap.get?_push_of_some _ e)
  have stat : ∀ {σ' : L2.St} {H' : Hp} {s' : Shared}, Inv (X.blk s3 H3 scope ce fp) [] σ' H' s' → (∀ b ∈ fp, H' b = none) → ∀ b ∈ fp, FpOk (X.blk s3 H3 scope ce fp) [] H' b := fun {σ' H' s'} I' hn b hb =>
    ⟨hn b hb, (I'.ok.exf b hb).1, I'.ok.exfs b hb, .inl hb, fun x c e => (I'.ok.exf b hb).2 x c e, fun p hp => absurd (show p ∈ ([] : List (Addr × Obj)) ++ [] from hp) (by simp)⟩
  have loop : codeAny (model X.prog X.w) X.A (.compLoop (.SetComp elt [⟨tg, iter, ifs, 0⟩] scope pos) 0 (.ref it) (.ref D) ce) (compPost (model X.prog X.w) X.A X.xe use Qf (.ref D) s3.heap.objs.size) s4 := by
    refine PpSet.compLoopS_any (fun n s' => ∃ i H', Inv (X.blk s3 H3 scope ce fp) [] (wipe σ (own.map (·.2))) H' s' ∧ tn i s'.heap ∧ (∀ b ∈ fp, H' b = none) ∧ W i n H') ?_ m0 ⟨0, H3, I4, st4, nfp, w0⟩
    rintro n s5 ⟨i, H5, I5, st5, n5, w5⟩
    rcases turn i n H5 w5 with ⟨stop, qq⟩ | ⟨go, Nx, hNx, step⟩
    · have td := T.done (X.blk s3 H3 scope ce fp) rfl rfl rfl hc i [] s5 _ H5 (fun _ _ => False) I5 (stat I5 n5) st5 stop
      refine thnF td fun r s6 ⟨hr, I6⟩ => ?_
      subst hr
      -- back in the def's context
      have I7 : Inv X pins σ H5 s6 := I3.call' (ch := fp) I6.os I6.base I6.hok I6.bare fun b hb => ⟨(f3 b hb).1.2.2.2.1, (f3 b hb).1.2.1, (f3 b hb).1.2.2.2.2.1, (f3 b hb).1.2.2.2.2.2⟩
      have nC : H5 s3.heap.objs.size = none := by
        have z : H5 ce.locals = none := I6.free
        rw [cL] at z
        exact z
      obtain ⟨m, hn, _⟩ := I6.loc
      have hn : s6.heap.Ns ce.locals m := hn
      rw [cL] at hn
      exact hRR D s3.heap.objs.size s6 m H5 I7 qq hn (I3.fpOk (Nat.le_refl _) nC)
    · have ti := T.item (X.blk s3 H3 scope ce fp) rfl rfl rfl hc i [] s5 _ H5 (fun _ _ => False) I5 (stat I5 n5) st5 go
      refine thnF ti fun r s6 ⟨u, hr, h6⟩ => ?_
      subst hr
      refine thnF h6 fun _ s7 ⟨x, H7, I7, r7, y7, st7, n7⟩ => ?_
      have I7' := I7.pinned (stat I7 n7) (T.obj _ _ st7)
      refine thnF (pg.run _ s7 _ H7 x u _ I7' r7 (step x H7 y7)) fun _ s8 ⟨σ8, H8, I8, hw8, q8⟩ => ?_
      refine thnF (pt.run _ s8 σ8 H8 _ I8 q8) fun b s9 ⟨H9, I9, q9⟩ => ?_
      -- the turn's end
      have fin : ∀ {s' : Shared} {H' : Hp}, Inv (X.blk s3 H3 scope ce fp) ([] ++ pinsAt fp s7.heap) σ8 H' s' → Nx H' → ∃ m, m < n ∧ ∃ i H', Inv (X.blk s3 H3 scope ce fp) [] (wipe σ (own.map (·.2))) H' s' ∧ tn i s'.heap ∧ (∀ b ∈ fp, H' b = none) ∧ W i m H' := fun {s' H'} I' nx => by
        obtain ⟨m', hm, w'⟩ := hNx H' nx
        have pin' : ∀ b ∈ fp, ∀ o, s7.heap.get? b = some o → s'.heap.get? b = some o ∧ H' b = none := fun b hb o e =>
          let z := I'.pin (b, o) (List.mem_append_right _ (List.mem_append_right _ (mem_pinsAt hb e)))
          ⟨z.1, z.2.1⟩
        have hl : (wipe σ (own.map (·.2))).length = σ8.length := by rw [← hw8, wipe_length]
        refine ⟨m', hm, i + 1, H', (I'.unpinned (pins := [])).weak hl (fun j v e => ?_), T.keep _ _ _ st7 fun b hb o e => (pin' b hb o e).1, fun b hb => ?_, w'⟩
        · rw [← hw8] at e
          exact (wipe_some e).1
        · obtain ⟨o, e, _⟩ := T.obj _ _ st7 b hb
          exact (pin' b hb o e).2
      cases b with
      | false =>
        simp only [Bool.false_eq_true, if_false] at q9 ⊢
        exact fin I9 q9
      | true =>
        simp only [if_true] at q9 ⊢
        refine thnF (pe.run _ s9 σ8 H9 _ I9 q9) fun z s10 ⟨yv, H10, I10, r10, cb, l0, ey, hD10, hz10, nx⟩ => ?_
        subst ey
        obtain ⟨tk, rfl⟩ := r10
        exact addSO_ok (X := X.blk s3 H3 scope ce fp) I10 hD10 hz10 fun s11 I11 => fin I11 nx
  exact PpSet.codeAny_compStart_set loop (T.self X.A 0 _ _ _ st4 loop)
theorem pe_scS {elt tg iter : Expr} {ifs : List Expr} {scope : Scope} {own : List (Str × Nat)} {pos : Pos} {wi : L2.TI} {g : TG} {tt : TT} {te : TE} (hc : X.calm = true) (hN : X.N.Nodup) (hi : PI X tg iter wi) (ok : BlkOk X.N X.env.scope scope own)
    (hg : ∀ (s : Shared) (H : Hp) (C : Addr) (cl : List (Str × Addr)) (fp : List Addr), PG (X.blk s H scope (compEnvC scope cl C X.env) fp) tg g) (ht : ∀ (s : Shared) (H : Hp) (C : Addr) (cl : List (Str × Addr)) (fp : List Addr), PTs (X.blk s H scope (compEnvC scope cl C X.env) fp) ifs tt)
    (he : ∀ (s : Shared) (H : Hp) (C : Addr) (cl : List (Str × Addr)) (fp : List Addr), PE (X.blk s H scope (compEnvC scope cl C X.env) fp) elt te) (hs : ∀ x, foldedSetIterable iter X.env x = pure x := by intro _; rfl) :
    PE X (.SetComp elt [⟨tg, iter, ifs, 0⟩] scope pos) (tScS X.w wi g tt te (own.map (·.2))) := by
  refine ⟨fun pins s σ H Q I h => ?_⟩
  rw [PpSet.eval_SetComp]
  refine scS_core hc hN I hi ok hg ht he hs h fun D C s' m H' I' q hn f => ⟨m, hn, fun h'' sb => ?_⟩
  obtain ⟨f0, f1, f2, f3, f4, f5⟩ := f
  exact ⟨.ref D, H', I'.turned (t' := s'.toks) (fun b o hb e => (sb.2 b hb).trans e) f0 f1 f3 f4 f5, rfl, q⟩
end
end M
/-! M27: sorted({..}), texts. -/
namespace M
open PySem PySem.Spec PyProof.Rows L2

def compS (nx : Nx) (p : Pat) (t : IT) (e : IE) (env0 : Env) : Nat → Nat → List Str → Sto → R (List Str)
  | 0, i, acc => fun st => match nx i st with
    | some none => .ok acc st
    | _ => .bad
  | m + 1, i, acc => fun st => match nx i st with
    | some none => .ok acc st
    | some (some d) => match p.bind d env0 with
      | some env => ((t env st).nox).bind fun k s1 => if k = true then ((e env s1).nox).bind fun v s2 => match v with
          | .str x => if acc.length < 62 then compS nx p t e env0 m (i + 1) (insU acc x) s2 else .bad
          | _ => .bad
        else compS nx p t e env0 m (i + 1) acc s1
      | none => .bad
    | none => .bad
def finS (xs : List Str) (st : Sto) : R D := if xs.length < 64 then .ok (.lst ((sortT xs).map .str)) st else .bad
def iSortC (w : IW) (p : Pat) (t : IT) (e : IE) : IE := fun env st => (w env st).bind fun a s => (compS a.1 p t e (wipeE env p.slots) a.2 0 [] s).bind finS
section
variable {X : Cx} {F : Fx} {pos : Pos}
theorem compS_ok {w : IW} {p : Pat} {t : IT} {e : IE} {g : TG} {σ : L2.St} {H : Hp} {Q : VK} {wo : World} (hp : PatOk F.K p g) (h : TI F (iSortC w p t e) σ H Q) : tScS wo (TW F w) g (TT_ F.quiet t) (TI F.quiet e) p.slots σ H fun x H1 => rSortedSO wo [x] H1 Q := by
  refine (TX.bind (k := fun a env s => (compS a.1 p t e (wipeE env p.slots) a.2 0 [] s).bind finS) h).mono fun J H1 ⟨W0, s, env, a, A, r, q⟩ => ?_
  obtain ⟨nx, m⟩ := a
  intro D hD
  have eH := A.h
  subst eH
  have nz0 : ¬ W0.Z D := fun z => by
    obtain ⟨o, e⟩ := A.sim.zt D z
    rw [hD] at e
    cases e
  let V : List Addr → Hp → Vw := fun ρ H => (W0.hide D).to ρ H
  have q1 : PostE W0 ((compS nx p t e (wipeE env p.slots) m 0 [] s).bind finS) Q (F.at_ σ) := q
  have vx : ∀ {ρ' : List Addr} {H' : Hp}, Ext W0 ρ' H' → VX W0 (V ρ' H') := fun x => ⟨rfl, rfl, x, fun a z => z.elim .inl fun e => .inr (by rw [e]; exact hD)⟩
  refine ⟨fun i m H => ∃ ρ' st acc, Ext W0 ρ' H ∧ D ∉ ρ' ∧ H D = some (SetSO wo D acc) ∧ Sim (V ρ' H) st ∧ EnvR (V ρ' H) (wipeE env p.slots) (L2.wipe σ p.slots) ∧ PostE W0 ((compS nx p t e (wipeE env p.slots) m i acc st).bind finS) Q (F.at_ σ),
    ⟨m, W0.ρ, s, [], ext_new0 hD, fun z => ?_, upd_same, A.sim.laidH hD, (A.env.wipe p.slots).laidH hD, q1⟩, fun i m H ⟨ρ', st, acc, x, nD, eD, S, er, q⟩ => ?_⟩
  · obtain ⟨o, e⟩ := A.sim.tr z
    rw [hD] at e
    cases e
  have done : nx i st = some none → PostE W0 (finS acc st) Q (F.at_ σ) → J.stop i H ∧ rSortedSO wo [.ref D] H Q := fun en q => by
    refine ⟨r.stop (V ρ' H) st i (vx x) S en, ?_⟩
    unfold finS at q
    split at q
    · rename_i c
      refine ⟨D, acc, rfl, eD, c, fun b hb => ?_⟩
      have S1 : Sim (W0.to ρ' H) st := Sim.unhide (W := W0.to ρ' H) S
      have y : Ext (W0.to ρ' H) ρ' (upd H b (.lst ((sortT acc).map L2.V.str))) := ext_new0 (W := W0.to ρ' H) hb
      exact q ρ' _ (.ref b) (x.trans y) (S1.new0 hb) (.lst (.inl ⟨.inl upd_same, new_fro (W := W0.to ρ' H) S1 hb⟩) ((rvs_strs (W := W0.to ρ' H) (sortT acc)).mono y))
    · exact q.elim
  cases m with
  | zero =>
    unfold compS at q
    split at q
    · exact .inl (done (by assumption) q)
    · exact q.elim
  | succ m =>
    unfold compS at q
    split at q
    · exact .inl (done (by assumption) q)
    · rename_i d en
      obtain ⟨h1, h2⟩ := r.go (V ρ' H) st i d (vx x) S en
      refine .inr ⟨h1, fun H => ∃ ρ' st acc, Ext W0 ρ' H ∧ D ∉ ρ' ∧ H D = some (SetSO wo D acc) ∧ Sim (V ρ' H) st ∧ EnvR (V ρ' H) (wipeE env p.slots) (L2.wipe σ p.slots) ∧ PostE W0 ((compS nx p t e (wipeE env p.slots) m (i + 1) acc st).bind finS) Q (F.at_ σ), fun H' z => ⟨m, Nat.lt_succ_self m, z⟩, fun v H2 hy => ?_⟩
      obtain ⟨x2, S2, rv⟩ := h2 v H2 hy
      have low : ∀ {ρ2 ρ3 : List Addr} {H2 H3 : Hp}, Ext W0 ρ2 H2 → Ext (V ρ2 H2) ρ3 H3 → Ext (W0.to ρ2 H2) ρ3 H3 := fun x y => ⟨y.pre, y.new, y.keep⟩
      cases hb : p.bind d (wipeE env p.slots) with
      | none => rw [hb] at q; exact q.elim
      | some env' =>
        rw [hb] at q
        refine hp.go (V ρ' H2) d v _ _ _ _ A.k rv (er.mono x2) hb fun σ' er' ew => ⟨by rw [ew, wipe_wipe], ?_⟩
        have x3 : Ext W0 ρ' H2 := x.trans (low x x2)
        have eD2 : H2 D = some (SetSO wo D acc) := x2.keep D _ eD nD
        have q2 : PostE W0 ((((t env' st).nox).bind fun k s1 => if k = true then ((e env' s1).nox).bind fun v s2 => match v with
          | .str x => if acc.length < 62 then compS nx p t e (wipeE env p.slots) m (i + 1) (insU acc x) s2 else .bad
          | _ => .bad
          else compS nx p t e (wipeE env p.slots) m (i + 1) acc s1).bind finS) Q (F.at_ σ) := q
        refine ⟨V ρ' H2, st, env', ⟨A.k, A.g, rfl, S2, er'⟩, ?_⟩
        cases ht : t env' st with
        | bad => rw [ht] at q2; exact q2.elim
        | exc C fs s1 => rw [ht] at q2; exact q2.elim
        | ok k s1 =>
          rw [ht] at q2
          intro ρ3 H3 b x4 S3 eb
          cases (show k = b from eb)
          have x5 : Ext W0 ρ3 H3 := x3.trans (low x3 x4)
          have nD3 : D ∉ ρ3 := x4.notin eD2 nD
          have eD3 : H3 D = some (SetSO wo D acc) := x4.keep D _ eD2 nD
          have q3 : PostE W0 ((if k = true then ((e env' s1).nox).bind fun v s2 => match v with
          | .str x => if acc.length < 62 then compS nx p t e (wipeE env p.slots) m (i + 1) (insU acc x) s2 else .bad
          | _ => .bad
            else compS nx p t e (wipeE env p.slots) m (i + 1) acc s1).bind finS) Q (F.at_ σ) := q2
          have er3 : EnvR (V ρ3 H3) (wipeE env p.slots) (L2.wipe σ p.slots) := (er.mono x2).mono x4
          cases k with
          | false => exact ⟨ρ3, s1, acc, x5, nD3, eD3, S3, er3, q3⟩
          | true =>
            rw [if_pos rfl] at q3 ⊢
            refine ⟨V ρ3 H3, s1, env', ⟨A.k, A.g, rfl, S3, er'.mono x4⟩, ?_⟩
            cases he : e env' s1 with
            | bad => rw [he] at q3; exact q3.elim
            | exc C fs s2 => rw [he] at q3; exact q3.elim
            | ok y s2 =>
              rw [he] at q3
              intro ρ5 H5 yv x6 S5 ry
              have x7 : Ext W0 ρ5 H5 := x5.trans (low x5 x6)
              have nD5 : D ∉ ρ5 := x6.notin eD3 nD3
              have eD5 : H5 D = some (SetSO wo D acc) := x6.keep D _ eD3 nD3
              cases ry with
              | str k =>
                have q4 : PostE W0 ((if acc.length < 62 then compS nx p t e (wipeE env p.slots) m (i + 1) (insU acc k) s2 else .bad).bind finS) Q (F.at_ σ) := q3
                split at q4
                · rename_i c
                  have x8 : Ext W0 ρ5 (upd H5 D (SetSO wo D (insU acc k))) := ⟨x7.pre, x7.new, fun a o h n => by rw [upd_ne (ne_of_none h hD)]; exact x7.keep a o h n⟩
                  exact ⟨k, acc, rfl, eD5, by unfold scanBound; omega, ρ5, s2, insU acc k, x8, nD5, upd_same, Sim.zput (W := V ρ5 H5) S5 (.inr rfl), EnvR.zput (W := V ρ5 H5) (er3.mono x6) (.inr rfl), q4⟩
                · exact q4.elim
              | _ => exact q3.elim
    · exact q.elim
/-- sorted({e for .. in ..}) -/
theorem e_sortC {q1 spos : Pos} {elt tg iter : Expr} {ifs : List Expr} {scope : Scope} {own : List (Str × Nat)} {g : TG} {p : Pat} {w : IW} {t : IT} {e : IE} (hp : PatOk F.K p g) (ho : own.map (·.2) = p.slots) (hc : X.calm = true) (hN : X.N.Nodup) (hi : PI X tg iter (TW F w)) (ok : BlkOk X.N X.env.scope scope own)
    (hg : ∀ (s : Shared) (H : Hp) (C : Addr) (cl : List (Str × Addr)) (fp : List Addr), PG (X.blk s H scope (compEnvC scope cl C X.env) fp) tg g) (ht : ∀ (s : Shared) (H : Hp) (C : Addr) (cl : List (Str × Addr)) (fp : List Addr), PTs (X.blk s H scope (compEnvC scope cl C X.env) fp) ifs (TT_ F.quiet t))
    (he : ∀ (s : Shared) (H : Hp) (C : Addr) (cl : List (Str × Addr)) (fp : List Addr), PE (X.blk s H scope (compEnvC scope cl C X.env) fp) elt (TI F.quiet e)) (hgs : Gl X "sorted") (hms : X.mg "sorted" = none) (hs : ∀ x, foldedSetIterable iter X.env x = pure x := by intro _; rfl)
    (hse : starEach [.SetComp elt [⟨tg, iter, ifs, 0⟩] scope spos] X.env = [(false, eval (.SetComp elt [⟨tg, iter, ifs, 0⟩] scope spos) X.env)] := by rfl) :
    PE X (.Call (.Name "sorted" q1) [.SetComp elt [⟨tg, iter, ifs, 0⟩] scope spos] [] pos) (TI F (iSortC w p t e)) :=
  PE.imp (pe_callB (cr_sortedSO hc) hgs hms rfl (pa_cons (pe_scS hc hN hi ok hg ht he hs) pa_nil hse) (by decide) (by decide) hse (by rfl)) fun σ H Q h => by
    have q := compS_ok (wo := X.w) hp h
    rw [← ho] at q
    exact q
end
end M
/-! M28: a text times an int. -/
namespace M
open PySem PySem.Spec PyProof.Rows L2

def repS (x : Str) (k : Int) : Str := ⟨(List.replicate k.toNat x.cps).foldl (· ++ ·) #[]⟩
theorem fold_len (a : Array Nat) : ∀ (n : Nat) (b : Array Nat), ((List.replicate n a).foldl (· ++ ·) b).size = b.size + a.size * n
  | 0, b => by simp
  | n + 1, b => by
    rw [List.replicate_succ, List.foldl_cons, fold_len a n, Array.size_append, Nat.mul_succ]
    omega
theorem repS_len (x : Str) (k : Int) : (repS x k).length = x.length * k.toNat := by
  show ((List.replicate k.toNat x.cps).foldl (· ++ ·) #[]).size = _
  rw [fold_len, List.size_toArray, List.length_nil, Nat.zero_add]
  rfl
def okS (x : Str) (k : Int) : Prop := -(2 ^ 63) ≤ k ∧ k < 2 ^ 63 ∧ x.length * k.toNat ≤ sizeLine
instance (x : Str) (k : Int) : Decidable (okS x k) := by unfold okS; infer_instance
section
variable {X : Cx} {F : Fx} {pos : Pos} {W : Vw} {st : Sto}
theorem op_mulStr : OpR X (binaryOp .Mult) (fun x y H Q => ∃ s k, x = .str s ∧ y = .int k ∧ okS s k ∧ Q (.str (repS s k)) H) := by
  intro pins s σ H x y v u Q I rx ry h
  obtain ⟨z, k, rfl, rfl, ⟨h1, h2, h3⟩, q⟩ := h
  obtain ⟨t, rfl⟩ := rx
  obtain ⟨t', rfl⟩ := ry
  refine PySem.P.mul_str ?_ (fun a b => ?_) (fun a b => ?_) ?_
  · have h4 : ¬ k < -(2 ^ 63) := by omega
    have h5 : ¬ k ≥ 2 ^ 63 := by omega
    rw [decide_eq_false h4, decide_eq_false h5]
    rfl
  · have hk : 0 < k := by omega
    have e : (k.toNat : Int) = k := Int.toNat_of_nonneg (Int.le_of_lt hk)
    have e2 : (z.length : Int) * k ≤ 2 ^ 63 - 1 := by
      have := h3
      rw [sizeLine_eq] at this
      have e3 : ((z.length * k.toNat : Nat) : Int) = (z.length : Int) * k := by rw [Int.natCast_mul, e]
      omega
    have := (Int.le_ediv_iff_mul_le hk).mpr e2
    omega
  · exact decide_eq_false (by omega)
  · split
    · rename_i c
      have e : repS z k = Str.empty := by
        have : k.toNat = 0 := by omega
        unfold repS
        rw [this]
        rfl
      rw [e] at q
      exact ⟨by decide, V.str Str.empty, H, I.tok _, ⟨_, rfl⟩, q⟩
    · split
      · rename_i c
        have e : repS z k = z := by
          rcases Bool.or_eq_true_iff.mp c with c | c
          · have : k = 1 := by simpa using c
            subst this
            obtain ⟨cps⟩ := z
            show (⟨#[] ++ cps⟩ : Str) = _
            rw [Array.empty_append]
          · have hz : z.length = 0 := by simpa using c
            have hl := repS_len z k
            rw [hz, Nat.zero_mul] at hl
            obtain ⟨cps⟩ := z
            have e1 : cps = #[] := Array.size_eq_zero_iff.mp hz
            generalize hr : repS ⟨cps⟩ k = r at hl
            obtain ⟨c2⟩ := r
            have e2 : c2 = #[] := Array.size_eq_zero_iff.mp hl
            rw [e1, e2]
        rw [e] at q
        exact ⟨V.str z, H, I, ⟨_, rfl⟩, q⟩
      · exact ⟨by rw [show (⟨(List.replicate k.toNat z.cps).foldl (· ++ ·) #[]⟩ : Str) = repS z k from rfl, repS_len]; exact h3, V.str (repS z k), H, I.tok _, ⟨_, rfl⟩, q⟩
/-- *, texts too -/
def opMulT : Op2 := fun a b st => match a, b with
  | .str x, .int k => if okS x k then some (.str (repS x k), st) else none
  | a, b => opMul a b st
theorem or_mulT (hk : X.K = F.K) : OpR X (binaryOp .Mult) (r2 F opMulT) := OpR.imp (OpR.or op_mulStr (or_mul hk)) fun x y H Q ⟨W, st, a, b, I, ra, rb, p⟩ => by
  unfold opMulT at p
  split at p
  · split at p
    · cases ra; cases rb; exact .inl ⟨_, _, rfl, rfl, by assumption, I.now p (.str _)⟩
    · exact p.elim
  · exact .inr ⟨W, st, a, b, I, ra, rb, p⟩
end
end M
/-! M29: enumerate over tuples and lists. -/
namespace M
open PySem PySem.Spec PyProof.Rows L2
open AutoSeq1 (wpAny_loadPart')

section
variable {prog : Program} {w : World} {A : Around} {E : Value → Shared → Prop} {s : Shared}
theorem nextOf_tup_item {it l : Addr} {i : Nat} {items} {x : Value} {Q : Value → Shared → Prop} (hit : s.heap.IsTupleIter it l i)
    (hl : s.heap.IsTuple l items) (hx : items[i]? = some x)
    (hQ : ∀ h', h'.IsTupleIter it l (i + 1) → Heap.SameBut it s.heap h' → Q x { s with heap := h' }) :
    wpAny (model prog w) A (Builtin.SmallTypes.nextOf (.ref it)) Q E s := by
  obtain ⟨o, ho, hc, hd⟩ := id hit
  obtain ⟨ol, hol, _, nl, hdl⟩ := hl
  unfold Builtin.SmallTypes.nextOf
  refine wpAny_bind (wpAny_callSpecial?_slot (name := Str.ofString "__next__") hit.typeIs F.slot_tuple_iterator_next
    (wpAny_call_entry F.slot_tuple_iterator_next hit.typeIs F.entry_tuple_iterator_next ?_ (F.args_tuple_iterator_next_1 _)))
  show wpAny _ _ (field (.ref it) 0 >>= _) _ _ s
  refine wpAny_bind (wpAny_field ho hd (x := .ref l) rfl ?_)
  show wpAny _ _ (if (Value.ref l == Value.none) = true then _ else _) _ _ s
  rw [if_neg (show ¬ ((Value.ref l == Value.none) = true) from Bool.false_ne_true)]
  show wpAny _ _ (field (.ref it) 1 >>= _) _ _ s
  refine wpAny_bind (wpAny_field ho hd (x := .int i 0) rfl ?_)
  show wpAny _ _ (seqItems? (.ref l) >>= _) _ _ s
  refine wpAny_bind (wpAny_seqItems hol hdl ?_)
  simp only [Int.toNat_natCast, hx]
  refine wpAny_bind (wpAny_setField ho hd (by simp) (wpAny_pure ⟨x, rfl, wpAny_pure (hQ _ ?_ (Heap.SameBut.update ..))⟩))
  exact ⟨_, Heap.get?_update_self _ ho (Obj.isFreed_of_fields (Obj.data_mapFields hd _)), (Obj.cls_mapFields ..).trans hc, by
    rw [Obj.data_mapFields hd]; simp [rawInt]⟩

theorem nextOf_tup_end {it l : Addr} {i : Nat} {items} {Q : Value → Shared → Prop} (hh : A.handled = none)
    (hit : s.heap.IsTupleIter it l i) (hl : s.heap.IsTuple l items) (hx : items[i]? = none)
    (hE : ∀ h' e, Heap.ExtBut it s.heap h' → (∃ o, h'.get? e = some o ∧ o.cls = .type "StopIteration") → E (.ref e) { s with heap := h' }) :
    wpAny (model prog w) A (Builtin.SmallTypes.nextOf (.ref it)) Q E s := by
  obtain ⟨o, ho, hc, hd⟩ := id hit
  obtain ⟨ol, hol, _, nl, hdl⟩ := hl
  unfold Builtin.SmallTypes.nextOf
  refine wpAny_bind (wpAny_callSpecial?_slot (name := Str.ofString "__next__") hit.typeIs F.slot_tuple_iterator_next
    (wpAny_call_entry F.slot_tuple_iterator_next hit.typeIs F.entry_tuple_iterator_next ?_ (F.args_tuple_iterator_next_1 _)))
  show wpAny _ _ (field (.ref it) 0 >>= _) _ _ s
  refine wpAny_bind (wpAny_field ho hd (x := .ref l) rfl ?_)
  show wpAny _ _ (if (Value.ref l == Value.none) = true then _ else _) _ _ s
  rw [if_neg (show ¬ ((Value.ref l == Value.none) = true) from Bool.false_ne_true)]
  show wpAny _ _ (field (.ref it) 1 >>= _) _ _ s
  refine wpAny_bind (wpAny_field ho hd (x := .int i 0) rfl ?_)
  show wpAny _ _ (seqItems? (.ref l) >>= _) _ _ s
  refine wpAny_bind (wpAny_seqItems hol hdl ?_)
  simp only [Int.toNat_natCast, hx]
  refine wpAny_bind (wpAny_rule (wpAny_bind (wpAny_setField ho hd (by simp) ?_)))
  show wpAny _ _ (newExc (.type "StopIteration") [] >>= _) _ _ _
  refine wpAny_bind ?_
  simp only [newExc, newTuple]
  refine wpAny_bind (wpAny_newObj_type ?_ (by size_fits))
  refine wpAny_bind (m := firstArgMember _ _) (wpAny_of_eq (a := Value.none) (by first | rfl | (simp only [firstArgMember]; rfl)) ?_)
  refine wpAny_newObj_type ?_ (by size_fits)
  simp only [raiseNew]
  refine wpAny_bind (wpAny_handled ?_)
  first | rw [show A.in1.handled = none from hh] | rw [hh]
  refine wpAny_bind (wpAny_pure (wpAny_throw ?_))
  exact hE _ _ (((Heap.SameBut.update ..).extBut.push _).push _) ⟨_, Heap.get?_push_size _ rfl, rfl⟩


theorem draws_tup {prog : Program} {w : World} {A : Around} (hh : A.handled = none) (it l : Addr) (hne : l ≠ it) (items : Array Value) :
    Draws prog w A it [it, l] items.size (fun i v => items[i]? = some v) (fun i h => h.IsTupleIter it l i ∧ h.IsTuple l items) where
  live := fun _ _ st => let ⟨o, ho, _⟩ := st.1; ⟨o, ho⟩
  frame := fun _ _ _ st hk => ⟨st.1.at fun o e => hk it (by simp) o e, st.2.at fun o e => hk l (by simp) o e⟩
  item := fun i s Q E hi st hQ => by
    refine nextOf_tup_item st.1 st.2 (x := items[i]) (by simp [hi]) fun h' hit' hs' => ?_
    exact hQ _ h' s.toks (by simp [hi]) ⟨hit', st.2.extBut hs'.extBut hne⟩ hs'
  done := fun s Q E st hE => nextOf_tup_end hh st.1 st.2 (by simp) hE

theorem meets_enumT (l : Addr) (items : Array Value) (n : Nat) (dct : Option Addr) (sl : Array (Option Value)) :
    Meets (Builtin.«enumerate.__new__» ⟨[.type "enumerate", .ref l], []⟩) (fun _ R s => s.heap.get? l = some { cls := .type "tuple", dict := dct, data := .seq items n, slots := sl } ∧
      R (.ok (.ret (.ref (s.heap.push { cls := .type "tuple_iterator", data := .fields #[.ref l, .int 0 0] }).objs.size)))
        { s with heap := (s.heap.push { cls := .type "tuple_iterator", data := .fields #[.ref l, .int 0 0] }).push { cls := .type "enumerate", data := .fields #[.none, .bool false, .ref s.heap.objs.size, rawInt 0, .none, .none] } }) :=
  .of_wp fun prog w A R s h => by
    obtain ⟨hp, g, d, tk, os⟩ := s; obtain ⟨hl, h⟩ := h
    have hsub := sub_enumerate
    have hL : Heap.IsTuple (Shared.heap ⟨hp, g, d, tk, os⟩) l items := ⟨_, hl, rfl, n, rfl⟩
    wp_walk using wpAny_loadPart' hl
    refine wpAny_stack_any fun st => wpAny_pure ?_
    split
    · rename_i c _ _ _ _ _
      cases (c == Value.type "enumerate")
      · wp_walk using wpAny_loadPart' hl, wpAny_pyIter_tuple hL
        exact ⟨_, rfl, h⟩
      · wp_walk using wpAny_loadPart' hl, wpAny_pyIter_tuple hL
        exact ⟨_, rfl, h⟩
    · wp_walk using wpAny_loadPart' hl, wpAny_pyIter_tuple hL
      exact ⟨_, rfl, h⟩


theorem call_enumT {l : Addr} {items : Array Value} {Q : Value → Shared → Prop} (hL : s.heap.IsTuple l items)
    (h : ∀ h', IsEnum h' (s.heap.objs.size + 1) s.heap.objs.size 0 .none → h'.IsTupleIter s.heap.objs.size l 0 → h'.objs.size = s.heap.objs.size + 2 →
      (∀ b o, s.heap.get? b = some o → h'.get? b = some o) → Q (.ref (s.heap.objs.size + 1)) { s with heap := h' }) :
    wpAny (model prog w) A (call (.type "enumerate") [.ref l]) Q E s := by
  obtain ⟨⟨c, dct, dt, sl⟩, hl, hc, n, hd⟩ := hL
  replace hc : c = .type "tuple" := hc
  replace hd : dt = .seq items n := hd
  subst hc hd
  refine callType_new F.called_enumerate (by decide) (F.typeCall_enumerate_1 _) (F.newCall_enumerate_1 _) (fun obj => F.args_object_init_2 obj _) F.entry_enumerate_new
    (meets_enumT l items n dct sl) ⟨hl, ?_⟩
  have hz : (s.heap.push { cls := .type "tuple_iterator", data := .fields #[.ref l, .int 0 0] }).objs.size = s.heap.objs.size + 1 := Heap.size_push ..
  show _ ∧ _
  rw [hz]
  have he : IsEnum ((s.heap.push { cls := .type "tuple_iterator", data := .fields #[.ref l, .int 0 0] }).push
      { cls := .type "enumerate", data := .fields #[.none, .bool false, .ref s.heap.objs.size, rawInt 0, .none, .none] }) (s.heap.objs.size + 1) s.heap.objs.size 0 .none := by
    have := Heap.get?_push_size (s.heap.push { cls := .type "tuple_iterator", data := .fields #[.ref l, .int 0 0] })
      (o := { cls := .type "enumerate", data := .fields #[.none, .bool false, .ref s.heap.objs.size, rawInt 0, .none, .none] }) rfl
    rw [hz] at this; exact this
  refine ⟨⟨_, he, rfl⟩, h _ he ⟨_, Heap.get?_push_of_some _ (Heap.get?_push_size _ rfl), rfl, rfl⟩ (by rw [Heap.size_push, hz]) fun b o x => Heap.get?_push_of_some _ (Heap.get?_push_of_some _ x)⟩


theorem wpAny_pyNext_enum_endI {e it l : Addr} {i : Nat} {items : Array Value} {old : Value} {Q : Option Value → Shared → Prop} (hh : A.handled = none)
    (he : IsEnum s.heap e it i old) (hit : s.heap.IsTupleIter it l i) (hl : s.heap.IsTuple l items) (hx : items[i]? = none)
    (hQ : ∀ h', Heap.ExtBut it s.heap h' → Q none { s with heap := h' }) : wpAny (model prog w) A (pyNext (.ref e)) Q E s := by
  have hT : s.TypeIs (.ref e) "enumerate" := ⟨_, he, rfl⟩
  unfold pyNext
  refine wpAny_bind (wpAny_attempt (wpAny_callSpecial?_slot (name := Str.ofString "__next__") hT F.slot_enumerate_next
    (wpAny_call_entry F.slot_enumerate_next hT F.entry_enumerate_next ?_ (F.args_enumerate_next_1 _))))
  show wpAny _ _ (field (.ref e) 2 >>= _) _ _ _
  refine wpAny_bind (wpAny_field he rfl (x := .ref it) rfl ?_)
  refine wpAny_bind (nextOf_tup_end hh hit hl hx fun h' x he' hx' => ?_)
  obtain ⟨o, ho, hc⟩ := hx'
  refine wpAny_bind (wpAny_isInstance (T := "StopIteration") (b := true) ⟨o, ho, hc⟩ isSubtype_stop ?_)
  exact wpAny_pure (hQ _ he')
end
/-- the tuple at a as it stands at each turn, each item in a new pair -/
def Itu (K : PySem.W.Frag) (a : Addr) : It :=
  ⟨fun i H => ∃ (xs : List V) (x : V), SqT K H a xs ∧ xs[i]? = some x, fun i H v H' => ∃ T x, v = .ref T ∧ H T = none ∧ H' = upd H T (.tup [.int (i : Nat), x]) ∧ ∀ xs, SqT K H a xs → xs[i]? = some x, fun i H => ∃ xs : List V, SqT K H a xs ∧ xs.length ≤ i⟩
theorem turn_enumT {P : Program} {w : World} {K : PySem.W.Frag} {elts : List Expr} {kk : Nat} {tpos : Pos} (a e it : Addr) :
    Turn P w K (.Tuple elts kk tpos) (Itu K a) [e, it] e (fun i h => (∃ old, IsEnum h e it ((i : Nat) : Int) old) ∧ h.IsTupleIter it a i ∧ e ≠ it) where
  mem := by simp
  obj := fun i h st b hb => by
    obtain ⟨⟨old, he⟩, ⟨o, ho, hc, hd⟩, _⟩ := st
    have e' : b = e ∨ b = it := by simpa using hb
    rcases e' with z | z
    · rw [z]; exact ⟨_, he, fun v q => nomatch q⟩
    · rw [z]; exact ⟨o, ho, fun v q => by rw [hd] at q; cases q⟩
  keep := fun i h h' st k => let ⟨⟨old, he⟩, hi, hne⟩ := st; ⟨⟨old, k e (by simp) _ he⟩, hi.at fun o q => k it (by simp) o q, hne⟩
  item := by
    intro X hP hw hK hc i pins s σ H E I hf st hg
    subst hP hw hK
    obtain ⟨⟨old, he⟩, hit, hne⟩ := st
    obtain ⟨xs, x, hq, hx⟩ := hg
    obtain ⟨its, rv, p, hz⟩ := I.tuple hq
    obtain ⟨u, hu, ru⟩ := rv.get hx
    have hel : e < s.heap.objs.size := Heap.lt_size he
    have hil : it < s.heap.objs.size := by obtain ⟨_, q, _⟩ := hit; exact Heap.lt_size q
    have hlt : i < its.toArray.size := by
      have := (List.getElem?_eq_some_iff.mp hu).1
      simpa using this
    have hxu : its.toArray[i]? = some u := by simpa using hu
    have hae : a ≠ e := fun z => by
      obtain ⟨o, ho, hc, _⟩ := id (show s.heap.IsTuple a its.toArray from p)
      rw [z, he] at ho
      cases ho
      exact absurd (Value.type.inj hc) (by decide)
    have hai : a ≠ it := fun z => by
      obtain ⟨o, ho, hc, _⟩ := id (show s.heap.IsTuple a its.toArray from p)
      obtain ⟨o2, ho2, hc2, _⟩ := id hit
      rw [z, ho2] at ho
      cases ho
      rw [hc2] at hc
      exact absurd (Value.type.inj hc) (by decide)
    refine wpAny_pyNext_enum_itemD (n := its.toArray.size) (draws_tup (A := X.A.in1) (I.ok.hd hc) it a hai its.toArray) he ⟨hit, p⟩ hlt hne (by simp; exact ⟨hne, fun z => hae z.symm⟩) fun u' h' tk hu' ho hst' hT hsz hk => ?_
    obtain ⟨hit', _⟩ := hst'
    rw [hxu] at hu'
    cases hu'
    refine ⟨_, rfl, wpAny_letOwnedTupleGo_enum (s := { s with heap := h', toks := tk + 1 }) ho fun h'' he' sb => ?_⟩
    have hT2 : h''.get? s.heap.objs.size = some { cls := .type "tuple", data := .seq #[.int i tk, u] } := (sb.2 _ (Nat.ne_of_gt hel)).trans hT
    have new : ObjOk X.prog X.w (upd H s.heap.objs.size (.tup [.int (i : Nat), x])) h'' s.heap.objs.size (.tup [.int (i : Nat), x]) :=
      ⟨by show 2 ≤ sizeLine; decide, [.int i tk, u], .cons ⟨_, rfl⟩ (.cons ru .nil), ⟨_, hT2, rfl, _, rfl⟩⟩
    have I1 : Inv X pins σ (upd H s.heap.objs.size (.tup [.int (i : Nat), x])) { s with heap := h'', toks := tk + 1 } :=
      I.turnedNew (ch := [e, it]) (fun b ob hb q => (sb.2 b (fun z => hb (by simp [z]))).trans (hk b ob (fun z => hb (by simp [z])) (fun z => hb (by simp [z])) q)) hf (Nat.le_refl _) new
    refine ⟨.ref s.heap.objs.size, _, I1, rfl, ⟨_, x, rfl, I.hok.fresh (Nat.le_refl _), rfl, fun ys hy => by rw [I.tuple_inj hy hq]; exact hx⟩, ⟨⟨u, ?_⟩, hit'.at fun o q => (sb.2 it (Ne.symm hne)).trans q, hne⟩, fun b hb => ?_⟩
    · have e1 : ((i + 1 : Nat) : Int) = (i : Int) + 1 := by omega
      rw [e1]; exact he'
    · have hb' : b < s.heap.objs.size := by
        have e' : b = e ∨ b = it := by simpa using hb
        rcases e' with z | z
        · rw [z]; exact hel
        · rw [z]; exact hil
      rw [upd_ne (Nat.ne_of_lt hb')]
      exact (hf b hb).1
  done := by
    intro X hP hw hK hc i pins s σ H E I hf st hg
    subst hP hw hK
    obtain ⟨⟨old, he⟩, hit, hne⟩ := st
    obtain ⟨xs, hq, hx⟩ := hg
    obtain ⟨its, rv, p, hz⟩ := I.tuple hq
    obtain ⟨f0, f1, f2, f3, f4, f5⟩ := hf it (by simp)
    have hl := rv.length
    have hai : a ≠ it := fun z => by
      obtain ⟨o, ho, hc, _⟩ := id (show s.heap.IsTuple a its.toArray from p)
      obtain ⟨o2, ho2, hc2, _⟩ := id hit
      rw [z, ho2] at ho
      cases ho
      rw [hc2] at hc
      exact absurd (Value.type.inj hc) (by decide)
    have hsz : its.toArray.size ≤ i := by simp; omega
    refine wpAny_pyNext_enum_endI (I.ok.hd hc) he hit (show s.heap.IsTuple a its.toArray from p) (by simp; omega) fun h' eb => ⟨rfl, I.turned (t' := s.toks) (fun b o hb q => eb b o hb q) f0 f1 f3 f4 f5⟩
  self := fun A i s Q E st h => let ⟨⟨_, he⟩, _⟩ := st; wpAny_pyIter_enum he h
end M
/-! M30: loops over enumerate(e). -/
namespace M
open PySem PySem.Spec PyProof.Rows L2

def iEnumT (K : PySem.W.Frag) (ta : TA) : L2.TI := fun σ H R => ta σ H fun vs H1 => ∃ a, vs = [.ref a] ∧ ((∃ xs, SqL K H1 a xs ∧ R (Ite K a) H1) ∨ ∃ xs, SqT K H1 a xs ∧ R (Itu K a) H1)
theorem pi_enumT {X : Cx} {e : Expr} {ta : TA} {p pos tpos : Pos} {elts : List Expr} {kk : Nat} (hg : Gl X "enumerate") (hm : X.mg "enumerate" = none) (ha : PA X [e] ta) (hs : starEach [e] X.env = [(false, eval e X.env)] := by rfl) :
    PI X (.Tuple elts kk tpos) (.Call (.Name "enumerate" p) [e] [] pos) (iEnumT X.K ta) := by
  refine ⟨fun pins s σ H R I h => ?_⟩
  refine Call_ (ld_blt I hg hm boot_enumerate (PyProof.Rows.callWith_type1 (thn (ha.run pos pins s σ H _ I h) fun us s1 ⟨vs, H1, I1, r1, q1⟩ => ?_) hs rfl))
  obtain ⟨a, ex, q1⟩ := q1
  subst ex
  cases r1 with
  | cons r rr =>
    cases rr
    cases r
    have fp : ∀ b ∈ [s1.heap.objs.size + 1, s1.heap.objs.size], FpOk X pins H1 b := fun b hb => by
      have e' : b = s1.heap.objs.size + 1 ∨ b = s1.heap.objs.size := by simpa using hb
      have hle : s1.heap.objs.size ≤ b := by
        rcases e' with z | z
        · rw [z]; exact Nat.le_add_right _ _
        · rw [z]; exact Nat.le_refl _
      exact I1.fpOk hle (I1.hok.fresh hle)
    rcases q1 with ⟨xs, hq, q⟩ | ⟨xs, hq, q⟩
    · obtain ⟨its, rv, p', hz⟩ := I1.list hq
      refine call_enumerate_list p'.isList fun h' he hit hsz hk => wpAny_pyIter_enum he ?_
      exact ⟨s1.heap.objs.size + 1, [s1.heap.objs.size + 1, s1.heap.objs.size], _, _, H1, rfl, I1.kept (t' := s1.toks) hk, turn_enum a (s1.heap.objs.size + 1) s1.heap.objs.size, ⟨⟨.none, he⟩, hit, Nat.succ_ne_self _⟩, fp, q⟩
    · obtain ⟨its, rv, p', hz⟩ := I1.tuple hq
      refine call_enumT (show s1.heap.IsTuple a its.toArray from p') fun h' he hit hsz hk => wpAny_pyIter_enum he ?_
      exact ⟨s1.heap.objs.size + 1, [s1.heap.objs.size + 1, s1.heap.objs.size], _, _, H1, rfl, I1.kept (t' := s1.toks) hk, turn_enumT a (s1.heap.objs.size + 1) s1.heap.objs.size, ⟨⟨.none, he⟩, hit, Nat.succ_ne_self _⟩, fp, q⟩
def nxE (xs : List D) : Nx := fun i st => match xs[i]? with
  | some d => some (some (.tup [.int i, d]))
  | none => some none
def kEnumW : List D → Sto → R (Nx × Nat) := fun ds s => match ds with
  | [.tup xs] => .ok (nxE xs, xs.length) s
  | [.lst xs] => .ok (nxE xs, xs.length) s
  | _ => .bad
def wEnum (j : IA) : IW := fun env st => (j env st).bind kEnumW
section
variable {W : Vw} {X : Cx} {F : Fx} {pos : Pos}
theorem pair_new {V : Vw} {st : Sto} {T : Addr} {i : Nat} {d : D} {v : L2.V} (S : Sim V st) (hT : V.H T = none) (rv : RV V d v) :
    Ext V V.ρ (upd V.H T (.tup [.int (i : Nat), v])) ∧ Sim (V.to V.ρ (upd V.H T (.tup [.int (i : Nat), v]))) st ∧ RV (V.to V.ρ (upd V.H T (.tup [.int (i : Nat), v]))) (.tup [.int i, d]) (.ref T) :=
  ⟨ext_new0 hT, S.new0 hT, .tup (.inl ⟨upd_same, new_fro S hT⟩) (.cons (.int i) (.cons (rv.mono (ext_new0 hT)) .nil))⟩
theorem itok_enumT {a : Addr} {xs : List D} {ys : List L2.V} {m : Nat} (t : W.Tup a ys) (r : RVs W xs ys) : ItOk W (nxE xs, m) (Itu W.K a) where
  go := fun V st i d x S e => by
    have e0 : nxE xs i st = some (some d) := e
    unfold nxE at e0
    split at e0
    · rename_i z e'
      cases e0
      have t' := (t.vx x).sq
      have r' := r.vx x
      rw [x.k] at t'
      obtain ⟨v, hv, rv⟩ := r'.get e'
      refine ⟨⟨ys, v, t', hv⟩, fun y H2 ⟨T, u, ey, hT, e2, f⟩ => ?_⟩
      subst ey
      subst e2
      have q := f ys t'
      rw [hv] at q
      cases q
      exact pair_new S hT rv
    · cases e0
  stop := fun V st i x S e => by
    have e0 : nxE xs i st = some none := e
    unfold nxE at e0
    split at e0
    · cases e0
    · rename_i e'
      refine ⟨ys, by rw [← x.k]; exact (t.vx x).sq, ?_⟩
      rw [← r.length]
      exact List.getElem?_eq_none_iff.mp e'
theorem itok_enumL {a : Addr} {xs : List D} {ys : List L2.V} {m : Nat} (t : W.Lst a ys) (r : RVs W xs ys) : ItOk W (nxE xs, m) (Ite W.K a) where
  go := fun V st i d x S e => by
    have e0 : nxE xs i st = some (some d) := e
    unfold nxE at e0
    split at e0
    · rename_i z e'
      cases e0
      have t' := (t.vx x).sq
      have r' := r.vx x
      rw [x.k] at t'
      obtain ⟨v, hv, rv⟩ := r'.get e'
      refine ⟨⟨ys, v, t', hv⟩, fun y H2 ⟨T, u, ey, hT, e2, f⟩ => ?_⟩
      subst ey
      subst e2
      have q := f ys t'
      rw [hv] at q
      cases q
      exact pair_new S hT rv
    · cases e0
  stop := fun V st i x S e => by
    have e0 : nxE xs i st = some none := e
    unfold nxE at e0
    split at e0
    · cases e0
    · rename_i e'
      refine ⟨ys, by rw [← x.k]; exact (t.vx x).sq, ?_⟩
      rw [← r.length]
      exact List.getElem?_eq_none_iff.mp e'
/-- for x, y in enumerate(e) -/
theorem w_enum {elts : List Expr} {kk : Nat} {tpos p : Pos} {e : Expr} {j : IA} (hk : X.K = F.K) (hg : Gl X "enumerate") (hm : X.mg "enumerate" = none) (ha : PA X [e] (TA_ F j)) (hs : starEach [e] X.env = [(false, eval e X.env)] := by rfl) :
    PI X (.Tuple elts kk tpos) (.Call (.Name "enumerate" p) [e] [] pos) (TW F (wEnum j)) := PI.imp (pi_enumT hg hm ha hs) fun σ H Q h =>
  (TX.bind (k := fun ds env s => kEnumW ds s) h).mono fun x H1 ⟨W, s, env, ds, A, r, p⟩ => by
    have p' : Post W ItOk (kEnumW ds s) Q (F.at_ σ) := p
    unfold kEnumW at p'
    split at p'
    · rename_i xs
      obtain ⟨v, rfl, rv⟩ := rv1 r
      cases rv with
      | tup t r2 =>
        have q := p' W.ρ W.H _ Ext.refl A.sim (itok_enumT t r2)
        have t' := t.sq
        rw [A.k, ← hk] at q t'
        rw [A.h] at q t'
        exact ⟨_, rfl, .inr ⟨_, t', q⟩⟩
    · rename_i xs
      obtain ⟨v, rfl, rv⟩ := rv1 r
      cases rv with
      | lst t r2 =>
        have q := p' W.ρ W.H _ Ext.refl A.sim (itok_enumL t r2)
        have t' := t.sq
        rw [A.k, ← hk] at q t'
        rw [A.h] at q t'
        exact ⟨_, rfl, .inl ⟨_, t', q⟩⟩
    · exact p'.elim
end
end M
/-! M31: x, y, z = a, b, c. -/
namespace M
open PySem PySem.Spec PyProof.Rows L2
section
variable {X : Cx} {F : Fx} {pos : Pos}
/-- x, y, z = a, b, c: all three first -/
def sPar3 (i j l : Nat) (a : IA) : IS := fun env st => liftS (a env st) env fun ds s => match ds with
  | [d, e, f] => .nx (((env.set i (some d)).set j (some e)).set l (some f)) s
  | _ => .bad
theorem s_par3 {i j l : Nat} {x y z : Str} {a b c : Expr} {ta : IA} {px py pz pt : Pos} {kt k2 pt2} (hc : X.calm = true) (hN : X.N.Nodup) (hi : X.N[i]? = some x) (hj : X.N[j]? = some y) (hl : X.N[l]? = some z) (hij : i ≠ j) (hil : i ≠ l) (hjl : j ≠ l)
    (hx : X.env.scope.names.lookup x = some .local) (hy : X.env.scope.names.lookup y = some .local) (hz : X.env.scope.names.lookup z = some .local) (ha : PA X [a, b, c] (TA_ F ta))
    (hw : swappedStores [.Tuple [.Name x px, .Name y py, .Name z pz] kt pt] (.Tuple [a, b, c] k2 pt2) X.env = pure (some [x, y, z]))
    (hs : swapsWithSole [.Tuple [.Name x px, .Name y py, .Name z pz] kt pt] (.Tuple [a, b, c] k2 pt2) pos.line X.env = pure false := by rfl) :
    PS X (.Assign [.Tuple [.Name x px, .Name y py, .Name z pz] kt pt] (.Tuple [a, b, c] k2 pt2) pos) (TS_ F (sPar3 i j l ta)) := PS.imp (ps_par3 hc hN hi hj hl hij hil hjl hx hy hz ha hw hs) fun N σ H h =>
  (TX.bindS (k := fun ds env s => match ds with
  | [d, e, f] => .nx (((env.set i (some d)).set j (some e)).set l (some f)) s
  | _ => .bad) h).mono fun vs H1 ⟨W, s, env, ds, A, r, p⟩ => by
    split at p
    · obtain ⟨v, u, w, rfl, r1, r2, r3⟩ := rv3 r
      have q := PostS.nx p A.sim (((A.env.set r1 i).set r2 j).set r3 l)
      rw [A.h] at q
      exact ⟨v, u, w, rfl, q⟩
    · exact p.elim
end
end M
/-! M32: any target ahead in a tuple of targets. -/
namespace M
open PySem PySem.Spec PyProof.Rows L2
section
variable {X : Cx} {F : Fx} {pos : Pos}
def gsCons (g : IG) (h : IGs) : IGs := fun ds env st => match ds with
  | d :: ds => (g d env st).bind fun env' s => h ds env' s
  | [] => .bad
theorem gs_cons {e : Expr} {es : List Expr} {g : IG} {h : IGs} (h1 : PG X e (TG_ F g)) (h2 : PGs X es (TGs_ F h)) (ne : ∀ ds env st C fs s, h ds env st ≠ .exc C fs s)
    (hs : (assignEach (e :: es) X.env).map (·.2) = assign e X.env :: (assignEach es X.env).map (·.2) := by rfl) : PGs X (e :: es) (TGs_ F (gsCons g h)) := by
  refine ⟨fun pins s σ H vs us Q I r w => (pgs_cons (X := X) h1 h2 hs).run pins s σ H vs us Q I r ?_⟩
  obtain ⟨W, s, env, ds, A, rv, p⟩ := w
  unfold gsCons at p
  split at p
  · rename_i d ds
    cases rv with
    | cons r1 r3 =>
      refine ⟨_, _, rfl, W, s, env, d, A, r1, ?_⟩
      cases q : g d env s with
      | bad => rw [q] at p; exact p
      | exc C fs s2 => rw [q] at p; exact p
      | ok e2 s2 =>
        rw [q] at p
        intro ρ' H' σ' x S er
        refine ⟨W.to ρ' H', s2, e2, ds, ⟨A.k, A.g, rfl, S, er⟩, r3.mono x, ?_⟩
        have p2 : Post W PE_ (h ds e2 s2) Q (F.at_ σ) := p
        have p3 := Post.ext x p2
        cases z : h ds e2 s2 with
        | ok e3 s3 => rw [z] at p3; exact p3
        | exc C fs s3 => exact absurd z (ne _ _ _ _ _ _)
        | bad => rw [z] at p3; exact p3
  · exact p.elim
end
end M
/-! M33: recursion by fuel: with no fuel nothing is promised. -/
namespace M
open PySem PySem.Spec PyProof.Rows L2
theorem fn_bad {P : Program} {w : World} {K : PySem.W.Frag} {mg : Str → Option Value} {base : Heap} {g : Str → Addr} {k : Nat} {f : Addr} {fd : FuncData} {ps : List Str} : FnG P w K mg base k f fd ps (SPx K g fun _ _ => .bad) :=
  ⟨fun vs H Q E ⟨W, st, ds, _, _, _, _, r, p⟩ => p.elim, fun A o s H a us vs Q E hr hg e b v ⟨W, st, ds, _, _, _, _, r, p⟩ => p.elim⟩
end M
/-! M34: tuples of the module, walks of texts, of anything; str of a text; own classes' facts; the Hook with properties. -/
namespace M
open PySem PySem.Spec PyProof.Rows L2

/-! ### a tuple written at the module's top -/
def dvD : He.Dv → D
  | .bl b => .bl b
  | .int i => .int i
  | .str x => .str x
  | .glo x => .glo x
  | _ => .non
def dvOk : He.Dv → Bool
  | .non => true
  | .bl _ => true
  | .int _ => true
  | .str _ => true
  | .glo _ => true
  | _ => false
theorem dv_rv {W : Vw} {K : PySem.W.Frag} (hg : W.g = He.ga K) {v : He.Dv} (h : dvOk v = true) : RV W (dvD v) (v.v K) := by
  cases v <;> first | exact .non | exact .bl _ | exact .int _ | exact .str _ | (rw [show (He.Dv.glo _).v K = V.ref (W.g _) by rw [hg]; rfl]; exact .glo _) | cases h
theorem dvs_rv {W : Vw} {K : PySem.W.Frag} (hg : W.g = He.ga K) : ∀ {vs : List He.Dv}, vs.all dvOk = true → RVs W (vs.map dvD) (vs.map (He.Dv.v K))
  | [], _ => .nil
  | v :: vs, h => by
    have h' := He.ba (show (dvOk v && vs.all dvOk) = true from h)
    exact .cons (dv_rv hg h'.1) (dvs_rv hg h'.2)
section
variable {X : Cx} {F : Fx} {pos : Pos}
theorem e_gtup {x : Str} {vs : List He.Dv} (hF : F.g = He.ga F.K) (hg : Gl X x) (hm : X.mg x = some (.ref (He.ga F.K x))) (ht : He.tupB F.K x vs = true) (hv : vs.all dvOk = true) (hd : (x == ("__debug__" : Str)) = false := by decide) : PE X (.Name x pos) (TI F (iC (.tup (vs.map dvD)))) :=
  e_con (pe_glob hg hm (v := .ref (He.ga F.K x)) rfl hd) fun W k g => by
    have q := He.tupB_ok ht (fun _ => none)
    rcases q with q | q
    · rcases q with q | q
      · cases q
      · obtain ⟨o, q⟩ := q; cases q
    · obtain ⟨o, its, n, h1, h2, h3, h4, h5⟩ := q
      exact .tup (.inr ⟨o, its, n, by rw [k]; exact h1, h2, h3, h4, h5⟩) (dvs_rv (g.trans hF) hv)
/-! ### walks -/
def nxS (x : Str) : Nx := fun i _ => match x.cps[i]? with
  | some c => some (some (.str ⟨#[c]⟩))
  | none => some none
theorem itok_str {W : Vw} {x : Str} {m : Nat} : ItOk W (nxS x, m) (Its x) where
  go := fun V st i d vx S e => by
    have e' : (match x.cps[i]? with
      | some c => some (some (D.str ⟨#[c]⟩))
      | none => some none) = some (some d) := e
    cases q : x.cps[i]? with
    | none => rw [q] at e'; cases e'
    | some c =>
      rw [q] at e'
      cases e'
      refine ⟨(Array.getElem?_eq_some_iff.mp q).1, fun y H2 ⟨e2, c', h1, h2⟩ => ?_⟩
      rw [q] at h1
      cases h1
      subst h2 e2
      exact ⟨Ext.refl, S, .str _⟩
  stop := fun V st i vx S e => by
    have e' : (match x.cps[i]? with
      | some c => some (some (D.str ⟨#[c]⟩))
      | none => some none) = some none := e
    cases q : x.cps[i]? with
    | none => exact Array.getElem?_eq_none_iff.mp q
    | some c => rw [q] at e'; cases e'
def kStrW (d : D) (s : Sto) : R (Nx × Nat) := match d with
  | .str x => .ok (nxS x, x.cps.size) s
  | _ => .bad
def wStr (i : IE) : IW := fun env st => (i env st).bind kStrW
theorem w_str {tg l : Expr} {i : IE} (hl : PE X l (TI F i)) : PI X tg l (TW F (wStr i)) := PI.imp (pi_str hl) fun σ H Q h =>
  (TX.bind (k := fun d env s => kStrW d s) h).mono fun x H1 ⟨W, s, env, d, A, r, p⟩ => by
    have p' : Post W ItOk (kStrW d s) Q (F.at_ σ) := p
    unfold kStrW at p'
    split at p'
    · cases r
      have q := p' W.ρ W.H _ Ext.refl A.sim itok_str
      rw [A.h] at q
      exact ⟨_, rfl, q⟩
    · exact p'.elim
end
end M
/-! M35: str of a text or an int; own classes' facts; the Hook with properties. -/
namespace M
open PySem PySem.Spec PyProof.Rows L2
open He (eqO eqO_ok ba)

def opStrS : OpN := fun ds st => match ds with
  | [.str a] => some (.str a, st)
  | [.int i] => opStr [.int i] st
  | _ => none
section
variable {X : Cx} {F : Fx} {W : Vw} {st : Sto} {pos : Pos}
theorem cr_strS : CallR X (.type "str") (rN F opStrS) := fun pins s σ H xs us Q I r ⟨W, st, ds, J, rd, p⟩ => by
  unfold opStrS at p
  split at p
  · obtain ⟨v, rfl, rv⟩ := rv1 rd
    cases rv
    obtain ⟨u, rfl, t, rfl⟩ := vals1 r
    exact PySem.P.str_of_str ⟨.str _, H, I, ⟨t, rfl⟩, J.now p (.str _)⟩
  · exact cr_str pins s σ H xs us Q I r ⟨W, st, _, J, rd, p⟩
  · exact p.elim
/-- walks of tuples, lists, texts -/
def kAnyW (d : D) (s : Sto) : R (Nx × Nat) := match d with
  | .tup _ => kTupW d s
  | .str _ => kStrW d s
  | _ => kSeqW d s
def wAny (i : IE) : IW := fun env st => (i env st).bind kAnyW
theorem PI.or {tg e : Expr} {t t' : L2.TI} (h : PI X tg e t) (h' : PI X tg e t') : PI X tg e (fun σ H R => t σ H R ∨ t' σ H R) := ⟨fun p s σ H Q I q => q.elim (h.run p s σ H Q I) (h'.run p s σ H Q I)⟩
end
/-! ### own classes -/
/-- isinstance of its instances -/
def insB (K : PySem.W.Frag) (x : Str) : Bool := (He.Fa.cls x).ok K && (eqO (PySem.W.findIn K (.ref (He.ga K x)) "__class__") (some (some (.builtin "object.__class__"))) && (eqO (PySem.W.specialIn K (.builtin "object.__class__") "__get__") (some (some (.builtin "getset_descriptor.__get__"))) &&
  (decide (PySem.W.takesIn K (.builtin "object.__class__") = some true) && decide (PySem.W.mroIn K (He.ga K x) (.type "object") = some true))))
theorem insB_ok {K : PySem.W.Frag} {x : Str} (h : insB K x = true) : InsF K (He.ga K x) := by
  obtain ⟨h1, h⟩ := ba h
  obtain ⟨h2, h⟩ := ba h
  obtain ⟨h3, h⟩ := ba h
  obtain ⟨h4, h5⟩ := ba h
  exact ⟨He.cls_ok h1, eqO_ok h2, eqO_ok h3, of_decide_eq_true h4, of_decide_eq_true h5⟩
/-- its own __eq__ -/
def eqcB (K : PySem.W.Frag) (x : Str) (ts : List String) : Bool := eqO (PySem.W.findIn K (.ref (He.ga K x)) "__eq__") (some (some (.ref (He.ma K (He.ga K x) "__eq__")))) && (PySem.W.isFn K (.ref (He.ma K (He.ga K x) "__eq__")) && (eqO (PySem.W.findIn K (.ref (He.ga K x)) "__ne__") (some (some (.builtin "object.__ne__"))) &&
  (decide (PySem.W.mroIn K (He.ga K x) (.type "object") = some true) && ts.all fun t => decide (PySem.W.subIn K (.type t) (.ref (He.ga K x)) = some false))))
theorem eqcB_ok {K : PySem.W.Frag} {x : Str} {ts : List String} (h : eqcB K x ts = true) : EqC K (He.ga K) x (He.ma K (He.ga K x) "__eq__") ts := by
  obtain ⟨h1, h⟩ := ba h
  obtain ⟨h2, h⟩ := ba h
  obtain ⟨h3, h⟩ := ba h
  obtain ⟨h4, h5⟩ := ba h
  exact ⟨eqO_ok h1, h2, eqO_ok h3, of_decide_eq_true h4, fun t ht => of_decide_eq_true (List.all_eq_true.mp h5 t ht)⟩
/-- str(o), repr(o) by own methods -/
def slotB (K : PySem.W.Frag) (x m : Str) : Bool := eqO (PySem.W.findIn K (.ref (He.ga K x)) m) (some (some (.ref (He.ma K (He.ga K x) m)))) && PySem.W.isFn K (.ref (He.ma K (He.ga K x) m))
theorem slotB_ok {K : PySem.W.Frag} {x m : Str} (h : slotB K x m = true) : PySem.W.findIn K (.ref (He.ga K x)) m = some (some (.ref (He.ma K (He.ga K x) m))) ∧ PySem.W.isFn K (.ref (He.ma K (He.ga K x) m)) = true := ⟨eqO_ok (ba h).1, (ba h).2⟩
/-- a property's object, its getter -/
def ppA (K : PySem.W.Frag) (x f : Str) : Addr := He.ma K (He.ga K x) f
def pgA (K : PySem.W.Frag) (x f : Str) : Addr := match PySem.W.recIn K (ppA K x f) "property" with
  | some (.ref g :: _) => g
  | _ => 0
def isRef (g : Addr) : Option (List Value) → Bool
  | some (.ref a :: _) => decide (a = g)
  | _ => false
def propB (K : PySem.W.Frag) (x f : Str) : Bool := eqO (PySem.W.findIn K (.ref (He.ga K x)) f) (some (some (.ref (ppA K x f)))) && (eqO (PySem.W.specialIn K (.ref (ppA K x f)) "__get__") (some (some (.builtin "property.__get__"))) && (decide (PySem.W.takesIn K (.ref (ppA K x f)) = some true) &&
  isRef (pgA K x f) (PySem.W.recIn K (ppA K x f) "property")))
theorem propB_ok {K : PySem.W.Frag} {x f : Str} (h : propB K x f = true) : PropOf K (He.ga K x) f (ppA K x f) (pgA K x f) := by
  obtain ⟨h1, h⟩ := ba h
  obtain ⟨h2, h⟩ := ba h
  obtain ⟨h3, h4⟩ := ba h
  refine ⟨eqO_ok h1, eqO_ok h2, of_decide_eq_true h3, ?_⟩
  unfold isRef at h4
  split at h4
  · rename_i a r e
    rw [of_decide_eq_true h4] at e
    exact ⟨r, e⟩
  · cases h4
/-- a property's getter as a def -/
structure PD where
  cls : Str
  fld : Str
  name : Str
  qual : Str
  params : Arguments
  body : List Stmt
  scope : Scope
def fnA (K : PySem.W.Frag) (a : Addr) : He.FnW := match K.lookup a with
  | some ⟨_, _, .func fd, _⟩ => some (fd.name, fd.qualname, fd.params, fd.body, fd.scope, fd.globals, fd.closure, fd.builtins)
  | _ => none
def PD.val (d : PD) : He.FnW := some (d.name, d.qual, d.params, .stmts d.body, d.scope, mainGlobals, [], builtinsNs)
def PD.ok (K : PySem.W.Frag) (d : PD) : Bool := propB K d.cls d.fld && (PySem.W.keepIn K (.ref (pgA K d.cls d.fld)) && (match K.lookup (pgA K d.cls d.fld) with
  | some ⟨_, _, .func fd, _⟩ => PySem.W.codeIn K fd.code d.qual && (He.dflB K fd.defaults [] && He.kwdB K fd.kwdefaults [])
  | _ => false))
theorem PD.funD {K : PySem.W.Frag} {d : PD} (e : fnA K (pgA K d.cls d.fld) = d.val) (c : d.ok K = true) : ∃ fd, FunD K d.name d.qual d.params d.body d.scope [] [] (pgA K d.cls d.fld) fd := by
  obtain ⟨_, c⟩ := ba c
  obtain ⟨kp, c2⟩ := ba c
  unfold fnA at e
  cases q : K.lookup (pgA K d.cls d.fld) with
  | none =>
    rw [q] at c2
    cases c2
  | some o =>
    obtain ⟨oc, od, dt, osl⟩ := o
    rw [q] at c2 e
    cases dt with
    | func fd =>
      obtain ⟨n1, n2, n3, n4, n5, n6, n7, n8, n9, n10, n11, n12, n13, n14, n15⟩ := fd
      have e2 : (some (n1, n2, n3, n4, n5, n6, n7, n15) : He.FnW) = some (d.name, d.qual, d.params, .stmts d.body, d.scope, mainGlobals, [], builtinsNs) := e
      simp only [Option.some.injEq, Prod.mk.injEq] at e2
      obtain ⟨h1, h2, h3, h4, h5, h6, h7, h8⟩ := e2
      subst h1 h2 h3 h4 h5 h6 h7 h8
      have c3 : (PySem.W.codeIn K n13 d.qual && (He.dflB K n8 [] && He.kwdB K n9 [])) = true := c2
      obtain ⟨k1, k2⟩ := ba c3
      obtain ⟨k3, k4⟩ := ba k2
      exact ⟨_, ⟨oc, od, n8, n9, n10, n11, n12, n13, n14, osl, rfl, q, k1, He.dflB_ok k3, He.kwdB_ok k4⟩, kp⟩
    | _ => cases c2
/-! ### the Hook -/
abbrev AlP : Type := Bool × He.AlD × List He.FnW
def obsP (B : PySem.W.Frag → Bool) (fa : List He.Fa) (fn : List He.DefD) (pd : List PD) (K : PySem.W.Frag) : AlP := (B K && pd.all (fun d => d.ok K), He.obsD fa fn K, pd.map fun d => fnA K (pgA K d.cls d.fld))
def valP (fn : List He.DefD) (pd : List PD) : AlP := (true, He.valD fn, pd.map PD.val)
def SaysP (B : PySem.W.Frag → Bool) (fa : List He.Fa) (fn : List He.DefD) (pd : List PD) (K : PySem.W.Frag) : Prop := obsP B fa fn pd K = valP fn pd
def obsPG (n : Nat) (B : PySem.W.Frag → Bool) (fa : List He.Fa) (fn : List He.DefD) (pd : List PD) (g : Addr → Option Obj) : AlP := obsP B fa fn pd (He.frG g (He.asD g n))
def hookP (n : Nat) (B : PySem.W.Frag → Bool) (fa : List He.Fa) (fn : List He.DefD) (pd : List PD) : PySem.W.Hook where
  α := AlP
  obs := fun s => obsPG n B fa fn pd s.heap.get?
  val := fun _ => valP fn pd
  says := fun _ h => ∃ K : PySem.W.Frag, K.In h ∧ SaysP B fa fn pd K
  of := fun _ _ e => ⟨_, He.frG_in, e⟩
  keeps := fun _ _ _ ⟨K, hK, c⟩ k => ⟨K, PySem.W.Frag.In.keeps hK k, c⟩
section
variable {n : Nat} {B : PySem.W.Frag → Bool} {fa : List He.Fa} {fn : List He.DefD} {pd : List PD} {K : PySem.W.Frag}
theorem obsPG_eq {g : Addr → Option Obj} {s : Shared} (h : ∀ a, g a = s.heap.get? a) : obsPG n B fa fn pd g = (hookP n B fa fn pd).obs s := by
  have e : g = s.heap.get? := funext h
  rw [e] <;> rfl
theorem SaysP.says (c : SaysP B fa fn pd K) : He.SaysD fa fn K := congrArg (fun z : AlP => z.2.1) c
theorem SaysP.bb (c : SaysP B fa fn pd K) : (B K && pd.all (fun d => d.ok K)) = true := congrArg (fun z : AlP => z.1) c
theorem SaysP.b (c : SaysP B fa fn pd K) : B K = true := (ba c.bb).1
theorem SaysP.prop (c : SaysP B fa fn pd K) (i : Nat) {d : PD} (h : pd[i]? = some d := by rfl) : PropOf K (He.ga K d.cls) d.fld (ppA K d.cls d.fld) (pgA K d.cls d.fld) ∧ ∃ fd, FunD K d.name d.qual d.params d.body d.scope [] [] (pgA K d.cls d.fld) fd := by
  have c1 := List.all_eq_true.mp (ba c.bb).2 d (List.mem_of_getElem? h)
  have e : pd.map (fun d => fnA K (pgA K d.cls d.fld)) = pd.map PD.val := congrArg (fun z : AlP => z.2.2) c
  have e2 : (pd.map fun d => fnA K (pgA K d.cls d.fld))[i]? = (pd.map PD.val)[i]? := by rw [e]
  rw [List.getElem?_map, List.getElem?_map, h] at e2
  exact ⟨propB_ok (ba c1).1, PD.funD (Option.some.inj e2) c1⟩
end
end M
/-! M36: walks of anything; lists of both kinds added, extended; defs that read the store and hand back plain values. -/
namespace M
open PySem PySem.Spec PyProof.Rows L2
section
variable {X : Cx} {F : Fx} {W : Vw} {st : Sto} {pos : Pos}
theorem w_any {tg l : Expr} {i : IE} (hk : X.K = F.K) (hl : PE X l (TI F i)) : PI X tg l (TW F (wAny i)) := PI.imp (PI.or (w_tup hk hl) (PI.or (w_str hl) (w_seq hk hl))) fun σ H Q ⟨W, st, env, A, p⟩ => by
  have p' : Post W ItOk ((i env st).bind kAnyW) Q (F.at_ σ) := p
  cases e : i env st with
  | bad => rw [e] at p'; exact p'.elim
  | exc C fs s =>
    rw [e] at p'
    refine .inr (.inr ⟨W, st, env, A, ?_⟩)
    show Post W ItOk ((i env st).bind kSeqW) Q (F.at_ σ)
    rw [e]; exact p'
  | ok d s =>
    rw [e] at p'
    have p2 : Post W ItOk (kAnyW d s) Q (F.at_ σ) := p'
    unfold kAnyW at p2
    split at p2
    · refine .inl ⟨W, st, env, A, ?_⟩
      show Post W ItOk ((i env st).bind kTupW) Q (F.at_ σ)
      rw [e]; exact p2
    · refine .inr (.inl ⟨W, st, env, A, ?_⟩)
      show Post W ItOk ((i env st).bind kStrW) Q (F.at_ σ)
      rw [e]; exact p2
    · refine .inr (.inr ⟨W, st, env, A, ?_⟩)
      show Post W ItOk ((i env st).bind kSeqW) Q (F.at_ σ)
      rw [e]; exact p2
/-! ### lists added -/
theorem alst_lse (S : Sim W st) {d : D} {v : V} {xs : List D} (h : alst st d = some xs) (r : RV W d v) : ∃ a ys, v = .ref a ∧ LsE W.K W.H a ys ∧ RVs W xs ys := by
  cases d with
  | lst zs => cases h; exact lst_at r
  | ref n =>
    obtain ⟨_, a, ys, _, rfl, _, _, e, r2⟩ := mlst_at S (d := .ref n) (xs := xs) h r
    exact ⟨a, ys, rfl, .inl (.inl e), r2⟩
  | _ => cases h
/-- a new list -/
def opAddM : Op2 := fun a b st => match alst st a, alst st b with
  | some xs, some ys => if xs.length + ys.length ≤ sizeLine then some (.ref st.length, st ++ [.lst (xs ++ ys)]) else none
  | _, _ => none
def opAddF : Op2 := fun a b st => match alst st a, alst st b with
  | some xs, some ys => if xs.length + ys.length ≤ sizeLine then some (.lst (xs ++ ys), st) else none
  | _, _ => none
theorem or_addM (hk : X.K = F.K) : OpR X (binaryOp .Add) (r2 F opAddM) := OpR.imp op_catL fun x y H Q ⟨W, st, a, b, I, ra, rb, p⟩ => by
  unfold opAddM at p
  split at p
  · rename_i xs ys h1 h2
    split at p
    · rename_i c
      obtain ⟨q, xs', rfl, t1, r⟩ := alst_lse I.sim h1 ra
      obtain ⟨u, ys', rfl, t2, r'⟩ := alst_lse I.sim h2 rb
      have eH := I.h
      subst eH
      rw [I.k, ← hk] at t1 t2
      exact ⟨q, u, _, _, rfl, rfl, t1, t2, by rw [← r.length, ← r'.length]; exact c, fun z hz => p.list I.sim (r.append r') hz⟩
    · exact p.elim
  · exact p.elim
theorem or_addF (hk : X.K = F.K) : OpR X (binaryOp .Add) (r2 F opAddF) := OpR.imp op_catL fun x y H Q ⟨W, st, a, b, I, ra, rb, p⟩ => by
  unfold opAddF at p
  split at p
  · rename_i xs ys h1 h2
    split at p
    · rename_i c
      obtain ⟨q, xs', rfl, t1, r⟩ := alst_lse I.sim h1 ra
      obtain ⟨u, ys', rfl, t2, r'⟩ := alst_lse I.sim h2 rb
      have eH := I.h
      subst eH
      rw [I.k, ← hk] at t1 t2
      exact ⟨q, u, _, _, rfl, rfl, t1, t2, by rw [← r.length, ← r'.length]; exact c, fun z hz => p.listF I.sim (r.append r') hz⟩
    · exact p.elim
  · exact p.elim
def rExtE (K : PySem.W.Frag) : V → List V → Hp → VK → Prop := fun x vs H Q => ∃ l b xs zs, x = .ref l ∧ vs = [.ref b] ∧ H l = some (.lst xs) ∧ LsE K H b zs ∧ xs.length + zs.length ≤ sizeLine ∧ Q .non (upd H l (.lst (xs ++ zs)))
theorem mt_extE : MtR X "list.extend" (rExtE X.K) := by
  intro pins s σ H x vs v us Q I rx rv h
  obtain ⟨l, b, xs, zs, rfl, rfl, hH, hB, hz, q⟩ := h
  cases rx
  obtain ⟨u, rfl, ru⟩ := rv.one
  cases ru
  obtain ⟨z, its, n, r, hl, e⟩ := I.lstM hH
  obtain ⟨z2, its2, n2, r2, hl2, e2⟩ := hB.at_ I
  have hsz : its.toArray.size + its2.toArray.size ≤ sizeLine := by rw [List.size_toArray, List.size_toArray]; omega
  have hlong : ¬ (!its.toArray.isEmpty && Builtin.List.listTooLong (its.toArray.size + its2.toArray.size)) = true := by
    rw [notLongL hsz, Bool.and_false]
    exact Bool.false_ne_true
  refine call_meets F.slot_list_extend ⟨_, e, rfl⟩ F.entry_list_extend (F.args_list_extend_2 _ _)
    (AutoSeq1.list_extend_list_list_0 l its.toArray n b its2.toArray n2 hlong (by rw [List.size_toArray]; omega) (by omega)) ⟨e, e2, ?_⟩
  refine ⟨.non, _, I.lset (its' := its ++ its2) hH e (by simp) (r.append r2) ?_, rfl, q⟩
  rw [List.length_append]
  omega
def opExtend2 (a : D) : OpN := fun ds st => match a, ds with
  | .ref n, [d] => match lstAt st n, alst st d with
    | some xs, some ys => if xs.length + ys.length ≤ sizeLine then some (.non, st.set n (.lst (xs ++ ys))) else none
    | _, _ => none
  | _, _ => none
theorem mr_extend2 (hk : X.K = F.K) : MtR X "list.extend" (rMl F opExtend2) := MtR.imp mt_extE fun x xs H Q ⟨W, st, a, ds, J, ra, rd, p⟩ => by
  unfold opExtend2 at p
  split at p
  · rename_i n d
    split at p
    · rename_i zs us hz hu
      split at p
      · rename_i c
        obtain ⟨y, rfl, ry⟩ := rv1 rd
        obtain ⟨m, q, ys, e1, e2, e3, e4, e5, r5⟩ := mlst_at J.sim (d := .ref n) (xs := zs) hz ra
        obtain ⟨q2, ys2, f2, f5, r6⟩ := alst_lse J.sim hu ry
        cases e1
        have eH := J.h
        subst eH
        have x7 : Ext W W.ρ (upd W.H q (.lst (ys ++ ys2))) := ext_put (List.mem_of_getElem? e3)
        rw [J.k, ← hk] at f5
        exact ⟨q, q2, ys, ys2, e2, by rw [f2], e5, f5, by rw [← r5.length, ← r6.length]; exact c, p W.ρ _ .non x7 (J.sim.put e3 ⟨_, upd_same, RVs.mono x7 (r5.append r6)⟩) .non⟩
      · exact p.elim
    · exact p.elim
  · exact p.elim
end
/-! ### a def that reads the store and hands back a plain value -/
def plainD : Nat → D → Bool
  | 0, _ => false
  | n + 1, d => match d with
    | .non => true
    | .bl _ => true
    | .int _ => true
    | .str _ => true
    | .tup xs => xs.all (plainD n)
    | _ => false
theorem plain_rvs {W W' : Vw} {f : D → Bool} (hf : ∀ d v, f d = true → RV W d v → RV W' d v) : ∀ {xs : List D} {ys : List V}, xs.all f = true → RVs W xs ys → RVs W' xs ys
  | [], _, _, .nil => .nil
  | x :: xs, _, h, .cons r rs => by
    have h' := He.ba (show (f x && xs.all f) = true from h)
    exact .cons (hf _ _ h'.1 r) (plain_rvs hf h'.2 rs)
/-- W with another list of mutable things, none of which is a tuple -/
theorem plain_rv {W W' : Vw} (hk : W'.K = W.K) (hh : W'.H = W.H) (hf : ∀ a ys, W.H a = some (.tup ys) → W.fro a → W'.fro a) : ∀ (n : Nat) (d : D) (v : V), plainD n d = true → RV W d v → RV W' d v
  | 0, _, _, h, _ => by cases h
  | n + 1, d, v, h, r => by
    cases r with
    | non => exact .non
    | bl b => exact .bl b
    | int i => exact .int i
    | str x => exact .str x
    | tup t rs =>
      refine .tup ?_ (plain_rvs (fun d v => plain_rv hk hh hf n d v) (show List.all _ (plainD n) = true from h) rs)
      rcases t with ⟨t, f⟩ | t
      · exact .inl ⟨by rw [hh]; exact t, hf _ _ t f⟩
      · exact .inr (by rw [hk]; exact t)
    | _ => cases h
def pureT (f : Fn) : Fn := fun ds st => match allP (frz st 70) ds with
  | some ds' => (match f ds' [] with
    | .ok d _ => if plainD 20 d = true then .ok d st else .bad
    | _ => .bad)
  | none => .bad
theorem Sim.notup {W : Vw} {st : Sto} (S : Sim W st) {a : Addr} {ys : List V} (h : W.H a = some (.tup ys)) : a ∉ W.ρ := fun m => by
  obtain ⟨n, hn⟩ := List.mem_iff_getElem?.mp m
  have hl : n < st.length := by rw [← S.len]; exact (List.getElem?_eq_some_iff.mp hn).1
  have q := S.at_ n _ a (List.getElem?_eq_getElem hl) hn
  cases e : st[n] with
  | lst xs => rw [e] at q; obtain ⟨_, z, _⟩ := q; rw [h] at z; cases z
  | dct xs => rw [e] at q; obtain ⟨_, z, _⟩ := q; rw [h] at z; cases z
  | ins C fs => rw [e] at q; obtain ⟨_, _, z, _⟩ := q; rw [h] at z; cases z
section
variable {P : Program} {w : World} {K : PySem.W.Frag} {mg : Str → Option Value} {base : Heap} {g : Str → Addr} {k : Nat} {fa : Addr} {fd : FuncData} {ps : List Str} {f : Fn}
theorem fn_pureT (G : FnG P w K mg base k fa fd ps (SPx K g f)) : FnG P w K mg base k fa fd ps (SPx K g (pureT f)) := G.imp fun vs H Q E ⟨W, st, ds, hk, hg, hh, S, r, p⟩ => by
  unfold pureT at p
  split at p
  · rename_i ds' hds
    let W1 : Vw := { W with ρ := [] }
    have S1 : Sim W1 [] := ⟨rfl, List.nodup_nil, fun a m => by simp [W1] at m, S.zt, fun n o a h _ => by simp at h⟩
    have r1 : RVs W1 ds' vs := allP_rv (W := W) (W' := W1) (frz_rv (W := W) (W' := W1) ⟨rfl, rfl, rfl, fun a h => ⟨by simp [W1], h.2⟩, fun a m => ⟨by simp [W1], S.nz a m⟩⟩ S 70) hds r
    refine ⟨W1, [], ds', hk, hg, hh, S1, r1, ?_⟩
    cases q : f ds' [] with
    | bad => rw [q] at p; exact p.elim
    | exc C fs s => rw [q] at p; exact p.elim
    | ok d s =>
      rw [q] at p
      intro ρ' H' v x Ss rv
      have p' : PostE W (if plainD 20 d = true then .ok d st else .bad) Q E := p
      split at p'
      · rename_i c
        have xx : Ext W W.ρ H' := ext_hide (Z := W.Z) x
        have SS : Sim (W.to W.ρ H') st := S.frozen xx fun a m => by
          obtain ⟨o, e⟩ := S.tr m
          rw [e]
          exact x.keep a o e (by simp [W1])
        refine p' W.ρ H' v xx SS (plain_rv (W := W1.to ρ' H') (W' := W.to W.ρ H') rfl rfl (fun a ys t f => ⟨SS.notup t, f.2⟩) 20 d v c rv)
      · exact p'.elim
  · exact p.elim
end
end M
/-! M37: what the printed walks lean on. -/
namespace M
open PySem PySem.Spec PyProof.Rows L2
/-- a bound of a while's turns: the length of the list in a slot -/
def mLen (i : Nat) : Env → Sto → Nat := fun env st => match env[i]? with
  | some (some d) => (match aseq st d with
    | some xs => xs.length + 1
    | none => 0)
  | _ => 0
theorem opNew_len0 {C : Str} {b : IS} {n p : Nat} {vs : List D} {st : Sto} (h : opNew C (runB b n p) vs st ≠ .bad) : vs.length + 1 = p := by
  by_cases c : (D.ref st.length :: vs).length = p
  · exact c
  · refine absurd ?_ h
    unfold opNew runB
    rw [if_neg c]
theorem opNew_len {C : Str} {b : IS} {n p : Nat} {ps : List Str} (e : ps.length = p) : ∀ vs st, opNew C (runB b n p) vs st ≠ .bad → vs.length + 1 = ps.length := fun vs st h => by rw [e]; exact opNew_len0 h
theorem opNew_lenK {C : Str} {b : IS} {n p : Nat} {ks : List Str} (e : ks.length + 1 = p) : ∀ vs st, opNew C (runB b n p) vs st ≠ .bad → vs.length = ks.length := fun vs st h => by
  have := opNew_len0 h
  omega
theorem pureT_ne {f : Fn} : ∀ ds st C fs s, pureT f ds st ≠ .exc C fs s := fun ds st C fs s h => by
  unfold pureT at h
  split at h
  · split at h
    · split at h <;> cases h
    · cases h
  · cases h
theorem held1 {X : Cx} {F : Fx} {k : Nat} {x : Str} {f : Fn} {fd : FuncData} {ps : List Str} (G : FnG X.prog X.w X.K X.mg X.base k (F.g x) fd ps (SPx F.K F.g f)) (hk : PySem.W.keepIn X.K (.ref (F.g x)) = true) (hb : Binds X.K fd ps []) : HeldG X F k [(x, f)] := ⟨fun q hq => by
  simp only [List.mem_cons, List.not_mem_nil, or_false] at hq
  subst hq
  exact ⟨fd, ps, G, hk, hb⟩⟩
section
variable {K : PySem.W.Frag} {x qual : Str} {params : Arguments} {body : List Stmt} {scope : Scope} {f : Addr} {fd : FuncData} {ps ks : List Str} {v : Value} {ws : List Value} {s : Shared}
theorem FunD_bindsK {kws : List (Str × V)} (F : FunD K x qual params body scope [] kws f fd)
    (h : ∀ (kV doc pm : Value) (an : Option Addr) (cdv ct : Value), bindArgs (PySem.W.fnOf x qual params body scope .none kV doc pm an cdv ct) ⟨[v], ks.zip ws⟩ = pure (ps.zip (v :: ws))) : BindsTo s fd ⟨[v], ks.zip ws⟩ (ps.zip (v :: ws)) := by
  obtain ⟨oc, od, dV, kV, doc, pm, an, cdv, ct, osl, rfl, lk, hcd, hD, hK⟩ := F.ex
  rcases hD with ⟨_, rfl⟩ | ⟨e, _⟩
  · exact .of_eq (h kV doc pm an cdv ct)
  · exact absurd rfl e
end
end M
/-! M38: defs called where an exception is handled, that look at none of it. -/
namespace M
open PySem PySem.Spec PyProof.Rows L2
section
variable {P : Program} {w : World} {K : PySem.W.Frag} {mg : Str → Option Value} {base : Heap} {g : Str → Addr}
/-- a def's promise, be an exception handled or not -/
structure FnW (P : Program) (w : World) (K : PySem.W.Frag) (mg : Str → Option Value) (base : Heap) (k : Nat) (f : Addr) (fd : FuncData) (ps : List Str) (sp : Sp) : Prop where
  len : ∀ vs H Q E, sp vs H Q E → vs.length = ps.length
  run : ∀ (A : Around) (outer : List PySem.Env) (s : Shared) (H : Hp) (args : Args) (us : List Value) (vs : List V) (Q : VK) (E : XK), L2H.RoomH k A → A.guards = some [] → Env0 P w K mg base A outer s H → BindsTo s fd args (ps.zip us) → Vals vs us → sp vs H Q E →
    codeAny (model P w) A (.call (.ref f) args) (CR (L2.CX P w) outer P w H s Q E) s
theorem FnW.mono {j k : Nat} {f : Addr} {fd : FuncData} {ps : List Str} {sp : Sp} (G : FnW P w K mg base j f fd ps sp) (h : j ≤ k) : FnW P w K mg base k f fd ps sp := ⟨G.len, fun A o s H a us vs Q E hr => G.run A o s H a us vs Q E (hr.mono h)⟩
theorem FnW.imp {k : Nat} {f : Addr} {fd : FuncData} {ps : List Str} {sp sp' : Sp} (G : FnW P w K mg base k f fd ps sp) (h : ∀ vs H Q E, sp' vs H Q E → sp vs H Q E) : FnW P w K mg base k f fd ps sp' :=
  ⟨fun vs H Q E q => G.len vs H Q E (h _ _ _ _ q), fun A o s H a us vs Q E hr hg e b v q => G.run A o s H a us vs Q E hr hg e b v (h _ _ _ _ q)⟩
/-- the context of such a def's body -/
abbrev cxW (CX : CXT) (P : Program) (w : World) (K : PySem.W.Frag) (mg : Str → Option Value) (base : Heap) (N : List Str) (qual : Str) (scope : Scope) (f : Addr) (cd : Value) (A : Around) (outer : List PySem.Env) (s : Shared) (H : Hp) (E : XK) : Cx :=
  { cxOf CX P w K mg base N qual scope f cd A outer s H E with calm := false }
theorem inv_startW {CX : CXT} {N ps : List Str} {qual : Str} {scope : Scope} {f : Addr} {cd : Value} {A : Around} {outer : List PySem.Env} {s s1 : Shared} {H : Hp} {E : XK} {us : List Value} {vs : List V}
    (S : FnScope N ps scope) (e0 : Env0 P w K mg base A outer s H) (hl : vs.length = ps.length) (r : Vals vs us)
    (x : InCallC s s.heap.objs.size (bindL (envOfC qual scope s.heap.objs.size f cd).kindOf (ps.zip us) fun _ => none) (cellsFrom (s.heap.objs.size + 1) scope.names []) (bindC (envOfC qual scope s.heap.objs.size f cd).kindOf (ps.zip us) fun _ => none) s1) :
    Inv (cxW CX P w K mg base N qual scope f cd A outer s H E) [] (L2.start N vs) H s1 := by
  have hpl : ps.length ≤ N.length := by have := congrArg List.length S.pre; rw [List.length_take] at this; omega
  obtain ⟨h1, tk, rfl, hk⟩ := x.done
  have noA : ∀ b : Addr, b ∉ (cxW CX P w K mg base N qual scope f cd A outer s H E).ex := fun b z => absurd (show b ∈ ([] : List Addr) from z) (by simp)
  refine ⟨⟨e0.mod, S.kind, rfl, rfl, Nat.le_refl _, fun y z c h1 h2 => ?_, fun y hy => ?_, fun y c _ h => ?_, (fun z => Bool.noConfusion (show false = true from z)), Around.frames_deeper e0.frames, .inr ⟨rfl, rfl⟩, fun b z => absurd z (noA b), e0.bs, e0.bsz, fun b _ _ => noA b, fun b z => absurd z (noA b), e0.funs, e0.frf⟩,
    rfl, e0.bare, Un.kept hk, ⟨_, x.toInCall.ns, fun i y v h1 h2 h3 => ?_⟩, fun y c h => ⟨_, x.cell y c h⟩, e0.hok.fresh (Nat.le_refl _), fun y c h => ?_, fun q hq => absurd (show q ∈ ([] : List (Addr × Obj)) from hq) (by simp), e0.hok.kept hk, ?_⟩
  · exact name_of_addr x.apart (PySem.mem_of_lookup h1) (PySem.mem_of_lookup h2)
  · have hy : scope.names.lookup y = some .cell ∨ scope.names.lookup y = some .free := hy
    rcases hy with hy | hy
    · exact cell_has hy
    · exact absurd rfl (S.nofree _ (PySem.mem_of_lookup hy))
  · exact Nat.le_of_lt (x.above y c (PySem.mem_of_lookup h))
  · have hi : i < vs.length := by
      unfold L2.start at h2
      by_cases hi : i < vs.length
      · exact hi
      · rw [List.getElem?_append_right (by simpa using hi)] at h2
        rw [List.getElem?_replicate] at h2
        split at h2 <;> cases h2
    have ha : vs[i]? = some v := by
      unfold L2.start at h2
      rw [List.getElem?_append_left (by simpa using hi), List.getElem?_map] at h2
      cases e : vs[i]? with
      | none => rw [e] at h2; cases h2
      | some a => rw [e] at h2; cases h2; rfl
    obtain ⟨u, hu, rv⟩ := r.get ha
    have hp : ps[i]? = some y := by
      rw [← S.pre, List.getElem?_take_of_lt (by omega)]; exact h1
    have ndP : ps.Nodup := by rw [← S.pre]; exact S.nd.sublist (List.take_sublist _ _)
    refine ⟨u, rv, ?_⟩
    rcases S.par y (List.mem_of_getElem? hp) with k | k
    · exact .inl ⟨k, bindL_get ndP hp hu k⟩
    · obtain ⟨c, e⟩ := cell_has (n := s.heap.objs.size + 1) k
      refine .inr ⟨.inl k, c, e, ?_⟩
      have q := x.cell y c e
      rw [bindC_get ndP hp hu (by show scope.names.lookup y ≠ _; rw [k]; decide)] at q
      exact q
  · exact e0.hok.fresh (Nat.le_of_lt (x.above y c (PySem.mem_of_lookup h)))
  · unfold L2.start
    show _ = N.length
    rw [List.length_append, List.length_map, List.length_replicate]
    omega
/-- THE RULE for such a def: its body's walk -/
theorem fnw_ok {x qual : Str} {params : Arguments} {body : List Stmt} {scope : Scope} {dvs : List V} {kws : List (Str × V)} {f : Addr} {fd : FuncData} {N ps : List Str} {k : Nat} {b : IS} (Fd : FunD K x qual params body scope dvs kws f fd) (S : FnScope N ps scope)
    (hb : ∀ (cdv : Value) (A : Around) (outer : List PySem.Env) (s : Shared) (H : Hp) (E : XK), L2H.RoomH k (A.deeper (envOfC qual scope s.heap.objs.size f cdv)) → A.guards = some [] → PSs (cxW (L2.CX P w) P w K mg base N qual scope f cdv A outer s H E) body (TS_ (Fx.of K g E) b)) :
    FnW P w K mg base (k + 1) f fd ps (SPx K g (runB b N.length ps.length)) := by
  have len : ∀ vs H Q E, SPx K g (runB b N.length ps.length) vs H Q E → vs.length = ps.length := fun vs H Q E ⟨W, st, ds, _, _, _, _, r, p⟩ => by
    unfold runB at p
    split at p
    · rename_i c
      rw [← r.length, c]
    · exact p.elim
  refine ⟨len, fun A outer s H args us vs Q E hr hgd e0 hbi rv hsp => ?_⟩
  obtain ⟨oc, od, dV, kV, doc, pm, an, cdv, ct, osl, rfl, lk, hcd, _, _⟩ := Fd.ex
  have hl := len _ _ _ _ hsp
  have kin : K.In s.heap := e0.mod.kin.keeps fun b o e => (e0.bs b o e).1
  have kinds : ∀ y ∈ ps.zip us, scope.names.lookup y.1 = some .local ∨ (scope.names.lookup y.1 = some .cell ∧ ((cellsFrom (s.heap.objs.size + 1) scope.names []).lookup y.1).isSome = true) := fun ⟨n, v⟩ hy =>
    (S.par n (List.of_mem_zip hy).1).elim .inl fun q => .inr ⟨q, PySem.W.cellsFrom_some _ _ _ (.inl q)⟩
  refine codeAny_call_function hr.depth (kin _ _ lk) rfl S.co S.gen rfl (PySem.W.codeRec_of kin hcd) (hbi _ _ _ _ (wpAny_newFunctionEnv_cells S.kind kinds fun env he s1 x => ?_))
  subst he
  refine ⟨(e0.mod.nolimit.keeps fun b o e => (e0.bs b o e).1).keeps x.toInCall.keep, codeAny_func ?_⟩
  have wk : TS_ (Fx.of K g E) b { nx := fun _ H' => Q .non H', rt := Q } (L2.start N vs) H := by
    obtain ⟨W, st, ds, hk, hg, hh, S, r, p⟩ := hsp
    unfold runB at p
    split at p
    · rename_i c
      refine ⟨W, st, _, ⟨hk, hg, hh, S, env_start r c⟩, ?_⟩
      cases q : b (ds.map some ++ List.replicate (N.length - ps.length) none) st with
      | nx e s => rw [q] at p; exact fun ρ' H' σ' x S z => p ρ' H' .non x S .non
      | ret d s => rw [q] at p; exact p
      | bk e s => rw [q] at p; exact p.elim
      | ct e s => rw [q] at p; exact p.elim
      | exc C fs e s => rw [q] at p; exact fun ρ' H' σ' d x S z => p ρ' H' d x S
      | bad => rw [q] at p; exact p.elim
    · exact p.elim
  have I0 : Inv (cxW (L2.CX P w) P w K mg base N qual scope f cdv A outer s H E) [] (L2.start N vs) H s1 := inv_startW S e0 hl rv x
  refine wpAny_mono ((hb cdv A outer s H E (hr.deeper _) hgd).run [] s1 _ H _ I0 wk) (fun fl s' hs => ?_) fun e s' hs => hs
  have fin : ∀ {σ' : L2.St} {H' : Hp} {v : V} {u : Value}, Inv (cxW (L2.CX P w) P w K mg base N qual scope f cdv A outer s H E) [] σ' H' s' → RelV v u → Q v H' → CE outer P w H s Q u s' :=
    fun J r q => ⟨_, _, J.os, J.bare, J.base, J.hok, r, q⟩
  cases fl with
  | ret u => obtain ⟨v, σ', H', J, r, q⟩ := hs; exact fin J r q
  | next => obtain ⟨σ', H', J, q⟩ := hs; exact fin (v := V.non) (u := Value.none) J rfl q
  | brk => obtain ⟨_, _, _, q⟩ := hs; exact q.elim
  | cont => obtain ⟨_, _, _, q⟩ := hs; exact q.elim
end
/-! ### calls of such defs -/
section
variable {X : Cx} {F : Fx} {k : Nat} {f : Addr} {fd : FuncData} {ps : List Str} {ds : List Value} {dvs : List V} {x : Str} {p pos : Pos} {e : Expr} {es : List Expr} {fs : Fn} {j : IA} {dd : List D}
/-- a def that lets nothing out -/
def QuietW (X : Cx) : Prop := ∀ (pins : List (Addr × Obj)) (σ : L2.St) (H : Hp) (s : Shared) (e : Value) (s' : Shared), Inv X pins σ H s → L2.CX X.prog X.w X.stack H s (fun _ _ _ => False) e s' → X.xe e s'
theorem quietW (X : Cx) : QuietW X := fun pins σ H s e s' I ⟨_, _, _, _, _, _, _, _, _, _, _, _, z⟩ => z.elim
/-- never an exception -/
def NoX (f : Fn) : Prop := ∀ ds st C gs s, f ds st ≠ .exc C gs s
theorem post_quiet {W : Vw} {r : R D} {Q : VK} {E E' : XK} (h : PostE W r Q E) (n : ∀ C gs s, r ≠ .exc C gs s) : PostE W r Q E' := by
  cases r with
  | ok a st => exact h
  | exc C gs s => exact absurd rfl (n C gs s)
  | bad => exact h
theorem run_gw {pins : List (Addr × Obj)} {σ : L2.St} {H : Hp} {s : Shared} {Q : VK} {us : List Value} {vs : List V} {sp : Sp} (G : FnW X.prog X.w X.K X.mg X.base k f fd ps sp) (hr : L2H.RoomH k X.A) (hgd : X.A.guards = some []) (hb : Binds X.K fd ps ds) (hd : Vals dvs ds)
    (I : Inv X pins σ H s) (r : Vals vs us) (h : sp (vs ++ dvs) H Q (fun _ _ _ => False)) : wpAny (model X.prog X.w) X.A (call (.ref f) us) (EP X pins σ Q) X.xe s := by
  have r2 : Vals (vs ++ dvs) (us ++ ds) := r.append hd
  refine wpAny_call (codeAny_mono (G.run X.A X.stack s H ⟨us, []⟩ (us ++ ds) (vs ++ dvs) Q (fun _ _ _ => False) hr hgd I.env0 (hb s us I.kIn (r2.length.symm.trans (G.len _ _ _ _ h))) r2 h) fun r s' hq => ?_)
  cases r with
  | error e => exact quietW X pins σ H s e s' I hq
  | ok fl =>
    cases fl with
    | ret u => exact I.after hq
    | next => exact hq.elim
    | brk => exact hq.elim
    | cont => exact hq.elim
theorem sp_ofW {σ : L2.St} {H : Hp} {Q : VK} {vs : List V} (nx : NoX fs) (hdd : ∀ W : Vw, W.K = F.K → W.g = F.g → RVs W dd dvs) (h : TK RVs RV F (fun ds env s => fs (ds ++ dd) s) vs σ H Q) : SPx F.K F.g fs (vs ++ dvs) H Q (fun _ _ _ => False) := by
  obtain ⟨W, st, env, ds, A, r, p⟩ := h
  exact ⟨W, st, ds ++ dd, A.k, A.g, A.h, A.sim, r.append (hdd W A.k A.g), post_quiet p (nx _ _)⟩
theorem e_callW (G : FnW X.prog X.w X.K X.mg X.base k f fd ps (SPx F.K F.g fs)) (nx : NoX fs) (hr : L2H.RoomH k X.A) (hgd : X.A.guards = some []) (hg : Gl X x) (hm : X.mg x = some (.ref f)) (hk : PySem.W.keepIn X.K (.ref f) = true) (hb : Binds X.K fd ps ds) (hd : Vals dvs ds) (hdd : ∀ W : Vw, W.K = F.K → W.g = F.g → RVs W dd dvs)
    (ha : PA X (e :: es) (TA_ F j)) (hdb : (x == ("__debug__" : Str)) = false := by decide) (he : starEach (e :: es) X.env = (false, eval e X.env) :: starEach es X.env := by rfl) (hpl : (backTo pos (starEach es X.env)).any (·.1) = false := by rfl) :
    PE X (.Call (.Name x p) (e :: es) [] pos) (TI F (iCall fs dd j)) := by
  refine ⟨fun pins s σ H Q I h => ?_⟩
  refine wpAny_Call_Name_kw (ld_glob I hg hm (PySem.W.callWith_K (h₀ := X.base) I.ok.mod.kin hk (thn (ha.run pos pins s σ H _ I (TX.bind (k := fun ds env s => fs (ds ++ dd) s) h)) fun us s1 ⟨vs, H1, I1, r, q⟩ => ⟨I1.kIn, ?_⟩) he hpl) hdb)
  exact run_gw G hr hgd hb hd I1 r (sp_ofW nx hdd q)
end
end M
/-! M39: an exception is made and raised. -/
namespace M
open PySem PySem.Spec PyProof.Rows L2
section
variable {X : Cx} {CX : CXT} {k n : Nat} {fI C : Addr} {fd : FuncData} {ps : List Str}
theorem del_upd {H : Hp} {a d : Addr} {o1 o2 u : HO} (na : H a = none) (ne : d ≠ a) : upd (L2.del (upd (upd H d o1) a o2) a) d u = upd H d u := by
  funext b
  by_cases e : b = d
  · rw [e, upd_same, upd_same]
  · rw [upd_ne e, upd_ne e]
    by_cases e2 : b = a
    · rw [e2, del_same, na]
    · rw [del_ne e2, upd_ne e2, upd_ne e]
theorem run_mkr {pins : List (Addr × Obj)} {σ : L2.St} {H : Hp} {s : Shared} {Q : XK} {us : List Value} {vs ys : List V} {g : List Value → List Value → List Value} {gV : List V → List V → List V} {fs : List Str} (T : XC X.K C) (rs : Raises X (.ref C)) (iC : PySem.W.findIn X.K (.ref C) "__init__" = some (some (.ref fI))) (tI : PySem.W.typeIn X.K (.ref fI) = some (.type "function"))
    (F1 : FnOk X.prog X.w X.K X.mg X.base CX k fI fd ps (spX X.K fs)) (hr : Room (k + 1) X.A) (hb : KBn X.K fd ps (n + 1) [] g gV) (hx : Passes CX X (fun _ _ _ => False)) (I : Inv X pins σ H s) (r : Vals vs us) (hl : vs.length ≤ 1000) (l1 : vs.length = n)
    (hg : ∀ a, gV (.ref a :: vs) [] = .ref a :: ys) (hy : ys.length = fs.length) (hf : ∀ f ∈ fs, PySem.W.findIn X.K (.ref C) f = some none)
    (q : ∀ d, H d = none → Q (.ref C) (some d) (upd H d (.xd (fs.zip ys).reverse))) :
    wpAny (model X.prog X.w) X.A (call (.ref C) us []) (MkP X pins σ Q) X.xe s := by
  obtain ⟨B, newId, initId, tail, b, nm, qn, N, bs, bm, sn, sub, ab, col, dd, k0, k1, k2, k3, k5, hC, hbm⟩ := T.cls
  obtain ⟨hp, g0, dr, tk, os⟩ := s
  have hsz : hp.objs.size ≤ hp.objs.size + 1 := Nat.le_succ _
  have hn : H (hp.objs.size + 1) = none := I.hok.fresh hsz
  have kk : ∀ b o, hp.get? b = some o → ((hp.push (PySem.W.kdv_tup us)).push (PySem.HandSPX.excO C hp.objs.size)).get? b = some o := fun b o e => Heap.get?_push_of_some _ (Heap.get?_push_of_some _ e)
  have hget : ((hp.push (PySem.W.kdv_tup us)).push (PySem.HandSPX.excO C hp.objs.size)).get? (hp.objs.size + 1) = some (PySem.HandSPX.excO C hp.objs.size) := by heap_get
  have I2 : Inv X pins σ (upd H (hp.objs.size + 1) (exo (hp.objs.size + 1) C none)) ⟨(hp.push (PySem.W.kdv_tup us)).push (PySem.HandSPX.excO C hp.objs.size), g0, dr, tk, os⟩ :=
    I.laid (t' := tk) (a := hp.objs.size + 1) (o := exo (hp.objs.size + 1) C none) (h' := (hp.push (PySem.W.kdv_tup us)).push (PySem.HandSPX.excO C hp.objs.size)) kk hsz (exo_ok hget)
  have r1 : Vals (V.ref (hp.objs.size + 1) :: vs) (Value.ref (hp.objs.size + 1) :: us) := .cons rfl r
  have r2 := hb.rel r1 (.nil : Vals [] [])
  have hsp : spX X.K fs (gV (.ref (hp.objs.size + 1) :: vs) []) (upd H (hp.objs.size + 1) (exo (hp.objs.size + 1) C none)) (fun v H' => v = .non ∧ ∃ d, H d = none ∧ d ≠ hp.objs.size + 1 ∧ H' = upd (upd H d (exd d (fs.zip ys).reverse)) (hp.objs.size + 1) (exo (hp.objs.size + 1) C (some d))) (fun _ _ _ => False) := by
    refine ⟨hp.objs.size + 1, C, ys, hg _, hy, T, hf, upd_same, fun d hd ne => ⟨rfl, d, ?_, ne, ?_⟩⟩
    · rw [upd_ne ne] at hd
      exact hd
    · rw [upd_comm (a := hp.objs.size + 1) (b := d) ne.symm, upd_upd]
  have n1 : (Value.ref (hp.objs.size + 1) :: us).length = n + 1 := by rw [List.length_cons, ← r.length, l1]
  have hus : us.length ≤ sizeLine := by rw [← Paired.length r, sizeLine_eq]; omega
  have bnd := hb.to ⟨(hp.push (PySem.W.kdv_tup us)).push (PySem.HandSPX.excO C hp.objs.size), g0, dr, tk, os⟩ (Value.ref (hp.objs.size + 1) :: us) [] I2.kIn n1 rfl
  refine wpAny_call (callK b.f (fun Y => over_contains Y bm hbm) (I.kIn _ _ hC) (PySem.W.looks_findIn I.kIn iC) (fun self => PySem.W.bind_fn I.kIn self tI) hus
    (codeAny_mono (F1.run _ X.stack _ _ ⟨Value.ref (hp.objs.size + 1) :: us, []⟩ (g (Value.ref (hp.objs.size + 1) :: us) []) _ _ (fun _ _ _ => False) (hr.make C us []) (I2.env0.make C us []) bnd r2 hsp) fun r s' hq' => ?_))
  cases r with
  | error er => exact hx pins σ _ _ er s' I2 hq'
  | ok fl =>
    cases fl with
    | ret u =>
      obtain ⟨v, H2, os2, bare2, un2, hok2, rv, ev, d, hd, ne, eH2⟩ := hq'
      subst ev
      obtain ⟨h2, g2, d2, t2, os'⟩ := s'
      have ea : H2 (hp.objs.size + 1) = some (exo (hp.objs.size + 1) C (some d)) := by rw [eH2, upd_same]
      have ed : H2 d = some (exd d (fs.zip ys).reverse) := by rw [eH2, upd_ne ne, upd_same]
      have fin := mk_end (d2 := d2) (t2 := t2) (Q := Q) rs I hsz kk un2 hok2 os2 bare2 ea ed hd (by
        rw [eH2, del_upd hn ne]
        exact q d hd)
      exact ⟨rv, fin⟩
    | next => exact False.elim hq'
    | brk => exact False.elim hq'
    | cont => exact False.elim hq'
end
/-! ### in the embedding -/
def sRaise (C : Str) (n : Nat) (fs : List Str) (gD : List D → List D → List D) (j : IA) : IS := fun env st => liftS (j env st) env fun ds s => if ds.length = n ∧ n ≤ 1000 then .exc C (fs.zip (gD ds [])).reverse env s else .bad
section
variable {X : Cx} {F : Fx} {k n : Nat} {C x : Str} {fs : List Str} {gV : List V → List V → List V} {gD : List D → List D → List D} {p pos pos' : Pos} {e : Expr} {es : List Expr} {j : IA}
theorem s_raise (hc : X.calm = true) (tk : Takes X F.E) (T : XI X k n (F.g C) fs [] gV) (rs : Raises X (.ref (F.g C))) (pm : Perm gD gV n 0 fs) (hr : Room (k + 1) X.A) (hg : Gl X x) (hm : X.mg x = some (.ref (F.g C))) (ha : PA X (e :: es) (TA_ F j)) (hdb : (x == ("__debug__" : Str)) = false := by decide)
    (he : starEach (e :: es) X.env = (false, eval e X.env) :: starEach es X.env := by rfl) (hpl : (backTo pos (starEach es X.env)).any (·.1) = false := by rfl) : PS X (.Raise (some (.Call (.Name x p) (e :: es) [] pos)) none pos') (TS_ F (sRaise C n fs gD j)) := by
  refine PS.imp (ps_raise (t := fun σ H Q => TA_ F j σ H fun vs H1 => ∃ W st env ds, At F W st env σ H1 ∧ RVs W ds vs ∧ ds.length = n ∧ n ≤ 1000 ∧ ∀ ρ' H' d, Ext W ρ' H' → Sim (W.to ρ' H') st → XR (W.to ρ' H') (fs.zip (gD ds [])).reverse d → Q (.ref (F.g C)) d H') hc tk ?_) fun N σ H h => ?_
  · intro pins s σ H Q I h
    refine wpAny_Call_Name_kw (ld_glob I hg hm (PySem.W.callWith_K (h₀ := X.base) I.ok.mod.kin T.cls.kC (thn (ha.run pos pins s σ H _ I h) fun us s1 ⟨vs, H1, I1, r, W, st, env, ds, A, rd, l1, l2, q⟩ => ⟨I1.kIn, ?_⟩) he hpl) hdb)
    obtain ⟨ys, e1, e2, ry⟩ := pm.rel W ds [] vs [] rd .nil l1 rfl
    obtain ⟨fI, fd, ps, g, iC, tI, F1, hb⟩ := T.ini
    have lv : vs.length = n := by rw [← rd.length]; exact l1
    have eH := A.h
    subst eH
    refine run_mkr (CX := L2.CX X.prog X.w) T.cls rs iC tI F1 hr hb passL I1 r (by rw [lv]; exact l2) lv e1 e2 T.nf fun d hd => ?_
    have x : Ext W W.ρ (upd W.H d (.xd (fs.zip ys).reverse)) := ext_new0 hd
    refine q W.ρ _ (some d) x (A.sim.new0 hd) ⟨(fs.zip ys).reverse, rf_reverse (zip_rf (ry.mono x)), (fun z => by cases z), fun dx z => ?_⟩
    cases z
    exact ⟨upd_same, new_fro A.sim hd⟩
  · obtain ⟨W, st, env, A, p⟩ := h
    refine ⟨W, st, env, A, ?_⟩
    have p' : PostS W (liftS (j env st) env fun ds s => if ds.length = n ∧ n ≤ 1000 then RS.exc C (fs.zip (gD ds [])).reverse env s else .bad) N F.E := p
    cases q : j env st with
    | ok ds s =>
      rw [q] at p'
      have p2 : PostS W (if ds.length = n ∧ n ≤ 1000 then RS.exc C (fs.zip (gD ds [])).reverse env s else .bad) N F.E := p'
      intro ρ' H' vs xx S rv
      split at p2
      · rename_i c
        refine ⟨W.to ρ' H', s, env, ds, A.next xx S, rv, c.1, c.2, fun ρ2 H2 d x2 S2 xr => ?_⟩
        have := p2 ρ2 H2 σ d (xx.trans x2) S2 (A.env.mono (xx.trans x2)) xr
        rw [A.g] at this
        exact this
      · exact p2.elim
    | exc D gs s =>
      rw [q] at p'
      have p2 : PostS W (RS.exc D gs env s) N F.E := p'
      intro ρ' H' d xx S xr
      exact p2 ρ' H' σ d xx S (A.env.mono xx) xr
    | bad => rw [q] at p'; exact p'.elim
end
end M
/-! M40: try: .. except (A, B, C) as e: ..; the exception caught is one that nobody changes. -/
namespace M
open PySem PySem.Spec PyProof.Rows L2
section
variable {X : Cx} {pins : List (Addr × Obj)} {σ : L2.St} {H : Hp} {s : Shared}
theorem adopt {a C : Addr} {d : Option Addr} {o : Obj} {vs : Array Value} (I : Inv X pins σ H s) (ha : s.heap.get? a = some o) (hc : o.cls = .ref C) (hd : o.dict = d) (dt : o.data = .fields vs) (na : H a = none) (nL : a ≠ X.env.locals) (nP : ∀ p ∈ X.pn ++ pins, p.1 ≠ a) (n0 : X.s_0.heap.get? a = none) : Inv X pins σ (upd H a (exq a C d)) s := by
  refine ⟨I.ok, I.os, I.bare, ⟨I.base.keep, I.base.slot, fun b o e n hx => ?_, I.base.there, fun b xs e => ?_, fun b o xs e => ?_, fun b ps e => ?_⟩, I.loc, I.cell, ?_, fun x c e => ?_, fun p hp => ?_, I.hok.laidN (fun _ _ q => q) na (exq_ok2 ha hc hd dt), I.len⟩
  · have nb : b ≠ a := fun z => by rw [z, n0] at e; cases e
    rw [upd_ne nb]
    exact I.base.free b o e n hx
  · have q := I.base.tups b xs e
    rw [upd_ne (ne_of_none q na)]; exact q
  · have q := I.base.frzs b o xs e
    rw [upd_ne (ne_of_none q na)]; exact q
  · obtain ⟨m, q⟩ := I.base.tbls b ps e
    exact ⟨m, by rw [upd_ne (ne_of_none q na)]; exact q⟩
  · rw [upd_ne (Ne.symm nL)]; exact I.free
  · obtain ⟨v, z⟩ := I.cell x c e
    have nc : c ≠ a := fun q => by
      subst q
      obtain ⟨oc, e1, e2⟩ := z
      rw [ha] at e1
      cases e1
      rw [dt] at e2
      cases e2
    rw [upd_ne nc]; exact I.freeC x c e
  · obtain ⟨e1, e2, e3⟩ := I.pin p hp
    exact ⟨e1, by rw [upd_ne (nP p hp)]; exact e2, e3⟩
theorem fl_keeps {B : Heap} {l : List PySem.Env} {a : Addr} {Z : Obj → Prop} {h h' : Heap} (k : ∀ b o, h.get? b = some o → h'.get? b = some o) (f : HandSPX.FlyingZ B l a Z h) : HandSPX.FlyingZ B l a Z h' := by
  obtain ⟨f1, f2, f3, oe, vs, T, oT, ts, g1, g2, g3, g4, g5, g6, g7, g8, g9⟩ := f
  exact ⟨fun b o e => k b o (f1 b o e), f2, Heap.FunFrames.of_keeps (fun b o e _ => ⟨o, k b o e, rfl⟩) f3, oe, vs, T, oT, ts, k _ _ g1, g2, g3, g4, g5, g6, k _ _ g7, g8, g9⟩
end
/-- a test of an except clause: what it answers, by the class -/
def TstOk (X : Cx) (te : Expr) (tf : Value → Option Bool) : Prop := ∀ (a : Addr) (cls : Value) (b : Bool) (pins : List (Addr × Obj)) (σ : L2.St) (H : Hp) (s : Shared) (Q : Bool → Shared → Prop) (E : Value → Shared → Prop),
  Inv (X.suite a X.pn) pins σ H s → PySem.W.Looks (model X.prog X.w) s.heap (typeOf (.ref a)) cls → tf cls = some b → (∀ h', (∀ b o, s.heap.get? b = some o → h'.get? b = some o) → Q b { s with heap := h' }) →
  wpAny (model X.prog X.w) (X.A.mark (some (.ref a))) (eval te X.env) (fun c s1 => wpAny (model X.prog X.w) (X.A.mark (some (.ref a))) (excMatches (.ref a) c) Q E s1) E s
/-- what the clause wishes of an exception of the body: slot i is the name's -/
def wCat (tf : Value → Option Bool) (i : Nat) (ts : Addr → TS) (Wout : WX) (D : Ends) : WX := fun cls d σ H =>
  ∃ b C, cls = .ref C ∧ tf cls = some b ∧ (b = true → ∀ a, H a = none → ts a { nx := fun σ' H' => D.nx (σ'.set i none) H', rt := D.rt, bk := fun σ' H' => D.bk (σ'.set i none) H', ct := fun σ' H' => D.ct (σ'.set i none) H' } (σ.set i (some (.ref a))) (upd H a (exq a C d))) ∧
    (b = false → Wout cls d σ H)
section
variable {X : Cx} {n : Str} {i : Nat} {te : Expr} {tf : Value → Option Bool} {body suite : List Stmt} {b₀ : Stmt} {pos pos' : Pos} {tb : WX → TS} {ts : Addr → TS} {Wout : WX}
theorem ps_try_tup (hs : X.stack = X.env :: X.outer) (hf : X.env.frame = some X.env.locals) (hex : X.ex = []) (hN : X.N.Nodup) (hi : X.N[i]? = some n) (hln : X.env.kindOf n = some .local) (ht : TstOk X te tf) (tk : Takes X Wout)
    (hb : ∀ (W : WX) (pn : List (Addr × Obj)) (xe : Value → Shared → Prop), Takes (X.tr pn xe) W → PassesOwn (model X.prog X.w) X.A X.env xe → PSs (X.tr pn xe) body (tb W))
    (hsu : ∀ (a : Addr), PSs (X.suite a X.pn) (b₀ :: suite) (ts a)) :
    PS X (.Try body [.ExceptHandler (some te) (some n) (b₀ :: suite) pos'] [] [] pos) (fun D σ H => tb (wCat tf i ts Wout D) D σ H) := by
  refine ⟨fun pins s σ H D I h => ?_⟩
  have ok := I.ok
  have hfr : X.A.frames = some (X.env :: X.outer) := by rw [ok.frames, hs]
  have hloc : Loc X.env.scope n := .inl hln
  refine wpAny_Try_except ?_
  refine wpAny_mono ((hb (wCat tf i ts Wout D) (X.pn ++ pins) (fun e s₁ => wpAny (model X.prog X.w) X.A (noteFrame e X.env) (fun _ s₂ => wpAny (model X.prog X.w) X.A (setFlight e none) (fun _ s₃ =>
    wpAny (model X.prog X.w) X.A (handleBy e X.env [.ExceptHandler (some te) (some n) (b₀ :: suite) pos']) (SP X pins D) X.xe s₃) X.xe s₂) X.xe s₁) (fun u s' xx => ?_) PassesOwn.looking).run [] s σ H D (I.toTry _) h) (fun f s1 hsp => ?_) (fun e s1 he => he)
  · -- the catch
    obtain ⟨a, B, sI, pins', σ', H', cls, d, rfl, J', nb, up, sky, na, os, ag, b, C, hcls, hb1, hyes, hno⟩ := xx
    have J : Inv X pins σ' H' sI := J'.ofTry ok
    have sky' : Sky B (X.env :: X.outer) a (Zc cls d) X.env.locals s'.heap := by rw [← hs]; exact sky
    show wpAny (model X.prog X.w) X.A (noteFrame (.ref a) X.env) _ _ _
    refine Sky.land Zc.steady hfr hf sky' fun h3 fl3 up3 => ?_
    have J3 : Inv X pins σ' H' { s' with heap := h3 } := J.landed nb fl3.1 (up.trans up3) os ag
    obtain ⟨oe3, vs3, he3, hz3, hd3⟩ := fl3.there
    have notFr : ∀ {h : Heap} {o : Obj} {vs : Array Value}, h.FunFrames B (X.env :: X.outer) → h.get? a = some o → o.data = .fields vs → a ∉ frs (X.env :: X.outer) := fun {h o vs} ff e dd hm => by
      obtain ⟨_, o', e', hnf⟩ := ff.mem hm
      rw [e] at e'; cases e'
      exact hnf _ dd
    have nfr := notFr fl3.2.2.1 he3 hd3
    have nL : a ≠ X.env.locals := fun z => nfr (List.mem_filterMap.mpr ⟨X.env, List.mem_cons_self, by rw [hf, z]⟩)
    have nI : sI.heap.get? a = none := by
      cases e : sI.heap.get? a with
      | none => rfl
      | some o =>
        have := nb a o e (by rw [hs]; exact nfr)
        rw [fl3.2.1] at this
        cases this
    have n0 : X.s_0.heap.get? a = none := by
      cases e : X.s_0.heap.get? a with
      | none => rfl
      | some o =>
        obtain ⟨o', e'⟩ := J.base.there a o e (by rw [hex]; simp)
        rw [nI] at e'
        cases e'
    have nP : ∀ p ∈ X.pn ++ pins, p.1 ≠ a := fun p hp z => by
      have := (J.pin p hp).1
      rw [z, nI] at this
      cases this
    have S3 : Inv (X.suite a X.pn) pins σ' H' { s' with heap := h3 } := ⟨J3.ok.suite _ _, J3.os, J3.bare, J3.base, J3.loc, J3.cell, J3.free, J3.freeC, J3.pin, J3.hok, J3.len⟩
    refine wpAny_handleBy_cons (codeAny_handlers_test ?_) (by intro q; cases q)
    have LT : PySem.W.Looks (model X.prog X.w) h3 (typeOf (.ref a)) cls := fun A Q E s k q => wpAny_typeOf_ref (k _ _ he3) (by rw [hz3.1]; exact q)
    refine ht a cls b pins σ' H' _ _ _ S3 LT hb1 fun h5 k5 => ?_
    have fl5 := fl_keeps k5 fl3
    have up5 : sI.heap.UpToSlots h5 := (up.trans up3).trans (Heap.UpToSlots.of_keeps k5)
    cases b with
    | true =>
      refine codeAny_handlers_suite_as ?_
      refine HandSPX.lands_againZ fl5 fun h4 fl4 up4 => ?_
      have J4 : Inv X pins σ' H' { s' with heap := h4 } := J.landed nb fl4.1 (up5.trans up4) os ag
      obtain ⟨oe4, vs4, he4, hz4, hd4⟩ := fl4.there
      have A4 : Inv X pins σ' (upd H' a (exq a C d)) { s' with heap := h4 } := adopt J4 he4 (hz4.1.trans hcls) hz4.2 hd4 na nL nP n0
      have S4 : Inv (X.suite a X.pn) pins σ' (upd H' a (exq a C d)) { s' with heap := h4 } := ⟨A4.ok.suite _ _, A4.os, A4.bare, A4.base, A4.loc, A4.cell, A4.free, A4.freeC, A4.pin, A4.hok, A4.len⟩
      refine store_ok (X := X.suite a X.pn) (v := .ref a) S4 hN hi hloc rfl (fun s5 S5 => ?_) (.inr hln)
      refine wpAny_mono ((hsu a).run pins s5 _ _ _ S5 (hyes rfl a na)) (fun f s6 hsp => ?_) (fun _ _ z => False.elim z)
      have back : ∀ {σ6 : L2.St} {H6 : Hp} {s6 : Shared}, Inv (X.suite a X.pn) pins σ6 H6 s6 → Inv X pins σ6 H6 s6 := fun S => ⟨ok, S.os, S.bare, S.base, S.loc, S.cell, S.free, S.freeC, S.pin, S.hok, S.len⟩
      have end_ : ∀ {σ6 : L2.St} {H6 : Hp} {Q : Shared → Prop}, Inv (X.suite a X.pn) pins σ6 H6 s6 → (∀ s7, Inv X pins (σ6.set i none) H6 s7 → Q s7) →
          wpAny (model X.prog X.w) X.A (do bindName X.env n .none; unbindBehindTheSuite X.env n pos') (fun _ s7 => Q s7) X.xe s6 := fun {σ6 H6 Q} S6 hq => gone_ok (back S6) hN hi hln hq
      cases f with
      | next =>
        obtain ⟨σ6, H6, S6, q6⟩ := hsp
        exact end_ S6 fun s7 J7 => ⟨_, _, J7, q6⟩
      | brk =>
        obtain ⟨σ6, H6, S6, q6⟩ := hsp
        exact end_ S6 fun s7 J7 => ⟨_, _, J7, q6⟩
      | cont =>
        obtain ⟨σ6, H6, S6, q6⟩ := hsp
        exact end_ S6 fun s7 J7 => ⟨_, _, J7, q6⟩
      | ret u =>
        obtain ⟨v6, σ6, H6, S6, r6, q6⟩ := hsp
        exact end_ S6 fun s7 J7 => ⟨_, _, _, J7, r6, q6⟩
    | false =>
      show wpAny _ X.A (handleBy (.ref a) X.env []) _ _ _
      refine wpAny_handleBy_nil ?_
      obtain ⟨k1, k2, k3, oe, vs, T, oT, ts', he, hz, hd, h1, hr⟩ := id fl5
      unfold PySem.passOn
      refine wpAny_bind (wpAny_field he hd h1 ?_)
      rw [if_neg (show ¬ ((Value.ref T == Value.none) = true) from by simp)]
      have fin : wpAny (model X.prog X.w) X.A (setFlight (.ref a) X.env.frame) (fun _ s4 => wpAny (model X.prog X.w) X.A (throw (.ref a) : Sem Flow) (SP X pins D) X.xe s4) X.xe { s' with heap := h5 } := by
        rw [hf]
        refine HandSPX.setFlight_upZ fl5 fun h4 hh4 up4 => wpAny_throw (tk _ _ ?_)
        exact ⟨a, B, sI, pins, σ', H', cls, d, rfl, J, nb, up5.trans up4, .inr (.inr (by rw [hs]; exact hh4)), na, os, ag, hno rfl⟩
      first
        | exact wpAny_bind (wpAny_pure (wpAny_bind fin))
        | exact wpAny_bind fin
  · cases f with
    | next =>
      obtain ⟨σ', H', J', q⟩ := hsp
      exact wpAny_execs_nil ⟨σ', H', J'.ofTry ok, q⟩
    | brk =>
      obtain ⟨σ', H', J', q⟩ := hsp
      exact ⟨σ', H', J'.ofTry ok, q⟩
    | cont =>
      obtain ⟨σ', H', J', q⟩ := hsp
      exact ⟨σ', H', J'.ofTry ok, q⟩
    | ret u =>
      obtain ⟨v, σ', H', J', r, q⟩ := hsp
      exact ⟨v, σ', H', J'.ofTry ok, r, q⟩
end
/-! ### the tests -/
section
variable {X : Cx} {x1 x2 x3 : Str} {c1 c2 c3 : Value} {p1 p2 p3 tpos : Pos} {kk : Nat}
theorem tst_one (h1 : Names X x1 c1) : TstOk X (.Name x1 p1) (fun cls => PySem.W.exmOne X.K cls c1) := fun a cls b pins σ H s Q E I LT hb q => by
  have LM := PySem.W.exm_one (M := model X.prog X.w) I.kIn LT hb
  obtain ⟨hg, hdbg, hm | ⟨hm, hv, hnn⟩⟩ := h1
  · exact ld_glob (X := X.suite a X.pn) I hg hm (LM.here (q s.heap fun _ _ z => z)) hdbg
  · exact ld_blt (X := X.suite a X.pn) I hg hm hv (LM.here (q s.heap fun _ _ z => z)) hnn hdbg
theorem ld_names {x : Str} {c : Value} {p : Pos} {a : Addr} {pins : List (Addr × Obj)} {σ : L2.St} {H : Hp} {s : Shared} {Q : Value → Shared → Prop} {E : Value → Shared → Prop} (h : Names X x c) (I : Inv (X.suite a X.pn) pins σ H s) (q : Q c s) : wpAny (model X.prog X.w) (X.A.mark (some (.ref a))) (eval (.Name x p) X.env) Q E s := by
  obtain ⟨hg, hdbg, hm | ⟨hm, hv, hnn⟩⟩ := h
  · exact ld_glob (X := X.suite a X.pn) I hg hm q hdbg
  · exact ld_blt (X := X.suite a X.pn) I hg hm hv q hnn hdbg
theorem tst_two (h1 : Names X x1 c1) (h2 : Names X x2 c2) : TstOk X (.Tuple [.Name x1 p1, .Name x2 p2] kk tpos) (fun cls => PySem.W.exmAny X.K cls [c1, c2]) := fun a cls b pins σ H s Q E I LT hb q => by
  refine wpAny_Tuple ?_
  refine wpAny_items_cons (ld_names h1 I ?_)
  refine wpAny_items_cons (ld_names h2 I ?_)
  refine wpAny_items_nil ⟨by size_fits, ?_⟩
  have kp : ∀ q o, s.heap.get? q = some o → (s.heap.push { cls := .type "tuple", data := .seq [c1, c2].toArray }).get? q = some o := fun _ _ z => Heap.get?_push_of_some _ z
  exact (PySem.W.exm_tup2 (M := model X.prog X.w) (I.kIn.keeps kp) (LT.keeps kp) (Heap.get?_push_size s.heap rfl) hb).here (q _ kp)
theorem tst_three (h1 : Names X x1 c1) (h2 : Names X x2 c2) (h3 : Names X x3 c3) : TstOk X (.Tuple [.Name x1 p1, .Name x2 p2, .Name x3 p3] kk tpos) (fun cls => PySem.W.exmAny X.K cls [c1, c2, c3]) := fun a cls b pins σ H s Q E I LT hb q => by
  refine wpAny_Tuple ?_
  refine wpAny_items_cons (ld_names h1 I ?_)
  refine wpAny_items_cons (ld_names h2 I ?_)
  refine wpAny_items_cons (ld_names h3 I ?_)
  refine wpAny_items_nil ⟨by size_fits, ?_⟩
  have kp : ∀ q o, s.heap.get? q = some o → (s.heap.push { cls := .type "tuple", data := .seq [c1, c2, c3].toArray }).get? q = some o := fun _ _ z => Heap.get?_push_of_some _ z
  exact (PySem.W.exm_tup3 (M := model X.prog X.w) (I.kIn.keeps kp) (LT.keeps kp) (Heap.get?_push_size s.heap rfl) hb).here (q _ kp)
end
end M
/-! M41: try in the embedding. -/
namespace M
open PySem PySem.Spec PyProof.Rows L2
def clrS (i : Nat) : RS → RS
  | .nx env st => .nx (env.set i none) st
  | .bk env st => .bk (env.set i none) st
  | .ct env st => .ct (env.set i none) st
  | .ret d st => .ret d st
  | _ => .bad
def kTry (tf : Str → Option Bool) (i : Nat) (su : IS) : RS → RS
  | .exc C fs env st => match tf C with
    | some true => clrS i (su (env.set i (some (.exc C fs))) st)
    | some false => .exc C fs env st
    | none => .bad
  | r => r
def sTry (tf : Str → Option Bool) (i : Nat) (b su : IS) : IS := fun env st => kTry tf i su (b env st)
section
variable {X : Cx} {F : Fx} {n : Str} {i : Nat} {te : Expr} {tf : Value → Option Bool} {tfD : Str → Option Bool} {body suite : List Stmt} {b₀ : Stmt} {pos pos' : Pos} {b su : IS}
theorem s_try (hs : X.stack = X.env :: X.outer) (hf : X.env.frame = some X.env.locals) (hex : X.ex = []) (hN : X.N.Nodup) (hi : X.N[i]? = some n) (hln : X.env.kindOf n = some .local) (ht : TstOk X te tf) (htf : ∀ C b, tfD C = some b → tf (.ref (F.g C)) = some b) (tk : Takes X F.E)
    (hb : ∀ (W : WX) (pn : List (Addr × Obj)) (xe : Value → Shared → Prop), Takes (X.tr pn xe) W → PassesOwn (model X.prog X.w) X.A X.env xe → PSs (X.tr pn xe) body (TS_ { F with E := W } b))
    (hsu : ∀ (a : Addr), PSs (X.suite a X.pn) (b₀ :: suite) (TS_ { F with E := fun _ _ _ _ => False } su)) :
    PS X (.Try body [.ExceptHandler (some te) (some n) (b₀ :: suite) pos'] [] [] pos) (TS_ F (sTry tfD i b su)) := by
  refine PS.imp (ps_try_tup (tb := fun W => TS_ { F with E := W } b) (ts := fun _ => TS_ { F with E := fun _ _ _ _ => False } su) (Wout := F.E) hs hf hex hN hi hln ht tk hb hsu) fun N σ H ⟨W, st, env, A, p⟩ => ?_
  refine ⟨W, st, env, ⟨A.k, A.g, A.h, A.sim, A.env⟩, ?_⟩
  have p' : PostS W (kTry tfD i su (b env st)) N F.E := p
  cases q : b env st with
  | nx e s => rw [q] at p'; exact p'
  | ret d s => rw [q] at p'; exact p'
  | bk e s => rw [q] at p'; exact p'
  | ct e s => rw [q] at p'; exact p'
  | bad => rw [q] at p'; exact p'.elim
  | exc C fs e s =>
    rw [q] at p'
    have p2 : PostS W (match tfD C with
      | some true => clrS i (su (e.set i (some (.exc C fs))) s)
      | some false => .exc C fs e s
      | none => .bad) N F.E := p'
    intro ρ' H' σ' d x S er xr
    have hg : W.g C = F.g C := by rw [A.g]
    cases hc : tfD C with
    | none => rw [hc] at p2; exact p2.elim
    | some c =>
      rw [hc] at p2
      refine ⟨c, W.g C, rfl, by rw [hg]; exact htf C c hc, fun ec a ha => ?_, fun ec => ?_⟩
      · subst ec
        have p3 : PostS W (clrS i (su (e.set i (some (.exc C fs))) s)) N F.E := p2
        have x2 : Ext (W.to ρ' H') ρ' (upd H' a (exq a (W.g C) d)) := ext_new0 (W := W.to ρ' H') ha
        have S2 : Sim (W.to ρ' (upd H' a (exq a (W.g C) d))) s := S.new0 ha
        have fa : (W.to ρ' (upd H' a (exq a (W.g C) d))).fro a := new_fro (W := W.to ρ' H') S ha
        obtain ⟨gs, rf, h0, h1⟩ := xr
        have rv : RV (W.to ρ' (upd H' a (exq a (W.g C) d))) (.exc C fs) (.ref a) := .exc (d := d) upd_same fa h0 (fun dx z => by
          obtain ⟨u1, u2⟩ := h1 dx z
          exact ⟨(upd_ne (ne_of_none u1 ha)).trans u1, fro_mono x2 u1 u2⟩) (rf.mono x2)
        refine ⟨W.to ρ' (upd H' a (exq a (W.g C) d)), s, e.set i (some (.exc C fs)), ⟨A.k, A.g, rfl, S2, (er.mono x2).set rv i⟩, ?_⟩
        have p4 := PostS.ext (x.trans x2) p3
        cases r : su (e.set i (some (.exc C fs))) s with
        | nx e6 s6 => rw [r] at p4; exact fun ρ6 H6 σ6 x6 S6 er6 => p4 ρ6 H6 _ x6 S6 (er6.clear i)
        | ret d6 s6 => rw [r] at p4; exact p4
        | bk e6 s6 => rw [r] at p4; exact fun ρ6 H6 σ6 x6 S6 er6 => p4 ρ6 H6 _ x6 S6 (er6.clear i)
        | ct e6 s6 => rw [r] at p4; exact fun ρ6 H6 σ6 x6 S6 er6 => p4 ρ6 H6 _ x6 S6 (er6.clear i)
        | exc C6 f6 e6 s6 => rw [r] at p4; exact p4.elim
        | bad => rw [r] at p4; exact p4.elim
      · subst ec
        have p3 : PostS W (.exc C fs e s) N F.E := p2
        exact p3 ρ' H' σ' d x S er xr
end
end M
/-! M42: count and index of a list of truths. -/
namespace M
open PySem PySem.Spec PyProof.Rows L2
theorem bools_read {W : Vw} {h : Heap} : ∀ {bs : List Bool} {ys : List V} {us : List Value}, RVs W (bs.map .bl) ys → Vals ys us → ∃ as, ReadsAll h us (bs.map PyData.bool) as
  | [], _, _, .nil, r => by cases r; exact ⟨_, .nil⟩
  | b :: bs, _, _, .cons rb rs, r => by
    cases rb
    cases r with
    | cons ru r =>
      cases ru
      obtain ⟨as, q⟩ := bools_read rs r
      exact ⟨_, .cons (.bool b) q⟩
theorem asB_map : ∀ {xs : List D} {bs : List Bool}, allP asB xs = some bs → xs = bs.map .bl
  | [], _, h => by cases h; rfl
  | x :: xs, bs, h => by
    unfold allP at h
    cases e1 : asB x with
    | none => rw [e1] at h; cases h
    | some b =>
      cases e2 : allP asB xs with
      | none => rw [e1, e2] at h; cases h
      | some bs' =>
        rw [e1, e2] at h
        cases h
        cases x <;> simp [asB] at e1
        rw [List.map_cons, ← asB_map e2, e1]
def opCount (a : D) : OpN := fun ds st => match ds with
  | [.bl k] => match alst st a with
    | some xs => match allP asB xs with
      | some bs => some (.int ((bs.countP fun y => decide (y = k) : Nat) : Int), st)
      | none => none
    | none => none
  | _ => none
def opIndex (a : D) : OpN := fun ds st => match ds with
  | [.bl k] => match alst st a with
    | some xs => match allP asB xs with
      | some bs => if k ∈ bs ∧ bs.length ≤ sizeLine then some (.int (bs.idxOf k : Nat), st) else none
      | none => none
    | none => none
  | _ => none
section
variable {X : Cx} {F : Fx}
theorem mr_count (hk : X.K = F.K) (hu : X.A.units + 64 < cLine) : MtR X "list.count" (rMl F opCount) := fun pins s σ H x vs v us Q I rx rv ⟨W, st, a, ds, J, ra, rd, p⟩ => by
  unfold opCount at p
  split at p
  · rename_i k
    split at p
    · rename_i xs hx
      split at p
      · rename_i bs hb
        obtain ⟨q, ys, rfl, t1, r⟩ := alst_lse J.sim hx ra
        have exs := asB_map hb
        subst exs
        cases rx
        cases rd with
        | cons rk rn =>
          cases rk
          cases rn
          obtain ⟨u, rfl, ru⟩ := rv.one
          cases ru
          rw [J.h, J.k, ← hk] at t1
          obtain ⟨z, its, n, r2, hl, e⟩ := t1.at_ I
          obtain ⟨as, ar⟩ := bools_read (h := s.heap) r r2
          exact PySem.W.count_list_datum (α := Bool) (vs := its.toArray) (xs := bs) (x := k) ⟨_, e, rfl, n, rfl⟩ ⟨as, ar⟩ ⟨_, .bool k⟩ (by show X.A.units + 1 + 0 < cLine; omega) ⟨.int _, H, I.tok _, ⟨_, rfl⟩, J.now p (.int _)⟩
      · exact p.elim
    · exact p.elim
  · exact p.elim
theorem mr_index (hk : X.K = F.K) (hu : X.A.units + 64 < cLine) : MtR X "list.index" (rMl F opIndex) := fun pins s σ H x vs v us Q I rx rv ⟨W, st, a, ds, J, ra, rd, p⟩ => by
  unfold opIndex at p
  split at p
  · rename_i k
    split at p
    · rename_i xs hx
      split at p
      · rename_i bs hb
        split at p
        · rename_i hc
          obtain ⟨q, ys, rfl, t1, r⟩ := alst_lse J.sim hx ra
          have exs := asB_map hb
          subst exs
          cases rx
          cases rd with
          | cons rk rn =>
            cases rk
            cases rn
            obtain ⟨u, rfl, ru⟩ := rv.one
            cases ru
            rw [J.h, J.k, ← hk] at t1
            obtain ⟨z, its, n, r2, hl, e⟩ := t1.at_ I
            obtain ⟨as, ar⟩ := bools_read (h := s.heap) r r2
            exact PySem.W.index_list_datum (α := Bool) (vs := its) (xs := bs) (x := k) ⟨_, e, rfl, n, rfl⟩ ⟨as, ar⟩ ⟨_, .bool k⟩ (by show X.A.units + 1 + 0 < cLine; omega) hc.2 hc.1 ⟨.int _, H, I.tok _, ⟨_, rfl⟩, J.now p (.int _)⟩
        · exact p.elim
      · exact p.elim
    · exact p.elim
  · exact p.elim
end
end M
/-! M43: defs that let nothing out; what a text of a program wants of raise and try. -/
namespace M
open PySem PySem.Spec PyProof.Rows L2
/-- f, an exception counted as out of the embedding -/
def quietF (f : Fn) : Fn := fun ds st => match f ds st with
  | .ok d s => .ok d s
  | _ => .bad
theorem quiet_nox (f : Fn) : NoX (quietF f) := fun ds st C gs s h => by
  unfold quietF at h
  cases q : f ds st <;> rw [q] at h <;> cases h
theorem quiet_post {W : Vw} {r : R D} {Q : VK} {E : XK} (h : PostE W (match r with
  | .ok d s => R.ok d s
  | _ => .bad) Q E) : PostE W r Q E := by
  cases r with
  | ok d s => exact h
  | exc C gs s => exact h.elim
  | bad => exact h.elim
theorem fnw_quiet {P : Program} {w : World} {K : PySem.W.Frag} {mg : Str → Option Value} {base : Heap} {g : Str → Addr} {k : Nat} {f : Addr} {fd : FuncData} {ps : List Str} {fs : Fn} (G : FnW P w K mg base k f fd ps (SPx K g fs)) : FnW P w K mg base k f fd ps (SPx K g (quietF fs)) :=
  G.imp fun vs H Q E ⟨W, st, ds, h1, h2, h3, h4, h5, h6⟩ => ⟨W, st, ds, h1, h2, h3, h4, h5, quiet_post h6⟩
theorem roomH_markM {k : Nat} {A : Around} (r : Room k A) (h : Option Value) : L2H.RoomH k (A.mark h) := ⟨r.dp, r.un⟩
theorem raisesX {X : Cx} {C : Addr} (T : XC X.K C) : Raises X (.ref C) := raises_own T.exC T.tyC
/-- what the classes of an except clause say, by name -/
def exmB (K : PySem.W.Frag) (cs : List Str) (q : Str × Bool) : Bool := decide (PySem.W.exmAny K (.ref (He.ga K q.1)) (cs.map fun c => Value.ref (He.ga K c)) = some q.2)
def exmT (tb : List (Str × Bool)) (C : Str) : Option Bool := tb.lookup C
theorem exmT_ok {K : PySem.W.Frag} {cs : List Str} {tb : List (Str × Bool)} (h : tb.all (exmB K cs) = true) (C : Str) (b : Bool) (e : exmT tb C = some b) : PySem.W.exmAny K (.ref (He.ga K C)) (cs.map fun c => Value.ref (He.ga K c)) = some b := by
  have : ∀ tb : List (Str × Bool), tb.all (exmB K cs) = true → exmT tb C = some b → PySem.W.exmAny K (.ref (He.ga K C)) (cs.map fun c => Value.ref (He.ga K c)) = some b := by
    intro tb
    induction tb with
    | nil => intro _ e; cases e
    | cons q r ih =>
      intro h e
      rw [List.all_cons, Bool.and_eq_true] at h
      unfold exmT at e
      rw [show q = (q.1, q.2) from rfl, List.lookup_cons] at e
      split at e
      · rename_i hq
        cases e
        have : C = q.1 := by simpa using hq
        rw [this]
        exact of_decide_eq_true h.1
      · exact ih h.2 e
  exact this tb h e
end M
/-! M44: max of three. -/
namespace M
open PySem PySem.Spec PyProof.Rows L2
section
variable {X : Cx} {F : Fx}
def opMax3 : OpN := fun ds st => match ds with
  | [.int i, .int j, .int k] => some (.int (if j > i then (if k > j then k else j) else (if k > i then k else i)), st)
  | _ => none
theorem cr_max3 (hc : X.calm = true) : CallR X (.builtin "max") (rN F opMax3) := fun pins s σ H vs us Q I r ⟨W, st, ds, J, rd, p⟩ => by
  unfold opMax3 at p
  split at p
  · rename_i i j k
    cases rd with
    | cons r1 rd => cases rd with
      | cons r2 rd => cases rd with
        | cons r3 rd =>
          cases rd
          cases r1
          cases r2
          cases r3
          cases r with
          | cons u1 r => cases r with
            | cons u2 r => cases r with
              | cons u3 r =>
                cases r
                obtain ⟨t1, rfl⟩ := u1
                obtain ⟨t2, rfl⟩ := u2
                obtain ⟨t3, rfl⟩ := u3
                refine max_three_ints (I.ok.hd hc) fun h' tk kk => ⟨_, H, I.kept kk, ?_, J.now p (.int _)⟩
                by_cases h1 : j > i
                · rw [if_pos h1, if_pos h1]
                  by_cases h2 : k > j
                  · rw [if_pos h2, if_pos h2]; exact ⟨_, rfl⟩
                  · rw [if_neg h2, if_neg h2]; exact ⟨_, rfl⟩
                · rw [if_neg h1, if_neg h1]
                  by_cases h2 : k > i
                  · rw [if_pos h2, if_pos h2]; exact ⟨_, rfl⟩
                  · rw [if_neg h2, if_neg h2]; exact ⟨_, rfl⟩
  · exact p.elim
end
end M
/-! M45: index of a list of texts. -/
namespace M
open PySem PySem.Spec PyProof.Rows L2
theorem strs_read {W : Vw} {h : Heap} : ∀ {bs : List Str} {ys : List V} {us : List Value}, RVs W (bs.map .str) ys → Vals ys us → ∃ as, ReadsAll h us (bs.map PyData.str) as
  | [], _, _, .nil, r => by cases r; exact ⟨_, .nil⟩
  | b :: bs, _, _, .cons rb rs, r => by
    cases rb
    cases r with
    | cons ru r =>
      obtain ⟨t, rfl⟩ := ru
      obtain ⟨as, q⟩ := strs_read rs r
      exact ⟨_, .cons (.str b t) q⟩
theorem asS_map : ∀ {xs : List D} {bs : List Str}, allP asS xs = some bs → xs = bs.map .str
  | [], _, h => by cases h; rfl
  | x :: xs, bs, h => by
    unfold allP at h
    cases e1 : asS x with
    | none => rw [e1] at h; cases h
    | some b =>
      cases e2 : allP asS xs with
      | none => rw [e1, e2] at h; cases h
      | some bs' =>
        rw [e1, e2] at h
        cases h
        cases x <;> simp [asS] at e1
        rw [List.map_cons, ← asS_map e2, e1]
def opIndexT (a : D) : OpN := fun ds st => match ds with
  | [.str k] => match alst st a with
    | some xs => match allP asS xs with
      | some bs => if k ∈ bs ∧ bs.length ≤ sizeLine then some (.int (bs.idxOf k : Nat), st) else none
      | none => none
    | none => none
  | _ => none
section
variable {X : Cx} {F : Fx}
theorem mr_indexT (hk : X.K = F.K) (hu : X.A.units + 64 < cLine) : MtR X "list.index" (rMl F opIndexT) := fun pins s σ H x vs v us Q I rx rv ⟨W, st, a, ds, J, ra, rd, p⟩ => by
  unfold opIndexT at p
  split at p
  · rename_i k
    split at p
    · rename_i xs hx
      split at p
      · rename_i bs hb
        split at p
        · rename_i hc
          obtain ⟨q, ys, rfl, t1, r⟩ := alst_lse J.sim hx ra
          have exs := asS_map hb
          subst exs
          cases rx
          cases rd with
          | cons rk rn =>
            cases rk
            cases rn
            obtain ⟨u, rfl, ru⟩ := rv.one
            obtain ⟨t, rfl⟩ := ru
            rw [J.h, J.k, ← hk] at t1
            obtain ⟨z, its, n, r2, hl, e⟩ := t1.at_ I
            obtain ⟨as, ar⟩ := strs_read (h := s.heap) r r2
            exact PySem.W.index_list_datum (α := Str) (vs := its) (xs := bs) (x := k) ⟨_, e, rfl, n, rfl⟩ ⟨as, ar⟩ ⟨_, .str k t⟩ (by show X.A.units + 1 + 0 < cLine; omega) hc.2 hc.1 ⟨.int _, H, I.tok _, ⟨_, rfl⟩, J.now p (.int _)⟩
        · exact p.elim
      · exact p.elim
    · exact p.elim
  · exact p.elim
end
end M
/-! tables -/
namespace M
open PySem
def dv_BARRED : List He.Dv := [.str "n", .str "m", .str "is", .str "if", .str "else", .str "draw", .str "below", .str "put", .str "exchange", .str "empty", .str "places", .str "take", .str "other", .str "join"]
def dv_HEADS : List He.Dv := [.str "n", .str "2*n", .str "3*n"]
def dv_NAMED : List He.Dv := [.str "below", .str "is"]
def tl_Sampler : List (Tg × Tg × Bool) := [(.ty "str", .own "Sampler", false), (.ty "tuple", .own "Sampler", false), (.ty "list", .own "Sampler", false), (.ty "NoneType", .own "Sampler", false), (.ty "int", .own "Sampler", false), (.ty "bool", .own "Sampler", false), (.ty "dict", .own "Sampler", false), (.own "Sampler", .own "Sampler", true)]
def tl_list : List (Tg × Tg × Bool) := [(.ty "str", .ty "list", false), (.ty "tuple", .ty "list", false), (.ty "list", .ty "list", true), (.ty "NoneType", .ty "list", false), (.ty "int", .ty "list", false), (.ty "bool", .ty "list", false), (.ty "dict", .ty "list", false), (.own "Sampler", .ty "list", false)]
def tl_str : List (Tg × Tg × Bool) := [(.ty "str", .ty "str", true), (.ty "tuple", .ty "str", false), (.ty "list", .ty "str", false), (.ty "NoneType", .ty "str", false), (.ty "int", .ty "str", false), (.ty "bool", .ty "str", false), (.ty "dict", .ty "str", false), (.own "Sampler", .ty "str", false)]
def tx__law_made : List (Str × Bool) := [("UnknownPlace", true), ("BelowOne", true), ("InvalidText", true), ("TooMuch", true), ("DrawnTwice", true), ("NotDrawn", true)]
def xs_k13 : List Str := ["UnknownPlace", "BelowOne", "InvalidText", "TooMuch", "DrawnTwice", "NotDrawn"]
def tl_xk13 : List (Tg × Tg × Bool) := [(.own "UnknownPlace", .own "BelowOne", false), (.own "UnknownPlace", .own "DrawnTwice", false), (.own "UnknownPlace", .own "InvalidCount", false), (.own "UnknownPlace", .own "InvalidItem", false), (.own "UnknownPlace", .own "InvalidLength", false), (.own "UnknownPlace", .own "InvalidPlace", false), (.own "UnknownPlace", .own "InvalidText", false), (.own "UnknownPlace", .own "KeepError", false), (.own "UnknownPlace", .ty "LookupError", true), (.own "UnknownPlace", .own "NotASampler", false), (.own "UnknownPlace", .own "NotDrawn", false), (.own "UnknownPlace", .own "ProgramError", true), (.own "UnknownPlace", .ty "RuntimeError", false), (.own "UnknownPlace", .own "TextError", false), (.own "UnknownPlace", .own "TooMuch", false), (.own "UnknownPlace", .own "UnknownPlace", true), (.own "UnknownPlace", .own "Unsettled", false), (.own "UnknownPlace", .ty "ValueError", false), (.own "BelowOne", .own "BelowOne", true), (.own "BelowOne", .own "DrawnTwice", false), (.own "BelowOne", .own "InvalidCount", false), (.own "BelowOne", .own "InvalidItem", false), (.own "BelowOne", .own "InvalidLength", false), (.own "BelowOne", .own "InvalidPlace", false), (.own "BelowOne", .own "InvalidText", false), (.own "BelowOne", .own "KeepError", false), (.own "BelowOne", .ty "LookupError", true), (.own "BelowOne", .own "NotASampler", false), (.own "BelowOne", .own "NotDrawn", false), (.own "BelowOne", .own "ProgramError", true), (.own "BelowOne", .ty "RuntimeError", false), (.own "BelowOne", .own "TextError", false), (.own "BelowOne", .own "TooMuch", false), (.own "BelowOne", .own "UnknownPlace", false), (.own "BelowOne", .own "Unsettled", false), (.own "BelowOne", .ty "ValueError", false), (.own "InvalidText", .own "BelowOne", false), (.own "InvalidText", .own "DrawnTwice", false), (.own "InvalidText", .own "InvalidCount", false), (.own "InvalidText", .own "InvalidItem", false), (.own "InvalidText", .own "InvalidLength", false), (.own "InvalidText", .own "InvalidPlace", false), (.own "InvalidText", .own "InvalidText", true), (.own "InvalidText", .own "KeepError", false), (.own "InvalidText", .ty "LookupError", false), (.own "InvalidText", .own "NotASampler", false), (.own "InvalidText", .own "NotDrawn", false), (.own "InvalidText", .own "ProgramError", false), (.own "InvalidText", .ty "RuntimeError", false), (.own "InvalidText", .own "TextError", true), (.own "InvalidText", .own "TooMuch", false), (.own "InvalidText", .own "UnknownPlace", false), (.own "InvalidText", .own "Unsettled", false), (.own "InvalidText", .ty "ValueError", true), (.own "TooMuch", .own "BelowOne", false), (.own "TooMuch", .own "DrawnTwice", false), (.own "TooMuch", .own "InvalidCount", false), (.own "TooMuch", .own "InvalidItem", false), (.own "TooMuch", .own "InvalidLength", false), (.own "TooMuch", .own "InvalidPlace", false), (.own "TooMuch", .own "InvalidText", false), (.own "TooMuch", .own "KeepError", false), (.own "TooMuch", .ty "LookupError", true), (.own "TooMuch", .own "NotASampler", false), (.own "TooMuch", .own "NotDrawn", false), (.own "TooMuch", .own "ProgramError", true), (.own "TooMuch", .ty "RuntimeError", false), (.own "TooMuch", .own "TextError", false), (.own "TooMuch", .own "TooMuch", true), (.own "TooMuch", .own "UnknownPlace", false), (.own "TooMuch", .own "Unsettled", false), (.own "TooMuch", .ty "ValueError", false), (.own "DrawnTwice", .own "BelowOne", false), (.own "DrawnTwice", .own "DrawnTwice", true), (.own "DrawnTwice", .own "InvalidCount", false), (.own "DrawnTwice", .own "InvalidItem", false), (.own "DrawnTwice", .own "InvalidLength", false), (.own "DrawnTwice", .own "InvalidPlace", false), (.own "DrawnTwice", .own "InvalidText", false), (.own "DrawnTwice", .own "KeepError", false), (.own "DrawnTwice", .ty "LookupError", true), (.own "DrawnTwice", .own "NotASampler", false), (.own "DrawnTwice", .own "NotDrawn", false), (.own "DrawnTwice", .own "ProgramError", true), (.own "DrawnTwice", .ty "RuntimeError", false), (.own "DrawnTwice", .own "TextError", false), (.own "DrawnTwice", .own "TooMuch", false), (.own "DrawnTwice", .own "UnknownPlace", false), (.own "DrawnTwice", .own "Unsettled", false), (.own "DrawnTwice", .ty "ValueError", false), (.own "NotDrawn", .own "BelowOne", false), (.own "NotDrawn", .own "DrawnTwice", false), (.own "NotDrawn", .own "InvalidCount", false), (.own "NotDrawn", .own "InvalidItem", false), (.own "NotDrawn", .own "InvalidLength", false), (.own "NotDrawn", .own "InvalidPlace", false), (.own "NotDrawn", .own "InvalidText", false), (.own "NotDrawn", .own "KeepError", false), (.own "NotDrawn", .ty "LookupError", true), (.own "NotDrawn", .own "NotASampler", false), (.own "NotDrawn", .own "NotDrawn", true), (.own "NotDrawn", .own "ProgramError", true), (.own "NotDrawn", .ty "RuntimeError", false), (.own "NotDrawn", .own "TextError", false), (.own "NotDrawn", .own "TooMuch", false), (.own "NotDrawn", .own "UnknownPlace", false), (.own "NotDrawn", .own "Unsettled", false), (.own "NotDrawn", .ty "ValueError", false)]
abbrev tb_k13 := isaT tl_xk13
def fl_k13 (f : Str) : List Str := if f = "line" then ["UnknownPlace", "BelowOne", "DrawnTwice", "NotDrawn"] else if f = "value" then ["InvalidText"] else if f = "what" then ["TooMuch"] else []
end M
/-! the run of the top -/
namespace M
noncomputable section
open PySem PySem.Spec PyProof.Rows L2
def top (i : Nat) : Stmt := PySem.Challenge.pw_evenkeeps_k13_forms_in_texts.main.body.getD i (.Pass ⟨0, 0, 0, 0⟩)
def inCls (st : Stmt) (j : Nat) : Stmt := match st with
  | .ClassDef _ _ _ b _ _ _ _ _ _ _ => b.getD j (.Pass ⟨0, 0, 0, 0⟩)
  | s => s
abbrev dF (x : Str) (i : Nat) : He.DefD := ⟨(x, none), x, x, defArgs (top i), defBody (top i), defScope (top i), [], []⟩
abbrev dM (c m q : Str) (i j : Nat) : He.DefD := ⟨(c, some m), m, q, defArgs (inCls (top i) j), defBody (inCls (top i) j), defScope (inCls (top i) j), [], []⟩
abbrev dP (c m q : Str) (i j : Nat) : PD := ⟨c, m, m, q, defArgs (inCls (top i) j), defBody (inCls (top i) j), defScope (inCls (top i) j)⟩
def fn_ : List He.DefD := [dF "_law_cell" 51, dF "_law_pool" 52, dF "_law_draw" 53, dF "_law_bent" 60, dF "_law_form_text" 56, dM "Sampler" "__eq__" "Sampler.__eq__" 49 4, dF "followed" 42, dF "flat" 40, dF "lines_beyond" 41, dF "check_program" 45, dF "nesting" 43, dF "check_sizes" 46, dF "most_drawn" 44, dF "check_way" 47, dF "number_in" 27, dF "form_in" 28, dF "is_name" 29, dF "draw_in" 30, dF "places_in" 33, dF "line_in" 34, dF "name_test_in" 31, dF "test_in" 32, dF "block_in" 35, dF "branches_in" 36, dF "sampler_in" 37, dM "Sampler" "__init__" "Sampler.__init__" 49 0, dM "Sampler" "__repr__" "Sampler.__repr__" 49 6, dM "Sampler" "__str__" "Sampler.__str__" 49 5, dF "_law_is" 61, dF "_law_error" 57, dF "_law_field" 58, dF "_law_made" 59, dF "_law_letters" 54, dF "_law_tags" 55, dF "_law_right" 62, dF "law" 63, dM "UnknownPlace" "__init__" "UnknownPlace.__init__" 10 0, dM "BelowOne" "__init__" "BelowOne.__init__" 13 0, dM "InvalidText" "__init__" "InvalidText.__init__" 4 0, dM "TooMuch" "__init__" "TooMuch.__init__" 15 0, dM "DrawnTwice" "__init__" "DrawnTwice.__init__" 12 0, dM "NotDrawn" "__init__" "NotDrawn.__init__" 11 0]
def xd_ : List XD := [⟨"UnknownPlace", .l, some ["line"]⟩, ⟨"BelowOne", .l, some ["line"]⟩, ⟨"InvalidText", .v, some ["value"]⟩, ⟨"TooMuch", .l, some ["what"]⟩, ⟨"DrawnTwice", .l, some ["line"]⟩, ⟨"NotDrawn", .l, some ["line"]⟩]
def pd_ : List PD := []
def fa_ : List He.Fa := [.glo "BARRED", .glo "BelowOne", .glo "DrawnTwice", .glo "HEADS", .glo "InvalidCount", .glo "InvalidItem", .glo "InvalidLength", .glo "InvalidPlace", .glo "InvalidText", .glo "KeepError", .glo "NAMED", .glo "NotASampler", .glo "NotDrawn", .glo "ProgramError", .glo "Sampler", .glo "TextError", .glo "TooMuch", .glo "UnknownPlace", .glo "Unsettled", .glo "_law_bent", .glo "_law_cell", .glo "_law_draw", .glo "_law_error", .glo "_law_field", .glo "_law_form_text", .glo "_law_is", .glo "_law_letters", .glo "_law_made", .glo "_law_pool", .glo "_law_right", .glo "_law_tags", .glo "block_in", .glo "branches_in", .glo "check_program", .glo "check_sizes", .glo "check_way", .glo "draw_in", .glo "flat", .glo "followed", .glo "form_in", .glo "is_name", .glo "line_in", .glo "lines_beyond", .glo "most_drawn", .glo "name_test_in", .glo "nesting", .glo "number_in", .glo "places_in", .glo "sampler_in", .glo "test_in", .free "LookupError", .free "RuntimeError", .free "ValueError", .free "abs", .free "all", .free "divmod", .free "enumerate", .free "int", .free "isinstance", .free "len", .free "list", .free "max", .free "min", .free "range", .free "repr", .free "set", .free "sorted", .free "str", .free "tuple", .int "LAST_EARLY" 12, .int "MOST_DIGIT" 9, .int "MOST_DRAWS" 6, .int "MOST_NESTED" 4, .int "MOST_NUMBER" 9, .int "MOST_ON_A_WAY" 3, .int "MOST_STATEMENTS" 24, .str "LETTERS" "abcdefghijklmnopqrstuvwxyz", .glo "law", .mkr "Sampler", .cls "Sampler", .noat "Sampler" "source", .noat "Sampler" "tree", .noat "Sampler" "wide"]
def bs_ (K : PySem.W.Frag) : List Bool := [He.tupB K "BARRED" dv_BARRED, He.tupB K "HEADS" dv_HEADS, He.tupB K "NAMED" dv_NAMED, insB K "Sampler", eqcB K "Sampler" ["str", "tuple", "list", "NoneType", "int", "bool", "dict"], slotB K "Sampler" "__str__", slotB K "Sampler" "__repr__", tl_Sampler.all (isaB K), tl_list.all (isaB K), tl_str.all (isaB K), xd_.all (fun d => d.ok K), tl_xk13.all (isaB K), tx__law_made.all (exmB K ["TextError", "ProgramError", "KeepError"])]
def bB_ (K : PySem.W.Frag) : Bool := (bs_ K).all id
end
noncomputable section
open PySem PySem.W PySem.Calls PyProof.Rows
abbrev R_ : OpenRow := OpenLaw.row PySem.Challenge.rw_evenkeeps_k13_forms_in_texts
abbrev qv_ : Program := view R_.prog [63]
def names_ : List PySem.Str := (["TextError", "ProgramError", "KeepError", "InvalidText", "NotASampler", "InvalidLength", "InvalidItem", "InvalidPlace", "InvalidCount", "UnknownPlace", "NotDrawn", "DrawnTwice", "BelowOne", "Unsettled", "TooMuch", "MOST_STATEMENTS", "MOST_DRAWS", "MOST_NESTED", "MOST_ON_A_WAY", "LETTERS", "BARRED", "HEADS", "MOST_NUMBER", "MOST_DIGIT", "LAST_EARLY", "number_in", "form_in", "is_name", "draw_in", "name_test_in"] : List PySem.Str) ++ (["test_in", "places_in", "line_in", "block_in", "branches_in", "sampler_in", "NAMED", "flat", "lines_beyond", "followed", "nesting", "most_drawn", "check_program", "check_sizes", "check_way", "Sampler", "_law_cell", "_law_pool", "_law_draw", "_law_letters", "_law_tags", "_law_form_text", "_law_error", "_law_field", "_law_made", "_law_bent", "_law_is", "_law_right"] : List PySem.Str)
abbrev hk_ : PySem.W.Hook := hookP 6 bB_ fa_ fn_ pd_
def ob_ (s : PySem.W.SharedT) : AlP := obsPG 6 bB_ fa_ fn_ pd_ (HandSHeadRun.getT s)
theorem ob_eq_ (s : PySem.W.SharedT) : ob_ s = hk_.obs s.abs := obsPG_eq (HandSHeadRun.getT_eq s)
theorem runA_ (w : World) (os : OsState) : (HandSHeadRun.endF (HandSHeadRun.stepQ (HandSHeadRun.denQ HandSHeadRun.tabQ) R_.prog w) 9000 R_.prog w os).map (fun s => (HandSHeadRun.looksF R_.prog (boot_heap w.params) s.abs, HandSHeadRun.seenQ qv_ names_ (importedModules R_.prog.main.body) (fun s => xlAt qv_ [] s && recOk R_.toRowW.records s) s.abs)) = some (true, openGood qv_ names_) := by
  kernel_rfl
theorem runB_ (w : World) (os : OsState) : (HandSHeadRun.endF (HandSHeadRun.stepQ (HandSHeadRun.denQ HandSHeadRun.tabQ) R_.prog w) 9000 R_.prog w os).map (fun s => ((ob_ s).1, (ob_ s).2.2)) = some (true, pd_.map PD.val) := by
  kernel_rfl
theorem runC_ (w : World) (os : OsState) : (HandSHeadRun.endF (HandSHeadRun.stepQ (HandSHeadRun.denQ HandSHeadRun.tabQ) R_.prog w) 9000 R_.prog w os).map (fun s => (ob_ s).2.1) = some (He.valD fn_) := by
  kernel_rfl
theorem map_all {α β γ A B C : Type} {x : Option α} {f : α → β} {g : α → γ} {ob : α → A × B × C} {a : β} {b : γ} {c : A} {d : B} {e : C} (hA : x.map (fun s => (f s, g s)) = some (a, b)) (hB : x.map (fun s => ((ob s).1, (ob s).2.2)) = some (c, e)) (hC : x.map (fun s => (ob s).2.1) = some d) : x.map (fun s => (f s, g s, ob s)) = some (a, b, (c, d, e)) := by
  cases x with
  | none => cases hC
  | some s =>
    simp only [Option.map_some, Option.some.injEq, Prod.mk.injEq] at hA hB hC ⊢
    obtain ⟨h1, h2⟩ := hA
    obtain ⟨h3, h4⟩ := hB
    refine ⟨h1, h2, ?_⟩
    rw [← h3, ← hC, ← h4]
theorem run_ (w : World) : HandSHeadRun.RunEq R_ qv_ hk_ ob_ 9000 names_ w := fun os => map_all (runA_ w os) (runB_ w os) (runC_ w os)
end
end M
/-! the program's functions as Lean functions -/
namespace M
open PySem
def B_p_Sampler___eq__ : IS := (sRet (iAnd (iN (opIsiI ["Sampler"] [] (isaT tl_Sampler)) (aCons (iVar 1) (aCons (iC (.glo "Sampler")) aNil))) (iBin (opEq false) (iUn (opGet ["Sampler"] "source") (iVar 0)) (iUn (opGet ["Sampler"] "source") (iVar 1)))))
def p_Sampler___eq__ : Fn := (pureT (runB B_p_Sampler___eq__ 2 2))
def B_p_followed (r_followed : Fn) : IS := (sSeq (sAsg (gTup' 2 (gsVar 4 (gsVar 5 gsNil))) (iVar 3))
  (sSeq (sFor (wAny (iVar 0)) (gVar 6) (sIf (tBl (iBin (opEq false) (iBin opIx (iVar 6) (iC (.int 0))) (iC (.str "draw")))) (sSeq (sSet 7 (iBin opIx (iVar 6) (iC (.int 2))))
  (sSeq (sIf (tBl (iBin (opIn false) (iVar 7) (iVar 2))) (sExpr (iMl opAppend (iVar 5) (aCons (iBin opIx (iVar 6) (iC (.int 1))) aNil))) sNil)
  (sPar 1 2 (aCons (iN opLstF (aStar (iVar 1) (aCons (iVar 7) aNil))) (aCons (iN opLstF (aStar (iVar 2) (aCons (iVar 7) aNil))) aNil))))) (sIf (tBl (iBin (opEq false) (iBin opIx (iVar 6) (iC (.int 0))) (iC (.str "if")))) (sSeq (sSet 8 (iBin opIx (iVar 6) (iC (.int 2))))
  (sSeq (sIf (tAnd' (tBl (iBin (opIn false) (iBin opIx (iVar 8) (iC (.int 0))) (iC (.tup (dv_NAMED.map dvD))))) (tBl (iBin (opIn true) (iBin opIx (iVar 8) (iC (.int 1))) (iVar 1)))) (sExpr (iMl opAppend (iVar 4) (aCons (iBin opIx (iVar 6) (iC (.int 1))) aNil))) sNil)
  (sSeq (sSet 9 (iCall r_followed [] (aCons (iBin opIx (iVar 6) (iC (.int 3))) (aCons (iVar 1) (aCons (iVar 2) (aCons (iVar 3) aNil))))))
  (sSeq (sSet 10 (iCall r_followed [] (aCons (iBin opIx (iVar 6) (iC (.int 4))) (aCons (iVar 1) (aCons (iVar 2) (aCons (iVar 3) aNil))))))
  (sSeq (sSet 1 (iCompF (wAny (iBin opIx (iVar 9) (iC (.int 0)))) (.one 7) (tBl (iBin (opIn false) (iVar 7) (iBin opIx (iVar 10) (iC (.int 0))))) (iVar 7)))
  (sSet 2 (iN opSortSet (aCons (iBin opAdd (iBin opIx (iVar 9) (iC (.int 1))) (iBin opIx (iVar 10) (iC (.int 1)))) aNil)))))))) sNil)))
  (sRet (iN opTup (aCons (iVar 1) (aCons (iVar 2) aNil))))))
def p_followed : Nat → Fn
  | 0 => fun _ _ => .bad
  | n + 1 => (runB (B_p_followed (p_followed n)) 11 4)
def B_p_flat (r_flat : Fn) : IS := (sSeq (sSet 1 (iN opLst aNil))
  (sSeq (sFor (wAny (iVar 0)) (gVar 2) (sSeq (sExpr (iMl opAppend (iVar 1) (aCons (iVar 2) aNil)))
  (sIf (tBl (iBin (opEq false) (iBin opIx (iVar 2) (iC (.int 0))) (iC (.str "if")))) (sSeq (sExpr (iMl opExtend2 (iVar 1) (aCons (iCall r_flat [] (aCons (iBin opIx (iVar 2) (iC (.int 3))) aNil)) aNil)))
  (sExpr (iMl opExtend2 (iVar 1) (aCons (iCall r_flat [] (aCons (iBin opIx (iVar 2) (iC (.int 4))) aNil)) aNil)))) sNil)))
  (sRet (iVar 1))))
def p_flat : Nat → Fn
  | 0 => fun _ _ => .bad
  | n + 1 => (pureA (runB (B_p_flat (p_flat n)) 3 1))
def B_p_lines_beyond : IS := (sSeq (sSet 2 (iN opLst aNil))
  (sSeq (sFor (wAny (iCall (p_flat 12) [] (aCons (iVar 0) aNil))) (gVar 3) (sIf (tAnd' (tBl (iBin (opIn true) (iBin opIx (iVar 3) (iC (.int 0))) (iN opTup (aCons (iC (.str "if")) (aCons (iC (.str "draw")) aNil))))) (tBl (iBin opGe (iN opMaxG (aCons (iSl (iVar 3) (oSome (iC (.int 2))) oNone) aNil)) (iVar 1)))) (sExpr (iMl opAppend (iVar 2) (aCons (iBin opIx (iVar 3) (iC (.int 1))) aNil))) sNil))
  (sRet (iVar 2))))
def p_lines_beyond : Fn := (pureA (runB B_p_lines_beyond 4 2))
def B_p_check_program : IS := (sSeq (sSet 3 (iCall p_lines_beyond [] (aCons (iVar 0) (aCons (iVar 1) aNil))))
  (sSeq (sIf (tTru (iVar 3)) (sRaise "UnknownPlace" 1 ["line"] gCat (aCons (iBin opIx (iVar 3) (iC (.int 0))) aNil)) sNil)
  (sSeq (sPar 4 5 (aCons (iN opLst aNil) (aCons (iN opLst aNil) aNil)))
  (sSeq (sExpr (iCall (p_followed 12) [] (aCons (iVar 0) (aCons (iN opLstF aNil) (aCons (iN opLstF aNil) (aCons (iN opTup (aCons (iVar 4) (aCons (iVar 5) aNil))) aNil))))))
  (sSeq (sIf (tTru (iVar 4)) (sRaise "NotDrawn" 1 ["line"] gCat (aCons (iBin opIx (iVar 4) (iC (.int 0))) aNil)) sNil)
  (sSeq (sIf (tTru (iVar 5)) (sRaise "DrawnTwice" 1 ["line"] gCat (aCons (iBin opIx (iVar 5) (iC (.int 0))) aNil)) sNil)
  (sIf (tTru (iVar 2)) (sRaise "BelowOne" 1 ["line"] gCat (aCons (iBin opIx (iVar 2) (iC (.int 0))) aNil)) sNil)))))))
def p_check_program : Fn := (pureA (runB B_p_check_program 6 3))
def B_p_nesting (r_nesting : Fn) : IS := (sSeq (sSet 1 (iCompF (wAny (iVar 0)) (.one 2) (tBl (iBin (opEq false) (iBin opIx (iVar 2) (iC (.int 0))) (iC (.str "if")))) (iN opMax (aCons (iCall r_nesting [] (aCons (iBin opIx (iVar 2) (iC (.int 3))) aNil)) (aCons (iCall r_nesting [] (aCons (iBin opIx (iVar 2) (iC (.int 4))) aNil)) aNil)))))
  (sRet (iIf (tTru (iVar 1)) (iBin opAdd (iC (.int 1)) (iN opMaxG (aCons (iVar 1) aNil))) (iC (.int 0)))))
def p_nesting : Nat → Fn
  | 0 => fun _ _ => .bad
  | n + 1 => (runB (B_p_nesting (p_nesting n)) 3 1)
def B_p_check_sizes : IS := (sSeq (sSet 1 (iCall (p_flat 12) [] (aCons (iVar 0) aNil)))
  (sSeq (sIf (tBl (iBin opGt (iN opLen (aCons (iVar 1) aNil)) (iC (.int 24)))) (sRaise "TooMuch" 1 ["what"] gCat (aCons (iC (.str "statements")) aNil)) sNil)
  (sSeq (sIf (tBl (iBin opGt (iN opLen (aCons (iCompF (wAny (iVar 1)) (.one 2) (tBl (iBin (opEq false) (iBin opIx (iVar 2) (iC (.int 0))) (iC (.str "draw")))) (iVar 2)) aNil)) (iC (.int 6)))) (sRaise "TooMuch" 1 ["what"] gCat (aCons (iC (.str "draws")) aNil)) sNil)
  (sIf (tBl (iBin opGt (iCall (p_nesting 12) [] (aCons (iVar 0) aNil)) (iC (.int 4)))) (sRaise "TooMuch" 1 ["what"] gCat (aCons (iC (.str "nested")) aNil)) sNil))))
def p_check_sizes : Fn := (runB B_p_check_sizes 3 1)
def B_p_most_drawn (r_most_drawn : Fn) : IS := (sSeq (sSet 1 (iC (.int 0)))
  (sSeq (sFor (wAny (iVar 0)) (gVar 2) (sIf (tBl (iBin (opEq false) (iBin opIx (iVar 2) (iC (.int 0))) (iC (.str "draw")))) (sSet 1 (iBin opAdd (iVar 1) (iC (.int 1)))) (sIf (tBl (iBin (opEq false) (iBin opIx (iVar 2) (iC (.int 0))) (iC (.str "if")))) (sSet 1 (iBin opAdd (iVar 1) (iN opMax (aCons (iCall r_most_drawn [] (aCons (iBin opIx (iVar 2) (iC (.int 3))) aNil)) (aCons (iCall r_most_drawn [] (aCons (iBin opIx (iVar 2) (iC (.int 4))) aNil)) aNil))))) sNil)))
  (sRet (iVar 1))))
def p_most_drawn : Nat → Fn
  | 0 => fun _ _ => .bad
  | n + 1 => (runB (B_p_most_drawn (p_most_drawn n)) 3 1)
def B_p_check_way : IS := (sIf (tBl (iBin opGt (iCall (p_most_drawn 12) [] (aCons (iVar 0) aNil)) (iC (.int 3)))) (sRaise "TooMuch" 1 ["what"] gCat (aCons (iC (.str "way")) aNil)) sNil)
def p_check_way : Fn := (runB B_p_check_way 1 1)
def B_p_number_in : IS := (sSeq (sFor (wRng2 (aCons (iVar 1) (aCons (iBin opAdd (iVar 2) (iC (.int 1))) aNil))) (gVar 3) (sIf (tBl (iBin (opEq false) (iUn opFmt (iVar 3)) (iVar 0))) (sRet (iVar 3)) sNil))
  (sRet (iC .non)))
def p_number_in : Fn := (runB B_p_number_in 4 3)
def B_p_form_in : IS := (sSeq (sFor (wEnum (aCons (iC (.tup (dv_HEADS.map dvD))) aNil)) (gTup' 2 (gsVar 1 (gsVar 2 gsNil))) (sSeq (sIf (tBl (iBin (opEq false) (iVar 0) (iVar 2))) (sRet (iN opTup (aCons (iBin opAdd (iVar 1) (iC (.int 1))) (aCons (iC (.int 0)) aNil)))) sNil)
  (sIf (tOr' (tTru (iM1 opStarts (iVar 0) (iBin opAdd (iVar 2) (iC (.str " + "))))) (tTru (iM1 opStarts (iVar 0) (iBin opAdd (iVar 2) (iC (.str " - ")))))) (sSeq (sSet 3 (iCall p_number_in [] (aCons (iSl (iVar 0) (oSome (iBin opAdd (iN opLen (aCons (iVar 2) aNil)) (iC (.int 3)))) oNone) (aCons (iC (.int 1)) (aCons (iC (.int 9)) aNil)))))
  (sSeq (sIf (tBl (iBin (opIs false) (iVar 3) (iC .non))) (sRet (iC .non)) sNil)
  (sRet (iN opTup (aCons (iBin opAdd (iVar 1) (iC (.int 1))) (aCons (iIf (tBl (iBin (opEq false) (iBin opIx (iVar 0) (iBin opAdd (iN opLen (aCons (iVar 2) aNil)) (iC (.int 1)))) (iC (.str "+")))) (iVar 3) (iBin opSub (iC (.int 0)) (iVar 3))) aNil)))))) sNil)))
  (sSeq (sSet 3 (iCall p_number_in [] (aCons (iVar 0) (aCons (iBin opSub (iC (.int 0)) (iC (.int 9))) (aCons (iC (.int 9)) aNil)))))
  (sRet (iIf (tBl (iBin (opIs false) (iVar 3) (iC .non))) (iC .non) (iN opTup (aCons (iC (.int 0)) (aCons (iVar 3) aNil)))))))
def p_form_in : Fn := (runB B_p_form_in 4 1)
def B_p_is_name : IS := (sRet (iAnd (iChain opLe opLe (iC (.int 1)) (iN opLen (aCons (iVar 0) aNil)) (iC (.int 8))) (iAnd (iN opAll (aCons (iCompF (wAny (iVar 0)) (.one 1) tYes' (iBin (opIn false) (iVar 1) (iC (.str "abcdefghijklmnopqrstuvwxyz")))) aNil)) (iBin (opIn true) (iVar 0) (iC (.tup (dv_BARRED.map dvD)))))))
def p_is_name : Fn := (runB B_p_is_name 2 1)
def B_p_draw_in : IS := (sSeq (sAsg (gTup' 3 (gsVar 3 (gsVar 4 (gsVar 5 gsNil)))) (iM1 opPart (iSl (iVar 0) (oSome (iC (.int 5))) oNone) (iC (.str " below "))))
  (sSeq (sSet 6 (iCallV [("form_in", p_form_in)] (iVar 2) (aCons (iVar 5) aNil)))
  (sSeq (sIf (tOr' (tNot' (tTru (iM1 opStarts (iVar 0) (iC (.str "draw "))))) (tOr' (tBl (iBin (opEq false) (iVar 4) (iC (.str "")))) (tOr' (tNot' (tTru (iCall p_is_name [] (aCons (iVar 3) aNil)))) (tBl (iBin (opIs false) (iVar 6) (iC .non)))))) (sRet (iC .non)) sNil)
  (sRet (iN opTup (aCons (iC (.str "draw")) (aCons (iVar 1) (aCons (iVar 3) (aCons (iVar 6) aNil)))))))))
def p_draw_in : Fn := (runB B_p_draw_in 7 3)
def B_p_places_in : IS := (sSeq (sSet 1 (iCompF (wAny (iVar 0)) (.one 2) tYes' (iCall p_number_in [] (aCons (iVar 2) (aCons (iC (.int 0)) (aCons (iC (.int 9)) aNil))))))
  (sRet (iIf (tBl (iBin (opIn false) (iC .non) (iVar 1))) (iC .non) (iN opTuple (aCons (iVar 1) aNil)))))
def p_places_in : Fn := (runB B_p_places_in 3 1)
def B_p_line_in : IS := (sSeq (sSet 2 (iM1 opSplit (iVar 0) (iC (.str " "))))
  (sSeq (sIf (tBl (iBin (opEq false) (iBin opIx (iVar 2) (iC (.int 0))) (iC (.str "draw")))) (sRet (iCall p_draw_in [] (aCons (iVar 0) (aCons (iVar 1) (aCons (iC (.glo "form_in")) aNil))))) sNil)
  (sSeq (sSet 3 (iCall p_places_in [] (aCons (iSl (iVar 2) (oSome (iC (.int 1))) oNone) aNil)))
  (sSeq (sIf (tOr' (tBl (iBin (opIs false) (iVar 3) (iC .non))) (tBl (iBin (opIn true) (iBin opIx (iVar 2) (iC (.int 0))) (iN opTup (aCons (iC (.str "put")) (aCons (iC (.str "exchange")) (aCons (iC (.str "empty")) aNil))))))) (sRet (iC .non)) sNil)
  (sSeq (sIf (tBl (iBin (opEq false) (iBin opIx (iVar 2) (iC (.int 0))) (iC (.str "exchange")))) (sRet (iIf (tAnd' (tBl (iBin (opEq false) (iN opLen (aCons (iVar 3) aNil)) (iC (.int 2)))) (tBl (iBin opLt (iBin opIx (iVar 3) (iC (.int 0))) (iBin opIx (iVar 3) (iC (.int 1)))))) (iN opTup (aCons (iC (.str "exchange")) (aCons (iVar 1) (aStar (iVar 3) aNil)))) (iC .non))) sNil)
  (sRet (iIf (tBl (iBin (opEq false) (iN opLen (aCons (iVar 3) aNil)) (iC (.int 1)))) (iN opTup (aCons (iBin opIx (iVar 2) (iC (.int 0))) (aCons (iVar 1) (aStar (iVar 3) aNil)))) (iC .non))))))))
def p_line_in : Fn := (runB B_p_line_in 4 2)
def B_p_name_test_in : IS := (sSeq (sAsg (gTup' 3 (gsVar 2 (gsVar 3 (gsVar 4 gsNil)))) (iM1 opPart (iVar 0) (iC (.str " < "))))
  (sSeq (sIf (tBl (iBin (opEq true) (iVar 3) (iC (.str "")))) (sSeq (sSet 5 (iCallV [("form_in", p_form_in)] (iVar 1) (aCons (iVar 4) aNil)))
  (sRet (iIf (tAnd' (tTru (iCall p_is_name [] (aCons (iVar 2) aNil))) (tBl (iBin (opIs true) (iVar 5) (iC .non)))) (iN opTup (aCons (iC (.str "below")) (aCons (iVar 2) (aCons (iVar 5) aNil)))) (iC .non)))) sNil)
  (sSeq (sAsg (gTup' 3 (gsVar 2 (gsVar 3 (gsVar 4 gsNil)))) (iM1 opPart (iVar 0) (iC (.str " is "))))
  (sSeq (sSet 6 (iCall p_number_in [] (aCons (iVar 4) (aCons (iC (.int 0)) (aCons (iC (.int 9)) aNil)))))
  (sRet (iIf (tAnd' (tTru (iCall p_is_name [] (aCons (iVar 2) aNil))) (tBl (iBin (opIs true) (iVar 6) (iC .non)))) (iN opTup (aCons (iC (.str "is")) (aCons (iVar 2) (aCons (iVar 6) aNil)))) (iC .non)))))))
def p_name_test_in : Fn := (runB B_p_name_test_in 7 2)
def B_p_test_in : IS := (sSeq (sFor (wAny (iN opTup (aCons (iN opTup (aCons (iC (.str "n < ")) (aCons (iC (.str "early")) aNil))) (aCons (iN opTup (aCons (iC (.str "n is ")) (aCons (iC (.str "at")) aNil))) aNil)))) (gTup' 2 (gsVar 1 (gsVar 2 gsNil))) (sIf (tTru (iM1 opStarts (iVar 0) (iVar 1))) (sSeq (sSet 3 (iCall p_number_in [] (aCons (iSl (iVar 0) (oSome (iN opLen (aCons (iVar 1) aNil))) oNone) (aCons (iC (.int 1)) (aCons (iC (.int 12)) aNil)))))
  (sRet (iIf (tBl (iBin (opIs true) (iVar 3) (iC .non))) (iN opTup (aCons (iVar 2) (aCons (iVar 3) aNil))) (iC .non)))) sNil))
  (sRet (iCall p_name_test_in [] (aCons (iVar 0) (aCons (iC (.glo "form_in")) aNil)))))
def p_test_in : Fn := (runB B_p_test_in 4 1)
def B_p_block_in (r_block_in r_branches_in : Fn) : IS := (sSeq (sAsg (gTup' 2 (gsVar 4 (gsVar 5 gsNil))) (iVar 3))
  (sSeq (sSet 6 (iN opLst aNil))
  (sSeq (sWhile (mLen 0) (tBl (iBin opLt (iVar 1) (iN opLen (aCons (iVar 0) aNil)))) (sSeq (sSet 7 (iM1 opLstripC (iBin opIx (iVar 0) (iVar 1)) (iC (.str " "))))
  (sSeq (sSet 8 (iBin opSub (iN opLen (aCons (iBin opIx (iVar 0) (iVar 1)) aNil)) (iN opLen (aCons (iVar 7) aNil))))
  (sSeq (sIf (tBl (iBin opLt (iVar 8) (iVar 2))) sBreak sNil)
  (sSeq (sIf (tBl (iBin opGt (iVar 8) (iVar 2))) (sRet (iC .non)) sNil)
  (sIf (tTru (iM1 opStarts (iVar 7) (iC (.str "if ")))) (sSeq (sSet 9 (iCall r_branches_in [] (aCons (iVar 0) (aCons (iVar 1) (aCons (iVar 2) (aCons (iVar 3) aNil))))))
  (sSeq (sIf (tBl (iBin (opIs false) (iVar 9) (iC .non))) (sRet (iC .non)) sNil)
  (sSeq (sAsg (gTup' 4 (gsVar 10 (gsVar 11 (gsVar 12 (gsVar 13 gsNil))))) (iVar 9))
  (sSeq (sExpr (iMl opAppend (iVar 6) (aCons (iN opTup (aCons (iC (.str "if")) (aCons (iVar 1) (aCons (iVar 10) (aCons (iVar 11) (aCons (iVar 12) aNil)))))) aNil)))
  (sSet 1 (iVar 13)))))) (sSeq (sSet 14 (iCallV [("line_in", p_line_in)] (iVar 4) (aCons (iVar 7) (aCons (iVar 1) aNil))))
  (sSeq (sIf (tBl (iBin (opIs false) (iVar 14) (iC .non))) (sRet (iC .non)) sNil)
  (sSeq (sExpr (iMl opAppend (iVar 6) (aCons (iVar 14) aNil)))
  (sSet 1 (iBin opAdd (iVar 1) (iC (.int 1)))))))))))))
  (sRet (iN opTup (aCons (iN opTuple (aCons (iVar 6) aNil)) (aCons (iVar 1) aNil)))))))
def B_p_branches_in (r_block_in r_branches_in : Fn) : IS := (sSeq (sSet 4 (iCallV [("test_in", p_test_in)] (iBin opIx (iVar 3) (iC (.int 1))) (aCons (iSl (iBin opIx (iVar 0) (iVar 1)) (oSome (iBin opAdd (iVar 2) (iC (.int 3)))) oNone) aNil)))
  (sSeq (sSet 5 (iCall r_block_in [] (aCons (iVar 0) (aCons (iBin opAdd (iVar 1) (iC (.int 1))) (aCons (iBin opAdd (iVar 2) (iC (.int 2))) (aCons (iVar 3) aNil))))))
  (sSeq (sIf (tOr' (tBl (iBin (opIs false) (iVar 4) (iC .non))) (tOr' (tBl (iBin (opIs false) (iVar 5) (iC .non))) (tBl (iBin (opEq false) (iBin opIx (iVar 5) (iC (.int 0))) (iN opTup aNil))))) (sRet (iC .non)) sNil)
  (sSeq (sSet 6 (iBin opIx (iVar 5) (iC (.int 1))))
  (sSeq (sIf (tOr' (tBl (iBin opGe (iVar 6) (iN opLen (aCons (iVar 0) aNil)))) (tBl (iBin (opEq true) (iBin opIx (iVar 0) (iVar 6)) (iBin opAdd (iBin opMulT (iC (.str " ")) (iVar 2)) (iC (.str "else")))))) (sRet (iN opTup (aCons (iVar 4) (aCons (iBin opIx (iVar 5) (iC (.int 0))) (aCons (iN opTup aNil) (aCons (iVar 6) aNil)))))) sNil)
  (sSeq (sSet 7 (iCall r_block_in [] (aCons (iVar 0) (aCons (iBin opAdd (iVar 6) (iC (.int 1))) (aCons (iBin opAdd (iVar 2) (iC (.int 2))) (aCons (iVar 3) aNil))))))
  (sSeq (sIf (tOr' (tBl (iBin (opIs false) (iVar 7) (iC .non))) (tBl (iBin (opEq false) (iBin opIx (iVar 7) (iC (.int 0))) (iN opTup aNil)))) (sRet (iC .non)) sNil)
  (sRet (iN opTup (aCons (iVar 4) (aCons (iBin opIx (iVar 5) (iC (.int 0))) (aCons (iBin opIx (iVar 7) (iC (.int 0))) (aCons (iBin opIx (iVar 7) (iC (.int 1))) aNil)))))))))))))
def grp_p_block_in : Nat → Fn × Fn
  | 0 => (fun _ _ => .bad, fun _ _ => .bad)
  | n + 1 => ((pureA (runB (B_p_block_in (grp_p_block_in n).1 (grp_p_block_in n).2) 15 4)), (runB (B_p_branches_in (grp_p_block_in n).1 (grp_p_block_in n).2) 8 4))
def p_block_in (n : Nat) : Fn := (grp_p_block_in n).1
def p_branches_in (n : Nat) : Fn := (grp_p_block_in n).2
def B_p_sampler_in : IS := (sSeq (sSet 1 (iM1 opSplit (iVar 0) (iC (.str "\n"))))
  (sSeq (sSet 2 (iCall p_number_in [] (aCons (iSl (iBin opIx (iVar 1) (iC (.int 0))) (oSome (iC (.int 7))) oNone) (aCons (iC (.int 1)) (aCons (iC (.int 3)) aNil)))))
  (sSeq (sIf (tOr' (tNot' (tTru (iM1 opStarts (iBin opIx (iVar 1) (iC (.int 0))) (iC (.str "places "))))) (tBl (iBin (opIs false) (iVar 2) (iC .non)))) (sRet (iC .non)) sNil)
  (sSeq (sSet 3 (iCall (p_block_in 12) [] (aCons (iVar 1) (aCons (iC (.int 1)) (aCons (iC (.int 0)) (aCons (iN opTup (aCons (iC (.glo "line_in")) (aCons (iC (.glo "test_in")) aNil))) aNil))))))
  (sRet (iIf (tBl (iBin (opIs false) (iVar 3) (iC .non))) (iC .non) (iN opTup (aCons (iVar 2) (aCons (iBin opIx (iVar 3) (iC (.int 0))) aNil)))))))))
def p_sampler_in : Fn := (runB B_p_sampler_in 4 1)
def B_p_Sampler___init__ : IS := (sSeq (sSet 2 (iIf (tTru (iN (opIsiI [] [] (isaT tl_str)) (aCons (iVar 1) (aCons (iC (.ty "str")) aNil)))) (iCall p_sampler_in [] (aCons (iVar 1) aNil)) (iC .non)))
  (sSeq (sIf (tBl (iBin (opIs false) (iVar 2) (iC .non))) (sRaise "InvalidText" 1 ["value"] gCat (aCons (iVar 1) aNil)) sNil)
  (sSeq (sAsg (gTup' 2 (gsVar 3 (gsVar 4 gsNil))) (iVar 2))
  (sSeq (sExpr (iCall p_check_sizes [] (aCons (iVar 4) aNil)))
  (sSeq (sSet 5 (iCompF (wAny (iCall (p_flat 12) [] (aCons (iVar 4) aNil))) (.one 6) (tBl (iBin (opEq false) (iBin opIx (iVar 6) (iC (.int 0))) (iC (.str "draw")))) (iVar 6)))
  (sSeq (sExpr (iCall p_check_program [] (aCons (iVar 4) (aCons (iVar 3) (aCons (iCompF (wAny (iVar 5)) (.one 6) (tBl (iBin opLt (iBin opAdd (iBin opIx (iBin opIx (iVar 6) (iC (.int 3))) (iC (.int 0))) (iBin opIx (iBin opIx (iVar 6) (iC (.int 3))) (iC (.int 1)))) (iC (.int 1)))) (iBin opIx (iVar 6) (iC (.int 1)))) aNil)))))
  (sSeq (sExpr (iCall p_check_way [] (aCons (iVar 4) aNil)))
  (sSeq (sPut ["Sampler"] "source" (iVar 0) (iVar 1))
  (sSeq (sPut ["Sampler"] "wide" (iVar 0) (iVar 3))
  (sPut ["Sampler"] "tree" (iVar 0) (iVar 4)))))))))))
def p_Sampler___init__ : Fn := (runB B_p_Sampler___init__ 7 2)
def B_p_Sampler___repr__ : IS := (sRet (iJs [(iC (.str "Sampler(")), (iUn opFmt (iUn (opGet ["Sampler"] "wide") (iVar 0))), (iC (.str " places, ")), (iUn opFmt (iN opLen (aCons (iCall (p_flat 12) [] (aCons (iUn (opGet ["Sampler"] "tree") (iVar 0)) aNil)) aNil))), (iC (.str " statements)"))] Str.empty))
def p_Sampler___repr__ : Fn := (pureT (runB B_p_Sampler___repr__ 1 1))
def B_p_Sampler___str__ : IS := (sRet (iN opStrS (aCons (iUn (opGet ["Sampler"] "source") (iVar 0)) aNil)))
def p_Sampler___str__ : Fn := (pureT (runB B_p_Sampler___str__ 1 1))
end M
/-! TX: laws of texts: split of join. -/
namespace M
open PySem PySem.Spec PyProof.Rows

theorem cut_one {c : Nat} : ∀ {a b s t : List Nat}, c ∉ a → c ∉ b → a ++ c :: s = b ++ c :: t → a = b ∧ s = t
  | [], [], s, t, _, _, e => ⟨rfl, (List.cons.inj e).2⟩
  | [], y :: b, s, t, _, h, e => absurd (by rw [(List.cons.inj e).1]; exact List.mem_cons_self) h
  | x :: a, [], s, t, h, _, e => absurd (by rw [← (List.cons.inj e).1]; exact List.mem_cons_self) h
  | x :: a, y :: b, s, t, h, h', e => by
    obtain ⟨e1, e2⟩ := List.cons.inj e
    obtain ⟨p, q⟩ := cut_one (fun z => h (List.mem_cons_of_mem _ z)) (fun z => h' (List.mem_cons_of_mem _ z)) e2
    exact ⟨by rw [e1, p], q⟩
abbrev toL (x : Str) : List Nat := x.cps.toList
theorem toL_inj {x y : Str} (h : toL x = toL y) : x = y := Str.ext' (Array.toList_inj.mp h)
theorem toL_app (x y : Str) : toL (x ++ y) = toL x ++ toL y := Array.toList_append
theorem join_two (c : Nat) (x y : Str) (r : List Str) : toL (Str.join ⟨#[c]⟩ (x :: y :: r)) = toL x ++ c :: toL (Str.join ⟨#[c]⟩ (y :: r)) := by
  show toL (x ++ ⟨#[c]⟩ ++ Str.join ⟨#[c]⟩ (y :: r)) = _
  rw [toL_app, toL_app, List.append_assoc]
  rfl
theorem join_inj {c : Nat} : ∀ {xs ys : List Str}, xs ≠ [] → ys ≠ [] → (∀ x ∈ xs, c ∉ toL x) → (∀ y ∈ ys, c ∉ toL y) → toL (Str.join ⟨#[c]⟩ xs) = toL (Str.join ⟨#[c]⟩ ys) → xs = ys
  | [], _, h, _, _, _, _ => absurd rfl h
  | _ :: _, [], _, h, _, _, _ => absurd rfl h
  | [x], [y], _, _, _, _, e => by rw [toL_inj (show toL x = toL y from e)]
  | [x], y :: z :: r, _, _, h, _, e => by
    rw [join_two] at e
    exact absurd (by rw [show toL x = _ from e]; simp) (h x List.mem_cons_self)
  | y :: z :: r, [x], _, _, _, h, e => by
    rw [join_two] at e
    exact absurd (by rw [show toL x = _ from e.symm]; simp) (h x List.mem_cons_self)
  | x :: x2 :: r, y :: y2 :: q, _, _, h, h', e => by
    rw [join_two, join_two] at e
    obtain ⟨e1, e2⟩ := cut_one (h x List.mem_cons_self) (h' y List.mem_cons_self) e
    rw [toL_inj e1, join_inj (xs := x2 :: r) (ys := y2 :: q) (List.cons_ne_nil _ _) (List.cons_ne_nil _ _) (fun z hz => h z (List.mem_cons_of_mem _ hz)) (fun z hz => h' z (List.mem_cons_of_mem _ hz)) e2]
/-- split takes apart what join put together -/
theorem split_join {c : Nat} {ys : List Str} (h0 : ys ≠ []) (h : ∀ y ∈ ys, c ∉ toL y) : Txt.split (Txt.join ⟨#[c]⟩ ys) ⟨#[c]⟩ = ys := by
  have e : Txt.join ⟨#[c]⟩ ys = Str.join ⟨#[c]⟩ ys := StrLaws.glued_eq_join _ _
  rw [e]
  refine join_inj (c := c) (fun z => ?_) h0 (fun p hp => StrLaws.split_free _ c p hp) h (by rw [StrLaws.join_split])
  have q := PyProof.Rows.split_pos (Str.join ⟨#[c]⟩ ys) ⟨#[c]⟩
  rw [z] at q
  exact absurd q (by decide)
end M
/-! TX2: texts as lists of signs: startswith, partition, lstrip, slices. -/
namespace M
open PySem PySem.Spec PyProof.Rows PySem.W Builtin Builtin.Str

theorem len_toL (x : Str) : x.length = (toL x).length := by simp [Str.length, toL]
theorem pre_take : ∀ {y l : List Nat}, (l.take y.length == y) = y.isPrefixOf l
  | [], l => by simp
  | c :: y, [] => by simp
  | c :: y, d :: l => by
    have ih := pre_take (y := y) (l := l)
    show ((d == c) && (l.take y.length == y)) = ((c == d) && y.isPrefixOf l)
    rw [ih, Bool.beq_comm]
theorem sub_pre (x y : Str) (i : Nat) : subAt x y i = (toL y).isPrefixOf ((toL x).drop i) := by
  rw [StrLaws.subAt_eq, len_toL y, pre_take]
theorem pre_len : ∀ {y l : List Nat}, y.isPrefixOf l = true → y.length ≤ l.length
  | [], l, _ => Nat.zero_le _
  | c :: y, [], h => by simp at h
  | c :: y, d :: l, h => by
    simp only [List.isPrefixOf, Bool.and_eq_true] at h
    simpa using pre_len h.2
theorem sw_eq (x y : Str) : Txt.startswith x y = (toL y).isPrefixOf (toL x) := by
  unfold Txt.startswith
  rw [sub_pre, List.drop_zero, Nat.zero_add]
  cases h : (toL y).isPrefixOf (toL x) with
  | false => simp
  | true =>
    have := pre_len h
    rw [len_toL, len_toL, decide_eq_true this]; rfl
/-- the first occurrence -/
def partL (y : List Nat) : List Nat → Option (List Nat × List Nat)
  | [] => if y.isPrefixOf [] then some ([], []) else none
  | c :: l => if y.isPrefixOf (c :: l) then some ([], (c :: l).drop y.length) else (partL y l).map fun p => (c :: p.1, p.2)
theorem partL_none {y : List Nat} : ∀ {l : List Nat}, (∀ i, i ≤ l.length → y.isPrefixOf (l.drop i) = false) → partL y l = none
  | [], h => by
    have := h 0 (Nat.le_refl _)
    unfold partL
    rw [show y.isPrefixOf [] = false from this]; rfl
  | c :: l, h => by
    have h0 := h 0 (Nat.zero_le _)
    unfold partL
    rw [show y.isPrefixOf (c :: l) = false from h0, partL_none fun i hi => h (i + 1) (by simpa using hi)]
    rfl
theorem partL_some {y : List Nat} : ∀ {l : List Nat} {i : Nat}, i ≤ l.length → y.isPrefixOf (l.drop i) = true → (∀ k, k < i → y.isPrefixOf (l.drop k) = false) → partL y l = some (l.take i, l.drop (i + y.length))
  | [], i, hi, h, _ => by
    have e : i = 0 := by simpa using hi
    subst e
    unfold partL
    rw [show y.isPrefixOf [] = true from h]
    simp
  | c :: l, 0, _, h, _ => by
    unfold partL
    rw [show y.isPrefixOf (c :: l) = true from h]
    simp
  | c :: l, i + 1, hi, h, hn => by
    unfold partL
    rw [show y.isPrefixOf (c :: l) = false from hn 0 (Nat.succ_pos _), partL_some (i := i) (by simpa using hi) h fun k hk => hn (k + 1) (by omega)]
    simp [Nat.add_right_comm]
theorem str_mk {x : Str} {l : List Nat} (h : toL x = l) : x = ⟨l.toArray⟩ := Str.ext' (by rw [← h])
theorem toL_mk (l : List Nat) : toL ⟨l.toArray⟩ = l := by simp [toL]
theorem part_eq (x y : Str) : Txt.partition x y = match partL (toL y) (toL x) with
    | some p => (⟨p.1.toArray⟩, y, ⟨p.2.toArray⟩)
    | none => (x, Str.empty, Str.empty) := by
  have at_ : ∀ i, StrLaws.At x y x.length i ↔ i + (toL y).length ≤ (toL x).length ∧ (toL y).isPrefixOf ((toL x).drop i) = true := fun i => by
    show (i + y.length ≤ x.length ∧ subAt x y i = true) ↔ _
    rw [sub_pre, len_toL, len_toL]
  have pl : ∀ i, (toL y).isPrefixOf ((toL x).drop i) = true → i ≤ (toL x).length → i + (toL y).length ≤ (toL x).length := fun i h hi => by
    have := pre_len h
    rw [List.length_drop] at this
    omega
  unfold Txt.partition
  rcases StrLaws.occ_head x y 1 (Nat.le_refl _) with ⟨h, hn⟩ | ⟨i, r, h, hi, hn⟩
  · rw [h]
    rw [partL_none fun i hi => ?_]
    cases e : (toL y).isPrefixOf ((toL x).drop i) with
    | false => rfl
    | true => exact absurd ((at_ i).mpr ⟨pl i e hi, e⟩) (hn i)
  · rw [h]
    obtain ⟨h1, h2⟩ := (at_ i).mp hi
    rw [partL_some (i := i) (by omega) h2 fun k hk => ?_]
    · have e1 : strSub x 0 i = ⟨((toL x).take i).toArray⟩ := str_mk (by show (strSub x 0 i).cps.toList = _; rw [StrLaws.strSub_toList]; rfl)
      have e2 : strSub x (i + y.length) x.length = ⟨((toL x).drop (i + (toL y).length)).toArray⟩ := str_mk (by
        show (strSub x (i + y.length) x.length).cps.toList = _
        rw [StrLaws.strSub_toList, len_toL y, len_toL x]
        exact List.take_of_length_le (by rw [List.length_drop]; exact Nat.le_refl _))
      show (strSub x 0 i, y, strSub x (i + y.length) x.length) = _
      rw [e1, e2]
    · cases e : (toL y).isPrefixOf ((toL x).drop k) with
      | false => rfl
      | true => exact absurd ((at_ k).mpr ⟨pl k e (by omega), e⟩) (hn k hk)
theorem partL_skip {d : Nat} {y : List Nat} : ∀ {a r : List Nat}, d ∉ a → partL (d :: y) (a ++ r) = (partL (d :: y) r).map fun p => (a ++ p.1, p.2)
  | [], r, _ => by simp
  | c :: a, r, h => by
    have hc : d ≠ c := fun e => h (by rw [e]; exact List.mem_cons_self)
    rw [List.cons_append, partL, partL_skip fun m => h (List.mem_cons_of_mem _ m)]
    have : (d :: y).isPrefixOf (c :: (a ++ r)) = false := by simp [List.isPrefixOf, hc]
    rw [this]
    simp [Function.comp_def]
/-! ### lstrip -/
theorem tw_eq (g : Nat → Bool) : ∀ l : List Nat, l.drop (l.takeWhile g).length = l.dropWhile g
  | [] => rfl
  | c :: l => by
    cases h : g c with
    | true => simp [List.takeWhile, List.dropWhile, h, tw_eq g l]
    | false => simp [List.takeWhile, List.dropWhile, h]
theorem lstrip_eq (x y : Str) : toL (Txt.lstripChars x y) = (toL x).dropWhile y.cps.contains := by
  unfold Txt.lstripChars Txt.stripBy
  have lo : stripLo y.cps.contains true x = ((toL x).takeWhile y.cps.contains).length := rfl
  split
  · rename_i h
    have h0 : ((toL x).takeWhile y.cps.contains).length = 0 := by
      unfold stripSame at h
      have := (Bool.and_eq_true_iff.mp h).1
      rw [lo] at this
      exact beq_iff_eq.mp this
    rw [← tw_eq, h0, List.drop_zero]
  · show (strSub x (stripLo y.cps.contains true x) (stripHi y.cps.contains false x _)).cps.toList = _
    rw [StrLaws.strSub_toList, lo, ← tw_eq]
    refine List.take_of_length_le ?_
    rw [List.length_drop]
    show _ ≤ x.length - _
    rw [len_toL]
    exact Nat.le_refl _
/-! ### slices -/
theorem cut_from (z : Str) (k : Nat) : toL (L2.cutS z (some (k : Int)) none) = (toL z).drop k := by
  show ((toL z).drop (HT.sIx z.length 0 (some (k : Int)))).take (HT.sIx z.length z.length none - HT.sIx z.length 0 (some (k : Int))) = _
  rw [HT.sIx_nat, HT.sIx_none, len_toL]
  by_cases h : k ≤ (toL z).length
  · rw [Nat.min_eq_left h]
    exact List.take_of_length_le (by rw [List.length_drop]; exact Nat.le_refl _)
  · rw [Nat.min_eq_right (by omega), List.drop_of_length_le (Nat.le_refl _), List.drop_of_length_le (by omega)]
    simp
end M
/-! RL: laws of the embedding's functions: loops, comprehensions, texts. -/
namespace M
open PySem L2

theorem lstAt_set {st : Sto} {n : Nat} {xs ys : List D} (h : lstAt st n = some ys) : lstAt (st.set n (.lst xs)) n = some xs := by
  have hl : n < st.length := by
    by_cases c : n < st.length
    · exact c
    · unfold lstAt at h
      rw [List.getElem?_eq_none (by omega)] at h
      cases h
  unfold lstAt
  rw [List.getElem?_set_self hl]
theorem lstAt_new (st : Sto) (xs : List D) : lstAt (st ++ [.lst xs]) st.length = some xs := by
  unfold lstAt
  rw [List.getElem?_append_right (Nat.le_refl _), Nat.sub_self]
  rfl
theorem opMul_s {i j : Int} {st : Sto} (h : smallI i ∨ smallI j) : opMul (.int i) (.int j) st = some (.int (i * j), st) := if_pos h
theorem opFdiv_s {i j : Int} {st : Sto} (h : 0 < j) (h2 : j.natAbs.log2 < 9000) : opFdiv (.int i) (.int j) st = some (.int (i / j), st) := if_pos ⟨h, h2⟩
theorem opMod_s {i j : Int} {st : Sto} (h : 0 < j) : opMod (.int i) (.int j) st = some (.int (i % j), st) := if_pos h
/-- a for over a list that goes on to its end -/
theorem forL_inv {nx : Nx} {g : IG} {b : IS} {xs : List D} (P : Env → Sto → Prop) (hn : ∀ i st, nx i st = some xs[i]?)
    (step : ∀ d ∈ xs, ∀ env st, P env st → ∃ e1 s1, g d env st = .ok e1 s1 ∧ ∃ e2 s2, (b e1 s1 = .nx e2 s2 ∨ b e1 s1 = .ct e2 s2) ∧ P e2 s2) :
    ∀ (m i : Nat) (env : Env) (st : Sto), xs.length ≤ i + m → P env st → ∃ e2 s2, forL nx g b m i env st = .nx e2 s2 ∧ P e2 s2
  | 0, i, env, st, hl, h => ⟨env, st, by unfold forL; rw [hn, List.getElem?_eq_none (by omega)], h⟩
  | m + 1, i, env, st, hl, h => by
    unfold forL
    rw [hn]
    cases q : xs[i]? with
    | none => exact ⟨env, st, rfl, h⟩
    | some d =>
      obtain ⟨e1, s1, h1, e2, s2, h2, h3⟩ := step d (List.mem_of_getElem? q) env st h
      obtain ⟨e3, s3, h4, h5⟩ := forL_inv P hn step m (i + 1) e2 s2 (by omega) h3
      refine ⟨e3, s3, ?_, h5⟩
      show liftS (g d env st) env (fun env1 s1 => kWhile b (forL nx g b m (i + 1)) (b env1 s1)) = _
      rw [h1]
      show kWhile b (forL nx g b m (i + 1)) (b e1 s1) = _
      rcases h2 with h2 | h2
      · rw [h2]; exact h4
      · rw [h2]; exact h4
theorem nxL_at (xs : List D) (i : Nat) (st : Sto) : nxL xs i st = some xs[i]? := rfl
theorem nxR_at (n : Nat) (i : Nat) (st : Sto) : nxR 0 n i st = some ((List.range n).map fun k : Nat => D.int (k : Int))[i]? := by
  unfold nxR
  by_cases h : i < n
  · rw [if_pos h, List.getElem?_map, List.getElem?_range h]
    simp
  · rw [if_neg h, List.getElem?_eq_none (by simpa using h)]
/-- a comprehension that keeps all, and changes nothing -/
theorem compF_map {nx : Nx} {p : Pat} {e : IE} {env0 : Env} {xs : List D} {st : Sto} (f : D → D) (hn : ∀ i st, nx i st = some xs[i]?)
    (h : ∀ d ∈ xs, ∃ env, p.bind d env0 = some env ∧ e env st = .ok (f d) st) :
    ∀ (m i : Nat) (acc : List D), xs.length ≤ i + m → acc.length + xs.length ≤ sizeLine + i → compF nx p tYes' e env0 m i acc st = .ok (acc ++ (xs.drop i).map f) st
  | 0, i, acc, hl, _ => by
    unfold compF
    rw [hn, List.getElem?_eq_none (by omega), List.drop_of_length_le (by omega)]
    simp
  | m + 1, i, acc, hl, hz => by
    unfold compF
    rw [hn]
    cases q : xs[i]? with
    | none =>
      have hi : xs.length ≤ i := List.getElem?_eq_none_iff.mp q
      rw [List.drop_of_length_le hi]
      simp
    | some d =>
      obtain ⟨env, h1, h2⟩ := h d (List.mem_of_getElem? q)
      obtain ⟨hi, hd⟩ := List.getElem?_eq_some_iff.mp q
      show (match p.bind d env0 with
        | some env => ((tYes' env st).nox).bind fun k s1 => if k = true then ((e env s1).nox).bind fun v s2 => if acc.length < sizeLine then compF nx p tYes' e env0 m (i + 1) (acc ++ [v]) s2 else .bad else compF nx p tYes' e env0 m (i + 1) acc s1
        | none => .bad) = _
      rw [h1]
      show ((e env st).nox).bind (fun v s2 => if acc.length < sizeLine then compF nx p tYes' e env0 m (i + 1) (acc ++ [v]) s2 else .bad) = _
      rw [h2]
      show (if acc.length < sizeLine then compF nx p tYes' e env0 m (i + 1) (acc ++ [f d]) st else .bad) = _
      rw [if_pos (by omega), compF_map f hn h m (i + 1) (acc ++ [f d]) (by omega) (by simp; omega), List.drop_eq_getElem_cons hi, hd]
      simp
/-! ### texts -/
theorem strOk_append (a b : Str) : PyData.strOk (a ++ b) = (PyData.strOk a && PyData.strOk b) := by
  show (a.cps ++ b.cps).all _ = _
  rw [Array.all_append]
  rfl
theorem strOk_of (s : String) : PyData.strOk (Str.ofString s) = true := by
  unfold PyData.strOk
  rw [Str.ofString_eq_toList]
  simp only [List.all_toArray, List.all_map, List.all_eq_true]
  intro c _
  have h : c.val.toNat < 0x110000 := by
    have := c.valid
    simp only [UInt32.isValidChar, Nat.isValidChar] at this
    omega
  exact decide_eq_true h
/-! ### steps -/
theorem sSeq_nx {i j : IS} {env e1 : Env} {st s1 : Sto} (h : i env st = .nx e1 s1) : sSeq i j env st = j e1 s1 := by
  show kSeq j (i env st) = _
  rw [h]; rfl
theorem sSeq_ret {i j : IS} {env : Env} {st s1 : Sto} {d : D} (h : i env st = .ret d s1) : sSeq i j env st = .ret d s1 := by
  show kSeq j (i env st) = _
  rw [h]; rfl
theorem sSet_ok {k : Nat} {e : IE} {env : Env} {st s : Sto} {d : D} (h : e env st = .ok d s) : sSet k e env st = .nx (env.set k (some d)) s := by
  show liftS (e env st) env _ = _
  rw [h]; rfl
theorem sRet_ok {e : IE} {env : Env} {st s : Sto} {d : D} (h : e env st = .ok d s) : sRet e env st = .ret d s := by
  show liftS (e env st) env _ = _
  rw [h]; rfl
theorem sIf_t {c : IT} {i j : IS} {env : Env} {st s : Sto} (h : c env st = .ok true s) : sIf c i j env st = i env s := by
  show liftS (c env st) env _ = _
  rw [h]; rfl
theorem sIf_f {c : IT} {i j : IS} {env : Env} {st s : Sto} (h : c env st = .ok false s) : sIf c i j env st = j env s := by
  show liftS (c env st) env _ = _
  rw [h]; rfl
theorem sIf_skip {c : IT} {i : IS} {env : Env} {st s : Sto} (h : c env st = .ok false s) : sIf c i sNil env st = .nx env s := sIf_f h
theorem iBin_ok {f : Op2} {i j : IE} {env : Env} {st s1 s2 s3 : Sto} {a b d : D} (h1 : i env st = .ok a s1) (h2 : j env s1 = .ok b s2) (h3 : f a b s2 = some (d, s3)) : iBin f i j env st = .ok d s3 := by
  show ((i env st).bind fun a s1 => (j env s1).bind fun b s2 => ofO (f a b s2)) = _
  rw [h1]
  show ((j env s1).bind fun b s2 => ofO (f a b s2)) = _
  rw [h2]
  show ofO (f a b s2) = _
  rw [h3]; rfl
theorem iUn_ok {f : Op1} {i : IE} {env : Env} {st s1 s2 : Sto} {a d : D} (h1 : i env st = .ok a s1) (h2 : f a s1 = some (d, s2)) : iUn f i env st = .ok d s2 := by
  show ((i env st).bind fun a s1 => ofO (f a s1)) = _
  rw [h1]
  show ofO (f a s1) = _
  rw [h2]; rfl
theorem iN_ok {f : OpN} {j : IA} {env : Env} {st s1 s2 : Sto} {ds : List D} {d : D} (h1 : j env st = .ok ds s1) (h2 : f ds s1 = some (d, s2)) : iN f j env st = .ok d s2 := by
  show ((j env st).bind fun ds s => ofO (f ds s)) = _
  rw [h1]
  show ofO (f ds s1) = _
  rw [h2]; rfl
theorem aCons_ok {i : IE} {j : IA} {env : Env} {st s1 s2 : Sto} {d : D} {ds : List D} (h1 : i env st = .ok d s1) (h2 : j env s1 = .ok ds s2) : aCons i j env st = .ok (d :: ds) s2 := by
  show ((i env st).bind fun d s => (j env s).bind fun ds s2 => .ok (d :: ds) s2) = _
  rw [h1]
  show ((j env s1).bind fun ds s2 => .ok (d :: ds) s2) = _
  rw [h2]; rfl
theorem aNil_ok {env : Env} {st : Sto} : aNil env st = .ok [] st := rfl
theorem iCall_ok {f : Fn} {dd : List D} {j : IA} {env : Env} {st s1 s2 : Sto} {ds : List D} {d : D} (h1 : j env st = .ok ds s1) (h2 : f (ds ++ dd) s1 = .ok d s2) : iCall f dd j env st = .ok d s2 := by
  show ((j env st).bind fun ds s => f (ds ++ dd) s) = _
  rw [h1]; exact h2
theorem iAnd_t {i j : IE} {env : Env} {st s1 : Sto} {d : D} {r : R D} (h1 : i env st = .ok d s1) (h2 : truD s1 d = some true) (h3 : j env s1 = r) : iAnd i j env st = r := by
  show ((i env st).bind fun d s => match truD s d with
    | some true => j env s
    | some false => .ok d s
    | none => .bad) = _
  rw [h1]
  show (match truD s1 d with
    | some true => j env s1
    | some false => .ok d s1
    | none => .bad) = _
  rw [h2]; exact h3
theorem tTru_ok {i : IE} {env : Env} {st s1 : Sto} {d : D} {k : Bool} (h1 : i env st = .ok d s1) (h2 : truD s1 d = some k) : tTru i env st = .ok k s1 := by
  show ((i env st).bind fun d s => match truD s d with
    | some k => .ok k s
    | none => .bad) = _
  rw [h1]
  show (match truD s1 d with
    | some k => R.ok k s1
    | none => R.bad) = _
  rw [h2]
theorem tBl_ok {i : IE} {env : Env} {st s1 : Sto} {k : Bool} (h1 : i env st = .ok (.bl k) s1) : tBl i env st = .ok k s1 := by
  show ((i env st).bind kBl) = _
  rw [h1]; rfl
theorem tNot_ok {i : IT} {env : Env} {st s1 : Sto} {k : Bool} (h1 : i env st = .ok k s1) : tNot' i env st = .ok (!k) s1 := by
  show ((i env st).bind fun k s => .ok (!k) s) = _
  rw [h1]; rfl
theorem tOr_f {i j : IT} {env : Env} {st s1 : Sto} {r : R Bool} (h1 : i env st = .ok false s1) (h2 : j env s1 = r) : tOr' i j env st = r := by
  show ((i env st).bind fun k s => if k = true then .ok true s else j env s) = _
  rw [h1]; exact h2
theorem wSeq_ok {i : IE} {env : Env} {st s1 : Sto} {xs : List D} (h : i env st = .ok (.lst xs) s1) : wSeq i env st = .ok (nxL xs, xs.length) s1 := by
  show ((i env st).bind kSeqW) = _
  rw [h]; rfl
theorem iCompF_ok {w : IW} {nx : Nx} {m : Nat} {p : Pat} {e : IE} {env : Env} {st : Sto} {xs : List D} (f : D → D) (hw : w env st = .ok (nx, m) st) (hn : ∀ i st, nx i st = some xs[i]?) (hm : xs.length ≤ m) (hl : xs.length ≤ sizeLine)
    (h : ∀ d ∈ xs, ∃ env', p.bind d (wipeE env p.slots) = some env' ∧ e env' st = .ok (f d) st) : iCompF w p tYes' e env st = .ok (.lst (xs.map f)) st := by
  show ((w env st).bind fun a s => (compF a.1 p tYes' e (wipeE env p.slots) a.2 0 [] s).bind fun xs s2 => R.ok (D.lst xs) s2) = _
  rw [hw]
  show ((compF nx p tYes' e (wipeE env p.slots) m 0 [] st).bind fun xs s2 => R.ok (D.lst xs) s2) = _
  rw [compF_map f hn h m 0 [] (by omega) (by simpa using hl)]
  rfl
theorem sFor_ok {w : IW} {nx : Nx} {m : Nat} {g : IG} {b : IS} {env : Env} {st s1 : Sto} {xs : List D} (P : Env → Sto → Prop) (hw : w env st = .ok (nx, m) s1) (hn : ∀ i st, nx i st = some xs[i]?) (hm : xs.length ≤ m) (h0 : P env s1)
    (step : ∀ d ∈ xs, ∀ env st, P env st → ∃ e1 s1, g d env st = .ok e1 s1 ∧ ∃ e2 s2, (b e1 s1 = .nx e2 s2 ∨ b e1 s1 = .ct e2 s2) ∧ P e2 s2) : ∃ e2 s2, sFor w g b env st = .nx e2 s2 ∧ P e2 s2 := by
  obtain ⟨e2, s2, h1, h2⟩ := forL_inv P hn step m 0 env s1 (by omega) h0
  refine ⟨e2, s2, ?_, h2⟩
  show liftS (w env st) env (fun a s => forL a.1 g b a.2 0 env s) = _
  rw [hw]; exact h1
theorem runB_ret {b : IS} {n p : Nat} {ds : List D} {st s : Sto} {d : D} (hl : ds.length = p) (h : b (ds.map some ++ List.replicate (n - p) none) st = .ret d s) : runB b n p ds st = .ok d s := by
  unfold runB
  rw [if_pos hl, h]; rfl
theorem seq_for_ret {w : IW} {nx : Nx} {m : Nat} {g : IG} {b j : IS} {env : Env} {st s1 : Sto} {xs : List D} {d : D} (P : Env → Sto → Prop) (hw : w env st = .ok (nx, m) s1) (hn : ∀ i st, nx i st = some xs[i]?) (hm : xs.length ≤ m) (h0 : P env s1)
    (step : ∀ d ∈ xs, ∀ env st, P env st → ∃ e1 s1, g d env st = .ok e1 s1 ∧ ∃ e2 s2, (b e1 s1 = .nx e2 s2 ∨ b e1 s1 = .ct e2 s2) ∧ P e2 s2) (hj : ∀ e2 s2, P e2 s2 → ∃ s3, j e2 s2 = .ret d s3) : ∃ s3, sSeq (sFor w g b) j env st = .ret d s3 := by
  obtain ⟨e2, s2, h1, h2⟩ := sFor_ok P hw hn hm h0 step
  obtain ⟨s3, h3⟩ := hj e2 s2 h2
  exact ⟨s3, (sSeq_nx h1).trans h3⟩
theorem for_goal {w : IW} {nx : Nx} {m : Nat} {g : IG} {b : IS} {env : Env} {st s1 : Sto} {xs : List D} {Q : Env → Sto → Prop} (P : Env → Sto → Prop) (hw : w env st = .ok (nx, m) s1) (hn : ∀ i st, nx i st = some xs[i]?) (hm : xs.length ≤ m) (h0 : P env s1)
    (step : ∀ d ∈ xs, ∀ env st, P env st → ∃ e1 s1, g d env st = .ok e1 s1 ∧ ∃ e2 s2, (b e1 s1 = .nx e2 s2 ∨ b e1 s1 = .ct e2 s2) ∧ P e2 s2) (hj : ∀ e2 s2, P e2 s2 → Q e2 s2) : ∃ e2 s2, (sFor w g b env st = .nx e2 s2 ∨ sFor w g b env st = .ct e2 s2) ∧ Q e2 s2 := by
  obtain ⟨e2, s2, h1, h2⟩ := sFor_ok P hw hn hm h0 step
  exact ⟨e2, s2, .inl h1, hj e2 s2 h2⟩
end M
/-! SM0: the embedding's functions step by step, for simp; loops by place. -/
namespace M
open PySem PySem.W
section
variable {i j k : IE} {a b : IA} {p q : IS} {t u : IT} {env : Env} {st : Sto} {d e : D} {n m : Nat}
@[simp] theorem R_ok {α β : Type} {a : α} {st : Sto} {k : α → Sto → R β} : (R.ok a st).bind k = k a st := Eq.trans rfl rfl
@[simp] theorem R_exc {α β : Type} {C fs} {st : Sto} {k : α → Sto → R β} : (R.exc C fs st).bind k = .exc C fs st := Eq.trans rfl rfl
@[simp] theorem R_bad {α β : Type} {k : α → Sto → R β} : (R.bad : R α).bind k = .bad := Eq.trans rfl rfl
@[simp] theorem ofO_s {x : D × Sto} : ofO (some x) = .ok x.1 x.2 := Eq.trans rfl rfl
@[simp] theorem ofO_n : ofO none = .bad := Eq.trans rfl rfl
@[simp] theorem iC_d : iC d env st = .ok d st := Eq.trans rfl rfl
@[simp] theorem iVar_d : iVar n env st = match env[n]? with | some (some d) => .ok d st | _ => .bad := Eq.trans rfl rfl
@[simp] theorem iBin_d {f : Op2} : iBin f i j env st = (i env st).bind fun a s1 => (j env s1).bind fun b s2 => ofO (f a b s2) := Eq.trans rfl rfl
@[simp] theorem iUn_d {f : Op1} : iUn f i env st = (i env st).bind fun a s1 => ofO (f a s1) := Eq.trans rfl rfl
@[simp] theorem iN_d {f : OpN} : iN f a env st = (a env st).bind fun ds s => ofO (f ds s) := Eq.trans rfl rfl
@[simp] theorem iChain_d {f g : Op2} : iChain f g i j k env st = (i env st).bind fun a s1 => (j env s1).bind fun b s2 => (ofO (f a b s2)).bind (kChain g k b env) := Eq.trans rfl rfl
@[simp] theorem kChain_t {g : Op2} : kChain g k d env (.bl true) st = (k env st).bind fun c s4 => ofO (g d c s4) := Eq.trans rfl rfl
@[simp] theorem kChain_f {g : Op2} : kChain g k d env (.bl false) st = .ok (.bl false) st := Eq.trans rfl rfl
@[simp] theorem tTru_d : tTru i env st = (i env st).bind fun d s => match truD s d with | some k => .ok k s | none => .bad := Eq.trans rfl rfl
@[simp] theorem tNot_d : tNot' t env st = (t env st).bind fun k s => .ok (!k) s := Eq.trans rfl rfl
@[simp] theorem tAnd_d : tAnd' t u env st = (t env st).bind fun k s => if k = true then u env s else .ok false s := Eq.trans rfl rfl
@[simp] theorem tOr_d : tOr' t u env st = (t env st).bind fun k s => if k = true then .ok true s else u env s := Eq.trans rfl rfl
@[simp] theorem iAnd_d : iAnd i j env st = (i env st).bind fun d s => match truD s d with | some true => j env s | some false => .ok d s | none => .bad := Eq.trans rfl rfl
@[simp] theorem iOr_d : iOr i j env st = (i env st).bind fun d s => match truD s d with | some true => .ok d s | some false => j env s | none => .bad := by
  unfold iOr
  rfl
@[simp] theorem iNot_d : iNot i env st = (i env st).bind kNot := Eq.trans rfl rfl
@[simp] theorem iIf_d : iIf t i j env st = (t env st).bind fun k s => if k = true then i env s else j env s := Eq.trans rfl rfl
@[simp] theorem aNil_d : aNil env st = .ok [] st := Eq.trans rfl rfl
@[simp] theorem aCons_d : aCons i a env st = (i env st).bind fun d s => (a env s).bind fun ds s2 => .ok (d :: ds) s2 := Eq.trans rfl rfl
@[simp] theorem aStar_d : aStar i a env st = (i env st).bind fun x s => match aseq s x with | some xs => (a env s).bind fun r s2 => .ok (xs ++ r) s2 | none => .bad := Eq.trans rfl rfl
@[simp] theorem sNil_d : sNil env st = .nx env st := Eq.trans rfl rfl
@[simp] theorem sSeq_d : sSeq p q env st = kSeq q (p env st) := Eq.trans rfl rfl
@[simp] theorem kSeq_nx : kSeq q (.nx env st) = q env st := Eq.trans rfl rfl
@[simp] theorem kSeq_ret : kSeq q (.ret d st) = .ret d st := Eq.trans rfl rfl
@[simp] theorem kSeq_bk : kSeq q (.bk env st) = .bk env st := Eq.trans rfl rfl
@[simp] theorem kSeq_ct : kSeq q (.ct env st) = .ct env st := Eq.trans rfl rfl
@[simp] theorem liftS_ok {α : Type} {x : α} {k : α → Sto → RS} : liftS (.ok x st) env k = k x st := Eq.trans rfl rfl
@[simp] theorem sExpr_d : sExpr i env st = liftS (i env st) env fun _ s => .nx env s := Eq.trans rfl rfl
@[simp] theorem sRet_d : sRet i env st = liftS (i env st) env fun d s => .ret d s := Eq.trans rfl rfl
@[simp] theorem sRetN_d : sRetN env st = .ret .non st := Eq.trans rfl rfl
@[simp] theorem sBreak_d : sBreak env st = .bk env st := Eq.trans rfl rfl
@[simp] theorem sCont_d : sCont env st = .ct env st := Eq.trans rfl rfl
@[simp] theorem sIf_d : sIf t p q env st = liftS (t env st) env fun k s => if k = true then p env s else q env s := Eq.trans rfl rfl
@[simp] theorem sSet_d : sSet n i env st = liftS (i env st) env fun d s => .nx (env.set n (some d)) s := Eq.trans rfl rfl
@[simp] theorem sPar_d : sPar n m a env st = liftS (a env st) env fun ds s => match ds with | [d, e] => .nx ((env.set n (some d)).set m (some e)) s | _ => .bad := Eq.trans rfl rfl
@[simp] theorem sPar3_d {l : Nat} : sPar3 n m l a env st = liftS (a env st) env fun ds s => match ds with | [d, e, f] => .nx (((env.set n (some d)).set m (some e)).set l (some f)) s | _ => .bad := Eq.trans rfl rfl
@[simp] theorem sAsg_d {g : IG} : sAsg g i env st = liftS (i env st) env fun d s => liftS (g d env s) env fun env' s' => .nx env' s' := Eq.trans rfl rfl
@[simp] theorem gVar_d : gVar n d env st = .ok (env.set n (some d)) st := Eq.trans rfl rfl
@[simp] theorem gTup_d {g : IGs} : gTup' n g d env st = match d with | .tup xs => if xs.length = n then g xs env st else .bad | _ => .bad := Eq.trans rfl rfl
@[simp] theorem gsNil_d : gsNil [] env st = .ok env st := Eq.trans rfl rfl
@[simp] theorem gsVar_d {g : IGs} {ds : List D} : gsVar n g (d :: ds) env st = g ds (env.set n (some d)) st := Eq.trans rfl rfl
@[simp] theorem gsCons_d {g : IG} {h : IGs} {ds : List D} : gsCons g h (d :: ds) env st = (g d env st).bind fun env' s => h ds env' s := Eq.trans rfl rfl
@[simp] theorem gIx_d : gIx i j d env st = (i env st).bind fun o s => (j env s).bind fun k s2 => kSet d o k env s2 := Eq.trans rfl rfl
@[simp] theorem tYes_d : tYes' env st = .ok true st := Eq.trans rfl rfl
@[simp] theorem iCall_d {f : Fn} {dd : List D} : iCall f dd a env st = (a env st).bind fun ds s => f (ds ++ dd) s := Eq.trans rfl rfl
@[simp] theorem oNone_d : oNone env st = .ok none st := Eq.trans rfl rfl
@[simp] theorem oSome_d : oSome i env st = (i env st).bind kPart := Eq.trans rfl rfl
@[simp] theorem kPart_i {x : Int} : kPart (.int x) st = .ok (some x) st := Eq.trans rfl rfl
@[simp] theorem iSl_d {lo hi : IO} : iSl i lo hi env st = (i env st).bind fun a s => (lo env s).bind fun l s1 => (hi env s1).bind fun u s2 => ofO (opSl a l u s2) := Eq.trans rfl rfl
@[simp] theorem tBl_d : tBl i env st = (i env st).bind kBl := Eq.trans rfl rfl
@[simp] theorem kBl_b {x : Bool} : kBl (.bl x) st = .ok x st := Eq.trans rfl rfl
@[simp] theorem iM1_d {f : Op2} : iM1 f i j env st = (i env st).bind fun a s1 => if isS a = true then (j env s1).bind fun b s2 => ofO (f a b s2) else .bad := Eq.trans rfl rfl
@[simp] theorem isS_s {x : Str} : isS (.str x) = true := Eq.trans rfl rfl
@[simp] theorem iMl_d {f : D → OpN} : iMl f i a env st = (i env st).bind fun x s1 => if isL s1 x = true then (a env s1).bind fun ds s2 => ofO (f x ds s2) else .bad := Eq.trans rfl rfl
@[simp] theorem iJs_n {acc : Str} : iJs [] acc env st = .ok (.str acc) st := Eq.trans rfl rfl
@[simp] theorem iJs_c {is : List IE} {acc : Str} : iJs (i :: is) acc env st = (i env st).bind fun d s => kJs acc (iJs is) d env s := Eq.trans rfl rfl
@[simp] theorem iCallV_d {fs : List (Str × Fn)} : iCallV fs i a env st = (i env st).bind fun d s => kCallV fs d a env s := Eq.trans rfl rfl
@[simp] theorem kCallV_1 {x : Str} {f : Fn} : kCallV [(x, f)] (.glo x) a env st = (a env st).bind fun ds s2 => f ds s2 := by
  unfold kCallV
  simp [List.lookup]
@[simp] theorem wAny_d : wAny i env st = (i env st).bind kAnyW := Eq.trans rfl rfl
@[simp] theorem kAny_tup {xs : List D} : kAnyW (.tup xs) st = .ok (nxL xs, xs.length) st := Eq.trans rfl rfl
@[simp] theorem kAny_lst {xs : List D} : kAnyW (.lst xs) st = .ok (nxL xs, xs.length) st := Eq.trans rfl rfl
@[simp] theorem kAny_str {x : Str} : kAnyW (.str x) st = .ok (nxS x, x.cps.size) st := Eq.trans rfl rfl
@[simp] theorem sFor_d {w : IW} {g : IG} : sFor w g p env st = liftS (w env st) env fun a s => forL a.1 g p a.2 0 env s := Eq.trans rfl rfl
@[simp] theorem sWhile_d {mm : Env → Sto → Nat} : sWhile mm t p env st = sWhileN t p (mm env st) env st := Eq.trans rfl rfl
@[simp] theorem iCompF_d {w : IW} {pt : Pat} : iCompF w pt t i env st = (w env st).bind fun a s => (compF a.1 pt t i (wipeE env pt.slots) a.2 0 [] s).bind fun xs s2 => .ok (.lst xs) s2 := Eq.trans rfl rfl
@[simp] theorem runB_d {ds : List D} : runB p n m ds st = if ds.length = m then endB (p (ds.map some ++ List.replicate (n - m) none) st) else .bad := Eq.trans rfl rfl
@[simp] theorem endB_ret : endB (.ret d st) = .ok d st := Eq.trans rfl rfl
@[simp] theorem endB_nx : endB (.nx env st) = .ok .non st := Eq.trans rfl rfl
@[simp] theorem tru_b {x : Bool} : truD st (.bl x) = some x := Eq.trans rfl rfl
@[simp] theorem isNon_n : D.isNon .non = true := Eq.trans rfl rfl
@[simp] theorem isNon_tup {xs : List D} : D.isNon (.tup xs) = false := Eq.trans rfl rfl
@[simp] theorem isNon_lst {xs : List D} : D.isNon (.lst xs) = false := Eq.trans rfl rfl
@[simp] theorem isNon_int {x : Int} : D.isNon (.int x) = false := Eq.trans rfl rfl
@[simp] theorem isNon_bl {x : Bool} : D.isNon (.bl x) = false := Eq.trans rfl rfl
@[simp] theorem isNon_str {x : Str} : D.isNon (.str x) = false := Eq.trans rfl rfl
@[simp] theorem isNon_ref {x : Nat} : D.isNon (.ref x) = false := Eq.trans rfl rfl
@[simp] theorem opIs_d {neg : Bool} : opIs neg d .non st = some (.bl (if neg then !d.isNon else d.isNon), st) := Eq.trans rfl rfl
end
theorem sizeLine_big : 1000000 ≤ sizeLine := by decide
@[simp] theorem le_size {n : Nat} (h : n ≤ 1000000) : (n ≤ sizeLine) = True := eq_true (Nat.le_trans h sizeLine_big)
@[simp] theorem opTup_d {ds : List D} {st : Sto} : opTup ds st = if ds.length ≤ sizeLine then some (.tup ds, st) else none := Eq.trans rfl rfl
@[simp] theorem opLst_d {ds : List D} {st : Sto} : opLst ds st = if ds.length ≤ sizeLine then some (.ref st.length, st ++ [.lst ds]) else none := Eq.trans rfl rfl
@[simp] theorem opLstF_d {ds : List D} {st : Sto} : opLstF ds st = if ds.length ≤ sizeLine then some (.lst ds, st) else none := Eq.trans rfl rfl
/-! ### texts written -/
theorem ofString_inj {a b : String} : Str.ofString a = Str.ofString b ↔ a = b := by
  constructor
  · intro h
    rw [Str.ofString_eq_toList, Str.ofString_eq_toList] at h
    have h2 := congrArg (fun s : Str => s.cps.toList) h
    simp only [List.toList_toArray] at h2
    have h3 : a.toList = b.toList := by
      have inj : ∀ {l m : List Char}, l.map Char.toNat = m.map Char.toNat → l = m := by
        intro l
        induction l with
        | nil => intro m h; cases m <;> simp_all
        | cons c l ih =>
          intro m h
          cases m with
          | nil => simp at h
          | cons d m =>
            simp only [List.map_cons, List.cons.injEq] at h
            rw [ih h.2, Char.ext (UInt32.toNat_inj.mp h.1)]
      exact inj h2
    exact String.toList_inj.mp h3
  · rintro rfl; rfl
@[simp] theorem eq_lit {a b : String} {st : Sto} : opEq false (.str (Str.ofString a)) (.str (Str.ofString b)) st = some (.bl (decide (a = b)), st) := by
  simp [opEq, ofString_inj]
@[simp] theorem ne_lit {a b : String} {st : Sto} : opEq true (.str (Str.ofString a)) (.str (Str.ofString b)) st = some (.bl (!decide (a = b)), st) := by
  simp [opEq, ofString_inj]
theorem eq_str (a b : Str) (st : Sto) : opEq false (.str a) (.str b) st = some (.bl (decide (a = b)), st) := by simp [opEq]
theorem ne_str (a b : Str) (st : Sto) : opEq true (.str a) (.str b) st = some (.bl (!decide (a = b)), st) := by simp [opEq]
/-! ### loops -/
/-- a for over a list, by place: P what holds ahead of the i-th item -/
theorem forL_idx {nx : Nx} {g : IG} {b : IS} {xs : List D} (P : Nat → Env → Sto → Prop) (hn : ∀ i st, nx i st = some xs[i]?)
    (step : ∀ i d, xs[i]? = some d → ∀ env st, P i env st → ∃ e1 s1, g d env st = .ok e1 s1 ∧ ∃ e2 s2, (b e1 s1 = .nx e2 s2 ∨ b e1 s1 = .ct e2 s2) ∧ P (i + 1) e2 s2) :
    ∀ (m i : Nat) (env : Env) (st : Sto), i ≤ xs.length → xs.length ≤ i + m → P i env st → ∃ e2 s2, forL nx g b m i env st = .nx e2 s2 ∧ P xs.length e2 s2
  | 0, i, env, st, h0, hl, h => ⟨env, st, by unfold forL; rw [hn, List.getElem?_eq_none (by omega)], by rw [show xs.length = i by omega]; exact h⟩
  | m + 1, i, env, st, h0, hl, h => by
    unfold forL
    rw [hn]
    cases q : xs[i]? with
    | none =>
      have := List.getElem?_eq_none_iff.mp q
      exact ⟨env, st, rfl, by rw [show xs.length = i by omega]; exact h⟩
    | some d =>
      obtain ⟨e1, s1, h1, e2, s2, h2, h3⟩ := step i d q env st h
      have hi := (List.getElem?_eq_some_iff.mp q).1
      obtain ⟨e3, s3, h4, h5⟩ := forL_idx P hn step m (i + 1) e2 s2 (by omega) (by omega) h3
      refine ⟨e3, s3, ?_, h5⟩
      show liftS (g d env st) env (fun env1 s1 => kWhile b (forL nx g b m (i + 1)) (b env1 s1)) = _
      rw [h1]
      show kWhile b (forL nx g b m (i + 1)) (b e1 s1) = _
      rcases h2 with h2 | h2
      · rw [h2]; exact h4
      · rw [h2]; exact h4
end M
/-! SM1: the parts of a sampler's text. -/
namespace M
open PySem PySem.W

abbrev Fm := Int × Int
def encF (f : Fm) : D := .tup [.int f.1, .int f.2]
def its (i : Int) : Str := Str.ofString (toString i)
def headT (k : Int) : Str := if k = 1 then "n" else if k = 2 then "2*n" else "3*n"
def formT (f : Fm) : Str := if f.1 = 0 then its f.2 else if f.2 = 0 then headT f.1 else headT f.1 ++ (if f.2 > 0 then ((" + " : Str) ++ its f.2) else ((" - " : Str) ++ its (-f.2)))
def forms : List Fm := [0, 1, 2, 3].flatMap fun (a : Int) => [-9, -8, -7, -6, -5, -4, -3, -2, -1, 0, 1, 2, 3, 4, 5, 6, 7, 8, 9].map fun (b : Int) => (a, b)
theorem mem_forms {f : Fm} (h1 : 0 ≤ f.1) (h2 : f.1 ≤ 3) (h3 : -9 ≤ f.2) (h4 : f.2 ≤ 9) : f ∈ forms := by
  obtain ⟨a, b⟩ := f
  simp only at h1 h2 h3 h4
  have ha : a = 0 ∨ a = 1 ∨ a = 2 ∨ a = 3 := by omega
  have hb : b ∈ ([-9, -8, -7, -6, -5, -4, -3, -2, -1, 0, 1, 2, 3, 4, 5, 6, 7, 8, 9] : List Int) := by
    simp only [List.mem_cons, List.not_mem_nil, or_false]; omega
  unfold forms
  rw [List.mem_flatMap]
  refine ⟨a, ?_, List.mem_map.mpr ⟨b, hb, rfl⟩⟩
  simp only [List.mem_cons, List.not_mem_nil, or_false]; omega
theorem map_get {α β : Type} {f g : α → β} : ∀ {l : List α}, l.map f = l.map g → ∀ x ∈ l, f x = g x
  | y :: l, h, x, m => by
    simp only [List.map_cons, List.cons.injEq] at h
    rcases List.mem_cons.mp m with e | m
    · rw [e]; exact h.1
    · exact map_get h.2 x m
theorem form_in_ok_m (st : Sto) : (forms).map (fun f => p_form_in [.str (formT f)] st) = (forms).map (fun f => .ok (encF f) st) := by kernel_rfl
theorem form_in_ok (st : Sto) : ∀ f ∈ forms, p_form_in [.str (formT f)] st = .ok (encF f) st := fun x hx => map_get (form_in_ok_m st) x hx
def chk (f : Fm) : Bool := (toL (formT f)).all (fun c => decide (32 ≤ c) && decide (c < 127)) && decide ((toL (formT f)).length ≤ 12) && decide ((toL (formT f)) ≠ [])
theorem form_chk : ∀ f ∈ forms, chk f = true := by decide +kernel
def digits10 : List Int := [0, 1, 2, 3, 4, 5, 6, 7, 8, 9]
def steps12 : List Int := [1, 2, 3, 4, 5, 6, 7, 8, 9, 10, 11, 12]
theorem digit_in_m (st : Sto) : (digits10).map (fun c => p_number_in [.str (its c), .int 0, .int 9] st) = (digits10).map (fun c => .ok (.int c) st) := by kernel_rfl
theorem digit_in (st : Sto) : ∀ c ∈ digits10, p_number_in [.str (its c), .int 0, .int 9] st = .ok (.int c) st := fun x hx => map_get (digit_in_m st) x hx
theorem early_in_m (st : Sto) : (steps12).map (fun c => p_test_in [.str (("n < " : Str) ++ its c)] st) = (steps12).map (fun c => .ok (.tup [.str "early", .int c]) st) := by kernel_rfl
theorem early_in (st : Sto) : ∀ c ∈ steps12, p_test_in [.str (("n < " : Str) ++ its c)] st = .ok (.tup [.str "early", .int c]) st := fun x hx => map_get (early_in_m st) x hx
theorem at_in_m (st : Sto) : (steps12).map (fun c => p_test_in [.str (("n is " : Str) ++ its c)] st) = (steps12).map (fun c => .ok (.tup [.str "at", .int c]) st) := by kernel_rfl
theorem at_in (st : Sto) : ∀ c ∈ steps12, p_test_in [.str (("n is " : Str) ++ its c)] st = .ok (.tup [.str "at", .int c]) st := fun x hx => map_get (at_in_m st) x hx
theorem put_in_m (at_ : Int) (st : Sto) : (digits10).map (fun c => p_line_in [.str (("put " : Str) ++ its c), .int at_] st) = (digits10).map (fun c => .ok (.tup [.str "put", .int at_, .int c]) st) := by kernel_rfl
theorem put_in (at_ : Int) (st : Sto) : ∀ c ∈ digits10, p_line_in [.str (("put " : Str) ++ its c), .int at_] st = .ok (.tup [.str "put", .int at_, .int c]) st := fun x hx => map_get (put_in_m at_ st) x hx
theorem empty_in_m (at_ : Int) (st : Sto) : (digits10).map (fun c => p_line_in [.str (("empty " : Str) ++ its c), .int at_] st) = (digits10).map (fun c => .ok (.tup [.str "empty", .int at_, .int c]) st) := by kernel_rfl
theorem empty_in (at_ : Int) (st : Sto) : ∀ c ∈ digits10, p_line_in [.str (("empty " : Str) ++ its c), .int at_] st = .ok (.tup [.str "empty", .int at_, .int c]) st := fun x hx => map_get (empty_in_m at_ st) x hx
def pairs10 : List (Int × Int) := digits10.flatMap fun a => (digits10.filter fun b => decide (a < b)).map fun b => (a, b)
theorem exch_in_m (at_ : Int) (st : Sto) : (pairs10).map (fun c => p_line_in [.str (("exchange " : Str) ++ its c.1 ++ " " ++ its c.2), .int at_] st) = (pairs10).map (fun c => .ok (.tup [.str "exchange", .int at_, .int c.1, .int c.2]) st) := by kernel_rfl
theorem exch_in (at_ : Int) (st : Sto) : ∀ c ∈ pairs10, p_line_in [.str (("exchange " : Str) ++ its c.1 ++ " " ++ its c.2), .int at_] st = .ok (.tup [.str "exchange", .int at_, .int c.1, .int c.2]) st := fun x hx => map_get (exch_in_m at_ st) x hx
def threes : List Int := [1, 2, 3]
theorem places_in3_m (st : Sto) : threes.map (fun c => p_number_in [.str (its c), .int 1, .int 3] st) = threes.map (fun c => .ok (.int c) st) := by kernel_rfl
theorem places_in3 (st : Sto) : ∀ c ∈ threes, p_number_in [.str (its c), .int 1, .int 3] st = .ok (.int c) st := fun x hx => map_get (places_in3_m st) x hx
end M
/-! SM2: names; lines that draw; tests of names. -/
namespace M
open PySem PySem.W Builtin Builtin.Str
def barred : List Str := ["n", "m", "is", "if", "else", "draw", "below", "put", "exchange", "empty", "places", "take", "other", "join"]
structure NameOk (x : Str) : Prop where
  one : 1 ≤ (toL x).length
  eight : (toL x).length ≤ 8
  low : ∀ c ∈ toL x, 97 ≤ c ∧ c ≤ 122
  free : x ∉ barred
theorem nxS_at (x : Str) (i : Nat) (st : Sto) : nxS x i st = some ((toL x).map fun c => D.str ⟨#[c]⟩)[i]? := by
  unfold nxS
  rw [List.getElem?_map, show (toL x)[i]? = x.cps[i]? from by simp [toL]]
  cases x.cps[i]? <;> rfl
theorem letters_L : toL (Str.ofString "abcdefghijklmnopqrstuvwxyz") = (List.range 26).map (97 + ·) := by kernel_rfl
theorem in_letters {c : Nat} (h : 97 ≤ c ∧ c ≤ 122) (st : Sto) : opIn false (.str ⟨#[c]⟩) (.str (Str.ofString "abcdefghijklmnopqrstuvwxyz")) st = some (.bl true, st) := by
  show some (D.bl (!(occurrences (Str.ofString "abcdefghijklmnopqrstuvwxyz") ⟨#[c]⟩ 0 (Str.ofString "abcdefghijklmnopqrstuvwxyz").length 1).isEmpty), st) = _
  rw [StrLaws.found_one]
  have : c ∈ toL (Str.ofString "abcdefghijklmnopqrstuvwxyz") := by
    rw [letters_L]
    exact List.mem_map.mpr ⟨c - 97, List.mem_range.mpr (by omega), by omega⟩
  rw [decide_eq_true this]
theorem allP_map {α β : Type} {f : α → Option β} {g : α → β} : ∀ {xs : List α}, (∀ x ∈ xs, f x = some (g x)) → allP f xs = some (xs.map g)
  | [], _ => rfl
  | x :: xs, h => by
    unfold allP
    rw [h x List.mem_cons_self, allP_map fun y hy => h y (List.mem_cons_of_mem _ hy)]
    rfl
theorem notin_barred {x : Str} (h : x ∉ barred) (st : Sto) : opIn true (.str x) (.tup (dv_BARRED.map dvD)) st = some (.bl true, st) := by
  show (if flatD (.str x) = true ∧ (dv_BARRED.map dvD).all flatD = true then some (D.bl (!inD (.str x) (dv_BARRED.map dvD)), st) else none) = _
  rw [if_pos ⟨rfl, by kernel_rfl⟩]
  have e : dv_BARRED.map dvD = barred.map D.str := by kernel_rfl
  have : inD (.str x) (dv_BARRED.map dvD) = false := by
    rw [e]
    unfold inD
    rw [List.any_map, List.any_eq_false]
    intro y hy hx
    have : y = x := by simpa [eqD] using hx
    exact h (this ▸ hy)
  rw [this]; rfl
theorem is_name_ok {x : Str} (h : NameOk x) (st : Sto) : p_is_name [.str x] st = .ok (.bl true) st := by
  have hl : x.length ≤ sizeLine := by have := sizeLine_big; rw [len_toL]; have := h.eight; omega
  have h1 : (1 : Int) ≤ (x.length : Int) := by rw [len_toL]; have := h.one; omega
  have h8 : (x.length : Int) ≤ 8 := by rw [len_toL]; have := h.eight; omega
  have hc : ∀ env0 : Env, (env0 = [some (.str x), none] ) → compF (nxS x) (.one 1) tYes' (iBin (opIn false) (iVar 1) (iC (.str "abcdefghijklmnopqrstuvwxyz"))) env0 x.cps.size 0 [] st = .ok (((toL x).map fun c => D.str ⟨#[c]⟩).map fun _ => D.bl true) st := by
    intro env0 he
    subst he
    have hz : ((toL x).map fun c => D.str ⟨#[c]⟩).length ≤ 8 := by rw [List.length_map]; exact h.eight
    have hs : x.cps.size = ((toL x).map fun c => D.str ⟨#[c]⟩).length := by simp [toL]
    have := compF_map (nx := nxS x) (p := .one 1) (e := iBin (opIn false) (iVar 1) (iC (.str "abcdefghijklmnopqrstuvwxyz"))) (env0 := [some (.str x), none]) (xs := (toL x).map fun c => D.str ⟨#[c]⟩) (st := st) (fun _ => D.bl true) (nxS_at x) (fun d hd => ?_) x.cps.size 0 [] (by omega) (by have := sizeLine_big; simp; simp at hz; omega)
    · rw [this]; simp
    · obtain ⟨c, hc, rfl⟩ := List.mem_map.mp hd
      refine ⟨[some (.str x), some (.str ⟨#[c]⟩)], rfl, ?_⟩
      simp [in_letters (h.low c hc)]
  have hall : opAll [.lst (((toL x).map fun c => D.str ⟨#[c]⟩).map fun _ => D.bl true)] st = some (.bl true, st) := by
    show (allP asB _).map _ = _
    rw [allP_map (g := fun _ => true) (fun y hy => by
      obtain ⟨_, _, rfl⟩ := List.mem_map.mp hy; rfl)]
    simp
  simp [-List.map_map, p_is_name, B_p_is_name, opLen, lenD, hl, opCmp, h1, h8, Pat.slots, wipeE, hc, hall, notin_barred h.free]
/-! ### texts put together -/
theorem part_at {x s r : Str} {d : Nat} {y : List Nat} (hs : toL s = d :: y) (h : d ∉ toL x) : Txt.partition (x ++ s ++ r) s = (x, s, r) := by
  rw [part_eq, toL_app, toL_app, List.append_assoc, hs, partL_skip h]
  have e : partL (d :: y) (d :: y ++ toL r) = some ([], toL r) := by
    rw [List.cons_append, partL]
    have : (d :: y).isPrefixOf (d :: (y ++ toL r)) = true := by
      rw [← List.cons_append]
      exact List.isPrefixOf_iff_prefix.mpr (List.prefix_append _ _)
    rw [this]
    simp
  rw [e]
  simp only [Option.map_some, List.append_nil]
theorem part_no {x s r : Str} {d : Nat} {y : List Nat} (hs : toL s = d :: y) (h : d ∉ toL x) (hr : partL (d :: y) (toL r) = none) : Txt.partition (x ++ r) s = (x ++ r, Str.empty, Str.empty) := by
  rw [part_eq, toL_app, hs, partL_skip h, hr]
  rfl
theorem split_head {t w : Str} {r : List Nat} (h : toL t = toL w ++ 32 :: r) (hw : 32 ∉ toL w) : ∃ u v, Txt.split t (Str.ofString " ") = w :: u :: v := by
  have e : Str.ofString " " = ⟨#[32]⟩ := by kernel_rfl
  rw [e]
  have hj := StrLaws.join_split t ⟨#[32]⟩
  have hf := StrLaws.split_free t 32
  cases hs : Txt.split t ⟨#[32]⟩ with
  | nil =>
    rw [hs] at hj
    have : toL t = [] := by rw [← hj]; rfl
    rw [this] at h
    cases w' : toL w <;> rw [w'] at h <;> cases h
  | cons p q =>
    rw [hs] at hj hf
    cases q with
    | nil =>
      have : toL p = toL t := by rw [← hj]; rfl
      have hp := hf p List.mem_cons_self
      exact absurd (by show 32 ∈ toL p; rw [this, h]; simp) hp
    | cons u v =>
      have e2 := join_two 32 p u v
      rw [hj, h] at e2
      obtain ⟨e3, _⟩ := cut_one hw (hf p List.mem_cons_self) e2
      exact ⟨u, v, by rw [toL_inj e3]⟩
theorem sl_from {z r : Str} {a : List Nat} {k : Nat} (st : Sto) (hl : z.length ≤ sizeLine) (h : toL z = a ++ toL r) (hk : a.length = k) : opSl (.str z) (some (k : Int)) none st = some (.str r, st) := by
  show (if z.length ≤ sizeLine then some (D.str (L2.cutS z (some (k : Int)) none), st) else none) = _
  rw [if_pos hl]
  have : L2.cutS z (some (k : Int)) none = r := toL_inj (by rw [cut_from, h, ← hk, List.drop_left])
  rw [this]
theorem op_part {x s : Str} {p : Str × Str × Str} (st : Sto) (hs : (s.length == 0) = false) (hl : x.length ≤ sizeLine) (h : Txt.partition x s = p) : opPart (.str x) (.str s) st = some (.tup [.str p.1, .str p.2.1, .str p.2.2], st) := by
  show (if (s.length == 0) = false ∧ x.length ≤ sizeLine then _ else _) = _
  rw [if_pos ⟨hs, hl⟩, h]
theorem op_starts (x y : Str) (st : Sto) : opStarts (.str x) (.str y) st = some (.bl ((toL y).isPrefixOf (toL x)), st) := by
  unfold opStarts opTT
  simp [sw_eq]
theorem len_app (x y : Str) : (x ++ y).length = x.length + y.length := Str.length_append x y
theorem form_len {f : Fm} (hf : f ∈ forms) : (formT f).length ≤ 12 := by
  have := form_chk f hf
  unfold chk at this
  simp only [Bool.and_eq_true, decide_eq_true_eq] at this
  rw [len_toL]; exact this.1.2
theorem form_low {f : Fm} (hf : f ∈ forms) : ∀ c ∈ toL (formT f), 32 ≤ c ∧ c < 127 := fun c hc => by
  have := form_chk f hf
  unfold chk at this
  simp only [Bool.and_eq_true, List.all_eq_true, decide_eq_true_eq] at this
  exact this.1.1 c hc
theorem name_len {x : Str} (h : NameOk x) : x.length ≤ 8 := by rw [len_toL]; exact h.eight
theorem name_no {x : Str} (h : NameOk x) {c : Nat} (hc : c < 97) : c ∉ toL x := fun m => by have := h.low c m; omega
def drawT (x : Str) (f : Fm) : Str := (Str.ofString "draw ") ++ (x ++ (Str.ofString " below ") ++ formT f)
theorem len_lit {s : String} {n : Nat} (h : (Str.ofString s).length = n := by kernel_rfl) : (Str.ofString s).length = n := h
theorem draw_in_ok {x : Str} {f : Fm} (hx : NameOk x) (hf : f ∈ forms) (line : Int) (st : Sto) : p_draw_in [.str (drawT x f), .int line, .glo "form_in"] st = .ok (.tup [.str "draw", .int line, .str x, encF f]) st := by
  have big := sizeLine_big
  have l1 : (Str.ofString "draw ").length = 5 := by kernel_rfl
  have l2 : (Str.ofString " below ").length = 7 := by kernel_rfl
  have l3 := form_len hf
  have l4 := name_len hx
  have e1 : ∀ st, opSl (.str (drawT x f)) (some 5) none st = some (.str (x ++ (Str.ofString " below ") ++ formT f), st) := fun st =>
    sl_from (k := 5) st (by unfold drawT; simp only [len_app]; omega) (by unfold drawT; rw [toL_app]) (by rw [← len_toL, l1])
  have e2 : ∀ st, opPart (.str (x ++ (Str.ofString " below ") ++ formT f)) (.str (Str.ofString " below ")) st = some (.tup [.str x, .str (Str.ofString " below "), .str (formT f)], st) := fun st =>
    op_part st (by rw [l2]; rfl) (by simp only [len_app]; omega) (part_at (d := 32) (y := [98, 101, 108, 111, 119, 32]) (by kernel_rfl) (name_no hx (by decide)))
  have e3 : (toL (Str.ofString "draw ")).isPrefixOf (toL (drawT x f)) = true := by
    unfold drawT
    rw [toL_app]
    exact List.isPrefixOf_iff_prefix.mpr (List.prefix_append _ _)
  simp [p_draw_in, B_p_draw_in, e1, e2, form_in_ok _ f hf, op_starts, e3, is_name_ok hx, encF]
/-! ### tests -/
inductive Tst where
  | below (x : Str) (f : Fm) | is_ (x : Str) (c : Int) | early (c : Int) | at_ (c : Int)
  deriving DecidableEq
def Tst.Ok : Tst → Prop
  | .below x f => NameOk x ∧ f ∈ forms
  | .is_ x c => NameOk x ∧ c ∈ digits10
  | .early c => c ∈ steps12
  | .at_ c => c ∈ steps12
def testT : Tst → Str
  | .below x f => x ++ (Str.ofString " < ") ++ formT f
  | .is_ x c => x ++ (Str.ofString " is ") ++ its c
  | .early c => ("n < " : Str) ++ its c
  | .at_ c => ("n is " : Str) ++ its c
def encT : Tst → D
  | .below x f => .tup [.str "below", .str x, encF f]
  | .is_ x c => .tup [.str "is", .str x, .int c]
  | .early c => .tup [.str "early", .int c]
  | .at_ c => .tup [.str "at", .int c]
theorem name_pre {x s : Str} {s' r : List Nat} (h : NameOk x) (hs : toL s = 110 :: 32 :: s') : (toL s).isPrefixOf (toL x ++ r) = false := by
  rw [hs]
  have h1 := h.one
  have h2 := h.low
  have h3 := h.free
  cases e : toL x with
  | nil => rw [e] at h1; simp at h1
  | cons c l =>
    rw [e] at h2
    by_cases hc : c = 110
    · subst hc
      cases l with
      | nil =>
        refine absurd ?_ h3
        have : x = Str.ofString "n" := toL_inj (by rw [e]; kernel_rfl)
        rw [this]
        exact List.mem_cons_self
      | cons d l =>
        have := h2 d (by simp)
        have : (32 == d) = false := by simp; omega
        simp [List.isPrefixOf, this]
    · have : (110 == c) = false := by simp; omega
      simp [List.isPrefixOf, this]
theorem digit_len : ∀ c ∈ digits10, (its c).length = 1 := by decide +kernel
theorem digit_low : ∀ c ∈ digits10, ∀ d ∈ toL (its c), 48 ≤ d ∧ d ≤ 57 := by decide +kernel
theorem is_no : ∀ c ∈ digits10, partL [32, 60, 32] (toL ((Str.ofString " is ") ++ its c)) = none := by decide +kernel
theorem test_in_ok {t : Tst} (h : t.Ok) (st : Sto) : p_test_in [.str (testT t)] st = .ok (encT t) st := by
  have big := sizeLine_big
  cases t with
  | early c => exact early_in st c h
  | at_ c => exact at_in st c h
  | below x f =>
    obtain ⟨hx, hf⟩ := h
    have l1 : (Str.ofString " < ").length = 3 := by kernel_rfl
    have l3 := form_len hf
    have l4 := name_len hx
    have a1 : (toL (Str.ofString "n < ")).isPrefixOf (toL (testT (.below x f))) = false := by
      show (toL (Str.ofString "n < ")).isPrefixOf (toL (x ++ _ ++ _)) = false
      rw [toL_app, toL_app, List.append_assoc]
      exact name_pre (s' := [60, 32]) hx (by kernel_rfl)
    have a2 : (toL (Str.ofString "n is ")).isPrefixOf (toL (testT (.below x f))) = false := by
      show (toL (Str.ofString "n is ")).isPrefixOf (toL (x ++ _ ++ _)) = false
      rw [toL_app, toL_app, List.append_assoc]
      exact name_pre (s' := [105, 115, 32]) hx (by kernel_rfl)
    have e2 : ∀ st, opPart (.str (testT (.below x f))) (.str (Str.ofString " < ")) st = some (.tup [.str x, .str (Str.ofString " < "), .str (formT f)], st) := fun st =>
      op_part st (by rw [l1]; rfl) (by simp only [len_app]; omega) (part_at (d := 32) (y := [60, 32]) (by kernel_rfl) (name_no hx (by decide)))
    simp [p_test_in, B_p_test_in, forL, nxL, kWhile, op_starts, a1, a2, p_name_test_in, B_p_name_test_in, e2, is_name_ok hx, form_in_ok _ f hf, encT, encF]
  | is_ x c =>
    obtain ⟨hx, hc⟩ := h
    have l1 : (Str.ofString " < ").length = 3 := by kernel_rfl
    have l2 : (Str.ofString " is ").length = 4 := by kernel_rfl
    have l3 := digit_len c hc
    have l4 := name_len hx
    have a1 : (toL (Str.ofString "n < ")).isPrefixOf (toL (testT (.is_ x c))) = false := by
      show (toL (Str.ofString "n < ")).isPrefixOf (toL (x ++ _ ++ _)) = false
      rw [toL_app, toL_app, List.append_assoc]
      exact name_pre (s' := [60, 32]) hx (by kernel_rfl)
    have a2 : (toL (Str.ofString "n is ")).isPrefixOf (toL (testT (.is_ x c))) = false := by
      show (toL (Str.ofString "n is ")).isPrefixOf (toL (x ++ _ ++ _)) = false
      rw [toL_app, toL_app, List.append_assoc]
      exact name_pre (s' := [105, 115, 32]) hx (by kernel_rfl)
    have as_ : x ++ (Str.ofString " is ") ++ its c = x ++ ((Str.ofString " is ") ++ its c) := Str.append_assoc _ _ _
    have e1 : ∀ st, opPart (.str (testT (.is_ x c))) (.str (Str.ofString " < ")) st = some (.tup [.str (x ++ ((Str.ofString " is ") ++ its c)), .str Str.empty, .str Str.empty], st) := fun st =>
      op_part (p := (x ++ ((Str.ofString " is ") ++ its c), Str.empty, Str.empty)) st (by rw [l1]; rfl) (by unfold testT; simp only [len_app]; omega) (by
        show Txt.partition (x ++ (Str.ofString " is ") ++ its c) _ = _
        rw [as_]
        exact part_no (d := 32) (y := [60, 32]) (by kernel_rfl) (name_no hx (by decide)) (is_no c hc))
    have e2 : ∀ st, opPart (.str (testT (.is_ x c))) (.str (Str.ofString " is ")) st = some (.tup [.str x, .str (Str.ofString " is "), .str (its c)], st) := fun st =>
      op_part st (by rw [l2]; rfl) (by simp only [testT, len_app]; omega) (part_at (d := 32) (y := [105, 115, 32]) (by kernel_rfl) (name_no hx (by decide)))
    have emp : Str.empty = Str.ofString "" := by kernel_rfl
    simp [p_test_in, B_p_test_in, forL, nxL, kWhile, op_starts, a1, a2, p_name_test_in, B_p_name_test_in, e1, e2, emp, is_name_ok hx, digit_in _ c hc, encT]
/-! ### lines that draw -/
theorem draw_line {x : Str} {f : Fm} (hx : NameOk x) (hf : f ∈ forms) (line : Int) (st : Sto) : p_line_in [.str (drawT x f), .int line] st = .ok (.tup [.str "draw", .int line, .str x, encF f]) st := by
  have big := sizeLine_big
  have l1 : (Str.ofString "draw ").length = 5 := by kernel_rfl
  have l2 : (Str.ofString " below ").length = 7 := by kernel_rfl
  have l0 : (Str.ofString " ").length = 1 := by kernel_rfl
  have l3 := form_len hf
  have l4 := name_len hx
  obtain ⟨u, v, hs⟩ := split_head (t := drawT x f) (w := Str.ofString "draw") (r := toL (x ++ (Str.ofString " below ") ++ formT f)) (by
    unfold drawT
    rw [toL_app, show toL (Str.ofString "draw ") = toL (Str.ofString "draw") ++ [32] by kernel_rfl]
    simp) (by decide +kernel)
  have e1 : ∀ st, opSplit (.str (drawT x f)) (.str (Str.ofString " ")) st = some (.lst (((Str.ofString "draw") :: u :: v).map .str), st) := fun st => by
    show (if _ ∧ _ then some (D.lst ((Txt.split (drawT x f) (Str.ofString " ")).map .str), st) else none) = _
    rw [if_pos ⟨by rw [l0]; rfl, by unfold drawT; simp only [len_app]; omega⟩, hs]
  have ix : ∀ (d : D) (ds : List D) st, opIx (.lst (d :: ds)) (.int 0) st = some (d, st) := fun d ds st => by
    simp [opIx, aseq, L2.atI, L2.ixN]
  simp [p_line_in, B_p_line_in, e1, ix, draw_in_ok hx hf]
end M
/-! SM3: rows, their lines, what is read from them; plain data. -/
namespace M
open PySem PySem.W Builtin Builtin.Str
inductive Row where
  | draw (x : Str) (f : Fm) | ifs (t : Tst) (b o : List Row) | put (p : Int) | emp (p : Int) | exch (p q : Int)
  deriving Inhabited
def sp (k : Nat) : Str := ⟨(List.replicate k 32).toArray⟩
theorem toL_sp (k : Nat) : toL (sp k) = List.replicate k 32 := by simp [toL, sp]
def elseT : Str := Str.ofString "else"
def rowT : Row → Str
  | .draw x f => drawT x f
  | .ifs t _ _ => (Str.ofString "if ") ++ testT t
  | .put p => ("put " : Str) ++ its p
  | .emp p => ("empty " : Str) ++ its p
  | .exch p q => ("exchange " : Str) ++ its p ++ " " ++ its q
mutual
def linesR (k : Nat) : Row → List Str
  | .ifs t b o => (sp k ++ rowT (.ifs t b o)) :: (linesRs (k + 2) b ++ (if o.isEmpty then [] else (sp k ++ elseT) :: linesRs (k + 2) o))
  | r => [sp k ++ rowT r]
def linesRs (k : Nat) : List Row → List Str
  | [] => []
  | r :: rs => linesR k r ++ linesRs k rs
end
mutual
def cnt : Row → Nat
  | .ifs _ b o => 1 + cnts b + (if o.isEmpty then 0 else 1 + cnts o)
  | _ => 1
def cnts : List Row → Nat
  | [] => 0
  | r :: rs => cnt r + cnts rs
end
mutual
def encP (n : Nat) : Row → D
  | .draw x f => .tup [.str "draw", .int n, .str x, encF f]
  | .ifs t b o => .tup [.str "if", .int n, encT t, .tup (encPs (n + 1) b), .tup (encPs (n + 1 + cnts b + 1) o)]
  | .put p => .tup [.str "put", .int n, .int p]
  | .emp p => .tup [.str "empty", .int n, .int p]
  | .exch p q => .tup [.str "exchange", .int n, .int p, .int q]
def encPs (n : Nat) : List Row → List D
  | [] => []
  | r :: rs => encP n r :: encPs (n + cnt r) rs
end
mutual
def dR : Row → Nat
  | .ifs _ b o => 1 + max (dRs b) (dRs o)
  | _ => 0
def dRs : List Row → Nat
  | [] => 0
  | r :: rs => max (dR r) (dRs rs)
end
mutual
def RowOk : Row → Prop
  | .draw x f => NameOk x ∧ f ∈ forms
  | .ifs t b o => t.Ok ∧ b ≠ [] ∧ RowsOk b ∧ RowsOk o
  | .put p => p ∈ digits10
  | .emp p => p ∈ digits10
  | .exch p q => (p, q) ∈ pairs10
def RowsOk : List Row → Prop
  | [] => True
  | r :: rs => RowOk r ∧ RowsOk rs
end
mutual
theorem lines_len (k : Nat) : ∀ r : Row, (linesR k r).length = cnt r
  | .draw _ _ => rfl
  | .put _ => rfl
  | .emp _ => rfl
  | .exch _ _ => rfl
  | .ifs t b o => by
    rw [linesR, cnt, List.length_cons, List.length_append, lines_lens (k + 2) b]
    cases o with
    | nil => simp; omega
    | cons a l =>
      have := lines_lens (k + 2) (a :: l)
      simp only [List.isEmpty_cons, if_neg Bool.false_ne_true, List.length_cons, this]
      omega
theorem lines_lens (k : Nat) : ∀ rs : List Row, (linesRs k rs).length = cnts rs
  | [] => rfl
  | r :: rs => by rw [linesRs, cnts, List.length_append, lines_len k r, lines_lens k rs]
end
/-! ### plain data -/
mutual
def pd : Nat → D → Bool
  | 0, _ => false
  | n + 1, .non => true
  | n + 1, .bl _ => true
  | n + 1, .int _ => true
  | n + 1, .str x => PyData.strOk x
  | n + 1, .tup xs => pds n xs
  | n + 1, .lst xs => pds n xs
  | _, _ => false
def pds : Nat → List D → Bool
  | _, [] => true
  | n, x :: xs => pd n x && pds n xs
end
mutual
theorem pd_mono : ∀ {n m : Nat} {d : D}, n ≤ m → pd n d = true → pd m d = true
  | 0, _, _, _, h => by simp [pd] at h
  | n + 1, 0, _, hm, _ => by omega
  | n + 1, m + 1, d, hm, h => by
    cases d with
    | tup xs => rw [pd] at h ⊢; exact pds_mono (by omega) h
    | lst xs => rw [pd] at h ⊢; exact pds_mono (by omega) h
    | _ => simp [pd] at h ⊢ <;> exact h
theorem pds_mono : ∀ {n m : Nat} {ds : List D}, n ≤ m → pds n ds = true → pds m ds = true
  | _, _, [], _, _ => by simp [pds]
  | n, m, x :: xs, hm, h => by
    rw [pds, Bool.and_eq_true] at h ⊢
    exact ⟨pd_mono hm h.1, pds_mono hm h.2⟩
end
mutual
theorem pd_noRef : ∀ {n : Nat} {d : D}, pd n d = true → noRef d = true
  | 0, _, h => by simp [pd] at h
  | n + 1, d, h => by
    cases d with
    | tup xs => rw [pd] at h; rw [noRef]; exact pds_noRef h
    | lst xs => rw [pd] at h; rw [noRef]; exact pds_noRef h
    | non => rfl
    | bl _ => rfl
    | int _ => rfl
    | str _ => rfl
    | _ => simp [pd] at h
theorem pds_noRef : ∀ {n : Nat} {ds : List D}, pds n ds = true → noRefs ds = true
  | _, [], _ => rfl
  | n, x :: xs, h => by
    rw [pds, Bool.and_eq_true] at h
    rw [noRefs, pd_noRef h.1, pds_noRef h.2]; rfl
end
mutual
theorem pd_frz (st : Sto) : ∀ {n : Nat} {d : D}, pd n d = true → frz st n d = some d
  | 0, _, h => by simp [pd] at h
  | n + 1, d, h => by
    cases d with
    | tup xs => rw [pd] at h; show (allP (frz st n) xs).map D.tup = _; rw [pds_frz st h]; rfl
    | lst xs => rw [pd] at h; show (allP (frz st n) xs).map D.lst = _; rw [pds_frz st h]; rfl
    | non => rfl
    | bl _ => rfl
    | int _ => rfl
    | str _ => rfl
    | _ => simp [pd] at h
theorem pds_frz (st : Sto) : ∀ {n : Nat} {ds : List D}, pds n ds = true → allP (frz st n) ds = some ds
  | _, [], _ => rfl
  | n, x :: xs, h => by
    rw [pds, Bool.and_eq_true] at h
    unfold allP
    rw [pd_frz st h.1, pds_frz st h.2]
end
mutual
theorem pd_toP (st : Sto) : ∀ {n : Nat} {d : D}, pd n d = true → ∃ p, toP st n d = some p
  | 0, _, h => by simp [pd] at h
  | n + 1, d, h => by
    cases d with
    | tup xs =>
      rw [pd] at h
      obtain ⟨ps, e, _⟩ := pds_toP st h
      exact ⟨.tuple ps, by show (allP (toP st n) xs).map PyData.tuple = _; rw [e]; rfl⟩
    | lst xs =>
      rw [pd] at h
      obtain ⟨ps, e, _⟩ := pds_toP st h
      exact ⟨.list ps, by show (allP (toP st n) xs).map PyData.list = _; rw [e]; rfl⟩
    | non => exact ⟨_, rfl⟩
    | bl _ => exact ⟨_, rfl⟩
    | int _ => exact ⟨_, rfl⟩
    | str x =>
      rw [pd] at h
      exact ⟨.str x, by show (if PyData.strOk x then some (PyData.str x) else none) = _; rw [if_pos h]⟩
    | _ => simp [pd] at h
theorem pds_toP (st : Sto) : ∀ {n : Nat} {ds : List D}, pds n ds = true → ∃ ps, allP (toP st n) ds = some ps ∧ ps.length = ds.length
  | _, [], _ => ⟨[], rfl, rfl⟩
  | n, x :: xs, h => by
    rw [pds, Bool.and_eq_true] at h
    obtain ⟨p, e1⟩ := pd_toP st h.1
    obtain ⟨ps, e2, l⟩ := pds_toP st h.2
    exact ⟨p :: ps, by unfold allP; rw [e1, e2], by rw [List.length_cons, List.length_cons, l]⟩
end
theorem pds_append {n : Nat} : ∀ {a b : List D}, pds n a = true → pds n b = true → pds n (a ++ b) = true
  | [], b, _, h => h
  | x :: a, b, h, h' => by
    rw [pds, Bool.and_eq_true] at h
    rw [List.cons_append, pds, h.1, pds_append h.2 h']; rfl
theorem pds_all {n : Nat} {ds : List D} (h : ∀ d ∈ ds, pd n d = true) : pds n ds = true := by
  induction ds with
  | nil => rw [pds]
  | cons d ds ih => rw [pds, h d List.mem_cons_self, ih fun x hx => h x (List.mem_cons_of_mem _ hx)]; rfl
/-- a tuple that is not empty is not () -/
theorem eq_nil {xs : List D} {st : Sto} (h : pds 63 xs = true) : opEq false (.tup xs) (.tup []) st = some (.bl xs.isEmpty, st) := by
  obtain ⟨ps, e, l⟩ := pds_toP st h
  have e1 : toP st 64 (.tup xs) = some (.tuple ps) := by show (allP (toP st 63) xs).map PyData.tuple = _; rw [e]; rfl
  have e2 : toP st 64 (.tup []) = some (.tuple []) := rfl
  show (match toP st 64 (.tup xs), toP st 64 (.tup []) with
    | some p, some q => some (D.bl (if false = true then !PyData.eqv p q else PyData.eqv p q), st)
    | _, _ => none) = _
  rw [e1, e2]
  cases xs with
  | nil => cases ps with
    | nil => rfl
    | cons a b => simp at l
  | cons x xs => cases ps with
    | nil => simp at l
    | cons a b => simp [PyData.eqv, PyData.eqvAll]
theorem ne_nil {xs : List D} {st : Sto} (h : pds 63 xs = true) : opEq true (.tup xs) (.tup []) st = some (.bl (!xs.isEmpty), st) := by
  obtain ⟨ps, e, l⟩ := pds_toP st h
  have e1 : toP st 64 (.tup xs) = some (.tuple ps) := by show (allP (toP st 63) xs).map PyData.tuple = _; rw [e]; rfl
  have e2 : toP st 64 (.tup []) = some (.tuple []) := rfl
  show (match toP st 64 (.tup xs), toP st 64 (.tup []) with
    | some p, some q => some (D.bl (if true = true then !PyData.eqv p q else PyData.eqv p q), st)
    | _, _ => none) = _
  rw [e1, e2]
  cases xs with
  | nil => cases ps with
    | nil => rfl
    | cons a b => simp at l
  | cons x xs => cases ps with
    | nil => simp at l
    | cons a b => simp [PyData.eqv, PyData.eqvAll]
/-! ### the data of rows -/
theorem low_ok {x : Str} (h : ∀ c ∈ toL x, c < 128) : PyData.strOk x = true := by
  unfold PyData.strOk
  rw [Array.all_eq_true_iff_forall_mem]
  intro c hc
  have := h c (by simpa [toL] using hc)
  simp
  omega
theorem name_ok {x : Str} (h : NameOk x) : PyData.strOk x = true := low_ok fun c hc => by have := h.low c hc; omega
theorem lit_ok (s : String) : PyData.strOk (Str.ofString s) = true := strOk_of s
theorem encF_pd (n : Nat) (f : Fm) : pd (n + 2) (encF f) = true := by simp [encF, pd, pds]
theorem encT_pd {t : Tst} (h : t.Ok) (n : Nat) : pd (n + 3) (encT t) = true := by
  cases t with
  | below x f => simp [encT, pd, pds, lit_ok, name_ok h.1, encF]
  | is_ x c => simp [encT, pd, pds, lit_ok, name_ok h.1]
  | early c => simp [encT, pd, pds, lit_ok]
  | at_ c => simp [encT, pd, pds, lit_ok]
mutual
theorem encP_pd : ∀ {r : Row} {k : Nat} (n : Nat), RowOk r → pd (n + 4 + 2 * dR r) (encP k r) = true
  | .draw x f, k, n, h => by
    rw [RowOk] at h
    simp [encP, dR, pd, pds, lit_ok, name_ok h.1, encF]
  | .put p, k, n, h => by simp [encP, dR, pd, pds, lit_ok]
  | .emp p, k, n, h => by simp [encP, dR, pd, pds, lit_ok]
  | .exch p q, k, n, h => by simp [encP, dR, pd, pds, lit_ok]
  | .ifs t b o, k, n, h => by
    rw [RowOk] at h
    have h1 := encPs_pd (k := k + 1) n h.2.2.1
    have h2 := encPs_pd (k := k + 1 + cnts b + 1) n h.2.2.2
    have e : n + 4 + 2 * dR (.ifs t b o) = n + 4 + 2 * max (dRs b) (dRs o) + 1 + 1 := by rw [dR]; omega
    rw [e, encP, pd]
    have t1 := pd_mono (m := n + 4 + 2 * max (dRs b) (dRs o) + 1) (by omega) (encT_pd h.1 n)
    have b1 := pds_mono (m := n + 4 + 2 * max (dRs b) (dRs o)) (by omega) h1
    have o1 := pds_mono (m := n + 4 + 2 * max (dRs b) (dRs o)) (by omega) h2
    simp [pds, pd, lit_ok, t1, b1, o1]
theorem encPs_pd : ∀ {rs : List Row} {k : Nat} (n : Nat), RowsOk rs → pds (n + 4 + 2 * dRs rs) (encPs k rs) = true
  | [], k, n, _ => by simp [encPs, pds]
  | r :: rs, k, n, h => by
    rw [RowsOk] at h
    rw [encPs, pds, dRs]
    rw [pd_mono (by omega) (encP_pd n h.1), pds_mono (by omega) (encPs_pd n h.2)]
    rfl
end
theorem encPs_nil {k : Nat} {rs : List Row} : (encPs k rs).isEmpty = rs.isEmpty := by
  cases rs <;> simp [encPs]
end M
/-! SM4: the lines of rows are read back. -/
namespace M
open PySem PySem.W Builtin Builtin.Str
/-! ### the rows' texts -/
theorem its_low10 : ∀ c ∈ digits10, ∀ d ∈ toL (its c), 32 ≤ d ∧ d < 127 := by decide +kernel
theorem its_low12 : ∀ c ∈ steps12, ∀ d ∈ toL (its c), 32 ≤ d ∧ d < 127 := by decide +kernel
theorem its_len12 : ∀ c ∈ steps12, (its c).length ≤ 2 := by decide +kernel
def lowS (x : Str) : Prop := ∀ c ∈ toL x, 32 ≤ c ∧ c < 127
theorem low_app {x y : Str} (hx : lowS x) (hy : lowS y) : lowS (x ++ y) := fun c hc => by
  rw [toL_app] at hc
  exact (List.mem_append.mp hc).elim (hx c) (hy c)
theorem low_lit {s : String} (h : (toL (Str.ofString s)).all (fun c => decide (32 ≤ c) && decide (c < 127)) = true) : lowS (Str.ofString s) := fun c hc => by
  have := List.all_eq_true.mp h c hc
  simpa using this
theorem low_name {x : Str} (h : NameOk x) : lowS x := fun c hc => by have := h.low c hc; omega
theorem pairs_mem {p q : Int} (h : (p, q) ∈ pairs10) : p ∈ digits10 ∧ q ∈ digits10 := by
  unfold pairs10 at h
  obtain ⟨a, ha, h⟩ := List.mem_flatMap.mp h
  obtain ⟨b, hb, e⟩ := List.mem_map.mp h
  cases e
  exact ⟨ha, (List.mem_filter.mp hb).1⟩
theorem test_low {t : Tst} (h : t.Ok) : lowS (testT t) ∧ (testT t).length ≤ 23 := by
  cases t with
  | below x f =>
    refine ⟨low_app (low_app (low_name h.1) (low_lit (by decide +kernel))) (form_low h.2), ?_⟩
    have l1 : (Str.ofString " < ").length = 3 := by kernel_rfl
    have l3 := form_len h.2
    have l4 := name_len h.1
    show (x ++ _ ++ _).length ≤ 23
    simp only [len_app]; omega
  | is_ x c =>
    refine ⟨low_app (low_app (low_name h.1) (low_lit (by decide +kernel))) (its_low10 c h.2), ?_⟩
    have l1 : (Str.ofString " is ").length = 4 := by kernel_rfl
    have l3 := digit_len c h.2
    have l4 := name_len h.1
    show (x ++ _ ++ _).length ≤ 23
    simp only [len_app]; omega
  | early c =>
    refine ⟨low_app (low_lit (by decide +kernel)) (its_low12 c h), ?_⟩
    have l1 : (Str.ofString "n < ").length = 4 := by kernel_rfl
    have l3 := its_len12 c h
    show (_ ++ its c).length ≤ 23
    simp only [len_app]; omega
  | at_ c =>
    refine ⟨low_app (low_lit (by decide +kernel)) (its_low12 c h), ?_⟩
    have l1 : (Str.ofString "n is ").length = 5 := by kernel_rfl
    have l3 := its_len12 c h
    show (_ ++ its c).length ≤ 23
    simp only [len_app]; omega
structure RT (r : Row) : Prop where
  low : lowS (rowT r)
  len : (rowT r).length ≤ 40
  head : ∃ c l, toL (rowT r) = c :: l ∧ c ≠ 32
  noelse : rowT r ≠ elseT
theorem row_t {r : Row} (h : RowOk r) : RT r := by
  have pre : ∀ {s : String} {y : Str} {a b : List Nat}, toL (Str.ofString s) = a → (∃ c l, a = c :: l ∧ c ≠ 32) → (a.take 4).length = 4 ∧ a.take 4 ≠ [101, 108, 115, 101] ∨ (∃ c l, a = c :: l ∧ c ≠ 101) → (∃ c l, toL ((Str.ofString s) ++ y) = c :: l ∧ c ≠ 32) ∧ (Str.ofString s) ++ y ≠ elseT := by
    intro s y a b ha h1 h2
    obtain ⟨c, l, e, hc⟩ := h1
    refine ⟨⟨c, l ++ toL y, by rw [toL_app, ha, e]; rfl, hc⟩, fun z => ?_⟩
    have z2 : toL ((Str.ofString s) ++ y) = [101, 108, 115, 101] := by rw [z]; kernel_rfl
    rw [toL_app, ha] at z2
    rcases h2 with ⟨h3, h4⟩ | ⟨c', l', e', hc'⟩
    · apply h4
      have : (a ++ toL y).take 4 = [101, 108, 115, 101] := by rw [z2]; rfl
      rw [List.take_append_of_le_length (by rw [List.length_take] at h3; omega)] at this
      exact this
    · rw [e'] at z2
      simp at z2
      exact hc' z2.1
  cases r with
  | draw x f =>
    rw [RowOk] at h
    have l1 : (Str.ofString "draw ").length = 5 := by kernel_rfl
    have l2 : (Str.ofString " below ").length = 7 := by kernel_rfl
    have l3 := form_len h.2
    have l4 := name_len h.1
    obtain ⟨p1, p2⟩ := pre (s := "draw ") (y := x ++ (Str.ofString " below ") ++ formT f) (b := []) (a := [100, 114, 97, 119, 32]) (by kernel_rfl) ⟨_, _, rfl, by decide⟩ (.inr ⟨_, _, rfl, by decide⟩)
    exact ⟨low_app (low_lit (by decide +kernel)) (low_app (low_app (low_name h.1) (low_lit (by decide +kernel))) (form_low h.2)), by show (_ ++ (x ++ _ ++ _)).length ≤ 40; simp only [len_app]; omega, p1, p2⟩
  | ifs t b o =>
    rw [RowOk] at h
    have l1 : (Str.ofString "if ").length = 3 := by kernel_rfl
    obtain ⟨t1, t2⟩ := test_low h.1
    obtain ⟨p1, p2⟩ := pre (s := "if ") (y := testT t) (b := []) (a := [105, 102, 32]) (by kernel_rfl) ⟨_, _, rfl, by decide⟩ (.inr ⟨_, _, rfl, by decide⟩)
    exact ⟨low_app (low_lit (by decide +kernel)) t1, by show (_ ++ testT t).length ≤ 40; simp only [len_app]; omega, p1, p2⟩
  | put p =>
    rw [RowOk] at h
    have l1 : (Str.ofString "put ").length = 4 := by kernel_rfl
    have l3 := digit_len p h
    obtain ⟨p1, p2⟩ := pre (s := "put ") (y := its p) (b := []) (a := [112, 117, 116, 32]) (by kernel_rfl) ⟨_, _, rfl, by decide⟩ (.inr ⟨_, _, rfl, by decide⟩)
    exact ⟨low_app (low_lit (by decide +kernel)) (its_low10 p h), by show (_ ++ its p).length ≤ 40; simp only [len_app]; omega, p1, p2⟩
  | emp p =>
    rw [RowOk] at h
    have l1 : (Str.ofString "empty ").length = 6 := by kernel_rfl
    have l3 := digit_len p h
    obtain ⟨p1, p2⟩ := pre (s := "empty ") (y := its p) (b := []) (a := [101, 109, 112, 116, 121, 32]) (by kernel_rfl) ⟨_, _, rfl, by decide⟩ (.inl ⟨rfl, by decide⟩)
    exact ⟨low_app (low_lit (by decide +kernel)) (its_low10 p h), by show (_ ++ its p).length ≤ 40; simp only [len_app]; omega, p1, p2⟩
  | exch p q =>
    rw [RowOk] at h
    have l1 : (Str.ofString "exchange ").length = 9 := by kernel_rfl
    have l2 : (Str.ofString " ").length = 1 := by kernel_rfl
    obtain ⟨hp, hq⟩ := pairs_mem h
    have l3 := digit_len p hp
    have l4 := digit_len q hq
    obtain ⟨p1, p2⟩ := pre (s := "exchange ") (y := its p ++ " " ++ its q) (b := []) (a := [101, 120, 99, 104, 97, 110, 103, 101, 32]) (by kernel_rfl) ⟨_, _, rfl, by decide⟩ (.inl ⟨rfl, by decide⟩)
    have e : rowT (.exch p q) = (Str.ofString "exchange ") ++ (its p ++ " " ++ its q) := by
      show (Str.ofString "exchange ") ++ its p ++ " " ++ its q = _
      rw [Str.append_assoc, Str.append_assoc, Str.append_assoc]
    rw [← e] at p1 p2
    exact ⟨by rw [e]; exact low_app (low_lit (by decide +kernel)) (low_app (low_app (its_low10 p hp) (low_lit (by decide +kernel))) (its_low10 q hq)), by rw [e]; simp only [len_app]; omega, p1, p2⟩
/-- a line of a statement other than an if -/
def notIf : Row → Bool
  | .ifs .. => false
  | _ => true
theorem line_ok {r : Row} (h : RowOk r) (hn : notIf r = true) (n : Nat) (st : Sto) : p_line_in [.str (rowT r), .int n] st = .ok (encP n r) st := by
  cases r with
  | draw x f => rw [RowOk] at h; exact draw_line h.1 h.2 n st
  | ifs t b o => cases hn
  | put p => rw [RowOk] at h; exact put_in n st p h
  | emp p => rw [RowOk] at h; exact empty_in n st p h
  | exch p q => rw [RowOk] at h; exact exch_in n st (p, q) h
theorem starts_if {r : Row} (h : RowOk r) : (toL (Str.ofString "if ")).isPrefixOf (toL (rowT r)) = !notIf r := by
  have i3 : toL (Str.ofString "if ") = [105, 102, 32] := by kernel_rfl
  have no : ∀ {s : String} {y : Str} {c : Nat} {l : List Nat}, toL (Str.ofString s) = c :: l → c ≠ 105 → (toL (Str.ofString "if ")).isPrefixOf (toL ((Str.ofString s) ++ y)) = false := by
    intro s y c l e hc
    rw [i3, toL_app, e]
    have : (105 == c) = false := by simp; omega
    simp [List.isPrefixOf, this]
  cases r with
  | draw x f => exact no (c := 100) (l := [114, 97, 119, 32]) (by kernel_rfl) (by decide)
  | put p => exact no (c := 112) (l := [117, 116, 32]) (by kernel_rfl) (by decide)
  | emp p => exact no (c := 101) (l := [109, 112, 116, 121, 32]) (by kernel_rfl) (by decide)
  | exch p q =>
    show (toL (Str.ofString "if ")).isPrefixOf (toL ((Str.ofString "exchange ") ++ its p ++ " " ++ its q)) = false
    rw [Str.append_assoc, Str.append_assoc]
    exact no (c := 101) (l := [120, 99, 104, 97, 110, 103, 101, 32]) (by kernel_rfl) (by decide)
  | ifs t b o =>
    show (toL (Str.ofString "if ")).isPrefixOf (toL ((Str.ofString "if ") ++ testT t)) = true
    rw [toL_app]
    exact List.isPrefixOf_iff_prefix.mpr (List.prefix_append _ _)
/-! ### a line: its blanks, its text -/
theorem strip_sp {k c : Nat} {s : Str} {l : List Nat} (h : toL s = c :: l) (hc : c ≠ 32) (st : Sto) (hl : (sp k ++ s).length ≤ sizeLine) : opLstripC (.str (sp k ++ s)) (.str (Str.ofString " ")) st = some (.str s, st) := by
  show (if decide ((sp k ++ s).length ≤ sizeLine) = true then some (D.str (Txt.lstripChars (sp k ++ s) (Str.ofString " ")), st) else none) = _
  rw [if_pos (decide_eq_true hl)]
  have e : Txt.lstripChars (sp k ++ s) (Str.ofString " ") = s := toL_inj (by
    rw [lstrip_eq, toL_app, toL_sp]
    have e2 : (Str.ofString " ").cps.contains = fun x => x == 32 := by
      funext x
      have : (Str.ofString " ").cps = #[32] := by kernel_rfl
      rw [this]
      simp [Array.contains]
    rw [e2]
    have : ∀ n, (List.replicate n 32 ++ toL s).dropWhile (fun x => x == 32) = toL s := by
      intro n
      induction n with
      | zero =>
        rw [List.replicate_zero, List.nil_append, h]
        have : (c == 32) = false := by simpa using hc
        simp [List.dropWhile, this]
      | succ n ih => rw [List.replicate_succ, List.cons_append]; simpa [List.dropWhile] using ih
    exact this k)
  rw [e]
theorem sp_len (k : Nat) : (sp k).length = k := by simp [Str.length, sp]
theorem ix_at {pre post : List Str} {x : Str} {n : Nat} (h : pre.length = n) (st : Sto) : opIx (.lst ((pre ++ x :: post).map .str)) (.int n) st = some (.str x, st) := by
  subst h
  have e : L2.ixN ((pre ++ x :: post).map D.str).length ((pre.length : Nat) : Int) = some pre.length := by
    unfold L2.ixN
    rw [if_pos (by omega), if_pos (by simp; omega)]
    simp
  have g : ((pre ++ x :: post).map D.str)[pre.length]? = some (.str x) := by
    rw [List.getElem?_map, List.getElem?_append_right (Nat.le_refl _)]
    simp
  show ((L2.atI ((pre ++ x :: post).map D.str) ((pre.length : Nat) : Int)).map fun d => (d, st)) = _
  unfold L2.atI
  rw [e]
  show ((((pre ++ x :: post).map D.str)[pre.length]?).map fun d => (d, st)) = _
  rw [g]
  rfl
theorem len_lst (xs : List D) (st : Sto) : opLen [.lst xs] st = some (.int xs.length, st) := rfl
theorem len_str {x : Str} (h : x.length ≤ sizeLine) (st : Sto) : opLen [.str x] st = some (.int x.length, st) := by
  simp [opLen, lenD, h]
/-- what follows some lines of k blanks -/
def Ends (k : Nat) (post : List Str) : Prop := post = [] ∨ ∃ j s c l r, post = (sp j ++ s) :: r ∧ toL s = c :: l ∧ c ≠ 32 ∧ j < k ∧ s.length ≤ 1000
/-- what follows an if without else -/
def Follow (k : Nat) (post : List Str) : Prop := post = [] ∨ ∃ j s c l r, post = (sp j ++ s) :: r ∧ toL s = c :: l ∧ c ≠ 32 ∧ s.length ≤ 1000 ∧ (j < k ∨ (j = k ∧ s ≠ elseT))
theorem Ends.follow {k : Nat} {post : List Str} (h : Ends k post) : Follow k post := by
  rcases h with h | ⟨j, s, c, l, r, h1, h2, h3, h4, h5⟩
  · exact .inl h
  · exact .inr ⟨j, s, c, l, r, h1, h2, h3, h5, .inl h4⟩
theorem linesR_head (k : Nat) (r : Row) : ∃ more, linesR k r = (sp k ++ rowT r) :: more := by
  cases r with
  | ifs t b o => exact ⟨_, by rw [linesR]⟩
  | _ => exact ⟨[], by simp [linesR]⟩
theorem follow_rows {k : Nat} {rs : List Row} {post : List Str} (h : RowsOk rs) (e : Ends k post) : Follow k (linesRs k rs ++ post) := by
  cases rs with
  | nil => rw [linesRs, List.nil_append]; exact e.follow
  | cons r rs =>
    rw [RowsOk] at h
    obtain ⟨more, hm⟩ := linesR_head k r
    have T := row_t h.1
    obtain ⟨c, l, h1, h2⟩ := T.head
    exact .inr ⟨k, rowT r, c, l, more ++ linesRs k rs ++ post, by rw [linesRs, hm]; simp, h1, h2, by have := T.len; omega, .inr ⟨rfl, T.noelse⟩⟩
theorem follow_ends {k : Nat} {post : List Str} (h : Follow k post) : Ends (k + 2) post := by
  rcases h with h | ⟨j, s, c, l, r, h1, h2, h3, h4, h5⟩
  · exact .inl h
  · exact .inr ⟨j, s, c, l, r, h1, h2, h3, by rcases h5 with h5 | ⟨h5, _⟩ <;> omega, h4⟩
end M
/-! SM5: the lines of rows are read back: blocks. -/
namespace M
open PySem PySem.W Builtin Builtin.Str
def blkCond : IT := (tBl (iBin opLt (iVar 1) (iN opLen (aCons (iVar 0) aNil))))
def blkBody (rb : Fn) : IS := (sSeq (sSet 7 (iM1 opLstripC (iBin opIx (iVar 0) (iVar 1)) (iC (.str " "))))
  (sSeq (sSet 8 (iBin opSub (iN opLen (aCons (iBin opIx (iVar 0) (iVar 1)) aNil)) (iN opLen (aCons (iVar 7) aNil))))
  (sSeq (sIf (tBl (iBin opLt (iVar 8) (iVar 2))) sBreak sNil)
  (sSeq (sIf (tBl (iBin opGt (iVar 8) (iVar 2))) (sRet (iC .non)) sNil)
  (sIf (tTru (iM1 opStarts (iVar 7) (iC (.str "if ")))) (sSeq (sSet 9 (iCall rb [] (aCons (iVar 0) (aCons (iVar 1) (aCons (iVar 2) (aCons (iVar 3) aNil))))))
  (sSeq (sIf (tBl (iBin (opIs false) (iVar 9) (iC .non))) (sRet (iC .non)) sNil)
  (sSeq (sAsg (gTup' 4 (gsVar 10 (gsVar 11 (gsVar 12 (gsVar 13 gsNil))))) (iVar 9))
  (sSeq (sExpr (iMl opAppend (iVar 6) (aCons (iN opTup (aCons (iC (.str "if")) (aCons (iVar 1) (aCons (iVar 10) (aCons (iVar 11) (aCons (iVar 12) aNil)))))) aNil)))
  (sSet 1 (iVar 13)))))) (sSeq (sSet 14 (iCallV [("line_in", p_line_in)] (iVar 4) (aCons (iVar 7) (aCons (iVar 1) aNil))))
  (sSeq (sIf (tBl (iBin (opIs false) (iVar 14) (iC .non))) (sRet (iC .non)) sNil)
  (sSeq (sExpr (iMl opAppend (iVar 6) (aCons (iVar 14) aNil)))
  (sSet 1 (iBin opAdd (iVar 1) (iC (.int 1))))))))))))
theorem blk_eq (r1 r2 : Fn) : B_p_block_in r1 r2 = sSeq (sAsg (gTup' 2 (gsVar 4 (gsVar 5 gsNil))) (iVar 3)) (sSeq (sSet 6 (iN opLst aNil)) (sSeq (sWhile (mLen 0) blkCond (blkBody r2)) (sRet (iN opTup (aCons (iN opTuple (aCons (iVar 6) aNil)) (aCons (iVar 1) aNil)))))) := rfl
abbrev rdD : D := .tup [.glo "line_in", .glo "test_in"]
abbrev EB (L : List Str) (n k : Nat) (g7 g8 g9 g10 g11 g12 g13 g14 : Option D) : Env := [some (.lst (L.map .str)), some (.int n), some (.int k), some rdD, some (.glo "line_in"), some (.glo "test_in"), some (.ref 0), g7, g8, g9, g10, g11, g12, g13, g14]
def BrOk (rb : Fn) (L : List Str) (k d : Nat) : Prop := ∀ (n : Nat) (t : Tst) (b o : List Row) (pre post : List Str) (st : Sto), L = pre ++ linesR k (.ifs t b o) ++ post → pre.length = n → RowOk (.ifs t b o) → dR (.ifs t b o) ≤ d → Follow k post →
  rb [.lst (L.map .str), .int n, .int k, rdD] st = .ok (.tup [encT t, .tup (encPs (n + 1) b), .tup (encPs (n + 1 + cnts b + 1) o), .int ((n + cnt (.ifs t b o) : Nat) : Int)]) st
theorem app0 {acc : List D} {d : D} (h : acc.length < 1000000) : opAppend (.ref 0) [d] [.lst acc] = some (.non, [.lst (acc ++ [d])]) := by
  have : acc.length < sizeLine := Nat.lt_of_lt_of_le h sizeLine_big
  simp [opAppend, lstAt, this]
theorem isL0 {acc : List D} : isL [.lst acc] (.ref 0) = true := rfl
theorem sWhileN_d {c : IT} {b : IS} {n : Nat} {env : Env} {st : Sto} : sWhileN c b (n + 1) env st = liftS (c env st) env fun k s => if k = true then kWhile b (sWhileN c b n) (b env s) else .nx env s := rfl
section
variable {rb : Fn} {L : List Str} {k d n : Nat} {g7 g8 g9 g10 g11 g12 g13 g14 : Option D}
/-- what stands in a line of j blanks -/
theorem line_at {pre r : List Str} {j c : Nat} {s : Str} {l : List Nat} (hL : L = pre ++ (sp j ++ s) :: r) (hn : pre.length = n) (hs : toL s = c :: l) (hc : c ≠ 32) (hj : j ≤ 1000) (hl : s.length ≤ 1000) :
    (∀ st, opIx (.lst (L.map .str)) (.int n) st = some (.str (sp j ++ s), st)) ∧ (∀ st, opLstripC (.str (sp j ++ s)) (.str (Str.ofString " ")) st = some (.str s, st)) ∧ (∀ st, opLen [.str (sp j ++ s)] st = some (.int ((j + s.length : Nat) : Int), st)) ∧ (∀ st, opLen [.str s] st = some (.int s.length, st)) ∧ n < L.length := by
  have big := sizeLine_big
  have len : (sp j ++ s).length = j + s.length := by rw [len_app, sp_len]
  refine ⟨fun st => by rw [hL]; exact ix_at hn st, fun st => strip_sp hs hc st (by omega), fun st => by rw [len_str (by omega), len], fun st => len_str (by omega) st, by rw [hL]; simp; omega⟩
theorem step_end {pre r : List Str} {j c : Nat} {s : Str} {l : List Nat} (hL : L = pre ++ (sp j ++ s) :: r) (hn : pre.length = n) (hs : toL s = c :: l) (hc : c ≠ 32) (hj : j < k) (hk : k ≤ 1000) (hl : s.length ≤ 1000) (st : Sto) :
    ∃ g7' g8', blkBody rb (EB L n k g7 g8 g9 g10 g11 g12 g13 g14) st = .bk (EB L n k g7' g8' g9 g10 g11 g12 g13 g14) st := by
  obtain ⟨a1, a2, a3, a4, _⟩ := line_at hL hn hs hc (by omega) hl
  have a5 : ((j + s.length : Nat) : Int) - (s.length : Int) < (k : Int) := by omega
  refine ⟨some (.str s), some (.int (((j + s.length : Nat) : Int) - (s.length : Int))), ?_⟩
  simp [-Int.natCast_add, blkBody, a1, a2, a3, a4, opSub, opCmp, a5]
theorem step_row {pre r : List Str} {r0 : Row} {acc : List D} (hL : L = pre ++ (sp k ++ rowT r0) :: r) (hn : pre.length = n) (h : RowOk r0) (hi : notIf r0 = true) (hk : k ≤ 1000) (ha : acc.length < 1000000) :
    ∃ g7' g8' g14', blkBody rb (EB L n k g7 g8 g9 g10 g11 g12 g13 g14) [.lst acc] = .nx (EB L (n + 1) k g7' g8' g9 g10 g11 g12 g13 g14') [.lst (acc ++ [encP n r0])] := by
  have T := row_t h
  obtain ⟨c, l, hs, hc⟩ := T.head
  have hl := T.len
  obtain ⟨a1, a2, a3, a4, _⟩ := line_at hL hn hs hc hk (by omega)
  have a5 : ((k + (rowT r0).length : Nat) : Int) - ((rowT r0).length : Int) = (k : Int) := by omega
  have a6 := starts_if h
  rw [hi] at a6
  have a7 : D.isNon (encP n r0) = false := by cases r0 <;> first | rfl | cases hi
  refine ⟨some (.str (rowT r0)), some (.int k), some (encP n r0), ?_⟩
  simp [-Int.natCast_add, blkBody, a1, a2, a3, a4, opSub, opCmp, a5, op_starts, a6, line_ok h hi, a7, app0 ha, isL0, opAdd]
  omega
theorem step_if {pre post : List Str} {t : Tst} {b o : List Row} {acc : List D} (hb : BrOk rb L k d) (hL : L = pre ++ linesR k (.ifs t b o) ++ post) (hn : pre.length = n) (h : RowOk (.ifs t b o)) (hd : dR (.ifs t b o) ≤ d) (hf : Follow k post) (hk : k ≤ 1000) (ha : acc.length < 1000000) :
    ∃ g7' g8' g9' g10' g11' g12' g13', blkBody rb (EB L n k g7 g8 g9 g10 g11 g12 g13 g14) [.lst acc] = .nx (EB L (n + cnt (.ifs t b o)) k g7' g8' g9' g10' g11' g12' g13' g14) [.lst (acc ++ [encP n (.ifs t b o)])] := by
  have T := row_t h
  obtain ⟨c, l, hs, hc⟩ := T.head
  have hl := T.len
  obtain ⟨more, hm⟩ := linesR_head k (.ifs t b o)
  have hL2 : L = pre ++ (sp k ++ rowT (.ifs t b o)) :: (more ++ post) := by rw [hL, hm]; simp
  obtain ⟨a1, a2, a3, a4, _⟩ := line_at hL2 hn hs hc hk (by omega)
  have a5 : ((k + (rowT (.ifs t b o)).length : Nat) : Int) - ((rowT (.ifs t b o)).length : Int) = (k : Int) := by omega
  have a6 := starts_if h
  have a8 := hb n t b o pre post
  have a9 : ∀ st, rb [.lst (L.map .str), .int n, .int k, rdD] st = .ok (.tup [encT t, .tup (encPs (n + 1) b), .tup (encPs (n + 1 + cnts b + 1) o), .int ((n + cnt (.ifs t b o) : Nat) : Int)]) st := fun st => a8 st hL hn h hd hf
  refine ⟨some (.str (rowT (.ifs t b o))), some (.int k), some (.tup [encT t, .tup (encPs (n + 1) b), .tup (encPs (n + 1 + cnts b + 1) o), .int ((n + cnt (.ifs t b o) : Nat) : Int)]), some (encT t), some (.tup (encPs (n + 1) b)), some (.tup (encPs (n + 1 + cnts b + 1) o)), some (.int ((n + cnt (.ifs t b o) : Nat) : Int)), ?_⟩
  simp [-Int.natCast_add, blkBody, a1, a2, a3, a4, opSub, opCmp, a5, op_starts, a6, notIf, a9, app0 ha, isL0, encP]
theorem loop_ok (hk : k ≤ 1000) (hb : BrOk rb L k d) : ∀ (rs : List Row) (N n : Nat) (acc : List D) (pre post : List Str) (g7 g8 g9 g10 g11 g12 g13 g14 : Option D), L = pre ++ linesRs k rs ++ post → pre.length = n → RowsOk rs → dRs rs ≤ d → Ends k post → acc.length + rs.length ≤ 100000 → rs.length < N →
    ∃ g7' g8' g9' g10' g11' g12' g13' g14', sWhileN blkCond (blkBody rb) N (EB L n k g7 g8 g9 g10 g11 g12 g13 g14) [.lst acc] = .nx (EB L (n + cnts rs) k g7' g8' g9' g10' g11' g12' g13' g14') [.lst (acc ++ encPs n rs)]
  | _, 0, _, _, _, _, _, _, _, _, _, _, _, _, _, _, _, _, _, _, h => absurd h (Nat.not_lt_zero _)
  | [], N + 1, n, acc, pre, post, g7, g8, g9, g10, g11, g12, g13, g14, hL, hn, h1, h2, h3, h4, h5 => by
    rw [linesRs, List.append_nil] at hL
    rcases h3 with rfl | ⟨j, s, c, l, r, rfl, hs, hc, hj, hl⟩
    · have hl : L.length = n := by rw [hL]; simpa using hn
      refine ⟨g7, g8, g9, g10, g11, g12, g13, g14, ?_⟩
      simp [sWhileN, blkCond, opLen, lenD, aseq, opCmp, hl, cnts, encPs]
    · obtain ⟨g7', g8', e⟩ := step_end (rb := rb) (g7 := g7) (g8 := g8) (g9 := g9) (g10 := g10) (g11 := g11) (g12 := g12) (g13 := g13) (g14 := g14) hL hn hs hc hj hk hl [.lst acc]
      have hlt : (n : Int) < (L.length : Int) := by have := (line_at hL hn hs hc (by omega) hl).2.2.2.2; omega
      refine ⟨g7', g8', g9, g10, g11, g12, g13, g14, ?_⟩
      have ec : blkCond (EB L n k g7 g8 g9 g10 g11 g12 g13 g14) [.lst acc] = .ok true [.lst acc] := by simp [blkCond, opLen, lenD, aseq, opCmp, hlt]
      rw [sWhileN_d, ec]
      show kWhile (blkBody rb) _ (blkBody rb (EB L n k g7 g8 g9 g10 g11 g12 g13 g14) [.lst acc]) = _
      rw [e, cnts, encPs, List.append_nil]
      rfl
  | r :: rs, N + 1, n, acc, pre, post, g7, g8, g9, g10, g11, g12, g13, g14, hL, hn, h1, h2, h3, h4, h5 => by
    rw [RowsOk] at h1
    rw [dRs] at h2
    rw [List.length_cons] at h4 h5
    have hL0 : L = pre ++ linesR k r ++ (linesRs k rs ++ post) := by rw [hL, linesRs]; simp
    have hlt : (n : Int) < (L.length : Int) := by
      obtain ⟨more, hm⟩ := linesR_head k r
      rw [hL0, hm]; simp; omega
    have ec : blkCond (EB L n k g7 g8 g9 g10 g11 g12 g13 g14) [.lst acc] = .ok true [.lst acc] := by simp [blkCond, opLen, lenD, aseq, opCmp, hlt]
    have step : ∃ g7' g8' g9' g10' g11' g12' g13' g14', blkBody rb (EB L n k g7 g8 g9 g10 g11 g12 g13 g14) [.lst acc] = .nx (EB L (n + cnt r) k g7' g8' g9' g10' g11' g12' g13' g14') [.lst (acc ++ [encP n r])] := by
      cases hi : notIf r with
      | true =>
        have e1 : linesR k r = [sp k ++ rowT r] := by cases r <;> first | (simp [linesR]; done) | cases hi
        have e2 : cnt r = 1 := by cases r <;> first | (simp [cnt]; done) | cases hi
        obtain ⟨a, b, c, e⟩ := step_row (rb := rb) (L := L) (n := n) (k := k) (g7 := g7) (g8 := g8) (g9 := g9) (g10 := g10) (g11 := g11) (g12 := g12) (g13 := g13) (g14 := g14) (acc := acc) (pre := pre) (r := linesRs k rs ++ post) (r0 := r) (by rw [hL0, e1]; simp) hn h1.1 hi hk (by omega)
        exact ⟨_, _, _, _, _, _, _, _, by rw [e2]; exact e⟩
      | false =>
        cases r with
        | ifs t b o =>
          obtain ⟨a, b', c, d', e', f, g, e⟩ := step_if (g7 := g7) (g8 := g8) (g9 := g9) (g10 := g10) (g11 := g11) (g12 := g12) (g13 := g13) (g14 := g14) (acc := acc) hb hL0 hn h1.1 (by omega) (follow_rows h1.2 h3) hk (by omega)
          exact ⟨_, _, _, _, _, _, _, _, e⟩
        | _ => cases hi
    obtain ⟨a7, a8, a9, a10, a11, a12, a13, a14, e⟩ := step
    obtain ⟨c7, c8, c9, c10, c11, c12, c13, c14, e2⟩ := loop_ok hk hb rs N (n + cnt r) (acc ++ [encP n r]) (pre ++ linesR k r) post a7 a8 a9 a10 a11 a12 a13 a14 (by rw [hL0]; simp) (by rw [List.length_append, lines_len, hn]) h1.2 (by omega) h3 (by simp; omega) (by omega)
    refine ⟨c7, c8, c9, c10, c11, c12, c13, c14, ?_⟩
    rw [sWhileN_d, ec]
    show kWhile (blkBody rb) _ (blkBody rb (EB L n k g7 g8 g9 g10 g11 g12 g13 g14) [.lst acc]) = _
    rw [e]
    show sWhileN blkCond (blkBody rb) N (EB L (n + cnt r) k a7 a8 a9 a10 a11 a12 a13 a14) [.lst (acc ++ [encP n r])] = _
    rw [e2, cnts, encPs, Nat.add_assoc]
    simp
end
/-! ### blocks and branches -/
def BlOk (bl : Fn) (L : List Str) (k d : Nat) : Prop := ∀ (n : Nat) (rs : List Row) (pre post : List Str) (st : Sto), L = pre ++ linesRs k rs ++ post → pre.length = n → RowsOk rs → dRs rs ≤ d → Ends k post →
  bl [.lst (L.map .str), .int n, .int k, rdD] st = .ok (.tup [.tup (encPs n rs), .int ((n + cnts rs : Nat) : Int)]) st
theorem noRefs_str (L : List Str) : noRefs (L.map D.str) = true := by
  induction L with
  | nil => rfl
  | cons a l ih => rw [List.map_cons, noRefs, ih]; rfl
theorem frz_nil {n : Nat} {st : Sto} {d : D} (h : pd 60 d = true) : frz st 70 d = some d := pd_frz st (pd_mono (by decide) h)
theorem rows_le : ∀ rs : List Row, rs.length ≤ cnts rs
  | [] => Nat.zero_le _
  | r :: rs => by
    have := rows_le rs
    rw [cnts, List.length_cons]
    have : 1 ≤ cnt r := by cases r <;> simp [cnt] <;> omega
    omega
theorem block_of {r1 rb : Fn} {L : List Str} {k d : Nat} (hk : k ≤ 1000) (hd : d ≤ 20) (hl : L.length ≤ 100000) (hb : BrOk rb L k d) : BlOk (pureA (runB (B_p_block_in r1 rb) 15 4)) L k d := fun n rs pre post st hL hn h1 h2 h3 => by
  obtain ⟨g7, g8, g9, g10, g11, g12, g13, g14, e⟩ := loop_ok (rb := rb) hk hb rs (L.length + 1) n [] pre post none none none none none none none none hL hn h1 h2 h3 (by
    have := rows_le rs
    rw [← lines_lens k rs] at this
    rw [hL] at hl
    simp at hl ⊢
    omega) (by
    have := rows_le rs
    rw [← lines_lens k rs] at this
    rw [hL]; simp; omega)
  have body : runB (B_p_block_in r1 rb) 15 4 [.lst (L.map .str), .int n, .int k, rdD] [] = .ok (.tup [.tup (encPs n rs), .int ((n + cnts rs : Nat) : Int)]) [.lst (encPs n rs)] := by
    rw [blk_eq]
    have ml : mLen 0 (EB L n k none none none none none none none none) [.lst []] = L.length + 1 := by simp [mLen, aseq]
    simp only [List.nil_append] at e
    simp [-Int.natCast_add, -sWhile_d]
    have : sWhile (mLen 0) blkCond (blkBody rb) (EB L n k none none none none none none none none) [.lst []] = sWhileN blkCond (blkBody rb) (L.length + 1) (EB L n k none none none none none none none none) [.lst []] := by
      show sWhileN blkCond (blkBody rb) (mLen 0 (EB L n k none none none none none none none none) [.lst []]) _ _ = _
      rw [ml]
    rw [show ([some (D.lst (L.map D.str)), some (D.int n), some (D.int k), some rdD, some (D.glo "line_in"), some (D.glo "test_in"), some (D.ref 0), none, none, none, none, none, none, none, none] : Env) = EB L n k none none none none none none none none from rfl, this, e]
    simp [-Int.natCast_add, opTuple, alst, lstAt]
  have p1 := encPs_pd (k := n) 0 h1
  have fr : frz [.lst (encPs n rs)] 70 (.tup [.tup (encPs n rs), .int ((n + cnts rs : Nat) : Int)]) = some (.tup [.tup (encPs n rs), .int ((n + cnts rs : Nat) : Int)]) := by
    refine pd_frz _ ?_
    have := pds_mono (m := 68) (by omega) p1
    simp [pd, pds, this]
  have nr : noRefs [.lst (L.map .str), .int (n : Int), .int (k : Int), rdD] = true := by simp [noRefs, noRef, noRefs_str]
  unfold pureA
  rw [if_pos nr, body]
  show (match frz [.lst (encPs n rs)] 70 _ with
    | some d' => R.ok d' st
    | none => .bad) = _
  rw [fr]
theorem rep_sp (k : Nat) (h : k ≤ 1000) (st : Sto) : opMulT (.str (Str.ofString " ")) (.int k) st = some (.str (sp k), st) := by
  have l1 : (Str.ofString " ").length = 1 := by kernel_rfl
  have big := sizeLine_big
  show (if okS (Str.ofString " ") (k : Int) then some (D.str (repS (Str.ofString " ") (k : Int)), st) else none) = _
  rw [if_pos (by unfold okS; rw [l1]; omega)]
  have : repS (Str.ofString " ") (k : Int) = sp k := by
    have e : (Str.ofString " ").cps = #[32] := by kernel_rfl
    unfold repS sp
    rw [e, Int.toNat_natCast]
    congr 1
    have : ∀ (n : Nat) (b : Array Nat), (List.replicate n #[32]).foldl (· ++ ·) b = b ++ (List.replicate n 32).toArray := by
      intro n
      induction n with
      | zero => intro b; simp
      | succ n ih =>
        intro b
        rw [List.replicate_succ, List.foldl_cons, ih, List.replicate_succ]
        apply Array.ext'
        simp [List.replicate_succ]
    simpa using this k #[]
  rw [this]
theorem sp_inj {k j c c' : Nat} {s s' : Str} {l l' : List Nat} (hs : toL s = c :: l) (hc : c ≠ 32) (hs' : toL s' = c' :: l') (hc' : c' ≠ 32) (e : sp k ++ s = sp j ++ s') : k = j ∧ s = s' := by
  have e2 : List.replicate k 32 ++ toL s = List.replicate j 32 ++ toL s' := by rw [← toL_sp, ← toL_sp, ← toL_app, ← toL_app, e]
  have : k = j := by
    have d1 : ∀ (k c : Nat) (l : List Nat), c ≠ 32 → ((List.replicate k 32 ++ c :: l).takeWhile (fun x => x == 32)).length = k := by
      intro k c l hc
      have hb : (c == 32) = false := by simpa using hc
      induction k with
      | zero => rw [List.replicate_zero, List.nil_append, List.takeWhile, hb]; rfl
      | succ k ih => rw [List.replicate_succ, List.cons_append, List.takeWhile]; simpa using ih
    have a := d1 k c l hc
    have b := d1 j c' l' hc'
    rw [← hs, e2, hs'] at a
    omega
  subst this
  exact ⟨rfl, toL_inj (List.append_cancel_left e2)⟩
theorem branch_of {bl r2 : Fn} {L : List Str} {k d : Nat} (hk : k ≤ 900) (hd : d ≤ 20) (hb : BlOk bl L (k + 2) d) : BrOk (runB (B_p_branches_in bl r2) 8 4) L k (d + 1) := fun n t b o pre post st hL hn h1 h2 h3 => by
  have big := sizeLine_big
  rw [RowOk] at h1
  obtain ⟨ht, hbn, hbo, hoo⟩ := h1
  rw [dR] at h2
  rw [linesR] at hL
  obtain ⟨t1, t2⟩ := test_low ht
  have l1 : (Str.ofString "if ").length = 3 := by kernel_rfl
  have l4 : (Str.ofString "else").length = 4 := by kernel_rfl
  have row : rowT (.ifs t b o) = (Str.ofString "if ") ++ testT t := rfl
  -- the test
  have i1 : ∀ st, opIx (.lst (L.map .str)) (.int n) st = some (.str (sp k ++ rowT (.ifs t b o)), st) := fun st => by
    rw [hL, List.append_assoc, List.cons_append]; exact ix_at hn st
  have i2 : ∀ st, opSl (.str (sp k ++ rowT (.ifs t b o))) (some ((k : Int) + 3)) none st = some (.str (testT t), st) := fun st => by
    have := sl_from (z := sp k ++ rowT (.ifs t b o)) (r := testT t) (a := toL (sp k) ++ toL (Str.ofString "if ")) (k := k + 3) st (by rw [row]; simp only [len_app, sp_len]; omega) (by rw [row, toL_app, toL_app, List.append_assoc]) (by rw [List.length_append, ← len_toL, ← len_toL, sp_len, l1])
    simpa using this
  have i3 : ∀ st, p_test_in [.str (testT t)] st = .ok (encT t) st := fun st => test_in_ok ht st
  have pb := encPs_pd (k := n + 1) 0 hbo
  have po := encPs_pd (k := n + 1 + cnts b + 1) 0 hoo
  have pb2 : ∀ st, opEq false (.tup (encPs (n + 1) b)) (.tup []) st = some (.bl false, st) := fun st => by
    rw [eq_nil (pds_mono (by omega) pb), encPs_nil]
    cases b with
    | nil => exact absurd rfl hbn
    | cons a l => rfl
  have tn : (encT t).isNon = false := by cases t <;> rfl
  have ix0 : ∀ (x y : D) st, opIx (.tup [x, y]) (.int 0) st = some (x, st) := fun x y st => by simp [opIx, aseq, L2.atI, L2.ixN]
  have ix1 : ∀ (x y : D) st, opIx (.tup [x, y]) (.int 1) st = some (y, st) := fun x y st => by simp [opIx, aseq, L2.atI, L2.ixN]
  cases o with
  | nil =>
    simp only [List.isEmpty_nil, if_true, List.append_nil] at hL
    have hL2 : L = (pre ++ [sp k ++ rowT (.ifs t b [])]) ++ linesRs (k + 2) b ++ post := by rw [hL]; simp
    have c1 := hb (n + 1) b (pre ++ [sp k ++ rowT (.ifs t b [])]) post
    have c2 : ∀ st, bl [.lst (L.map .str), .int ((n : Int) + 1), .int ((k : Int) + 2), rdD] st = .ok (.tup [.tup (encPs (n + 1) b), .int ((n + 1 + cnts b : Nat) : Int)]) st := fun st => by
      have := c1 st hL2 (by simp; omega) hbo (by omega) (follow_ends h3)
      simpa using this
    have len : L.length = n + 1 + cnts b + post.length := by rw [hL2]; simp [lines_lens, hn]; omega
    have cn : n + cnt (.ifs t b []) = n + 1 + cnts b := by rw [cnt]; simp; omega
    rw [cn]
    rcases h3 with rfl | ⟨j, s, c, l, r, rfl, hs, hc, hl, hj⟩
    · have ge : (L.length : Int) ≤ ((n + 1 + cnts b : Nat) : Int) := by simp at len; omega
      simp [-Int.natCast_add, B_p_branches_in, i1, i2, opAdd, i3, c2, tn, ix0, ix1, pb2, len_lst, opCmp, ge, encPs]
    · have nge : ¬ (L.length : Int) ≤ ((n + 1 + cnts b : Nat) : Int) := by simp at len; omega
      have i4 : ∀ st, opIx (.lst (L.map .str)) (.int ((n + 1 + cnts b : Nat) : Int)) st = some (.str (sp j ++ s), st) := fun st => by
        rw [hL2]; exact ix_at (by simp [lines_lens, hn]; omega) st
      have i5 : sp j ++ s ≠ sp k ++ (Str.ofString "else") := fun e => by
        obtain ⟨e1, e2⟩ := sp_inj (c' := 101) (l' := [108, 115, 101]) hs hc (by kernel_rfl) (by decide) e
        rcases hj with hj | ⟨_, hj⟩
        · omega
        · exact hj e2
      have i6 : (sp k).length + (Str.ofString "else").length ≤ sizeLine := by rw [sp_len, l4]; omega
      simp [-Int.natCast_add, B_p_branches_in, i1, i2, opAdd, i3, c2, tn, ix0, ix1, pb2, len_lst, opCmp, nge, encPs, i4, rep_sp k (by omega), i6, ne_str, i5]
  | cons a as =>
    simp only [List.isEmpty_cons, if_neg Bool.false_ne_true] at hL
    have hL2 : L = (pre ++ [sp k ++ rowT (.ifs t b (a :: as))]) ++ linesRs (k + 2) b ++ ((sp k ++ elseT) :: (linesRs (k + 2) (a :: as) ++ post)) := by rw [hL]; simp
    have hL3 : L = (pre ++ [sp k ++ rowT (.ifs t b (a :: as))] ++ linesRs (k + 2) b ++ [sp k ++ elseT]) ++ linesRs (k + 2) (a :: as) ++ post := by rw [hL]; simp
    have c2 : ∀ st, bl [.lst (L.map .str), .int ((n : Int) + 1), .int ((k : Int) + 2), rdD] st = .ok (.tup [.tup (encPs (n + 1) b), .int ((n + 1 + cnts b : Nat) : Int)]) st := fun st => by
      have := hb (n + 1) b (pre ++ [sp k ++ rowT (.ifs t b (a :: as))]) _ st hL2 (by simp; omega) hbo (by omega) (.inr ⟨k, elseT, 101, [108, 115, 101], _, rfl, by kernel_rfl, by decide, by omega, by show (Str.ofString "else").length ≤ 1000; omega⟩)
      simpa using this
    have c3 : ∀ st, bl [.lst (L.map .str), .int (((n + 1 + cnts b : Nat) : Int) + 1), .int ((k : Int) + 2), rdD] st = .ok (.tup [.tup (encPs (n + 1 + cnts b + 1) (a :: as)), .int ((n + 1 + cnts b + 1 + cnts (a :: as) : Nat) : Int)]) st := fun st => by
      have := hb (n + 1 + cnts b + 1) (a :: as) _ post st hL3 (by simp [lines_lens, hn]; omega) hoo (by omega) (follow_ends h3)
      simpa using this
    have nge : ¬ (L.length : Int) ≤ ((n + 1 + cnts b : Nat) : Int) := by
      rw [hL2]; simp [lines_lens, hn]; omega
    have i4 : ∀ st, opIx (.lst (L.map .str)) (.int ((n + 1 + cnts b : Nat) : Int)) st = some (.str (sp k ++ (Str.ofString "else")), st) := fun st => by
      rw [hL2]; exact ix_at (x := sp k ++ elseT) (by simp [lines_lens, hn]; omega) st
    have i6 : (sp k).length + (Str.ofString "else").length ≤ sizeLine := by rw [sp_len, l4]; omega
    have po2 : ∀ st, opEq false (.tup (encPs (n + 1 + cnts b + 1) (a :: as))) (.tup []) st = some (.bl false, st) := fun st => by
      rw [eq_nil (pds_mono (by omega) po), encPs_nil]; rfl
    have cn : n + cnt (.ifs t b (a :: as)) = n + 1 + cnts b + 1 + cnts (a :: as) := by rw [cnt]; simp; omega
    rw [cn]
    simp [-Int.natCast_add, B_p_branches_in, i1, i2, opAdd, i3, c2, c3, tn, ix0, ix1, pb2, po2, len_lst, opCmp, nge, i4, rep_sp k (by omega), i6, ne_str]
theorem blocks_ok {L : List Str} (hl : L.length ≤ 100000) : ∀ (d k m : Nat), d ≤ 20 → k + 2 * d ≤ 900 → 2 * d + 1 ≤ m → BlOk (p_block_in m) L k d
  | 0, k, 0, _, _, hm => by omega
  | 0, k, m + 1, hd, hk, hm => block_of (r1 := (grp_p_block_in m).1) (rb := (grp_p_block_in m).2) (by omega) hd hl fun n t b o pre post st _ _ _ h _ => by rw [dR] at h; omega
  | d + 1, k, 0, _, _, hm => by omega
  | d + 1, k, 1, _, _, hm => by omega
  | d + 1, k, m + 2, hd, hk, hm => block_of (r1 := (grp_p_block_in (m + 1)).1) (rb := (grp_p_block_in (m + 1)).2) (by omega) hd hl (branch_of (bl := p_block_in m) (r2 := (grp_p_block_in m).2) (by omega) (by omega) (blocks_ok hl d (k + 2) m (by omega) (by omega) (by omega)))
end M
/-! SM6: a sampler's text is read back. -/
namespace M
open PySem PySem.W Builtin Builtin.Str
def placesT (c : Int) : Str := (Str.ofString "places ") ++ its c
def samplerLs (c : Int) (rs : List Row) : List Str := placesT c :: linesRs 0 rs
def samplerT (c : Int) (rs : List Row) : Str := Txt.join (Str.ofString "\n") (samplerLs c rs)
def lineOk (x : Str) : Prop := lowS x ∧ x.length ≤ 1000
theorem low_sp (k : Nat) : lowS (sp k) := fun c hc => by
  rw [toL_sp] at hc
  have := (List.mem_replicate.mp hc).2
  omega
mutual
theorem linesR_ok : ∀ {r : Row} {k : Nat}, RowOk r → k + 2 * dR r ≤ 900 → ∀ x ∈ linesR k r, lineOk x
  | .draw x f, k, h, hk, y, hy => by
    have T := row_t h
    have e : y = sp k ++ rowT (.draw x f) := by simpa [linesR] using hy
    subst e
    exact ⟨low_app (low_sp k) T.low, by have := T.len; simp only [len_app, sp_len]; omega⟩
  | .put p, k, h, hk, y, hy => by
    have T := row_t h
    have e : y = sp k ++ rowT (.put p) := by simpa [linesR] using hy
    subst e
    exact ⟨low_app (low_sp k) T.low, by have := T.len; simp only [len_app, sp_len]; omega⟩
  | .emp p, k, h, hk, y, hy => by
    have T := row_t h
    have e : y = sp k ++ rowT (.emp p) := by simpa [linesR] using hy
    subst e
    exact ⟨low_app (low_sp k) T.low, by have := T.len; simp only [len_app, sp_len]; omega⟩
  | .exch p q, k, h, hk, y, hy => by
    have T := row_t h
    have e : y = sp k ++ rowT (.exch p q) := by simpa [linesR] using hy
    subst e
    exact ⟨low_app (low_sp k) T.low, by have := T.len; simp only [len_app, sp_len]; omega⟩
  | .ifs t b o, k, h, hk, y, hy => by
    have T := row_t h
    rw [RowOk] at h
    rw [dR] at hk
    rw [linesR, List.mem_cons, List.mem_append] at hy
    rcases hy with e | hy | hy
    · subst e
      exact ⟨low_app (low_sp k) T.low, by have := T.len; simp only [len_app, sp_len]; omega⟩
    · exact linesRs_ok h.2.2.1 (by omega) y hy
    · cases o with
      | nil => simp at hy
      | cons a l =>
        simp only [List.isEmpty_cons, if_neg Bool.false_ne_true, List.mem_cons] at hy
        rcases hy with e | hy
        · subst e
          exact ⟨low_app (low_sp k) (low_lit (by decide +kernel)), by
            have : elseT.length = 4 := by kernel_rfl
            simp only [len_app, sp_len]; omega⟩
        · exact linesRs_ok h.2.2.2 (by omega) y hy
theorem linesRs_ok : ∀ {rs : List Row} {k : Nat}, RowsOk rs → k + 2 * dRs rs ≤ 900 → ∀ x ∈ linesRs k rs, lineOk x
  | [], k, _, _, y, hy => by simp [linesRs] at hy
  | r :: rs, k, h, hk, y, hy => by
    rw [RowsOk] at h
    rw [dRs] at hk
    rw [linesRs, List.mem_append] at hy
    rcases hy with hy | hy
    · exact linesR_ok h.1 (by omega) y hy
    · exact linesRs_ok h.2 (by omega) y hy
end
theorem three_digit {c : Int} (h : c ∈ threes) : c ∈ digits10 := by
  simp only [threes, List.mem_cons, List.not_mem_nil, or_false] at h
  rcases h with rfl | rfl | rfl <;> decide
theorem places_ok {c : Int} (h : c ∈ threes) : lineOk (placesT c) := by
  have l1 : (Str.ofString "places ").length = 7 := by kernel_rfl
  have l2 := digit_len c (three_digit h)
  exact ⟨low_app (low_lit (by decide +kernel)) (its_low10 c (three_digit h)), by unfold placesT; rw [len_app]; omega⟩
theorem sum_le {ys : List Str} (h : ∀ y ∈ ys, y.length ≤ 1000) : (ys.map (·.length)).sum ≤ ys.length * 1000 := StrLaws.sumLen_le ys h
theorem sampler_len {c : Int} {rs : List Row} (hc : c ∈ threes) (h : RowsOk rs) (hd : dRs rs ≤ 20) (hn : cnts rs ≤ 5000) : (samplerLs c rs).length ≤ 5001 ∧ (∀ y ∈ samplerLs c rs, lineOk y) ∧ ((samplerLs c rs).map (·.length)).sum ≤ (samplerLs c rs).length * 1000 := by
  have a : ∀ y ∈ samplerLs c rs, lineOk y := fun y hy => by
    rcases List.mem_cons.mp hy with e | hy
    · rw [e]; exact places_ok hc
    · exact linesRs_ok h (by omega) y hy
  exact ⟨by unfold samplerLs; rw [List.length_cons, lines_lens]; omega, a, sum_le fun y hy => (a y hy).2⟩
theorem sampler_split {c : Int} {rs : List Row} (hc : c ∈ threes) (h : RowsOk rs) (hd : dRs rs ≤ 20) (hn : cnts rs ≤ 5000) (st : Sto) : opSplit (.str (samplerT c rs)) (.str (Str.ofString "\n")) st = some (.lst ((samplerLs c rs).map .str), st) := by
  obtain ⟨h1, h2, h3⟩ := sampler_len hc h hd hn
  have e : Str.ofString "\n" = ⟨#[10]⟩ := by kernel_rfl
  have l : (samplerT c rs).length + 2 ≤ sizeLine := by
    have z := StrLaws.join_length_le (Str.ofString "\n") (samplerLs c rs)
    rw [← StrLaws.glued_eq_join] at z
    have l1 : (Str.ofString "\n").length = 1 := by kernel_rfl
    rw [l1] at z
    have z2 : (samplerT c rs).length ≤ _ := z
    have : 10000000 ≤ sizeLine := by decide
    omega
  show (if ((Str.ofString "\n").length == 0) = false ∧ (samplerT c rs).length + 2 ≤ sizeLine then some (D.lst ((Txt.split (samplerT c rs) (Str.ofString "\n")).map .str), st) else none) = _
  rw [if_pos ⟨by kernel_rfl, l⟩]
  have sj : Txt.split (samplerT c rs) (Str.ofString "\n") = samplerLs c rs := by
    unfold samplerT
    rw [e]
    refine split_join (by unfold samplerLs; exact List.cons_ne_nil _ _) fun y hy m => ?_
    have := (h2 y hy).1 10 m
    omega
  rw [sj]
theorem sampler_in_ok {c : Int} {rs : List Row} (hc : c ∈ threes) (h : RowsOk rs) (hd : dRs rs ≤ 5) (hn : cnts rs ≤ 5000) (st : Sto) : p_sampler_in [.str (samplerT c rs)] st = .ok (.tup [.int c, .tup (encPs 1 rs)]) st := by
  have big := sizeLine_big
  have l7 : (Str.ofString "places ").length = 7 := by kernel_rfl
  have hp := places_ok hc
  have e1 : ∀ st, opIx (.lst ((samplerLs c rs).map .str)) (.int 0) st = some (.str (placesT c), st) := fun st => ix_at (pre := []) (n := 0) rfl st
  have e2 : ∀ st, opSl (.str (placesT c)) (some 7) none st = some (.str (its c), st) := fun st => sl_from (k := 7) st (by have := hp.2; omega) (by unfold placesT; rw [toL_app]) (by rw [← len_toL, l7])
  have e3 : (toL (Str.ofString "places ")).isPrefixOf (toL (placesT c)) = true := by
    unfold placesT
    rw [toL_app]
    exact List.isPrefixOf_iff_prefix.mpr (List.prefix_append _ _)
  have e4 : ∀ st, p_block_in 12 [.lst ((samplerLs c rs).map .str), .int 1, .int 0, rdD] st = .ok (.tup [.tup (encPs 1 rs), .int ((1 + cnts rs : Nat) : Int)]) st := fun st => by
    have := blocks_ok (L := samplerLs c rs) (by have := (sampler_len hc h (by omega) hn).1; omega) 5 0 12 (by omega) (by omega) (by omega) 1 rs [placesT c] [] st (by simp [samplerLs]) rfl h hd (.inl rfl)
    simpa using this
  have ix0 : ∀ (x y : D) st, opIx (.tup [x, y]) (.int 0) st = some (x, st) := fun x y st => by simp [opIx, aseq, L2.atI, L2.ixN]
  simp [p_sampler_in, B_p_sampler_in, sampler_split hc h (by omega) hn, e1, e2, op_starts, e3, places_in3 _ c hc, e4, ix0]
end M
/-! SM7: what is asked of the statements read: all of them, ifs inside one another, draws on a way. -/
namespace M
open PySem PySem.W Builtin Builtin.Str
/-! ### loops over lists that are images -/
theorem forL_map {α : Type} {g : IG} {b : IS} {l : List α} {F : α → D} (P : List α → Env → Sto → Prop)
    (step : ∀ a r env st, a ∈ l → P (a :: r) env st → ∃ e1 s1, g (F a) env st = .ok e1 s1 ∧ ∃ e2 s2, (b e1 s1 = .nx e2 s2 ∨ b e1 s1 = .ct e2 s2) ∧ P r e2 s2) :
    ∀ (m i : Nat) (env : Env) (st : Sto), l.length ≤ i + m → i ≤ l.length → P (l.drop i) env st → ∃ e2 s2, forL (nxL (l.map F)) g b m i env st = .nx e2 s2 ∧ P [] e2 s2
  | 0, i, env, st, h1, h2, h => by
    have e : l.drop i = [] := List.drop_of_length_le (by omega)
    rw [e] at h
    exact ⟨env, st, by unfold forL nxL; rw [List.getElem?_eq_none (by simp; omega)], h⟩
  | m + 1, i, env, st, h1, h2, h => by
    unfold forL nxL
    by_cases hi : i < l.length
    · rw [List.getElem?_map, List.getElem?_eq_getElem hi]
      rw [List.drop_eq_getElem_cons hi] at h
      obtain ⟨e1, s1, q1, e2, s2, q2, q3⟩ := step _ _ env st (List.getElem_mem hi) h
      obtain ⟨e3, s3, q4, q5⟩ := forL_map P step m (i + 1) e2 s2 (by omega) (by omega) q3
      refine ⟨e3, s3, ?_, q5⟩
      show liftS (g (F l[i]) env st) env (fun env1 s1 => kWhile b (forL (nxL (l.map F)) g b m (i + 1)) (b env1 s1)) = _
      rw [q1]
      show kWhile b (forL (nxL (l.map F)) g b m (i + 1)) (b e1 s1) = _
      rcases q2 with q2 | q2
      · rw [q2]; exact q4
      · rw [q2]; exact q4
    · have e : l.drop i = [] := List.drop_of_length_le (by omega)
      rw [e] at h
      rw [List.getElem?_eq_none (by simp; omega)]
      exact ⟨env, st, rfl, h⟩
theorem compF_map2 {α : Type} {nx : Nx} {p : Pat} {t : IT} {e : IE} {env0 : Env} {st : Sto} {l : List α} {F : α → D} (c : α → Bool) (f : α → D) (hn : ∀ i st, nx i st = some (l.map F)[i]?)
    (h : ∀ a ∈ l, ∃ env, p.bind (F a) env0 = some env ∧ t env st = .ok (c a) st ∧ (c a = true → e env st = .ok (f a) st)) :
    ∀ (m i : Nat) (acc : List D), l.length ≤ i + m → acc.length + l.length ≤ sizeLine + i → compF nx p t e env0 m i acc st = .ok (acc ++ ((l.drop i).filter c).map f) st
  | 0, i, acc, hl, _ => by
    unfold compF
    rw [hn, List.getElem?_eq_none (by simp; omega), List.drop_of_length_le (by omega)]
    simp
  | m + 1, i, acc, hl, hz => by
    unfold compF
    rw [hn]
    by_cases hi : i < l.length
    · rw [List.getElem?_map, List.getElem?_eq_getElem hi]
      obtain ⟨env, h1, h2, h3⟩ := h _ (List.getElem_mem hi)
      show (match p.bind (F l[i]) env0 with
        | some env => ((t env st).nox).bind fun k s1 => if k = true then ((e env s1).nox).bind fun v s2 => if acc.length < sizeLine then compF nx p t e env0 m (i + 1) (acc ++ [v]) s2 else .bad else compF nx p t e env0 m (i + 1) acc s1
        | none => .bad) = _
      rw [h1]
      show ((t env st).nox).bind (fun k s1 => if k = true then ((e env s1).nox).bind fun v s2 => if acc.length < sizeLine then compF nx p t e env0 m (i + 1) (acc ++ [v]) s2 else .bad else compF nx p t e env0 m (i + 1) acc s1) = _
      rw [h2, List.drop_eq_getElem_cons hi]
      cases hc : c l[i] with
      | false =>
        show compF nx p t e env0 m (i + 1) acc st = _
        rw [compF_map2 c f hn h m (i + 1) acc (by omega) (by omega), List.filter_cons_of_neg (by simp [hc])]
      | true =>
        show ((e env st).nox).bind (fun v s2 => if acc.length < sizeLine then compF nx p t e env0 m (i + 1) (acc ++ [v]) s2 else .bad) = _
        rw [h3 hc]
        show (if acc.length < sizeLine then compF nx p t e env0 m (i + 1) (acc ++ [f l[i]]) st else .bad) = _
        rw [if_pos (by omega), compF_map2 c f hn h m (i + 1) (acc ++ [f l[i]]) (by omega) (by simp; omega), List.filter_cons_of_pos hc]
        simp
    · rw [List.getElem?_eq_none (by simp; omega), List.drop_of_length_le (by omega)]
      simp
theorem compF_rows {α : Type} {p : Pat} {t : IT} {e : IE} {env0 : Env} {st : Sto} {l : List α} {F : α → D} (c : α → Bool) (f : α → D) (hl : l.length ≤ 100000)
    (h : ∀ a ∈ l, ∃ env, p.bind (F a) env0 = some env ∧ t env st = .ok (c a) st ∧ (c a = true → e env st = .ok (f a) st)) :
    compF (nxL (l.map F)) p t e env0 (l.map F).length 0 [] st = .ok ((l.filter c).map f) st := by
  have := compF_map2 (nx := nxL (l.map F)) c f (fun _ _ => rfl) h (l.map F).length 0 [] (by simp) (by have := sizeLine_big; simp; omega)
  simpa using this
/-! ### rows with their lines -/
def numb (n : Nat) : List Row → List (Nat × Row)
  | [] => []
  | r :: rs => (n, r) :: numb (n + cnt r) rs
abbrev E2 (p : Nat × Row) : D := encP p.1 p.2
theorem enc_numb : ∀ (rs : List Row) (n : Nat), encPs n rs = (numb n rs).map E2
  | [], _ => by simp [encPs, numb]
  | r :: rs, n => by rw [encPs, numb, List.map_cons, enc_numb rs]
theorem numb_len : ∀ (rs : List Row) (n : Nat), (numb n rs).length = rs.length
  | [], _ => rfl
  | r :: rs, n => by rw [numb, List.length_cons, List.length_cons, numb_len rs]
theorem numb_mem : ∀ {rs : List Row} {n : Nat} {p : Nat × Row}, p ∈ numb n rs → p.2 ∈ rs
  | [], _, _, h => by simp [numb] at h
  | r :: rs, n, p, h => by
    rw [numb, List.mem_cons] at h
    rcases h with h | h
    · rw [h]; exact List.mem_cons_self
    · exact List.mem_cons_of_mem _ (numb_mem h)
theorem rows_all {rs : List Row} (h : RowsOk rs) : ∀ r ∈ rs, RowOk r := by
  induction rs with
  | nil => intro r hr; cases hr
  | cons a l ih =>
    rw [RowsOk] at h
    intro r hr
    rcases List.mem_cons.mp hr with e | hr
    · rw [e]; exact h.1
    · exact ih h.2 r hr
theorem d_all {rs : List Row} : ∀ r ∈ rs, dR r ≤ dRs rs := by
  induction rs with
  | nil => intro r hr; cases hr
  | cons a l ih =>
    intro r hr
    rw [dRs]
    rcases List.mem_cons.mp hr with e | hr
    · rw [e]; omega
    · have := ih r hr; omega
theorem cnt_all {rs : List Row} : ∀ r ∈ rs, cnt r ≤ cnts rs := by
  induction rs with
  | nil => intro r hr; cases hr
  | cons a l ih =>
    intro r hr
    rw [cnts]
    rcases List.mem_cons.mp hr with e | hr
    · rw [e]; omega
    · have := ih r hr; omega
mutual
def flatR (n : Nat) : Row → List (Nat × Row)
  | .ifs t b o => (n, .ifs t b o) :: (flatN (n + 1) b ++ flatN (n + 1 + cnts b + 1) o)
  | r => [(n, r)]
def flatN (n : Nat) : List Row → List (Nat × Row)
  | [] => []
  | r :: rs => flatR n r ++ flatN (n + cnt r) rs
end
theorem flat_numb : ∀ (rs : List Row) (n : Nat), flatN n rs = (numb n rs).flatMap fun p => flatR p.1 p.2
  | [], _ => by simp [flatN, numb]
  | r :: rs, n => by rw [flatN, numb, List.flatMap_cons, flat_numb rs]
mutual
theorem flatR_len : ∀ (r : Row) (n : Nat), (flatR n r).length ≤ cnt r
  | .draw _ _, _ => by simp [flatR, cnt]
  | .put _, _ => by simp [flatR, cnt]
  | .emp _, _ => by simp [flatR, cnt]
  | .exch _ _, _ => by simp [flatR, cnt]
  | .ifs t b o, n => by
    have h1 := flatN_len b (n + 1)
    have h2 := flatN_len o (n + 1 + cnts b + 1)
    rw [flatR, cnt, List.length_cons, List.length_append]
    cases o with
    | nil => simp [flatN] at *; omega
    | cons a l => simp at *; omega
theorem flatN_len : ∀ (rs : List Row) (n : Nat), (flatN n rs).length ≤ cnts rs
  | [], _ => by simp [flatN, cnts]
  | r :: rs, n => by
    have h1 := flatR_len r n
    have h2 := flatN_len rs (n + cnt r)
    rw [flatN, cnts, List.length_append]
    omega
end
mutual
theorem flatR_mem : ∀ {r : Row} {n : Nat} {p : Nat × Row}, RowOk r → p ∈ flatR n r → RowOk p.2 ∧ dR p.2 ≤ dR r
  | .draw _ _, _, p, h, hp => by simp [flatR] at hp; rw [hp]; exact ⟨h, Nat.le_refl _⟩
  | .put _, _, p, h, hp => by simp [flatR] at hp; rw [hp]; exact ⟨h, Nat.le_refl _⟩
  | .emp _, _, p, h, hp => by simp [flatR] at hp; rw [hp]; exact ⟨h, Nat.le_refl _⟩
  | .exch _ _, _, p, h, hp => by simp [flatR] at hp; rw [hp]; exact ⟨h, Nat.le_refl _⟩
  | .ifs t b o, n, p, h, hp => by
    have h0 := h
    rw [RowOk] at h
    rw [flatR, List.mem_cons, List.mem_append] at hp
    rcases hp with e | hp | hp
    · rw [e]; exact ⟨h0, Nat.le_refl _⟩
    · have := flatN_mem h.2.2.1 hp
      rw [dR]; exact ⟨this.1, by omega⟩
    · have := flatN_mem h.2.2.2 hp
      rw [dR]; exact ⟨this.1, by omega⟩
theorem flatN_mem : ∀ {rs : List Row} {n : Nat} {p : Nat × Row}, RowsOk rs → p ∈ flatN n rs → RowOk p.2 ∧ dR p.2 ≤ dRs rs
  | [], _, p, h, hp => by simp [flatN] at hp
  | r :: rs, n, p, h, hp => by
    rw [RowsOk] at h
    rw [flatN, List.mem_append] at hp
    rw [dRs]
    rcases hp with hp | hp
    · have := flatR_mem h.1 hp; exact ⟨this.1, by omega⟩
    · have := flatN_mem h.2 hp; exact ⟨this.1, by omega⟩
end
def tagR : Row → String
  | .draw .. => "draw"
  | .ifs .. => "if"
  | .put _ => "put"
  | .emp _ => "empty"
  | .exch .. => "exchange"
theorem ix_tag (n : Nat) (r : Row) (st : Sto) : opIx (encP n r) (.int 0) st = some (.str (Str.ofString (tagR r)), st) := by
  cases r <;> simp [encP, tagR, opIx, aseq, L2.atI, L2.ixN]
theorem ix_line (n : Nat) (r : Row) (st : Sto) : opIx (encP n r) (.int 1) st = some (.int n, st) := by
  cases r <;> simp [encP, opIx, aseq, L2.atI, L2.ixN]
theorem tag_if {r : Row} (h : tagR r ≠ "if") : flatR n r = [(n, r)] := by
  cases r <;> first | (simp [flatR]; done) | exact absurd rfl h
theorem ext0 {acc ys : List D} (h : acc.length + ys.length ≤ 1000000) : opExtend2 (.ref 0) [.lst ys] [.lst acc] = some (.non, [.lst (acc ++ ys)]) := by
  have : acc.length + ys.length ≤ sizeLine := Nat.le_trans h sizeLine_big
  simp [opExtend2, lstAt, alst, this]
theorem encN_pd {rs : List Row} {n : Nat} (h : RowsOk rs) (hd : dRs rs ≤ 20) : pds 60 ((flatN n rs).map E2) = true := by
  refine pds_all fun d hdm => ?_
  obtain ⟨p, hp, rfl⟩ := List.mem_map.mp hdm
  obtain ⟨h1, h2⟩ := flatN_mem h hp
  exact pd_mono (by omega) (encP_pd 0 h1)
theorem nr_tup {xs : List D} {n : Nat} (h : pds n xs = true) : noRefs [.tup xs] = true := by
  simp [noRefs, noRef, pds_noRef h]
theorem flat_ok : ∀ (m : Nat) (rs : List Row) (n : Nat) (st : Sto), dRs rs + 1 ≤ m → dRs rs ≤ 20 → RowsOk rs → cnts rs ≤ 10000 → p_flat m [.tup (encPs n rs)] st = .ok (.lst ((flatN n rs).map E2)) st
  | 0, rs, n, st, h1, _, _, _ => by omega
  | m + 1, rs, n, st, h1, h2, h3, h4 => by
    have ih := flat_ok m
    have p0 := encPs_pd (k := n) 0 h3
    have fl := flatN_len rs n
    have loop := forL_map (g := gVar 2) (b := (sSeq (sExpr (iMl opAppend (iVar 1) (aCons (iVar 2) aNil))) (sIf (tBl (iBin (opEq false) (iBin opIx (iVar 2) (iC (.int 0))) (iC (.str "if")))) (sSeq (sExpr (iMl opExtend2 (iVar 1) (aCons (iCall (p_flat m) [] (aCons (iBin opIx (iVar 2) (iC (.int 3))) aNil)) aNil))) (sExpr (iMl opExtend2 (iVar 1) (aCons (iCall (p_flat m) [] (aCons (iBin opIx (iVar 2) (iC (.int 4))) aNil)) aNil)))) sNil)))
      (l := numb n rs) (F := E2) (fun rem env st => ∃ acc g, env = [some (.tup (encPs n rs)), some (.ref 0), g] ∧ st = [.lst acc] ∧ acc ++ (rem.flatMap fun p => flatR p.1 p.2).map E2 = (flatN n rs).map E2) (fun a r env st ha ⟨acc, g, e1, e2, e3⟩ => by
        subst e1 e2
        obtain ⟨k, r0⟩ := a
        have hr := numb_mem ha
        have ok := rows_all h3 r0 hr
        have dd := d_all r0 hr
        have lt : acc.length + (flatR k r0).length ≤ 10000 := by
          have := congrArg List.length e3
          simp only [List.flatMap_cons, List.map_append, List.length_append, List.length_map] at this
          omega
        refine ⟨[some (.tup (encPs n rs)), some (.ref 0), some (encP k r0)], [.lst acc], rfl, ?_⟩
        by_cases ht : tagR r0 = "if"
        · cases r0 with
          | ifs t b o =>
            rw [RowOk] at ok
            rw [dR] at dd
            rw [flatR, List.length_cons, List.length_append] at lt
            have cb : cnts b ≤ 10000 := by have := cnt_all _ hr; rw [cnt] at this; omega
            have co : cnts o ≤ 10000 := by
              have := cnt_all _ hr
              rw [cnt] at this
              cases o with
              | nil => simp [cnts]
              | cons a l => simp at this; omega
            have i3 : ∀ st, opIx (encP k (.ifs t b o)) (.int 3) st = some (.tup (encPs (k + 1) b), st) := fun st => by simp [encP, opIx, aseq, L2.atI, L2.ixN]
            have i4 : ∀ st, opIx (encP k (.ifs t b o)) (.int 4) st = some (.tup (encPs (k + 1 + cnts b + 1) o), st) := fun st => by simp [encP, opIx, aseq, L2.atI, L2.ixN]
            have c3 := fun st => ih b (k + 1) st (by omega) (by omega) ok.2.2.1 cb
            have c4 := fun st => ih o (k + 1 + cnts b + 1) st (by omega) (by omega) ok.2.2.2 co
            refine ⟨_, [.lst (acc ++ [encP k (.ifs t b o)] ++ (flatN (k + 1) b).map E2 ++ (flatN (k + 1 + cnts b + 1) o).map E2)], .inl ?_, _, some (encP k (.ifs t b o)), rfl, rfl, ?_⟩
            · simp [app0 (show acc.length < 1000000 by omega), isL0, ix_tag, tagR, i3, i4, c3, c4]
              rw [ext0 (by simp; omega)]
              simp [isL0, i4, c4]
              rw [ext0 (by simp; omega)]
              simp
            · rw [← e3, List.flatMap_cons, flatR]
              simp
          | _ => simp [tagR] at ht
        · have ne : decide (tagR r0 = "if") = false := decide_eq_false ht
          refine ⟨_, [.lst (acc ++ [encP k r0])], .inl ?_, _, some (encP k r0), rfl, rfl, ?_⟩
          · simp [app0 (show acc.length < 1000000 by omega), isL0, ix_tag, ht]
          · rw [← e3, List.flatMap_cons, tag_if ht]
            simp)
      (encPs n rs).length 0 [some (.tup (encPs n rs)), some (.ref 0), none] [.lst []] (by rw [enc_numb]; simp) (Nat.zero_le _) ⟨[], none, rfl, rfl, by rw [List.drop_zero, flat_numb]; simp⟩
    obtain ⟨e2, s2, q1, acc, g, rfl, rfl, q2⟩ := loop
    have q2' : acc = (flatN n rs).map E2 := by simpa using q2
    subst q2'
    have body : runB (B_p_flat (p_flat m)) 3 1 [.tup (encPs n rs)] [] = .ok (.ref 0) [.lst ((flatN n rs).map E2)] := by
      rw [← enc_numb] at q1
      simp [B_p_flat]
      rw [show forL (nxL (encPs n rs)) (gVar 2) _ (encPs n rs).length 0 [some (D.tup (encPs n rs)), some (D.ref 0), none] [O.lst []] = _ from q1]
      simp
    have fr : frz [.lst ((flatN n rs).map E2)] 70 (.ref 0) = some (.lst ((flatN n rs).map E2)) := by
      show (allP (frz [.lst ((flatN n rs).map E2)] 69) ((flatN n rs).map E2)).map D.lst = _
      rw [pds_frz _ (pds_mono (by decide) (encN_pd h3 h2))]
      rfl
    show pureA (runB (B_p_flat (p_flat m)) 3 1) [.tup (encPs n rs)] st = _
    unfold pureA
    rw [if_pos (nr_tup p0), body]
    show (match frz [.lst ((flatN n rs).map E2)] 70 (.ref 0) with
      | some d' => R.ok d' st
      | none => .bad) = _
    rw [fr]
end M
/-! SM8: places, nesting, draws on a way. -/
namespace M
open PySem PySem.W Builtin Builtin.Str
/-! ### places beyond -/
def placesR : Row → List Int
  | .put p => [p]
  | .emp p => [p]
  | .exch p q => [p, q]
  | _ => []
def beyond (c : Int) (r : Row) : Bool := (placesR r).any fun p => decide (c ≤ p)
theorem max_two (p q : Int) (st : Sto) : opMaxG [.tup [.int p, .int q]] st = some (.int (max p q), st) := by
  simp [opMaxG, aseq, allP, asI]
theorem max_one (p : Int) (st : Sto) : opMaxG [.tup [.int p]] st = some (.int p, st) := by
  simp [opMaxG, aseq, allP, asI]
theorem in_two (r : Row) (st : Sto) : opIn true (.str (Str.ofString (tagR r))) (.tup [.str (Str.ofString "if"), .str (Str.ofString "draw")]) st = some (.bl (!(placesR r).isEmpty), st) := by
  have e : ∀ a b : String, (Str.ofString a == Str.ofString b) = decide (a = b) := fun a b => by
    rw [Bool.eq_iff_iff, beq_iff_eq, decide_eq_true_eq, ofString_inj]
  cases r <;> simp [opIn, aseq, flatD, inD, eqD, tagR, placesR, e]
/-- the places named, by the statement read -/
theorem beyond_eq {r : Row} (h : ¬ (placesR r).isEmpty = true) (n : Nat) (st : Sto) : ∃ x, opSl (encP n r) (some 2) none st = some (.tup x, st) ∧ ∃ m, opMaxG [.tup x] st = some (.int m, st) ∧ ∀ c, beyond c r = decide (c ≤ m) := by
  cases r with
  | draw x f => simp [placesR] at h
  | ifs t b o => simp [placesR] at h
  | put p => exact ⟨[.int p], by simp [encP, opSl, HT.sIx, cutL], p, max_one p st, fun c => by simp [beyond, placesR]⟩
  | emp p => exact ⟨[.int p], by simp [encP, opSl, HT.sIx, cutL], p, max_one p st, fun c => by simp [beyond, placesR]⟩
  | exch p q =>
    refine ⟨[.int p, .int q], by simp [encP, opSl, HT.sIx, cutL], max p q, max_two p q st, fun c => ?_⟩
    rw [Bool.eq_iff_iff]
    simp [beyond, placesR]
    omega
def linesD (l : List (Nat × Row)) : List D := l.map fun p => .int p.1
theorem lines_pd (l : List (Nat × Row)) : pds 60 (linesD l) = true := pds_all fun d hd => by
  obtain ⟨p, _, rfl⟩ := List.mem_map.mp hd
  rw [pd]
theorem beyond_ok {rs : List Row} {n : Nat} {c : Int} (st : Sto) (h1 : dRs rs ≤ 11) (h2 : RowsOk rs) (h3 : cnts rs ≤ 10000) : p_lines_beyond [.tup (encPs n rs), .int c] st = .ok (.lst (linesD ((flatN n rs).filter fun p => beyond c p.2))) st := by
  have p0 := encPs_pd (k := n) 0 h2
  have fl := flatN_len rs n
  have fk := fun st => flat_ok 12 rs n st (by omega) (by omega) h2 h3
  have loop := forL_map (g := gVar 3) (b := (sIf (tAnd' (tBl (iBin (opIn true) (iBin opIx (iVar 3) (iC (.int 0))) (iN opTup (aCons (iC (.str "if")) (aCons (iC (.str "draw")) aNil))))) (tBl (iBin opGe (iN opMaxG (aCons (iSl (iVar 3) (oSome (iC (.int 2))) oNone) aNil)) (iVar 1)))) (sExpr (iMl opAppend (iVar 2) (aCons (iBin opIx (iVar 3) (iC (.int 1))) aNil))) sNil))
    (l := flatN n rs) (F := E2) (fun rem env st => ∃ acc g, env = [some (.tup (encPs n rs)), some (.int c), some (.ref 0), g] ∧ st = [.lst acc] ∧ acc ++ linesD (rem.filter fun p => beyond c p.2) = linesD ((flatN n rs).filter fun p => beyond c p.2)) (fun a r env st ha ⟨acc, g, e1, e2, e3⟩ => by
      subst e1 e2
      obtain ⟨k, r0⟩ := a
      have lt : acc.length ≤ 10000 := by
        have := congrArg List.length e3
        simp only [linesD, List.length_append, List.length_map] at this
        have z := List.length_filter_le (fun p : Nat × Row => beyond c p.2) (flatN n rs)
        omega
      refine ⟨[some (.tup (encPs n rs)), some (.int c), some (.ref 0), some (encP k r0)], [.lst acc], rfl, ?_⟩
      by_cases he : (placesR r0).isEmpty = true
      · have nb : beyond c r0 = false := by
          have : placesR r0 = [] := List.isEmpty_iff.mp he
          simp [beyond, this]
        refine ⟨_, [.lst acc], .inl ?_, acc, some (encP k r0), rfl, rfl, ?_⟩
        · simp [ix_tag, in_two, he]
        · rw [List.filter_cons_of_neg (by simp [nb])] at e3
          exact e3
      · obtain ⟨x, q1, m, q2, q3⟩ := beyond_eq he k [.lst acc]
        have he' : (placesR r0).isEmpty = false := by simpa using he
        by_cases hb : c ≤ m
        · have nb : beyond c r0 = true := by rw [q3]; simpa using hb
          refine ⟨_, [.lst (acc ++ [.int k])], .inl ?_, _, some (encP k r0), rfl, rfl, ?_⟩
          · simp [ix_tag, in_two, he', q1, q2, opCmp, hb, isL0, ix_line]
            rw [app0 (by omega)]
            simp
          · rw [List.filter_cons_of_pos (by simp [nb])] at e3
            simpa [linesD] using e3
        · have nb : beyond c r0 = false := by rw [q3]; simpa using hb
          refine ⟨_, [.lst acc], .inl ?_, acc, some (encP k r0), rfl, rfl, ?_⟩
          · simp [ix_tag, in_two, he', q1, q2, opCmp, hb]
          · rw [List.filter_cons_of_neg (by simp [nb])] at e3
            exact e3)
    ((flatN n rs).map E2).length 0 [some (.tup (encPs n rs)), some (.int c), some (.ref 0), none] [.lst []] (by simp) (Nat.zero_le _) ⟨[], none, rfl, rfl, by simp⟩
  obtain ⟨e2, s2, q1, acc, g, rfl, rfl, q2⟩ := loop
  have q2' : acc = linesD ((flatN n rs).filter fun p => beyond c p.2) := by simpa [linesD] using q2
  have body : runB B_p_lines_beyond 4 2 [.tup (encPs n rs), .int c] [] = .ok (.ref 0) [.lst acc] := by
    simp only [List.length_map] at q1
    simp [B_p_lines_beyond, fk]
    rw [q1]
    simp
  have fr : frz [.lst acc] 70 (.ref 0) = some (.lst acc) := by
    show (allP (frz [.lst acc] 69) acc).map D.lst = _
    rw [q2', pds_frz _ (pds_mono (by decide) (lines_pd _))]
    rfl
  show pureA (runB B_p_lines_beyond 4 2) [.tup (encPs n rs), .int c] st = _
  unfold pureA
  rw [if_pos (by simp [noRefs, noRef, pds_noRef p0]), body]
  show (match frz [.lst acc] 70 (.ref 0) with
    | some d' => R.ok d' st
    | none => .bad) = _
  rw [fr, q2']
/-! ### ifs inside one another -/
def isIf (p : Nat × Row) : Bool := decide (tagR p.2 = "if")
def dI : Row → Nat
  | .ifs _ b o => max (dRs b) (dRs o)
  | _ => 0
theorem dR_if (r : Row) : dR r = if tagR r = "if" then 1 + dI r else 0 := by
  cases r <;> simp [dR, tagR, dI]
def mx : List Nat → Nat
  | [] => 0
  | a :: l => max a (mx l)
theorem fold_mx : ∀ (l : List Nat) (a : Nat), ((l.map fun k : Nat => (k : Int)).foldl max (a : Int)) = ((max a (mx l) : Nat) : Int)
  | [], a => by simp [mx]
  | b :: l, a => by
    rw [List.map_cons, List.foldl_cons, show max (a : Int) (b : Int) = ((max a b : Nat) : Int) by omega, fold_mx l]
    simp only [mx]
    omega
theorem dRs_mx : ∀ (rs : List Row) (n : Nat), dRs rs = if ((numb n rs).filter isIf).isEmpty then 0 else 1 + mx (((numb n rs).filter isIf).map fun p => dI p.2)
  | [], n => by simp [dRs, numb]
  | r :: rs, n => by
    have ih := dRs_mx rs (n + cnt r)
    rw [dRs, numb, dR_if]
    by_cases h : tagR r = "if"
    · rw [if_pos h, List.filter_cons_of_pos (by simp [isIf, h]), ih]
      simp only [List.isEmpty_cons, List.map_cons, mx, if_neg Bool.false_ne_true]
      split
      · rename_i e
        have : (numb (n + cnt r) rs).filter isIf = [] := List.isEmpty_iff.mp e
        rw [this]
        simp [mx]
      · omega
    · rw [if_neg h, List.filter_cons_of_neg (by simp [isIf, h]), ih]
      omega
theorem opMax_nat (a b : Nat) (st : Sto) : opMax [.int a, .int b] st = some (.int ((max a b : Nat) : Int), st) := by
  simp [opMax]
  omega
theorem nesting_ok : ∀ (m : Nat) (rs : List Row) (n : Nat) (st : Sto), dRs rs + 1 ≤ m → RowsOk rs → cnts rs ≤ 10000 → p_nesting m [.tup (encPs n rs)] st = .ok (.int (dRs rs)) st
  | 0, rs, n, st, h1, _, _ => by omega
  | m + 1, rs, n, st, h1, h2, h3 => by
    have ih := nesting_ok m
    have nl := numb_len rs n
    have rl := rows_le rs
    have c := compF_rows (p := .one 2) (t := (tBl (iBin (opEq false) (iBin opIx (iVar 2) (iC (.int 0))) (iC (.str "if"))))) (e := (iN opMax (aCons (iCall (p_nesting m) [] (aCons (iBin opIx (iVar 2) (iC (.int 3))) aNil)) (aCons (iCall (p_nesting m) [] (aCons (iBin opIx (iVar 2) (iC (.int 4))) aNil)) aNil))))
      (env0 := [some (.tup (encPs n rs)), none, none]) (st := st) (l := numb n rs) (F := E2) isIf (fun p => .int (dI p.2)) (by omega) (fun a ha => by
        obtain ⟨k, r⟩ := a
        have hr := numb_mem ha
        have ok := rows_all h2 r hr
        have dd := d_all r hr
        refine ⟨[some (.tup (encPs n rs)), none, some (encP k r)], rfl, by simp [ix_tag, isIf], fun hi => ?_⟩
        have ht : tagR r = "if" := of_decide_eq_true hi
        cases r with
        | ifs t b o =>
          rw [RowOk] at ok
          rw [dR] at dd
          have i3 : ∀ st, opIx (encP k (.ifs t b o)) (.int 3) st = some (.tup (encPs (k + 1) b), st) := fun st => by simp [encP, opIx, aseq, L2.atI, L2.ixN]
          have i4 : ∀ st, opIx (encP k (.ifs t b o)) (.int 4) st = some (.tup (encPs (k + 1 + cnts b + 1) o), st) := fun st => by simp [encP, opIx, aseq, L2.atI, L2.ixN]
          have cb : cnts b ≤ 10000 := by have := cnt_all _ hr; rw [cnt] at this; omega
          have co : cnts o ≤ 10000 := by
            have := cnt_all _ hr
            rw [cnt] at this
            cases o with
            | nil => simp [cnts]
            | cons a l => simp at this; omega
          have c3 := fun st => ih b (k + 1) st (by omega) ok.2.2.1 cb
          have c4 := fun st => ih o (k + 1 + cnts b + 1) st (by omega) ok.2.2.2 co
          simp [i3, i4, c3, c4, opMax_nat, dI]
        | _ => simp [tagR] at ht)
    show runB (B_p_nesting (p_nesting m)) 3 1 [.tup (encPs n rs)] st = _
    rw [← enc_numb] at c
    have dm := dRs_mx rs n
    simp [B_p_nesting, Pat.slots, wipeE]
    rw [c]
    cases hf : (numb n rs).filter isIf with
    | nil =>
      rw [hf] at dm
      simp [truD] at dm ⊢
      omega
    | cons a l =>
      rw [hf] at dm
      have mg : opMaxG [.lst ((a :: l).map fun p => D.int (dI p.2))] st = some (.int ((mx ((a :: l).map fun p => dI p.2) : Nat) : Int), st) := by
        have e : allP asI ((a :: l).map fun p => D.int ((dI p.2 : Nat) : Int)) = some (((a :: l).map fun p => dI p.2).map fun k : Nat => (k : Int)) := by
          rw [allP_map (g := fun d => match d with | .int i => i | _ => 0) (fun d hd => by
            obtain ⟨p, _, rfl⟩ := List.mem_map.mp hd; rfl)]
          simp
        show (match allP asI ((a :: l).map fun p => D.int (dI p.2)) with
          | some (n :: ns) => some (D.int (ns.foldl max n), st)
          | _ => none) = _
        rw [e]
        show some (D.int ((List.map (fun k : Nat => (k : Int)) (l.map fun p => dI p.2)).foldl max (dI a.2 : Int)), st) = _
        rw [fold_mx]
        rfl
      simp only [List.isEmpty_cons, if_neg Bool.false_ne_true] at dm
      simp [truD, opAdd] at mg ⊢
      rw [mg]
      simp at dm ⊢
      omega
/-! ### draws on a way -/
mutual
def mdR : Row → Nat
  | .draw .. => 1
  | .ifs _ b o => max (mdRs b) (mdRs o)
  | _ => 0
def mdRs : List Row → Nat
  | [] => 0
  | r :: rs => mdR r + mdRs rs
end
def mdL : List (Nat × Row) → Nat
  | [] => 0
  | p :: l => mdR p.2 + mdL l
theorem md_numb : ∀ (rs : List Row) (n : Nat), mdRs rs = mdL (numb n rs)
  | [], _ => by simp [mdRs, numb, mdL]
  | r :: rs, n => by rw [mdRs, numb, mdL, md_numb rs]
theorem most_ok : ∀ (m : Nat) (rs : List Row) (n : Nat) (st : Sto), dRs rs + 1 ≤ m → RowsOk rs → p_most_drawn m [.tup (encPs n rs)] st = .ok (.int (mdRs rs)) st
  | 0, rs, n, st, h1, _ => by omega
  | m + 1, rs, n, st, h1, h2 => by
    have ih := most_ok m
    have loop := forL_map (g := gVar 2) (b := (sIf (tBl (iBin (opEq false) (iBin opIx (iVar 2) (iC (.int 0))) (iC (.str "draw")))) (sSet 1 (iBin opAdd (iVar 1) (iC (.int 1)))) (sIf (tBl (iBin (opEq false) (iBin opIx (iVar 2) (iC (.int 0))) (iC (.str "if")))) (sSet 1 (iBin opAdd (iVar 1) (iN opMax (aCons (iCall (p_most_drawn m) [] (aCons (iBin opIx (iVar 2) (iC (.int 3))) aNil)) (aCons (iCall (p_most_drawn m) [] (aCons (iBin opIx (iVar 2) (iC (.int 4))) aNil)) aNil))))) sNil)))
      (l := numb n rs) (F := E2) (fun rem env s => ∃ (k : Nat) (g : Option D), env = [some (.tup (encPs n rs)), some (.int k), g] ∧ s = st ∧ k + mdL rem = mdRs rs) (fun a r env s ha ⟨k, g, e1, e2, e3⟩ => by
        subst e1 e2
        obtain ⟨j, r0⟩ := a
        have hr := numb_mem ha
        have ok := rows_all h2 r0 hr
        have dd := d_all r0 hr
        refine ⟨[some (.tup (encPs n rs)), some (.int k), some (encP j r0)], s, rfl, ?_⟩
        rw [mdL] at e3
        cases r0 with
        | draw x f =>
          refine ⟨_, s, .inl ?_, k + 1, some (encP j (.draw x f)), rfl, rfl, by rw [mdR] at e3; omega⟩
          simp [ix_tag, tagR, opAdd]
        | put p =>
          have e4 : k + (mdR (.put p) + mdL r) = mdRs rs := e3
          have e5 : mdR (.put p) = 0 := by simp [mdR]
          exact ⟨_, s, .inl (by simp [ix_tag, tagR]), k, some (encP j (.put p)), rfl, rfl, by omega⟩
        | emp p =>
          have e4 : k + (mdR (.emp p) + mdL r) = mdRs rs := e3
          have e5 : mdR (.emp p) = 0 := by simp [mdR]
          exact ⟨_, s, .inl (by simp [ix_tag, tagR]), k, some (encP j (.emp p)), rfl, rfl, by omega⟩
        | exch p q =>
          have e4 : k + (mdR (.exch p q) + mdL r) = mdRs rs := e3
          have e5 : mdR (.exch p q) = 0 := by simp [mdR]
          exact ⟨_, s, .inl (by simp [ix_tag, tagR]), k, some (encP j (.exch p q)), rfl, rfl, by omega⟩
        | ifs t b o =>
          rw [RowOk] at ok
          rw [dR] at dd
          have i3 : ∀ st, opIx (encP j (.ifs t b o)) (.int 3) st = some (.tup (encPs (j + 1) b), st) := fun st => by simp [encP, opIx, aseq, L2.atI, L2.ixN]
          have i4 : ∀ st, opIx (encP j (.ifs t b o)) (.int 4) st = some (.tup (encPs (j + 1 + cnts b + 1) o), st) := fun st => by simp [encP, opIx, aseq, L2.atI, L2.ixN]
          have c3 := fun st => ih b (j + 1) st (by omega) ok.2.2.1
          have c4 := fun st => ih o (j + 1 + cnts b + 1) st (by omega) ok.2.2.2
          refine ⟨_, s, .inl ?_, k + max (mdRs b) (mdRs o), some (encP j (.ifs t b o)), rfl, rfl, by rw [mdR] at e3; omega⟩
          simp [ix_tag, tagR, i3, i4, c3, c4, opMax_nat, opAdd])
      (encPs n rs).length 0 [some (.tup (encPs n rs)), some (.int (0 : Nat)), none] st (by rw [enc_numb]; simp) (Nat.zero_le _) ⟨0, none, rfl, rfl, by rw [List.drop_zero, ← md_numb]; omega⟩
    obtain ⟨e2, s2, q1, k, g, rfl, rfl, q2⟩ := loop
    have q2' : k = mdRs rs := by simpa [mdL] using q2
    subst q2'
    show runB (B_p_most_drawn (p_most_drawn m)) 3 1 [.tup (encPs n rs)] s2 = _
    rw [← enc_numb] at q1
    simp [B_p_most_drawn]
    simp at q1
    rw [q1]
    simp
end M
/-! SM9: names drawn before they are tested, none twice. -/
namespace M
open PySem PySem.W Builtin Builtin.Str
/-! ### sets of texts -/
theorem mem_insU {l : List Str} {x y : Str} : y ∈ insU l x ↔ y ∈ l ∨ y = x := by
  unfold insU
  split
  · rename_i h
    constructor
    · exact .inl
    · rintro (h' | rfl)
      · exact h'
      · exact h
  · simp
theorem fold_insU : ∀ (xs l : List Str), (∀ y, y ∈ xs.foldl insU l ↔ y ∈ l ∨ y ∈ xs) ∧ (l.Nodup → (xs.foldl insU l).Nodup)
  | [], l => ⟨fun y => by simp, fun h => h⟩
  | x :: xs, l => by
    obtain ⟨h1, h2⟩ := fold_insU xs (insU l x)
    refine ⟨fun y => ?_, fun h => h2 (nodup_insU h)⟩
    rw [List.foldl_cons, h1, mem_insU, List.mem_cons]
    exact or_assoc
theorem mem_dedupS {l : List Str} {y : Str} : y ∈ dedupS l ↔ y ∈ l := by
  unfold dedupS
  rw [(fold_insU l []).1]
  simp
theorem nodup_dedupS (l : List Str) : (dedupS l).Nodup := (fold_insU l []).2 List.nodup_nil
theorem sort_perm (l : List Str) : (sortT l).Perm l := List.mergeSort_perm l leS
theorem mem_sortT {l : List Str} {y : Str} : y ∈ sortT l ↔ y ∈ l := (sort_perm l).mem_iff
theorem nodup_len {α : Type} [DecidableEq α] : ∀ {l l' : List α}, l.Nodup → (∀ x ∈ l, x ∈ l') → l.length ≤ l'.length
  | [], _, _, _ => Nat.zero_le _
  | a :: t, l', h, hs => by
    rw [List.nodup_cons] at h
    have ha := hs a List.mem_cons_self
    have : t.length ≤ (l'.erase a).length := nodup_len h.2 fun x hx => by
      rw [List.mem_erase_of_ne]
      · exact hs x (List.mem_cons_of_mem _ hx)
      · rintro rfl; exact h.1 hx
    rw [List.length_erase_of_mem ha] at this
    have := List.length_pos_of_mem ha
    rw [List.length_cons]
    omega
theorem in_strs {neg : Bool} {x : Str} {l : List Str} (st : Sto) : opIn neg (.str x) (.lst (l.map .str)) st = some (.bl (if neg then !decide (x ∈ l) else decide (x ∈ l)), st) := by
  have e : inD (.str x) (l.map D.str) = decide (x ∈ l) := by
    unfold inD
    rw [List.any_map, Bool.eq_iff_iff, List.any_eq_true, decide_eq_true_eq]
    constructor
    · rintro ⟨y, hy, h⟩
      have : y = x := by simpa [eqD] using h
      exact this ▸ hy
    · intro h
      exact ⟨x, h, by simp [eqD]⟩
  have f : (l.map D.str).all flatD = true := List.all_eq_true.mpr fun d hd => by
    obtain ⟨y, _, rfl⟩ := List.mem_map.mp hd; rfl
  show (if flatD (.str x) = true ∧ (l.map D.str).all flatD = true then some (D.bl (if neg then !inD (.str x) (l.map D.str) else inD (.str x) (l.map D.str)), st) else none) = _
  rw [if_pos ⟨rfl, f⟩, e]
theorem allP_strs : ∀ l : List Str, allP asS (l.map D.str) = some l
  | [] => rfl
  | x :: l => by
    rw [List.map_cons]
    unfold allP
    rw [allP_strs l]
    rfl
theorem sort_set {l : List Str} (h : l.length < 64) (st : Sto) : opSortSet [.lst (l.map .str)] st = some (.lst ((sortT (dedupS l)).map .str), st) := by
  show (match allP asS (l.map D.str) with
    | some ss => if ss.length < 64 then some (D.lst ((sortT (dedupS ss)).map .str), st) else none
    | none => none) = _
  rw [allP_strs]
  show (if l.length < 64 then some (D.lst ((sortT (dedupS l)).map .str), st) else none) = _
  rw [if_pos h]
/-! ### the names -/
def Tst.name : Tst → Option Str
  | .below x _ => some x
  | .is_ x _ => some x
  | _ => none
mutual
def sureR (s : List Str) : Row → List Str
  | .draw x _ => s ++ [x]
  | .ifs _ b o => (sureRs s b).filter fun x => decide (x ∈ sureRs s o)
  | _ => s
def sureRs (s : List Str) : List Row → List Str
  | [] => s
  | r :: rs => sureRs (sureR s r) rs
end
mutual
def namesR : Row → List Str
  | .draw x _ => [x]
  | .ifs _ b o => namesRs b ++ namesRs o
  | _ => []
def namesRs : List Row → List Str
  | [] => []
  | r :: rs => namesR r ++ namesRs rs
end
mutual
def GoodR (s m : List Str) : Row → Prop
  | .draw x _ => x ∉ m
  | .ifs t b o => (∀ x, t.name = some x → x ∈ s) ∧ GoodRs s m b ∧ GoodRs s m o
  | _ => True
def GoodRs (s m : List Str) : List Row → Prop
  | [] => True
  | r :: rs => GoodR s m r ∧ GoodRs (sureR s r) (m ++ namesR r) rs
end
mutual
theorem good_eqR : ∀ {r : Row} {s m m' : List Str}, (∀ x, x ∈ m ↔ x ∈ m') → GoodR s m r → GoodR s m' r
  | .draw x f, s, m, m', h, g => by rw [GoodR] at g ⊢; exact fun z => g ((h x).mpr z)
  | .put _, _, _, _, _, _ => by simp [GoodR]
  | .emp _, _, _, _, _, _ => by simp [GoodR]
  | .exch _ _, _, _, _, _, _ => by simp [GoodR]
  | .ifs t b o, s, m, m', h, g => by
    rw [GoodR] at g ⊢
    exact ⟨g.1, good_eq h g.2.1, good_eq h g.2.2⟩
theorem good_eq : ∀ {rs : List Row} {s m m' : List Str}, (∀ x, x ∈ m ↔ x ∈ m') → GoodRs s m rs → GoodRs s m' rs
  | [], _, _, _, _, _ => by simp [GoodRs]
  | r :: rs, s, m, m', h, g => by
    rw [GoodRs] at g ⊢
    exact ⟨good_eqR h g.1, good_eq (fun x => by simp [h x]) g.2⟩
end
theorem test_ix0 (t : Tst) (st : Sto) : ∃ w : String, opIx (encT t) (.int 0) st = some (.str (Str.ofString w), st) ∧ (w = "below" ∨ w = "is") = (t.name ≠ none) := by
  cases t with
  | below x f => exact ⟨"below", by simp [encT, opIx, aseq, L2.atI, L2.ixN], by simp [Tst.name]⟩
  | is_ x f => exact ⟨"is", by simp [encT, opIx, aseq, L2.atI, L2.ixN], by simp [Tst.name]⟩
  | early f => exact ⟨"early", by simp [encT, opIx, aseq, L2.atI, L2.ixN], by simp [Tst.name]⟩
  | at_ f => exact ⟨"at", by simp [encT, opIx, aseq, L2.atI, L2.ixN], by simp [Tst.name]⟩
theorem test_ix1 {t : Tst} {x : Str} (h : t.name = some x) (st : Sto) : opIx (encT t) (.int 1) st = some (.str x, st) := by
  cases t with
  | below y f => cases h; simp [encT, opIx, aseq, L2.atI, L2.ixN]
  | is_ y f => cases h; simp [encT, opIx, aseq, L2.atI, L2.ixN]
  | early f => cases h
  | at_ f => cases h
theorem named_in (w : String) (st : Sto) : opIn false (.str (Str.ofString w)) (.tup (dv_NAMED.map dvD)) st = some (.bl (decide (w = "below" ∨ w = "is")), st) := by
  have e : dv_NAMED.map dvD = [.str (Str.ofString "below"), .str (Str.ofString "is")] := by kernel_rfl
  have e2 : ∀ a b : String, (Str.ofString a == Str.ofString b) = decide (a = b) := fun a b => by
    rw [Bool.eq_iff_iff, beq_iff_eq, decide_eq_true_eq, ofString_inj]
  have e3 : inD (.str (Str.ofString w)) [.str (Str.ofString "below"), .str (Str.ofString "is")] = decide (w = "below" ∨ w = "is") := by
    unfold inD
    simp only [List.any_cons, List.any_nil, eqD, e2, Bool.or_false]
    rw [Bool.eq_iff_iff]
    simp only [Bool.or_eq_true, decide_eq_true_eq]
    exact ⟨fun h => h.imp Eq.symm Eq.symm, fun h => h.imp Eq.symm Eq.symm⟩
  rw [e]
  show (if flatD (.str (Str.ofString w)) = true ∧ ([.str (Str.ofString "below"), .str (Str.ofString "is")] : List D).all flatD = true then some (D.bl (if false = true then !inD (.str (Str.ofString w)) [.str (Str.ofString "below"), .str (Str.ofString "is")] else inD (.str (Str.ofString w)) [.str (Str.ofString "below"), .str (Str.ofString "is")]), st) else none) = _
  rw [if_pos ⟨rfl, rfl⟩, e3]
  rfl
abbrev flt : D := .tup [.ref 0, .ref 1]
abbrev st0 : Sto := [.lst [], .lst []]
abbrev snds (l : List (Nat × Row)) : List Row := l.map Prod.snd
theorem snds_numb : ∀ (rs : List Row) (n : Nat), snds (numb n rs) = rs
  | [], _ => rfl
  | r :: rs, n => by rw [numb, snds, List.map_cons]; exact congrArg _ (snds_numb rs _)
end M
/-! SM10: followed, the checks, a sampler made. -/
namespace M
open PySem PySem.W Builtin Builtin.Str
theorem cats (a b : List Str) (st : Sto) (h : a.length + b.length ≤ 1000000) : opAdd (.lst (a.map .str)) (.lst (b.map .str)) st = some (.lst ((a ++ b).map .str), st) := by
  have : a.length + b.length ≤ sizeLine := Nat.le_trans h sizeLine_big
  simp [opAdd, this]
theorem ix0 (x y : D) (st : Sto) : opIx (.tup [x, y]) (.int 0) st = some (x, st) := by simp [opIx, aseq, L2.atI, L2.ixN]
theorem ix1 (x y : D) (st : Sto) : opIx (.tup [x, y]) (.int 1) st = some (y, st) := by simp [opIx, aseq, L2.atI, L2.ixN]
theorem filter_comp {env0 : Env} {st : Sto} {s1 s2 : List Str} {x9 : D} {k : Nat} (hk : env0 = env0) (h1 : s1.length ≤ 1000) (hb : ∀ x, ∃ env, (Pat.one k).bind (.str x) env0 = some env ∧ env[k]? = some (some (.str x)) ∧ env[10]? = some (some (.tup [.lst (s2.map .str), x9]))) :
    compF (nxL (s1.map .str)) (.one k) (tBl (iBin (opIn false) (iVar k) (iBin opIx (iVar 10) (iC (.int 0))))) (iVar k) env0 (s1.map D.str).length 0 [] st = .ok ((s1.filter fun x => decide (x ∈ s2)).map .str) st :=
  compF_rows (F := D.str) (fun x => decide (x ∈ s2)) D.str (by omega) fun x _ => by
    obtain ⟨env, h1, h2, h3⟩ := hb x
    refine ⟨env, h1, ?_, fun _ => ?_⟩
    · simp [h2, h3, ix0, in_strs]
    · simp [h2]
theorem sureR_len : ∀ (n : Nat), (∀ (r : Row) (s : List Str), dR r ≤ n → (sureR s r).length ≤ s.length + (namesR r).length) ∧ (∀ (rs : List Row) (s : List Str), dRs rs ≤ n → (sureRs s rs).length ≤ s.length + (namesRs rs).length) := by
  intro n
  induction n with
  | zero =>
    have h1 : ∀ (r : Row) (s : List Str), dR r ≤ 0 → (sureR s r).length ≤ s.length + (namesR r).length := fun r s h => by
      cases r with
      | ifs t b o => rw [dR] at h; omega
      | _ => simp [sureR, namesR]
    refine ⟨h1, fun rs => ?_⟩
    induction rs with
    | nil => intro s _; simp [sureRs, namesRs]
    | cons r rs ih =>
      intro s h
      rw [dRs] at h
      have a := h1 r s (by omega)
      have b := ih (sureR s r) (by omega)
      rw [sureRs, namesRs, List.length_append]
      omega
  | succ n ih =>
    have h1 : ∀ (r : Row) (s : List Str), dR r ≤ n + 1 → (sureR s r).length ≤ s.length + (namesR r).length := fun r s h => by
      cases r with
      | ifs t b o =>
        rw [dR] at h
        have a := ih.2 b s (by omega)
        rw [sureR, namesR, List.length_append]
        have := List.length_filter_le (fun x => decide (x ∈ sureRs s o)) (sureRs s b)
        omega
      | _ => simp [sureR, namesR]
    refine ⟨h1, fun rs => ?_⟩
    induction rs with
    | nil => intro s _; simp [sureRs, namesRs]
    | cons r rs ih =>
      intro s h
      rw [dRs] at h
      have a := h1 r s (by omega)
      have b := ih (sureR s r) (by omega)
      rw [sureRs, namesRs, List.length_append]
      omega
theorem sureRs_len (rs : List Row) (s : List Str) : (sureRs s rs).length ≤ s.length + (namesRs rs).length := (sureR_len (dRs rs)).2 rs s (Nat.le_refl _)
def folBody (r_followed : Fn) : IS := (sIf (tBl (iBin (opEq false) (iBin opIx (iVar 6) (iC (.int 0))) (iC (.str "draw")))) (sSeq (sSet 7 (iBin opIx (iVar 6) (iC (.int 2))))
  (sSeq (sIf (tBl (iBin (opIn false) (iVar 7) (iVar 2))) (sExpr (iMl opAppend (iVar 5) (aCons (iBin opIx (iVar 6) (iC (.int 1))) aNil))) sNil)
  (sPar 1 2 (aCons (iN opLstF (aStar (iVar 1) (aCons (iVar 7) aNil))) (aCons (iN opLstF (aStar (iVar 2) (aCons (iVar 7) aNil))) aNil))))) (sIf (tBl (iBin (opEq false) (iBin opIx (iVar 6) (iC (.int 0))) (iC (.str "if")))) (sSeq (sSet 8 (iBin opIx (iVar 6) (iC (.int 2))))
  (sSeq (sIf (tAnd' (tBl (iBin (opIn false) (iBin opIx (iVar 8) (iC (.int 0))) (iC (.tup (dv_NAMED.map dvD))))) (tBl (iBin (opIn true) (iBin opIx (iVar 8) (iC (.int 1))) (iVar 1)))) (sExpr (iMl opAppend (iVar 4) (aCons (iBin opIx (iVar 6) (iC (.int 1))) aNil))) sNil)
  (sSeq (sSet 9 (iCall r_followed [] (aCons (iBin opIx (iVar 6) (iC (.int 3))) (aCons (iVar 1) (aCons (iVar 2) (aCons (iVar 3) aNil))))))
  (sSeq (sSet 10 (iCall r_followed [] (aCons (iBin opIx (iVar 6) (iC (.int 4))) (aCons (iVar 1) (aCons (iVar 2) (aCons (iVar 3) aNil))))))
  (sSeq (sSet 1 (iCompF (wAny (iBin opIx (iVar 9) (iC (.int 0)))) (.one 7) (tBl (iBin (opIn false) (iVar 7) (iBin opIx (iVar 10) (iC (.int 0))))) (iVar 7)))
  (sSet 2 (iN opSortSet (aCons (iBin opAdd (iBin opIx (iVar 9) (iC (.int 1))) (iBin opIx (iVar 10) (iC (.int 1)))) aNil)))))))) sNil))
theorem fol_eq (rf : Fn) : B_p_followed rf = (sSeq (sAsg (gTup' 2 (gsVar 4 (gsVar 5 gsNil))) (iVar 3))
  (sSeq (sFor (wAny (iVar 0)) (gVar 6) (folBody rf))
  (sRet (iN opTup (aCons (iVar 1) (aCons (iVar 2) aNil)))))) := rfl

abbrev EF (stm : List D) (s mb : List Str) (g6 g7 g8 g9 g10 : Option D) : Env := [some (.tup stm), some (.lst (s.map .str)), some (.lst (mb.map .str)), some flt, some (.ref 0), some (.ref 1), g6, g7, g8, g9, g10]
section
variable {rf : Fn} {stm : List D} {s mb : List Str} {g7 g8 g9 g10 : Option D} {j : Nat}
theorem fol_plain {r : Row} (t1 : tagR r ≠ "draw") (t2 : tagR r ≠ "if") : folBody rf (EF stm s mb (some (encP j r)) g7 g8 g9 g10) st0 = .nx (EF stm s mb (some (encP j r)) g7 g8 g9 g10) st0 := by
  simp [folBody, ix_tag, t1, t2]
theorem fol_draw {x : Str} {f : Fm} (hx : x ∉ mb) (h1 : s.length ≤ 900) (h2 : mb.length ≤ 900) : folBody rf (EF stm s mb (some (encP j (.draw x f))) g7 g8 g9 g10) st0 = .nx (EF stm (s ++ [x]) (mb ++ [x]) (some (encP j (.draw x f))) (some (.str x)) g8 g9 g10) st0 := by
  have i2 : ∀ st, opIx (encP j (.draw x f)) (.int 2) st = some (.str x, st) := fun st => by simp [encP, opIx, aseq, L2.atI, L2.ixN]
  have z1 : s.length + 1 ≤ 1000000 := by omega
  have z2 : mb.length + 1 ≤ 1000000 := by omega
  simp [folBody, ix_tag, tagR, i2, in_strs, hx, aseq, z1, z2]
theorem fol_test {t : Tst} {g6 g7 g9 g10 : Option D} (h : ∀ x, t.name = some x → x ∈ s) : (tAnd' (tBl (iBin (opIn false) (iBin opIx (iVar 8) (iC (.int 0))) (iC (.tup (dv_NAMED.map dvD))))) (tBl (iBin (opIn true) (iBin opIx (iVar 8) (iC (.int 1))) (iVar 1)))) (EF stm s mb g6 g7 (some (encT t)) g9 g10) st0 = .ok false st0 := by
  obtain ⟨w, w1, w2⟩ := test_ix0 t st0
  cases hn : t.name with
  | none =>
    have : ¬ (w = "below" ∨ w = "is") := by rw [w2, hn]; simp
    simp [w1, named_in, this]
  | some x =>
    have h7 : (w = "below" ∨ w = "is") := by rw [w2, hn]; simp
    simp [w1, named_in, h7, test_ix1 hn, in_strs, h x hn]
theorem fol_if {t : Tst} {b o : List Row} {s1 s2 m1 m2 : List Str} (h : ∀ x, t.name = some x → x ∈ s) (h1 : s1.length ≤ 1000) (h2 : m1.length + m2.length < 64)
    (c1 : rf [.tup (encPs (j + 1) b), .lst (s.map .str), .lst (mb.map .str), flt] st0 = .ok (.tup [.lst (s1.map .str), .lst (m1.map .str)]) st0) (c2 : rf [.tup (encPs (j + 1 + cnts b + 1) o), .lst (s.map .str), .lst (mb.map .str), flt] st0 = .ok (.tup [.lst (s2.map .str), .lst (m2.map .str)]) st0) :
    folBody rf (EF stm s mb (some (encP j (.ifs t b o))) g7 g8 g9 g10) st0 = .nx (EF stm (s1.filter fun x => decide (x ∈ s2)) (sortT (dedupS (m1 ++ m2))) (some (encP j (.ifs t b o))) g7 (some (encT t)) (some (.tup [.lst (s1.map .str), .lst (m1.map .str)])) (some (.tup [.lst (s2.map .str), .lst (m2.map .str)]))) st0 := by
  have i2 : ∀ st, opIx (encP j (.ifs t b o)) (.int 2) st = some (encT t, st) := fun st => by simp [encP, opIx, aseq, L2.atI, L2.ixN]
  have i3 : ∀ st, opIx (encP j (.ifs t b o)) (.int 3) st = some (.tup (encPs (j + 1) b), st) := fun st => by simp [encP, opIx, aseq, L2.atI, L2.ixN]
  have i4 : ∀ st, opIx (encP j (.ifs t b o)) (.int 4) st = some (.tup (encPs (j + 1 + cnts b + 1) o), st) := fun st => by simp [encP, opIx, aseq, L2.atI, L2.ixN]
  have ss : ∀ st, opSortSet [.lst ((m1 ++ m2).map .str)] st = some (.lst ((sortT (dedupS (m1 ++ m2))).map .str), st) := fun st => sort_set (by rw [List.length_append]; omega) st
  have cc : ∀ st, opAdd (.lst (m1.map .str)) (.lst (m2.map .str)) st = some (.lst ((m1 ++ m2).map .str), st) := fun st => cats m1 m2 st (by omega)
  have fc := filter_comp (k := 7) (s1 := s1) (s2 := s2) (x9 := .lst (m2.map .str)) (st := st0) (env0 := (EF stm s mb (some (encP j (.ifs t b o))) none (some (encT t)) (some (.tup [.lst (s1.map .str), .lst (m1.map .str)])) (some (.tup [.lst (s2.map .str), .lst (m2.map .str)])))) rfl h1 (fun x => ⟨_, rfl, rfl, rfl⟩)
  simp only [List.length_map] at fc
  have ft := fol_test (stm := stm) (mb := mb) (g6 := some (encP j (.ifs t b o))) (g7 := g7) (g9 := g9) (g10 := g10) h
  unfold folBody
  simp [-tAnd_d, ix_tag, tagR, i2, ft, i3, i4, c1, c2, ix0, ix1, Pat.slots, wipeE, fc]
  simp only [List.map_append] at cc ss
  simp [cc, ss]
end
def PF (stm : List D) (s mb : List Str) (rs : List Row) (rem : List (Nat × Row)) (env : Env) (st : Sto) : Prop := ∃ (s' mb' : List Str) (g6 g7 g8 g9 g10 : Option D), env = EF stm s' mb' g6 g7 g8 g9 g10 ∧ st = st0 ∧ GoodRs s' mb' (snds rem) ∧ sureRs s' (snds rem) = sureRs s rs ∧
  (∀ x, (x ∈ mb' ∨ x ∈ namesRs (snds rem)) ↔ (x ∈ mb ∨ x ∈ namesRs rs)) ∧ mb'.length + (namesRs (snds rem)).length ≤ mb.length + (namesRs rs).length ∧ s'.length + (namesRs (snds rem)).length ≤ s.length + (namesRs rs).length
theorem followed_ok : ∀ (m : Nat) (rs : List Row) (n : Nat) (s mb : List Str), dRs rs + 1 ≤ m → RowsOk rs → GoodRs s mb rs → mb.length + (namesRs rs).length ≤ 30 → s.length + (namesRs rs).length ≤ 500 →
    ∃ mb' : List Str, p_followed m [.tup (encPs n rs), .lst (s.map .str), .lst (mb.map .str), flt] st0 = .ok (.tup [.lst ((sureRs s rs).map .str), .lst (mb'.map .str)]) st0 ∧ (∀ x, x ∈ mb' ↔ x ∈ mb ∨ x ∈ namesRs rs) ∧ mb'.length ≤ mb.length + (namesRs rs).length
  | 0, rs, n, s, mb, h1, _, _, _, _ => by omega
  | m + 1, rs, n, s, mb, h1, h2, h3, h4, h5 => by
    have ih := followed_ok m
    have loop := forL_map (g := gVar 6) (b := folBody (p_followed m)) (l := numb n rs) (F := E2) (PF (encPs n rs) s mb rs) (fun a r env st ha ⟨s', mb', g6, g7, g8, g9, g10, e1, e2, e3, e4, e5, e6, e7⟩ => by
        subst e1 e2
        obtain ⟨j, r0⟩ := a
        have hr := numb_mem ha
        have ok := rows_all h2 r0 hr
        have dd := d_all r0 hr
        refine ⟨EF (encPs n rs) s' mb' (some (encP j r0)) g7 g8 g9 g10, st0, rfl, ?_⟩
        have e3' : GoodRs s' mb' (r0 :: snds r) := e3
        rw [GoodRs] at e3'
        have e4' : sureRs s' (r0 :: snds r) = sureRs s rs := e4
        rw [sureRs] at e4'
        have e5' : ∀ x, (x ∈ mb' ∨ x ∈ namesRs (r0 :: snds r)) ↔ (x ∈ mb ∨ x ∈ namesRs rs) := e5
        have e6' : mb'.length + (namesRs (r0 :: snds r)).length ≤ mb.length + (namesRs rs).length := e6
        have e7' : s'.length + (namesRs (r0 :: snds r)).length ≤ s.length + (namesRs rs).length := e7
        rw [namesRs, List.length_append] at e6' e7'
        simp only [namesRs, List.mem_append] at e5'
        have fin : tagR r0 ≠ "draw" → tagR r0 ≠ "if" → namesR r0 = [] → sureR s' r0 = s' → ∃ e2 s2, (folBody (p_followed m) (EF (encPs n rs) s' mb' (some (encP j r0)) g7 g8 g9 g10) st0 = .nx e2 s2 ∨ folBody (p_followed m) (EF (encPs n rs) s' mb' (some (encP j r0)) g7 g8 g9 g10) st0 = .ct e2 s2) ∧ PF (encPs n rs) s mb rs r e2 s2 := fun t1 t2 t3 t4 => by
          rw [t4] at e3' e4'
          rw [t3] at e3' e6' e7'
          simp only [t3, List.not_mem_nil, false_or] at e5'
          rw [List.append_nil] at e3'
          exact ⟨_, _, Or.inl (fol_plain t1 t2), s', mb', some (encP j r0), g7, g8, g9, g10, rfl, rfl, e3'.2, e4', e5', by simpa using e6', by simpa using e7'⟩
        cases r0 with
        | put p => exact fin (by simp [tagR]) (by simp [tagR]) (by simp [namesR]) (by simp [sureR])
        | emp p => exact fin (by simp [tagR]) (by simp [tagR]) (by simp [namesR]) (by simp [sureR])
        | exch p q => exact fin (by simp [tagR]) (by simp [tagR]) (by simp [namesR]) (by simp [sureR])
        | draw x f =>
          rw [GoodR] at e3'
          rw [namesR] at e3' e6' e7'
          rw [sureR] at e3' e4'
          simp at e6' e7'
          refine ⟨_, st0, .inl (fol_draw e3'.1 (by omega) (by omega)), s' ++ [x], mb' ++ [x], some (encP j (.draw x f)), some (.str x), g8, g9, g10, rfl, rfl, e3'.2, e4', fun y => ?_, by simp; omega, by simp; omega⟩
          have := e5' y
          simp only [namesR, List.mem_singleton] at this
          simp only [List.mem_append, List.mem_singleton]
          rw [← this]
          constructor
          · rintro ((h | h) | h)
            · exact .inl h
            · exact .inr (.inl h)
            · exact .inr (.inr h)
          · rintro (h | h | h)
            · exact .inl (.inl h)
            · exact .inl (.inr h)
            · exact .inr h
        | ifs t b o =>
          rw [RowOk] at ok
          rw [dR] at dd
          rw [GoodR] at e3'
          rw [namesR] at e3' e6' e7'
          rw [sureR] at e3' e4'
          rw [List.length_append] at e6' e7'
          obtain ⟨⟨q1, q2, q3⟩, q4⟩ := e3'
          obtain ⟨m1, c1, c2, c3⟩ := ih b (j + 1) s' mb' (by omega) ok.2.2.1 q2 (by omega) (by omega)
          obtain ⟨m2, d1, d2, d3⟩ := ih o (j + 1 + cnts b + 1) s' mb' (by omega) ok.2.2.2 q3 (by omega) (by omega)
          have sl := sureRs_len b s'
          have fl := List.length_filter_le (fun x => decide (x ∈ sureRs s' o)) (sureRs s' b)
          refine ⟨_, st0, .inl (fol_if q1 (by omega) (by omega) c1 d1), _, _, _, _, _, _, _, rfl, rfl, ?_, e4', fun y => ?_, ?_, by omega⟩
          · refine good_eq (fun y => ?_) q4
            simp only [mem_sortT, mem_dedupS, List.mem_append, c2, d2]
            constructor
            · rintro (h | h | h)
              · exact .inl (.inl h)
              · exact .inl (.inr h)
              · exact .inr (.inr h)
            · rintro ((h | h) | (h | h))
              · exact .inl h
              · exact .inr (.inl h)
              · exact .inl h
              · exact .inr (.inr h)
          · have := e5' y
            simp only [namesR, List.mem_append] at this
            rw [← this]
            simp only [mem_sortT, mem_dedupS, List.mem_append, c2, d2]
            constructor
            · rintro (((h | h) | (h | h)) | h)
              · exact .inl h
              · exact .inr (.inl (.inl h))
              · exact .inl h
              · exact .inr (.inl (.inr h))
              · exact .inr (.inr h)
            · rintro (h | (h | h) | h)
              · exact .inl (.inl (.inl h))
              · exact .inl (.inl (.inr h))
              · exact .inl (.inr (.inr h))
              · exact .inr h
          · have : (sortT (dedupS (m1 ++ m2))).length ≤ (mb' ++ namesRs b ++ namesRs o).length := by
              rw [(sort_perm _).length_eq]
              refine nodup_len (nodup_dedupS _) fun x hx => ?_
              rw [mem_dedupS, List.mem_append, c2, d2] at hx
              simp only [List.mem_append]
              rcases hx with (h | h) | (h | h)
              · exact .inl (.inl h)
              · exact .inl (.inr h)
              · exact .inl (.inl h)
              · exact .inr h
            simp only [List.length_append] at this
            omega)
      (encPs n rs).length 0 (EF (encPs n rs) s mb none none none none none) st0 (by rw [enc_numb]; simp) (Nat.zero_le _) ⟨s, mb, none, none, none, none, none, rfl, rfl, by rw [List.drop_zero, snds_numb]; exact h3, by rw [List.drop_zero, snds_numb], fun x => by rw [List.drop_zero, snds_numb], by rw [List.drop_zero, snds_numb]; exact Nat.le_refl _, by rw [List.drop_zero, snds_numb]; exact Nat.le_refl _⟩
    obtain ⟨e2, s2, q1, s', mb', g6, g7, g8, g9, g10, rfl, rfl, q3, q4, q5, q6, q7⟩ := loop
    refine ⟨mb', ?_, fun x => by have := q5 x; simpa [namesRs] using this, by simpa [namesRs] using q6⟩
    have q4' : s' = sureRs s rs := by simpa [sureRs] using q4
    rw [q4'] at q1
    show runB (B_p_followed (p_followed m)) 11 4 [.tup (encPs n rs), .lst (s.map .str), .lst (mb.map .str), flt] st0 = _
    rw [← enc_numb] at q1
    rw [fol_eq]
    simp
    rw [q1]
    simp
end M
/-! SN2: the checks, with what they raise; a sampler made or refused. -/
namespace M
open PySem PySem.W Builtin Builtin.Str
def isDraw (p : Nat × Row) : Bool := decide (tagR p.2 = "draw")
def formOf : Row → Fm
  | .draw _ f => f
  | _ => (0, 1)
mutual
theorem namesR_len : ∀ (r : Row) (n : Nat), ((flatR n r).filter isDraw).length = (namesR r).length
  | .draw _ _, _ => by simp [flatR, namesR, isDraw, tagR]
  | .put _, _ => by simp [flatR, namesR, isDraw, tagR]
  | .emp _, _ => by simp [flatR, namesR, isDraw, tagR]
  | .exch _ _, _ => by simp [flatR, namesR, isDraw, tagR]
  | .ifs t b o, n => by
    have h1 := namesRs_len b (n + 1)
    have h2 := namesRs_len o (n + 1 + cnts b + 1)
    rw [flatR, namesR, List.filter_cons_of_neg (by simp [isDraw, tagR]), List.filter_append, List.length_append, List.length_append, h1, h2]
theorem namesRs_len : ∀ (rs : List Row) (n : Nat), ((flatN n rs).filter isDraw).length = (namesRs rs).length
  | [], _ => by simp [flatN, namesRs]
  | r :: rs, n => by rw [flatN, namesRs, List.filter_append, List.length_append, List.length_append, namesR_len r n, namesRs_len rs]
end
mutual
theorem cnt_flat : ∀ (r : Row) (n : Nat), cnt r ≤ 2 * (flatR n r).length
  | .draw _ _, _ => by simp [flatR, cnt]
  | .put _, _ => by simp [flatR, cnt]
  | .emp _, _ => by simp [flatR, cnt]
  | .exch _ _, _ => by simp [flatR, cnt]
  | .ifs t b o, n => by
    have h1 := cnts_flat b (n + 1)
    have h2 := cnts_flat o (n + 1 + cnts b + 1)
    rw [flatR, cnt, List.length_cons, List.length_append]
    split <;> omega
theorem cnts_flat : ∀ (rs : List Row) (n : Nat), cnts rs ≤ 2 * (flatN n rs).length
  | [], _ => by simp [flatN, cnts]
  | r :: rs, n => by
    have h1 := cnt_flat r n
    have h2 := cnts_flat rs (n + cnt r)
    rw [flatN, cnts, List.length_append]
    omega
end
mutual
def sz : Row → Nat
  | .ifs _ b o => 1 + szs b + szs o
  | _ => 1
def szs : List Row → Nat
  | [] => 0
  | r :: rs => sz r + szs rs
end
mutual
theorem flatR_sz : ∀ (r : Row) (n : Nat), (flatR n r).length = sz r
  | .draw _ _, _ => by simp [flatR, sz]
  | .put _, _ => by simp [flatR, sz]
  | .emp _, _ => by simp [flatR, sz]
  | .exch _ _, _ => by simp [flatR, sz]
  | .ifs t b o, n => by
    rw [flatR, sz, List.length_cons, List.length_append, flatN_sz b, flatN_sz o]
    omega
theorem flatN_sz : ∀ (rs : List Row) (n : Nat), (flatN n rs).length = szs rs
  | [], _ => by simp [flatN, szs]
  | r :: rs, n => by rw [flatN, szs, List.length_append, flatR_sz r, flatN_sz rs]
end

/-- what a program is like, but for the limits -/
structure ShapeL (c : Int) (rs : List Row) : Prop where
  three : c ∈ threes
  ok : RowsOk rs
  deep : dRs rs ≤ 5
  many : szs rs ≤ 60
  draws : (namesRs rs).length ≤ 20
  there : ∀ p ∈ flatN 1 rs, beyond c p.2 = false
  good : GoodRs [] [] rs
def isLow (p : Nat × Row) : Bool := decide ((formOf p.2).1 + (formOf p.2).2 < 1)
/-- the lines that draw below less than 1 -/
def lowL (rs : List Row) : List Nat := (((flatN 1 rs).filter isDraw).filter isLow).map (·.1)
def sizesF (rs : List Row) : Option String := if 24 < szs rs then some "statements" else if 6 < (namesRs rs).length then some "draws" else if 4 < dRs rs then some "nested" else none
def wayF (rs : List Row) : Option String := if 3 < mdRs rs then some "way" else none
def tooR (w : Option String) (st : Sto) (r : R D) : R D := match w with
  | some w => .exc "TooMuch" [("what", .str (Str.ofString w))] st
  | none => r
@[simp] theorem liftS_exc {α : Type} {C : Str} {fs : List (Str × D)} {st : Sto} {env : Env} {k : α → Sto → RS} : liftS (.exc C fs st : R α) env k = .exc C fs env st := Eq.trans rfl rfl
@[simp] theorem kSeq_exc {q : IS} {C : Str} {fs : List (Str × D)} {st : Sto} {env : Env} : kSeq q (.exc C fs env st) = .exc C fs env st := Eq.trans rfl rfl
@[simp] theorem endB_exc {C : Str} {fs : List (Str × D)} {st : Sto} {env : Env} : endB (.exc C fs env st) = .exc C fs st := Eq.trans rfl rfl
@[simp] theorem sRaise_d {C : Str} {n : Nat} {fs : List Str} {gD : List D → List D → List D} {j : IA} {env : Env} {st : Sto} : sRaise C n fs gD j env st = liftS (j env st) env fun ds s => if ds.length = n ∧ n ≤ 1000 then .exc C (fs.zip (gD ds [])).reverse env s else .bad := Eq.trans rfl rfl
section
variable {c : Int} {rs : List Row} (P : ShapeL c rs) (st : Sto)
include P
theorem prog_cnts : cnts rs ≤ 120 := by have := cnts_flat rs 1; have := P.many; have := flatN_sz rs 1; omega
theorem flat12 : p_flat 12 [.tup (encPs 1 rs)] st = .ok (.lst ((flatN 1 rs).map E2)) st := flat_ok 12 rs 1 st (by have := P.deep; omega) (by have := P.deep; omega) P.ok (by have := prog_cnts P; omega)
theorem draws_comp {env0 : Env} {k : Nat} (hb : ∀ d, ∃ env, (Pat.one k).bind d env0 = some env ∧ env[k]? = some (some d)) :
    compF (nxL ((flatN 1 rs).map E2)) (.one k) (tBl (iBin (opEq false) (iBin opIx (iVar k) (iC (.int 0))) (iC (.str "draw")))) (iVar k) env0 ((flatN 1 rs).map E2).length 0 [] st = .ok (((flatN 1 rs).filter isDraw).map E2) st :=
  compF_rows isDraw E2 (by have := P.many; have := flatN_sz rs 1; omega) fun a _ => by
    obtain ⟨env, h1, h2⟩ := hb (E2 a)
    exact ⟨env, h1, by simp [h2, ix_tag, isDraw], fun _ => by simp [h2]⟩
theorem sizes_is : p_check_sizes [.tup (encPs 1 rs)] st = tooR (sizesF rs) st (.ok .non st) := by
  have f := fun st => flat12 P st
  have nl := namesRs_len rs 1
  have fz := flatN_sz rs 1
  have e0 := P.deep
  have dc := draws_comp P st (k := 2) (env0 := [some (.tup (encPs 1 rs)), some (.lst ((flatN 1 rs).map E2)), none]) (fun d => ⟨_, rfl, rfl⟩)
  simp only [List.length_map] at dc
  have nk := fun st => nesting_ok 12 rs 1 st (by omega) P.ok (by have := prog_cnts P; omega)
  unfold sizesF
  by_cases h1 : 24 < szs rs
  · have h1' : ((24 : Int) < ((flatN 1 rs).length : Int)) := by omega
    simp [p_check_sizes, B_p_check_sizes, f, len_lst, opCmp, h1', h1, tooR, gCat]
  · have h1' : ¬ ((24 : Int) < ((flatN 1 rs).length : Int)) := by omega
    by_cases h2 : 6 < (namesRs rs).length
    · have h2' : ((6 : Int) < (((flatN 1 rs).filter isDraw).length : Int)) := by omega
      simp [p_check_sizes, B_p_check_sizes, f, len_lst, opCmp, h1', h1, Pat.slots, wipeE, dc, h2', h2, tooR, gCat]
    · have h2' : ¬ ((6 : Int) < (((flatN 1 rs).filter isDraw).length : Int)) := by omega
      by_cases h3 : 4 < dRs rs
      · have h3' : ((4 : Int) < (dRs rs : Int)) := by omega
        simp [p_check_sizes, B_p_check_sizes, f, len_lst, opCmp, h1', h1, Pat.slots, wipeE, dc, h2', h2, nk, h3', h3, tooR, gCat]
      · have h3' : ¬ ((4 : Int) < (dRs rs : Int)) := by omega
        simp [p_check_sizes, B_p_check_sizes, f, len_lst, opCmp, h1', h1, Pat.slots, wipeE, dc, h2', h2, nk, h3', h3, tooR, gCat]
theorem way_is : p_check_way [.tup (encPs 1 rs)] st = tooR (wayF rs) st (.ok .non st) := by
  have mk := fun st => most_ok 12 rs 1 st (by have := P.deep; omega) P.ok
  unfold wayF
  by_cases h : 3 < mdRs rs
  · have h3 : ((3 : Int) < (mdRs rs : Int)) := by omega
    simp [p_check_way, B_p_check_way, mk, opCmp, h3, h, tooR, gCat]
  · have h3 : ¬ ((3 : Int) < (mdRs rs : Int)) := by omega
    simp [p_check_way, B_p_check_way, mk, opCmp, h3, h, tooR, gCat]
theorem program_low (l : List Nat) : p_check_program [.tup (encPs 1 rs), .int c, .lst (l.map fun k : Nat => .int k)] st = match l with
    | [] => .ok .non st
    | k :: _ => .exc "BelowOne" [("line", .int k)] st := by
  have d0 := P.deep
  have nf : ((flatN 1 rs).filter fun p => beyond c p.2) = [] := List.filter_eq_nil_iff.mpr fun p hp => by rw [P.there p hp]; exact Bool.false_ne_true
  have b0 : ∀ st, p_lines_beyond [.tup (encPs 1 rs), .int c] st = .ok (.lst []) st := fun st => by
    rw [beyond_ok st (by omega) P.ok (by have := prog_cnts P; omega), nf]; rfl
  obtain ⟨mb', f1, f2, f3⟩ := followed_ok 12 rs 1 [] [] (by omega) P.ok P.good (by have := P.draws; simp; omega) (by have := P.draws; simp; omega)
  have f1' : p_followed 12 [.tup (encPs 1 rs), .lst [], .lst [], flt] st0 = .ok (.tup [.lst ((sureRs [] rs).map .str), .lst (mb'.map .str)]) st0 := f1
  have p0 := encPs_pd (k := 1) 0 P.ok
  have nl : ∀ l : List Nat, noRefs (l.map fun k : Nat => D.int k) = true := fun l => by
    induction l with
    | nil => rfl
    | cons a l ih => rw [List.map_cons, noRefs, ih]; rfl
  have nr : noRefs [.tup (encPs 1 rs), .int c, .lst (l.map fun k : Nat => D.int k)] = true := by simp [noRefs, noRef, pds_noRef p0, nl]
  cases l with
  | nil =>
    have body : runB B_p_check_program 6 3 [.tup (encPs 1 rs), .int c, .lst []] [] = .ok .non st0 := by
      simp [B_p_check_program, b0, truD]
      rw [f1']
      simp [truD]
    show pureA (runB B_p_check_program 6 3) [.tup (encPs 1 rs), .int c, .lst []] st = _
    unfold pureA
    rw [if_pos (by simpa using nr), body]
    rfl
  | cons k l =>
    have body : runB B_p_check_program 6 3 [.tup (encPs 1 rs), .int c, .lst ((k :: l).map fun k : Nat => D.int k)] [] = .exc "BelowOne" [("line", .int k)] st0 := by
      have i0 : ∀ st, opIx (.lst (.int k :: l.map fun k : Nat => D.int k)) (.int 0) st = some (.int k, st) := fun st => by
        simp [opIx, aseq, L2.atI, L2.ixN]
      simp [B_p_check_program, b0, truD]
      rw [f1']
      simp [truD, i0, gCat]
    show pureA (runB B_p_check_program 6 3) [.tup (encPs 1 rs), .int c, .lst ((k :: l).map fun k : Nat => D.int k)] st = _
    unfold pureA
    rw [if_pos nr, body]
    rfl
theorem low_comp {env0 : Env} {k : Nat} (hb : ∀ d, ∃ env, (Pat.one k).bind d env0 = some env ∧ env[k]? = some (some d)) :
    compF (nxL (((flatN 1 rs).filter isDraw).map E2)) (.one k) (tBl (iBin opLt (iBin opAdd (iBin opIx (iBin opIx (iVar k) (iC (.int 3))) (iC (.int 0))) (iBin opIx (iBin opIx (iVar k) (iC (.int 3))) (iC (.int 1)))) (iC (.int 1)))) (iBin opIx (iVar k) (iC (.int 1))) env0 (((flatN 1 rs).filter isDraw).map E2).length 0 [] st = .ok ((lowL rs).map fun k : Nat => .int k) st := by
  have := compF_rows (l := (flatN 1 rs).filter isDraw) (F := E2) (p := .one k) (t := (tBl (iBin opLt (iBin opAdd (iBin opIx (iBin opIx (iVar k) (iC (.int 3))) (iC (.int 0))) (iBin opIx (iBin opIx (iVar k) (iC (.int 3))) (iC (.int 1)))) (iC (.int 1))))) (e := (iBin opIx (iVar k) (iC (.int 1)))) (env0 := env0) (st := st) isLow (fun p => .int p.1) (by
      have := P.many
      have := flatN_sz rs 1
      have := List.length_filter_le isDraw (flatN 1 rs)
      omega) (fun a ha => by
    obtain ⟨env, h1, h2⟩ := hb (E2 a)
    obtain ⟨h3, h4⟩ := List.mem_filter.mp ha
    obtain ⟨j, r⟩ := a
    have ht : tagR r = "draw" := of_decide_eq_true h4
    cases r with
    | draw x f =>
      have i3 : ∀ st, opIx (encP j (.draw x f)) (.int 3) st = some (encF f, st) := fun st => by simp [encP, opIx, aseq, L2.atI, L2.ixN]
      exact ⟨env, h1, by simp [h2, i3, encF, ix0, ix1, opAdd, opCmp, isLow, formOf]; rfl, fun z => by simp [h2, ix_line]⟩
    | _ => simp [tagR] at ht)
  unfold lowL
  rw [List.map_map]
  exact this
end
theorem isi_str (x : Str) (st : Sto) : opIsiI [] [] (isaT tl_str) [.str x, .ty "str"] st = some (.bl true, st) := by kernel_rfl
def treeD (rs : List Row) : D := .tup (encPs 1 rs)
/-- a sampler's fields -/
def insS (c : Int) (rs : List Row) : O := .ins "Sampler" [("source", .str (samplerT c rs)), ("wide", .int c), ("tree", treeD rs)]
def lowR (l : List Nat) (st : Sto) (r : R D) : R D := match l with
  | [] => r
  | k :: _ => .exc "BelowOne" [("line", .int k)] st
theorem init_is {c : Int} {rs : List Row} (P : ShapeL c rs) {st : Sto} {k : Nat} (hk : st[k]? = some (.ins "Sampler" [])) : p_Sampler___init__ [.ref k, .str (samplerT c rs)] st = tooR (sizesF rs) st (lowR (lowL rs) st (tooR (wayF rs) st (.ok .non (st.set k (insS c rs))))) := by
  have hc := prog_cnts P
  have si := fun st => sampler_in_ok P.three P.ok (by have := P.deep; omega) (by omega) st
  have f := fun st => flat12 P st
  have dc := draws_comp P st (k := 6) (env0 := [some (.ref k), some (.str (samplerT c rs)), some (.tup [.int c, .tup (encPs 1 rs)]), some (.int c), some (.tup (encPs 1 rs)), none, none]) (fun d => ⟨_, rfl, rfl⟩)
  have lc := low_comp P st (k := 6) (env0 := [some (.ref k), some (.str (samplerT c rs)), some (.tup [.int c, .tup (encPs 1 rs)]), some (.int c), some (.tup (encPs 1 rs)), some (.lst (((flatN 1 rs).filter isDraw).map E2)), none]) (fun d => ⟨_, rfl, rfl⟩)
  simp only [List.length_map] at dc lc
  have hl : k < st.length := (List.getElem?_eq_some_iff.mp hk).1
  have g1 : ∀ o : O, (st.set k o)[k]? = some o := fun o => List.getElem?_set_self hl
  have sz := fun st => sizes_is P st
  have wy := fun st => way_is P st
  have pl := fun st => program_low P st (lowL rs)
  cases e1 : sizesF rs with
  | some w =>
    simp only [e1, tooR] at sz
    simp [p_Sampler___init__, B_p_Sampler___init__, isi_str, si, sz, tooR]
  | none =>
    simp only [e1, tooR] at sz
    cases e3 : lowL rs with
    | cons a l =>
      simp only [e3] at pl lc
      simp at pl lc
      simp [p_Sampler___init__, B_p_Sampler___init__, isi_str, si, sz, f, Pat.slots, wipeE, dc, lc, pl, tooR, lowR]
    | nil =>
      simp only [e3] at pl lc
      simp at pl lc
      cases e2 : wayF rs with
      | some w =>
        simp only [e2, tooR] at wy
        simp [p_Sampler___init__, B_p_Sampler___init__, isi_str, si, sz, f, Pat.slots, wipeE, dc, lc, pl, wy, tooR, lowR]
      | none =>
        simp only [e2, tooR] at wy
        simp [p_Sampler___init__, B_p_Sampler___init__, isi_str, si, sz, f, Pat.slots, wipeE, dc, lc, pl, wy, sPut, kPut, hk, g1, putD, ofString_inj, insS, treeD, tooR, lowR]
/-- a text that is none -/
theorem init_text {T : Str} (h : ∀ st, p_sampler_in [.str T] st = .ok .non st) {st : Sto} {k : Nat} : p_Sampler___init__ [.ref k, .str T] st = .exc "InvalidText" [("value", .str T)] st := by
  simp [p_Sampler___init__, B_p_Sampler___init__, isi_str, h, gCat]
end M
/-! KD1: writings that are no forms; blocks with a line that is none. -/
namespace M
open PySem PySem.W Builtin Builtin.Str
def upto12 : List Int := [-9, -8, -7, -6, -5, -4, -3, -2, -1, 0, 1, 2, 3, 4, 5, 6, 7, 8, 9, 10, 11, 12]
theorem fmt12_m (st : Sto) : upto12.map (fun c => opFmt (.int c) st) = upto12.map (fun c => some (.str (its c), st)) := by kernel_rfl
theorem mem12 {c : Int} (h : -9 ≤ c) (h' : c ≤ 12) : c ∈ upto12 := by simp only [upto12, List.mem_cons, List.not_mem_nil, or_false]; omega
abbrev numB : IS := (sIf (tBl (iBin (opEq false) (iUn opFmt (iVar 3)) (iVar 0))) (sRet (iVar 3)) sNil)
theorem number_none {y : Str} {a b : Int} (h0 : -9 ≤ a) (h1 : b ≤ 12) (h2 : a ≤ b) (h : ∀ c, a ≤ c → c ≤ b → y ≠ its c) (st : Sto) : p_number_in [.str y, .int a, .int b] st = .ok .non st := by
  have loop := forL_inv (nx := nxR a (b + 1 - a).toNat) (g := gVar 3) (b := numB) (xs := (List.range (b + 1 - a).toNat).map fun i : Nat => D.int (a + i)) (fun env s => ∃ g, env = [some (.str y), some (.int a), some (.int b), g] ∧ s = st) (fun i st => by
    unfold nxR
    by_cases hi : i < (b + 1 - a).toNat
    · rw [if_pos hi, List.getElem?_map, List.getElem?_range hi]; rfl
    · rw [if_neg hi, List.getElem?_eq_none (by simp; omega)]) (fun d hd env s ⟨g, e1, e2⟩ => by
    subst e1 e2
    obtain ⟨i, hi, rfl⟩ := List.mem_map.mp hd
    have hi' := List.mem_range.mp hi
    have f := map_get (fmt12_m s) (a + i) (mem12 (by omega) (by omega))
    have ne := h (a + i) (by omega) (by omega)
    have ne' : ¬ its (a + i) = y := fun e => ne e.symm
    refine ⟨_, s, rfl, _, s, .inl ?_, some (.int (a + i)), rfl, rfl⟩
    simp [f, eq_str, ne']) (b + 1 - a).toNat 0 [some (.str y), some (.int a), some (.int b), none] st (by simp) ⟨none, rfl, rfl⟩
  obtain ⟨e2, s2, l1, g, rfl, rfl⟩ := loop
  have rg : wRng2 (aCons (iVar 1) (aCons (iBin opAdd (iVar 2) (iC (.int 1))) aNil)) [some (.str y), some (.int a), some (.int b), none] s2 = .ok (nxR a (b + 1 - a).toNat, (b + 1 - a).toNat) s2 := by
    show ((aCons (iVar 1) (aCons (iBin opAdd (iVar 2) (iC (.int 1))) aNil)) [some (.str y), some (.int a), some (.int b), none] s2).bind kRng2 = _
    have k : kRng2 [.int a, .int (b + 1)] s2 = .ok (nxR a (b + 1 - a).toNat, (b + 1 - a).toNat) s2 := by
      show (if -(2 ^ 62) ≤ a ∧ a < 2 ^ 62 ∧ -(2 ^ 62) ≤ b + 1 ∧ b + 1 < 2 ^ 62 then R.ok (nxR a (b + 1 - a).toNat, (b + 1 - a).toNat) s2 else .bad) = _
      rw [if_pos (by omega)]
    simp [opAdd, k]
  have start : p_number_in [.str y, .int a, .int b] s2 = endB (kSeq (sRet (iC .non)) (liftS (wRng2 (aCons (iVar 1) (aCons (iBin opAdd (iVar 2) (iC (.int 1))) aNil)) [some (.str y), some (.int a), some (.int b), none] s2) [some (.str y), some (.int a), some (.int b), none] fun x s => forL x.1 (gVar 3) numB x.2 0 [some (.str y), some (.int a), some (.int b), none] s)) := rfl
  rw [start, rg, liftS_ok, l1]
  rfl
def formB : IS := (sSeq (sIf (tBl (iBin (opEq false) (iVar 0) (iVar 2))) (sRet (iN opTup (aCons (iBin opAdd (iVar 1) (iC (.int 1))) (aCons (iC (.int 0)) aNil)))) sNil)
  (sIf (tOr' (tTru (iM1 opStarts (iVar 0) (iBin opAdd (iVar 2) (iC (.str " + "))))) (tTru (iM1 opStarts (iVar 0) (iBin opAdd (iVar 2) (iC (.str " - ")))))) (sSeq (sSet 3 (iCall p_number_in [] (aCons (iSl (iVar 0) (oSome (iBin opAdd (iN opLen (aCons (iVar 2) aNil)) (iC (.int 3)))) oNone) (aCons (iC (.int 1)) (aCons (iC (.int 9)) aNil)))))
  (sSeq (sIf (tBl (iBin (opIs false) (iVar 3) (iC .non))) (sRet (iC .non)) sNil)
  (sRet (iN opTup (aCons (iBin opAdd (iVar 1) (iC (.int 1))) (aCons (iIf (tBl (iBin (opEq false) (iBin opIx (iVar 0) (iBin opAdd (iN opLen (aCons (iVar 2) aNil)) (iC (.int 1)))) (iC (.str "+")))) (iVar 3) (iBin opSub (iC (.int 0)) (iVar 3))) aNil)))))) sNil))
theorem form_eq : B_p_form_in = (sSeq (sFor (wEnum (aCons (iC (.tup (dv_HEADS.map dvD))) aNil)) (gTup' 2 (gsVar 1 (gsVar 2 gsNil))) formB)
  (sSeq (sSet 3 (iCall p_number_in [] (aCons (iVar 0) (aCons (iBin opSub (iC (.int 0)) (iC (.int 9))) (aCons (iC (.int 9)) aNil)))))
  (sRet (iIf (tBl (iBin (opIs false) (iVar 3) (iC .non))) (iC .non) (iN opTup (aCons (iC (.int 0)) (aCons (iVar 3) aNil))))))) := rfl
def slice (x : Str) (n : Nat) : Str := ⟨((toL x).drop n).toArray⟩
theorem sl_pre {p x : Str} (h : (toL p).isPrefixOf (toL x) = true) : x = p ++ slice x p.length := by
  obtain ⟨t, ht⟩ := List.isPrefixOf_iff_prefix.mp h
  refine toL_inj ?_
  rw [toL_app]
  have : toL (slice x p.length) = (toL x).drop (toL p).length := by
    unfold slice
    rw [len_toL]
  rw [this, ← ht, List.drop_left]
theorem form_step {x h : Str} {i : Nat} {g3 : Option D} (hx : x ≠ h) (hl : x.length ≤ 1000) (hh : h.length ≤ 10) (hb : ∀ s : Str, s = Str.ofString " + " ∨ s = Str.ofString " - " → ∀ c, 1 ≤ c → c ≤ 9 → x ≠ h ++ s ++ its c) (st : Sto) :
    formB [some (.str x), some (.int i), some (.str h), g3] st = .ret .non st ∨ formB [some (.str x), some (.int i), some (.str h), g3] st = .nx [some (.str x), some (.int i), some (.str h), g3] st := by
  have l1 : (Str.ofString " + ").length = 3 := by kernel_rfl
  have l2 : (Str.ofString " - ").length = 3 := by kernel_rfl
  have big := sizeLine_big
  have z1 : h.length + (Str.ofString " + ").length ≤ sizeLine := by omega
  have z2 : h.length + (Str.ofString " - ").length ≤ sizeLine := by omega
  have lh : ∀ st, opLen [.str h] st = some (.int h.length, st) := fun st => len_str (by omega) st
  have hit : ∀ s : Str, s = Str.ofString " + " ∨ s = Str.ofString " - " → (toL (h ++ s)).isPrefixOf (toL x) = true → ∀ st, opSl (.str x) (some ((h.length : Int) + 3)) none st = some (.str (slice x (h.length + 3)), st) ∧ p_number_in [.str (slice x (h.length + 3)), .int 1, .int 9] st = .ok .non st := fun s hs hp st => by
    have l3 : (h ++ s).length = h.length + 3 := by rcases hs with rfl | rfl <;> rw [len_app] <;> omega
    have e := sl_pre hp
    rw [l3] at e
    refine ⟨?_, number_none (by omega) (by omega) (by omega) (fun c c0 c1 q => ?_) st⟩
    · have := sl_from (z := x) (r := slice x (h.length + 3)) (a := toL (h ++ s)) (k := h.length + 3) st (by omega) (by rw [← toL_app]; exact congrArg toL e) (by rw [← len_toL, l3])
      simpa using this
    · exact hb s hs c c0 c1 (by rw [← q]; exact e)
  cases hp : (toL (h ++ Str.ofString " + ")).isPrefixOf (toL x) with
  | true =>
    have s1 := fun st => (hit _ (.inl rfl) hp st).1
    have s2 := fun st => (hit _ (.inl rfl) hp st).2
    left
    simp [formB, eq_str, hx, opAdd, z1, op_starts, hp, lh, s1, s2]
  | false =>
    cases hm : (toL (h ++ Str.ofString " - ")).isPrefixOf (toL x) with
    | true =>
      have s1 := fun st => (hit _ (.inr rfl) hm st).1
      have s2 := fun st => (hit _ (.inr rfl) hm st).2
      left
      simp [formB, eq_str, hx, opAdd, z1, z2, op_starts, hp, hm, lh, s1, s2]
    | false =>
      right
      simp [formB, eq_str, hx, opAdd, z1, z2, op_starts, hp, hm]
theorem form_none {x : Str} (hl : x.length ≤ 1000) (h : ∀ f ∈ forms, x ≠ formT f) (st : Sto) : p_form_in [.str x] st = .ok .non st := by
  have hd : dv_HEADS.map dvD = [D.str (headT 1), .str (headT 2), .str (headT 3)] := by kernel_rfl
  have hlen : ∀ k ∈ ([1, 2, 3] : List Int), (headT k).length ≤ 10 := by decide +kernel
  have hx : ∀ k ∈ ([1, 2, 3] : List Int), x ≠ headT k := fun k hk => by
    have hk' : k = 1 ∨ k = 2 ∨ k = 3 := by simpa using hk
    have m : ((k, 0) : Fm) ∈ forms := mem_forms (by simp; omega) (by simp; omega) (by simp) (by simp)
    have := h _ m
    unfold formT at this
    rw [if_neg (by simp; omega), if_pos (by simp)] at this
    exact this
  have hb : ∀ k ∈ ([1, 2, 3] : List Int), ∀ s : Str, s = Str.ofString " + " ∨ s = Str.ofString " - " → ∀ c, 1 ≤ c → c ≤ 9 → x ≠ headT k ++ s ++ its c := fun k hk s hs c c0 c1 => by
    have hk' : k = 1 ∨ k = 2 ∨ k = 3 := by simpa using hk
    rcases hs with rfl | rfl
    · have m : ((k, c) : Fm) ∈ forms := mem_forms (by simp; omega) (by simp; omega) (by simp; omega) (by simp; omega)
      have := h _ m
      unfold formT at this
      rw [if_neg (by simp; omega), if_neg (by simp; omega), if_pos (by simp; omega)] at this
      rw [Str.append_assoc]
      exact this
    · have m : ((k, -c) : Fm) ∈ forms := mem_forms (by simp; omega) (by simp; omega) (by simp; omega) (by simp; omega)
      have := h _ m
      unfold formT at this
      rw [if_neg (by simp; omega), if_neg (by simp; omega), if_neg (by simp; omega)] at this
      rw [Str.append_assoc]
      simp only [Int.neg_neg] at this
      exact this
  have nn : ∀ st, p_number_in [.str x, .int (-9), .int 9] st = .ok .non st := fun st => number_none (by omega) (by omega) (by omega) (fun c c0 c1 e => by
    have m : ((0, c) : Fm) ∈ forms := mem_forms (by simp) (by simp) (by simp; omega) (by simp; omega)
    have := h _ m
    unfold formT at this
    rw [if_pos (by simp)] at this
    exact this e) st
  have st1 := fun g st => form_step (i := 0) (g3 := g) (hx 1 (by decide)) hl (hlen 1 (by decide)) (hb 1 (by decide)) st
  have st2 := fun g st => form_step (i := 1) (g3 := g) (hx 2 (by decide)) hl (hlen 2 (by decide)) (hb 2 (by decide)) st
  have st3 := fun g st => form_step (i := 2) (g3 := g) (hx 3 (by decide)) hl (hlen 3 (by decide)) (hb 3 (by decide)) st
  have we : wEnum (aCons (iC (.tup (dv_HEADS.map dvD))) aNil) [some (.str x), none, none, none] st = .ok (nxE [D.str (headT 1), .str (headT 2), .str (headT 3)], 3) st := by
    rw [hd]; rfl
  show runB B_p_form_in 4 1 [.str x] st = _
  rw [form_eq]
  simp [we]
  have n0 : ∀ st, nxE [D.str (headT 1), .str (headT 2), .str (headT 3)] 0 st = some (some (.tup [.int (0 : Nat), .str (headT 1)])) := fun _ => rfl
  have n1 : ∀ st, nxE [D.str (headT 1), .str (headT 2), .str (headT 3)] 1 st = some (some (.tup [.int (1 : Nat), .str (headT 2)])) := fun _ => rfl
  have n2 : ∀ st, nxE [D.str (headT 1), .str (headT 2), .str (headT 3)] 2 st = some (some (.tup [.int (2 : Nat), .str (headT 3)])) := fun _ => rfl
  have n3 : ∀ st, nxE [D.str (headT 1), .str (headT 2), .str (headT 3)] 3 st = some none := fun _ => rfl
  have t1 := st1 none st
  have t2 := st2 none st
  have t3 := st3 none st
  rcases t1 with t1 | t1
  · simp at t1
    simp [forL, n0, t1, kWhile]
  · rcases t2 with t2 | t2
    · simp at t1 t2
      simp [forL, n0, n1, t1, t2, kWhile]
    · rcases t3 with t3 | t3
      · simp at t1 t2 t3
        simp [forL, n0, n1, n2, t1, t2, t3, kWhile]
      · simp at t1 t2 t3
        simp [forL, n0, n1, n2, n3, t1, t2, t3, kWhile, opSub, nn]
theorem form_in_none {W : Str} (hl : W.length ≤ 1000) (h : ∀ f ∈ forms, W ≠ formT f) (st : Sto) : p_form_in [.str W] st = .ok .non st := form_none hl h st
/-! ### lines that fail -/
def cutT (x W : Str) : Str := x ++ Str.ofString " < " ++ W
def dropT (x W : Str) : Str := (Str.ofString "draw ") ++ (x ++ (Str.ofString " below ") ++ W)
theorem test_none {x W : Str} (hx : NameOk x) (hl : W.length ≤ 1000) (h : ∀ f ∈ forms, W ≠ formT f) (st : Sto) : p_test_in [.str (cutT x W)] st = .ok .non st := by
  have big := sizeLine_big
  have l1 : (Str.ofString " < ").length = 3 := by kernel_rfl
  have l4 := name_len hx
  have a1 : (toL (Str.ofString "n < ")).isPrefixOf (toL (cutT x W)) = false := by
    show (toL (Str.ofString "n < ")).isPrefixOf (toL (x ++ _ ++ _)) = false
    rw [toL_app, toL_app, List.append_assoc]
    exact name_pre (s' := [60, 32]) hx (by kernel_rfl)
  have a2 : (toL (Str.ofString "n is ")).isPrefixOf (toL (cutT x W)) = false := by
    show (toL (Str.ofString "n is ")).isPrefixOf (toL (x ++ _ ++ _)) = false
    rw [toL_app, toL_app, List.append_assoc]
    exact name_pre (s' := [105, 115, 32]) hx (by kernel_rfl)
  have e2 : ∀ st, opPart (.str (cutT x W)) (.str (Str.ofString " < ")) st = some (.tup [.str x, .str (Str.ofString " < "), .str W], st) := fun st =>
    op_part st (by rw [l1]; rfl) (by show (x ++ Str.ofString " < " ++ W).length ≤ sizeLine; simp only [len_app]; omega) (part_at (d := 32) (y := [60, 32]) (by kernel_rfl) (name_no hx (by decide)))
  simp [p_test_in, B_p_test_in, forL, nxL, kWhile, op_starts, a1, a2, p_name_test_in, B_p_name_test_in, e2, is_name_ok hx, form_in_none hl h]
theorem draw_none {x W : Str} (hx : NameOk x) (hl : W.length ≤ 1000) (h : ∀ f ∈ forms, W ≠ formT f) (line : Int) (st : Sto) : p_line_in [.str (dropT x W), .int line] st = .ok .non st := by
  have big := sizeLine_big
  have l1 : (Str.ofString "draw ").length = 5 := by kernel_rfl
  have l2 : (Str.ofString " below ").length = 7 := by kernel_rfl
  have l0 : (Str.ofString " ").length = 1 := by kernel_rfl
  have l4 := name_len hx
  have d1 : ∀ st, opSl (.str (dropT x W)) (some 5) none st = some (.str (x ++ (Str.ofString " below ") ++ W), st) := fun st =>
    sl_from (k := 5) st (by unfold dropT; simp only [len_app]; omega) (by unfold dropT; rw [toL_app]) (by rw [← len_toL, l1])
  have d2 : ∀ st, opPart (.str (x ++ (Str.ofString " below ") ++ W)) (.str (Str.ofString " below ")) st = some (.tup [.str x, .str (Str.ofString " below "), .str W], st) := fun st =>
    op_part st (by rw [l2]; rfl) (by simp only [len_app]; omega) (part_at (d := 32) (y := [98, 101, 108, 111, 119, 32]) (by kernel_rfl) (name_no hx (by decide)))
  have d3 : (toL (Str.ofString "draw ")).isPrefixOf (toL (dropT x W)) = true := by
    unfold dropT
    rw [toL_app]
    exact List.isPrefixOf_iff_prefix.mpr (List.prefix_append _ _)
  have di : ∀ st, p_draw_in [.str (dropT x W), .int line, .glo "form_in"] st = .ok .non st := fun st => by
    simp [p_draw_in, B_p_draw_in, d1, d2, form_in_none hl h, op_starts, d3, is_name_ok hx]
  obtain ⟨u, v, hs⟩ := split_head (t := dropT x W) (w := Str.ofString "draw") (r := toL (x ++ (Str.ofString " below ") ++ W)) (by
    unfold dropT
    rw [toL_app, show toL (Str.ofString "draw ") = toL (Str.ofString "draw") ++ [32] by kernel_rfl]
    simp) (by decide +kernel)
  have e1 : ∀ st, opSplit (.str (dropT x W)) (.str (Str.ofString " ")) st = some (.lst (((Str.ofString "draw") :: u :: v).map .str), st) := fun st => by
    show (if _ ∧ _ then some (D.lst ((Txt.split (dropT x W) (Str.ofString " ")).map .str), st) else none) = _
    rw [if_pos ⟨by rw [l0]; rfl, by unfold dropT; simp only [len_app]; omega⟩, hs]
  have ix : ∀ (d : D) (ds : List D) st, opIx (.lst (d :: ds)) (.int 0) st = some (d, st) := fun d ds st => by
    simp [opIx, aseq, L2.atI, L2.ixN]
  simp [p_line_in, B_p_line_in, e1, ix, di]
/-! ### blocks that fail -/
/-- a line at which the body of the loop hands back None -/
def BadAt (rb : Fn) (L : List Str) (n k : Nat) : Prop := ∀ (acc : List D) (g7 g8 g9 g10 g11 g12 g13 g14 : Option D), ∃ st, blkBody rb (EB L n k g7 g8 g9 g10 g11 g12 g13 g14) [.lst acc] = .ret .non st
theorem bad_loop {rb : Fn} {L : List Str} {k n : Nat} (h : BadAt rb L n k) (hn : n < L.length) (N : Nat) (acc : List D) (g7 g8 g9 g10 g11 g12 g13 g14 : Option D) : ∃ st, sWhileN blkCond (blkBody rb) (N + 1) (EB L n k g7 g8 g9 g10 g11 g12 g13 g14) [.lst acc] = .ret .non st := by
  obtain ⟨st, e⟩ := h acc g7 g8 g9 g10 g11 g12 g13 g14
  have hlt : (n : Int) < (L.length : Int) := by omega
  have ec : blkCond (EB L n k g7 g8 g9 g10 g11 g12 g13 g14) [.lst acc] = .ok true [.lst acc] := by simp [blkCond, opLen, lenD, aseq, opCmp, hlt]
  refine ⟨st, ?_⟩
  rw [sWhileN_d, ec]
  show kWhile (blkBody rb) _ (blkBody rb (EB L n k g7 g8 g9 g10 g11 g12 g13 g14) [.lst acc]) = _
  rw [e]
  rfl
/-- some statements other than ifs ahead of it -/
theorem bad_rows {rb : Fn} {L : List Str} {k : Nat} (hk : k ≤ 1000) : ∀ (rs : List Row) (n : Nat) (N : Nat) (acc : List D) (pre post : List Str) (g7 g8 g9 g10 g11 g12 g13 g14 : Option D), L = pre ++ rs.map (fun r => sp k ++ rowT r) ++ post → pre.length = n → (∀ r ∈ rs, RowOk r ∧ notIf r = true) → post ≠ [] → BadAt rb L (n + rs.length) k → acc.length + rs.length ≤ 100000 → rs.length < N →
    ∃ st, sWhileN blkCond (blkBody rb) N (EB L n k g7 g8 g9 g10 g11 g12 g13 g14) [.lst acc] = .ret .non st
  | _, _, 0, _, _, _, _, _, _, _, _, _, _, _, _, _, _, _, _, _, h => absurd h (Nat.not_lt_zero _)
  | [], n, N + 1, acc, pre, post, g7, g8, g9, g10, g11, g12, g13, g14, hL, hn, _, hp, hb, _, _ => bad_loop (by simpa using hb) (by
      rw [hL]
      cases post with
      | nil => exact absurd rfl hp
      | cons a l => simp; omega) N acc g7 g8 g9 g10 g11 g12 g13 g14
  | r :: rs, n, N + 1, acc, pre, post, g7, g8, g9, g10, g11, g12, g13, g14, hL, hn, h1, hp, hb, h4, h5 => by
    rw [List.length_cons] at h4 h5
    obtain ⟨ok, ni⟩ := h1 r List.mem_cons_self
    have hL0 : L = pre ++ (sp k ++ rowT r) :: (rs.map (fun r => sp k ++ rowT r) ++ post) := by rw [hL]; simp
    have hlt : (n : Int) < (L.length : Int) := by rw [hL0]; simp; omega
    have ec : blkCond (EB L n k g7 g8 g9 g10 g11 g12 g13 g14) [.lst acc] = .ok true [.lst acc] := by simp [blkCond, opLen, lenD, aseq, opCmp, hlt]
    obtain ⟨a, b, c, e⟩ := step_row (rb := rb) (L := L) (n := n) (k := k) (g7 := g7) (g8 := g8) (g9 := g9) (g10 := g10) (g11 := g11) (g12 := g12) (g13 := g13) (g14 := g14) (acc := acc) hL0 hn ok ni hk (by omega)
    obtain ⟨st, e2⟩ := bad_rows (L := L) hk rs (n + 1) N (acc ++ [encP n r]) (pre ++ [sp k ++ rowT r]) post a b g9 g10 g11 g12 g13 c (by rw [hL]; simp) (by simp; omega) (fun x hx => h1 x (List.mem_cons_of_mem _ hx)) hp (by rw [List.length_cons] at hb; rw [show n + 1 + rs.length = n + (rs.length + 1) by omega]; exact hb) (by simp; omega) (by omega)
    refine ⟨st, ?_⟩
    rw [sWhileN_d, ec]
    show kWhile (blkBody rb) _ (blkBody rb (EB L n k g7 g8 g9 g10 g11 g12 g13 g14) [.lst acc]) = _
    rw [e]
    exact e2
theorem bad_block {m : Nat} {L : List Str} {k n : Nat} {rs : List Row} {pre post : List Str} (hk : k ≤ 1000) (hL : L = pre ++ rs.map (fun r => sp k ++ rowT r) ++ post) (hn : pre.length = n) (h1 : ∀ r ∈ rs, RowOk r ∧ notIf r = true) (hp : post ≠ []) (hb : BadAt (grp_p_block_in m).2 L (n + rs.length) k) (hl : L.length ≤ 10000) (st : Sto) : p_block_in (m + 1) [.lst (L.map .str), .int n, .int k, rdD] st = .ok .non st := by
  have ll : rs.length < L.length + 1 := by rw [hL]; simp; omega
  obtain ⟨s2, e⟩ := bad_rows (rb := (grp_p_block_in m).2) hk rs n (L.length + 1) [] pre post none none none none none none none none hL hn h1 hp hb (by simp; omega) ll
  have body : runB (B_p_block_in (grp_p_block_in m).1 (grp_p_block_in m).2) 15 4 [.lst (L.map .str), .int n, .int k, rdD] [] = .ok .non s2 := by
    rw [blk_eq]
    have ml : mLen 0 (EB L n k none none none none none none none none) [.lst []] = L.length + 1 := by simp [mLen, aseq]
    simp [-Int.natCast_add, -sWhile_d]
    have : sWhile (mLen 0) blkCond (blkBody (grp_p_block_in m).2) (EB L n k none none none none none none none none) [.lst []] = sWhileN blkCond (blkBody (grp_p_block_in m).2) (L.length + 1) (EB L n k none none none none none none none none) [.lst []] := by
      show sWhileN blkCond (blkBody (grp_p_block_in m).2) (mLen 0 (EB L n k none none none none none none none none) [.lst []]) _ _ = _
      rw [ml]
    rw [show ([some (D.lst (L.map D.str)), some (D.int n), some (D.int k), some rdD, some (D.glo "line_in"), some (D.glo "test_in"), some (D.ref 0), none, none, none, none, none, none, none, none] : Env) = EB L n k none none none none none none none none from rfl, this, e]
    simp
  have nr : noRefs [.lst (L.map .str), .int (n : Int), .int (k : Int), rdD] = true := by simp [noRefs, noRef, noRefs_str]
  show pureA (runB (B_p_block_in (grp_p_block_in m).1 (grp_p_block_in m).2) 15 4) _ st = _
  unfold pureA
  rw [if_pos nr, body]
  rfl
/-- a statement's line that is none -/
theorem bad_line {rb : Fn} {L : List Str} {k n : Nat} {pre r : List Str} {s : Str} {c : Nat} {l : List Nat} (hL : L = pre ++ (sp k ++ s) :: r) (hn : pre.length = n) (hs : toL s = c :: l) (hc : c ≠ 32) (hk : k ≤ 1000) (hl : s.length ≤ 1000) (hi : (toL (Str.ofString "if ")).isPrefixOf (toL s) = false) (h : ∀ st, p_line_in [.str s, .int n] st = .ok .non st) : BadAt rb L n k := fun acc g7 g8 g9 g10 g11 g12 g13 g14 => by
  obtain ⟨a1, a2, a3, a4, _⟩ := line_at hL hn hs hc hk hl
  have a5 : ((k + s.length : Nat) : Int) - (s.length : Int) = (k : Int) := by omega
  refine ⟨[.lst acc], ?_⟩
  simp [-Int.natCast_add, blkBody, a1, a2, a3, a4, opSub, opCmp, a5, op_starts, hi, h]
/-- an if whose branches are none -/
theorem bad_if {rb : Fn} {L : List Str} {k n : Nat} {pre r : List Str} {s : Str} {c : Nat} {l : List Nat} (hL : L = pre ++ (sp k ++ s) :: r) (hn : pre.length = n) (hs : toL s = c :: l) (hc : c ≠ 32) (hk : k ≤ 1000) (hl : s.length ≤ 1000) (hi : (toL (Str.ofString "if ")).isPrefixOf (toL s) = true) (h : ∀ st, rb [.lst (L.map .str), .int n, .int k, rdD] st = .ok .non st) : BadAt rb L n k := fun acc g7 g8 g9 g10 g11 g12 g13 g14 => by
  obtain ⟨a1, a2, a3, a4, _⟩ := line_at hL hn hs hc hk hl
  have a5 : ((k + s.length : Nat) : Int) - (s.length : Int) = (k : Int) := by omega
  refine ⟨[.lst acc], ?_⟩
  simp [-Int.natCast_add, blkBody, a1, a2, a3, a4, opSub, opCmp, a5, op_starts, hi, h]
/-- a sampler's text whose block is none -/
theorem sampler_none {c : Int} {ls : List Str} (hc : c ∈ threes) (hl : ∀ y ∈ ls, lineOk y) (hn : ls.length ≤ 5000) (hb : ∀ st, p_block_in 12 [.lst ((placesT c :: ls).map .str), .int 1, .int 0, rdD] st = .ok .non st) (st : Sto) : p_sampler_in [.str (Txt.join (Str.ofString "\n") (placesT c :: ls))] st = .ok .non st := by
  have big := sizeLine_big
  have l7 : (Str.ofString "places ").length = 7 := by kernel_rfl
  have hp := places_ok hc
  have h2 : ∀ y ∈ placesT c :: ls, lineOk y := fun y hy => by
    rcases List.mem_cons.mp hy with e | hy
    · rw [e]; exact hp
    · exact hl y hy
  have h3 := sum_le fun y hy => (h2 y hy).2
  have e : Str.ofString "\n" = ⟨#[10]⟩ := by kernel_rfl
  have l : (Txt.join (Str.ofString "\n") (placesT c :: ls)).length + 2 ≤ sizeLine := by
    have z := StrLaws.join_length_le (Str.ofString "\n") (placesT c :: ls)
    rw [← StrLaws.glued_eq_join] at z
    have l1 : (Str.ofString "\n").length = 1 := by kernel_rfl
    rw [l1] at z
    have z2 : (Txt.join (Str.ofString "\n") (placesT c :: ls)).length ≤ _ := z
    have : 10000000 ≤ sizeLine := by decide
    rw [List.length_cons] at z2 h3
    omega
  have sj : Txt.split (Txt.join (Str.ofString "\n") (placesT c :: ls)) (Str.ofString "\n") = placesT c :: ls := by
    rw [e]
    refine split_join (List.cons_ne_nil _ _) fun y hy m => ?_
    have := (h2 y hy).1 10 m
    omega
  have sp : ∀ st, opSplit (.str (Txt.join (Str.ofString "\n") (placesT c :: ls))) (.str (Str.ofString "\n")) st = some (.lst ((placesT c :: ls).map .str), st) := fun st => by
    show (if ((Str.ofString "\n").length == 0) = false ∧ (Txt.join (Str.ofString "\n") (placesT c :: ls)).length + 2 ≤ sizeLine then some (D.lst ((Txt.split (Txt.join (Str.ofString "\n") (placesT c :: ls)) (Str.ofString "\n")).map .str), st) else none) = _
    rw [if_pos ⟨by kernel_rfl, l⟩, sj]
  have e1 : ∀ st, opIx (.lst ((placesT c :: ls).map .str)) (.int 0) st = some (.str (placesT c), st) := fun st => ix_at (pre := []) (n := 0) rfl st
  have e2 : ∀ st, opSl (.str (placesT c)) (some 7) none st = some (.str (its c), st) := fun st => sl_from (k := 7) st (by have := hp.2; omega) (by unfold placesT; rw [toL_app]) (by rw [← len_toL, l7])
  have e3 : (toL (Str.ofString "places ")).isPrefixOf (toL (placesT c)) = true := by
    unfold placesT
    rw [toL_app]
    exact List.isPrefixOf_iff_prefix.mpr (List.prefix_append _ _)
  simp only [List.map_cons] at sp e1 hb
  simp [p_sampler_in, B_p_sampler_in, sp, e1, e2, op_starts, e3, places_in3 _ c hc, hb]
end M
/-! the law law_k13_forms_in_texts as Lean functions -/
namespace M
open PySem
def B_k13__law_cell : IS := (sSeq (sIf (tBl (iBin opLt (iVar 1) (iN opLen (aCons (iVar 0) aNil)))) (sRet (iBin opIx (iVar 0) (iVar 1))) sNil)
  (sSeq (sSet 2 (iBin opAdd (iBin opMul (iBin opMul (iC (.int 60013)) (iBin opAdd (iVar 1) (iC (.int 3)))) (iBin opAdd (iVar 1) (iC (.int 11)))) (iC (.int 977))))
  (sSeq (sFor (wAny (iSl (iVar 0) oNone (oSome (iC (.int 4))))) (gVar 3) (sSet 2 (iBin opMod (iN opInt (aCons (iBin opAdd (iBin opMul (iVar 2) (iC (.int 52361))) (iVar 3)) aNil)) (iC (.int 2147483579)))))
  (sRet (iVar 2)))))
def k13__law_cell : Fn := (runB B_k13__law_cell 4 2)
def B_k13__law_pool : IS := (sSeq (sSet 1 (iIf (tOr' (tBl (iBin opLt (iVar 0) (iC (.int 0)))) (tBl (iBin opGe (iVar 0) (iBin opPow (iC (.int 10)) (iC (.int 18)))))) (iN opAbs (aCons (iVar 0) aNil)) (iC (.int 0))))
  (sRet (iN opLst (aCons (iBin opMod (iN opInt (aCons (iBin opAdd (iBin opMul (iVar 0) (iC (.int 5))) (iC (.int 3))) aNil)) (iC (.int 2147483629))) (aCons (iVar 1) (aCons (iC (.int 0)) aNil))))))
def k13__law_pool : Fn := (runB B_k13__law_pool 2 1)
def B_k13__law_draw : IS := (sSeq (sAsg (gIx (iVar 0) (iC (.int 2))) (iBin opAdd (iBin opIx (iVar 0) (iC (.int 2))) (iC (.int 1))))
  (sSeq (sPar 2 3 (aCons (iN opInt (aCons (iBin opIx (iVar 0) (iC (.int 0))) aNil)) (aCons (iBin opIx (iVar 0) (iC (.int 2))) aNil)))
  (sSeq (sSet 4 (iBin opAdd (iBin opAdd (iBin opMod (iN opInt (aCons (iVar 2) aNil)) (iC (.int 30011))) (iC (.int 40009))) (iVar 3)))
  (sSeq (sAsg (gIx (iVar 0) (iC (.int 0))) (iBin opMod (iN opInt (aCons (iBin opAdd (iBin opAdd (iBin opMul (iVar 2) (iVar 4)) (iBin opMul (iBin opMul (iC (.int 7919)) (iVar 3)) (iVar 3))) (iC (.int 101))) aNil)) (iC (.int 2147483629))))
  (sSeq (sIf (tBl (iBin opGt (iBin opIx (iVar 0) (iC (.int 1))) (iC (.int 0)))) (sSeq (sAsg (gTup' 2 (gsCons (gIx (iVar 0) (iC (.int 1))) (gsVar 5 gsNil))) (iN opDivmod (aCons (iBin opIx (iVar 0) (iC (.int 1))) (aCons (iVar 1) aNil))))
  (sRet (iVar 5))) sNil)
  (sRet (iBin opMod (iN opInt (aCons (iBin opFdiv (iBin opIx (iVar 0) (iC (.int 0))) (iC (.int 128))) aNil)) (iVar 1))))))))
def k13__law_draw : Fn := (runB B_k13__law_draw 6 2)
def B_k13__law_bent : IS := (sSeq (sPar 2 3 (aCons (iCall k13__law_draw [] (aCons (iVar 0) (aCons (iC (.int 4)) aNil))) (aCons (iCall k13__law_draw [] (aCons (iVar 0) (aCons (iBin opAdd (iN opLen (aCons (iVar 1) aNil)) (iC (.int 1))) aNil))) aNil)))
  (sSeq (sSet 4 (iBin opIx (iC (.str "0123456789n*+- <?m(N")) (iCall k13__law_draw [] (aCons (iVar 0) (aCons (iC (.int 20)) aNil)))))
  (sSeq (sIf (tBl (iBin (opEq false) (iVar 2) (iC (.int 0)))) (sRet (iBin opAdd (iBin opAdd (iSl (iVar 1) oNone (oSome (iVar 3))) (iVar 4)) (iSl (iVar 1) (oSome (iVar 3)) oNone))) sNil)
  (sSeq (sIf (tBl (iBin (opEq false) (iVar 2) (iC (.int 1)))) (sRet (iBin opAdd (iSl (iVar 1) oNone (oSome (iVar 3))) (iSl (iVar 1) (oSome (iBin opAdd (iVar 3) (iC (.int 1)))) oNone))) sNil)
  (sSeq (sIf (tBl (iBin (opEq false) (iVar 2) (iC (.int 2)))) (sRet (iBin opAdd (iBin opAdd (iSl (iVar 1) oNone (oSome (iVar 3))) (iVar 4)) (iSl (iVar 1) (oSome (iBin opAdd (iVar 3) (iC (.int 1)))) oNone))) sNil)
  (sSeq (sSet 5 (iN opLstF (aCons (iC (.str "n+1")) (aCons (iC (.str "n + 0")) (aCons (iC (.str "1*n")) (aCons (iC (.str "0*n")) (aCons (iC (.str "n*2")) (aCons (iC (.str "2n")) (aCons (iC (.str "4*n")) (aCons (iC (.str "n + 10")) (aCons (iC (.str "n - -1")) (aCons (iC (.str "-n")) (aCons (iC (.str "+3")) (aCons (iC (.str "03")) (aCons (iC (.str "-0")) (aCons (iC (.str "n - 0")) aNil))))))))))))))))
  (sSeq (sSet 5 (iBin opAdd (iVar 5) (iN opLstF (aCons (iC (.str "1 + n")) (aCons (iC (.str "2*n + 3 - 1")) (aCons (iC (.str "n + n")) (aCons (iC (.str "- 3")) (aCons (iC (.str "10")) (aCons (iC (.str "-10")) (aCons (iC (.str "0*n + 3")) (aCons (iC (.str "")) (aCons (iC (.str "2 * n")) (aCons (iC (.str "3*n+ 1")) (aCons (iC (.str "r")) (aCons (iC (.str "n;")) aNil)))))))))))))))
  (sRet (iBin opIx (iVar 5) (iCall k13__law_draw [] (aCons (iVar 0) (aCons (iC (.int 26)) aNil))))))))))))
def k13__law_bent : Fn := (runB B_k13__law_bent 6 2)
def B_k13__law_form_text : IS := (sSeq (sAsg (gTup' 2 (gsVar 1 (gsVar 2 gsNil))) (iVar 0))
  (sSeq (sIf (tBl (iBin (opEq false) (iVar 1) (iC (.int 0)))) (sRet (iN opStrS (aCons (iVar 2) aNil))) sNil)
  (sSeq (sSet 3 (iBin opIx (iN opLstF (aCons (iC (.str "n")) (aCons (iC (.str "2*n")) (aCons (iC (.str "3*n")) aNil)))) (iBin opSub (iVar 1) (iC (.int 1)))))
  (sSeq (sIf (tBl (iBin (opEq false) (iVar 2) (iC (.int 0)))) (sRet (iVar 3)) sNil)
  (sRet (iBin opAdd (iBin opAdd (iVar 3) (iIf (tBl (iBin opGt (iVar 2) (iC (.int 0)))) (iC (.str " + ")) (iC (.str " - ")))) (iN opStrS (aCons (iN opAbs (aCons (iVar 2) aNil)) aNil))))))))
def k13__law_form_text : Fn := (runB B_k13__law_form_text 4 1)
def B_k13__law_is : IS := (sSeq (sIf (tOr' (tTru (iN (opIsiI [] [] (isaT tl_list)) (aCons (iVar 1) (aCons (iC (.ty "list")) aNil)))) (tTru (iN (opIsiI ["Sampler"] [] (isaT tl_list)) (aCons (iVar 0) (aCons (iC (.ty "list")) aNil))))) (sRet (iAnd (iBin (opEqI "Sampler" ["str", "tuple", "list", "NoneType", "int", "bool", "dict"] p_Sampler___eq__ false) (iVar 0) (iVar 1)) (iBin (opEq false) (iN (opReprI "Sampler" p_Sampler___repr__) (aCons (iVar 0) aNil)) (iN opRepr (aCons (iVar 1) aNil))))) sNil)
  (sRet (iAnd (iBin (opEq false) (iN (opStrI "Sampler" p_Sampler___str__) (aCons (iVar 0) aNil)) (iVar 1)) (iBin (opEqI "Sampler" ["str", "tuple", "list", "NoneType", "int", "bool", "dict"] p_Sampler___eq__ false) (iVar 0) (iNew "Sampler" p_Sampler___init__ [] (aCons (iVar 1) aNil))))))
def k13__law_is : Fn := (runB B_k13__law_is 2 2)
def B_k13__law_error : IS := (sSeq (sSet 1 (iN opLstF (aCons (iN (opIsi xs_k13 tb_k13) (aCons (iVar 0) (aCons (iC (.glo "InvalidText")) aNil))) (aCons (iN (opIsi xs_k13 tb_k13) (aCons (iVar 0) (aCons (iC (.glo "NotASampler")) aNil))) (aCons (iN (opIsi xs_k13 tb_k13) (aCons (iVar 0) (aCons (iC (.glo "InvalidLength")) aNil))) aNil)))))
  (sSeq (sSet 1 (iBin opAdd (iVar 1) (iN opLstF (aCons (iN (opIsi xs_k13 tb_k13) (aCons (iVar 0) (aCons (iC (.glo "InvalidCount")) aNil))) (aCons (iN (opIsi xs_k13 tb_k13) (aCons (iVar 0) (aCons (iC (.glo "InvalidItem")) aNil))) (aCons (iN (opIsi xs_k13 tb_k13) (aCons (iVar 0) (aCons (iC (.glo "InvalidPlace")) aNil))) aNil))))))
  (sSeq (sSet 1 (iBin opAdd (iVar 1) (iN opLstF (aCons (iN (opIsi xs_k13 tb_k13) (aCons (iVar 0) (aCons (iC (.glo "TooMuch")) aNil))) (aCons (iN (opIsi xs_k13 tb_k13) (aCons (iVar 0) (aCons (iC (.glo "UnknownPlace")) aNil))) (aCons (iN (opIsi xs_k13 tb_k13) (aCons (iVar 0) (aCons (iC (.glo "NotDrawn")) aNil))) aNil))))))
  (sSeq (sSet 1 (iBin opAdd (iVar 1) (iN opLstF (aCons (iN (opIsi xs_k13 tb_k13) (aCons (iVar 0) (aCons (iC (.glo "DrawnTwice")) aNil))) (aCons (iN (opIsi xs_k13 tb_k13) (aCons (iVar 0) (aCons (iC (.glo "BelowOne")) aNil))) (aCons (iN (opIsi xs_k13 tb_k13) (aCons (iVar 0) (aCons (iC (.glo "Unsettled")) aNil))) aNil))))))
  (sSeq (sSet 2 (iN opLstF (aCons (iN (opIsi xs_k13 tb_k13) (aCons (iVar 0) (aCons (iC (.glo "TextError")) aNil))) (aCons (iN (opIsi xs_k13 tb_k13) (aCons (iVar 0) (aCons (iC (.glo "ProgramError")) aNil))) (aCons (iN (opIsi xs_k13 tb_k13) (aCons (iVar 0) (aCons (iC (.glo "KeepError")) aNil))) aNil)))))
  (sSeq (sSet 3 (iN opLstF (aCons (iN (opIsi xs_k13 tb_k13) (aCons (iVar 0) (aCons (iC (.ty "ValueError")) aNil))) (aCons (iN (opIsi xs_k13 tb_k13) (aCons (iVar 0) (aCons (iC (.ty "LookupError")) aNil))) (aCons (iN (opIsi xs_k13 tb_k13) (aCons (iVar 0) (aCons (iC (.ty "RuntimeError")) aNil))) aNil)))))
  (sSeq (sIf (tOr' (tBl (iBin (opEq true) (iMl opCount (iVar 1) (aCons (iC (.bl true)) aNil)) (iC (.int 1)))) (tBl (iBin (opEq true) (iVar 3) (iVar 2)))) (sRet (iUn opNeg (iC (.int 1)))) sNil)
  (sSeq (sSet 4 (iMl opIndex (iVar 1) (aCons (iC (.bl true)) aNil)))
  (sRet (iIf (tBl (iBin (opEq false) (iVar 2) (iN opLstF (aCons (iBin opLt (iVar 4) (iC (.int 6))) (aCons (iBin opGt (iVar 4) (iC (.int 5))) (aCons (iC (.bl false)) aNil)))))) (iVar 4) (iUn opNeg (iC (.int 1)))))))))))))
def k13__law_error : Fn := (runB B_k13__law_error 5 1)
def B_k13__law_field : IS := (sSeq (sIf (tBl (iBin opLt (iVar 1) (iC (.int 6)))) (sRet (iUn (opFld (fl_k13 "value") "value") (iVar 0))) sNil)
  (sRet (iIf (tBl (iBin (opEq false) (iVar 1) (iC (.int 6)))) (iUn (opFld (fl_k13 "what") "what") (iVar 0)) (iUn (opFld (fl_k13 "line") "line") (iVar 0)))))
def k13__law_field : Fn := (runB B_k13__law_field 2 2)
def B_k13__law_made : IS := (sSeq (sTry (exmT tx__law_made) 2 (sSet 1 (iNew "Sampler" p_Sampler___init__ [] (aCons (iVar 0) aNil)))
  (sSeq (sSet 3 (iCall (quietF k13__law_error) [] (aCons (iVar 2) aNil)))
  (sRet (iN opLstF (aCons (iVar 3) (aCons (iCall (quietF k13__law_field) [] (aCons (iVar 2) (aCons (iVar 3) aNil))) aNil))))))
  (sRet (iVar 1)))
def k13__law_made : Fn := (runB B_k13__law_made 4 1)
def B_k13__law_letters : IS := (sSeq (sSet 2 (iC (.str "abcdefghijklmnopqrstuvwxyz")))
  (sRet (iM1 opJoin (iC (.str "")) (iCompF (wRng1 (aCons (iVar 1) aNil)) (.one 3) tYes' (iBin opIx (iVar 2) (iCall k13__law_draw [] (aCons (iVar 0) (aCons (iC (.int 26)) aNil))))))))
def k13__law_letters : Fn := (runB B_k13__law_letters 4 2)
def B_k13__law_tags : IS := (sSeq (sSet 1 (iN opLstF (aCons (iC (.str "n")) (aCons (iC (.str "m")) (aCons (iC (.str "is")) (aCons (iC (.str "if")) (aCons (iC (.str "else")) (aCons (iC (.str "draw")) (aCons (iC (.str "below")) (aCons (iC (.str "put")) (aCons (iC (.str "exchange")) (aCons (iC (.str "empty")) (aCons (iC (.str "places")) (aCons (iC (.str "take")) aNil))))))))))))))
  (sSeq (sSet 1 (iBin opAdd (iVar 1) (iN opLstF (aCons (iC (.str "other")) (aCons (iC (.str "join")) aNil)))))
  (sSeq (sPar 2 3 (aCons (iCall k13__law_draw [] (aCons (iVar 0) (aCons (iC (.int 3)) aNil))) (aCons (iCall k13__law_draw [] (aCons (iVar 0) (aCons (iC (.int 8)) aNil))) aNil)))
  (sSeq (sAsg (gTup' 3 (gsVar 4 (gsVar 5 (gsVar 6 gsNil)))) (iN opTup (aCons (iCall k13__law_letters [] (aCons (iVar 0) (aCons (iVar 3) aNil))) (aCons (iCall k13__law_draw [] (aCons (iVar 0) (aCons (iBin opAdd (iVar 3) (iC (.int 1))) aNil))) (aCons (iN opLst aNil) aNil)))))
  (sSeq (sFor (wRng1 (aCons (iC (.int 6)) aNil)) (gVar 7) (sSeq (sIf (tBl (iBin (opEq false) (iVar 2) (iC (.int 0)))) (sSet 8 (iCall k13__law_letters [] (aCons (iVar 0) (aCons (iBin opAdd (iC (.int 1)) (iCall k13__law_draw [] (aCons (iVar 0) (aCons (iC (.int 8)) aNil)))) aNil)))) (sIf (tBl (iBin (opEq false) (iVar 2) (iC (.int 1)))) (sSet 8 (iBin opIx (iN opLstF (aCons (iC (.str "in")) (aCons (iC (.str "new")) (aCons (iC (.str "gone")) (aCons (iC (.str "ifs")) (aCons (iC (.str "nn")) (aCons (iC (.str "keep")) (aCons (iC (.str "isn")) (aCons (iC (.str "draws")) aNil))))))))) (iCall k13__law_draw [] (aCons (iVar 0) (aCons (iC (.int 8)) aNil))))) (sSet 8 (iBin opAdd (iBin opAdd (iSl (iVar 4) oNone (oSome (iVar 5))) (iCall k13__law_letters [] (aCons (iVar 0) (aCons (iC (.int 1)) aNil)))) (iSl (iVar 4) (oSome (iVar 5)) oNone)))))
  (sSeq (sIf (tOr' (tBl (iBin (opIn false) (iVar 8) (iVar 1))) (tBl (iBin (opIn false) (iVar 8) (iVar 6)))) (sSet 8 (iBin opIx (iCompF (wAny (iCompF (wRng1 (aCons (iC (.int 8)) aNil)) (.one 10) tYes' (iBin opMulT (iC (.str "q")) (iBin opAdd (iVar 10) (iC (.int 1)))))) (.one 9) (tBl (iBin (opIn true) (iVar 9) (iVar 6))) (iVar 9)) (iC (.int 0)))) sNil)
  (sExpr (iMl opAppend (iVar 6) (aCons (iVar 8) aNil))))))
  (sRet (iVar 6)))))))
def k13__law_tags : Fn := (runB B_k13__law_tags 11 1)
def B_k13__law_right : IS := (sSeq (sPar3 1 2 3 (aCons (iCall k13__law_draw [] (aCons (iVar 0) (aCons (iC (.int 2)) aNil))) (aCons (iCall k13__law_draw [] (aCons (iVar 0) (aCons (iC (.int 4)) aNil))) (aCons (iBin opSub (iCall k13__law_draw [] (aCons (iVar 0) (aCons (iC (.int 19)) aNil))) (iC (.int 9))) aNil))))
  (sSeq (sSet 4 (iCall k13__law_form_text [] (aCons (iN opTup (aCons (iVar 2) (aCons (iVar 3) aNil))) aNil)))
  (sSeq (sIf (tBl (iBin (opEq false) (iVar 1) (iC (.int 1)))) (sSet 4 (iCall k13__law_bent [] (aCons (iVar 0) (aCons (iVar 4) aNil)))) sNil)
  (sSeq (sSet 5 (iCompF (wRng1 (aCons (iC (.int 76)) aNil)) (.one 11) tYes' (iCall k13__law_form_text [] (aCons (iN opTup (aCons (iBin opFdiv (iVar 11) (iC (.int 19))) (aCons (iBin opSub (iBin opMod (iN opInt (aCons (iVar 11) aNil)) (iC (.int 19))) (iC (.int 9))) aNil))) aNil))))
  (sSeq (sSet 6 (iBin opIx (iCall k13__law_tags [] (aCons (iVar 0) aNil)) (iCall k13__law_draw [] (aCons (iVar 0) (aCons (iC (.int 6)) aNil)))))
  (sSeq (sSet 7 (iBin opAdd (iBin opAdd (iBin opAdd (iBin opAdd (iBin opAdd (iBin opAdd (iC (.str "places 1\ndraw ")) (iVar 6)) (iC (.str " below n\nif "))) (iVar 6)) (iC (.str " < "))) (iVar 4)) (iC (.str "\n  put 0"))))
  (sSeq (sSet 8 (iBin opAdd (iBin opAdd (iBin opAdd (iBin opAdd (iC (.str "places 2\ndraw ")) (iVar 6)) (iC (.str " below "))) (iVar 4)) (iC (.str "\nput 1"))))
  (sSeq (sIf (tBl (iBin (opIn true) (iVar 4) (iVar 5))) (sRet (iAnd (iCall k13__law_is [] (aCons (iCall k13__law_made [] (aCons (iVar 7) aNil)) (aCons (iN opLstF (aCons (iC (.int 0)) (aCons (iVar 7) aNil))) aNil))) (iCall k13__law_is [] (aCons (iCall k13__law_made [] (aCons (iVar 8) aNil)) (aCons (iN opLstF (aCons (iC (.int 0)) (aCons (iVar 8) aNil))) aNil))))) sNil)
  (sSeq (sSet 9 (iMl opIndexT (iVar 5) (aCons (iVar 4) aNil)))
  (sSeq (sSet 10 (iBin opLt (iBin opSub (iBin opAdd (iBin opFdiv (iVar 9) (iC (.int 19))) (iBin opMod (iN opInt (aCons (iVar 9) aNil)) (iC (.int 19)))) (iC (.int 9))) (iC (.int 1))))
  (sRet (iAnd (iCall k13__law_is [] (aCons (iCall k13__law_made [] (aCons (iVar 7) aNil)) (aCons (iVar 7) aNil))) (iCall k13__law_is [] (aCons (iCall k13__law_made [] (aCons (iVar 8) aNil)) (aCons (iIf (tTru (iVar 10)) (iN opLstF (aCons (iC (.int 10)) (aCons (iC (.int 1)) aNil))) (iVar 8)) aNil)))))))))))))))
def k13__law_right : Fn := (runB B_k13__law_right 12 1)
def B_k13_law : IS := (sRet (iN opAll (aCons (iCompF (wRng1 (aCons (iN opMax (aCons (iC (.int 3)) (aCons (iN opMin (aCons (iN opLen (aCons (iVar 0) aNil)) (aCons (iC (.int 30)) aNil))) aNil))) aNil)) (.one 1) tYes' (iCall k13__law_right [] (aCons (iCall k13__law_pool [] (aCons (iCall k13__law_cell [] (aCons (iVar 0) (aCons (iVar 1) aNil))) aNil)) aNil))) aNil)))
def k13_law : Fn := (runB B_k13_law 2 1)
end M
/-! KF1: the law's texts of forms; lists of the store. -/
namespace M
open PySem PySem.W Builtin Builtin.Str
/-! ### lists in the store -/
theorem lst_new (st : Sto) (xs : List D) : lstAt (st ++ [.lst xs]) st.length = some xs := by simp [lstAt]
theorem lst_set {st : Sto} {q : Nat} {xs : List D} (h : lstAt st q = some xs) (ys : List D) : lstAt (st.set q (.lst ys)) q = some ys := by
  have : q < st.length := by
    cases hq : st[q]? with
    | none => simp [lstAt, hq] at h
    | some o => exact (List.getElem?_eq_some_iff.mp hq).1
  simp [lstAt, List.getElem?_set_self this]
theorem app_at {st : Sto} {q : Nat} {xs : List D} (h : lstAt st q = some xs) (hl : xs.length < 1000000) (d : D) : opAppend (.ref q) [d] st = some (.non, st.set q (.lst (xs ++ [d]))) := by
  have : xs.length < sizeLine := Nat.lt_of_lt_of_le hl sizeLine_big
  simp [opAppend, h, this]
theorem isL_at {st : Sto} {q : Nat} {xs : List D} (h : lstAt st q = some xs) : isL st (.ref q) = true := by simp [isL, h]
theorem addM {st : Sto} {a b : D} {xs ys : List D} (h1 : alst st a = some xs) (h2 : alst st b = some ys) (hl : xs.length + ys.length ≤ 1000000) : opAddM a b st = some (.ref st.length, st ++ [.lst (xs ++ ys)]) := by
  have : xs.length + ys.length ≤ sizeLine := Nat.le_trans hl sizeLine_big
  simp [opAddM, h1, h2, this]
theorem lst_push {st : Sto} {q : Nat} {xs : List D} (h : lstAt st q = some xs) (o : O) : lstAt (st ++ [o]) q = some xs := by
  have : q < st.length := by
    cases hq : st[q]? with
    | none => simp [lstAt, hq] at h
    | some o => exact (List.getElem?_eq_some_iff.mp hq).1
  simp only [lstAt, List.getElem?_append_left this] at h ⊢
  exact h
/-! ### forms, tests -/
theorem form_text_m (st : Sto) : forms.map (fun f => k13__law_form_text [encF f] st) = forms.map (fun f => .ok (.str (formT f)) st) := by kernel_rfl
theorem form_text (st : Sto) : ∀ f ∈ forms, k13__law_form_text [encF f] st = .ok (.str (formT f)) st := fun x hx => map_get (form_text_m st) x hx
end M
/-! KB3: a sampler is asked. -/
namespace M
open PySem PySem.W Builtin Builtin.Str
def fieldsS (c : Int) (rs : List Row) : List (Str × D) := [("source", .str (samplerT c rs)), ("wide", .int c), ("tree", treeD rs)]
def objS (c : Int) (rs : List Row) : D := .obj "Sampler" (fieldsS c rs)
theorem tree_frz {rs : List Row} (h : RowsOk rs) (hd : dRs rs ≤ 20) (n : Nat) (st : Sto) : frz st (n + 61) (treeD rs) = some (treeD rs) := by
  have p0 := encPs_pd (k := 1) 0 h
  exact pd_frz st (n := n + 61) (by
    show pds (n + 60) (encPs 1 rs) = true
    exact pds_mono (by omega) p0)
theorem fields_frz {c : Int} {rs : List Row} (h : RowsOk rs) (hd : dRs rs ≤ 20) (n : Nat) (st : Sto) : allF (frz st (n + 61)) (fieldsS c rs) = some (fieldsS c rs) := by
  have t := tree_frz h hd n st
  have a : frz st (n + 61) (.str (samplerT c rs)) = some (.str (samplerT c rs)) := rfl
  have b : frz st (n + 61) (.int c) = some (.int c) := rfl
  simp only [fieldsS, allF, a, b, t]
theorem ref_frz {c : Int} {rs : List Row} {st : Sto} {k : Nat} (h : RowsOk rs) (hd : dRs rs ≤ 20) (hk : st[k]? = some (insS c rs)) (n : Nat) : frz st (n + 62) (.ref k) = some (objS c rs) := by
  have e : frz st (n + 62) (.ref k) = (allF (frz st (n + 61)) (fieldsS c rs)).map (.obj "Sampler") := by
    rw [frz, hk]
    rfl
  rw [e, fields_frz h hd]
  rfl
theorem pureT_ok {f : Fn} {ds ds' : List D} {st s : Sto} {d : D} (h1 : allP (frz st 70) ds = some ds') (h2 : f ds' [] = .ok d s) (h3 : plainD 20 d = true) : pureT f ds st = .ok d st := by
  unfold pureT
  rw [h1]
  show (match f ds' [] with
    | .ok d _ => if plainD 20 d = true then R.ok d st else .bad
    | _ => .bad) = _
  rw [h2]
  show (if plainD 20 d = true then R.ok d st else .bad) = _
  rw [if_pos h3]
theorem get_source (c : Int) (rs : List Row) (st : Sto) : opGet ["Sampler"] "source" (objS c rs) st = some (.str (samplerT c rs), st) := by kernel_rfl
theorem get_wide (c : Int) (rs : List Row) (st : Sto) : opGet ["Sampler"] "wide" (objS c rs) st = some (.int c, st) := by kernel_rfl
theorem get_tree (c : Int) (rs : List Row) (st : Sto) : opGet ["Sampler"] "tree" (objS c rs) st = some (treeD rs, st) := by kernel_rfl
@[simp] theorem kJs_d (acc y : Str) (k : Str → Env → Sto → R D) (env : Env) (s : Sto) : kJs acc k (.str y) env s = if (acc ++ y).length ≤ sizeLine then k (acc ++ y) env s else .bad := Eq.trans rfl rfl
@[simp] theorem iSortC_d {w : IW} {p : Pat} {t : IT} {e : IE} {env : Env} {st : Sto} : iSortC w p t e env st = (w env st).bind fun a s => (compS a.1 p t e (wipeE env p.slots) a.2 0 [] s).bind finS := Eq.trans rfl rfl
theorem compS_map {α : Type} {p : Pat} {t : IT} {e : IE} {env0 : Env} {st : Sto} {l : List α} {F : α → D} (c : α → Bool) (f : α → Str)
    (h : ∀ a ∈ l, ∃ env, p.bind (F a) env0 = some env ∧ t env st = .ok (c a) st ∧ (c a = true → e env st = .ok (.str (f a)) st)) :
    ∀ (m i : Nat) (acc : List Str), l.length ≤ i + m → acc.length + ((l.drop i).filter c).length ≤ 60 → compS (nxL (l.map F)) p t e env0 m i acc st = .ok ((((l.drop i).filter c).map f).foldl insU acc) st
  | 0, i, acc, hl, _ => by
    unfold compS nxL
    rw [List.getElem?_eq_none (by simp; omega), List.drop_of_length_le (by omega)]
    simp
  | m + 1, i, acc, hl, hz => by
    unfold compS
    rw [show nxL (l.map F) i st = some (l.map F)[i]? from rfl]
    by_cases hi : i < l.length
    · rw [List.getElem?_map, List.getElem?_eq_getElem hi]
      obtain ⟨env, h1, h2, h3⟩ := h _ (List.getElem_mem hi)
      rw [List.drop_eq_getElem_cons hi] at hz ⊢
      have ih := compS_map c f h m (i + 1)
      show (match p.bind (F l[i]) env0 with
        | some env => ((t env st).nox).bind fun k s1 => if k = true then ((e env s1).nox).bind fun v s2 => match v with
          | .str x => if acc.length < 62 then compS (nxL (l.map F)) p t e env0 m (i + 1) (insU acc x) s2 else .bad
          | _ => .bad
          else compS (nxL (l.map F)) p t e env0 m (i + 1) acc s1
        | none => .bad) = _
      rw [h1]
      show ((t env st).nox).bind (fun k s1 => if k = true then ((e env s1).nox).bind fun v s2 => match v with
          | .str x => if acc.length < 62 then compS (nxL (l.map F)) p t e env0 m (i + 1) (insU acc x) s2 else .bad
          | _ => .bad
          else compS (nxL (l.map F)) p t e env0 m (i + 1) acc s1) = _
      rw [h2]
      cases hc : c l[i] with
      | false =>
        rw [List.filter_cons_of_neg (by simp [hc])] at hz ⊢
        show compS (nxL (l.map F)) p t e env0 m (i + 1) acc st = _
        rw [ih acc (by omega) hz]
      | true =>
        rw [List.filter_cons_of_pos hc] at hz ⊢
        rw [List.length_cons] at hz
        show ((e env st).nox).bind (fun v s2 => match v with
          | .str x => if acc.length < 62 then compS (nxL (l.map F)) p t e env0 m (i + 1) (insU acc x) s2 else .bad
          | _ => .bad) = _
        rw [h3 hc]
        show (if acc.length < 62 then compS (nxL (l.map F)) p t e env0 m (i + 1) (insU acc (f l[i])) st else .bad) = _
        have : (insU acc (f l[i])).length ≤ acc.length + 1 := by
          unfold insU
          split
          · omega
          · simp
        rw [if_pos (by omega), ih _ (by omega) (by omega), List.map_cons, List.foldl_cons]
    · rw [List.getElem?_eq_none (by simp; omega), List.drop_of_length_le (by omega)]
      simp
def nameOf (p : Nat × Row) : Str := match p.2 with
  | .draw x _ => x
  | _ => Str.empty
mutual
theorem names_flatR : ∀ (r : Row) (n : Nat), ((flatR n r).filter isDraw).map nameOf = namesR r
  | .draw x f, n => by simp [flatR, isDraw, tagR, nameOf, namesR]
  | .put p, n => by simp [flatR, isDraw, tagR, namesR]
  | .emp p, n => by simp [flatR, isDraw, tagR, namesR]
  | .exch p q, n => by simp [flatR, isDraw, tagR, namesR]
  | .ifs t b o, n => by
    rw [flatR, namesR, List.filter_cons_of_neg (by simp [isDraw, tagR]), List.filter_append, List.map_append, names_flatN b, names_flatN o]
theorem names_flatN : ∀ (rs : List Row) (n : Nat), ((flatN n rs).filter isDraw).map nameOf = namesRs rs
  | [], n => by simp [flatN, namesRs]
  | r :: rs, n => by rw [flatN, namesRs, List.filter_append, List.map_append, names_flatR r, names_flatN rs]
end
def dueD (rs : List Row) : D := .tup ((sortT (dedupS (namesRs rs))).map .str)
section
variable {c : Int} {rs : List Row} (P : ShapeL c rs) {st : Sto} {k : Nat} (hk : st[k]? = some (insS c rs))
include P
theorem self_frz (hk : st[k]? = some (insS c rs)) : allP (frz st 70) [.ref k] = some [objS c rs] := by
  have := ref_frz P.ok (by have := P.deep; omega) hk 8
  simp only [allP, this]
theorem str_is (hk : st[k]? = some (insS c rs)) : p_Sampler___str__ [.ref k] st = .ok (.str (samplerT c rs)) st :=
  pureT_ok (s := []) (self_frz P hk) (by simp [B_p_Sampler___str__, get_source, opStrS]) rfl
end
end M
/-! KB5: a sampler compared. -/
namespace M
open PySem PySem.W Builtin Builtin.Str
section
variable {c : Int} {rs : List Row} (P : ShapeL c rs) {st : Sto} {k : Nat} (hk : st[k]? = some (insS c rs))
theorem ins_at (hk : st[k]? = some (insS c rs)) : insD st (.ref k) = some ((Str.ofString "Sampler", fieldsS c rs) : Str × List (Str × D)) := by
  show (match st[k]? with
    | some (.ins C fs) => some (C, fs)
    | _ => none) = _
  rw [hk]
  rfl
theorem prop_at (hk : st[k]? = some (insS c rs)) {fn : Fn} {i : IE} {env : Env} (hi : i env st = .ok (.ref k) st) : iProp "Sampler" fn i env st = fn [.ref k] st := by
  show (i env st).bind (fun d s => match insD s d with
    | some (C', _) => if C' = "Sampler" then fn [d] s else .bad
    | none => .bad) = _
  rw [hi]
  show (match insD st (.ref k) with
    | some (C', _) => if C' = "Sampler" then fn [.ref k] st else .bad
    | none => .bad) = _
  rw [ins_at hk]
  show (if ("Sampler" : Str) = "Sampler" then fn [.ref k] st else .bad) = _
  rw [if_pos rfl]
theorem strI_at (hk : st[k]? = some (insS c rs)) {fn : Fn} {x : Str} (h : fn [.ref k] st = .ok (.str x) st) : opStrI "Sampler" fn [.ref k] st = some (.str x, st) := by
  show (match insD st (.ref k) with
    | some (C', _) => if C' = "Sampler" then strR (optR (fn [.ref k] st)) else none
    | none => none) = _
  rw [ins_at hk]
  show (if ("Sampler" : Str) = "Sampler" then strR (optR (fn [.ref k] st)) else none) = _
  rw [if_pos rfl, h]
  rfl
theorem reprI_at (hk : st[k]? = some (insS c rs)) {fn : Fn} {x : Str} (h : fn [.ref k] st = .ok (.str x) st) : opReprI "Sampler" fn [.ref k] st = some (.str x, st) := by
  show (match insD st (.ref k) with
    | some (C', _) => if C' = "Sampler" then strR (optR (fn [.ref k] st)) else none
    | none => opRepr [.ref k] st) = _
  rw [ins_at hk]
  show (if ("Sampler" : Str) = "Sampler" then strR (optR (fn [.ref k] st)) else none) = _
  rw [if_pos rfl, h]
  rfl
end
theorem isi_two (c : Int) (rs : List Row) (st : Sto) : opIsiI ["Sampler"] [] (isaT tl_Sampler) [objS c rs, .glo "Sampler"] st = some (.bl true, st) := by kernel_rfl
theorem isi_s (x : Str) (st : Sto) : opIsiI ["Sampler"] [] (isaT tl_Sampler) [.str x, .glo "Sampler"] st = some (.bl false, st) := by kernel_rfl
theorem isi_t (x : List D) (st : Sto) : opIsiI ["Sampler"] [] (isaT tl_Sampler) [.tup x, .glo "Sampler"] st = some (.bl false, st) := by kernel_rfl
theorem isi_l (x : List D) (st : Sto) : opIsiI ["Sampler"] [] (isaT tl_Sampler) [.lst x, .glo "Sampler"] st = some (.bl false, st) := by kernel_rfl
theorem isi_n (st : Sto) : opIsiI ["Sampler"] [] (isaT tl_Sampler) [.non, .glo "Sampler"] st = some (.bl false, st) := by kernel_rfl
theorem isi_i (i : Int) (st : Sto) : opIsiI ["Sampler"] [] (isaT tl_Sampler) [.int i, .glo "Sampler"] st = some (.bl false, st) := by kernel_rfl
theorem isi_b (b : Bool) (st : Sto) : opIsiI ["Sampler"] [] (isaT tl_Sampler) [.bl b, .glo "Sampler"] st = some (.bl false, st) := by kernel_rfl
section
variable {c c' : Int} {rs rs' : List Row} (P : ShapeL c rs) (P' : ShapeL c' rs') {st : Sto} {k k' : Nat} (hk : st[k]? = some (insS c rs)) (hk' : st[k']? = some (insS c' rs'))
include P
theorem eq_fn {b b' : D} {r : Bool} (hk : st[k]? = some (insS c rs)) (hb : frz st 70 b = some b') (h : ∀ st, opIsiI ["Sampler"] [] (isaT tl_Sampler) [b', .glo "Sampler"] st = some (.bl false, st)) : p_Sampler___eq__ [.ref k, b] st = .ok (.bl false) st :=
  pureT_ok (s := []) (ds' := [objS c rs, b']) (by
    have := ref_frz P.ok (by have := P.deep; omega) hk 8
    simp only [allP, this, hb]) (by simp [B_p_Sampler___eq__, h]) rfl
theorem eq_two (P' : ShapeL c' rs') (hk : st[k]? = some (insS c rs)) (hk' : st[k']? = some (insS c' rs')) : p_Sampler___eq__ [.ref k, .ref k'] st = .ok (.bl (decide (samplerT c rs = samplerT c' rs'))) st :=
  pureT_ok (s := []) (ds' := [objS c rs, objS c' rs']) (by
    have a := ref_frz P.ok (by have := P.deep; omega) hk 8
    have b := ref_frz P'.ok (by have := P'.deep; omega) hk' 8
    simp only [allP, a, b]) (by simp [B_p_Sampler___eq__, isi_two, get_source, eq_str]) rfl
abbrev eqts : List String := ["str", "tuple", "list", "NoneType", "int", "bool", "dict"]
omit P in
theorem eqI_at {neg : Bool} {b : D} {r : Bool} (hk : st[k]? = some (insS c rs)) (ho : okR "Sampler" eqts st b = true) (h : p_Sampler___eq__ [.ref k, b] st = .ok (.bl r) st) : opEqI "Sampler" eqts p_Sampler___eq__ neg (.ref k) b st = some (.bl (if neg then !r else r), st) := by
  show (match insD st (.ref k) with
    | some (C', _) => if C' = "Sampler" ∧ okR "Sampler" eqts st b = true then (if neg then kNe (optR (p_Sampler___eq__ [.ref k, b] st)) else optR (p_Sampler___eq__ [.ref k, b] st)) else none
    | none => opEq neg (.ref k) b st) = _
  rw [ins_at hk]
  show (if ("Sampler" : Str) = "Sampler" ∧ okR "Sampler" eqts st b = true then (if neg then kNe (optR (p_Sampler___eq__ [.ref k, b] st)) else optR (p_Sampler___eq__ [.ref k, b] st)) else none) = _
  rw [if_pos ⟨rfl, ho⟩, h]
  cases neg <;> rfl
omit P in
theorem ok_ref (hk' : st[k']? = some (insS c' rs')) : okR "Sampler" eqts st (.ref k') = true := by
  show (match insD st (.ref k') with
    | some (C', _) => decide (C' = "Sampler")
    | none => match tagD st (.ref k') with
      | some (.ty t) => eqts.contains t
      | _ => false) = _
  rw [ins_at hk']
  exact decide_eq_true rfl
end
end M
/-! KB6: the pool; a number drawn; loops whose store moves. -/
namespace M
open PySem PySem.W Builtin Builtin.Str
def NB : Nat := 2 ^ 1000
theorem nb_log {n : Nat} (h : n ≤ NB + 1) : n.log2 ≤ 2000 := by
  by_cases h0 : n = 0
  · subst h0; decide
  · have := (Nat.log2_lt h0 (k := 2000)).mpr (Nat.lt_of_le_of_lt h (by unfold NB; decide +kernel))
    omega
/-- lists other than those of l keep -/
def Kp (st st' : Sto) (l : List Nat) : Prop := ∀ q xs, q ∉ l → lstAt st q = some xs → lstAt st' q = some xs
theorem Kp.refl (st : Sto) (l : List Nat) : Kp st st l := fun q xs _ h => h
theorem Kp.trans {a b c : Sto} {l : List Nat} (h1 : Kp a b l) (h2 : Kp b c l) : Kp a c l := fun q xs hq h => h2 q xs hq (h1 q xs hq h)
theorem Kp.mono {a b : Sto} {l l' : List Nat} (h1 : Kp a b l) (h : ∀ q ∈ l, q ∈ l') : Kp a b l' := fun q xs hq h' => h1 q xs (fun m => hq (h q m)) h'
theorem Kp.set {st : Sto} {q : Nat} {o : O} : Kp st (st.set q o) [q] := fun k xs hk h => by
  have : q ≠ k := fun e => hk (by rw [e]; exact List.mem_cons_self)
  simp only [lstAt, List.getElem?_set_ne this] at h ⊢
  exact h
theorem Kp.push {st : Sto} {o : O} : Kp st (st ++ [o]) [] := fun k xs hk h => lst_push h o
theorem lst_lt {st : Sto} {q : Nat} {xs : List D} (h : lstAt st q = some xs) : q < st.length := by
  cases hq : st[q]? with
  | none => simp [lstAt, hq] at h
  | some o => exact (List.getElem?_eq_some_iff.mp hq).1
theorem ixr {st : Sto} {q : Nat} {xs : List D} {d : D} (h : lstAt st q = some xs) (i : Int) (hi : 0 ≤ i) (e : xs[i.toNat]? = some d) : opIx (.ref q) (.int i) st = some (d, st) := by
  have lt : i < xs.length := by have := (List.getElem?_eq_some_iff.mp e).1; omega
  have g := (List.getElem?_eq_some_iff.mp e).2
  simp [opIx, aseq, h, L2.atI, L2.ixN, hi, lt, g]
theorem ixl {xs : List D} {d : D} (i : Int) (hi : 0 ≤ i) (e : xs[i.toNat]? = some d) (st : Sto) : opIx (.lst xs) (.int i) st = some (d, st) := by
  have lt : i < xs.length := by have := (List.getElem?_eq_some_iff.mp e).1; omega
  have g := (List.getElem?_eq_some_iff.mp e).2
  simp [opIx, aseq, L2.atI, L2.ixN, hi, lt, g]
theorem kset {st : Sto} {q : Nat} {xs : List D} (h : lstAt st q = some xs) (i : Int) (hi : 0 ≤ i) (lt : i.toNat < xs.length) (d : D) (env : Env) : kSet d (.ref q) (.int i) env st = .ok env (st.set q (.lst (xs.set i.toNat d))) := by
  have lt : i < xs.length := by omega
  simp [kSet, h, L2.ixN, hi, lt]
def PoolAt (st : Sto) (g N : Nat) : Prop := ∃ (a b : Int) (n : Nat), lstAt st g = some [.int a, .int b, .int n] ∧ 0 ≤ a ∧ a < 2147483629 ∧ 0 ≤ b ∧ n ≤ N
theorem PoolAt.mono {st : Sto} {g N N' : Nat} (h : PoolAt st g N) (hN : N ≤ N') : PoolAt st g N' := by
  obtain ⟨a, b, n, h1, h2, h3, h4, h5⟩ := h
  exact ⟨a, b, n, h1, h2, h3, h4, by omega⟩
theorem PoolAt.keep {st st' : Sto} {g N : Nat} {l : List Nat} (h : PoolAt st g N) (k : Kp st st' l) (hg : g ∉ l) : PoolAt st' g N := by
  obtain ⟨a, b, n, h1, h2⟩ := h
  exact ⟨a, b, n, k _ _ hg h1, h2⟩
theorem mul_small {i j : Int} (h : smallI i ∨ smallI j) (st : Sto) : opMul (.int i) (.int j) st = some (.int (i * j), st) := by
  show (if smallI i ∨ smallI j then some (D.int (i * j), st) else _) = _
  rw [if_pos h]
theorem mul_log {i j : Int} (h : i.natAbs.log2 + j.natAbs.log2 < 1000000) (st : Sto) : opMul (.int i) (.int j) st = some (.int (i * j), st) := by
  show (if smallI i ∨ smallI j then some (D.int (i * j), st) else if i.natAbs.log2 + j.natAbs.log2 < 1000000 then some (D.int (i * j), st) else none) = _
  split
  · rfl
  · first | rfl | rw [if_pos h]
theorem mod_pos {i j : Int} (h : 0 < j) (st : Sto) : opMod (.int i) (.int j) st = some (.int (i % j), st) := by
  show (if 0 < j then some (D.int (i % j), st) else _) = _
  rw [if_pos h]
theorem fdiv128 (v : Int) (st : Sto) : opFdiv (.int v) (.int 128) st = some (.int (v / 128), st) := by
  have h : 0 < (128 : Int) ∧ (128 : Int).natAbs.log2 < 9000 := by decide
  unfold opFdiv
  simp only [if_pos h]
theorem draw_ok {st : Sto} {g N : Nat} {many : Int} (h : PoolAt st g N) (hN : N ≤ NB) (h1 : 0 < many) (h2 : many < 1073741824) :
    ∃ r st', k13__law_draw [.ref g, .int many] st = .ok (.int r) st' ∧ 0 ≤ r ∧ r < many ∧ PoolAt st' g (N + 1) ∧ Kp st st' [g] := by
  obtain ⟨a, b, n, hl, a0, a1, b0, hn⟩ := h
  have e2 := ixr hl 2 (by decide) (d := .int n) rfl
  have k2 : ∀ env, kSet (.int (n + 1)) (.ref g) (.int 2) env st = .ok env (st.set g (.lst [.int a, .int b, .int (n + 1)])) := fun env => kset hl 2 (by decide) (by show (2 : Nat) < 3; decide) (.int (n + 1)) env
  have hl1 := lst_set hl [.int a, .int b, .int (n + 1)]
  have e0 := ixr hl1 0 (by decide) (d := .int a) rfl
  have e2' := ixr hl1 2 (by decide) (d := .int (n + 1)) rfl
  have nl : (n + 1).log2 ≤ 2000 := nb_log (by omega)
  have sa : smallI a := by unfold smallI; omega
  have m1 := fun j st => mul_small (i := a) (j := j) (.inl sa) st
  have m2 := fun st => mul_small (i := 7919) (j := n + 1) (.inl (by unfold smallI; decide)) st
  have l2 : (7919 * ((n : Int) + 1)).natAbs.log2 ≤ 3000 := by
    have : (7919 * ((n : Int) + 1)).natAbs = 7919 * (n + 1) := by omega
    rw [this]
    have e := (Nat.log2_lt (n := 7919 * (n + 1)) (by omega) (k := 3000)).mpr (by
      have : n + 1 < 2 ^ 2001 := (Nat.log2_lt (by omega)).mp (by omega)
      calc 7919 * (n + 1) < 7919 * 2 ^ 2001 := by omega
        _ ≤ 2 ^ 3000 := by decide +kernel)
    omega
  have l3 : ((n : Int) + 1).natAbs.log2 ≤ 2000 := by
    have : ((n : Int) + 1).natAbs = n + 1 := by omega
    rw [this]; exact nl
  have m3 := fun st => mul_log (i := 7919 * ((n : Int) + 1)) (j := n + 1) (by omega) st
  obtain ⟨v, hv⟩ : ∃ v, v = (a * (a % 30011 + 40009 + (n + 1)) + 7919 * (n + 1) * (n + 1) + 101) % 2147483629 := ⟨_, rfl⟩
  have v0 : 0 ≤ v := by rw [hv]; exact Int.emod_nonneg _ (by decide)
  have v1 : v < 2147483629 := by rw [hv]; exact Int.emod_lt_of_pos _ (by decide)
  have k0 : ∀ env, kSet (.int v) (.ref g) (.int 0) env (st.set g (.lst [.int a, .int b, .int (n + 1)])) = .ok env ((st.set g (.lst [.int a, .int b, .int (n + 1)])).set g (.lst [.int v, .int b, .int (n + 1)])) := fun env => kset hl1 0 (by decide) (by show (0 : Nat) < 3; decide) (.int v) env
  have hl2 := lst_set hl1 [.int v, .int b, .int (n + 1)]
  have f1 := ixr hl2 1 (by decide) (d := .int b) rfl
  have f0 := ixr hl2 0 (by decide) (d := .int v) rfl
  have p1 : (0 : Int) < 30011 := by decide
  have p2 : (0 : Int) < 2147483629 := by decide
  simp only [List.set_set] at hl2 f1 f0 k0
  have start : k13__law_draw [.ref g, .int many] st = endB (kSeq (sSeq (sIf (tBl (iBin opGt (iBin opIx (iVar 0) (iC (.int 1))) (iC (.int 0)))) (sSeq (sAsg (gTup' 2 (gsCons (gIx (iVar 0) (iC (.int 1))) (gsVar 5 gsNil))) (iN opDivmod (aCons (iBin opIx (iVar 0) (iC (.int 1))) (aCons (iVar 1) aNil))))
  (sRet (iVar 5))) sNil)
  (sRet (iBin opMod (iN opInt (aCons (iBin opFdiv (iBin opIx (iVar 0) (iC (.int 0))) (iC (.int 128))) aNil)) (iVar 1)))) (.nx [some (.ref g), some (.int many), some (.int a), some (.int (n + 1)), some (.int (a % 30011 + 40009 + (n + 1))), none] (st.set g (.lst [.int v, .int b, .int (n + 1)])))) := by
    simp [k13__law_draw, B_k13__law_draw, e2, opAdd]
    rw [k2]
    simp [e0, e2', opInt, opMod, opAdd, m1, m2, m3, ← hv, p1, p2]
    rw [k0]
    simp
  rw [start]
  by_cases hb : 0 < b
  · have k1 : ∀ env, kSet (.int (b / many)) (.ref g) (.int 1) env (st.set g (.lst [.int v, .int b, .int (n + 1)])) = .ok env ((st.set g (.lst [.int v, .int b, .int (n + 1)])).set g (.lst [.int v, .int (b / many), .int (n + 1)])) := fun env => kset hl2 1 (by decide) (by show (1 : Nat) < 3; decide) (.int (b / many)) env
    refine ⟨b % many, _, ?_, Int.emod_nonneg _ (by omega), Int.emod_lt_of_pos _ h1, ⟨v, b / many, n + 1, lst_set hl2 [.int v, .int (b / many), .int (n + 1)], v0, v1, Int.ediv_nonneg b0 (by omega), by omega⟩, ?_⟩
    · simp [f1, opCmp, hb, opDivmod, h1, h2]
      rw [k1]
      simp
    · rw [List.set_set]; exact Kp.set
  · refine ⟨v / 128 % many, _, ?_, Int.emod_nonneg _ (by omega), Int.emod_lt_of_pos _ h1, ⟨v, b, n + 1, hl2, v0, v1, b0, by omega⟩, Kp.set⟩
    have p3 : (128 : Int).natAbs.log2 < 9000 := by decide
    simp [f1, f0, opCmp, hb, fdiv128, opInt, mod_pos h1]
/-! ### loops -/
theorem rng_at (n : Nat) (i : Nat) (st : Sto) : nxR 0 n i st = some ((List.range n).map fun k : Nat => D.int k)[i]? := by
  unfold nxR
  rw [List.getElem?_map]
  by_cases h : i < n
  · rw [if_pos h, List.getElem?_range h]
    simp
  · rw [if_neg h, List.getElem?_eq_none (by simp; omega)]
    rfl
theorem rng1 {e : IE} {env : Env} {st st' : Sto} {n : Nat} (he : e env st = .ok (.int n) st') (hn : n ≤ 1000000) : wRng1 (aCons e aNil) env st = .ok (nxR 0 n, n) st' := by
  have h62 : -(2 ^ 62 : Int) ≤ (n : Int) ∧ (n : Int) < 2 ^ 62 := by omega
  have k : kRng1 [.int n] st' = .ok (nxR 0 n, n) st' := by
    unfold kRng1
    simp only [if_pos h62, Int.toNat_natCast]
  unfold wRng1
  rw [aCons_d, he, R_ok, aNil_d, R_ok, R_ok, k]
/-- a for over range(n) whose store moves -/
theorem forL_rng {g : IG} {b : IS} {n : Nat} (P : Nat → Env → Sto → Prop)
    (step : ∀ i, i < n → ∀ env st, P i env st → ∃ e1 s1, g (.int i) env st = .ok e1 s1 ∧ ∃ e2 s2, (b e1 s1 = .nx e2 s2 ∨ b e1 s1 = .ct e2 s2) ∧ P (i + 1) e2 s2) {env : Env} {st : Sto} (h : P 0 env st) : ∃ e2 s2, forL (nxR 0 n) g b n 0 env st = .nx e2 s2 ∧ P n e2 s2 := by
  have := forL_idx (nx := nxR 0 n) (g := g) (b := b) (xs := (List.range n).map fun k : Nat => D.int k) P (rng_at n) (fun i d hd env st hp => by
    obtain ⟨hi, e⟩ := List.getElem?_eq_some_iff.mp hd
    simp at hi e
    subst e
    exact step i hi env st hp) n 0 env st (Nat.zero_le _) (by simp) h
  rw [List.length_map, List.length_range] at this
  exact this
/-- a comprehension over range(n) whose store moves -/
theorem compF_rng {e : IE} {env0 : Env} {v : Nat} {n : Nat} (hn : n ≤ 1000000) (Q : List D → Sto → Prop) (step : ∀ i, i < n → ∀ acc st, acc.length = i → Q acc st → ∃ d st', e (env0.set v (some (.int i))) st = .ok d st' ∧ Q (acc ++ [d]) st') :
    ∀ (m i : Nat) (acc : List D) (st : Sto), i + m = n → acc.length = i → Q acc st → ∃ acc' st', compF (nxR 0 n) (.one v) tYes' e env0 m i acc st = .ok acc' st' ∧ acc'.length = n ∧ Q acc' st'
  | 0, i, acc, st, hm, ha, h => by
    have : i = n := by omega
    subst this
    refine ⟨acc, st, ?_, ha, h⟩
    unfold compF nxR
    rw [if_neg (Nat.lt_irrefl _)]
  | m + 1, i, acc, st, hm, ha, h => by
    obtain ⟨d, st', h1, h2⟩ := step i (by omega) acc st ha h
    obtain ⟨acc', st'', h3, h4, h5⟩ := compF_rng hn Q step m (i + 1) (acc ++ [d]) st' (by omega) (by simp [ha]) h2
    refine ⟨acc', st'', ?_, h4, h5⟩
    unfold compF
    have e0 : nxR 0 n i st = some (some (.int i)) := by
      unfold nxR
      rw [if_pos (by omega)]
      simp
    rw [e0]
    show (((tYes' (env0.set v (some (.int i)))) st).nox).bind (fun k s1 => if k = true then ((e (env0.set v (some (.int i))) s1).nox).bind fun v' s2 => if acc.length < sizeLine then compF (nxR 0 n) (.one v) tYes' e env0 m (i + 1) (acc ++ [v']) s2 else .bad else compF (nxR 0 n) (.one v) tYes' e env0 m (i + 1) acc s1) = _
    rw [tYes_d]
    show ((e (env0.set v (some (.int i))) st).nox).bind (fun v' s2 => if acc.length < sizeLine then compF (nxR 0 n) (.one v) tYes' e env0 m (i + 1) (acc ++ [v']) s2 else .bad) = _
    rw [h1]
    show (if acc.length < sizeLine then compF (nxR 0 n) (.one v) tYes' e env0 m (i + 1) (acc ++ [d]) st' else .bad) = _
    have big := sizeLine_big
    rw [if_pos (by omega), h3]
end M
/-! KA7: letters; six tags. -/
namespace M
open PySem PySem.W Builtin Builtin.Str
theorem Kp.fresh {a b : Sto} {T : Nat} {l : List Nat} (h : Kp a b (T :: l)) (hT : a.length ≤ T) : Kp a b l := fun q xs hq h' => h q xs (fun m => by
  rcases List.mem_cons.mp m with e | m
  · have := lst_lt h'; omega
  · exact hq m) h'
structure Shape (x : Str) : Prop where
  one : 1 ≤ (toL x).length
  eight : (toL x).length ≤ 8
  low : ∀ c ∈ toL x, 97 ≤ c ∧ c ≤ 122
def abc : Str := Str.ofString "abcdefghijklmnopqrstuvwxyz"
theorem abc_ix {r : Int} (h0 : 0 ≤ r) (h1 : r < 26) (st : Sto) : opIx (.str abc) (.int r) st = some (.str ⟨#[97 + r.toNat]⟩, st) := by
  have hl : abc.length ≤ sizeLine := by rw [show abc.length = 26 by kernel_rfl]; decide
  have e : abc.cps.toList = (List.range 26).map (97 + ·) := letters_L
  show (if abc.length ≤ sizeLine then (L2.atI abc.cps.toList r).map fun c => (D.str ⟨#[c]⟩, st) else none) = _
  rw [if_pos hl, e]
  have hn : r.toNat < 26 := by omega
  have : L2.atI ((List.range 26).map (97 + ·)) r = some (97 + r.toNat) := by
    unfold L2.atI L2.ixN
    rw [if_pos h0, if_pos (by simp; omega)]
    simp [List.getElem?_range hn]
  rw [this]
  rfl
theorem join_eps : ∀ cs : List Nat, toL (Str.join (Str.ofString "") (cs.map fun c => ⟨#[c]⟩)) = cs
  | [] => rfl
  | [c] => rfl
  | c :: d :: r => by
    have ih := join_eps (d :: r)
    show toL ((⟨#[c]⟩ : Str) ++ Str.ofString "" ++ Str.join (Str.ofString "") ((d :: r).map fun c => ⟨#[c]⟩)) = _
    rw [toL_app, toL_app, ih]
    rfl
theorem letters_ok {st : Sto} {g N n : Nat} (h : PoolAt st g N) (hN : N + n ≤ NB) (hn : n ≤ 20) : ∃ x st', k13__law_letters [.ref g, .int n] st = .ok (.str x) st' ∧ (toL x).length = n ∧ (∀ c ∈ toL x, 97 ≤ c ∧ c ≤ 122) ∧ PoolAt st' g (N + n) ∧ Kp st st' [g] := by
  obtain ⟨acc, st', h1, h2, h3, h4, cs, h5, h6⟩ := compF_rng (n := n) (v := 3) (e := (iBin opIx (iVar 2) (iCall k13__law_draw [] (aCons (iVar 0) (aCons (iC (.int 26)) aNil))))) (env0 := [some (.ref g), some (.int n), some (.str abc), none]) (by omega) (fun acc s => PoolAt s g (N + acc.length) ∧ Kp st s [g] ∧ ∃ cs : List Nat, acc = cs.map (fun c => D.str ⟨#[c]⟩) ∧ ∀ c ∈ cs, 97 ≤ c ∧ c ≤ 122) (fun i hi acc s ha ⟨q1, q2, cs, q3, q4⟩ => by
      obtain ⟨r, s', e, r0, r1, p, k⟩ := draw_ok (many := 26) q1 (by omega) (by decide) (by decide)
      refine ⟨.str ⟨#[97 + r.toNat]⟩, s', ?_, by simpa [Nat.add_assoc] using p, q2.trans k, cs ++ [97 + r.toNat], by simp [q3], fun c hc => ?_⟩
      · simp [e, abc_ix r0 r1]
      · rcases List.mem_append.mp hc with hc | hc
        · exact q4 c hc
        · have := List.mem_singleton.mp hc; omega) n 0 [] st (by omega) rfl ⟨h, Kp.refl _ _, [], rfl, fun _ h => nomatch h⟩
  have lc : cs.length = n := by have := congrArg List.length h5; simp at this; omega
  refine ⟨⟨cs.toArray⟩, st', ?_, by rw [toL_mk, lc], by rw [toL_mk]; exact h6, by rw [h2] at h3; exact h3, h4⟩
  have rg := rng1 (e := iVar 1) (env := [some (.ref g), some (.int n), some (.str abc), none]) (st := st) (st' := st) (n := n) (by simp) (by omega)
  have as : allP asS acc = some (cs.map fun c => ⟨#[c]⟩) := by
    rw [h5, allP_map (g := fun d => match d with | .str x => x | _ => Str.empty) (fun d hd => by
      obtain ⟨c, _, rfl⟩ := List.mem_map.mp hd; rfl)]
    simp
  have jn : opJoin (.str (Str.ofString "")) (.lst acc) st' = some (.str ⟨cs.toArray⟩, st') := by
    have sl : ((cs.map fun c => (⟨#[c]⟩ : Str)).map Str.length).sum ≤ (cs.map fun c => (⟨#[c]⟩ : Str)).length * 1000 := sum_le (ys := cs.map fun c => (⟨#[c]⟩ : Str)) (fun y hy => by
      obtain ⟨c, _, rfl⟩ := List.mem_map.mp hy
      show (1 : Nat) ≤ 1000
      decide)
    have e0 : (Str.ofString "").length = 0 := by kernel_rfl
    rw [List.length_map] at sl
    show (match allP asS acc with
      | some ys => if (ys.map Str.length).sum + ys.length * (Str.ofString "").length ≤ 16777216 then some (D.str (Txt.join (Str.ofString "") ys), st') else none
      | none => none) = _
    rw [as]
    show (if ((cs.map fun c => (⟨#[c]⟩ : Str)).map Str.length).sum + (cs.map fun c => (⟨#[c]⟩ : Str)).length * (Str.ofString "").length ≤ 16777216 then some (D.str (Txt.join (Str.ofString "") (cs.map fun c => ⟨#[c]⟩)), st') else none) = _
    rw [if_pos (by rw [e0, List.length_map]; omega)]
    have : Txt.join (Str.ofString "") (cs.map fun c => ⟨#[c]⟩) = ⟨cs.toArray⟩ := toL_inj (by
      rw [show Txt.join (Str.ofString "") (cs.map fun c => ⟨#[c]⟩) = Str.join (Str.ofString "") (cs.map fun c => ⟨#[c]⟩) from StrLaws.glued_eq_join _ _, join_eps, toL_mk])
    rw [this]
  have ea : (Str.ofString "abcdefghijklmnopqrstuvwxyz") = abc := rfl
  simp [k13__law_letters, B_k13__law_letters, ea, rg, Pat.slots, wipeE]
  rw [h1]
  simp [jn]
/-! ### names -/
def nameB (x : Str) : Bool := decide (1 ≤ (toL x).length) && decide ((toL x).length ≤ 8) && (toL x).all (fun c => decide (97 ≤ c) && decide (c ≤ 122)) && !decide (x ∈ barred)
theorem nameB_ok {x : Str} (h : nameB x = true) : NameOk x := by
  unfold nameB at h
  simp only [Bool.and_eq_true, decide_eq_true_eq, List.all_eq_true, Bool.not_eq_true', decide_eq_false_iff_not] at h
  exact ⟨h.1.1.1, h.1.1.2, h.1.2, h.2⟩
def words8 : List Str := ["in", "new", "gone", "ifs", "nn", "keep", "isn", "draws"]
def qs8 : List Str := ["q", "qq", "qqq", "qqqq", "qqqqq", "qqqqqq", "qqqqqqq", "qqqqqqqq"]
theorem words_shape : ∀ x ∈ words8, Shape x := fun x hx => by
  have : ∀ x ∈ words8, nameB x = true := by decide +kernel
  have := nameB_ok (this x hx)
  exact ⟨this.one, this.eight, this.low⟩
theorem qs_ok : ∀ x ∈ qs8, NameOk x := fun x hx => by
  have : ∀ x ∈ qs8, nameB x = true := by decide +kernel
  exact nameB_ok (this x hx)
theorem qs_nodup : qs8.Nodup := by decide +kernel
theorem in_ref {neg : Bool} {x : Str} {l : List Str} {st : Sto} {q : Nat} (h : lstAt st q = some (l.map .str)) : opIn neg (.str x) (.ref q) st = some (.bl (if neg then !decide (x ∈ l) else decide (x ∈ l)), st) := by
  have e := in_strs (neg := neg) (x := x) (l := l) st
  have a : opIn neg (.str x) (.ref q) st = opIn neg (.str x) (.lst (l.map .str)) st := by
    show (match lstAt st q with
      | some xs => if flatD (.str x) = true ∧ xs.all flatD = true then some (D.bl (if neg then !inD (.str x) xs else inD (.str x) xs), st) else none
      | none => none) = _
    rw [h]
    rfl
  rw [a, e]
/-! ### one tag -/
abbrev barD : D := .lst (barred.map .str)
abbrev ET (g : Nat) (sty k : Int) (base : Str) (cut : Int) (T : Nat) (g7 g8 g9 g10 : Option D) : Env := [some (.ref g), some barD, some (.int sty), some (.int k), some (.str base), some (.int cut), some (.ref T), g7, g8, g9, g10]
def tagA : IS := (sIf (tBl (iBin (opEq false) (iVar 2) (iC (.int 0)))) (sSet 8 (iCall k13__law_letters [] (aCons (iVar 0) (aCons (iBin opAdd (iC (.int 1)) (iCall k13__law_draw [] (aCons (iVar 0) (aCons (iC (.int 8)) aNil)))) aNil)))) (sIf (tBl (iBin (opEq false) (iVar 2) (iC (.int 1)))) (sSet 8 (iBin opIx (iN opLstF (aCons (iC (.str "in")) (aCons (iC (.str "new")) (aCons (iC (.str "gone")) (aCons (iC (.str "ifs")) (aCons (iC (.str "nn")) (aCons (iC (.str "keep")) (aCons (iC (.str "isn")) (aCons (iC (.str "draws")) aNil))))))))) (iCall k13__law_draw [] (aCons (iVar 0) (aCons (iC (.int 8)) aNil))))) (sSet 8 (iBin opAdd (iBin opAdd (iSl (iVar 4) oNone (oSome (iVar 5))) (iCall k13__law_letters [] (aCons (iVar 0) (aCons (iC (.int 1)) aNil)))) (iSl (iVar 4) (oSome (iVar 5)) oNone)))))
def tagB : IS := (sIf (tOr' (tBl (iBin (opIn false) (iVar 8) (iVar 1))) (tBl (iBin (opIn false) (iVar 8) (iVar 6)))) (sSet 8 (iBin opIx (iCompF (wAny (iCompF (wRng1 (aCons (iC (.int 8)) aNil)) (.one 10) tYes' (iBin opMulT (iC (.str "q")) (iBin opAdd (iVar 10) (iC (.int 1)))))) (.one 9) (tBl (iBin (opIn true) (iVar 9) (iVar 6))) (iVar 9)) (iC (.int 0)))) sNil)
theorem eq_int (a b : Int) (st : Sto) : opEq false (.int a) (.int b) st = some (.bl (decide (a = b)), st) := by
  show (match toP st 64 (.int a), toP st 64 (.int b) with
    | some p, some q => some (D.bl (if false = true then !PyData.eqv p q else PyData.eqv p q), st)
    | _, _ => none) = _
  have e : PyData.eqv (.int a) (.int b) = decide (a = b) := by
    rw [Bool.eq_iff_iff]; simp [PyData.eqv]
  show some (D.bl (PyData.eqv (.int a) (.int b)), st) = _
  rw [e]
theorem cut_to (z : Str) (k : Nat) (h : k ≤ (toL z).length) : toL (L2.cutS z none (some (k : Int))) = (toL z).take k := by
  show ((toL z).drop (HT.sIx z.length 0 none)).take (HT.sIx z.length z.length (some (k : Int)) - HT.sIx z.length 0 none) = _
  rw [HT.sIx_nat, HT.sIx_none, len_toL, Nat.min_eq_left h]
  simp
theorem slT {z : Str} {k : Nat} (hl : z.length ≤ 1000) (h : k ≤ (toL z).length) (st : Sto) : opSl (.str z) none (some (k : Int)) st = some (.str ⟨((toL z).take k).toArray⟩, st) := by
  have big := sizeLine_big
  show (if z.length ≤ sizeLine then some (D.str (L2.cutS z none (some (k : Int))), st) else none) = _
  rw [if_pos (by omega), show L2.cutS z none (some (k : Int)) = ⟨((toL z).take k).toArray⟩ from toL_inj (by rw [cut_to z k h, toL_mk])]
theorem slF {z : Str} {k : Nat} (hl : z.length ≤ 1000) (st : Sto) : opSl (.str z) (some (k : Int)) none st = some (.str ⟨((toL z).drop k).toArray⟩, st) := by
  have big := sizeLine_big
  show (if z.length ≤ sizeLine then some (D.str (L2.cutS z (some (k : Int)) none), st) else none) = _
  rw [if_pos (by omega), show L2.cutS z (some (k : Int)) none = ⟨((toL z).drop k).toArray⟩ from toL_inj (by rw [cut_from, toL_mk])]
theorem tagA_ok {st : Sto} {g N T : Nat} {sty k : Int} {base : Str} {cut : Nat} {g7 g8 g9 g10 : Option D} (h : PoolAt st g N) (hN : N + 20 ≤ NB) (hb : (toL base).length ≤ 7) (hbl : ∀ c ∈ toL base, 97 ≤ c ∧ c ≤ 122) (hc : cut ≤ (toL base).length) :
    ∃ x st', tagA (ET g sty k base cut T g7 g8 g9 g10) st = .nx (ET g sty k base cut T g7 (some (.str x)) g9 g10) st' ∧ Shape x ∧ PoolAt st' g (N + 10) ∧ Kp st st' [g] := by
  by_cases h0 : sty = 0
  · obtain ⟨r, s1, e1, r0, r1, p1, k1⟩ := draw_ok (many := 8) h (by omega) (by decide) (by decide)
    obtain ⟨x, s2, e2, l2, c2, p2, k2⟩ := letters_ok (n := 1 + r.toNat) p1 (by omega) (by omega)
    have er : ((1 + r.toNat : Nat) : Int) = 1 + r := by omega
    rw [er] at e2
    refine ⟨x, s2, ?_, ⟨by omega, by omega, c2⟩, p2.mono (by omega), k1.trans k2⟩
    simp [tagA, h0, eq_int, e1, opAdd, e2]
  · by_cases h1 : sty = 1
    · obtain ⟨r, s1, e1, r0, r1, p1, k1⟩ := draw_ok (many := 8) h (by omega) (by decide) (by decide)
      have hr : r.toNat < 8 := by omega
      have hx : words8[r.toNat]? = some words8[r.toNat] := List.getElem?_eq_getElem hr
      have ix := ixl (xs := words8.map D.str) (d := .str words8[r.toNat]) r r0 (by rw [List.getElem?_map, hx]; rfl) s1
      have ew : words8.map D.str = [.str "in", .str "new", .str "gone", .str "ifs", .str "nn", .str "keep", .str "isn", .str "draws"] := rfl
      rw [ew] at ix
      refine ⟨words8[r.toNat], s1, ?_, words_shape _ (List.getElem_mem hr), p1.mono (by omega), k1⟩
      simp [tagA, h0, h1, eq_int, e1, ix]
    · obtain ⟨x, s2, e2, l2, c2, p2, k2⟩ := letters_ok (n := 1) h (by omega) (by omega)
      have bl : base.length ≤ 1000 := by rw [len_toL]; omega
      have a1 := fun st => slT bl hc st
      have a2 := fun st => slF (k := cut) bl st
      have ex : toL ((⟨((toL base).take cut).toArray⟩ : Str) ++ x ++ ⟨((toL base).drop cut).toArray⟩) = (toL base).take cut ++ toL x ++ (toL base).drop cut := by rw [toL_app, toL_app, toL_mk, toL_mk]
      refine ⟨(⟨((toL base).take cut).toArray⟩ : Str) ++ x ++ ⟨((toL base).drop cut).toArray⟩, s2, ?_, ⟨by rw [ex]; simp only [List.length_append, List.length_take, List.length_drop]; omega, by rw [ex]; simp only [List.length_append, List.length_take, List.length_drop]; omega, fun c hc => ?_⟩, p2.mono (by omega), k2⟩
      · have big := sizeLine_big
        have z1 : (⟨((toL base).take cut).toArray⟩ : Str).length + x.length ≤ 1000000 := by rw [len_toL, len_toL, toL_mk]; simp only [List.length_take]; omega
        have z2 : ((⟨((toL base).take cut).toArray⟩ : Str) ++ x).length + (⟨((toL base).drop cut).toArray⟩ : Str).length ≤ 1000000 := by simp only [len_toL, toL_app, toL_mk, List.length_append, List.length_take, List.length_drop]; omega
        have e2' : k13__law_letters [.ref g, .int 1] st = .ok (.str x) s2 := e2
        simp [tagA, h0, h1, eq_int, a1, a2, e2', opAdd, z1, z2]
      · rw [ex, List.mem_append, List.mem_append] at hc
        rcases hc with (hc | hc) | hc
        · exact hbl c (List.mem_of_mem_take hc)
        · exact c2 c hc
        · exact hbl c (List.mem_of_mem_drop hc)
theorem qs_comp (e0 e1 e2 e3 e4 e5 e6 e7 e8 e9 e10 : Option D) (st : Sto) : (iCompF (wRng1 (aCons (iC (.int 8)) aNil)) (.one 10) tYes' (iBin opMulT (iC (.str "q")) (iBin opAdd (iVar 10) (iC (.int 1))))) [e0, e1, e2, e3, e4, e5, e6, e7, e8, e9, e10] st = .ok (.lst (qs8.map .str)) st := by kernel_rfl
theorem tagB_ok {st : Sto} {g T : Nat} {sty k cut : Int} {base x : Str} {g7 g9 g10 : Option D} {tags : List Str} (hT : lstAt st T = some (tags.map .str)) (hl : tags.length ≤ 6) (hx : Shape x) :
    ∃ y, tagB (ET g sty k base cut T g7 (some (.str x)) g9 g10) st = .nx (ET g sty k base cut T g7 (some (.str y)) g9 g10) st ∧ NameOk y ∧ y ∉ tags := by
  have i1 := in_strs (neg := false) (x := x) (l := barred) st
  have i2 := in_ref (neg := false) (x := x) hT
  by_cases hbad : x ∈ barred ∨ x ∈ tags
  · have fc := compF_rows (l := qs8) (F := D.str) (p := .one 9) (t := (tBl (iBin (opIn true) (iVar 9) (iVar 6)))) (e := iVar 9) (env0 := ET g sty k base cut T g7 (some (.str x)) none g10) (st := st) (fun y => !decide (y ∈ tags)) D.str (by decide) (fun y _ => by
      have i3 := in_ref (neg := true) (x := y) hT
      exact ⟨_, rfl, by simp [i3], fun _ => by simp⟩)
    cases hf : qs8.filter fun y => !decide (y ∈ tags) with
    | nil =>
      exfalso
      have := nodup_len (l' := tags) qs_nodup fun y hy => by
        have := List.filter_eq_nil_iff.mp hf y hy
        simpa using this
      have : qs8.length = 8 := rfl
      omega
    | cons y r =>
      have hy : y ∈ qs8.filter fun y => !decide (y ∈ tags) := by rw [hf]; exact List.mem_cons_self
      obtain ⟨y1, y2⟩ := List.mem_filter.mp hy
      rw [hf] at fc
      have ix : ∀ st, opIx (.lst ((y :: r).map D.str)) (.int 0) st = some (.str y, st) := fun st => ixl 0 (by decide) rfl st
      refine ⟨y, ?_, qs_ok y y1, by simpa using y2⟩
      have test : tOr' (tBl (iBin (opIn false) (iVar 8) (iVar 1))) (tBl (iBin (opIn false) (iVar 8) (iVar 6))) (ET g sty k base cut T g7 (some (.str x)) g9 g10) st = .ok true st := by
        rcases hbad with hb | hb
        · simp [i1, hb]
        · by_cases hb' : x ∈ barred
          · simp [i1, hb']
          · simp [i1, hb', i2, hb]
      unfold tagB
      simp only [sIf_d, test, liftS_ok, if_true]
      rw [sSet_d, iBin_d, iCompF_d, wAny_d]
      rw [show (iCompF (wRng1 (aCons (iC (.int 8)) aNil)) (.one 10) tYes' (iBin opMulT (iC (.str "q")) (iBin opAdd (iVar 10) (iC (.int 1))))) (ET g sty k base cut T g7 (some (.str x)) g9 g10) st = .ok (.lst (qs8.map .str)) st from qs_comp ..]
      simp [Pat.slots, wipeE]
      simp at fc
      rw [fc]
      have ix' := ix st
      simp at ix'
      simp [ix']
  · have test : tOr' (tBl (iBin (opIn false) (iVar 8) (iVar 1))) (tBl (iBin (opIn false) (iVar 8) (iVar 6))) (ET g sty k base cut T g7 (some (.str x)) g9 g10) st = .ok false st := by
      simp only [not_or] at hbad
      simp [i1, hbad.1, i2, hbad.2]
    refine ⟨x, ?_, ⟨hx.one, hx.eight, hx.low, fun h => hbad (.inl h)⟩, fun h => hbad (.inr h)⟩
    unfold tagB
    simp only [sIf_d, test, liftS_ok, if_false, sNil_d, Bool.false_eq_true]
end M
/-! KA8: six tags; forms, deeds, tests. -/
namespace M
open PySem PySem.W Builtin Builtin.Str
theorem lst_len {st st' : Sto} {l : List Nat} : Kp st st' l → Kp st st' l := _root_.id
theorem tags_ok {st : Sto} {g N : Nat} (h : PoolAt st g N) (hN : N + 200 ≤ NB) : ∃ (tags : List Str) (T : Nat) (st' : Sto), k13__law_tags [.ref g] st = .ok (.ref T) st' ∧ lstAt st' T = some (tags.map .str) ∧ tags.length = 6 ∧ (∀ x ∈ tags, NameOk x) ∧ PoolAt st' g (N + 200) ∧ Kp st st' [g] := by
  obtain ⟨sty, s1, e1, r0, r1, p1, k1⟩ := draw_ok (many := 3) h (by omega) (by decide) (by decide)
  obtain ⟨k, s2, e2, q0, q1, p2, k2⟩ := draw_ok (many := 8) p1 (by omega) (by decide) (by decide)
  obtain ⟨base, s3, e3, bl, bc, p3, k3⟩ := letters_ok (n := k.toNat) p2 (by omega) (by omega)
  have ek : ((k.toNat : Nat) : Int) = k := by omega
  rw [ek] at e3
  obtain ⟨cut, s4, e4, c0, c1, p4, k4⟩ := draw_ok (many := k + 1) p3 (by omega) (by omega) (by omega)
  have ec : ((cut.toNat : Nat) : Int) = cut := by omega
  obtain ⟨T, hT⟩ : ∃ T, T = s4.length := ⟨_, rfl⟩
  have gT : g ≠ T := by obtain ⟨a, b, n, hl, _⟩ := p4; have := lst_lt hl; omega
  have loop := forL_rng (g := gVar 7) (n := 6) (b := (sSeq tagA (sSeq tagB (sExpr (iMl opAppend (iVar 6) (aCons (iVar 8) aNil))))))
    (fun i env s => ∃ (tags : List Str) (g7 g8 g9 g10 : Option D), env = ET g sty k base cut T g7 g8 g9 g10 ∧ lstAt s T = some (tags.map .str) ∧ tags.length = i ∧ (∀ x ∈ tags, NameOk x) ∧ PoolAt s g (N + 30 + 10 * i) ∧ Kp s4 s [T, g])
    (fun i hi env s ⟨tags, g7, g8, g9, g10, q1, q2, q3, q4, q5, q6⟩ => by
      subst q1
      obtain ⟨x, s', a1, a2, a3, a4⟩ := tagA_ok (T := T) (sty := sty) (k := k) (base := base) (cut := cut.toNat) (g7 := some (.int i)) (g8 := g8) (g9 := g9) (g10 := g10) q5 (by omega) (by omega) bc (by omega)
      rw [ec] at a1
      have hT' := a4 T _ (by simpa using gT.symm) q2
      obtain ⟨y, b1, b2, b3⟩ := tagB_ok (g := g) (sty := sty) (k := k) (base := base) (cut := cut) (g7 := some (.int i)) (g9 := g9) (g10 := g10) hT' (by omega) a2
      refine ⟨ET g sty k base cut T (some (.int i)) g8 g9 g10, s, rfl, ET g sty k base cut T (some (.int i)) (some (.str y)) g9 g10, s'.set T (.lst (tags.map .str ++ [.str y])), .inl ?_, tags ++ [y], _, _, _, _, rfl, (by simpa using lst_set hT' (tags.map .str ++ [.str y])), by simp [q3], fun z hz => ?_, PoolAt.keep (a3.mono (by omega)) Kp.set (by simpa using gT), ?_⟩
      · have ap := app_at hT' (by simp; omega) (.str y)
        rw [sSeq_d, a1, kSeq_nx, sSeq_d, b1, kSeq_nx]
        simp [isL_at hT']
        rw [ap]
        simp
      · rcases List.mem_append.mp hz with hz | hz
        · exact q4 z hz
        · rw [List.mem_singleton.mp hz]; exact b2
      · exact (q6.trans (a4.mono (by simp))).trans (Kp.set.mono (by simp)))
    (env := ET g sty k base cut T none none none none) (st := s4 ++ [.lst []]) ⟨[], none, none, none, none, rfl, (by rw [hT]; exact lst_new _ _), rfl, (fun _ h => nomatch h), PoolAt.keep (p4.mono (by omega)) Kp.push (by simp), Kp.push.mono (by simp)⟩
  obtain ⟨env', s5, l1, tags, g7, g8, g9, g10, rfl, l2, l3, l4, l5, l6⟩ := loop
  refine ⟨tags, T, s5, ?_, l2, l3, l4, l5.mono (by omega), ?_⟩
  · have rg := fun env => rng1 (e := iC (.int 6)) (env := env) (st := s4 ++ [.lst []]) (st' := s4 ++ [.lst []]) (n := 6) rfl (by decide)
    have eb : barred.map D.str = [.str "n", .str "m", .str "is", .str "if", .str "else", .str "draw", .str "below", .str "put", .str "exchange", .str "empty", .str "places", .str "take", .str "other", .str "join"] := rfl
    show runB B_k13__law_tags 11 1 [.ref g] st = _
    have bd : B_k13__law_tags = (sSeq (sSet 1 (iN opLstF (aCons (iC (.str "n")) (aCons (iC (.str "m")) (aCons (iC (.str "is")) (aCons (iC (.str "if")) (aCons (iC (.str "else")) (aCons (iC (.str "draw")) (aCons (iC (.str "below")) (aCons (iC (.str "put")) (aCons (iC (.str "exchange")) (aCons (iC (.str "empty")) (aCons (iC (.str "places")) (aCons (iC (.str "take")) aNil))))))))))))))
  (sSeq (sSet 1 (iBin opAdd (iVar 1) (iN opLstF (aCons (iC (.str "other")) (aCons (iC (.str "join")) aNil)))))
  (sSeq (sPar 2 3 (aCons (iCall k13__law_draw [] (aCons (iVar 0) (aCons (iC (.int 3)) aNil))) (aCons (iCall k13__law_draw [] (aCons (iVar 0) (aCons (iC (.int 8)) aNil))) aNil)))
  (sSeq (sAsg (gTup' 3 (gsVar 4 (gsVar 5 (gsVar 6 gsNil)))) (iN opTup (aCons (iCall k13__law_letters [] (aCons (iVar 0) (aCons (iVar 3) aNil))) (aCons (iCall k13__law_draw [] (aCons (iVar 0) (aCons (iBin opAdd (iVar 3) (iC (.int 1))) aNil))) (aCons (iN opLst aNil) aNil)))))
  (sSeq (sFor (wRng1 (aCons (iC (.int 6)) aNil)) (gVar 7) (sSeq tagA (sSeq tagB (sExpr (iMl opAppend (iVar 6) (aCons (iVar 8) aNil))))))
  (sRet (iVar 6))))))) := rfl
    have first : runB B_k13__law_tags 11 1 [.ref g] st = endB (kSeq (sRet (iVar 6)) (sFor (wRng1 (aCons (iC (.int 6)) aNil)) (gVar 7) (sSeq tagA (sSeq tagB (sExpr (iMl opAppend (iVar 6) (aCons (iVar 8) aNil))))) (ET g sty k base cut T none none none none) (s4 ++ [.lst []]))) := by
      rw [bd]
      simp [-sFor_d, e1, e2, e3, e4, opAdd, hT, ET, barD, eb]
    rw [first, sFor_d, rg]
    rw [liftS_ok, l1]
    simp
  · exact ((((k1.trans k2).trans k3).trans k4).trans (l6.fresh (by omega)))
/-! ### the rest of the world -/
end M
/-! KD2: a sampler tried, compared. -/
namespace M
open PySem PySem.W Builtin Builtin.Str
@[simp] theorem iNew_d {C : Str} {f : Fn} {dd : List D} {j : IA} {env : Env} {st : Sto} : iNew C f dd j env st = (j env st).bind fun ds s => opNew C f (ds ++ dd) s := Eq.trans rfl rfl
/-- nothing to be said against it -/
def Fine (rs : List Row) : Prop := sizesF rs = none ∧ lowL rs = [] ∧ wayF rs = none
theorem new_is {c : Int} {rs : List Row} (P : ShapeL c rs) (h : Fine rs) (st : Sto) : ∃ st' : Sto, opNew "Sampler" p_Sampler___init__ [.str (samplerT c rs)] st = .ok (.ref st.length) st' ∧ st'[st.length]? = some (insS c rs) ∧ ∀ (k : Nat) (o : O), st[k]? = some o → st'[k]? = some o := by
  have hk : (st ++ [O.ins "Sampler" []])[st.length]? = some (O.ins "Sampler" []) := by simp
  have i := init_is P hk
  rw [h.1, h.2.1, h.2.2] at i
  refine ⟨(st ++ [O.ins "Sampler" []]).set st.length (insS c rs), ?_, by rw [List.getElem?_set_self (by simp)], fun k o h => ?_⟩
  · unfold opNew
    rw [i]
    rfl
  · have lt := (List.getElem?_eq_some_iff.mp h).1
    rw [List.getElem?_set_ne (by omega), List.getElem?_append_left lt]
    exact h
theorem new_low {c : Int} {rs : List Row} {k : Nat} {l : List Nat} (P : ShapeL c rs) (h : sizesF rs = none) (h2 : lowL rs = k :: l) (st : Sto) : opNew "Sampler" p_Sampler___init__ [.str (samplerT c rs)] st = .exc "BelowOne" [("line", .int k)] (st ++ [O.ins "Sampler" []]) := by
  have hk : (st ++ [O.ins "Sampler" []])[st.length]? = some (O.ins "Sampler" []) := by simp
  have i := init_is P hk
  rw [h, h2] at i
  unfold opNew
  rw [i]
  rfl
theorem new_text {T : Str} (h : ∀ st, p_sampler_in [.str T] st = .ok .non st) (st : Sto) : opNew "Sampler" p_Sampler___init__ [.str T] st = .exc "InvalidText" [("value", .str T)] (st ++ [O.ins "Sampler" []]) := by
  unfold opNew
  rw [init_text h]
theorem error_low (k : Int) (st : Sto) : k13__law_error [.exc "BelowOne" [("line", .int k)]] st = .ok (.int 10) st := by kernel_rfl
theorem field_low (k : Int) (st : Sto) : k13__law_field [.exc "BelowOne" [("line", .int k)], .int 10] st = .ok (.int k) st := by kernel_rfl
theorem error_text (x : Str) (st : Sto) : k13__law_error [.exc "InvalidText" [("value", .str x)]] st = .ok (.int 0) st := by kernel_rfl
theorem field_text (x : Str) (st : Sto) : k13__law_field [.exc "InvalidText" [("value", .str x)], .int 0] st = .ok (.str x) st := by kernel_rfl
theorem low_hit : exmT tx__law_made "BelowOne" = some true := by kernel_rfl
theorem text_hit : exmT tx__law_made "InvalidText" = some true := by kernel_rfl
theorem made_text {T : Str} (h : ∀ st, p_sampler_in [.str T] st = .ok .non st) (st : Sto) : ∃ st', k13__law_made [.str T] st = .ok (.lst [.int 0, .str T]) st' := by
  have nb := fun st => new_text h st
  refine ⟨st ++ [O.ins "Sampler" []], ?_⟩
  simp [k13__law_made, B_k13__law_made, sTry, nb, kTry, text_hit, quietF, error_text, field_text, clrS]
theorem made_low {c : Int} {rs : List Row} {k : Nat} {l : List Nat} (P : ShapeL c rs) (h : sizesF rs = none) (h2 : lowL rs = k :: l) (st : Sto) : ∃ st', k13__law_made [.str (samplerT c rs)] st = .ok (.lst [.int 10, .int k]) st' := by
  have nb := fun st => new_low P h h2 st
  refine ⟨st ++ [O.ins "Sampler" []], ?_⟩
  simp [k13__law_made, B_k13__law_made, sTry, nb, kTry, low_hit, quietF, error_low, field_low, clrS]
theorem made_good {c : Int} {rs : List Row} (P : ShapeL c rs) (h : Fine rs) (st : Sto) : ∃ st' k, k13__law_made [.str (samplerT c rs)] st = .ok (.ref k) st' ∧ st'[k]? = some (insS c rs) := by
  obtain ⟨st', n, hk, _⟩ := new_is P h st
  refine ⟨st', st.length, ?_, hk⟩
  simp [k13__law_made, B_k13__law_made, sTry, n, kTry]
/-! ### compared -/
theorem isl_lst (xs : List D) (st : Sto) : opIsiI [] [] (isaT tl_list) [.lst xs, .ty "list"] st = some (.bl true, st) := by kernel_rfl
theorem isl_str (x : Str) (st : Sto) : opIsiI [] [] (isaT tl_list) [.str x, .ty "list"] st = some (.bl false, st) := by kernel_rfl
theorem isl_own : (isaT tl_list) (.own "Sampler") (.ty "list") = some false := by kernel_rfl
theorem isl_ref {c : Int} {rs : List Row} {st : Sto} {k : Nat} (hk : st[k]? = some (insS c rs)) : opIsiI ["Sampler"] [] (isaT tl_list) [.ref k, .ty "list"] st = some (.bl false, st) := by
  show (match insD st (.ref k) with
    | some (C, _) => if C ∈ (["Sampler"] : List Str) then (match clsD (.ty "list") with
      | some u => ((isaT tl_list) (.own C) u).map fun b => (D.bl b, st)
      | none => none) else none
    | none => opIsi [] (isaT tl_list) [.ref k, .ty "list"] st) = _
  rw [ins_at hk]
  show (if ("Sampler" : Str) ∈ (["Sampler"] : List Str) then (((isaT tl_list) (.own "Sampler") (.ty "list")).map fun b => (D.bl b, st)) else none) = _
  rw [if_pos List.mem_cons_self, isl_own]
  rfl
theorem is_good {c : Int} {rs : List Row} (P : ShapeL c rs) (h : Fine rs) {st : Sto} {k : Nat} (hk : st[k]? = some (insS c rs)) : ∃ st', k13__law_is [.ref k, .str (samplerT c rs)] st = .ok (.bl true) st' := by
  obtain ⟨st', n, hk2, kp⟩ := new_is P h st
  have hk' := kp _ _ hk
  have eq := eqI_at (neg := false) hk' (ok_ref (c' := c) (rs' := rs) hk2) (eq_two P P hk' hk2)
  have si := strI_at hk (str_is P hk)
  refine ⟨st', ?_⟩
  simp [k13__law_is, B_k13__law_is, isl_str, isl_ref hk, si, eq_str, n, eq]
theorem textFrom_le : ∀ (ts : List Str) (k : Nat) (acc : Str), (textFrom k acc ts).length ≤ acc.length + (ts.map fun t => t.length + 2).sum
  | [], k, acc => by simp [textFrom]
  | t :: ts, k, acc => by
    have := textFrom_le ts (k + 1) (acc ++ (if k > 0 then ", " else "" : String) ++ t)
    have e : (acc ++ (if k > 0 then ", " else "" : String) ++ t).length ≤ acc.length + 2 + t.length := by
      rw [len_app, len_app]
      have : ((if k > 0 then ", " else "" : String) : Str).length ≤ 2 := by
        split
        · exact Nat.le_of_eq (by kernel_rfl)
        · exact Nat.zero_le _
      omega
    show (textFrom (k + 1) (acc ++ (if k > 0 then ", " else "" : String) ++ t) ts).length ≤ _
    rw [List.map_cons, List.sum_cons]
    omega
theorem list_le (ts : List Str) : (listText ts).length ≤ 2 + (ts.map fun t => t.length + 2).sum := by
  have := textFrom_le ts 0 "["
  unfold listText
  rw [len_app]
  have l1 : (("[" : String) : Str).length = 1 := by kernel_rfl
  have l2 : (("]" : String) : Str).length = 1 := by kernel_rfl
  rw [l1] at this
  rw [l2]
  omega
theorem repr_le {x : Str} (h : PyData.strOk x = true) : (reprText x).length ≤ 10 * x.length + 2 := StrLaws.reprText_len x fun c hc => by
  unfold PyData.strOk at h
  rw [Array.all_eq_true_iff_forall_mem] at h
  have := h c (by simpa using hc)
  simp at this
  omega
/-- numbers and texts in a list, to the model's plain data -/
inductive Smp : D → PyData → Prop
  | int (i : Int) (h : i.natAbs.log2 < 1920) (hl : ((toString i : String) : Str).length ≤ 1000) : Smp (.int i) (.int i)
  | str (x : Str) (h : PyData.strOk x = true) (hl : x.length ≤ 1000) : Smp (.str x) (.str x)
theorem smp_toP {d : D} {p : PyData} (h : Smp d p) (st : Sto) (n : Nat) : toP st (n + 1) d = some p := by
  cases h with
  | int i h hl => rfl
  | str x h hl =>
    show (if PyData.strOk x then some (PyData.str x) else none) = _
    rw [if_pos h]
theorem smp_eqv {d : D} {p : PyData} (h : Smp d p) : PyData.eqv p p = true := by
  cases h <;> simp [PyData.eqv]
theorem smp_show {d : D} {p : PyData} (h : Smp d p) : p.showable = true := by
  cases h with
  | int i h hl => simp [PyData.showable, h]
  | str x h hl => simp [PyData.showable]
theorem pair_toP {a b : D} {p q : PyData} (ha : Smp a p) (hb : Smp b q) (st : Sto) : toP st 64 (.lst [a, b]) = some (.list [p, q]) := by
  show (allP (toP st 63) [a, b]).map PyData.list = _
  simp only [allP, smp_toP ha st 62, smp_toP hb st 62]
  rfl
theorem pair_eq {a b : D} {p q : PyData} (ha : Smp a p) (hb : Smp b q) (st : Sto) : opEq false (.lst [a, b]) (.lst [a, b]) st = some (.bl true, st) := by
  show (match toP st 64 (.lst [a, b]), toP st 64 (.lst [a, b]) with
    | some p, some q => some (D.bl (if false = true then !PyData.eqv p q else PyData.eqv p q), st)
    | _, _ => none) = _
  rw [pair_toP ha hb]
  have e : PyData.eqv (.list [p, q]) (.list [p, q]) = true := by simp [PyData.eqv, PyData.eqvAll, smp_eqv ha, smp_eqv hb]
  show some (D.bl (PyData.eqv (.list [p, q]) (.list [p, q])), st) = _
  rw [e]
theorem smp_len {d : D} {p : PyData} (h : Smp d p) : p.shown.length ≤ 20000 := by
  cases h with
  | int i h hl => simp only [PyData.shown]; omega
  | str x h hl => simp only [PyData.shown]; have := repr_le h; omega
theorem pair_repr {a b : D} {p q : PyData} (ha : Smp a p) (hb : Smp b q) (st : Sto) : ∃ x, opRepr [.lst [a, b]] st = some (.str x, st) := by
  refine ⟨PyData.shown (.list [p, q]), ?_⟩
  show ((rpr st (.lst [a, b])).map fun x => (D.str x, st)) = _
  have sh : PyData.showable (.list [p, q]) = true := by simp [PyData.showable, PyData.showableAll, smp_show ha, smp_show hb]
  have sl : (PyData.shown (.list [p, q])).length ≤ sizeLine := by
    have big := sizeLine_big
    have l1 := smp_len ha
    have l2 := smp_len hb
    simp only [PyData.shown, PyData.shownAll]
    have b0 := list_le [p.shown, q.shown]
    simp only [List.map_cons, List.map_nil, List.sum_cons, List.sum_nil] at b0
    omega
  have r : rpr st (.lst [a, b]) = some (PyData.shown (.list [p, q])) := by
    show (match toP st 64 (.lst [a, b]) with
      | some p => if p.showable = true ∧ p.shown.length ≤ sizeLine then some p.shown else none
      | none => none) = _
    rw [pair_toP ha hb]
    show (if _ ∧ _ then some _ else none) = _
    rw [if_pos ⟨sh, sl⟩]
  rw [r]
  rfl
theorem eqI_lst (xs : List D) (neg : Bool) (b : D) (st : Sto) : opEqI "Sampler" eqts p_Sampler___eq__ neg (.lst xs) b st = opEq neg (.lst xs) b st := rfl
theorem reprI_lst (xs : List D) (st : Sto) : opReprI "Sampler" p_Sampler___repr__ [.lst xs] st = opRepr [.lst xs] st := rfl
theorem is_pair {a b : D} {p q : PyData} (ha : Smp a p) (hb : Smp b q) (st : Sto) : k13__law_is [.lst [a, b], .lst [a, b]] st = .ok (.bl true) st := by
  have e := fun st => pair_eq ha hb st
  obtain ⟨x, hx⟩ := pair_repr ha hb st
  simp [k13__law_is, B_k13__law_is, isl_lst, eqI_lst, e, reprI_lst, hx, eq_str]
end M
/-! Rk13: the law. -/
namespace M
open PySem PySem.W Builtin Builtin.Str
set_option exponentiation.threshold 5000 in
theorem nb_big : 100000 ≤ NB := by unfold NB; decide +kernel
/-! ### bent writings -/
def signs20 : List Nat := toL (Str.ofString "0123456789n*+- <?m(N")
theorem signs_m (st : Sto) : (List.range 20).map (fun k : Nat => opIx (.str "0123456789n*+- <?m(N") (.int k) st) = (List.range 20).map (fun k : Nat => some (D.str ⟨#[signs20.getD k 0]⟩, st)) := by kernel_rfl
theorem signs_low : ∀ k ∈ List.range 20, 32 ≤ signs20.getD k 0 ∧ signs20.getD k 0 < 127 := by decide +kernel
def near14 : List Str := ["n+1", "n + 0", "1*n", "0*n", "n*2", "2n", "4*n", "n + 10", "n - -1", "-n", "+3", "03", "-0", "n - 0"]
def near12 : List Str := ["1 + n", "2*n + 3 - 1", "n + n", "- 3", "10", "-10", "0*n + 3", "", "2 * n", "3*n+ 1", "r", "n;"]
def smallS (x : Str) : Bool := decide (x.length ≤ 30) && (toL x).all (fun c => decide (32 ≤ c) && decide (c < 127))
theorem near_small : ∀ x ∈ near14 ++ near12, smallS x = true := by decide +kernel
theorem small_ok {x : Str} (h : smallS x = true) : lowS x ∧ x.length ≤ 30 := by
  unfold smallS at h
  simp only [Bool.and_eq_true, decide_eq_true_eq, List.all_eq_true] at h
  exact ⟨fun c hc => h.2 c hc, h.1⟩
theorem low_mk {l : List Nat} (h : ∀ c ∈ l, 32 ≤ c ∧ c < 127) : lowS ⟨l.toArray⟩ := fun c hc => h c (by simpa [toL] using hc)
theorem low_sub {x : Str} {l : List Nat} (h : lowS x) (hl : ∀ c ∈ l, c ∈ toL x) : lowS ⟨l.toArray⟩ := low_mk fun c hc => h c (hl c hc)
theorem len_mk (l : List Nat) : (⟨l.toArray⟩ : Str).length = l.length := by rw [len_toL]
theorem bent_ok {st : Sto} {g N : Nat} {w : Str} (h : PoolAt st g N) (hN : N + 10 ≤ NB) (hw : lowS w) (hl : w.length ≤ 12) : ∃ w' st', k13__law_bent [.ref g, .str w] st = .ok (.str w') st' ∧ lowS w' ∧ w'.length ≤ 30 ∧ PoolAt st' g (N + 4) ∧ Kp st st' [g] := by
  have big := sizeLine_big
  obtain ⟨kd, s1, e1, a0, a1, p1, k1⟩ := draw_ok (many := 4) h (by omega) (by decide) (by decide)
  obtain ⟨sp, s2, e2, b0, b1, p2, k2⟩ := draw_ok (many := (w.length : Int) + 1) p1 (by omega) (by omega) (by omega)
  obtain ⟨sg, s3, e3, c0, c1, p3, k3⟩ := draw_ok (many := 20) p2 (by omega) (by decide) (by decide)
  obtain ⟨n, rfl⟩ : ∃ n : Nat, sp = n := ⟨sp.toNat, by omega⟩
  obtain ⟨m, rfl⟩ : ∃ m : Nat, sg = m := ⟨sg.toNat, by omega⟩
  have hm : m ∈ List.range 20 := List.mem_range.mpr (by omega)
  have sx := fun st => map_get (signs_m st) m hm
  obtain ⟨z, hz⟩ : ∃ z, z = signs20.getD m 0 := ⟨_, rfl⟩
  have z1 := signs_low m hm
  rw [← hz] at z1
  simp only [← hz] at sx
  have ll : ∀ st, opLen [.str w] st = some (.int w.length, st) := fun st => len_str (by omega) st
  have t1 := fun st => slT (z := w) (k := n) (by omega) (by rw [← len_toL]; omega) st
  have f1 := fun st => slF (z := w) (k := n) (by omega) st
  have f2 : ∀ st, opSl (.str w) (some ((n : Int) + 1)) none st = some (.str ⟨((toL w).drop (n + 1)).toArray⟩, st) := fun st => slF (z := w) (k := n + 1) (by omega) st
  have lt := len_toL w
  have lT : ∀ c ∈ (toL w).take n, c ∈ toL w := fun c hc => List.mem_of_mem_take hc
  have lD : ∀ k, ∀ c ∈ (toL w).drop k, c ∈ toL w := fun k c hc => List.mem_of_mem_drop hc
  have ls : lowS ⟨#[z]⟩ := low_mk (l := [z]) fun c hc => by rw [List.mem_singleton.mp hc]; exact z1
  have g1 : (⟨((toL w).take n).toArray⟩ : Str).length ≤ 12 := by rw [len_mk, List.length_take]; omega
  have g2 : ∀ k, (⟨((toL w).drop k).toArray⟩ : Str).length ≤ 12 := fun k => by rw [len_mk, List.length_drop]; omega
  have g3 : (⟨#[z]⟩ : Str).length = 1 := rfl
  have y1 : (⟨((toL w).take n).toArray⟩ : Str).length + (⟨#[z]⟩ : Str).length ≤ 1000000 := by omega
  have y2 : ∀ k, ((⟨((toL w).take n).toArray⟩ : Str) ++ (⟨#[z]⟩ : Str)).length + (⟨((toL w).drop k).toArray⟩ : Str).length ≤ 1000000 := fun k => by rw [len_app]; have := g2 k; omega
  have y3 : ∀ k, (⟨((toL w).take n).toArray⟩ : Str).length + (⟨((toL w).drop k).toArray⟩ : Str).length ≤ 1000000 := fun k => by have := g2 k; omega
  have kk := (k1.trans k2).trans k3
  by_cases h0 : kd = 0
  · subst h0
    refine ⟨⟨((toL w).take n).toArray⟩ ++ ⟨#[z]⟩ ++ ⟨((toL w).drop n).toArray⟩, s3, ?_, low_app (low_app (low_sub hw lT) ls) (low_sub hw (lD n)), by simp only [len_app]; have := g2 n; omega, p3.mono (by omega), kk⟩
    simp [k13__law_bent, B_k13__law_bent, e1, ll, opAdd, e2, e3, sx, eq_int, t1, f1, y1, y2 n]
  · by_cases h1 : kd = 1
    · subst h1
      refine ⟨⟨((toL w).take n).toArray⟩ ++ ⟨((toL w).drop (n + 1)).toArray⟩, s3, ?_, low_app (low_sub hw lT) (low_sub hw (lD (n + 1))), by simp only [len_app]; have := g2 (n + 1); omega, p3.mono (by omega), kk⟩
      simp [k13__law_bent, B_k13__law_bent, e1, ll, opAdd, e2, e3, sx, eq_int, t1, f2, y3 (n + 1)]
    · by_cases h2 : kd = 2
      · subst h2
        refine ⟨⟨((toL w).take n).toArray⟩ ++ ⟨#[z]⟩ ++ ⟨((toL w).drop (n + 1)).toArray⟩, s3, ?_, low_app (low_app (low_sub hw lT) ls) (low_sub hw (lD (n + 1))), by simp only [len_app]; have := g2 (n + 1); omega, p3.mono (by omega), kk⟩
        simp [k13__law_bent, B_k13__law_bent, e1, ll, opAdd, e2, e3, sx, eq_int, t1, f2, y1, y2 (n + 1)]
      · obtain ⟨r, s4, e4, r0, r1, p4, k4⟩ := draw_ok (many := 26) p3 (by omega) (by decide) (by decide)
        obtain ⟨q, rfl⟩ : ∃ q : Nat, r = q := ⟨r.toNat, by omega⟩
        have hq : q < (near14 ++ near12).length := by show q < 26; omega
        have ix := ixl (xs := (near14 ++ near12).map D.str) (d := .str (near14 ++ near12)[q]) (q : Int) (by omega) (by rw [Int.toNat_natCast, List.getElem?_map, List.getElem?_eq_getElem hq]; rfl)
        obtain ⟨o1, o2⟩ := small_ok (near_small _ (List.getElem_mem hq))
        refine ⟨(near14 ++ near12)[q], s4, ?_, o1, o2, p4.mono (by omega), kk.trans k4⟩
        generalize (near14 ++ near12)[q] = v at ix
        have ix' : ∀ st, opIx (.lst [.str "n+1", .str "n + 0", .str "1*n", .str "0*n", .str "n*2", .str "2n", .str "4*n", .str "n + 10", .str "n - -1", .str "-n", .str "+3", .str "03", .str "-0", .str "n - 0", .str "1 + n", .str "2*n + 3 - 1", .str "n + n", .str "- 3", .str "10", .str "-10", .str "0*n + 3", .str "", .str "2 * n", .str "3*n+ 1", .str "r", .str "n;"]) (.int q) st = some (.str v, st) := ix
        simp [k13__law_bent, B_k13__law_bent, e1, ll, opAdd, e2, e3, sx, eq_int, h0, h1, h2, e4, ix']
/-! ### the two texts -/
def cutX (x W : Str) : Str := Str.ofString "places 1\ndraw " ++ x ++ Str.ofString " below n\nif " ++ x ++ Str.ofString " < " ++ W ++ Str.ofString "\n  put 0"
def belX (x W : Str) : Str := Str.ofString "places 2\ndraw " ++ x ++ Str.ofString " below " ++ W ++ Str.ofString "\nput 1"
def fN : Fm := (1, 0)
theorem fN_in : fN ∈ forms := by decide +kernel
def cutLs (x W : Str) : List Str := [sp 0 ++ drawT x fN, sp 0 ++ (Str.ofString "if " ++ cutT x W), sp 2 ++ rowT (.put 0)]
def belLs (x W : Str) : List Str := [sp 0 ++ dropT x W, sp 0 ++ rowT (.put 1)]
theorem cut_join (x W : Str) : cutX x W = Txt.join (Str.ofString "\n") (placesT 1 :: cutLs x W) := by
  rw [show Txt.join (Str.ofString "\n") (placesT 1 :: cutLs x W) = Str.join (Str.ofString "\n") (placesT 1 :: cutLs x W) from StrLaws.glued_eq_join _ _]
  show cutX x W = placesT 1 ++ Str.ofString "\n" ++ ((sp 0 ++ drawT x fN) ++ Str.ofString "\n" ++ ((sp 0 ++ (Str.ofString "if " ++ cutT x W)) ++ Str.ofString "\n" ++ (sp 2 ++ rowT (.put 0))))
  refine toL_inj ?_
  have l1 : toL (Str.ofString "places 1\ndraw ") = toL (placesT 1) ++ (toL (Str.ofString "\n") ++ (toL (sp 0) ++ toL (Str.ofString "draw "))) := by kernel_rfl
  have l2 : toL (Str.ofString " below n\nif ") = toL (Str.ofString " below ") ++ (toL (formT fN) ++ (toL (Str.ofString "\n") ++ (toL (sp 0) ++ toL (Str.ofString "if ")))) := by kernel_rfl
  have l3 : toL (Str.ofString "\n  put 0") = toL (Str.ofString "\n") ++ (toL (sp 2) ++ toL (rowT (.put 0))) := by kernel_rfl
  have e : cutT x W = x ++ Str.ofString " < " ++ W := rfl
  unfold cutX drawT
  rw [e]
  simp only [toL_app, l1, l2, l3, List.append_assoc]
theorem bel_join (x W : Str) : belX x W = Txt.join (Str.ofString "\n") (placesT 2 :: belLs x W) := by
  rw [show Txt.join (Str.ofString "\n") (placesT 2 :: belLs x W) = Str.join (Str.ofString "\n") (placesT 2 :: belLs x W) from StrLaws.glued_eq_join _ _]
  show belX x W = placesT 2 ++ Str.ofString "\n" ++ ((sp 0 ++ dropT x W) ++ Str.ofString "\n" ++ (sp 0 ++ rowT (.put 1)))
  refine toL_inj ?_
  have l1 : toL (Str.ofString "places 2\ndraw ") = toL (placesT 2) ++ (toL (Str.ofString "\n") ++ (toL (sp 0) ++ toL (Str.ofString "draw "))) := by kernel_rfl
  have l3 : toL (Str.ofString "\nput 1") = toL (Str.ofString "\n") ++ (toL (sp 0) ++ toL (rowT (.put 1))) := by kernel_rfl
  unfold belX dropT
  simp only [toL_app, l1, l3, List.append_assoc]
def cutR (x : Str) (f : Fm) : List Row := [.draw x fN, .ifs (.below x f) [.put 0] []]
def belR (x : Str) (f : Fm) : List Row := [.draw x f, .put 1]
theorem cut_good (x : Str) (f : Fm) : cutX x (formT f) = samplerT 1 (cutR x f) := by
  rw [cut_join]
  unfold samplerT samplerLs cutR
  have e : linesRs 0 [.draw x fN, .ifs (.below x f) [.put 0] []] = cutLs x (formT f) := by
    simp [linesRs, linesR, cutLs]
    exact ⟨rfl, rfl⟩
  rw [e]
theorem bel_good (x : Str) (f : Fm) : belX x (formT f) = samplerT 2 (belR x f) := by
  rw [bel_join]
  unfold samplerT samplerLs belR
  have e : linesRs 0 [.draw x f, .put 1] = belLs x (formT f) := by
    simp [linesRs, linesR, belLs]
    rfl
  rw [e]
theorem cut_shape {x : Str} {f : Fm} (hx : NameOk x) (hf : f ∈ forms) : ShapeL 1 (cutR x f) ∧ Fine (cutR x f) := by
  refine ⟨{ three := by decide, ok := ?_, deep := by simp [cutR, dRs, dR], many := by simp [cutR, szs, sz], draws := by simp [cutR, namesRs, namesR], there := ?_, good := by simp [cutR, GoodRs, GoodR, sureR, Tst.name, namesR] }, ?_, ?_, ?_⟩
  · have z0 : (0 : Int) ∈ digits10 := by decide
    simp [cutR, RowsOk, RowOk, hx, fN_in, Tst.Ok, hf, z0]
  · intro p hp
    simp [cutR, flatN, flatR] at hp
    rcases hp with rfl | rfl | rfl <;> simp [beyond, placesR]
  · simp [sizesF, cutR, szs, sz, namesRs, namesR, dRs, dR]
  · simp [lowL, cutR, flatN, flatR, isDraw, tagR, isLow, formOf, fN]
  · simp [wayF, cutR, mdRs, mdR]
theorem bel_shape {x : Str} {f : Fm} (hx : NameOk x) (hf : f ∈ forms) : ShapeL 2 (belR x f) ∧ sizesF (belR x f) = none ∧ lowL (belR x f) = (if f.1 + f.2 < 1 then [1] else []) ∧ wayF (belR x f) = none := by
  refine ⟨{ three := by decide, ok := ?_, deep := by simp [belR, dRs, dR], many := by simp [belR, szs, sz], draws := by simp [belR, namesRs, namesR], there := ?_, good := by simp [belR, GoodRs, GoodR] }, ?_, ?_, ?_⟩
  · have z0 : (1 : Int) ∈ digits10 := by decide
    simp [belR, RowsOk, RowOk, hx, hf, z0]
  · intro p hp
    simp [belR, flatN, flatR] at hp
    rcases hp with rfl | rfl <;> simp [beyond, placesR]
  · simp [sizesF, belR, szs, sz, namesRs, namesR, dRs, dR]
  · by_cases h : f.1 + f.2 < 1
    · simp [lowL, belR, flatN, flatR, isDraw, tagR, isLow, formOf, h]
    · simp [lowL, belR, flatN, flatR, isDraw, tagR, isLow, formOf, h]
  · simp [wayF, belR, mdRs, mdR]
section
variable {x W : Str} (hx : NameOk x) (hW : lowS W) (hl : W.length ≤ 30) (hn : ∀ f ∈ forms, W ≠ formT f)
include hx hW hl
theorem cut_lines : ∀ y ∈ cutLs x W, lineOk y := fun y hy => by
  have l4 := name_len hx
  have T := row_t (r := .draw x fN) (by rw [RowOk]; exact ⟨hx, fN_in⟩)
  have T2 := row_t (r := .put 0) (by rw [RowOk]; decide)
  have l1 : (Str.ofString " < ").length = 3 := by kernel_rfl
  have l2 : (Str.ofString "if ").length = 3 := by kernel_rfl
  simp only [cutLs, List.mem_cons, List.not_mem_nil, or_false] at hy
  rcases hy with rfl | rfl | rfl
  · exact ⟨low_app (low_sp 0) T.low, by have := T.len; rw [len_app, sp_len]; have e : drawT x fN = rowT (.draw x fN) := rfl; rw [e]; omega⟩
  · refine ⟨low_app (low_sp 0) (low_app (low_lit (by decide +kernel)) ?_), ?_⟩
    · show lowS (x ++ Str.ofString " < " ++ W)
      exact low_app (low_app (low_name hx) (low_lit (by decide +kernel))) hW
    · show (sp 0 ++ (Str.ofString "if " ++ (x ++ Str.ofString " < " ++ W))).length ≤ 1000
      simp only [len_app, sp_len]; omega
  · exact ⟨low_app (low_sp 2) T2.low, by have := T2.len; rw [len_app, sp_len]; omega⟩
theorem bel_lines : ∀ y ∈ belLs x W, lineOk y := fun y hy => by
  have l4 := name_len hx
  have T2 := row_t (r := .put 1) (by rw [RowOk]; decide)
  have l1 : (Str.ofString "draw ").length = 5 := by kernel_rfl
  have l2 : (Str.ofString " below ").length = 7 := by kernel_rfl
  simp only [belLs, List.mem_cons, List.not_mem_nil, or_false] at hy
  rcases hy with rfl | rfl
  · refine ⟨low_app (low_sp 0) ?_, ?_⟩
    · unfold dropT
      exact low_app (low_lit (by decide +kernel)) (low_app (low_app (low_name hx) (low_lit (by decide +kernel))) hW)
    · unfold dropT
      simp only [len_app, sp_len]; omega
  · exact ⟨low_app (low_sp 0) T2.low, by have := T2.len; rw [len_app, sp_len]; omega⟩
include hn
theorem cut_none (st : Sto) : p_sampler_in [.str (cutX x W)] st = .ok .non st := by
  rw [cut_join]
  refine sampler_none (c := 1) (by decide) (cut_lines hx hW hl) (by simp [cutLs]) (fun st => ?_) st
  have l4 := name_len hx
  have l3 : (Str.ofString " < ").length = 3 := by kernel_rfl
  have l2 : (Str.ofString "if ").length = 3 := by kernel_rfl
  have lc : (cutT x W).length ≤ 100 := by
    show (x ++ Str.ofString " < " ++ W).length ≤ 100
    simp only [len_app]; omega
  obtain ⟨L, hL⟩ : ∃ L, L = placesT 1 :: cutLs x W := ⟨_, rfl⟩
  have e1 : L = [placesT 1] ++ ([.draw x fN] : List Row).map (fun r => sp 0 ++ rowT r) ++ [sp 0 ++ (Str.ofString "if " ++ cutT x W), sp 2 ++ rowT (.put 0)] := by rw [hL]; rfl
  have e2 : L = [placesT 1, sp 0 ++ drawT x fN] ++ (sp 0 ++ (Str.ofString "if " ++ cutT x W)) :: [sp 2 ++ rowT (.put 0)] := by rw [hL]; rfl
  have e3 : L = [placesT 1, sp 0 ++ drawT x fN, sp 0 ++ (Str.ofString "if " ++ cutT x W)] ++ linesRs 2 [.put 0] ++ [] := by rw [hL]; simp [linesRs, linesR, cutLs]
  have ll : L.length = 4 := by rw [hL]; rfl
  rw [← hL]
  have bo := fun st => blocks_ok (L := L) (by omega) 1 2 10 (by omega) (by omega) (by omega) 3 [.put 0] _ [] st e3 rfl (by simp [RowsOk, RowOk]; decide) (by simp [dRs, dR]) (.inl rfl)
  have i1 : ∀ st, opIx (.lst (L.map .str)) (.int 2) st = some (.str (sp 0 ++ (Str.ofString "if " ++ cutT x W)), st) := fun st => by
    rw [e2]; exact ix_at (n := 2) rfl st
  have i2 : ∀ st, opSl (.str (sp 0 ++ (Str.ofString "if " ++ cutT x W))) (some 3) none st = some (.str (cutT x W), st) := fun st =>
    sl_from (k := 3) st (by have := sizeLine_big; simp only [len_app, sp_len]; omega) (a := toL (sp 0) ++ toL (Str.ofString "if ")) (by rw [toL_app, toL_app, List.append_assoc]) (by rw [List.length_append, ← len_toL, ← len_toL, sp_len, l2])
  have i3 := fun st => test_none hx (by omega) hn st
  have br : ∀ st, (grp_p_block_in 11).2 [.lst (L.map .str), .int 2, .int 0, rdD] st = .ok .non st := fun st => by
    have bo' : ∀ st, (grp_p_block_in 10).1 [.lst (L.map .str), .int 3, .int 2, rdD] st = .ok (.tup [.tup (encPs 3 [.put 0]), .int ((3 + cnts [.put 0] : Nat) : Int)]) st := bo
    show runB (B_p_branches_in (grp_p_block_in 10).1 (grp_p_block_in 10).2) 8 4 [.lst (L.map .str), .int 2, .int 0, rdD] st = _
    simp [-Int.natCast_add, B_p_branches_in, i1, i2, opAdd, i3, bo', ix1]
  have bi : BadAt (grp_p_block_in 11).2 L 2 0 := bad_if e2 rfl (c := 105) (l := [102, 32] ++ toL (cutT x W)) (by rw [toL_app, show toL (Str.ofString "if ") = [105, 102, 32] by kernel_rfl]; rfl) (by decide) (by decide) (by rw [len_app]; omega) (by rw [toL_app]; exact List.isPrefixOf_iff_prefix.mpr (List.prefix_append _ _)) br
  exact bad_block (m := 11) (k := 0) (n := 1) (by decide) e1 rfl (fun r hr => by
    rw [List.mem_singleton.mp hr]
    exact ⟨by rw [RowOk]; exact ⟨hx, fN_in⟩, rfl⟩) (by simp) bi (by omega) st
theorem bel_none (st : Sto) : p_sampler_in [.str (belX x W)] st = .ok .non st := by
  rw [bel_join]
  refine sampler_none (c := 2) (by decide) (bel_lines hx hW hl) (by simp [belLs]) (fun st => ?_) st
  have l4 := name_len hx
  have l1 : (Str.ofString "draw ").length = 5 := by kernel_rfl
  have l2 : (Str.ofString " below ").length = 7 := by kernel_rfl
  obtain ⟨L, hL⟩ : ∃ L, L = placesT 2 :: belLs x W := ⟨_, rfl⟩
  have e1 : L = [placesT 2] ++ ([] : List Row).map (fun r => sp 0 ++ rowT r) ++ [sp 0 ++ dropT x W, sp 0 ++ rowT (.put 1)] := by rw [hL]; rfl
  have e2 : L = [placesT 2] ++ (sp 0 ++ dropT x W) :: [sp 0 ++ rowT (.put 1)] := by rw [hL]; rfl
  have ll : L.length = 3 := by rw [hL]; rfl
  rw [← hL]
  have hd : toL (dropT x W) = 100 :: ([114, 97, 119, 32] ++ toL (x ++ (Str.ofString " below ") ++ W)) := by
    unfold dropT
    rw [toL_app, show toL (Str.ofString "draw ") = [100, 114, 97, 119, 32] by kernel_rfl]
    rfl
  have bi : BadAt (grp_p_block_in 11).2 L 1 0 := bad_line e2 rfl hd (by decide) (by decide) (by unfold dropT; simp only [len_app]; omega) (by
    rw [hd, show toL (Str.ofString "if ") = [105, 102, 32] by kernel_rfl]
    simp [List.isPrefixOf]) (fun st => draw_none hx (by omega) hn 1 st)
  exact bad_block (m := 11) (k := 0) (n := 1) (by decide) e1 rfl (fun r hr => nomatch hr) (by simp) bi (by omega) st
end
/-! ### the known writings -/
def known : List Str := forms.map formT
def formsR : List Fm := (List.range 76).map fun k : Nat => ((k : Int) / 19, (k : Int) % 19 - 9)
theorem formsR_eq : formsR = forms := by decide +kernel
abbrev KE_ : IE := (iCall k13__law_form_text [] (aCons (iN opTup (aCons (iBin opFdiv (iVar 11) (iC (.int 19))) (aCons (iBin opSub (iBin opMod (iN opInt (aCons (iVar 11) aNil)) (iC (.int 19))) (iC (.int 9))) aNil))) aNil))
theorem fdiv19 (v : Int) (st : Sto) : opFdiv (.int v) (.int 19) st = some (.int (v / 19), st) := by
  have h : 0 < (19 : Int) ∧ (19 : Int).natAbs.log2 < 9000 := by decide
  unfold opFdiv
  simp only [if_pos h]
theorem known_comp {st : Sto} {env0 : Env} (h : ∀ d, (env0.set 11 (some d))[11]? = some (some d)) : compF (nxR 0 76) (.one 11) tYes' KE_ env0 76 0 [] st = .ok (known.map .str) st := by
  have := compF_map (nx := nxR 0 76) (p := .one 11) (e := KE_) (env0 := env0) (xs := (List.range 76).map fun k : Nat => D.int k) (st := st) (fun d => match d with | .int k => .str (formT (k / 19, k % 19 - 9)) | d => d) (rng_at 76) (fun d hd => by
    obtain ⟨k, hk, rfl⟩ := List.mem_map.mp hd
    have hk' := List.mem_range.mp hk
    have m : (((k : Int) / 19, (k : Int) % 19 - 9) : Fm) ∈ forms := by
      rw [← formsR_eq]
      exact List.mem_map.mpr ⟨k, hk, rfl⟩
    have ft := form_text st _ m
    simp only [encF] at ft
    have p19 : (0 : Int) < 19 := by decide
    exact ⟨_, rfl, by simp [h, fdiv19, opInt, mod_pos p19, opSub, ft]⟩) 76 0 [] (by simp) (by have := sizeLine_big; simp)
  rw [this, known, ← formsR_eq, formsR, List.drop_zero, List.nil_append, List.map_map, List.map_map, List.map_map]
  rfl
theorem known_len : known.length = 76 := by unfold known; rw [List.length_map, ← formsR_eq, formsR, List.length_map, List.length_range]
theorem known_at {W : Str} (h : W ∈ known) : ∃ k : Nat, known.idxOf W = k ∧ k < 76 ∧ ∃ f ∈ forms, W = formT f ∧ f = ((k : Int) / 19, (k : Int) % 19 - 9) := by
  have lt : known.idxOf W < known.length := List.idxOf_lt_length_iff.mpr h
  have g := List.getElem_idxOf lt
  rw [known_len] at lt
  refine ⟨known.idxOf W, rfl, lt, ((known.idxOf W : Int) / 19, (known.idxOf W : Int) % 19 - 9), ?_, ?_, rfl⟩
  · rw [← formsR_eq]
    exact List.mem_map.mpr ⟨known.idxOf W, List.mem_range.mpr lt, rfl⟩
  · have e : known[known.idxOf W]? = some W := by rw [List.getElem?_eq_getElem (by rw [known_len]; exact lt), g]
    unfold known at e
    rw [← formsR_eq, formsR] at e
    rw [List.getElem?_map, List.getElem?_map] at e
    rw [show (List.map formT (List.map (fun k : Nat => ((k : Int) / 19, (k : Int) % 19 - 9)) (List.range 76))) = known by unfold known; rw [← formsR_eq]; rfl] at e
    rw [List.getElem?_range lt] at e
    exact (Option.some.inj e).symm
theorem index_known {W : Str} {k : Nat} (h : W ∈ known) (hk : known.idxOf W = k) (st : Sto) : opIndexT (.lst (known.map .str)) [.str W] st = some (.int k, st) := by
  show (match allP asS (known.map D.str) with
    | some bs => if W ∈ bs ∧ bs.length ≤ sizeLine then some (D.int (bs.idxOf W : Nat), st) else none
    | none => none) = _
  rw [allP_strs]
  show (if W ∈ known ∧ known.length ≤ sizeLine then some (D.int (known.idxOf W : Nat), st) else none) = _
  rw [if_pos ⟨h, by have := sizeLine_big; rw [known_len]; omega⟩, hk]
theorem isL_lst (xs : List D) (st : Sto) : isL st (.lst xs) = true := rfl
theorem low_str {x : Str} (h : lowS x) : PyData.strOk x = true := low_ok fun c hc => by have := h c hc; omega
theorem nl_ok {s : String} (h : (toL (Str.ofString s)).all (fun c => decide (c < 128)) = true) : ∀ c ∈ toL (Str.ofString s), c < 128 := fun c hc => by
  have := List.all_eq_true.mp h c hc
  simpa using this
theorem cutX_smp {x W : Str} (hx : NameOk x) (hW : lowS W) (hl : W.length ≤ 30) : Smp (.str (cutX x W)) (.str (cutX x W)) := by
  have a := low_name hx
  have l4 := name_len hx
  have l1 : (Str.ofString "places 1\ndraw ").length = 14 := by kernel_rfl
  have l2 : (Str.ofString " below n\nif ").length = 12 := by kernel_rfl
  have l3 : (Str.ofString " < ").length = 3 := by kernel_rfl
  have l5 : (Str.ofString "\n  put 0").length = 8 := by kernel_rfl
  refine .str _ (low_ok fun c hc => ?_) (by unfold cutX; simp only [len_app]; omega)
  unfold cutX at hc
  simp only [toL_app, List.mem_append] at hc
  rcases hc with (((((hc | hc) | hc) | hc) | hc) | hc) | hc
  · exact nl_ok (by decide +kernel) c hc
  · have := a c hc; omega
  · exact nl_ok (by decide +kernel) c hc
  · have := a c hc; omega
  · exact nl_ok (by decide +kernel) c hc
  · have := hW c hc; omega
  · exact nl_ok (by decide +kernel) c hc
theorem belX_smp {x W : Str} (hx : NameOk x) (hW : lowS W) (hl : W.length ≤ 30) : Smp (.str (belX x W)) (.str (belX x W)) := by
  have a := low_name hx
  have l4 := name_len hx
  have l1 : (Str.ofString "places 2\ndraw ").length = 14 := by kernel_rfl
  have l2 : (Str.ofString " below ").length = 7 := by kernel_rfl
  have l5 : (Str.ofString "\nput 1").length = 6 := by kernel_rfl
  refine .str _ (low_ok fun c hc => ?_) (by unfold belX; simp only [len_app]; omega)
  unfold belX at hc
  simp only [toL_app, List.mem_append] at hc
  rcases hc with (((hc | hc) | hc) | hc) | hc
  · exact nl_ok (by decide +kernel) c hc
  · have := a c hc; omega
  · exact nl_ok (by decide +kernel) c hc
  · have := hW c hc; omega
  · exact nl_ok (by decide +kernel) c hc
def rightT : IS := (sSeq (sIf (tBl (iBin (opIn true) (iVar 4) (iVar 5))) (sRet (iAnd (iCall k13__law_is [] (aCons (iCall k13__law_made [] (aCons (iVar 7) aNil)) (aCons (iN opLstF (aCons (iC (.int 0)) (aCons (iVar 7) aNil))) aNil))) (iCall k13__law_is [] (aCons (iCall k13__law_made [] (aCons (iVar 8) aNil)) (aCons (iN opLstF (aCons (iC (.int 0)) (aCons (iVar 8) aNil))) aNil))))) sNil)
  (sSeq (sSet 9 (iMl opIndexT (iVar 5) (aCons (iVar 4) aNil)))
  (sSeq (sSet 10 (iBin opLt (iBin opSub (iBin opAdd (iBin opFdiv (iVar 9) (iC (.int 19))) (iBin opMod (iN opInt (aCons (iVar 9) aNil)) (iC (.int 19)))) (iC (.int 9))) (iC (.int 1))))
  (sRet (iAnd (iCall k13__law_is [] (aCons (iCall k13__law_made [] (aCons (iVar 7) aNil)) (aCons (iVar 7) aNil))) (iCall k13__law_is [] (aCons (iCall k13__law_made [] (aCons (iVar 8) aNil)) (aCons (iIf (tTru (iVar 10)) (iN opLstF (aCons (iC (.int 10)) (aCons (iC (.int 1)) aNil))) (iVar 8)) aNil))))))))
theorem right_eq : k13__law_right = runB (sSeq (sPar3 1 2 3 (aCons (iCall k13__law_draw [] (aCons (iVar 0) (aCons (iC (.int 2)) aNil))) (aCons (iCall k13__law_draw [] (aCons (iVar 0) (aCons (iC (.int 4)) aNil))) (aCons (iBin opSub (iCall k13__law_draw [] (aCons (iVar 0) (aCons (iC (.int 19)) aNil))) (iC (.int 9))) aNil))))
  (sSeq (sSet 4 (iCall k13__law_form_text [] (aCons (iN opTup (aCons (iVar 2) (aCons (iVar 3) aNil))) aNil)))
  (sSeq (sIf (tBl (iBin (opEq false) (iVar 1) (iC (.int 1)))) (sSet 4 (iCall k13__law_bent [] (aCons (iVar 0) (aCons (iVar 4) aNil)))) sNil)
  (sSeq (sSet 5 (iCompF (wRng1 (aCons (iC (.int 76)) aNil)) (.one 11) tYes' (iCall k13__law_form_text [] (aCons (iN opTup (aCons (iBin opFdiv (iVar 11) (iC (.int 19))) (aCons (iBin opSub (iBin opMod (iN opInt (aCons (iVar 11) aNil)) (iC (.int 19))) (iC (.int 9))) aNil))) aNil))))
  (sSeq (sSet 6 (iBin opIx (iCall k13__law_tags [] (aCons (iVar 0) aNil)) (iCall k13__law_draw [] (aCons (iVar 0) (aCons (iC (.int 6)) aNil)))))
  (sSeq (sSet 7 (iBin opAdd (iBin opAdd (iBin opAdd (iBin opAdd (iBin opAdd (iBin opAdd (iC (.str "places 1\ndraw ")) (iVar 6)) (iC (.str " below n\nif "))) (iVar 6)) (iC (.str " < "))) (iVar 4)) (iC (.str "\n  put 0"))))
  (sSeq (sSet 8 (iBin opAdd (iBin opAdd (iBin opAdd (iBin opAdd (iC (.str "places 2\ndraw ")) (iVar 6)) (iC (.str " below "))) (iVar 4)) (iC (.str "\nput 1"))))
  rightT))))))) 12 1 := rfl
theorem right_is {st : Sto} {g : Nat} (h : PoolAt st g 0) : ∃ st', k13__law_right [.ref g] st = .ok (.bl true) st' := by
  have nb := nb_big
  obtain ⟨Y, hY⟩ : ∃ Y, Y = NB := ⟨_, rfl⟩
  rw [← hY] at nb
  obtain ⟨bt, s1, e1, a0, a1, p1, k1⟩ := draw_ok (many := 2) h (Nat.zero_le _) (by decide) (by decide)
  obtain ⟨fa, s2, e2, b0, b1, p2, k2⟩ := draw_ok (many := 4) p1 (by rw [← hY]; omega) (by decide) (by decide)
  obtain ⟨nu, s3, e3, c0, c1, p3, k3⟩ := draw_ok (many := 19) p2 (by rw [← hY]; omega) (by decide) (by decide)
  have m : ((fa, nu - 9) : Fm) ∈ forms := mem_forms (by simpa using b0) (by simp; omega) (by simp; omega) (by simp; omega)
  have ft := fun st => form_text st _ m
  simp only [encF] at ft
  have w0 : lowS (formT (fa, nu - 9)) := form_low m
  have w1 := form_len m
  -- the word
  obtain ⟨W, s4, hW, hl, p4, wd⟩ : ∃ W s4, lowS W ∧ W.length ≤ 30 ∧ PoolAt s4 g 10 ∧ (sIf (tBl (iBin (opEq false) (iVar 1) (iC (.int 1)))) (sSet 4 (iCall k13__law_bent [] (aCons (iVar 0) (aCons (iVar 4) aNil)))) sNil) [some (.ref g), some (.int bt), some (.int fa), some (.int (nu - 9)), some (.str (formT (fa, nu - 9))), none, none, none, none, none, none, none] s3 = .nx [some (.ref g), some (.int bt), some (.int fa), some (.int (nu - 9)), some (.str W), none, none, none, none, none, none, none] s4 := by
    by_cases hb : bt = 1
    · obtain ⟨w', s4, e4, q1, q2, q3, q4⟩ := bent_ok p3 (by rw [← hY]; omega) w0 w1
      exact ⟨w', s4, q1, q2, q3.mono (by omega), by simp [hb, eq_int, e4]⟩
    · exact ⟨_, s3, w0, by omega, p3.mono (by omega), by simp [hb, eq_int]⟩
  obtain ⟨tags, T, s5, e5, t1, t2, t3, p5, k5⟩ := tags_ok p4 (by rw [← hY]; omega)
  obtain ⟨ti, s6, e6, d0, d1, p6, k6⟩ := draw_ok (many := 6) p5 (by rw [← hY]; omega) (by decide) (by decide)
  have gT : g ≠ T := fun e => by
    obtain ⟨x, y, z, hl, _⟩ := p5
    rw [e, t1] at hl
    have := congrArg List.length (Option.some.inj hl)
    simp [t2] at this
  have t6 := k6 _ _ (by simpa using gT.symm) t1
  have lt : ti.toNat < tags.length := by omega
  have ix := ixr t6 ti d0 (d := .str tags[ti.toNat]) (by rw [List.getElem?_map, List.getElem?_eq_getElem lt]; rfl)
  have hx := t3 _ (List.getElem_mem lt)
  generalize tags[ti.toNat] = x at ix hx
  have l4 := name_len hx
  have q1 : (Str.ofString "places 1\ndraw ").length = 14 := by kernel_rfl
  have q2 : (Str.ofString " below n\nif ").length = 12 := by kernel_rfl
  have q3 : (Str.ofString " < ").length = 3 := by kernel_rfl
  have q5 : (Str.ofString "\n  put 0").length = 8 := by kernel_rfl
  have q6 : (Str.ofString "places 2\ndraw ").length = 14 := by kernel_rfl
  have q7 : (Str.ofString " below ").length = 7 := by kernel_rfl
  have q8 : (Str.ofString "\nput 1").length = 6 := by kernel_rfl
  have addS : ∀ (a b : Str) st, a.length + b.length ≤ 1000000 → opAdd (.str a) (.str b) st = some (.str (a ++ b), st) := fun a b st hab => by
    have : a.length + b.length ≤ sizeLine := Nat.le_trans hab sizeLine_big
    simp [opAdd, this]
  have kc := known_comp (st := s4) (env0 := [some (.ref g), some (.int bt), some (.int fa), some (.int (nu - 9)), some (.str W), none, none, none, none, none, none, none]) (fun _ => rfl)
  have rg : wRng1 (aCons (iC (.int 76)) aNil) [some (.ref g), some (.int bt), some (.int fa), some (.int (nu - 9)), some (.str W), none, none, none, none, none, none, none] s4 = .ok (nxR 0 76, 76) s4 := rng1 (e := iC (.int 76)) (n := 76) (by rfl) (by omega)
  have start : k13__law_right [.ref g] st = endB (rightT [some (.ref g), some (.int bt), some (.int fa), some (.int (nu - 9)), some (.str W), some (.lst (known.map .str)), some (.str x), some (.str (cutX x W)), some (.str (belX x W)), none, none, none] s6) := by
    rw [right_eq]
    simp only [runB_d]
    simp [-sIf_d, e1, e2, e3, opSub, ft]
    rw [wd]
    simp [Pat.slots, wipeE]
    rw [rg]
    simp
    rw [kc]
    simp [e5, e6, ix]
    rw [addS _ _ _ (by omega)]
    simp
    rw [addS _ _ _ (by first | omega | (simp only [len_app]; omega))]
    simp
    rw [addS _ _ _ (by first | omega | (simp only [len_app]; omega))]
    simp
    rw [addS _ _ _ (by first | omega | (simp only [len_app]; omega))]
    simp
    rw [addS _ _ _ (by first | omega | (simp only [len_app]; omega))]
    simp
    rw [addS _ _ _ (by first | omega | (simp only [len_app]; omega))]
    simp
    rw [addS _ _ _ (by first | omega | (simp only [len_app]; omega))]
    simp
    rw [addS _ _ _ (by first | omega | (simp only [len_app]; omega))]
    simp
    rw [addS _ _ _ (by first | omega | (simp only [len_app]; omega))]
    simp
    rw [addS _ _ _ (by first | omega | (simp only [len_app]; omega))]
    rfl
  rw [start]
  have i0 : Smp (.int 0) (.int 0) := .int 0 (by decide) (by decide +kernel)
  have i10 : Smp (.int 10) (.int 10) := .int 10 (by decide) (by decide +kernel)
  have i1 : Smp (.int ((1 : Nat) : Int)) (.int ((1 : Nat) : Int)) := .int 1 (by decide) (by decide +kernel)
  by_cases hk : W ∈ known
  · obtain ⟨k, k0, k1, f, hf, rfl, fe⟩ := known_at hk
    have ik := fun st => index_known hk k0 st
    have p19 : (0 : Int) < 19 := by decide
    have lowd : decide ((k : Int) / 19 + (k : Int) % 19 - 9 < 1) = decide (f.1 + f.2 < 1) := decide_eq_decide.mpr (by rw [fe]; simp only; omega)
    obtain ⟨C1, C2⟩ := cut_shape hx hf
    obtain ⟨B1, B2, B3, B4⟩ := bel_shape hx hf
    rw [cut_good, bel_good]
    obtain ⟨s7, kk, e7, hk7⟩ := made_good C1 C2 s6
    obtain ⟨s8, e8⟩ := is_good C1 C2 hk7
    have inn := fun st => in_strs (neg := true) (x := formT f) (l := known) st
    by_cases hlow : f.1 + f.2 < 1
    · rw [if_pos hlow] at B3
      obtain ⟨s9, e9⟩ := made_low B1 B2 B3 s8
      have ip := is_pair i10 i1 s9
      have hlow' : decide ((k : Int) / 19 + (k : Int) % 19 - 9 < 1) = true := by rw [lowd]; exact decide_eq_true hlow
      have hl3 : (k : Int) / 19 + (k : Int) % 19 - 9 < 1 := of_decide_eq_true hlow'
      refine ⟨s9, ?_⟩
      simp at e9 ip
      simp [rightT, inn, hk, isL_lst, ik, fdiv19, opInt, mod_pos p19, opAdd, opSub, opCmp, e7, e8, hl3, e9, ip]
    · rw [if_neg hlow] at B3
      obtain ⟨s9, kk9, e9, hk9⟩ := made_good B1 ⟨B2, B3, B4⟩ s8
      obtain ⟨s10, e10⟩ := is_good B1 ⟨B2, B3, B4⟩ hk9
      have hlow' : decide ((k : Int) / 19 + (k : Int) % 19 - 9 < 1) = false := by rw [lowd]; exact decide_eq_false hlow
      have hl3 : ¬ ((k : Int) / 19 + (k : Int) % 19 - 9 < 1) := of_decide_eq_false hlow'
      refine ⟨s10, ?_⟩
      simp [rightT, inn, hk, isL_lst, ik, fdiv19, opInt, mod_pos p19, opAdd, opSub, opCmp, e7, e8, hl3, e9, e10]
  · have hn : ∀ f ∈ forms, W ≠ formT f := fun f hf e => hk (by rw [e]; exact List.mem_map.mpr ⟨f, hf, rfl⟩)
    obtain ⟨s7, e7⟩ := made_text (fun st => cut_none hx hW hl hn st) s6
    have ip7 := is_pair i0 (cutX_smp hx hW hl) s7
    obtain ⟨s8, e8⟩ := made_text (fun st => bel_none hx hW hl hn st) s7
    have ip8 := is_pair i0 (belX_smp hx hW hl) s8
    have inn := fun st => in_strs (neg := true) (x := W) (l := known) st
    refine ⟨s8, ?_⟩
    simp [rightT, inn, hk, e7, ip7, e8, ip8]
/-! ### cells -/
theorem pool_is (c : Int) (st : Sto) : ∃ st' q, k13__law_pool [.int c] st = .ok (.ref q) st' ∧ PoolAt st' q 0 := by
  obtain ⟨b, hb⟩ : ∃ b : Int, b = if (c < 0 ∨ 1000000000000000000 ≤ c) then (if c < 0 then -c else c) else 0 := ⟨_, rfl⟩
  have b0 : 0 ≤ b := by
    rw [hb]
    split
    · split <;> omega
    · omega
  have p18 : ∀ st, opPow (.int 10) (.int 18) st = some (.int 1000000000000000000, st) := fun st => by kernel_rfl
  have m5 := fun st => mul_small (i := c) (j := 5) (.inr (by unfold smallI; decide)) st
  have p2 : (0 : Int) < 2147483629 := by decide
  have ab : (iIf (tOr' (tBl (iBin opLt (iVar 0) (iC (.int 0)))) (tBl (iBin opGe (iVar 0) (iBin opPow (iC (.int 10)) (iC (.int 18)))))) (iN opAbs (aCons (iVar 0) aNil)) (iC (.int 0))) [some (.int c), none] st = .ok (.int b) st := by
    by_cases h1 : c < 0
    · rw [hb]
      simp [h1, opCmp, opAbs]
    · by_cases h2 : 1000000000000000000 ≤ c
      · rw [hb]
        simp [h1, h2, opCmp, opAbs, p18]
      · rw [hb]
        simp [h1, h2, opCmp, opAbs, p18]
  refine ⟨st ++ [.lst [.int ((c * 5 + 3) % 2147483629), .int b, .int 0]], st.length, ?_, ⟨(c * 5 + 3) % 2147483629, b, 0, lst_new _ _, Int.emod_nonneg _ (by decide), Int.emod_lt_of_pos _ (by decide), b0, Nat.le_refl _⟩⟩
  simp only [k13__law_pool, B_k13__law_pool, runB_d, sSeq_d, sSet_d]
  rw [if_pos (show [D.int c].length = 1 from rfl)]
  rw [show ([D.int c].map some ++ List.replicate (2 - 1) none : Env) = [some (.int c), none] from rfl, ab]
  simp [m5, opAdd, opInt, opMod, p2]
theorem cell_is (ns : List Int) (i : Nat) (hi : i ≤ 100) (hn : ns.length ≤ 1000) (st : Sto) : ∃ c : Int, k13__law_cell [.lst (ns.map .int), .int i] st = .ok (.int c) st := by
  by_cases h : i < ns.length
  · refine ⟨ns[i], ?_⟩
    have ix := ixl (xs := ns.map D.int) (d := .int ns[i]) (i : Int) (by omega) (by rw [Int.toNat_natCast, List.getElem?_map, List.getElem?_eq_getElem h]; rfl) st
    have lt : (i : Int) < (ns.length : Int) := by omega
    simp [k13__law_cell, B_k13__law_cell, len_lst, opCmp, lt, ix]
  · have lt : ¬ ((i : Int) < (ns.length : Int)) := by omega
    have m1 := fun st => mul_small (i := 60013) (j := (i : Int) + 3) (.inl (by unfold smallI; decide)) st
    have m2 := fun st => mul_small (i := 60013 * ((i : Int) + 3)) (j := (i : Int) + 11) (.inr (by unfold smallI; omega)) st
    have loop := forL_map (g := gVar 3) (b := (sSet 2 (iBin opMod (iN opInt (aCons (iBin opAdd (iBin opMul (iVar 2) (iC (.int 52361))) (iVar 3)) aNil)) (iC (.int 2147483579))))) (l := ns.take 4) (F := D.int) (fun _ env s => ∃ (x : Int) (g3 : Option D), env = [some (.lst (ns.map .int)), some (.int i), some (.int x), g3] ∧ s = st) (fun a r env s _ ⟨x, g3, q1, q2⟩ => by
      subst q1 q2
      have m3 := fun st => mul_small (i := x) (j := 52361) (.inr (by unfold smallI; decide)) st
      have p2 : (0 : Int) < 2147483579 := by decide
      exact ⟨[some (.lst (ns.map .int)), some (.int i), some (.int x), some (.int a)], s, rfl, [some (.lst (ns.map .int)), some (.int i), some (.int ((x * 52361 + a) % 2147483579)), some (.int a)], s, .inl (by simp [m3, opAdd, opInt, opMod, p2]), _, _, rfl, rfl⟩) (ns.take 4).length 0 [some (.lst (ns.map .int)), some (.int i), some (.int (60013 * ((i : Int) + 3) * ((i : Int) + 11) + 977)), none] st (by omega) (Nat.zero_le _) ⟨_, _, rfl, rfl⟩
    obtain ⟨e2, s2, l1, x, g3, rfl, rfl⟩ := loop
    have sl : opSl (.lst (ns.map D.int)) none (some 4) s2 = some (.lst ((ns.take 4).map D.int), s2) := by
      show some (D.lst (((ns.map D.int).drop (HT.sIx (ns.map D.int).length 0 none)).take (HT.sIx (ns.map D.int).length (ns.map D.int).length (some (4 : Int)) - HT.sIx (ns.map D.int).length 0 none)), s2) = _
      rw [show (4 : Int) = ((4 : Nat) : Int) from rfl, HT.sIx_nat, HT.sIx_none]
      congr 2
      rw [List.map_take]
      by_cases h4 : 4 ≤ (ns.map D.int).length
      · rw [Nat.min_eq_left h4]; rfl
      · rw [Nat.min_eq_right (by omega), List.take_of_length_le (by simp), List.take_of_length_le (by omega)]; rfl
    refine ⟨x, ?_⟩
    simp [k13__law_cell, B_k13__law_cell, len_lst, opCmp, lt, m1, m2, opAdd]
    rw [sl]
    simp
    simp at l1
    rw [l1]
    simp
theorem law_k13 : ∀ ns : List Int, ns.length ≤ 63 → ∃ st, k13_law [.lst (ns.map .int)] [] = .ok (.bl true) st := by
  intro ns hn
  obtain ⟨m, hm⟩ : ∃ m : Nat, m = max 3 (min ns.length 30) := ⟨_, rfl⟩
  obtain ⟨acc, st', h1, h2, h3⟩ := compF_rng (n := m) (v := 1) (e := (iCall k13__law_right [] (aCons (iCall k13__law_pool [] (aCons (iCall k13__law_cell [] (aCons (iVar 0) (aCons (iVar 1) aNil))) aNil)) aNil))) (env0 := [some (.lst (ns.map .int)), none]) (by omega) (fun acc _ => ∀ d ∈ acc, d = .bl true) (fun i hi acc st ha hq => by
    obtain ⟨c, e1⟩ := cell_is ns i (by omega) (by omega) st
    obtain ⟨s2, q, e2, p⟩ := pool_is c st
    obtain ⟨s3, e3⟩ := right_is p
    refine ⟨.bl true, s3, by simp [e1, e2, e3], fun d hd => ?_⟩
    rcases List.mem_append.mp hd with hd | hd
    · exact hq d hd
    · exact List.mem_singleton.mp hd) m 0 [] [] (by omega) rfl (fun _ h => nomatch h)
  have mn : opMin [.int (ns.length : Int), .int 30] [] = some (.int (min ns.length 30 : Nat), []) := by
    simp [opMin]
    omega
  have mx : opMax [.int 3, .int (min ns.length 30 : Nat)] [] = some (.int m, []) := by
    rw [hm]
    exact opMax_nat 3 (min ns.length 30) []
  have rg := rng1 (e := (iN opMax (aCons (iC (.int 3)) (aCons (iN opMin (aCons (iN opLen (aCons (iVar 0) aNil)) (aCons (iC (.int 30)) aNil))) aNil)))) (env := [some (.lst (ns.map .int)), none]) (st := []) (st' := []) (n := m) (by simp [len_lst]; rw [mn]; simp; rw [mx]; simp) (by omega)
  have al : opAll [.lst acc] st' = some (.bl true, st') := by
    show (allP asB acc).map (fun bs => (D.bl (bs.all _root_.id), st')) = _
    rw [allP_map (g := fun _ => true) (fun d hd => by rw [h3 d hd]; rfl)]
    simp
  refine ⟨st', ?_⟩
  have st0 : k13_law [.lst (ns.map .int)] [] = endB ((sRet (iN opAll (aCons (iCompF (wRng1 (aCons (iN opMax (aCons (iC (.int 3)) (aCons (iN opMin (aCons (iN opLen (aCons (iVar 0) aNil)) (aCons (iC (.int 30)) aNil))) aNil))) aNil)) (.one 1) tYes' (iCall k13__law_right [] (aCons (iCall k13__law_pool [] (aCons (iCall k13__law_cell [] (aCons (iVar 0) (aCons (iVar 1) aNil))) aNil)) aNil))) aNil))) [some (.lst (ns.map .int)), none] []) := rfl
  rw [st0, sRet_d, iN_d, aCons_d, iCompF_d, rg, R_ok]
  rw [show wipeE [some (.lst (ns.map .int)), none] (Pat.one 1).slots = [some (.lst (ns.map .int)), none] from rfl, h1]
  simp [al]
end M
/-! the walks -/
namespace M
open PySem PySem.Spec PyProof.Rows L2
structure Cn (K : PySem.W.Frag) (mg : Str → Option Value) : Prop where
  c : SaysP bB_ fa_ fn_ pd_ K
  h : ∃ h : Heap, K.In h ∧ h.Ns mainGlobals mg
section
variable {P : Program} {w : World} {K : PySem.W.Frag} {mg : Str → Option Value} {base : Heap}
theorem Cn.glo (C : Cn K mg) (i : Nat) {x : Str} (h : fa_[i]? = some (.glo x) := by rfl) : mg x = some (.ref (He.ga K x)) := by
  obtain ⟨h0, X, G⟩ := C.h
  exact He.glo_ok X G (C.c.says.fact i h)
theorem Cn.free (C : Cn K mg) (i : Nat) {x : Str} (h : fa_[i]? = some (.free x) := by rfl) : mg x = none := by
  obtain ⟨h0, X, G⟩ := C.h
  exact He.free_ok X G (C.c.says.fact i h)
theorem Cn.int (C : Cn K mg) (i : Nat) {x : Str} {n : Int} (h : fa_[i]? = some (.int x n) := by rfl) : ∃ t, mg x = some (.int n t) := by
  obtain ⟨h0, X, G⟩ := C.h
  exact He.int_ok X G (C.c.says.fact i h)
theorem Cn.str (C : Cn K mg) (i : Nat) {x z : Str} (h : fa_[i]? = some (.str x z) := by rfl) : ∃ t, mg x = some (.str z t) := by
  obtain ⟨h0, X, G⟩ := C.h
  exact He.str_ok X G (C.c.says.fact i h)
theorem Cn.bx (C : Cn K mg) (i : Nat) {b : Bool} (h : (bs_ K)[i]? = some b := by rfl) : b = true := List.all_eq_true.mp C.c.b b (List.mem_of_getElem? h)
theorem Cn.g_BARRED (C : Cn K mg) : mg "BARRED" = some (.ref (He.ga K "BARRED")) := C.glo 0
theorem Cn.g_BelowOne (C : Cn K mg) : mg "BelowOne" = some (.ref (He.ga K "BelowOne")) := C.glo 1
theorem Cn.g_DrawnTwice (C : Cn K mg) : mg "DrawnTwice" = some (.ref (He.ga K "DrawnTwice")) := C.glo 2
theorem Cn.g_HEADS (C : Cn K mg) : mg "HEADS" = some (.ref (He.ga K "HEADS")) := C.glo 3
theorem Cn.g_InvalidCount (C : Cn K mg) : mg "InvalidCount" = some (.ref (He.ga K "InvalidCount")) := C.glo 4
theorem Cn.g_InvalidItem (C : Cn K mg) : mg "InvalidItem" = some (.ref (He.ga K "InvalidItem")) := C.glo 5
theorem Cn.g_InvalidLength (C : Cn K mg) : mg "InvalidLength" = some (.ref (He.ga K "InvalidLength")) := C.glo 6
theorem Cn.g_InvalidPlace (C : Cn K mg) : mg "InvalidPlace" = some (.ref (He.ga K "InvalidPlace")) := C.glo 7
theorem Cn.g_InvalidText (C : Cn K mg) : mg "InvalidText" = some (.ref (He.ga K "InvalidText")) := C.glo 8
theorem Cn.g_KeepError (C : Cn K mg) : mg "KeepError" = some (.ref (He.ga K "KeepError")) := C.glo 9
theorem Cn.g_NAMED (C : Cn K mg) : mg "NAMED" = some (.ref (He.ga K "NAMED")) := C.glo 10
theorem Cn.g_NotASampler (C : Cn K mg) : mg "NotASampler" = some (.ref (He.ga K "NotASampler")) := C.glo 11
theorem Cn.g_NotDrawn (C : Cn K mg) : mg "NotDrawn" = some (.ref (He.ga K "NotDrawn")) := C.glo 12
theorem Cn.g_ProgramError (C : Cn K mg) : mg "ProgramError" = some (.ref (He.ga K "ProgramError")) := C.glo 13
theorem Cn.g_Sampler (C : Cn K mg) : mg "Sampler" = some (.ref (He.ga K "Sampler")) := C.glo 14
theorem Cn.g_TextError (C : Cn K mg) : mg "TextError" = some (.ref (He.ga K "TextError")) := C.glo 15
theorem Cn.g_TooMuch (C : Cn K mg) : mg "TooMuch" = some (.ref (He.ga K "TooMuch")) := C.glo 16
theorem Cn.g_UnknownPlace (C : Cn K mg) : mg "UnknownPlace" = some (.ref (He.ga K "UnknownPlace")) := C.glo 17
theorem Cn.g_Unsettled (C : Cn K mg) : mg "Unsettled" = some (.ref (He.ga K "Unsettled")) := C.glo 18
theorem Cn.g__law_bent (C : Cn K mg) : mg "_law_bent" = some (.ref (He.ga K "_law_bent")) := C.glo 19
theorem Cn.g__law_cell (C : Cn K mg) : mg "_law_cell" = some (.ref (He.ga K "_law_cell")) := C.glo 20
theorem Cn.g__law_draw (C : Cn K mg) : mg "_law_draw" = some (.ref (He.ga K "_law_draw")) := C.glo 21
theorem Cn.g__law_error (C : Cn K mg) : mg "_law_error" = some (.ref (He.ga K "_law_error")) := C.glo 22
theorem Cn.g__law_field (C : Cn K mg) : mg "_law_field" = some (.ref (He.ga K "_law_field")) := C.glo 23
theorem Cn.g__law_form_text (C : Cn K mg) : mg "_law_form_text" = some (.ref (He.ga K "_law_form_text")) := C.glo 24
theorem Cn.g__law_is (C : Cn K mg) : mg "_law_is" = some (.ref (He.ga K "_law_is")) := C.glo 25
theorem Cn.g__law_letters (C : Cn K mg) : mg "_law_letters" = some (.ref (He.ga K "_law_letters")) := C.glo 26
theorem Cn.g__law_made (C : Cn K mg) : mg "_law_made" = some (.ref (He.ga K "_law_made")) := C.glo 27
theorem Cn.g__law_pool (C : Cn K mg) : mg "_law_pool" = some (.ref (He.ga K "_law_pool")) := C.glo 28
theorem Cn.g__law_right (C : Cn K mg) : mg "_law_right" = some (.ref (He.ga K "_law_right")) := C.glo 29
theorem Cn.g__law_tags (C : Cn K mg) : mg "_law_tags" = some (.ref (He.ga K "_law_tags")) := C.glo 30
theorem Cn.g_block_in (C : Cn K mg) : mg "block_in" = some (.ref (He.ga K "block_in")) := C.glo 31
theorem Cn.g_branches_in (C : Cn K mg) : mg "branches_in" = some (.ref (He.ga K "branches_in")) := C.glo 32
theorem Cn.g_check_program (C : Cn K mg) : mg "check_program" = some (.ref (He.ga K "check_program")) := C.glo 33
theorem Cn.g_check_sizes (C : Cn K mg) : mg "check_sizes" = some (.ref (He.ga K "check_sizes")) := C.glo 34
theorem Cn.g_check_way (C : Cn K mg) : mg "check_way" = some (.ref (He.ga K "check_way")) := C.glo 35
theorem Cn.g_draw_in (C : Cn K mg) : mg "draw_in" = some (.ref (He.ga K "draw_in")) := C.glo 36
theorem Cn.g_flat (C : Cn K mg) : mg "flat" = some (.ref (He.ga K "flat")) := C.glo 37
theorem Cn.g_followed (C : Cn K mg) : mg "followed" = some (.ref (He.ga K "followed")) := C.glo 38
theorem Cn.g_form_in (C : Cn K mg) : mg "form_in" = some (.ref (He.ga K "form_in")) := C.glo 39
theorem Cn.g_is_name (C : Cn K mg) : mg "is_name" = some (.ref (He.ga K "is_name")) := C.glo 40
theorem Cn.g_line_in (C : Cn K mg) : mg "line_in" = some (.ref (He.ga K "line_in")) := C.glo 41
theorem Cn.g_lines_beyond (C : Cn K mg) : mg "lines_beyond" = some (.ref (He.ga K "lines_beyond")) := C.glo 42
theorem Cn.g_most_drawn (C : Cn K mg) : mg "most_drawn" = some (.ref (He.ga K "most_drawn")) := C.glo 43
theorem Cn.g_name_test_in (C : Cn K mg) : mg "name_test_in" = some (.ref (He.ga K "name_test_in")) := C.glo 44
theorem Cn.g_nesting (C : Cn K mg) : mg "nesting" = some (.ref (He.ga K "nesting")) := C.glo 45
theorem Cn.g_number_in (C : Cn K mg) : mg "number_in" = some (.ref (He.ga K "number_in")) := C.glo 46
theorem Cn.g_places_in (C : Cn K mg) : mg "places_in" = some (.ref (He.ga K "places_in")) := C.glo 47
theorem Cn.g_sampler_in (C : Cn K mg) : mg "sampler_in" = some (.ref (He.ga K "sampler_in")) := C.glo 48
theorem Cn.g_test_in (C : Cn K mg) : mg "test_in" = some (.ref (He.ga K "test_in")) := C.glo 49
theorem Cn.f_LookupError (C : Cn K mg) : mg "LookupError" = none := C.free 50
theorem Cn.f_RuntimeError (C : Cn K mg) : mg "RuntimeError" = none := C.free 51
theorem Cn.f_ValueError (C : Cn K mg) : mg "ValueError" = none := C.free 52
theorem Cn.f_abs (C : Cn K mg) : mg "abs" = none := C.free 53
theorem Cn.f_all (C : Cn K mg) : mg "all" = none := C.free 54
theorem Cn.f_divmod (C : Cn K mg) : mg "divmod" = none := C.free 55
theorem Cn.f_enumerate (C : Cn K mg) : mg "enumerate" = none := C.free 56
theorem Cn.f_int (C : Cn K mg) : mg "int" = none := C.free 57
theorem Cn.f_isinstance (C : Cn K mg) : mg "isinstance" = none := C.free 58
theorem Cn.f_len (C : Cn K mg) : mg "len" = none := C.free 59
theorem Cn.f_list (C : Cn K mg) : mg "list" = none := C.free 60
theorem Cn.f_max (C : Cn K mg) : mg "max" = none := C.free 61
theorem Cn.f_min (C : Cn K mg) : mg "min" = none := C.free 62
theorem Cn.f_range (C : Cn K mg) : mg "range" = none := C.free 63
theorem Cn.f_repr (C : Cn K mg) : mg "repr" = none := C.free 64
theorem Cn.f_set (C : Cn K mg) : mg "set" = none := C.free 65
theorem Cn.f_sorted (C : Cn K mg) : mg "sorted" = none := C.free 66
theorem Cn.f_str (C : Cn K mg) : mg "str" = none := C.free 67
theorem Cn.f_tuple (C : Cn K mg) : mg "tuple" = none := C.free 68
theorem Cn.n_LAST_EARLY (C : Cn K mg) : ∃ t, mg "LAST_EARLY" = some (.int 12 t) := C.int 69
theorem Cn.n_MOST_DIGIT (C : Cn K mg) : ∃ t, mg "MOST_DIGIT" = some (.int 9 t) := C.int 70
theorem Cn.n_MOST_DRAWS (C : Cn K mg) : ∃ t, mg "MOST_DRAWS" = some (.int 6 t) := C.int 71
theorem Cn.n_MOST_NESTED (C : Cn K mg) : ∃ t, mg "MOST_NESTED" = some (.int 4 t) := C.int 72
theorem Cn.n_MOST_NUMBER (C : Cn K mg) : ∃ t, mg "MOST_NUMBER" = some (.int 9 t) := C.int 73
theorem Cn.n_MOST_ON_A_WAY (C : Cn K mg) : ∃ t, mg "MOST_ON_A_WAY" = some (.int 3 t) := C.int 74
theorem Cn.n_MOST_STATEMENTS (C : Cn K mg) : ∃ t, mg "MOST_STATEMENTS" = some (.int 24 t) := C.int 75
theorem Cn.s_LETTERS (C : Cn K mg) : ∃ t, mg "LETTERS" = some (.str "abcdefghijklmnopqrstuvwxyz" t) := C.str 76
theorem Cn.g_law (C : Cn K mg) : mg "law" = some (.ref (He.ga K "law")) := C.glo 77
theorem Cn.mk_Sampler (C : Cn K mg) : Mk K (He.ga K "Sampler") (He.ma K (He.ga K "Sampler") "__init__") := He.mkr_ok (C.c.says.fact 78 rfl)
theorem Cn.cls_Sampler (C : Cn K mg) : Cls K (He.ga K "Sampler") := He.cls_ok (C.c.says.fact 79 rfl)
theorem Cn.noat_Sampler_source (C : Cn K mg) : NoAttr K (He.ga K "Sampler") "source" := He.noat_ok (C.c.says.fact 80 rfl)
theorem Cn.noat_Sampler_tree (C : Cn K mg) : NoAttr K (He.ga K "Sampler") "tree" := He.noat_ok (C.c.says.fact 81 rfl)
theorem Cn.noat_Sampler_wide (C : Cn K mg) : NoAttr K (He.ga K "Sampler") "wide" := He.noat_ok (C.c.says.fact 82 rfl)
theorem Cn.has_source (C : Cn K mg) : Has K (He.ga K) "source" ["Sampler"] := ⟨fun c hc => by
  simp only [List.mem_cons, List.not_mem_nil, or_false] at hc
  rcases hc with rfl
  · exact C.cls_Sampler
, fun c hc => by
  simp only [List.mem_cons, List.not_mem_nil, or_false] at hc
  rcases hc with rfl
  · exact C.noat_Sampler_source
⟩
theorem Cn.has_tree (C : Cn K mg) : Has K (He.ga K) "tree" ["Sampler"] := ⟨fun c hc => by
  simp only [List.mem_cons, List.not_mem_nil, or_false] at hc
  rcases hc with rfl
  · exact C.cls_Sampler
, fun c hc => by
  simp only [List.mem_cons, List.not_mem_nil, or_false] at hc
  rcases hc with rfl
  · exact C.noat_Sampler_tree
⟩
theorem Cn.has_wide (C : Cn K mg) : Has K (He.ga K) "wide" ["Sampler"] := ⟨fun c hc => by
  simp only [List.mem_cons, List.not_mem_nil, or_false] at hc
  rcases hc with rfl
  · exact C.cls_Sampler
, fun c hc => by
  simp only [List.mem_cons, List.not_mem_nil, or_false] at hc
  rcases hc with rfl
  · exact C.noat_Sampler_wide
⟩
theorem Cn.t_BARRED (C : Cn K mg) : He.tupB K "BARRED" dv_BARRED = true := C.bx 0
theorem Cn.t_HEADS (C : Cn K mg) : He.tupB K "HEADS" dv_HEADS = true := C.bx 1
theorem Cn.t_NAMED (C : Cn K mg) : He.tupB K "NAMED" dv_NAMED = true := C.bx 2
theorem Cn.insb_Sampler (C : Cn K mg) : insB K "Sampler" = true := C.bx 3
theorem Cn.eqb (C : Cn K mg) : eqcB K "Sampler" ["str", "tuple", "list", "NoneType", "int", "bool", "dict"] = true := C.bx 4
theorem Cn.sltb_str (C : Cn K mg) : slotB K "Sampler" "__str__" = true := C.bx 5
theorem Cn.sltb_repr (C : Cn K mg) : slotB K "Sampler" "__repr__" = true := C.bx 6
theorem Cn.isb_Sampler (C : Cn K mg) : tl_Sampler.all (isaB K) = true := C.bx 7
theorem Cn.isb_list (C : Cn K mg) : tl_list.all (isaB K) = true := C.bx 8
theorem Cn.isb_str (C : Cn K mg) : tl_str.all (isaB K) = true := C.bx 9
theorem Cn.xdb (C : Cn K mg) : xd_.all (fun d => d.ok K) = true := C.bx 10
theorem Cn.isbx (C : Cn K mg) : tl_xk13.all (isaB K) = true := C.bx 11
theorem Cn.tx__law_made (C : Cn K mg) : tx__law_made.all (exmB K ["TextError", "ProgramError", "KeepError"]) = true := C.bx 12
theorem Cn.ins_Sampler (C : Cn K mg) : ∀ D ∈ (["Sampler"] : List Str), InsF K (He.ga K D) := fun D h => by
  simp only [List.mem_cons, List.not_mem_nil, or_false] at h
  subst h
  exact insB_ok C.insb_Sampler
theorem Cn.eqc (C : Cn K mg) : EqC K (He.ga K) "Sampler" (He.ma K (He.ga K "Sampler") "__eq__") ["str", "tuple", "list", "NoneType", "int", "bool", "dict"] := eqcB_ok C.eqb
theorem Cn.slot_str (C : Cn K mg) : PySem.W.findIn K (.ref (He.ga K "Sampler")) "__str__" = some (some (.ref (He.ma K (He.ga K "Sampler") "__str__"))) ∧ PySem.W.isFn K (.ref (He.ma K (He.ga K "Sampler") "__str__")) = true := slotB_ok C.sltb_str
theorem Cn.slot_repr (C : Cn K mg) : PySem.W.findIn K (.ref (He.ga K "Sampler")) "__repr__" = some (some (.ref (He.ma K (He.ga K "Sampler") "__repr__"))) ∧ PySem.W.isFn K (.ref (He.ma K (He.ga K "Sampler") "__repr__")) = true := slotB_ok C.sltb_repr
theorem Cn.isa_Sampler (C : Cn K mg) : Isa K (He.ga K) [] (isaT tl_Sampler) := ⟨(fun _ h => nomatch h), isaT_ok C.isb_Sampler⟩
theorem Cn.isa_list (C : Cn K mg) : Isa K (He.ga K) [] (isaT tl_list) := ⟨(fun _ h => nomatch h), isaT_ok C.isb_list⟩
theorem Cn.isa_str (C : Cn K mg) : Isa K (He.ga K) [] (isaT tl_str) := ⟨(fun _ h => nomatch h), isaT_ok C.isb_str⟩
theorem Cn.xd (C : Cn K mg) (i : Nat) {d : XD} (h : xd_[i]? = some d := by rfl) : d.ok K = true := List.all_eq_true.mp C.xdb d (List.mem_of_getElem? h)
theorem Cn.isax (C : Cn K mg) : Isa K (He.ga K) xs_k13 tb_k13 := ⟨fun c hc => by
  have e : xs_k13 = xd_.map XD.nm := rfl
  rw [e] at hc
  obtain ⟨d, hd, rfl⟩ := List.mem_map.mp hc
  exact XD.xf (List.all_eq_true.mp C.xdb d hd), isaT_ok C.isbx⟩
theorem Cn.fld_line (C : Cn K mg) : Fld K (He.ga K) "line" (fl_k13 "line") := by
  have key : ((fl_k13 "line").all fun c => xd_.any fun d => decide (d.nm = c) && (match d.fs with
    | some fs => fs.contains "line"
    | none => false)) = true := by decide +kernel
  have get : ∀ c ∈ fl_k13 "line", ∃ d ∈ xd_, ∃ fs, d.nm = c ∧ d.fs = some fs ∧ ("line" : Str) ∈ fs := fun c hc => by
    obtain ⟨d, hd, z⟩ := List.any_eq_true.mp (List.all_eq_true.mp key c hc)
    obtain ⟨z1, z2⟩ := He.ba z
    cases e : d.fs with
    | none => rw [e] at z2; cases z2
    | some fs => rw [e] at z2; exact ⟨d, hd, fs, of_decide_eq_true z1, e, List.contains_iff_mem.mp z2⟩
  refine ⟨fun c hc => ?_, fun c hc => ?_⟩
  · obtain ⟨d, hd, fs, rfl, e, m⟩ := get c hc
    exact (XD.xf (List.all_eq_true.mp C.xdb d hd)).fld
  · obtain ⟨d, hd, fs, rfl, e, m⟩ := get c hc
    exact (XD.made (List.all_eq_true.mp C.xdb d hd) e).2.1 _ m
theorem Cn.fld_value (C : Cn K mg) : Fld K (He.ga K) "value" (fl_k13 "value") := by
  have key : ((fl_k13 "value").all fun c => xd_.any fun d => decide (d.nm = c) && (match d.fs with
    | some fs => fs.contains "value"
    | none => false)) = true := by decide +kernel
  have get : ∀ c ∈ fl_k13 "value", ∃ d ∈ xd_, ∃ fs, d.nm = c ∧ d.fs = some fs ∧ ("value" : Str) ∈ fs := fun c hc => by
    obtain ⟨d, hd, z⟩ := List.any_eq_true.mp (List.all_eq_true.mp key c hc)
    obtain ⟨z1, z2⟩ := He.ba z
    cases e : d.fs with
    | none => rw [e] at z2; cases z2
    | some fs => rw [e] at z2; exact ⟨d, hd, fs, of_decide_eq_true z1, e, List.contains_iff_mem.mp z2⟩
  refine ⟨fun c hc => ?_, fun c hc => ?_⟩
  · obtain ⟨d, hd, fs, rfl, e, m⟩ := get c hc
    exact (XD.xf (List.all_eq_true.mp C.xdb d hd)).fld
  · obtain ⟨d, hd, fs, rfl, e, m⟩ := get c hc
    exact (XD.made (List.all_eq_true.mp C.xdb d hd) e).2.1 _ m
theorem Cn.fld_what (C : Cn K mg) : Fld K (He.ga K) "what" (fl_k13 "what") := by
  have key : ((fl_k13 "what").all fun c => xd_.any fun d => decide (d.nm = c) && (match d.fs with
    | some fs => fs.contains "what"
    | none => false)) = true := by decide +kernel
  have get : ∀ c ∈ fl_k13 "what", ∃ d ∈ xd_, ∃ fs, d.nm = c ∧ d.fs = some fs ∧ ("what" : Str) ∈ fs := fun c hc => by
    obtain ⟨d, hd, z⟩ := List.any_eq_true.mp (List.all_eq_true.mp key c hc)
    obtain ⟨z1, z2⟩ := He.ba z
    cases e : d.fs with
    | none => rw [e] at z2; cases z2
    | some fs => rw [e] at z2; exact ⟨d, hd, fs, of_decide_eq_true z1, e, List.contains_iff_mem.mp z2⟩
  refine ⟨fun c hc => ?_, fun c hc => ?_⟩
  · obtain ⟨d, hd, fs, rfl, e, m⟩ := get c hc
    exact (XD.xf (List.all_eq_true.mp C.xdb d hd)).fld
  · obtain ⟨d, hd, fs, rfl, e, m⟩ := get c hc
    exact (XD.made (List.all_eq_true.mp C.xdb d hd) e).2.1 _ m
theorem Cn.xp_UnknownPlace (C : Cn K mg) : XI_ P w K mg base 1 1 (He.ga K "UnknownPlace") ["line"] [] gCat := by
  obtain ⟨fd, Fd⟩ := C.c.says.def_ 36 rfl
  obtain ⟨z1, z2, z3, z4⟩ := XD.made (C.xd 0) rfl
  exact ⟨z1, z2, ⟨_, fd, ["self", "line"], _, z3, z4, ok_init1 Fd (⟨rfl, rfl, rfl, by decide +kernel, rfl, by decide +kernel, by decide +kernel⟩ : FnScope ["self", "line"] ["self", "line"] _) rfl rfl (by decide) (by decide), kbn_plain Fd 2 [] (fun {α} => gCat) hCat fun _ _ _ _ _ _ us ws h1 h2 => match us, ws, h1, h2 with
    | [_, _], [], _, _ => rfl⟩⟩
theorem Cn.xp_BelowOne (C : Cn K mg) : XI_ P w K mg base 1 1 (He.ga K "BelowOne") ["line"] [] gCat := by
  obtain ⟨fd, Fd⟩ := C.c.says.def_ 37 rfl
  obtain ⟨z1, z2, z3, z4⟩ := XD.made (C.xd 1) rfl
  exact ⟨z1, z2, ⟨_, fd, ["self", "line"], _, z3, z4, ok_init1 Fd (⟨rfl, rfl, rfl, by decide +kernel, rfl, by decide +kernel, by decide +kernel⟩ : FnScope ["self", "line"] ["self", "line"] _) rfl rfl (by decide) (by decide), kbn_plain Fd 2 [] (fun {α} => gCat) hCat fun _ _ _ _ _ _ us ws h1 h2 => match us, ws, h1, h2 with
    | [_, _], [], _, _ => rfl⟩⟩
theorem Cn.xp_InvalidText (C : Cn K mg) : XI_ P w K mg base 1 1 (He.ga K "InvalidText") ["value"] [] gCat := by
  obtain ⟨fd, Fd⟩ := C.c.says.def_ 38 rfl
  obtain ⟨z1, z2, z3, z4⟩ := XD.made (C.xd 2) rfl
  exact ⟨z1, z2, ⟨_, fd, ["self", "value"], _, z3, z4, ok_init1 Fd (⟨rfl, rfl, rfl, by decide +kernel, rfl, by decide +kernel, by decide +kernel⟩ : FnScope ["self", "value"] ["self", "value"] _) rfl rfl (by decide) (by decide), kbn_plain Fd 2 [] (fun {α} => gCat) hCat fun _ _ _ _ _ _ us ws h1 h2 => match us, ws, h1, h2 with
    | [_, _], [], _, _ => rfl⟩⟩
theorem Cn.xp_TooMuch (C : Cn K mg) : XI_ P w K mg base 1 1 (He.ga K "TooMuch") ["what"] [] gCat := by
  obtain ⟨fd, Fd⟩ := C.c.says.def_ 39 rfl
  obtain ⟨z1, z2, z3, z4⟩ := XD.made (C.xd 3) rfl
  exact ⟨z1, z2, ⟨_, fd, ["self", "what"], _, z3, z4, ok_init1 Fd (⟨rfl, rfl, rfl, by decide +kernel, rfl, by decide +kernel, by decide +kernel⟩ : FnScope ["self", "what"] ["self", "what"] _) rfl rfl (by decide) (by decide), kbn_plain Fd 2 [] (fun {α} => gCat) hCat fun _ _ _ _ _ _ us ws h1 h2 => match us, ws, h1, h2 with
    | [_, _], [], _, _ => rfl⟩⟩
theorem Cn.xp_DrawnTwice (C : Cn K mg) : XI_ P w K mg base 1 1 (He.ga K "DrawnTwice") ["line"] [] gCat := by
  obtain ⟨fd, Fd⟩ := C.c.says.def_ 40 rfl
  obtain ⟨z1, z2, z3, z4⟩ := XD.made (C.xd 4) rfl
  exact ⟨z1, z2, ⟨_, fd, ["self", "line"], _, z3, z4, ok_init1 Fd (⟨rfl, rfl, rfl, by decide +kernel, rfl, by decide +kernel, by decide +kernel⟩ : FnScope ["self", "line"] ["self", "line"] _) rfl rfl (by decide) (by decide), kbn_plain Fd 2 [] (fun {α} => gCat) hCat fun _ _ _ _ _ _ us ws h1 h2 => match us, ws, h1, h2 with
    | [_, _], [], _, _ => rfl⟩⟩
theorem Cn.xp_NotDrawn (C : Cn K mg) : XI_ P w K mg base 1 1 (He.ga K "NotDrawn") ["line"] [] gCat := by
  obtain ⟨fd, Fd⟩ := C.c.says.def_ 41 rfl
  obtain ⟨z1, z2, z3, z4⟩ := XD.made (C.xd 5) rfl
  exact ⟨z1, z2, ⟨_, fd, ["self", "line"], _, z3, z4, ok_init1 Fd (⟨rfl, rfl, rfl, by decide +kernel, rfl, by decide +kernel, by decide +kernel⟩ : FnScope ["self", "line"] ["self", "line"] _) rfl rfl (by decide) (by decide), kbn_plain Fd 2 [] (fun {α} => gCat) hCat fun _ _ _ _ _ _ us ws h1 h2 => match us, ws, h1, h2 with
    | [_, _], [], _, _ => rfl⟩⟩
abbrev N__law_cell : List Str := ["_law_cells", "_law_k", "_law_seed", "_law_part_here"]
theorem sc__law_cell : FnScope N__law_cell ["_law_cells", "_law_k"] (defScope (top 51)) := ⟨rfl, rfl, rfl, by decide +kernel, rfl, by decide +kernel, by decide +kernel⟩
abbrev N__law_pool : List Str := ["_law_cell_here", "_law_figures"]
theorem sc__law_pool : FnScope N__law_pool ["_law_cell_here"] (defScope (top 52)) := ⟨rfl, rfl, rfl, by decide +kernel, rfl, by decide +kernel, by decide +kernel⟩
abbrev N__law_draw : List Str := ["_law_pool_here", "_law_many", "_law_seed", "_law_k", "_law_by", "_law_digit"]
theorem sc__law_draw : FnScope N__law_draw ["_law_pool_here", "_law_many"] (defScope (top 53)) := ⟨rfl, rfl, rfl, by decide +kernel, rfl, by decide +kernel, by decide +kernel⟩
abbrev N__law_bent : List Str := ["_law_pool_here", "_law_word", "_law_kind", "_law_spot", "_law_sign", "_law_near"]
theorem sc__law_bent : FnScope N__law_bent ["_law_pool_here", "_law_word"] (defScope (top 60)) := ⟨rfl, rfl, rfl, by decide +kernel, rfl, by decide +kernel, by decide +kernel⟩
abbrev N__law_form_text : List Str := ["_law_form", "_law_factor", "_law_number", "_law_head"]
theorem sc__law_form_text : FnScope N__law_form_text ["_law_form"] (defScope (top 56)) := ⟨rfl, rfl, rfl, by decide +kernel, rfl, by decide +kernel, by decide +kernel⟩
abbrev N_Sampler___eq__ : List Str := ["self", "other"]
theorem sc_Sampler___eq__ : FnScope N_Sampler___eq__ ["self", "other"] (defScope (inCls (top 49) 4)) := ⟨rfl, rfl, rfl, by decide +kernel, rfl, by decide +kernel, by decide +kernel⟩
abbrev N_followed : List Str := ["statements", "sure", "maybe", "faults", "early", "twice", "statement", "name", "test", "first", "second"]
theorem sc_followed : FnScope N_followed ["statements", "sure", "maybe", "faults"] (defScope (top 42)) := ⟨rfl, rfl, rfl, by decide +kernel, rfl, by decide +kernel, by decide +kernel⟩
abbrev N_flat : List Str := ["statements", "found", "statement"]
theorem sc_flat : FnScope N_flat ["statements"] (defScope (top 40)) := ⟨rfl, rfl, rfl, by decide +kernel, rfl, by decide +kernel, by decide +kernel⟩
abbrev N_lines_beyond : List Str := ["statements", "places", "found", "statement"]
theorem sc_lines_beyond : FnScope N_lines_beyond ["statements", "places"] (defScope (top 41)) := ⟨rfl, rfl, rfl, by decide +kernel, rfl, by decide +kernel, by decide +kernel⟩
abbrev N_check_program : List Str := ["statements", "places", "low_lines", "beyond", "early", "twice"]
theorem sc_check_program : FnScope N_check_program ["statements", "places", "low_lines"] (defScope (top 45)) := ⟨rfl, rfl, rfl, by decide +kernel, rfl, by decide +kernel, by decide +kernel⟩
abbrev N_nesting : List Str := ["statements", "inner", "statement"]
theorem sc_nesting : FnScope N_nesting ["statements"] (defScope (top 43)) := ⟨rfl, rfl, rfl, by decide +kernel, rfl, by decide +kernel, by decide +kernel⟩
abbrev N_check_sizes : List Str := ["statements", "rows", "row"]
theorem sc_check_sizes : FnScope N_check_sizes ["statements"] (defScope (top 46)) := ⟨rfl, rfl, rfl, by decide +kernel, rfl, by decide +kernel, by decide +kernel⟩
abbrev N_most_drawn : List Str := ["statements", "total", "statement"]
theorem sc_most_drawn : FnScope N_most_drawn ["statements"] (defScope (top 44)) := ⟨rfl, rfl, rfl, by decide +kernel, rfl, by decide +kernel, by decide +kernel⟩
abbrev N_check_way : List Str := ["statements"]
theorem sc_check_way : FnScope N_check_way ["statements"] (defScope (top 47)) := ⟨rfl, rfl, rfl, by decide +kernel, rfl, by decide +kernel, by decide +kernel⟩
abbrev N_number_in : List Str := ["text", "least", "most", "number"]
theorem sc_number_in : FnScope N_number_in ["text", "least", "most"] (defScope (top 27)) := ⟨rfl, rfl, rfl, by decide +kernel, rfl, by decide +kernel, by decide +kernel⟩
abbrev N_form_in : List Str := ["text", "at", "head", "number"]
theorem sc_form_in : FnScope N_form_in ["text"] (defScope (top 28)) := ⟨rfl, rfl, rfl, by decide +kernel, rfl, by decide +kernel, by decide +kernel⟩
abbrev N_is_name : List Str := ["text", "sign"]
theorem sc_is_name : FnScope N_is_name ["text"] (defScope (top 29)) := ⟨rfl, rfl, rfl, by decide +kernel, rfl, by decide +kernel, by decide +kernel⟩
abbrev N_draw_in : List Str := ["text", "line", "read_form", "name", "word", "below", "form"]
theorem sc_draw_in : FnScope N_draw_in ["text", "line", "read_form"] (defScope (top 30)) := ⟨rfl, rfl, rfl, by decide +kernel, rfl, by decide +kernel, by decide +kernel⟩
abbrev N_places_in : List Str := ["words", "places", "word"]
theorem sc_places_in : FnScope N_places_in ["words"] (defScope (top 33)) := ⟨rfl, rfl, rfl, by decide +kernel, rfl, by decide +kernel, by decide +kernel⟩
abbrev N_line_in : List Str := ["text", "line", "words", "places"]
theorem sc_line_in : FnScope N_line_in ["text", "line"] (defScope (top 34)) := ⟨rfl, rfl, rfl, by decide +kernel, rfl, by decide +kernel, by decide +kernel⟩
abbrev N_name_test_in : List Str := ["text", "read_form", "name", "sign", "behind", "form", "digit"]
theorem sc_name_test_in : FnScope N_name_test_in ["text", "read_form"] (defScope (top 31)) := ⟨rfl, rfl, rfl, by decide +kernel, rfl, by decide +kernel, by decide +kernel⟩
abbrev N_test_in : List Str := ["text", "head", "word", "step"]
theorem sc_test_in : FnScope N_test_in ["text"] (defScope (top 32)) := ⟨rfl, rfl, rfl, by decide +kernel, rfl, by decide +kernel, by decide +kernel⟩
abbrev N_block_in : List Str := ["lines", "at", "inset", "readers", "read_line", "read_test", "found", "text", "spaces", "told", "test", "body", "other", "behind", "statement"]
theorem sc_block_in : FnScope N_block_in ["lines", "at", "inset", "readers"] (defScope (top 35)) := ⟨rfl, rfl, rfl, by decide +kernel, rfl, by decide +kernel, by decide +kernel⟩
abbrev N_branches_in : List Str := ["lines", "at", "inset", "readers", "test", "body", "behind", "other"]
theorem sc_branches_in : FnScope N_branches_in ["lines", "at", "inset", "readers"] (defScope (top 36)) := ⟨rfl, rfl, rfl, by decide +kernel, rfl, by decide +kernel, by decide +kernel⟩
abbrev N_sampler_in : List Str := ["text", "lines", "places", "block"]
theorem sc_sampler_in : FnScope N_sampler_in ["text"] (defScope (top 37)) := ⟨rfl, rfl, rfl, by decide +kernel, rfl, by decide +kernel, by decide +kernel⟩
abbrev N_Sampler___init__ : List Str := ["self", "text", "told", "places", "tree", "draws", "row"]
theorem sc_Sampler___init__ : FnScope N_Sampler___init__ ["self", "text"] (defScope (inCls (top 49) 0)) := ⟨rfl, rfl, rfl, by decide +kernel, rfl, by decide +kernel, by decide +kernel⟩
abbrev N_Sampler___repr__ : List Str := ["self"]
theorem sc_Sampler___repr__ : FnScope N_Sampler___repr__ ["self"] (defScope (inCls (top 49) 6)) := ⟨rfl, rfl, rfl, by decide +kernel, rfl, by decide +kernel, by decide +kernel⟩
abbrev N_Sampler___str__ : List Str := ["self"]
theorem sc_Sampler___str__ : FnScope N_Sampler___str__ ["self"] (defScope (inCls (top 49) 5)) := ⟨rfl, rfl, rfl, by decide +kernel, rfl, by decide +kernel, by decide +kernel⟩
abbrev N__law_is : List Str := ["_law_told", "_law_due"]
theorem sc__law_is : FnScope N__law_is ["_law_told", "_law_due"] (defScope (top 61)) := ⟨rfl, rfl, rfl, by decide +kernel, rfl, by decide +kernel, by decide +kernel⟩
abbrev N__law_error : List Str := ["_law_e", "_law_sorts", "_law_families", "_law_own", "_law_at"]
theorem sc__law_error : FnScope N__law_error ["_law_e"] (defScope (top 57)) := ⟨rfl, rfl, rfl, by decide +kernel, rfl, by decide +kernel, by decide +kernel⟩
abbrev N__law_field : List Str := ["_law_e", "_law_at"]
theorem sc__law_field : FnScope N__law_field ["_law_e", "_law_at"] (defScope (top 58)) := ⟨rfl, rfl, rfl, by decide +kernel, rfl, by decide +kernel, by decide +kernel⟩
abbrev N__law_made : List Str := ["_law_told", "_law_made_here", "_law_e", "_law_at"]
theorem sc__law_made : FnScope N__law_made ["_law_told"] (defScope (top 59)) := ⟨rfl, rfl, rfl, by decide +kernel, rfl, by decide +kernel, by decide +kernel⟩
abbrev N__law_letters : List Str := ["_law_pool_here", "_law_many", "_law_letters_here", "_law_turn"]
theorem sc__law_letters : FnScope N__law_letters ["_law_pool_here", "_law_many"] (defScope (top 54)) := ⟨rfl, rfl, rfl, by decide +kernel, rfl, by decide +kernel, by decide +kernel⟩
abbrev N__law_tags : List Str := ["_law_pool_here", "_law_barred", "_law_kind", "_law_size", "_law_base", "_law_spot", "_law_found", "_law_k", "_law_tag", "_law_spare", "_law_j"]
theorem sc__law_tags : FnScope N__law_tags ["_law_pool_here"] (defScope (top 55)) := ⟨rfl, rfl, rfl, by decide +kernel, rfl, by decide +kernel, by decide +kernel⟩
abbrev N__law_right : List Str := ["_law_pool_here", "_law_bent_here", "_law_factor", "_law_number", "_law_word", "_law_known", "_law_tag", "_law_cut", "_law_below", "_law_at", "_law_low", "_law_k"]
theorem sc__law_right : FnScope N__law_right ["_law_pool_here"] (defScope (top 62)) := ⟨rfl, rfl, rfl, by decide +kernel, rfl, by decide +kernel, by decide +kernel⟩
abbrev N_law : List Str := ["_law_cells", "_law_k"]
theorem sc_law : FnScope N_law ["_law_cells"] (defScope (top 63)) := ⟨rfl, rfl, rfl, by decide +kernel, rfl, by decide +kernel, by decide +kernel⟩
theorem ok__law_cell (C : Cn K mg) {fd : FuncData} (Fd : FunD K "_law_cell" "_law_cell" (defArgs (top 51)) (defBody (top 51)) (defScope (top 51)) [] [] (He.ga K "_law_cell") fd) : FnG P w K mg base 1 (He.ga K "_law_cell") fd ["_law_cells", "_law_k"] (SPx K (He.ga K) k13__law_cell) := by
  have sc := sc__law_cell
  refine (fn_ok (k := 0) (N := N__law_cell) (b := B_k13__law_cell) Fd sc fun cdv A outer s H E hr hgd => ?_)
  have hu := hr.units
  have hu1 : (A.deeper (envOfC "_law_cell" (defScope (top 51)) s.heap.objs.size (He.ga K "_law_cell") cdv)).units + (64 + 1) < cLine := by have := hr.un; omega
  unfold B_k13__law_cell
  exact (s_cons (s_if (t_cmp or_lt (e_v 1) (e_callB (cr_len rfl) rfl C.f_len (by decide +kernel) (a_cons (e_v 0) a_nil))) (s_one (s_ret (e_ix rfl (e_v 0) (e_v 1)))) s_nil)
  (s_cons (s_set (i := 2) sc.nd rfl (by first | exact .inl rfl | exact .inr rfl) (e_bin (or_add rfl) (e_bin (or_mul rfl) (e_bin (or_mul rfl) e_int (e_bin (or_add rfl) (e_v 1) e_int)) (e_bin (or_add rfl) (e_v 1) e_int)) e_int))
  (s_cons (s_for (passes_of rfl) rfl (w_any rfl (e_sl rfl (e_v 0) o_none (o_some e_int))) (g_name (i := 3) sc.nd rfl (by first | exact .inl rfl | exact .inr rfl)) (s_one (s_set (i := 2) sc.nd rfl (by first | exact .inl rfl | exact .inr rfl) (e_bin or_mod (e_callTy cr_int rfl C.f_int (by decide +kernel) (a_cons (e_bin (or_add rfl) (e_bin (or_mul rfl) (e_v 2) e_int) (e_v 3)) a_nil)) e_int))))
  (s_one (s_ret (e_v 2))))))
theorem ok__law_pool (C : Cn K mg) {fd : FuncData} (Fd : FunD K "_law_pool" "_law_pool" (defArgs (top 52)) (defBody (top 52)) (defScope (top 52)) [] [] (He.ga K "_law_pool") fd) : FnG P w K mg base 1 (He.ga K "_law_pool") fd ["_law_cell_here"] (SPx K (He.ga K) k13__law_pool) := by
  have sc := sc__law_pool
  refine (fn_ok (k := 0) (N := N__law_pool) (b := B_k13__law_pool) Fd sc fun cdv A outer s H E hr hgd => ?_)
  have hu := hr.units
  have hu1 : (A.deeper (envOfC "_law_pool" (defScope (top 52)) s.heap.objs.size (He.ga K "_law_pool") cdv)).units + (64 + 1) < cLine := by have := hr.un; omega
  unfold B_k13__law_pool
  exact (s_cons (s_set (i := 1) sc.nd rfl (by first | exact .inl rfl | exact .inr rfl) (e_if (t_ws (w_or (t_cmp or_lt (e_v 0) e_int) (w_or1 (t_cmp or_ge (e_v 0) (e_bin or_pow e_int e_int))))) (e_callB cr_abs rfl C.f_abs (by decide +kernel) (a_cons (e_v 0) a_nil)) e_int))
  (s_one (s_ret (e_lst (a_cons (e_bin or_mod (e_callTy cr_int rfl C.f_int (by decide +kernel) (a_cons (e_bin (or_add rfl) (e_bin (or_mul rfl) (e_v 0) e_int) e_int) a_nil)) e_int) (a_cons (e_v 1) (a_cons e_int a_nil)))))))
theorem ok__law_draw (C : Cn K mg) {fd : FuncData} (Fd : FunD K "_law_draw" "_law_draw" (defArgs (top 53)) (defBody (top 53)) (defScope (top 53)) [] [] (He.ga K "_law_draw") fd) : FnG P w K mg base 1 (He.ga K "_law_draw") fd ["_law_pool_here", "_law_many"] (SPx K (He.ga K) k13__law_draw) := by
  have sc := sc__law_draw
  refine (fn_ok (k := 0) (N := N__law_draw) (b := B_k13__law_draw) Fd sc fun cdv A outer s H E hr hgd => ?_)
  have hu := hr.units
  have hu1 : (A.deeper (envOfC "_law_draw" (defScope (top 53)) s.heap.objs.size (He.ga K "_law_draw") cdv)).units + (64 + 1) < cLine := by have := hr.un; omega
  unfold B_k13__law_draw
  exact (s_cons (s_asg (e_bin (or_add rfl) (e_ix rfl (e_v 0) e_int) e_int) (g_ix (e_v 0) e_int))
  (s_cons (s_par (i := 2) (j := 3) rfl sc.nd rfl rfl (by decide) rfl rfl (a_cons (e_callTy cr_int rfl C.f_int (by decide +kernel) (a_cons (e_ix rfl (e_v 0) e_int) a_nil)) (a_cons (e_ix rfl (e_v 0) e_int) a_nil)) rfl)
  (s_cons (s_set (i := 4) sc.nd rfl (by first | exact .inl rfl | exact .inr rfl) (e_bin (or_add rfl) (e_bin (or_add rfl) (e_bin or_mod (e_callTy cr_int rfl C.f_int (by decide +kernel) (a_cons (e_v 2) a_nil)) e_int) e_int) (e_v 3)))
  (s_cons (s_asg (e_bin or_mod (e_callTy cr_int rfl C.f_int (by decide +kernel) (a_cons (e_bin (or_add rfl) (e_bin (or_add rfl) (e_bin (or_mul rfl) (e_v 2) (e_v 4)) (e_bin (or_mul rfl) (e_bin (or_mul rfl) e_int (e_v 3)) (e_v 3))) e_int) a_nil)) e_int) (g_ix (e_v 0) e_int))
  (s_cons (s_if (t_cmp or_gt (e_ix rfl (e_v 0) e_int) e_int) (s_cons (s_asg (e_callB cr_divmod rfl C.f_divmod (by decide +kernel) (a_cons (e_ix rfl (e_v 0) e_int) (a_cons (e_v 1) a_nil))) (g_tup (n := 2) rfl rfl (gs_cons (g_ix (e_v 0) e_int) (gs_name (i := 5) sc.nd rfl (by first | exact .inl rfl | exact .inr rfl) gs_nil gsNil_ne) (gsVar_ne gsNil_ne))))
  (s_one (s_ret (e_v 5)))) s_nil)
  (s_one (s_ret (e_bin or_mod (e_callTy cr_int rfl C.f_int (by decide +kernel) (a_cons (e_bin or_fdiv (e_ix rfl (e_v 0) e_int) e_int) a_nil)) (e_v 1)))))))))
theorem ok__law_bent (C : Cn K mg) {fd : FuncData} (Fd : FunD K "_law_bent" "_law_bent" (defArgs (top 60)) (defBody (top 60)) (defScope (top 60)) [] [] (He.ga K "_law_bent") fd) : FnG P w K mg base 2 (He.ga K "_law_bent") fd ["_law_pool_here", "_law_word"] (SPx K (He.ga K) k13__law_bent) := by
  have sc := sc__law_bent
  obtain ⟨fd__law_draw, F__law_draw⟩ := C.c.says.def_ 2 rfl
  have G__law_draw := ok__law_draw (P := P) (w := w) (base := base) C F__law_draw
  have b__law_draw : Binds K fd__law_draw ["_law_pool_here", "_law_many"] [] := F__law_draw.bindsN fun _ _ _ _ _ _ us hl => match us, hl with | [_, _], _ => rfl
  refine (fn_ok (k := 1) (N := N__law_bent) (b := B_k13__law_bent) Fd sc fun cdv A outer s H E hr hgd => ?_)
  have hu := hr.units
  have hu1 : (A.deeper (envOfC "_law_bent" (defScope (top 60)) s.heap.objs.size (He.ga K "_law_bent") cdv)).units + (64 + 1) < cLine := by have := hr.un; omega
  unfold B_k13__law_bent
  exact (s_cons (s_par (i := 2) (j := 3) rfl sc.nd rfl rfl (by decide) rfl rfl (a_cons (e_call (dd := []) (dvs := []) (ds := []) (G__law_draw.mono (by omega)) hr hgd rfl C.g__law_draw F__law_draw.kp b__law_draw .nil (fun _ _ _ => .nil) (takes_of rfl rfl rfl rfl) (a_cons (e_v 0) (a_cons e_int a_nil))) (a_cons (e_call (dd := []) (dvs := []) (ds := []) (G__law_draw.mono (by omega)) hr hgd rfl C.g__law_draw F__law_draw.kp b__law_draw .nil (fun _ _ _ => .nil) (takes_of rfl rfl rfl rfl) (a_cons (e_v 0) (a_cons (e_bin (or_add rfl) (e_callB (cr_len rfl) rfl C.f_len (by decide +kernel) (a_cons (e_v 1) a_nil)) e_int) a_nil))) a_nil)) rfl)
  (s_cons (s_set (i := 4) sc.nd rfl (by first | exact .inl rfl | exact .inr rfl) (e_ix rfl e_str (e_call (dd := []) (dvs := []) (ds := []) (G__law_draw.mono (by omega)) hr hgd rfl C.g__law_draw F__law_draw.kp b__law_draw .nil (fun _ _ _ => .nil) (takes_of rfl rfl rfl rfl) (a_cons (e_v 0) (a_cons e_int a_nil)))))
  (s_cons (s_if (t_cmp (or_eq rfl hu) (e_v 2) e_int) (s_one (s_ret (e_bin (or_add rfl) (e_bin (or_add rfl) (e_sl rfl (e_v 1) o_none (o_some (e_v 3))) (e_v 4)) (e_sl rfl (e_v 1) (o_some (e_v 3)) o_none)))) s_nil)
  (s_cons (s_if (t_cmp (or_eq rfl hu) (e_v 2) e_int) (s_one (s_ret (e_bin (or_add rfl) (e_sl rfl (e_v 1) o_none (o_some (e_v 3))) (e_sl rfl (e_v 1) (o_some (e_bin (or_add rfl) (e_v 3) e_int)) o_none)))) s_nil)
  (s_cons (s_if (t_cmp (or_eq rfl hu) (e_v 2) e_int) (s_one (s_ret (e_bin (or_add rfl) (e_bin (or_add rfl) (e_sl rfl (e_v 1) o_none (o_some (e_v 3))) (e_v 4)) (e_sl rfl (e_v 1) (o_some (e_bin (or_add rfl) (e_v 3) e_int)) o_none)))) s_nil)
  (s_cons (s_set (i := 5) sc.nd rfl (by first | exact .inl rfl | exact .inr rfl) (e_lstF (a_cons e_str (a_cons e_str (a_cons e_str (a_cons e_str (a_cons e_str (a_cons e_str (a_cons e_str (a_cons e_str (a_cons e_str (a_cons e_str (a_cons e_str (a_cons e_str (a_cons e_str (a_cons e_str a_nil))))))))))))))))
  (s_cons (s_set (i := 5) sc.nd rfl (by first | exact .inl rfl | exact .inr rfl) (e_bin (or_add rfl) (e_v 5) (e_lstF (a_cons e_str (a_cons e_str (a_cons e_str (a_cons e_str (a_cons e_str (a_cons e_str (a_cons e_str (a_cons e_str (a_cons e_str (a_cons e_str (a_cons e_str (a_cons e_str a_nil)))))))))))))))
  (s_one (s_ret (e_ix rfl (e_v 5) (e_call (dd := []) (dvs := []) (ds := []) (G__law_draw.mono (by omega)) hr hgd rfl C.g__law_draw F__law_draw.kp b__law_draw .nil (fun _ _ _ => .nil) (takes_of rfl rfl rfl rfl) (a_cons (e_v 0) (a_cons e_int a_nil)))))))))))))
theorem ok__law_form_text (C : Cn K mg) {fd : FuncData} (Fd : FunD K "_law_form_text" "_law_form_text" (defArgs (top 56)) (defBody (top 56)) (defScope (top 56)) [] [] (He.ga K "_law_form_text") fd) : FnG P w K mg base 1 (He.ga K "_law_form_text") fd ["_law_form"] (SPx K (He.ga K) k13__law_form_text) := by
  have sc := sc__law_form_text
  refine (fn_ok (k := 0) (N := N__law_form_text) (b := B_k13__law_form_text) Fd sc fun cdv A outer s H E hr hgd => ?_)
  have hu := hr.units
  have hu1 : (A.deeper (envOfC "_law_form_text" (defScope (top 56)) s.heap.objs.size (He.ga K "_law_form_text") cdv)).units + (64 + 1) < cLine := by have := hr.un; omega
  unfold B_k13__law_form_text
  exact (s_cons (s_asg (e_v 0) (g_tup (n := 2) rfl rfl (gs_name (i := 1) sc.nd rfl (by first | exact .inl rfl | exact .inr rfl) (gs_name (i := 2) sc.nd rfl (by first | exact .inl rfl | exact .inr rfl) gs_nil gsNil_ne) (gsVar_ne gsNil_ne))))
  (s_cons (s_if (t_cmp (or_eq rfl hu) (e_v 1) e_int) (s_one (s_ret (e_callTy cr_strS rfl C.f_str (by decide +kernel) (a_cons (e_v 2) a_nil)))) s_nil)
  (s_cons (s_set (i := 3) sc.nd rfl (by first | exact .inl rfl | exact .inr rfl) (e_ix rfl (e_lstF (a_cons e_str (a_cons e_str (a_cons e_str a_nil)))) (e_bin or_sub (e_v 1) e_int)))
  (s_cons (s_if (t_cmp (or_eq rfl hu) (e_v 2) e_int) (s_one (s_ret (e_v 3))) s_nil)
  (s_one (s_ret (e_bin (or_add rfl) (e_bin (or_add rfl) (e_v 3) (e_if (t_cmp or_gt (e_v 2) e_int) e_str e_str)) (e_callTy cr_strS rfl C.f_str (by decide +kernel) (a_cons (e_callB cr_abs rfl C.f_abs (by decide +kernel) (a_cons (e_v 2) a_nil)) a_nil)))))))))
theorem ok_Sampler___eq__ (C : Cn K mg) {fd : FuncData} (Fd : FunD K "__eq__" "Sampler.__eq__" (defArgs (inCls (top 49) 4)) (defBody (inCls (top 49) 4)) (defScope (inCls (top 49) 4)) [] [] (He.ma K (He.ga K "Sampler") "__eq__") fd) : FnG P w K mg base 1 (He.ma K (He.ga K "Sampler") "__eq__") fd ["self", "other"] (SPx K (He.ga K) p_Sampler___eq__) := by
  have sc := sc_Sampler___eq__
  refine fn_pureT (fn_ok (k := 0) (N := N_Sampler___eq__) (b := B_p_Sampler___eq__) Fd sc fun cdv A outer s H E hr hgd => ?_)
  have hu := hr.units
  have hu1 : (A.deeper (envOfC "Sampler.__eq__" (defScope (inCls (top 49) 4)) s.heap.objs.size (He.ma K (He.ga K "Sampler") "__eq__") cdv)).units + (64 + 1) < cLine := by have := hr.un; omega
  unfold B_p_Sampler___eq__
  exact (s_one (s_ret (e_and rfl (e_callB (cr_isiI rfl C.isa_Sampler C.ins_Sampler) rfl C.f_isinstance (by decide +kernel) (a_cons (e_v 1) (a_cons (e_glo rfl C.g_Sampler) a_nil))) (e_one (e_cmp (or_eq rfl hu) (e_get rfl C.has_source (e_v 0)) (e_get rfl C.has_source (e_v 1)))))))
theorem okg_followed (C : Cn K mg) {fd_followed : FuncData} (F_followed : FunD K "followed" "followed" (defArgs (top 42)) (defBody (top 42)) (defScope (top 42)) [] [] (He.ga K "followed") fd_followed) : ∀ n : Nat, FnG P w K mg base (0 + n) (He.ga K "followed") fd_followed ["statements", "sure", "maybe", "faults"] (SPx K (He.ga K) (p_followed n)) := by
  have b_followed : Binds K fd_followed ["statements", "sure", "maybe", "faults"] [] := F_followed.bindsN fun _ _ _ _ _ _ us hl => match us, hl with | [_, _, _, _], _ => rfl
  intro n
  induction n with
  | zero => exact fn_bad
  | succ n ih =>
    have G_followed := ih
    · have sc := sc_followed
      have Fd := F_followed
      show FnG P w K mg base (0 + n + 1) _ _ _ (SPx K (He.ga K) (runB (B_p_followed (p_followed n)) N_followed.length 4))
      refine (fn_ok (k := 0 + n) (N := N_followed) (b := B_p_followed (p_followed n)) Fd sc fun cdv A outer s H E hr hgd => ?_)
      have hu := hr.units
      have hu1 : (A.deeper (envOfC "followed" (defScope (top 42)) s.heap.objs.size (He.ga K "followed") cdv)).units + (64 + 1) < cLine := by have := hr.un; omega
      unfold B_p_followed
      exact (s_cons (s_asg (e_v 3) (g_tup (n := 2) rfl rfl (gs_name (i := 4) sc.nd rfl (by first | exact .inl rfl | exact .inr rfl) (gs_name (i := 5) sc.nd rfl (by first | exact .inl rfl | exact .inr rfl) gs_nil gsNil_ne) (gsVar_ne gsNil_ne))))
  (s_cons (s_for (passes_of rfl) rfl (w_any rfl (e_v 0)) (g_name (i := 6) sc.nd rfl (by first | exact .inl rfl | exact .inr rfl)) (s_one (s_if (t_cmp (or_eq rfl hu) (e_ix rfl (e_v 6) e_int) e_str) (s_cons (s_set (i := 7) sc.nd rfl (by first | exact .inl rfl | exact .inr rfl) (e_ix rfl (e_v 6) e_int))
  (s_cons (s_if (t_cmp (or_in rfl) (e_v 7) (e_v 2)) (s_one (s_expr (e_ml (f := opAppend) rfl PySem.F.slot_list_append PySem.F.type_list_append mr_append (e_v 5) (a_cons (e_ix rfl (e_v 6) e_int) a_nil)))) s_nil)
  (s_one (s_par (i := 1) (j := 2) rfl sc.nd rfl rfl (by decide) rfl rfl (a_cons (e_lstF (a_star rfl (e_v 1) (a_cons (e_v 7) a_nil))) (a_cons (e_lstF (a_star rfl (e_v 2) (a_cons (e_v 7) a_nil))) a_nil)) rfl)))) (s_one (s_if (t_cmp (or_eq rfl hu) (e_ix rfl (e_v 6) e_int) e_str) (s_cons (s_set (i := 8) sc.nd rfl (by first | exact .inl rfl | exact .inr rfl) (e_ix rfl (e_v 6) e_int))
  (s_cons (s_if (t_ws (w_and (t_cmp (or_in rfl) (e_ix rfl (e_v 8) e_int) (e_gtup rfl rfl C.g_NAMED C.t_NAMED (by decide))) (w_and1 (t_cmp (or_notin rfl) (e_ix rfl (e_v 8) e_int) (e_v 1))))) (s_one (s_expr (e_ml (f := opAppend) rfl PySem.F.slot_list_append PySem.F.type_list_append mr_append (e_v 4) (a_cons (e_ix rfl (e_v 6) e_int) a_nil)))) s_nil)
  (s_cons (s_set (i := 9) sc.nd rfl (by first | exact .inl rfl | exact .inr rfl) (e_call (dd := []) (dvs := []) (ds := []) (G_followed.mono (by omega)) hr hgd rfl C.g_followed F_followed.kp b_followed .nil (fun _ _ _ => .nil) (takes_of rfl rfl rfl rfl) (a_cons (e_ix rfl (e_v 6) e_int) (a_cons (e_v 1) (a_cons (e_v 2) (a_cons (e_v 3) a_nil))))))
  (s_cons (s_set (i := 10) sc.nd rfl (by first | exact .inl rfl | exact .inr rfl) (e_call (dd := []) (dvs := []) (ds := []) (G_followed.mono (by omega)) hr hgd rfl C.g_followed F_followed.kp b_followed .nil (fun _ _ _ => .nil) (takes_of rfl rfl rfl rfl) (a_cons (e_ix rfl (e_v 6) e_int) (a_cons (e_v 1) (a_cons (e_v 2) (a_cons (e_v 3) a_nil))))))
  (s_cons (s_setLcF (i := 1) (patOk_one (i := 7)) rfl rfl sc.nd rfl rfl (sw_true (by rfl) (by rfl) (by rfl) (by rfl)) (w_any rfl (e_ix rfl (e_v 9) e_int)) (blkOk_by (own := [("name", 7)]) (N := N_followed) (sc := (defScope (top 42))) (by decide +kernel)) (fun _ _ _ _ _ => (pg_name (i := 7) sc.nd rfl (by first | exact .inl rfl | exact .inr rfl))) (fun _ _ _ _ _ => (ts_one (t_cmp (or_in rfl) (e_v 7) (e_ix rfl (e_v 10) e_int)))) (fun _ _ _ _ _ => (e_v 7)))
  (s_one (s_set (i := 2) sc.nd rfl (by first | exact .inl rfl | exact .inr rfl) (e_sortSet rfl rfl rfl C.f_sorted rfl C.f_set (a_cons (e_bin (or_add rfl) (e_ix rfl (e_v 9) e_int) (e_ix rfl (e_v 10) e_int)) a_nil))))))))) s_nil)))))
  (s_one (s_ret (e_tup (a_cons (e_v 1) (a_cons (e_v 2) a_nil)))))))
theorem ok_followed (C : Cn K mg) {fd_followed : FuncData} (F_followed : FunD K "followed" "followed" (defArgs (top 42)) (defBody (top 42)) (defScope (top 42)) [] [] (He.ga K "followed") fd_followed) (n : Nat) : FnG P w K mg base (0 + n) (He.ga K "followed") fd_followed ["statements", "sure", "maybe", "faults"] (SPx K (He.ga K) (p_followed n)) := by
  exact (okg_followed C F_followed n)
theorem okg_flat (C : Cn K mg) {fd_flat : FuncData} (F_flat : FunD K "flat" "flat" (defArgs (top 40)) (defBody (top 40)) (defScope (top 40)) [] [] (He.ga K "flat") fd_flat) : ∀ n : Nat, FnG P w K mg base (0 + n) (He.ga K "flat") fd_flat ["statements"] (SPx K (He.ga K) (p_flat n)) := by
  have b_flat : Binds K fd_flat ["statements"] [] := F_flat.bindsN fun _ _ _ _ _ _ us hl => match us, hl with | [_], _ => rfl
  intro n
  induction n with
  | zero => exact fn_bad
  | succ n ih =>
    have G_flat := ih
    · have sc := sc_flat
      have Fd := F_flat
      show FnG P w K mg base (0 + n + 1) _ _ _ (SPx K (He.ga K) (pureA (runB (B_p_flat (p_flat n)) N_flat.length 1)))
      refine fn_pureA (fn_ok (k := 0 + n) (N := N_flat) (b := B_p_flat (p_flat n)) Fd sc fun cdv A outer s H E hr hgd => ?_)
      have hu := hr.units
      have hu1 : (A.deeper (envOfC "flat" (defScope (top 40)) s.heap.objs.size (He.ga K "flat") cdv)).units + (64 + 1) < cLine := by have := hr.un; omega
      unfold B_p_flat
      exact (s_cons (s_set (i := 1) sc.nd rfl (by first | exact .inl rfl | exact .inr rfl) (e_lst a_nil))
  (s_cons (s_for (passes_of rfl) rfl (w_any rfl (e_v 0)) (g_name (i := 2) sc.nd rfl (by first | exact .inl rfl | exact .inr rfl)) (s_cons (s_expr (e_ml (f := opAppend) rfl PySem.F.slot_list_append PySem.F.type_list_append mr_append (e_v 1) (a_cons (e_v 2) a_nil)))
  (s_one (s_if (t_cmp (or_eq rfl hu) (e_ix rfl (e_v 2) e_int) e_str) (s_cons (s_expr (e_ml (f := opExtend2) rfl PySem.F.slot_list_extend PySem.F.type_list_extend (mr_extend2 rfl) (e_v 1) (a_cons (e_call (dd := []) (dvs := []) (ds := []) (G_flat.mono (by omega)) hr hgd rfl C.g_flat F_flat.kp b_flat .nil (fun _ _ _ => .nil) (takes_of rfl rfl rfl rfl) (a_cons (e_ix rfl (e_v 2) e_int) a_nil)) a_nil)))
  (s_one (s_expr (e_ml (f := opExtend2) rfl PySem.F.slot_list_extend PySem.F.type_list_extend (mr_extend2 rfl) (e_v 1) (a_cons (e_call (dd := []) (dvs := []) (ds := []) (G_flat.mono (by omega)) hr hgd rfl C.g_flat F_flat.kp b_flat .nil (fun _ _ _ => .nil) (takes_of rfl rfl rfl rfl) (a_cons (e_ix rfl (e_v 2) e_int) a_nil)) a_nil))))) s_nil))))
  (s_one (s_ret (e_v 1)))))
theorem ok_flat (C : Cn K mg) {fd_flat : FuncData} (F_flat : FunD K "flat" "flat" (defArgs (top 40)) (defBody (top 40)) (defScope (top 40)) [] [] (He.ga K "flat") fd_flat) (n : Nat) : FnG P w K mg base (0 + n) (He.ga K "flat") fd_flat ["statements"] (SPx K (He.ga K) (p_flat n)) := by
  exact (okg_flat C F_flat n)
theorem ok_lines_beyond (C : Cn K mg) {fd : FuncData} (Fd : FunD K "lines_beyond" "lines_beyond" (defArgs (top 41)) (defBody (top 41)) (defScope (top 41)) [] [] (He.ga K "lines_beyond") fd) : FnG P w K mg base 13 (He.ga K "lines_beyond") fd ["statements", "places"] (SPx K (He.ga K) p_lines_beyond) := by
  have sc := sc_lines_beyond
  obtain ⟨fd_flat, F_flat⟩ := C.c.says.def_ 7 rfl
  have G_flat := ok_flat (P := P) (w := w) (base := base) C F_flat 12
  have b_flat : Binds K fd_flat ["statements"] [] := F_flat.bindsN fun _ _ _ _ _ _ us hl => match us, hl with | [_], _ => rfl
  refine fn_pureA (fn_ok (k := 12) (N := N_lines_beyond) (b := B_p_lines_beyond) Fd sc fun cdv A outer s H E hr hgd => ?_)
  have hu := hr.units
  have hu1 : (A.deeper (envOfC "lines_beyond" (defScope (top 41)) s.heap.objs.size (He.ga K "lines_beyond") cdv)).units + (64 + 1) < cLine := by have := hr.un; omega
  unfold B_p_lines_beyond
  exact (s_cons (s_set (i := 2) sc.nd rfl (by first | exact .inl rfl | exact .inr rfl) (e_lst a_nil))
  (s_cons (s_for (passes_of rfl) rfl (w_any rfl (e_call (dd := []) (dvs := []) (ds := []) (G_flat.mono (by omega)) hr hgd rfl C.g_flat F_flat.kp b_flat .nil (fun _ _ _ => .nil) (takes_of rfl rfl rfl rfl) (a_cons (e_v 0) a_nil))) (g_name (i := 3) sc.nd rfl (by first | exact .inl rfl | exact .inr rfl)) (s_one (s_if (t_ws (w_and (t_cmp (or_notin rfl) (e_ix rfl (e_v 3) e_int) (e_tup (a_cons e_str (a_cons e_str a_nil)))) (w_and1 (t_cmp or_ge (e_callB (cr_maxG rfl rfl hu) rfl C.f_max (by decide +kernel) (a_cons (e_sl rfl (e_v 3) (o_some e_int) o_none) a_nil)) (e_v 1))))) (s_one (s_expr (e_ml (f := opAppend) rfl PySem.F.slot_list_append PySem.F.type_list_append mr_append (e_v 2) (a_cons (e_ix rfl (e_v 3) e_int) a_nil)))) s_nil)))
  (s_one (s_ret (e_v 2)))))
theorem ok_check_program (C : Cn K mg) {fd : FuncData} (Fd : FunD K "check_program" "check_program" (defArgs (top 45)) (defBody (top 45)) (defScope (top 45)) [] [] (He.ga K "check_program") fd) : FnG P w K mg base 14 (He.ga K "check_program") fd ["statements", "places", "low_lines"] (SPx K (He.ga K) p_check_program) := by
  have sc := sc_check_program
  obtain ⟨fd_followed, F_followed⟩ := C.c.says.def_ 6 rfl
  have G_followed := ok_followed (P := P) (w := w) (base := base) C F_followed 12
  have b_followed : Binds K fd_followed ["statements", "sure", "maybe", "faults"] [] := F_followed.bindsN fun _ _ _ _ _ _ us hl => match us, hl with | [_, _, _, _], _ => rfl
  obtain ⟨fd_lines_beyond, F_lines_beyond⟩ := C.c.says.def_ 8 rfl
  have G_lines_beyond := ok_lines_beyond (P := P) (w := w) (base := base) C F_lines_beyond
  have b_lines_beyond : Binds K fd_lines_beyond ["statements", "places"] [] := F_lines_beyond.bindsN fun _ _ _ _ _ _ us hl => match us, hl with | [_, _], _ => rfl
  refine fn_pureA (fn_ok (k := 13) (N := N_check_program) (b := B_p_check_program) Fd sc fun cdv A outer s H E hr hgd => ?_)
  have hu := hr.units
  have hu1 : (A.deeper (envOfC "check_program" (defScope (top 45)) s.heap.objs.size (He.ga K "check_program") cdv)).units + (64 + 1) < cLine := by have := hr.un; omega
  unfold B_p_check_program
  exact (s_cons (s_set (i := 3) sc.nd rfl (by first | exact .inl rfl | exact .inr rfl) (e_call (dd := []) (dvs := []) (ds := []) (G_lines_beyond.mono (by omega)) hr hgd rfl C.g_lines_beyond F_lines_beyond.kp b_lines_beyond .nil (fun _ _ _ => .nil) (takes_of rfl rfl rfl rfl) (a_cons (e_v 0) (a_cons (e_v 1) a_nil))))
  (s_cons (s_if (t_tru rfl (e_v 3)) (s_one (s_raise rfl (takes_of rfl rfl rfl rfl) (XI_.of (C.xp_UnknownPlace (P := P) (w := w) (base := base))) (raisesX (C.xp_UnknownPlace (P := P) (w := w) (base := base)).cls) pm_pos (hr.mono (by omega)) rfl C.g_UnknownPlace (a_cons (e_ix rfl (e_v 3) e_int) a_nil))) s_nil)
  (s_cons (s_par (i := 4) (j := 5) rfl sc.nd rfl rfl (by decide) rfl rfl (a_cons (e_lst a_nil) (a_cons (e_lst a_nil) a_nil)) rfl)
  (s_cons (s_expr (e_call (dd := []) (dvs := []) (ds := []) (G_followed.mono (by omega)) hr hgd rfl C.g_followed F_followed.kp b_followed .nil (fun _ _ _ => .nil) (takes_of rfl rfl rfl rfl) (a_cons (e_v 0) (a_cons (e_lstF a_nil) (a_cons (e_lstF a_nil) (a_cons (e_tup (a_cons (e_v 4) (a_cons (e_v 5) a_nil))) a_nil))))))
  (s_cons (s_if (t_tru rfl (e_v 4)) (s_one (s_raise rfl (takes_of rfl rfl rfl rfl) (XI_.of (C.xp_NotDrawn (P := P) (w := w) (base := base))) (raisesX (C.xp_NotDrawn (P := P) (w := w) (base := base)).cls) pm_pos (hr.mono (by omega)) rfl C.g_NotDrawn (a_cons (e_ix rfl (e_v 4) e_int) a_nil))) s_nil)
  (s_cons (s_if (t_tru rfl (e_v 5)) (s_one (s_raise rfl (takes_of rfl rfl rfl rfl) (XI_.of (C.xp_DrawnTwice (P := P) (w := w) (base := base))) (raisesX (C.xp_DrawnTwice (P := P) (w := w) (base := base)).cls) pm_pos (hr.mono (by omega)) rfl C.g_DrawnTwice (a_cons (e_ix rfl (e_v 5) e_int) a_nil))) s_nil)
  (s_one (s_if (t_tru rfl (e_v 2)) (s_one (s_raise rfl (takes_of rfl rfl rfl rfl) (XI_.of (C.xp_BelowOne (P := P) (w := w) (base := base))) (raisesX (C.xp_BelowOne (P := P) (w := w) (base := base)).cls) pm_pos (hr.mono (by omega)) rfl C.g_BelowOne (a_cons (e_ix rfl (e_v 2) e_int) a_nil))) s_nil))))))))
theorem okg_nesting (C : Cn K mg) {fd_nesting : FuncData} (F_nesting : FunD K "nesting" "nesting" (defArgs (top 43)) (defBody (top 43)) (defScope (top 43)) [] [] (He.ga K "nesting") fd_nesting) : ∀ n : Nat, FnG P w K mg base (0 + n) (He.ga K "nesting") fd_nesting ["statements"] (SPx K (He.ga K) (p_nesting n)) := by
  have b_nesting : Binds K fd_nesting ["statements"] [] := F_nesting.bindsN fun _ _ _ _ _ _ us hl => match us, hl with | [_], _ => rfl
  intro n
  induction n with
  | zero => exact fn_bad
  | succ n ih =>
    have G_nesting := ih
    · have sc := sc_nesting
      have Fd := F_nesting
      show FnG P w K mg base (0 + n + 1) _ _ _ (SPx K (He.ga K) (runB (B_p_nesting (p_nesting n)) N_nesting.length 1))
      refine (fn_ok (k := 0 + n) (N := N_nesting) (b := B_p_nesting (p_nesting n)) Fd sc fun cdv A outer s H E hr hgd => ?_)
      have hu := hr.units
      have hu1 : (A.deeper (envOfC "nesting" (defScope (top 43)) s.heap.objs.size (He.ga K "nesting") cdv)).units + (64 + 1) < cLine := by have := hr.un; omega
      unfold B_p_nesting
      exact (s_cons (s_setLcF (i := 1) (patOk_one (i := 2)) rfl rfl sc.nd rfl rfl (sw_true (by rfl) (by rfl) (by rfl) (by rfl)) (w_any rfl (e_v 0)) (blkOk_by (own := [("statement", 2)]) (N := N_nesting) (sc := (defScope (top 43))) (by decide +kernel)) (fun _ _ _ _ _ => (pg_name (i := 2) sc.nd rfl (by first | exact .inl rfl | exact .inr rfl))) (fun _ _ _ _ _ => (ts_one (t_cmp (or_eq rfl hu) (e_ix rfl (e_v 2) e_int) e_str))) (fun _ _ _ _ _ => (e_callB (cr_max rfl) rfl C.f_max (by decide +kernel) (a_cons (e_call (dd := []) (dvs := []) (ds := []) (G_nesting.mono (by omega)) hr hgd rfl C.g_nesting F_nesting.kp b_nesting .nil (fun _ _ _ => .nil) takes0 (a_cons (e_ix rfl (e_v 2) e_int) a_nil)) (a_cons (e_call (dd := []) (dvs := []) (ds := []) (G_nesting.mono (by omega)) hr hgd rfl C.g_nesting F_nesting.kp b_nesting .nil (fun _ _ _ => .nil) takes0 (a_cons (e_ix rfl (e_v 2) e_int) a_nil)) a_nil)))))
  (s_one (s_ret (e_if (t_tru rfl (e_v 1)) (e_bin (or_add rfl) e_int (e_callB (cr_maxG rfl rfl hu) rfl C.f_max (by decide +kernel) (a_cons (e_v 1) a_nil))) e_int))))
theorem ok_nesting (C : Cn K mg) {fd_nesting : FuncData} (F_nesting : FunD K "nesting" "nesting" (defArgs (top 43)) (defBody (top 43)) (defScope (top 43)) [] [] (He.ga K "nesting") fd_nesting) (n : Nat) : FnG P w K mg base (0 + n) (He.ga K "nesting") fd_nesting ["statements"] (SPx K (He.ga K) (p_nesting n)) := by
  exact (okg_nesting C F_nesting n)
theorem ok_check_sizes (C : Cn K mg) {fd : FuncData} (Fd : FunD K "check_sizes" "check_sizes" (defArgs (top 46)) (defBody (top 46)) (defScope (top 46)) [] [] (He.ga K "check_sizes") fd) : FnG P w K mg base 13 (He.ga K "check_sizes") fd ["statements"] (SPx K (He.ga K) p_check_sizes) := by
  have sc := sc_check_sizes
  obtain ⟨fd_flat, F_flat⟩ := C.c.says.def_ 7 rfl
  have G_flat := ok_flat (P := P) (w := w) (base := base) C F_flat 12
  have b_flat : Binds K fd_flat ["statements"] [] := F_flat.bindsN fun _ _ _ _ _ _ us hl => match us, hl with | [_], _ => rfl
  obtain ⟨fd_nesting, F_nesting⟩ := C.c.says.def_ 10 rfl
  have G_nesting := ok_nesting (P := P) (w := w) (base := base) C F_nesting 12
  have b_nesting : Binds K fd_nesting ["statements"] [] := F_nesting.bindsN fun _ _ _ _ _ _ us hl => match us, hl with | [_], _ => rfl
  refine (fn_ok (k := 12) (N := N_check_sizes) (b := B_p_check_sizes) Fd sc fun cdv A outer s H E hr hgd => ?_)
  have hu := hr.units
  have hu1 : (A.deeper (envOfC "check_sizes" (defScope (top 46)) s.heap.objs.size (He.ga K "check_sizes") cdv)).units + (64 + 1) < cLine := by have := hr.un; omega
  unfold B_p_check_sizes
  exact (s_cons (s_set (i := 1) sc.nd rfl (by first | exact .inl rfl | exact .inr rfl) (e_call (dd := []) (dvs := []) (ds := []) (G_flat.mono (by omega)) hr hgd rfl C.g_flat F_flat.kp b_flat .nil (fun _ _ _ => .nil) (takes_of rfl rfl rfl rfl) (a_cons (e_v 0) a_nil)))
  (s_cons (s_if (t_cmp or_gt (e_callB (cr_len rfl) rfl C.f_len (by decide +kernel) (a_cons (e_v 1) a_nil)) (e_gint rfl C.n_MOST_STATEMENTS)) (s_one (s_raise rfl (takes_of rfl rfl rfl rfl) (XI_.of (C.xp_TooMuch (P := P) (w := w) (base := base))) (raisesX (C.xp_TooMuch (P := P) (w := w) (base := base)).cls) pm_pos (hr.mono (by omega)) rfl C.g_TooMuch (a_cons e_str a_nil))) s_nil)
  (s_cons (s_if (t_cmp or_gt (e_callB (cr_len rfl) rfl C.f_len (by decide +kernel) (a_cons (e_lcF (patOk_one (i := 2)) rfl rfl sc.nd (w_any rfl (e_v 1)) (blkOk_by (own := [("row", 2)]) (N := N_check_sizes) (sc := (defScope (top 46))) (by decide +kernel)) (fun _ _ _ _ _ => (pg_name (i := 2) sc.nd rfl (by first | exact .inl rfl | exact .inr rfl))) (fun _ _ _ _ _ => (ts_one (t_cmp (or_eq rfl hu) (e_ix rfl (e_v 2) e_int) e_str))) (fun _ _ _ _ _ => (e_v 2))) a_nil)) (e_gint rfl C.n_MOST_DRAWS)) (s_one (s_raise rfl (takes_of rfl rfl rfl rfl) (XI_.of (C.xp_TooMuch (P := P) (w := w) (base := base))) (raisesX (C.xp_TooMuch (P := P) (w := w) (base := base)).cls) pm_pos (hr.mono (by omega)) rfl C.g_TooMuch (a_cons e_str a_nil))) s_nil)
  (s_one (s_if (t_cmp or_gt (e_call (dd := []) (dvs := []) (ds := []) (G_nesting.mono (by omega)) hr hgd rfl C.g_nesting F_nesting.kp b_nesting .nil (fun _ _ _ => .nil) (takes_of rfl rfl rfl rfl) (a_cons (e_v 0) a_nil)) (e_gint rfl C.n_MOST_NESTED)) (s_one (s_raise rfl (takes_of rfl rfl rfl rfl) (XI_.of (C.xp_TooMuch (P := P) (w := w) (base := base))) (raisesX (C.xp_TooMuch (P := P) (w := w) (base := base)).cls) pm_pos (hr.mono (by omega)) rfl C.g_TooMuch (a_cons e_str a_nil))) s_nil)))))
theorem okg_most_drawn (C : Cn K mg) {fd_most_drawn : FuncData} (F_most_drawn : FunD K "most_drawn" "most_drawn" (defArgs (top 44)) (defBody (top 44)) (defScope (top 44)) [] [] (He.ga K "most_drawn") fd_most_drawn) : ∀ n : Nat, FnG P w K mg base (0 + n) (He.ga K "most_drawn") fd_most_drawn ["statements"] (SPx K (He.ga K) (p_most_drawn n)) := by
  have b_most_drawn : Binds K fd_most_drawn ["statements"] [] := F_most_drawn.bindsN fun _ _ _ _ _ _ us hl => match us, hl with | [_], _ => rfl
  intro n
  induction n with
  | zero => exact fn_bad
  | succ n ih =>
    have G_most_drawn := ih
    · have sc := sc_most_drawn
      have Fd := F_most_drawn
      show FnG P w K mg base (0 + n + 1) _ _ _ (SPx K (He.ga K) (runB (B_p_most_drawn (p_most_drawn n)) N_most_drawn.length 1))
      refine (fn_ok (k := 0 + n) (N := N_most_drawn) (b := B_p_most_drawn (p_most_drawn n)) Fd sc fun cdv A outer s H E hr hgd => ?_)
      have hu := hr.units
      have hu1 : (A.deeper (envOfC "most_drawn" (defScope (top 44)) s.heap.objs.size (He.ga K "most_drawn") cdv)).units + (64 + 1) < cLine := by have := hr.un; omega
      unfold B_p_most_drawn
      exact (s_cons (s_set (i := 1) sc.nd rfl (by first | exact .inl rfl | exact .inr rfl) e_int)
  (s_cons (s_for (passes_of rfl) rfl (w_any rfl (e_v 0)) (g_name (i := 2) sc.nd rfl (by first | exact .inl rfl | exact .inr rfl)) (s_one (s_if (t_cmp (or_eq rfl hu) (e_ix rfl (e_v 2) e_int) e_str) (s_one (s_set (i := 1) sc.nd rfl (by first | exact .inl rfl | exact .inr rfl) (e_bin (or_add rfl) (e_v 1) e_int))) (s_one (s_if (t_cmp (or_eq rfl hu) (e_ix rfl (e_v 2) e_int) e_str) (s_one (s_set (i := 1) sc.nd rfl (by first | exact .inl rfl | exact .inr rfl) (e_bin (or_add rfl) (e_v 1) (e_callB (cr_max rfl) rfl C.f_max (by decide +kernel) (a_cons (e_call (dd := []) (dvs := []) (ds := []) (G_most_drawn.mono (by omega)) hr hgd rfl C.g_most_drawn F_most_drawn.kp b_most_drawn .nil (fun _ _ _ => .nil) (takes_of rfl rfl rfl rfl) (a_cons (e_ix rfl (e_v 2) e_int) a_nil)) (a_cons (e_call (dd := []) (dvs := []) (ds := []) (G_most_drawn.mono (by omega)) hr hgd rfl C.g_most_drawn F_most_drawn.kp b_most_drawn .nil (fun _ _ _ => .nil) (takes_of rfl rfl rfl rfl) (a_cons (e_ix rfl (e_v 2) e_int) a_nil)) a_nil)))))) s_nil)))))
  (s_one (s_ret (e_v 1)))))
theorem ok_most_drawn (C : Cn K mg) {fd_most_drawn : FuncData} (F_most_drawn : FunD K "most_drawn" "most_drawn" (defArgs (top 44)) (defBody (top 44)) (defScope (top 44)) [] [] (He.ga K "most_drawn") fd_most_drawn) (n : Nat) : FnG P w K mg base (0 + n) (He.ga K "most_drawn") fd_most_drawn ["statements"] (SPx K (He.ga K) (p_most_drawn n)) := by
  exact (okg_most_drawn C F_most_drawn n)
theorem ok_check_way (C : Cn K mg) {fd : FuncData} (Fd : FunD K "check_way" "check_way" (defArgs (top 47)) (defBody (top 47)) (defScope (top 47)) [] [] (He.ga K "check_way") fd) : FnG P w K mg base 13 (He.ga K "check_way") fd ["statements"] (SPx K (He.ga K) p_check_way) := by
  have sc := sc_check_way
  obtain ⟨fd_most_drawn, F_most_drawn⟩ := C.c.says.def_ 12 rfl
  have G_most_drawn := ok_most_drawn (P := P) (w := w) (base := base) C F_most_drawn 12
  have b_most_drawn : Binds K fd_most_drawn ["statements"] [] := F_most_drawn.bindsN fun _ _ _ _ _ _ us hl => match us, hl with | [_], _ => rfl
  refine (fn_ok (k := 12) (N := N_check_way) (b := B_p_check_way) Fd sc fun cdv A outer s H E hr hgd => ?_)
  have hu := hr.units
  have hu1 : (A.deeper (envOfC "check_way" (defScope (top 47)) s.heap.objs.size (He.ga K "check_way") cdv)).units + (64 + 1) < cLine := by have := hr.un; omega
  unfold B_p_check_way
  exact (s_one (s_if (t_cmp or_gt (e_call (dd := []) (dvs := []) (ds := []) (G_most_drawn.mono (by omega)) hr hgd rfl C.g_most_drawn F_most_drawn.kp b_most_drawn .nil (fun _ _ _ => .nil) (takes_of rfl rfl rfl rfl) (a_cons (e_v 0) a_nil)) (e_gint rfl C.n_MOST_ON_A_WAY)) (s_one (s_raise rfl (takes_of rfl rfl rfl rfl) (XI_.of (C.xp_TooMuch (P := P) (w := w) (base := base))) (raisesX (C.xp_TooMuch (P := P) (w := w) (base := base)).cls) pm_pos (hr.mono (by omega)) rfl C.g_TooMuch (a_cons e_str a_nil))) s_nil))
theorem ok_number_in (C : Cn K mg) {fd : FuncData} (Fd : FunD K "number_in" "number_in" (defArgs (top 27)) (defBody (top 27)) (defScope (top 27)) [] [] (He.ga K "number_in") fd) : FnG P w K mg base 1 (He.ga K "number_in") fd ["text", "least", "most"] (SPx K (He.ga K) p_number_in) := by
  have sc := sc_number_in
  refine (fn_ok (k := 0) (N := N_number_in) (b := B_p_number_in) Fd sc fun cdv A outer s H E hr hgd => ?_)
  have hu := hr.units
  have hu1 : (A.deeper (envOfC "number_in" (defScope (top 27)) s.heap.objs.size (He.ga K "number_in") cdv)).units + (64 + 1) < cLine := by have := hr.un; omega
  unfold B_p_number_in
  exact (s_cons (s_for (passes_of rfl) rfl (w_rng2 rfl C.f_range (a_cons (e_v 1) (a_cons (e_bin (or_add rfl) (e_v 2) e_int) a_nil))) (g_name (i := 3) sc.nd rfl (by first | exact .inl rfl | exact .inr rfl)) (s_one (s_if (t_cmp (or_eq rfl hu) (e_joined1 (e_fmt (e_v 3))) (e_v 0)) (s_one (s_ret (e_v 3))) s_nil)))
  (s_one (s_ret e_non)))
theorem ok_form_in (C : Cn K mg) {fd : FuncData} (Fd : FunD K "form_in" "form_in" (defArgs (top 28)) (defBody (top 28)) (defScope (top 28)) [] [] (He.ga K "form_in") fd) : FnG P w K mg base 2 (He.ga K "form_in") fd ["text"] (SPx K (He.ga K) p_form_in) := by
  have sc := sc_form_in
  obtain ⟨fd_number_in, F_number_in⟩ := C.c.says.def_ 14 rfl
  have G_number_in := ok_number_in (P := P) (w := w) (base := base) C F_number_in
  have b_number_in : Binds K fd_number_in ["text", "least", "most"] [] := F_number_in.bindsN fun _ _ _ _ _ _ us hl => match us, hl with | [_, _, _], _ => rfl
  refine (fn_ok (k := 1) (N := N_form_in) (b := B_p_form_in) Fd sc fun cdv A outer s H E hr hgd => ?_)
  have hu := hr.units
  have hu1 : (A.deeper (envOfC "form_in" (defScope (top 28)) s.heap.objs.size (He.ga K "form_in") cdv)).units + (64 + 1) < cLine := by have := hr.un; omega
  unfold B_p_form_in
  exact (s_cons (s_for (passes_of rfl) rfl (w_enum rfl rfl C.f_enumerate (a_cons (e_gtup rfl rfl C.g_HEADS C.t_HEADS (by decide)) a_nil)) (g_tup (n := 2) rfl rfl (gs_name (i := 1) sc.nd rfl (by first | exact .inl rfl | exact .inr rfl) (gs_name (i := 2) sc.nd rfl (by first | exact .inl rfl | exact .inr rfl) gs_nil gsNil_ne) (gsVar_ne gsNil_ne))) (s_cons (s_if (t_cmp (or_eq rfl hu) (e_v 0) (e_v 2)) (s_one (s_ret (e_tup (a_cons (e_bin (or_add rfl) (e_v 1) e_int) (a_cons e_int a_nil))))) s_nil)
  (s_one (s_if (t_ws (w_or (t_tru rfl (e_m1 PySem.F.slot_str_startswith PySem.F.type_str_startswith mr_starts (e_v 0) (e_bin (or_add rfl) (e_v 2) e_str))) (w_or1 (t_tru rfl (e_m1 PySem.F.slot_str_startswith PySem.F.type_str_startswith mr_starts (e_v 0) (e_bin (or_add rfl) (e_v 2) e_str)))))) (s_cons (s_set (i := 3) sc.nd rfl (by first | exact .inl rfl | exact .inr rfl) (e_call (dd := []) (dvs := []) (ds := []) (G_number_in.mono (by omega)) hr hgd rfl C.g_number_in F_number_in.kp b_number_in .nil (fun _ _ _ => .nil) (takes_of rfl rfl rfl rfl) (a_cons (e_sl rfl (e_v 0) (o_some (e_bin (or_add rfl) (e_callB (cr_len rfl) rfl C.f_len (by decide +kernel) (a_cons (e_v 2) a_nil)) e_int)) o_none) (a_cons e_int (a_cons (e_gint rfl C.n_MOST_NUMBER) a_nil)))))
  (s_cons (s_if (t_cmp or_is (e_v 3) e_non) (s_one (s_ret e_non)) s_nil)
  (s_one (s_ret (e_tup (a_cons (e_bin (or_add rfl) (e_v 1) e_int) (a_cons (e_if (t_cmp (or_eq rfl hu) (e_ix rfl (e_v 0) (e_bin (or_add rfl) (e_callB (cr_len rfl) rfl C.f_len (by decide +kernel) (a_cons (e_v 2) a_nil)) e_int)) e_str) (e_v 3) (e_bin or_sub e_int (e_v 3))) a_nil))))))) s_nil))))
  (s_cons (s_set (i := 3) sc.nd rfl (by first | exact .inl rfl | exact .inr rfl) (e_call (dd := []) (dvs := []) (ds := []) (G_number_in.mono (by omega)) hr hgd rfl C.g_number_in F_number_in.kp b_number_in .nil (fun _ _ _ => .nil) (takes_of rfl rfl rfl rfl) (a_cons (e_v 0) (a_cons (e_bin or_sub e_int (e_gint rfl C.n_MOST_NUMBER)) (a_cons (e_gint rfl C.n_MOST_NUMBER) a_nil)))))
  (s_one (s_ret (e_if (t_cmp or_is (e_v 3) e_non) e_non (e_tup (a_cons e_int (a_cons (e_v 3) a_nil))))))))
theorem ok_is_name (C : Cn K mg) {fd : FuncData} (Fd : FunD K "is_name" "is_name" (defArgs (top 29)) (defBody (top 29)) (defScope (top 29)) [] [] (He.ga K "is_name") fd) : FnG P w K mg base 1 (He.ga K "is_name") fd ["text"] (SPx K (He.ga K) p_is_name) := by
  have sc := sc_is_name
  refine (fn_ok (k := 0) (N := N_is_name) (b := B_p_is_name) Fd sc fun cdv A outer s H E hr hgd => ?_)
  have hu := hr.units
  have hu1 : (A.deeper (envOfC "is_name" (defScope (top 29)) s.heap.objs.size (He.ga K "is_name") cdv)).units + (64 + 1) < cLine := by have := hr.un; omega
  unfold B_p_is_name
  exact (s_one (s_ret (e_and rfl (e_chain or_le or_le e_int (e_callB (cr_len rfl) rfl C.f_len (by decide +kernel) (a_cons (e_v 0) a_nil)) e_int) (e_and rfl (e_callB (cr_allL rfl rfl) rfl C.f_all (by decide +kernel) (a_cons (e_lcF (patOk_one (i := 1)) rfl rfl sc.nd (w_any rfl (e_v 0)) (blkOk_by (own := [("sign", 1)]) (N := N_is_name) (sc := (defScope (top 29))) (by decide +kernel)) (fun _ _ _ _ _ => (pg_name (i := 1) sc.nd rfl (by first | exact .inl rfl | exact .inr rfl))) (fun _ _ _ _ _ => ts_nil) (fun _ _ _ _ _ => (e_cmp (or_in rfl) (e_v 1) (e_gstr rfl C.s_LETTERS)))) a_nil)) (e_one (e_cmp (or_notin rfl) (e_v 0) (e_gtup rfl rfl C.g_BARRED C.t_BARRED (by decide))))))))
theorem ok_draw_in (C : Cn K mg) {fd : FuncData} (Fd : FunD K "draw_in" "draw_in" (defArgs (top 30)) (defBody (top 30)) (defScope (top 30)) [] [] (He.ga K "draw_in") fd) : FnG P w K mg base 3 (He.ga K "draw_in") fd ["text", "line", "read_form"] (SPx K (He.ga K) p_draw_in) := by
  have sc := sc_draw_in
  obtain ⟨fd_form_in, F_form_in⟩ := C.c.says.def_ 15 rfl
  have G_form_in := ok_form_in (P := P) (w := w) (base := base) C F_form_in
  have b_form_in : Binds K fd_form_in ["text"] [] := F_form_in.bindsN fun _ _ _ _ _ _ us hl => match us, hl with | [_], _ => rfl
  obtain ⟨fd_is_name, F_is_name⟩ := C.c.says.def_ 16 rfl
  have G_is_name := ok_is_name (P := P) (w := w) (base := base) C F_is_name
  have b_is_name : Binds K fd_is_name ["text"] [] := F_is_name.bindsN fun _ _ _ _ _ _ us hl => match us, hl with | [_], _ => rfl
  refine (fn_ok (k := 2) (N := N_draw_in) (b := B_p_draw_in) Fd sc fun cdv A outer s H E hr hgd => ?_)
  have hu := hr.units
  have hu1 : (A.deeper (envOfC "draw_in" (defScope (top 30)) s.heap.objs.size (He.ga K "draw_in") cdv)).units + (64 + 1) < cLine := by have := hr.un; omega
  unfold B_p_draw_in
  exact (s_cons (s_asg (e_m1 PySem.F.slot_str_partition PySem.F.type_str_partition mr_part (e_sl rfl (e_v 0) (o_some e_int) o_none) e_str) (g_tup (n := 3) rfl rfl (gs_name (i := 3) sc.nd rfl (by first | exact .inl rfl | exact .inr rfl) (gs_name (i := 4) sc.nd rfl (by first | exact .inl rfl | exact .inr rfl) (gs_name (i := 5) sc.nd rfl (by first | exact .inl rfl | exact .inr rfl) gs_nil gsNil_ne) (gsVar_ne gsNil_ne)) (gsVar_ne (gsVar_ne gsNil_ne)))))
  (s_cons (s_set (i := 6) sc.nd rfl (by first | exact .inl rfl | exact .inr rfl) (e_callN (held1 (G_form_in.mono (by omega)) F_form_in.kp b_form_in) hr hgd (takes_of rfl rfl rfl rfl) (e_v 2) (a_cons (e_v 5) a_nil)))
  (s_cons (s_if (t_ws (w_or (t_not (t_tru rfl (e_m1 PySem.F.slot_str_startswith PySem.F.type_str_startswith mr_starts (e_v 0) e_str))) (w_or (t_cmp (or_eq rfl hu) (e_v 4) e_str) (w_or (t_not (t_tru rfl (e_call (dd := []) (dvs := []) (ds := []) (G_is_name.mono (by omega)) hr hgd rfl C.g_is_name F_is_name.kp b_is_name .nil (fun _ _ _ => .nil) (takes_of rfl rfl rfl rfl) (a_cons (e_v 3) a_nil)))) (w_or1 (t_cmp or_is (e_v 6) e_non)))))) (s_one (s_ret e_non)) s_nil)
  (s_one (s_ret (e_tup (a_cons e_str (a_cons (e_v 1) (a_cons (e_v 3) (a_cons (e_v 6) a_nil))))))))))
theorem ok_places_in (C : Cn K mg) {fd : FuncData} (Fd : FunD K "places_in" "places_in" (defArgs (top 33)) (defBody (top 33)) (defScope (top 33)) [] [] (He.ga K "places_in") fd) : FnG P w K mg base 2 (He.ga K "places_in") fd ["words"] (SPx K (He.ga K) p_places_in) := by
  have sc := sc_places_in
  obtain ⟨fd_number_in, F_number_in⟩ := C.c.says.def_ 14 rfl
  have G_number_in := ok_number_in (P := P) (w := w) (base := base) C F_number_in
  have b_number_in : Binds K fd_number_in ["text", "least", "most"] [] := F_number_in.bindsN fun _ _ _ _ _ _ us hl => match us, hl with | [_, _, _], _ => rfl
  refine (fn_ok (k := 1) (N := N_places_in) (b := B_p_places_in) Fd sc fun cdv A outer s H E hr hgd => ?_)
  have hu := hr.units
  have hu1 : (A.deeper (envOfC "places_in" (defScope (top 33)) s.heap.objs.size (He.ga K "places_in") cdv)).units + (64 + 1) < cLine := by have := hr.un; omega
  unfold B_p_places_in
  exact (s_cons (s_setLcF (i := 1) (patOk_one (i := 2)) rfl rfl sc.nd rfl rfl (sw_true (by rfl) (by rfl) (by rfl) (by rfl)) (w_any rfl (e_v 0)) (blkOk_by (own := [("word", 2)]) (N := N_places_in) (sc := (defScope (top 33))) (by decide +kernel)) (fun _ _ _ _ _ => (pg_name (i := 2) sc.nd rfl (by first | exact .inl rfl | exact .inr rfl))) (fun _ _ _ _ _ => ts_nil) (fun _ _ _ _ _ => (e_call (dd := []) (dvs := []) (ds := []) (G_number_in.mono (by omega)) hr hgd rfl C.g_number_in F_number_in.kp b_number_in .nil (fun _ _ _ => .nil) takes0 (a_cons (e_v 2) (a_cons e_int (a_cons (e_gint rfl C.n_MOST_DIGIT) a_nil))))))
  (s_one (s_ret (e_if (t_cmp (or_in rfl) e_non (e_v 1)) e_non (e_callTy (cr_tuple rfl) rfl C.f_tuple (by decide +kernel) (a_cons (e_v 1) a_nil))))))
theorem ok_line_in (C : Cn K mg) {fd : FuncData} (Fd : FunD K "line_in" "line_in" (defArgs (top 34)) (defBody (top 34)) (defScope (top 34)) [] [] (He.ga K "line_in") fd) : FnG P w K mg base 4 (He.ga K "line_in") fd ["text", "line"] (SPx K (He.ga K) p_line_in) := by
  have sc := sc_line_in
  obtain ⟨fd_draw_in, F_draw_in⟩ := C.c.says.def_ 17 rfl
  have G_draw_in := ok_draw_in (P := P) (w := w) (base := base) C F_draw_in
  have b_draw_in : Binds K fd_draw_in ["text", "line", "read_form"] [] := F_draw_in.bindsN fun _ _ _ _ _ _ us hl => match us, hl with | [_, _, _], _ => rfl
  obtain ⟨fd_places_in, F_places_in⟩ := C.c.says.def_ 18 rfl
  have G_places_in := ok_places_in (P := P) (w := w) (base := base) C F_places_in
  have b_places_in : Binds K fd_places_in ["words"] [] := F_places_in.bindsN fun _ _ _ _ _ _ us hl => match us, hl with | [_], _ => rfl
  refine (fn_ok (k := 3) (N := N_line_in) (b := B_p_line_in) Fd sc fun cdv A outer s H E hr hgd => ?_)
  have hu := hr.units
  have hu1 : (A.deeper (envOfC "line_in" (defScope (top 34)) s.heap.objs.size (He.ga K "line_in") cdv)).units + (64 + 1) < cLine := by have := hr.un; omega
  unfold B_p_line_in
  exact (s_cons (s_set (i := 2) sc.nd rfl (by first | exact .inl rfl | exact .inr rfl) (e_m1 PySem.F.slot_str_split PySem.F.type_str_split mr_split (e_v 0) e_str))
  (s_cons (s_if (t_cmp (or_eq rfl hu) (e_ix rfl (e_v 2) e_int) e_str) (s_one (s_ret (e_call (dd := []) (dvs := []) (ds := []) (G_draw_in.mono (by omega)) hr hgd rfl C.g_draw_in F_draw_in.kp b_draw_in .nil (fun _ _ _ => .nil) (takes_of rfl rfl rfl rfl) (a_cons (e_v 0) (a_cons (e_v 1) (a_cons (e_glo rfl C.g_form_in) a_nil)))))) s_nil)
  (s_cons (s_set (i := 3) sc.nd rfl (by first | exact .inl rfl | exact .inr rfl) (e_call (dd := []) (dvs := []) (ds := []) (G_places_in.mono (by omega)) hr hgd rfl C.g_places_in F_places_in.kp b_places_in .nil (fun _ _ _ => .nil) (takes_of rfl rfl rfl rfl) (a_cons (e_sl rfl (e_v 2) (o_some e_int) o_none) a_nil)))
  (s_cons (s_if (t_ws (w_or (t_cmp or_is (e_v 3) e_non) (w_or1 (t_cmp (or_notin rfl) (e_ix rfl (e_v 2) e_int) (e_tup (a_cons e_str (a_cons e_str (a_cons e_str a_nil)))))))) (s_one (s_ret e_non)) s_nil)
  (s_cons (s_if (t_cmp (or_eq rfl hu) (e_ix rfl (e_v 2) e_int) e_str) (s_one (s_ret (e_if (t_ws (w_and (t_cmp (or_eq rfl hu) (e_callB (cr_len rfl) rfl C.f_len (by decide +kernel) (a_cons (e_v 3) a_nil)) e_int) (w_and1 (t_cmp or_lt (e_ix rfl (e_v 3) e_int) (e_ix rfl (e_v 3) e_int))))) (e_tup (a_cons e_str (a_cons (e_v 1) (a_star rfl (e_v 3) a_nil)))) e_non))) s_nil)
  (s_one (s_ret (e_if (t_cmp (or_eq rfl hu) (e_callB (cr_len rfl) rfl C.f_len (by decide +kernel) (a_cons (e_v 3) a_nil)) e_int) (e_tup (a_cons (e_ix rfl (e_v 2) e_int) (a_cons (e_v 1) (a_star rfl (e_v 3) a_nil)))) e_non))))))))
theorem ok_name_test_in (C : Cn K mg) {fd : FuncData} (Fd : FunD K "name_test_in" "name_test_in" (defArgs (top 31)) (defBody (top 31)) (defScope (top 31)) [] [] (He.ga K "name_test_in") fd) : FnG P w K mg base 3 (He.ga K "name_test_in") fd ["text", "read_form"] (SPx K (He.ga K) p_name_test_in) := by
  have sc := sc_name_test_in
  obtain ⟨fd_form_in, F_form_in⟩ := C.c.says.def_ 15 rfl
  have G_form_in := ok_form_in (P := P) (w := w) (base := base) C F_form_in
  have b_form_in : Binds K fd_form_in ["text"] [] := F_form_in.bindsN fun _ _ _ _ _ _ us hl => match us, hl with | [_], _ => rfl
  obtain ⟨fd_is_name, F_is_name⟩ := C.c.says.def_ 16 rfl
  have G_is_name := ok_is_name (P := P) (w := w) (base := base) C F_is_name
  have b_is_name : Binds K fd_is_name ["text"] [] := F_is_name.bindsN fun _ _ _ _ _ _ us hl => match us, hl with | [_], _ => rfl
  obtain ⟨fd_number_in, F_number_in⟩ := C.c.says.def_ 14 rfl
  have G_number_in := ok_number_in (P := P) (w := w) (base := base) C F_number_in
  have b_number_in : Binds K fd_number_in ["text", "least", "most"] [] := F_number_in.bindsN fun _ _ _ _ _ _ us hl => match us, hl with | [_, _, _], _ => rfl
  refine (fn_ok (k := 2) (N := N_name_test_in) (b := B_p_name_test_in) Fd sc fun cdv A outer s H E hr hgd => ?_)
  have hu := hr.units
  have hu1 : (A.deeper (envOfC "name_test_in" (defScope (top 31)) s.heap.objs.size (He.ga K "name_test_in") cdv)).units + (64 + 1) < cLine := by have := hr.un; omega
  unfold B_p_name_test_in
  exact (s_cons (s_asg (e_m1 PySem.F.slot_str_partition PySem.F.type_str_partition mr_part (e_v 0) e_str) (g_tup (n := 3) rfl rfl (gs_name (i := 2) sc.nd rfl (by first | exact .inl rfl | exact .inr rfl) (gs_name (i := 3) sc.nd rfl (by first | exact .inl rfl | exact .inr rfl) (gs_name (i := 4) sc.nd rfl (by first | exact .inl rfl | exact .inr rfl) gs_nil gsNil_ne) (gsVar_ne gsNil_ne)) (gsVar_ne (gsVar_ne gsNil_ne)))))
  (s_cons (s_if (t_cmp (or_ne rfl hu) (e_v 3) e_str) (s_cons (s_set (i := 5) sc.nd rfl (by first | exact .inl rfl | exact .inr rfl) (e_callN (held1 (G_form_in.mono (by omega)) F_form_in.kp b_form_in) hr hgd (takes_of rfl rfl rfl rfl) (e_v 1) (a_cons (e_v 4) a_nil)))
  (s_one (s_ret (e_if (t_ws (w_and (t_tru rfl (e_call (dd := []) (dvs := []) (ds := []) (G_is_name.mono (by omega)) hr hgd rfl C.g_is_name F_is_name.kp b_is_name .nil (fun _ _ _ => .nil) (takes_of rfl rfl rfl rfl) (a_cons (e_v 2) a_nil))) (w_and1 (t_cmp or_isnot (e_v 5) e_non)))) (e_tup (a_cons e_str (a_cons (e_v 2) (a_cons (e_v 5) a_nil)))) e_non)))) s_nil)
  (s_cons (s_asg (e_m1 PySem.F.slot_str_partition PySem.F.type_str_partition mr_part (e_v 0) e_str) (g_tup (n := 3) rfl rfl (gs_name (i := 2) sc.nd rfl (by first | exact .inl rfl | exact .inr rfl) (gs_name (i := 3) sc.nd rfl (by first | exact .inl rfl | exact .inr rfl) (gs_name (i := 4) sc.nd rfl (by first | exact .inl rfl | exact .inr rfl) gs_nil gsNil_ne) (gsVar_ne gsNil_ne)) (gsVar_ne (gsVar_ne gsNil_ne)))))
  (s_cons (s_set (i := 6) sc.nd rfl (by first | exact .inl rfl | exact .inr rfl) (e_call (dd := []) (dvs := []) (ds := []) (G_number_in.mono (by omega)) hr hgd rfl C.g_number_in F_number_in.kp b_number_in .nil (fun _ _ _ => .nil) (takes_of rfl rfl rfl rfl) (a_cons (e_v 4) (a_cons e_int (a_cons (e_gint rfl C.n_MOST_DIGIT) a_nil)))))
  (s_one (s_ret (e_if (t_ws (w_and (t_tru rfl (e_call (dd := []) (dvs := []) (ds := []) (G_is_name.mono (by omega)) hr hgd rfl C.g_is_name F_is_name.kp b_is_name .nil (fun _ _ _ => .nil) (takes_of rfl rfl rfl rfl) (a_cons (e_v 2) a_nil))) (w_and1 (t_cmp or_isnot (e_v 6) e_non)))) (e_tup (a_cons e_str (a_cons (e_v 2) (a_cons (e_v 6) a_nil)))) e_non)))))))
theorem ok_test_in (C : Cn K mg) {fd : FuncData} (Fd : FunD K "test_in" "test_in" (defArgs (top 32)) (defBody (top 32)) (defScope (top 32)) [] [] (He.ga K "test_in") fd) : FnG P w K mg base 4 (He.ga K "test_in") fd ["text"] (SPx K (He.ga K) p_test_in) := by
  have sc := sc_test_in
  obtain ⟨fd_name_test_in, F_name_test_in⟩ := C.c.says.def_ 20 rfl
  have G_name_test_in := ok_name_test_in (P := P) (w := w) (base := base) C F_name_test_in
  have b_name_test_in : Binds K fd_name_test_in ["text", "read_form"] [] := F_name_test_in.bindsN fun _ _ _ _ _ _ us hl => match us, hl with | [_, _], _ => rfl
  obtain ⟨fd_number_in, F_number_in⟩ := C.c.says.def_ 14 rfl
  have G_number_in := ok_number_in (P := P) (w := w) (base := base) C F_number_in
  have b_number_in : Binds K fd_number_in ["text", "least", "most"] [] := F_number_in.bindsN fun _ _ _ _ _ _ us hl => match us, hl with | [_, _, _], _ => rfl
  refine (fn_ok (k := 3) (N := N_test_in) (b := B_p_test_in) Fd sc fun cdv A outer s H E hr hgd => ?_)
  have hu := hr.units
  have hu1 : (A.deeper (envOfC "test_in" (defScope (top 32)) s.heap.objs.size (He.ga K "test_in") cdv)).units + (64 + 1) < cLine := by have := hr.un; omega
  unfold B_p_test_in
  exact (s_cons (s_for (passes_of rfl) rfl (w_any rfl (e_tup (a_cons (e_tup (a_cons e_str (a_cons e_str a_nil))) (a_cons (e_tup (a_cons e_str (a_cons e_str a_nil))) a_nil)))) (g_tup (n := 2) rfl rfl (gs_name (i := 1) sc.nd rfl (by first | exact .inl rfl | exact .inr rfl) (gs_name (i := 2) sc.nd rfl (by first | exact .inl rfl | exact .inr rfl) gs_nil gsNil_ne) (gsVar_ne gsNil_ne))) (s_one (s_if (t_tru rfl (e_m1 PySem.F.slot_str_startswith PySem.F.type_str_startswith mr_starts (e_v 0) (e_v 1))) (s_cons (s_set (i := 3) sc.nd rfl (by first | exact .inl rfl | exact .inr rfl) (e_call (dd := []) (dvs := []) (ds := []) (G_number_in.mono (by omega)) hr hgd rfl C.g_number_in F_number_in.kp b_number_in .nil (fun _ _ _ => .nil) (takes_of rfl rfl rfl rfl) (a_cons (e_sl rfl (e_v 0) (o_some (e_callB (cr_len rfl) rfl C.f_len (by decide +kernel) (a_cons (e_v 1) a_nil))) o_none) (a_cons e_int (a_cons (e_gint rfl C.n_LAST_EARLY) a_nil)))))
  (s_one (s_ret (e_if (t_cmp or_isnot (e_v 3) e_non) (e_tup (a_cons (e_v 2) (a_cons (e_v 3) a_nil))) e_non)))) s_nil)))
  (s_one (s_ret (e_call (dd := []) (dvs := []) (ds := []) (G_name_test_in.mono (by omega)) hr hgd rfl C.g_name_test_in F_name_test_in.kp b_name_test_in .nil (fun _ _ _ => .nil) (takes_of rfl rfl rfl rfl) (a_cons (e_v 0) (a_cons (e_glo rfl C.g_form_in) a_nil))))))
theorem okg_block_in (C : Cn K mg) {fd_block_in : FuncData} (F_block_in : FunD K "block_in" "block_in" (defArgs (top 35)) (defBody (top 35)) (defScope (top 35)) [] [] (He.ga K "block_in") fd_block_in) {fd_branches_in : FuncData} (F_branches_in : FunD K "branches_in" "branches_in" (defArgs (top 36)) (defBody (top 36)) (defScope (top 36)) [] [] (He.ga K "branches_in") fd_branches_in) : ∀ n : Nat, FnG P w K mg base (4 + n) (He.ga K "block_in") fd_block_in ["lines", "at", "inset", "readers"] (SPx K (He.ga K) (p_block_in n)) ∧ FnG P w K mg base (4 + n) (He.ga K "branches_in") fd_branches_in ["lines", "at", "inset", "readers"] (SPx K (He.ga K) (p_branches_in n)) := by
  obtain ⟨fd_line_in, F_line_in⟩ := C.c.says.def_ 19 rfl
  have G_line_in := ok_line_in (P := P) (w := w) (base := base) C F_line_in
  have b_line_in : Binds K fd_line_in ["text", "line"] [] := F_line_in.bindsN fun _ _ _ _ _ _ us hl => match us, hl with | [_, _], _ => rfl
  obtain ⟨fd_test_in, F_test_in⟩ := C.c.says.def_ 21 rfl
  have G_test_in := ok_test_in (P := P) (w := w) (base := base) C F_test_in
  have b_test_in : Binds K fd_test_in ["text"] [] := F_test_in.bindsN fun _ _ _ _ _ _ us hl => match us, hl with | [_], _ => rfl
  have b_block_in : Binds K fd_block_in ["lines", "at", "inset", "readers"] [] := F_block_in.bindsN fun _ _ _ _ _ _ us hl => match us, hl with | [_, _, _, _], _ => rfl
  have b_branches_in : Binds K fd_branches_in ["lines", "at", "inset", "readers"] [] := F_branches_in.bindsN fun _ _ _ _ _ _ us hl => match us, hl with | [_, _, _, _], _ => rfl
  intro n
  induction n with
  | zero => exact ⟨fn_bad, fn_bad⟩
  | succ n ih =>
    obtain ⟨G_block_in, G_branches_in⟩ := ih
    refine ⟨?_, ?_⟩
    · have sc := sc_block_in
      have Fd := F_block_in
      show FnG P w K mg base (4 + n + 1) _ _ _ (SPx K (He.ga K) (pureA (runB (B_p_block_in (p_block_in n) (p_branches_in n)) N_block_in.length 4)))
      refine fn_pureA (fn_ok (k := 4 + n) (N := N_block_in) (b := B_p_block_in (p_block_in n) (p_branches_in n)) Fd sc fun cdv A outer s H E hr hgd => ?_)
      have hu := hr.units
      have hu1 : (A.deeper (envOfC "block_in" (defScope (top 35)) s.heap.objs.size (He.ga K "block_in") cdv)).units + (64 + 1) < cLine := by have := hr.un; omega
      unfold B_p_block_in
      exact (s_cons (s_asg (e_v 3) (g_tup (n := 2) rfl rfl (gs_name (i := 4) sc.nd rfl (by first | exact .inl rfl | exact .inr rfl) (gs_name (i := 5) sc.nd rfl (by first | exact .inl rfl | exact .inr rfl) gs_nil gsNil_ne) (gsVar_ne gsNil_ne))))
  (s_cons (s_set (i := 6) sc.nd rfl (by first | exact .inl rfl | exact .inr rfl) (e_lst a_nil))
  (s_cons (s_while (m := (mLen 0)) (passes_of rfl) (t_cmp or_lt (e_v 1) (e_callB (cr_len rfl) rfl C.f_len (by decide +kernel) (a_cons (e_v 0) a_nil))) (s_cons (s_set (i := 7) sc.nd rfl (by first | exact .inl rfl | exact .inr rfl) (e_m1 PySem.F.slot_str_lstrip PySem.F.type_str_lstrip mr_lstripC (e_ix rfl (e_v 0) (e_v 1)) e_str))
  (s_cons (s_set (i := 8) sc.nd rfl (by first | exact .inl rfl | exact .inr rfl) (e_bin or_sub (e_callB (cr_len rfl) rfl C.f_len (by decide +kernel) (a_cons (e_ix rfl (e_v 0) (e_v 1)) a_nil)) (e_callB (cr_len rfl) rfl C.f_len (by decide +kernel) (a_cons (e_v 7) a_nil))))
  (s_cons (s_if (t_cmp or_lt (e_v 8) (e_v 2)) (s_one s_break) s_nil)
  (s_cons (s_if (t_cmp or_gt (e_v 8) (e_v 2)) (s_one (s_ret e_non)) s_nil)
  (s_one (s_if (t_tru rfl (e_m1 PySem.F.slot_str_startswith PySem.F.type_str_startswith mr_starts (e_v 7) e_str)) (s_cons (s_set (i := 9) sc.nd rfl (by first | exact .inl rfl | exact .inr rfl) (e_call (dd := []) (dvs := []) (ds := []) (G_branches_in.mono (by omega)) hr hgd rfl C.g_branches_in F_branches_in.kp b_branches_in .nil (fun _ _ _ => .nil) (takes_of rfl rfl rfl rfl) (a_cons (e_v 0) (a_cons (e_v 1) (a_cons (e_v 2) (a_cons (e_v 3) a_nil))))))
  (s_cons (s_if (t_cmp or_is (e_v 9) e_non) (s_one (s_ret e_non)) s_nil)
  (s_cons (s_asg (e_v 9) (g_tup (n := 4) rfl rfl (gs_name (i := 10) sc.nd rfl (by first | exact .inl rfl | exact .inr rfl) (gs_name (i := 11) sc.nd rfl (by first | exact .inl rfl | exact .inr rfl) (gs_name (i := 12) sc.nd rfl (by first | exact .inl rfl | exact .inr rfl) (gs_name (i := 13) sc.nd rfl (by first | exact .inl rfl | exact .inr rfl) gs_nil gsNil_ne) (gsVar_ne gsNil_ne)) (gsVar_ne (gsVar_ne gsNil_ne))) (gsVar_ne (gsVar_ne (gsVar_ne gsNil_ne))))))
  (s_cons (s_expr (e_ml (f := opAppend) rfl PySem.F.slot_list_append PySem.F.type_list_append mr_append (e_v 6) (a_cons (e_tup (a_cons e_str (a_cons (e_v 1) (a_cons (e_v 10) (a_cons (e_v 11) (a_cons (e_v 12) a_nil)))))) a_nil)))
  (s_one (s_set (i := 1) sc.nd rfl (by first | exact .inl rfl | exact .inr rfl) (e_v 13))))))) (s_cons (s_set (i := 14) sc.nd rfl (by first | exact .inl rfl | exact .inr rfl) (e_callN (held1 (G_line_in.mono (by omega)) F_line_in.kp b_line_in) hr hgd (takes_of rfl rfl rfl rfl) (e_v 4) (a_cons (e_v 7) (a_cons (e_v 1) a_nil))))
  (s_cons (s_if (t_cmp or_is (e_v 14) e_non) (s_one (s_ret e_non)) s_nil)
  (s_cons (s_expr (e_ml (f := opAppend) rfl PySem.F.slot_list_append PySem.F.type_list_append mr_append (e_v 6) (a_cons (e_v 14) a_nil)))
  (s_one (s_set (i := 1) sc.nd rfl (by first | exact .inl rfl | exact .inr rfl) (e_bin (or_add rfl) (e_v 1) e_int)))))))))))))
  (s_one (s_ret (e_tup (a_cons (e_callTy (cr_tuple rfl) rfl C.f_tuple (by decide +kernel) (a_cons (e_v 6) a_nil)) (a_cons (e_v 1) a_nil))))))))
    · have sc := sc_branches_in
      have Fd := F_branches_in
      show FnG P w K mg base (4 + n + 1) _ _ _ (SPx K (He.ga K) (runB (B_p_branches_in (p_block_in n) (p_branches_in n)) N_branches_in.length 4))
      refine (fn_ok (k := 4 + n) (N := N_branches_in) (b := B_p_branches_in (p_block_in n) (p_branches_in n)) Fd sc fun cdv A outer s H E hr hgd => ?_)
      have hu := hr.units
      have hu1 : (A.deeper (envOfC "branches_in" (defScope (top 36)) s.heap.objs.size (He.ga K "branches_in") cdv)).units + (64 + 1) < cLine := by have := hr.un; omega
      unfold B_p_branches_in
      exact (s_cons (s_set (i := 4) sc.nd rfl (by first | exact .inl rfl | exact .inr rfl) (e_callS (held1 (G_test_in.mono (by omega)) F_test_in.kp b_test_in) hr hgd (takes_of rfl rfl rfl rfl) (e_ix rfl (e_v 3) e_int) (a_cons (e_sl rfl (e_ix rfl (e_v 0) (e_v 1)) (o_some (e_bin (or_add rfl) (e_v 2) e_int)) o_none) a_nil)))
  (s_cons (s_set (i := 5) sc.nd rfl (by first | exact .inl rfl | exact .inr rfl) (e_call (dd := []) (dvs := []) (ds := []) (G_block_in.mono (by omega)) hr hgd rfl C.g_block_in F_block_in.kp b_block_in .nil (fun _ _ _ => .nil) (takes_of rfl rfl rfl rfl) (a_cons (e_v 0) (a_cons (e_bin (or_add rfl) (e_v 1) e_int) (a_cons (e_bin (or_add rfl) (e_v 2) e_int) (a_cons (e_v 3) a_nil))))))
  (s_cons (s_if (t_ws (w_or (t_cmp or_is (e_v 4) e_non) (w_or (t_cmp or_is (e_v 5) e_non) (w_or1 (t_cmp (or_eq rfl hu) (e_ix rfl (e_v 5) e_int) (e_tup a_nil)))))) (s_one (s_ret e_non)) s_nil)
  (s_cons (s_set (i := 6) sc.nd rfl (by first | exact .inl rfl | exact .inr rfl) (e_ix rfl (e_v 5) e_int))
  (s_cons (s_if (t_ws (w_or (t_cmp or_ge (e_v 6) (e_callB (cr_len rfl) rfl C.f_len (by decide +kernel) (a_cons (e_v 0) a_nil))) (w_or1 (t_cmp (or_ne rfl hu) (e_ix rfl (e_v 0) (e_v 6)) (e_bin (or_add rfl) (e_bin (or_mulT rfl) e_str (e_v 2)) e_str))))) (s_one (s_ret (e_tup (a_cons (e_v 4) (a_cons (e_ix rfl (e_v 5) e_int) (a_cons (e_tup a_nil) (a_cons (e_v 6) a_nil))))))) s_nil)
  (s_cons (s_set (i := 7) sc.nd rfl (by first | exact .inl rfl | exact .inr rfl) (e_call (dd := []) (dvs := []) (ds := []) (G_block_in.mono (by omega)) hr hgd rfl C.g_block_in F_block_in.kp b_block_in .nil (fun _ _ _ => .nil) (takes_of rfl rfl rfl rfl) (a_cons (e_v 0) (a_cons (e_bin (or_add rfl) (e_v 6) e_int) (a_cons (e_bin (or_add rfl) (e_v 2) e_int) (a_cons (e_v 3) a_nil))))))
  (s_cons (s_if (t_ws (w_or (t_cmp or_is (e_v 7) e_non) (w_or1 (t_cmp (or_eq rfl hu) (e_ix rfl (e_v 7) e_int) (e_tup a_nil))))) (s_one (s_ret e_non)) s_nil)
  (s_one (s_ret (e_tup (a_cons (e_v 4) (a_cons (e_ix rfl (e_v 5) e_int) (a_cons (e_ix rfl (e_v 7) e_int) (a_cons (e_ix rfl (e_v 7) e_int) a_nil))))))))))))))
theorem ok_block_in (C : Cn K mg) {fd_block_in : FuncData} (F_block_in : FunD K "block_in" "block_in" (defArgs (top 35)) (defBody (top 35)) (defScope (top 35)) [] [] (He.ga K "block_in") fd_block_in) (n : Nat) : FnG P w K mg base (4 + n) (He.ga K "block_in") fd_block_in ["lines", "at", "inset", "readers"] (SPx K (He.ga K) (p_block_in n)) := by
  obtain ⟨fd_branches_in, F_branches_in⟩ := C.c.says.def_ 23 rfl
  exact (okg_block_in C F_block_in F_branches_in n).1
theorem ok_branches_in (C : Cn K mg) {fd_branches_in : FuncData} (F_branches_in : FunD K "branches_in" "branches_in" (defArgs (top 36)) (defBody (top 36)) (defScope (top 36)) [] [] (He.ga K "branches_in") fd_branches_in) (n : Nat) : FnG P w K mg base (4 + n) (He.ga K "branches_in") fd_branches_in ["lines", "at", "inset", "readers"] (SPx K (He.ga K) (p_branches_in n)) := by
  obtain ⟨fd_block_in, F_block_in⟩ := C.c.says.def_ 22 rfl
  exact (okg_block_in C F_block_in F_branches_in n).2
theorem ok_sampler_in (C : Cn K mg) {fd : FuncData} (Fd : FunD K "sampler_in" "sampler_in" (defArgs (top 37)) (defBody (top 37)) (defScope (top 37)) [] [] (He.ga K "sampler_in") fd) : FnG P w K mg base 17 (He.ga K "sampler_in") fd ["text"] (SPx K (He.ga K) p_sampler_in) := by
  have sc := sc_sampler_in
  obtain ⟨fd_block_in, F_block_in⟩ := C.c.says.def_ 22 rfl
  have G_block_in := ok_block_in (P := P) (w := w) (base := base) C F_block_in 12
  have b_block_in : Binds K fd_block_in ["lines", "at", "inset", "readers"] [] := F_block_in.bindsN fun _ _ _ _ _ _ us hl => match us, hl with | [_, _, _, _], _ => rfl
  obtain ⟨fd_number_in, F_number_in⟩ := C.c.says.def_ 14 rfl
  have G_number_in := ok_number_in (P := P) (w := w) (base := base) C F_number_in
  have b_number_in : Binds K fd_number_in ["text", "least", "most"] [] := F_number_in.bindsN fun _ _ _ _ _ _ us hl => match us, hl with | [_, _, _], _ => rfl
  refine (fn_ok (k := 16) (N := N_sampler_in) (b := B_p_sampler_in) Fd sc fun cdv A outer s H E hr hgd => ?_)
  have hu := hr.units
  have hu1 : (A.deeper (envOfC "sampler_in" (defScope (top 37)) s.heap.objs.size (He.ga K "sampler_in") cdv)).units + (64 + 1) < cLine := by have := hr.un; omega
  unfold B_p_sampler_in
  exact (s_cons (s_set (i := 1) sc.nd rfl (by first | exact .inl rfl | exact .inr rfl) (e_m1 PySem.F.slot_str_split PySem.F.type_str_split mr_split (e_v 0) e_str))
  (s_cons (s_set (i := 2) sc.nd rfl (by first | exact .inl rfl | exact .inr rfl) (e_call (dd := []) (dvs := []) (ds := []) (G_number_in.mono (by omega)) hr hgd rfl C.g_number_in F_number_in.kp b_number_in .nil (fun _ _ _ => .nil) (takes_of rfl rfl rfl rfl) (a_cons (e_sl rfl (e_ix rfl (e_v 1) e_int) (o_some e_int) o_none) (a_cons e_int (a_cons e_int a_nil)))))
  (s_cons (s_if (t_ws (w_or (t_not (t_tru rfl (e_m1 PySem.F.slot_str_startswith PySem.F.type_str_startswith mr_starts (e_ix rfl (e_v 1) e_int) e_str))) (w_or1 (t_cmp or_is (e_v 2) e_non)))) (s_one (s_ret e_non)) s_nil)
  (s_cons (s_set (i := 3) sc.nd rfl (by first | exact .inl rfl | exact .inr rfl) (e_call (dd := []) (dvs := []) (ds := []) (G_block_in.mono (by omega)) hr hgd rfl C.g_block_in F_block_in.kp b_block_in .nil (fun _ _ _ => .nil) (takes_of rfl rfl rfl rfl) (a_cons (e_v 1) (a_cons e_int (a_cons e_int (a_cons (e_tup (a_cons (e_glo rfl C.g_line_in) (a_cons (e_glo rfl C.g_test_in) a_nil))) a_nil))))))
  (s_one (s_ret (e_if (t_cmp or_is (e_v 3) e_non) e_non (e_tup (a_cons (e_v 2) (a_cons (e_ix rfl (e_v 3) e_int) a_nil))))))))))
theorem ok_Sampler___init__ (C : Cn K mg) {fd : FuncData} (Fd : FunD K "__init__" "Sampler.__init__" (defArgs (inCls (top 49) 0)) (defBody (inCls (top 49) 0)) (defScope (inCls (top 49) 0)) [] [] (He.ma K (He.ga K "Sampler") "__init__") fd) : FnG P w K mg base 18 (He.ma K (He.ga K "Sampler") "__init__") fd ["self", "text"] (SPx K (He.ga K) p_Sampler___init__) := by
  have sc := sc_Sampler___init__
  obtain ⟨fd_check_program, F_check_program⟩ := C.c.says.def_ 9 rfl
  have G_check_program := ok_check_program (P := P) (w := w) (base := base) C F_check_program
  have b_check_program : Binds K fd_check_program ["statements", "places", "low_lines"] [] := F_check_program.bindsN fun _ _ _ _ _ _ us hl => match us, hl with | [_, _, _], _ => rfl
  obtain ⟨fd_check_sizes, F_check_sizes⟩ := C.c.says.def_ 11 rfl
  have G_check_sizes := ok_check_sizes (P := P) (w := w) (base := base) C F_check_sizes
  have b_check_sizes : Binds K fd_check_sizes ["statements"] [] := F_check_sizes.bindsN fun _ _ _ _ _ _ us hl => match us, hl with | [_], _ => rfl
  obtain ⟨fd_check_way, F_check_way⟩ := C.c.says.def_ 13 rfl
  have G_check_way := ok_check_way (P := P) (w := w) (base := base) C F_check_way
  have b_check_way : Binds K fd_check_way ["statements"] [] := F_check_way.bindsN fun _ _ _ _ _ _ us hl => match us, hl with | [_], _ => rfl
  obtain ⟨fd_flat, F_flat⟩ := C.c.says.def_ 7 rfl
  have G_flat := ok_flat (P := P) (w := w) (base := base) C F_flat 12
  have b_flat : Binds K fd_flat ["statements"] [] := F_flat.bindsN fun _ _ _ _ _ _ us hl => match us, hl with | [_], _ => rfl
  obtain ⟨fd_sampler_in, F_sampler_in⟩ := C.c.says.def_ 24 rfl
  have G_sampler_in := ok_sampler_in (P := P) (w := w) (base := base) C F_sampler_in
  have b_sampler_in : Binds K fd_sampler_in ["text"] [] := F_sampler_in.bindsN fun _ _ _ _ _ _ us hl => match us, hl with | [_], _ => rfl
  refine (fn_ok (k := 17) (N := N_Sampler___init__) (b := B_p_Sampler___init__) Fd sc fun cdv A outer s H E hr hgd => ?_)
  have hu := hr.units
  have hu1 : (A.deeper (envOfC "Sampler.__init__" (defScope (inCls (top 49) 0)) s.heap.objs.size (He.ma K (He.ga K "Sampler") "__init__") cdv)).units + (64 + 1) < cLine := by have := hr.un; omega
  unfold B_p_Sampler___init__
  exact (s_cons (s_set (i := 2) sc.nd rfl (by first | exact .inl rfl | exact .inr rfl) (e_if (t_tru rfl (e_callB (cr_isiI rfl C.isa_str (fun _ h => nomatch h)) rfl C.f_isinstance (by decide +kernel) (a_cons (e_v 1) (a_cons (e_bty rfl C.f_str (by decide +kernel)) a_nil)))) (e_call (dd := []) (dvs := []) (ds := []) (G_sampler_in.mono (by omega)) hr hgd rfl C.g_sampler_in F_sampler_in.kp b_sampler_in .nil (fun _ _ _ => .nil) (takes_of rfl rfl rfl rfl) (a_cons (e_v 1) a_nil)) e_non))
  (s_cons (s_if (t_cmp or_is (e_v 2) e_non) (s_one (s_raise rfl (takes_of rfl rfl rfl rfl) (XI_.of (C.xp_InvalidText (P := P) (w := w) (base := base))) (raisesX (C.xp_InvalidText (P := P) (w := w) (base := base)).cls) pm_pos (hr.mono (by omega)) rfl C.g_InvalidText (a_cons (e_v 1) a_nil))) s_nil)
  (s_cons (s_asg (e_v 2) (g_tup (n := 2) rfl rfl (gs_name (i := 3) sc.nd rfl (by first | exact .inl rfl | exact .inr rfl) (gs_name (i := 4) sc.nd rfl (by first | exact .inl rfl | exact .inr rfl) gs_nil gsNil_ne) (gsVar_ne gsNil_ne))))
  (s_cons (s_expr (e_call (dd := []) (dvs := []) (ds := []) (G_check_sizes.mono (by omega)) hr hgd rfl C.g_check_sizes F_check_sizes.kp b_check_sizes .nil (fun _ _ _ => .nil) (takes_of rfl rfl rfl rfl) (a_cons (e_v 4) a_nil)))
  (s_cons (s_setLcF (i := 5) (patOk_one (i := 6)) rfl rfl sc.nd rfl rfl (sw_true (by rfl) (by rfl) (by rfl) (by rfl)) (w_any rfl (e_call (dd := []) (dvs := []) (ds := []) (G_flat.mono (by omega)) hr hgd rfl C.g_flat F_flat.kp b_flat .nil (fun _ _ _ => .nil) (takes_of rfl rfl rfl rfl) (a_cons (e_v 4) a_nil))) (blkOk_by (own := [("row", 6)]) (N := N_Sampler___init__) (sc := (defScope (inCls (top 49) 0))) (by decide +kernel)) (fun _ _ _ _ _ => (pg_name (i := 6) sc.nd rfl (by first | exact .inl rfl | exact .inr rfl))) (fun _ _ _ _ _ => (ts_one (t_cmp (or_eq rfl hu) (e_ix rfl (e_v 6) e_int) e_str))) (fun _ _ _ _ _ => (e_v 6)))
  (s_cons (s_expr (e_call (dd := []) (dvs := []) (ds := []) (G_check_program.mono (by omega)) hr hgd rfl C.g_check_program F_check_program.kp b_check_program .nil (fun _ _ _ => .nil) (takes_of rfl rfl rfl rfl) (a_cons (e_v 4) (a_cons (e_v 3) (a_cons (e_lcF (patOk_one (i := 6)) rfl rfl sc.nd (w_any rfl (e_v 5)) (blkOk_by (own := [("row", 6)]) (N := N_Sampler___init__) (sc := (defScope (inCls (top 49) 0))) (by decide +kernel)) (fun _ _ _ _ _ => (pg_name (i := 6) sc.nd rfl (by first | exact .inl rfl | exact .inr rfl))) (fun _ _ _ _ _ => (ts_one (t_cmp or_lt (e_bin (or_add rfl) (e_ix rfl (e_ix rfl (e_v 6) e_int) e_int) (e_ix rfl (e_ix rfl (e_v 6) e_int) e_int)) e_int))) (fun _ _ _ _ _ => (e_ix rfl (e_v 6) e_int))) a_nil)))))
  (s_cons (s_expr (e_call (dd := []) (dvs := []) (ds := []) (G_check_way.mono (by omega)) hr hgd rfl C.g_check_way F_check_way.kp b_check_way .nil (fun _ _ _ => .nil) (takes_of rfl rfl rfl rfl) (a_cons (e_v 4) a_nil)))
  (s_cons (s_put rfl C.has_source (e_v 0) (e_v 1))
  (s_cons (s_put rfl C.has_wide (e_v 0) (e_v 3))
  (s_one (s_put rfl C.has_tree (e_v 0) (e_v 4))))))))))))
theorem ok_Sampler___repr__ (C : Cn K mg) {fd : FuncData} (Fd : FunD K "__repr__" "Sampler.__repr__" (defArgs (inCls (top 49) 6)) (defBody (inCls (top 49) 6)) (defScope (inCls (top 49) 6)) [] [] (He.ma K (He.ga K "Sampler") "__repr__") fd) : FnG P w K mg base 13 (He.ma K (He.ga K "Sampler") "__repr__") fd ["self"] (SPx K (He.ga K) p_Sampler___repr__) := by
  have sc := sc_Sampler___repr__
  obtain ⟨fd_flat, F_flat⟩ := C.c.says.def_ 7 rfl
  have G_flat := ok_flat (P := P) (w := w) (base := base) C F_flat 12
  have b_flat : Binds K fd_flat ["statements"] [] := F_flat.bindsN fun _ _ _ _ _ _ us hl => match us, hl with | [_], _ => rfl
  refine fn_pureT (fn_ok (k := 12) (N := N_Sampler___repr__) (b := B_p_Sampler___repr__) Fd sc fun cdv A outer s H E hr hgd => ?_)
  have hu := hr.units
  have hu1 : (A.deeper (envOfC "Sampler.__repr__" (defScope (inCls (top 49) 6)) s.heap.objs.size (He.ma K (He.ga K "Sampler") "__repr__") cdv)).units + (64 + 1) < cLine := by have := hr.un; omega
  unfold B_p_Sampler___repr__
  exact (s_one (s_ret (e_joined (.cons e_str (.cons (e_fmt (e_get rfl C.has_wide (e_v 0))) (.cons e_str (.cons (e_fmt (e_callB (cr_len rfl) rfl C.f_len (by decide +kernel) (a_cons (e_call (dd := []) (dvs := []) (ds := []) (G_flat.mono (by omega)) hr hgd rfl C.g_flat F_flat.kp b_flat .nil (fun _ _ _ => .nil) (takes_of rfl rfl rfl rfl) (a_cons (e_get rfl C.has_tree (e_v 0)) a_nil)) a_nil))) (.cons e_str .nil))))))))
theorem ok_Sampler___str__ (C : Cn K mg) {fd : FuncData} (Fd : FunD K "__str__" "Sampler.__str__" (defArgs (inCls (top 49) 5)) (defBody (inCls (top 49) 5)) (defScope (inCls (top 49) 5)) [] [] (He.ma K (He.ga K "Sampler") "__str__") fd) : FnG P w K mg base 1 (He.ma K (He.ga K "Sampler") "__str__") fd ["self"] (SPx K (He.ga K) p_Sampler___str__) := by
  have sc := sc_Sampler___str__
  refine fn_pureT (fn_ok (k := 0) (N := N_Sampler___str__) (b := B_p_Sampler___str__) Fd sc fun cdv A outer s H E hr hgd => ?_)
  have hu := hr.units
  have hu1 : (A.deeper (envOfC "Sampler.__str__" (defScope (inCls (top 49) 5)) s.heap.objs.size (He.ma K (He.ga K "Sampler") "__str__") cdv)).units + (64 + 1) < cLine := by have := hr.un; omega
  unfold B_p_Sampler___str__
  exact (s_one (s_ret (e_callTy cr_strS rfl C.f_str (by decide +kernel) (a_cons (e_get rfl C.has_source (e_v 0)) a_nil))))
theorem ok__law_is (C : Cn K mg) {fd : FuncData} (Fd : FunD K "_law_is" "_law_is" (defArgs (top 61)) (defBody (top 61)) (defScope (top 61)) [] [] (He.ga K "_law_is") fd) : FnG P w K mg base 20 (He.ga K "_law_is") fd ["_law_told", "_law_due"] (SPx K (He.ga K) k13__law_is) := by
  have sc := sc__law_is
  obtain ⟨fd_Sampler___eq__, F_Sampler___eq__⟩ := C.c.says.def_ 5 rfl
  have G_Sampler___eq__ := ok_Sampler___eq__ (P := P) (w := w) (base := base) C F_Sampler___eq__
  have b_Sampler___eq__ : Binds K fd_Sampler___eq__ ["self", "other"] [] := F_Sampler___eq__.bindsN fun _ _ _ _ _ _ us hl => match us, hl with | [_, _], _ => rfl
  obtain ⟨fd_Sampler___init__, F_Sampler___init__⟩ := C.c.says.def_ 25 rfl
  have G_Sampler___init__ := ok_Sampler___init__ (P := P) (w := w) (base := base) C F_Sampler___init__
  have b_Sampler___init__ : Binds K fd_Sampler___init__ ["self", "text"] [] := F_Sampler___init__.bindsN fun _ _ _ _ _ _ us hl => match us, hl with | [_, _], _ => rfl
  obtain ⟨fd_Sampler___repr__, F_Sampler___repr__⟩ := C.c.says.def_ 26 rfl
  have G_Sampler___repr__ := ok_Sampler___repr__ (P := P) (w := w) (base := base) C F_Sampler___repr__
  have b_Sampler___repr__ : Binds K fd_Sampler___repr__ ["self"] [] := F_Sampler___repr__.bindsN fun _ _ _ _ _ _ us hl => match us, hl with | [_], _ => rfl
  obtain ⟨fd_Sampler___str__, F_Sampler___str__⟩ := C.c.says.def_ 27 rfl
  have G_Sampler___str__ := ok_Sampler___str__ (P := P) (w := w) (base := base) C F_Sampler___str__
  have b_Sampler___str__ : Binds K fd_Sampler___str__ ["self"] [] := F_Sampler___str__.bindsN fun _ _ _ _ _ _ us hl => match us, hl with | [_], _ => rfl
  refine (fn_ok (k := 19) (N := N__law_is) (b := B_k13__law_is) Fd sc fun cdv A outer s H E hr hgd => ?_)
  have hu := hr.units
  have hu1 : (A.deeper (envOfC "_law_is" (defScope (top 61)) s.heap.objs.size (He.ga K "_law_is") cdv)).units + (64 + 1) < cLine := by have := hr.un; omega
  unfold B_k13__law_is
  exact (s_cons (s_if (t_ws (w_or (t_tru rfl (e_callB (cr_isiI rfl C.isa_list (fun _ h => nomatch h)) rfl C.f_isinstance (by decide +kernel) (a_cons (e_v 1) (a_cons (e_bty rfl C.f_list (by decide +kernel)) a_nil)))) (w_or1 (t_tru rfl (e_callB (cr_isiI rfl C.isa_list C.ins_Sampler) rfl C.f_isinstance (by decide +kernel) (a_cons (e_v 0) (a_cons (e_bty rfl C.f_list (by decide +kernel)) a_nil))))))) (s_one (s_ret (e_and rfl (e_cmp (or_eqI (k := 1) rfl hu C.eqc G_Sampler___eq__ (hr.mono (by omega)) hgd b_Sampler___eq__) (e_v 0) (e_v 1)) (e_one (e_cmp (or_eq rfl hu) (e_callB (cr_reprI (k := 13) rfl hu1 C.slot_repr.1 C.slot_repr.2 G_Sampler___repr__ (hr.mono (by omega)) hgd b_Sampler___repr__) rfl C.f_repr (by decide +kernel) (a_cons (e_v 0) a_nil)) (e_callB (cr_repr rfl hgd hu1) rfl C.f_repr (by decide +kernel) (a_cons (e_v 1) a_nil))))))) s_nil)
  (s_one (s_ret (e_and rfl (e_cmp (or_eq rfl hu) (e_callTy (cr_strI (k := 1) rfl C.slot_str.1 C.slot_str.2 G_Sampler___str__ (hr.mono (by omega)) hgd b_Sampler___str__) rfl C.f_str (by decide +kernel) (a_cons (e_v 0) a_nil)) (e_v 1)) (e_one (e_cmp (or_eqI (k := 1) rfl hu C.eqc G_Sampler___eq__ (hr.mono (by omega)) hgd b_Sampler___eq__) (e_v 0) (e_new (k := 18) (dd := []) (dvs := []) (ds := []) C.mk_Sampler G_Sampler___init__ (hr.mono (by omega)) hgd rfl C.g_Sampler b_Sampler___init__ .nil (fun _ _ _ => .nil) (takes_of rfl rfl rfl rfl) (a_cons (e_v 1) a_nil) (hn := opNew_len rfl))))))))
theorem okw__law_error (C : Cn K mg) {fd : FuncData} (Fd : FunD K "_law_error" "_law_error" (defArgs (top 57)) (defBody (top 57)) (defScope (top 57)) [] [] (He.ga K "_law_error") fd) : FnW P w K mg base 1 (He.ga K "_law_error") fd ["_law_e"] (SPx K (He.ga K) k13__law_error) := by
  have sc := sc__law_error
  refine fnw_ok (k := 0) (N := N__law_error) (b := B_k13__law_error) Fd sc fun cdv A outer s H E hr hgd => ?_
  have hu : (A.deeper (envOfC "_law_error" (defScope (top 57)) s.heap.objs.size (He.ga K "_law_error") cdv)).units + 64 < cLine := by have := hr.un; omega
  have hu1 : (A.deeper (envOfC "_law_error" (defScope (top 57)) s.heap.objs.size (He.ga K "_law_error") cdv)).units + (64 + 1) < cLine := by have := hr.un; omega
  unfold B_k13__law_error
  exact (s_cons (s_set (i := 1) sc.nd rfl (by first | exact .inl rfl | exact .inr rfl) (e_lstF (a_cons (e_callB (cr_isi rfl C.isax) rfl C.f_isinstance (by decide +kernel) (a_cons (e_v 0) (a_cons (e_glo rfl C.g_InvalidText) a_nil))) (a_cons (e_callB (cr_isi rfl C.isax) rfl C.f_isinstance (by decide +kernel) (a_cons (e_v 0) (a_cons (e_glo rfl C.g_NotASampler) a_nil))) (a_cons (e_callB (cr_isi rfl C.isax) rfl C.f_isinstance (by decide +kernel) (a_cons (e_v 0) (a_cons (e_glo rfl C.g_InvalidLength) a_nil))) a_nil)))))
  (s_cons (s_set (i := 1) sc.nd rfl (by first | exact .inl rfl | exact .inr rfl) (e_bin (or_add rfl) (e_v 1) (e_lstF (a_cons (e_callB (cr_isi rfl C.isax) rfl C.f_isinstance (by decide +kernel) (a_cons (e_v 0) (a_cons (e_glo rfl C.g_InvalidCount) a_nil))) (a_cons (e_callB (cr_isi rfl C.isax) rfl C.f_isinstance (by decide +kernel) (a_cons (e_v 0) (a_cons (e_glo rfl C.g_InvalidItem) a_nil))) (a_cons (e_callB (cr_isi rfl C.isax) rfl C.f_isinstance (by decide +kernel) (a_cons (e_v 0) (a_cons (e_glo rfl C.g_InvalidPlace) a_nil))) a_nil))))))
  (s_cons (s_set (i := 1) sc.nd rfl (by first | exact .inl rfl | exact .inr rfl) (e_bin (or_add rfl) (e_v 1) (e_lstF (a_cons (e_callB (cr_isi rfl C.isax) rfl C.f_isinstance (by decide +kernel) (a_cons (e_v 0) (a_cons (e_glo rfl C.g_TooMuch) a_nil))) (a_cons (e_callB (cr_isi rfl C.isax) rfl C.f_isinstance (by decide +kernel) (a_cons (e_v 0) (a_cons (e_glo rfl C.g_UnknownPlace) a_nil))) (a_cons (e_callB (cr_isi rfl C.isax) rfl C.f_isinstance (by decide +kernel) (a_cons (e_v 0) (a_cons (e_glo rfl C.g_NotDrawn) a_nil))) a_nil))))))
  (s_cons (s_set (i := 1) sc.nd rfl (by first | exact .inl rfl | exact .inr rfl) (e_bin (or_add rfl) (e_v 1) (e_lstF (a_cons (e_callB (cr_isi rfl C.isax) rfl C.f_isinstance (by decide +kernel) (a_cons (e_v 0) (a_cons (e_glo rfl C.g_DrawnTwice) a_nil))) (a_cons (e_callB (cr_isi rfl C.isax) rfl C.f_isinstance (by decide +kernel) (a_cons (e_v 0) (a_cons (e_glo rfl C.g_BelowOne) a_nil))) (a_cons (e_callB (cr_isi rfl C.isax) rfl C.f_isinstance (by decide +kernel) (a_cons (e_v 0) (a_cons (e_glo rfl C.g_Unsettled) a_nil))) a_nil))))))
  (s_cons (s_set (i := 2) sc.nd rfl (by first | exact .inl rfl | exact .inr rfl) (e_lstF (a_cons (e_callB (cr_isi rfl C.isax) rfl C.f_isinstance (by decide +kernel) (a_cons (e_v 0) (a_cons (e_glo rfl C.g_TextError) a_nil))) (a_cons (e_callB (cr_isi rfl C.isax) rfl C.f_isinstance (by decide +kernel) (a_cons (e_v 0) (a_cons (e_glo rfl C.g_ProgramError) a_nil))) (a_cons (e_callB (cr_isi rfl C.isax) rfl C.f_isinstance (by decide +kernel) (a_cons (e_v 0) (a_cons (e_glo rfl C.g_KeepError) a_nil))) a_nil)))))
  (s_cons (s_set (i := 3) sc.nd rfl (by first | exact .inl rfl | exact .inr rfl) (e_lstF (a_cons (e_callB (cr_isi rfl C.isax) rfl C.f_isinstance (by decide +kernel) (a_cons (e_v 0) (a_cons (e_bty rfl C.f_ValueError (by decide +kernel)) a_nil))) (a_cons (e_callB (cr_isi rfl C.isax) rfl C.f_isinstance (by decide +kernel) (a_cons (e_v 0) (a_cons (e_bty rfl C.f_LookupError (by decide +kernel)) a_nil))) (a_cons (e_callB (cr_isi rfl C.isax) rfl C.f_isinstance (by decide +kernel) (a_cons (e_v 0) (a_cons (e_bty rfl C.f_RuntimeError (by decide +kernel)) a_nil))) a_nil)))))
  (s_cons (s_if (t_ws (w_or (t_cmp (or_ne rfl hu) (e_ml (f := opCount) rfl PySem.F.slot_list_count PySem.F.type_list_count (mr_count rfl hu) (e_v 1) (a_cons e_bl a_nil)) e_int) (w_or1 (t_cmp (or_ne rfl hu) (e_v 3) (e_v 2))))) (s_one (s_ret (e_un ur_neg e_int))) s_nil)
  (s_cons (s_set (i := 4) sc.nd rfl (by first | exact .inl rfl | exact .inr rfl) (e_ml (f := opIndex) rfl PySem.F.slot_list_index PySem.F.type_list_index (mr_index rfl hu) (e_v 1) (a_cons e_bl a_nil)))
  (s_one (s_ret (e_if (t_cmp (or_eq rfl hu) (e_v 2) (e_lstF (a_cons (e_cmp or_lt (e_v 4) e_int) (a_cons (e_cmp or_gt (e_v 4) e_int) (a_cons e_bl a_nil))))) (e_v 4) (e_un ur_neg e_int))))))))))))
theorem okw__law_field (C : Cn K mg) {fd : FuncData} (Fd : FunD K "_law_field" "_law_field" (defArgs (top 58)) (defBody (top 58)) (defScope (top 58)) [] [] (He.ga K "_law_field") fd) : FnW P w K mg base 1 (He.ga K "_law_field") fd ["_law_e", "_law_at"] (SPx K (He.ga K) k13__law_field) := by
  have sc := sc__law_field
  refine fnw_ok (k := 0) (N := N__law_field) (b := B_k13__law_field) Fd sc fun cdv A outer s H E hr hgd => ?_
  have hu : (A.deeper (envOfC "_law_field" (defScope (top 58)) s.heap.objs.size (He.ga K "_law_field") cdv)).units + 64 < cLine := by have := hr.un; omega
  have hu1 : (A.deeper (envOfC "_law_field" (defScope (top 58)) s.heap.objs.size (He.ga K "_law_field") cdv)).units + (64 + 1) < cLine := by have := hr.un; omega
  unfold B_k13__law_field
  exact (s_cons (s_if (t_cmp or_lt (e_v 1) e_int) (s_one (s_ret (e_fld rfl C.fld_value (e_v 0)))) s_nil)
  (s_one (s_ret (e_if (t_cmp (or_eq rfl hu) (e_v 1) e_int) (e_fld rfl C.fld_what (e_v 0)) (e_fld rfl C.fld_line (e_v 0))))))
theorem ok__law_made (C : Cn K mg) {fd : FuncData} (Fd : FunD K "_law_made" "_law_made" (defArgs (top 59)) (defBody (top 59)) (defScope (top 59)) [] [] (He.ga K "_law_made") fd) : FnG P w K mg base 20 (He.ga K "_law_made") fd ["_law_told"] (SPx K (He.ga K) k13__law_made) := by
  have sc := sc__law_made
  obtain ⟨fd_Sampler___init__, F_Sampler___init__⟩ := C.c.says.def_ 25 rfl
  have G_Sampler___init__ := ok_Sampler___init__ (P := P) (w := w) (base := base) C F_Sampler___init__
  have b_Sampler___init__ : Binds K fd_Sampler___init__ ["self", "text"] [] := F_Sampler___init__.bindsN fun _ _ _ _ _ _ us hl => match us, hl with | [_, _], _ => rfl
  obtain ⟨fd__law_error, F__law_error⟩ := C.c.says.def_ 29 rfl
  have GW__law_error := okw__law_error (P := P) (w := w) (base := base) C F__law_error
  have b__law_error : Binds K fd__law_error ["_law_e"] [] := F__law_error.bindsN fun _ _ _ _ _ _ us hl => match us, hl with | [_], _ => rfl
  obtain ⟨fd__law_field, F__law_field⟩ := C.c.says.def_ 30 rfl
  have GW__law_field := okw__law_field (P := P) (w := w) (base := base) C F__law_field
  have b__law_field : Binds K fd__law_field ["_law_e", "_law_at"] [] := F__law_field.bindsN fun _ _ _ _ _ _ us hl => match us, hl with | [_, _], _ => rfl
  refine (fn_ok (k := 19) (N := N__law_made) (b := B_k13__law_made) Fd sc fun cdv A outer s H E hr hgd => ?_)
  have hu := hr.units
  have hu1 : (A.deeper (envOfC "_law_made" (defScope (top 59)) s.heap.objs.size (He.ga K "_law_made") cdv)).units + (64 + 1) < cLine := by have := hr.un; omega
  unfold B_k13__law_made
  exact (s_cons (s_try (i := 2) rfl rfl rfl sc.nd rfl rfl (tst_three ⟨rfl, by decide, .inl C.g_TextError⟩ ⟨rfl, by decide, .inl C.g_ProgramError⟩ ⟨rfl, by decide, .inl C.g_KeepError⟩) (exmT_ok C.tx__law_made) (takes_of rfl rfl rfl rfl)
  (fun W pn xe tk hpo => (s_one (s_set (i := 1) sc.nd rfl (by first | exact .inl rfl | exact .inr rfl) (e_new (k := 18) (dd := []) (dvs := []) (ds := []) C.mk_Sampler G_Sampler___init__ (hr.mono (by omega)) hgd rfl C.g_Sampler b_Sampler___init__ .nil (fun _ _ _ => .nil) tk (a_cons (e_v 0) a_nil) (hn := opNew_len rfl)))))
  (fun a => by
    have hrH := roomH_markM hr (some (.ref a))
    exact (s_cons (s_set (i := 3) sc.nd rfl (by first | exact .inl rfl | exact .inr rfl) (e_callW (dd := []) (dvs := []) (ds := []) (fnw_quiet (GW__law_error.mono (by omega))) (quiet_nox _) hrH hgd rfl C.g__law_error F__law_error.kp b__law_error .nil (fun _ _ _ => .nil) (a_cons (e_v 2) a_nil)))
  (s_one (s_ret (e_lstF (a_cons (e_v 3) (a_cons (e_callW (dd := []) (dvs := []) (ds := []) (fnw_quiet (GW__law_field.mono (by omega))) (quiet_nox _) hrH hgd rfl C.g__law_field F__law_field.kp b__law_field .nil (fun _ _ _ => .nil) (a_cons (e_v 2) (a_cons (e_v 3) a_nil))) a_nil))))))))
  (s_one (s_ret (e_v 1))))
theorem ok__law_letters (C : Cn K mg) {fd : FuncData} (Fd : FunD K "_law_letters" "_law_letters" (defArgs (top 54)) (defBody (top 54)) (defScope (top 54)) [] [] (He.ga K "_law_letters") fd) : FnG P w K mg base 2 (He.ga K "_law_letters") fd ["_law_pool_here", "_law_many"] (SPx K (He.ga K) k13__law_letters) := by
  have sc := sc__law_letters
  obtain ⟨fd__law_draw, F__law_draw⟩ := C.c.says.def_ 2 rfl
  have G__law_draw := ok__law_draw (P := P) (w := w) (base := base) C F__law_draw
  have b__law_draw : Binds K fd__law_draw ["_law_pool_here", "_law_many"] [] := F__law_draw.bindsN fun _ _ _ _ _ _ us hl => match us, hl with | [_, _], _ => rfl
  refine (fn_ok (k := 1) (N := N__law_letters) (b := B_k13__law_letters) Fd sc fun cdv A outer s H E hr hgd => ?_)
  have hu := hr.units
  have hu1 : (A.deeper (envOfC "_law_letters" (defScope (top 54)) s.heap.objs.size (He.ga K "_law_letters") cdv)).units + (64 + 1) < cLine := by have := hr.un; omega
  unfold B_k13__law_letters
  exact (s_cons (s_set (i := 2) sc.nd rfl (by first | exact .inl rfl | exact .inr rfl) e_str)
  (s_one (s_ret (e_m1 PySem.F.slot_str_join PySem.F.type_str_join (mr_join rfl) e_str (e_lcF (patOk_one (i := 3)) rfl rfl sc.nd (w_rng1 rfl C.f_range (a_cons (e_v 1) a_nil)) (blkOk_by (own := [("_law_turn", 3)]) (N := N__law_letters) (sc := (defScope (top 54))) (by decide +kernel)) (fun _ _ _ _ _ => (pg_name (i := 3) sc.nd rfl (by first | exact .inl rfl | exact .inr rfl))) (fun _ _ _ _ _ => ts_nil) (fun _ _ _ _ _ => (e_ix rfl (e_v 2) (e_call (dd := []) (dvs := []) (ds := []) (G__law_draw.mono (by omega)) hr hgd rfl C.g__law_draw F__law_draw.kp b__law_draw .nil (fun _ _ _ => .nil) takes0 (a_cons (e_v 0) (a_cons e_int a_nil))))))))))
theorem ok__law_tags (C : Cn K mg) {fd : FuncData} (Fd : FunD K "_law_tags" "_law_tags" (defArgs (top 55)) (defBody (top 55)) (defScope (top 55)) [] [] (He.ga K "_law_tags") fd) : FnG P w K mg base 3 (He.ga K "_law_tags") fd ["_law_pool_here"] (SPx K (He.ga K) k13__law_tags) := by
  have sc := sc__law_tags
  obtain ⟨fd__law_draw, F__law_draw⟩ := C.c.says.def_ 2 rfl
  have G__law_draw := ok__law_draw (P := P) (w := w) (base := base) C F__law_draw
  have b__law_draw : Binds K fd__law_draw ["_law_pool_here", "_law_many"] [] := F__law_draw.bindsN fun _ _ _ _ _ _ us hl => match us, hl with | [_, _], _ => rfl
  obtain ⟨fd__law_letters, F__law_letters⟩ := C.c.says.def_ 32 rfl
  have G__law_letters := ok__law_letters (P := P) (w := w) (base := base) C F__law_letters
  have b__law_letters : Binds K fd__law_letters ["_law_pool_here", "_law_many"] [] := F__law_letters.bindsN fun _ _ _ _ _ _ us hl => match us, hl with | [_, _], _ => rfl
  refine (fn_ok (k := 2) (N := N__law_tags) (b := B_k13__law_tags) Fd sc fun cdv A outer s H E hr hgd => ?_)
  have hu := hr.units
  have hu1 : (A.deeper (envOfC "_law_tags" (defScope (top 55)) s.heap.objs.size (He.ga K "_law_tags") cdv)).units + (64 + 1) < cLine := by have := hr.un; omega
  unfold B_k13__law_tags
  exact (s_cons (s_set (i := 1) sc.nd rfl (by first | exact .inl rfl | exact .inr rfl) (e_lstF (a_cons e_str (a_cons e_str (a_cons e_str (a_cons e_str (a_cons e_str (a_cons e_str (a_cons e_str (a_cons e_str (a_cons e_str (a_cons e_str (a_cons e_str (a_cons e_str a_nil))))))))))))))
  (s_cons (s_set (i := 1) sc.nd rfl (by first | exact .inl rfl | exact .inr rfl) (e_bin (or_add rfl) (e_v 1) (e_lstF (a_cons e_str (a_cons e_str a_nil)))))
  (s_cons (s_par (i := 2) (j := 3) rfl sc.nd rfl rfl (by decide) rfl rfl (a_cons (e_call (dd := []) (dvs := []) (ds := []) (G__law_draw.mono (by omega)) hr hgd rfl C.g__law_draw F__law_draw.kp b__law_draw .nil (fun _ _ _ => .nil) (takes_of rfl rfl rfl rfl) (a_cons (e_v 0) (a_cons e_int a_nil))) (a_cons (e_call (dd := []) (dvs := []) (ds := []) (G__law_draw.mono (by omega)) hr hgd rfl C.g__law_draw F__law_draw.kp b__law_draw .nil (fun _ _ _ => .nil) (takes_of rfl rfl rfl rfl) (a_cons (e_v 0) (a_cons e_int a_nil))) a_nil)) rfl)
  (s_cons (s_asg (e_tup (a_cons (e_call (dd := []) (dvs := []) (ds := []) (G__law_letters.mono (by omega)) hr hgd rfl C.g__law_letters F__law_letters.kp b__law_letters .nil (fun _ _ _ => .nil) (takes_of rfl rfl rfl rfl) (a_cons (e_v 0) (a_cons (e_v 3) a_nil))) (a_cons (e_call (dd := []) (dvs := []) (ds := []) (G__law_draw.mono (by omega)) hr hgd rfl C.g__law_draw F__law_draw.kp b__law_draw .nil (fun _ _ _ => .nil) (takes_of rfl rfl rfl rfl) (a_cons (e_v 0) (a_cons (e_bin (or_add rfl) (e_v 3) e_int) a_nil))) (a_cons (e_lst a_nil) a_nil)))) (g_tup (n := 3) rfl rfl (gs_name (i := 4) sc.nd rfl (by first | exact .inl rfl | exact .inr rfl) (gs_name (i := 5) sc.nd rfl (by first | exact .inl rfl | exact .inr rfl) (gs_name (i := 6) sc.nd rfl (by first | exact .inl rfl | exact .inr rfl) gs_nil gsNil_ne) (gsVar_ne gsNil_ne)) (gsVar_ne (gsVar_ne gsNil_ne)))))
  (s_cons (s_for (passes_of rfl) rfl (w_rng1 rfl C.f_range (a_cons e_int a_nil)) (g_name (i := 7) sc.nd rfl (by first | exact .inl rfl | exact .inr rfl)) (s_cons (s_if (t_cmp (or_eq rfl hu) (e_v 2) e_int) (s_one (s_set (i := 8) sc.nd rfl (by first | exact .inl rfl | exact .inr rfl) (e_call (dd := []) (dvs := []) (ds := []) (G__law_letters.mono (by omega)) hr hgd rfl C.g__law_letters F__law_letters.kp b__law_letters .nil (fun _ _ _ => .nil) (takes_of rfl rfl rfl rfl) (a_cons (e_v 0) (a_cons (e_bin (or_add rfl) e_int (e_call (dd := []) (dvs := []) (ds := []) (G__law_draw.mono (by omega)) hr hgd rfl C.g__law_draw F__law_draw.kp b__law_draw .nil (fun _ _ _ => .nil) (takes_of rfl rfl rfl rfl) (a_cons (e_v 0) (a_cons e_int a_nil)))) a_nil))))) (s_one (s_if (t_cmp (or_eq rfl hu) (e_v 2) e_int) (s_one (s_set (i := 8) sc.nd rfl (by first | exact .inl rfl | exact .inr rfl) (e_ix rfl (e_lstF (a_cons e_str (a_cons e_str (a_cons e_str (a_cons e_str (a_cons e_str (a_cons e_str (a_cons e_str (a_cons e_str a_nil))))))))) (e_call (dd := []) (dvs := []) (ds := []) (G__law_draw.mono (by omega)) hr hgd rfl C.g__law_draw F__law_draw.kp b__law_draw .nil (fun _ _ _ => .nil) (takes_of rfl rfl rfl rfl) (a_cons (e_v 0) (a_cons e_int a_nil)))))) (s_one (s_set (i := 8) sc.nd rfl (by first | exact .inl rfl | exact .inr rfl) (e_bin (or_add rfl) (e_bin (or_add rfl) (e_sl rfl (e_v 4) o_none (o_some (e_v 5))) (e_call (dd := []) (dvs := []) (ds := []) (G__law_letters.mono (by omega)) hr hgd rfl C.g__law_letters F__law_letters.kp b__law_letters .nil (fun _ _ _ => .nil) (takes_of rfl rfl rfl rfl) (a_cons (e_v 0) (a_cons e_int a_nil)))) (e_sl rfl (e_v 4) (o_some (e_v 5)) o_none)))))))
  (s_cons (s_if (t_ws (w_or (t_cmp (or_in rfl) (e_v 8) (e_v 1)) (w_or1 (t_cmp (or_in rfl) (e_v 8) (e_v 6))))) (s_one (s_set (i := 8) sc.nd rfl (by first | exact .inl rfl | exact .inr rfl) (e_ix rfl (e_lcF (patOk_one (i := 9)) rfl rfl sc.nd (w_any rfl (e_lcF (patOk_one (i := 10)) rfl rfl sc.nd (w_rng1 rfl C.f_range (a_cons e_int a_nil)) (blkOk_by (own := [("_law_j", 10)]) (N := N__law_tags) (sc := (defScope (top 55))) (by decide +kernel)) (fun _ _ _ _ _ => (pg_name (i := 10) sc.nd rfl (by first | exact .inl rfl | exact .inr rfl))) (fun _ _ _ _ _ => ts_nil) (fun _ _ _ _ _ => (e_bin (or_mulT rfl) e_str (e_bin (or_add rfl) (e_v 10) e_int))))) (blkOk_by (own := [("_law_spare", 9)]) (N := N__law_tags) (sc := (defScope (top 55))) (by decide +kernel)) (fun _ _ _ _ _ => (pg_name (i := 9) sc.nd rfl (by first | exact .inl rfl | exact .inr rfl))) (fun _ _ _ _ _ => (ts_one (t_cmp (or_notin rfl) (e_v 9) (e_v 6)))) (fun _ _ _ _ _ => (e_v 9))) e_int))) s_nil)
  (s_one (s_expr (e_ml (f := opAppend) rfl PySem.F.slot_list_append PySem.F.type_list_append mr_append (e_v 6) (a_cons (e_v 8) a_nil)))))))
  (s_one (s_ret (e_v 6))))))))
theorem ok__law_right (C : Cn K mg) {fd : FuncData} (Fd : FunD K "_law_right" "_law_right" (defArgs (top 62)) (defBody (top 62)) (defScope (top 62)) [] [] (He.ga K "_law_right") fd) : FnG P w K mg base 21 (He.ga K "_law_right") fd ["_law_pool_here"] (SPx K (He.ga K) k13__law_right) := by
  have sc := sc__law_right
  obtain ⟨fd__law_bent, F__law_bent⟩ := C.c.says.def_ 3 rfl
  have G__law_bent := ok__law_bent (P := P) (w := w) (base := base) C F__law_bent
  have b__law_bent : Binds K fd__law_bent ["_law_pool_here", "_law_word"] [] := F__law_bent.bindsN fun _ _ _ _ _ _ us hl => match us, hl with | [_, _], _ => rfl
  obtain ⟨fd__law_draw, F__law_draw⟩ := C.c.says.def_ 2 rfl
  have G__law_draw := ok__law_draw (P := P) (w := w) (base := base) C F__law_draw
  have b__law_draw : Binds K fd__law_draw ["_law_pool_here", "_law_many"] [] := F__law_draw.bindsN fun _ _ _ _ _ _ us hl => match us, hl with | [_, _], _ => rfl
  obtain ⟨fd__law_form_text, F__law_form_text⟩ := C.c.says.def_ 4 rfl
  have G__law_form_text := ok__law_form_text (P := P) (w := w) (base := base) C F__law_form_text
  have b__law_form_text : Binds K fd__law_form_text ["_law_form"] [] := F__law_form_text.bindsN fun _ _ _ _ _ _ us hl => match us, hl with | [_], _ => rfl
  obtain ⟨fd__law_is, F__law_is⟩ := C.c.says.def_ 28 rfl
  have G__law_is := ok__law_is (P := P) (w := w) (base := base) C F__law_is
  have b__law_is : Binds K fd__law_is ["_law_told", "_law_due"] [] := F__law_is.bindsN fun _ _ _ _ _ _ us hl => match us, hl with | [_, _], _ => rfl
  obtain ⟨fd__law_made, F__law_made⟩ := C.c.says.def_ 31 rfl
  have G__law_made := ok__law_made (P := P) (w := w) (base := base) C F__law_made
  have b__law_made : Binds K fd__law_made ["_law_told"] [] := F__law_made.bindsN fun _ _ _ _ _ _ us hl => match us, hl with | [_], _ => rfl
  obtain ⟨fd__law_tags, F__law_tags⟩ := C.c.says.def_ 33 rfl
  have G__law_tags := ok__law_tags (P := P) (w := w) (base := base) C F__law_tags
  have b__law_tags : Binds K fd__law_tags ["_law_pool_here"] [] := F__law_tags.bindsN fun _ _ _ _ _ _ us hl => match us, hl with | [_], _ => rfl
  refine (fn_ok (k := 20) (N := N__law_right) (b := B_k13__law_right) Fd sc fun cdv A outer s H E hr hgd => ?_)
  have hu := hr.units
  have hu1 : (A.deeper (envOfC "_law_right" (defScope (top 62)) s.heap.objs.size (He.ga K "_law_right") cdv)).units + (64 + 1) < cLine := by have := hr.un; omega
  unfold B_k13__law_right
  exact (s_cons (s_par3 (i := 1) (j := 2) (l := 3) rfl sc.nd rfl rfl rfl (by decide) (by decide) (by decide) rfl rfl rfl (a_cons (e_call (dd := []) (dvs := []) (ds := []) (G__law_draw.mono (by omega)) hr hgd rfl C.g__law_draw F__law_draw.kp b__law_draw .nil (fun _ _ _ => .nil) (takes_of rfl rfl rfl rfl) (a_cons (e_v 0) (a_cons e_int a_nil))) (a_cons (e_call (dd := []) (dvs := []) (ds := []) (G__law_draw.mono (by omega)) hr hgd rfl C.g__law_draw F__law_draw.kp b__law_draw .nil (fun _ _ _ => .nil) (takes_of rfl rfl rfl rfl) (a_cons (e_v 0) (a_cons e_int a_nil))) (a_cons (e_bin or_sub (e_call (dd := []) (dvs := []) (ds := []) (G__law_draw.mono (by omega)) hr hgd rfl C.g__law_draw F__law_draw.kp b__law_draw .nil (fun _ _ _ => .nil) (takes_of rfl rfl rfl rfl) (a_cons (e_v 0) (a_cons e_int a_nil))) e_int) a_nil))) rfl)
  (s_cons (s_set (i := 4) sc.nd rfl (by first | exact .inl rfl | exact .inr rfl) (e_call (dd := []) (dvs := []) (ds := []) (G__law_form_text.mono (by omega)) hr hgd rfl C.g__law_form_text F__law_form_text.kp b__law_form_text .nil (fun _ _ _ => .nil) (takes_of rfl rfl rfl rfl) (a_cons (e_tup (a_cons (e_v 2) (a_cons (e_v 3) a_nil))) a_nil)))
  (s_cons (s_if (t_cmp (or_eq rfl hu) (e_v 1) e_int) (s_one (s_set (i := 4) sc.nd rfl (by first | exact .inl rfl | exact .inr rfl) (e_call (dd := []) (dvs := []) (ds := []) (G__law_bent.mono (by omega)) hr hgd rfl C.g__law_bent F__law_bent.kp b__law_bent .nil (fun _ _ _ => .nil) (takes_of rfl rfl rfl rfl) (a_cons (e_v 0) (a_cons (e_v 4) a_nil))))) s_nil)
  (s_cons (s_setLcF (i := 5) (patOk_one (i := 11)) rfl rfl sc.nd rfl rfl (sw_true (by rfl) (by rfl) (by rfl) (by rfl)) (w_rng1 rfl C.f_range (a_cons e_int a_nil)) (blkOk_by (own := [("_law_k", 11)]) (N := N__law_right) (sc := (defScope (top 62))) (by decide +kernel)) (fun _ _ _ _ _ => (pg_name (i := 11) sc.nd rfl (by first | exact .inl rfl | exact .inr rfl))) (fun _ _ _ _ _ => ts_nil) (fun _ _ _ _ _ => (e_call (dd := []) (dvs := []) (ds := []) (G__law_form_text.mono (by omega)) hr hgd rfl C.g__law_form_text F__law_form_text.kp b__law_form_text .nil (fun _ _ _ => .nil) takes0 (a_cons (e_tup (a_cons (e_bin or_fdiv (e_v 11) e_int) (a_cons (e_bin or_sub (e_bin or_mod (e_callTy cr_int rfl C.f_int (by decide +kernel) (a_cons (e_v 11) a_nil)) e_int) e_int) a_nil))) a_nil))))
  (s_cons (s_set (i := 6) sc.nd rfl (by first | exact .inl rfl | exact .inr rfl) (e_ix rfl (e_call (dd := []) (dvs := []) (ds := []) (G__law_tags.mono (by omega)) hr hgd rfl C.g__law_tags F__law_tags.kp b__law_tags .nil (fun _ _ _ => .nil) (takes_of rfl rfl rfl rfl) (a_cons (e_v 0) a_nil)) (e_call (dd := []) (dvs := []) (ds := []) (G__law_draw.mono (by omega)) hr hgd rfl C.g__law_draw F__law_draw.kp b__law_draw .nil (fun _ _ _ => .nil) (takes_of rfl rfl rfl rfl) (a_cons (e_v 0) (a_cons e_int a_nil)))))
  (s_cons (s_set (i := 7) sc.nd rfl (by first | exact .inl rfl | exact .inr rfl) (e_bin (or_add rfl) (e_bin (or_add rfl) (e_bin (or_add rfl) (e_bin (or_add rfl) (e_bin (or_add rfl) (e_bin (or_add rfl) e_str (e_v 6)) e_str) (e_v 6)) e_str) (e_v 4)) e_str))
  (s_cons (s_set (i := 8) sc.nd rfl (by first | exact .inl rfl | exact .inr rfl) (e_bin (or_add rfl) (e_bin (or_add rfl) (e_bin (or_add rfl) (e_bin (or_add rfl) e_str (e_v 6)) e_str) (e_v 4)) e_str))
  (s_cons (s_if (t_cmp (or_notin rfl) (e_v 4) (e_v 5)) (s_one (s_ret (e_and rfl (e_call (dd := []) (dvs := []) (ds := []) (G__law_is.mono (by omega)) hr hgd rfl C.g__law_is F__law_is.kp b__law_is .nil (fun _ _ _ => .nil) (takes_of rfl rfl rfl rfl) (a_cons (e_call (dd := []) (dvs := []) (ds := []) (G__law_made.mono (by omega)) hr hgd rfl C.g__law_made F__law_made.kp b__law_made .nil (fun _ _ _ => .nil) (takes_of rfl rfl rfl rfl) (a_cons (e_v 7) a_nil)) (a_cons (e_lstF (a_cons e_int (a_cons (e_v 7) a_nil))) a_nil))) (e_one (e_call (dd := []) (dvs := []) (ds := []) (G__law_is.mono (by omega)) hr hgd rfl C.g__law_is F__law_is.kp b__law_is .nil (fun _ _ _ => .nil) (takes_of rfl rfl rfl rfl) (a_cons (e_call (dd := []) (dvs := []) (ds := []) (G__law_made.mono (by omega)) hr hgd rfl C.g__law_made F__law_made.kp b__law_made .nil (fun _ _ _ => .nil) (takes_of rfl rfl rfl rfl) (a_cons (e_v 8) a_nil)) (a_cons (e_lstF (a_cons e_int (a_cons (e_v 8) a_nil))) a_nil))))))) s_nil)
  (s_cons (s_set (i := 9) sc.nd rfl (by first | exact .inl rfl | exact .inr rfl) (e_ml (f := opIndexT) rfl PySem.F.slot_list_index PySem.F.type_list_index (mr_indexT rfl hu) (e_v 5) (a_cons (e_v 4) a_nil)))
  (s_cons (s_set (i := 10) sc.nd rfl (by first | exact .inl rfl | exact .inr rfl) (e_cmp or_lt (e_bin or_sub (e_bin (or_add rfl) (e_bin or_fdiv (e_v 9) e_int) (e_bin or_mod (e_callTy cr_int rfl C.f_int (by decide +kernel) (a_cons (e_v 9) a_nil)) e_int)) e_int) e_int))
  (s_one (s_ret (e_and rfl (e_call (dd := []) (dvs := []) (ds := []) (G__law_is.mono (by omega)) hr hgd rfl C.g__law_is F__law_is.kp b__law_is .nil (fun _ _ _ => .nil) (takes_of rfl rfl rfl rfl) (a_cons (e_call (dd := []) (dvs := []) (ds := []) (G__law_made.mono (by omega)) hr hgd rfl C.g__law_made F__law_made.kp b__law_made .nil (fun _ _ _ => .nil) (takes_of rfl rfl rfl rfl) (a_cons (e_v 7) a_nil)) (a_cons (e_v 7) a_nil))) (e_one (e_call (dd := []) (dvs := []) (ds := []) (G__law_is.mono (by omega)) hr hgd rfl C.g__law_is F__law_is.kp b__law_is .nil (fun _ _ _ => .nil) (takes_of rfl rfl rfl rfl) (a_cons (e_call (dd := []) (dvs := []) (ds := []) (G__law_made.mono (by omega)) hr hgd rfl C.g__law_made F__law_made.kp b__law_made .nil (fun _ _ _ => .nil) (takes_of rfl rfl rfl rfl) (a_cons (e_v 8) a_nil)) (a_cons (e_if (t_tru rfl (e_v 10)) (e_lstF (a_cons e_int (a_cons e_int a_nil))) (e_v 8)) a_nil)))))))))))))))))
theorem ok_law (C : Cn K mg) {fd : FuncData} (Fd : FunD K "law" "law" (defArgs (top 63)) (defBody (top 63)) (defScope (top 63)) [] [] (He.ga K "law") fd) : FnG P w K mg base 22 (He.ga K "law") fd ["_law_cells"] (SPx K (He.ga K) k13_law) := by
  have sc := sc_law
  obtain ⟨fd__law_cell, F__law_cell⟩ := C.c.says.def_ 0 rfl
  have G__law_cell := ok__law_cell (P := P) (w := w) (base := base) C F__law_cell
  have b__law_cell : Binds K fd__law_cell ["_law_cells", "_law_k"] [] := F__law_cell.bindsN fun _ _ _ _ _ _ us hl => match us, hl with | [_, _], _ => rfl
  obtain ⟨fd__law_pool, F__law_pool⟩ := C.c.says.def_ 1 rfl
  have G__law_pool := ok__law_pool (P := P) (w := w) (base := base) C F__law_pool
  have b__law_pool : Binds K fd__law_pool ["_law_cell_here"] [] := F__law_pool.bindsN fun _ _ _ _ _ _ us hl => match us, hl with | [_], _ => rfl
  obtain ⟨fd__law_right, F__law_right⟩ := C.c.says.def_ 34 rfl
  have G__law_right := ok__law_right (P := P) (w := w) (base := base) C F__law_right
  have b__law_right : Binds K fd__law_right ["_law_pool_here"] [] := F__law_right.bindsN fun _ _ _ _ _ _ us hl => match us, hl with | [_], _ => rfl
  refine (fn_ok (k := 21) (N := N_law) (b := B_k13_law) Fd sc fun cdv A outer s H E hr hgd => ?_)
  have hu := hr.units
  have hu1 : (A.deeper (envOfC "law" (defScope (top 63)) s.heap.objs.size (He.ga K "law") cdv)).units + (64 + 1) < cLine := by have := hr.un; omega
  unfold B_k13_law
  exact (s_one (s_ret (e_callB (cr_allL rfl rfl) rfl C.f_all (by decide +kernel) (a_cons (e_lcF (patOk_one (i := 1)) rfl rfl sc.nd (w_rng1 rfl C.f_range (a_cons (e_callB (cr_max rfl) rfl C.f_max (by decide +kernel) (a_cons e_int (a_cons (e_callB (cr_min rfl) rfl C.f_min (by decide +kernel) (a_cons (e_callB (cr_len rfl) rfl C.f_len (by decide +kernel) (a_cons (e_v 0) a_nil)) (a_cons e_int a_nil))) a_nil))) a_nil)) (blkOk_by (own := [("_law_k", 1)]) (N := N_law) (sc := (defScope (top 63))) (by decide +kernel)) (fun _ _ _ _ _ => (pg_name (i := 1) sc.nd rfl (by first | exact .inl rfl | exact .inr rfl))) (fun _ _ _ _ _ => ts_nil) (fun _ _ _ _ _ => (e_call (dd := []) (dvs := []) (ds := []) (G__law_right.mono (by omega)) hr hgd rfl C.g__law_right F__law_right.kp b__law_right .nil (fun _ _ _ => .nil) takes0 (a_cons (e_call (dd := []) (dvs := []) (ds := []) (G__law_pool.mono (by omega)) hr hgd rfl C.g__law_pool F__law_pool.kp b__law_pool .nil (fun _ _ _ => .nil) takes0 (a_cons (e_call (dd := []) (dvs := []) (ds := []) (G__law_cell.mono (by omega)) hr hgd rfl C.g__law_cell F__law_cell.kp b__law_cell .nil (fun _ _ _ => .nil) takes0 (a_cons (e_v 0) (a_cons (e_v 1) a_nil))) a_nil)) a_nil)))) a_nil))))
end
end M
/-! the head, the end -/
namespace M
open PySem PySem.W PySem.Calls PyProof.Rows
theorem facts_ {P : Program} {w : World} {K : PySem.W.Frag} {h : Heap} {mg : Str → Option Value} {f : Addr} (X : K.In h) (G : h.Ns mainGlobals mg) (hfa : mg ("law" : Str) = some (.ref f)) (c : SaysP bB_ fa_ fn_ pd_ K) :
    ∃ fd : FuncData, (∀ (s : Shared) (v : Value), BindsTo s fd ⟨[v], []⟩ [("_law_cells", v)]) ∧ ∀ base : Heap, FnG P w K mg base 22 f fd ["_law_cells"] (SPx K (He.ga K) k13_law) := by
  have C : Cn K mg := ⟨c, h, X, G⟩
  obtain ⟨fd, F⟩ := c.says.def_ 35 rfl
  have e := hfa.symm.trans C.g_law
  cases e
  have b := L2.FunD.bindsA (ps := ["_law_cells"]) F fun _ _ _ _ _ _ us hl => match us, hl with | [_], _ => rfl
  exact ⟨fd, fun s v => b s [v] rfl, fun base => ok_law C F⟩
end M
open PySem PySem.W PySem.Calls PyProof.Rows
theorem PySem.Challenge.cw_evenkeeps_k13_forms_in_texts_holds : PySem.Challenge.rw_evenkeeps_k13_forms_in_texts.Holds := by
  w_on; o_law
  refine HandSHeadRun.head_any (r := M.R_) (q := M.qv_) (H := M.hk_) (ob := M.ob_) (M := 9000) (loose := M.names_) (d := HandSHeadRun.topDef M.R_.prog 63) (kwd := []) M.ob_eq_
    (by kernel_rfl) (fun s => by kernel_rfl) M.run_ (by kernel_rfl) (by kernel_rfl) (by kernel_rfl) (by rfl) (by first | assumption | decide +kernel) (by decide +kernel) ⟨rfl, rfl, rfl, rfl, rfl, by decide +kernel⟩ ?hw ?hc
  case hw => w_witness2
  case hc =>
    refine M.walk_ofM (l := PySem.Challenge.rw_evenkeeps_k13_forms_in_texts) (n := 63) (k := 22) (x := "_law_cells") (f := M.k13_law) rfl (by decide) (by kernel_rfl) ⟨rfl, by decide, by decide⟩ ?F M.law_k13
    intro w mg fa h Y G hmg0
    obtain ⟨K, KX, c⟩ := Y
    have hmg : mg ("law" : PySem.Str) = some (.ref fa) := by
      have e : (HandSHeadRun.topDef M.R_.prog 63).name = ("law" : PySem.Str) := by kernel_rfl
      rw [← e]
      exact hmg0
    obtain ⟨fd, hb, hF⟩ := M.facts_ (P := M.R_.prog) (w := w) KX G hmg c
    exact ⟨K, fd, KX, hb, hF⟩
