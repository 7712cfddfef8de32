import PyProof.Rows.All
import Wide.All
import OpenK.AllK
import Wide.FinOn
import HandS.ForMost
import HandS.Exc
import HandS.ExcOwn
import HandS.TryOnly
import HandS.WordsExc
import HandS.Wide
import HandS.More
import HandS.IsInst
import HandS.Evl
import KE.KDictKeyed
import KE.KDictDisplayH
import KE.KeyNested
import KE.DatumIndex
import HandS.TupAny
import PyProof.Rows.NestShow
import HandS.WordsDict
import HandS.CallSlots
import HandS.Small
import HandS.ExcInit
import HandS.ExcField
import KE.KExcSuper
import HandS.Ends
import HandS.Defaults
import PySem.Challenge.RW_leastwait_k74_capped
section
set_option Elab.async false
set_option linter.all false
set_option maxRecDepth 100000
set_option maxHeartbeats 4000000
/-! The data layer: what defs do to data, as plain functions. -/
namespace DL
open PySem PySem.Spec PyProof.Rows L2

/-- data: what never changes, references to what may, bound methods and defs by their numbers -/
inductive D where
  | non | bl (b : Bool) | int (i : Int) | str (s : Str)
  | tup (xs : List D) | lst (xs : List D)
  | ref (n : Nat) | met (f : Nat) (x : D) | fn (f : Nat) | scr (ns : List Int)
  deriving Inhabited
/-- what may change -/
inductive MO where
  | lst (xs : List D) | dic (t : Bool) (kvs : List (D × D)) | ins (c : Nat) (fs : List (Str × D))
abbrev Sl := List (Option D)
abbrev MH := List MO
/-- an exception: its class's number, its fields -/
structure Xn where
  c : Nat
  fs : List (Str × D)
inductive ER (α : Type) where
  | val (a : α) (h : MH) | exc (x : Xn) (h : MH) | bad
inductive SR where
  | nxt (ds : Sl) (h : MH) | ret (d : D) (h : MH) | brk (ds : Sl) (h : MH) | cnt (ds : Sl) (h : MH) | exc (x : Xn) (ds : Sl) (h : MH) | bad
def ER.bind {α β : Type} (r : ER α) (f : α → MH → ER β) : ER β := match r with
  | .val a h => f a h
  | .exc x h => .exc x h
  | .bad => .bad
/-- the numbers' addresses: defs, classes -/
structure Tg where
  fa : Nat → Addr
  ca : Nat → Addr
structure GE where
  K : PySem.W.Frag
  P : Program
  w : World
  T : Tg
abbrev ge (X : Cx) (T : Tg) : GE := ⟨X.K, X.prog, X.w, T⟩
/-- what stands for good, where the changeable things stand -/
structure Wd where
  Fz : Hp
  rho : List Addr
def Wd.le (W W' : Wd) : Prop := Evl.Ex W.Fz W'.Fz ∧ ∃ t, W'.rho = W.rho ++ t
theorem Wd.le.refl (W : Wd) : W.le W := ⟨Evl.Ex.refl _, [], (List.append_nil _).symm⟩
theorem Wd.le.trans {A B C : Wd} (x : A.le B) (y : B.le C) : A.le C := by
  obtain ⟨e1, t1, q1⟩ := x
  obtain ⟨e2, t2, q2⟩ := y
  exact ⟨e1.trans e2, t1 ++ t2, by rw [q2, q1, List.append_assoc]⟩

mutual
/-- a value stands for a datum -/
inductive RD (G : GE) (W : Wd) : D → V → Prop where
  | non : RD G W .non .non
  | bl (b : Bool) : RD G W (.bl b) (.bl b)
  | int (i : Int) : RD G W (.int i) (.int i)
  | str (s : Str) : RD G W (.str s) (.str s)
  | tup {a : Addr} {xs : List V} {ds : List D} : SqT G.K W.Fz a xs → RDs G W ds xs → RD G W (.tup ds) (.ref a)
  | lst {a : Addr} {xs : List V} {ds : List D} : W.Fz a = some (.lst xs) → RDs G W ds xs → RD G W (.lst ds) (.ref a)
  | scr {a : Addr} {ns : List Int} : SqL G.K W.Fz a (ns.map V.int) → RD G W (.scr ns) (.ref a)
  | ref {n : Nat} {a : Addr} : W.rho[n]? = some a → RD G W (.ref n) (.ref a)
  | met {f : Nat} {d : D} {a x : Addr} : W.Fz a = some (.met (G.T.fa f) x) → RD G W d (.ref x) → RD G W (.met f d) (.ref a)
  | fn {f : Nat} : RD G W (.fn f) (.ref (G.T.fa f))
inductive RDs (G : GE) (W : Wd) : List D → List V → Prop where
  | nil : RDs G W [] []
  | cons {d : D} {v : V} {ds : List D} {vs : List V} : RD G W d v → RDs G W ds vs → RDs G W (d :: ds) (v :: vs)
end
section
variable {G : GE} {W W' : Wd}
mutual
theorem RD.mono (l : W.le W') : ∀ (d : D) (v : V), RD G W d v → RD G W' d v
  | .non, _, h => by cases h; exact .non
  | .bl _, _, h => by cases h; exact .bl _
  | .int _, _, h => by cases h; exact .int _
  | .str _, _, h => by cases h; exact .str _
  | .tup ds, _, h => by
    cases h with
    | tup a b => exact .tup (Evl.ex_t l.1 a) (RDs.mono l ds _ b)
  | .lst ds, _, h => by
    cases h with
    | lst a b => exact .lst (l.1 _ _ a) (RDs.mono l ds _ b)
  | .ref n, _, h => by
    cases h with
    | ref e =>
      obtain ⟨_, t, q⟩ := l
      refine .ref ?_
      rw [q]
      rw [List.getElem?_append_left (List.getElem?_eq_some_iff.mp e).1]
      exact e
  | .met f d, _, h => by
    cases h with
    | met a b => exact .met (l.1 _ _ a) (RD.mono l d _ b)
  | .fn f, _, h => by cases h; exact .fn
  | .scr ns, _, h => by
    cases h with
    | scr a => exact .scr (Evl.ex_l l.1 a)
theorem RDs.mono (l : W.le W') : ∀ (ds : List D) (vs : List V), RDs G W ds vs → RDs G W' ds vs
  | [], _, h => by cases h; exact .nil
  | d :: ds, _, h => by
    cases h with
    | cons a b => exact .cons (RD.mono l d _ a) (RDs.mono l ds _ b)
end
theorem RD.up {d : D} {v : V} (h : RD G W d v) (l : W.le W') : RD G W' d v := RD.mono l d v h
theorem RDs.up {ds : List D} {vs : List V} (h : RDs G W ds vs) (l : W.le W') : RDs G W' ds vs := RDs.mono l ds vs h
theorem RDs.length : ∀ {ds : List D} {vs : List V}, RDs G W ds vs → ds.length = vs.length
  | _, _, .nil => rfl
  | _, _, .cons _ b => by rw [List.length_cons, List.length_cons, RDs.length b]
theorem RDs.get : ∀ {ds : List D} {vs : List V} {i : Nat} {d : D}, RDs G W ds vs → ds[i]? = some d → ∃ v, vs[i]? = some v ∧ RD G W d v
  | _, _, _, _, .nil, e => by simp at e
  | _, _, 0, _, .cons a _, e => by
    simp at e
    subst e
    exact ⟨_, rfl, a⟩
  | _, _, i + 1, _, .cons _ b, e => by
    obtain ⟨v, h1, h2⟩ := RDs.get (i := i) b (by simpa using e)
    exact ⟨v, by simpa using h1, h2⟩
theorem RDs.append : ∀ {ds es : List D} {vs us : List V}, RDs G W ds vs → RDs G W es us → RDs G W (ds ++ es) (vs ++ us)
  | _, _, _, _, .nil, b => b
  | _, _, _, _, .cons x a, b => .cons x (RDs.append a b)
theorem RDs.set {d : D} {v : V} (r : RD G W d v) : ∀ {ds : List D} {vs : List V} (i : Nat), RDs G W ds vs → RDs G W (ds.set i d) (vs.set i v)
  | _, _, _, .nil => .nil
  | _, _, 0, .cons _ b => .cons r b
  | _, _, i + 1, .cons a b => .cons a (RDs.set r i b)
theorem RDs.take : ∀ {ds : List D} {vs : List V} (n : Nat), RDs G W ds vs → RDs G W (ds.take n) (vs.take n)
  | _, _, 0, _ => .nil
  | _, _, _ + 1, .nil => .nil
  | _, _, n + 1, .cons a b => .cons a (RDs.take n b)
theorem RDs.drop : ∀ {ds : List D} {vs : List V} (n : Nat), RDs G W ds vs → RDs G W (ds.drop n) (vs.drop n)
  | _, _, 0, r => r
  | _, _, _ + 1, .nil => .nil
  | _, _, n + 1, .cons _ b => RDs.drop n b
end

/-! ### keys of dicts -/
def kOf : D → Option Key
  | .int i => some (.inl i)
  | .str s => some (.inr s)
  | _ => none
mutual
def nkOf : D → Option NestedKey
  | .non => some .none
  | .int i => some (.num i)
  | .str s => some (.text s)
  | .tup ds => match nksOf ds with
    | some ks => some (.tup ks)
    | none => none
  | _ => none
def nksOf : List D → Option (List NestedKey)
  | [] => some []
  | d :: ds => match nkOf d, nksOf ds with
    | some k, some ks => some (k :: ks)
    | _, _ => none
end
/-- a dict whose keys are tuples, by its entries -/
def tabP (P : Program) (w : World) (a : Addr) (xs : List (NestedKey × Addr × Value)) (h : Heap) : Prop :=
  xs.length ≤ sizeLine ∧ (a == sysModules) = false ∧ (xs.map (·.1)).Nodup ∧ ∃ o es ep, h.get? a = some o ∧ o.ExactDict ∧ o.data = .dict es ep ∧ es.toList = xs.map (entryOfKey (nestedKind P w))
def tabO (P : Program) (w : World) (a : Addr) (xs : List (NestedKey × Addr × Value)) : HO := .ext (tabP P w a xs)

/-- a changeable thing -/
inductive RO (G : GE) (W : Wd) (a : Addr) : MO → HO → Prop where
  | lst {ds : List D} {xs : List V} : RDs G W ds xs → RO G W a (.lst ds) (.lst xs)
  | dK {kvs : List (D × D)} {es : List (Key × V)} : Paired (fun p q => kOf p.1 = some q.1 ∧ RD G W p.2 q.2) kvs es → RO G W a (.dic false kvs) (.dK es)
  | dT {kvs : List (D × D)} {xs : List (NestedKey × Addr × Value)} : Paired (fun p q => nkOf p.1 = some q.1 ∧ q.1.depth ≤ 8 ∧ RD G W p.1 (.ref q.2.1) ∧ ∃ v, RelV v q.2.2 ∧ RD G W p.2 v) kvs xs → RO G W a (.dic true kvs) (tabO G.P G.w a xs)
  | ins {c : Nat} {dx : Addr} {fs : List (Str × D)} {gs : List (Str × V)} : Paired (fun p q => p.1 = q.1 ∧ RD G W p.2 q.2) fs gs → RO G W a (.ins c fs) (.ins (G.T.ca c) dx gs)
theorem RO.mono {G : GE} {W W' : Wd} {a : Addr} {o : MO} {ho : HO} (l : W.le W') (h : RO G W a o ho) : RO G W' a o ho := by
  cases h with
  | lst h => exact .lst (h.up l)
  | dK h => exact .dK (Paired.mapP h fun _ _ z => ⟨z.1, z.2.up l⟩)
  | dT h => exact .dT (Paired.mapP h fun _ _ ⟨z1, z0, z2, v, z3, z4⟩ => ⟨z1, z0, z2.up l, v, z3, z4.up l⟩)
  | ins h => exact .ins (Paired.mapP h fun _ _ z => ⟨z.1, z.2.up l⟩)

/-- the heap bears the changeable things -/
structure HR (G : GE) (h : MH) (H : Hp) (W : Wd) : Prop where
  fz : Evl.Ex W.Fz H
  len : W.rho.length = h.length
  nd : W.rho.Nodup
  nf : ∀ a ∈ W.rho, W.Fz a = none
  ob : ∀ (n : Nat) (o : MO), h[n]? = some o → ∃ a ho, W.rho[n]? = some a ∧ H a = some ho ∧ RO G W a o ho
/-- the slots bear the names' data -/
def FR (G : GE) (W : Wd) (ds : Sl) (σ : L2.St) : Prop := ds.length = σ.length ∧ ∀ (i : Nat) (d : D), ds[i]? = some (some d) → ∃ v, σ[i]? = some (some v) ∧ RD G W d v
theorem FR.up {G : GE} {W W' : Wd} {ds : Sl} {σ : L2.St} (h : FR G W ds σ) (l : W.le W') : FR G W' ds σ := ⟨h.1, fun i d e => by
  obtain ⟨v, h1, h2⟩ := h.2 i d e
  exact ⟨v, h1, h2.up l⟩⟩
theorem FR.set {G : GE} {W : Wd} {ds : Sl} {σ : L2.St} {d : D} {v : V} (h : FR G W ds σ) (r : RD G W d v) (i : Nat) : FR G W (ds.set i (some d)) (σ.set i (some v)) := by
  refine ⟨by rw [List.length_set, List.length_set, h.1], fun j e q => ?_⟩
  by_cases hj : i = j
  · subst hj
    by_cases hl : i < ds.length
    · rw [List.getElem?_set_self hl] at q
      have q' : d = e := Option.some.inj (Option.some.inj q)
      subst q'
      exact ⟨v, List.getElem?_set_self (by rw [← h.1]; exact hl), r⟩
    · rw [List.getElem?_eq_none (by rw [List.length_set]; omega)] at q
      cases q
  · rw [List.getElem?_set_ne hj] at q ⊢
    exact h.2 j e q
/-- an exception that has left -/
def RX (G : GE) (W : Wd) (x : Xn) (cls : Value) (dd : Option Addr) (H : Hp) : Prop :=
  cls = .ref (G.T.ca x.c) ∧ ((x.fs = [] ∧ dd = none) ∨ ∃ a gs, dd = some a ∧ H a = some (.xd gs) ∧ Paired (fun p q => p.1 = q.1 ∧ RD G W p.2 q.2) x.fs gs)

/-! ### what is wanted of an outcome -/
def Post {α β : Type} (G : GE) (Rl : Wd → α → β → Prop) (W : Wd) (r : ER α) (Q : β → Hp → Prop) (E : XK) : Prop := match r with
  | .val d h => ∀ v H W', W.le W' → HR G h H W' → Rl W' d v → Q v H
  | .exc x h => ∀ cls dd H W', W.le W' → HR G h H W' → RX G W' x cls dd H → E cls dd H
  | .bad => False
theorem Post.up {α β : Type} {G : GE} {Rl : Wd → α → β → Prop} {W W' : Wd} {r : ER α} {Q : β → Hp → Prop} {E : XK} (p : Post G Rl W r Q E) (l : W.le W') : Post G Rl W' r Q E := by
  cases r with
  | val d h => exact fun v H W2 l2 => p v H W2 (l.trans l2)
  | exc x h => exact fun c d H W2 l2 => p c d H W2 (l.trans l2)
  | bad => exact p
theorem Post.imp {α β : Type} {G : GE} {Rl : Wd → α → β → Prop} {W : Wd} {r : ER α} {Q Q' : β → Hp → Prop} {E E' : XK} (p : Post G Rl W r Q E) (hq : ∀ v H, Q v H → Q' v H) (he : ∀ c d H, E c d H → E' c d H) : Post G Rl W r Q' E' := by
  cases r with
  | val d h => exact fun v H W2 l2 a b => hq v H (p v H W2 l2 a b)
  | exc x h => exact fun c d H W2 l2 a b => he c d H (p c d H W2 l2 a b)
  | bad => exact p
/-- a reading by a plain function -/
def tR {α β : Type} (G : GE) (Rl : Wd → α → β → Prop) (Wx : WX) (c : Sl → MH → ER α) : L2.St → Hp → (β → Hp → Prop) → Prop := fun σ H Q =>
  ∃ W ds h, FR G W ds σ ∧ HR G h H W ∧ Post G Rl W (c ds h) Q (fun cls dd H' => Wx cls dd σ H')
abbrev tE (G : GE) (Wx : WX) (c : Sl → MH → ER D) : TE := tR G (RD G) Wx c
abbrev tA (G : GE) (Wx : WX) (c : Sl → MH → ER (List D)) : TA := tR G (RDs G) Wx c
abbrev tT (G : GE) (Wx : WX) (c : Sl → MH → ER Bool) : TT := tR G (fun _ (b b' : Bool) => b = b') Wx c
theorem tR_bind {α β γ δ : Type} {G : GE} {Ra : Wd → α → β → Prop} {Rb : Wd → γ → δ → Prop} {Wx : WX} {c : Sl → MH → ER α} {k : Sl → α → MH → ER γ} {R : β → Hp → Prop} {Q : δ → Hp → Prop} {σ : L2.St} {H : Hp}
    (h : tR G Rb Wx (fun ds h => (c ds h).bind (k ds)) σ H Q)
    (hR : ∀ W ds h d v H, FR G W ds σ → HR G h H W → Ra W d v → Post G Rb W (k ds d h) Q (fun cls dd H' => Wx cls dd σ H') → R v H) : tR G Ra Wx c σ H R := by
  obtain ⟨W, ds, h, f, r, p⟩ := h
  refine ⟨W, ds, h, f, r, ?_⟩
  dsimp only [ER.bind] at p
  cases e : c ds h with
  | val d h1 =>
    rw [e] at p
    exact fun v H1 W1 l r1 rv => hR W1 ds h1 d v H1 (f.up l) r1 rv (p.up l)
  | exc x h1 =>
    rw [e] at p
    exact p
  | bad =>
    rw [e] at p
    exact p
/-- the first value, kept while the second is made -/
theorem tR_bind2 {α β α' β' γ δ : Type} {G : GE} {Ra : Wd → α → β → Prop} {Rb : Wd → α' → β' → Prop} {Rc : Wd → γ → δ → Prop} {Wx : WX} {c : Sl → MH → ER α} {c' : Sl → MH → ER α'} {k : Sl → α → α' → MH → ER γ} {R : β → β' → Hp → Prop} {Q : δ → Hp → Prop} {σ : L2.St} {H : Hp}
    (mono : ∀ W W' d v, W.le W' → Ra W d v → Ra W' d v)
    (h : tR G Rc Wx (fun ds h => (c ds h).bind fun x h1 => (c' ds h1).bind fun y h2 => k ds x y h2) σ H Q)
    (hR : ∀ W ds h d e v u H, FR G W ds σ → HR G h H W → Ra W d v → Rb W e u → Post G Rc W (k ds d e h) Q (fun cls dd H' => Wx cls dd σ H') → R v u H) :
    tR G Ra Wx c σ H (fun v H1 => tR G Rb Wx c' σ H1 (fun u H2 => R v u H2)) := by
  refine tR_bind (k := fun ds x h1 => (c' ds h1).bind fun y h2 => k ds x y h2) h fun W ds h d v H1 f r ra p => ?_
  refine ⟨W, ds, h, f, r, ?_⟩
  dsimp only [ER.bind] at p
  cases e : c' ds h with
  | val d' h1 =>
    rw [e] at p
    exact fun u H2 W2 l r2 ru => hR W2 ds h1 d d' v u H2 (f.up l) r2 (mono W W2 d v l ra) ru (p.up l)
  | exc x h1 =>
    rw [e] at p
    exact p
  | bad =>
    rw [e] at p
    exact p
theorem rd_mono {G : GE} : ∀ W W' d v, Wd.le W W' → RD G W d v → RD G W' d v := fun _ _ _ _ l h => h.up l
/-- .. of statements -/
def PostS (G : GE) (W : Wd) (r : SR) (D : Ends) (Wx : WX) : Prop := match r with
  | .nxt ds h => ∀ σ H W', W.le W' → FR G W' ds σ → HR G h H W' → D.nx σ H
  | .ret d h => ∀ v H W', W.le W' → HR G h H W' → RD G W' d v → D.rt v H
  | .brk ds h => ∀ σ H W', W.le W' → FR G W' ds σ → HR G h H W' → D.bk σ H
  | .cnt ds h => ∀ σ H W', W.le W' → FR G W' ds σ → HR G h H W' → D.ct σ H
  | .exc x ds h => ∀ cls dd σ H W', W.le W' → FR G W' ds σ → HR G h H W' → RX G W' x cls dd H → Wx cls dd σ H
  | .bad => False
theorem PostS.up {G : GE} {W W' : Wd} {r : SR} {D : Ends} {Wx : WX} (p : PostS G W r D Wx) (l : W.le W') : PostS G W' r D Wx := by
  cases r with
  | nxt ds h => exact fun σ H W2 l2 => p σ H W2 (l.trans l2)
  | ret d h => exact fun v H W2 l2 => p v H W2 (l.trans l2)
  | brk ds h => exact fun σ H W2 l2 => p σ H W2 (l.trans l2)
  | cnt ds h => exact fun σ H W2 l2 => p σ H W2 (l.trans l2)
  | exc x ds h => exact fun c d σ H W2 l2 => p c d σ H W2 (l.trans l2)
  | bad => exact p
def tS (G : GE) (Wx : WX) (c : Sl → MH → SR) : TS := fun D σ H => ∃ W ds h, FR G W ds σ ∧ HR G h H W ∧ PostS G W (c ds h) D Wx
/-- a block's outcome goes on -/
def SR.bind (r : SR) (f : Sl → MH → SR) : SR := match r with
  | .nxt ds h => f ds h
  | .ret d h => .ret d h
  | .brk ds h => .brk ds h
  | .cnt ds h => .cnt ds h
  | .exc x ds h => .exc x ds h
  | .bad => .bad
/-- a value's outcome goes on in a statement whose slots are ds -/
def ER.bindS {α : Type} (r : ER α) (ds : Sl) (f : α → MH → SR) : SR := match r with
  | .val a h => f a h
  | .exc x h => .exc x ds h
  | .bad => .bad
theorem tS_bindE {α β : Type} {G : GE} {Ra : Wd → α → β → Prop} {Wx : WX} {c : Sl → MH → ER α} {k : Sl → α → MH → SR} {R : β → Hp → Prop} {D : Ends} {σ : L2.St} {H : Hp}
    (h : tS G Wx (fun ds h => (c ds h).bindS ds (k ds)) D σ H)
    (hR : ∀ W ds h d v H, FR G W ds σ → HR G h H W → Ra W d v → PostS G W (k ds d h) D Wx → R v H) : tR G Ra Wx c σ H R := by
  obtain ⟨W, ds, h, f, r, p⟩ := h
  refine ⟨W, ds, h, f, r, ?_⟩
  dsimp only [ER.bindS] at p
  cases e : c ds h with
  | val d h1 =>
    rw [e] at p
    exact fun v H1 W1 l r1 rv => hR W1 ds h1 d v H1 (f.up l) r1 rv (p.up l)
  | exc x h1 =>
    rw [e] at p
    exact fun cls dd H1 W1 l r1 rx => p cls dd σ H1 W1 l (f.up l) r1 rx
  | bad =>
    rw [e] at p
    exact p
theorem tS_bindE2 {α β α' β' : Type} {G : GE} {Ra : Wd → α → β → Prop} {Rb : Wd → α' → β' → Prop} {Wx : WX} {c : Sl → MH → ER α} {c' : Sl → MH → ER α'} {k : Sl → α → α' → MH → SR} {R : β → β' → Hp → Prop} {D : Ends} {σ : L2.St} {H : Hp}
    (mono : ∀ W W' d v, W.le W' → Ra W d v → Ra W' d v)
    (h : tS G Wx (fun ds h => (c ds h).bindS ds fun x h1 => (c' ds h1).bindS ds fun y h2 => k ds x y h2) D σ H)
    (hR : ∀ W ds h d e v u H, FR G W ds σ → HR G h H W → Ra W d v → Rb W e u → PostS G W (k ds d e h) D Wx → R v u H) :
    tR G Ra Wx c σ H (fun v H1 => tR G Rb Wx c' σ H1 (fun u H2 => R v u H2)) := by
  refine tS_bindE (k := fun ds x h1 => (c' ds h1).bindS ds fun y h2 => k ds x y h2) h fun W ds h d v H1 f r ra p => ?_
  refine ⟨W, ds, h, f, r, ?_⟩
  dsimp only [ER.bindS] at p
  cases e : c' ds h with
  | val d' h1 =>
    rw [e] at p
    exact fun u H2 W2 l r2 ru => hR W2 ds h1 d d' v u H2 (f.up l) r2 (mono W W2 d v l ra) ru (p.up l)
  | exc x h1 =>
    rw [e] at p
    exact fun cls dd H2 W2 l r2 rx => p cls dd σ H2 W2 l (f.up l) r2 rx
  | bad =>
    rw [e] at p
    exact p

/-! ### weakening -/
theorem PE.weak {X : Cx} {e : Expr} {t t' : TE} (h : PE X e t) (hw : ∀ σ H Q, t' σ H Q → t σ H Q) : PE X e t' := ⟨fun pins s σ H Q I z => h.run pins s σ H Q I (hw _ _ _ z)⟩
theorem PT.weak {X : Cx} {e : Expr} {t t' : TT} (h : PT X e t) (hw : ∀ σ H Q, t' σ H Q → t σ H Q) : PT X e t' := ⟨fun pins s σ H Q I z => h.run pins s σ H Q I (hw _ _ _ z)⟩
theorem PW.weak {X : Cx} {e : Expr} {t t' : TT} (h : PW X e t) (hw : ∀ σ H Q, t' σ H Q → t σ H Q) : PW X e t' := ⟨fun wh pins s σ H Q I z => h.run wh pins s σ H Q I (hw _ _ _ z)⟩
theorem PA.weak {X : Cx} {es : List Expr} {t t' : TA} (h : PA X es t) (hw : ∀ σ H Q, t' σ H Q → t σ H Q) : PA X es t' := ⟨fun pos pins s σ H Q I z => h.run pos pins s σ H Q I (hw _ _ _ z)⟩
theorem PS.weak {X : Cx} {e : Stmt} {t t' : TS} (h : PS X e t) (hw : ∀ D σ H, t' D σ H → t D σ H) : PS X e t' := ⟨fun pins s σ H D I z => h.run pins s σ H D I (hw _ _ _ z)⟩
theorem PSs.weak {X : Cx} {e : List Stmt} {t t' : TS} (h : PSs X e t) (hw : ∀ D σ H, t' D σ H → t D σ H) : PSs X e t' := ⟨fun pins s σ H D I z => h.run pins s σ H D I (hw _ _ _ z)⟩
end DL
end
section
set_option Elab.async false
set_option linter.all false
set_option maxRecDepth 100000
set_option maxHeartbeats 4000000
namespace DL
open PySem PySem.Spec PyProof.Rows L2

/-! ### new things -/
section
variable {G : GE} {h : MH} {H : Hp} {W : Wd} {p : Addr}
theorem HR.free (r : HR G h H W) (hp : H p = none) : W.Fz p = none ∧ p ∉ W.rho := by
  refine ⟨Evl.fresh_back r.fz hp, fun hm => ?_⟩
  obtain ⟨n, hn⟩ := List.mem_iff_getElem?.mp hm
  have hl : n < h.length := by rw [← r.len]; exact (List.getElem?_eq_some_iff.mp hn).1
  obtain ⟨a, ho, e1, e2, _⟩ := r.ob n h[n] (List.getElem?_eq_getElem hl)
  rw [hn] at e1
  cases e1
  rw [hp] at e2
  cases e2
/-- what nobody asks of -/
theorem HR.junk (r : HR G h H W) (hp : H p = none) {o : HO} : HR G h (upd H p o) W :=
  ⟨r.fz.trans (Evl.Ex.new hp), r.len, r.nd, r.nf, fun n o e => by
    obtain ⟨a, ho, e1, e2, e3⟩ := r.ob n o e
    exact ⟨a, ho, e1, by rw [upd_ne (ne_of_none e2 hp)]; exact e2, e3⟩⟩
/-- a new thing for good -/
def Wd.add (W : Wd) (p : Addr) (o : HO) : Wd := ⟨upd W.Fz p o, W.rho⟩
theorem HR.add (r : HR G h H W) (hp : H p = none) (o : HO) : W.le (W.add p o) ∧ HR G h (upd H p o) (W.add p o) := by
  obtain ⟨f1, f2⟩ := r.free hp
  have l : W.le (W.add p o) := ⟨Evl.Ex.new f1, [], (List.append_nil _).symm⟩
  refine ⟨l, fun a u e => ?_, r.len, r.nd, fun a ha => ?_, fun n o' e => ?_⟩
  · by_cases q : a = p
    · subst q
      have e' : upd W.Fz a o a = some u := e
      rw [upd_same] at e' ⊢
      exact e'
    · have e' : upd W.Fz p o a = some u := e
      rw [upd_ne q] at e' ⊢
      exact r.fz a u e'
  · show upd W.Fz p o a = none
    rw [upd_ne (fun q => f2 (by rw [← q]; exact ha))]
    exact r.nf a ha
  · obtain ⟨a, ho, e1, e2, e3⟩ := r.ob n o' e
    exact ⟨a, ho, e1, by rw [upd_ne (ne_of_none e2 hp)]; exact e2, e3.mono l⟩
/-- a new changeable thing: its number is the heap's length -/
def Wd.put (W : Wd) (p : Addr) : Wd := ⟨W.Fz, W.rho ++ [p]⟩
theorem Wd.le_put (W : Wd) (p : Addr) : W.le (W.put p) := ⟨Evl.Ex.refl _, [p], rfl⟩
theorem HR.put (r : HR G h H W) (hp : H p = none) {o : MO} {ho : HO} (ro : RO G (W.put p) p o ho) : HR G (h ++ [o]) (upd H p ho) (W.put p) := by
  obtain ⟨f1, f2⟩ := r.free hp
  refine ⟨r.fz.trans (Evl.Ex.new hp), ?_, ?_, fun a ha => ?_, fun n o' e => ?_⟩
  · show (W.rho ++ [p]).length = _
    rw [List.length_append, List.length_append, r.len]
    rfl
  · show (W.rho ++ [p]).Nodup
    refine List.nodup_append.mpr ⟨r.nd, by simp, fun a ha b hb => ?_⟩
    have : b = p := by simpa using hb
    rw [this]
    exact fun q => f2 (by rw [← q]; exact ha)
  · rcases List.mem_append.mp (show a ∈ W.rho ++ [p] from ha) with ha | ha
    · exact r.nf a ha
    · have q : a = p := by simpa using ha
      rw [q]
      exact f1
  · by_cases hn : n < h.length
    · rw [List.getElem?_append_left hn] at e
      obtain ⟨a, ho', e1, e2, e3⟩ := r.ob n o' e
      refine ⟨a, ho', ?_, by rw [upd_ne (ne_of_none e2 hp)]; exact e2, e3.mono (W.le_put p)⟩
      show (W.rho ++ [p])[n]? = some a
      rw [List.getElem?_append_left (by rw [r.len]; exact hn)]
      exact e1
    · have hn' : n = h.length := by
        have := (List.getElem?_eq_some_iff.mp e).1
        rw [List.length_append] at this
        simp at this
        omega
      subst hn'
      rw [List.getElem?_append_right (Nat.le_refl _), Nat.sub_self] at e
      have e' : o = o' := by simpa using e
      subst e'
      refine ⟨p, ho, ?_, upd_same, ro⟩
      show (W.rho ++ [p])[h.length]? = some p
      rw [← r.len, List.getElem?_append_right (Nat.le_refl _), Nat.sub_self]
      rfl
theorem HR.putNo (r : HR G h H W) : (W.put p).rho[h.length]? = some p := by
  show (W.rho ++ [p])[h.length]? = some p
  rw [← r.len, List.getElem?_append_right (Nat.le_refl _), Nat.sub_self]
  rfl
/-- a changeable thing is changed -/
theorem HR.write (r : HR G h H W) {n : Nat} {a : Addr} {o' : MO} {ho' : HO} (hn : W.rho[n]? = some a) (ro : RO G W a o' ho') : HR G (h.set n o') (upd H a ho') W := by
  have hnf : W.Fz a = none := r.nf a (List.mem_iff_getElem?.mpr ⟨n, hn⟩)
  refine ⟨fun b u e => ?_, by rw [List.length_set]; exact r.len, r.nd, r.nf, fun m o e => ?_⟩
  · rw [upd_ne (ne_of_none e hnf)]
    exact r.fz b u e
  · by_cases hm : n = m
    · subst hm
      have hl : n < h.length := by
        have := (List.getElem?_eq_some_iff.mp e).1
        rw [List.length_set] at this
        exact this
      rw [List.getElem?_set_self hl] at e
      have e' := Option.some.inj e
      subst e'
      exact ⟨a, ho', hn, upd_same, ro⟩
    · rw [List.getElem?_set_ne hm] at e
      obtain ⟨b, ho, e1, e2, e3⟩ := r.ob m o e
      refine ⟨b, ho, e1, ?_, e3⟩
      rw [upd_ne fun q => hm ?_]
      · exact e2
      · subst q
        obtain ⟨i1, j1⟩ := List.getElem?_eq_some_iff.mp hn
        obtain ⟨i2, j2⟩ := List.getElem?_eq_some_iff.mp e1
        exact (List.getElem_inj r.nd).mp (j1.trans j2.symm)
theorem HR.at_ (r : HR G h H W) {n : Nat} {o : MO} {a : Addr} (e : h[n]? = some o) (hn : W.rho[n]? = some a) : ∃ ho, H a = some ho ∧ RO G W a o ho := by
  obtain ⟨b, ho, e1, e2, e3⟩ := r.ob n o e
  rw [hn] at e1
  cases e1
  exact ⟨ho, e2, e3⟩
end

/-! ### operations by values -/
def ofO {α : Type} (o : Option α) (h : MH) : ER α := match o with
  | some d => .val d h
  | none => .bad
def c1 (f : MH → D → Option D) (ca : Sl → MH → ER D) : Sl → MH → ER D := fun ds h => (ca ds h).bind fun x h1 => ofO (f h1 x) h1
def c2 (f : MH → D → D → Option D) (ca cb : Sl → MH → ER D) : Sl → MH → ER D := fun ds h => (ca ds h).bind fun x h1 => (cb ds h1).bind fun y h2 => ofO (f h2 x y) h2
def cn (f : MH → List D → Option D) (cs : Sl → MH → ER (List D)) : Sl → MH → ER D := fun ds h => (cs ds h).bind fun xs h1 => ofO (f h1 xs) h1
/-- the answer z is on hand in any state behind -/
def Fin (G : GE) (W : Wd) (h : MH) (z : D) (Q : VK) : Prop := ∀ v H' W', W.le W' → HR G h H' W' → RD G W' z v → Q v H'
theorem Fin.here {G : GE} {W : Wd} {h : MH} {z : D} {Q : VK} {v : V} {H : Hp} (q : Fin G W h z Q) (r : HR G h H W) (rd : RD G W z v) : Q v H := q v H W (.refl W) r rd
theorem Fin.newT {G : GE} {W : Wd} {h : MH} {ds : List D} {Q : VK} {vs : List V} {H : Hp} {p : Addr} (q : Fin G W h (.tup ds) Q) (r : HR G h H W) (hp : H p = none) (rs : RDs G W ds vs) : Q (.ref p) (upd H p (.tup vs)) := by
  obtain ⟨l, r2⟩ := r.add hp (.tup vs)
  exact q _ _ _ l r2 (.tup (Evl.st_of upd_same) (rs.up l))
theorem Fin.newL {G : GE} {W : Wd} {h : MH} {ds : List D} {Q : VK} {vs : List V} {H : Hp} {p : Addr} (q : Fin G W h (.lst ds) Q) (r : HR G h H W) (hp : H p = none) (rs : RDs G W ds vs) : Q (.ref p) (upd H p (.lst vs)) := by
  obtain ⟨l, r2⟩ := r.add hp (.lst vs)
  exact q _ _ _ l r2 (.lst upd_same (rs.up l))
def G1 (G : GE) (f : MH → D → Option D) : V → Hp → VK → Prop := fun x H Q => ∃ W h d z, HR G h H W ∧ RD G W d x ∧ f h d = some z ∧ Fin G W h z Q
def G2 (G : GE) (f : MH → D → D → Option D) : R2 := fun x y H Q => ∃ W h d e z, HR G h H W ∧ RD G W d x ∧ RD G W e y ∧ f h d e = some z ∧ Fin G W h z Q
def Gn (G : GE) (f : MH → List D → Option D) : List V → Hp → VK → Prop := fun xs H Q => ∃ W h ds z, HR G h H W ∧ RDs G W ds xs ∧ f h ds = some z ∧ Fin G W h z Q
theorem g1_of {G : GE} {f : MH → D → Option D} {W : Wd} {h : MH} {d : D} {v : V} {H : Hp} {Q : VK} {E : XK} (r : HR G h H W) (rd : RD G W d v) (p : Post G (RD G) W (ofO (f h d) h) Q E) : G1 G f v H Q := by
  unfold ofO at p
  cases e : f h d with
  | some z =>
    rw [e] at p
    exact ⟨W, h, d, z, r, rd, e, p⟩
  | none =>
    rw [e] at p
    exact p.elim
theorem g2_of {G : GE} {f : MH → D → D → Option D} {W : Wd} {h : MH} {d e : D} {v u : V} {H : Hp} {Q : VK} {E : XK} (r : HR G h H W) (rd : RD G W d v) (re : RD G W e u) (p : Post G (RD G) W (ofO (f h d e) h) Q E) : G2 G f v u H Q := by
  unfold ofO at p
  cases q : f h d e with
  | some z =>
    rw [q] at p
    exact ⟨W, h, d, e, z, r, rd, re, q, p⟩
  | none =>
    rw [q] at p
    exact p.elim
theorem gn_of {G : GE} {f : MH → List D → Option D} {W : Wd} {h : MH} {ds : List D} {vs : List V} {H : Hp} {Q : VK} {E : XK} (r : HR G h H W) (rd : RDs G W ds vs) (p : Post G (RD G) W (ofO (f h ds) h) Q E) : Gn G f vs H Q := by
  unfold ofO at p
  cases q : f h ds with
  | some z =>
    rw [q] at p
    exact ⟨W, h, ds, z, r, rd, q, p⟩
  | none =>
    rw [q] at p
    exact p.elim
theorem rds_mono {G : GE} : ∀ W W' d v, Wd.le W W' → RDs G W d v → RDs G W' d v := fun _ _ _ _ l h => h.up l

section
variable {X : Cx} {T : Tg} {Wx : WX} {a b e : Expr} {es : List Expr} {ca cb : Sl → MH → ER D} {cs : Sl → MH → ER (List D)} {pos : Pos}

/-! ### names and constants -/
def cVar (i : Nat) : Sl → MH → ER D := fun ds h => match ds[i]? with
  | some (some d) => .val d h
  | _ => .bad
def cC (d : D) : Sl → MH → ER D := fun _ h => .val d h
theorem me_var {i : Nat} {x : Str} {pos : Pos} (hN : X.N[i]? = some x := by rfl) (hv : Vis X.env.scope x := by first | exact Or.inl rfl | exact Or.inr (Or.inl rfl) | exact Or.inr (Or.inr rfl)) (hd : (x == ("__debug__" : Str)) = false := by decide)
    (hcd : (x == ("__classdict__" : Str)) = false := by decide) : PE X (.Name x pos) (tE (ge X T) Wx (cVar i)) := by
  refine PE.weak (pe_var hN hv hd hcd) fun σ H Q h => ?_
  obtain ⟨W, ds, h, f, r, p⟩ := h
  unfold cVar at p
  cases e : ds[i]? with
  | none =>
    rw [e] at p
    exact p.elim
  | some o =>
    cases o with
    | none =>
      rw [e] at p
      exact p.elim
    | some d =>
      rw [e] at p
      obtain ⟨v, h1, h2⟩ := f.2 i d e
      exact ⟨v, h1, p v H W (.refl W) r h2⟩
theorem me_c {d : D} {v : V} (he : PE X e (tC v)) (rd : ∀ W, RD (ge X T) W d v) : PE X e (tE (ge X T) Wx (cC d)) := by
  refine PE.weak he fun σ H Q h => ?_
  obtain ⟨W, ds, h, f, r, p⟩ := h
  exact p v H W (.refl W) r (rd W)
theorem me_int {i j pos} : PE X (.Constant (.int i) j pos) (tE (ge X T) Wx (cC (.int i))) := me_c pe_int fun _ => .int i
theorem me_bl {i j pos} : PE X (.Constant (.bool i) j pos) (tE (ge X T) Wx (cC (.bl i))) := me_c pe_bl fun _ => .bl i
theorem me_non {j pos} : PE X (.Constant .none j pos) (tE (ge X T) Wx (cC .non)) := me_c pe_non fun _ => .non
theorem me_str {x j pos} : PE X (.Constant (.str x) j pos) (tE (ge X T) Wx (cC (.str x))) := me_c pe_str fun _ => .str x
/-- a constant of the module -/
theorem me_glob {x : Str} {d : D} {v : V} {u : Value} {pos : Pos} (hm : X.mg x = some u) (r : RelV v u) (rd : ∀ W, RD (ge X T) W d v) (hg : Gl X x := by rfl) (hd : (x == ("__debug__" : Str)) = false := by decide) : PE X (.Name x pos) (tE (ge X T) Wx (cC d)) :=
  me_c (pe_glob hg hm r hd) rd

/-! ### operators -/
def Op2 (X : Cx) (T : Tg) (fv : Value → Value → Sem Value) (f : MH → D → D → Option D) : Prop := OpR X fv (G2 (ge X T) f)
def Op1 (X : Cx) (T : Tg) (fv : Value → Sem Value) (f : MH → D → Option D) : Prop := UnR X fv (G1 (ge X T) f)
theorem me_op {op : Operator} {f : MH → D → D → Option D} (ho : Op2 X T (binaryOp op) f) (ha : PE X a (tE (ge X T) Wx ca)) (hb : PE X b (tE (ge X T) Wx cb)) : PE X (.BinOp a op b pos) (tE (ge X T) Wx (c2 f ca cb)) :=
  PE.weak (pe_op ho ha hb) fun σ H Q h => tR_bind2 rd_mono (k := fun _ x y h2 => ofO (f h2 x y) h2) h fun W ds h d e v u H _ r rd re p => g2_of r rd re p
theorem me_un {op : UnaryOp} {f : MH → D → Option D} (ho : Op1 X T (unaryOp op) f) (ha : PE X a (tE (ge X T) Wx ca)) : PE X (.UnaryOp op a pos) (tE (ge X T) Wx (c1 f ca)) :=
  PE.weak (pe_un ho ha) fun σ H Q h => tR_bind (k := fun _ x h2 => ofO (f h2 x) h2) h fun W ds h d v H _ r rd p => g1_of r rd p
theorem me_cmp {op : CmpOp} {f : MH → D → D → Option D} (ho : Op2 X T (compareOp op) f) (ha : PE X a (tE (ge X T) Wx ca)) (hb : PE X b (tE (ge X T) Wx cb)) (hm : behindInMarks op b = false := by first | exact nomark _ | rfl) : PE X (.Compare a [op] [b] pos) (tE (ge X T) Wx (c2 f ca cb)) :=
  PE.weak (pe_cmpR ho ha hb hm) fun σ H Q h => tR_bind2 rd_mono (k := fun _ x y h2 => ofO (f h2 x y) h2) h fun W ds h d e v u H _ r rd re p => g2_of r rd re p
/-- a value as a test -/
def cB (c : Sl → MH → ER D) : Sl → MH → ER Bool := fun ds h => (c ds h).bind fun x h1 => match x with
  | .bl k => .val k h1
  | _ => .bad
theorem tB_of {σ : L2.St} {H : Hp} {Q : Bool → Hp → Prop} {c : Sl → MH → ER D} {R : VK} (h : tT (ge X T) Wx (cB c) σ H Q) (hR : ∀ k H1, Q k H1 → R (.bl k) H1) : tE (ge X T) Wx c σ H R := by
  refine tR_bind (k := fun _ x h1 => match x with
    | .bl k => .val k h1
    | _ => .bad) h fun W ds h d v H _ r rd p => ?_
  cases d with
  | bl k =>
    cases rd
    exact hR k H (p k H W (.refl W) r rfl)
  | _ => exact False.elim p
theorem mt_cmp {op : CmpOp} {f : MH → D → D → Option D} (ho : Op2 X T (compareOp op) f) (ha : PE X a (tE (ge X T) Wx ca)) (hb : PE X b (tE (ge X T) Wx cb)) (hm : behindInMarks op b = false := by first | exact nomark _ | rfl) : PT X (.Compare a [op] [b] pos) (tT (ge X T) Wx (cB (c2 f ca cb))) := by
  refine PT.weak (pt_cmpR ho ha hb hm) fun σ H Q h => ?_
  have h' := tB_of (R := fun x H1 => ∃ k, x = .bl k ∧ Q k H1) h fun k H1 q => ⟨k, rfl, q⟩
  exact tR_bind2 rd_mono (k := fun _ x y h2 => ofO (f h2 x y) h2) h' fun W ds h d e v u H _ r rd re p => g2_of r rd re p
theorem mt_val (ha : PE X e (tE (ge X T) Wx ca)) (he : ∀ whole, isTrue e X.env whole = (do let v ← whole; standAt e.pos; holding [v] (truthy v)) := by intro _; rfl) : PT X e (tT (ge X T) Wx (cB ca)) :=
  PT.weak (pt_val ha he) fun σ H Q h => tB_of (R := fun x H1 => ∃ k, x = .bl k ∧ Q k H1) h fun k H1 q => ⟨k, rfl, q⟩

/-! ### and, or, not, if else -/
variable {ta tb : Sl → MH → ER Bool} {rest : List Expr}
def cAnd (c d : Sl → MH → ER Bool) : Sl → MH → ER Bool := fun ds h => (c ds h).bind fun k h1 => if k = true then d ds h1 else .val false h1
def cOr (c d : Sl → MH → ER Bool) : Sl → MH → ER Bool := fun ds h => (c ds h).bind fun k h1 => if k = true then .val true h1 else d ds h1
def cNot (c : Sl → MH → ER Bool) : Sl → MH → ER Bool := fun ds h => (c ds h).bind fun k h1 => .val (!k) h1
theorem mt_and (ha : PT X a (tT (ge X T) Wx ta)) (hb : PW X (.BoolOp .And (b :: rest) pos) (tT (ge X T) Wx tb)) : PW X (.BoolOp .And (a :: b :: rest) pos) (tT (ge X T) Wx (cAnd ta tb)) := by
  refine PW.weak (pw_and ha hb) fun σ H Q h => tR_bind (k := fun ds k h1 => if k = true then tb ds h1 else .val false h1) h fun W ds h d v H f r rd p => ?_
  subst rd
  cases d with
  | true => exact ⟨W, ds, h, f, r, p⟩
  | false => exact p false H W (.refl W) r rfl
theorem mt_or (ha : PT X a (tT (ge X T) Wx ta)) (hb : PW X (.BoolOp .Or (b :: rest) pos) (tT (ge X T) Wx tb)) : PW X (.BoolOp .Or (a :: b :: rest) pos) (tT (ge X T) Wx (cOr ta tb)) := by
  refine PW.weak (pw_or ha hb) fun σ H Q h => tR_bind (k := fun ds k h1 => if k = true then .val true h1 else tb ds h1) h fun W ds h d v H f r rd p => ?_
  subst rd
  cases d with
  | true => exact p true H W (.refl W) r rfl
  | false => exact ⟨W, ds, h, f, r, p⟩
theorem mt_and1 (ha : PT X a (tT (ge X T) Wx ta)) : PW X (.BoolOp .And [a] pos) (tT (ge X T) Wx ta) := pw_and1 ha
theorem mt_or1 (ha : PT X a (tT (ge X T) Wx ta)) : PW X (.BoolOp .Or [a] pos) (tT (ge X T) Wx ta) := pw_or1 ha
theorem mt_not (ha : PT X a (tT (ge X T) Wx ta)) : PT X (.UnaryOp .Not a pos) (tT (ge X T) Wx (cNot ta)) := by
  refine PT.weak (pt_not ha) fun σ H Q h => tR_bind (k := fun ds k h1 => .val (!k) h1) h fun W ds h d v H f r rd p => ?_
  subst rd
  exact p _ H W (.refl W) r rfl
/-- .. as values: all but the last are bools -/
def cAndV (c d : Sl → MH → ER D) : Sl → MH → ER D := fun ds h => (c ds h).bind fun x h1 => match x with
  | .bl true => d ds h1
  | .bl false => .val (.bl false) h1
  | _ => .bad
def cOrV (c d : Sl → MH → ER D) : Sl → MH → ER D := fun ds h => (c ds h).bind fun x h1 => match x with
  | .bl true => .val (.bl true) h1
  | .bl false => d ds h1
  | _ => .bad
def cNotV (c : Sl → MH → ER D) : Sl → MH → ER D := fun ds h => (c ds h).bind fun x h1 => match x with
  | .bl k => .val (.bl (!k)) h1
  | _ => .bad
theorem me_one {op} (ha : PE X a (tE (ge X T) Wx ca)) : PE X (.BoolOp op [a] pos) (tE (ge X T) Wx ca) := pe_one ha
theorem me_and (ha : PE X a (tE (ge X T) Wx ca)) (hb : PE X (.BoolOp .And (b :: rest) pos) (tE (ge X T) Wx cb)) : PE X (.BoolOp .And (a :: b :: rest) pos) (tE (ge X T) Wx (cAndV ca cb)) := by
  refine PE.weak (pe_and ha hb) fun σ H Q h => tR_bind (k := fun ds x h1 => match x with
    | .bl true => cb ds h1
    | .bl false => .val (.bl false) h1
    | _ => .bad) h fun W ds h d v H f r rd p => ?_
  cases d with
  | bl k =>
    cases rd
    refine ⟨k, rfl, ?_⟩
    cases k with
    | true => exact ⟨W, ds, h, f, r, p⟩
    | false => exact p _ H W (.refl W) r (.bl false)
  | _ => exact False.elim p
theorem me_or (ha : PE X a (tE (ge X T) Wx ca)) (hb : PE X (.BoolOp .Or (b :: rest) pos) (tE (ge X T) Wx cb)) : PE X (.BoolOp .Or (a :: b :: rest) pos) (tE (ge X T) Wx (cOrV ca cb)) := by
  refine PE.weak (pe_or ha hb) fun σ H Q h => tR_bind (k := fun ds x h1 => match x with
    | .bl true => .val (.bl true) h1
    | .bl false => cb ds h1
    | _ => .bad) h fun W ds h d v H f r rd p => ?_
  cases d with
  | bl k =>
    cases rd
    refine ⟨k, rfl, ?_⟩
    cases k with
    | true => exact p _ H W (.refl W) r (.bl true)
    | false => exact ⟨W, ds, h, f, r, p⟩
  | _ => exact False.elim p
theorem me_not (ha : PE X a (tE (ge X T) Wx ca)) : PE X (.UnaryOp .Not a pos) (tE (ge X T) Wx (cNotV ca)) := by
  refine PE.weak (pe_not ha) fun σ H Q h => tR_bind (k := fun ds x h1 => (match x with
    | .bl k => .val (.bl (!k)) h1
    | _ => .bad : ER D)) h fun W ds h d v H f r rd p => ?_
  cases d with
  | bl k =>
    cases rd
    exact ⟨k, rfl, p _ H W (.refl W) r (.bl _)⟩
  | _ => exact False.elim p
def cIf (t : Sl → MH → ER Bool) (c d : Sl → MH → ER D) : Sl → MH → ER D := fun ds h => (t ds h).bind fun k h1 => if k = true then c ds h1 else d ds h1
theorem me_if {c : Expr} (hc : PT X c (tT (ge X T) Wx ta)) (ha : PE X a (tE (ge X T) Wx ca)) (hb : PE X b (tE (ge X T) Wx cb)) : PE X (.IfExp c a b pos) (tE (ge X T) Wx (cIf ta ca cb)) := by
  refine PE.weak (pe_ifExp hc ha hb) fun σ H Q h => tR_bind (k := fun ds k h1 => if k = true then ca ds h1 else cb ds h1) h fun W ds h d v H f r rd p => ?_
  subst rd
  cases d with
  | true => exact ⟨W, ds, h, f, r, p⟩
  | false => exact ⟨W, ds, h, f, r, p⟩

/-! ### argument lists, displays -/
def cNil : Sl → MH → ER (List D) := fun _ h => .val [] h
def cCons (c : Sl → MH → ER D) (cs : Sl → MH → ER (List D)) : Sl → MH → ER (List D) := fun ds h => (c ds h).bind fun x h1 => (cs ds h1).bind fun xs h2 => .val (x :: xs) h2
theorem ma_nil : PA X [] (tA (ge X T) Wx cNil) := by
  refine PA.weak pa_nil fun σ H Q h => ?_
  obtain ⟨W, ds, h, f, r, p⟩ := h
  exact p [] H W (.refl W) r .nil
theorem ma_cons (ha : PE X e (tE (ge X T) Wx ca)) (hr : PA X es (tA (ge X T) Wx cs)) (hs : starEach (e :: es) X.env = (false, eval e X.env) :: starEach es X.env := by rfl) : PA X (e :: es) (tA (ge X T) Wx (cCons ca cs)) :=
  PA.weak (pa_cons ha hr hs) fun σ H Q h => tR_bind2 rd_mono (k := fun _ x xs h2 => .val (x :: xs) h2) h fun W ds h d e v u H _ r rd re p => p _ H W (.refl W) r (.cons rd re)
def cTup (cs : Sl → MH → ER (List D)) : Sl → MH → ER D := fun ds h => (cs ds h).bind fun xs h1 => if xs.length ≤ 1000 then .val (.tup xs) h1 else .bad
theorem le_line {n : Nat} (h : n ≤ 1000) : n ≤ sizeLine := Nat.le_trans h (by decide)
theorem me_tup {k} (ha : PA X es (tA (ge X T) Wx cs)) : PE X (.Tuple es k pos) (tE (ge X T) Wx (cTup cs)) := by
  refine PE.weak (pe_tup ha) fun σ H Q h => tR_bind (k := fun ds xs h1 => (if xs.length ≤ 1000 then .val (.tup xs) h1 else .bad : ER D)) h fun W ds h d v H f r rd p => ?_
  by_cases hl : d.length ≤ 1000
  · rw [if_pos hl] at p
    exact ⟨by rw [← rd.length]; exact le_line hl, fun q hq => Fin.newT p r hq rd⟩
  · rw [if_neg hl] at p
    exact p.elim
/-- a written list, never changed | one that may be -/
def cLst (cs : Sl → MH → ER (List D)) : Sl → MH → ER D := fun ds h => (cs ds h).bind fun xs h1 => if xs.length ≤ 1000 then .val (.lst xs) h1 else .bad
def cLstM (cs : Sl → MH → ER (List D)) : Sl → MH → ER D := fun ds h => (cs ds h).bind fun xs h1 => if xs.length ≤ 1000 then .val (.ref h1.length) (h1 ++ [.lst xs]) else .bad
theorem me_lst (ha : PA X es (tA (ge X T) Wx cs)) : PE X (.List es pos) (tE (ge X T) Wx (cLst cs)) := by
  refine PE.weak (pe_lst ha) fun σ H Q h => tR_bind (k := fun ds xs h1 => (if xs.length ≤ 1000 then .val (.lst xs) h1 else .bad : ER D)) h fun W ds h d v H f r rd p => ?_
  by_cases hl : d.length ≤ 1000
  · rw [if_pos hl] at p
    exact ⟨by rw [← rd.length]; exact le_line hl, fun q hq => Fin.newL p r hq rd⟩
  · rw [if_neg hl] at p
    exact p.elim
theorem me_lstM (ha : PA X es (tA (ge X T) Wx cs)) : PE X (.List es pos) (tE (ge X T) Wx (cLstM cs)) := by
  refine PE.weak (pe_lst ha) fun σ H Q h => tR_bind (k := fun ds xs h1 => (if xs.length ≤ 1000 then .val (.ref h1.length) (h1 ++ [.lst xs]) else .bad : ER D)) h fun W ds h d v H f r rd p => ?_
  by_cases hl : d.length ≤ 1000
  · rw [if_pos hl] at p
    exact ⟨by rw [← rd.length]; exact le_line hl, fun q hq => p _ _ _ (W.le_put q) (r.put hq (.lst (rd.up (W.le_put q)))) (.ref r.putNo)⟩
  · rw [if_neg hl] at p
    exact p.elim
end
end DL
end
section
set_option Elab.async false
set_option linter.all false
set_option maxRecDepth 100000
set_option maxHeartbeats 4000000
namespace DL
open PySem PySem.Spec PyProof.Rows L2

/-! ### data that is compared -/
mutual
def pyD : D → Option PyData
  | .non => some .none
  | .bl b => some (.bool b)
  | .int i => some (.int i)
  | .str s => some (.str s)
  | .tup ds => match pyDs ds with
    | some ps => some (.tuple ps)
    | none => none
  | .lst ds => match pyDs ds with
    | some ps => some (.list ps)
    | none => none
  | _ => none
def pyDs : List D → Option (List PyData)
  | [] => some []
  | d :: ds => match pyD d, pyDs ds with
    | some p, some ps => some (p :: ps)
    | _, _ => none
end
mutual
def eqDD : D → D → Bool
  | .non, .non => true
  | .bl a, .bl b => a == b
  | .bl a, .int j => (if a then 1 else 0) == j
  | .int i, .bl b => i == (if b then 1 else 0)
  | .int i, .int j => i == j
  | .str x, .str y => x == y
  | .tup xs, .tup ys => eqDs xs ys
  | .lst xs, .lst ys => eqDs xs ys
  | _, _ => false
def eqDs : List D → List D → Bool
  | [], [] => true
  | x :: xs, y :: ys => eqDD x y && eqDs xs ys
  | _, _ => false
end
theorem pyD_tup {ds : List D} {p : PyData} (h : pyD (.tup ds) = some p) : ∃ ps, p = .tuple ps ∧ pyDs ds = some ps := by
  simp only [pyD] at h
  cases e : pyDs ds with
  | none => rw [e] at h; cases h
  | some ps => rw [e] at h; exact ⟨ps, (Option.some.inj h).symm, rfl⟩
theorem pyD_lst {ds : List D} {p : PyData} (h : pyD (.lst ds) = some p) : ∃ ps, p = .list ps ∧ pyDs ds = some ps := by
  simp only [pyD] at h
  cases e : pyDs ds with
  | none => rw [e] at h; cases h
  | some ps => rw [e] at h; exact ⟨ps, (Option.some.inj h).symm, rfl⟩
theorem pyDs_cons {d : D} {ds : List D} {qs : List PyData} (h : pyDs (d :: ds) = some qs) : ∃ p ps, qs = p :: ps ∧ pyD d = some p ∧ pyDs ds = some ps := by
  simp only [pyDs] at h
  cases e : pyD d with
  | none => rw [e] at h; cases h
  | some p =>
    cases e2 : pyDs ds with
    | none => rw [e, e2] at h; cases h
    | some ps => rw [e, e2] at h; exact ⟨p, ps, (Option.some.inj h).symm, rfl, rfl⟩
mutual
theorem eqv_of : ∀ (d e : D) (p q : PyData), pyD d = some p → pyD e = some q → PyData.eqv p q = eqDD d e
  | .tup xs, e, p, q, h1, h2 => by
    obtain ⟨ps, rfl, hp⟩ := pyD_tup h1
    cases e with
    | tup ys =>
      obtain ⟨qs, rfl, hq⟩ := pyD_tup h2
      simp only [PyData.eqv, eqDD]
      exact eqvs_of xs ys ps qs hp hq
    | lst ys =>
      obtain ⟨qs, rfl, hq⟩ := pyD_lst h2
      rfl
    | _ => first | (cases h2; rfl) | (exact nomatch h2)
  | .lst xs, e, p, q, h1, h2 => by
    obtain ⟨ps, rfl, hp⟩ := pyD_lst h1
    cases e with
    | lst ys =>
      obtain ⟨qs, rfl, hq⟩ := pyD_lst h2
      simp only [PyData.eqv, eqDD]
      exact eqvs_of xs ys ps qs hp hq
    | tup ys =>
      obtain ⟨qs, rfl, hq⟩ := pyD_tup h2
      rfl
    | _ => first | (cases h2; rfl) | (exact nomatch h2)
  | .non, e, p, q, h1, h2 => by
    cases h1
    cases e with
    | lst ys =>
      obtain ⟨qs, rfl, hq⟩ := pyD_lst h2
      rfl
    | tup ys =>
      obtain ⟨qs, rfl, hq⟩ := pyD_tup h2
      rfl
    | _ => first | (cases h2; rfl) | (exact nomatch h2)
  | .bl _, e, p, q, h1, h2 => by
    cases h1
    cases e with
    | lst ys =>
      obtain ⟨qs, rfl, hq⟩ := pyD_lst h2
      rfl
    | tup ys =>
      obtain ⟨qs, rfl, hq⟩ := pyD_tup h2
      rfl
    | _ => first | (cases h2; rfl) | (exact nomatch h2)
  | .int _, e, p, q, h1, h2 => by
    cases h1
    cases e with
    | lst ys =>
      obtain ⟨qs, rfl, hq⟩ := pyD_lst h2
      rfl
    | tup ys =>
      obtain ⟨qs, rfl, hq⟩ := pyD_tup h2
      rfl
    | _ => first | (cases h2; rfl) | (exact nomatch h2)
  | .str _, e, p, q, h1, h2 => by
    cases h1
    cases e with
    | lst ys =>
      obtain ⟨qs, rfl, hq⟩ := pyD_lst h2
      rfl
    | tup ys =>
      obtain ⟨qs, rfl, hq⟩ := pyD_tup h2
      rfl
    | _ => first | (cases h2; rfl) | (exact nomatch h2)
  | .ref _, _, _, _, h1, _ => nomatch h1
  | .met _ _, _, _, _, h1, _ => nomatch h1
  | .fn _, _, _, _, h1, _ => nomatch h1
  | .scr _, _, _, _, h1, _ => nomatch h1
theorem eqvs_of : ∀ (ds es : List D) (ps qs : List PyData), pyDs ds = some ps → pyDs es = some qs → PyData.eqvAll ps qs = eqDs ds es
  | [], [], _, _, h1, h2 => by cases h1; cases h2; rfl
  | [], e :: es, _, _, h1, h2 => by
    cases h1
    obtain ⟨q, qs', rfl, a, b⟩ := pyDs_cons h2
    rfl
  | d :: ds, [], _, _, h1, h2 => by
    cases h2
    obtain ⟨q, qs', rfl, a, b⟩ := pyDs_cons h1
    rfl
  | d :: ds, e :: es, _, _, h1, h2 => by
    obtain ⟨p, ps', rfl, a, b⟩ := pyDs_cons h1
    obtain ⟨q, qs', rfl, a2, b2⟩ := pyDs_cons h2
    simp only [PyData.eqvAll, eqDs]
    rw [eqv_of d e p q a a2, eqvs_of ds es ps' qs' b b2]
end
section
variable {G : GE} {W : Wd} {H : Hp}
mutual
theorem dp_of (fz : Evl.Ex W.Fz H) : ∀ (d : D) (v : V) (p : PyData), RD G W d v → pyD d = some p → Dp G.K H v p
  | .non, _, _, r, h => by cases r; cases h; exact .non
  | .bl _, _, _, r, h => by cases r; cases h; exact .bl _
  | .int _, _, _, r, h => by cases r; cases h; exact .int _
  | .str _, _, _, r, h => by cases r; cases h; exact .str _
  | .tup ds, _, _, r, h => by
    obtain ⟨ps, rfl, hp⟩ := pyD_tup h
    cases r with
    | tup a b => exact .tup (Evl.ex_t fz a) (dps_of fz ds _ ps b hp)
  | .lst ds, _, _, r, h => by
    obtain ⟨ps, rfl, hp⟩ := pyD_lst h
    cases r with
    | lst a b => exact .lst (Evl.sq_of (fz _ _ a)) (dps_of fz ds _ ps b hp)
  | .ref _, _, _, _, h => nomatch h
  | .met _ _, _, _, _, h => nomatch h
  | .fn _, _, _, _, h => nomatch h
  | .scr _, _, _, _, h => nomatch h
theorem dps_of (fz : Evl.Ex W.Fz H) : ∀ (ds : List D) (vs : List V) (ps : List PyData), RDs G W ds vs → pyDs ds = some ps → DpAll G.K H vs ps
  | [], _, _, r, h => by cases r; cases h; exact .nil
  | d :: ds, _, _, r, h => by
    obtain ⟨p, ps', rfl, a, b⟩ := pyDs_cons h
    cases r with
    | cons r1 r2 => exact .cons (dp_of fz d _ p r1 a) (dps_of fz ds _ ps' r2 b)
end
end
/-- a changeable list as it stands -/
def seqL (h : MH) : D → Option (List D)
  | .lst xs => some xs
  | .ref n => match h[n]? with
    | some (.lst xs) => some xs
    | _ => none
  | _ => none
def deref (h : MH) (d : D) : D := match d with
  | .ref n => match h[n]? with
    | some (.lst xs) => .lst xs
    | _ => d
  | _ => d
theorem seqL_at {G : GE} {h : MH} {H : Hp} {W : Wd} {d : D} {v : V} {ds : List D} (r : HR G h H W) (rd : RD G W d v) (e : seqL h d = some ds) : ∃ a xs, v = .ref a ∧ H a = some (.lst xs) ∧ RDs G W ds xs := by
  cases rd with
  | @lst a xs ds' p q =>
    have e' := Option.some.inj e
    subst e'
    exact ⟨_, _, rfl, r.fz _ _ p, q⟩
  | @ref n a p =>
    simp only [seqL] at e
    cases e2 : h[n]? with
    | none => rw [e2] at e; cases e
    | some o =>
      cases o with
      | lst xs =>
        rw [e2] at e
        have e' := Option.some.inj e
        subst e'
        obtain ⟨ho, h1, h2⟩ := r.at_ e2 p
        cases h2 with
        | lst z => exact ⟨_, _, rfl, h1, z⟩
      | dic _ _ => rw [e2] at e; cases e
      | ins _ _ => rw [e2] at e; cases e
  | _ => cases e
theorem dp_deref {G : GE} {h : MH} {H : Hp} {W : Wd} {d : D} {v : V} {p : PyData} (r : HR G h H W) (rd : RD G W d v) (e : pyD (deref h d) = some p) : Dp G.K H v p := by
  cases rd with
  | @ref n a q =>
    unfold deref at e
    dsimp only at e
    cases e2 : h[n]? with
    | none => rw [e2] at e; cases e
    | some o =>
      rw [e2] at e
      cases o with
      | lst xs =>
        obtain ⟨ps, rfl, hp⟩ := pyD_lst e
        obtain ⟨ho, h1, h2⟩ := r.at_ e2 q
        cases h2 with
        | lst z => exact .lst (Evl.sq_of h1) (dps_of r.fz _ _ _ z hp)
      | dic _ _ => cases e
      | ins _ _ => cases e
  | non => exact dp_of r.fz _ _ _ .non e
  | bl b => exact dp_of r.fz _ _ _ (.bl b) e
  | int i => exact dp_of r.fz _ _ _ (.int i) e
  | str s => exact dp_of r.fz _ _ _ (.str s) e
  | tup a b => exact dp_of r.fz _ _ _ (.tup a b) e
  | lst a b => exact dp_of r.fz _ _ _ (.lst a b) e
  | met _ _ => cases e
  | fn => cases e
  | scr _ => cases e
/-- data that the model compares and shows -/
def okD (d : D) : Bool := match pyD d with
  | some p => SeqAt.shaped p
  | none => false
theorem okD_py {d : D} (h : okD d = true) : ∃ p, pyD d = some p ∧ SeqAt.shaped p = true := by
  unfold okD at h
  cases e : pyD d with
  | none => rw [e] at h; cases h
  | some p => rw [e] at h; exact ⟨p, rfl, h⟩

/-! ### the operators -/
def intOf : D → Option Int
  | .int i => some i
  | _ => none
def addD (h : MH) (x y : D) : Option D := match x, y with
  | .int i, .int j => some (.int (i + j))
  | .str a, .str b => if a.length + b.length ≤ 10000000 then some (.str (a ++ b)) else none
  | .tup a, .tup b => if a.length + b.length ≤ 100000 then some (.tup (a ++ b)) else none
  | _, _ => match seqL h x, seqL h y with
    | some a, some b => if a.length + b.length ≤ 100000 then some (.lst (a ++ b)) else none
    | _, _ => none
def subD (h : MH) (x y : D) : Option D := match x, y with
  | .int i, .int j => some (.int (i - j))
  | _, _ => none
def mulD (h : MH) (x y : D) : Option D := match x, y with
  | .int i, .int j => if i.natAbs.log2 + j.natAbs.log2 < 1000000 then some (.int (i * j)) else none
  | _, _ => none
def divD (h : MH) (x y : D) : Option D := match x, y with
  | .int i, .int j => if 0 < j ∧ j.natAbs.log2 < 9000 then some (.int (i / j)) else none
  | _, _ => none
def modD (h : MH) (x y : D) : Option D := match x, y with
  | .int i, .int j => if 0 < j then some (.int (i % j)) else none
  | _, _ => none
def powD (h : MH) (x y : D) : Option D := match x, y with
  | .int i, .int j => if 0 ≤ j ∧ j ≤ 1000000 ∧ i.natAbs < 2 ^ 64 then some (.int (i ^ j.toNat)) else none
  | _, _ => none
def negD (h : MH) (x : D) : Option D := match x with
  | .int i => some (.int (-i))
  | _ => none
def ltD (h : MH) (x y : D) : Option D := match x, y with
  | .int i, .int j => some (.bl (decide (i < j)))
  | _, _ => none
def leD (h : MH) (x y : D) : Option D := match x, y with
  | .int i, .int j => some (.bl (decide (i ≤ j)))
  | _, _ => none
def gtD (h : MH) (x y : D) : Option D := match x, y with
  | .int i, .int j => some (.bl (decide (j < i)))
  | _, _ => none
def geD (h : MH) (x y : D) : Option D := match x, y with
  | .int i, .int j => some (.bl (decide (j ≤ i)))
  | _, _ => none
def eqD (h : MH) (x y : D) : Option D := match x, y with
  | .int i, .int j => some (.bl (decide (i = j)))
  | .str i, .str j => some (.bl (decide (i = j)))
  | _, _ => if okD (deref h x) = true ∧ okD (deref h y) = true then some (.bl (eqDD (deref h x) (deref h y))) else none
def neD (h : MH) (x y : D) : Option D := match x, y with
  | .int i, .int j => some (.bl (!decide (i = j)))
  | .str i, .str j => some (.bl (!decide (i = j)))
  | _, _ => if okD (deref h x) = true ∧ okD (deref h y) = true then some (.bl (!eqDD (deref h x) (deref h y))) else none
theorem le_sz {n : Nat} (h : n ≤ 10000000) : n ≤ sizeLine := Nat.le_trans h (by decide)

section
variable {X : Cx} {T : Tg}
theorem opd_int {fv : Value → Value → Sem Value} {f : MH → D → D → Option D} {C : Int → Int → Prop} {g : Int → Int → V} {gd : Int → Int → D} (ho : OpR X fv (rI C g))
    (hf : ∀ h d e z, f h d e = some z → ∃ i j, d = .int i ∧ e = .int j ∧ C i j ∧ z = gd i j) (hg : ∀ i j W, RD (ge X T) W (gd i j) (g i j)) : Op2 X T fv f := by
  rintro pins s σ H x y v u Q I rx ry ⟨W, h, d, e, z, r, rd, re, ez, fin⟩
  obtain ⟨i, j, rfl, rfl, hc, rfl⟩ := hf h d e z ez
  cases rd
  cases re
  exact ho pins s σ H _ _ v u Q I rx ry ⟨i, j, rfl, rfl, hc, fin.here r (hg i j W)⟩
theorem rI_of {fv : Value → Value → Sem Value} {g : Int → Int → V} (ho : OpR X fv (rI0 g)) : OpR X fv (rI (fun _ _ => True) g) := fun pins s σ H x y v u Q I rx ry ⟨i, j, a, b, _, q⟩ => ho pins s σ H x y v u Q I rx ry ⟨i, j, a, b, q⟩
theorem opd_sub : Op2 X T (binaryOp .Sub) subD := opd_int (gd := fun i j => .int (i - j)) (rI_of op_sub) (fun h d e z q => by
  unfold subD at q
  split at q
  · cases q; exact ⟨_, _, rfl, rfl, trivial, rfl⟩
  · cases q) fun i j W => .int _
theorem opd_mul : Op2 X T (binaryOp .Mult) mulD := opd_int (gd := fun i j => .int (i * j)) op_mulW (fun h d e z q => by
  unfold mulD at q
  split at q
  · split at q
    · cases q; exact ⟨_, _, rfl, rfl, by assumption, rfl⟩
    · cases q
  · cases q) fun i j W => .int _
theorem opd_div : Op2 X T (binaryOp .FloorDiv) divD := opd_int (gd := fun i j => .int (i / j)) op_fdivW (fun h d e z q => by
  unfold divD at q
  split at q
  · split at q
    · cases q; exact ⟨_, _, rfl, rfl, by assumption, rfl⟩
    · cases q
  · cases q) fun i j W => .int _
theorem opd_mod : Op2 X T (binaryOp .Mod) modD := opd_int (gd := fun i j => .int (i % j)) op_mod (fun h d e z q => by
  unfold modD at q
  split at q
  · split at q
    · cases q; exact ⟨_, _, rfl, rfl, by assumption, rfl⟩
    · cases q
  · cases q) fun i j W => .int _
theorem opd_pow : Op2 X T (binaryOp .Pow) powD := opd_int (gd := fun i j => .int (i ^ j.toNat)) op_pow (fun h d e z q => by
  unfold powD at q
  split at q
  · split at q
    · cases q; exact ⟨_, _, rfl, rfl, by assumption, rfl⟩
    · cases q
  · cases q) fun i j W => .int _
theorem opd_lt : Op2 X T (compareOp .Lt) ltD := opd_int (gd := fun i j => .bl (decide (i < j))) (rI_of op_lt) (fun h d e z q => by
  unfold ltD at q
  split at q
  · cases q; exact ⟨_, _, rfl, rfl, trivial, rfl⟩
  · cases q) fun i j W => .bl _
theorem opd_le : Op2 X T (compareOp .LtE) leD := opd_int (gd := fun i j => .bl (decide (i ≤ j))) (rI_of op_le) (fun h d e z q => by
  unfold leD at q
  split at q
  · cases q; exact ⟨_, _, rfl, rfl, trivial, rfl⟩
  · cases q) fun i j W => .bl _
theorem opd_gt : Op2 X T (compareOp .Gt) gtD := opd_int (gd := fun i j => .bl (decide (j < i))) (rI_of op_gt) (fun h d e z q => by
  unfold gtD at q
  split at q
  · cases q; exact ⟨_, _, rfl, rfl, trivial, rfl⟩
  · cases q) fun i j W => .bl _
theorem opd_ge : Op2 X T (compareOp .GtE) geD := opd_int (gd := fun i j => .bl (decide (j ≤ i))) (rI_of op_ge) (fun h d e z q => by
  unfold geD at q
  split at q
  · cases q; exact ⟨_, _, rfl, rfl, trivial, rfl⟩
  · cases q) fun i j W => .bl _
theorem opd_neg : Op1 X T (unaryOp .USub) negD := by
  rintro pins s σ H x v Q I rx ⟨W, h, d, z, r, rd, ez, fin⟩
  unfold negD at ez
  split at ez
  · cases ez
    cases rd
    exact un_neg pins s σ H _ v Q I rx ⟨_, rfl, fin.here r (.int _)⟩
  · cases ez
theorem opd_add : Op2 X T (binaryOp .Add) addD := by
  rintro pins s σ H x y v u Q I rx ry ⟨W, h, d, e, z, r, rd, re, ez, fin⟩
  unfold addD at ez
  split at ez
  · cases ez
    cases rd
    cases re
    exact op_add pins s σ H _ _ v u Q I rx ry ⟨_, _, rfl, rfl, fin.here r (.int _)⟩
  · split at ez
    · rename_i hl
      cases ez
      cases rd
      cases re
      exact op_add_str pins s σ H _ _ v u Q I rx ry ⟨_, _, rfl, rfl, le_sz hl, fin.here r (.str _)⟩
    · cases ez
  · split at ez
    · rename_i ds es hl
      cases ez
      cases rd with
      | @tup a xs _ h1 h2 =>
        cases re with
        | @tup b ys _ h3 h4 =>
          have e1 := h2.length
          have e2 := h4.length
          refine op_catA pins s σ H _ _ v u Q I rx ry ⟨a, b, xs, ys, rfl, rfl, Evl.ex_t r.fz h1, Evl.ex_t r.fz h3, Nat.le_trans (by omega : _ ≤ 100000) (by decide), fun q => ?_, fun _ q => ?_, fun _ _ p hp => fin.newT r hp (h2.append h4)⟩
          · subst q
            cases h2
            exact fin.here r (.tup h3 h4)
          · subst q
            cases h4
            exact fin.here r (by rw [List.append_nil]; exact .tup h1 h2)
    · cases ez
  · split at ez
    · rename_i a b q1 q2
      split at ez
      · rename_i hl
        cases ez
        obtain ⟨p, xs, rfl, h1, h2⟩ := seqL_at r rd q1
        obtain ⟨p2, ys, rfl, h3, h4⟩ := seqL_at r re q2
        have e1 := h2.length
        have e2 := h4.length
        exact op_cat pins s σ H _ _ v u Q I rx ry ⟨p, p2, xs, ys, rfl, rfl, h1, h3, Nat.le_trans (by omega : _ ≤ 100000) (by decide), fun q hq => fin.newL r hq (h2.append h4)⟩
      · cases ez
    · cases ez
theorem opd_eq (hu : X.A.units + 64 < cLine) : Op2 X T (compareOp .Eq) eqD := by
  rintro pins s σ H x y v u Q I rx ry ⟨W, h, d, e, z, r, rd, re, ez, fin⟩
  unfold eqD at ez
  split at ez
  · cases ez
    cases rd
    cases re
    exact op_eq pins s σ H _ _ v u Q I rx ry ⟨rfl, fin.here r (by simp only [V.int.injEq]; exact .bl _)⟩
  · cases ez
    cases rd
    cases re
    exact op_eq pins s σ H _ _ v u Q I rx ry ⟨rfl, fin.here r (by simp only [V.str.injEq]; exact .bl _)⟩
  · split at ez
    · rename_i hk
      cases ez
      obtain ⟨p, p1, p2⟩ := okD_py hk.1
      obtain ⟨q, q1, q2⟩ := okD_py hk.2
      exact op_eqD hu pins s σ H _ _ v u Q I rx ry ⟨p, q, dp_deref r rd p1, dp_deref r re q1, p2, q2, fin.here r (by rw [eqv_of _ _ _ _ p1 q1]; exact .bl _)⟩
    · cases ez
theorem opd_ne (hu : X.A.units + 64 < cLine) : Op2 X T (compareOp .NotEq) neD := by
  rintro pins s σ H x y v u Q I rx ry ⟨W, h, d, e, z, r, rd, re, ez, fin⟩
  unfold neD at ez
  split at ez
  · cases ez
    cases rd
    cases re
    exact op_ne pins s σ H _ _ v u Q I rx ry ⟨rfl, fin.here r (by simp only [V.int.injEq]; exact .bl _)⟩
  · cases ez
    cases rd
    cases re
    exact op_ne pins s σ H _ _ v u Q I rx ry ⟨rfl, fin.here r (by simp only [V.str.injEq]; exact .bl _)⟩
  · split at ez
    · rename_i hk
      cases ez
      obtain ⟨p, p1, p2⟩ := okD_py hk.1
      obtain ⟨q, q1, q2⟩ := okD_py hk.2
      exact op_neD hu pins s σ H _ _ v u Q I rx ry ⟨p, q, dp_deref r rd p1, dp_deref r re q1, p2, q2, fin.here r (by rw [eqv_of _ _ _ _ p1 q1]; exact .bl _)⟩
    · cases ez
end

/-! ### is None -/
def isNonD (h : MH) (x : D) : Option D := match x with
  | .non => some (.bl true)
  | _ => some (.bl false)
def notNonD (h : MH) (x : D) : Option D := match x with
  | .non => some (.bl false)
  | _ => some (.bl true)
theorem rd_non {G : GE} {W : Wd} {d : D} {v : V} (rd : RD G W d v) : decide (v = .non) = (match d with | .non => true | _ => false) := by
  cases rd <;> simp
section
variable {X : Cx} {T : Tg} {Wx : WX} {a b e : Expr} {ca cb : Sl → MH → ER D} {pos : Pos}
theorem me_isN {j pos'} (ha : PE X a (tE (ge X T) Wx ca)) : PE X (.Compare a [.Is] [.Constant .none j pos'] pos) (tE (ge X T) Wx (c1 isNonD ca)) := by
  refine PE.weak (pe_cmp (pc_isN ha) rfl) fun σ H Q h => tR_bind (k := fun _ x h2 => ofO (isNonD h2 x) h2) h fun W ds h d v H _ r rd p => ?_
  have e := rd_non rd
  rw [e]
  cases d <;> exact p _ H W (.refl W) r (.bl _)
theorem me_notN {j pos'} (ha : PE X a (tE (ge X T) Wx ca)) : PE X (.Compare a [.IsNot] [.Constant .none j pos'] pos) (tE (ge X T) Wx (c1 notNonD ca)) := by
  refine PE.weak (pe_cmp (pc_notN ha) rfl) fun σ H Q h => tR_bind (k := fun _ x h2 => ofO (notNonD h2 x) h2) h fun W ds h d v H _ r rd p => ?_
  have e := rd_non rd
  rw [e]
  cases d <;> exact p _ H W (.refl W) r (.bl _)
theorem mt_isN {j pos'} (ha : PE X a (tE (ge X T) Wx ca)) : PT X (.Compare a [.Is] [.Constant .none j pos'] pos) (tT (ge X T) Wx (cB (c1 isNonD ca))) := by
  refine PT.weak (pt_cmp (pc_isN ha) rfl) fun σ H Q h => ?_
  have h' := tB_of (R := fun x H1 => ∃ k, x = .bl k ∧ Q k H1) h fun k H1 q => ⟨k, rfl, q⟩
  refine tR_bind (k := fun _ x h2 => ofO (isNonD h2 x) h2) h' fun W ds h d v H _ r rd p => ?_
  have e := rd_non rd
  rw [e]
  cases d <;> exact p _ H W (.refl W) r (.bl _)
theorem mt_notN {j pos'} (ha : PE X a (tE (ge X T) Wx ca)) : PT X (.Compare a [.IsNot] [.Constant .none j pos'] pos) (tT (ge X T) Wx (cB (c1 notNonD ca))) := by
  refine PT.weak (pt_cmp (pc_notN ha) rfl) fun σ H Q h => ?_
  have h' := tB_of (R := fun x H1 => ∃ k, x = .bl k ∧ Q k H1) h fun k H1 q => ⟨k, rfl, q⟩
  refine tR_bind (k := fun _ x h2 => ofO (notNonD h2 x) h2) h' fun W ds h d v H _ r rd p => ?_
  have e := rd_non rd
  rw [e]
  cases d <;> exact p _ H W (.refl W) r (.bl _)

/-! ### subscripts: lists, tuples, texts -/
def atD (h : MH) (x y : D) : Option D := match x, y with
  | .tup xs, .int i => atI xs i
  | .str s, .int i => if s.length ≤ 10000000 then (atI s.cps.toList i).map fun c => .str ⟨#[c]⟩ else none
  | _, .int i => match seqL h x with
    | some xs => atI xs i
    | none => none
  | _, _ => none
theorem rds_at {G : GE} {W : Wd} {ds : List D} {vs : List V} {i : Int} {d : D} (rs : RDs G W ds vs) (h : atI ds i = some d) : ∃ v, atI vs i = some v ∧ RD G W d v := by
  unfold atI at h ⊢
  rw [← rs.length]
  cases e : ixN ds.length i with
  | none => rw [e] at h; cases h
  | some j =>
    rw [e] at h
    exact rs.get (show ds[j]? = some d from h)
theorem me_at (ha : PE X a (tE (ge X T) Wx ca)) (hb : PE X b (tE (ge X T) Wx cb)) (hs : PlainIx b := by exact fun _ _ => rfl) : PE X (.Subscript a b pos) (tE (ge X T) Wx (c2 atD ca cb)) := by
  refine PE.weak (pe_ix ix_seq ha hb hs) fun σ H Q h => tR_bind2 rd_mono (k := fun _ x y h2 => ofO (atD h2 x y) h2) h fun W ds h d e v u H _ r rd re p => ?_
  obtain ⟨_, _, _, _, z, r, rd, re, ez, fin⟩ := g2_of r rd re p
  unfold atD at ez
  split at ez
  · cases re
    cases rd with
    | tup h1 h2 =>
      obtain ⟨w, h3, h4⟩ := rds_at h2 ez
      exact .inr (.inl ⟨_, _, _, w, rfl, rfl, Evl.ex_t r.fz h1, h3, fin.here r h4⟩)
  · split at ez
    · rename_i hl
      cases re
      cases rd
      rename_i sx i
      cases e : atI sx.cps.toList i with
      | none => rw [e] at ez; cases ez
      | some c =>
        rw [e] at ez
        cases ez
        exact .inr (.inr ⟨_, _, c, rfl, rfl, le_sz hl, e, fin.here r (.str _)⟩)
    · cases ez
  · split at ez
    · rename_i q
      cases re
      obtain ⟨p, ys, rfl, h1, h2⟩ := seqL_at r rd q
      obtain ⟨w, h3, h4⟩ := rds_at h2 ez
      exact .inl ⟨_, _, _, w, rfl, rfl, Evl.sq_of h1, h3, fin.here r h4⟩
    · cases ez
  · cases ez
end
end DL
end
section
set_option Elab.async false
set_option linter.all false
set_option maxRecDepth 100000
set_option maxHeartbeats 4000000
namespace DL
open PySem PySem.Spec PyProof.Rows L2

/-- a value's outcome, given where it begins -/
theorem post_bind {α β γ δ : Type} {G : GE} {Ra : Wd → α → β → Prop} {Rb : Wd → γ → δ → Prop} {Wx : WX} {c : Sl → MH → ER α} {k : α → MH → ER γ} {R : β → Hp → Prop} {Q : δ → Hp → Prop} {σ : L2.St} {H : Hp} {W : Wd} {ds : Sl} {h : MH}
    (f : FR G W ds σ) (r : HR G h H W) (p : Post G Rb W ((c ds h).bind k) Q (fun cls dd H' => Wx cls dd σ H'))
    (hR : ∀ W' h' d v H', W.le W' → HR G h' H' W' → Ra W' d v → Post G Rb W' (k d h') Q (fun cls dd H' => Wx cls dd σ H') → R v H') : tR G Ra Wx c σ H R := by
  refine ⟨W, ds, h, f, r, ?_⟩
  dsimp only [ER.bind] at p
  cases e : c ds h with
  | val d h1 =>
    rw [e] at p
    exact fun v H1 W1 l r1 rv => hR W1 h1 d v H1 l r1 rv (p.up l)
  | exc x h1 =>
    rw [e] at p
    exact p
  | bad =>
    rw [e] at p
    exact p

/-! ### slices -/
def cutD (xs : List D) (lo hi : Option Int) : List D := (xs.drop (HT.sIx xs.length 0 lo)).take (HT.sIx xs.length xs.length hi - HT.sIx xs.length 0 lo)
def slD (h : MH) (x : D) (lo hi : Option Int) : Option D := match x with
  | .tup xs => some (.tup (cutD xs lo hi))
  | .str s => if s.length ≤ 10000000 then some (.str (cutS s lo hi)) else none
  | _ => match seqL h x with
    | some xs => some (.lst (cutD xs lo hi))
    | none => none
theorem rds_cut {G : GE} {W : Wd} {ds : List D} {vs : List V} {lo hi : Option Int} (rs : RDs G W ds vs) : RDs G W (cutD ds lo hi) (cutV vs lo hi) := by
  unfold cutD cutV
  rw [← rs.length]
  exact (rs.drop _).take _
abbrev tO' (G : GE) (Wx : WX) (c : Sl → MH → ER (Option Int)) : TO := tR G (fun _ (a b : Option Int) => a = b) Wx c
def cNo : Sl → MH → ER (Option Int) := fun _ h => .val none h
def cPart (c : Sl → MH → ER D) : Sl → MH → ER (Option Int) := fun ds h => (c ds h).bind fun x h1 => match x with
  | .int i => .val (some i) h1
  | _ => .bad
def cSl (c : Sl → MH → ER D) (lo hi : Sl → MH → ER (Option Int)) : Sl → MH → ER D := fun ds h => (c ds h).bind fun x h1 => (lo ds h1).bind fun l h2 => (hi ds h2).bind fun u h3 => ofO (slD h3 x l u) h3
section
variable {X : Cx} {T : Tg} {Wx : WX} {a b e : Expr} {es : List Expr} {ca cb : Sl → MH → ER D} {cs : Sl → MH → ER (List D)} {lo hi : Option Expr} {cl cu : Sl → MH → ER (Option Int)} {pos p p2 : Pos}
theorem mo_no : PO X none (tO' (ge X T) Wx cNo) := ⟨fun pins s σ H Q I h => by
  obtain ⟨W, ds, h, f, r, q⟩ := h
  exact po_none.run pins s σ H Q I (q none H W (.refl W) r rfl)⟩
theorem mo_part (ha : PE X e (tE (ge X T) Wx ca)) : PO X (some e) (tO' (ge X T) Wx (cPart ca)) := ⟨fun pins s σ H Q I h => by
  refine (po_some ha).run pins s σ H Q I (tR_bind (k := fun _ x h1 => (match x with
    | .int i => .val (some i) h1
    | _ => .bad : ER (Option Int))) h fun W ds h d v H f r rd q => ?_)
  cases d with
  | int i =>
    cases rd
    exact ⟨i, rfl, q _ H W (.refl W) r rfl⟩
  | _ => exact False.elim q⟩
theorem me_slice (ha : PE X e (tE (ge X T) Wx ca)) (hl : PO X lo (tO' (ge X T) Wx cl)) (hu : PO X hi (tO' (ge X T) Wx cu)) : PE X (.Subscript e (.Slice lo hi none p2) pos) (tE (ge X T) Wx (cSl ca cl cu)) := by
  refine PE.weak (pe_slice (sl_list.or (sl_tupA.or sl_str)) ha hl hu) fun σ H Q h => ?_
  obtain ⟨W, ds, h, f, r, q⟩ := h
  refine post_bind f r q fun W1 h1 x v H1 l1 r1 rx q1 => post_bind (f.up l1) r1 q1 fun W2 h2 lv lw H2 l2 r2 e2 q2 => post_bind ((f.up l1).up l2) r2 q2 fun W3 h3 uv uw H3 l3 r3 e3 q3 => ?_
  subst e2
  subst e3
  have rx3 := (rx.up l2).up l3
  unfold ofO at q3
  cases ez : slD h3 x lv uv with
  | none =>
    rw [ez] at q3
    exact q3.elim
  | some z =>
    rw [ez] at q3
    have fin : Fin (ge X T) W3 h3 z Q := q3
    unfold slD at ez
    split at ez
    · cases ez
      cases rx3 with
      | @tup a xs _ h1 h2 =>
        refine .inr (.inl ⟨a, xs, rfl, Evl.ex_t r3.fz h1, fun hw => ?_, fun _ p hp => fin.newT r3 hp (rds_cut h2)⟩)
        refine fin.here r3 (.tup h1 ?_)
        have hc : cutV xs lv uv = xs := by
          unfold cutV
          rw [hw.1, hw.2, List.drop_zero, Nat.sub_zero, List.take_length]
        rw [← hc]
        exact rds_cut h2
    · split at ez
      · rename_i hl
        cases ez
        cases rx3
        exact .inr (.inr ⟨_, rfl, le_sz hl, fin.here r3 (.str _)⟩)
      · cases ez
    · split at ez
      · rename_i q
        cases ez
        obtain ⟨p, ys, rfl, h1, h2⟩ := seqL_at r3 rx3 q
        exact .inl ⟨p, ys, rfl, Evl.sq_of h1, fun p hp => fin.newL r3 hp (rds_cut h2)⟩
      · cases ez

/-! ### built-in functions and types, called -/
def CallD (X : Cx) (T : Tg) (fv : Value) (f : MH → List D → Option D) : Prop := CallR X fv (Gn (ge X T) f)
theorem me_callB {x : Str} {id : String} {f : MH → List D → Option D} (hc : CallD X T (.builtin id) f) (hm : X.mg x = none) (hv : bootBuiltins x = some (.builtin id)) (ha : PA X (e :: es) (tA (ge X T) Wx cs)) (hg : Gl X x := by rfl) (hn : x ≠ "__name__" := by decide) (hdb : (x == ("__debug__" : Str)) = false := by decide)
    (he : starEach (e :: es) X.env = (false, eval e X.env) :: starEach es X.env := by rfl) (hpl : (backTo pos (starEach es X.env)).any (·.1) = false := by rfl) : PE X (.Call (.Name x p) (e :: es) [] pos) (tE (ge X T) Wx (cn f cs)) :=
  PE.weak (pe_callB hc hg hm hv ha hn hdb he hpl) fun σ H Q h => tR_bind (k := fun _ xs h2 => ofO (f h2 xs) h2) h fun W ds h d v H _ r rd p => gn_of r rd p
theorem me_callTy {x : Str} {Ty : String} {f : MH → List D → Option D} (hc : CallD X T (.type Ty) f) (hm : X.mg x = none) (hv : bootBuiltins x = some (.type Ty)) (ha : PA X (e :: es) (tA (ge X T) Wx cs)) (hg : Gl X x := by rfl) (hn : x ≠ "__name__" := by decide) (hdb : (x == ("__debug__" : Str)) = false := by decide)
    (he : starEach (e :: es) X.env = (false, eval e X.env) :: starEach es X.env := by rfl) (hpl : (backTo pos (starEach es X.env)).any (·.1) = false := by rfl) : PE X (.Call (.Name x p) (e :: es) [] pos) (tE (ge X T) Wx (cn f cs)) :=
  PE.weak (pe_callTy hc hg hm hv ha hn hdb he hpl) fun σ H Q h => tR_bind (k := fun _ xs h2 => ofO (f h2 xs) h2) h fun W ds h d v H _ r rd p => gn_of r rd p
/-- a list or a tuple by its items -/
def itemsD (h : MH) : D → Option (List D)
  | .tup xs => some xs
  | .scr ns => some (ns.map D.int)
  | x => seqL h x
theorem rds_ints {G : GE} {W : Wd} : ∀ ns : List Int, RDs G W (ns.map D.int) (ns.map V.int)
  | [] => .nil
  | n :: ns => .cons (.int n) (rds_ints ns)
theorem items_at {G : GE} {h : MH} {H : Hp} {W : Wd} {d : D} {v : V} {ds : List D} (r : HR G h H W) (rd : RD G W d v) (e : itemsD h d = some ds) : ∃ a xs, v = .ref a ∧ (SqL G.K H a xs ∨ SqT G.K H a xs) ∧ RDs G W ds xs := by
  unfold itemsD at e
  split at e
  · cases e
    cases rd with
    | tup h1 h2 => exact ⟨_, _, rfl, .inr (Evl.ex_t r.fz h1), h2⟩
  · cases e
    cases rd with
    | scr h1 => exact ⟨_, _, rfl, .inl (Evl.ex_l r.fz h1), rds_ints _⟩
  · obtain ⟨a, xs, h1, h2, h3⟩ := seqL_at r rd e
    exact ⟨a, xs, h1, .inl (Evl.sq_of h2), h3⟩
def lenD (h : MH) (xs : List D) : Option D := match xs with
  | [.str s] => if s.length ≤ 10000000 then some (.int s.length) else none
  | [x] => match itemsD h x with
    | some ys => some (.int ys.length)
    | none => none
  | _ => none
theorem cd_len : CallD X T (.builtin "len") lenD := by
  rintro pins s σ H xs us Q I rv ⟨W, h, ds, z, r, rs, ez, fin⟩
  unfold lenD at ez
  split at ez
  · split at ez
    · rename_i hl
      cases ez
      cases rs with
      | cons a b =>
        cases a
        cases b
        exact call_len pins s σ H _ us Q I rv ⟨_, _, rfl, ⟨le_sz hl, rfl⟩, fin.here r (.int _)⟩
    · cases ez
  · split at ez
    · rename_i q
      cases ez
      cases rs with
      | cons a b =>
        cases b
        obtain ⟨p, ys, rfl, h1, h2⟩ := items_at r a q
        refine call_len pins s σ H _ us Q I rv ⟨_, ys.length, rfl, ?_, fin.here r (by rw [h2.length]; exact .int _)⟩
        rcases h1 with h1 | h1
        · exact .inl ⟨ys, h1, rfl⟩
        · exact .inr ⟨ys, h1, rfl⟩
    · cases ez
  · cases ez
def absD (h : MH) (xs : List D) : Option D := match xs with
  | [.int i] => some (.int (if i < 0 then -i else i))
  | _ => none
theorem cd_abs : CallD X T (.builtin "abs") absD := by
  rintro pins s σ H xs us Q I rv ⟨W, h, ds, z, r, rs, ez, fin⟩
  unfold absD at ez
  split at ez
  · cases ez
    cases rs with
    | cons a b =>
      cases a
      cases b
      exact call_abs pins s σ H _ us Q I rv ⟨_, rfl, fin.here r (.int _)⟩
  · cases ez
def intD (h : MH) (xs : List D) : Option D := match xs with
  | [.int i] => some (.int i)
  | [.bl k] => some (.int (if k then 1 else 0))
  | _ => none
theorem cd_int : CallD X T (.type "int") intD := by
  rintro pins s σ H xs us Q I rv ⟨W, h, ds, z, r, rs, ez, fin⟩
  unfold intD at ez
  split at ez
  · cases ez
    cases rs with
    | cons a b =>
      cases a
      cases b
      exact call_int1 pins s σ H _ us Q I rv (.inl ⟨_, rfl, fin.here r (.int _)⟩)
  · cases ez
    cases rs with
    | cons a b =>
      cases a
      cases b
      exact call_int1 pins s σ H _ us Q I rv (.inr ⟨_, rfl, fin.here r (.int _)⟩)
  · cases ez
def min2D (h : MH) (xs : List D) : Option D := match xs with
  | [.int i, .int j] => some (.int (if j < i then j else i))
  | _ => none
theorem cd_min2 (hc : X.calm = true) : CallD X T (.builtin "min") min2D := by
  rintro pins s σ H xs us Q I rv ⟨W, h, ds, z, r, rs, ez, fin⟩
  unfold min2D at ez
  split at ez
  · cases ez
    cases rs with
    | cons a b =>
      cases a
      cases b with
      | cons a2 b2 =>
        cases a2
        cases b2
        exact call_min2 hc pins s σ H _ us Q I rv ⟨_, _, rfl, fin.here r (.int _)⟩
  · cases ez
def max2D (h : MH) (xs : List D) : Option D := match xs with
  | [.int i, .int j] => some (.int (if j > i then j else i))
  | _ => none
theorem cd_max2 (hc : X.calm = true) : CallD X T (.builtin "max") max2D := by
  rintro pins s σ H xs us Q I rv ⟨W, h, ds, z, r, rs, ez, fin⟩
  unfold max2D at ez
  split at ez
  · cases ez
    cases rs with
    | cons a b =>
      cases a
      cases b with
      | cons a2 b2 =>
        cases a2
        cases b2
        exact call_max2 hc pins s σ H _ us Q I rv ⟨_, _, rfl, fin.here r (.int _)⟩
  · cases ez
def strD (h : MH) (xs : List D) : Option D := match xs with
  | [.int i] => if i.natAbs.log2 < 1920 then some (.str (toString i)) else none
  | _ => none
theorem cd_str : CallD X T (.type "str") strD := by
  rintro pins s σ H xs us Q I rv ⟨W, h, ds, z, r, rs, ez, fin⟩
  unfold strD at ez
  split at ez
  · split at ez
    · rename_i hl
      cases ez
      cases rs with
      | cons a b =>
        cases a
        cases b
        exact call_str_int pins s σ H _ us Q I rv ⟨_, rfl, hl, fin.here r (.str _)⟩
    · cases ez
  · cases ez
/-- list(..), never changed; tuple(..) -/
def listD (h : MH) (xs : List D) : Option D := match xs with
  | [x] => match itemsD h x with
    | some ys => some (.lst ys)
    | none => none
  | _ => none
theorem cd_list : CallD X T (.type "list") listD := by
  rintro pins s σ H xs us Q I rv ⟨W, h, ds, z, r, rs, ez, fin⟩
  unfold listD at ez
  split at ez
  · split at ez
    · rename_i q
      cases ez
      cases rs with
      | cons a b =>
        cases b
        obtain ⟨p, ys, rfl, h1, h2⟩ := items_at r a q
        exact call_list_of pins s σ H _ us Q I rv ⟨p, ys, rfl, h1, fun l hl => fin.newL r hl h2⟩
    · cases ez
  · cases ez
def tupleD (h : MH) (xs : List D) : Option D := match xs with
  | [x] => match itemsD h x with
    | some ys => some (.tup ys)
    | none => none
  | _ => none
theorem cd_tuple : CallD X T (.type "tuple") tupleD := by
  rintro pins s σ H xs us Q I rv ⟨W, h, ds, z, r, rs, ez, fin⟩
  unfold tupleD at ez
  split at ez
  · split at ez
    · rename_i q
      cases ez
      cases rs with
      | cons a b =>
        cases b
        unfold itemsD at q
        split at q
        · cases q
          cases a with
          | tup h1 h2 => exact call_tuple_of pins s σ H _ us Q I rv ⟨_, _, rfl, .inr ⟨Evl.ex_t r.fz h1, fin.here r (.tup h1 h2)⟩⟩
        · cases q
          cases a with
          | scr h1 => exact call_tuple_of pins s σ H _ us Q I rv ⟨_, _, rfl, .inl ⟨Evl.ex_l r.fz h1, fun l hl => fin.newT r hl (rds_ints _)⟩⟩
        · obtain ⟨p, ys, rfl, h1, h2⟩ := seqL_at r a q
          exact call_tuple_of pins s σ H _ us Q I rv ⟨p, ys, rfl, .inl ⟨Evl.sq_of h1, fun l hl => fin.newT r hl h2⟩⟩
    · cases ez
  · cases ez
/-- list(..) that may be changed -/
def cListM (cs : Sl → MH → ER (List D)) : Sl → MH → ER D := fun ds h => (cs ds h).bind fun xs h1 => match xs with
  | [x] => match itemsD h1 x with
    | some ys => .val (.ref h1.length) (h1 ++ [.lst ys])
    | none => .bad
  | _ => .bad
theorem me_listM (hm : X.mg "list" = none) (ha : PA X [e] (tA (ge X T) Wx cs)) (hg : Gl X "list" := by rfl) 
    (he : starEach (e :: []) X.env = (false, eval e X.env) :: starEach [] X.env := by rfl) (hpl : (backTo pos (starEach [] X.env)).any (·.1) = false := by rfl) : PE X (.Call (.Name "list" p) [e] [] pos) (tE (ge X T) Wx (cListM cs)) := by
  refine PE.weak (pe_callTy call_list_of hg hm (by decide +kernel) ha (he := he) (hpl := hpl)) fun σ H Q h => tR_bind (k := fun _ xs h1 => (match xs with
    | [x] => match itemsD h1 x with
      | some ys => .val (.ref h1.length) (h1 ++ [.lst ys])
      | none => .bad
    | _ => .bad : ER D)) h fun W ds h d v H _ r rd q => ?_
  split at q
  · split at q
    · rename_i q2
      cases rd with
      | cons a b =>
        cases b
        obtain ⟨p, ys, rfl, h1, h2⟩ := items_at r a q2
        exact ⟨p, ys, rfl, h1, fun l hl => q _ _ _ (W.le_put l) (r.put hl (.lst (h2.up (W.le_put l)))) (.ref r.putNo)⟩
    · exact q.elim
  · exact q.elim
def blsOf : List D → Option (List Bool)
  | [] => some []
  | .bl b :: ds => match blsOf ds with
    | some bs => some (b :: bs)
    | none => none
  | _ => none
theorem rds_bls {G : GE} {W : Wd} : ∀ {ds : List D} {vs : List V} {bs : List Bool}, RDs G W ds vs → blsOf ds = some bs → vs = bs.map V.bl
  | [], _, _, h, e => by cases h; cases e; rfl
  | d :: ds, _, bs, h, e => by
    cases h with
    | cons a b =>
      cases a with
      | bl k =>
        simp only [blsOf] at e
        cases q : blsOf ds with
        | none => rw [q] at e; cases e
        | some bs' =>
          rw [q] at e
          cases e
          rw [rds_bls b q]
          rfl
      | _ => cases e
def allD (h : MH) (xs : List D) : Option D := match xs with
  | [x] => match seqL h x with
    | some ys => match blsOf ys with
      | some bs => some (.bl (bs.all id))
      | none => none
    | none => none
  | _ => none
def anyD (h : MH) (xs : List D) : Option D := match xs with
  | [x] => match seqL h x with
    | some ys => match blsOf ys with
      | some bs => some (.bl (bs.any id))
      | none => none
    | none => none
  | _ => none
theorem cd_all (hc : X.calm = true) : CallD X T (.builtin "all") allD := by
  rintro pins s σ H xs us Q I rv ⟨W, h, ds, z, r, rs, ez, fin⟩
  unfold allD at ez
  split at ez
  · split at ez
    · rename_i q
      split at ez
      · rename_i q2
        cases ez
        cases rs with
        | cons a b =>
          cases b
          obtain ⟨p, ys, rfl, h1, h2⟩ := seqL_at r a q
          have e := rds_bls h2 q2
          subst e
          exact cr_all hc pins s σ H _ us Q I rv ⟨p, _, rfl, Evl.sq_of h1, fin.here r (.bl _)⟩
      · cases ez
    · cases ez
  · cases ez
theorem cd_any (hc : X.calm = true) : CallD X T (.builtin "any") anyD := by
  rintro pins s σ H xs us Q I rv ⟨W, h, ds, z, r, rs, ez, fin⟩
  unfold anyD at ez
  split at ez
  · split at ez
    · rename_i q
      split at ez
      · rename_i q2
        cases ez
        cases rs with
        | cons a b =>
          cases b
          obtain ⟨p, ys, rfl, h1, h2⟩ := seqL_at r a q
          have e := rds_bls h2 q2
          subst e
          exact cr_any hc pins s σ H _ us Q I rv ⟨p, _, rfl, Evl.sq_of h1, fin.here r (.bl _)⟩
      · cases ez
    · cases ez
  · cases ez
/-- repr(..) of data -/
def okShow (d : D) : Bool := match pyD d with
  | some p => p.showable && !p.hasDict && decide (p.depth ≤ 64) && decide (p.shown.length ≤ 10000000)
  | none => false
def shownD (d : D) : Str := match pyD d with
  | some p => p.shown
  | none => Str.empty
def reprD (h : MH) (xs : List D) : Option D := match xs with
  | [.tup ds] => if okShow (.tup ds) = true then some (.str (shownD (.tup ds))) else none
  | _ => none
theorem cd_repr (hg : X.A.guards = some []) (hu : X.A.units + 80 < cLine) : CallD X T (.builtin "repr") reprD := by
  rintro pins s σ H xs us Q I rv ⟨W, h, ds, z, r, rs, ez, fin⟩
  unfold reprD at ez
  split at ez
  · rename_i ds
    split at ez
    · rename_i hs
      cases ez
      cases rs with
      | cons a b =>
        cases b
        unfold okShow at hs
        cases e : pyD (.tup ds) with
        | none => rw [e] at hs; cases hs
        | some p =>
          rw [e] at hs
          simp only [Bool.and_eq_true, decide_eq_true_eq, Bool.not_eq_true'] at hs
          obtain ⟨⟨⟨h1, h2⟩, h3⟩, h4⟩ := hs
          have dp := dp_of r.fz _ _ p a e
          cases rv with
          | cons r1 r2 =>
            cases r2
            obtain ⟨as, rr⟩ := Dp.reads I p _ _ dp r1
            cases a with
            | tup q1 q2 =>
              cases r1
              refine repr_of_reads' rr h1 (PyData.noDict_hsm h2) hg (by omega) (fun _ _ e => e) (fun h' u tk hk => ?_) (le_sz h4)
              have J := I.kept (t' := tk) hk
              refine ⟨.str p.shown, H, J, ⟨u, rfl⟩, fin.here r ?_⟩
              have e2 : shownD (.tup ds) = p.shown := by unfold shownD; rw [e]
              rw [e2]
              exact .str _
    · cases ez
  · cases ez

/-! ### isinstance(x, T) -/
def tyD (h : MH) : D → Option String
  | .non => some "NoneType"
  | .bl _ => some "bool"
  | .int _ => some "int"
  | .str _ => some "str"
  | .tup _ => some "tuple"
  | .lst _ => some "list"
  | .ref n => match h[n]? with
    | some (.lst _) => some "list"
    | _ => none
  | _ => none
theorem tyD_at {G : GE} {h : MH} {H : Hp} {W : Wd} {d : D} {v : V} {t : String} (r : HR G h H W) (rd : RD G W d v) (e : tyD h d = some t) : TyX G.K H v (.type t) := by
  cases rd with
  | non => cases e; exact .base .non
  | bl b => cases e; exact .base (.bl b)
  | int b => cases e; exact .base (.int b)
  | str b => cases e; exact .base (.str b)
  | tup h1 h2 =>
    cases e
    rcases Evl.ex_t r.fz h1 with (h | ⟨o, h⟩) | ⟨o, its, n, hk, hc, _⟩
    · exact .base (.tup h)
    · exact .fTuple h
    · exact .kTuple hk hc
  | lst h1 h2 => cases e; exact .base (.lst (r.fz _ _ h1))
  | @ref n a p =>
    simp only [tyD] at e
    cases e2 : h[n]? with
    | none => rw [e2] at e; cases e
    | some o =>
      rw [e2] at e
      cases o with
      | lst xs =>
        cases e
        obtain ⟨ho, h1, h2⟩ := r.at_ e2 p
        cases h2
        exact .base (.lst h1)
      | dic _ _ => cases e
      | ins _ _ => cases e
  | _ => cases e
def cIsi (Ty : String) (c : Sl → MH → ER D) : Sl → MH → ER D := fun ds h => (c ds h).bind fun x h1 => match tyD h1 x with
  | some t => match kitB t Ty with
    | some b => .val (.bl b) h1
    | none => .bad
  | none => .bad
theorem me_isi {Ty : String} {x : Str} {q : Pos} (hm : X.mg "isinstance" = none) (hm2 : X.mg x = none) (hv : bootBuiltins x = some (.type Ty)) (ha : PE X a (tE (ge X T) Wx ca)) (hg : Gl X "isinstance" := by rfl) (hg2 : Gl X x := by rfl) (hn : x ≠ "__name__" := by decide) (hdb : (x == ("__debug__" : Str)) = false := by decide)
    (he : starEach [a, .Name x q] X.env = (false, eval a X.env) :: starEach [.Name x q] X.env := by rfl) (he2 : starEach [.Name x q] X.env = (false, eval (.Name x q) X.env) :: starEach [] X.env := by rfl) (hpl : (backTo pos (starEach [.Name x q] X.env)).any (·.1) = false := by rfl) :
    PE X (.Call (.Name "isinstance" p) [a, .Name x q] [] pos) (tE (ge X T) Wx (cIsi Ty ca)) := by
  have hq : PE X (.Name x q) (tC (.ty Ty)) := pe_bltn hg2 hm2 hv rfl hn hdb
  refine PE.weak (pe_callB call_isi hg hm (by decide +kernel) (pa_cons ha (pa_cons hq pa_nil he2) he) (he := he) (hpl := hpl)) fun σ H Q h => tR_bind (k := fun _ x h1 => (match tyD h1 x with
    | some t => match kitB t Ty with
      | some b => .val (.bl b) h1
      | none => .bad
    | none => .bad : ER D)) h fun W ds h d v H _ r rd q => ?_
  split at q
  · rename_i t et
    split at q
    · rename_i b eb
      exact ⟨v, .ty Ty, .type t, .type Ty, b, rfl, .ty Ty, tyD_at r rd et, kit_ty eb, q _ _ W (.refl W) r (.bl b)⟩
    · exact q.elim
  · exact q.elim
end
end DL
end
section
set_option Elab.async false
set_option linter.all false
set_option maxRecDepth 100000
set_option maxHeartbeats 4000000
namespace DL
open PySem PySem.Spec PyProof.Rows L2

section
variable {X : Cx} {T : Tg} {Wx : WX} {a b e : Expr} {es : List Expr} {st : Stmt} {rest : List Stmt} {ca cb cv : Sl → MH → ER D} {ct : Sl → MH → ER Bool} {cs : Sl → MH → ER (List D)} {s1 s2 : Sl → MH → SR} {pos : Pos}

/-! ### blocks -/
def cSeq (s1 s2 : Sl → MH → SR) : Sl → MH → SR := fun ds h => (s1 ds h).bind s2
def cEnd : Sl → MH → SR := fun ds h => .nxt ds h
theorem ms_nil : PSs X [] (tS (ge X T) Wx cEnd) := PSs.weak pss_nil fun D σ H h => by
  obtain ⟨W, ds, h, f, r, p⟩ := h
  exact p σ H W (.refl W) f r
theorem ms_one (h : PS X st (tS (ge X T) Wx s1)) : PSs X [st] (tS (ge X T) Wx s1) := pss_one h
theorem ms_cons (h1 : PS X st (tS (ge X T) Wx s1)) (h2 : PSs X rest (tS (ge X T) Wx s2)) : PSs X (st :: rest) (tS (ge X T) Wx (cSeq s1 s2)) := by
  refine PSs.weak (pss_cons h1 h2) fun D σ H h => ?_
  obtain ⟨W, ds, h, f, r, p⟩ := h
  refine ⟨W, ds, h, f, r, ?_⟩
  simp only [cSeq, SR.bind] at p
  cases e : s1 ds h with
  | nxt ds' h' =>
    rw [e] at p
    exact fun σ' H' W' l f' r' => ⟨W', ds', h', f', r', p.up l⟩
  | ret d h' => rw [e] at p; exact p
  | brk d h' => rw [e] at p; exact p
  | cnt d h' => rw [e] at p; exact p
  | exc x d h' => rw [e] at p; exact p
  | bad => rw [e] at p; exact p
theorem ms_pass : PS X (.Pass pos) (tS (ge X T) Wx cEnd) := PS.weak ps_pass fun D σ H h => by
  obtain ⟨W, ds, h, f, r, p⟩ := h
  exact p σ H W (.refl W) f r
def cBrk : Sl → MH → SR := fun ds h => .brk ds h
theorem ms_break : PS X (.Break pos) (tS (ge X T) Wx cBrk) := PS.weak ps_break fun D σ H h => by
  obtain ⟨W, ds, h, f, r, p⟩ := h
  exact p σ H W (.refl W) f r

/-! ### names, values, tests -/
def cSet (i : Nat) (c : Sl → MH → ER D) : Sl → MH → SR := fun ds h => (c ds h).bindS ds fun x h1 => .nxt (ds.set i (some x)) h1
theorem ms_set {i : Nat} {x : Str} {pos' : Pos} (hN : X.N.Nodup) (he : PE X e (tE (ge X T) Wx ca)) (hi : X.N[i]? = some x := by rfl) (hx : Loc X.env.scope x := by first | exact Or.inl rfl | exact Or.inr rfl)
    (hs : swapsWith e (some (.Name x pos')) pos.line X.env = pure false := by rfl) (hf : X.fn x = true ∨ X.env.scope.names.lookup x = some .local := by first | exact .inl rfl | exact .inr rfl | assumption) :
    PS X (.Assign [.Name x pos'] e pos) (tS (ge X T) Wx (cSet i ca)) :=
  PS.weak (ps_set hN hi hx he hs hf) fun D σ H h => tS_bindE (k := fun ds x h1 => .nxt (ds.set i (some x)) h1) h fun W ds h d v H f r rd p => p _ H W (.refl W) (f.set rd i) r
def cRet (c : Sl → MH → ER D) : Sl → MH → SR := fun ds h => (c ds h).bindS ds fun x h1 => .ret x h1
theorem ms_ret (he : PE X e (tE (ge X T) Wx ca)) : PS X (.Return (some e) pos) (tS (ge X T) Wx (cRet ca)) :=
  PS.weak (ps_ret he) fun D σ H h => tS_bindE (k := fun ds x h1 => .ret x h1) h fun W ds h d v H f r rd p => p v H W (.refl W) r rd
def cRetN : Sl → MH → SR := fun _ h => .ret .non h
theorem ms_retN : PS X (.Return none pos) (tS (ge X T) Wx cRetN) := PS.weak ps_retN fun D σ H h => by
  obtain ⟨W, ds, h, f, r, p⟩ := h
  exact p .non H W (.refl W) r .non
def cExpr (c : Sl → MH → ER D) : Sl → MH → SR := fun ds h => (c ds h).bindS ds fun _ h1 => .nxt ds h1
theorem ms_expr (he : PE X e (tE (ge X T) Wx ca)) (hs : swapsWith e none pos.line X.env = pure false := by rfl) : PS X (.Expr e pos) (tS (ge X T) Wx (cExpr ca)) :=
  PS.weak (ps_expr he hs) fun D σ H h => tS_bindE (k := fun ds _ h1 => .nxt ds h1) h fun W ds h d v H f r rd p => p σ H W (.refl W) f r
def cIfS (t : Sl → MH → ER Bool) (s1 s2 : Sl → MH → SR) : Sl → MH → SR := fun ds h => (t ds h).bindS ds fun k h1 => if k = true then s1 ds h1 else s2 ds h1
theorem ms_if {c : Expr} {l1 l2 : List Stmt} (hc : PT X c (tT (ge X T) Wx ct)) (h1 : PSs X l1 (tS (ge X T) Wx s1)) (h2 : PSs X l2 (tS (ge X T) Wx s2)) : PS X (.If c l1 l2 pos) (tS (ge X T) Wx (cIfS ct s1 s2)) := by
  refine PS.weak (ps_if hc h1 h2) fun D σ H h => tS_bindE (k := fun ds k h1 => if k = true then s1 ds h1 else s2 ds h1) h fun W ds h d v H f r rd p => ?_
  subst rd
  cases d with
  | true => exact ⟨W, ds, h, f, r, p⟩
  | false => exact ⟨W, ds, h, f, r, p⟩

/-! ### targets -/
abbrev Gt := D → Sl → MH → Option Sl
/-- only the slots ws are written -/
def Wr (ws : List Nat) (σ σ' : L2.St) : Prop := σ'.length = σ.length ∧ ∀ j, j ∉ ws → σ'[j]? = σ[j]?
def tG (G : GE) (ws : List Nat) (g : Gt) : TG := fun v σ H Q => ∃ W ds h d ds', FR G W ds σ ∧ HR G h H W ∧ RD G W d v ∧ g d ds h = some ds' ∧ ∀ σ', FR G W ds' σ' → Wr ws σ σ' → Q σ' H
abbrev Gts := List D → Sl → MH → Option Sl
def tGs (G : GE) (ws : List Nat) (g : Gts) : TGs := fun vs σ H Q => ∃ W ds h xs ds', FR G W ds σ ∧ HR G h H W ∧ RDs G W xs vs ∧ g xs ds h = some ds' ∧ ∀ σ', FR G W ds' σ' → Wr ws σ σ' → Q σ' H
theorem PG.weak {e : Expr} {t t' : TG} (h : PG X e t) (hw : ∀ v σ H Q, t' v σ H Q → t v σ H Q) : PG X e t' := ⟨fun pins s σ H v u Q I r z => h.run pins s σ H v u Q I r (hw _ _ _ _ z)⟩
theorem PGs.weak {es : List Expr} {t t' : TGs} (h : PGs X es t) (hw : ∀ v σ H Q, t' v σ H Q → t v σ H Q) : PGs X es t' := ⟨fun pins s σ H v u Q I r z => h.run pins s σ H v u Q I r (hw _ _ _ _ z)⟩
def gN (i : Nat) : Gt := fun d ds _ => some (ds.set i (some d))
theorem mg_name {i : Nat} {x : Str} (hN : X.N.Nodup) (hi : X.N[i]? = some x := by rfl) (hx : Loc X.env.scope x := by first | exact Or.inl rfl | exact Or.inr rfl) (hf : X.fn x = true ∨ X.env.scope.names.lookup x = some .local := by first | exact .inl rfl | exact .inr rfl | assumption) : PG X (.Name x pos) (tG (ge X T) [i] (gN i)) := by
  refine PG.weak (pg_name hN hi hx hf) fun v σ H Q h => ?_
  obtain ⟨W, ds, h, d, ds', f, r, rd, e, q⟩ := h
  cases e
  exact q _ (f.set rd i) ⟨List.length_set, fun j hj => List.getElem?_set_ne fun e => hj (by rw [e]; exact List.mem_singleton_self _)⟩
def gsN : Gts := fun xs ds _ => match xs with
  | [] => some ds
  | _ => none
def gsC (g : Gt) (gs : Gts) : Gts := fun xs ds h => match xs with
  | x :: r => match g x ds h with
    | some ds' => gs r ds' h
    | none => none
  | [] => none
variable {g : Gt} {gs : Gts} {ws ws2 : List Nat}
theorem mgs_nil : PGs X [] (tGs (ge X T) [] gsN) := by
  refine PGs.weak pgs_nil fun v σ H Q h => ?_
  obtain ⟨W, ds, h, xs, ds', f, r, rs, e, q⟩ := h
  unfold gsN at e
  cases rs with
  | nil =>
    cases e
    exact ⟨rfl, q _ f ⟨rfl, fun _ _ => rfl⟩⟩
  | cons _ _ => cases e
theorem mgs_cons (h1 : PG X e (tG (ge X T) ws g)) (h2 : PGs X es (tGs (ge X T) ws2 gs)) (hs : (assignEach (e :: es) X.env).map (·.2) = assign e X.env :: (assignEach es X.env).map (·.2) := by rfl) : PGs X (e :: es) (tGs (ge X T) (ws ++ ws2) (gsC g gs)) := by
  refine PGs.weak (pgs_cons h1 h2 hs) fun v σ H Q h => ?_
  obtain ⟨W, ds, h, xs, ds', f, r, rs, e, q⟩ := h
  cases rs with
  | nil => cases e
  | @cons d v ds2 vs a b =>
    simp only [gsC] at e
    cases e1 : g d ds h with
    | none => rw [e1] at e; cases e
    | some dsm =>
      rw [e1] at e
      exact ⟨v, vs, rfl, W, ds, h, d, dsm, f, r, a, e1, fun σ' f' w1 => ⟨W, dsm, h, ds2, ds', f', r, b, e, fun σ2 f2 w2 => q σ2 f2 ⟨w2.1.trans w1.1, fun j hj => (w2.2 j fun z => hj (List.mem_append_right _ z)).trans (w1.2 j fun z => hj (List.mem_append_left _ z))⟩⟩⟩
def gTu (gs : Gts) : Gt := fun d ds h => match d with
  | .tup xs => gs xs ds h
  | _ => none
theorem gs_len {n : Nat} (hn : ∀ xs ds h ds', gs xs ds h = some ds' → xs.length = n) : True := trivial
theorem mg_tup {k : Nat} {n : Nat} (hc : X.calm = true) (h : PGs X es (tGs (ge X T) ws gs)) (hl : ∀ xs ds h ds', gs xs ds h = some ds' → xs.length = n)
    (hn : (assignEach es X.env).length = n := by rfl) (hst : (assignEach es X.env).findIdx? (·.1) = none := by rfl) : PG X (.Tuple es k pos) (tG (ge X T) ws (gTu gs)) := by
  refine PG.weak (pg_tup hc h hn hst) fun v σ H Q h => ?_
  obtain ⟨W, ds, h, d, ds', f, r, rd, e, q⟩ := h
  unfold gTu at e
  split at e
  · cases rd with
    | @tup a xs _ h1 h2 => exact ⟨a, xs, rfl, Evl.ex_t r.fz h1, by rw [← h2.length]; exact hl _ _ _ _ e, W, ds, h, _, ds', f, r, h2, e, q⟩
  · cases e
theorem gl_nil : ∀ xs ds h ds', gsN xs ds h = some ds' → xs.length = 0 := fun xs ds h ds' e => by
  unfold gsN at e
  split at e
  · rfl
  · cases e
theorem gl_cons {n : Nat} (hn : ∀ xs ds h ds', gs xs ds h = some ds' → xs.length = n) : ∀ xs ds h ds', gsC g gs xs ds h = some ds' → xs.length = n + 1 := fun xs ds h ds' e => by
  unfold gsC at e
  split at e
  · split at e
    · rw [List.length_cons, hn _ _ _ _ e]
    · cases e
  · cases e
def cAsg (g : Gt) (c : Sl → MH → ER D) : Sl → MH → SR := fun ds h => (c ds h).bindS ds fun x h1 => match g x ds h1 with
  | some ds' => .nxt ds' h1
  | none => .bad
theorem ms_asg {tg : Expr} (he : PE X e (tE (ge X T) Wx ca)) (hg : PG X tg (tG (ge X T) ws g)) (hs : swapsWithSole [tg] e pos.line X.env = pure false := by rfl) (hw : swappedStores [tg] e X.env = pure none := by rfl)
    (h1 : (assignEach [tg] X.env).map (·.2) = [assign tg X.env] := by rfl) : PS X (.Assign [tg] e pos) (tS (ge X T) Wx (cAsg g ca)) := by
  refine PS.weak (ps_asg he hg hs hw h1) fun D σ H h => tS_bindE (k := fun ds x h1 => match g x ds h1 with
    | some ds' => .nxt ds' h1
    | none => .bad) h fun W ds h d v H f r rd p => ?_
  cases e1 : g d ds h with
  | none => rw [e1] at p; exact p.elim
  | some ds' =>
    rw [e1] at p
    exact ⟨W, ds, h, d, ds', f, r, rd, e1, fun σ' f' _ => p σ' H W (.refl W) f' r⟩
/-- o[i] = e of a list that may be changed -/
def setLD (h : MH) (o i x : D) : Option MH := match o, i with
  | .ref n, .int k => match h[n]? with
    | some (.lst xs) => match ixN xs.length k with
      | some j => some (h.set n (.lst (xs.set j x)))
      | none => none
    | _ => none
  | _, _ => none
def cSetL (co ci cv : Sl → MH → ER D) : Sl → MH → SR := fun ds h => (cv ds h).bindS ds fun x h1 => (co ds h1).bindS ds fun o h2 => (ci ds h2).bindS ds fun i h3 => match setLD h3 o i x with
  | some h4 => .nxt ds h4
  | none => .bad
theorem post_bindS {α β : Type} {G : GE} {Ra : Wd → α → β → Prop} {Wx : WX} {c : Sl → MH → ER α} {k : α → MH → SR} {R : β → Hp → Prop} {D : Ends} {σ : L2.St} {H : Hp} {W : Wd} {ds : Sl} {h : MH}
    (f : FR G W ds σ) (r : HR G h H W) (p : PostS G W ((c ds h).bindS ds k) D Wx)
    (hR : ∀ W' h' d v H', W.le W' → HR G h' H' W' → Ra W' d v → PostS G W' (k d h') D Wx → R v H') : tR G Ra Wx c σ H R := by
  refine ⟨W, ds, h, f, r, ?_⟩
  dsimp only [ER.bindS] at p
  cases e : c ds h with
  | val d h1 =>
    rw [e] at p
    exact fun v H1 W1 l r1 rv => hR W1 h1 d v H1 l r1 rv (p.up l)
  | exc x h1 =>
    rw [e] at p
    exact fun cls dd H1 W1 l r1 rx => p cls dd σ H1 W1 l (f.up l) r1 rx
  | bad =>
    rw [e] at p
    exact p
theorem ms_setL {o i : Expr} {tpos : Pos} (ho : PE X o (tE (ge X T) Wx ca)) (hi : PE X i (tE (ge X T) Wx cb)) (hv : PE X e (tE (ge X T) Wx cv))
    (hs : swapsWithSole [.Subscript o i tpos] e pos.line X.env = pure false := by rfl) (hw : swappedStores [.Subscript o i tpos] e X.env = pure none := by rfl)
    (h1 : (assignEach [.Subscript o i tpos] X.env).map (·.2) = [assign (.Subscript o i tpos) X.env] := by rfl)
    (ha : ∀ v, assign (.Subscript o i tpos) X.env v = (do
      let ov ← holding [v] (eval o X.env)
      let iv ← holding [v, ov] (eval i X.env)
      standAt tpos
      holding [v, ov, iv] (setItem ov iv v)
      release [v, ov, iv] []) := by intro _; rfl) : PS X (.Assign [.Subscript o i tpos] e pos) (tS (ge X T) Wx (cSetL ca cb cv)) := by
  refine PS.weak (ps_asg hv (pg_sub ho hi set_list ha) hs hw h1) fun D σ H h => ?_
  obtain ⟨W, ds, h, f, r, p⟩ := h
  refine post_bindS f r p fun W1 h1 x v H1 l1 r1 rx p1 => post_bindS (f.up l1) r1 p1 fun W2 h2 o ov H2 l2 r2 ro p2 => post_bindS ((f.up l1).up l2) r2 p2 fun W3 h3 i iv H3 l3 r3 ri p3 => ?_
  have rx3 := (rx.up l2).up l3
  have ro3 := ro.up l3
  split at p3
  · rename_i h4 e4
    unfold setLD at e4
    split at e4
    · split at e4
      · split at e4
        · rename_i xs hx _ j hj
          cases e4
          cases ri
          cases ro3 with
          | ref hn =>
            obtain ⟨ho, q1, q2⟩ := r3.at_ hx hn
            cases q2 with
            | lst q2 => exact ⟨_, _, _, j, rfl, rfl, q1, by rw [← q2.length]; exact hj, p3 σ _ W3 (.refl W3) (((f.up l1).up l2).up l3) (r3.write hn (.lst (q2.set rx3 j)))⟩
        · cases e4
      · cases e4
    · cases e4
  · exact p3.elim

/-! ### while -/
def whileR (t : Sl → MH → ER Bool) (b : Sl → MH → SR) : Nat → Sl → MH → SR
  | 0, _, _ => .bad
  | n + 1, ds, h => (t ds h).bindS ds fun k h1 => if k = true then (match b ds h1 with
    | .nxt ds' h' => whileR t b n ds' h'
    | .cnt ds' h' => whileR t b n ds' h'
    | .brk ds' h' => .nxt ds' h'
    | r => r) else .nxt ds h1
def cWhile (N : Nat) (t : Sl → MH → ER Bool) (b : Sl → MH → SR) : Sl → MH → SR := fun ds h => whileR t b N ds h
theorem ms_while {N : Nat} {c : Expr} {body : List Stmt} (hp : PassesOwn (model X.prog X.w) X.A X.env X.xe) (hc : PT X c (tT (ge X T) Wx ct)) (hb : PSs X body (tS (ge X T) Wx s1)) : PS X (.While c body [] pos) (tS (ge X T) Wx (cWhile N ct s1)) := by
  refine PS.weak (ps_while hp hc hb) fun D σ H h => ?_
  obtain ⟨W, ds, h, f, r, p⟩ := h
  refine ⟨fun m σ H => ∃ W ds h, FR (ge X T) W ds σ ∧ HR (ge X T) h H W ∧ PostS (ge X T) W (whileR ct s1 m ds h) D Wx, ⟨N, W, ds, h, f, r, p⟩, ?_⟩
  rintro m σ H ⟨W, ds, h, f, r, p⟩
  cases m with
  | zero => exact p.elim
  | succ n =>
    unfold whileR at p
    refine post_bindS f r p fun W1 h1 k v H1 l1 r1 rk p1 => ?_
    subst rk
    cases k with
    | true =>
      refine ⟨fun σ' H' => ∃ W ds h, FR (ge X T) W ds σ' ∧ HR (ge X T) h H' W ∧ PostS (ge X T) W (whileR ct s1 n ds h) D Wx, fun σ' H' w => ⟨n, Nat.lt_succ_self n, w⟩, W1, ds, h1, f.up l1, r1, ?_⟩
      simp only [if_true] at p1
      cases e : s1 ds h1 with
      | nxt ds' h' =>
        rw [e] at p1
        exact fun σ' H' W' l f' r' => ⟨W', ds', h', f', r', p1.up l⟩
      | cnt ds' h' =>
        rw [e] at p1
        exact fun σ' H' W' l f' r' => ⟨W', ds', h', f', r', p1.up l⟩
      | brk ds' h' => rw [e] at p1; exact p1
      | ret d h' => rw [e] at p1; exact p1
      | exc x d h' => rw [e] at p1; exact p1
      | bad => rw [e] at p1; exact p1
    | false =>
      simp only [Bool.false_eq_true, if_false] at p1 ⊢
      exact p1 σ _ W1 (.refl W1) (f.up l1) r1

/-! ### for -/
/-- what is walked: its items by the heap (they may not change in number) -/
abbrev Cur := MH → Option (List D)
def forR (cur : Cur) (L : Nat) (g : Gt) (b : Sl → MH → SR) : Nat → Nat → Sl → MH → SR
  | k, i, ds, h => match cur h with
    | none => .bad
    | some xs => if xs.length = L then (match k with
      | 0 => .nxt ds h
      | k + 1 => match xs[i]? with
        | none => .bad
        | some x => match g x ds h with
          | none => .bad
          | some ds1 => match b ds1 h with
            | .nxt ds' h' => forR cur L g b k (i + 1) ds' h'
            | .cnt ds' h' => forR cur L g b k (i + 1) ds' h'
            | .brk ds' h' => .nxt ds' h'
            | r => r) else .bad
def cFor (it : Sl → MH → ER Cur) (g : Gt) (b : Sl → MH → SR) : Sl → MH → SR := fun ds h => (it ds h).bindS ds fun cur h1 => match cur h1 with
  | none => .bad
  | some xs => forR cur xs.length g b xs.length 0 ds h1
/-- an iterator walks the items -/
def ItOk (G : GE) (W : Wd) (cur : Cur) (J : It) : Prop := ∀ W' h H' xs, W.le W' → HR G h H' W' → cur h = some xs → ∀ i, (xs.length ≤ i → J.stop i H') ∧ ∀ d, xs[i]? = some d → J.go i H' ∧ ∀ x H'', J.yld i H' x H'' → ∃ W'', W'.le W'' ∧ HR G h H'' W'' ∧ RD G W'' d x
theorem ItOk.up {G : GE} {W W' : Wd} {cur : Cur} {J : It} (o : ItOk G W cur J) (l : W.le W') : ItOk G W' cur J := fun W2 h H xs l2 => o W2 h H xs (l.trans l2)
abbrev tI (G : GE) (Wx : WX) (c : Sl → MH → ER Cur) : TI := tR G (ItOk G) Wx c
theorem PI.weak {tg it : Expr} {t t' : TI} (h : PI X tg it t) (hw : ∀ σ H Q, t' σ H Q → t σ H Q) : PI X tg it t' := ⟨fun pins s σ H R I z => h.run pins s σ H R I (hw _ _ _ z)⟩
variable {it : Sl → MH → ER Cur}
theorem ms_for {tg iter : Expr} {body : List Stmt} (hp : PassesOwn (model X.prog X.w) X.A X.env X.xe) (hc : X.calm = true) (hi : PI X tg iter (tI (ge X T) Wx it)) (hg : PG X tg (tG (ge X T) ws g)) (hb : PSs X body (tS (ge X T) Wx s1))
    (hs : ∀ x, foldedSetIterable iter X.env x = pure x := by intro _; rfl) : PS X (.For tg iter body [] pos) (tS (ge X T) Wx (cFor it g s1)) := by
  refine PS.weak (ps_for hp hc hi hg hb hs) fun D σ H h => ?_
  obtain ⟨W, ds, h, f, r, p⟩ := h
  refine post_bindS f r p fun W1 h1 cur J H1 l1 r1 ok p1 => ?_
  split at p1
  · exact p1.elim
  · rename_i xs0 e0
    refine ⟨fun i m σ H => m + i = xs0.length ∧ ∃ W ds h, W1.le W ∧ FR (ge X T) W ds σ ∧ HR (ge X T) h H W ∧ PostS (ge X T) W (forR cur xs0.length g s1 m i ds h) D Wx, ⟨xs0.length, rfl, W1, ds, h1, .refl W1, f.up l1, r1, p1⟩, ?_⟩
    rintro i m σ H ⟨hm, W, ds, h, l, f, r, p⟩
    unfold forR at p
    split at p
    · exact p.elim
    · rename_i xs e1
      split at p
      · rename_i hl
        obtain ⟨o1, o2⟩ := ok W h H xs l r e1 i
        cases m with
        | zero => exact .inl ⟨o1 (by omega), p σ H W (.refl W) f r⟩
        | succ k =>
          dsimp only at p
          split at p
          · exact p.elim
          · rename_i x ex
            obtain ⟨q1, q2⟩ := o2 x ex
            refine .inr ⟨q1, fun σ' H' => ∃ W ds h, W1.le W ∧ FR (ge X T) W ds σ' ∧ HR (ge X T) h H' W ∧ PostS (ge X T) W (forR cur xs0.length g s1 k (i + 1) ds h) D Wx, fun σ' H' w => ⟨k, Nat.lt_succ_self k, by omega, w⟩, fun v H' y => ?_⟩
            obtain ⟨W2, l2, r2, rx⟩ := q2 v H' y
            split at p
            · exact p.elim
            · rename_i ds1 eg
              refine ⟨W2, ds, h, x, ds1, f.up l2, r2, rx, eg, fun σ2 f2 _ => ⟨W2, ds1, h, f2, r2, ?_⟩⟩
              have p2 := p.up l2
              cases e : s1 ds1 h with
              | nxt ds' h' =>
                rw [e] at p2
                exact fun σ' H' W' l' f' r' => ⟨W', ds', h', (l.trans l2).trans l', f', r', p2.up l'⟩
              | cnt ds' h' =>
                rw [e] at p2
                exact fun σ' H' W' l' f' r' => ⟨W', ds', h', (l.trans l2).trans l', f', r', p2.up l'⟩
              | brk ds' h' => rw [e] at p2; exact p2
              | ret d h' => rw [e] at p2; exact p2
              | exc x d h' => rw [e] at p2; exact p2
              | bad => rw [e] at p2; exact p2
      · exact p.elim

/-! ### what is walked -/
/-- a tuple, a list as it stands -/
def curD (x : D) : Cur := match x with
  | .tup xs => fun _ => some xs
  | .scr ns => fun _ => some (ns.map D.int)
  | .lst xs => fun _ => some xs
  | x => fun h => seqL h x
def cCur (c : Sl → MH → ER D) : Sl → MH → ER Cur := fun ds h => (c ds h).bind fun x h1 => match curD x h1 with
  | some _ => .val (curD x) h1
  | none => .bad
theorem it_list {G : GE} {W : Wd} {cur : Cur} {a : Addr} (hq : ∀ W' h H' xs, W.le W' → HR G h H' W' → cur h = some xs → ∃ vs, SqL G.K H' a vs ∧ RDs G W' xs vs) : ItOk G W cur (Itl G.K a) := by
  intro W' h H' xs l r e i
  obtain ⟨vs, h1, h2⟩ := hq W' h H' xs l r e
  refine ⟨fun hl => ⟨vs, h1, by rw [← h2.length]; exact hl⟩, fun d hd => ?_⟩
  obtain ⟨v, h3, h4⟩ := h2.get hd
  refine ⟨⟨vs, v, h1, h3⟩, fun x H'' y => ?_⟩
  obtain ⟨y1, y2⟩ := y
  subst y1
  have e := y2 vs h1
  rw [h3] at e
  cases e
  exact ⟨W', .refl W', r, h4⟩
theorem it_tup {G : GE} {W : Wd} {a : Addr} {xs : List D} {vs : List V} (h1 : SqT G.K W.Fz a vs) (h2 : RDs G W xs vs) : ItOk G W (fun _ => some xs) (Itt G.K a) := by
  intro W' h H' ys l r e i
  cases e
  have h1' := Evl.ex_t (l.1.trans r.fz) h1
  have h2' := h2.up l
  refine ⟨fun hl => ⟨vs, h1', by rw [← h2.length]; exact hl⟩, fun d hd => ?_⟩
  obtain ⟨v, h3, h4⟩ := h2'.get hd
  refine ⟨⟨vs, v, h1', h3⟩, fun x H'' y => ?_⟩
  obtain ⟨y1, y2⟩ := y
  subst y1
  have e := y2 vs h1'
  rw [h3] at e
  cases e
  exact ⟨W', .refl W', r, h4⟩
/-- over a list or a tuple, as the value is -/
theorem pi_any {tg l : Expr} {tl : TE} (hl : PE X l tl) : PI X tg l (fun σ H R => tl σ H fun x H1 => ∃ a, x = .ref a ∧ (((∃ xs, SqL X.K H1 a xs) ∧ R (Itl X.K a) H1) ∨ ((∃ xs, SqT X.K H1 a xs) ∧ R (Itt X.K a) H1))) := by
  refine ⟨fun pins s σ H R I h => ?_⟩
  refine thn (hl.run pins s σ H _ I h) fun v s1 ⟨x, H1, I1, rx, a, ex, q⟩ => ?_
  subst ex
  cases rx
  have fresh : ∀ b ∈ [s1.heap.objs.size], FpOk X pins H1 b := fun b hb => by
    have e : b = s1.heap.objs.size := List.mem_singleton.mp hb
    rw [e]
    exact I1.fpOk (Nat.le_refl _) (I1.hok.fresh (Nat.le_refl _))
  rcases q with ⟨⟨xs, hq⟩, q⟩ | ⟨⟨xs, hq⟩, q⟩
  · obtain ⟨its, rv, pl, hz⟩ := I1.list hq
    refine wpAny_pyIter_list pl.isList ⟨_, _, _, _, H1, rfl, I1.kept (t' := s1.toks) fun b o eo => ?_, turn_list a s1.heap.objs.size, ?_, fresh, q⟩
    · exact Heap.get?_push_of_some _ eo
    · exact ⟨_, Heap.get?_push_size _ rfl, rfl, rfl⟩
  · obtain ⟨its, rv, pl, hz⟩ := I1.tuple hq
    refine wpAny_pyIter_tuple (show s1.heap.IsTuple a its.toArray from pl) ⟨_, _, _, _, H1, rfl, I1.kept (t' := s1.toks) fun b o eo => ?_, turn_tuple a s1.heap.objs.size, ?_, fresh, q⟩
    · exact Heap.get?_push_of_some _ eo
    · exact ⟨_, Heap.get?_push_size _ rfl, rfl, rfl⟩
theorem mi_seq {tg l : Expr} (hl : PE X l (tE (ge X T) Wx ca)) : PI X tg l (tI (ge X T) Wx (cCur ca)) := by
  refine PI.weak (pi_any hl) fun σ H R h => tR_bind (k := fun _ x h1 => (match curD x h1 with
    | some _ => .val (curD x) h1
    | none => .bad : ER Cur)) h fun W ds h d v H f r rd p => ?_
  cases e : curD d h with
  | none => rw [e] at p; exact p.elim
  | some xs =>
    rw [e] at p
    have fin : ∀ J, ItOk (ge X T) W (curD d) J → R J H := fun J ok => p J H W (.refl W) r ok
    cases rd with
    | @tup a vs ds h1 h2 => exact ⟨a, rfl, .inr ⟨⟨vs, Evl.ex_t r.fz h1⟩, fin _ (it_tup h1 h2)⟩⟩
    | @scr a ns h1 => exact ⟨a, rfl, .inl ⟨⟨_, Evl.ex_l r.fz h1⟩, fin _ (it_list fun W' h' H' ys l r' e' => by
        cases e'
        exact ⟨_, Evl.ex_l (l.1.trans r'.fz) h1, rds_ints ns⟩)⟩⟩
    | @lst a vs ds h1 h2 => exact ⟨a, rfl, .inl ⟨⟨vs, Evl.sq_of (r.fz _ _ h1)⟩, fin _ (it_list fun W' h' H' ys l r' e' => by
        cases e'
        exact ⟨_, Evl.sq_of (r'.fz _ _ (l.1 _ _ h1)), h2.up l⟩)⟩⟩
    | @ref n a hn =>
      have e : seqL h (.ref n) = some xs := e
      obtain ⟨a2, vs, q1, q2, q3⟩ := seqL_at r (.ref hn) e
      cases q1
      refine ⟨a, rfl, .inl ⟨⟨vs, Evl.sq_of q2⟩, fin _ (it_list fun W' h' H' ys l r' e' => ?_)⟩⟩
      have rd' : RD (ge X T) W' (.ref n) (.ref a) := (RD.ref hn).up l
      obtain ⟨a3, vs3, p1, p2, p3⟩ := seqL_at r' rd' (show seqL h' (.ref n) = some ys from e')
      cases p1
      exact ⟨vs3, Evl.sq_of p2, p3⟩
    | _ => exact absurd e (by intro z; cases z)
/-- range(n), range(a, b) -/
def rgD (lo : Int) (n : Nat) : List D := (List.range n).map fun i => .int (lo + (i : Nat))
def cRg1 (cs : Sl → MH → ER (List D)) : Sl → MH → ER Cur := fun ds h => (cs ds h).bind fun xs h1 => match xs with
  | [.int j] => if -(2 ^ 62) ≤ j ∧ j < 2 ^ 62 then .val (fun _ => some (rgD 0 j.toNat)) h1 else .bad
  | _ => .bad
def cRg2 (cs : Sl → MH → ER (List D)) : Sl → MH → ER Cur := fun ds h => (cs ds h).bind fun xs h1 => match xs with
  | [.int i, .int j] => if -(2 ^ 62) ≤ i ∧ i < 2 ^ 62 ∧ -(2 ^ 62) ≤ j ∧ j < 2 ^ 62 then .val (fun _ => some (rgD i (j - i).toNat)) h1 else .bad
  | _ => .bad
theorem it_rg {G : GE} {W : Wd} {lo : Int} {n : Nat} : ItOk G W (fun _ => some (rgD lo n)) (Itr lo n) := by
  intro W' h H' xs l r e i
  cases e
  have hl : (rgD lo n).length = n := by unfold rgD; rw [List.length_map, List.length_range]
  refine ⟨fun h => by rw [hl] at h; exact h, fun d hd => ?_⟩
  have hi : i < n := by
    have := (List.getElem?_eq_some_iff.mp hd).1
    rw [hl] at this
    exact this
  unfold rgD at hd
  rw [List.getElem?_map, List.getElem?_range hi] at hd
  cases hd
  refine ⟨hi, fun x H'' y => ?_⟩
  obtain ⟨y1, y2⟩ := y
  subst y1
  subst y2
  exact ⟨W', .refl W', r, .int _⟩
theorem mi_range1 {tg : Expr} {p : Pos} (hm : X.mg "range" = none) (ha : PA X [a] (tA (ge X T) Wx cs)) (hg : Gl X "range" := by rfl) (hs : starEach [a] X.env = [(false, eval a X.env)] := by rfl) : PI X tg (.Call (.Name "range" p) [a] [] pos) (tI (ge X T) Wx (cRg1 cs)) := by
  refine PI.weak (pi_range1 hg hm ha hs) fun σ H R h => tR_bind (k := fun _ xs h1 => (match xs with
    | [.int j] => if -(2 ^ 62) ≤ j ∧ j < 2 ^ 62 then .val (fun _ => some (rgD 0 j.toNat)) h1 else .bad
    | _ => .bad : ER Cur)) h fun W ds h d v H f r rd p => ?_
  split at p
  · rename_i j
    split at p
    · rename_i hj
      cases rd with
      | cons q1 q2 =>
        cases q1
        cases q2
        exact ⟨j, rfl, hj.1, hj.2, p _ H W (.refl W) r it_rg⟩
    · exact p.elim
  · exact p.elim
theorem mi_range2 {tg : Expr} {p : Pos} (hm : X.mg "range" = none) (ha : PA X [a, b] (tA (ge X T) Wx cs)) (hg : Gl X "range" := by rfl) (hs : starEach [a, b] X.env = [(false, eval a X.env), (false, eval b X.env)] := by rfl) (hs2 : starEach [b] X.env = [(false, eval b X.env)] := by rfl) : PI X tg (.Call (.Name "range" p) [a, b] [] pos) (tI (ge X T) Wx (cRg2 cs)) := by
  refine PI.weak (pi_range2 hg hm ha hs hs2) fun σ H R h => tR_bind (k := fun _ xs h1 => (match xs with
    | [.int i, .int j] => if -(2 ^ 62) ≤ i ∧ i < 2 ^ 62 ∧ -(2 ^ 62) ≤ j ∧ j < 2 ^ 62 then .val (fun _ => some (rgD i (j - i).toNat)) h1 else .bad
    | _ => .bad : ER Cur)) h fun W ds h d v H f r rd p => ?_
  split at p
  · rename_i i j
    split at p
    · rename_i hj
      cases rd with
      | cons q1 q2 =>
        cases q2 with
        | cons q2 q3 =>
          cases q1
          cases q2
          cases q3
          exact ⟨i, j, rfl, hj, p _ H W (.refl W) r it_rg⟩
    · exact p.elim
  · exact p.elim
end
end DL
end
section
set_option Elab.async false
set_option linter.all false
set_option maxRecDepth 100000
set_option maxHeartbeats 4000000
namespace DL
open PySem PySem.Spec PyProof.Rows L2

/-! ### defs -/
abbrev Mi := List D → MH → ER D
def spD (G : GE) (m : Mi) : Sp := fun vs H Q E => ∃ W ds h, RDs G W ds vs ∧ HR G h H W ∧ Post G (RD G) W (m ds h) Q E
/-- the def of number i does what m says -/
def DF (G : GE) (mg : Str → Option Value) (base : Heap) (k i : Nat) (m : Mi) : Prop := FnR G.P G.w G.K mg base (L2.CX G.P G.w) k (G.T.fa i) (spD G m)
theorem DF.mono {G : GE} {mg : Str → Option Value} {base : Heap} {j k i : Nat} {m : Mi} (F : DF G mg base j i m) (h : j ≤ k) : DF G mg base k i m := FnR.mono F h
/-- a def's end -/
def cDef (np n : Nat) (c : Sl → MH → SR) : Mi := fun args h => if args.length = np then (match c (args.map some ++ List.replicate (n - np) none) h with
  | .nxt _ h' => .val .non h'
  | .ret d h' => .val d h'
  | .exc x _ h' => .exc x h'
  | _ => .bad) else .bad
theorem fr_start {G : GE} {W : Wd} {args : List D} {vs : List V} {N : List Str} (r : RDs G W args vs) : FR G W (args.map some ++ List.replicate (N.length - args.length) none) (start N vs) := by
  have hl := r.length
  refine ⟨by simp [L2.start, hl], fun i d e => ?_⟩
  by_cases hi : i < args.length
  · rw [List.getElem?_append_left (by simpa using hi), List.getElem?_map] at e
    cases q : args[i]? with
    | none => rw [q] at e; cases e
    | some a =>
      rw [q] at e
      cases e
      obtain ⟨v, h1, h2⟩ := r.get q
      refine ⟨v, ?_, h2⟩
      unfold L2.start
      rw [List.getElem?_append_left (by rw [List.length_map, ← hl]; exact hi), List.getElem?_map, h1]
      rfl
  · rw [List.getElem?_append_right (by simpa using hi), List.getElem?_replicate] at e
    split at e <;> cases e
/-- the body's reading gives the def's -/
theorem tS_def {G : GE} {np : Nat} {N : List Str} {c : Sl → MH → SR} {vs : List V} {H : Hp} {Q : VK} {E : XK} (h : spD G (cDef np N.length c) vs H Q E) : tS G (fun cls d _ H' => E cls d H') c { nx := fun _ H' => Q .non H', rt := Q } (start N vs) H := by
  obtain ⟨W, args, h, ra, r, p⟩ := h
  unfold cDef at p
  by_cases hl : args.length = np
  · rw [if_pos hl] at p
    subst hl
    refine ⟨W, _, h, fr_start ra, r, ?_⟩
    split at p
    · rename_i e; rw [e]; exact fun σ H W' l _ r' => p .non H W' l r' .non
    · rename_i e; rw [e]; exact fun v H W' l r' rv => p v H W' l r' rv
    · rename_i e; rw [e]; exact fun cls dd _ H W' l _ r' rx => p cls dd H W' l r' rx
    · exact p.elim
  · rw [if_neg hl] at p
    exact p.elim
theorem spD_len {G : GE} {np n : Nat} {c : Sl → MH → SR} {vs : List V} {H : Hp} {Q : VK} {E : XK} (h : spD G (cDef np n c) vs H Q E) : vs.length = np := by
  obtain ⟨W, args, h, ra, r, p⟩ := h
  unfold cDef at p
  by_cases hl : args.length = np
  · rw [← ra.length]; exact hl
  · rw [if_neg hl] at p
    exact p.elim
/-- THE RULE for a def without defaults -/
theorem df_mk {K : PySem.W.Frag} {P : Program} {w : World} {T : Tg} {mg : Str → Option Value} {base : Heap} {k i : Nat} {x qual : Str} {st : Stmt} {fd : FuncData} {N ps : List Str} {c : Sl → MH → SR}
    (F : Fun K x qual st (T.fa i) fd) (b : Binds K fd ps []) (S : FnScope N ps (defScope st))
    (hbody : ∀ (cdv : Value) (A : Around) (outer : List Env) (s : Shared) (H : Hp) (E : XK), Room k (A.deeper (envOfC qual (defScope st) s.heap.objs.size (T.fa i) cdv)) →
      PSs (cxOf (L2.CX P w) P w K mg base N qual (defScope st) (T.fa i) cdv A outer s H E) (defBody st) (tS ⟨K, P, w, T⟩ (fun cls d _ H' => E cls d H') c)) :
    DF ⟨K, P, w, T⟩ mg base (k + 1) i (cDef ps.length N.length c) := by
  have f : FnOk P w K mg base (L2.CX P w) (k + 1) (T.fa i) fd ps (spD ⟨K, P, w, T⟩ (cDef ps.length N.length c)) :=
    F.okX S (fun vs H Q E h => spD_len h) fun cdv A outer s H vs Q E hr h => ⟨_, hbody cdv A outer s H E hr, tS_def h⟩
  exact (f.raw b .nil).imp fun vs H Q E h => by rw [List.append_nil]; exact h
/-- .. its mirror unfolded -/
theorem DF.as {G : GE} {mg : Str → Option Value} {base : Heap} {k i : Nat} {m m' : Mi} (F : DF G mg base k i m) (e : m = m') : DF G mg base k i m' := e ▸ F

section
variable {X : Cx} {T : Tg} {Wx : WX} {a b e o : Expr} {es : List Expr} {ca cb cv : Sl → MH → ER D} {cs : Sl → MH → ER (List D)} {pos p apos : Pos} {k i : Nat} {m : Mi} {x : Str}
/-- the callee runs -/
theorem run_fnA {pins : List (Addr × Obj)} {σ : L2.St} {H : Hp} {s : Shared} {f : Addr} {sp : Sp} {E : XK} {Q : VK} {us : List Value} {vs : List V} (F : FnR X.prog X.w X.K X.mg X.base (L2.CX X.prog X.w) k f sp) (hr : Room k X.A) (hx : PassesAt (L2.CX X.prog X.w) X σ E) (I : Inv X pins σ H s) (r : Vals vs us) (h : sp vs H Q E) :
    codeAny (model X.prog X.w) X.A (.call (.ref f) ⟨us, []⟩) (fun r s' => match r with | .ok (.ret v) => EP X pins σ Q v s' | .ok _ => False | .error e => X.xe e s') s := by
  refine codeAny_mono (F X.A X.stack s H us vs Q E hr I.env0 r h) fun r s' hq => ?_
  cases r with
  | error e => exact hx pins H s e s' I hq
  | ok fl =>
    cases fl with
    | ret u => exact I.after hq
    | next => exact False.elim hq
    | brk => exact False.elim hq
    | cont => exact False.elim hq
theorem tR_ret {α β : Type} {G : GE} {Rl : Wd → α → β → Prop} {c : Sl → MH → ER α} {σ : L2.St} {H : Hp} {Q : β → Hp → Prop} {W : Wd} {ds : Sl} {h : MH} (f : FR G W ds σ) (r : HR G h H W) (p : Post G Rl W (c ds h) Q (fun cls dd H' => Wx cls dd σ H')) : tR G Rl Wx c σ H Q := ⟨W, ds, h, f, r, p⟩

/-! ### f(e, ..) -/
def cCall (m : Mi) (cs : Sl → MH → ER (List D)) : Sl → MH → ER D := fun ds h => (cs ds h).bind fun xs h1 => m xs h1
theorem me_call (F : DF (ge X T) X.mg X.base k i m) (hr : Room k X.A) (hm : X.mg x = some (.ref (T.fa i))) (hk : PySem.W.keepIn X.K (.ref (T.fa i)) = true) (tk : Takes X Wx)
    (ha : PA X (e :: es) (tA (ge X T) Wx cs)) (hg : Gl X x := by rfl) (hdb : (x == ("__debug__" : Str)) = false := by decide) (he : starEach (e :: es) X.env = (false, eval e X.env) :: starEach es X.env := by rfl) (hpl : (backTo pos (starEach es X.env)).any (·.1) = false := by rfl) :
    PE X (.Call (.Name x p) (e :: es) [] pos) (tE (ge X T) Wx (cCall m cs)) := by
  refine ⟨fun pins s σ H Q I h => ?_⟩
  have h' := tR_bind (Ra := RDs (ge X T)) (R := fun vs H1 => spD (ge X T) m vs H1 Q (WE Wx σ)) (k := fun _ xs h1 => m xs h1) h fun W ds h d v H _ r rd p => ⟨W, d, h, rd, r, p⟩
  refine wpAny_Call_Name_kw (ld_glob I hg hm ?_ hdb)
  refine PySem.W.callWith_K (h₀ := X.base) I.ok.mod.kin hk (thn (ha.run pos pins s σ H _ I h') fun us s1 ⟨vs, H1, I1, r, q⟩ => ⟨I1.kIn, ?_⟩) he hpl
  exact wpAny_call (run_fnA F hr (passAt tk σ) I1 r q)
theorem me_call0 (F : DF (ge X T) X.mg X.base k i m) (hr : Room k X.A) (hm : X.mg x = some (.ref (T.fa i))) (hk : PySem.W.keepIn X.K (.ref (T.fa i)) = true) (tk : Takes X Wx)
    (hg : Gl X x := by rfl) (hdb : (x == ("__debug__" : Str)) = false := by decide) : PE X (.Call (.Name x p) [] [] pos) (tE (ge X T) Wx (cCall m cNil)) := by
  refine ⟨fun pins s σ H Q I h => ?_⟩
  obtain ⟨W, ds, h, f, r, p⟩ := h
  refine wpAny_Call_Name_kw (ld_glob I hg hm ?_ hdb)
  exact PySem.W.callWith_K0 I.kIn hk (wpAny_call (run_fnA (us := []) F hr (passAt tk σ) I .nil (show spD (ge X T) m [] H Q (WE Wx σ) from ⟨W, [], h, .nil, r, p⟩)))

/-! ### instances -/
theorem lk_none {G : GE} {W : Wd} {f : Str} : ∀ {fs : List (Str × D)} {gs : List (Str × V)}, Paired (fun (p : Str × D) (q : Str × V) => p.1 = q.1 ∧ RD G W p.2 q.2) fs gs → fs.lookup f = none → gs.lookup f = none
  | _, _, .nil, _ => rfl
  | (n, d) :: fs, (n', v) :: gs, .cons r t, e => by
    obtain ⟨e1, _⟩ := r
    have e1 : n = n' := e1
    subst e1
    rw [List.lookup_cons] at e ⊢
    split at e
    · cases e
    · exact lk_none t e
theorem lk_some {G : GE} {W : Wd} {f : Str} {d : D} : ∀ {fs : List (Str × D)} {gs : List (Str × V)}, Paired (fun (p : Str × D) (q : Str × V) => p.1 = q.1 ∧ RD G W p.2 q.2) fs gs → fs.lookup f = some d → ∃ v, gs.lookup f = some v ∧ RD G W d v
  | _, _, .nil, e => by cases e
  | (n, d') :: fs, (n', v) :: gs, .cons r t, e => by
    obtain ⟨e1, r1⟩ := r
    have e1 : n = n' := e1
    subst e1
    rw [List.lookup_cons] at e ⊢
    split at e
    · cases e
      exact ⟨v, rfl, r1⟩
    · exact lk_some t e
/-- an instance of a class of P: its number, its class's, its fields -/
def insD (P : Nat → Bool) (h : MH) (o : D) : Option (Nat × Nat × List (Str × D)) := match o with
  | .ref n => match h[n]? with
    | some (.ins c fs) => if P c = true then some (n, c, fs) else none
    | _ => none
  | _ => none
theorem ins_at {G : GE} {P : Nat → Bool} {h : MH} {H : Hp} {W : Wd} {o : D} {v : V} {n c : Nat} {fs : List (Str × D)} (r : HR G h H W) (rd : RD G W o v) (e : insD P h o = some (n, c, fs)) :
    ∃ a dx gs, v = .ref a ∧ o = .ref n ∧ W.rho[n]? = some a ∧ H a = some (.ins (G.T.ca c) dx gs) ∧ Paired (fun p q => p.1 = q.1 ∧ RD G W p.2 q.2) fs gs ∧ P c = true := by
  unfold insD at e
  split at e
  · split at e
    · rename_i c' fs' hx
      split at e
      · rename_i hp
        cases e
        cases rd with
        | ref hn =>
          obtain ⟨ho, q1, q2⟩ := r.at_ hx hn
          cases q2 with
          | ins q2 => exact ⟨_, _, _, rfl, rfl, hn, q1, q2, hp⟩
      · cases e
    · cases e
  · cases e
/-- o.f -/
def fldD (P : Nat → Bool) (f : Str) (h : MH) (o : D) : Option D := match insD P h o with
  | some (_, _, fs) => fs.lookup f
  | none => none
theorem me_fld {P : Nat → Bool} {f : Str} (ha : PE X e (tE (ge X T) Wx ca)) (hP : ∀ c, P c = true → Cls X.K (T.ca c) ∧ NoAttr X.K (T.ca c) f) (hb : attributeBase e f X.env (eval e X.env) = eval e X.env := by rfl) : PE X (.Attribute e f pos) (tE (ge X T) Wx (c1 (fldD P f) ca)) := by
  refine PE.weak (pe_fld ha hb) fun σ H Q h => tR_bind (k := fun _ x h2 => ofO (fldD P f h2 x) h2) h fun W ds h d v H _ r rd p => ?_
  obtain ⟨W, h, d, z, r, rd, e, q⟩ := g1_of r rd p
  unfold fldD at e
  split at e
  · rename_i n c fs e1
    obtain ⟨a, dx, gs, rfl, _, _, ea, rf, hp⟩ := ins_at r rd e1
    obtain ⟨v, lv, rv⟩ := lk_some rf e
    obtain ⟨h1, h2⟩ := hP c hp
    exact ⟨a, _, dx, gs, v, rfl, ea, h1, h2, lv, q.here r rv⟩
  · cases e
/-- fields, one put -/
def putD (f : Str) (x : D) : List (Str × D) → List (Str × D)
  | [] => [(f, x)]
  | (n, y) :: r => if n = f then (n, x) :: r else (n, y) :: putD f x r
theorem put_pair {G : GE} {W : Wd} {f : Str} {x : D} {v : V} (rx : RD G W x v) : ∀ {fs : List (Str × D)} {gs : List (Str × V)}, Paired (fun (p : Str × D) (q : Str × V) => p.1 = q.1 ∧ RD G W p.2 q.2) fs gs → Paired (fun (p : Str × D) (q : Str × V) => p.1 = q.1 ∧ RD G W p.2 q.2) (putD f x fs) (putF f v gs)
  | _, _, .nil => .cons ⟨rfl, rx⟩ .nil
  | (n, d') :: fs, (n', v') :: gs, .cons r t => by
    obtain ⟨e1, r1⟩ := r
    have e1 : n = n' := e1
    subst e1
    unfold putD putF
    split
    · exact .cons ⟨rfl, rx⟩ t
    · exact .cons ⟨rfl, r1⟩ (put_pair rx t)
/-- o.f = e -/
def setFD (P : Nat → Bool) (f : Str) (h : MH) (o x : D) : Option MH := match insD P h o with
  | some (n, c, fs) => if fs.length < 100 then some (h.set n (.ins c (putD f x fs))) else none
  | none => none
def cSetF (P : Nat → Bool) (f : Str) (co cv : Sl → MH → ER D) : Sl → MH → SR := fun ds h => (cv ds h).bindS ds fun x h1 => (co ds h1).bindS ds fun o h2 => match setFD P f h2 o x with
  | some h3 => .nxt ds h3
  | none => .bad
theorem paired_len {α β : Type} {F : α → β → Prop} {xs : List α} {ys : List β} (p : Paired F xs ys) : xs.length = ys.length := Paired.length p
theorem ms_setF {P : Nat → Bool} {f : Str} {tpos : Pos} (ho : PE X o (tE (ge X T) Wx ca)) (hv : PE X e (tE (ge X T) Wx cv)) (hP : ∀ c, P c = true → Cls X.K (T.ca c) ∧ NoAttr X.K (T.ca c) f)
    (hs : swapsWith e (some (.Attribute o f tpos)) pos.line X.env = pure false := by rfl) : PS X (.Assign [.Attribute o f tpos] e pos) (tS (ge X T) Wx (cSetF P f ca cv)) := by
  refine PS.weak (ps_fld ho hv hs) fun D σ H h => ?_
  obtain ⟨W, ds, h, f0, r, p⟩ := h
  refine post_bindS f0 r p fun W1 h1 x v H1 l1 r1 rx p1 => post_bindS (f0.up l1) r1 p1 fun W2 h2 o ov H2 l2 r2 ro p2 => ?_
  have rx2 := rx.up l2
  split at p2
  · rename_i h3 e3
    unfold setFD at e3
    split at e3
    · rename_i n c fs e1
      split at e3
      · rename_i hl
        cases e3
        obtain ⟨a, dx, gs, rfl, _, hn, ea, rf, hp⟩ := ins_at r2 ro e1
        obtain ⟨k1, k2⟩ := hP c hp
        refine ⟨a, _, dx, gs, rfl, ea, k1, k2, by have := paired_len rf; omega, p2 σ _ W2 (.refl W2) ((f0.up l1).up l2) (r2.write hn (.ins (put_pair rx2 rf)))⟩
      · cases e3
    · cases e3
  · exact p2.elim
/-- o.f op= e -/
def InO (X : Cx) (T : Tg) (op : Operator) (f : MH → D → D → Option D) : Prop := InOp X op (G2 (ge X T) f)
def cAugF (P : Nat → Bool) (f : Str) (g : MH → D → D → Option D) (co cv : Sl → MH → ER D) : Sl → MH → SR := fun ds h => (co ds h).bindS ds fun o h1 => match insD P h1 o with
  | none => .bad
  | some (_, c, fs) => match fs.lookup f with
    | none => .bad
    | some x => (cv ds h1).bindS ds fun y h2 => match g h2 x y with
      | none => .bad
      | some z => match setFD (fun c' => c' == c) f h2 o z with
        | some h3 => .nxt ds h3
        | none => .bad
theorem ms_augF {P : Nat → Bool} {f : Str} {tpos : Pos} {op : Operator} {g : MH → D → D → Option D} (hop : InO X T op g) (ho : PE X o (tE (ge X T) Wx ca)) (hv : PE X e (tE (ge X T) Wx cv)) (hP : ∀ c, P c = true → Cls X.K (T.ca c) ∧ NoAttr X.K (T.ca c) f) :
    PS X (.AugAssign (.Attribute o f tpos) op e pos) (tS (ge X T) Wx (cAugF P f g ca cv)) := by
  refine PS.weak (ps_fldaug ho hv hop) fun D σ H h => ?_
  obtain ⟨W, ds, h, f0, r, p⟩ := h
  refine post_bindS f0 r p fun W1 h1 o ov H1 l1 r1 ro p1 => ?_
  split at p1
  · exact p1.elim
  · rename_i n c fs e1
    split at p1
    · exact p1.elim
    · rename_i x ex
      obtain ⟨a, dx, gs, rfl, rfl, hn, ea, rf, hp⟩ := ins_at r1 ro e1
      obtain ⟨v, lv, rv⟩ := lk_some rf ex
      obtain ⟨k1, k2⟩ := hP c hp
      refine ⟨a, _, dx, gs, v, rfl, ea, k1, k2, lv, post_bindS (f0.up l1) r1 p1 fun W2 h2 y yv H2 l2 r2 ry p2 => ?_⟩
      split at p2
      · exact p2.elim
      · rename_i z ez
        split at p2
        · rename_i h3 e3
          unfold setFD at e3
          split at e3
          · rename_i n2 c2 fs2 e2
            split at e3
            · rename_i hl
              cases e3
              refine ⟨W2, h2, x, y, z, r2, rv.up l2, ry, ez, fun zv H3 W3 l3 r3 rz => ?_⟩
              obtain ⟨a2, dx2, gs2, q1, q2, hn2, ea2, rf2, hp2⟩ := ins_at r3 ((ro.up l2).up l3) e2
              cases q1
              cases q2
              have hc : c2 = c := by simpa using hp2
              subst hc
              exact ⟨dx2, gs2, ea2, by have := paired_len rf2; omega, p2 σ _ W3 l3 (((f0.up l1).up l2).up l3) (r3.write hn2 (.ins (put_pair rz rf2)))⟩
            · cases e3
          · cases e3
        · exact p2.elim

/-! ### methods -/
def cMeth (P : Nat → Bool) (f : Str) (m : Mi) (co : Sl → MH → ER D) (cs : Sl → MH → ER (List D)) : Sl → MH → ER D := fun ds h => (co ds h).bind fun o h1 => match insD P h1 o with
  | some (_, _, fs) => if fs.lookup f = none then (cs ds h1).bind fun xs h2 => m (o :: xs) h2 else .bad
  | none => .bad
theorem meth_in {P : Nat → Bool} {f : Str} {pins : List (Addr × Obj)} {s : Shared} {σ : L2.St} {H : Hp} {Q : VK} {t : VK} (h : tE (ge X T) Wx (cMeth P f m ca cs) σ H Q)
    (ht : ∀ (W : Wd) (h : MH) (n c : Nat) (fs : List (Str × D)) (a dx : Addr) (gs : List (Str × V)) (H1 : Hp), HR (ge X T) h H1 W → W.rho[n]? = some a → RD (ge X T) W (.ref n) (.ref a) → P c = true → H1 a = some (.ins (T.ca c) dx gs) → gs.lookup f = none → tA (ge X T) Wx cs σ H1 (fun vs H2 => spD (ge X T) m (.ref a :: vs) H2 Q (WE Wx σ)) → t (.ref a) H1) :
    tE (ge X T) Wx ca σ H t := by
  refine tR_bind (k := fun ds o h1 => match insD P h1 o with
    | some (_, _, fs) => if fs.lookup f = none then (cs ds h1).bind fun xs h2 => m (o :: xs) h2 else .bad
    | none => .bad) h fun W ds h o v H1 f0 r rd p => ?_
  split at p
  · rename_i n c fs e1
    split at p
    · rename_i hl
      obtain ⟨a, dx, gs, rfl, rfl, hn, ea, rf, hp⟩ := ins_at r rd e1
      refine ht W h n c fs a dx gs H1 r hn rd hp ea (lk_none rf hl) ⟨W, ds, h, f0, r, ?_⟩
      dsimp only [ER.bind] at p
      cases e : cs ds h with
      | val d h1 =>
        rw [e] at p
        exact fun vs H2 W2 l2 r2 rs => ⟨W2, _, h1, .cons (rd.up l2) rs, r2, p.up l2⟩
      | exc x h1 => rw [e] at p; exact p
      | bad => rw [e] at p; exact p
    · exact p.elim
  · exact p.elim
theorem me_meth {P : Nat → Bool} {f : Str} {pl : Sem Bool} (F : DF (ge X T) X.mg X.base k i m) (hr : Room k X.A) (tk : Takes X Wx) (ho : PE X o (tE (ge X T) Wx ca)) (hP : ∀ c, P c = true → Cls X.K (T.ca c) ∧ Meth X.K (T.ca c) f (T.fa i)) (ha : PA X (e :: es) (tA (ge X T) Wx cs))
    (hst : starEach (e :: es) X.env = (false, eval e X.env) :: starEach es X.env := by rfl) (hpl : (backTo pos (starEach es X.env)).any (·.1) = false := by rfl)
    (ht : eval (.Call (.Attribute o f apos) (e :: es) [] pos) X.env = (do
      let ov ← eval o X.env
      standAt apos.atName
      let (f, first) ← holding [ov] (getMethod ov f pl)
      callWith pos f first (backTo pos (starEach (e :: es) X.env)) (backToKw pos (keywordEach [] X.env))) := by rfl) :
    PE X (.Call (.Attribute o f apos) (e :: es) [] pos) (tE (ge X T) Wx (cMeth P f m ca cs)) := by
  refine ⟨fun pins s σ H Q I h => ?_⟩
  refine PySem.W.methodCall_KW (pl := pl) (thn (ho.run pins s σ H (fun v H1 => ∃ c a dx gs, v = .ref a ∧ P c = true ∧ H1 a = some (.ins (T.ca c) dx gs) ∧ gs.lookup f = none ∧ tA (ge X T) Wx cs σ H1 (fun vs H2 => spD (ge X T) m (.ref a :: vs) H2 Q (WE Wx σ))) I (meth_in (pins := pins) (s := s) h fun W h n c fs a dx gs H1 _ _ _ hp ea l q => ⟨c, a, dx, gs, rfl, hp, ea, l, q⟩)) fun u s1 ⟨x, H1, I1, rx, c, a, dx, gs, ex, hp, ea, l, q⟩ => ?_) ht
  subst ex
  obtain rfl : u = Value.ref a := rx
  obtain ⟨hc, hm⟩ := hP c hp
  refine getmeth_ok I1 ea hc hm l ?_
  refine PySem.W.callWith_K (first := [.ref a]) (h₀ := X.base) I.ok.mod.kin hm.kp (thn (ha.run pos pins s1 σ H1 _ I1 q) fun us s2 ⟨vs, H2, I2, r, q2⟩ => ⟨I2.kIn, ?_⟩) hst hpl
  exact wpAny_call (run_fnA (us := .ref a :: us) (vs := .ref a :: vs) F hr (passAt tk σ) I2 (.cons rfl r) q2)
theorem me_meth0 {P : Nat → Bool} {f : Str} {pl : Sem Bool} (F : DF (ge X T) X.mg X.base k i m) (hr : Room k X.A) (tk : Takes X Wx) (ho : PE X o (tE (ge X T) Wx ca)) (hP : ∀ c, P c = true → Cls X.K (T.ca c) ∧ Meth X.K (T.ca c) f (T.fa i))
    (ht : eval (.Call (.Attribute o f apos) [] [] pos) X.env = (do
      let ov ← eval o X.env
      standAt apos.atName
      let (f, first) ← holding [ov] (getMethod ov f pl)
      callWith pos f first (backTo pos (starEach [] X.env)) (backToKw pos (keywordEach [] X.env))) := by rfl) :
    PE X (.Call (.Attribute o f apos) [] [] pos) (tE (ge X T) Wx (cMeth P f m ca cNil)) := by
  refine ⟨fun pins s σ H Q I h => ?_⟩
  refine PySem.W.methodCall_KW (pl := pl) (thn (ho.run pins s σ H (fun v H1 => ∃ c a dx gs, v = .ref a ∧ P c = true ∧ H1 a = some (.ins (T.ca c) dx gs) ∧ gs.lookup f = none ∧ spD (ge X T) m [.ref a] H1 Q (WE Wx σ)) I (meth_in (pins := pins) (s := s) h fun W h n c fs a dx gs H1 r _ _ hp ea l q => ⟨c, a, dx, gs, rfl, hp, ea, l, ?_⟩)) fun u s1 ⟨x, H1, I1, rx, c, a, dx, gs, ex, hp, ea, l, q⟩ => ?_) ht
  · obtain ⟨W, ds, h, f0, r, p⟩ := q
    exact p [] H1 W (.refl W) r .nil
  subst ex
  obtain rfl : u = Value.ref a := rx
  obtain ⟨hc, hm⟩ := hP c hp
  refine getmeth_ok I1 ea hc hm l ?_
  exact PySem.W.callWith_K0 (first := [.ref a]) I1.kIn hm.kp (wpAny_call (run_fnA (us := [.ref a]) (vs := [.ref a]) F hr (passAt tk σ) I1 (.cons rfl .nil) q))
/-- o.f as a value: a bound method -/
def bmD (P : Nat → Bool) (f : Str) (i : Nat) (h : MH) (o : D) : Option D := match insD P h o with
  | some (_, _, fs) => if fs.lookup f = none then some (.met i o) else none
  | none => none
def cBM (P : Nat → Bool) (f : Str) (i : Nat) (co : Sl → MH → ER D) : Sl → MH → ER D := c1 (bmD P f i) co
theorem me_bm {P : Nat → Bool} {f : Str} (ho : PE X o (tE (ge X T) Wx ca)) (hP : ∀ c, P c = true → Cls X.K (T.ca c) ∧ BMeth X.K (T.ca c) f (T.fa i)) (hb : attributeBase o f X.env (eval o X.env) = eval o X.env := by rfl) : PE X (.Attribute o f pos) (tE (ge X T) Wx (cBM P f i ca)) := by
  refine ⟨fun pins s σ H Q I h => ?_⟩
  have h' := tR_bind (k := fun _ x h2 => ofO (bmD P f i h2 x) h2) (Ra := RD (ge X T)) (Rb := RD (ge X T)) (Wx := Wx) (Q := Q) (σ := σ) (H := H) (c := ca) (R := fun v H1 => ∃ c a dx gs, v = V.ref a ∧ P c = true ∧ H1 a = some (.ins (T.ca c) dx gs) ∧ gs.lookup f = none ∧ ∀ p, H1 p = none → Q (.ref p) (upd H1 p (.met (T.fa i) a))) h fun W ds h d v H f0 r rd p => ?_
  · refine attr_of hb (thn (ho.run pins s σ H _ I h') fun u s1 ⟨x, H1, I1, rx, c, a, dx, gs, ex, hp, ea, l, q⟩ => ?_)
    subst ex
    obtain ⟨hc, hm⟩ := hP c hp
    exact op_getbound I1 ea hc hm l rx fun p hp => q p hp
  · obtain ⟨W, h, d, z, r, rd, e, q⟩ := g1_of r rd p
    unfold bmD at e
    split at e
    · rename_i n c fs e1
      split at e
      · rename_i hl
        cases e
        obtain ⟨a, dx, gs, rfl, rfl, hn, ea, rf, hp⟩ := ins_at r rd e1
        refine ⟨c, a, dx, gs, rfl, hp, ea, lk_none rf hl, fun p hq => ?_⟩
        obtain ⟨l, r2⟩ := r.add hq (.met (T.fa i) a)
        exact q _ _ _ l r2 (.met upd_same (rd.up l))
      · cases e
    · cases e
/-- x(e, ..) of a local name that holds a bound method or a def -/
def cCallV (M : Nat → Option Mi) (j : Nat) (cs : Sl → MH → ER (List D)) : Sl → MH → ER D := fun ds h => match ds[j]? with
  | some (some (.met f d)) => (match M f with
    | some m => (cs ds h).bind fun xs h1 => m (d :: xs) h1
    | none => .bad)
  | some (some (.fn f)) => (match M f with
    | some m => (cs ds h).bind fun xs h1 => m xs h1
    | none => .bad)
  | _ => .bad
theorem sp_args {m : Mi} {σ : L2.St} {H : Hp} {Q : VK} {W : Wd} {ds : Sl} {h : MH} {pre : List D} {pv : List V} (f0 : FR (ge X T) W ds σ) (r : HR (ge X T) h H W) (rp : RDs (ge X T) W pre pv) (p : Post (ge X T) (RD (ge X T)) W ((cs ds h).bind fun xs h1 => m (pre ++ xs) h1) Q (fun cls dd H' => Wx cls dd σ H')) :
    tA (ge X T) Wx cs σ H (fun vs H2 => Evl.Ex W.Fz H2 ∧ spD (ge X T) m (pv ++ vs) H2 Q (WE Wx σ)) := by
  refine ⟨W, ds, h, f0, r, ?_⟩
  dsimp only [ER.bind] at p
  cases e : cs ds h with
  | val d h1 =>
    rw [e] at p
    exact fun vs H2 W2 l2 r2 rs => ⟨l2.1.trans r2.fz, W2, _, h1, (rp.up l2).append rs, r2, p.up l2⟩
  | exc x h1 => rw [e] at p; exact p
  | bad => rw [e] at p; exact p
theorem me_callV {M : Nat → Option Mi} {j : Nat} (hM : ∀ f m, M f = some m → DF (ge X T) X.mg X.base k f m ∧ PySem.W.fnIn X.K (T.fa f) = true ∧ PySem.W.keepIn X.K (.ref (T.fa f)) = true) (hr : Room k X.A) (tk : Takes X Wx) (ha : PA X (e :: es) (tA (ge X T) Wx cs))
    (hN : X.N[j]? = some x := by rfl) (hv : Vis X.env.scope x := by first | exact Or.inl rfl | exact Or.inr (Or.inl rfl) | exact Or.inr (Or.inr rfl)) (hdb : (x == ("__debug__" : Str)) = false := by decide) (hcd : (x == ("__classdict__" : Str)) = false := by decide)
    (he : starEach (e :: es) X.env = (false, eval e X.env) :: starEach es X.env := by rfl) (hpl : (backTo pos (starEach es X.env)).any (·.1) = false := by rfl) :
    PE X (.Call (.Name x p) (e :: es) [] pos) (tE (ge X T) Wx (cCallV M j cs)) := by
  refine ⟨fun pins s σ H Q I h => ?_⟩
  obtain ⟨W, ds, h, f0, r, q⟩ := h
  unfold cCallV at q
  split at q
  · rename_i f d e1
    obtain ⟨v, h1, h2⟩ := f0.2 j _ e1
    split at q
    · rename_i m em
      obtain ⟨hF, hfi, _⟩ := hM f m em
      cases h2 with
      | @met _ _ a x0 e2 rd =>
        refine wpAny_Call_Name_kw (thn ((pe_var (pos := p) hN hv hdb hcd).run pins s σ H (fun v H1 => v = .ref a ∧ H1 = H) I ⟨.ref a, h1, rfl, rfl⟩) fun u s1 ⟨v, H1, I1, r1, q1⟩ => ?_)
        obtain ⟨rfl, rfl⟩ := q1
        cases r1
        have st := sp_args f0 r (.cons rd .nil) q
        have hpl' : ((backTo pos (starEach (e :: es) X.env)).any (·.1) || (([] : List (Option Str × Sem Value)).any (·.1.isNone))) = false := by
          rw [he]
          show ((false || (backTo pos (starEach es X.env)).any (·.1)) || false) = false
          rw [hpl]; rfl
        refine callwith_met (X := X) (g := T.fa f) (a := x0) hpl' hfi ?_
        have a1 : wpAny (model X.prog X.w) X.A (spliced (backTo pos (starEach (e :: es) X.env))) (fun us s2 => PySem.W.MethP X.K a (T.fa f) (.ref x0) s2.heap ∧ wpAny (model X.prog X.w) X.A (call (.ref a) ([] ++ us) []) (EP X pins σ Q) X.xe s2) X.xe s1 := by
          refine thn (ha.run pos pins s1 σ H1 _ I1 st) fun us s2 ⟨vs, H2, I2, r2, q0, q2⟩ => ?_
          have hm := q0 _ _ e2
          exact ⟨met_P I2 hm, wpAny_call (PySem.W.method_call (met_P I2 hm).1 (run_fnA (us := Value.ref x0 :: us) (vs := V.ref x0 :: vs) hF hr (passAt tk σ) I2 (.cons rfl r2) q2))⟩
        rw [he] at a1 ⊢
        exact PySem.Calls.evalArgs_plain a1
    · exact q.elim
  · rename_i f e1
    obtain ⟨v, h1, h2⟩ := f0.2 j _ e1
    split at q
    · rename_i m em
      obtain ⟨hF, _, hk⟩ := hM f m em
      cases h2
      refine wpAny_Call_Name_kw (thn ((pe_var (pos := p) hN hv hdb hcd).run pins s σ H (fun v H1 => v = .ref (T.fa f) ∧ H1 = H) I ⟨.ref (T.fa f), h1, rfl, rfl⟩) fun u s1 ⟨v, H1, I1, r1, q1⟩ => ?_)
      obtain ⟨rfl, rfl⟩ := q1
      cases r1
      have st := sp_args (pre := []) f0 r .nil q
      refine PySem.W.callWith_K (h₀ := X.base) I.ok.mod.kin hk (thn (ha.run pos pins s1 σ _ _ I1 st) fun us s2 ⟨vs, H2, I2, r2, _, q2⟩ => ⟨I2.kIn, ?_⟩) he hpl
      exact wpAny_call (run_fnA hF hr (passAt tk σ) I2 r2 q2)
    · exact q.elim
  · exact q.elim
end
end DL
end
section
set_option Elab.async false
set_option linter.all false
set_option maxRecDepth 100000
set_option maxHeartbeats 4000000
namespace DL
open PySem PySem.Spec PyProof.Rows L2

/-! ### keys that are tuples -/
section
variable {X : Cx} {T : Tg} {pins : List (Addr × Obj)} {σ : L2.St} {H : Hp} {s : Shared} {W : Wd}
mutual
theorem nested_of (I : Inv X pins σ H s) (fz : Evl.Ex W.Fz H) : ∀ (d : D) (v : V) (k : NestedKey) (u : Value), RD (ge X T) W d v → nkOf d = some k → RelV v u → NestedIs s.heap k u
  | .non, _, k, u, h, e, r => by
    cases h
    cases e
    obtain rfl : u = Value.none := r
    exact .none
  | .int i, _, k, u, h, e, r => by
    cases h
    cases e
    obtain ⟨t, rfl⟩ := r
    exact .int i t
  | .str x, _, k, u, h, e, r => by
    cases h
    cases e
    obtain ⟨t, rfl⟩ := r
    exact .text x t
  | .tup ds, _, k, u, h, e, r => by
    cases h with
    | @tup a xs _ h1 h2 =>
      obtain rfl : u = Value.ref a := r
      unfold nkOf at e
      split at e
      · rename_i ks ek
        cases e
        obtain ⟨its, rv, ⟨o, ho, hc, n, hd⟩, hz⟩ := I.tuple (Evl.ex_t fz h1)
        exact .tup ho hc hd (by simpa using nested_all I fz ds xs ks its h2 ek rv)
      · cases e
  | .bl _, _, _, _, _, e, _ => by cases e
  | .lst _, _, _, _, _, e, _ => by cases e
  | .ref _, _, _, _, _, e, _ => by cases e
  | .met _ _, _, _, _, _, e, _ => by cases e
  | .fn _, _, _, _, _, e, _ => by cases e
  | .scr _, _, _, _, _, e, _ => by cases e
theorem nested_all (I : Inv X pins σ H s) (fz : Evl.Ex W.Fz H) : ∀ (ds : List D) (vs : List V) (ks : List NestedKey) (us : List Value), RDs (ge X T) W ds vs → nksOf ds = some ks → Vals vs us → NestedAll s.heap ks us
  | [], _, ks, us, h, e, r => by
    cases h
    cases r
    cases e
    exact .nil
  | d :: ds, _, ks, us, h, e, r => by
    cases h with
    | cons h1 h2 =>
      cases r with
      | cons r1 r2 =>
        unfold nksOf at e
        split at e
        · rename_i k ks' e1 e2
          cases e
          exact .cons (nested_of I fz d _ k _ h1 e1 r1) (nested_all I fz ds _ ks' _ h2 e2 r2)
        · cases e
end
end
/-- a key that a dict of that kind may have -/
def keyOk (t : Bool) (x : D) : Option NestedKey := match t, x with
  | true, .tup ds => match nkOf (.tup ds) with
    | some k => if k.depth ≤ 8 then some k else none
    | none => none
  | false, .int i => some (.num i)
  | false, .str s => some (.text s)
  | _, _ => none
/-- the entry at a key, the entries with one put -/
def dval (kvs : List (D × D)) (k : NestedKey) : Option D := (kvs.find? fun p => nkOf p.1 == some k).map (·.2)
def dput (kvs : List (D × D)) (k : NestedKey) (x v : D) : List (D × D) := if (dval kvs k).isSome = true then kvs.map (fun p => if (nkOf p.1 == some k) = true then (p.1, v) else p) else kvs ++ [(x, v)]
/-- a dict -/
def dicD (h : MH) (x : D) : Option (Nat × Bool × List (D × D)) := match x with
  | .ref n => match h[n]? with
    | some (.dic t kvs) => some (n, t, kvs)
    | _ => none
  | _ => none
theorem dic_at {G : GE} {h : MH} {H : Hp} {W : Wd} {x : D} {v : V} {n : Nat} {t : Bool} {kvs : List (D × D)} (r : HR G h H W) (rd : RD G W x v) (e : dicD h x = some (n, t, kvs)) :
    ∃ a ho, v = .ref a ∧ x = .ref n ∧ W.rho[n]? = some a ∧ H a = some ho ∧ RO G W a (.dic t kvs) ho := by
  unfold dicD at e
  split at e
  · split at e
    · rename_i hx
      cases e
      cases rd with
      | ref hn =>
        obtain ⟨ho, q1, q2⟩ := r.at_ hx hn
        exact ⟨_, ho, rfl, rfl, hn, q1, q2⟩
    · cases e
  · cases e
abbrev PT1 (G : GE) (W : Wd) : List (D × D) → List (NestedKey × Addr × Value) → Prop := Paired (fun p q => nkOf p.1 = some q.1 ∧ q.1.depth ≤ 8 ∧ RD G W p.1 (.ref q.2.1) ∧ ∃ v, RelV v q.2.2 ∧ RD G W p.2 v)
abbrev PK1 (G : GE) (W : Wd) : List (D × D) → List (Key × V) → Prop := Paired (fun p q => kOf p.1 = some q.1 ∧ RD G W p.2 q.2)
theorem nk_kOf {d : D} {k : Key} (e : kOf d = some k) : nkOf d = some (match k with | .inl i => .num i | .inr s => .text s) := by
  unfold kOf at e
  split at e
  · cases e; rfl
  · cases e; rfl
  · cases e
def nkK : Key → NestedKey
  | .inl i => .num i
  | .inr s => .text s
theorem nkK_inj {a b : Key} : nkK a = nkK b ↔ a = b := by
  constructor
  · intro e
    cases a <;> cases b <;> simp [nkK] at e <;> rw [e]
  · intro e; rw [e]
theorem nk_of_k {d : D} {k : Key} (e : kOf d = some k) : nkOf d = some (nkK k) := by
  rw [nk_kOf e]; cases k <;> rfl
theorem valT {G : GE} {W : Wd} {k : NestedKey} : ∀ {kvs : List (D × D)} {xs : List (NestedKey × Addr × Value)}, PT1 G W kvs xs → ((atKey xs k) = none ∧ dval kvs k = none) ∨ ∃ b u v d, atKey xs k = some (b, u) ∧ RelV v u ∧ dval kvs k = some d ∧ RD G W d v
  | _, _, .nil => .inl ⟨rfl, rfl⟩
  | (x, d) :: kvs, (k', b, u) :: xs, .cons r t => by
    obtain ⟨e1, _, _, v, rv, rd⟩ := r
    have e1 : nkOf x = some k' := e1
    by_cases hk : k' = k
    · subst hk
      exact .inr ⟨b, u, v, d, by simp [atKey], rv, by simp [dval, e1], rd⟩
    · have h1 : atKey ((k', b, u) :: xs) k = atKey xs k := by simp [atKey, List.find?_cons, hk]
      have h2 : dval ((x, d) :: kvs) k = dval kvs k := by simp [dval, List.find?_cons, e1, hk]
      rw [h1, h2]
      exact valT t
theorem valK {G : GE} {W : Wd} {k : Key} : ∀ {kvs : List (D × D)} {xs : List (Key × V)}, PK1 G W kvs xs → ((valV xs k) = none ∧ dval kvs (nkK k) = none) ∨ ∃ v d, valV xs k = some v ∧ dval kvs (nkK k) = some d ∧ RD G W d v
  | _, _, .nil => .inl ⟨rfl, rfl⟩
  | (x, d) :: kvs, (k', v) :: xs, .cons r t => by
    obtain ⟨e1, rd⟩ := r
    have e1 : nkOf x = some (nkK k') := nk_of_k e1
    by_cases hk : k' = k
    · subst hk
      exact .inr ⟨v, d, by simp [valV], by simp [dval, e1], rd⟩
    · have hk' : ¬ nkK k' = nkK k := fun e => hk (nkK_inj.mp e)
      have h1 : valV ((k', v) :: xs) k = valV xs k := by simp [valV, List.find?_cons, hk]
      have h2 : dval ((x, d) :: kvs) (nkK k) = dval kvs (nkK k) := by simp [dval, List.find?_cons, e1, hk']
      rw [h1, h2]
      exact valK t
section
variable {X : Cx} {T : Tg} {pins : List (Addr × Obj)} {σ : L2.St} {H : Hp} {s : Shared} {W : Wd}
theorem keys_is (I : Inv X pins σ H s) (fz : Evl.Ex W.Fz H) : ∀ {kvs : List (D × D)} {xs : List (NestedKey × Addr × Value)}, PT1 (ge X T) W kvs xs → ∀ x ∈ xs, (nestedKind X.prog X.w).is s.heap x.1 x.2.1
  | _, _, .nil => fun x hx => by cases hx
  | _, _, .cons r t => fun x hx => by
    rcases List.mem_cons.mp hx with e | hx
    · subst e
      exact ⟨nested_of I fz _ _ _ _ r.2.2.1 r.1 rfl, r.2.1⟩
    · exact keys_is I fz t x hx
/-- a tuple-keyed dict as it stands -/
theorem tab_at {a : Addr} {kvs : List (D × D)} {ho : HO} (I : Inv X pins σ H s) (fz : Evl.Ex W.Fz H) (e : H a = some ho) (r : RO (ge X T) W a (.dic true kvs) ho) : ∃ xs, ho = tabO X.prog X.w a xs ∧ PT1 (ge X T) W kvs xs ∧ s.heap.DictOfH (nestedKind X.prog X.w) a xs ∧ (a == sysModules) = false ∧ xs.length ≤ sizeLine := by
  cases r with
  | @dT _ xs p =>
    obtain ⟨⟨z, nd, hn, o, es, ep, g1, g2, g3, g4⟩, _, _⟩ := (show ObjOk X.prog X.w H s.heap a (tabO X.prog X.w a xs) from I.hok a _ e)
    refine ⟨xs, rfl, p, ⟨o, es, ep, g1, g2, g3, g4, ?_, hn⟩, nd, z⟩
    exact keys_is I fz p
theorem tkey {x : D} {k : NestedKey} {v : V} {u : Value} (I : Inv X pins σ H s) (fz : Evl.Ex W.Fz H) (rd : RD (ge X T) W x v) (ru : RelV v u) (e : keyOk true x = some k) : nkOf x = some k ∧ k.depth ≤ 8 ∧ ∃ b, v = .ref b ∧ u = .ref b ∧ (nestedKind X.prog X.w).is s.heap k b := by
  unfold keyOk at e
  split at e
  · split at e
    · rename_i k' ek
      split at e
      · rename_i hd
        cases e
        refine ⟨ek, hd, ?_⟩
        have nn := nested_of I fz _ _ _ _ rd ek ru
        cases rd with
        | @tup a xs _ h1 h2 =>
          obtain rfl : u = Value.ref a := ru
          exact ⟨a, rfl, rfl, nn, hd⟩
      · cases e
    · cases e
  all_goals (first | contradiction | cases e)
theorem kkey {x : D} {k : NestedKey} {v : V} (rd : RD (ge X T) W x v) (e : keyOk false x = some k) : ∃ k', kOf x = some k' ∧ k = nkK k' ∧ v = kV k' := by
  unfold keyOk at e
  split at e
  all_goals (first | contradiction | skip)
  · cases e; cases rd; exact ⟨.inl _, rfl, rfl, rfl⟩
  · cases e; cases rd; exact ⟨.inr _, rfl, rfl, rfl⟩
end
/-- k in d -/
def inD (h : MH) (x y : D) : Option D := match dicD h y with
  | some (_, t, kvs) => match keyOk t x with
    | some k => some (.bl (dval kvs k).isSome)
    | none => none
  | none => none
def ninD (h : MH) (x y : D) : Option D := match dicD h y with
  | some (_, t, kvs) => match keyOk t x with
    | some k => some (.bl (!(dval kvs k).isSome))
    | none => none
  | none => none
/-- d[k] -/
def dgetD (h : MH) (y x : D) : Option D := match dicD h y with
  | some (_, t, kvs) => match keyOk t x with
    | some k => dval kvs k
    | none => none
  | none => none
/-- d[k] = v -/
def dsetD (h : MH) (y x v : D) : Option MH := match dicD h y with
  | some (n, t, kvs) => match keyOk t x with
    | some k => if kvs.length < 100000 then some (h.set n (.dic t (dput kvs k x v))) else none
    | none => none
  | none => none
section
variable {X : Cx} {T : Tg}
theorem nk_room {A : Around} (hu : A.units + 64 < cLine) : (nestedKind X.prog X.w).room A.in1 := by
  show A.units + 1 + 8 < cLine
  omega
theorem opd_in (hu : X.A.units + 64 < cLine) : Op2 X T (compareOp .In) inD := by
  intro pins s σ H x y v u Q I rx ry h
  obtain ⟨W, hh, d, e, z, r, rd, re, ez, fin⟩ := h
  unfold inD at ez
  split at ez
  · rename_i n t kvs e1
    split at ez
    · rename_i k ek
      cases ez
      obtain ⟨a, ho, rfl, rfl, hn, ea, ro⟩ := dic_at r re e1
      obtain rfl : u = Value.ref a := ry
      cases t with
      | true =>
        obtain ⟨xs, _, p, dd, hs, hz⟩ := tab_at I r.fz ea ro
        obtain ⟨k1, k2, b, rfl, rfl, hk⟩ := tkey I r.fz rd rx ek
        refine PySem.in_keyed (nk_room hu) hk hs ⟨xs, dd, rfl⟩ ?_
        refine ⟨.bl (dval kvs k).isSome, H, I.tok _, ?_, fin.here r (.bl _)⟩
        rw [PySem.valueAt_pairsH, Option.isSome_map]
        rcases valT (k := k) p with ⟨q1, q2⟩ | ⟨_, _, _, _, q1, _, q2, _⟩ <;> rw [q1, q2] <;> rfl
      | false =>
        cases ro with
        | dK p =>
          obtain ⟨k', h1, rfl, rfl⟩ := kkey rd ek
          have g : DGet H a (kV k') _ := DGet.k ea
          refine d_in (by omega) I g rx fun s' I' => ⟨.bl (dval kvs (nkK k')).isSome, H, I', ?_, fin.here r (.bl _)⟩
          rcases valK (k := k') p with ⟨q1, q2⟩ | ⟨_, _, q1, q2, _⟩ <;> rw [q1, q2] <;> rfl
    · cases ez
  · cases ez
theorem opd_nin (hu : X.A.units + 64 < cLine) : Op2 X T (compareOp .NotIn) ninD := by
  intro pins s σ H x y v u Q I rx ry h
  obtain ⟨W, hh, d, e, z, r, rd, re, ez, fin⟩ := h
  unfold ninD at ez
  split at ez
  · rename_i n t kvs e1
    split at ez
    · rename_i k ek
      cases ez
      obtain ⟨a, ho, rfl, rfl, hn, ea, ro⟩ := dic_at r re e1
      obtain rfl : u = Value.ref a := ry
      cases t with
      | true =>
        obtain ⟨xs, _, p, dd, hs, hz⟩ := tab_at I r.fz ea ro
        obtain ⟨k1, k2, b, rfl, rfl, hk⟩ := tkey I r.fz rd rx ek
        refine PySem.notIn_keyed (nk_room hu) hk hs ⟨xs, dd, rfl⟩ ?_
        refine ⟨.bl (!(dval kvs k).isSome), H, I.tok _, ?_, fin.here r (.bl _)⟩
        rw [PySem.valueAt_pairsH, Option.isSome_map]
        rcases valT (k := k) p with ⟨q1, q2⟩ | ⟨_, _, _, _, q1, _, q2, _⟩ <;> rw [q1, q2] <;> rfl
      | false =>
        cases ro with
        | dK p =>
          obtain ⟨k', h1, rfl, rfl⟩ := kkey rd ek
          have g : DGet H a (kV k') _ := DGet.k ea
          refine d_notIn (by omega) I g rx fun s' I' => ⟨.bl (!(dval kvs (nkK k')).isSome), H, I', ?_, fin.here r (.bl _)⟩
          rcases valK (k := k') p with ⟨q1, q2⟩ | ⟨_, _, q1, q2, _⟩ <;> rw [q1, q2] <;> rfl
    · cases ez
  · cases ez
theorem ix_dic (hu : X.A.units + 64 < cLine) : IxR X (G2 (ge X T) dgetD) := by
  intro value slice pins s σ H y x u v Q I ry rx h hs
  obtain ⟨W, hh, e, d, z, r, re, rd, ez, fin⟩ := h
  unfold dgetD at ez
  split at ez
  · rename_i n t kvs e1
    split at ez
    · rename_i k ek
      obtain ⟨a, ho, rfl, rfl, hn, ea, ro⟩ := dic_at r re e1
      obtain rfl : u = Value.ref a := ry
      cases t with
      | true =>
        obtain ⟨xs, _, p, dd, hss, hz⟩ := tab_at I r.fz ea ro
        obtain ⟨k1, k2, b, rfl, rfl, hk⟩ := tkey I r.fz rd rx ek
        rcases valT (k := k) p with ⟨q1, q2⟩ | ⟨b', u', v', d', q1, q3, q2, q4⟩
        · rw [q2] at ez; cases ez
        · rw [q2] at ez
          cases ez
          have dk : s.heap.DictKeyed (nestedKind X.prog X.w) a (pairsH xs) := ⟨xs, dd, rfl⟩
          refine tail_any dk.typeIs PySem.F.slot_dict_getitem.lookup (PySem.getItem_keyed (nk_room hu) hk dk (v := u') (by rw [PySem.valueAt_pairsH, q1]; rfl) ?_) hs
          exact ⟨v', H, I.tok _, q3, fin.here r q4⟩
      | false =>
        cases ro with
        | dK p =>
          obtain ⟨k', h1, rfl, rfl⟩ := kkey rd ek
          rcases valK (k := k') p with ⟨q1, q2⟩ | ⟨v', d', q1, q2, q4⟩
          · rw [q2] at ez; cases ez
          · rw [q2] at ez
            cases ez
            have g : DGet H a (kV k') (some v') := by rw [← q1]; exact DGet.k ea
            refine tail_any (dict_typeIs I g) PySem.F.slot_dict_getitem.lookup (d_getItem (by omega) I g rx fun w' s' I' rw' => ⟨v', H, I', rw', fin.here r q4⟩) hs
    · cases ez
  · cases ez

/-! ### the subscript of any thing -/
def orD (f g : MH → D → D → Option D) (h : MH) (x y : D) : Option D := match f h x y with
  | some z => some z
  | none => g h x y
theorem g2_or {G : GE} {f g : MH → D → D → Option D} {x y : V} {H : Hp} {Q : VK} (h : G2 G (orD f g) x y H Q) : G2 G f x y H Q ∨ G2 G g x y H Q := by
  obtain ⟨W, hh, d, e, z, r, rd, re, ez, fin⟩ := h
  unfold orD at ez
  split at ez
  · rename_i z' e1
    cases ez
    exact .inl ⟨W, hh, d, e, z, r, rd, re, e1, fin⟩
  · exact .inr ⟨W, hh, d, e, z, r, rd, re, ez, fin⟩
theorem Op2.or {fv : Value → Value → Sem Value} {f g : MH → D → D → Option D} (h1 : Op2 X T fv f) (h2 : Op2 X T fv g) : Op2 X T fv (orD f g) := by
  intro pins s σ H x y v u Q I rx ry h
  rcases g2_or h with h | h
  · exact h1 pins s σ H x y v u Q I rx ry h
  · exact h2 pins s σ H x y v u Q I rx ry h
theorem ix_any (hu : X.A.units + 64 < cLine) : IxR X (G2 (ge X T) (orD atD dgetD)) := by
  intro value slice pins s σ H x y v u Q I rx ry h hs
  rcases g2_or h with h | h
  · refine ix_seq value slice pins s σ H x y v u Q I rx ry ?_ hs
    obtain ⟨W, hh, d, e, z, r, rd, re, ez, fin⟩ := h
    unfold atD at ez
    split at ez
    · cases re
      cases rd with
      | tup h1 h2 =>
        obtain ⟨w, h3, h4⟩ := rds_at h2 ez
        exact .inr (.inl ⟨_, _, _, w, rfl, rfl, Evl.ex_t r.fz h1, h3, fin.here r h4⟩)
    · split at ez
      · rename_i hl
        cases re
        cases rd
        rename_i sx i
        cases e : atI sx.cps.toList i with
        | none => rw [e] at ez; cases ez
        | some c =>
          rw [e] at ez
          cases ez
          exact .inr (.inr ⟨_, _, c, rfl, rfl, le_sz hl, e, fin.here r (.str _)⟩)
      · cases ez
    · split at ez
      · rename_i q
        cases re
        obtain ⟨p, ys, rfl, h1, h2⟩ := seqL_at r rd q
        obtain ⟨w, h3, h4⟩ := rds_at h2 ez
        exact .inl ⟨_, _, _, w, rfl, rfl, Evl.sq_of h1, h3, fin.here r h4⟩
      · cases ez
    · cases ez
  · exact ix_dic hu value slice pins s σ H x y v u Q I rx ry h hs
variable {Wx : WX} {a b e o i : Expr} {ca cb cv : Sl → MH → ER D} {pos : Pos}
theorem me_ix (hu : X.A.units + 64 < cLine) (ha : PE X a (tE (ge X T) Wx ca)) (hb : PE X b (tE (ge X T) Wx cb)) (hs : PlainIx b := by exact fun _ _ => rfl) : PE X (.Subscript a b pos) (tE (ge X T) Wx (c2 (orD atD dgetD) ca cb)) :=
  PE.weak (pe_ix (ix_any hu) ha hb hs) fun σ H Q h => tR_bind2 rd_mono (k := fun _ x y h2 => ofO (orD atD dgetD h2 x y) h2) h fun W ds h d e v u H _ r rd re p => g2_of r rd re p

/-! ### o[i] = v -/
theorem putT {G : GE} {W : Wd} {k : NestedKey} {x d : D} {b : Addr} {v : V} {u : Value} (hx : nkOf x = some k) (hk : k.depth ≤ 8) (rx : RD G W x (.ref b)) (rv : RelV v u) (rd : RD G W d v) {kvs : List (D × D)} {xs : List (NestedKey × Addr × Value)} (p : PT1 G W kvs xs) : PT1 G W (dput kvs k x d) (storedH xs k b u) := by
  have hm : ∀ {kvs : List (D × D)} {xs : List (NestedKey × Addr × Value)}, PT1 G W kvs xs → PT1 G W (kvs.map (fun p => if (nkOf p.1 == some k) = true then (p.1, d) else p)) (xs.map (putAt k u)) := by
    intro kvs xs p
    induction p with
    | nil => exact .nil
    | @cons p q kvs xs r t ih =>
      refine .cons ?_ ih
      obtain ⟨y, dy⟩ := p
      obtain ⟨k', b', u'⟩ := q
      obtain ⟨e1, e2, e3, e4⟩ := r
      have e1 : nkOf y = some k' := e1
      by_cases q : k' = k
      · subst q
        have : (nkOf y == some k') = true := by rw [e1]; exact BEq.rfl
        simp only [this, putAt, if_true]
        exact ⟨e1, e2, e3, v, rv, rd⟩
      · have : (nkOf y == some k) = false := by rw [e1]; simpa using q
        simp only [this, putAt, if_neg q]
        exact ⟨e1, e2, e3, e4⟩
  have ha : ∀ {kvs : List (D × D)} {xs : List (NestedKey × Addr × Value)}, PT1 G W kvs xs → PT1 G W (kvs ++ [(x, d)]) (xs ++ [(k, b, u)]) := by
    intro kvs xs p
    induction p with
    | nil => exact .cons ⟨hx, hk, rx, v, rv, rd⟩ .nil
    | cons r t ih => exact .cons r ih
  unfold dput storedH
  rcases valT (k := k) p with ⟨q1, q2⟩ | ⟨_, _, _, _, q1, _, q2, _⟩
  · simp only [q1, q2, Option.isSome_none, Bool.false_eq_true, if_false]
    exact ha p
  · simp only [q1, q2, Option.isSome_some, if_true]
    exact hm p
theorem putKK {G : GE} {W : Wd} {k : Key} {x d : D} {v : V} (hx : kOf x = some k) (rd : RD G W d v) {kvs : List (D × D)} {xs : List (Key × V)} (p : PK1 G W kvs xs) : PK1 G W (dput kvs (nkK k) x d) (putK xs k v) := by
  have hm : ∀ {kvs : List (D × D)} {xs : List (Key × V)}, PK1 G W kvs xs → PK1 G W (kvs.map (fun p => if (nkOf p.1 == some (nkK k)) = true then (p.1, d) else p)) (xs.map (fun kv => if kv.1 = k then (kv.1, v) else kv)) := by
    intro kvs xs p
    induction p with
    | nil => exact .nil
    | @cons p q kvs xs r t ih =>
      refine .cons ?_ ih
      obtain ⟨y, dy⟩ := p
      obtain ⟨k', v'⟩ := q
      obtain ⟨e0, e4⟩ := r
      have e0 : kOf y = some k' := e0
      have e1 : nkOf y = some (nkK k') := nk_of_k e0
      by_cases q : k' = k
      · subst q
        have : (nkOf y == some (nkK k')) = true := by rw [e1]; exact BEq.rfl
        simp only [this, if_true]
        exact ⟨e0, rd⟩
      · have : (nkOf y == some (nkK k)) = false := by rw [e1]; simpa using fun e => q (nkK_inj.mp e)
        simp only [this, if_neg q]
        exact ⟨e0, e4⟩
  have ha : ∀ {kvs : List (D × D)} {xs : List (Key × V)}, PK1 G W kvs xs → PK1 G W (kvs ++ [(x, d)]) (xs ++ [(k, v)]) := by
    intro kvs xs p
    induction p with
    | nil => exact .cons ⟨hx, rd⟩ .nil
    | cons r t ih => exact .cons r ih
  unfold dput putK
  rcases valK (k := k) p with ⟨q1, q2⟩ | ⟨_, _, q1, q2, _⟩
  · rw [valV_any, q1, q2]
    simpa using ha p
  · rw [valV_any, q1, q2]
    simpa using hm p
theorem storedH_le (xs : List (NestedKey × Addr × Value)) (k : NestedKey) (b : Addr) (u : Value) : (storedH xs k b u).length ≤ xs.length + 1 := by
  unfold storedH; split <;> simp
theorem tab_stay {P : Program} {w : World} {a : Addr} {xs : List (NestedKey × Addr × Value)} : ∀ h1 h2 : Heap, tabP P w a xs h1 → (∀ o, h1.get? a = some o → h2.get? a = some o) → tabP P w a xs h2 :=
  fun h1 h2 ⟨z, nd, hn, o, es, ep, g1, g2, g3, g4⟩ k => ⟨z, nd, hn, o, es, ep, k _ g1, g2, g3, g4⟩
def setAny (h : MH) (o i x : D) : Option MH := match setLD h o i x with
  | some h' => some h'
  | none => dsetD h o i x
def rSetAny (G : GE) : TSet := fun o i v H Q => ∃ W h d e x h', HR G h H W ∧ RD G W d o ∧ RD G W e i ∧ RD G W x v ∧ setAny h d e x = some h' ∧ ∀ H', HR G h' H' W → Q H'
theorem set_any (hu : X.A.units + 64 < cLine) : PSet X (rSetAny (ge X T)) := by
  intro pins s σ H o i v ov iv u Q I ro ri rv h
  obtain ⟨W, h, d, e, x, h', r, rd, re, rx, ez, fin⟩ := h
  unfold setAny at ez
  split at ez
  · rename_i h4 e4
    cases ez
    refine set_list pins s σ H o i v ov iv u Q I ro ri rv ?_
    unfold setLD at e4
    split at e4
    · split at e4
      · split at e4
        · rename_i xs hx _ j hj
          cases e4
          cases re
          cases rd with
          | ref hn =>
            obtain ⟨ho, q1, q2⟩ := r.at_ hx hn
            cases q2 with
            | lst q2 => exact ⟨_, _, _, j, rfl, rfl, q1, by rw [← q2.length]; exact hj, fin _ (r.write hn (.lst (q2.set rx j)))⟩
        · cases e4
      · cases e4
    · cases e4
  · unfold dsetD at ez
    split at ez
    · rename_i n t kvs e1
      split at ez
      · rename_i k ek
        split at ez
        · rename_i hl
          cases ez
          obtain ⟨a, ho, rfl, rfl, hn, ea, rob⟩ := dic_at r rd e1
          obtain rfl : ov = Value.ref a := ro
          cases t with
          | true =>
            obtain ⟨xs, rfl, p, dd, nd, hz⟩ := tab_at I r.fz ea rob
            obtain ⟨k1, k2, b, rfl, rfl, hk⟩ := tkey I r.fz re ri ek
            have hlen := paired_len p
            have hle := storedH_le xs k b u
            have hzz : xs.length + 1 ≤ sizeLine := by rw [← hlen]; rw [sizeLine_eq]; omega
            have p' := putT k1 k2 re rv rx p
            refine wpAny_setItem_heap (hsz := hz) (nk_room hu) hk dd fun h' dd' hs => ?_
            obtain ⟨q, es, ep, hq, h2, h3, h4, _, h5⟩ := dd'
            refine ⟨_, d_write (ob := tabO X.prog X.w a (storedH xs k b u)) I (by rw [ea]; exact True.intro) hs ⟨q, hq⟩ ⟨⟨by omega, nd, h5, q, es, ep, hq, h2, h3, h4⟩, ⟨q, hq⟩, tab_stay⟩, fin _ (r.write hn (.dT p'))⟩
          | false =>
            cases rob with
            | @dK _ xs p =>
              obtain ⟨k', h1, rfl, rfl⟩ := kkey re ek
              have hlen := paired_len p
              have g : DPut H a (kV k') v (upd H a (.dK (putK xs k' v))) := DPut.k ea (by rw [sizeLine_eq, ← hlen]; omega)
              exact d_setItem (by omega) I g ri rv fun s' I' => ⟨_, I', fin _ (r.write hn (.dK (putKK h1 rx p)))⟩
        · cases ez
      · cases ez
    · cases ez
def cSetX (co ci cv : Sl → MH → ER D) : Sl → MH → SR := fun ds h => (cv ds h).bindS ds fun x h1 => (co ds h1).bindS ds fun o h2 => (ci ds h2).bindS ds fun i h3 => match setAny h3 o i x with
  | some h4 => .nxt ds h4
  | none => .bad
theorem ms_setX {tpos : Pos} (hu : X.A.units + 64 < cLine) (ho : PE X o (tE (ge X T) Wx ca)) (hi : PE X i (tE (ge X T) Wx cb)) (hv : PE X e (tE (ge X T) Wx cv))
    (hs : swapsWithSole [.Subscript o i tpos] e pos.line X.env = pure false := by rfl) (hw : swappedStores [.Subscript o i tpos] e X.env = pure none := by rfl)
    (h1 : (assignEach [.Subscript o i tpos] X.env).map (·.2) = [assign (.Subscript o i tpos) X.env] := by rfl)
    (ha : ∀ v, assign (.Subscript o i tpos) X.env v = (do
      let ov ← holding [v] (eval o X.env)
      let iv ← holding [v, ov] (eval i X.env)
      standAt tpos
      holding [v, ov, iv] (setItem ov iv v)
      release [v, ov, iv] []) := by intro _; rfl) : PS X (.Assign [.Subscript o i tpos] e pos) (tS (ge X T) Wx (cSetX ca cb cv)) := by
  refine PS.weak (ps_asg hv (pg_sub ho hi (set_any (T := T) hu) ha) hs hw h1) fun D σ H h => ?_
  obtain ⟨W, ds, h, f, r, p⟩ := h
  refine post_bindS f r p fun W1 h1 x v H1 l1 r1 rx p1 => post_bindS (f.up l1) r1 p1 fun W2 h2 o ov H2 l2 r2 ro p2 => post_bindS ((f.up l1).up l2) r2 p2 fun W3 h3 i iv H3 l3 r3 ri p3 => ?_
  have rx3 := (rx.up l2).up l3
  have ro3 := ro.up l3
  split at p3
  · rename_i h4 e4
    exact ⟨W3, h3, _, _, _, h4, r3, ro3, ri, rx3, e4, fun H' r' => p3 σ H' W3 (.refl W3) (((f.up l1).up l2).up l3) r'⟩
  · exact p3.elim

/-! ### displays -/
def cDic0 (t : Bool) : Sl → MH → ER D := fun _ h => .val (.ref h.length) (h ++ [.dic t []])
theorem tab_nil {H : Hp} {P : Program} {w : World} {h : Heap} (hb : sysModules < h.objs.size) : ObjOk P w (upd H h.objs.size (tabO P w h.objs.size [])) (h.push { cls := .type "dict", data := .dict #[] }) h.objs.size (tabO P w h.objs.size []) := by
  obtain ⟨o, es, ep, g1, g2, g3, g4, _, g5⟩ := Heap.DictOfH.new (knd := nestedKind P w) h
  exact ⟨⟨Nat.zero_le _, by simpa using Nat.ne_of_gt hb, g5, o, es, ep, g1, g2, g3, g4⟩, ⟨o, g1⟩, tab_stay⟩

theorem pe_dnewN : PE X (.Dict [] [] pos) (fun _ H Q => ∀ p, H p = none → Q (.ref p) (upd H p (tabO X.prog X.w p []))) := ⟨fun pins s σ H Q I h =>
  wpAny_Dict_empty ⟨.ref s.heap.objs.size, _, I.laid (a := s.heap.objs.size) (o := tabO X.prog X.w s.heap.objs.size []) (t' := s.toks) (fun _ _ q => Heap.get?_push_of_some _ q) (Nat.le_refl _) (tab_nil I.big), rfl, h _ (I.hok.fresh (Nat.le_refl _))⟩⟩
theorem me_dic0 {t : Bool} : PE X (.Dict [] [] pos) (tE (ge X T) Wx (cDic0 t)) := by
  cases t with
  | true =>
    refine PE.weak pe_dnewN fun σ H Q h => ?_
    obtain ⟨W, ds, h, f, r, p⟩ := h
    exact fun q hq => p _ _ _ (W.le_put q) (r.put hq (.dT .nil)) (.ref r.putNo)
  | false =>
    refine PE.weak pe_dnewK fun σ H Q h => ?_
    obtain ⟨W, ds, h, f, r, p⟩ := h
    exact fun q hq => p _ _ _ (W.le_put q) (r.put hq (.dK .nil)) (.ref r.putNo)
/-- {k: v} -/
def cDic1 (t : Bool) (ck cv : Sl → MH → ER D) : Sl → MH → ER D := fun ds h => (ck ds (h ++ [.dic t []])).bind fun k h1 => (cv ds h1).bind fun v h2 => match dicD h2 (.ref h.length) with
  | some (_, t', []) => if t' = t then (match keyOk t k with
    | some _ => .val (.ref h.length) (h2.set h.length (.dic t [(k, v)]))
    | none => .bad) else .bad
  | _ => .bad
theorem dic1_in {t : Bool} {σ : L2.St} {H : Hp} {Q : VK} {p : Addr} {ho : HO} (h : tE (ge X T) Wx (cDic1 t ca cb) σ H Q) (hp : H p = none) (hho : ∀ W, RO (ge X T) W p (.dic t []) ho) {R : V → V → Hp → Prop}
    (hR : ∀ W h1 k v x y H1 k', HR (ge X T) h1 H1 W → RD (ge X T) W k x → RD (ge X T) W v y → keyOk t k = some k' → (∃ ho', H1 p = some ho' ∧ RO (ge X T) W p (.dic t []) ho') → (∀ ho', RO (ge X T) W p (.dic t [(k, v)]) ho' → Q (.ref p) (upd H1 p ho')) → R x y H1) :
    tE (ge X T) Wx ca σ (upd H p ho) (fun x H1 => tE (ge X T) Wx cb σ H1 (fun y H2 => R x y H2)) := by
  obtain ⟨W, ds, h, f, r, q⟩ := h
  have r1 := r.put hp (hho (W.put p))
  have hno : (W.put p).rho[h.length]? = some p := r.putNo
  have f1 := f.up (W.le_put p)
  refine post_bind f1 r1 (q.up (W.le_put p)) fun W1 h1 k x H1 l1 r1 rx q1 => post_bind (f1.up l1) r1 q1 fun W2 h2 v y H2 l2 r2 ry q2 => ?_
  split at q2
  · rename_i n t' e1
    split at q2
    · rename_i et
      subst et
      split at q2
      · rename_i k' ek
        have rp : RD (ge X T) W2 (.ref h.length) (.ref p) := ((RD.ref hno).up l1).up l2
        obtain ⟨a, ho', e2, e3, hn, ea, ro⟩ := dic_at r2 rp e1
        cases e2
        cases e3
        exact hR W2 h2 k v x y H2 k' r2 (rx.up l2) ry ek ⟨ho', ea, ro⟩ fun ho2 ro2 => q2 _ _ W2 (.refl W2) (r2.write hn ro2) rp
      · exact q2.elim
    · exact q2.elim
  · exact q2.elim
theorem me_dic1 {t : Bool} (hu : X.A.units + 64 < cLine) (ha : PE X a (tE (ge X T) Wx ca)) (hb : PE X b (tE (ge X T) Wx cb))
    (hsh : (evalEachOpt [some a] X.env).zip ((evalEach [b] X.env).map fun v => do let x ← v; standAt pos; pure x) = (pairTrees [some a] [b] X.env pos).map fun p => (some p.1, p.2) := by rfl) (hl : (pairTrees [some a] [b] X.env pos).length = 1 := by rfl) :
    PE X (.Dict [some a] [b] pos) (tE (ge X T) Wx (cDic1 t ca cb)) := by
  cases t with
  | false =>
    refine PE.weak (pe_disp (pps_cons ha hb pps_nil) rfl rfl (by simp) (by simp)) fun σ H Q h => fun p hp => ?_
    refine dic1_in h hp (fun W => .dK .nil) fun W h1 k v x y H1 k' r rk rv ek ro fin => ?_
    obtain ⟨ho', ea, ro⟩ := ro
    cases ro with
    | dK pp =>
      cases pp
      obtain ⟨kk, q1, q2, q3⟩ := kkey (X := X) rk ek
      subst q3
      exact ⟨ea, [(kk, y)], rfl, by simp, fin _ (.dK (.cons ⟨q1, rv⟩ .nil))⟩
  | true =>
    refine ⟨fun pins s σ H Q I h => ?_⟩
    have hn := I.hok.fresh (Nat.le_refl s.heap.objs.size)
    have I1 := I.laid (a := s.heap.objs.size) (o := tabO X.prog X.w s.heap.objs.size []) (h' := s.heap.push { cls := .type "dict", data := .dict #[] }) (t' := s.toks) (fun _ _ q => Heap.get?_push_of_some _ q) (Nat.le_refl _) (tab_nil I.big)
    have tr := dic1_in (R := fun x y H1 => ∃ (b : Addr) (k' : NestedKey), x = .ref b ∧ H1 s.heap.objs.size = some (tabO X.prog X.w s.heap.objs.size []) ∧ (∀ pins s' u, Inv X pins σ H1 s' → RelV x u → (nestedKind X.prog X.w).is s'.heap k' b) ∧
      ∀ u, RelV y u → Q (.ref s.heap.objs.size) (upd H1 s.heap.objs.size (tabO X.prog X.w s.heap.objs.size [(k', b, u)]))) h hn (fun W => .dT .nil) fun W h1 k v x y H1 k' r rk rv ek ro fin => ?_
    · rw [arm_eval_Dict, hsh, dictDisplay_pairs _ (fun e => by rw [e] at hl; cases hl) (by rw [hl]; decide)]
      refine wpAny_bind (wpAny_standAt (wpAny_bind (wpAny_subDictH (knd := nestedKind X.prog X.w) (by show X.A.units + 8 < cLine; omega) (by rw [hl]; decide) ?_)))
      refine pairTrees_cons_walk (thn (ha.run pins _ σ _ _ I1 tr) fun u s1 ⟨x, H1, I2, rx, q1⟩ => thn (hb.run pins s1 σ H1 _ I2 q1) fun w2 s2 ⟨y, H2, I3, ry, b', k', ex, ea, hk, q2⟩ => pairTrees_nil_walk ?_)
      subst ex
      obtain rfl : u = Value.ref b' := rx
      obtain ⟨⟨z, nd, hnd, o, es, ep, g1, g2, g3, g4⟩, _, _⟩ := (show ObjOk X.prog X.w H2 s2.heap s.heap.objs.size (tabO X.prog X.w s.heap.objs.size []) from I3.hok _ _ ea)
      refine ⟨[(k', b', w2)], ⟨rfl, rfl, hk _ _ _ I3 rfl, trivial⟩, ⟨o, es, ep, g1, g2, g3, g4, (fun x hx => by cases hx), hnd⟩, fun h' tk dk hs => wpAny_pure ?_⟩
      obtain ⟨o', es', ep', j1, j2, j3, j4, j5, j6⟩ := dk
      have ea' : Mut (H2 s.heap.objs.size) := by rw [ea]; exact True.intro
      refine ⟨.ref s.heap.objs.size, _, d_write (ob := tabO X.prog X.w s.heap.objs.size [(k', b', w2)]) I3 ea' hs ⟨o', j1⟩ ⟨⟨by show 1 ≤ sizeLine; rw [sizeLine_eq]; omega, nd, j6, o', es', ep', j1, j2, j3, j4⟩, ⟨o', j1⟩, tab_stay⟩, rfl, q2 w2 ry⟩
    · obtain ⟨ho', ea, ro⟩ := ro
      cases ro with
      | @dT _ xs pp =>
        cases pp
        have ek2 := ek
        unfold keyOk at ek2
        split at ek2
        all_goals (first | contradiction | skip)
        split at ek2
        · rename_i k2 e2
          split at ek2
          · rename_i hd
            cases ek2
            cases rk with
            | tup h1 h2 =>
              refine ⟨_, k', rfl, ea, fun pins s' u I' ru => ⟨?_, hd⟩, fun u ru => fin _ (.dT (.cons ⟨e2, hd, .tup h1 h2, y, ru, rv⟩ .nil))⟩
              obtain rfl : u = Value.ref _ := ru
              exact nested_of I' r.fz _ _ _ _ (RD.tup h1 h2) e2 rfl
          · cases ek2
        · cases ek2
end
end DL
end
section
set_option Elab.async false
set_option linter.all false
set_option maxRecDepth 100000
set_option maxHeartbeats 4000000
namespace DL
open PySem PySem.Spec PyProof.Rows L2

/-! ### an exception that leaves a comprehension's block -/
theorem note_same {e : Value} {env env' : Env} (h : env.frame = env'.frame) : noteFrame e env = noteFrame e env' := by
  unfold noteFrame PySem.frameOf
  rw [h]
theorem looks_otherZ {M : Model} {A : Around} {E : Value → Shared → Prop} {s : Shared} {Z : Obj → Prop} {base : Heap} {env : Env} {outer : List Env} {L C e : Addr} {Q : Unit → Shared → Prop} (hZ : HandSPX.Steady Z) (hfr : A.frames = some (env :: outer)) (hf : env.frame = some L) (hC : C ≠ L) (hfl : HandSPX.HeldZ base (env :: outer) e Z C s.heap)
    (hQ : ∀ h', HandSPX.HeldZ base (env :: outer) e Z L h' → s.heap.UpToSlots h' → Q () { s with heap := h' }) : wpAny M A (noteFrame (.ref e) env) Q E s := by
  obtain ⟨hkb, hen, hl, oe, vs, T, oT, ts, he, hz, hd, h1, hnT, hTe, hT, hdT, h3⟩ := hfl
  unfold noteFrame
  simp only [hf]
  refine wpAny_bind (wpAny_field he hd h1 ?_)
  rw [if_pos (show (Value.ref T != Value.none) = true from by simp)]
  refine wpAny_bind (wpAny_field hT hdT h3 ?_)
  rw [if_neg (show ¬ ((rawInt C == rawInt L) = true) from by simp [rawInt]; exact fun z => hC (by first | exact z | omega | exact_mod_cast z))]
  refine wpAny_bind (wpAny_setField hT hdT (Array.getElem?_eq_some_iff.mp h3).1 ?_)
  have other : ∀ b, b ≠ T → (s.heap.update T (Obj.mapFields (·.setIfInBounds 3 Value.none))).get? b = s.heap.get? b := fun b hb => Heap.get?_update_other _ _ (Ne.symm hb)
  have noRecord : ∀ b o, s.heap.get? b = some o → (∀ vs, o.data ≠ .fields vs) → b ≠ T := fun b o hb hnf q => by
    rw [q, hT] at hb; injection hb with hb; subst hb; exact hnf ts hdT
  refine HandSPX.wpAny_entryZ hZ hfr (hl.of_keeps fun b o hb hnf => ⟨o, (other b (noRecord b o hb hnf)).trans hb, rfl⟩) hf ((other e (Ne.symm hTe)).trans he)
    (fun b o hbo => (other b fun q => by rw [q, hnT] at hbo; cases hbo).trans (hkb b o hbo)) hen hd (Array.getElem?_eq_some_iff.mp h1).1 hz fun h' hN => ?_
  obtain ⟨x1, x2, x3, x4⟩ := hN
  exact hQ h' ⟨x1, hen, x2, x3⟩ fun b o hb hnf => x4 b o ((other b (noRecord b o hb hnf)).trans hb) hnf

theorem frames_at {B B2 h h' : Heap} : ∀ {l : List Env}, (∀ L ∈ frs l, h'.get? L = h.get? L) → (∀ L ∈ frs l, B2.get? L = none) → h.FunFrames B l → h'.FunFrames B2 l
  | [], _, _, _ => trivial
  | env :: l, h1, h2, h => by
    obtain ⟨hk, ⟨L, o, hf, _, ho, hd⟩, hr⟩ := h
    have hm : L ∈ frs (env :: l) := List.mem_filterMap.mpr ⟨env, List.mem_cons_self, hf⟩
    have sub : ∀ b, b ∈ frs l → b ∈ frs (env :: l) := fun b hb => by
      obtain ⟨e, he, q⟩ := List.mem_filterMap.mp hb
      exact List.mem_filterMap.mpr ⟨e, List.mem_cons_of_mem _ he, q⟩
    exact ⟨hk, ⟨L, o, hf, h2 L hm, (h1 L hm).trans ho, hd⟩, frames_at (fun b hb => h1 b (sub b hb)) (fun b hb => h2 b (sub b hb)) hr⟩
/-- as the library's, with the frame of the block known where an exception goes on -/
def cPost (M : Model) (A : Around) (E : Value → Shared → Prop) (use : Option (Value → Sem Unit)) (Q : Value → Shared → Prop) (acc : Value) (C : Addr) (fr : Option Addr) (r : Result) (s' : Shared) : Prop :=
  match r with
  | .ok _ => compPost M A E use Q acc C (.ok .next) s'
  | .error x => ∃ m, s'.heap.Ns C m ∧ ∀ h', Heap.SameBut C s'.heap h' → ∀ cenv : Env, cenv.frame = fr → wpAny M A (PySem.passOn "comprehension.variables-let-go" x cenv : Sem Value) (fun _ _ => False) E { s' with heap := h' }
theorem comp_raise {M : Model} {A : Around} {E : Value → Shared → Prop} {env : Env} {s : Shared} {e : Expr} {scope : Scope} {pos : Pos} {newAcc first : Sem Value} {g : Comprehension} {gs : List Comprehension} {cl : List (Str × Addr)} {use : Option (Value → Sem Unit)}
    {Q : Value → Shared → Prop}
    (hcl : clausesOf e = g :: gs) (hs : ∀ x, foldedSetIterable g.iter env x = pure x) (hclos : closureFor scope env = pure cl)
    (hkind : scope.kind = .function) (hnames : ∀ x ∈ scope.names, x.2 = .local → scope.names.lookup x.1 = some .local)
    (h : wpAny M A first (fun x s₁ => wpAny M A (pyIter x) (fun it s₂ => wpAny M A newAcc (fun acc s₃ =>
      wpAny M A (newFunctionEnv scope env.globals cl [] env.qual none .none (some env)) (fun cenv s₄ =>
        codeAny M A (.compStart e 0 it acc { cenv with scope := relabel scope env }) (cPost M A E use Q acc cenv.locals cenv.frame) s₄) E s₃) E s₂) E s₁) E s) :
    wpAny M A (comprehension e scope env pos newAcc false first use) Q E s := by
  unfold comprehension
  rw [hclos, hcl]
  refine wpAny_bind (wpAny_mono h (fun x s₁ h₁ => wpAny_bind (wpAny_standAt (wpAny_bind (wpAny_of_eq (hs x) (wpAny_bind (wpAny_holding (wpAny_mono h₁ (fun it s₂ h₂ =>
    wpAny_standIf (wpAny_bind (wpAny_mono h₂ (fun acc s₃ h₃ => wpAny_bind (wpAny_pure (wpAny_bind (wpAny_mono h₃ (fun cenv s₄ h₄ => ?_) fun _ _ h' => h')))) fun _ _ h' => h')))
      fun _ _ h' => h'))))))) fun _ _ h' => h')
  dsimp only
  have hv : ∀ x ∈ (scope.names.filter fun x => (x.2 == .local || x.2 == .cell) && x.1 != (".0" : Str)).reverse, x.2 = .local →
      Env.kindOf { cenv with scope := relabel scope env } x.1 = some .local := fun x hx hl => lookup_relabel_local (hnames x (List.mem_filter.mp (List.mem_reverse.mp hx)).1 hl)
  have hv' : ∀ x ∈ (scope.names.filter fun x => (x.2 == .local || x.2 == .cell) && x.1 != (".0" : Str)).reverse.drop 1 ++ (scope.names.filter fun x => (x.2 == .local || x.2 == .cell) && x.1 != (".0" : Str)).reverse.take 1,
      x.2 = .local → Env.kindOf { cenv with scope := relabel scope env } x.1 = some .local := fun x hx hl => by
    rcases List.mem_append.mp hx with h1 | h1
    · exact hv x (List.mem_of_mem_drop h1) hl
    · exact hv x (List.mem_of_mem_take h1) hl
  refine wpAny_holding (wpAny_bind (wpAny_attempt (wpAny_holding (wpAny_run (codeAny_mono h₄ fun r s' hr => ?_)))))
  cases r with
  | ok f =>
    cases use with
    | none =>
      obtain ⟨m, hn, hr⟩ := (show ∃ m, s'.heap.Ns cenv.locals m ∧ ∀ h', Heap.SameBut cenv.locals s'.heap h' → Q acc { s' with heap := h' } from hr)
      exact wpAny_bind (wpAny_holding (wpAny_comp_letGo (cenv := { cenv with scope := relabel scope env }) hkind _ s' m hv hn fun h' m' _ hs' => wpAny_pure (hr h' hs')))
    | some u =>
      have hr : wpAny M A (u acc) (fun _ s'' => ∃ m, s''.heap.Ns cenv.locals m ∧ ∀ h', Heap.SameBut cenv.locals s''.heap h' → Q .none { s'' with heap := h' }) E s' := hr
      refine wpAny_bind (wpAny_rule (wpAny_bind (wpAny_holding (wpAny_mono hr (fun _ s'' hr' => ?_) fun _ _ h' => h'))))
      obtain ⟨m, hn, hr'⟩ := hr'
      exact wpAny_bind (wpAny_comp_letGo (cenv := { cenv with scope := relabel scope env }) hkind _ s'' m hv' hn fun h' m' _ hs' => wpAny_pure (hr' h' hs'))
  | error x =>
    obtain ⟨m, hn, hr⟩ := hr
    exact wpAny_bind (wpAny_holding (wpAny_comp_letGo (cenv := { cenv with scope := relabel scope env }) hkind _ s' m hv hn fun h' m' _ hs' => wpAny_mono (hr h' hs' _ rfl) (fun _ _ f => f.elim) fun _ _ y => y))

/-- the block's context, with what is wanted of exceptions -/
abbrev blkX (X : Cx) (s : Shared) (H : Hp) (scope : Scope) (cenv : Env) (fp : List Addr) (xe : Value → Shared → Prop) : Cx := { X.blk s H scope cenv fp with xe := xe }
/-- one clause, values that may let exceptions out -/
def tLcX (wi : TI) (g : TG) (tt : TT) (te : TE) (vs : List Nat) : TE := fun σ H Q => wi σ H fun J H1 => ∀ D, H1 D = none → ∃ W : Nat → Nat → Hp → Prop, (∃ m, W 0 m (upd H1 D (.lst []))) ∧ ∀ i m H, W i m H →
  (J.stop i H ∧ Q (.ref D) H) ∨ (J.go i H ∧ ∃ Nx : Hp → Prop, (∀ H', Nx H' → ∃ m', m' < m ∧ W (i + 1) m' H') ∧ ∀ x H', J.yld i H x H' → g x (wipe σ vs) H' fun σ2 H2 => (σ2.length = σ.length ∧ ∀ (j : Nat) v, (wipe σ vs)[j]? = some (some v) → σ2[j]? = some (some v)) ∧ tt σ2 H2 fun b H3 =>
    if b = true then te σ2 H3 fun y H4 => ∃ acc, H4 D = some (.lst acc) ∧ acc.length < sizeLine ∧ Nx (upd H4 D (.lst (acc ++ [y]))) else Nx H3)
/-- where the def's frame stands -/
structure Fram (X : Cx) : Prop where
  stk : X.stack = X.env :: X.outer
  fr : X.env.frame = some X.env.locals

section
variable {X : Cx}
theorem ub_base {X : Cx} {pins : List (Addr × Obj)} {σ : L2.St} {H : Hp} {s : Shared} (I : Inv X pins σ H s) : True := trivial
/-- the exception is noted, then passed on: the def's own wish -/
theorem takes_blk {Wx : WX} {pins : List (Addr × Obj)} {σ : L2.St} {H3 : Hp} {s3 : Shared} {scope : Scope} {ce : Env} {fp : List Addr} (tk : Takes X Wx) (fm : Fram X) (I3 : Inv X pins σ H3 s3)
    (hce : ce.locals = s3.heap.objs.size) (hcf : ce.frame = X.env.frame) (f3 : ∀ b ∈ fp, FpOk X pins H3 b ∧ b < s3.heap.objs.size) {use : Option (Value → Sem Unit)} {Q : Value → Shared → Prop} {acc : Value} :
    Takes (blkX X s3 H3 scope ce fp (notedBy (model X.prog X.w) X.A ce fun e s' => cPost (model X.prog X.w) X.A X.xe use Q acc ce.locals X.env.frame (.error e) s')) (fun cls d _ H => Wx cls d σ H) := by
  intro u s' x
  obtain ⟨a, B, sI, pinsb, σb, H, cls, d, rfl, I, nb, up, sky, na, os, ag, w⟩ := x
  have hstk : (blkX X s3 H3 scope ce fp (notedBy (model X.prog X.w) X.A ce fun e s' => cPost (model X.prog X.w) X.A X.xe use Q acc ce.locals X.env.frame (.error e) s')).stack = X.env :: X.outer := fm.stk
  rw [hstk] at sky
  have nb : ∀ b o, sI.heap.get? b = some o → b ∉ frs (X.env :: X.outer) → B.get? b = some o := by
    intro b o e h
    exact nb b o e (by rw [hstk]; exact h)
  have hfr : X.A.frames = some (X.env :: X.outer) := by rw [I3.ok.frames, fm.stk]
  have nL : ce.locals ≠ X.env.locals := by rw [hce]; exact Nat.ne_of_gt I3.lt
  -- the block's state, as the def's
  have I7 : Inv X pins σ H sI := I3.call' (ch := fp) I.os I.base I.hok I.bare fun b hb => ⟨(f3 b hb).1.2.2.2.1, (f3 b hb).1.2.1, (f3 b hb).1.2.2.2.2.1, (f3 b hb).1.2.2.2.2.2⟩
  have nC : H ce.locals = none := I.free
  have fC : FpOk X pins H ce.locals := by rw [hce]; exact I3.fpOk (Nat.le_refl _) (by rw [← hce]; exact nC)
  obtain ⟨mC, hnC, _⟩ := I.loc
  have hnC : sI.heap.Ns ce.locals mC := hnC
  have nCf : ce.locals ∉ frs (X.env :: X.outer) := by
    intro z
    rw [← fm.stk] at z
    obtain ⟨_, o, e, _⟩ := I3.stack.mem z
    have := Heap.lt_size e
    rw [hce] at this
    exact absurd this (Nat.lt_irrefl _)
  show wpAny _ X.A (noteFrame (.ref a) ce) _ _ s'
  rw [note_same hcf]
  have fin : ∀ h1, HandSPX.HeldZ B (X.env :: X.outer) a (Zc cls d) X.env.locals h1 → s'.heap.UpToSlots h1 → cPost (model X.prog X.w) X.A X.xe use Q acc ce.locals X.env.frame (.error (.ref a)) { s' with heap := h1 } := by
    intro h1 hh up1
    obtain ⟨kb, hen, hl, oe, vs, T', oT, ts, he, hz, hd, h1v, hnT, hTe, hT, hdT, h3⟩ := hh
    obtain ⟨oC, esC, epC, eC, dC, rC⟩ := hnC
    have eB := nb _ _ eC nCf
    have e1 := kb _ _ eB
    refine ⟨mC, ⟨oC, esC, epC, e1, dC, rC⟩, fun h' sb cenv hcv => ?_⟩
    have oth : ∀ b, b ≠ ce.locals → h'.get? b = h1.get? b := fun b hb => sb.2 b hb
    have aC : a ≠ ce.locals := fun z => by rw [z, eB] at hen; cases hen
    have tC : T' ≠ ce.locals := fun z => by rw [z, eB] at hnT; cases hnT
    obtain ⟨B2, b1, b2⟩ := restrict B fun b => decide (b ≠ ce.locals)
    obtain ⟨G2, g1, g2⟩ := restrict sI.heap fun b => decide (b ≠ ce.locals)
    have ofB : ∀ b o, B2.get? b = some o → b ≠ ce.locals ∧ B.get? b = some o := fun b o e => by
      by_cases q : b = ce.locals
      · rw [b2 b (by simp [q])] at e; cases e
      · exact ⟨q, by rw [← b1 b (by simp [q])]; exact e⟩
    have ofG : ∀ b o, G2.get? b = some o → b ≠ ce.locals ∧ sI.heap.get? b = some o := fun b o e => by
      by_cases q : b = ce.locals
      · rw [g2 b (by simp [q])] at e; cases e
      · exact ⟨q, by rw [← g1 b (by simp [q])]; exact e⟩
    have hl' : h'.FunFrames B2 (X.env :: X.outer) := by
      refine frames_at (fun L hL => oth L fun z => nCf (by rw [← z]; exact hL)) (fun L hL => ?_) hl
      cases q : B2.get? L with
      | none => rfl
      | some o =>
        obtain ⟨_, z⟩ := ofB L o q
        rw [(hl.mem hL).1] at z; cases z
    have hheld : HandSPX.HeldZ B2 (X.env :: X.outer) a (Zc cls d) X.env.locals h' := by
      refine ⟨fun b o e => ?_, ?_, hl', oe, vs, T', oT, ts, (oth a aC).trans he, hz, hd, h1v, ?_, hTe, (oth T' tC).trans hT, hdT, h3⟩
      · obtain ⟨q, z⟩ := ofB b o e
        exact (oth b q).trans (kb b o z)
      · cases q : B2.get? a with
        | none => rfl
        | some o => rw [(ofB a o q).2] at hen; cases hen
      · cases q : B2.get? T' with
        | none => rfl
        | some o => rw [(ofB T' o q).2] at hnT; cases hnT
    unfold PySem.passOn
    refine wpAny_bind (wpAny_field ((oth a aC).trans he) hd h1v ?_)
    rw [if_neg (by simp)]
    refine wpAny_bind ?_
    rw [hcv, fm.fr]
    refine HandSPX.setFlight_onZ (s := { s' with heap := h' }) hheld fun h2 hh2 up2 => ?_
    refine wpAny_throw (tk _ _ ?_)
    have I8 : Inv X pins σ H { sI with heap := G2 } := I7.turned (it := ce.locals) (t' := sI.toks) (fun b o hb e => by rw [g1 b (by simp [hb])]; exact e) fC.1 fC.2.1 fC.2.2.2.1 fC.2.2.2.2.1 fC.2.2.2.2.2
    refine ⟨a, B2, { sI with heap := G2 }, pins, σ, H, cls, d, rfl, I8, fun b o e hb => ?_, fun b o e hnf => ?_, .inr (.inr (by rw [fm.stk]; exact hh2)), na, os, ag, w⟩
    · obtain ⟨q, z⟩ := ofG b o e
      rw [b1 b (by simp [q])]
      exact nb b o z (by rw [← fm.stk]; exact hb)
    · obtain ⟨q, z⟩ := ofG b o e
      obtain ⟨sl1, q1⟩ := up b o z hnf
      obtain ⟨sl2, q2⟩ := up1 b _ q1 hnf
      have q3 : h'.get? b = some _ := (oth b q).trans q2
      obtain ⟨sl3, q4⟩ := up2 b _ q3 hnf
      exact ⟨sl3, q4⟩
  rcases sky with ⟨hB, hn, hl, oe, vs, he, hz, hd, h1⟩ | fl | hh
  · exact HandSPX.look_newZ Zc.steady hfr hl fm.fr he hB hn hd h1 hz fin
  · exact HandSPX.looks_onZ Zc.steady hfr fm.fr fl fin
  · exact looks_otherZ Zc.steady hfr fm.fr nL hh fin

abbrev blkT (X : Cx) (Wx : WX) (σ : L2.St) (P : Cx → Prop) : Prop := ∀ (s : Shared) (H : Hp) (C : Addr) (cl : List (Str × Addr)) (fp : List Addr) (scope : Scope) (xe : Value → Shared → Prop), Takes (blkX X s H scope (compEnvC scope cl C X.env) fp xe) (fun cls d _ H' => Wx cls d σ H') → P (blkX X s H scope (compEnvC scope cl C X.env) fp xe)
theorem lcX_core {Wx : WX} {pins : List (Addr × Obj)} {s : Shared} {σ : L2.St} {H : Hp} {Q : VK} {elt tg iter : Expr} {ifs : List Expr} {scope : Scope} {own : List (Str × Nat)} {pos pos' : Pos} {wi : TI} {g : TG} {tt : TT} {te : TE} {use : Option (Value → Sem Unit)} {Qf : Value → Shared → Prop}
    (hc : X.calm = true) (hN : X.N.Nodup) (tk : Takes X Wx) (fm : Fram X) (I : Inv X pins σ H s) (hi : PI X tg iter wi) (ok : BlkOk X.N X.env.scope scope own)
    (hg : ∀ (s : Shared) (H : Hp) (C : Addr) (cl : List (Str × Addr)) (fp : List Addr) (xe : Value → Shared → Prop), PG (blkX X s H scope (compEnvC scope cl C X.env) fp xe) tg g)
    (ht : ∀ (s : Shared) (H : Hp) (C : Addr) (cl : List (Str × Addr)) (fp : List Addr) (xe : Value → Shared → Prop), Takes (blkX X s H scope (compEnvC scope cl C X.env) fp xe) (fun cls d _ H' => Wx cls d σ H') → PTs (blkX X s H scope (compEnvC scope cl C X.env) fp xe) ifs tt)
    (he : ∀ (s : Shared) (H : Hp) (C : Addr) (cl : List (Str × Addr)) (fp : List Addr) (xe : Value → Shared → Prop), Takes (blkX X s H scope (compEnvC scope cl C X.env) fp xe) (fun cls d _ H' => Wx cls d σ H') → PE (blkX X s H scope (compEnvC scope cl C X.env) fp xe) elt te)
    (hs : ∀ x, foldedSetIterable iter X.env x = pure x)
    (h : tLcX wi g tt te (own.map (·.2)) σ H Q)
    (hRR : ∀ D C s' m H', Inv X pins σ H' s' → Q (.ref D) H' → s'.heap.Ns C m → FpOk X pins H' C → compPost (model X.prog X.w) X.A X.xe use Qf (.ref D) C (.ok .next) s') :
    wpAny (model X.prog X.w) X.A (comprehension (.ListComp elt [⟨tg, iter, ifs, 0⟩] scope pos) scope X.env pos' (newList []) false (eval iter X.env) use) Qf X.xe s := by
  have hfree : ∀ y ∈ scope.names, y.2 = .free → ∃ c, X.env.cells.lookup y.1 = some c := fun y hy e => by
    rcases ok.free y hy e with k | k
    · exact I.ok.has _ (.inl k)
    · exact I.ok.has _ (.inr k)
  refine comp_raise (use := use) rfl hs (closure_ok hfree) ok.kind (fun y hy e => by rw [ok.uniq y hy, e])
    (thn (hi.run pins s σ H _ I h) fun xv s1 hx => thn hx fun itv s2 h2 => ?_)
  obtain ⟨it, fp, tn, J, H2, e, I2, T, st2, f2, q⟩ := h2
  subst e
  refine wpAny_newObj_type (newEnv_comp ?_) (by show 0 ≤ sizeLine; decide)
  generalize hD : s2.heap.objs.size = D
  have hDn : H2 D = none := I2.hok.fresh (Nat.le_of_eq hD)
  obtain ⟨W, ⟨m0, w0⟩, turn⟩ := q D hDn
  generalize hs3 : ({ s2 with heap := s2.heap.push { cls := .type "list", data := .seq ([] : List Value).toArray } } : Shared) = s3
  have I3 : Inv X pins σ (upd H2 D (.lst [])) s3 := by
    rw [← hs3]
    refine I2.laid (t' := s2.toks) (fun b o e => Heap.get?_push_of_some _ e) (Nat.le_of_eq hD) ⟨Nat.zero_le _, [], 0, .nil, ?_⟩
    rw [← hD]
    exact Heap.get?_push_size _ rfl
  have h3 : s3.heap = s2.heap.push { cls := .type "list", data := .seq ([] : List Value).toArray } := by rw [← hs3]
  have sz : ∀ b ∈ fp, b < s2.heap.objs.size := fun b hb => by
    obtain ⟨o, e, _⟩ := T.obj _ _ st2 b hb
    exact Heap.lt_size e
  have f3 : ∀ b ∈ fp, FpOk X pins (upd H2 D (.lst [])) b ∧ b < s3.heap.objs.size := fun b hb => by
    have hlt := sz b hb
    refine ⟨⟨?_, (f2 b hb).2⟩, by rw [h3, Heap.size_push]; exact Nat.lt_succ_of_lt hlt⟩
    rw [upd_ne (by rw [← hD]; exact Nat.ne_of_lt hlt)]
    exact (f2 b hb).1
  have st3 : tn 0 s3.heap := T.keep _ _ _ st2 fun b _ o e => by rw [h3]; exact Heap.get?_push_of_some _ e
  have I4 := block_start I3 ok hN f3
  generalize hce : compEnvC scope (cellsFrom (s3.heap.objs.size + 1) scope.names (cloFrom X.env.cells scope.names [])) s3.heap.objs.size X.env = ce at I4
  have cL : ce.locals = s3.heap.objs.size := by subst hce; rfl
  have cF : ce.frame = X.env.frame := by subst hce; rfl
  have tkb := takes_blk (scope := scope) (use := use) (Q := Qf) (acc := .ref D) tk fm I3 cL cF f3
  have pg := hg s3 (upd H2 D (.lst [])) s3.heap.objs.size (cellsFrom (s3.heap.objs.size + 1) scope.names (cloFrom X.env.cells scope.names [])) fp
  have pt := ht s3 (upd H2 D (.lst [])) s3.heap.objs.size (cellsFrom (s3.heap.objs.size + 1) scope.names (cloFrom X.env.cells scope.names [])) fp
  have pe := he s3 (upd H2 D (.lst [])) s3.heap.objs.size (cellsFrom (s3.heap.objs.size + 1) scope.names (cloFrom X.env.cells scope.names [])) fp
  rw [hce] at pg pt pe
  generalize hxb : (notedBy (model X.prog X.w) X.A ce fun e s' => cPost (model X.prog X.w) X.A X.xe use Qf (.ref D) ce.locals X.env.frame (.error e) s') = xb at tkb
  have pg := pg xb
  have pt := pt xb tkb
  have pe := pe xb tkb
  show codeAny _ _ (.compStart (.ListComp elt [⟨tg, iter, ifs, 0⟩] scope pos) 0 (.ref it) (.ref D) (compEnvC scope (cellsFrom (s3.heap.objs.size + 1) scope.names (cloFrom X.env.cells scope.names [])) s3.heap.objs.size X.env)) (cPost (model X.prog X.w) X.A X.xe use Qf (.ref D) s3.heap.objs.size X.env.frame) { s3 with heap := pushCells (s3.heap.push { cls := .type "dict", data := .dict #[] }) scope.names }
  rw [hce, ← cL]
  have nfp : ∀ b ∈ fp, (upd H2 D (.lst [])) b = none := fun b hb => (f3 b hb).1.1
  generalize hH3 : upd H2 D (.lst []) = H3 at I3 I4 pg pt pe w0 nfp f3 tkb
  generalize hs4 : ({ s3 with heap := pushCells (s3.heap.push { cls := .type "dict", data := .dict #[] }) scope.names } : Shared) = s4 at I4 ⊢
  have st4 : tn 0 s4.heap := T.keep _ _ _ st3 fun b _ o e => by rw [← hs4]; exact pushCells_keeps _ _ _ _ (Heap.get?_push_of_some _ e)
  have I4 : Inv (blkX X s3 H3 scope ce fp xb) [] (wipe σ (own.map (·.2))) H3 s4 := ⟨⟨I4.ok.mod, I4.ok.kind, I4.ok.glob, I4.ok.blt, I4.ok.above, I4.ok.inj, I4.ok.has, I4.ok.cab, I4.ok.hd, I4.ok.frames, I4.ok.stk, I4.ok.exf, I4.ok.bs, I4.ok.bsz, I4.ok.noex, I4.ok.exfs, I4.ok.funs, I4.ok.frf⟩, I4.os, I4.bare, I4.base, I4.loc, I4.cell, I4.free, I4.freeC, I4.pin, I4.hok, I4.len⟩
  have stat : ∀ {σ' : L2.St} {H' : Hp} {s' : Shared}, Inv (blkX X s3 H3 scope ce fp xb) [] σ' H' s' → (∀ b ∈ fp, H' b = none) → ∀ b ∈ fp, FpOk (blkX X s3 H3 scope ce fp xb) [] H' b := fun {σ' H' s'} I' hn b hb =>
      ⟨hn b hb, (I'.ok.exf b hb).1, I'.ok.exfs b hb, .inl hb, fun x c e => (I'.ok.exf b hb).2 x c e, fun p hp => absurd (show p ∈ ([] : List (Addr × Obj)) ++ [] from hp) (by simp)⟩
  have loop : codeAny (model X.prog X.w) X.A (.compLoop (.ListComp elt [⟨tg, iter, ifs, 0⟩] scope pos) 0 (.ref it) (.ref D) ce) (cPost (model X.prog X.w) X.A X.xe use Qf (.ref D) ce.locals X.env.frame) s4 := by
    refine compLoop_any (fun n s' => ∃ i H', Inv (blkX X s3 H3 scope ce fp xb) [] (wipe σ (own.map (·.2))) H' s' ∧ tn i s'.heap ∧ (∀ b ∈ fp, H' b = none) ∧ W i n H') ?_ m0 ⟨0, H3, I4, st4, nfp, w0⟩
    rintro n s5 ⟨i, H5, I5, st5, n5, w5⟩
    rw [hxb]
    rcases turn i n H5 w5 with ⟨stop, qq⟩ | ⟨go, Nx, hNx, step⟩
    · refine thn (T.done (blkX X s3 H3 scope ce fp xb) rfl rfl rfl hc i [] s5 _ H5 xb I5 (stat I5 n5) st5 stop) fun r s6 ⟨hr, I6⟩ => ?_
      subst hr
      have I7 : Inv X pins σ H5 s6 := I3.call' (ch := fp) I6.os I6.base I6.hok I6.bare fun b hb => ⟨(f3 b hb).1.2.2.2.1, (f3 b hb).1.2.1, (f3 b hb).1.2.2.2.2.1, (f3 b hb).1.2.2.2.2.2⟩
      have nC : H5 ce.locals = none := I6.free
      obtain ⟨m, hn, _⟩ := I6.loc
      have hn : s6.heap.Ns ce.locals m := hn
      exact hRR D ce.locals s6 m H5 I7 qq hn (by rw [cL]; exact I3.fpOk (Nat.le_refl _) (by rw [← cL]; exact nC))
    · refine thn (T.item (blkX X s3 H3 scope ce fp xb) rfl rfl rfl hc i [] s5 _ H5 xb I5 (stat I5 n5) st5 go) fun r s6 ⟨u, hr, h6⟩ => ?_
      subst hr
      refine thn h6 fun _ s7 ⟨x, H7, I7, r7, y7, st7, n7⟩ => ?_
      have I7' := I7.pinned (stat I7 n7) (T.obj _ _ st7)
      refine thn (pg.run _ s7 _ H7 x u _ I7' r7 (step x H7 y7)) fun _ s8 ⟨σ8, H8, I8, hw8, q8⟩ => ?_
      refine thn (pt.run _ s8 σ8 H8 _ I8 q8) fun b s9 ⟨H9, I9, q9⟩ => ?_
      have fin : ∀ {s' : Shared} {H' : Hp}, Inv (blkX X s3 H3 scope ce fp xb) ([] ++ pinsAt fp s7.heap) σ8 H' s' → Nx H' → ∃ m, m < n ∧ ∃ i H', Inv (blkX X s3 H3 scope ce fp xb) [] (wipe σ (own.map (·.2))) H' s' ∧ tn i s'.heap ∧ (∀ b ∈ fp, H' b = none) ∧ W i m H' := fun {s' H'} I' nx => by
        obtain ⟨m', hm, w'⟩ := hNx H' nx
        have pin' : ∀ b ∈ fp, ∀ o, s7.heap.get? b = some o → s'.heap.get? b = some o ∧ H' b = none := fun b hb o e =>
          let z := I'.pin (b, o) (List.mem_append_right _ (List.mem_append_right _ (mem_pinsAt hb e)))
          ⟨z.1, z.2.1⟩
        refine ⟨m', hm, i + 1, H', (I'.unpinned (pins := [])).weak (by rw [wipe_length]; exact hw8.1.symm) hw8.2, T.keep _ _ _ st7 fun b hb o e => (pin' b hb o e).1, fun b hb => ?_, w'⟩
        obtain ⟨o, e, _⟩ := T.obj _ _ st7 b hb
        exact (pin' b hb o e).2
      cases b with
      | false =>
        simp only [Bool.false_eq_true, if_false] at q9 ⊢
        exact fin I9 q9
      | true =>
        simp only [if_true] at q9 ⊢
        refine thn (pe.run _ s9 σ8 H9 _ I9 q9) fun z s10 ⟨yv, H10, I10, r10, acc, hD10, hz10, nx⟩ => ?_
        exact app_ok (X := blkX X s3 H3 scope ce fp xb) I10 hD10 hz10 r10 fun s11 I11 => fin I11 nx
  exact codeAny_compStart_list loop (T.self X.A 0 _ _ _ st4 loop)

theorem pe_lcX {Wx : WX} {elt tg iter : Expr} {ifs : List Expr} {scope : Scope} {own : List (Str × Nat)} {pos : Pos} {wi : TI} {g : TG} {tt : L2.St → TT} {te : L2.St → TE} (hc : X.calm = true) (hN : X.N.Nodup) (tk : Takes X Wx) (fm : Fram X) (hi : PI X tg iter wi) (ok : BlkOk X.N X.env.scope scope own)
    (hg : ∀ (s : Shared) (H : Hp) (C : Addr) (cl : List (Str × Addr)) (fp : List Addr) (xe : Value → Shared → Prop), PG (blkX X s H scope (compEnvC scope cl C X.env) fp xe) tg g)
    (ht : ∀ (σ : L2.St) (s : Shared) (H : Hp) (C : Addr) (cl : List (Str × Addr)) (fp : List Addr) (xe : Value → Shared → Prop), Takes (blkX X s H scope (compEnvC scope cl C X.env) fp xe) (fun cls d _ H' => Wx cls d σ H') → PTs (blkX X s H scope (compEnvC scope cl C X.env) fp xe) ifs (tt σ))
    (he : ∀ (σ : L2.St) (s : Shared) (H : Hp) (C : Addr) (cl : List (Str × Addr)) (fp : List Addr) (xe : Value → Shared → Prop), Takes (blkX X s H scope (compEnvC scope cl C X.env) fp xe) (fun cls d _ H' => Wx cls d σ H') → PE (blkX X s H scope (compEnvC scope cl C X.env) fp xe) elt (te σ))
    (hs : ∀ x, foldedSetIterable iter X.env x = pure x := by intro _; rfl) :
    PE X (.ListComp elt [⟨tg, iter, ifs, 0⟩] scope pos) (fun σ H Q => tLcX wi g (tt σ) (te σ) (own.map (·.2)) σ H Q) := by
  refine ⟨fun pins s σ H Q I h => ?_⟩
  rw [eval_ListComp]
  refine lcX_core hc hN tk fm I hi ok hg (ht σ) (he σ) hs h fun D C s' m H' I' q hn f => ⟨m, hn, fun h'' sb => ?_⟩
  obtain ⟨f0, f1, f2, f3, f4, f5⟩ := f
  exact ⟨.ref D, H', I'.turned (t' := s'.toks) (fun b o hb e => (sb.2 b hb).trans e) f0 f1 f3 f4 f5, rfl, q⟩
theorem ps_setLcX {Wx : WX} {i : Nat} {y : Str} {py : Pos} {elt tg iter : Expr} {ifs : List Expr} {scope : Scope} {own : List (Str × Nat)} {pos spos : Pos} {wi : TI} {g : TG} {tt : L2.St → TT} {te : L2.St → TE} (hc : X.calm = true) (hN : X.N.Nodup) (tk : Takes X Wx) (fm : Fram X) (hy : X.N[i]? = some y) (hyl : X.env.scope.names.lookup y = some .local)
    (hsw : swapsWith (.ListComp elt [⟨tg, iter, ifs, 0⟩] scope pos) (some (.Name y py)) spos.line X.env = pure true) (hi : PI X tg iter wi) (ok : BlkOk X.N X.env.scope scope own)
    (hg : ∀ (s : Shared) (H : Hp) (C : Addr) (cl : List (Str × Addr)) (fp : List Addr) (xe : Value → Shared → Prop), PG (blkX X s H scope (compEnvC scope cl C X.env) fp xe) tg g)
    (ht : ∀ (σ : L2.St) (s : Shared) (H : Hp) (C : Addr) (cl : List (Str × Addr)) (fp : List Addr) (xe : Value → Shared → Prop), Takes (blkX X s H scope (compEnvC scope cl C X.env) fp xe) (fun cls d _ H' => Wx cls d σ H') → PTs (blkX X s H scope (compEnvC scope cl C X.env) fp xe) ifs (tt σ))
    (he : ∀ (σ : L2.St) (s : Shared) (H : Hp) (C : Addr) (cl : List (Str × Addr)) (fp : List Addr) (xe : Value → Shared → Prop), Takes (blkX X s H scope (compEnvC scope cl C X.env) fp xe) (fun cls d _ H' => Wx cls d σ H') → PE (blkX X s H scope (compEnvC scope cl C X.env) fp xe) elt (te σ))
    (hs : ∀ x, foldedSetIterable iter X.env x = pure x := by intro _; rfl) :
    PS X (.Assign [.Name y py] (.ListComp elt [⟨tg, iter, ifs, 0⟩] scope pos) spos) (fun D σ H => tLcX wi g (tt σ) (te σ) (own.map (·.2)) σ H fun x H1 => D.nx (σ.set i (some x)) H1) := by
  refine ⟨fun pins s σ H D I h => ?_⟩
  rw [exec_Assign_Name_used _ _ _ _ hsw]
  refine wpAny_bind (wpAny_standAt (wpAny_bind ?_))
  show wpAny _ X.A (do let _ ← comprehension (.ListComp elt [⟨tg, iter, ifs, 0⟩] scope pos) scope X.env (firstIterPos [⟨tg, iter, ifs, 0⟩] pos) (newList []) false (eval iter X.env) (some (assign (.Name y py) X.env))) _ _ s
  refine wpAny_bind (thn (lcX_core (Qf := fun _ s' => SP X pins D .next s') hc hN tk fm I hi ok hg (ht σ) (he σ) hs h fun L C s' m H' I' q hn f => ?_) fun _ s' hq => wpAny_pure (wpAny_pure hq))
  show wpAny _ _ (assign (.Name y py) X.env (.ref L)) _ _ _
  refine wpAny_assign_Name (store_ok2 (v := V.ref L) I' hN hy (.inl hyl) rfl (fun s2 I2 ⟨a, sb, ha⟩ => ?_) (.inr hyl))
  obtain ⟨f0, f1, f2, f3, f4, f5⟩ := f
  have haC : C ≠ a := by
    rcases ha with z | z
    · rw [z]; exact f1
    · exact fun e => f4 y a z e.symm
  refine ⟨m, hn.sameBut sb haC, fun h3 sb3 => ?_⟩
  exact ⟨_, H', I2.turned (t' := s2.toks) (fun b o hb e => (sb3.2 b hb).trans e) f0 f1 f3 f4 f5, q⟩

/-! ### list comprehensions on data -/
def wipeD (ds : Sl) : List Nat → Sl
  | [] => ds
  | v :: vs => (wipeD ds vs).set v none
theorem wipeD_length (ds : Sl) : ∀ vs : List Nat, (wipeD ds vs).length = ds.length
  | [] => rfl
  | v :: vs => by unfold wipeD; rw [List.length_set, wipeD_length ds vs]
theorem wipeD_some {ds : Sl} {i : Nat} {x : D} : ∀ {vs : List Nat}, (wipeD ds vs)[i]? = some (some x) → ds[i]? = some (some x) ∧ i ∉ vs
  | [], h => ⟨h, by simp⟩
  | v :: vs, h => by
    unfold wipeD at h
    by_cases hi : v = i
    · subst hi
      by_cases hv : v < (wipeD ds vs).length
      · rw [List.getElem?_set_self hv] at h; cases h
      · rw [List.getElem?_eq_none (by simpa using hv)] at h; cases h
    · rw [List.getElem?_set_ne hi] at h
      obtain ⟨h1, h2⟩ := wipeD_some h
      exact ⟨h1, by simp only [List.mem_cons, not_or]; exact ⟨fun e => hi e.symm, h2⟩⟩
theorem wipe_keep {σ : L2.St} {i : Nat} : ∀ {vs : List Nat}, i ∉ vs → (wipe σ vs)[i]? = σ[i]?
  | [], _ => rfl
  | v :: vs, h => by
    unfold wipe
    rw [List.getElem?_set_ne (fun e => h (by rw [e]; exact List.mem_cons_self))]
    exact wipe_keep fun z => h (List.mem_cons_of_mem _ z)
theorem FR.wipe {G : GE} {W : Wd} {ds : Sl} {σ : L2.St} (f : FR G W ds σ) (vs : List Nat) : FR G W (wipeD ds vs) (L2.wipe σ vs) := by
  refine ⟨by rw [wipeD_length, wipe_length]; exact f.1, fun i d e => ?_⟩
  obtain ⟨h1, h2⟩ := wipeD_some e
  obtain ⟨v, h3, h4⟩ := f.2 i d h1
  exact ⟨v, by rw [wipe_keep h2]; exact h3, h4⟩
def compR (cur : Cur) (L n : Nat) (g : Gt) (t : Sl → MH → ER Bool) (e : Sl → MH → ER D) (dw : Sl) : Nat → Nat → MH → ER D
  | k, i, h => match cur h with
    | none => .bad
    | some xs => if xs.length = L then (match k with
      | 0 => .val (.ref n) h
      | k + 1 => match xs[i]? with
        | none => .bad
        | some x => match g x dw h with
          | none => .bad
          | some ds1 => (t ds1 h).bind fun b h1 => if b = true then (e ds1 h1).bind fun y h2 => (match h2[n]? with
            | some (.lst acc) => if acc.length < 100000 then compR cur L n g t e dw k (i + 1) (h2.set n (.lst (acc ++ [y]))) else .bad
            | _ => .bad) else compR cur L n g t e dw k (i + 1) h1) else .bad
def cComp (vs : List Nat) (it : Sl → MH → ER Cur) (g : Gt) (t : Sl → MH → ER Bool) (e : Sl → MH → ER D) : Sl → MH → ER D := fun ds h => (it ds h).bind fun cur h1 => match cur h1 with
  | none => .bad
  | some xs => compR cur xs.length h1.length g t e (wipeD ds vs) xs.length 0 (h1 ++ [.lst []])
def cYes : Sl → MH → ER Bool := fun _ h => .val true h
variable {T : Tg} {Wx : WX}
theorem mts_nil : PTs X [] (tT (ge X T) Wx cYes) := ⟨fun pins s σ H Q I h => by
  obtain ⟨W, ds, h, f, r, p⟩ := h
  exact pts_nil.run pins s σ H Q I (p true H W (.refl W) r rfl)⟩
theorem mts_one {c : Expr} {ct : Sl → MH → ER Bool} (h : PT X c (tT (ge X T) Wx ct)) : PTs X [c] (tT (ge X T) Wx ct) := pts_one h
theorem tLc_of {it : Sl → MH → ER Cur} {g : Gt} {t : Sl → MH → ER Bool} {e : Sl → MH → ER D} {vs ws : List Nat} {σ : L2.St} {H : Hp} {Q : VK} (hw : ∀ i ∈ ws, i ∈ vs) (h : tE (ge X T) Wx (cComp vs it g t e) σ H Q) :
    tLcX (tI (ge X T) Wx it) (tG (ge X T) ws g) (tT (ge X T) (fun cls d _ H' => Wx cls d σ H') t) (tE (ge X T) (fun cls d _ H' => Wx cls d σ H') e) vs σ H Q := by
  obtain ⟨W, ds, h, f, r, p⟩ := h
  refine post_bind f r p fun W1 h1 cur J H1 l1 r1 ok p1 => fun D hD => ?_
  split at p1
  · exact p1.elim
  · rename_i xs0 e0
    have r2 := r1.put hD (show RO (ge X T) (W1.put D) D (.lst []) (.lst []) from .lst .nil)
    have hno : (W1.put D).rho[h1.length]? = some D := r1.putNo
    refine ⟨fun i m H => m + i = xs0.length ∧ ∃ W h, (W1.put D).le W ∧ HR (ge X T) h H W ∧ Post (ge X T) (RD (ge X T)) W (compR cur xs0.length h1.length g t e (wipeD ds vs) m i h) Q (fun cls dd H' => Wx cls dd σ H'), ⟨xs0.length, rfl, _, _, .refl _, r2, p1.up (W1.le_put D)⟩, ?_⟩
    rintro i m H ⟨hm, W, h, l, r, p⟩
    have lW1 : W1.le W := (W1.le_put D).trans l
    have rD : RD (ge X T) W (.ref h1.length) (.ref D) := (RD.ref hno).up l
    unfold compR at p
    split at p
    · exact p.elim
    · rename_i xs e1
      split at p
      · rename_i hl
        obtain ⟨o1, o2⟩ := ok W h H xs lW1 r e1 i
        cases m with
        | zero => exact .inl ⟨o1 (by omega), p _ H W (.refl W) r rD⟩
        | succ k =>
          dsimp only at p
          split at p
          · exact p.elim
          · rename_i x ex
            obtain ⟨q1, q2⟩ := o2 x ex
            refine .inr ⟨q1, fun H' => ∃ W h, (W1.put D).le W ∧ HR (ge X T) h H' W ∧ Post (ge X T) (RD (ge X T)) W (compR cur xs0.length h1.length g t e (wipeD ds vs) k (i + 1) h) Q (fun cls dd H' => Wx cls dd σ H'), fun H' w => ⟨k, Nat.lt_succ_self k, by omega, w⟩, fun v H' y => ?_⟩
            obtain ⟨W2, l2, r2, rx⟩ := q2 v H' y
            have p2 := p.up l2
            split at p2
            · exact p2.elim
            · rename_i ds1 eg
              refine ⟨W2, _, h, x, ds1, ((f.up l1).up (lW1.trans l2)).wipe vs, r2, rx, eg, fun σ2 f2 wr => ⟨⟨by rw [wr.1, wipe_length], fun j v ej => ?_⟩, ?_⟩⟩
              · rw [wr.2 j fun z => (wipe_some ej).2 (hw j z)]
                exact ej
              · refine post_bind (Wx := fun cls d _ H' => Wx cls d σ H') f2 r2 p2 fun W3 h3 b b' H3 l3 r3 rb p3 => ?_
                subst rb
                cases b with
                | false =>
                  simp only [Bool.false_eq_true, if_false] at p3 ⊢
                  exact ⟨W3, h3, (l.trans l2).trans l3, r3, p3⟩
                | true =>
                  simp only [if_true] at p3 ⊢
                  refine post_bind (Wx := fun cls d _ H' => Wx cls d σ H') (f2.up l3) r3 p3 fun W4 h4 yd yv H4 l4 r4 ry p4 => ?_
                  split at p4
                  · rename_i acc ea
                    split at p4
                    · rename_i hacc
                      have rD4 : RD (ge X T) W4 (.ref h1.length) (.ref D) := ((rD.up l2).up l3).up l4
                      cases rD4 with
                      | ref hn4 =>
                        obtain ⟨ho, q1, q2⟩ := r4.at_ ea hn4
                        cases q2 with
                        | lst q2 =>
                          refine ⟨_, q1, ?_, W4, _, ((l.trans l2).trans l3).trans l4, r4.write hn4 (.lst (q2.append (.cons ry .nil))), p4⟩
                          rw [← q2.length, sizeLine_eq]; omega
                    · exact p4.elim
                  · exact p4.elim
      · exact p.elim
abbrev BlkPG (X : Cx) (scope : Scope) (tg : Expr) (g : TG) : Prop := ∀ (s : Shared) (H : Hp) (C : Addr) (cl : List (Str × Addr)) (fp : List Addr) (xe : Value → Shared → Prop), PG (blkX X s H scope (compEnvC scope cl C X.env) fp xe) tg g
abbrev BlkP (X : Cx) (Wx : WX) (scope : Scope) (P : L2.St → Cx → Prop) : Prop := ∀ (σ : L2.St) (s : Shared) (H : Hp) (C : Addr) (cl : List (Str × Addr)) (fp : List Addr) (xe : Value → Shared → Prop), Takes (blkX X s H scope (compEnvC scope cl C X.env) fp xe) (fun cls d _ H' => Wx cls d σ H') → P σ (blkX X s H scope (compEnvC scope cl C X.env) fp xe)
theorem me_comp {it : Sl → MH → ER Cur} {g : Gt} {t : Sl → MH → ER Bool} {e : Sl → MH → ER D} {ws : List Nat} {elt tg iter : Expr} {ifs : List Expr} {scope : Scope} {own : List (Str × Nat)} {pos : Pos} (hc : X.calm = true) (hN : X.N.Nodup) (tk : Takes X Wx) (fm : Fram X) (ok : BlkOk X.N X.env.scope scope own) (hw : ∀ i ∈ ws, i ∈ own.map (·.2)) (hi : PI X tg iter (tI (ge X T) Wx it))
    (hg : BlkPG X scope tg (tG (ge X T) ws g)) (ht : BlkP X Wx scope fun σ Y => PTs Y ifs (tT (ge X T) (fun cls d _ H' => Wx cls d σ H') t)) (he : BlkP X Wx scope fun σ Y => PE Y elt (tE (ge X T) (fun cls d _ H' => Wx cls d σ H') e))
    (hs : ∀ x, foldedSetIterable iter X.env x = pure x := by intro _; rfl) : PE X (.ListComp elt [⟨tg, iter, ifs, 0⟩] scope pos) (tE (ge X T) Wx (cComp (own.map (·.2)) it g t e)) :=
  PE.weak (pe_lcX hc hN tk fm hi ok hg ht he hs) fun σ H Q h => tLc_of hw h
theorem ms_comp {i : Nat} {y : Str} {py : Pos} {it : Sl → MH → ER Cur} {g : Gt} {t : Sl → MH → ER Bool} {e : Sl → MH → ER D} {ws : List Nat} {elt tg iter : Expr} {ifs : List Expr} {scope : Scope} {own : List (Str × Nat)} {pos spos : Pos} (hc : X.calm = true) (hN : X.N.Nodup) (tk : Takes X Wx) (fm : Fram X) (ok : BlkOk X.N X.env.scope scope own) (hw : ∀ i ∈ ws, i ∈ own.map (·.2)) (hi : PI X tg iter (tI (ge X T) Wx it))
    (hg : BlkPG X scope tg (tG (ge X T) ws g)) (ht : BlkP X Wx scope fun σ Y => PTs Y ifs (tT (ge X T) (fun cls d _ H' => Wx cls d σ H') t)) (he : BlkP X Wx scope fun σ Y => PE Y elt (tE (ge X T) (fun cls d _ H' => Wx cls d σ H') e))
    (hsw : swapsWith (.ListComp elt [⟨tg, iter, ifs, 0⟩] scope pos) (some (.Name y py)) spos.line X.env = pure true) (hy : X.N[i]? = some y := by rfl) (hyl : X.env.scope.names.lookup y = some .local := by rfl)
    (hs : ∀ x, foldedSetIterable iter X.env x = pure x := by intro _; rfl) : PS X (.Assign [.Name y py] (.ListComp elt [⟨tg, iter, ifs, 0⟩] scope pos) spos) (tS (ge X T) Wx (cSet i (cComp (own.map (·.2)) it g t e))) := by
  refine PS.weak (ps_setLcX hc hN tk fm hy hyl hsw hi ok hg ht he hs) fun D σ H h => ?_
  have h' := tS_bindE (Ra := RD (ge X T)) (R := fun x H1 => D.nx (σ.set i (some x)) H1) (k := fun ds x h1 => .nxt (ds.set i (some x)) h1) h fun W ds h d v H f r rd p => p _ H W (.refl W) (f.set rd i) r
  exact tLc_of hw h'
end
end DL
end
section
set_option Elab.async false
set_option linter.all false
set_option maxRecDepth 100000
set_option maxHeartbeats 4000000
namespace DL
open PySem PySem.Spec PyProof.Rows L2

section
variable {X : Cx} {T : Tg} {Wx : WX} {a b e o : Expr} {es : List Expr} {ca cb cv : Sl → MH → ER D} {cs : Sl → MH → ER (List D)} {pos p apos : Pos} {k i : Nat} {m : Mi} {x : Str}

/-! ### name op= e -/
def iaddD (h : MH) (x y : D) : Option D := match x, y with
  | .int i, .int j => some (.int (i + j))
  | _, _ => none
theorem ipd_add : Op2 X T (inplaceOp .Add) iaddD := opd_int (gd := fun i j => .int (i + j)) (rI_of iop_add) (fun h d e z q => by
  unfold iaddD at q
  split at q
  · cases q; exact ⟨_, _, rfl, rfl, trivial, rfl⟩
  · cases q) (fun _ _ _ => .int _)
theorem ipd_sub : Op2 X T (inplaceOp .Sub) subD := opd_int (gd := fun i j => .int (i - j)) (rI_of iop_sub) (fun h d e z q => by
  unfold subD at q
  split at q
  · cases q; exact ⟨_, _, rfl, rfl, trivial, rfl⟩
  · cases q) (fun _ _ _ => .int _)

def cAug (i : Nat) (f : MH → D → D → Option D) (c : Sl → MH → ER D) : Sl → MH → SR := fun ds h => match ds[i]? with
  | some (some x) => (c ds h).bindS ds fun y h1 => match f h1 x y with
    | some z => .nxt (ds.set i (some z)) h1
    | none => .bad
  | _ => .bad
theorem ms_aug {op : Operator} {f : MH → D → D → Option D} {pos' : Pos} (hN : X.N.Nodup) (ho : Op2 X T (inplaceOp op) f) (he : PE X e (tE (ge X T) Wx ca)) (hi : X.N[i]? = some x := by rfl) (hx : Loc X.env.scope x := by first | exact Or.inl rfl | exact Or.inr rfl)
    (hf : X.fn x = true ∨ X.env.scope.names.lookup x = some .local := by first | exact .inl rfl | exact .inr rfl | assumption) : PS X (.AugAssign (.Name x pos') op e pos) (tS (ge X T) Wx (cAug i f ca)) := by
  refine PS.weak (ps_aug hN hi hx he ho hf) fun D σ H h => ?_
  obtain ⟨W, ds, h, f0, r, p⟩ := h
  unfold cAug at p
  split at p
  · rename_i x0 ex
    obtain ⟨v, e1, rv⟩ := f0.2 i _ ex
    refine ⟨v, e1, post_bindS f0 r p fun W1 h1 y yv H1 l1 r1 ry p1 => ?_⟩
    split at p1
    · rename_i z ez
      exact ⟨W1, h1, x0, y, z, r1, rv.up l1, ry, ez, fun zv H2 W2 l2 r2 rz => p1 _ _ W2 l2 (((f0.up l1).up l2).set rz i) r2⟩
    · exact p1.elim
  · exact p.elim

/-! ### methods of lists -/
def isLst (h : MH) (x : D) : Bool := match x with
  | .ref n => match h[n]? with
    | some (.lst _) => true
    | _ => false
  | _ => false
theorem isL_at {G : GE} {h : MH} {H : Hp} {W : Wd} {x : D} {v : V} (r : HR G h H W) (rd : RD G W x v) (e : isLst h x = true) : ∃ n a xs vs, x = .ref n ∧ v = .ref a ∧ W.rho[n]? = some a ∧ h[n]? = some (.lst xs) ∧ H a = some (.lst vs) ∧ RDs G W xs vs := by
  unfold isLst at e
  split at e
  · split at e
    · rename_i xs hx
      cases rd with
      | ref hn =>
        obtain ⟨ho, q1, q2⟩ := r.at_ hx hn
        cases q2 with
        | lst q2 => exact ⟨_, _, _, _, rfl, rfl, hn, hx, q1, q2⟩
    · cases e
  · cases e
/-- a method that may change its list -/
def cMut (f : MH → D → List D → Option (D × MH)) (co : Sl → MH → ER D) (cs : Sl → MH → ER (List D)) : Sl → MH → ER D := fun ds h => (co ds h).bind fun o h1 => if isLst h1 o = true then (cs ds h1).bind fun xs h2 => match f h2 o xs with
  | some (d, h3) => .val d h3
  | none => .bad else .bad
def MutR (X : Cx) (T : Tg) (id : String) (f : MH → D → List D → Option (D × MH)) : Prop := MtR X id (fun x xs H Q => ∃ W h d ds z h', HR (ge X T) h H W ∧ RD (ge X T) W d x ∧ RDs (ge X T) W ds xs ∧ isLst h d = true ∧ f h d ds = some (z, h') ∧ ∀ v H' W', W.le W' → HR (ge X T) h' H' W' → RD (ge X T) W' z v → Q v H')
theorem me_mut {f : MH → D → List D → Option (D × MH)} {name : Str} {id : String} (hf : ∀ h d ds z h', f h d ds = some (z, h') → isLst h d = true) (slot : Slot "list" name id) (hty : typeOf (.builtin id) = pure (.type "method_descriptor")) (hm : MutR X T id f) (ho : PE X o (tE (ge X T) Wx ca)) (ha : PA X (e :: es) (tA (ge X T) Wx cs))
    (hbase : attributeBase o name X.env (eval o X.env) = eval o X.env := by rfl)
    (hfew : ((backTo pos (starEach (e :: es) X.env)).all (fun x => !x.1) && (backToKw pos (keywordEach [] X.env)).all (fun x => x.1.isSome)
      && decide ((e :: es).length + ([] : List Keyword).length + (if ([] : List Keyword).isEmpty then 0 else 1) < 30)) = true := by rfl)
    (hline : (apos.endLine == pos.line) = true := by rfl) (hs : starEach (e :: es) X.env = (false, eval e X.env) :: starEach es X.env := by rfl) (hplain : (backTo pos (starEach es X.env)).any (·.1) = false := by rfl) :
    PE X (.Call (.Attribute o name apos) (e :: es) [] pos) (tE (ge X T) Wx (cMut f ca cs)) := by
  refine PE.weak (pe_bm PySem.F.plainAttrs_list slot hty hm ho ha hbase hfew hline hs hplain) fun σ H Q h => ?_
  obtain ⟨W, ds, h, f0, r, p⟩ := h
  refine post_bind f0 r p fun W1 h1 d v H1 l1 r1 rd p1 => ?_
  split at p1
  · rename_i hl
    obtain ⟨n, a, xs, vs, rfl, rfl, hn, hx, ea, rx⟩ := isL_at r1 rd hl
    refine ⟨.inl ⟨rfl, vs, Evl.sq_of ea⟩, post_bind (f0.up l1) r1 p1 fun W2 h2 zs us H2 l2 r2 rz p2 => ?_⟩
    split at p2
    · rename_i d2 h3 e2
      exact ⟨W2, h2, _, zs, d2, h3, r2, rd.up l2, rz, hf _ _ _ _ _ e2, e2, p2⟩
    · exact p2.elim
  · exact p1.elim
def appD (h : MH) (o : D) (xs : List D) : Option (D × MH) := match o, xs with
  | .ref n, [y] => match h[n]? with
    | some (.lst zs) => if zs.length < 100000 then some (.non, h.set n (.lst (zs ++ [y]))) else none
    | _ => none
  | _, _ => none
theorem app_isL : ∀ h d ds z h', appD h d ds = some (z, h') → isLst h d = true := fun h d ds z h' e => by
  unfold appD at e
  split at e
  · split at e
    · rename_i hx
      simp [isLst, hx]
    · cases e
  · cases e
theorem mut_app : MutR X T "list.append" appD := by
  intro pins s σ H x vs v us Q I rx rv h
  obtain ⟨W, h, d, ds, z, h', r, rd, rs, hl, e, fin⟩ := h
  unfold appD at e
  split at e
  · split at e
    · rename_i hx
      split at e
      · rename_i hz
        cases e
        cases rd with
        | ref hn =>
          obtain ⟨ho, q1, q2⟩ := r.at_ hx hn
          cases q2 with
          | lst q2 =>
            cases rs with
            | cons ry rn =>
              cases rn
              refine mt_append pins s σ H _ _ v us Q I rx rv ⟨_, _, _, rfl, rfl, q1, ?_, fin _ _ W (.refl W) (r.write hn (.lst (q2.append (.cons ry .nil)))) .non⟩
              rw [← q2.length, sizeLine_eq]; omega
      · cases e
    · cases e
  · cases e
theorem me_app (ho : PE X o (tE (ge X T) Wx ca)) (ha : PA X (e :: es) (tA (ge X T) Wx cs))
    (hbase : attributeBase o "append" X.env (eval o X.env) = eval o X.env := by rfl)
    (hfew : ((backTo pos (starEach (e :: es) X.env)).all (fun x => !x.1) && (backToKw pos (keywordEach [] X.env)).all (fun x => x.1.isSome)
      && decide ((e :: es).length + ([] : List Keyword).length + (if ([] : List Keyword).isEmpty then 0 else 1) < 30)) = true := by rfl)
    (hline : (apos.endLine == pos.line) = true := by rfl) (hs : starEach (e :: es) X.env = (false, eval e X.env) :: starEach es X.env := by rfl) (hplain : (backTo pos (starEach es X.env)).any (·.1) = false := by rfl) :
    PE X (.Call (.Attribute o "append" apos) (e :: es) [] pos) (tE (ge X T) Wx (cMut appD ca cs)) := me_mut app_isL PySem.F.slot_list_append PySem.F.type_list_append mut_app ho ha hbase hfew hline hs hplain

/-! ### C(e, ..) -/
def cMake (c : Nat) (m : Mi) (cs : Sl → MH → ER (List D)) : Sl → MH → ER D := fun ds h => (cs ds h).bind fun xs h1 => (m (.ref h1.length :: xs) (h1 ++ [.ins c []])).bind fun d h2 => match d with
  | .non => .val (.ref h1.length) h2
  | _ => .bad
theorem me_make {c : Nat} (M : Mk X.K (T.ca c) (T.fa i)) (F : DF (ge X T) X.mg X.base k i m) (hr : Room (k + 1) X.A) (hm : X.mg x = some (.ref (T.ca c))) (tk : Takes X Wx) (ha : PA X (e :: es) (tA (ge X T) Wx cs))
    (hg : Gl X x := by rfl) (hdb : (x == ("__debug__" : Str)) = false := by decide) (he : starEach (e :: es) X.env = (false, eval e X.env) :: starEach es X.env := by rfl) (hpl : (backTo pos (starEach es X.env)).any (·.1) = false := by rfl) :
    PE X (.Call (.Name x p) (e :: es) [] pos) (tE (ge X T) Wx (cMake c m cs)) := by
  refine ⟨fun pins s σ H Q I h => ?_⟩
  refine wpAny_Call_Name_kw (ld_glob I hg hm ?_ hdb)
  have h' := tR_bind (Ra := RDs (ge X T)) (Rb := RD (ge X T)) (Wx := Wx) (c := cs) (Q := Q) (σ := σ) (H := H) (R := fun vs H1 => ∀ x dx, H1 x = none → H1 dx = none → dx ≠ x → spD (ge X T) m (.ref x :: vs) (upd (upd H1 dx (.own x)) x (.ins (T.ca c) dx [])) (fun v H2 => v = .non ∧ Q (.ref x) H2) (WE Wx σ)) (k := fun _ xs h1 => (m (.ref h1.length :: xs) (h1 ++ [.ins c []])).bind fun d h2 => (match d with
    | .non => .val (.ref h1.length) h2
    | _ => .bad : ER D)) h fun W ds h xs vs H1 f0 r rs p => fun x dx hx hdx hne => ?_
  · refine PySem.W.callWith_K (h₀ := X.base) I.ok.mod.kin M.kp (thn (ha.run pos pins s σ H _ I h') fun us s1 ⟨vs, H1, I1, r, q⟩ => ⟨I1.kIn, ?_⟩) he hpl
    have hq := q (s1.heap.objs.size + 1) s1.heap.objs.size (I1.hok.fresh (Nat.le_succ _)) (I1.hok.fresh (Nat.le_refl _)) (Nat.ne_of_lt (Nat.lt_succ_self _))
    have I2 := Inv.made (C := T.ca c) I1
    have r2 : Vals (V.ref (s1.heap.objs.size + 1) :: vs) (Value.ref (s1.heap.objs.size + 1) :: us) := .cons rfl r
    refine wpAny_call (make_map (f := T.fa i) I1.kIn M.makes M.init (beq_iff_eq.mp M.fn) (codeAny_mono (F _ X.stack _ _ (Value.ref (s1.heap.objs.size + 1) :: us) _ _ _ (hr.make (T.ca c) us []) (I2.env0.make (T.ca c) us []) r2 hq) fun r s' hq' => ?_))
    cases r with
    | error e => exact passAt tk σ pins _ _ e s' I2 hq'
    | ok fl =>
      cases fl with
      | ret u =>
        obtain ⟨v, H', I3, rv, ev, q3⟩ := I2.after hq'
        subst ev
        exact ⟨rv, ⟨V.ref (s1.heap.objs.size + 1), H', I3, rfl, q3⟩⟩
      | next => exact False.elim hq'
      | brk => exact False.elim hq'
      | cont => exact False.elim hq'
  · have r1 := r.junk hdx (o := .own x)
    have hx1 : upd H1 dx (.own x) x = none := by rw [upd_ne (Ne.symm hne)]; exact hx
    have r2 := r1.put hx1 (show RO (ge X T) (W.put x) x (.ins c []) (.ins (T.ca c) dx []) from .ins .nil)
    have rx : RD (ge X T) (W.put x) (.ref h.length) (.ref x) := .ref r.putNo
    refine ⟨W.put x, _, _, .cons rx (rs.up (W.le_put x)), r2, ?_⟩
    have p := p.up (W.le_put x)
    dsimp only [ER.bind] at p
    cases e : m (.ref h.length :: xs) (h ++ [.ins c []]) with
    | val d h2 =>
      rw [e] at p
      intro v H2 W2 l2 r3 rv
      cases d with
      | non =>
        cases rv
        exact ⟨rfl, p _ H2 W2 l2 r3 (rx.up l2)⟩
      | _ => exact False.elim p
    | exc x h2 => rw [e] at p; exact p
    | bad => rw [e] at p; exact p
/-- a def whose last parameters have defaults -/
theorem df_mkD {K : PySem.W.Frag} {P : Program} {w : World} {mg : Str → Option Value} {base : Heap} {fd : FuncData} {ps : List Str} {ds : List Value} {dvs : List V} {dd : List D}
    (F : FnOk P w K mg base (L2.CX P w) k (T.fa i) fd ps (spD ⟨K, P, w, T⟩ m)) (hb : Binds K fd ps ds) (hd : Vals dvs ds) (rd : ∀ W, RDs ⟨K, P, w, T⟩ W dd dvs) : DF ⟨K, P, w, T⟩ mg base k i (fun xs h => m (xs ++ dd) h) :=
  (F.raw hb hd).imp fun vs H Q E h => by
    obtain ⟨W, as, h, ra, r, p⟩ := h
    exact ⟨W, as ++ dd, h, ra.append (rd W), r, p⟩
end
end DL
end
section
set_option Elab.async false
set_option linter.all false
set_option maxRecDepth 100000
set_option maxHeartbeats 4000000
namespace DL
open PySem PySem.Spec PyProof.Rows L2

/-! ### the __init__ of an own exception class that calls its base's by super() -/
abbrev supEnv (qual : Str) (scope : Scope) (L f cda cc : Addr) : Env := PySem.W.ksEnv qual scope L f (.ref cda) cc
abbrev cxS (P : Program) (w : World) (K : PySem.W.Frag) (mg : Str → Option Value) (base : Heap) (N : List Str) (env : Env) (A : Around) (outer : List Env) (s : Shared) (H : Hp) (xe : Value → Shared → Prop) : Cx where
  prog := P
  w := w
  K := K
  mg := mg
  base := base
  A := A.deeper env
  N := N
  s_0 := s
  H_0 := H
  env := env
  outer := outer
  stack := env :: outer
  ex := []
  calm := true
  fn := fun x => !(x == ("__class__" : Str))
  pn := []
  xe := xe
/-- what the class and its def are in the written part -/
structure SupC (P : Program) (K : PySem.W.Frag) (C f : Addr) (qual : Str) (st : Stmt) (ps : List Str) (fd : FuncData) (cda cc : Addr) : Prop where
  fn : ∃ (oc : Value) (od : Option Addr) (kV doc pm : Value) (an : Option Addr) (ct : Value) (osl : Array (Option Value)), fd = PySem.W.ksFn "__init__" qual (defArgs st) (defBody st) (defScope st) .none kV doc pm an (.ref cda) ct cc ∧ K.lookup f = some ⟨oc, od, .func fd, osl⟩ ∧ PySem.W.codeIn K (.ref cda) qual = true
  par : ∃ ar, ((defArgs st).posonlyargs ++ (defArgs st).args).head? = some ar ∧ ps[0]? = some ar.arg
  bind : ∀ us : List Value, us.length = ps.length → bindArgs fd ⟨us, []⟩ = pure (ps.zip us)
  code : ∃ (ccl : Value) (cdd : Option Addr) (vs : Array Value) (ccs : Array (Option Value)) (file : Str) (tf : Tok), K.lookup cda = some ⟨ccl, cdd, .fields vs, ccs⟩ ∧ vs[2]? = some (.str file tf) ∧ ((P.main.file : Str) == file) = true
  cell : ∃ (cl : Value) (cld : Option Addr) (csl : Array (Option Value)), K.lookup cc = some ⟨cl, cld, .cell (some (.ref C)), csl⟩
  sub : PySem.W.mroIn K C (.ref C) = some true
  sup : PySem.W.ks_superIn K C C "__init__" = some (some (.builtin "ValueError.__init__"))
  ve : PySem.W.subIn K (.ref C) (.type "ValueError") = some true
  nsup : PySem.W.nsIn K mainGlobals "super" = some none
  opq : PySem.W.nsIn K cStatics "thirdparty.any" = some none
  top : (P.main.scope.names.lookup ("super" : Str)).isSome = false
/-- what its scope is -/
structure SupScope (N : List Str) (sc : Scope) : Prop where
  kind : sc.kind = .function
  co : sc.isCoroutine = false
  gen : sc.isGenerator = false
  cells : ∀ x ∈ sc.names, x.2 ≠ .cell
  free : ∀ y ∈ sc.names, y.2 = .free → y.1 = ("__class__" : Str)
  hks : sc.names.lookup ("super" : Str) = some .globalImplicit
  hkc : sc.names.lookup ("__class__" : Str) = some .free
  loc : ∀ x ∈ N, sc.names.lookup x = some .local
  nd : N.Nodup
theorem lk1 {x : Str} {cc c : Addr} (e : ([(("__class__" : Str), cc)] : List (Str × Addr)).lookup x = some c) : x = ("__class__" : Str) ∧ c = cc := by
  simp only [List.lookup] at e
  split at e
  · rename_i q
    cases e
    exact ⟨by simpa using q, rfl⟩
  · cases e
theorem zip_lk {x : Str} {v : Value} : ∀ {ps : List Str} {us : List Value} {i : Nat}, ps.Nodup → ps[i]? = some x → us[i]? = some v → (ps.zip us).lookup x = some v
  | [], _, _, _, h, _ => by simp at h
  | _ :: _, [], _, _, _, h => by simp at h
  | p :: ps, u :: us, 0, nd, h1, h2 => by
    simp at h1 h2
    subst h1 h2
    simp [List.lookup]
  | p :: ps, u :: us, i + 1, nd, h1, h2 => by
    have hp : x ≠ p := fun e => by
      subst e
      exact (List.nodup_cons.mp nd).1 (List.mem_of_getElem? (by simpa using h1))
    have hb : (x == p) = false := by simpa using hp
    show List.lookup x ((p, u) :: ps.zip us) = _
    rw [List.lookup_cons, hb]
    exact zip_lk (i := i) (List.nodup_cons.mp nd).2 (by simpa using h1) (by simpa using h2)
section
variable {P : Program} {w : World} {K : PySem.W.Frag} {mg : Str → Option Value} {base : Heap} {A : Around} {outer : List Env} {s : Shared} {H : Hp}
theorem inv_sup {C f : Addr} {qual : Str} {st : Stmt} {ps : List Str} {fd : FuncData} {cda cc : Addr} {xe : Value → Shared → Prop} {vs : List V} {us : List Value} {h1 : Heap} {t1 : Nat}
    (S : SupC P K C f qual st ps fd cda cc) (sc : SupScope ps (defScope st)) (hd : A.handled = none) (e0 : Env0 P w K mg base A outer s H) (r : Vals vs us) (hl : us.length = ps.length)
    (hn : h1.Ns s.heap.objs.size (fun x => (ps.zip us).reverse.lookup x)) (hk : ∀ b o, s.heap.get? b = some o → h1.get? b = some o) :
    Inv (cxS P w K mg base ps (supEnv qual (defScope st) s.heap.objs.size f cda cc) A outer s H xe) [] (vs.map some) H { s with heap := h1, toks := t1 } := by
  obtain ⟨cl, cld, csl, hcell⟩ := S.cell
  have KX : K.In s.heap := e0.mod.kin.keeps fun b o e => (e0.bs b o e).1
  have noA : ∀ b : Addr, b ∉ (cxS P w K mg base ps (supEnv qual (defScope st) s.heap.objs.size f cda cc) A outer s H xe).ex := fun b z => absurd (show b ∈ ([] : List Addr) from z) (by simp)
  refine ⟨⟨e0.mod, sc.kind, rfl, rfl, Nat.le_refl _, fun y z c h1 h2 => ?_, fun y hy => ?_, fun y c z h => ?_, fun _ => hd, Around.frames_deeper e0.frames, .inr ⟨rfl, rfl⟩, fun b z => absurd z (noA b), e0.bs, e0.bsz, fun b _ _ => noA b, fun b z => absurd z (noA b), e0.funs, e0.frf⟩,
    rfl, e0.bare, Un.kept hk, ⟨_, hn, fun i y v h1 h2 h3 => ?_⟩, fun y c h => ?_, e0.hok.fresh (Nat.le_refl _), fun y c h => ?_, fun p hp => absurd (show p ∈ ([] : List (Addr × Obj)) from hp) (by simp), e0.hok.kept hk, by rw [List.length_map, r.length, hl]⟩
  · rw [(lk1 h1).1, (lk1 h2).1]
  · refine ⟨cc, ?_⟩
    have : y = ("__class__" : Str) := by
      rcases hy with hy | hy
      · exact absurd rfl (sc.cells _ (PySem.mem_of_lookup hy))
      · exact sc.free _ (PySem.mem_of_lookup hy) rfl
    rw [this]
    rfl
  · rw [(lk1 h).1] at z
    exact absurd (show (!(("__class__" : Str) == ("__class__" : Str))) = true from z) (by decide)
  · rw [List.getElem?_map] at h2
    have ha : vs[i]? = some v := by
      cases e : vs[i]? with
      | none => rw [e] at h2; cases h2
      | some a => rw [e] at h2; cases h2; rfl
    obtain ⟨u, hu, rv⟩ := r.get ha
    refine ⟨u, rv, .inl ⟨sc.loc y (List.mem_of_getElem? h1), ?_⟩⟩
    have hz : ((ps.zip us).map (·.1)).Nodup := by
      rw [List.map_fst_zip (by omega)]
      exact sc.nd
    show (ps.zip us).reverse.lookup y = some u
    rw [lookup_reverse_of_nodup _ hz]
    exact zip_lk sc.nd h1 hu
  · obtain ⟨e1, e2⟩ := lk1 h
    rw [e2]
    exact ⟨_, _, hk _ _ (KX _ _ hcell), rfl⟩
  · obtain ⟨e1, e2⟩ := lk1 h
    rw [e2]
    exact (e0.bs _ _ (e0.mod.kin _ _ hcell)).2

theorem sup_stmt {C f a L : Addr} {qual : Str} {st : Stmt} {ps : List Str} {fd : FuncData} {cda cc : Addr} {xe : Value → Shared → Prop} {σ : L2.St} {H1 : Hp} {s1 : Shared} {e1 : Expr} {te : TE} {p0 p1 p2 p3 p4 : Pos} {body : List Stmt} {Q : Flow → Shared → Prop} {pl : Sem Bool}
    (S : SupC P K C f qual st ps fd cda cc) (sc : SupScope ps (defScope st)) (T : OexC K C)
    (I : Inv (cxS P w K mg base ps (supEnv qual (defScope st) L f cda cc) A outer s H xe) [] σ H1 s1) (h0 : σ[0]? = some (some (.ref a))) (ea : H1 a = some (exo a C none))
    (he : PE (cxS P w K mg base ps (supEnv qual (defScope st) L f cda cc) A outer s H xe) e1 te) (hte : te σ H1 fun v H2 => ∃ t, [v] = [V.str t] ∧ H2 = H1)
    (hq : ∀ s2, Inv (cxS P w K mg base ps (supEnv qual (defScope st) L f cda cc) A outer s H xe) [] σ H1 s2 → Q .next s2)
    (hst : starEach [e1] (supEnv qual (defScope st) L f cda cc) = [(false, eval e1 (supEnv qual (defScope st) L f cda cc))])
    (ht : eval (.Call (.Attribute (.Call (.Name "super" p0) [] [] p1) "__init__" p2) [e1] [] p3) (supEnv qual (defScope st) L f cda cc) = (do
      let ov ← attributeBase (.Call (.Name "super" p0) [] [] p1) "__init__" (supEnv qual (defScope st) L f cda cc) (eval (.Call (.Name "super" p0) [] [] p1) (supEnv qual (defScope st) L f cda cc))
      standAt p2.atName
      let (g, first) ← holding [ov] (getMethod ov "__init__" pl)
      callWith p3 g first (backTo p3 (starEach [e1] (supEnv qual (defScope st) L f cda cc))) []))
    (hsw : swapsWith (.Call (.Attribute (.Call (.Name "super" p0) [] [] p1) "__init__" p2) [e1] [] p3) none p4.line (supEnv qual (defScope st) L f cda cc) = pure false) (hint : interactive (supEnv qual (defScope st) L f cda cc) = false) :
    _root_.PySem.wpAt (model P w) (A.deeper (supEnv qual (defScope st) L f cda cc)) (.func body (supEnv qual (defScope st) L f cda cc)) (exec (.Expr (.Call (.Attribute (.Call (.Name "super" p0) [] [] p1) "__init__" p2) [e1] [] p3) p4) (supEnv qual (defScope st) L f cda cc)) Q xe s1 := by
  obtain ⟨oc, od, kV, doc, pm, an, ct, osl, rfl, hf, hcd⟩ := S.fn
  obtain ⟨ar, hp, har⟩ := S.par
  obtain ⟨ccl, cdd, vs, ccs, file, tf, hcode, hvs, hfile⟩ := S.code
  obtain ⟨cl, cld, csl, hcell⟩ := S.cell
  obtain ⟨nm, q, N, bs, bm, sn, sub, ab, col, dd, k0, k1, k2, k3, k5, hC, hbm⟩ := T.cls
  have KX : K.In s1.heap := I.kIn
  have hcl : PySem.W.clsIn K C = some { name := nm, bases := bs, mro := .ref C :: bm, ns := N, qualname := q, hasDict := true, slotNames := sn, subclasses := sub, abstract := ab, collection := col, hasDel := false } := by unfold PySem.W.clsIn; rw [hC] <;> rfl
  obtain ⟨t1, ho⟩ := exo_at I.hok ea
  obtain ⟨mb, b1, b2⟩ := I.mod.blt
  obtain ⟨mL, hL, hloc⟩ := I.loc
  obtain ⟨u0, ru0, lu0⟩ := hloc 0 ar.arg (.ref a) har h0 (.inl (sc.loc _ (List.mem_of_getElem? har)))
  obtain rfl : u0 = Value.ref a := ru0
  have hself : mL ar.arg = some (.ref a) := by
    rcases lu0 with ⟨_, z⟩ | ⟨z, _⟩
    · exact z
    · have hz : (defScope st).names.lookup ar.arg = some .local := sc.loc _ (List.mem_of_getElem? har)
      have z : (defScope st).names.lookup ar.arg = some .cell ∨ (defScope st).names.lookup ar.arg = some .free := z
      rcases z with z | z <;> rw [hz] at z <;> cases z
  have eC : s1.heap.get? C = some _ := KX _ _ hC
  refine ks_wpAt_Expr_any (ks_wpAt_MethodCall (pl := pl) ?_ ht) hint hsw
  refine ks_wpAt_super_base (env := (supEnv qual (defScope st) L f cda cc)) sc.hks sc.hkc (by decide) rfl (KX _ _ hf) rfl hp rfl (KX _ _ hcode) rfl hvs hfile S.top ?_
  refine PySem.W.ks_loadName_global sc.kind sc.hks (Calls.loadGlobal_builtin (env := (supEnv qual (defScope st) L f cda cc)) (I.mod.glob.keeps I.bk) (PySem.W.mg_none_of I.mod.kin I.mod.glob S.nsup) (b1.keeps I.bk) ((b2 _ (by decide +kernel)).trans (by decide +kernel)) ⟨rfl, ?_⟩)
  refine wpAny_loadName_free sc.kind sc.hkc rfl ⟨_, KX _ _ hcell, rfl⟩ ?_
  refine wpAny_loadName_local sc.kind (sc.loc _ (List.mem_of_getElem? har)) hL hself ?_
  refine ks_wpAny_isType_cls (h := s1.heap) eC rfl ⟨rfl, ?_⟩
  refine ks_wpAny_call_super eC rfl ho rfl (fun c e => by cases e) (PySem.W.looks_mroIn KX S.sub) fun h2 e2 k2' => ?_
  have I2 : Inv (cxS P w K mg base ps (supEnv qual (defScope st) L f cda cc) A outer s H xe) [] σ H1 { s1 with heap := h2 } := I.kept k2'
  have KX2 : K.In h2 := I2.kIn
  have IA : PySem.W.InstAt h2 a { cls := .ref C, dict := none, data := .fields #[.ref t1, .none, .none, .none, .bool false, .none] } C none := ⟨k2' _ _ ho, rfl, rfl, trivial⟩
  have hal : PySem.W.alongIn K "__init__" (((Value.ref C :: bm).dropWhile (· != .ref C)).drop 1) = some (some (.builtin "ValueError.__init__")) := by
    have q := S.sup
    unfold PySem.W.ks_superIn at q
    rw [hcl] at q
    exact q
  refine PySem.W.kxs_getMethod PySem.W.kxs_ValueError e2 (PySem.W.looks_opaque KX2 S.opq) (l₀ := .ref C :: bm) (fun A Q E s k q => wpAny_bind ((PySem.W.looks_clsIn KX2 hcl) A _ E s k (wpAny_pure q))) rfl KX2 hal (IA.type.andThen (PySem.W.looks_subIn KX2 S.ve)) (PySem.W.ks_ne KX2 IA hcl) (by decide) ?_
  have I3 : Inv (cxS P w K mg base ps (supEnv qual (defScope st) L f cda cc) A outer s H xe) [] σ H1 { s1 with heap := h2.push (PySem.W.kxs_mw "ValueError.__init__" a), toks := s1.toks + 1 } := I2.kept (t' := s1.toks + 1) fun b o q => Heap.get?_push_of_some _ q
  have eu : (h2.push (PySem.W.kxs_mw "ValueError.__init__" a)).get? h2.objs.size = some (PySem.W.kxs_mw "ValueError.__init__" a) := Heap.get?_push_at rfl rfl
  have I4 : Inv (cxS P w K mg base ps (supEnv qual (defScope st) L f cda cc) A outer s H xe) [(h2.objs.size, PySem.W.kxs_mw "ValueError.__init__" a)] σ H1 { s1 with heap := h2.push (PySem.W.kxs_mw "ValueError.__init__" a), toks := s1.toks + 1 } := I3.pins_of fun p hp => by
    have e : p = (h2.objs.size, PySem.W.kxs_mw "ValueError.__init__" a) := by simpa using hp
    subst e
    exact ⟨eu, I2.hok.fresh (Nat.le_refl _), Nat.ne_of_gt I2.lt, I2.nofs (Nat.le_refl _), fun v z => by cases z⟩
  dsimp only
  rw [hst]
  refine PySem.W.kxs_callWith (i := "ValueError.__init__") (x := a) rfl (PySem.Calls.evalArgs_plain ?_)
  have ha := (pa_cons he pa_nil hst).run p3 _ _ σ H1 (fun vs H2 => ∃ t, vs = [V.str t] ∧ H2 = H1) I4 (?_ : tCons te tNil σ H1 _)
  · rw [hst] at ha
    refine thn ha fun us s5 ⟨ws, H5, I5, r5, t, ew, eH⟩ => ?_
    subst eH
    have pu := (I5.pin (h2.objs.size, PySem.W.kxs_mw "ValueError.__init__" a) (by simp)).1
    obtain ⟨t5, ho5⟩ := exo_at I5.hok ea
    have hz : us.length ≤ sizeLine := by
      rw [← Paired.length r5, ew, sizeLine_eq]
      simp
    refine ⟨pu, ?_⟩
    have eC5 : s5.heap.get? C = some _ := I5.kIn _ _ hC
    have fin : ∀ h', (∀ b o, b ≠ a → s5.heap.get? b = some o → h'.get? b = some o) → h'.get? a = some (PySem.W.excObj C s5.heap.objs.size none .none) → Q .next { s5 with heap := h' } := fun h' k hx => by
      have J := I5.write (t' := s5.toks) (x := a) (e := a) (o := exo a C none) (by rw [ea]; exact True.intro) (.inl rfl) k ⟨_, hx⟩ (exo_ok hx)
      have eu : upd H5 a (exo a C none) = H5 := by
        funext b
        by_cases hb : b = a
        · rw [hb, upd_same, ea]
        · rw [upd_ne hb]
      rw [eu] at J
      exact hq _ (J.pins_of fun p hp => J.pin p (by
        have hp' : p ∈ ([] : List (Addr × Obj)) ++ [] := hp
        simp at hp'))
    obtain ⟨hh, g, d, tk, os⟩ := s5
    show wpAny _ _ (call (.ref h2.objs.size) ([] ++ us)) _ _ _
    refine wpAny_call (codeAny_of_tree ?_)
    show wpAny _ (A.deeper (cxS P w K mg base ps (supEnv qual (defScope st) L f cda cc) A outer s H xe).env).in1 (callAny (.ref h2.objs.size) ⟨us, []⟩) _ _ _
    simp only [callAny]
    refine wpAny_bind (wpAny_load pu ?_)
    simp only [PySem.W.kxs_mw, show (Value.type "method-wrapper" == Value.type "method" || Value.type "method-wrapper" == Value.type "builtin_function_or_method" || Value.type "method-wrapper" == Value.type "method-wrapper") = true by decide, if_true]
    refine PySem.W.KFB.if_so (by decide) ?_
    refine wpAny_bind (PySem.W.check_bound_init F.excBase_ValueError.toExcCallFacts eC5 ho5 rfl ?_)
    refine wpAny_bind (wpAny_pure (wpAny_pure ?_))
    refine ⟨plainId_quiet F.excBase_ValueError.init.plain _, codeAny_builtin F.excBase_ValueError.initEntry ?_⟩
    exact PySem.W.exc_init_tree (cls := .ref C) (t0 := t5) (dv := none) (c2 := .none) (c3 := .none) (b4 := .bool false) ho5 hz fun h' k e' t' => fin h' k e'
  · exact hte

/-- the field's number may be shown in the message -/
def okMsg (n : Int) : Prop := n.natAbs.log2 < 1900 ∧ Str.length (toString n) ≤ 1000
instance : DecidablePred okMsg := fun n => by unfold okMsg; infer_instance
/-- what such an __init__ does: self.fld = n -/
def spX (K : PySem.W.Frag) (C : Addr) (fld : Str) : Sp := fun vs H Q E => ∃ (a : Addr) (n : Int), vs = [.ref a, .int n] ∧ okMsg n ∧ H a = some (exo a C none) ∧ ∀ dx, H dx = none → dx ≠ a → Q .non (upd (upd H dx (exd dx [(fld, .int n)])) a (exo a C (some dx)))
theorem fn_exc {C f : Addr} {qual fld : Str} {st : Stmt} {ps : List Str} {fd : FuncData} {cda cc : Addr} {e1 : Expr} {p0 p1 p2 p3 p4 : Pos} {st2 : Stmt} {k : Nat}
    (S : SupC P K C f qual st ps fd cda cc) (sc : SupScope ps (defScope st)) (T : OexC K C) (hno : PySem.W.findIn K (.ref C) fld = some none) (hps : ps.length = 2)
    (hb : defBody st = [.Expr (.Call (.Attribute (.Call (.Name "super" p0) [] [] p1) "__init__" p2) [e1] [] p3) p4, st2])
    (he : ∀ (A : Around) (outer : List Env) (s : Shared) (H : Hp) (xe : Value → Shared → Prop), ∃ te, PE (cxS P w K mg base ps (supEnv qual (defScope st) s.heap.objs.size f cda cc) A outer s H xe) e1 te ∧ ∀ a n H, okMsg n → te [some (.ref a), some (.int n)] H fun v H2 => ∃ t, [v] = [V.str t] ∧ H2 = H)
    (h2 : ∀ (A : Around) (outer : List Env) (s : Shared) (H : Hp) (xe : Value → Shared → Prop), PS (cxS P w K mg base ps (supEnv qual (defScope st) s.heap.objs.size f cda cc) A outer s H xe) st2 (tOst K fld (tVar 0) (tVar 1)))
    (hst : ∀ (s : Shared), starEach [e1] (supEnv qual (defScope st) s.heap.objs.size f cda cc) = [(false, eval e1 (supEnv qual (defScope st) s.heap.objs.size f cda cc))])
    (ht : ∀ (s : Shared), ∃ pl : Sem Bool, eval (.Call (.Attribute (.Call (.Name "super" p0) [] [] p1) "__init__" p2) [e1] [] p3) (supEnv qual (defScope st) s.heap.objs.size f cda cc) = (do
      let ov ← attributeBase (.Call (.Name "super" p0) [] [] p1) "__init__" (supEnv qual (defScope st) s.heap.objs.size f cda cc) (eval (.Call (.Name "super" p0) [] [] p1) (supEnv qual (defScope st) s.heap.objs.size f cda cc))
      standAt p2.atName
      let (g, first) ← holding [ov] (getMethod ov "__init__" pl)
      callWith p3 g first (backTo p3 (starEach [e1] (supEnv qual (defScope st) s.heap.objs.size f cda cc))) []))
    (hsw : ∀ (s : Shared), swapsWith (.Call (.Attribute (.Call (.Name "super" p0) [] [] p1) "__init__" p2) [e1] [] p3) none p4.line (supEnv qual (defScope st) s.heap.objs.size f cda cc) = pure false) (hint : ∀ (s : Shared), interactive (supEnv qual (defScope st) s.heap.objs.size f cda cc) = false) :
    FnOk P w K mg base (L2.CX P w) (k + 1) f fd ps (spX K C fld) := by
  refine ⟨fun vs H Q E ⟨a, n, e, _⟩ => by rw [e, hps]; rfl, fun A outer s H args us vs Q E hr e0 hbnd r hsp => ?_⟩
  obtain ⟨a, n, ev, hlog, ea, hq⟩ := hsp
  subst ev
  have hus : us.length = ps.length := by rw [← r.length, hps]; rfl
  have KX : K.In s.heap := e0.mod.kin.keeps fun b o e => (e0.bs b o e).1
  have lim : s.heap.NoLimit := e0.mod.nolimit.keeps fun b o e => (e0.bs b o e).1
  obtain ⟨oc, od, kV, doc, pm, an, ct, osl, hfd, hf, hcd⟩ := S.fn
  have S' := S
  subst hfd
  refine ks_codeAny_call_defAt (fd := PySem.W.ksFn "__init__" qual (defArgs st) (defBody st) (defScope st) .none kV doc pm an (.ref cda) ct cc) (body := defBody st) hr.depth (KX _ _ hf) rfl lim (PySem.W.codeRec_of KX hcd) rfl hbnd sc.cells (fun y hy => sc.loc _ (List.of_mem_zip hy).1) (fun h1 hn hk => ?_) sc.co sc.gen sc.kind
  have I : Inv (cxS P w K mg base ps (supEnv qual (defScope st) s.heap.objs.size f cda cc) A outer s H (fun e s' => wpAny (model P w) (A.deeper (supEnv qual (defScope st) s.heap.objs.size f cda cc)) (leaving (supEnv qual (defScope st) s.heap.objs.size f cda cc) e) (fun _ s'' => L2.CX P w outer H s E e s'') (fun e' s'' => L2.CX P w outer H s E e' s'') s')) [] _ H { s with heap := h1, toks := s.toks + (ps.zip us).length } := inv_sup S' sc hr.hd e0 r hus hn hk
  rw [hb]
  obtain ⟨te, hte, hv⟩ := he A outer s H _
  obtain ⟨pl, ht⟩ := ht s
  refine ks_wpAt_execs_cons (sup_stmt (pl := pl) S' sc T I rfl ea hte (hv a n H hlog) (fun s2 I2 => ?_) (hst s) ht (hsw s) (hint s))
  refine wpAt_of_wpAny ?_
  refine wpAny_mono ((pss_one (h2 A outer s H _)).run [] s2 _ H { nx := fun _ H' => Q .non H', rt := Q } I2 ⟨_, rfl, _, rfl, a, C, rfl, T, hno, .inl ⟨ea, fun dx h1 h2 => hq dx h1 h2⟩⟩) (fun fl s' hs => ?_) fun e s' hs => hs
  cases fl with
  | ret u =>
    obtain ⟨v, σ', H', J, rv, q⟩ := hs
    exact ⟨v, H', J.os, J.bare, J.base, J.hok, rv, q⟩
  | next =>
    obtain ⟨σ', H', J, q⟩ := hs
    exact ⟨.non, H', J.os, J.bare, J.base, J.hok, rfl, q⟩
  | brk =>
    obtain ⟨_, _, _, q⟩ := hs
    exact False.elim q
  | cont =>
    obtain ⟨_, _, _, q⟩ := hs
    exact False.elim q
end
end DL
end
section
set_option Elab.async false
set_option linter.all false
set_option maxRecDepth 100000
set_option maxHeartbeats 4000000
namespace DL
open PySem PySem.Spec PyProof.Rows L2

theorem HR.agree {G : GE} {h : MH} {H H' : Hp} {W : Wd} (r : HR G h H W) (k : ∀ b u, H b = some u → H' b = some u) : HR G h H' W :=
  ⟨fun b u e => k b u (r.fz b u e), r.len, r.nd, r.nf, fun n o e => by
    obtain ⟨a, ho, e1, e2, e3⟩ := r.ob n o e
    exact ⟨a, ho, e1, k _ _ e2, e3⟩⟩

section
variable {X : Cx} {T : Tg} {Wx : WX} {a b e : Expr} {es : List Expr} {ca cb : Sl → MH → ER D} {cs : Sl → MH → ER (List D)} {s1 : Sl → MH → SR} {pos p pos' : Pos} {k i : Nat} {x : Str}
/-- raise C(n), C's __init__ keeping n as the field fld -/
def cRaise (c : Nat) (fld : Str) (cs : Sl → MH → ER (List D)) : Sl → MH → SR := fun ds h => (cs ds h).bindS ds fun xs h1 => match xs with
  | [.int n] => if okMsg n then .exc ⟨c, [(fld, .int n)]⟩ ds h1 else .bad
  | _ => .bad
theorem ms_raise {c : Nat} {fI : Addr} {fld : Str} {fd : FuncData} {ps : List Str} (O : OexC X.K (T.ca c)) (iC : PySem.W.findIn X.K (.ref (T.ca c)) "__init__" = some (some (.ref fI))) (tI : PySem.W.typeIn X.K (.ref fI) = some (.type "function"))
    (F : FnOk X.prog X.w X.K X.mg X.base (L2.CX X.prog X.w) k fI fd ps (spX X.K (T.ca c) fld)) (hr : Room (k + 1) X.A) (hb : Binds X.K fd ps []) (hm : X.mg x = some (.ref (T.ca c))) (hc : X.calm = true) (tk : Takes X Wx) (ha : PA X (e :: es) (tA (ge X T) Wx cs))
    (hg : Gl X x := by rfl) (hdb : (x == ("__debug__" : Str)) = false := by decide) (he : starEach (e :: es) X.env = (false, eval e X.env) :: starEach es X.env := by rfl) (hpl : (backTo pos (starEach es X.env)).any (·.1) = false := by rfl) :
    PS X (.Raise (some (.Call (.Name x p) (e :: es) [] pos)) none pos') (tS (ge X T) Wx (cRaise c fld cs)) := by
  refine PS.weak (ps_raise hc tk (pmk_oex O iC tI F hr hb .nil passL hg hm ha hdb he hpl)) fun D σ H h => ?_
  obtain ⟨W0, ds, h0, f0, r0, p0⟩ := h
  refine post_bindS f0 r0 p0 fun W h xs vs H1 l r rs p => ?_
  have f := f0.up l
  split at p
  · rename_i n
    split at p
    · rename_i hn
      cases rs with
      | cons r1 rn =>
        cases r1
        cases rn
        refine ⟨by simp, fun a ha => ⟨a, n, rfl, hn, upd_same, fun dx hdx hne => ⟨rfl, dx, [(fld, .int n)], upd_same, by rw [upd_ne hne, upd_same], ?_, ?_⟩⟩⟩
        · rw [upd_ne hne] at hdx
          exact hdx
        · rw [upd_ne hne] at hdx
          refine p _ _ σ _ W (.refl W) f (r.agree fun b u q => ?_) ⟨rfl, .inr ⟨dx, [(fld, .int n)], rfl, upd_same, .cons ⟨rfl, .int n⟩ .nil⟩⟩
          have hba : b ≠ a := ne_of_none q ha
          have hbd : b ≠ dx := ne_of_none q hdx
          rw [upd_ne hbd, L2.del_ne hba, upd_ne hba, upd_ne hbd, upd_ne hba]
          exact q
    · exact p.elim
  · exact p.elim

/-! ### try .. except C as e: return .. e.fld -/
def cTry (P : Nat → Option Bool) (i : Nat) (cb : Sl → MH → SR) (cs : Xn → Sl → MH → SR) : Sl → MH → SR := fun ds h => match cb ds h with
  | .exc x ds' h' => (match P x.c with
    | some true => if i < ds'.length then cs x (ds'.set i none) h' else .bad
    | some false => .exc x ds' h'
    | none => .bad)
  | r => r
/-- return (s, e.fld) | return e.fld -/
def xTup (c : Nat) (s fld : Str) : Xn → Sl → MH → SR := fun x ds h => match x.fs with
  | [(f, .int n)] => if x.c = c ∧ f = fld then .ret (.tup [.str s, .int n]) h else .bad
  | _ => .bad
def xFld (c : Nat) (fld : Str) : Xn → Sl → MH → SR := fun x ds h => match x.fs with
  | [(f, .int n)] => if x.c = c ∧ f = fld then .ret (.int n) h else .bad
  | _ => .bad
theorem rx_fld {G : GE} {W : Wd} {x : Xn} {cls : Value} {dd : Option Addr} {H : Hp} {f : Str} {n : Int} (r : RX G W x cls dd H) (e : x.fs = [(f, .int n)]) : cls = .ref (G.T.ca x.c) ∧ ∃ d, dd = some d ∧ H d = some (.xd [(f, .int n)]) := by
  obtain ⟨h1, h2⟩ := r
  refine ⟨h1, ?_⟩
  rw [e] at h2
  rcases h2 with ⟨h2, _⟩ | ⟨a, gs, h2, h3, h4⟩
  · cases h2
  · cases h4 with
    | @cons _ q _ _ h5 h6 =>
      cases h6
      obtain ⟨f', v⟩ := q
      obtain ⟨q1, q2⟩ := h5
      have q1 : f = f' := q1
      subst q1
      cases q2
      exact ⟨a, h2, h3⟩
theorem ms_try_tup {c : Nat} {P : Nat → Option Bool} {cv : Value} {n : Str} {s fld : Str} {j k2 : Nat} {body : List Stmt} {np p1 p2 p3 p4 p5 : Pos} {cbody : Sl → MH → SR}
    (fm : Fram X) (hN : X.N.Nodup) (hc : Names X x cv) (tk : Takes X Wx) (O : XfC X.K (T.ca c)) (hno : PySem.W.findIn X.K (.ref (T.ca c)) fld = some none) (hP : ∀ c b, P c = some b → PySem.W.exmOne X.K (.ref (T.ca c)) cv = some b)
    (hb : ∀ (W : WX) (pn : List (Addr × Obj)) (xe : Value → Shared → Prop), Takes (X.tr pn xe) W → PassesOwn (model X.prog X.w) X.A X.env xe → PSs (X.tr pn xe) body (tS (ge X T) W cbody))
    (hi : X.N[i]? = some n := by rfl) (hln : X.env.kindOf n = some .local := by rfl) (hdb : (n == ("__debug__" : Str)) = false := by decide) (hcd : (n == ("__classdict__" : Str)) = false := by decide) (hba : attributeBase (.Name n p1) fld X.env (eval (.Name n p1) X.env) = eval (.Name n p1) X.env := by rfl)
    (st1 : starEach [.Constant (.str s) j p2, .Attribute (.Name n p1) fld p3] X.env = (false, eval (.Constant (.str s) j p2) X.env) :: starEach [.Attribute (.Name n p1) fld p3] X.env := by rfl)
    (st2 : starEach [.Attribute (.Name n p1) fld p3] X.env = (false, eval (.Attribute (.Name n p1) fld p3) X.env) :: starEach [] X.env := by rfl) :
    PS X (.Try body [.ExceptHandler (some (.Name x np)) (some n) [.Return (some (.Tuple [.Constant (.str s) j p2, .Attribute (.Name n p1) fld p3] k2 p4)) p5] pos'] [] [] pos) (tS (ge X T) Wx (cTry P i cbody (xTup c s fld))) := by
  refine PS.weak (ps_try_as (i := i) (tb := fun W => tS (ge X T) W cbody) fm.stk fm.fr hN hi hln hc tk hb fun a oe cls d pn hz hf => pss_one (ps_ret (pe_tup (pa_cons pe_str (pa_cons (pe_xf (C := T.ca c) O hno hz hf (pe_var (i := i) hi (.inl hln) hdb hcd) hba) pa_nil st2) st1)))) fun D σ H h => ?_
  obtain ⟨W, ds, h, f0, r, p⟩ := h
  refine ⟨W, ds, h, f0, r, ?_⟩
  unfold cTry at p
  cases e : cbody ds h with
  | nxt ds' h' => rw [e] at p; exact p
  | ret d h' => rw [e] at p; exact p
  | brk d h' => rw [e] at p; exact p
  | cnt d h' => rw [e] at p; exact p
  | bad => rw [e] at p; exact p
  | exc x' ds' h' =>
    rw [e] at p
    dsimp only at p
    intro cls dd σ' H' W' l f' r' rx
    cases eP : P x'.c with
    | none => rw [eP] at p; exact p.elim
    | some b =>
      rw [eP] at p
      have hx := hP _ _ eP
      have hcls := rx.1
      refine ⟨b, by rw [hcls]; exact hx, fun eb a ha => ?_, fun eb => ?_⟩
      · subst eb
        dsimp only at p
        split at p
        rotate_left
        · exact p.elim
        rename_i hil
        dsimp only [xTup] at p
        split at p
        · rename_i f n' ef
          split at p
          · rename_i hcf
            obtain ⟨q1, d1, q2, q3⟩ := rx_fld rx ef
            refine ⟨.ref a, ?_, rfl, by rw [q1, hcf.1], d1, _, .int n', q2, q3, ?_, ?_, fun pp hpp => ?_⟩
            · rw [List.getElem?_set_self]
              rw [← f'.1]
              exact hil
            · rw [hcf.2]; simp
            · show 2 ≤ sizeLine
              rw [sizeLine_eq]; omega
            · obtain ⟨l2, r2⟩ := r'.add hpp (.tup [.str s, .int n'])
              exact p _ _ _ (l.trans l2) r2 (.tup (Evl.st_of upd_same) (.cons (.str s) (.cons (.int n') .nil)))
          · exact p.elim
        · exact p.elim
      · subst eb
        exact p cls dd σ' H' W' l f' r' rx
end
end DL
end
section
set_option Elab.async false
set_option linter.all false
set_option maxRecDepth 100000
set_option maxHeartbeats 4000000
namespace DL
open PySem PySem.Spec PyProof.Rows L2

/-! ### the rule for a def, with all that the rules of its body ask -/
theorem df_mk2 {K : PySem.W.Frag} {P : Program} {w : World} {T : Tg} {mg : Str → Option Value} {base : Heap} {k i : Nat} {x qual : Str} {st : Stmt} {fd : FuncData} {N ps : List Str} {c : Sl → MH → SR}
    (F : Fun K x qual st (T.fa i) fd) (b : Binds K fd ps []) (S : FnScope N ps (defScope st))
    (hbody : ∀ (cdv : Value) (A : Around) (outer : List Env) (s : Shared) (H : Hp) (E : XK), (cxOf (L2.CX P w) P w K mg base N qual (defScope st) (T.fa i) cdv A outer s H E).N.Nodup → Room k (cxOf (L2.CX P w) P w K mg base N qual (defScope st) (T.fa i) cdv A outer s H E).A → Takes (cxOf (L2.CX P w) P w K mg base N qual (defScope st) (T.fa i) cdv A outer s H E) (fun cls d _ H' => E cls d H') →
      Fram (cxOf (L2.CX P w) P w K mg base N qual (defScope st) (T.fa i) cdv A outer s H E) → PassesOwn (model (cxOf (L2.CX P w) P w K mg base N qual (defScope st) (T.fa i) cdv A outer s H E).prog (cxOf (L2.CX P w) P w K mg base N qual (defScope st) (T.fa i) cdv A outer s H E).w) (cxOf (L2.CX P w) P w K mg base N qual (defScope st) (T.fa i) cdv A outer s H E).A (cxOf (L2.CX P w) P w K mg base N qual (defScope st) (T.fa i) cdv A outer s H E).env (cxOf (L2.CX P w) P w K mg base N qual (defScope st) (T.fa i) cdv A outer s H E).xe →
      (cxOf (L2.CX P w) P w K mg base N qual (defScope st) (T.fa i) cdv A outer s H E).A.units + 64 < cLine →
      PSs (cxOf (L2.CX P w) P w K mg base N qual (defScope st) (T.fa i) cdv A outer s H E) (defBody st) (tS ⟨K, P, w, T⟩ (fun cls d _ H' => E cls d H') c)) :
    DF ⟨K, P, w, T⟩ mg base (k + 1) i (cDef ps.length N.length c) :=
  df_mk F b S fun cdv A outer s H E hr => hbody cdv A outer s H E S.nd hr (takes_of rfl rfl rfl rfl) ⟨rfl, rfl⟩ (passes_of rfl) hr.units
theorem df_mkD2 {K : PySem.W.Frag} {P : Program} {w : World} {T : Tg} {mg : Str → Option Value} {base : Heap} {k i : Nat} {x qual : Str} {st : Stmt} {fd : FuncData} {N ps : List Str} {c : Sl → MH → SR} {ds : List Value} {dvs : List V} {dd : List D}
    (F : FunD K x qual (defArgs st) (defBody st) (defScope st) dvs [] (T.fa i) fd) (b : Binds K fd ps ds) (hd : Vals dvs ds) (rd : ∀ W, RDs ⟨K, P, w, T⟩ W dd dvs) (S : FnScope N ps (defScope st))
    (hbody : ∀ (cdv : Value) (A : Around) (outer : List Env) (s : Shared) (H : Hp) (E : XK), (cxOf (L2.CX P w) P w K mg base N qual (defScope st) (T.fa i) cdv A outer s H E).N.Nodup → Room k (cxOf (L2.CX P w) P w K mg base N qual (defScope st) (T.fa i) cdv A outer s H E).A → Takes (cxOf (L2.CX P w) P w K mg base N qual (defScope st) (T.fa i) cdv A outer s H E) (fun cls d _ H' => E cls d H') →
      Fram (cxOf (L2.CX P w) P w K mg base N qual (defScope st) (T.fa i) cdv A outer s H E) → PassesOwn (model (cxOf (L2.CX P w) P w K mg base N qual (defScope st) (T.fa i) cdv A outer s H E).prog (cxOf (L2.CX P w) P w K mg base N qual (defScope st) (T.fa i) cdv A outer s H E).w) (cxOf (L2.CX P w) P w K mg base N qual (defScope st) (T.fa i) cdv A outer s H E).A (cxOf (L2.CX P w) P w K mg base N qual (defScope st) (T.fa i) cdv A outer s H E).env (cxOf (L2.CX P w) P w K mg base N qual (defScope st) (T.fa i) cdv A outer s H E).xe →
      (cxOf (L2.CX P w) P w K mg base N qual (defScope st) (T.fa i) cdv A outer s H E).A.units + 64 < cLine →
      PSs (cxOf (L2.CX P w) P w K mg base N qual (defScope st) (T.fa i) cdv A outer s H E) (defBody st) (tS ⟨K, P, w, T⟩ (fun cls d _ H' => E cls d H') c)) :
    DF ⟨K, P, w, T⟩ mg base (k + 1) i (fun xs h => cDef ps.length N.length c (xs ++ dd) h) := by
  have f : FnOk P w K mg base (L2.CX P w) (k + 1) (T.fa i) fd ps (spD ⟨K, P, w, T⟩ (cDef ps.length N.length c)) :=
    F.ok S (fun vs H Q E h => spD_len h) fun cdv A outer s H vs Q E hr h => ⟨_, hbody cdv A outer s H E S.nd hr (takes_of rfl rfl rfl rfl) ⟨rfl, rfl⟩ (passes_of rfl) hr.units, tS_def h⟩
  exact df_mkD (m := cDef ps.length N.length c) f b hd rd
theorem df_bad {G : GE} {mg : Str → Option Value} {base : Heap} {k i : Nat} : DF G mg base k i (fun _ _ => .bad) := fun A outer s H us vs Q E hr e0 r hs => by
  obtain ⟨W, ds, h, ra, rh, p⟩ := hs
  exact p.elim
theorem exm_own {K : PySem.W.Frag} {S : Addr} (h1 : PySem.W.subIn K (.ref S) (.type "BaseException") = some true) (h2 : PySem.W.isClsIn K S = true) (h3 : PySem.W.typeIn K (.ref S) = some (.type "type")) (h4 : PySem.W.subIn K (.ref S) (.ref S) = some true) :
    PySem.W.exmOne K (.ref S) (.ref S) = some true := by
  have e1 : (PySem.W.subIn K (.ref S) (.type "BaseException") == some true) = true := by rw [h1] <;> rfl
  have e2 : ((PySem.W.clsIn K S).isSome && PySem.W.typeIn K (.ref S) == some (.type "type")) = true := by
    have h2' : (PySem.W.clsIn K S).isSome = true := h2
    rw [h2', h3] <;> rfl
  show (if (PySem.W.subIn K (.ref S) (.type "BaseException") == some true) = true then (if ((PySem.W.clsIn K S).isSome && PySem.W.typeIn K (.ref S) == some (.type "type")) = true then PySem.W.subIn K (.ref S) (.ref S) else none) else none) = some true
  rw [if_pos e1, if_pos e2, h4]
theorem bo_len : bootBuiltins "len" = some (.builtin "len") := by decide +kernel
theorem bo_abs : bootBuiltins "abs" = some (.builtin "abs") := by decide +kernel
theorem bo_min : bootBuiltins "min" = some (.builtin "min") := by decide +kernel
theorem bo_max : bootBuiltins "max" = some (.builtin "max") := by decide +kernel
theorem bo_all : bootBuiltins "all" = some (.builtin "all") := by decide +kernel
theorem bo_any : bootBuiltins "any" = some (.builtin "any") := by decide +kernel
theorem bo_repr : bootBuiltins "repr" = some (.builtin "repr") := by decide +kernel
theorem bo_sum : bootBuiltins "sum" = some (.builtin "sum") := by decide +kernel
theorem bo_sorted : bootBuiltins "sorted" = some (.builtin "sorted") := by decide +kernel
theorem bo_int : bootBuiltins "int" = some (.type "int") := by decide +kernel
theorem bo_bool : bootBuiltins "bool" = some (.type "bool") := by decide +kernel
theorem bo_str : bootBuiltins "str" = some (.type "str") := by decide +kernel
theorem bo_tuple : bootBuiltins "tuple" = some (.type "tuple") := by decide +kernel
theorem bo_list : bootBuiltins "list" = some (.type "list") := by decide +kernel

/-! ### the law's own def, run by the claim's caller -/
abbrev envL (qual : Str) (scope : Scope) (s : Shared) (f : Addr) (cdv : Value) : Env := envOfC qual scope s.heap.objs.size f cdv
/-- it says True for the script ns -/
def LawTrue (m : Mi) (ns : List Int) : Prop := ∃ h, m [.scr ns] [] = .val (.bl true) h
theorem law_run {P : Program} {w : World} {K : PySem.W.Frag} {T : Tg} {mg : Str → Option Value} {base : Heap} {k : Nat} {f : Addr} {x qual : Str} {st : Stmt} {fd : FuncData} {N ps : List Str} {c : Sl → MH → SR} {s : Shared} {H : Hp} {us : List Value} {vs : List V} {Q : VK} {E : XK}
    (F : Fun K x qual st f fd) (S : FnScope N ps (defScope st)) (hr : Room (k + 1) callerA) (e0 : Env0 P w K mg base callerA [] s H) (hbnd : BindsTo s fd ⟨us, []⟩ (ps.zip us)) (r : Vals vs us)
    (hsp : spD ⟨K, P, w, T⟩ (cDef ps.length N.length c) vs H Q E)
    (hbody : ∀ (cdv : Value), Room k (callerA.deeper (envL qual (defScope st) s f cdv)) →
      PSs (cxOf (L2.CX P w) P w K mg base N qual (defScope st) f cdv callerA [] s H E) (defBody st) (tS ⟨K, P, w, T⟩ (fun cls d _ H' => E cls d H') c)) :
    codeAny (model P w) callerA (.call (.ref f) ⟨us, []⟩) (CR (L2.CX P w) [] P w H s Q E) s := by
  have hl := spD_len hsp
  have KX : K.In s.heap := e0.mod.kin.keeps fun b o e => (e0.bs b o e).1
  have lim : s.heap.NoLimit := e0.mod.nolimit.keeps fun b o e => (e0.bs b o e).1
  obtain ⟨oc, od, kV, doc, pm, an, cdv, ct, osl, rfl, lk, hcd⟩ := F.ex
  have hkind : ∀ y ∈ ps.zip us, (defScope st).names.lookup y.1 = some .local ∨ ((defScope st).names.lookup y.1 = some .cell ∧ ((cellsFrom (s.heap.objs.size + 1) (defScope st).names []).lookup y.1).isSome = true) := fun ⟨n, v⟩ hy => by
    rcases S.par n (List.of_mem_zip hy).1 with q | q
    · exact .inl q
    · exact .inr ⟨q, PySem.W.cellsFrom_some _ _ _ (.inl q)⟩
  refine codeAny_call_function hr.depth (KX _ _ lk) rfl S.co S.gen rfl (PySem.W.codeRec_of KX hcd) (hbnd _ _ _ _ ?_)
  refine wpAny_newFunctionEnv_cells S.kind hkind fun env he s1 x => ?_
  subst he
  refine ⟨lim.keeps x.toInCall.keep, codeAny_func ?_⟩
  have I : Inv (cxOf (L2.CX P w) P w K mg base N qual (defScope st) f cdv callerA [] s H E) [] (start N vs) H s1 := inv_start S hr.hd e0 hl r x
  refine wpAny_mono ((hbody cdv (hr.deeper _)).run [] s1 (L2.start N vs) H _ I (tS_def hsp)) (fun fl s' hs => ?_) fun e s' hs => hs
  have fin : ∀ {σ' : L2.St} {H' : Hp} {v : V} {u : Value}, Inv (cxOf (L2.CX P w) P w K mg base N qual (defScope st) f cdv callerA [] s H E) [] σ' H' s' → RelV v u → Q v H' → CE [] P w H s Q u s' :=
    fun {σ' H' v u} J rv q => ⟨v, H', J.os, J.bare, J.base, J.hok, rv, q⟩
  cases fl with
  | ret u =>
    obtain ⟨v, σ', H', J, rv, q⟩ := hs
    exact fin J rv q
  | next =>
    obtain ⟨σ', H', J, q⟩ := hs
    exact fin (v := V.non) (u := Value.none) J rfl q
  | brk =>
    obtain ⟨_, _, _, q⟩ := hs
    exact False.elim q
  | cont =>
    obtain ⟨_, _, _, q⟩ := hs
    exact False.elim q
/-- what is asked of the call, at the caller -/
def LawOk (P : Program) (w : World) (K : PySem.W.Frag) (mg : Str → Option Value) (T : Tg) (fa : Addr) (m : Mi) : Prop :=
  ∀ (base : Heap) (s : Shared) (H : Hp) (u : Value) (v : V) (Q : VK) (E : XK), K.In base → base.Ns mainGlobals mg → Env0 P w K mg base callerA [] s H → Vals [v] [u] → spD ⟨K, P, w, T⟩ m [v] H Q E → codeAny (model P w) callerA (.call (.ref fa) ⟨[u], []⟩) (CR (L2.CX P w) [] P w H s Q E) s
theorem law_end {P : Program} {w : World} {K : PySem.W.Frag} {T : Tg} {mg mb : Str → Option Value} {fa a : Addr} {m : Mi} {s₁ : Shared} {vs : List Value} {ns : List Int}
    (KX : K.In s₁.heap) (hns : s₁.heap.Ns mainGlobals mg) (hb : s₁.heap.Ns builtinsNs mb) (hbb : ∀ x : Str, x ≠ "__name__" → mb x = bootBuiltins x) (hlim : s₁.heap.NoLimit) (hg : s₁.gens = #[])
    (ha : s₁.heap.get? a = some { cls := .type "list", data := .seq vs.toArray }) (hi : IntsAre vs ns) (hl : ns.length ≤ sizeLine) (F : LawOk P w K mg T fa m) (ht : LawTrue m ns) :
    codeAny (model P w) callerA (.call (.ref fa) ⟨[.ref a], []⟩) (fun r s' => r = .ok (.ret (.bool true)) ∧ OldK s₁.heap s'.heap ∧ s'.os = s₁.os ∧ AllBare s'.gens) s₁ := by
  have rv := vals_ints hi
  have lenV := hi.length
  obtain ⟨hm, ht⟩ := ht
  have core : ∀ H : Hp, Only H → SqL K H a (ns.map V.int) → HOk P w H s₁.heap → (∀ b, H b ≠ none → b = a) → (H a ≠ none → K.lookup a = none) →
      codeAny (model P w) callerA (.call (.ref fa) ⟨[.ref a], []⟩) (fun r s' => r = .ok (.ret (.bool true)) ∧ OldK s₁.heap s'.heap ∧ s'.os = s₁.os ∧ AllBare s'.gens) s₁ := by
    intro H hO hS hok hA hK
    have base_of : ∀ {b : Addr} {o : Obj}, s₁.heap.get? b = some o → H b = none → (hidT s₁.heap H).get? b = some o := fun e n => hidT_get e n
    have noA : ∀ {b : Addr} {o : Obj} {es : Array DictEntry} {ep : Nat}, s₁.heap.get? b = some o → o.data = .dict es ep → H b = none := fun {b o es ep} e d => by
      cases q : H b with
      | none => rfl
      | some u =>
        have e' : b = a := hA b (by rw [q]; simp)
        subst e'
        rw [ha] at e; cases e
        have d' : Data.seq vs.toArray _ = Data.dict es ep := d
        cases d'
    have nsK : ∀ {b : Addr} {m : Str → Option Value}, s₁.heap.Ns b m → (hidT s₁.heap H).Ns b m := fun {b m} ⟨o, es, ep, e, d, r⟩ => ⟨o, es, ep, base_of e (noA e d), d, r⟩
    have hKb : K.In (hidT s₁.heap H) := fun b o e => base_of (KX b o e) (by
      cases q : H b with
      | none => rfl
      | some u =>
        have e' : b = a := hA b (by rw [q]; simp)
        subst e'
        rw [hK (by rw [q]; simp)] at e; cases e)
    have hM : Mod K mg (hidT s₁.heap H) := ⟨hKb, nsK hns, ⟨mb, nsK hb, hbb⟩, let ⟨mc, h1, h2⟩ := hlim; ⟨mc, nsK h1, h2⟩⟩
    have e0 : Env0 P w K mg (hidT s₁.heap H) callerA [] s₁ H := ⟨rfl, hM, fun b o e => of_hidT e, Nat.le_of_eq (hidT_size _ _), trivial, fun b hb => absurd (show b ∈ ([] : List Addr) from hb) (by simp), hok, .of_eq hg⟩
    have hsp : spD ⟨K, P, w, T⟩ m [.ref a] H (fun v _ => v = .bl true) (fun _ _ _ => False) := by
      refine ⟨⟨H, []⟩, [.scr ns], [], .cons (.scr hS) .nil, ⟨Evl.Ex.refl _, rfl, List.nodup_nil, fun b hb => absurd hb (by simp), fun n o e => by simp at e⟩, ?_⟩
      rw [ht]
      intro v H2 W2 l2 r2 rv2
      cases rv2
      rfl
    refine codeAny_mono (F _ s₁ H (.ref a) (.ref a) _ _ hKb (nsK hns) e0 (.cons rfl .nil) hsp) fun r s' h => ?_
    cases r with
    | error e =>
      obtain ⟨_, _, _, _, _, _, _, _, _, _, _, _, z⟩ := h
      exact z.elim
    | ok fl =>
      cases fl with
      | next => exact False.elim h
      | brk => exact False.elim h
      | cont => exact False.elim h
      | ret u =>
        obtain ⟨v, H', os, bare, un, hok', r', q⟩ := h
        have q' : v = .bl true := q
        subst q'
        obtain rfl : u = Value.bool true := r'
        refine ⟨rfl, OldK.of_keep fun b o e => ?_, os, bare⟩
        cases q : H b with
        | none => exact un.keep b o e q (by intro z; exact absurd (show b ∈ ([] : List Addr) from z) (by simp)) (by simp)
        | some u =>
          rcases hO b with z | ⟨ob, xs, z⟩
          · rw [q] at z; cases z
          · have z2 := un.frzs b ob _ z
            obtain ⟨e1, _⟩ := hok b _ z
            obtain ⟨e2, _⟩ := hok' b _ z2
            rw [e] at e1; cases e1
            exact e2
  cases hk : K.lookup a with
  | some o =>
    have e := KX a o hk
    rw [ha] at e
    cases e
    refine core (fun _ => none) (fun _ => .inl rfl) (.inr ⟨_, vs.toArray, _, hk, rfl, rfl, rfl, by rw [List.size_toArray, lenV]; exact hl, by simpa using rv⟩) (fun b u z => by have z' : (none : Option HO) = some u := z; cases z') (fun b z => absurd rfl z) fun z => absurd rfl z
  | none =>
    refine core (fun b => if b = a then some (.frz { cls := .type "list", data := .seq vs.toArray } (.lst (ns.map V.int))) else none) (fun b => ?_) (.inl (.inr ⟨{ cls := .type "list", data := .seq vs.toArray }, if_pos rfl⟩)) (fun b u z => ?_) (fun b z => ?_) fun _ => hk
    · by_cases hb : b = a
      · exact .inr ⟨_, _, if_pos hb⟩
      · exact .inl (if_neg hb)
    · by_cases hb : b = a
      · have z' := (if_pos hb).symm.trans z
        cases z'
        subst hb
        exact ⟨ha, by rw [List.length_map]; exact hl, vs, _, rv, ha⟩
      · have z' := (if_neg hb).symm.trans z
        cases z'
    · by_cases hb : b = a
      · exact hb
      · exact absurd (if_neg hb) z
/-- the goal that the head leaves, by the law's mirror -/
theorem walk_dl {l : PySem.W.OpenLaw} {n : Nat} {q : Program} {loose : List Str} {XP : (Str → Option Value) → Heap → Prop} {YP : World → Heap → Prop} {d : DefRec} {K : Params → PySem.W.Frag} {m : Mi}
    (hn : l.most = some n) (hn2 : n ≤ sizeLine) (hdf : d.params.defaults = [])
    (hY : ∀ (w : World) (h : Heap), YP w h → (K w.params).In h)
    (F : ∀ (w : World) (mg : Str → Option Value) (fa : Addr) (h : Heap), (K w.params).In h → h.Ns mainGlobals mg → mg d.name = some (.ref fa) → ∃ T : Tg, LawOk l.prog w (K w.params) mg T fa m)
    (ht : ∀ ns : List Int, ns.length ≤ n → LawTrue m ns) :
    PySem.W.WalkO q loose XP YP l.row.toRowW d [] (fun f vs => PySem.call f vs) := by
  refine Att.attach_call hn hdf fun w s₀ s₁ mg mb fa o pm cd doc a vs ns G Y ho hd hcd hmg hobj hints hlen hg => ?_
  have KX := hY w _ Y
  obtain ⟨T, hF⟩ := F w mg fa _ KX G.T.g hmg
  exact law_end KX G.T.g G.T.b G.T.builtins G.T.nolimit hg hobj hints (Nat.le_trans hlen hn2) hF (ht ns hlen)
end DL
end
section
set_option Elab.async false
set_option linter.all false
set_option maxRecDepth 100000
set_option maxHeartbeats 4000000
/-! Plain: how the mirrors' combinators run. -/
namespace DL
open PySem PySem.Spec L2

section
variable {α β : Type}
@[simp] theorem bv {a : α} {h : MH} {f : α → MH → ER β} : (ER.val a h).bind f = f a h := rfl
@[simp] theorem bx {x : Xn} {h : MH} {f : α → MH → ER β} : (ER.exc x h).bind f = .exc x h := rfl
@[simp] theorem bsv {a : α} {h : MH} {ds : Sl} {f : α → MH → SR} : (ER.val a h).bindS ds f = f a h := rfl
@[simp] theorem bsx {x : Xn} {h : MH} {ds : Sl} {f : α → MH → SR} : (ER.exc x h).bindS ds f = .exc x ds h := rfl
@[simp] theorem sbn {ds : Sl} {h : MH} {f : Sl → MH → SR} : (SR.nxt ds h).bind f = f ds h := rfl
@[simp] theorem sbr {d : D} {h : MH} {f : Sl → MH → SR} : (SR.ret d h).bind f = .ret d h := rfl
@[simp] theorem sbx {x : Xn} {ds : Sl} {h : MH} {f : Sl → MH → SR} : (SR.exc x ds h).bind f = .exc x ds h := rfl
@[simp] theorem sbb {ds : Sl} {h : MH} {f : Sl → MH → SR} : (SR.brk ds h).bind f = .brk ds h := rfl
@[simp] theorem ofOs {d : α} {h : MH} : ofO (some d) h = .val d h := rfl
end
/-- a for over what stands as xs all the while -/
theorem for_inv {cur : Cur} {g : Gt} {b : Sl → MH → SR} {xs : List D} (Iv : Nat → Sl → MH → Prop)
    (hs : ∀ i ds h, Iv i ds h → cur h = some xs ∧ ∀ x, xs[i]? = some x → ∃ ds1, g x ds h = some ds1 ∧ ∃ ds' h', b ds1 h = .nxt ds' h' ∧ Iv (i + 1) ds' h') :
    ∀ (k i : Nat) (ds : Sl) (h : MH), k + i = xs.length → Iv i ds h → ∃ ds' h', forR cur xs.length g b k i ds h = .nxt ds' h' ∧ Iv xs.length ds' h'
  | 0, i, ds, h, e, v => by
    obtain ⟨h1, _⟩ := hs i ds h v
    refine ⟨ds, h, ?_, by rw [← e]; simpa using v⟩
    unfold forR
    rw [h1]
    simp
  | k + 1, i, ds, h, e, v => by
    obtain ⟨h1, h2⟩ := hs i ds h v
    have hi : i < xs.length := by omega
    obtain ⟨ds1, h3, ds', h', h4, h5⟩ := h2 xs[i] (List.getElem?_eq_getElem hi)
    obtain ⟨ds2, h6, h7, h8⟩ := for_inv Iv hs k (i + 1) ds' h' (by omega) h5
    refine ⟨ds2, h6, ?_, h8⟩
    unfold forR
    rw [h1]
    simp only [if_true, List.getElem?_eq_getElem hi, h3, h4]
    exact h7
/-- .. as a statement -/
theorem cFor_inv {it : Sl → MH → ER Cur} {g : Gt} {b : Sl → MH → SR} {xs : List D} {cur : Cur} {ds : Sl} {h h1 : MH} (Iv : Nat → Sl → MH → Prop) (e : it ds h = .val cur h1) (h0 : Iv 0 ds h1)
    (hs : ∀ i ds h, Iv i ds h → cur h = some xs ∧ ∀ x, xs[i]? = some x → ∃ ds1, g x ds h = some ds1 ∧ ∃ ds' h', b ds1 h = .nxt ds' h' ∧ Iv (i + 1) ds' h') :
    ∃ ds' h', cFor it g b ds h = .nxt ds' h' ∧ Iv xs.length ds' h' := by
  unfold cFor
  rw [e, bsv, (hs 0 ds h1 h0).1]
  exact for_inv Iv hs _ 0 ds h1 rfl h0
/-- a comprehension over what stands as xs all the while; its list stands at n -/
theorem comp_inv {cur : Cur} {n : Nat} {g : Gt} {t : Sl → MH → ER Bool} {e : Sl → MH → ER D} {dw : Sl} {xs : List D} (Iv : Nat → List D → MH → Prop)
    (hs : ∀ i acc h, Iv i acc h → h[n]? = some (.lst acc) ∧ cur h = some xs ∧ ∀ x, xs[i]? = some x → ∃ ds1, g x dw h = some ds1 ∧ ∃ b h1, t ds1 h = .val b h1 ∧
      if b = true then ∃ y h2, e ds1 h1 = .val y h2 ∧ h2[n]? = some (.lst acc) ∧ acc.length < 100000 ∧ Iv (i + 1) (acc ++ [y]) (h2.set n (.lst (acc ++ [y]))) else Iv (i + 1) acc h1) :
    ∀ (k i : Nat) (acc : List D) (h : MH), k + i = xs.length → Iv i acc h → ∃ acc' h', compR cur xs.length n g t e dw k i h = .val (.ref n) h' ∧ Iv xs.length acc' h'
  | 0, i, acc, h, e, v => by
    obtain ⟨_, h1, _⟩ := hs i acc h v
    refine ⟨acc, h, ?_, by rw [← e]; simpa using v⟩
    unfold compR
    rw [h1]
    simp
  | k + 1, i, acc, h, e, v => by
    obtain ⟨_, h1, h2⟩ := hs i acc h v
    have hi : i < xs.length := by omega
    obtain ⟨ds1, h3, b, hb, h4, h5⟩ := h2 xs[i] (List.getElem?_eq_getElem hi)
    unfold compR
    rw [h1]
    simp only [if_true, List.getElem?_eq_getElem hi, h3, h4, bv]
    cases b with
    | false =>
      simp only [Bool.false_eq_true, if_false] at h5 ⊢
      exact comp_inv Iv hs k (i + 1) acc hb (by omega) h5
    | true =>
      simp only [if_true] at h5 ⊢
      obtain ⟨y, h6, h7, h8, h9, h10⟩ := h5
      rw [h7, bv, h8]
      simp only [h9, if_true]
      exact comp_inv Iv hs k (i + 1) _ _ (by omega) h10

/-! ### steps -/
section
variable {c c' : Sl → MH → ER D} {cs : Sl → MH → ER (List D)} {t t' : Sl → MH → ER Bool} {s1 s2 : Sl → MH → SR} {ds ds' : Sl} {h h1 h2 h3 : MH} {x y z d : D} {xs : List D} {i : Nat} {m : Mi} {k : Bool} {e : Xn} {r : SR} {rd : ER D}
theorem seq_n (e1 : s1 ds h = .nxt ds' h1) (e2 : s2 ds' h1 = r) : cSeq s1 s2 ds h = r := by unfold cSeq; rw [e1]; exact e2
theorem seq_r (e1 : s1 ds h = .ret d h1) : cSeq s1 s2 ds h = .ret d h1 := by unfold cSeq; rw [e1]; rfl
theorem seq_x (e1 : s1 ds h = .exc e ds' h1) : cSeq s1 s2 ds h = .exc e ds' h1 := by unfold cSeq; rw [e1]; rfl
theorem set_n (e1 : c ds h = .val x h1) : cSet i c ds h = .nxt (ds.set i (some x)) h1 := by unfold cSet; rw [e1]; rfl
theorem set_x (e1 : c ds h = .exc e h1) : cSet i c ds h = .exc e ds h1 := by unfold cSet; rw [e1]; rfl
theorem asg_n {g : Gt} (e1 : c ds h = .val x h1) (e2 : g x ds h1 = some ds') : cAsg g c ds h = .nxt ds' h1 := by unfold cAsg; rw [e1, bsv, e2]
theorem ret_n (e1 : c ds h = .val x h1) : cRet c ds h = .ret x h1 := by unfold cRet; rw [e1]; rfl
theorem ret_x (e1 : c ds h = .exc e h1) : cRet c ds h = .exc e ds h1 := by unfold cRet; rw [e1]; rfl
theorem expr_n (e1 : c ds h = .val x h1) : cExpr c ds h = .nxt ds h1 := by unfold cExpr; rw [e1]; rfl
theorem expr_x (e1 : c ds h = .exc e h1) : cExpr c ds h = .exc e ds h1 := by unfold cExpr; rw [e1]; rfl
theorem ifs_t (e1 : t ds h = .val true h1) (e2 : s1 ds h1 = r) : cIfS t s1 s2 ds h = r := by unfold cIfS; rw [e1]; exact e2
theorem ifs_f (e1 : t ds h = .val false h1) (e2 : s2 ds h1 = r) : cIfS t s1 s2 ds h = r := by unfold cIfS; rw [e1]; exact e2
theorem ife_t (e1 : t ds h = .val true h1) (e2 : c ds h1 = rd) : cIf t c c' ds h = rd := by unfold cIf; rw [e1]; exact e2
theorem ife_f (e1 : t ds h = .val false h1) (e2 : c' ds h1 = rd) : cIf t c c' ds h = rd := by unfold cIf; rw [e1]; exact e2
theorem cB_n (e1 : c ds h = .val (.bl k) h1) : cB c ds h = .val k h1 := by unfold cB; rw [e1]; rfl
theorem not_n (e1 : t ds h = .val k h1) : cNot t ds h = .val (!k) h1 := by unfold cNot; rw [e1]; rfl
theorem and_t {rb : ER Bool} (e1 : t ds h = .val true h1) (e2 : t' ds h1 = rb) : cAnd t t' ds h = rb := by unfold cAnd; rw [e1]; exact e2
theorem and_f (e1 : t ds h = .val false h1) : cAnd t t' ds h = .val false h1 := by unfold cAnd; rw [e1]; rfl
theorem or_t (e1 : t ds h = .val true h1) : cOr t t' ds h = .val true h1 := by unfold cOr; rw [e1]; rfl
theorem or_f {rb : ER Bool} (e1 : t ds h = .val false h1) (e2 : t' ds h1 = rb) : cOr t t' ds h = rb := by unfold cOr; rw [e1]; exact e2
theorem andV_t (e1 : c ds h = .val (.bl true) h1) (e2 : c' ds h1 = rd) : cAndV c c' ds h = rd := by unfold cAndV; rw [e1]; exact e2
theorem notV_n (e1 : c ds h = .val (.bl k) h1) : cNotV c ds h = .val (.bl (!k)) h1 := by unfold cNotV; rw [e1]; rfl
theorem cons_n (e1 : c ds h = .val x h1) (e2 : cs ds h1 = .val xs h2) : cCons c cs ds h = .val (x :: xs) h2 := by unfold cCons; rw [e1, bv, e2]; rfl
theorem cons_x2 (e1 : c ds h = .val x h1) (e2 : cs ds h1 = .exc e h2) : cCons c cs ds h = .exc e h2 := by unfold cCons; rw [e1, bv, e2]; rfl
theorem cons_x1 (e1 : c ds h = .exc e h1) : cCons c cs ds h = .exc e h1 := by unfold cCons; rw [e1]; rfl
theorem c1_n {f : MH → D → Option D} (e1 : c ds h = .val x h1) (ef : f h1 x = some z) : c1 f c ds h = .val z h1 := by unfold c1; rw [e1, bv, ef]; rfl
theorem c2_n {f : MH → D → D → Option D} (e1 : c ds h = .val x h1) (e2 : c' ds h1 = .val y h2) (ef : f h2 x y = some z) : c2 f c c' ds h = .val z h2 := by unfold c2; rw [e1, bv, e2, bv, ef]; rfl
theorem cn_n {f : MH → List D → Option D} (e1 : cs ds h = .val xs h1) (ef : f h1 xs = some z) : cn f cs ds h = .val z h1 := by unfold cn; rw [e1, bv, ef]; rfl
theorem cn_x {f : MH → List D → Option D} (e1 : cs ds h = .exc e h1) : cn f cs ds h = .exc e h1 := by unfold cn; rw [e1]; rfl
theorem tup_n (e1 : cs ds h = .val xs h1) (hl : xs.length ≤ 1000) : cTup cs ds h = .val (.tup xs) h1 := by unfold cTup; rw [e1, bv, if_pos hl]
theorem tup_x (e1 : cs ds h = .exc e h1) : cTup cs ds h = .exc e h1 := by unfold cTup; rw [e1]; rfl
theorem lstM_n (e1 : cs ds h = .val xs h1) (hl : xs.length ≤ 1000) : cLstM cs ds h = .val (.ref h1.length) (h1 ++ [.lst xs]) := by unfold cLstM; rw [e1, bv, if_pos hl]
theorem call_n (e1 : cs ds h = .val xs h1) (em : m xs h1 = rd) : cCall m cs ds h = rd := by unfold cCall; rw [e1]; exact em
theorem mut_n {f : MH → D → List D → Option (D × MH)} {co : Sl → MH → ER D} (e1 : co ds h = .val x h1) (hi : isLst h1 x = true) (e2 : cs ds h1 = .val xs h2) (ef : f h2 x xs = some (z, h3)) : cMut f co cs ds h = .val z h3 := by
  unfold cMut; rw [e1, bv, if_pos hi, e2, bv, ef]
theorem mut_x {f : MH → D → List D → Option (D × MH)} {co : Sl → MH → ER D} (e1 : co ds h = .val x h1) (hi : isLst h1 x = true) (e2 : cs ds h1 = .exc e h2) : cMut f co cs ds h = .exc e h2 := by
  unfold cMut; rw [e1, bv, if_pos hi, e2]; rfl
theorem app_n {n : Nat} {zs : List D} (e1 : h[n]? = some (.lst zs)) (hz : zs.length < 100000) : appD h (.ref n) [y] = some (.non, h.set n (.lst (zs ++ [y]))) := by
  simp [appD, e1, hz]
theorem isl_n {n : Nat} {zs : List D} (e1 : h[n]? = some (.lst zs)) : isLst h (.ref n) = true := by simp [isLst, e1]
theorem sl_n {lo hi : Sl → MH → ER (Option Int)} {l u : Option Int} (e1 : c ds h = .val x h1) (e2 : lo ds h1 = .val l h2) (e3 : hi ds h2 = .val u h3) (ef : slD h3 x l u = some z) : cSl c lo hi ds h = .val z h3 := by
  unfold cSl; rw [e1, bv, e2, bv, e3, bv, ef]; rfl
theorem part_n {j : Int} (e1 : c ds h = .val (.int j) h1) : cPart c ds h = .val (some j) h1 := by
  unfold cPart; rw [e1]; rfl
theorem meth_n {P : Nat → Bool} {f : Str} {co : Sl → MH → ER D} {n cc : Nat} {fs : List (Str × D)} (e1 : co ds h = .val x h1) (hi : insD P h1 x = some (n, cc, fs)) (hf : fs.lookup f = none) (e2 : cs ds h1 = .val xs h2) (em : m (x :: xs) h2 = rd) : cMeth P f m co cs ds h = rd := by
  unfold cMeth; rw [e1, bv, hi]; simp only [if_pos hf]; rw [e2]; exact em
theorem make_n {cc : Nat} (e1 : cs ds h = .val xs h1) (em : m (.ref h1.length :: xs) (h1 ++ [.ins cc []]) = .val .non h2) : cMake cc m cs ds h = .val (.ref h1.length) h2 := by
  unfold cMake; rw [e1, bv, em, bv]
theorem setX_n {co ci cv : Sl → MH → ER D} {h4 : MH} {o : D} (e1 : cv ds h = .val x h1) (e2 : co ds h1 = .val o h2) (e3 : ci ds h2 = .val y h3) (ef : setAny h3 o y x = some h4) : cSetX co ci cv ds h = .nxt ds h4 := by
  unfold cSetX; rw [e1, bsv, e2, bsv, e3, bsv, ef]
theorem setF_n {P : Nat → Bool} {f : Str} {co cv : Sl → MH → ER D} {o : D} (e1 : cv ds h = .val x h1) (e2 : co ds h1 = .val o h2) (ef : setFD P f h2 o x = some h3) : cSetF P f co cv ds h = .nxt ds h3 := by
  unfold cSetF; rw [e1, bsv, e2, bsv, ef]
theorem aug_n {f : MH → D → D → Option D} (e0 : ds[i]? = some (some x)) (e1 : c ds h = .val y h1) (ef : f h1 x y = some z) : cAug i f c ds h = .nxt (ds.set i (some z)) h1 := by
  unfold cAug; rw [e0]; simp only []; rw [e1, bsv, ef]
theorem cur_n {zs : List D} (e1 : c ds h = .val x h1) (e2 : curD x h1 = some zs) : cCur c ds h = .val (curD x) h1 := by
  unfold cCur; rw [e1, bv, e2]
end
theorem cut_take {xs : List D} {j : Nat} (hj : j ≤ xs.length) : cutD xs none (some (j : Int)) = xs.take j := by
  unfold cutD
  rw [HT.sIx_none, HT.sIx_nat, Nat.min_eq_left hj]
  simp
theorem cut_drop {xs : List D} {j : Nat} (hj : j ≤ xs.length) : cutD xs (some (j : Int)) none = xs.drop j := by
  unfold cutD
  rw [HT.sIx_none, HT.sIx_nat, Nat.min_eq_left hj, List.take_of_length_le (by simp)]
/-- a comprehension that maps without touching the heap -/
theorem comp_map {it : Sl → MH → ER Cur} {vs : List Nat} {g : Gt} {e : Sl → MH → ER D} {ds : Sl} {h h1 : MH} {cur : Cur} {xs : List D} (f : D → D) (e1 : it ds h = .val cur h1)
    (hcur : ∀ hh : MH, (∀ j, j < h1.length → hh[j]? = h1[j]?) → cur hh = some xs) (he : ∀ x ∈ xs, ∀ hh : MH, (∀ j, j < h1.length → hh[j]? = h1[j]?) → ∃ ds1, g x (wipeD ds vs) hh = some ds1 ∧ e ds1 hh = .val (f x) hh) (hl : xs.length < 90000) :
    ∃ h', cComp vs it g cYes e ds h = .val (.ref h1.length) h' ∧ h'[h1.length]? = some (.lst (xs.map f)) ∧ h1.length < h'.length ∧ ∀ j, j < h1.length → h'[j]? = h1[j]? := by
  have h0 : ∀ j, j < h1.length → (h1 ++ [MO.lst []])[j]? = h1[j]? := fun j hj => List.getElem?_append_left hj
  obtain ⟨acc, h', run, q1, q2, q3, q4⟩ := comp_inv (cur := cur) (n := h1.length) (g := g) (t := cYes) (e := e) (dw := wipeD ds vs) (xs := xs)
    (fun i acc hh => acc = (xs.take i).map f ∧ hh[h1.length]? = some (.lst acc) ∧ h1.length < hh.length ∧ ∀ j, j < h1.length → hh[j]? = h1[j]?)
    (by
      rintro i acc hh ⟨q1, q2, q3, q4⟩
      refine ⟨q2, hcur hh q4, fun x hx => ?_⟩
      obtain ⟨ds1, g1, g2⟩ := he x (List.mem_of_getElem? hx) hh q4
      refine ⟨ds1, g1, true, hh, rfl, ?_⟩
      simp only [if_true]
      have hi : i < xs.length := (List.getElem?_eq_some_iff.mp hx).1
      refine ⟨f x, hh, g2, q2, by rw [q1]; simp; omega, ?_, ?_, by simpa using q3, fun j hj => ?_⟩
      · rw [q1, List.take_add_one, hx]; simp
      · rw [List.getElem?_set_self q3]
      · rw [List.getElem?_set_ne (by omega)]; exact q4 j hj)
    xs.length 0 [] (h1 ++ [MO.lst []]) rfl ⟨by simp, by simp, by simp, h0⟩
  refine ⟨h', ?_, ?_, q3, q4⟩
  · unfold cComp
    rw [e1, bv, hcur h1 fun _ _ => rfl]
    exact run
  · rw [q2, q1, List.take_length]
theorem dic1_n {ck cv : Sl → MH → ER D} {ds : Sl} {h : MH} {k v : D} {nk : NestedKey} {t : Bool} (e1 : ck ds (h ++ [.dic t []]) = .val k (h ++ [.dic t []])) (e2 : cv ds (h ++ [.dic t []]) = .val v (h ++ [.dic t []])) (hk : keyOk t k = some nk) :
    cDic1 t ck cv ds h = .val (.ref h.length) (h ++ [.dic t [(k, v)]]) := by
  unfold cDic1
  rw [e1, bv, e2, bv]
  have hd : dicD (h ++ [MO.dic t []]) (.ref h.length) = some (h.length, t, []) := by simp [dicD]
  rw [hd]
  simp only [if_true, hk]
  congr 1
  simp
end DL
end
section
set_option Elab.async false
set_option linter.all false
set_option maxRecDepth 100000
set_option maxHeartbeats 4000000
namespace K74
open PySem PySem.Spec PyProof.Rows L2 DL
def top (i : Nat) : Stmt := PySem.Challenge.pw_leastwait_k74_capped.main.body.getD i (.Pass ⟨0, 0, 0, 0⟩)
abbrev s0 : Stmt := (inClass (top 3) 0)
abbrev s1 : Stmt := (inClass (top 6) 0)
abbrev s2 : Stmt := (inClass (top 6) 1)
abbrev s3 : Stmt := (inClass (top 6) 2)
abbrev s4 : Stmt := (inClass (top 9) 0)
abbrev s5 : Stmt := (inClass (top 9) 1)
abbrev s6 : Stmt := (inClass (top 9) 2)
abbrev s7 : Stmt := (top 10)
abbrev s8 : Stmt := (top 12)
abbrev s9 : Stmt := (top 13)
abbrev s10 : Stmt := (top 14)
abbrev s11 : Stmt := (top 15)
abbrev s12 : Stmt := (top 16)
abbrev s13 : Stmt := (top 17)
abbrev s14 : Stmt := (top 18)
abbrev s15 : Stmt := (top 19)
abbrev s16 : Stmt := (top 20)
abbrev s17 : Stmt := (top 21)
theorem sc1 : FnScope ["self", "first", "wait", "most"] ["self", "first", "wait", "most"] (defScope s1) := ⟨rfl, rfl, rfl, by decide +kernel, rfl, by decide +kernel, by decide +kernel⟩
theorem sc2 : FnScope ["self", "key"] ["self", "key"] (defScope s2) := ⟨rfl, rfl, rfl, by decide +kernel, rfl, by decide +kernel, by decide +kernel⟩
theorem sc5 : FnScope ["self", "key"] ["self", "key"] (defScope s5) := ⟨rfl, rfl, rfl, by decide +kernel, rfl, by decide +kernel, by decide +kernel⟩
theorem sc6 : FnScope ["self", "key", "state", "level", "found", "target", "weight", "left"] ["self", "key"] (defScope s6) := ⟨rfl, rfl, rfl, by decide +kernel, rfl, by decide +kernel, by decide +kernel⟩
theorem sc3 : FnScope ["self", "owner_of", "steps_of", "rows", "index", "key", "to", "weight"] ["self", "owner_of", "steps_of"] (defScope s3) := ⟨rfl, rfl, rfl, by decide +kernel, rfl, by decide +kernel, by decide +kernel⟩
theorem sc4 : FnScope ["self", "arena", "cap"] ["self", "arena", "cap"] (defScope s4) := ⟨rfl, rfl, rfl, by decide +kernel, rfl, by decide +kernel, by decide +kernel⟩
theorem sc7 : FnScope ["arena", "cap", "state", "world", "unfolding", "found", "key"] ["arena", "cap", "state"] (defScope s7) := ⟨rfl, rfl, rfl, by decide +kernel, rfl, by decide +kernel, by decide +kernel⟩
theorem sc8 : FnScope ["script"] ["script"] (defScope s8) := ⟨rfl, rfl, rfl, by decide +kernel, rfl, by decide +kernel, by decide +kernel⟩
theorem sc9 : FnScope ["state", "most", "found", "cell", "mixed"] ["state", "most"] (defScope s9) := ⟨rfl, rfl, rfl, by decide +kernel, rfl, by decide +kernel, by decide +kernel⟩
theorem sc10 : FnScope ["x"] ["x"] (defScope s10) := ⟨rfl, rfl, rfl, by decide +kernel, rfl, by decide +kernel, by decide +kernel⟩
theorem sc11 : FnScope ["x", "y", "k"] ["x", "y"] (defScope s11) := ⟨rfl, rfl, rfl, by decide +kernel, rfl, by decide +kernel, by decide +kernel⟩
theorem sc12 : FnScope ["state", "many", "most", "spread", "rows", "k", "moves", "turn"] ["state", "many", "most", "spread"] (defScope s12) := ⟨rfl, rfl, rfl, by decide +kernel, rfl, by decide +kernel, by decide +kernel⟩
theorem sc13 : FnScope ["keys", "numbers", "key"] ["keys", "numbers", "key"] (defScope s13) := ⟨rfl, rfl, rfl, by decide +kernel, rfl, by decide +kernel, by decide +kernel⟩
theorem sc14 : FnScope ["arena", "cap", "start", "keys", "numbers", "rows", "at", "key", "moves", "target", "weight", "later"] ["arena", "cap", "start"] (defScope s14) := ⟨rfl, rfl, rfl, by decide +kernel, rfl, by decide +kernel, by decide +kernel⟩
theorem sc15 : FnScope ["state", "arena", "k", "owner", "moves", "great"] ["state"] (defScope s15) := ⟨rfl, rfl, rfl, by decide +kernel, rfl, by decide +kernel, by decide +kernel⟩
theorem sc16 : FnScope ["arena", "cap", "start", "e"] ["arena", "cap", "start"] (defScope s16) := ⟨rfl, rfl, rfl, by decide +kernel, rfl, by decide +kernel, by decide +kernel⟩
theorem sc17 : FnScope ["script", "state", "arena", "before", "asked", "turn", "cap", "start", "due"] ["script"] (defScope s17) := ⟨rfl, rfl, rfl, by decide +kernel, rfl, by decide +kernel, by decide +kernel⟩
abbrev c_BARE : D := (.tup [(.str "empty")])
abbrev c_KEEPER : D := (.int 0)
def tryP0 (c : Nat) : Option Bool := if c = 0 then some true else none
def tryP1 (c : Nat) : Option Bool := if c = 1 then some true else none
def m1 : Mi := cDef 4 4 (cSeq (cSetF (· == 2) "found" (cVar 0) (cLstM (cCons (cVar 1) cNil)))
  (cSeq (cSetF (· == 2) "numbers" (cVar 0) (cDic1 true (cVar 1) (cC (.int 0))))
  (cSeq (cSetF (· == 2) "wait" (cVar 0) (cVar 2))
  (cSetF (· == 2) "most" (cVar 0) (cVar 3)))))
def mi1 : Mi := fun xs h => m1 (xs ++ [(.int 600)]) h
def m2 : Mi := cDef 2 2 (cSeq (cIfS (cB (c2 ninD (cVar 1) (c1 (fldD (· == 2) "numbers") (cVar 0)))) (cSeq (cIfS (cB (c2 eqD (cn lenD (cCons (c1 (fldD (· == 2) "found") (cVar 0)) cNil)) (c1 (fldD (· == 2) "most") (cVar 0)))) (cRaise 1 "wait" (cCons (c1 (fldD (· == 2) "wait") (cVar 0)) cNil)) cEnd)
  (cSeq (cSetX (c1 (fldD (· == 2) "numbers") (cVar 0)) (cVar 1) (cn lenD (cCons (c1 (fldD (· == 2) "found") (cVar 0)) cNil)))
  (cExpr (cMut appD (c1 (fldD (· == 2) "found") (cVar 0)) (cCons (cVar 1) cNil))))) cEnd)
  (cRet (c2 (orD atD dgetD) (c1 (fldD (· == 2) "numbers") (cVar 0)) (cVar 1))))
def m5 : Mi := cDef 2 2 (cRet (cIf (cB (c2 eqD (cVar 1) (cC c_BARE))) (cC c_KEEPER) (c2 (orD atD dgetD) (c2 (orD atD dgetD) (c1 (fldD (· == 3) "arena") (cVar 0)) (c2 (orD atD dgetD) (cVar 1) (cC (.int 0)))) (cC (.int 0)))))
def m6 : Mi := cDef 2 8 (cSeq (cIfS (cB (c2 eqD (cVar 1) (cC c_BARE))) (cRet (cLstM (cCons (cTup (cCons (cC c_BARE) (cCons (c1 negD (cC (.int 1))) cNil))) cNil))) cEnd)
  (cSeq (cAsg (gTu (gsC (gN 2) (gsC (gN 3) gsN))) (cVar 1))
  (cSeq (cSet 4 (cLstM cNil))
  (cSeq (cFor (cCur (c2 (orD atD dgetD) (c2 (orD atD dgetD) (c1 (fldD (· == 3) "arena") (cVar 0)) (cVar 2)) (cC (.int 1)))) (gTu (gsC (gN 5) (gsC (gN 6) gsN))) (cSeq (cSet 7 (cn min2D (cCons (c1 (fldD (· == 3) "cap") (cVar 0)) (cCons (c2 addD (cVar 3) (cVar 6)) cNil))))
  (cExpr (cMut appD (cVar 4) (cCons (cTup (cCons (cIf (cB (c2 ltD (cVar 7) (cC (.int 0)))) (cC c_BARE) (cTup (cCons (cVar 5) (cCons (cVar 7) cNil)))) (cCons (cVar 6) cNil))) cNil)))))
  (cRet (cVar 4))))))
def tbl (f : Nat) : Option Mi := if f = 5 then some m5 else if f = 6 then some m6 else none
def m3 : Mi := cDef 3 8 (cSeq (cSet 3 (cLstM cNil))
  (cSeq (cSet 4 (cC (.int 0)))
  (cSeq (cWhile 100000 (cB (c2 ltD (cVar 4) (cn lenD (cCons (c1 (fldD (· == 2) "found") (cVar 0)) cNil)))) (cSeq (cSet 5 (c2 (orD atD dgetD) (c1 (fldD (· == 2) "found") (cVar 0)) (cVar 4)))
  (cSeq (cExpr (cMut appD (cVar 3) (cCons (cTup (cCons (cCallV tbl 1 (cCons (cVar 5) cNil)) (cCons (cn tupleD (cCons (cComp [6, 7] (cCur (cCallV tbl 2 (cCons (cVar 5) cNil))) (gTu (gsC (gN 6) (gsC (gN 7) gsN))) cYes (cTup (cCons (cMeth (· == 2) "number" m2 (cVar 0) (cCons (cVar 6) cNil)) (cCons (cVar 7) cNil)))) cNil)) cNil))) cNil)))
  (cAug 4 iaddD (cC (.int 1))))))
  (cRet (cn tupleD (cCons (cVar 3) cNil))))))
def m4 : Mi := cDef 3 3 (cSeq (cSetF (· == 3) "arena" (cVar 0) (cVar 1))
  (cSetF (· == 3) "cap" (cVar 0) (cVar 2)))
def m7 : Mi := cDef 3 7 (cSeq (cSet 3 (cMake 3 m4 (cCons (cVar 0) (cCons (cVar 1) cNil))))
  (cSeq (cSet 4 (cMake 2 mi1 (cCons (cTup (cCons (cVar 2) (cCons (cVar 1) cNil))) (cCons (cVar 1) cNil))))
  (cSeq (cSet 5 (cMeth (· == 2) "arena" m3 (cVar 4) (cCons (cBM (· == 3) "owner_of" 5 (cVar 3)) (cCons (cBM (· == 3) "steps_of" 6 (cVar 3)) cNil))))
  (cRet (cTup (cCons (cVar 5) (cCons (cn tupleD (cCons (cComp [6] (cCur (c1 (fldD (· == 2) "found") (cVar 4))) (gN 6) cYes (cIf (cB (c2 eqD (cVar 6) (cC c_BARE))) (cC (.int 1)) (cC (.int 0)))) cNil)) (cCons (cn tupleD (cCons (c1 (fldD (· == 2) "found") (cVar 4)) cNil)) cNil))))))))
def m8 : Mi := cDef 1 1 (cRet (cLstM (cCons (cn listD (cCons (cVar 0) cNil)) (cCons (cC (.int 0)) (cCons (cC (.int 0)) (cCons (cC (.int 0)) cNil))))))
def m9 : Mi := cDef 2 5 (cSeq (cSetX (cVar 0) (cC (.int 3)) (c2 addD (c2 (orD atD dgetD) (cVar 0) (cC (.int 3))) (cC (.int 1))))
  (cSeq (cIfS (cB (c2 gtD (c2 (orD atD dgetD) (cVar 0) (cC (.int 2))) (cC (.int 0)))) (cSeq (cSet 2 (c2 modD (cn intD (cCons (c2 (orD atD dgetD) (cVar 0) (cC (.int 2))) cNil)) (cVar 1)))
  (cSeq (cSetX (cVar 0) (cC (.int 2)) (c2 divD (c2 (orD atD dgetD) (cVar 0) (cC (.int 2))) (cVar 1)))
  (cRet (cVar 2)))) cEnd)
  (cSeq (cSet 3 (cC (.int 0)))
  (cSeq (cIfS (cB (c2 gtD (cn lenD (cCons (c2 (orD atD dgetD) (cVar 0) (cC (.int 0))) cNil)) (cC (.int 0)))) (cSet 3 (cn absD (cCons (c2 (orD atD dgetD) (c2 (orD atD dgetD) (cVar 0) (cC (.int 0))) (c2 modD (cn intD (cCons (c2 (orD atD dgetD) (cVar 0) (cC (.int 1))) cNil)) (cn lenD (cCons (c2 (orD atD dgetD) (cVar 0) (cC (.int 0))) cNil)))) cNil))) cEnd)
  (cSeq (cSetX (cVar 0) (cC (.int 1)) (c2 addD (c2 (orD atD dgetD) (cVar 0) (cC (.int 1))) (cC (.int 1))))
  (cSeq (cIfS (cB (c2 geD (cVar 3) (c2 powD (cC (.int 10)) (cC (.int 18))))) (cSeq (cSetX (cVar 0) (cC (.int 2)) (c2 divD (cVar 3) (cVar 1)))
  (cRet (c2 modD (cn intD (cCons (cVar 3) cNil)) (cVar 1)))) cEnd)
  (cSeq (cSet 4 (c2 modD (cn intD (cCons (c2 addD (c2 mulD (c2 addD (cVar 3) (cC (.int 1))) (cC (.int 48271))) (c2 mulD (c2 (orD atD dgetD) (cVar 0) (cC (.int 3))) (cC (.int 69621)))) cNil)) (cC (.int 2147483647))))
  (cSeq (cSet 4 (c2 modD (cn intD (cCons (c2 addD (c2 addD (c2 mulD (cVar 4) (cC (.int 16807))) (c2 divD (cVar 3) (cC (.int 97)))) (c2 (orD atD dgetD) (cVar 0) (cC (.int 3)))) cNil)) (cC (.int 2147483629))))
  (cRet (c2 modD (c2 divD (cVar 4) (cC (.int 11))) (cVar 1)))))))))))
def m10 : Mi := cDef 1 1 (cRet (cAndV (cIsi "int" (cVar 0)) (cNotV (cIsi "bool" (cVar 0)))))
def m11 : Nat → Mi
  | 0 => fun _ _ => .bad
  | n + 1 => cDef 2 3 (let m := m11 n; (cSeq (cIfS (cB (cIsi "tuple" (cVar 1))) (cSeq (cIfS (cOr (cNot (cB (cIsi "tuple" (cVar 0)))) (cB (c2 neD (cn lenD (cCons (cVar 0) cNil)) (cn lenD (cCons (cVar 1) cNil))))) (cRet (cC (.bl false))) cEnd)
  (cRet (cn allD (cCons (cComp [2] (cRg1 (cCons (cn lenD (cCons (cVar 1) cNil)) cNil)) (gN 2) cYes (cCall m (cCons (c2 (orD atD dgetD) (cVar 0) (cVar 2)) (cCons (c2 (orD atD dgetD) (cVar 1) (cVar 2)) cNil)))) cNil)))) cEnd)
  (cSeq (cIfS (cB (cIsi "str" (cVar 1))) (cRet (cAndV (cIsi "str" (cVar 0)) (c2 eqD (cVar 0) (cVar 1)))) cEnd)
  (cRet (cAndV (cCall m10 (cCons (cVar 0) cNil)) (c2 eqD (cVar 0) (cVar 1)))))))
def m12 : Mi := cDef 4 8 (cSeq (cSet 4 (cLstM cNil))
  (cSeq (cFor (cRg1 (cCons (cVar 1) cNil)) (gN 5) (cSeq (cSet 6 (cLstM cNil))
  (cSeq (cFor (cRg1 (cCons (c2 addD (cC (.int 1)) (cCall m9 (cCons (cVar 0) (cCons (cVar 2) cNil)))) cNil)) (gN 7) (cExpr (cMut appD (cVar 6) (cCons (cTup (cCons (cCall m9 (cCons (cVar 0) (cCons (cVar 1) cNil))) (cCons (c2 subD (cCall m9 (cCons (cVar 0) (cCons (c2 addD (c2 mulD (cC (.int 2)) (cVar 3)) (cC (.int 1))) cNil))) (cVar 3)) cNil))) cNil))))
  (cExpr (cMut appD (cVar 4) (cCons (cTup (cCons (cCall m9 (cCons (cVar 0) (cCons (cC (.int 2)) cNil))) (cCons (cn tupleD (cCons (cVar 6) cNil)) cNil))) cNil))))))
  (cRet (cn tupleD (cCons (cVar 4) cNil)))))
def m13 : Mi := cDef 3 3 (cSeq (cIfS (cB (c2 ninD (cVar 2) (cVar 1))) (cSeq (cSetX (cVar 1) (cVar 2) (cn lenD (cCons (cVar 0) cNil)))
  (cExpr (cMut appD (cVar 0) (cCons (cVar 2) cNil)))) cEnd)
  (cRet (c2 (orD atD dgetD) (cVar 1) (cVar 2))))
def m14 : Mi := cDef 3 12 (cSeq (cSet 3 (cLstM (cCons (cTup (cCons (cVar 2) (cCons (cVar 1) cNil))) cNil)))
  (cSeq (cSet 4 (cDic1 true (c2 (orD atD dgetD) (cVar 3) (cC (.int 0))) (cC (.int 0))))
  (cSeq (cSet 5 (cLstM cNil))
  (cSeq (cFor (cRg1 (cCons (cC (.int 601)) cNil)) (gN 6) (cIfS (cAnd (cB (c2 ltD (cVar 6) (cn lenD (cCons (cVar 3) cNil)))) (cB (c2 leD (cn lenD (cCons (cVar 3) cNil)) (cC (.int 600))))) (cSeq (cSet 7 (c2 (orD atD dgetD) (cVar 3) (cVar 6)))
  (cIfS (cB (c2 eqD (cVar 7) (cTup (cCons (cC (.str "empty")) cNil)))) (cExpr (cMut appD (cVar 5) (cCons (cTup (cCons (cC (.int 0)) (cCons (cTup (cCons (cTup (cCons (cVar 6) (cCons (c1 negD (cC (.int 1))) cNil))) cNil)) cNil))) cNil))) (cSeq (cSet 8 (cLstM cNil))
  (cSeq (cFor (cCur (c2 (orD atD dgetD) (c2 (orD atD dgetD) (cVar 0) (c2 (orD atD dgetD) (cVar 7) (cC (.int 0)))) (cC (.int 1)))) (gTu (gsC (gN 9) (gsC (gN 10) gsN))) (cSeq (cSet 11 (cTup (cCons (cVar 9) (cCons (cn min2D (cCons (cVar 1) (cCons (c2 addD (c2 (orD atD dgetD) (cVar 7) (cC (.int 1))) (cVar 10)) cNil))) cNil))))
  (cSeq (cIfS (cB (c2 ltD (c2 (orD atD dgetD) (cVar 11) (cC (.int 1))) (cC (.int 0)))) (cSet 11 (cTup (cCons (cC (.str "empty")) cNil))) cEnd)
  (cExpr (cMut appD (cVar 8) (cCons (cTup (cCons (cCall m13 (cCons (cVar 3) (cCons (cVar 4) (cCons (cVar 11) cNil)))) (cCons (cVar 10) cNil))) cNil))))))
  (cExpr (cMut appD (cVar 5) (cCons (cTup (cCons (c2 (orD atD dgetD) (c2 (orD atD dgetD) (cVar 0) (c2 (orD atD dgetD) (cVar 7) (cC (.int 0)))) (cC (.int 0))) (cCons (cn tupleD (cCons (cVar 8) cNil)) cNil))) cNil))))))) cEnd))
  (cSeq (cIfS (cB (c2 gtD (cn lenD (cCons (cVar 3) cNil)) (cC (.int 600)))) (cRet (cC .non)) cEnd)
  (cRet (cTup (cCons (cn tupleD (cCons (cVar 5) cNil)) (cCons (cn tupleD (cCons (cComp [7] (cCur (cVar 3)) (gN 7) cYes (cn intD (cCons (c2 eqD (cVar 7) (cTup (cCons (cC (.str "empty")) cNil))) cNil))) cNil)) (cCons (cn tupleD (cCons (cVar 3) cNil)) cNil))))))))))
def m15 : Mi := cDef 1 6 (cSeq (cSet 1 (cCall m12 (cCons (cVar 0) (cCons (c2 addD (cC (.int 1)) (cCall m9 (cCons (cVar 0) (cCons (cC (.int 6)) cNil)))) (cCons (cC (.int 4)) (cCons (cC (.int 4)) cNil))))))
  (cSeq (cIfS (cB (c2 gtD (cCall m9 (cCons (cVar 0) (cCons (cC (.int 5)) cNil))) (cC (.int 0)))) (cRet (cVar 1)) cEnd)
  (cSeq (cSet 2 (cCall m9 (cCons (cVar 0) (cCons (cn lenD (cCons (cVar 1) cNil)) cNil))))
  (cSeq (cAsg (gTu (gsC (gN 3) (gsC (gN 4) gsN))) (c2 (orD atD dgetD) (cVar 1) (cVar 2)))
  (cSeq (cSet 5 (cTup (cCons (c2 (orD atD dgetD) (c2 (orD atD dgetD) (cVar 4) (cC (.int 0))) (cC (.int 0))) (cCons (c2 addD (c2 mulD (c2 (orD atD dgetD) (c2 (orD atD dgetD) (cVar 4) (cC (.int 0))) (cC (.int 1))) (c2 powD (cC (.int 10)) (cC (.int 29)))) (cC (.int 1))) cNil))))
  (cRet (c2 addD (c2 addD (cSl (cVar 1) cNo (cPart (cVar 2))) (cTup (cCons (cTup (cCons (cVar 3) (cCons (c2 addD (cTup (cCons (cVar 5) cNil)) (cVar 4)) cNil))) cNil))) (cSl (cVar 1) (cPart (c2 addD (cVar 2) (cC (.int 1)))) cNo))))))))
def m16 : Mi := cDef 3 4 (cTry tryP1 3 (cRet (cCall m7 (cCons (cVar 0) (cCons (cVar 1) (cCons (cVar 2) cNil))))) (xTup 1 "many" "wait"))
def m17 : Mi := cDef 1 9 (cSeq (cSet 1 (cCall m8 (cCons (cVar 0) cNil)))
  (cSeq (cSet 2 (cCall m15 (cCons (cVar 1) cNil)))
  (cSeq (cSet 3 (cn reprD (cCons (cVar 2) cNil)))
  (cSeq (cSet 4 (cLstM cNil))
  (cSeq (cFor (cRg1 (cCons (cC (.int 3)) cNil)) (gN 5) (cSeq (cSet 6 (c2 (orD atD dgetD) (cLstM (cCons (cCall m9 (cCons (cVar 1) (cCons (cC (.int 13)) cNil))) (cCons (cCall m9 (cCons (cVar 1) (cCons (cC (.int 700)) cNil))) cNil))) (cn intD (cCons (c2 eqD (cCall m9 (cCons (cVar 1) (cCons (cC (.int 6)) cNil))) (cC (.int 0))) cNil))))
  (cExpr (cMut appD (cVar 4) (cCons (cTup (cCons (cVar 6) (cCons (cCall m9 (cCons (cVar 1) (cCons (cn lenD (cCons (cVar 2) cNil)) cNil))) cNil))) cNil)))))
  (cSeq (cFor (cCur (c2 addD (cVar 4) (cSl (cVar 4) cNo (cPart (cC (.int 1)))))) (gTu (gsC (gN 6) (gsC (gN 7) gsN))) (cSeq (cSet 8 (cCall m14 (cCons (cVar 2) (cCons (cVar 6) (cCons (cVar 7) cNil)))))
  (cSeq (cIfS (cB (c1 isNonD (cVar 8))) (cSet 8 (cTup (cCons (cC (.str "many")) (cCons (cVar 6) cNil)))) cEnd)
  (cIfS (cNot (cB (cCall (m11 8) (cCons (cCall m16 (cCons (cVar 2) (cCons (cVar 6) (cCons (cVar 7) cNil)))) (cCons (cVar 8) cNil))))) (cRet (cC (.bl false))) cEnd))))
  (cRet (c2 eqD (cn reprD (cCons (cVar 2) cNil)) (cVar 3)))))))))
/-- what of the text the walk asks -/
structure Txt (P : Program) (K : PySem.W.Frag) (mg : Str → Option Value) (T : Tg) : Prop where
  n_abs : mg "abs" = none
  n_all : mg "all" = none
  n_bool : mg "bool" = none
  n_int : mg "int" = none
  n_isinstance : mg "isinstance" = none
  n_len : mg "len" = none
  n_list : mg "list" = none
  n_min : mg "min" = none
  n_range : mg "range" = none
  n_repr : mg "repr" = none
  n_str : mg "str" = none
  n_tuple : mg "tuple" = none
  r_BARE : ∃ (v : V) (u : Value), mg "BARE" = some u ∧ RelV v u ∧ ∀ (P : Program) (w : World) (W : Wd), RD ⟨K, P, w, T⟩ W c_BARE v
  r_KEEPER : ∃ (v : V) (u : Value), mg "KEEPER" = some u ∧ RelV v u ∧ ∀ (P : Program) (w : World) (W : Wd), RD ⟨K, P, w, T⟩ W c_KEEPER v
  fn1 : ∃ fd dvs ds, FunD K "__init__" "Unfolding.__init__" (defArgs s1) (defBody s1) (defScope s1) dvs [] (T.fa 1) fd ∧ Binds K fd ["self", "first", "wait", "most"] ds ∧ Vals dvs ds ∧ ∀ (P : Program) (w : World) (W : Wd), RDs ⟨K, P, w, T⟩ W [(.int 600)] dvs
  fn2 : ∃ fd, Fun K "number" "Unfolding.number" s2 (T.fa 2) fd ∧ Binds K fd ["self", "key"] []
  fn5 : ∃ fd, Fun K "owner_of" "CapWorld.owner_of" s5 (T.fa 5) fd ∧ Binds K fd ["self", "key"] []
  fn6 : ∃ fd, Fun K "steps_of" "CapWorld.steps_of" s6 (T.fa 6) fd ∧ Binds K fd ["self", "key"] []
  fn3 : ∃ fd, Fun K "arena" "Unfolding.arena" s3 (T.fa 3) fd ∧ Binds K fd ["self", "owner_of", "steps_of"] []
  fn4 : ∃ fd, Fun K "__init__" "CapWorld.__init__" s4 (T.fa 4) fd ∧ Binds K fd ["self", "arena", "cap"] []
  fn7 : ∃ fd, Fun K "capped" "capped" s7 (T.fa 7) fd ∧ Binds K fd ["arena", "cap", "state"] []
  mg7 : mg "capped" = some (.ref (T.fa 7))
  kp7 : PySem.W.keepIn K (.ref (T.fa 7)) = true
  fn8 : ∃ fd, Fun K "_law_start" "_law_start" s8 (T.fa 8) fd ∧ Binds K fd ["script"] []
  mg8 : mg "_law_start" = some (.ref (T.fa 8))
  kp8 : PySem.W.keepIn K (.ref (T.fa 8)) = true
  fn9 : ∃ fd, Fun K "_law_draw" "_law_draw" s9 (T.fa 9) fd ∧ Binds K fd ["state", "most"] []
  mg9 : mg "_law_draw" = some (.ref (T.fa 9))
  kp9 : PySem.W.keepIn K (.ref (T.fa 9)) = true
  fn10 : ∃ fd, Fun K "_law_is_int" "_law_is_int" s10 (T.fa 10) fd ∧ Binds K fd ["x"] []
  mg10 : mg "_law_is_int" = some (.ref (T.fa 10))
  kp10 : PySem.W.keepIn K (.ref (T.fa 10)) = true
  fn11 : ∃ fd, Fun K "_law_same" "_law_same" s11 (T.fa 11) fd ∧ Binds K fd ["x", "y"] []
  mg11 : mg "_law_same" = some (.ref (T.fa 11))
  kp11 : PySem.W.keepIn K (.ref (T.fa 11)) = true
  fn12 : ∃ fd, Fun K "_law_arena" "_law_arena" s12 (T.fa 12) fd ∧ Binds K fd ["state", "many", "most", "spread"] []
  mg12 : mg "_law_arena" = some (.ref (T.fa 12))
  kp12 : PySem.W.keepIn K (.ref (T.fa 12)) = true
  fn13 : ∃ fd, Fun K "_law_number_of" "_law_number_of" s13 (T.fa 13) fd ∧ Binds K fd ["keys", "numbers", "key"] []
  mg13 : mg "_law_number_of" = some (.ref (T.fa 13))
  kp13 : PySem.W.keepIn K (.ref (T.fa 13)) = true
  fn14 : ∃ fd, Fun K "_law_capped" "_law_capped" s14 (T.fa 14) fd ∧ Binds K fd ["arena", "cap", "start"] []
  mg14 : mg "_law_capped" = some (.ref (T.fa 14))
  kp14 : PySem.W.keepIn K (.ref (T.fa 14)) = true
  fn15 : ∃ fd, Fun K "_law_drawn" "_law_drawn" s15 (T.fa 15) fd ∧ Binds K fd ["state"] []
  mg15 : mg "_law_drawn" = some (.ref (T.fa 15))
  kp15 : PySem.W.keepIn K (.ref (T.fa 15)) = true
  fn16 : ∃ fd, Fun K "_law_told" "_law_told" s16 (T.fa 16) fd ∧ Binds K fd ["arena", "cap", "start"] []
  mg16 : mg "_law_told" = some (.ref (T.fa 16))
  kp16 : PySem.W.keepIn K (.ref (T.fa 16)) = true
  fn17 : ∃ fd, Fun K "law" "law" s17 (T.fa 17) fd ∧ Binds K fd ["script"] []
  mg17 : mg "law" = some (.ref (T.fa 17))
  kp17 : PySem.W.keepIn K (.ref (T.fa 17)) = true
  mgc2 : mg "Unfolding" = some (.ref (T.ca 2))
  cl2 : Cls K (T.ca 2)
  mk2 : Mk K (T.ca 2) (T.fa 1)
  met2 : Meth K (T.ca 2) "number" (T.fa 2)
  met3 : Meth K (T.ca 2) "arena" (T.fa 3)
  mgc3 : mg "CapWorld" = some (.ref (T.ca 3))
  cl3 : Cls K (T.ca 3)
  mk3 : Mk K (T.ca 3) (T.fa 4)
  met5 : Meth K (T.ca 3) "owner_of" (T.fa 5)
  bmt5 : BMeth K (T.ca 3) "owner_of" (T.fa 5)
  met6 : Meth K (T.ca 3) "steps_of" (T.fa 6)
  bmt6 : BMeth K (T.ca 3) "steps_of" (T.fa 6)
  nat2_found : NoAttr K (T.ca 2) "found"
  nat2_most : NoAttr K (T.ca 2) "most"
  nat2_numbers : NoAttr K (T.ca 2) "numbers"
  nat2_wait : NoAttr K (T.ca 2) "wait"
  nat3_arena : NoAttr K (T.ca 3) "arena"
  nat3_cap : NoAttr K (T.ca 3) "cap"
  mgc1 : mg "TooMany" = some (.ref (T.ca 1))
  ox1 : OexC K (T.ca 1)
  oi1 : PySem.W.findIn K (.ref (T.ca 1)) "__init__" = some (some (.ref (T.fa 0)))
  ot1 : PySem.W.typeIn K (.ref (T.fa 0)) = some (.type "function")
  sup1 : ∃ fd cda cc, SupC P K (T.ca 1) (T.fa 0) "TooMany.__init__" s0 ["self", "wait"] fd cda cc
  xf1 : XfC K (T.ca 1)
  xn1 : PySem.W.findIn K (.ref (T.ca 1)) "wait" = some none
  xe1 : PySem.W.exmOne K (.ref (T.ca 1)) (.ref (T.ca 1)) = some true
section
variable {P : Program} {w : World} {K : PySem.W.Frag} {mg : Str → Option Value} {base : Heap} {T : Tg}
theorem Txt.na2_found (t : Txt P K mg T) : ∀ c, (c == 2) = true → Cls K (T.ca c) ∧ NoAttr K (T.ca c) "found" := fun c h => by
  have e : c = 2 := by simpa using h
  subst e
  exact ⟨t.cl2, t.nat2_found⟩
theorem Txt.na2_most (t : Txt P K mg T) : ∀ c, (c == 2) = true → Cls K (T.ca c) ∧ NoAttr K (T.ca c) "most" := fun c h => by
  have e : c = 2 := by simpa using h
  subst e
  exact ⟨t.cl2, t.nat2_most⟩
theorem Txt.na2_numbers (t : Txt P K mg T) : ∀ c, (c == 2) = true → Cls K (T.ca c) ∧ NoAttr K (T.ca c) "numbers" := fun c h => by
  have e : c = 2 := by simpa using h
  subst e
  exact ⟨t.cl2, t.nat2_numbers⟩
theorem Txt.na2_wait (t : Txt P K mg T) : ∀ c, (c == 2) = true → Cls K (T.ca c) ∧ NoAttr K (T.ca c) "wait" := fun c h => by
  have e : c = 2 := by simpa using h
  subst e
  exact ⟨t.cl2, t.nat2_wait⟩
theorem Txt.na3_arena (t : Txt P K mg T) : ∀ c, (c == 3) = true → Cls K (T.ca c) ∧ NoAttr K (T.ca c) "arena" := fun c h => by
  have e : c = 3 := by simpa using h
  subst e
  exact ⟨t.cl3, t.nat3_arena⟩
theorem Txt.na3_cap (t : Txt P K mg T) : ∀ c, (c == 3) = true → Cls K (T.ca c) ∧ NoAttr K (T.ca c) "cap" := fun c h => by
  have e : c = 3 := by simpa using h
  subst e
  exact ⟨t.cl3, t.nat3_cap⟩
theorem Txt.me2 (t : Txt P K mg T) : ∀ c, (c == 2) = true → Cls K (T.ca c) ∧ Meth K (T.ca c) "number" (T.fa 2) := fun c h => by
  have e : c = 2 := by simpa using h
  subst e
  exact ⟨t.cl2, t.met2⟩
theorem Txt.me3 (t : Txt P K mg T) : ∀ c, (c == 2) = true → Cls K (T.ca c) ∧ Meth K (T.ca c) "arena" (T.fa 3) := fun c h => by
  have e : c = 2 := by simpa using h
  subst e
  exact ⟨t.cl2, t.met3⟩
theorem Txt.me5 (t : Txt P K mg T) : ∀ c, (c == 3) = true → Cls K (T.ca c) ∧ Meth K (T.ca c) "owner_of" (T.fa 5) := fun c h => by
  have e : c = 3 := by simpa using h
  subst e
  exact ⟨t.cl3, t.met5⟩
theorem Txt.bm5 (t : Txt P K mg T) : ∀ c, (c == 3) = true → Cls K (T.ca c) ∧ BMeth K (T.ca c) "owner_of" (T.fa 5) := fun c h => by
  have e : c = 3 := by simpa using h
  subst e
  exact ⟨t.cl3, t.bmt5⟩
theorem Txt.me6 (t : Txt P K mg T) : ∀ c, (c == 3) = true → Cls K (T.ca c) ∧ Meth K (T.ca c) "steps_of" (T.fa 6) := fun c h => by
  have e : c = 3 := by simpa using h
  subst e
  exact ⟨t.cl3, t.met6⟩
theorem Txt.bm6 (t : Txt P K mg T) : ∀ c, (c == 3) = true → Cls K (T.ca c) ∧ BMeth K (T.ca c) "steps_of" (T.fa 6) := fun c h => by
  have e : c = 3 := by simpa using h
  subst e
  exact ⟨t.cl3, t.bmt6⟩
theorem Txt.xp1 (t : Txt P K mg T) : ∀ c b, tryP1 c = some b → PySem.W.exmOne K (.ref (T.ca c)) (.ref (T.ca 1)) = some b := fun c b h => by
  unfold tryP1 at h
  split at h
  · rename_i e
    subst e
    cases h
    exact t.xe1
  · cases h
theorem scx1 : SupScope ["self", "wait"] (defScope s0) := ⟨rfl, rfl, rfl, by decide +kernel, by decide +kernel, rfl, rfl, by decide +kernel, by decide +kernel⟩
theorem x1 (t : Txt P K mg T) : ∃ fd, FnOk P w K mg base (L2.CX P w) 1 (T.fa 0) fd ["self", "wait"] (spX K (T.ca 1) "wait") ∧ Binds K fd ["self", "wait"] [] := by
  obtain ⟨fd, cda, cc, S⟩ := t.sup1
  refine ⟨fd, fn_exc (k := 0) S scx1 t.ox1 t.xn1 rfl rfl (fun A outer s H xe => ⟨_, pe_op op_add_str pe_str (pe_callTy call_str_int rfl t.n_str bo_str (pa_cons (pe_var (i := 1) rfl (.inl rfl)) pa_nil)), fun a n H hn => ?_⟩) (fun A outer s H xe => ps_ost (pe_var (i := 0) rfl (.inl rfl)) (pe_var (i := 1) rfl (.inl rfl))) (fun s => rfl) (fun s => ⟨_, rfl⟩) (fun s => rfl) (fun s => rfl), .all S.bind⟩
  refine ⟨_, rfl, n, rfl, Nat.lt_trans hn.1 (by decide), _, _, rfl, rfl, ?_, _, rfl, rfl⟩
  exact Nat.le_trans (Nat.add_le_add_left hn.2 _) (by decide +kernel)
theorem d1 (t : Txt P K mg T) : DF ⟨K, P, w, T⟩ mg base 1 1 mi1 := by
  obtain ⟨fd, dvs, ds, F, b, hd, rdv⟩ := t.fn1
  refine df_mkD2 (k := 0) F b hd (rdv P w) sc1 fun cdv A outer s H E hN hr tk fm hp hu => ?_
  exact (ms_cons (ms_setF (me_var (i := 0)) (me_lstM (ma_cons (me_var (i := 1)) ma_nil)) t.na2_found)
  (ms_cons (ms_setF (me_var (i := 0)) (me_dic1 hu (me_var (i := 1)) me_int) t.na2_numbers)
  (ms_cons (ms_setF (me_var (i := 0)) (me_var (i := 2)) t.na2_wait)
  (ms_one (ms_setF (me_var (i := 0)) (me_var (i := 3)) t.na2_most)))))
theorem d2 (t : Txt P K mg T) : DF ⟨K, P, w, T⟩ mg base 3 2 m2 := by
  obtain ⟨fdx1, Fx1, bx1⟩ := x1 (w := w) (base := base) t
  obtain ⟨fd, F, b⟩ := t.fn2
  refine df_mk2 (k := 2) F b sc2 fun cdv A outer s H E hN hr tk fm hp hu => ?_
  exact (ms_cons (ms_if (mt_cmp (opd_nin hu) (me_var (i := 1)) (me_fld (me_var (i := 0)) t.na2_numbers)) (ms_cons (ms_if (mt_cmp (opd_eq hu) (me_callB cd_len t.n_len bo_len (ma_cons (me_fld (me_var (i := 0)) t.na2_found) ma_nil)) (me_fld (me_var (i := 0)) t.na2_most)) (ms_one (ms_raise t.ox1 t.oi1 t.ot1 (Fx1.mono (by decide)) hr bx1 t.mgc1 rfl tk (ma_cons (me_fld (me_var (i := 0)) t.na2_wait) ma_nil))) ms_nil)
  (ms_cons (ms_setX hu (me_fld (me_var (i := 0)) t.na2_numbers) (me_var (i := 1)) (me_callB cd_len t.n_len bo_len (ma_cons (me_fld (me_var (i := 0)) t.na2_found) ma_nil)))
  (ms_one (ms_expr (me_app (me_fld (me_var (i := 0)) t.na2_found) (ma_cons (me_var (i := 1)) ma_nil)))))) ms_nil)
  (ms_one (ms_ret (me_ix hu (me_fld (me_var (i := 0)) t.na2_numbers) (me_var (i := 1))))))
theorem d5 (t : Txt P K mg T) : DF ⟨K, P, w, T⟩ mg base 1 5 m5 := by
  obtain ⟨v_BARE, u_BARE, g_BARE, r_BARE, rd_BARE⟩ := t.r_BARE
  obtain ⟨v_KEEPER, u_KEEPER, g_KEEPER, r_KEEPER, rd_KEEPER⟩ := t.r_KEEPER
  obtain ⟨fd, F, b⟩ := t.fn5
  refine df_mk2 (k := 0) F b sc5 fun cdv A outer s H E hN hr tk fm hp hu => ?_
  exact (ms_one (ms_ret (me_if (mt_cmp (opd_eq hu) (me_var (i := 1)) (me_glob g_BARE r_BARE (rd_BARE _ _))) (me_glob g_KEEPER r_KEEPER (rd_KEEPER _ _)) (me_ix hu (me_ix hu (me_fld (me_var (i := 0)) t.na3_arena) (me_ix hu (me_var (i := 1)) me_int)) me_int))))
theorem d6 (t : Txt P K mg T) : DF ⟨K, P, w, T⟩ mg base 1 6 m6 := by
  obtain ⟨v_BARE, u_BARE, g_BARE, r_BARE, rd_BARE⟩ := t.r_BARE
  obtain ⟨fd, F, b⟩ := t.fn6
  refine df_mk2 (k := 0) F b sc6 fun cdv A outer s H E hN hr tk fm hp hu => ?_
  exact (ms_cons (ms_if (mt_cmp (opd_eq hu) (me_var (i := 1)) (me_glob g_BARE r_BARE (rd_BARE _ _))) (ms_one (ms_ret (me_lstM (ma_cons (me_tup (ma_cons (me_glob g_BARE r_BARE (rd_BARE _ _)) (ma_cons (me_un opd_neg me_int) ma_nil))) ma_nil)))) ms_nil)
  (ms_cons (ms_asg (me_var (i := 1)) (mg_tup rfl (mgs_cons (mg_name (i := 2) hN) (mgs_cons (mg_name (i := 3) hN) mgs_nil)) (gl_cons (gl_cons gl_nil))))
  (ms_cons (ms_set (i := 4) hN (me_lstM ma_nil))
  (ms_cons (ms_for hp rfl (mi_seq (me_ix hu (me_ix hu (me_fld (me_var (i := 0)) t.na3_arena) (me_var (i := 2))) me_int)) (mg_tup rfl (mgs_cons (mg_name (i := 5) hN) (mgs_cons (mg_name (i := 6) hN) mgs_nil)) (gl_cons (gl_cons gl_nil))) (ms_cons (ms_set (i := 7) hN (me_callB (cd_min2 rfl) t.n_min bo_min (ma_cons (me_fld (me_var (i := 0)) t.na3_cap) (ma_cons (me_op opd_add (me_var (i := 3)) (me_var (i := 6))) ma_nil))))
  (ms_one (ms_expr (me_app (me_var (i := 4)) (ma_cons (me_tup (ma_cons (me_if (mt_cmp opd_lt (me_var (i := 7)) me_int) (me_glob g_BARE r_BARE (rd_BARE _ _)) (me_tup (ma_cons (me_var (i := 5)) (ma_cons (me_var (i := 7)) ma_nil)))) (ma_cons (me_var (i := 6)) ma_nil))) ma_nil))))))
  (ms_one (ms_ret (me_var (i := 4))))))))
theorem tbl_ok (t : Txt P K mg T) : ∀ f m, tbl f = some m → DF ⟨K, P, w, T⟩ mg base 1 f m ∧ PySem.W.fnIn K (T.fa f) = true ∧ PySem.W.keepIn K (.ref (T.fa f)) = true := fun f m h => by
  unfold tbl at h
  split at h
  · rename_i e
    subst e
    cases h
    exact ⟨(d5 t).mono (by decide), t.bmt5.fi, t.met5.kp⟩
  split at h
  · rename_i e
    subst e
    cases h
    exact ⟨(d6 t).mono (by decide), t.bmt6.fi, t.met6.kp⟩
  cases h
theorem d3 (t : Txt P K mg T) : DF ⟨K, P, w, T⟩ mg base 4 3 m3 := by
  obtain ⟨fd, F, b⟩ := t.fn3
  refine df_mk2 (k := 3) F b sc3 fun cdv A outer s H E hN hr tk fm hp hu => ?_
  exact (ms_cons (ms_set (i := 3) hN (me_lstM ma_nil))
  (ms_cons (ms_set (i := 4) hN me_int)
  (ms_cons (ms_while (N := 100000) hp (mt_cmp opd_lt (me_var (i := 4)) (me_callB cd_len t.n_len bo_len (ma_cons (me_fld (me_var (i := 0)) t.na2_found) ma_nil))) (ms_cons (ms_set (i := 5) hN (me_ix hu (me_fld (me_var (i := 0)) t.na2_found) (me_var (i := 4))))
  (ms_cons (ms_expr (me_app (me_var (i := 3)) (ma_cons (me_tup (ma_cons (me_callV (j := 1) (tbl_ok t) (hr.mono (by decide)) tk (ma_cons (me_var (i := 5)) ma_nil)) (ma_cons (me_callTy cd_tuple t.n_tuple bo_tuple (ma_cons (me_comp rfl hN tk fm (blkOk_by (own := [("to", 6), ("weight", 7)]) (show blkC ["self", "owner_of", "steps_of", "rows", "index", "key", "to", "weight"] (defScope s3) _ _ = true by decide +kernel)) (by decide) (mi_seq (me_callV (j := 2) (tbl_ok t) (hr.mono (by decide)) tk (ma_cons (me_var (i := 5)) ma_nil))) (fun _ _ _ _ _ _ => (mg_tup rfl (mgs_cons (mg_name (i := 6) hN) (mgs_cons (mg_name (i := 7) hN) mgs_nil)) (gl_cons (gl_cons gl_nil)))) (fun _ _ _ _ _ _ _ tk => mts_nil) (fun _ _ _ _ _ _ _ tk => (me_tup (ma_cons (me_meth ((d2 t).mono (by decide)) hr tk (me_var (i := 0)) t.me2 (ma_cons (me_var (i := 6)) ma_nil)) (ma_cons (me_var (i := 7)) ma_nil))))) ma_nil)) ma_nil))) ma_nil)))
  (ms_one (ms_aug (i := 4) hN ipd_add me_int)))))
  (ms_one (ms_ret (me_callTy cd_tuple t.n_tuple bo_tuple (ma_cons (me_var (i := 3)) ma_nil)))))))
theorem d4 (t : Txt P K mg T) : DF ⟨K, P, w, T⟩ mg base 1 4 m4 := by
  obtain ⟨fd, F, b⟩ := t.fn4
  refine df_mk2 (k := 0) F b sc4 fun cdv A outer s H E hN hr tk fm hp hu => ?_
  exact (ms_cons (ms_setF (me_var (i := 0)) (me_var (i := 1)) t.na3_arena)
  (ms_one (ms_setF (me_var (i := 0)) (me_var (i := 2)) t.na3_cap)))
theorem d7 (t : Txt P K mg T) : DF ⟨K, P, w, T⟩ mg base 5 7 m7 := by
  obtain ⟨v_BARE, u_BARE, g_BARE, r_BARE, rd_BARE⟩ := t.r_BARE
  obtain ⟨fd, F, b⟩ := t.fn7
  refine df_mk2 (k := 4) F b sc7 fun cdv A outer s H E hN hr tk fm hp hu => ?_
  exact (ms_cons (ms_set (i := 3) hN (me_make t.mk3 ((d4 t).mono (by decide)) hr t.mgc3 tk (ma_cons (me_var (i := 0)) (ma_cons (me_var (i := 1)) ma_nil))))
  (ms_cons (ms_set (i := 4) hN (me_make t.mk2 ((d1 t).mono (by decide)) hr t.mgc2 tk (ma_cons (me_tup (ma_cons (me_var (i := 2)) (ma_cons (me_var (i := 1)) ma_nil))) (ma_cons (me_var (i := 1)) ma_nil))))
  (ms_cons (ms_set (i := 5) hN (me_meth ((d3 t).mono (by decide)) hr tk (me_var (i := 4)) t.me3 (ma_cons (me_bm (me_var (i := 3)) t.bm5) (ma_cons (me_bm (me_var (i := 3)) t.bm6) ma_nil))))
  (ms_one (ms_ret (me_tup (ma_cons (me_var (i := 5)) (ma_cons (me_callTy cd_tuple t.n_tuple bo_tuple (ma_cons (me_comp rfl hN tk fm (blkOk_by (own := [("key", 6)]) (show blkC ["arena", "cap", "state", "world", "unfolding", "found", "key"] (defScope s7) _ _ = true by decide +kernel)) (by decide) (mi_seq (me_fld (me_var (i := 4)) t.na2_found)) (fun _ _ _ _ _ _ => (mg_name (i := 6) hN)) (fun _ _ _ _ _ _ _ tk => mts_nil) (fun _ _ _ _ _ _ _ tk => (me_if (mt_cmp (opd_eq hu) (me_var (i := 6)) (me_glob g_BARE r_BARE (rd_BARE _ _))) me_int me_int))) ma_nil)) (ma_cons (me_callTy cd_tuple t.n_tuple bo_tuple (ma_cons (me_fld (me_var (i := 4)) t.na2_found) ma_nil)) ma_nil)))))))))
theorem d8 (t : Txt P K mg T) : DF ⟨K, P, w, T⟩ mg base 1 8 m8 := by
  obtain ⟨fd, F, b⟩ := t.fn8
  refine df_mk2 (k := 0) F b sc8 fun cdv A outer s H E hN hr tk fm hp hu => ?_
  exact (ms_one (ms_ret (me_lstM (ma_cons (me_callTy cd_list t.n_list bo_list (ma_cons (me_var (i := 0)) ma_nil)) (ma_cons me_int (ma_cons me_int (ma_cons me_int ma_nil)))))))
theorem d9 (t : Txt P K mg T) : DF ⟨K, P, w, T⟩ mg base 1 9 m9 := by
  obtain ⟨fd, F, b⟩ := t.fn9
  refine df_mk2 (k := 0) F b sc9 fun cdv A outer s H E hN hr tk fm hp hu => ?_
  exact (ms_cons (ms_setX hu (me_var (i := 0)) me_int (me_op opd_add (me_ix hu (me_var (i := 0)) me_int) me_int))
  (ms_cons (ms_if (mt_cmp opd_gt (me_ix hu (me_var (i := 0)) me_int) me_int) (ms_cons (ms_set (i := 2) hN (me_op opd_mod (me_callTy cd_int t.n_int bo_int (ma_cons (me_ix hu (me_var (i := 0)) me_int) ma_nil)) (me_var (i := 1))))
  (ms_cons (ms_setX hu (me_var (i := 0)) me_int (me_op opd_div (me_ix hu (me_var (i := 0)) me_int) (me_var (i := 1))))
  (ms_one (ms_ret (me_var (i := 2)))))) ms_nil)
  (ms_cons (ms_set (i := 3) hN me_int)
  (ms_cons (ms_if (mt_cmp opd_gt (me_callB cd_len t.n_len bo_len (ma_cons (me_ix hu (me_var (i := 0)) me_int) ma_nil)) me_int) (ms_one (ms_set (i := 3) hN (me_callB cd_abs t.n_abs bo_abs (ma_cons (me_ix hu (me_ix hu (me_var (i := 0)) me_int) (me_op opd_mod (me_callTy cd_int t.n_int bo_int (ma_cons (me_ix hu (me_var (i := 0)) me_int) ma_nil)) (me_callB cd_len t.n_len bo_len (ma_cons (me_ix hu (me_var (i := 0)) me_int) ma_nil)))) ma_nil)))) ms_nil)
  (ms_cons (ms_setX hu (me_var (i := 0)) me_int (me_op opd_add (me_ix hu (me_var (i := 0)) me_int) me_int))
  (ms_cons (ms_if (mt_cmp opd_ge (me_var (i := 3)) (me_op opd_pow me_int me_int)) (ms_cons (ms_setX hu (me_var (i := 0)) me_int (me_op opd_div (me_var (i := 3)) (me_var (i := 1))))
  (ms_one (ms_ret (me_op opd_mod (me_callTy cd_int t.n_int bo_int (ma_cons (me_var (i := 3)) ma_nil)) (me_var (i := 1)))))) ms_nil)
  (ms_cons (ms_set (i := 4) hN (me_op opd_mod (me_callTy cd_int t.n_int bo_int (ma_cons (me_op opd_add (me_op opd_mul (me_op opd_add (me_var (i := 3)) me_int) me_int) (me_op opd_mul (me_ix hu (me_var (i := 0)) me_int) me_int)) ma_nil)) me_int))
  (ms_cons (ms_set (i := 4) hN (me_op opd_mod (me_callTy cd_int t.n_int bo_int (ma_cons (me_op opd_add (me_op opd_add (me_op opd_mul (me_var (i := 4)) me_int) (me_op opd_div (me_var (i := 3)) me_int)) (me_ix hu (me_var (i := 0)) me_int)) ma_nil)) me_int))
  (ms_one (ms_ret (me_op opd_mod (me_op opd_div (me_var (i := 4)) me_int) (me_var (i := 1)))))))))))))
theorem d10 (t : Txt P K mg T) : DF ⟨K, P, w, T⟩ mg base 1 10 m10 := by
  obtain ⟨fd, F, b⟩ := t.fn10
  refine df_mk2 (k := 0) F b sc10 fun cdv A outer s H E hN hr tk fm hp hu => ?_
  exact (ms_one (ms_ret (me_and (me_isi t.n_isinstance t.n_int bo_int (me_var (i := 0))) (me_one (me_not (me_isi t.n_isinstance t.n_bool bo_bool (me_var (i := 0))))))))
theorem d11 (t : Txt P K mg T) : ∀ n, DF ⟨K, P, w, T⟩ mg base (n + 2) 11 (m11 n) := by
  intro n
  induction n with
  | zero => exact df_bad
  | succ n ih =>
    obtain ⟨fd, F, b⟩ := t.fn11
    refine DF.mono (j := n + 2 + 1) (DF.as (df_mk2 (k := n + 2) F b sc11 (c := (let m := m11 n; (cSeq (cIfS (cB (cIsi "tuple" (cVar 1))) (cSeq (cIfS (cOr (cNot (cB (cIsi "tuple" (cVar 0)))) (cB (c2 neD (cn lenD (cCons (cVar 0) cNil)) (cn lenD (cCons (cVar 1) cNil))))) (cRet (cC (.bl false))) cEnd)
  (cRet (cn allD (cCons (cComp [2] (cRg1 (cCons (cn lenD (cCons (cVar 1) cNil)) cNil)) (gN 2) cYes (cCall m (cCons (c2 (orD atD dgetD) (cVar 0) (cVar 2)) (cCons (c2 (orD atD dgetD) (cVar 1) (cVar 2)) cNil)))) cNil)))) cEnd)
  (cSeq (cIfS (cB (cIsi "str" (cVar 1))) (cRet (cAndV (cIsi "str" (cVar 0)) (c2 eqD (cVar 0) (cVar 1)))) cEnd)
  (cRet (cAndV (cCall m10 (cCons (cVar 0) cNil)) (c2 eqD (cVar 0) (cVar 1)))))))) fun cdv A outer s H E hN hr tk fm hp hu => ?_) rfl) (by omega)
    exact (ms_cons (ms_if (mt_val (me_isi t.n_isinstance t.n_tuple bo_tuple (me_var (i := 1)))) (ms_cons (ms_if (PW.pt (mt_or (mt_not (mt_val (me_isi t.n_isinstance t.n_tuple bo_tuple (me_var (i := 0))))) (mt_or1 (mt_cmp (opd_ne hu) (me_callB cd_len t.n_len bo_len (ma_cons (me_var (i := 0)) ma_nil)) (me_callB cd_len t.n_len bo_len (ma_cons (me_var (i := 1)) ma_nil)))))) (ms_one (ms_ret me_bl)) ms_nil)
  (ms_one (ms_ret (me_callB (cd_all rfl) t.n_all bo_all (ma_cons (me_comp rfl hN tk fm (blkOk_by (own := [("k", 2)]) (show blkC ["x", "y", "k"] (defScope s11) _ _ = true by decide +kernel)) (by decide) (mi_range1 t.n_range (ma_cons (me_callB cd_len t.n_len bo_len (ma_cons (me_var (i := 1)) ma_nil)) ma_nil)) (fun _ _ _ _ _ _ => (mg_name (i := 2) hN)) (fun _ _ _ _ _ _ _ tk => mts_nil) (fun _ _ _ _ _ _ _ tk => (me_call (ih.mono (by omega)) hr t.mg11 t.kp11 tk (ma_cons (me_ix hu (me_var (i := 0)) (me_var (i := 2))) (ma_cons (me_ix hu (me_var (i := 1)) (me_var (i := 2))) ma_nil))))) ma_nil))))) ms_nil)
  (ms_cons (ms_if (mt_val (me_isi t.n_isinstance t.n_str bo_str (me_var (i := 1)))) (ms_one (ms_ret (me_and (me_isi t.n_isinstance t.n_str bo_str (me_var (i := 0))) (me_one (me_cmp (opd_eq hu) (me_var (i := 0)) (me_var (i := 1))))))) ms_nil)
  (ms_one (ms_ret (me_and (me_call ((d10 t).mono (by omega)) hr t.mg10 t.kp10 tk (ma_cons (me_var (i := 0)) ma_nil)) (me_one (me_cmp (opd_eq hu) (me_var (i := 0)) (me_var (i := 1)))))))))
theorem d12 (t : Txt P K mg T) : DF ⟨K, P, w, T⟩ mg base 2 12 m12 := by
  obtain ⟨fd, F, b⟩ := t.fn12
  refine df_mk2 (k := 1) F b sc12 fun cdv A outer s H E hN hr tk fm hp hu => ?_
  exact (ms_cons (ms_set (i := 4) hN (me_lstM ma_nil))
  (ms_cons (ms_for hp rfl (mi_range1 t.n_range (ma_cons (me_var (i := 1)) ma_nil)) (mg_name (i := 5) hN) (ms_cons (ms_set (i := 6) hN (me_lstM ma_nil))
  (ms_cons (ms_for hp rfl (mi_range1 t.n_range (ma_cons (me_op opd_add me_int (me_call ((d9 t).mono (by decide)) hr t.mg9 t.kp9 tk (ma_cons (me_var (i := 0)) (ma_cons (me_var (i := 2)) ma_nil)))) ma_nil)) (mg_name (i := 7) hN) (ms_one (ms_expr (me_app (me_var (i := 6)) (ma_cons (me_tup (ma_cons (me_call ((d9 t).mono (by decide)) hr t.mg9 t.kp9 tk (ma_cons (me_var (i := 0)) (ma_cons (me_var (i := 1)) ma_nil))) (ma_cons (me_op opd_sub (me_call ((d9 t).mono (by decide)) hr t.mg9 t.kp9 tk (ma_cons (me_var (i := 0)) (ma_cons (me_op opd_add (me_op opd_mul me_int (me_var (i := 3))) me_int) ma_nil))) (me_var (i := 3))) ma_nil))) ma_nil)))))
  (ms_one (ms_expr (me_app (me_var (i := 4)) (ma_cons (me_tup (ma_cons (me_call ((d9 t).mono (by decide)) hr t.mg9 t.kp9 tk (ma_cons (me_var (i := 0)) (ma_cons me_int ma_nil))) (ma_cons (me_callTy cd_tuple t.n_tuple bo_tuple (ma_cons (me_var (i := 6)) ma_nil)) ma_nil))) ma_nil)))))))
  (ms_one (ms_ret (me_callTy cd_tuple t.n_tuple bo_tuple (ma_cons (me_var (i := 4)) ma_nil))))))
theorem d13 (t : Txt P K mg T) : DF ⟨K, P, w, T⟩ mg base 1 13 m13 := by
  obtain ⟨fd, F, b⟩ := t.fn13
  refine df_mk2 (k := 0) F b sc13 fun cdv A outer s H E hN hr tk fm hp hu => ?_
  exact (ms_cons (ms_if (mt_cmp (opd_nin hu) (me_var (i := 2)) (me_var (i := 1))) (ms_cons (ms_setX hu (me_var (i := 1)) (me_var (i := 2)) (me_callB cd_len t.n_len bo_len (ma_cons (me_var (i := 0)) ma_nil)))
  (ms_one (ms_expr (me_app (me_var (i := 0)) (ma_cons (me_var (i := 2)) ma_nil))))) ms_nil)
  (ms_one (ms_ret (me_ix hu (me_var (i := 1)) (me_var (i := 2))))))
theorem d14 (t : Txt P K mg T) : DF ⟨K, P, w, T⟩ mg base 2 14 m14 := by
  obtain ⟨fd, F, b⟩ := t.fn14
  refine df_mk2 (k := 1) F b sc14 fun cdv A outer s H E hN hr tk fm hp hu => ?_
  exact (ms_cons (ms_set (i := 3) hN (me_lstM (ma_cons (me_tup (ma_cons (me_var (i := 2)) (ma_cons (me_var (i := 1)) ma_nil))) ma_nil)))
  (ms_cons (ms_set (i := 4) hN (me_dic1 hu (me_ix hu (me_var (i := 3)) me_int) me_int))
  (ms_cons (ms_set (i := 5) hN (me_lstM ma_nil))
  (ms_cons (ms_for hp rfl (mi_range1 t.n_range (ma_cons me_int ma_nil)) (mg_name (i := 6) hN) (ms_one (ms_if (PW.pt (mt_and (mt_cmp opd_lt (me_var (i := 6)) (me_callB cd_len t.n_len bo_len (ma_cons (me_var (i := 3)) ma_nil))) (mt_and1 (mt_cmp opd_le (me_callB cd_len t.n_len bo_len (ma_cons (me_var (i := 3)) ma_nil)) me_int)))) (ms_cons (ms_set (i := 7) hN (me_ix hu (me_var (i := 3)) (me_var (i := 6))))
  (ms_one (ms_if (mt_cmp (opd_eq hu) (me_var (i := 7)) (me_tup (ma_cons me_str ma_nil))) (ms_one (ms_expr (me_app (me_var (i := 5)) (ma_cons (me_tup (ma_cons me_int (ma_cons (me_tup (ma_cons (me_tup (ma_cons (me_var (i := 6)) (ma_cons (me_un opd_neg me_int) ma_nil))) ma_nil)) ma_nil))) ma_nil)))) (ms_cons (ms_set (i := 8) hN (me_lstM ma_nil))
  (ms_cons (ms_for hp rfl (mi_seq (me_ix hu (me_ix hu (me_var (i := 0)) (me_ix hu (me_var (i := 7)) me_int)) me_int)) (mg_tup rfl (mgs_cons (mg_name (i := 9) hN) (mgs_cons (mg_name (i := 10) hN) mgs_nil)) (gl_cons (gl_cons gl_nil))) (ms_cons (ms_set (i := 11) hN (me_tup (ma_cons (me_var (i := 9)) (ma_cons (me_callB (cd_min2 rfl) t.n_min bo_min (ma_cons (me_var (i := 1)) (ma_cons (me_op opd_add (me_ix hu (me_var (i := 7)) me_int) (me_var (i := 10))) ma_nil))) ma_nil))))
  (ms_cons (ms_if (mt_cmp opd_lt (me_ix hu (me_var (i := 11)) me_int) me_int) (ms_one (ms_set (i := 11) hN (me_tup (ma_cons me_str ma_nil)))) ms_nil)
  (ms_one (ms_expr (me_app (me_var (i := 8)) (ma_cons (me_tup (ma_cons (me_call ((d13 t).mono (by decide)) hr t.mg13 t.kp13 tk (ma_cons (me_var (i := 3)) (ma_cons (me_var (i := 4)) (ma_cons (me_var (i := 11)) ma_nil)))) (ma_cons (me_var (i := 10)) ma_nil))) ma_nil)))))))
  (ms_one (ms_expr (me_app (me_var (i := 5)) (ma_cons (me_tup (ma_cons (me_ix hu (me_ix hu (me_var (i := 0)) (me_ix hu (me_var (i := 7)) me_int)) me_int) (ma_cons (me_callTy cd_tuple t.n_tuple bo_tuple (ma_cons (me_var (i := 8)) ma_nil)) ma_nil))) ma_nil))))))))) ms_nil)))
  (ms_cons (ms_if (mt_cmp opd_gt (me_callB cd_len t.n_len bo_len (ma_cons (me_var (i := 3)) ma_nil)) me_int) (ms_one (ms_ret me_non)) ms_nil)
  (ms_one (ms_ret (me_tup (ma_cons (me_callTy cd_tuple t.n_tuple bo_tuple (ma_cons (me_var (i := 5)) ma_nil)) (ma_cons (me_callTy cd_tuple t.n_tuple bo_tuple (ma_cons (me_comp rfl hN tk fm (blkOk_by (own := [("key", 7)]) (show blkC ["arena", "cap", "start", "keys", "numbers", "rows", "at", "key", "moves", "target", "weight", "later"] (defScope s14) _ _ = true by decide +kernel)) (by decide) (mi_seq (me_var (i := 3))) (fun _ _ _ _ _ _ => (mg_name (i := 7) hN)) (fun _ _ _ _ _ _ _ tk => mts_nil) (fun _ _ _ _ _ _ _ tk => (me_callTy cd_int t.n_int bo_int (ma_cons (me_cmp (opd_eq hu) (me_var (i := 7)) (me_tup (ma_cons me_str ma_nil))) ma_nil)))) ma_nil)) (ma_cons (me_callTy cd_tuple t.n_tuple bo_tuple (ma_cons (me_var (i := 3)) ma_nil)) ma_nil)))))))))))
theorem d15 (t : Txt P K mg T) : DF ⟨K, P, w, T⟩ mg base 3 15 m15 := by
  obtain ⟨fd, F, b⟩ := t.fn15
  refine df_mk2 (k := 2) F b sc15 fun cdv A outer s H E hN hr tk fm hp hu => ?_
  exact (ms_cons (ms_set (i := 1) hN (me_call ((d12 t).mono (by decide)) hr t.mg12 t.kp12 tk (ma_cons (me_var (i := 0)) (ma_cons (me_op opd_add me_int (me_call ((d9 t).mono (by decide)) hr t.mg9 t.kp9 tk (ma_cons (me_var (i := 0)) (ma_cons me_int ma_nil)))) (ma_cons me_int (ma_cons me_int ma_nil))))))
  (ms_cons (ms_if (mt_cmp opd_gt (me_call ((d9 t).mono (by decide)) hr t.mg9 t.kp9 tk (ma_cons (me_var (i := 0)) (ma_cons me_int ma_nil))) me_int) (ms_one (ms_ret (me_var (i := 1)))) ms_nil)
  (ms_cons (ms_set (i := 2) hN (me_call ((d9 t).mono (by decide)) hr t.mg9 t.kp9 tk (ma_cons (me_var (i := 0)) (ma_cons (me_callB cd_len t.n_len bo_len (ma_cons (me_var (i := 1)) ma_nil)) ma_nil))))
  (ms_cons (ms_asg (me_ix hu (me_var (i := 1)) (me_var (i := 2))) (mg_tup rfl (mgs_cons (mg_name (i := 3) hN) (mgs_cons (mg_name (i := 4) hN) mgs_nil)) (gl_cons (gl_cons gl_nil))))
  (ms_cons (ms_set (i := 5) hN (me_tup (ma_cons (me_ix hu (me_ix hu (me_var (i := 4)) me_int) me_int) (ma_cons (me_op opd_add (me_op opd_mul (me_ix hu (me_ix hu (me_var (i := 4)) me_int) me_int) (me_op opd_pow me_int me_int)) me_int) ma_nil))))
  (ms_one (ms_ret (me_op opd_add (me_op opd_add (me_slice (me_var (i := 1)) mo_no (mo_part (me_var (i := 2)))) (me_tup (ma_cons (me_tup (ma_cons (me_var (i := 3)) (ma_cons (me_op opd_add (me_tup (ma_cons (me_var (i := 5)) ma_nil)) (me_var (i := 4))) ma_nil))) ma_nil))) (me_slice (me_var (i := 1)) (mo_part (me_op opd_add (me_var (i := 2)) me_int)) mo_no)))))))))
theorem d16 (t : Txt P K mg T) : DF ⟨K, P, w, T⟩ mg base 6 16 m16 := by
  obtain ⟨fd, F, b⟩ := t.fn16
  refine df_mk2 (k := 5) F b sc16 fun cdv A outer s H E hN hr tk fm hp hu => ?_
  exact (ms_one (ms_try_tup (i := 3) (P := tryP1) fm hN ⟨rfl, by decide, .inl t.mgc1⟩ tk t.xf1 t.xn1 t.xp1 (fun _ _ _ tk hp => (ms_one (ms_ret (me_call ((d7 t).mono (by decide)) hr t.mg7 t.kp7 tk (ma_cons (me_var (i := 0)) (ma_cons (me_var (i := 1)) (ma_cons (me_var (i := 2)) ma_nil)))))))))
theorem law_ok (t : Txt P K mg T) : LawOk P w K mg T (T.fa 17) m17 := by
  intro base s H u v Q E hK hns e0 r hsp
  obtain ⟨fd, F, b⟩ := t.fn17
  have KX : K.In s.heap := e0.mod.kin.keeps fun b o e => (e0.bs b o e).1
  refine law_run (k := 10) (ps := ["script"]) (N := ["script", "state", "arena", "before", "asked", "turn", "cap", "start", "due"]) F sc17 ⟨rfl, by decide, by decide⟩ e0 (b s [u] KX rfl) r hsp fun cdv hr => ?_
  have hN := sc17.nd
  have tk : Takes (cxOf (L2.CX P w) P w K mg base ["script", "state", "arena", "before", "asked", "turn", "cap", "start", "due"] "law" (defScope s17) (T.fa 17) cdv callerA [] s H E) (fun cls d _ H' => E cls d H') := takes_of rfl rfl rfl rfl
  have fm : Fram (cxOf (L2.CX P w) P w K mg base ["script", "state", "arena", "before", "asked", "turn", "cap", "start", "due"] "law" (defScope s17) (T.fa 17) cdv callerA [] s H E) := ⟨rfl, rfl⟩
  have hp : PassesOwn (model P w) (cxOf (L2.CX P w) P w K mg base ["script", "state", "arena", "before", "asked", "turn", "cap", "start", "due"] "law" (defScope s17) (T.fa 17) cdv callerA [] s H E).A (cxOf (L2.CX P w) P w K mg base ["script", "state", "arena", "before", "asked", "turn", "cap", "start", "due"] "law" (defScope s17) (T.fa 17) cdv callerA [] s H E).env (cxOf (L2.CX P w) P w K mg base ["script", "state", "arena", "before", "asked", "turn", "cap", "start", "due"] "law" (defScope s17) (T.fa 17) cdv callerA [] s H E).xe := passes_of rfl
  have hu := hr.units
  have hgd : (cxOf (L2.CX P w) P w K mg base ["script", "state", "arena", "before", "asked", "turn", "cap", "start", "due"] "law" (defScope s17) (T.fa 17) cdv callerA [] s H E).A.guards = some [] := rfl
  have hu80 : (cxOf (L2.CX P w) P w K mg base ["script", "state", "arena", "before", "asked", "turn", "cap", "start", "due"] "law" (defScope s17) (T.fa 17) cdv callerA [] s H E).A.units + 80 < cLine := by
    have h := hr.un
    show (callerA.deeper (envL "law" (defScope s17) s (T.fa 17) cdv)).units + 80 < cLine
    omega
  exact (ms_cons (ms_set (i := 1) hN (me_call ((d8 t).mono (by decide)) hr t.mg8 t.kp8 tk (ma_cons (me_var (i := 0)) ma_nil)))
  (ms_cons (ms_set (i := 2) hN (me_call ((d15 t).mono (by decide)) hr t.mg15 t.kp15 tk (ma_cons (me_var (i := 1)) ma_nil)))
  (ms_cons (ms_set (i := 3) hN (me_callB (cd_repr hgd hu80) t.n_repr bo_repr (ma_cons (me_var (i := 2)) ma_nil)))
  (ms_cons (ms_set (i := 4) hN (me_lstM ma_nil))
  (ms_cons (ms_for hp rfl (mi_range1 t.n_range (ma_cons me_int ma_nil)) (mg_name (i := 5) hN) (ms_cons (ms_set (i := 6) hN (me_ix hu (me_lstM (ma_cons (me_call ((d9 t).mono (by decide)) hr t.mg9 t.kp9 tk (ma_cons (me_var (i := 1)) (ma_cons me_int ma_nil))) (ma_cons (me_call ((d9 t).mono (by decide)) hr t.mg9 t.kp9 tk (ma_cons (me_var (i := 1)) (ma_cons me_int ma_nil))) ma_nil))) (me_callTy cd_int t.n_int bo_int (ma_cons (me_cmp (opd_eq hu) (me_call ((d9 t).mono (by decide)) hr t.mg9 t.kp9 tk (ma_cons (me_var (i := 1)) (ma_cons me_int ma_nil))) me_int) ma_nil))))
  (ms_one (ms_expr (me_app (me_var (i := 4)) (ma_cons (me_tup (ma_cons (me_var (i := 6)) (ma_cons (me_call ((d9 t).mono (by decide)) hr t.mg9 t.kp9 tk (ma_cons (me_var (i := 1)) (ma_cons (me_callB cd_len t.n_len bo_len (ma_cons (me_var (i := 2)) ma_nil)) ma_nil))) ma_nil))) ma_nil))))))
  (ms_cons (ms_for hp rfl (mi_seq (me_op opd_add (me_var (i := 4)) (me_slice (me_var (i := 4)) mo_no (mo_part me_int)))) (mg_tup rfl (mgs_cons (mg_name (i := 6) hN) (mgs_cons (mg_name (i := 7) hN) mgs_nil)) (gl_cons (gl_cons gl_nil))) (ms_cons (ms_set (i := 8) hN (me_call ((d14 t).mono (by decide)) hr t.mg14 t.kp14 tk (ma_cons (me_var (i := 2)) (ma_cons (me_var (i := 6)) (ma_cons (me_var (i := 7)) ma_nil)))))
  (ms_cons (ms_if (mt_isN (me_var (i := 8))) (ms_one (ms_set (i := 8) hN (me_tup (ma_cons me_str (ma_cons (me_var (i := 6)) ma_nil))))) ms_nil)
  (ms_one (ms_if (mt_not (mt_val (me_call ((d11 t 8).mono (by decide)) hr t.mg11 t.kp11 tk (ma_cons (me_call ((d16 t).mono (by decide)) hr t.mg16 t.kp16 tk (ma_cons (me_var (i := 2)) (ma_cons (me_var (i := 6)) (ma_cons (me_var (i := 7)) ma_nil)))) (ma_cons (me_var (i := 8)) ma_nil))))) (ms_one (ms_ret me_bl)) ms_nil)))))
  (ms_one (ms_ret (me_cmp (opd_eq hu) (me_callB (cd_repr hgd hu80) t.n_repr bo_repr (ma_cons (me_var (i := 2)) ma_nil)) (me_var (i := 3)))))))))))
end
theorem all_mk {P : Program} {w : World} {K : PySem.W.Frag} {mg : Str → Option Value} {h : Heap} {fa : Addr} (X : K.In h) (G : h.Ns mainGlobals mg) (hfa : mg "law" = some (.ref fa))
    {f1 : Addr} {f2 : Addr} {f5 : Addr} {f6 : Addr} {f3 : Addr} {f4 : Addr} {f7 : Addr} {f8 : Addr} {f9 : Addr} {f10 : Addr} {f11 : Addr} {f12 : Addr} {f13 : Addr} {f14 : Addr} {f15 : Addr} {f16 : Addr} {f17 : Addr} {f0 : Addr} {C2 : Addr} {C3 : Addr} {C1 : Addr} {A_BARE : Addr} {t_BARE0 : Tok} {od_BARE : Option Addr} {n_BARE : Nat} {sl_BARE : Array (Option Value)} {t_KEEPER : Tok} {oc1 : Value} {od1 : Option Addr} {kV1 : Value} {dc1 : Value} {pm1 : Value} {an1 : Option Addr} {cd1 : Value} {ct1 : Value} {sl1 : Array (Option Value)} {Td1 : Addr} {td1_0 : Tok} {ocd1 : Value} {odd1 : Option Addr} {nd1 : Nat} {sld1 : Array (Option Value)} {oc2 : Value} {od2 : Option Addr} {kV2 : Value} {dc2 : Value} {pm2 : Value} {an2 : Option Addr} {cd2 : Value} {ct2 : Value} {sl2 : Array (Option Value)} {oc5 : Value} {od5 : Option Addr} {kV5 : Value} {dc5 : Value} {pm5 : Value} {an5 : Option Addr} {cd5 : Value} {ct5 : Value} {sl5 : Array (Option Value)} {oc6 : Value} {od6 : Option Addr} {kV6 : Value} {dc6 : Value} {pm6 : Value} {an6 : Option Addr} {cd6 : Value} {ct6 : Value} {sl6 : Array (Option Value)} {oc3 : Value} {od3 : Option Addr} {kV3 : Value} {dc3 : Value} {pm3 : Value} {an3 : Option Addr} {cd3 : Value} {ct3 : Value} {sl3 : Array (Option Value)} {oc4 : Value} {od4 : Option Addr} {kV4 : Value} {dc4 : Value} {pm4 : Value} {an4 : Option Addr} {cd4 : Value} {ct4 : Value} {sl4 : Array (Option Value)} {oc7 : Value} {od7 : Option Addr} {kV7 : Value} {dc7 : Value} {pm7 : Value} {an7 : Option Addr} {cd7 : Value} {ct7 : Value} {sl7 : Array (Option Value)} {oc8 : Value} {od8 : Option Addr} {kV8 : Value} {dc8 : Value} {pm8 : Value} {an8 : Option Addr} {cd8 : Value} {ct8 : Value} {sl8 : Array (Option Value)} {oc9 : Value} {od9 : Option Addr} {kV9 : Value} {dc9 : Value} {pm9 : Value} {an9 : Option Addr} {cd9 : Value} {ct9 : Value} {sl9 : Array (Option Value)} {oc10 : Value} {od10 : Option Addr} {kV10 : Value} {dc10 : Value} {pm10 : Value} {an10 : Option Addr} {cd10 : Value} {ct10 : Value} {sl10 : Array (Option Value)} {oc11 : Value} {od11 : Option Addr} {kV11 : Value} {dc11 : Value} {pm11 : Value} {an11 : Option Addr} {cd11 : Value} {ct11 : Value} {sl11 : Array (Option Value)} {oc12 : Value} {od12 : Option Addr} {kV12 : Value} {dc12 : Value} {pm12 : Value} {an12 : Option Addr} {cd12 : Value} {ct12 : Value} {sl12 : Array (Option Value)} {oc13 : Value} {od13 : Option Addr} {kV13 : Value} {dc13 : Value} {pm13 : Value} {an13 : Option Addr} {cd13 : Value} {ct13 : Value} {sl13 : Array (Option Value)} {oc14 : Value} {od14 : Option Addr} {kV14 : Value} {dc14 : Value} {pm14 : Value} {an14 : Option Addr} {cd14 : Value} {ct14 : Value} {sl14 : Array (Option Value)} {oc15 : Value} {od15 : Option Addr} {kV15 : Value} {dc15 : Value} {pm15 : Value} {an15 : Option Addr} {cd15 : Value} {ct15 : Value} {sl15 : Array (Option Value)} {oc16 : Value} {od16 : Option Addr} {kV16 : Value} {dc16 : Value} {pm16 : Value} {an16 : Option Addr} {cd16 : Value} {ct16 : Value} {sl16 : Array (Option Value)} {oc17 : Value} {od17 : Option Addr} {kV17 : Value} {dc17 : Value} {pm17 : Value} {an17 : Option Addr} {cd17 : Value} {ct17 : Value} {sl17 : Array (Option Value)} {nmx1 : Str} {qx1 : Str} {Nx1 : Addr} {bsx1 : List Value} {bmx1 : List Value} {snx1 : List Str} {subx1 : List Value} {abx1 : Bool} {colx1 : Option Bool} {ddx1 : Option Addr} {m0x1 : Option Value} {m1x1 : Option Value} {m2x1 : Option Value} {m3x1 : Option Value} {m5x1 : Option Value} {oc0 : Value} {od0 : Option Addr} {kV0 : Value} {dc0 : Value} {pm0 : Value} {an0 : Option Addr} {cda0 : Addr} {ct0 : Value} {sl0 : Array (Option Value)} {cc0 : Addr} {ocl0 : Value} {ocd0 : Option Addr} {vs0 : Array Value} {ocs0 : Array (Option Value)} {file0 : Str} {tf0 : Tok} {cl0_ : Value} {cld0 : Option Addr} {csl0 : Array (Option Value)}
    (z_abs : PySem.W.nsIn K mainGlobals "abs" = some none)
    (z_all : PySem.W.nsIn K mainGlobals "all" = some none)
    (z_bool : PySem.W.nsIn K mainGlobals "bool" = some none)
    (z_int : PySem.W.nsIn K mainGlobals "int" = some none)
    (z_isinstance : PySem.W.nsIn K mainGlobals "isinstance" = some none)
    (z_len : PySem.W.nsIn K mainGlobals "len" = some none)
    (z_list : PySem.W.nsIn K mainGlobals "list" = some none)
    (z_min : PySem.W.nsIn K mainGlobals "min" = some none)
    (z_range : PySem.W.nsIn K mainGlobals "range" = some none)
    (z_repr : PySem.W.nsIn K mainGlobals "repr" = some none)
    (z_str : PySem.W.nsIn K mainGlobals "str" = some none)
    (z_tuple : PySem.W.nsIn K mainGlobals "tuple" = some none)
    (a_BARE : PySem.W.nsIn K mainGlobals "BARE" = some (some (.ref A_BARE)))
    (l_BARE : K.lookup A_BARE = some ⟨.type "tuple", od_BARE, .seq #[.str "empty" t_BARE0] n_BARE, sl_BARE⟩)
    (a_KEEPER : PySem.W.nsIn K mainGlobals "KEEPER" = some (some (.int 0 t_KEEPER)))
    (a_cls2 : PySem.W.nsIn K mainGlobals "Unfolding" = some (some (.ref C2)))
    (a1 : PySem.W.findIn K (.ref C2) "__init__" = some (some (.ref f1)))
    (i1 : PySem.W.isFn K (.ref f1) = true)
    (l1 : K.lookup f1 = some ⟨oc1, od1, .func (PySem.W.fnOf "__init__" "Unfolding.__init__" (defArgs s1) (defBody s1) (defScope s1) (.ref Td1) kV1 dc1 pm1 an1 cd1 ct1), sl1⟩)
    (c1 : PySem.W.codeIn K cd1 "Unfolding.__init__" = true)
    (k1 : PySem.W.keepIn K (.ref f1) = true)
    (ld1 : K.lookup Td1 = some ⟨ocd1, odd1, .seq #[.int 600 td1_0] nd1, sld1⟩)
    (a2 : PySem.W.findIn K (.ref C2) "number" = some (some (.ref f2)))
    (i2 : PySem.W.isFn K (.ref f2) = true)
    (l2 : K.lookup f2 = some ⟨oc2, od2, .func (PySem.W.fnOf "number" "Unfolding.number" (defArgs s2) (defBody s2) (defScope s2) .none kV2 dc2 pm2 an2 cd2 ct2), sl2⟩)
    (c2 : PySem.W.codeIn K cd2 "Unfolding.number" = true)
    (k2 : PySem.W.keepIn K (.ref f2) = true)
    (a_cls3 : PySem.W.nsIn K mainGlobals "CapWorld" = some (some (.ref C3)))
    (a5 : PySem.W.findIn K (.ref C3) "owner_of" = some (some (.ref f5)))
    (i5 : PySem.W.isFn K (.ref f5) = true)
    (l5 : K.lookup f5 = some ⟨oc5, od5, .func (PySem.W.fnOf "owner_of" "CapWorld.owner_of" (defArgs s5) (defBody s5) (defScope s5) .none kV5 dc5 pm5 an5 cd5 ct5), sl5⟩)
    (c5 : PySem.W.codeIn K cd5 "CapWorld.owner_of" = true)
    (k5 : PySem.W.keepIn K (.ref f5) = true)
    (a6 : PySem.W.findIn K (.ref C3) "steps_of" = some (some (.ref f6)))
    (i6 : PySem.W.isFn K (.ref f6) = true)
    (l6 : K.lookup f6 = some ⟨oc6, od6, .func (PySem.W.fnOf "steps_of" "CapWorld.steps_of" (defArgs s6) (defBody s6) (defScope s6) .none kV6 dc6 pm6 an6 cd6 ct6), sl6⟩)
    (c6 : PySem.W.codeIn K cd6 "CapWorld.steps_of" = true)
    (k6 : PySem.W.keepIn K (.ref f6) = true)
    (a3 : PySem.W.findIn K (.ref C2) "arena" = some (some (.ref f3)))
    (i3 : PySem.W.isFn K (.ref f3) = true)
    (l3 : K.lookup f3 = some ⟨oc3, od3, .func (PySem.W.fnOf "arena" "Unfolding.arena" (defArgs s3) (defBody s3) (defScope s3) .none kV3 dc3 pm3 an3 cd3 ct3), sl3⟩)
    (c3 : PySem.W.codeIn K cd3 "Unfolding.arena" = true)
    (k3 : PySem.W.keepIn K (.ref f3) = true)
    (a4 : PySem.W.findIn K (.ref C3) "__init__" = some (some (.ref f4)))
    (i4 : PySem.W.isFn K (.ref f4) = true)
    (l4 : K.lookup f4 = some ⟨oc4, od4, .func (PySem.W.fnOf "__init__" "CapWorld.__init__" (defArgs s4) (defBody s4) (defScope s4) .none kV4 dc4 pm4 an4 cd4 ct4), sl4⟩)
    (c4 : PySem.W.codeIn K cd4 "CapWorld.__init__" = true)
    (k4 : PySem.W.keepIn K (.ref f4) = true)
    (a7 : PySem.W.nsIn K mainGlobals "capped" = some (some (.ref f7)))
    (l7 : K.lookup f7 = some ⟨oc7, od7, .func (PySem.W.fnOf "capped" "capped" (defArgs s7) (defBody s7) (defScope s7) .none kV7 dc7 pm7 an7 cd7 ct7), sl7⟩)
    (c7 : PySem.W.codeIn K cd7 "capped" = true)
    (k7 : PySem.W.keepIn K (.ref f7) = true)
    (a8 : PySem.W.nsIn K mainGlobals "_law_start" = some (some (.ref f8)))
    (l8 : K.lookup f8 = some ⟨oc8, od8, .func (PySem.W.fnOf "_law_start" "_law_start" (defArgs s8) (defBody s8) (defScope s8) .none kV8 dc8 pm8 an8 cd8 ct8), sl8⟩)
    (c8 : PySem.W.codeIn K cd8 "_law_start" = true)
    (k8 : PySem.W.keepIn K (.ref f8) = true)
    (a9 : PySem.W.nsIn K mainGlobals "_law_draw" = some (some (.ref f9)))
    (l9 : K.lookup f9 = some ⟨oc9, od9, .func (PySem.W.fnOf "_law_draw" "_law_draw" (defArgs s9) (defBody s9) (defScope s9) .none kV9 dc9 pm9 an9 cd9 ct9), sl9⟩)
    (c9 : PySem.W.codeIn K cd9 "_law_draw" = true)
    (k9 : PySem.W.keepIn K (.ref f9) = true)
    (a10 : PySem.W.nsIn K mainGlobals "_law_is_int" = some (some (.ref f10)))
    (l10 : K.lookup f10 = some ⟨oc10, od10, .func (PySem.W.fnOf "_law_is_int" "_law_is_int" (defArgs s10) (defBody s10) (defScope s10) .none kV10 dc10 pm10 an10 cd10 ct10), sl10⟩)
    (c10 : PySem.W.codeIn K cd10 "_law_is_int" = true)
    (k10 : PySem.W.keepIn K (.ref f10) = true)
    (a11 : PySem.W.nsIn K mainGlobals "_law_same" = some (some (.ref f11)))
    (l11 : K.lookup f11 = some ⟨oc11, od11, .func (PySem.W.fnOf "_law_same" "_law_same" (defArgs s11) (defBody s11) (defScope s11) .none kV11 dc11 pm11 an11 cd11 ct11), sl11⟩)
    (c11 : PySem.W.codeIn K cd11 "_law_same" = true)
    (k11 : PySem.W.keepIn K (.ref f11) = true)
    (a12 : PySem.W.nsIn K mainGlobals "_law_arena" = some (some (.ref f12)))
    (l12 : K.lookup f12 = some ⟨oc12, od12, .func (PySem.W.fnOf "_law_arena" "_law_arena" (defArgs s12) (defBody s12) (defScope s12) .none kV12 dc12 pm12 an12 cd12 ct12), sl12⟩)
    (c12 : PySem.W.codeIn K cd12 "_law_arena" = true)
    (k12 : PySem.W.keepIn K (.ref f12) = true)
    (a13 : PySem.W.nsIn K mainGlobals "_law_number_of" = some (some (.ref f13)))
    (l13 : K.lookup f13 = some ⟨oc13, od13, .func (PySem.W.fnOf "_law_number_of" "_law_number_of" (defArgs s13) (defBody s13) (defScope s13) .none kV13 dc13 pm13 an13 cd13 ct13), sl13⟩)
    (c13 : PySem.W.codeIn K cd13 "_law_number_of" = true)
    (k13 : PySem.W.keepIn K (.ref f13) = true)
    (a14 : PySem.W.nsIn K mainGlobals "_law_capped" = some (some (.ref f14)))
    (l14 : K.lookup f14 = some ⟨oc14, od14, .func (PySem.W.fnOf "_law_capped" "_law_capped" (defArgs s14) (defBody s14) (defScope s14) .none kV14 dc14 pm14 an14 cd14 ct14), sl14⟩)
    (c14 : PySem.W.codeIn K cd14 "_law_capped" = true)
    (k14 : PySem.W.keepIn K (.ref f14) = true)
    (a15 : PySem.W.nsIn K mainGlobals "_law_drawn" = some (some (.ref f15)))
    (l15 : K.lookup f15 = some ⟨oc15, od15, .func (PySem.W.fnOf "_law_drawn" "_law_drawn" (defArgs s15) (defBody s15) (defScope s15) .none kV15 dc15 pm15 an15 cd15 ct15), sl15⟩)
    (c15 : PySem.W.codeIn K cd15 "_law_drawn" = true)
    (k15 : PySem.W.keepIn K (.ref f15) = true)
    (a16 : PySem.W.nsIn K mainGlobals "_law_told" = some (some (.ref f16)))
    (l16 : K.lookup f16 = some ⟨oc16, od16, .func (PySem.W.fnOf "_law_told" "_law_told" (defArgs s16) (defBody s16) (defScope s16) .none kV16 dc16 pm16 an16 cd16 ct16), sl16⟩)
    (c16 : PySem.W.codeIn K cd16 "_law_told" = true)
    (k16 : PySem.W.keepIn K (.ref f16) = true)
    (a17 : PySem.W.nsIn K mainGlobals "law" = some (some (.ref f17)))
    (l17 : K.lookup f17 = some ⟨oc17, od17, .func (PySem.W.fnOf "law" "law" (defArgs s17) (defBody s17) (defScope s17) .none kV17 dc17 pm17 an17 cd17 ct17), sl17⟩)
    (c17 : PySem.W.codeIn K cd17 "law" = true)
    (k17 : PySem.W.keepIn K (.ref f17) = true)
    (pg2 : PySem.W.plainGet K C2 Str.empty = true)
    (hd2 : PySem.W.hasDictIn K C2 = true)
    (po2 : PySem.W.plainOver K C2 = true)
    (sa2 : PySem.W.findIn K (.ref C2) "__setattr__" = some (some (.builtin "object.__setattr__")))
    (mkk2 : PySem.W.makesIn K C2 = true)
    (kc2 : PySem.W.keepIn K (.ref C2) = true)
    (pg3 : PySem.W.plainGet K C3 Str.empty = true)
    (hd3 : PySem.W.hasDictIn K C3 = true)
    (po3 : PySem.W.plainOver K C3 = true)
    (sa3 : PySem.W.findIn K (.ref C3) "__setattr__" = some (some (.builtin "object.__setattr__")))
    (mkk3 : PySem.W.makesIn K C3 = true)
    (kc3 : PySem.W.keepIn K (.ref C3) = true)
    (bg5 : PySem.W.specialIn K (.ref f5) "__get__" = some (some (.builtin "function.__get__")))
    (bt5 : PySem.W.takesIn K (.ref f5) = some false)
    (bf5 : PySem.W.fnIn K f5 = true)
    (bg6 : PySem.W.specialIn K (.ref f6) "__get__" = some (some (.builtin "function.__get__")))
    (bt6 : PySem.W.takesIn K (.ref f6) = some false)
    (bf6 : PySem.W.fnIn K f6 = true)
    (na2_found : PySem.W.findIn K (.ref C2) "found" = some none)
    (na2_most : PySem.W.findIn K (.ref C2) "most" = some none)
    (na2_numbers : PySem.W.findIn K (.ref C2) "numbers" = some none)
    (na2_wait : PySem.W.findIn K (.ref C2) "wait" = some none)
    (na3_arena : PySem.W.findIn K (.ref C3) "arena" = some none)
    (na3_cap : PySem.W.findIn K (.ref C3) "cap" = some none)
    (a_cls1 : PySem.W.nsIn K mainGlobals "TooMany" = some (some (.ref C1)))
    (xL1 : K.lookup C1 = some (excClassObj nmx1 qx1 C1 Nx1 bsx1 bmx1 true snx1 subx1 abx1 colx1 ddx1 m0x1 m1x1 m2x1 m3x1 m5x1 "ValueError.__new__"))
    (xv1 : PySem.HandSPX.refsVE bmx1 = true)
    (sa1 : PySem.W.findIn K (.ref C1) "__setattr__" = some (some (.builtin "object.__setattr__")))
    (eC1 : PySem.W.subIn K (.ref C1) (.type "BaseException") = some true)
    (tC1 : PySem.W.typeIn K (.ref C1) = some (.type "type"))
    (kc1 : PySem.W.keepIn K (.ref C1) = true)
    (a0 : PySem.W.findIn K (.ref C1) "__init__" = some (some (.ref f0)))
    (ti0 : PySem.W.typeIn K (.ref f0) = some (.type "function"))
    (ga1 : PySem.W.findIn K (.ref C1) "__getattribute__" = some (some (.builtin "BaseException.__getattribute__")))
    (gg1 : PySem.W.findIn K (.ref C1) "__getattr__" = some none)
    (hd1 : PySem.W.hasDictIn K C1 = true)
    (xn1 : PySem.W.findIn K (.ref C1) "wait" = some none)
    (ic1 : PySem.W.isClsIn K C1 = true)
    (sc1_ : PySem.W.subIn K (.ref C1) (.ref C1) = some true)
    (l0 : K.lookup f0 = some ⟨oc0, od0, .func (PySem.W.ksFn "__init__" "TooMany.__init__" (defArgs s0) (defBody s0) (defScope s0) .none kV0 dc0 pm0 an0 (.ref cda0) ct0 cc0), sl0⟩)
    (c0 : PySem.W.codeIn K (.ref cda0) "TooMany.__init__" = true)
    (lc0 : K.lookup cda0 = some ⟨ocl0, ocd0, .fields vs0, ocs0⟩)
    (lv0 : vs0[2]? = some (.str file0 tf0))
    (lf0 : ((P.main.file : Str) == file0) = true)
    (lcc0 : K.lookup cc0 = some ⟨cl0_, cld0, .cell (some (.ref C1)), csl0⟩)
    (ms1 : PySem.W.mroIn K C1 (.ref C1) = some true)
    (ks1 : PySem.W.ks_superIn K C1 C1 "__init__" = some (some (.builtin "ValueError.__init__")))
    (ve1 : PySem.W.subIn K (.ref C1) (.type "ValueError") = some true)
    (nsu1 : PySem.W.nsIn K mainGlobals "super" = some none)
    (opq1 : PySem.W.nsIn K cStatics "thirdparty.any" = some none)
    (tp1 : (P.main.scope.names.lookup ("super" : Str)).isSome = false) :
    ∃ T : Tg, LawOk P w K mg T fa m17 := by
  have e := hfa.symm.trans (PySem.W.mg_of X G a17)
  obtain rfl : fa = f17 := by cases e; rfl
  have FD1 : FunD K "__init__" "Unfolding.__init__" (defArgs s1) (defBody s1) (defScope s1) [.int 600] [] f1 _ := ⟨⟨oc1, od1, _, kV1, dc1, pm1, an1, cd1, ct1, sl1, rfl, l1, c1, .inr ⟨by simp, Td1, _, [.int 600 td1_0], nd1, rfl, ld1, rfl, (.cons ⟨_, rfl⟩ .nil)⟩, .inl rfl⟩, k1⟩
  obtain ⟨dsv1, dsr1, dsb1⟩ := FD1.binds1 (ps := ["self", "first", "wait", "most"]) 3 0 (by simp) rfl fun _ _ _ _ _ _ _ us its h1 h2 => match us, its, h1, h2 with | [_, _, _], [_], _, _ => ⟨_, rfl, rfl⟩
  have F2 := fun_mk (st := s2) l2 c2 k2
  have F5 := fun_mk (st := s5) l5 c5 k5
  have F6 := fun_mk (st := s6) l6 c6 k6
  have F3 := fun_mk (st := s3) l3 c3 k3
  have F4 := fun_mk (st := s4) l4 c4 k4
  have F7 := fun_mk (st := s7) l7 c7 k7
  have F8 := fun_mk (st := s8) l8 c8 k8
  have F9 := fun_mk (st := s9) l9 c9 k9
  have F10 := fun_mk (st := s10) l10 c10 k10
  have F11 := fun_mk (st := s11) l11 c11 k11
  have F12 := fun_mk (st := s12) l12 c12 k12
  have F13 := fun_mk (st := s13) l13 c13 k13
  have F14 := fun_mk (st := s14) l14 c14 k14
  have F15 := fun_mk (st := s15) l15 c15 k15
  have F16 := fun_mk (st := s16) l16 c16 k16
  have F17 := fun_mk (st := s17) l17 c17 k17
  have t : Txt P K mg ⟨fun i => match i with | 0 => f0 | 1 => f1 | 2 => f2 | 3 => f3 | 4 => f4 | 5 => f5 | 6 => f6 | 7 => f7 | 8 => f8 | 9 => f9 | 10 => f10 | 11 => f11 | 12 => f12 | 13 => f13 | 14 => f14 | 15 => f15 | 16 => f16 | 17 => fa | _ => 0, fun i => match i with | 1 => C1 | 2 => C2 | 3 => C3 | _ => 0⟩ := {
    n_abs := PySem.W.mg_none_of X G z_abs,
    n_all := PySem.W.mg_none_of X G z_all,
    n_bool := PySem.W.mg_none_of X G z_bool,
    n_int := PySem.W.mg_none_of X G z_int,
    n_isinstance := PySem.W.mg_none_of X G z_isinstance,
    n_len := PySem.W.mg_none_of X G z_len,
    n_list := PySem.W.mg_none_of X G z_list,
    n_min := PySem.W.mg_none_of X G z_min,
    n_range := PySem.W.mg_none_of X G z_range,
    n_repr := PySem.W.mg_none_of X G z_repr,
    n_str := PySem.W.mg_none_of X G z_str,
    n_tuple := PySem.W.mg_none_of X G z_tuple,
    r_BARE := ⟨.ref A_BARE, .ref A_BARE, PySem.W.mg_of X G a_BARE, rfl, fun _ _ _ => .tup (.inr ⟨_, _, _, l_BARE, rfl, rfl, (show 1 ≤ sizeLine by decide +kernel), (show Vals [.str "empty"] [.str "empty" t_BARE0] from (.cons ⟨_, rfl⟩ .nil))⟩) (.cons (.str _) .nil)⟩,
    r_KEEPER := ⟨.int 0, _, PySem.W.mg_of X G a_KEEPER, ⟨_, rfl⟩, fun _ _ _ => .int _⟩,
    fn1 := ⟨_, _, _, FD1, dsb1, dsr1, fun _ _ _ => (.cons (.int _) .nil)⟩,
    fn2 := ⟨_, F2, F2.binds (ps := ["self", "key"]) fun _ _ _ _ _ _ us hl => match us, hl with | [_, _], _ => rfl⟩,
    fn5 := ⟨_, F5, F5.binds (ps := ["self", "key"]) fun _ _ _ _ _ _ us hl => match us, hl with | [_, _], _ => rfl⟩,
    fn6 := ⟨_, F6, F6.binds (ps := ["self", "key"]) fun _ _ _ _ _ _ us hl => match us, hl with | [_, _], _ => rfl⟩,
    fn3 := ⟨_, F3, F3.binds (ps := ["self", "owner_of", "steps_of"]) fun _ _ _ _ _ _ us hl => match us, hl with | [_, _, _], _ => rfl⟩,
    fn4 := ⟨_, F4, F4.binds (ps := ["self", "arena", "cap"]) fun _ _ _ _ _ _ us hl => match us, hl with | [_, _, _], _ => rfl⟩,
    fn7 := ⟨_, F7, F7.binds (ps := ["arena", "cap", "state"]) fun _ _ _ _ _ _ us hl => match us, hl with | [_, _, _], _ => rfl⟩,
    mg7 := PySem.W.mg_of X G a7,
    kp7 := k7,
    fn8 := ⟨_, F8, F8.binds (ps := ["script"]) fun _ _ _ _ _ _ us hl => match us, hl with | [_], _ => rfl⟩,
    mg8 := PySem.W.mg_of X G a8,
    kp8 := k8,
    fn9 := ⟨_, F9, F9.binds (ps := ["state", "most"]) fun _ _ _ _ _ _ us hl => match us, hl with | [_, _], _ => rfl⟩,
    mg9 := PySem.W.mg_of X G a9,
    kp9 := k9,
    fn10 := ⟨_, F10, F10.binds (ps := ["x"]) fun _ _ _ _ _ _ us hl => match us, hl with | [_], _ => rfl⟩,
    mg10 := PySem.W.mg_of X G a10,
    kp10 := k10,
    fn11 := ⟨_, F11, F11.binds (ps := ["x", "y"]) fun _ _ _ _ _ _ us hl => match us, hl with | [_, _], _ => rfl⟩,
    mg11 := PySem.W.mg_of X G a11,
    kp11 := k11,
    fn12 := ⟨_, F12, F12.binds (ps := ["state", "many", "most", "spread"]) fun _ _ _ _ _ _ us hl => match us, hl with | [_, _, _, _], _ => rfl⟩,
    mg12 := PySem.W.mg_of X G a12,
    kp12 := k12,
    fn13 := ⟨_, F13, F13.binds (ps := ["keys", "numbers", "key"]) fun _ _ _ _ _ _ us hl => match us, hl with | [_, _, _], _ => rfl⟩,
    mg13 := PySem.W.mg_of X G a13,
    kp13 := k13,
    fn14 := ⟨_, F14, F14.binds (ps := ["arena", "cap", "start"]) fun _ _ _ _ _ _ us hl => match us, hl with | [_, _, _], _ => rfl⟩,
    mg14 := PySem.W.mg_of X G a14,
    kp14 := k14,
    fn15 := ⟨_, F15, F15.binds (ps := ["state"]) fun _ _ _ _ _ _ us hl => match us, hl with | [_], _ => rfl⟩,
    mg15 := PySem.W.mg_of X G a15,
    kp15 := k15,
    fn16 := ⟨_, F16, F16.binds (ps := ["arena", "cap", "start"]) fun _ _ _ _ _ _ us hl => match us, hl with | [_, _, _], _ => rfl⟩,
    mg16 := PySem.W.mg_of X G a16,
    kp16 := k16,
    fn17 := ⟨_, F17, F17.binds (ps := ["script"]) fun _ _ _ _ _ _ us hl => match us, hl with | [_], _ => rfl⟩,
    mg17 := PySem.W.mg_of X G a17,
    kp17 := k17,
    mgc2 := PySem.W.mg_of X G a_cls2,
    cl2 := ⟨pg2, hd2, po2, sa2⟩,
    mk2 := ⟨mkk2, a1, i1, kc2⟩,
    met2 := ⟨a2, i2, k2⟩,
    met3 := ⟨a3, i3, k3⟩,
    mgc3 := PySem.W.mg_of X G a_cls3,
    cl3 := ⟨pg3, hd3, po3, sa3⟩,
    mk3 := ⟨mkk3, a4, i4, kc3⟩,
    met5 := ⟨a5, i5, k5⟩,
    bmt5 := ⟨⟨a5, i5, k5⟩, bg5, bt5, by decide +kernel, bf5⟩,
    met6 := ⟨a6, i6, k6⟩,
    bmt6 := ⟨⟨a6, i6, k6⟩, bg6, bt6, by decide +kernel, bf6⟩,
    nat2_found := na2_found,
    nat2_most := na2_most,
    nat2_numbers := na2_numbers,
    nat2_wait := na2_wait,
    nat3_arena := na3_arena,
    nat3_cap := na3_cap,
    mgc1 := PySem.W.mg_of X G a_cls1,
    ox1 := ⟨⟨_, _, _, _, _, _, _, _, _, _, _, _, _, _, _, xL1, xv1⟩, sa1, eC1, tC1, kc1⟩,
    oi1 := a0,
    ot1 := ti0,
    sup1 := ⟨_, cda0, cc0, ⟨_, _, _, _, _, _, _, _, rfl, l0, c0⟩, ⟨_, rfl, rfl⟩, (fun us hl => match us, hl with | [_, _], _ => rfl), ⟨_, _, _, _, _, _, lc0, lv0, lf0⟩, ⟨_, _, _, lcc0⟩, ms1, ks1, ve1, nsu1, opq1, tp1⟩,
    xf1 := ⟨ga1, gg1, eC1, hd1⟩,
    xn1 := xn1,
    xe1 := exm_own eC1 ic1 tC1 sc1_ }
  exact ⟨_, law_ok t⟩
end K74
end
section
set_option Elab.async false
set_option linter.all false
set_option maxRecDepth 100000
set_option maxHeartbeats 4000000
namespace K74
open PySem PySem.Spec DL L2

def St (ns : List Int) (a b c : Int) : MO := .lst [.lst (ns.map D.int), .int a, .int b, .int c]
theorem atI_nat {α : Type} (xs : List α) (i : Nat) : atI xs (i : Int) = xs[i]? := by
  unfold atI ixN
  by_cases h : i < xs.length
  · simp [h]
  · simp [h]
theorem atI0 {α : Type} (x : α) (xs : List α) : atI (x :: xs) 0 = some x := atI_nat _ 0
theorem atI1 {α : Type} (x y : α) (xs : List α) : atI (x :: y :: xs) 1 = some y := atI_nat _ 1
theorem atI2 {α : Type} (x y z : α) (xs : List α) : atI (x :: y :: z :: xs) 2 = some z := atI_nat _ 2
theorem atI3 {α : Type} (x y z u : α) (xs : List α) : atI (x :: y :: z :: u :: xs) 3 = some u := atI_nat _ 3
theorem ix0 (n : Nat) : ixN (n + 1) 0 = some 0 := by unfold ixN; simp
theorem ix1 (n : Nat) : ixN (n + 2) 1 = some 1 := by unfold ixN; simp; omega
theorem ix2 (n : Nat) : ixN (n + 3) 2 = some 2 := by unfold ixN; simp; omega
theorem ix3 (n : Nat) : ixN (n + 4) 3 = some 3 := by unfold ixN; simp; omega
section
variable {ns : List Int} {a b c v : Int} {h : MH}
theorem rd0 (e : h[0]? = some (St ns a b c)) : orD atD dgetD h (.ref 0) (.int 0) = some (.lst (ns.map D.int)) := by simp [orD, atD, seqL, e, St, atI0]
theorem rd1 (e : h[0]? = some (St ns a b c)) : orD atD dgetD h (.ref 0) (.int 1) = some (.int a) := by simp [orD, atD, seqL, e, St, atI1]
theorem rd2 (e : h[0]? = some (St ns a b c)) : orD atD dgetD h (.ref 0) (.int 2) = some (.int b) := by simp [orD, atD, seqL, e, St, atI2]
theorem rd3 (e : h[0]? = some (St ns a b c)) : orD atD dgetD h (.ref 0) (.int 3) = some (.int c) := by simp [orD, atD, seqL, e, St, atI3]
theorem wr1 (e : h[0]? = some (St ns a b c)) : setAny h (.ref 0) (.int 1) (.int v) = some (h.set 0 (St ns v b c)) := by simp [setAny, setLD, e, St, ix1]
theorem wr2 (e : h[0]? = some (St ns a b c)) : setAny h (.ref 0) (.int 2) (.int v) = some (h.set 0 (St ns a v c)) := by simp [setAny, setLD, e, St, ix2]
theorem wr3 (e : h[0]? = some (St ns a b c)) : setAny h (.ref 0) (.int 3) (.int v) = some (h.set 0 (St ns a b v)) := by simp [setAny, setLD, e, St, ix3]
theorem st_set (e : h[0]? = some (St ns a b c)) (o : MO) : (h.set 0 o)[0]? = some o := by
  have := (List.getElem?_eq_some_iff.mp e).1
  rw [List.getElem?_set_self this]
end
theorem log2_lt {n k : Nat} (h : n < 2 ^ k) (hk : 0 < k) : n.log2 < k := by
  by_cases hn : n = 0
  · subst hn; simpa using hk
  · exact (Nat.log2_lt hn).mpr h
def sD : Sl → MH → SR := cIfS (cB (c2 gtD (cn lenD (cCons (c2 (orD atD dgetD) (cVar 0) (cC (.int 0))) cNil)) (cC (.int 0)))) (cSet 3 (cn absD (cCons (c2 (orD atD dgetD) (c2 (orD atD dgetD) (cVar 0) (cC (.int 0))) (c2 modD (cn intD (cCons (c2 (orD atD dgetD) (cVar 0) (cC (.int 1))) cNil)) (cn lenD (cCons (c2 (orD atD dgetD) (cVar 0) (cC (.int 0))) cNil)))) cNil))) cEnd
theorem draw {ns : List Int} {a b c most : Int} {h : MH} (e : h[0]? = some (St ns a b c)) (ha : 0 ≤ a) (hb : 0 ≤ b) (hc : 0 ≤ c) (hc2 : c < 1000000) (hm : 0 < most) (hm2 : most < 1000000) :
    ∃ v a' b', m9 [.ref 0, .int most] h = .val (.int v) (h.set 0 (St ns a' b' (c + 1))) ∧ 0 ≤ v ∧ v < most ∧ 0 ≤ a' ∧ 0 ≤ b' := by
  have hlog : most.natAbs.log2 < 9000 := Nat.lt_trans (log2_lt (k := 20) (by omega) (by decide)) (by decide)
  have e1 := st_set e (St ns a b (c + 1))
  by_cases hb0 : 0 < b
  · have hd : 0 ≤ b / most := Int.ediv_nonneg hb (Int.le_of_lt hm)
    refine ⟨b % most, a, b / most, ?_, Int.emod_nonneg _ (by omega), Int.emod_lt_of_pos _ hm, ha, hd⟩
    simp [m9, cDef, cSeq, cSetX, cVar, cC, c2, cIfS, cB, cSet, cn, cCons, cNil, cRet, rd3 e, wr3 e, addD, gtD, rd2 e1, hb0, intD, modD, divD, hm, hlog, wr2 e1, List.set_set]
  · have hb1 : b = 0 := by omega
    subst hb1
    -- the cell
    obtain ⟨cell, hcell, hrun⟩ : ∃ cell : Int, 0 ≤ cell ∧ ∀ ds1 : Sl, ds1 = [some (.ref 0), some (.int most), none, some (.int 0), none] → sD ds1 (h.set 0 (St ns a 0 (c + 1))) = .nxt [some (.ref 0), some (.int most), none, some (.int cell), none] (h.set 0 (St ns a 0 (c + 1))) := by
      by_cases hn : 0 < ns.length
      · have hl : (0 : Int) < (ns.length : Int) := by omega
        have hi1 : 0 ≤ a % (ns.length : Int) := Int.emod_nonneg _ (by omega)
        have hi2 : a % (ns.length : Int) < ns.length := Int.emod_lt_of_pos _ hl
        obtain ⟨j, hj⟩ := Int.eq_ofNat_of_zero_le hi1
        have hjl : j < ns.length := by omega
        have hat : atI (ns.map D.int) (a % (ns.length : Int)) = some (.int ns[j]) := by
          rw [hj, atI_nat, List.getElem?_map, List.getElem?_eq_getElem hjl]
          rfl
        refine ⟨if ns[j] < 0 then -ns[j] else ns[j], by split <;> omega, fun ds1 e1' => ?_⟩
        subst e1'
        have hat2 : orD atD dgetD (h.set 0 (St ns a 0 (c + 1))) (.lst (ns.map D.int)) (.int (a % (ns.length : Int))) = some (.int ns[j]) := by simp [orD, atD, seqL, hat]
        simp [sD, cIfS, cB, c2, cn, cCons, cNil, cVar, cC, rd0 e1, rd1 e1, lenD, itemsD, seqL, gtD, hl, cSet, intD, modD, hat2, absD, hn]
      · have hz : ns = [] := by cases ns with | nil => rfl | cons _ _ => simp at hn
        subst hz
        refine ⟨0, Int.le_refl _, fun ds1 e1' => ?_⟩
        subst e1'
        simp [sD, cIfS, cB, c2, cn, cCons, cNil, cVar, cC, rd0 e1, lenD, itemsD, seqL, gtD, cEnd]
    have hrun := hrun _ rfl
    have e2 := st_set e (St ns (a + 1) 0 (c + 1))
    by_cases hbig : (10 : Int) ^ 18 ≤ cell
    · have hbig' : (1000000000000000000 : Int) ≤ cell := by simpa using hbig
      have hd : 0 ≤ cell / most := Int.ediv_nonneg hcell (Int.le_of_lt hm)
      refine ⟨cell % most, a + 1, cell / most, ?_, Int.emod_nonneg _ (by omega), Int.emod_lt_of_pos _ hm, by omega, hd⟩
      show cDef 2 5 (cSeq _ (cSeq _ (cSeq _ (cSeq sD _)))) _ _ = _
      simp [cDef, cSeq, cSetX, cVar, cC, c2, cB, cIfS, cSet, cn, cCons, cNil, cRet, cEnd, rd3 e, wr3 e, addD, gtD, rd2 e1, hrun, rd1 e1, wr1 e1, geD, powD, hbig', divD, hm, hlog, List.set_set, wr2 e2, intD, modD]
    · have hsmall : cell < 10 ^ 18 := by omega
      have l1 : (cell + 1).natAbs.log2 < 70 := log2_lt (by omega) (by decide)
      have l2 : (c + 1).natAbs.log2 < 70 := log2_lt (by omega) (by decide)
      have k1 : ((cell + 1) * 48271 + (c + 1) * 69621) % 2147483647 < 2147483647 := Int.emod_lt_of_pos _ (by decide)
      have k0 : 0 ≤ ((cell + 1) * 48271 + (c + 1) * 69621) % 2147483647 := Int.emod_nonneg _ (by decide)
      generalize hmx : ((cell + 1) * 48271 + (c + 1) * 69621) % 2147483647 = mx at k1 k0
      have l3 : mx.natAbs.log2 < 70 := log2_lt (by omega) (by decide)
      have c1 : Nat.log2 48271 < 70 := by decide
      have c2' : Nat.log2 69621 < 70 := by decide
      have c3 : Nat.log2 16807 < 70 := by decide
      have c4 : Nat.log2 97 < 9000 := by decide
      have c5 : Nat.log2 11 < 9000 := by decide
      have q1 : (cell + 1).natAbs.log2 + Nat.log2 48271 < 1000000 := by omega
      have q2 : (c + 1).natAbs.log2 + Nat.log2 69621 < 1000000 := by omega
      have q3 : mx.natAbs.log2 + Nat.log2 16807 < 1000000 := by omega
      refine ⟨(mx * 16807 + cell / 97 + (c + 1)) % 2147483629 / 11 % most, a + 1, 0, ?_, Int.emod_nonneg _ (by omega), Int.emod_lt_of_pos _ hm, by omega, Int.le_refl _⟩
      have hb' : ¬ (1000000000000000000 : Int) ≤ cell := by simpa using hbig
      show cDef 2 5 (cSeq _ (cSeq _ (cSeq _ (cSeq sD _)))) _ _ = _
      simp [cDef, cSeq, cSetX, cVar, cC, c2, cB, cIfS, cSet, cn, cCons, cNil, cRet, cEnd, rd3 e, wr3 e, addD, gtD, rd2 e1, hrun, rd1 e1, wr1 e1, geD, powD, hb', divD, hm, List.set_set, intD, modD, mulD, q1, q2, q3, rd3 e2, hmx, c4, c5]
end K74
end
section
set_option Elab.async false
set_option linter.all false
set_option maxRecDepth 100000
set_option maxHeartbeats 4000000
namespace K74
open PySem PySem.Spec DL L2

def Gd (ns : List Int) (n : Nat) (h : MH) : Prop := ∃ a b c : Int, h[0]? = some (St ns a b c) ∧ 0 ≤ a ∧ 0 ≤ b ∧ 0 ≤ c ∧ c ≤ n
/-- nothing but the state is changed of what stood -/
def Fr (h h' : MH) : Prop := h.length ≤ h'.length ∧ ∀ i, i ≠ 0 → i < h.length → h'[i]? = h[i]?
theorem Fr.refl (h : MH) : Fr h h := ⟨Nat.le_refl _, fun _ _ _ => rfl⟩
theorem Fr.trans {a b c : MH} (x : Fr a b) (y : Fr b c) : Fr a c := ⟨Nat.le_trans x.1 y.1, fun i h1 h2 => (y.2 i h1 (Nat.lt_of_lt_of_le h2 x.1)).trans (x.2 i h1 h2)⟩
theorem Fr.at_ {h h' : MH} (x : Fr h h') {i : Nat} {o : MO} (h1 : i ≠ 0) (e : h[i]? = some o) : h'[i]? = some o := by
  rw [x.2 i h1 (List.getElem?_eq_some_iff.mp e).1]; exact e
theorem Fr.set0 (h : MH) (o : MO) : Fr h (h.set 0 o) := ⟨by simp, fun i h1 h2 => List.getElem?_set_ne (Ne.symm h1)⟩
theorem Fr.app (h : MH) (o : List MO) : Fr h (h ++ o) := ⟨by simp, fun i h1 h2 => List.getElem?_append_left h2⟩
theorem Gd.pos {ns n h} (g : Gd ns n h) : 0 < h.length := by
  obtain ⟨a, b, c, e, _⟩ := g
  exact (List.getElem?_eq_some_iff.mp e).1
theorem Gd.le {ns n m h} (g : Gd ns n h) (l : n ≤ m) : Gd ns m h := by
  obtain ⟨a, b, c, e, h1, h2, h3, h4⟩ := g
  exact ⟨a, b, c, e, h1, h2, h3, by omega⟩
theorem Gd.app {ns n h} (g : Gd ns n h) (o : List MO) : Gd ns n (h ++ o) := by
  have := g.pos
  obtain ⟨a, b, c, e, r⟩ := g
  exact ⟨a, b, c, by rw [List.getElem?_append_left this]; exact e, r⟩
theorem Gd.set {ns n h} (g : Gd ns n h) {i : Nat} (hi : i ≠ 0) (o : MO) : Gd ns n (h.set i o) := by
  obtain ⟨a, b, c, e, r⟩ := g
  exact ⟨a, b, c, by rw [List.getElem?_set_ne hi]; exact e, r⟩
theorem draw' {ns : List Int} {n : Nat} {most : Int} {h : MH} (g : Gd ns n h) (hn : n < 900000) (hm : 0 < most) (hm2 : most < 1000000) :
    ∃ v h', m9 [.ref 0, .int most] h = .val (.int v) h' ∧ 0 ≤ v ∧ v < most ∧ Gd ns (n + 1) h' ∧ Fr h h' ∧ h'.length = h.length := by
  obtain ⟨a, b, c, e, h1, h2, h3, h4⟩ := g
  obtain ⟨v, a', b', hd, q1, q2, q3, q4⟩ := draw e h1 h2 h3 (by omega) hm hm2
  refine ⟨v, _, hd, q1, q2, ⟨a', b', c + 1, st_set e _, q3, q4, by omega, by omega⟩, Fr.set0 _ _, by simp⟩

abbrev Mv := Nat × Int
abbrev Rw := Int × List Mv
def eM (m : Mv) : D := .tup [.int m.1, .int m.2]
def eR (r : Rw) : D := .tup [.int r.1, .tup (r.2.map eM)]
def eA (a : List Rw) : D := .tup (a.map eR)
/-- a row over many states, its weights within w -/
def RwOk (many : Nat) (w : Int) (L : Nat) (r : Rw) : Prop := 0 ≤ r.1 ∧ r.1 ≤ 1 ∧ r.2 ≠ [] ∧ r.2.length ≤ L ∧ ∀ m ∈ r.2, m.1 < many ∧ -w ≤ m.2 ∧ m.2 ≤ w
theorem cDef_ret {np n : Nat} {c : Sl → MH → SR} {args : List D} {h h' : MH} {d : D} (hl : args.length = np) (e : c (args.map some ++ List.replicate (n - np) none) h = .ret d h') : cDef np n c args h = .val d h' := by
  unfold cDef
  rw [if_pos hl, e]
theorem cDef_nxt {np n : Nat} {c : Sl → MH → SR} {args : List D} {ds : Sl} {h h' : MH} (hl : args.length = np) (e : c (args.map some ++ List.replicate (n - np) none) h = .nxt ds h') : cDef np n c args h = .val .non h' := by
  unfold cDef
  rw [if_pos hl, e]
theorem cDef_exc {np n : Nat} {c : Sl → MH → SR} {args : List D} {x : Xn} {ds : Sl} {h h' : MH} (hl : args.length = np) (e : c (args.map some ++ List.replicate (n - np) none) h = .exc x ds h') : cDef np n c args h = .exc x h' := by
  unfold cDef
  rw [if_pos hl, e]
theorem rg_at {n i : Nat} {x : D} (e : (rgD 0 n)[i]? = some x) : i < n ∧ x = .int i := by
  unfold rgD at e
  rw [List.getElem?_map] at e
  by_cases hi : i < n
  · rw [List.getElem?_range hi] at e
    refine ⟨hi, ?_⟩
    simpa using e.symm
  · rw [List.getElem?_eq_none (by simpa using hi)] at e
    cases e
theorem rg_len (n : Nat) : (rgD 0 n).length = n := by simp [rgD]
def bMv : Sl → MH → SR := cExpr (cMut appD (cVar 6) (cCons (cTup (cCons (cCall m9 (cCons (cVar 0) (cCons (cVar 1) cNil))) (cCons (c2 subD (cCall m9 (cCons (cVar 0) (cCons (c2 addD (c2 mulD (cC (.int 2)) (cVar 3)) (cC (.int 1))) cNil))) (cVar 3)) cNil))) cNil))
theorem mv_turn {ns : List Int} {n many M : Nat} {h : MH} {ms : List Mv} {R K T : D} (g : Gd ns n h) (hn : n < 10000) (hm : 0 < many) (hm2 : many ≤ 6) (hM : M ≠ 0) (eM' : h[M]? = some (.lst (ms.map eM))) (hl : ms.length ≤ 10) :
    ∃ (m : Mv) (h' : MH), bMv [some (.ref 0), some (.int many), some (.int 4), some (.int 4), some R, some K, some (.ref M), some T] h = .nxt [some (.ref 0), some (.int many), some (.int 4), some (.int 4), some R, some K, some (.ref M), some T] h' ∧
      (m.1 < many ∧ -4 ≤ m.2 ∧ m.2 ≤ 4) ∧ Gd ns (n + 2) h' ∧ h'.length = h.length ∧ h'[M]? = some (.lst ((ms ++ [m]).map eM)) ∧ ∀ i, i ≠ 0 → i ≠ M → i < h.length → h'[i]? = h[i]? := by
  obtain ⟨v, h1, d1, p1, p2, g1, f1, l1⟩ := draw' (most := many) g (by omega) (by omega) (by omega)
  obtain ⟨u, h2, d2, q1, q2, g2, f2, l2⟩ := draw' (most := 9) g1 (by omega) (by omega) (by omega)
  have e2 : h2[M]? = some (.lst (ms.map eM)) := f2.at_ hM (f1.at_ hM eM')
  have c1 : Nat.log2 2 + Nat.log2 4 < 1000000 := by decide
  have hz : ms.length < 100000 := by omega
  refine ⟨(v.toNat, u - 4), h2.set M (.lst ((ms ++ [(v.toNat, u - 4)]).map eM)), ?_, ⟨by omega, by omega, by omega⟩, g2.set hM _, by simp [l1, l2], ?_, fun i h0 hi hl => ?_⟩
  · have ev : (v.toNat : Int) = v := Int.toNat_of_nonneg p1
    simp [bMv, cExpr, cMut, cVar, isLst, eM', cCons, cNil, cTup, cCall, d1, c2, mulD, addD, cC, c1, d2, subD, appD, e2, hz, eM, ev]
  · have := (List.getElem?_eq_some_iff.mp e2).1
    rw [List.getElem?_set_self this]
  · rw [List.getElem?_set_ne (Ne.symm hi), f2.2 i h0 (by omega), f1.2 i h0 hl]
def bRow : Sl → MH → SR := cSeq (cSet 6 (cLstM cNil)) (cSeq (cFor (cRg1 (cCons (c2 addD (cC (.int 1)) (cCall m9 (cCons (cVar 0) (cCons (cVar 2) cNil)))) cNil)) (gN 7) bMv) (cExpr (cMut appD (cVar 4) (cCons (cTup (cCons (cCall m9 (cCons (cVar 0) (cCons (cC (.int 2)) cNil))) (cCons (cn tupleD (cCons (cVar 6) cNil)) cNil))) cNil))))
theorem set_at {h : MH} {i : Nat} {o p : MO} (e : h[i]? = some p) : (h.set i o)[i]? = some o := by
  have := (List.getElem?_eq_some_iff.mp e).1
  rw [List.getElem?_set_self this]
theorem row_turn {ns : List Int} {n many R : Nat} {h : MH} {rows : List Rw} {K : D} {o6 o7 : Option D} (g : Gd ns n h) (hn : n < 5000) (hm : 0 < many) (hm2 : many ≤ 6) (hR : R ≠ 0) (eR' : h[R]? = some (.lst (rows.map eR))) (hl : rows.length ≤ 10) :
    ∃ (r : Rw) (h' : MH) (p6 p7 : D), bRow [some (.ref 0), some (.int many), some (.int 4), some (.int 4), some (.ref R), some K, o6, o7] h = .nxt [some (.ref 0), some (.int many), some (.int 4), some (.int 4), some (.ref R), some K, some p6, some p7] h' ∧
      RwOk many 4 5 r ∧ Gd ns (n + 12) h' ∧ h.length ≤ h'.length ∧ h'[R]? = some (.lst ((rows ++ [r]).map eR)) ∧ ∀ i, i ≠ 0 → i ≠ R → i < h.length → h'[i]? = h[i]? := by
  have hRl : R < h.length := (List.getElem?_eq_some_iff.mp eR').1
  have hpos := g.pos
  have gA := g.app [MO.lst []]
  have eM0 : (h ++ [MO.lst []])[h.length]? = some (.lst (([] : List Mv).map eM)) := by simp
  obtain ⟨v, h1, d1, p1, p2, g1, f1, l1⟩ := draw' (most := 4) gA (by omega) (by omega) (by omega)
  have hM : h.length ≠ 0 := by omega
  have eM1 : h1[h.length]? = some (.lst (([] : List Mv).map eM)) := f1.at_ hM eM0
  have eL : (1 + v).toNat ≤ 4 := by omega
  -- the moves
  have hloop := cFor_inv (it := cRg1 (cCons (c2 addD (cC (.int 1)) (cCall m9 (cCons (cVar 0) (cCons (cVar 2) cNil)))) cNil)) (g := gN 7) (b := bMv) (xs := rgD 0 (1 + v).toNat) (cur := fun _ => some (rgD 0 (1 + v).toNat))
    (ds := [some (.ref 0), some (.int many), some (.int 4), some (.int 4), some (.ref R), some K, some (.ref h.length), o7]) (h := h ++ [MO.lst []]) (h1 := h1)
    (fun i ds hh => i ≤ 4 ∧ (∃ x7, ds = [some (.ref 0), some (.int many), some (.int 4), some (.int 4), some (.ref R), some K, some (.ref h.length), x7] ∧ (0 < i → ∃ p, x7 = some p)) ∧ Gd ns (n + 1 + 2 * i) hh ∧ hh.length = h1.length ∧
      (∃ ms : List Mv, ms.length = i ∧ hh[h.length]? = some (.lst (ms.map eM)) ∧ ∀ m ∈ ms, m.1 < many ∧ -4 ≤ m.2 ∧ m.2 ≤ 4) ∧ ∀ i, i ≠ 0 → i ≠ h.length → i < h1.length → hh[i]? = h1[i]?)
    (by
      have b1 : -(2 ^ 62) ≤ 1 + v ∧ 1 + v < 2 ^ 62 := by omega
      simp [cRg1, cCons, cNil, c2, cC, cCall, cVar, d1, addD]
      omega)
    ⟨Nat.zero_le _, ⟨_, rfl, fun z => absurd z (by decide)⟩, g1, rfl, ⟨[], rfl, eM1, fun m hm => by cases hm⟩, fun _ _ _ _ => rfl⟩
    (by
      rintro i ds hh ⟨i4, ⟨x7, rfl, _⟩, gg, ll, ⟨ms, hms, ems, hok⟩, ff⟩
      refine ⟨rfl, fun x hx => ?_⟩
      obtain ⟨hi, rfl⟩ := rg_at hx
      refine ⟨_, rfl, ?_⟩
      obtain ⟨m, h', hb, hm', g', l', e', f'⟩ := mv_turn (R := .ref R) (K := K) (T := .int i) gg (by omega) hm hm2 hM ems (by omega)
      refine ⟨_, h', hb, by omega, ⟨_, rfl, fun _ => ⟨_, rfl⟩⟩, g'.le (by omega), l'.trans ll, ⟨ms ++ [m], by simp [hms], e', fun z hz => ?_⟩, fun j h0 h1' h2' => (f' j h0 h1' (by omega)).trans (ff j h0 h1' h2')⟩
      rcases List.mem_append.mp hz with hz | hz
      · exact hok z hz
      · have : z = m := by simpa using hz
        subst this
        exact hm')
  obtain ⟨ds2, h2, r2, _, ⟨x7, rfl, hx7⟩, g2, l2, ⟨ms, hms, ems, hok⟩, f2⟩ := hloop
  rw [rg_len] at hms hx7 g2
  obtain ⟨p7, rfl⟩ := hx7 (by omega)
  obtain ⟨u, h3, d3, q1, q2, g3, f3, l3⟩ := draw' (most := 2) g2 (by omega) (by omega) (by omega)
  have l1' : h1.length = h.length + 1 := by rw [l1]; simp
  have eR1 : h1[R]? = some (.lst (rows.map eR)) := f1.at_ hR (by rw [List.getElem?_append_left hRl]; exact eR')
  have eR2 : h2[R]? = some (.lst (rows.map eR)) := by rw [f2 R hR (by omega) (by omega)]; exact eR1
  have eR3 : h3[R]? = some (.lst (rows.map eR)) := f3.at_ hR eR2
  have eM3 : h3[h.length]? = some (.lst (ms.map eM)) := f3.at_ hM ems
  have hz : rows.length < 100000 := by omega
  refine ⟨(u, ms), h3.set R (.lst ((rows ++ [(u, ms)]).map eR)), .ref h.length, p7, ?_, ⟨q1, by omega, fun z => ?_, (show ms.length ≤ 5 by omega), hok⟩, (g3.set hR _).le (by omega), by simp [l3, l2, l1'], set_at eR3, fun i h0 hi hl => ?_⟩
  · have hs1 : cSet 6 (cLstM cNil) [some (.ref 0), some (.int many), some (.int 4), some (.int 4), some (.ref R), some K, o6, o7] h = .nxt [some (.ref 0), some (.int many), some (.int 4), some (.int 4), some (.ref R), some K, some (.ref h.length), o7] (h ++ [MO.lst []]) := by simp [cSet, cLstM, cNil]
    show (cSeq _ (cSeq _ _)) _ _ = _
    rw [cSeq, hs1, sbn, cSeq, r2, sbn]
    simp [cExpr, cMut, cVar, isLst, eR2, cCons, cNil, cTup, cCall, d3, cC, cn, tupleD, itemsD, seqL, eM3, appD, eR3, hz, eR]
  · subst z
    simp at hms
    omega
  · rw [List.getElem?_set_ne (Ne.symm hi), f3.2 i h0 (by omega), f2 i h0 (by omega) (by omega), f1.2 i h0 (by simp; omega), List.getElem?_append_left hl]
theorem rg1_ok {c : Sl → MH → ER D} {ds : Sl} {h h1 : MH} {n : Int} (e : c ds h = .val (.int n) h1) (h0 : 0 ≤ n) (hn : n < 1000000000) : cRg1 (cCons c cNil) ds h = .val (fun _ => some (rgD 0 n.toNat)) h1 := by
  have b1 : -(2 ^ 62) ≤ n ∧ n < 2 ^ 62 := ⟨by omega, by omega⟩
  unfold cRg1 cCons
  rw [e]
  simp only [bv, cNil]
  rw [if_pos b1]
theorem arena {ns : List Int} {n many : Nat} {h : MH} (g : Gd ns n h) (hn : n < 1000) (hm : 0 < many) (hm2 : many ≤ 6) :
    ∃ (a : List Rw) (h' : MH), m12 [.ref 0, .int many, .int 4, .int 4] h = .val (eA a) h' ∧ a.length = many ∧ (∀ r ∈ a, RwOk many 4 5 r) ∧ Gd ns (n + 200) h' ∧ Fr h h' := by
  have hpos := g.pos
  have hR : h.length ≠ 0 := by omega
  have gA := g.app [MO.lst []]
  have eR0 : (h ++ [MO.lst []])[h.length]? = some (.lst (([] : List Rw).map eR)) := by simp
  obtain ⟨ds2, h2, r2, _, ⟨o5, o6, o7, rfl⟩, g2, l2, ⟨rows, hrows, erows, hok⟩, f2⟩ := cFor_inv (it := cRg1 (cCons (cVar 1) cNil)) (g := gN 5) (b := bRow) (xs := rgD 0 many) (cur := fun _ => some (rgD 0 many))
    (ds := [some (.ref 0), some (.int many), some (.int 4), some (.int 4), some (.ref h.length), none, none, none]) (h := h ++ [MO.lst []]) (h1 := h ++ [MO.lst []])
    (fun i ds hh => i ≤ 6 ∧ (∃ o5 o6 o7, ds = [some (.ref 0), some (.int many), some (.int 4), some (.int 4), some (.ref h.length), o5, o6, o7]) ∧ Gd ns (n + 12 * i) hh ∧ (h ++ [MO.lst []]).length ≤ hh.length ∧
      (∃ rows : List Rw, rows.length = i ∧ hh[h.length]? = some (.lst (rows.map eR)) ∧ ∀ r ∈ rows, RwOk many 4 5 r) ∧ ∀ i, i ≠ 0 → i ≠ h.length → i < (h ++ [MO.lst []]).length → hh[i]? = (h ++ [MO.lst []])[i]?)
    (rg1_ok (n := (many : Int)) (by simp [cVar]) (by omega) (by omega))
    ⟨Nat.zero_le _, ⟨_, _, _, rfl⟩, gA, Nat.le_refl _, ⟨[], rfl, eR0, fun r hr => by cases hr⟩, fun _ _ _ _ => rfl⟩
    (by
      rintro i ds hh ⟨i4, ⟨o5, o6, o7, rfl⟩, gg, ll, ⟨rows, hrows, erows, hok⟩, ff⟩
      refine ⟨rfl, fun x hx => ?_⟩
      obtain ⟨hi, rfl⟩ := rg_at hx
      refine ⟨_, rfl, ?_⟩
      obtain ⟨r, h', p6, p7, hb, hr', g', l', e', f'⟩ := row_turn (K := .int i) (o6 := o6) (o7 := o7) gg (by omega) hm hm2 hR erows (by omega)
      refine ⟨_, h', hb, by omega, ⟨_, _, _, rfl⟩, g'.le (by omega), Nat.le_trans ll l', ⟨rows ++ [r], by simp [hrows], e', fun z hz => ?_⟩, fun j h0 h1' h2' => (f' j h0 h1' (by omega)).trans (ff j h0 h1' h2')⟩
      rcases List.mem_append.mp hz with hz | hz
      · exact hok z hz
      · have : z = r := by simpa using hz
        subst this
        exact hr')
  rw [rg_len] at hrows g2
  refine ⟨rows, h2, ?_, hrows, hok, g2.le (by omega), ⟨by simp at l2; omega, fun i h0 hl => by rw [f2 i h0 (by omega) (by simp; omega), List.getElem?_append_left hl]⟩⟩
  have hs1 : cSet 4 (cLstM cNil) [some (.ref 0), some (.int many), some (.int 4), some (.int 4), none, none, none, none] h = .nxt [some (.ref 0), some (.int many), some (.int 4), some (.int 4), some (.ref h.length), none, none, none] (h ++ [MO.lst []]) := by simp [cSet, cLstM, cNil]
  have hb : (cSeq (cSet 4 (cLstM cNil)) (cSeq (cFor (cRg1 (cCons (cVar 1) cNil)) (gN 5) bRow) (cRet (cn tupleD (cCons (cVar 4) cNil))))) [some (.ref 0), some (.int many), some (.int 4), some (.int 4), none, none, none, none] h = .ret (eA rows) h2 := by
    rw [cSeq, hs1, sbn, cSeq, r2, sbn]
    simp [cRet, cn, cCons, cNil, cVar, tupleD, itemsD, seqL, erows, eA]
  exact cDef_ret rfl hb
end K74
end
section
set_option Elab.async false
set_option linter.all false
set_option maxRecDepth 100000
set_option maxHeartbeats 4000000
namespace K74
open PySem PySem.Spec DL L2

theorem atA {h : MH} {xs : List D} {i : Nat} {x : D} (e : xs[i]? = some x) : orD atD dgetD h (.tup xs) (.int i) = some x := by
  simp [orD, atD, atI_nat, e]
theorem drawn {ns : List Int} {n : Nat} {h : MH} (g : Gd ns n h) (hn : n < 500) :
    ∃ (a : List Rw) (h' : MH), m15 [.ref 0] h = .val (eA a) h' ∧ 0 < a.length ∧ a.length ≤ 6 ∧ (∀ r ∈ a, RwOk a.length (5 * 10 ^ 29) 6 r) ∧ Gd ns (n + 300) h' ∧ Fr h h' := by
  obtain ⟨v, h1, d1, p1, p2, g1, f1, l1⟩ := draw' (most := 6) g (by omega) (by omega) (by omega)
  obtain ⟨many, hmany⟩ : ∃ many : Nat, 1 + v = (many : Int) := ⟨(1 + v).toNat, by omega⟩
  obtain ⟨a, h2, d2, al, aok, g2, f2⟩ := arena (many := many) g1 (by omega) (by omega) (by omega)
  rw [← hmany] at d2
  obtain ⟨u, h3, d3, q1, q2, g3, f3, l3⟩ := draw' (most := 5) g2 (by omega) (by omega) (by omega)
  have w4 : ∀ r ∈ a, RwOk a.length (5 * 10 ^ 29) 6 r := fun r hr => by
    obtain ⟨x1, x2, x3, x4, x5⟩ := aok r hr
    refine ⟨x1, x2, x3, by omega, fun m hm => ?_⟩
    obtain ⟨y1, y2, y3⟩ := x5 m hm
    exact ⟨by omega, by omega, by omega⟩
  have hz : (a.map eR).length ≤ 100000 := by simp; omega
  by_cases hu : 0 < u
  · refine ⟨a, h3, ?_, by omega, by omega, w4, g3.le (by omega), (f1.trans f2).trans f3⟩
    have hgt : gtD h3 (.int u) (.int 0) = some (.bl true) := by simp [gtD, hu]
    exact cDef_ret rfl (seq_n (set_n (call_n (cons_n rfl (cons_n (c2_n rfl (call_n (cons_n rfl (cons_n rfl rfl)) d1) rfl) (cons_n rfl (cons_n rfl rfl)))) d2)) (seq_r (ifs_t (cB_n (c2_n (call_n (cons_n rfl (cons_n rfl rfl)) d3) rfl hgt)) (ret_n rfl))))
  · have hu0 : u = 0 := by omega
    subst hu0
    have hap : 0 < a.length := by omega
    obtain ⟨k, h4, d4, r1, r2, g4, f4, l4⟩ := draw' (most := a.length) g3 (by omega) (by omega) (by omega)
    obtain ⟨j, rfl⟩ := Int.eq_ofNat_of_zero_le r1
    have hj : j < a.length := by omega
    obtain ⟨⟨o, ms⟩, hrw⟩ : ∃ r, a[j] = r := ⟨_, rfl⟩
    have ha : a[j]? = some (o, ms) := by rw [List.getElem?_eq_getElem hj, hrw]
    obtain ⟨x1, x2, x3, x4, x5⟩ := aok (o, ms) (List.mem_of_getElem? ha)
    cases ms with
    | nil => exact absurd rfl x3
    | cons m0 ms =>
      obtain ⟨t0, w0⟩ := m0
      obtain ⟨y1, y2, y3⟩ := x5 (t0, w0) (by simp)
      have hz' : a.length ≤ 6 := by omega
      have hl4 : (4 : Int).natAbs.log2 < 10 := by decide
      have hw : w0.natAbs.log2 < 10 := log2_lt (by omega) (by decide)
      have h29 : Nat.log2 100000000000000000000000000000 < 1000 := by decide +kernel
      have hmul : w0.natAbs.log2 + Nat.log2 100000000000000000000000000000 < 1000000 := by omega
      have eat : orD atD dgetD h4 (eA a) (.int j) = some (eR (o, (t0, w0) :: ms)) := atA (by rw [List.getElem?_map, ha]; rfl)
      refine ⟨a.take j ++ (o, (t0, w0 * 10 ^ 29 + 1) :: (t0, w0) :: ms) :: a.drop (j + 1), h4, ?_, by simp; omega, by simp; omega, ?_, g4.le (by omega), ((f1.trans f2).trans f3).trans f4⟩
      · have hgt : gtD h3 (.int 0) (.int 0) = some (.bl false) := by simp [gtD]
        have hlen : lenD h3 [eA a] = some (.int a.length) := by simp [lenD, eA, itemsD]
        have ea2 : orD atD dgetD h4 (.tup (((t0, w0) :: ms).map eM)) (.int 0) = some (eM (t0, w0)) := atA (i := 0) rfl
        have ea3 : orD atD dgetD h4 (eM (t0, w0)) (.int 0) = some (.int t0) := atA (i := 0) rfl
        have ea4 : orD atD dgetD h4 (eM (t0, w0)) (.int 1) = some (.int w0) := atA (i := 1) rfl
        have ep : powD h4 (.int 10) (.int 29) = some (.int (10 ^ 29)) := by simp [powD]
        have em : mulD h4 (.int w0) (.int (10 ^ 29)) = some (.int (w0 * 10 ^ 29)) := by
          have l29 : (10 ^ 29 : Int).natAbs.log2 < 1000 := by decide +kernel
          have q : w0.natAbs.log2 + (10 ^ 29 : Int).natAbs.log2 < 1000000 := by omega
          show (if _ then _ else _) = _
          rw [if_pos q]
        have es1 : slD h4 (eA a) none (some (j : Int)) = some (.tup ((a.take j).map eR)) := by
          show some (D.tup (cutD _ _ _)) = _
          rw [cut_take (by simp; omega), List.map_take]
        have es2 : slD h4 (eA a) (some ((j : Int) + 1)) none = some (.tup ((a.drop (j + 1)).map eR)) := by
          show some (D.tup (cutD _ (some ((j + 1 : Nat) : Int)) _)) = _
          rw [cut_drop (by simp; omega), List.map_drop]
        have ead1 : addD h4 (.tup [eM (t0, w0 * 10 ^ 29 + 1)]) (.tup (((t0, w0) :: ms).map eM)) = some (.tup (((t0, w0 * 10 ^ 29 + 1) :: (t0, w0) :: ms).map eM)) := by
          have : 1 + (ms.length + 1) ≤ 100000 := by simp at x4; omega
          simp [addD, this]
        have ead2 : addD h4 (.tup ((a.take j).map eR)) (.tup [eR (o, (t0, w0 * 10 ^ 29 + 1) :: (t0, w0) :: ms)]) = some (.tup ((a.take j ++ [(o, (t0, w0 * 10 ^ 29 + 1) :: (t0, w0) :: ms)]).map eR)) := by
          have : min j a.length + 1 ≤ 100000 := by omega
          simp [addD, this]
        have ead3 : addD h4 (.tup ((a.take j ++ [(o, (t0, w0 * 10 ^ 29 + 1) :: (t0, w0) :: ms)]).map eR)) (.tup ((a.drop (j + 1)).map eR)) = some (eA (a.take j ++ (o, (t0, w0 * 10 ^ 29 + 1) :: (t0, w0) :: ms) :: a.drop (j + 1))) := by
          have : min j a.length + 1 + (a.length - (j + 1)) ≤ 100000 := by omega
          simp [addD, this, eA]
        exact cDef_ret rfl (seq_n (set_n (call_n (cons_n rfl (cons_n (c2_n rfl (call_n (cons_n rfl (cons_n rfl rfl)) d1) rfl) (cons_n rfl (cons_n rfl rfl)))) d2)) (seq_n (ifs_f (cB_n (c2_n (call_n (cons_n rfl (cons_n rfl rfl)) d3) rfl hgt)) rfl)
          (seq_n (set_n (call_n (cons_n rfl (cons_n (cn_n (cons_n rfl rfl) hlen) rfl)) d4)) (seq_n (asg_n (c2_n rfl rfl eat) rfl)
          (seq_n (set_n (tup_n (cons_n (c2_n (c2_n rfl rfl ea2) rfl ea3) (cons_n (c2_n (c2_n (c2_n (c2_n rfl rfl ea2) rfl ea4) (c2_n rfl rfl ep) em) rfl rfl) rfl)) (by simp)))
          (ret_n (c2_n (c2_n (sl_n rfl rfl (part_n rfl) es1) (tup_n (cons_n (tup_n (cons_n rfl (cons_n (c2_n (tup_n (cons_n rfl rfl) (by simp)) rfl ead1) rfl)) (by simp)) rfl) (by simp)) ead2) (sl_n rfl (part_n (c2_n rfl rfl rfl)) rfl es2) ead3)))))))
      · intro r hr
        have hlen : (a.take j ++ (o, (t0, w0 * 10 ^ 29 + 1) :: (t0, w0) :: ms) :: a.drop (j + 1)).length = a.length := by simp; omega
        rw [hlen]
        rcases List.mem_append.mp hr with hr | hr
        · exact w4 r (List.mem_of_mem_take hr)
        · rcases List.mem_cons.mp hr with hr | hr
          · subst hr
            refine ⟨x1, x2, by simp, by simp at x4 ⊢; omega, fun m hm => ?_⟩
            rcases List.mem_cons.mp hm with hm | hm
            · subst hm
              exact ⟨by show t0 < _; omega, by show _ ≤ w0 * 10 ^ 29 + 1; omega, by show w0 * 10 ^ 29 + 1 ≤ _; omega⟩
            · obtain ⟨z1, z2, z3⟩ := x5 m hm
              exact ⟨by omega, by omega, by omega⟩
          · exact w4 r (List.mem_of_mem_drop hr)
end K74
end
section
set_option Elab.async false
set_option linter.all false
set_option maxRecDepth 100000
set_option maxHeartbeats 4000000
namespace K74
open PySem PySem.Spec DL L2

inductive Ky where
  | bare | at (s : Nat) (l : Int)
  deriving DecidableEq
def eK : Ky → D
  | .bare => .tup [.str "empty"]
  | .at s l => .tup [.int s, .int l]
def nK : Ky → NestedKey
  | .bare => .tup [.text "empty"]
  | .at s l => .tup [.num s, .num l]
theorem nk_eK (k : Ky) : nkOf (eK k) = some (nK k) := by cases k <;> simp [eK, nK, nkOf, nksOf]
theorem nK_inj {a b : Ky} (h : nK a = nK b) : a = b := by
  cases a <;> cases b <;> simp [nK] at h ⊢
  exact ⟨by omega, h.2⟩
theorem keyOk_eK (k : Ky) : keyOk true (eK k) = some (nK k) := by
  cases k with
  | bare => simp [eK, nK, keyOk, nkOf, nksOf, NestedKey.depth, NestedKey.depthAll]
  | «at» s l => simp [eK, nK, keyOk, nkOf, nksOf, NestedKey.depth, NestedKey.depthAll]
theorem okD_eK (k : Ky) : okD (eK k) = true := by
  cases k with
  | bare => simp [eK, okD, pyD, pyDs, SeqAt.shaped, PyData.canLay0, PyData.canLayAll0, PyData.depth, PyData.depthAll]; try decide +kernel
  | «at» s l => simp [eK, okD, pyD, pyDs, SeqAt.shaped, PyData.canLay0, PyData.canLayAll0, PyData.depth, PyData.depthAll]
theorem eq_bare (h : MH) (k : Ky) : eqD h (eK k) (.tup [.str "empty"]) = some (.bl (decide (k = .bare))) := by
  have h1 := okD_eK k
  have h2 := okD_eK .bare
  have h3 : eqDD (eK k) (eK .bare) = decide (k = .bare) := by
    cases k with
    | bare => simp [eK, eqDD, eqDs]
    | «at» s l => simp [eK, eqDD, eqDs]
  cases k with
  | bare => 
    show (if okD (deref h (eK .bare)) = true ∧ okD (deref h (eK .bare)) = true then some (D.bl (eqDD (deref h (eK .bare)) (deref h (eK .bare)))) else none) = _
    have : deref h (eK .bare) = eK .bare := rfl
    rw [this, if_pos ⟨h1, h1⟩, h3]
  | «at» s l => 
    show (if okD (deref h (eK (.at s l))) = true ∧ okD (deref h (eK .bare)) = true then some (D.bl (eqDD (deref h (eK (.at s l))) (deref h (eK .bare)))) else none) = _
    have e1 : deref h (eK .bare) = eK .bare := rfl
    have e2 : deref h (eK (.at s l)) = eK (.at s l) := rfl
    rw [e1, e2, if_pos ⟨h1, h2⟩, h3]
def kvF : Nat → List Ky → List (D × D)
  | _, [] => []
  | i, k :: r => (eK k, .int i) :: kvF (i + 1) r
theorem kvF_len : ∀ (i : Nat) (ks : List Ky), (kvF i ks).length = ks.length
  | _, [] => rfl
  | i, k :: r => by simp [kvF, kvF_len (i + 1) r]
theorem dval_kvF (k : Ky) : ∀ (ks : List Ky) (i : Nat), dval (kvF i ks) (nK k) = if k ∈ ks then some (.int ((i + ks.idxOf k : Nat) : Int)) else none
  | [], i => rfl
  | q :: r, i => by
    have ih := dval_kvF k r (i + 1)
    unfold dval at ih ⊢
    unfold kvF
    rw [List.find?_cons]
    simp only [nk_eK]
    by_cases hq : q = k
    · subst hq
      simp
    · have hn : ¬ nK q = nK k := fun e => hq (nK_inj e)
      have hb : ((some (nK q) : Option NestedKey) == some (nK k)) = false := by simpa using hn
      rw [hb]
      simp only []
      rw [ih]
      have hq' : ¬ k = q := fun e => hq e.symm
      simp only [List.mem_cons, hq', false_or]
      split
      · have e : (q :: r).idxOf k = r.idxOf k + 1 := by
          have hqb : (q == k) = false := by simpa using hq
          rw [List.idxOf_cons, hqb]
          rfl
        rw [e, show i + 1 + r.idxOf k = i + (r.idxOf k + 1) by omega]
      · rfl
theorem dput_kvF {k : Ky} {ks : List Ky} (h : k ∉ ks) : dput (kvF 0 ks) (nK k) (eK k) (.int ks.length) = kvF 0 (ks ++ [k]) := by
  unfold dput
  rw [dval_kvF, if_neg h]
  simp only [Option.isSome_none, Bool.false_eq_true, if_false]
  have : ∀ (ks : List Ky) (i : Nat), kvF i ks ++ [(eK k, D.int ((i + ks.length : Nat) : Int))] = kvF i (ks ++ [k]) := by
    intro ks
    induction ks with
    | nil => intro i; simp [kvF]
    | cons q r ih =>
      intro i
      have := ih (i + 1)
      simp only [kvF, List.cons_append, List.length_cons] at this ⊢
      rw [← this, show i + (r.length + 1) = i + 1 + r.length by omega]
  have := this ks 0
  simpa using this
def addK (ks : List Ky) (k : Ky) : List Ky := if k ∈ ks then ks else ks ++ [k]
theorem addK_nd {ks : List Ky} {k : Ky} (h : ks.Nodup) : (addK ks k).Nodup := by
  unfold addK
  split
  · exact h
  · rename_i hk
    exact List.nodup_append.mpr ⟨h, by simp, fun a ha b hb e => by
      have : b = k := by simpa using hb
      subst this
      subst e
      exact hk ha⟩
theorem addK_mem (ks : List Ky) (k : Ky) : k ∈ addK ks k := by unfold addK; split <;> simp_all
theorem addK_pre (ks : List Ky) (k : Ky) : ks <+: addK ks k := by unfold addK; split; exact List.prefix_refl _; exact List.prefix_append _ _
theorem addK_len (ks : List Ky) (k : Ky) : ks.length ≤ (addK ks k).length ∧ (addK ks k).length ≤ ks.length + 1 := by unfold addK; split <;> simp
theorem number_of {K N : Nat} {ks : List Ky} {k : Ky} {h : MH} (hKN : K ≠ N) (eK' : h[K]? = some (.lst (ks.map eK))) (eN : h[N]? = some (.dic true (kvF 0 ks))) (hl : ks.length < 90000) :
    ∃ h', m13 [.ref K, .ref N, eK k] h = .val (.int ((addK ks k).idxOf k)) h' ∧ h'.length = h.length ∧ h'[K]? = some (.lst ((addK ks k).map eK)) ∧ h'[N]? = some (.dic true (kvF 0 (addK ks k))) ∧ ∀ i, i ≠ K → i ≠ N → h'[i]? = h[i]? := by
  have hd : dicD h (.ref N) = some (N, true, kvF 0 ks) := by simp [dicD, eN]
  have hv := dval_kvF k ks 0
  by_cases hk : k ∈ ks
  · rw [if_pos hk] at hv
    have ha : addK ks k = ks := by unfold addK; rw [if_pos hk]
    have h1 : ninD h (eK k) (.ref N) = some (.bl false) := by simp [ninD, hd, keyOk_eK, hv]
    have h2 : orD atD dgetD h (.ref N) (eK k) = some (.int (ks.idxOf k)) := by
      have e1 : atD h (.ref N) (eK k) = none := by cases k <;> simp [atD, eK, seqL, eN]
      simp [orD, e1, dgetD, hd, keyOk_eK, hv]
    rw [ha]
    refine ⟨h, cDef_ret rfl (seq_n (ifs_f (cB_n (c2_n rfl rfl h1)) rfl) (ret_n (c2_n rfl rfl h2))), rfl, eK', eN, fun _ _ _ => rfl⟩
  · rw [if_neg hk] at hv
    have ha : addK ks k = ks ++ [k] := by unfold addK; rw [if_neg hk]
    have h1 : ninD h (eK k) (.ref N) = some (.bl true) := by simp [ninD, hd, keyOk_eK, hv]
    have hlen : lenD h [.ref K] = some (.int ks.length) := by simp [lenD, itemsD, seqL, eK']
    have hkl : (kvF 0 ks).length < 100000 := by rw [kvF_len]; omega
    have hs : setAny h (.ref N) (eK k) (.int ks.length) = some (h.set N (.dic true (kvF 0 (ks ++ [k])))) := by
      have e1 : setLD h (.ref N) (eK k) (.int ks.length) = none := by cases k <;> simp [setLD, eK]
      simp [setAny, e1, dsetD, hd, keyOk_eK, hkl, dput_kvF hk]
    have eK2 : (h.set N (.dic true (kvF 0 (ks ++ [k]))))[K]? = some (.lst (ks.map eK)) := by rw [List.getElem?_set_ne (Ne.symm hKN)]; exact eK'
    have eN2 := set_at (o := MO.dic true (kvF 0 (ks ++ [k]))) eN
    have eN3 : ((h.set N (.dic true (kvF 0 (ks ++ [k])))).set K (.lst (ks.map eK ++ [eK k])))[N]? = some (.dic true (kvF 0 (ks ++ [k]))) := by rw [List.getElem?_set_ne hKN]; exact eN2
    have hv2 := dval_kvF k (ks ++ [k]) 0
    rw [if_pos (by simp)] at hv2
    have h2 : orD atD dgetD ((h.set N (.dic true (kvF 0 (ks ++ [k])))).set K (.lst (ks.map eK ++ [eK k]))) (.ref N) (eK k) = some (.int ((ks ++ [k]).idxOf k)) := by
      have e1 : atD ((h.set N (.dic true (kvF 0 (ks ++ [k])))).set K (.lst (ks.map eK ++ [eK k]))) (.ref N) (eK k) = none := by cases k <;> simp [atD, eK, seqL, eN3]
      have hd2 : dicD ((h.set N (.dic true (kvF 0 (ks ++ [k])))).set K (.lst (ks.map eK ++ [eK k]))) (.ref N) = some (N, true, kvF 0 (ks ++ [k])) := by simp [dicD, eN3]
      simp [orD, e1, dgetD, hd2, keyOk_eK, hv2]
    rw [ha]
    refine ⟨_, cDef_ret rfl (seq_n (ifs_t (cB_n (c2_n rfl rfl h1)) (seq_n (setX_n (cn_n (cons_n rfl rfl) hlen) rfl rfl hs) (expr_n (mut_n rfl (isl_n eK2) (cons_n rfl rfl) (app_n eK2 (by simp; omega)))))) (ret_n (c2_n rfl rfl h2))), by simp, ?_, eN3, fun i h1 h2 => ?_⟩
    · rw [set_at eK2]; simp
    · rw [List.getElem?_set_ne (Ne.symm h1), List.getElem?_set_ne (Ne.symm h2)]
end K74
end
section
set_option Elab.async false
set_option linter.all false
set_option maxRecDepth 100000
set_option maxHeartbeats 4000000
namespace K74
open PySem PySem.Spec DL L2

def lft (cap x : Int) : Int := if x < cap then x else cap
def suc (cap l : Int) (m : Mv) : Ky := if lft cap (l + m.2) < 0 then .bare else .at m.1 (lft cap (l + m.2))
def stM (p : List Ky × List Mv) (kw : Ky × Int) : List Ky × List Mv := (addK p.1 kw.1, p.2 ++ [((addK p.1 kw.1).idxOf kw.1, kw.2)])
def sucs (ar : List Rw) (cap : Int) : Ky → List (Ky × Int)
  | .bare => [(.bare, -1)]
  | .at s l => (ar.getD s (0, [])).2.map fun m => (suc cap l m, m.2)
def own (ar : List Rw) : Ky → Int
  | .bare => 0
  | .at s _ => (ar.getD s (0, [])).1
def trn (ar : List Rw) (cap : Int) (ks : List Ky) (rows : List Rw) (k : Ky) : List Ky × List Rw := (((sucs ar cap k).foldl stM (ks, [])).1, rows ++ [(own ar k, ((sucs ar cap k).foldl stM (ks, [])).2)])
theorem fold_step {α β : Type} {f : β → α → β} {a : β} {l : List α} {i : Nat} {x : α} (e : l[i]? = some x) : (l.take (i + 1)).foldl f a = f ((l.take i).foldl f a) x := by
  rw [List.take_add_one, e]
  simp
def bMov : Sl → MH → SR := (cSeq (cSet 11 (cTup (cCons (cVar 9) (cCons (cn min2D (cCons (cVar 1) (cCons (c2 addD (c2 (orD atD dgetD) (cVar 7) (cC (.int 1))) (cVar 10)) cNil))) cNil))))
  (cSeq (cIfS (cB (c2 ltD (c2 (orD atD dgetD) (cVar 11) (cC (.int 1))) (cC (.int 0)))) (cSet 11 (cTup (cCons (cC (.str "empty")) cNil))) cEnd)
  (cExpr (cMut appD (cVar 8) (cCons (cTup (cCons (cCall m13 (cCons (cVar 3) (cCons (cVar 4) (cCons (cVar 11) cNil)))) (cCons (cVar 10) cNil))) cNil)))))
theorem mov_turn {K N M : Nat} {ks : List Ky} {ms : List Mv} {h : MH} {cap l : Int} {s : Nat} {m : Mv} {A st R at_ : D} {o11 : Option D} (hKN : K ≠ N) (hKM : K ≠ M) (hNM : N ≠ M)
    (eK' : h[K]? = some (.lst (ks.map eK))) (eN : h[N]? = some (.dic true (kvF 0 ks))) (eMv : h[M]? = some (.lst (ms.map eM))) (hl : ks.length < 90000) (hm : ms.length < 1000) :
    ∃ (h' : MH) (o : D), bMov [some A, some (.int cap), some st, some (.ref K), some (.ref N), some R, some at_, some (eK (.at s l)), some (.ref M), some (.int m.1), some (.int m.2), o11] h = .nxt [some A, some (.int cap), some st, some (.ref K), some (.ref N), some R, some at_, some (eK (.at s l)), some (.ref M), some (.int m.1), some (.int m.2), some o] h' ∧
      h'.length = h.length ∧ h'[K]? = some (.lst ((stM (ks, ms) (suc cap l m, m.2)).1.map eK)) ∧ h'[N]? = some (.dic true (kvF 0 (stM (ks, ms) (suc cap l m, m.2)).1)) ∧ h'[M]? = some (.lst ((stM (ks, ms) (suc cap l m, m.2)).2.map eM)) ∧ ∀ i, i ≠ K → i ≠ N → i ≠ M → h'[i]? = h[i]? := by
  obtain ⟨h1, e1, l1, k1, n1, f1⟩ := number_of (k := suc cap l m) hKN eK' eN hl
  have m1 : h1[M]? = some (.lst (ms.map eM)) := by rw [f1 M (Ne.symm hKM) (Ne.symm hNM)]; exact eMv
  have eat : orD atD dgetD h (eK (.at s l)) (.int 1) = some (.int l) := atA (i := 1) rfl
  have emin : min2D h [.int cap, .int (l + m.2)] = some (.int (lft cap (l + m.2))) := rfl
  have eat2 : orD atD dgetD h (.tup [.int m.1, .int (lft cap (l + m.2))]) (.int 1) = some (.int (lft cap (l + m.2))) := atA (i := 1) rfl
  have hmid : ∃ o, o = eK (suc cap l m) ∧ cIfS (cB (c2 ltD (c2 (orD atD dgetD) (cVar 11) (cC (.int 1))) (cC (.int 0)))) (cSet 11 (cTup (cCons (cC (.str "empty")) cNil))) cEnd [some A, some (.int cap), some st, some (.ref K), some (.ref N), some R, some at_, some (eK (.at s l)), some (.ref M), some (.int m.1), some (.int m.2), some (.tup [.int m.1, .int (lft cap (l + m.2))])] h = .nxt [some A, some (.int cap), some st, some (.ref K), some (.ref N), some R, some at_, some (eK (.at s l)), some (.ref M), some (.int m.1), some (.int m.2), some o] h := by
    by_cases hn : lft cap (l + m.2) < 0
    · have hlt : ltD h (.int (lft cap (l + m.2))) (.int 0) = some (.bl true) := by simp [ltD, hn]
      exact ⟨.tup [.str "empty"], by simp [suc, hn, eK], ifs_t (cB_n (c2_n (c2_n rfl rfl eat2) rfl hlt)) (set_n (tup_n (cons_n rfl rfl) (by simp)))⟩
    · have hlt : ltD h (.int (lft cap (l + m.2))) (.int 0) = some (.bl false) := by simp [ltD, hn]
      exact ⟨.tup [.int m.1, .int (lft cap (l + m.2))], by simp [suc, hn, eK], ifs_f (cB_n (c2_n (c2_n rfl rfl eat2) rfl hlt)) rfl⟩
  obtain ⟨o, ho, hmid⟩ := hmid
  subst ho
  refine ⟨h1.set M (.lst (ms.map eM ++ [.tup [.int ((addK ks (suc cap l m)).idxOf (suc cap l m)), .int m.2]])), eK (suc cap l m), seq_n (set_n (tup_n (cons_n rfl (cons_n (cn_n (cons_n rfl (cons_n (c2_n (c2_n rfl rfl eat) rfl rfl) rfl)) emin) rfl)) (by simp))) (seq_n hmid (expr_n (mut_n rfl (isl_n eMv) (cons_n (tup_n (cons_n (call_n (cons_n rfl (cons_n rfl (cons_n rfl rfl))) e1) (cons_n rfl rfl)) (by simp)) rfl) (app_n m1 (by simp; omega))))), by simp [l1], ?_, ?_, ?_, fun i h1' h2' h3' => ?_⟩
  · rw [List.getElem?_set_ne (Ne.symm hKM)]; exact k1
  · rw [List.getElem?_set_ne (Ne.symm hNM)]; exact n1
  · rw [set_at m1]; simp [stM, eM]
  · rw [List.getElem?_set_ne (Ne.symm h3')]; exact f1 i h1' h2'
end K74
end
section
set_option Elab.async false
set_option linter.all false
set_option maxRecDepth 100000
set_option maxHeartbeats 4000000
namespace K74
open PySem PySem.Spec DL L2

theorem stM_len (p : List Ky × List Mv) (kw : Ky × Int) : p.1.length ≤ (stM p kw).1.length ∧ (stM p kw).1.length ≤ p.1.length + 1 ∧ (stM p kw).2.length = p.2.length + 1 := by
  refine ⟨(addK_len _ _).1, (addK_len _ _).2, by simp [stM]⟩
theorem fold_len (l : List (Ky × Int)) : ∀ p : List Ky × List Mv, p.1.length ≤ (l.foldl stM p).1.length ∧ (l.foldl stM p).1.length ≤ p.1.length + l.length ∧ (l.foldl stM p).2.length = p.2.length + l.length := by
  induction l with
  | nil => intro p; simp
  | cons x l ih =>
    intro p
    obtain ⟨h1, h2, h3⟩ := ih (stM p x)
    obtain ⟨q1, q2, q3⟩ := stM_len p x
    simp only [List.foldl_cons, List.length_cons]
    omega
theorem fold_pre (l : List (Ky × Int)) : ∀ p : List Ky × List Mv, p.1 <+: (l.foldl stM p).1 := by
  induction l with
  | nil => intro p; exact List.prefix_refl _
  | cons x l ih => intro p; exact (addK_pre _ _).trans (ih (stM p x))
theorem fold_nd (l : List (Ky × Int)) : ∀ p : List Ky × List Mv, p.1.Nodup → (l.foldl stM p).1.Nodup := by
  induction l with
  | nil => intro p h; exact h
  | cons x l ih => intro p h; exact ih (stM p x) (addK_nd h)
theorem moves_loop {K N M s : Nat} {ks : List Ky} {h : MH} {cap l : Int} {ar : List Rw} {st R at_ : D} {r : Rw} {o9 o10 o11 : Option D} (hKN : K ≠ N) (hKM : K ≠ M) (hNM : N ≠ M) (hr : ar[s]? = some r) (hrl : r.2.length ≤ 6)
    (eK' : h[K]? = some (.lst (ks.map eK))) (eN : h[N]? = some (.dic true (kvF 0 ks))) (eMv : h[M]? = some (.lst [])) (hl : ks.length < 80000) :
    ∃ (h' : MH) (p9 p10 p11 : Option D), cFor (cCur (c2 (orD atD dgetD) (c2 (orD atD dgetD) (cVar 0) (c2 (orD atD dgetD) (cVar 7) (cC (.int 0)))) (cC (.int 1)))) (gTu (gsC (gN 9) (gsC (gN 10) gsN))) bMov
        [some (eA ar), some (.int cap), some st, some (.ref K), some (.ref N), some R, some at_, some (eK (.at s l)), some (.ref M), o9, o10, o11] h = .nxt [some (eA ar), some (.int cap), some st, some (.ref K), some (.ref N), some R, some at_, some (eK (.at s l)), some (.ref M), p9, p10, p11] h' ∧
      h'.length = h.length ∧ h'[K]? = some (.lst (((sucs ar cap (.at s l)).foldl stM (ks, [])).1.map eK)) ∧ h'[N]? = some (.dic true (kvF 0 ((sucs ar cap (.at s l)).foldl stM (ks, [])).1)) ∧ h'[M]? = some (.lst (((sucs ar cap (.at s l)).foldl stM (ks, [])).2.map eM)) ∧ ∀ i, i ≠ K → i ≠ N → i ≠ M → h'[i]? = h[i]? := by
  have hg : ar.getD s (0, []) = r := by simp [List.getD, hr]
  have hsu : sucs ar cap (.at s l) = r.2.map fun m => (suc cap l m, m.2) := by simp only [sucs, hg]
  have e0 : orD atD dgetD h (eK (.at s l)) (.int 0) = some (.int s) := atA (i := 0) rfl
  have e1 : orD atD dgetD h (eA ar) (.int s) = some (eR r) := atA (by rw [List.getElem?_map, hr]; rfl)
  have e2 : orD atD dgetD h (eR r) (.int 1) = some (.tup (r.2.map eM)) := atA (i := 1) rfl
  obtain ⟨ds', h', run, _, ⟨p9, p10, p11, rfl⟩, hlen, q1, q2, q3, q4⟩ := cFor_inv (it := cCur (c2 (orD atD dgetD) (c2 (orD atD dgetD) (cVar 0) (c2 (orD atD dgetD) (cVar 7) (cC (.int 0)))) (cC (.int 1)))) (g := gTu (gsC (gN 9) (gsC (gN 10) gsN))) (b := bMov)
    (xs := r.2.map eM) (cur := curD (.tup (r.2.map eM))) (ds := [some (eA ar), some (.int cap), some st, some (.ref K), some (.ref N), some R, some at_, some (eK (.at s l)), some (.ref M), o9, o10, o11]) (h := h) (h1 := h)
    (fun i ds hh => i ≤ 6 ∧ (∃ p9 p10 p11, ds = [some (eA ar), some (.int cap), some st, some (.ref K), some (.ref N), some R, some at_, some (eK (.at s l)), some (.ref M), p9, p10, p11]) ∧ hh.length = h.length ∧
      hh[K]? = some (.lst ((((sucs ar cap (.at s l)).take i).foldl stM (ks, [])).1.map eK)) ∧ hh[N]? = some (.dic true (kvF 0 (((sucs ar cap (.at s l)).take i).foldl stM (ks, [])).1)) ∧ hh[M]? = some (.lst ((((sucs ar cap (.at s l)).take i).foldl stM (ks, [])).2.map eM)) ∧
      ∀ i, i ≠ K → i ≠ N → i ≠ M → hh[i]? = h[i]?)
    (cur_n (c2_n (c2_n rfl (c2_n rfl rfl e0) e1) rfl e2) rfl)
    ⟨Nat.zero_le _, ⟨_, _, _, rfl⟩, rfl, eK', eN, eMv, fun _ _ _ _ => rfl⟩
    (by
      rintro i ds hh ⟨i6, ⟨p9, p10, p11, rfl⟩, hlen, q1, q2, q3, q4⟩
      refine ⟨rfl, fun x hx => ?_⟩
      rw [List.getElem?_map] at hx
      cases hm : r.2[i]? with
      | none => rw [hm] at hx; cases hx
      | some m =>
        rw [hm] at hx
        cases hx
        have hi : i < r.2.length := (List.getElem?_eq_some_iff.mp hm).1
        have hs : (sucs ar cap (.at s l))[i]? = some (suc cap l m, m.2) := by rw [hsu, List.getElem?_map, hm]; rfl
        have fl := fold_len ((sucs ar cap (.at s l)).take i) (ks, [])
        have tl : ((sucs ar cap (.at s l)).take i).length ≤ i := by simp; omega
        refine ⟨_, rfl, ?_⟩
        obtain ⟨h', o, run, l', k', n', m', f'⟩ := mov_turn (s := s) (A := eA ar) (st := st) (R := R) (at_ := at_) (cap := cap) (l := l) (m := m) (o11 := p11) (h := hh) (ks := (((sucs ar cap (.at s l)).take i).foldl stM (ks, [])).1) (ms := (((sucs ar cap (.at s l)).take i).foldl stM (ks, [])).2)
          hKN hKM hNM q1 q2 q3 (by have := fl.2.1; simp only at this; omega) (by have := fl.2.2; simp only [List.length_nil] at this; omega)
        refine ⟨_, h', run, by omega, ⟨_, _, _, rfl⟩, l'.trans hlen, ?_, ?_, ?_, fun j h1 h2 h3 => (f' j h1 h2 h3).trans (q4 j h1 h2 h3)⟩
        · rw [fold_step hs]; exact k'
        · rw [fold_step hs]; exact n'
        · rw [fold_step hs]; exact m')
  have ht : (sucs ar cap (.at s l)).take (r.2.map eM).length = sucs ar cap (.at s l) := by rw [List.take_of_length_le (by rw [hsu]; simp)]
  rw [ht] at q1 q2 q3
  exact ⟨h', p9, p10, p11, run, hlen, q1, q2, q3, q4⟩
end K74
end
section
set_option Elab.async false
set_option linter.all false
set_option maxRecDepth 100000
set_option maxHeartbeats 4000000
namespace K74
open PySem PySem.Spec DL L2

def KyOk (n : Nat) : Ky → Prop
  | .bare => True
  | .at s _ => s < n
/-- the arena's shape: what the walk asks of it -/
def ArOk (ar : List Rw) : Prop := (∀ r ∈ ar, r.2.length ≤ 6) ∧ ∀ r ∈ ar, ∀ m ∈ r.2, m.1 < ar.length
def stp (ar : List Rw) (cap : Int) (p : List Ky × List Rw) (i : Nat) : List Ky × List Rw := match p.1[i]? with
  | some k => if p.1.length ≤ 600 then trn ar cap p.1 p.2 k else p
  | none => p
theorem idx_at {ks : List Ky} {i : Nat} {k : Ky} (nd : ks.Nodup) (e : ks[i]? = some k) : ks.idxOf k = i := by
  obtain ⟨hi, hk⟩ := List.getElem?_eq_some_iff.mp e
  rw [← hk]
  exact List.Nodup.idxOf_getElem nd i hi
theorem suc_ok {ar : List Rw} (h : ArOk ar) {cap : Int} {k : Ky} (hk : KyOk ar.length k) : ∀ q ∈ sucs ar cap k, KyOk ar.length q.1 := by
  intro q hq
  cases k with
  | bare =>
    have : q = (.bare, -1) := by simpa [sucs] using hq
    subst this
    trivial
  | «at» s l =>
    simp only [sucs, List.mem_map] at hq
    obtain ⟨m, hm, rfl⟩ := hq
    have hs : s < ar.length := hk
    have hg : ar.getD s (0, []) = ar[s] := by simp [List.getD, hs]
    rw [hg] at hm
    show KyOk ar.length (suc cap l m)
    unfold suc
    split
    · trivial
    · exact h.2 _ (List.getElem_mem hs) m hm
theorem fold_ok {ar : List Rw} (l : List (Ky × Int)) : ∀ p : List Ky × List Mv, (∀ q ∈ l, KyOk ar.length q.1) → (∀ k ∈ p.1, KyOk ar.length k) → ∀ k ∈ (l.foldl stM p).1, KyOk ar.length k := by
  induction l with
  | nil => intro p _ h; exact h
  | cons x l ih =>
    intro p h1 h2
    refine ih (stM p x) (fun q hq => h1 q (List.mem_cons_of_mem _ hq)) fun k hk => ?_
    have hk : k ∈ addK p.1 x.1 := hk
    unfold addK at hk
    split at hk
    · exact h2 k hk
    · rcases List.mem_append.mp hk with hk | hk
      · exact h2 k hk
      · have : k = x.1 := by simpa using hk
        subst this
        exact h1 x (by simp)
/-- what stays true of the keys -/
structure Inv (ar : List Rw) (p : List Ky × List Rw) : Prop where
  nd : p.1.Nodup
  ok : ∀ k ∈ p.1, KyOk ar.length k
theorem stp_inv {ar : List Rw} (ha : ArOk ar) {cap : Int} {p : List Ky × List Rw} (v : Inv ar p) (i : Nat) : Inv ar (stp ar cap p i) := by
  unfold stp
  split
  · rename_i k hk
    split
    · exact ⟨fold_nd _ _ v.nd, fold_ok _ _ (suc_ok ha (v.ok k (List.mem_of_getElem? hk))) v.ok⟩
    · exact v
  · exact v
def bAt : Sl → MH → SR := (cIfS (cAnd (cB (c2 ltD (cVar 6) (cn lenD (cCons (cVar 3) cNil)))) (cB (c2 leD (cn lenD (cCons (cVar 3) cNil)) (cC (.int 600))))) (cSeq (cSet 7 (c2 (orD atD dgetD) (cVar 3) (cVar 6)))
  (cIfS (cB (c2 eqD (cVar 7) (cTup (cCons (cC (.str "empty")) cNil)))) (cExpr (cMut appD (cVar 5) (cCons (cTup (cCons (cC (.int 0)) (cCons (cTup (cCons (cTup (cCons (cVar 6) (cCons (c1 negD (cC (.int 1))) cNil))) cNil)) cNil))) cNil))) (cSeq (cSet 8 (cLstM cNil))
  (cSeq (cFor (cCur (c2 (orD atD dgetD) (c2 (orD atD dgetD) (cVar 0) (c2 (orD atD dgetD) (cVar 7) (cC (.int 0)))) (cC (.int 1)))) (gTu (gsC (gN 9) (gsC (gN 10) gsN))) bMov)
  (cExpr (cMut appD (cVar 5) (cCons (cTup (cCons (c2 (orD atD dgetD) (c2 (orD atD dgetD) (cVar 0) (c2 (orD atD dgetD) (cVar 7) (cC (.int 0)))) (cC (.int 0))) (cCons (cn tupleD (cCons (cVar 8) cNil)) cNil))) cNil))))))) cEnd)
theorem at_turn {K N R i : Nat} {h : MH} {cap : Int} {ar : List Rw} {st : D} {p : List Ky × List Rw} {o7 o8 o9 o10 o11 : Option D} (ha : ArOk ar) (v : Inv ar p) (hKN : K ≠ N) (hKR : K ≠ R) (hNR : N ≠ R)
    (eK' : h[K]? = some (.lst (p.1.map eK))) (eN : h[N]? = some (.dic true (kvF 0 p.1))) (eR' : h[R]? = some (.lst (p.2.map eR))) (hlk : p.1.length < 80000) (hl : p.2.length < 90000) :
    ∃ (h' : MH) (p7 p8 p9 p10 p11 : Option D), bAt [some (eA ar), some (.int cap), some st, some (.ref K), some (.ref N), some (.ref R), some (.int i), o7, o8, o9, o10, o11] h = .nxt [some (eA ar), some (.int cap), some st, some (.ref K), some (.ref N), some (.ref R), some (.int i), p7, p8, p9, p10, p11] h' ∧
      h.length ≤ h'.length ∧ h'[K]? = some (.lst ((stp ar cap p i).1.map eK)) ∧ h'[N]? = some (.dic true (kvF 0 (stp ar cap p i).1)) ∧ h'[R]? = some (.lst ((stp ar cap p i).2.map eR)) ∧ ∀ j, j < h.length → j ≠ K → j ≠ N → j ≠ R → h'[j]? = h[j]? := by
  obtain ⟨ks, rows⟩ := p
  have hl : rows.length < 90000 := hl
  have hlk : ks.length < 80000 := hlk
  have hlen : lenD h [.ref K] = some (.int ks.length) := by simp [lenD, itemsD, seqL, eK']
  cases hk : ks[i]? with
  | none =>
    have hi : ¬ (i : Int) < ks.length := by
      have := List.getElem?_eq_none_iff.mp hk
      omega
    have hs : stp ar cap (ks, rows) i = (ks, rows) := by simp only [stp, hk]
    rw [hs]
    have e1 : ltD h (.int i) (.int ks.length) = some (.bl false) := by simp only [ltD, hi, decide_false]
    exact ⟨h, o7, o8, o9, o10, o11, ifs_f (and_f (cB_n (c2_n rfl (cn_n (cons_n rfl rfl) hlen) e1))) rfl, Nat.le_refl _, eK', eN, eR', fun _ _ _ _ _ => rfl⟩
  | some k =>
    have hil : i < ks.length := (List.getElem?_eq_some_iff.mp hk).1
    have hi : (i : Int) < ks.length := by omega
    have e1 : ltD h (.int i) (.int ks.length) = some (.bl true) := by simp only [ltD, hi, decide_true]
    by_cases h600 : ks.length ≤ 600
    · have e2 : leD h (.int ks.length) (.int 600) = some (.bl true) := by
        have : (ks.length : Int) ≤ 600 := by omega
        simp only [leD, this, decide_true]
      have hs : stp ar cap (ks, rows) i = trn ar cap ks rows k := by simp only [stp, hk, if_pos h600]
      rw [hs]
      have ekey : orD atD dgetD h (.ref K) (.int i) = some (eK k) := by simp [orD, atD, seqL, eK', atI_nat, hk]
      have hq := eq_bare h k
      cases k with
      | bare =>
        have hx := idx_at v.nd hk
        have hmem : Ky.bare ∈ ks := List.mem_of_getElem? hk
        have hadd : addK ks .bare = ks := by unfold addK; rw [if_pos hmem]
        have htrn : trn ar cap ks rows .bare = (ks, rows ++ [(0, [(i, -1)])]) := by simp [trn, sucs, stM, hadd, hx, own]
        rw [htrn]
        refine ⟨h.set R (.lst (rows.map eR ++ [.tup [.int 0, .tup [.tup [.int i, .int (-1)]]]])), _, o8, o9, o10, o11, ifs_t (and_t (cB_n (c2_n rfl (cn_n (cons_n rfl rfl) hlen) e1)) (cB_n (c2_n (cn_n (cons_n rfl rfl) hlen) rfl e2))) (seq_n (set_n (c2_n rfl rfl ekey)) (ifs_t (cB_n (c2_n rfl (tup_n (cons_n rfl rfl) (by simp)) hq)) (expr_n (mut_n rfl (isl_n eR') (cons_n (tup_n (cons_n rfl (cons_n (tup_n (cons_n (tup_n (cons_n rfl (cons_n (c1_n rfl rfl) rfl)) (by simp)) rfl) (by simp)) rfl)) (by simp)) rfl) (app_n eR' (by simp; omega)))))), by simp, ?_, ?_, ?_, fun j h1 h2 h3 h4 => ?_⟩
        · rw [List.getElem?_set_ne (Ne.symm hKR)]; exact eK'
        · rw [List.getElem?_set_ne (Ne.symm hNR)]; exact eN
        · rw [set_at eR']; simp [eR, eM]
        · rw [List.getElem?_set_ne (Ne.symm h4)]
      | «at» s l =>
        have hsl : s < ar.length := v.ok _ (List.mem_of_getElem? hk)
        have hr : ar[s]? = some ar[s] := List.getElem?_eq_getElem hsl
        have hg : ar.getD s (0, []) = ar[s] := by simp [List.getD, hsl]
        have kl : K < h.length := (List.getElem?_eq_some_iff.mp eK').1
        have nl : N < h.length := (List.getElem?_eq_some_iff.mp eN).1
        have rl : R < h.length := (List.getElem?_eq_some_iff.mp eR').1
        obtain ⟨h1, p9, p10, p11, run, l1, k1, n1, m1, f1⟩ := moves_loop (K := K) (N := N) (M := h.length) (s := s) (ks := ks) (h := h ++ [MO.lst []]) (cap := cap) (l := l) (ar := ar) (st := st) (R := .ref R) (at_ := .int i) (o9 := o9) (o10 := o10) (o11 := o11) hKN (by omega) (by omega) hr (ha.1 _ (List.getElem_mem hsl))
          (by rw [List.getElem?_append_left kl]; exact eK') (by rw [List.getElem?_append_left nl]; exact eN) (by simp) hlk
        have r1 : h1[R]? = some (.lst (rows.map eR)) := by rw [f1 R (Ne.symm hKR) (Ne.symm hNR) (by omega), List.getElem?_append_left rl]; exact eR'
        have e0 : orD atD dgetD h1 (eK (.at s l)) (.int 0) = some (.int s) := atA (i := 0) rfl
        have e3 : orD atD dgetD h1 (eA ar) (.int s) = some (eR ar[s]) := atA (by rw [List.getElem?_map, hr]; rfl)
        have e4 : orD atD dgetD h1 (eR ar[s]) (.int 0) = some (.int ar[s].1) := atA (i := 0) rfl
        have et : tupleD h1 [.ref h.length] = some (.tup (((sucs ar cap (.at s l)).foldl stM (ks, [])).2.map eM)) := by simp [tupleD, itemsD, seqL, m1]
        refine ⟨h1.set R (.lst (rows.map eR ++ [.tup [.int ar[s].1, .tup (((sucs ar cap (.at s l)).foldl stM (ks, [])).2.map eM)]])), _, _, p9, p10, p11, ifs_t (and_t (cB_n (c2_n rfl (cn_n (cons_n rfl rfl) hlen) e1)) (cB_n (c2_n (cn_n (cons_n rfl rfl) hlen) rfl e2))) (seq_n (set_n (c2_n rfl rfl ekey)) (ifs_f (cB_n (c2_n rfl (tup_n (cons_n rfl rfl) (by simp)) hq)) (seq_n (set_n (lstM_n rfl (by simp))) (seq_n run (expr_n (mut_n rfl (isl_n r1) (cons_n (tup_n (cons_n (c2_n (c2_n rfl (c2_n rfl rfl e0) e3) rfl e4) (cons_n (cn_n (cons_n rfl rfl) et) rfl)) (by simp)) rfl) (app_n r1 (by simp; omega)))))))), by simp [l1], ?_, ?_, ?_, fun j h1' h2 h3 h4 => ?_⟩
        · rw [List.getElem?_set_ne (Ne.symm hKR)]; exact k1
        · rw [List.getElem?_set_ne (Ne.symm hNR)]; exact n1
        · rw [set_at r1]; simp [trn, own, eR, hr]
        · rw [List.getElem?_set_ne (Ne.symm h4), f1 j h2 h3 (by omega), List.getElem?_append_left h1']
    · have e2 : leD h (.int ks.length) (.int 600) = some (.bl false) := by
        have : ¬ (ks.length : Int) ≤ 600 := by omega
        simp only [leD, this, decide_false]
      have hs : stp ar cap (ks, rows) i = (ks, rows) := by simp only [stp, hk, if_neg h600]
      rw [hs]
      exact ⟨h, o7, o8, o9, o10, o11, ifs_f (and_t (cB_n (c2_n rfl (cn_n (cons_n rfl rfl) hlen) e1)) (cB_n (c2_n (cn_n (cons_n rfl rfl) hlen) rfl e2))) rfl, Nat.le_refl _, eK', eN, eR', fun _ _ _ _ _ => rfl⟩
end K74
end
section
set_option Elab.async false
set_option linter.all false
set_option maxRecDepth 100000
set_option maxHeartbeats 4000000
namespace K74
open PySem PySem.Spec DL L2

def stL (ar : List Rw) (cap : Int) (p0 : List Ky × List Rw) : Nat → List Ky × List Rw
  | 0 => p0
  | n + 1 => stp ar cap (stL ar cap p0 n) n
theorem stL_inv {ar : List Rw} (ha : ArOk ar) {cap : Int} {p : List Ky × List Rw} (v : Inv ar p) : ∀ n, Inv ar (stL ar cap p n)
  | 0 => v
  | n + 1 => stp_inv ha (stL_inv ha v n) n
theorem sucs_len {ar : List Rw} (ha : ArOk ar) {cap : Int} {k : Ky} : (sucs ar cap k).length ≤ 6 := by
  cases k with
  | bare => simp [sucs]
  | «at» s l =>
    simp only [sucs, List.length_map]
    cases e : ar[s]? with
    | none => simp [List.getD, e]
    | some r => simp only [List.getD, e, Option.getD_some]; exact ha.1 r (List.mem_of_getElem? e)
theorem stp_len {ar : List Rw} (ha : ArOk ar) {cap : Int} {p : List Ky × List Rw} (i : Nat) (h : p.1.length ≤ 606) : (stp ar cap p i).1.length ≤ 606 ∧ (stp ar cap p i).2.length ≤ p.2.length + 1 := by
  unfold stp
  split
  · rename_i k hk
    split
    · have fl := fold_len (sucs ar cap k) (p.1, [])
      have sl := sucs_len ha (cap := cap) (k := k)
      refine ⟨?_, by simp [trn]⟩
      have := fl.2.1
      simp only at this
      show ((sucs ar cap k).foldl stM (p.1, [])).1.length ≤ 606
      omega
    · exact ⟨h, by omega⟩
  · exact ⟨h, by omega⟩
theorem stL_len {ar : List Rw} (ha : ArOk ar) {cap : Int} {k0 : Ky} : ∀ n, (stL ar cap ([k0], []) n).1.length ≤ 606 ∧ (stL ar cap ([k0], []) n).2.length ≤ n
  | 0 => by simp [stL]
  | n + 1 => by
    obtain ⟨h1, h2⟩ := stL_len ha (cap := cap) (k0 := k0) n
    obtain ⟨h3, h4⟩ := stp_len ha (cap := cap) n h1
    exact ⟨h3, by show (stp _ _ _ _).2.length ≤ _; omega⟩
def mark (k : Ky) : D := .int (if k = .bare then 1 else 0)
def outD (p : List Ky × List Rw) : D := .tup [.tup (p.2.map eR), .tup (p.1.map mark), .tup (p.1.map eK)]
def markD : D → D
  | .tup [.str _] => .int 1
  | _ => .int 0
theorem mark_eK (k : Ky) : markD (eK k) = mark k := by cases k <;> rfl
theorem eK_inj {a b : Ky} (h : eK a = eK b) : a = b := by
  cases a <;> cases b <;> simp [eK] at h ⊢
  exact ⟨by omega, h.2⟩
theorem law_capped {h : MH} {cap : Int} {ar : List Rw} {start : Nat} (ha : ArOk ar) (hs : start < ar.length) :
    ∃ h', m14 [eA ar, .int cap, .int start] h = .val (if 600 < (stL ar cap ([.at start cap], []) 601).1.length then .non else outD (stL ar cap ([.at start cap], []) 601)) h' ∧ h.length ≤ h'.length ∧ ∀ j, j < h.length → h'[j]? = h[j]? := by
  have v0 : Inv ar ([.at start cap], []) := ⟨by simp, fun k hk => by
    have : k = .at start cap := by simpa using hk
    subst this
    exact hs⟩
  -- the three new things
  have a1 : ((h ++ [MO.lst [eK (.at start cap)]]) ++ [MO.dic true [(eK (.at start cap), .int 0)]] ++ [MO.lst []])[h.length]? = some (.lst ([Ky.at start cap].map eK)) := by simp
  have a2 : ((h ++ [MO.lst [eK (.at start cap)]]) ++ [MO.dic true [(eK (.at start cap), .int 0)]] ++ [MO.lst []])[h.length + 1]? = some (.dic true (kvF 0 [Ky.at start cap])) := by
    rw [List.getElem?_append_left (by simp), List.getElem?_append_right (by simp)]
    simp [kvF]
  have a3 : ((h ++ [MO.lst [eK (.at start cap)]]) ++ [MO.dic true [(eK (.at start cap), .int 0)]] ++ [MO.lst []])[h.length + 2]? = some (.lst (([] : List Rw).map eR)) := by simp
  have a4 : ∀ j, j < h.length → ((h ++ [MO.lst [eK (.at start cap)]]) ++ [MO.dic true [(eK (.at start cap), .int 0)]] ++ [MO.lst []])[j]? = h[j]? := fun j hj => by
    rw [List.getElem?_append_left (by simp; omega), List.getElem?_append_left (by simp; omega), List.getElem?_append_left hj]
  have a5 : ((h ++ [MO.lst [eK (.at start cap)]]) ++ [MO.dic true [(eK (.at start cap), .int 0)]] ++ [MO.lst []]).length = h.length + 3 := by simp
  have ekey : orD atD dgetD ((h ++ [MO.lst [eK (.at start cap)]]) ++ [MO.dic true []]) (.ref h.length) (.int 0) = some (eK (.at start cap)) := by simp [orD, atD, seqL, atI0]
  have s1 : cSet 3 (cLstM (cCons (cTup (cCons (cVar 2) (cCons (cVar 1) cNil))) cNil)) [some (eA ar), some (.int cap), some (.int start), none, none, none, none, none, none, none, none, none] h = .nxt [some (eA ar), some (.int cap), some (.int start), some (.ref h.length), none, none, none, none, none, none, none, none] (h ++ [MO.lst [eK (.at start cap)]]) :=
    set_n (lstM_n (cons_n (tup_n (cons_n rfl (cons_n rfl rfl)) (by simp)) rfl) (by simp))
  have s2 : cSet 4 (cDic1 true (c2 (orD atD dgetD) (cVar 3) (cC (.int 0))) (cC (.int 0))) [some (eA ar), some (.int cap), some (.int start), some (.ref h.length), none, none, none, none, none, none, none, none] (h ++ [MO.lst [eK (.at start cap)]]) = .nxt [some (eA ar), some (.int cap), some (.int start), some (.ref h.length), some (.ref (h.length + 1)), none, none, none, none, none, none, none] ((h ++ [MO.lst [eK (.at start cap)]]) ++ [MO.dic true [(eK (.at start cap), .int 0)]]) := by
    have := set_n (i := 4) (ds := [some (eA ar), some (.int cap), some (.int start), some (.ref h.length), none, none, none, none, none, none, none, none]) (dic1_n (t := true) (ck := c2 (orD atD dgetD) (cVar 3) (cC (.int 0))) (cv := cC (.int 0)) (h := h ++ [MO.lst [eK (.at start cap)]]) (c2_n rfl rfl ekey) rfl (keyOk_eK _))
    rw [this]
    simp
  have s3 : cSet 5 (cLstM cNil) [some (eA ar), some (.int cap), some (.int start), some (.ref h.length), some (.ref (h.length + 1)), none, none, none, none, none, none, none] ((h ++ [MO.lst [eK (.at start cap)]]) ++ [MO.dic true [(eK (.at start cap), .int 0)]]) = .nxt [some (eA ar), some (.int cap), some (.int start), some (.ref h.length), some (.ref (h.length + 1)), some (.ref (h.length + 2)), none, none, none, none, none, none] ((h ++ [MO.lst [eK (.at start cap)]]) ++ [MO.dic true [(eK (.at start cap), .int 0)]] ++ [MO.lst []]) := by
    have := set_n (i := 5) (ds := [some (eA ar), some (.int cap), some (.int start), some (.ref h.length), some (.ref (h.length + 1)), none, none, none, none, none, none, none]) (lstM_n (cs := cNil) (xs := []) (h := (h ++ [MO.lst [eK (.at start cap)]]) ++ [MO.dic true [(eK (.at start cap), .int 0)]]) rfl (by simp))
    rw [this]
    simp
  generalize hh0 : ((h ++ [MO.lst [eK (.at start cap)]]) ++ [MO.dic true [(eK (.at start cap), .int 0)]] ++ [MO.lst []]) = H0 at a1 a2 a3 a4 a5 s3
  obtain ⟨ds2, h2, run, ⟨o6, o7, o8, o9, o10, o11, rfl⟩, l2, k2, n2, r2, f2⟩ := cFor_inv (it := cRg1 (cCons (cC (.int 601)) cNil)) (g := gN 6) (b := bAt) (xs := rgD 0 601) (cur := fun _ => some (rgD 0 601))
    (ds := [some (eA ar), some (.int cap), some (.int start), some (.ref h.length), some (.ref (h.length + 1)), some (.ref (h.length + 2)), none, none, none, none, none, none]) (h := H0) (h1 := H0)
    (fun i ds hh => (∃ o6 o7 o8 o9 o10 o11, ds = [some (eA ar), some (.int cap), some (.int start), some (.ref h.length), some (.ref (h.length + 1)), some (.ref (h.length + 2)), o6, o7, o8, o9, o10, o11]) ∧ H0.length ≤ hh.length ∧
      hh[h.length]? = some (.lst ((stL ar cap ([.at start cap], []) i).1.map eK)) ∧ hh[h.length + 1]? = some (.dic true (kvF 0 (stL ar cap ([.at start cap], []) i).1)) ∧ hh[h.length + 2]? = some (.lst ((stL ar cap ([.at start cap], []) i).2.map eR)) ∧ ∀ j, j < h.length → hh[j]? = h[j]?)
    (rg1_ok (n := 601) rfl (by omega) (by omega))
    ⟨⟨_, _, _, _, _, _, rfl⟩, Nat.le_refl _, a1, a2, a3, a4⟩
    (by
      rintro i ds hh ⟨⟨o6, o7, o8, o9, o10, o11, rfl⟩, ll, k1, n1, r1, f1⟩
      refine ⟨rfl, fun x hx => ?_⟩
      obtain ⟨hi, rfl⟩ := rg_at hx
      refine ⟨_, rfl, ?_⟩
      obtain ⟨b1, b2⟩ := stL_len ha (cap := cap) (k0 := .at start cap) i
      obtain ⟨h', p7, p8, p9, p10, p11, run, l', k', n', r', f'⟩ := at_turn (i := i) (st := .int start) (o7 := o7) (o8 := o8) (o9 := o9) (o10 := o10) (o11 := o11) ha (stL_inv ha v0 i) (by omega) (by omega) (by omega) k1 n1 r1 (by omega) (by omega)
      exact ⟨_, h', run, ⟨_, _, _, _, _, _, rfl⟩, Nat.le_trans ll l', k', n', r', fun j hj => (f' j (by omega) (by omega) (by omega) (by omega)).trans (f1 j hj)⟩)
  rw [rg_len] at k2 n2 r2
  have hbody : ∀ r, (cSeq (cIfS (cB (c2 gtD (cn lenD (cCons (cVar 3) cNil)) (cC (.int 600)))) (cRet (cC .non)) cEnd) (cRet (cTup (cCons (cn tupleD (cCons (cVar 5) cNil)) (cCons (cn tupleD (cCons (cComp [7] (cCur (cVar 3)) (gN 7) cYes (cn intD (cCons (c2 eqD (cVar 7) (cTup (cCons (cC (.str "empty")) cNil))) cNil))) cNil)) (cCons (cn tupleD (cCons (cVar 3) cNil)) cNil))))))
      [some (eA ar), some (.int cap), some (.int start), some (.ref h.length), some (.ref (h.length + 1)), some (.ref (h.length + 2)), o6, o7, o8, o9, o10, o11] h2 = r →
      m14 [eA ar, .int cap, .int start] h = (match r with | .nxt _ h' => .val .non h' | .ret d h' => .val d h' | .exc x _ h' => .exc x h' | _ => .bad) := by
    intro r hr
    have hc : cSeq (cSet 3 (cLstM (cCons (cTup (cCons (cVar 2) (cCons (cVar 1) cNil))) cNil))) (cSeq (cSet 4 (cDic1 true (c2 (orD atD dgetD) (cVar 3) (cC (.int 0))) (cC (.int 0)))) (cSeq (cSet 5 (cLstM cNil)) (cSeq (cFor (cRg1 (cCons (cC (.int 601)) cNil)) (gN 6) bAt) (cSeq (cIfS (cB (c2 gtD (cn lenD (cCons (cVar 3) cNil)) (cC (.int 600)))) (cRet (cC .non)) cEnd) (cRet (cTup (cCons (cn tupleD (cCons (cVar 5) cNil)) (cCons (cn tupleD (cCons (cComp [7] (cCur (cVar 3)) (gN 7) cYes (cn intD (cCons (c2 eqD (cVar 7) (cTup (cCons (cC (.str "empty")) cNil))) cNil))) cNil)) (cCons (cn tupleD (cCons (cVar 3) cNil)) cNil)))))))))
        [some (eA ar), some (.int cap), some (.int start), none, none, none, none, none, none, none, none, none] h = r := seq_n s1 (seq_n s2 (seq_n s3 (seq_n run hr)))
    rw [← hc]
    rfl
  have hlen : lenD h2 [.ref h.length] = some (.int (stL ar cap ([.at start cap], []) 601).1.length) := by simp [lenD, itemsD, seqL, k2]
  by_cases hbig : 600 < (stL ar cap ([.at start cap], []) 601).1.length
  · have hgt : gtD h2 (.int (stL ar cap ([.at start cap], []) 601).1.length) (.int 600) = some (.bl true) := by
      have : (600 : Int) < (stL ar cap ([.at start cap], []) 601).1.length := by omega
      simp only [gtD, this, decide_true]
    rw [if_pos hbig]
    exact ⟨h2, hbody _ (seq_r (ifs_t (cB_n (c2_n (cn_n (cons_n rfl rfl) hlen) rfl hgt)) (ret_n rfl))), by omega, f2⟩
  · have hgt : gtD h2 (.int (stL ar cap ([.at start cap], []) 601).1.length) (.int 600) = some (.bl false) := by
      have : ¬ (600 : Int) < (stL ar cap ([.at start cap], []) 601).1.length := by omega
      simp only [gtD, this, decide_false]
    rw [if_neg hbig]
    have hrow : tupleD h2 [.ref (h.length + 2)] = some (.tup ((stL ar cap ([.at start cap], []) 601).2.map eR)) := by simp [tupleD, itemsD, seqL, r2]
    have k2l : h.length < h2.length := (List.getElem?_eq_some_iff.mp k2).1
    obtain ⟨h3, run3, e3, l3, f3⟩ := comp_map (it := cCur (cVar 3)) (vs := [7]) (g := gN 7) (e := cn intD (cCons (c2 eqD (cVar 7) (cTup (cCons (cC (.str "empty")) cNil))) cNil)) (ds := [some (eA ar), some (.int cap), some (.int start), some (.ref h.length), some (.ref (h.length + 1)), some (.ref (h.length + 2)), o6, o7, o8, o9, o10, o11]) (h := h2) (h1 := h2)
      (cur := curD (.ref h.length)) (xs := (stL ar cap ([.at start cap], []) 601).1.map eK) markD (cur_n rfl (zs := (stL ar cap ([.at start cap], []) 601).1.map eK) (by simp [curD, seqL, k2]))
      (fun hh hj => by simp [curD, seqL, hj _ k2l, k2])
      (fun x hx hh hj => by
        obtain ⟨k, hk, rfl⟩ := List.mem_map.mp hx
        refine ⟨_, rfl, ?_⟩
        have hq := eq_bare hh k
        refine cn_n (cons_n (c2_n rfl (tup_n (cons_n rfl rfl) (by simp)) hq) rfl) ?_
        have hm : markD (eK k) = .int (if k = .bare then 1 else 0) := mark_eK k
        rw [hm]
        simp [intD])
      (by have := (stL_len ha (cap := cap) (k0 := .at start cap) 601).1; simp; omega)
    have hmk : tupleD h3 [.ref h2.length] = some (.tup ((stL ar cap ([.at start cap], []) 601).1.map mark)) := by
      have : ((stL ar cap ([.at start cap], []) 601).1.map eK).map markD = (stL ar cap ([.at start cap], []) 601).1.map mark := by
        rw [List.map_map]
        exact List.map_congr_left fun k _ => mark_eK k
      simp only [tupleD, itemsD, seqL, e3, this]
    have hks : tupleD h3 [.ref h.length] = some (.tup ((stL ar cap ([.at start cap], []) 601).1.map eK)) := by simp [tupleD, itemsD, seqL, f3 _ k2l, k2]
    exact ⟨h3, hbody _ (seq_n (ifs_f (cB_n (c2_n (cn_n (cons_n rfl rfl) hlen) rfl hgt)) rfl) (ret_n (tup_n (cons_n (cn_n (cons_n rfl rfl) hrow) (cons_n (cn_n (cons_n run3 rfl) hmk) (cons_n (cn_n (cons_n rfl rfl) hks) rfl))) (by simp)))), by omega, fun j hj => (f3 j (by omega)).trans (f2 j hj)⟩
end K74
end
section
set_option Elab.async false
set_option linter.all false
set_option maxRecDepth 100000
set_option maxHeartbeats 4000000
namespace K74
open PySem PySem.Spec DL L2

abbrev nA : Str := "arena"
abbrev nC : Str := "cap"
abbrev nF : Str := "found"
abbrev nN : Str := "numbers"
abbrev nW : Str := "wait"
abbrev nM : Str := "most"
def wFs (ar : List Rw) (cap : Int) : List (Str × D) := [(nA, eA ar), (nC, .int cap)]
def uFs (F N : Nat) (cap : Int) : List (Str × D) := [(nF, .ref F), (nN, .ref N), (nW, .int cap), (nM, .int 600)]
theorem neq1 : (nC == nA) = false := by decide +kernel
theorem neq2 : (nN == nF) = false := by decide +kernel
theorem neq3 : (nW == nF) = false := by decide +kernel
theorem neq4 : (nW == nN) = false := by decide +kernel
theorem neq5 : (nM == nF) = false := by decide +kernel
theorem neq6 : (nM == nN) = false := by decide +kernel
theorem neq7 : (nM == nW) = false := by decide +kernel
theorem ne_of {a b : Str} (h : (a == b) = false) : ¬ b = a := fun e => by rw [e] at h; simp at h
section
variable {ar : List Rw} {cap : Int} {F N U W : Nat} {h : MH}
theorem w_ar (e : h[W]? = some (.ins 3 (wFs ar cap))) : fldD (· == 3) nA h (.ref W) = some (eA ar) := by
  simp only [fldD, insD, e, BEq.rfl, if_true, wFs, List.lookup]
theorem w_cap (e : h[W]? = some (.ins 3 (wFs ar cap))) : fldD (· == 3) nC h (.ref W) = some (.int cap) := by
  simp only [fldD, insD, e, BEq.rfl, if_true, wFs, List.lookup, neq1]
theorem u_f (e : h[U]? = some (.ins 2 (uFs F N cap))) : fldD (· == 2) nF h (.ref U) = some (.ref F) := by
  simp only [fldD, insD, e, BEq.rfl, if_true, uFs, List.lookup]
theorem u_n (e : h[U]? = some (.ins 2 (uFs F N cap))) : fldD (· == 2) nN h (.ref U) = some (.ref N) := by
  simp only [fldD, insD, e, BEq.rfl, if_true, uFs, List.lookup, neq2]
theorem u_w (e : h[U]? = some (.ins 2 (uFs F N cap))) : fldD (· == 2) nW h (.ref U) = some (.int cap) := by
  simp only [fldD, insD, e, BEq.rfl, if_true, uFs, List.lookup, neq3, neq4]
theorem u_m (e : h[U]? = some (.ins 2 (uFs F N cap))) : fldD (· == 2) nM h (.ref U) = some (.int 600) := by
  simp only [fldD, insD, e, BEq.rfl, if_true, uFs, List.lookup, neq5, neq6, neq7]
end
def eS (q : Ky × Int) : D := .tup [eK q.1, .int q.2]
theorem owner_of {ar : List Rw} {cap : Int} {W : Nat} {h : MH} {k : Ky} (e : h[W]? = some (.ins 3 (wFs ar cap))) (hk : KyOk ar.length k) : m5 [.ref W, eK k] h = .val (.int (own ar k)) h := by
  have hq := eq_bare h k
  cases k with
  | bare => exact cDef_ret rfl (ret_n (ife_t (cB_n (c2_n rfl rfl hq)) rfl))
  | «at» s l =>
    have hs : s < ar.length := hk
    have hr : ar[s]? = some ar[s] := List.getElem?_eq_getElem hs
    have e0 : orD atD dgetD h (eK (.at s l)) (.int 0) = some (.int s) := atA (i := 0) rfl
    have e3 : orD atD dgetD h (eA ar) (.int s) = some (eR ar[s]) := atA (by rw [List.getElem?_map, hr]; rfl)
    have e4 : orD atD dgetD h (eR ar[s]) (.int 0) = some (.int ar[s].1) := atA (i := 0) rfl
    have ho : own ar (.at s l) = ar[s].1 := by simp [own, hr]
    rw [ho]
    exact cDef_ret rfl (ret_n (ife_f (cB_n (c2_n rfl rfl hq)) (c2_n (c2_n (c1_n rfl (w_ar e)) (c2_n rfl rfl e0) e3) rfl e4)))
def bSt : Sl → MH → SR := (cSeq (cSet 7 (cn min2D (cCons (c1 (fldD (· == 3) "cap") (cVar 0)) (cCons (c2 addD (cVar 3) (cVar 6)) cNil))))
  (cExpr (cMut appD (cVar 4) (cCons (cTup (cCons (cIf (cB (c2 ltD (cVar 7) (cC (.int 0)))) (cC c_BARE) (cTup (cCons (cVar 5) (cCons (cVar 7) cNil)))) (cCons (cVar 6) cNil))) cNil))))
theorem steps_of {ar : List Rw} {cap : Int} {W : Nat} {h : MH} {k : Ky} (ha : ArOk ar) (e : h[W]? = some (.ins 3 (wFs ar cap))) (hk : KyOk ar.length k) :
    ∃ h', m6 [.ref W, eK k] h = .val (.ref h.length) h' ∧ h'[h.length]? = some (.lst ((sucs ar cap k).map eS)) ∧ h.length < h'.length ∧ ∀ j, j < h.length → h'[j]? = h[j]? := by
  have hq := eq_bare h k
  have hW : W < h.length := (List.getElem?_eq_some_iff.mp e).1
  cases k with
  | bare =>
    refine ⟨h ++ [.lst [.tup [c_BARE, .int (-1)]]], cDef_ret rfl (seq_r (ifs_t (cB_n (c2_n rfl rfl hq)) (ret_n (lstM_n (cons_n (tup_n (cons_n rfl (cons_n (c1_n rfl rfl) rfl)) (by simp)) rfl) (by simp))))), by simp [sucs, eS, eK], by simp, fun j hj => List.getElem?_append_left hj⟩
  | «at» s l =>
    have hs : s < ar.length := hk
    have hr : ar[s]? = some ar[s] := List.getElem?_eq_getElem hs
    have hrl : ar[s].2.length ≤ 6 := ha.1 _ (List.getElem_mem hs)
    have hsu : sucs ar cap (.at s l) = ar[s].2.map fun m => (suc cap l m, m.2) := by simp [sucs, hr]
    have eW : (h ++ [MO.lst []])[W]? = some (.ins 3 (wFs ar cap)) := by rw [List.getElem?_append_left hW]; exact e
    have e3 : orD atD dgetD (h ++ [MO.lst []]) (eA ar) (.int s) = some (eR ar[s]) := atA (by rw [List.getElem?_map, hr]; rfl)
    have e4 : orD atD dgetD (h ++ [MO.lst []]) (eR ar[s]) (.int 1) = some (.tup (ar[s].2.map eM)) := atA (i := 1) rfl
    have s1 : cIfS (cB (c2 eqD (cVar 1) (cC c_BARE))) (cRet (cLstM (cCons (cTup (cCons (cC c_BARE) (cCons (c1 negD (cC (.int 1))) cNil))) cNil))) cEnd [some (.ref W), some (eK (.at s l)), none, none, none, none, none, none] h = .nxt [some (.ref W), some (eK (.at s l)), none, none, none, none, none, none] h := ifs_f (cB_n (c2_n rfl rfl hq)) rfl
    have s2 : cAsg (gTu (gsC (gN 2) (gsC (gN 3) gsN))) (cVar 1) [some (.ref W), some (eK (.at s l)), none, none, none, none, none, none] h = .nxt [some (.ref W), some (eK (.at s l)), some (.int s), some (.int l), none, none, none, none] h := asg_n rfl rfl
    have s3 : cSet 4 (cLstM cNil) [some (.ref W), some (eK (.at s l)), some (.int s), some (.int l), none, none, none, none] h = .nxt [some (.ref W), some (eK (.at s l)), some (.int s), some (.int l), some (.ref h.length), none, none, none] (h ++ [MO.lst []]) := set_n (lstM_n rfl (by simp))
    obtain ⟨ds', h', run, _, ⟨o5, o6, o7, rfl⟩, q1, q2, q3⟩ := cFor_inv (it := cCur (c2 (orD atD dgetD) (c2 (orD atD dgetD) (c1 (fldD (· == 3) "arena") (cVar 0)) (cVar 2)) (cC (.int 1)))) (g := gTu (gsC (gN 5) (gsC (gN 6) gsN))) (b := bSt)
      (xs := ar[s].2.map eM) (cur := curD (.tup (ar[s].2.map eM))) (ds := [some (.ref W), some (eK (.at s l)), some (.int s), some (.int l), some (.ref h.length), none, none, none]) (h := h ++ [MO.lst []]) (h1 := h ++ [MO.lst []])
      (fun i ds hh => i ≤ 6 ∧ (∃ o5 o6 o7, ds = [some (.ref W), some (eK (.at s l)), some (.int s), some (.int l), some (.ref h.length), o5, o6, o7]) ∧ h.length < hh.length ∧ hh[h.length]? = some (.lst (((sucs ar cap (.at s l)).take i).map eS)) ∧ ∀ j, j < h.length → hh[j]? = h[j]?)
      (cur_n (c2_n (c2_n (c1_n rfl (w_ar eW)) rfl e3) rfl e4) rfl)
      ⟨Nat.zero_le _, ⟨_, _, _, rfl⟩, by simp, by simp, fun j hj => List.getElem?_append_left hj⟩
      (by
        rintro i ds hh ⟨i6, ⟨o5, o6, o7, rfl⟩, q1, q2, q3⟩
        refine ⟨rfl, fun x hx => ?_⟩
        rw [List.getElem?_map] at hx
        cases hm : ar[s].2[i]? with
        | none => rw [hm] at hx; cases hx
        | some m =>
          rw [hm] at hx
          cases hx
          have hi : i < ar[s].2.length := (List.getElem?_eq_some_iff.mp hm).1
          have hss : (sucs ar cap (.at s l))[i]? = some (suc cap l m, m.2) := by rw [hsu, List.getElem?_map, hm]; rfl
          have eWh : hh[W]? = some (.ins 3 (wFs ar cap)) := by rw [q3 W hW]; exact e
          have emin : min2D hh [.int cap, .int (l + m.2)] = some (.int (lft cap (l + m.2))) := rfl
          have hel : ∃ o, o = eK (suc cap l m) ∧ cIf (cB (c2 ltD (cVar 7) (cC (.int 0)))) (cC c_BARE) (cTup (cCons (cVar 5) (cCons (cVar 7) cNil))) [some (.ref W), some (eK (.at s l)), some (.int s), some (.int l), some (.ref h.length), some (.int m.1), some (.int m.2), some (.int (lft cap (l + m.2)))] hh = .val o hh := by
            by_cases hn : lft cap (l + m.2) < 0
            · have hlt : ltD hh (.int (lft cap (l + m.2))) (.int 0) = some (.bl true) := by simp [ltD, hn]
              exact ⟨c_BARE, by simp [suc, hn, eK], ife_t (cB_n (c2_n rfl rfl hlt)) rfl⟩
            · have hlt : ltD hh (.int (lft cap (l + m.2))) (.int 0) = some (.bl false) := by simp [ltD, hn]
              exact ⟨.tup [.int m.1, .int (lft cap (l + m.2))], by simp [suc, hn, eK], ife_f (cB_n (c2_n rfl rfl hlt)) (tup_n (cons_n rfl (cons_n rfl rfl)) (by simp))⟩
          obtain ⟨o, ho, hel⟩ := hel
          subst ho
          refine ⟨_, rfl, _, hh.set h.length (.lst (((sucs ar cap (.at s l)).take i).map eS ++ [eS (suc cap l m, m.2)])), seq_n (set_n (cn_n (cons_n (c1_n rfl (w_cap eWh)) (cons_n (c2_n rfl rfl rfl) rfl)) emin)) (expr_n (mut_n rfl (isl_n q2) (cons_n (tup_n (cons_n hel (cons_n rfl rfl)) (by simp)) rfl) (app_n q2 (by simp; omega)))), by omega, ⟨_, _, _, rfl⟩, by simpa using q1, ?_, fun j hj => ?_⟩
          · rw [set_at q2, List.take_add_one, hss]; simp
          · rw [List.getElem?_set_ne (by omega)]; exact q3 j hj)
    have ht : (sucs ar cap (.at s l)).take (ar[s].2.map eM).length = sucs ar cap (.at s l) := by rw [List.take_of_length_le (by rw [hsu]; simp)]
    rw [ht] at q2
    exact ⟨h', cDef_ret rfl (seq_n s1 (seq_n s2 (seq_n s3 (seq_n run (ret_n rfl))))), q2, q1, q3⟩
end K74
end
section
set_option Elab.async false
set_option linter.all false
set_option maxRecDepth 100000
set_option maxHeartbeats 4000000
namespace K74
open PySem PySem.Spec DL L2

def tooMany (cap : Int) : Xn := ⟨1, [("wait", .int cap)]⟩
/-- the keys and the numbers stand -/
structure US (h : MH) (U F N : Nat) (cap : Int) (ks : List Ky) : Prop where
  u : h[U]? = some (.ins 2 (uFs F N cap))
  f : h[F]? = some (.lst (ks.map eK))
  n : h[N]? = some (.dic true (kvF 0 ks))
  uf : U ≠ F
  un : U ≠ N
  fn : F ≠ N
theorem number {U F N : Nat} {cap : Int} {ks : List Ky} {k : Ky} {h : MH} (s : US h U F N cap ks) (hl : ks.length ≤ 600) (hc : okMsg cap) :
    if (addK ks k).length ≤ 600 then ∃ h', m2 [.ref U, eK k] h = .val (.int ((addK ks k).idxOf k)) h' ∧ US h' U F N cap (addK ks k) ∧ h'.length = h.length ∧ ∀ i, i ≠ F → i ≠ N → h'[i]? = h[i]?
    else ∃ h', m2 [.ref U, eK k] h = .exc (tooMany cap) h' ∧ h'.length = h.length ∧ ∀ i, i ≠ F → i ≠ N → h'[i]? = h[i]? := by
  obtain ⟨hu, hf, hn, uf, un, fn⟩ := s
  have hd : dicD h (.ref N) = some (N, true, kvF 0 ks) := by simp [dicD, hn]
  have hv := dval_kvF k ks 0
  have hlen : lenD h [.ref F] = some (.int ks.length) := by simp [lenD, itemsD, seqL, hf]
  by_cases hk : k ∈ ks
  · rw [if_pos hk] at hv
    have ha : addK ks k = ks := by unfold addK; rw [if_pos hk]
    have h1 : ninD h (eK k) (.ref N) = some (.bl false) := by simp [ninD, hd, keyOk_eK, hv]
    have h2 : orD atD dgetD h (.ref N) (eK k) = some (.int (ks.idxOf k)) := by
      have e1 : atD h (.ref N) (eK k) = none := by cases k <;> simp [atD, eK, seqL, hn]
      simp [orD, e1, dgetD, hd, keyOk_eK, hv]
    rw [ha, if_pos hl]
    exact ⟨h, cDef_ret rfl (seq_n (ifs_f (cB_n (c2_n rfl (c1_n rfl (u_n hu)) h1)) rfl) (ret_n (c2_n (c1_n rfl (u_n hu)) rfl h2))), ⟨hu, hf, hn, uf, un, fn⟩, rfl, fun _ _ _ => rfl⟩
  · rw [if_neg hk] at hv
    have ha : addK ks k = ks ++ [k] := by unfold addK; rw [if_neg hk]
    have h1 : ninD h (eK k) (.ref N) = some (.bl true) := by simp [ninD, hd, keyOk_eK, hv]
    by_cases h600 : ks.length = 600
    · have he : eqD h (.int ks.length) (.int 600) = some (.bl true) := by simp [eqD, h600]
      rw [if_neg (by rw [ha]; simp; omega)]
      refine ⟨h, ?_, rfl, fun _ _ _ => rfl⟩
      have hr : cRaise 1 "wait" (cCons (c1 (fldD (· == 2) "wait") (cVar 0)) cNil) [some (.ref U), some (eK k)] h = .exc (tooMany cap) [some (.ref U), some (eK k)] h := by
        unfold cRaise
        rw [cons_n (c1_n rfl (u_w hu)) rfl, bsv]
        simp only [if_pos hc]
        rfl
      exact cDef_exc rfl (seq_x (ifs_t (cB_n (c2_n rfl (c1_n rfl (u_n hu)) h1)) (seq_x (ifs_t (cB_n (c2_n (cn_n (cons_n (c1_n rfl (u_f hu)) rfl) hlen) (c1_n rfl (u_m hu)) he)) hr))))
    · have he : eqD h (.int ks.length) (.int 600) = some (.bl false) := by
        have : ¬ (ks.length : Int) = 600 := by omega
        simp only [eqD, this, decide_false]
      rw [if_pos (by rw [ha]; simp; omega)]
      have hkl : (kvF 0 ks).length < 100000 := by rw [kvF_len]; omega
      have hs : setAny h (.ref N) (eK k) (.int ks.length) = some (h.set N (.dic true (kvF 0 (ks ++ [k])))) := by
        have e1 : setLD h (.ref N) (eK k) (.int ks.length) = none := by cases k <;> simp [setLD, eK]
        simp [setAny, e1, dsetD, hd, keyOk_eK, hkl, dput_kvF hk]
      have f2 : (h.set N (.dic true (kvF 0 (ks ++ [k]))))[F]? = some (.lst (ks.map eK)) := by rw [List.getElem?_set_ne (Ne.symm fn)]; exact hf
      have u2 : (h.set N (.dic true (kvF 0 (ks ++ [k]))))[U]? = some (.ins 2 (uFs F N cap)) := by rw [List.getElem?_set_ne (Ne.symm un)]; exact hu
      have n2 := set_at (o := MO.dic true (kvF 0 (ks ++ [k]))) hn
      have n3 : ((h.set N (.dic true (kvF 0 (ks ++ [k])))).set F (.lst (ks.map eK ++ [eK k])))[N]? = some (.dic true (kvF 0 (ks ++ [k]))) := by rw [List.getElem?_set_ne fn]; exact n2
      have u3 : ((h.set N (.dic true (kvF 0 (ks ++ [k])))).set F (.lst (ks.map eK ++ [eK k])))[U]? = some (.ins 2 (uFs F N cap)) := by rw [List.getElem?_set_ne (Ne.symm uf)]; exact u2
      have hv2 := dval_kvF k (ks ++ [k]) 0
      rw [if_pos (by simp)] at hv2
      have h2 : orD atD dgetD ((h.set N (.dic true (kvF 0 (ks ++ [k])))).set F (.lst (ks.map eK ++ [eK k]))) (.ref N) (eK k) = some (.int ((ks ++ [k]).idxOf k)) := by
        have e1 : atD ((h.set N (.dic true (kvF 0 (ks ++ [k])))).set F (.lst (ks.map eK ++ [eK k]))) (.ref N) (eK k) = none := by cases k <;> simp [atD, eK, seqL, n3]
        have hd2 : dicD ((h.set N (.dic true (kvF 0 (ks ++ [k])))).set F (.lst (ks.map eK ++ [eK k]))) (.ref N) = some (N, true, kvF 0 (ks ++ [k])) := by simp [dicD, n3]
        simp [orD, e1, dgetD, hd2, keyOk_eK, hv2]
      rw [ha]
      refine ⟨_, cDef_ret rfl (seq_n (ifs_t (cB_n (c2_n rfl (c1_n rfl (u_n hu)) h1)) (seq_n (ifs_f (cB_n (c2_n (cn_n (cons_n (c1_n rfl (u_f hu)) rfl) hlen) (c1_n rfl (u_m hu)) he)) rfl) (seq_n (setX_n (cn_n (cons_n (c1_n rfl (u_f hu)) rfl) hlen) (c1_n rfl (u_n hu)) rfl hs) (expr_n (mut_n (c1_n rfl (u_f u2)) (isl_n f2) (cons_n rfl rfl) (app_n f2 (by simp; omega))))))) (ret_n (c2_n (c1_n rfl (u_n u3)) rfl h2))), ⟨u3, ?_, n3, uf, un, fn⟩, by simp, fun i h1 h2 => ?_⟩
      · rw [set_at f2]; simp
      · rw [List.getElem?_set_ne (Ne.symm h1), List.getElem?_set_ne (Ne.symm h2)]
end K74
end
section
set_option Elab.async false
set_option linter.all false
set_option maxRecDepth 100000
set_option maxHeartbeats 4000000
namespace K74
open PySem PySem.Spec DL L2

abbrev nB : Str := "number"
theorem u_no (F N : Nat) (cap : Int) : (uFs F N cap).lookup nB = none := by
  have h1 : (nB == nF) = false := by decide +kernel
  have h2 : (nB == nN) = false := by decide +kernel
  have h3 : (nB == nW) = false := by decide +kernel
  have h4 : (nB == nM) = false := by decide +kernel
  simp only [uFs, List.lookup, h1, h2, h3, h4]
theorem u_in {U F N : Nat} {cap : Int} {h : MH} (e : h[U]? = some (.ins 2 (uFs F N cap))) : insD (· == 2) h (.ref U) = some (U, 2, uFs F N cap) := by
  simp only [insD, e, BEq.rfl, if_true]
def elN : Sl → MH → ER D := cTup (cCons (cMeth (· == 2) "number" m2 (cVar 0) (cCons (cVar 6) cNil)) (cCons (cVar 7) cNil))
theorem fold_more {l : List (Ky × Int)} {i : Nat} {x : Ky × Int} {p : List Ky × List Mv} (e : l[i]? = some x) : (addK ((l.take i).foldl stM p).1 x.1).length ≤ (l.foldl stM p).1.length := by
  have h1 : (l.take (i + 1)).foldl stM p = stM ((l.take i).foldl stM p) x := fold_step e
  have h2 : l.foldl stM p = (l.drop (i + 1)).foldl stM ((l.take (i + 1)).foldl stM p) := by rw [← List.foldl_append, List.take_append_drop]
  rw [h2, h1]
  exact (fold_len (l.drop (i + 1)) (stM ((l.take i).foldl stM p) x)).1
theorem comp_num {U F N S C : Nat} {cap : Int} {ks : List Ky} {xs : List (Ky × Int)} {x1 x2 x3 x4 x5 : Option D} (hx : xs.length ≤ 6) (hSF : S ≠ F) (hSN : S ≠ N) (hSC : S ≠ C) (hCF : C ≠ F) (hCN : C ≠ N) (hCU : C ≠ U) (hc : okMsg cap) :
    ∀ (k i : Nat) (h : MH), k + i = xs.length → h[S]? = some (.lst (xs.map eS)) → h[C]? = some (.lst (((xs.take i).foldl stM (ks, [])).2.map eM)) → US h U F N cap ((xs.take i).foldl stM (ks, [])).1 → ((xs.take i).foldl stM (ks, [])).1.length ≤ 600 →
      if (xs.foldl stM (ks, [])).1.length ≤ 600 then ∃ h', compR (curD (.ref S)) xs.length C (gTu (gsC (gN 6) (gsC (gN 7) gsN))) cYes elN [some (.ref U), x1, x2, x3, x4, x5, none, none] k i h = .val (.ref C) h' ∧ US h' U F N cap (xs.foldl stM (ks, [])).1 ∧ h'[C]? = some (.lst ((xs.foldl stM (ks, [])).2.map eM)) ∧ h'.length = h.length ∧ ∀ j, j ≠ F → j ≠ N → j ≠ C → h'[j]? = h[j]?
      else ∃ h', compR (curD (.ref S)) xs.length C (gTu (gsC (gN 6) (gsC (gN 7) gsN))) cYes elN [some (.ref U), x1, x2, x3, x4, x5, none, none] k i h = .exc (tooMany cap) h'
  | 0, i, h, e, hS, hC, us, hl => by
    have hi : i = xs.length := by omega
    rw [hi, List.take_length] at hC us hl
    rw [if_pos hl]
    refine ⟨h, ?_, us, hC, rfl, fun _ _ _ _ => rfl⟩
    unfold compR
    simp [curD, seqL, hS]
  | k + 1, i, h, e, hS, hC, us, hl => by
    have hi : i < xs.length := by omega
    have hcur : curD (.ref S) h = some (xs.map eS) := by simp [curD, seqL, hS]
    have hx1 : xs[i]? = some xs[i] := List.getElem?_eq_getElem hi
    have hx2 : (xs.map eS)[i]? = some (eS xs[i]) := by rw [List.getElem?_map, hx1]; rfl
    have fm := fold_more (p := (ks, [])) hx1
    have nb := number (k := xs[i].1) us hl hc
    have hunf : compR (curD (.ref S)) xs.length C (gTu (gsC (gN 6) (gsC (gN 7) gsN))) cYes elN [some (.ref U), x1, x2, x3, x4, x5, none, none] (k + 1) i h =
        (elN [some (.ref U), x1, x2, x3, x4, x5, some (eK xs[i].1), some (.int xs[i].2)] h).bind fun y h2 => (match h2[C]? with
            | some (.lst acc) => if acc.length < 100000 then compR (curD (.ref S)) xs.length C (gTu (gsC (gN 6) (gsC (gN 7) gsN))) cYes elN [some (.ref U), x1, x2, x3, x4, x5, none, none] k (i + 1) (h2.set C (.lst (acc ++ [y]))) else .bad
            | _ => .bad) := by
      rw [compR, hcur]
      simp only [List.length_map, if_true, hx2]
      rfl
    rw [hunf]
    by_cases hq : (addK ((xs.take i).foldl stM (ks, [])).1 xs[i].1).length ≤ 600
    · rw [if_pos hq] at nb
      obtain ⟨h1, run, us1, l1, f1⟩ := nb
      have el : elN [some (.ref U), x1, x2, x3, x4, x5, some (eK xs[i].1), some (.int xs[i].2)] h = .val (.tup [.int ((addK ((xs.take i).foldl stM (ks, [])).1 xs[i].1).idxOf xs[i].1), .int xs[i].2]) h1 :=
        tup_n (cons_n (meth_n rfl (u_in us.u) (u_no F N cap) (cons_n rfl rfl) run) (cons_n rfl rfl)) (by simp)
      have hC1 : h1[C]? = some (.lst (((xs.take i).foldl stM (ks, [])).2.map eM)) := by rw [f1 C hCF hCN]; exact hC
      rw [el, bv, hC1]
      have hlen : (((xs.take i).foldl stM (ks, [])).2.map eM).length < 100000 := by
        have := (fold_len (xs.take i) (ks, [])).2.2
        simp only [List.length_nil, List.length_take] at this
        simp
        omega
      simp only [hlen, if_true]
      have hst := fold_step (f := stM) (a := (ks, [])) hx1
      have us2 : US (h1.set C (.lst (((xs.take i).foldl stM (ks, [])).2.map eM ++ [.tup [.int ((addK ((xs.take i).foldl stM (ks, [])).1 xs[i].1).idxOf xs[i].1), .int xs[i].2]]))) U F N cap ((xs.take (i + 1)).foldl stM (ks, [])).1 := by
        rw [hst]
        obtain ⟨q1, q2, q3, q4, q5, q6⟩ := us1
        exact ⟨by rw [List.getElem?_set_ne hCU]; exact q1, by rw [List.getElem?_set_ne hCF]; exact q2, by rw [List.getElem?_set_ne hCN]; exact q3, q4, q5, q6⟩
      have ih := comp_num (x1 := x1) (x2 := x2) (x3 := x3) (x4 := x4) (x5 := x5) hx hSF hSN hSC hCF hCN hCU hc k (i + 1) _ (by omega) (by rw [List.getElem?_set_ne (Ne.symm hSC), f1 S hSF hSN]; exact hS)
        (by rw [set_at hC1, hst]; simp [stM, eM]) us2 (by rw [hst]; exact hq)
      by_cases hf : (xs.foldl stM (ks, [])).1.length ≤ 600
      · rw [if_pos hf] at ih ⊢
        obtain ⟨h', r, u, c, l, f⟩ := ih
        refine ⟨h', r, u, c, by simpa [l1] using l, fun j j1 j2 j3 => ?_⟩
        rw [f j j1 j2 j3, List.getElem?_set_ne (Ne.symm j3), f1 j j1 j2]
      · rw [if_neg hf] at ih ⊢
        exact ih
    · rw [if_neg hq] at nb
      obtain ⟨h1, run, l1, f1⟩ := nb
      rw [if_neg (by omega)]
      have el : elN [some (.ref U), x1, x2, x3, x4, x5, some (eK xs[i].1), some (.int xs[i].2)] h = .exc (tooMany cap) h1 :=
        tup_x (cons_x1 (meth_n rfl (u_in us.u) (u_no F N cap) (cons_n rfl rfl) run))
      rw [el, bx]
      exact ⟨h1, rfl⟩
end K74
end
section
set_option Elab.async false
set_option linter.all false
set_option maxRecDepth 100000
set_option maxHeartbeats 4000000
namespace K74
open PySem PySem.Spec DL L2

theorem stp_pre {ar : List Rw} {cap : Int} {p : List Ky × List Rw} (i : Nat) : p.1 <+: (stp ar cap p i).1 := by
  unfold stp
  split
  · split
    · exact fold_pre _ (p.1, [])
    · exact List.prefix_refl _
  · exact List.prefix_refl _
theorem stL_pre {ar : List Rw} {cap : Int} {p : List Ky × List Rw} (i : Nat) : ∀ n, (stL ar cap p i).1 <+: (stL ar cap p (i + n)).1
  | 0 => List.prefix_refl _
  | n + 1 => (stL_pre i n).trans (stp_pre (i + n))
theorem stL_stay {ar : List Rw} {cap : Int} {p : List Ky × List Rw} {i : Nat} (h : (stL ar cap p i).1.length ≤ i) : ∀ n, stL ar cap p (i + n) = stL ar cap p i
  | 0 => rfl
  | n + 1 => by
    have ih := stL_stay h n
    show stp ar cap (stL ar cap p (i + n)) (i + n) = _
    rw [ih]
    unfold stp
    rw [List.getElem?_eq_none (by omega)]
theorem stL_s (ar : List Rw) (cap : Int) (p : List Ky × List Rw) (n : Nat) : stL ar cap p (n + 1) = stp ar cap (stL ar cap p n) n := rfl
theorem stL_0 (ar : List Rw) (cap : Int) (p : List Ky × List Rw) : stL ar cap p 0 = p := rfl
def tW : Sl → MH → ER Bool := (cB (c2 ltD (cVar 4) (cn lenD (cCons (c1 (fldD (· == 2) "found") (cVar 0)) cNil))))
def cW : Sl → MH → ER D := (cComp [6, 7] (cCur (cCallV tbl 2 (cCons (cVar 5) cNil))) (gTu (gsC (gN 6) (gsC (gN 7) gsN))) cYes elN)
def bW : Sl → MH → SR := (cSeq (cSet 5 (c2 (orD atD dgetD) (c1 (fldD (· == 2) "found") (cVar 0)) (cVar 4)))
  (cSeq (cExpr (cMut appD (cVar 3) (cCons (cTup (cCons (cCallV tbl 1 (cCons (cVar 5) cNil)) (cCons (cn tupleD (cCons cW cNil)) cNil))) cNil)))
  (cAug 4 iaddD (cC (.int 1)))))
/-- what stands through the walk -/
structure WS (h : MH) (U F N W R : Nat) (cap : Int) (ar : List Rw) (p : List Ky × List Rw) : Prop where
  us : US h U F N cap p.1
  w : h[W]? = some (.ins 3 (wFs ar cap))
  r : h[R]? = some (.lst (p.2.map eR))
  wu : W ≠ U
  wf : W ≠ F
  wn : W ≠ N
  wr : W ≠ R
  ru : R ≠ U
  rf : R ≠ F
  rn : R ≠ N
theorem comp_step {U F N W R : Nat} {cap : Int} {ar : List Rw} {p : List Ky × List Rw} {h : MH} {k : Ky} {i : Int} {o6 o7 : Option D} (ha : ArOk ar) (s : WS h U F N W R cap ar p) (hk : KyOk ar.length k) (hl : p.1.length ≤ 600) (hc : okMsg cap) :
    if ((sucs ar cap k).foldl stM (p.1, [])).1.length ≤ 600 then ∃ C h', cW [some (.ref U), some (.met 5 (.ref W)), some (.met 6 (.ref W)), some (.ref R), some (.int i), some (eK k), o6, o7] h = .val (.ref C) h' ∧ WS h' U F N W R cap ar (((sucs ar cap k).foldl stM (p.1, [])).1, p.2) ∧ h'[C]? = some (.lst (((sucs ar cap k).foldl stM (p.1, [])).2.map eM))
    else ∃ h', cW [some (.ref U), some (.met 5 (.ref W)), some (.met 6 (.ref W)), some (.ref R), some (.int i), some (eK k), o6, o7] h = .exc (tooMany cap) h' := by
  obtain ⟨⟨hu, hf, hn, uf, un, fn⟩, hw, hr, wu, wf, wn, wr, ru, rf, rn⟩ := s
  have lu : U < h.length := (List.getElem?_eq_some_iff.mp hu).1
  have lf : F < h.length := (List.getElem?_eq_some_iff.mp hf).1
  have ln : N < h.length := (List.getElem?_eq_some_iff.mp hn).1
  have lw : W < h.length := (List.getElem?_eq_some_iff.mp hw).1
  have lr : R < h.length := (List.getElem?_eq_some_iff.mp hr).1
  obtain ⟨h1, e1, s1, l1, f1⟩ := steps_of ha hw hk
  have g1 : ∀ j, j < h.length → (h1 ++ [MO.lst []])[j]? = h[j]? := fun j hj => by rw [List.getElem?_append_left (by omega)]; exact f1 j hj
  have us1 : US (h1 ++ [MO.lst []]) U F N cap p.1 := ⟨by rw [g1 _ lu]; exact hu, by rw [g1 _ lf]; exact hf, by rw [g1 _ ln]; exact hn, uf, un, fn⟩
  have hS : (h1 ++ [MO.lst []])[h.length]? = some (.lst ((sucs ar cap k).map eS)) := by rw [List.getElem?_append_left l1]; exact s1
  have hcl : cCallV tbl 2 (cCons (cVar 5) cNil) [some (.ref U), some (.met 5 (.ref W)), some (.met 6 (.ref W)), some (.ref R), some (.int i), some (eK k), o6, o7] h = .val (.ref h.length) h1 := e1
  have hcur : curD (.ref h.length) h1 = some ((sucs ar cap k).map eS) := by simp [curD, seqL, s1]
  have hun : cW [some (.ref U), some (.met 5 (.ref W)), some (.met 6 (.ref W)), some (.ref R), some (.int i), some (eK k), o6, o7] h = compR (curD (.ref h.length)) (sucs ar cap k).length h1.length (gTu (gsC (gN 6) (gsC (gN 7) gsN))) cYes elN [some (.ref U), some (.met 5 (.ref W)), some (.met 6 (.ref W)), some (.ref R), some (.int i), some (eK k), none, none] (sucs ar cap k).length 0 (h1 ++ [MO.lst []]) := by
    unfold cW cComp
    rw [cur_n hcl hcur, bv, hcur]
    simp only [List.length_map]
    rfl
  rw [hun]
  have cn := comp_num (C := h1.length) (x1 := some (.met 5 (.ref W))) (x2 := some (.met 6 (.ref W))) (x3 := some (.ref R)) (x4 := some (.int i)) (x5 := some (eK k)) (sucs_len ha (cap := cap) (k := k)) (by omega) (by omega) (by omega) (by omega) (by omega) (by omega) hc (sucs ar cap k).length 0 (h1 ++ [MO.lst []]) rfl hS (by simp) us1 hl
  by_cases hq : ((sucs ar cap k).foldl stM (p.1, [])).1.length ≤ 600
  · rw [if_pos hq] at cn ⊢
    obtain ⟨h', r, u, c, l, f⟩ := cn
    exact ⟨h1.length, h', r, ⟨u, by rw [f W wf wn (by omega), g1 W lw]; exact hw, by rw [f R rf rn (by omega), g1 R lr]; exact hr, wu, wf, wn, wr, ru, rf, rn⟩, c⟩
  · rw [if_neg hq] at cn ⊢
    exact cn
theorem turn_W {U F N W R : Nat} {cap : Int} {ar : List Rw} {p : List Ky × List Rw} {h : MH} {i : Nat} {o5 o6 o7 : Option D} (ha : ArOk ar) (v : Inv ar p) (s : WS h U F N W R cap ar p) (hi : i < p.1.length) (hl : p.1.length ≤ 600) (hl2 : p.2.length ≤ 1000) (hc : okMsg cap) :
    if (stp ar cap p i).1.length ≤ 600 then ∃ h' p5, bW [some (.ref U), some (.met 5 (.ref W)), some (.met 6 (.ref W)), some (.ref R), some (.int i), o5, o6, o7] h = .nxt [some (.ref U), some (.met 5 (.ref W)), some (.met 6 (.ref W)), some (.ref R), some (.int ((i + 1 : Nat) : Int)), p5, o6, o7] h' ∧ WS h' U F N W R cap ar (stp ar cap p i)
    else ∃ ds h', bW [some (.ref U), some (.met 5 (.ref W)), some (.met 6 (.ref W)), some (.ref R), some (.int i), o5, o6, o7] h = .exc (tooMany cap) ds h' := by
  have hk : p.1[i]? = some p.1[i] := List.getElem?_eq_getElem hi
  have ok := v.ok _ (List.getElem_mem hi)
  have hs : stp ar cap p i = trn ar cap p.1 p.2 p.1[i] := by simp only [stp, hk, if_pos hl]
  rw [hs]
  have cs := comp_step (i := i) (o6 := o6) (o7 := o7) ha s ok hl hc
  have ef : h[F]? = some (.lst (p.1.map eK)) := s.us.f
  have ekey : orD atD dgetD h (.ref F) (.int i) = some (eK p.1[i]) := by simp [orD, atD, seqL, ef, atI_nat, hk]
  have r1 : cSet 5 (c2 (orD atD dgetD) (c1 (fldD (· == 2) "found") (cVar 0)) (cVar 4)) [some (.ref U), some (.met 5 (.ref W)), some (.met 6 (.ref W)), some (.ref R), some (.int i), o5, o6, o7] h = .nxt [some (.ref U), some (.met 5 (.ref W)), some (.met 6 (.ref W)), some (.ref R), some (.int i), some (eK p.1[i]), o6, o7] h :=
    set_n (c2_n (c1_n rfl (u_f s.us.u)) rfl ekey)
  have r2 : cCallV tbl 1 (cCons (cVar 5) cNil) [some (.ref U), some (.met 5 (.ref W)), some (.met 6 (.ref W)), some (.ref R), some (.int i), some (eK p.1[i]), o6, o7] h = .val (.int (own ar p.1[i])) h := owner_of s.w ok
  show if ((sucs ar cap p.1[i]).foldl stM (p.1, [])).1.length ≤ 600 then _ else _
  by_cases hq : ((sucs ar cap p.1[i]).foldl stM (p.1, [])).1.length ≤ 600
  · rw [if_pos hq] at cs ⊢
    obtain ⟨C, h1, run, s1, c1⟩ := cs
    have et : tupleD h1 [.ref C] = some (.tup (((sucs ar cap p.1[i]).foldl stM (p.1, [])).2.map eM)) := by simp [tupleD, itemsD, seqL, c1]
    have hR : h1[R]? = some (.lst (p.2.map eR)) := s1.r
    obtain ⟨⟨hu, hf, hn, uf, un, fn⟩, hw, hr, wu, wf, wn, wr, ru, rf, rn⟩ := s1
    refine ⟨h1.set R (.lst (p.2.map eR ++ [.tup [.int (own ar p.1[i]), .tup (((sucs ar cap p.1[i]).foldl stM (p.1, [])).2.map eM)]])), some (eK p.1[i]), seq_n r1 (seq_n (expr_n (mut_n rfl (isl_n s.r) (cons_n (tup_n (cons_n r2 (cons_n (cn_n (cons_n run rfl) et) rfl)) (by simp)) rfl) (app_n hR (by simp; omega)))) (aug_n rfl rfl rfl)), ⟨⟨?_, ?_, ?_, uf, un, fn⟩, ?_, ?_, wu, wf, wn, wr, ru, rf, rn⟩⟩
    · rw [List.getElem?_set_ne ru]; exact hu
    · rw [List.getElem?_set_ne rf]; exact hf
    · rw [List.getElem?_set_ne rn]; exact hn
    · rw [List.getElem?_set_ne (Ne.symm wr)]; exact hw
    · rw [set_at hR]; simp [trn, eR]
  · rw [if_neg hq] at cs ⊢
    obtain ⟨h1, run⟩ := cs
    exact ⟨_, h1, seq_n r1 (seq_x (expr_x (mut_x rfl (isl_n s.r) (cons_x1 (tup_x (cons_x2 r2 (cons_x1 (cn_x (cons_x1 run))))))))) ⟩
end K74
end
section
set_option Elab.async false
set_option linter.all false
set_option maxRecDepth 100000
set_option maxHeartbeats 1000000
namespace K74
open PySem PySem.Spec DL L2
theorem wh_z (t : Sl → MH → ER Bool) (b : Sl → MH → SR) (n : Nat) {ds : Sl} {h h1 : MH} (e : t ds h = .val false h1) : whileR t b (n + 1) ds h = .nxt ds h1 := by
  rw [whileR, e]; rfl
theorem wh_n (t : Sl → MH → ER Bool) (b : Sl → MH → SR) (n : Nat) {ds ds' : Sl} {h h1 h' : MH} (e : t ds h = .val true h1) (e2 : b ds h1 = .nxt ds' h') : whileR t b (n + 1) ds h = whileR t b n ds' h' := by
  rw [whileR, e, bsv]; simp only [if_true, e2]
theorem wh_x (t : Sl → MH → ER Bool) (b : Sl → MH → SR) (n : Nat) {ds ds' : Sl} {h h1 h' : MH} {x : Xn} (e : t ds h = .val true h1) (e2 : b ds h1 = .exc x ds' h') : whileR t b (n + 1) ds h = .exc x ds' h' := by
  rw [whileR, e, bsv]; simp only [if_true, e2]
def slW (U W R i : Nat) (o5 o6 o7 : Option D) : Sl := [some (.ref U), some (.met 5 (.ref W)), some (.met 6 (.ref W)), some (.ref R), some (.int i), o5, o6, o7]
theorem test_W {U F N W R i : Nat} {cap : Int} {ar : List Rw} {p : List Ky × List Rw} {h : MH} {o5 o6 o7 : Option D} (s : WS h U F N W R cap ar p) : tW (slW U W R i o5 o6 o7) h = .val (decide (i < p.1.length)) h := by
  have hlen : lenD h [.ref F] = some (.int p.1.length) := by simp [lenD, itemsD, seqL, s.us.f]
  have e1 : ltD h (.int i) (.int p.1.length) = some (.bl (decide (i < p.1.length))) := by simp [ltD]
  exact cB_n (c2_n rfl (cn_n (cons_n (c1_n rfl (u_f s.us.u)) rfl) hlen) e1)
theorem while_W {U F N W R L : Nat} {cap : Int} {ar : List Rw} {k0 : Ky} {o6 o7 : Option D} (ha : ArOk ar) (v0 : Inv ar ([k0], [])) (hc : okMsg cap) (hL : L = 601) :
    ∀ (fu m i : Nat) (o5 : Option D) (h : MH), m + i = L → m < fu → WS h U F N W R cap ar (stL ar cap ([k0], []) i) → i ≤ (stL ar cap ([k0], []) i).1.length → (stL ar cap ([k0], []) i).1.length ≤ 600 →
    if (stL ar cap ([k0], []) L).1.length ≤ 600 then ∃ ds h', whileR tW bW fu (slW U W R i o5 o6 o7) h = .nxt ds h' ∧ ds[3]? = some (some (.ref R)) ∧ WS h' U F N W R cap ar (stL ar cap ([k0], []) L)
    else ∃ ds h', whileR tW bW fu (slW U W R i o5 o6 o7) h = .exc (tooMany cap) ds h' := by
  intro fu
  induction fu with
  | zero => intro m i o5 h e e2; omega
  | succ fu ih =>
    intro m i o5 h e e2 s hi hl
    by_cases hlt : i < (stL ar cap ([k0], []) i).1.length
    · have ht : tW (slW U W R i o5 o6 o7) h = .val true h := by rw [test_W s, decide_eq_true hlt]
      have tu := turn_W (o5 := o5) (o6 := o6) (o7 := o7) ha (stL_inv ha v0 i) s hlt hl (by have := (stL_len ha (cap := cap) (k0 := k0) i).2; omega) hc
      rw [← stL_s] at tu
      have hp : (stL ar cap ([k0], []) i).1.length ≤ (stL ar cap ([k0], []) (i + 1)).1.length := (stL_pre i 1).length_le
      by_cases hq : (stL ar cap ([k0], []) (i + 1)).1.length ≤ 600
      · rw [if_pos hq] at tu
        obtain ⟨h1, p5, run, s1⟩ := tu
        rw [wh_n tW bW fu ht run]
        exact ih (m - 1) (i + 1) p5 h1 (by omega) (by omega) s1 (by omega) hq
      · rw [if_neg hq] at tu
        obtain ⟨ds, h1, run⟩ := tu
        rw [wh_x tW bW fu ht run]
        have hp := (stL_pre (ar := ar) (cap := cap) (p := ([k0], [])) (i + 1) (L - (i + 1))).length_le
        rw [show i + 1 + (L - (i + 1)) = L by omega] at hp
        rw [if_neg (by omega)]
        exact ⟨ds, h1, rfl⟩
    · have ht : tW (slW U W R i o5 o6 o7) h = .val false h := by rw [test_W s, decide_eq_false hlt]
      have st := stL_stay (ar := ar) (cap := cap) (p := ([k0], [])) (i := i) (by omega) (L - i)
      rw [show i + (L - i) = L by omega] at st
      rw [st, if_pos hl]
      exact ⟨slW U W R i o5 o6 o7, h, wh_z tW bW fu ht, rfl, s⟩
theorem m3_eq (xs : List D) (h : MH) : m3 xs h = cDef 3 8 (cSeq (cSet 3 (cLstM cNil)) (cSeq (cSet 4 (cC (.int 0))) (cSeq (cWhile 100000 tW bW) (cRet (cn tupleD (cCons (cVar 3) cNil)))))) xs h := rfl
theorem unfolded {U F N W L : Nat} {cap : Int} {ar : List Rw} {k0 : Ky} {h : MH} (hL : L = 601) (ha : ArOk ar) (v0 : Inv ar ([k0], [])) (hc : okMsg cap) (us : US h U F N cap [k0]) (hw : h[W]? = some (.ins 3 (wFs ar cap))) (wu : W ≠ U) (wf : W ≠ F) (wn : W ≠ N) :
    if (stL ar cap ([k0], []) L).1.length ≤ 600 then ∃ h', m3 [.ref U, .met 5 (.ref W), .met 6 (.ref W)] h = .val (.tup ((stL ar cap ([k0], []) L).2.map eR)) h' ∧ US h' U F N cap (stL ar cap ([k0], []) L).1
    else ∃ h', m3 [.ref U, .met 5 (.ref W), .met 6 (.ref W)] h = .exc (tooMany cap) h' := by
  rw [m3_eq]
  obtain ⟨fu, hfu⟩ : ∃ fu, fu = 100000 := ⟨_, rfl⟩
  rw [← hfu]
  obtain ⟨hu, hf, hn, uf, un, fn⟩ := us
  have lu : U < h.length := (List.getElem?_eq_some_iff.mp hu).1
  have lf : F < h.length := (List.getElem?_eq_some_iff.mp hf).1
  have ln : N < h.length := (List.getElem?_eq_some_iff.mp hn).1
  have lw : W < h.length := (List.getElem?_eq_some_iff.mp hw).1
  have s : WS (h ++ [MO.lst []]) U F N W h.length cap ar ([k0], []) := ⟨⟨by rw [List.getElem?_append_left lu]; exact hu, by rw [List.getElem?_append_left lf]; exact hf, by rw [List.getElem?_append_left ln]; exact hn, uf, un, fn⟩, by rw [List.getElem?_append_left lw]; exact hw, by simp, wu, wf, wn, by omega, by omega, by omega, by omega⟩
  rw [← stL_0 ar cap ([k0], [])] at s
  have wh := while_W (o6 := none) (o7 := none) ha v0 hc hL fu L 0 none (h ++ [MO.lst []]) rfl (by omega) s (Nat.zero_le _) (by rw [stL_0]; simp)
  have r1 : cSet 3 (cLstM cNil) [some (.ref U), some (.met 5 (.ref W)), some (.met 6 (.ref W)), none, none, none, none, none] h = .nxt [some (.ref U), some (.met 5 (.ref W)), some (.met 6 (.ref W)), some (.ref h.length), none, none, none, none] (h ++ [MO.lst []]) := set_n (lstM_n rfl (by simp))
  have r2 : cSet 4 (cC (.int 0)) [some (.ref U), some (.met 5 (.ref W)), some (.met 6 (.ref W)), some (.ref h.length), none, none, none, none] (h ++ [MO.lst []]) = .nxt (slW U W h.length 0 none none none) (h ++ [MO.lst []]) := rfl
  by_cases hq : (stL ar cap ([k0], []) L).1.length ≤ 600
  · rw [if_pos hq] at wh ⊢
    obtain ⟨ds, h', run, d3, s'⟩ := wh
    have run' : cWhile fu tW bW (slW U W h.length 0 none none none) (h ++ [MO.lst []]) = .nxt ds h' := run
    have et : tupleD h' [.ref h.length] = some (.tup ((stL ar cap ([k0], []) L).2.map eR)) := by simp [tupleD, itemsD, seqL, s'.r]
    have ev : cVar 3 ds h' = .val (.ref h.length) h' := by simp only [cVar, d3]
    exact ⟨h', cDef_ret rfl (seq_n r1 (seq_n r2 (seq_n run' (ret_n (cn_n (cons_n ev rfl) et))))), s'.us⟩
  · rw [if_neg hq] at wh ⊢
    obtain ⟨ds, h', run⟩ := wh
    have run' : cWhile fu tW bW (slW U W h.length 0 none none none) (h ++ [MO.lst []]) = .exc (tooMany cap) ds h' := run
    exact ⟨h', cDef_exc rfl (seq_n r1 (seq_n r2 (seq_x run')))⟩
end K74
end
section
set_option Elab.async false
set_option linter.all false
set_option maxRecDepth 100000
set_option maxHeartbeats 1000000
namespace K74
open PySem PySem.Spec DL L2

theorem setF_at {P : Nat → Bool} {f : Str} {h : MH} {n c : Nat} {fs : List (Str × D)} {x : D} (e : h[n]? = some (.ins c fs)) (hp : P c = true) (hl : fs.length < 100) : setFD P f h (.ref n) x = some (h.set n (.ins c (putD f x fs))) := by
  simp only [setFD, insD, e, hp, if_true, if_pos hl]
theorem put1 (f : Str) (x : D) : putD f x [] = [(f, x)] := rfl
theorem put2 {f g : Str} {x y : D} {r : List (Str × D)} (h : (g == f) = false) : putD f x ((g, y) :: r) = (g, y) :: putD f x r := by
  have : ¬ g = f := fun e => by rw [e] at h; simp at h
  show (if g = f then _ else _) = _
  rw [if_neg this]
theorem neA : (nA == nC) = false := by decide +kernel
theorem world_m {h : MH} {ar : List Rw} {cap : Int} : m4 [.ref h.length, eA ar, .int cap] (h ++ [.ins 3 []]) = .val .non (h ++ [.ins 3 (wFs ar cap)]) := by
  have e0 : (h ++ [MO.ins 3 []])[h.length]? = some (.ins 3 []) := by simp
  have e1 : ((h ++ [MO.ins 3 []]).set h.length (.ins 3 (putD nA (eA ar) [])))[h.length]? = some (.ins 3 (putD nA (eA ar) [])) := set_at e0
  have q : (((h ++ [MO.ins 3 []]).set h.length (.ins 3 (putD nA (eA ar) []))).set h.length (.ins 3 (putD nC (.int cap) (putD nA (eA ar) [])))) = h ++ [.ins 3 (wFs ar cap)] := by
    rw [put1, put2 neA, put1, List.set_set]
    simp [wFs]
  rw [← q]
  exact cDef_nxt rfl (seq_n (setF_n rfl rfl (setF_at (P := (· == 3)) (f := nA) (x := eA ar) e0 rfl (by decide))) (setF_n rfl rfl (setF_at (P := (· == 3)) (f := nC) (x := .int cap) e1 rfl (by simp [putD]))))
theorem neF1 : (nF == nN) = false := by decide +kernel
theorem neF2 : (nF == nW) = false := by decide +kernel
theorem neF3 : (nF == nM) = false := by decide +kernel
theorem neN1 : (nN == nW) = false := by decide +kernel
theorem neN2 : (nN == nM) = false := by decide +kernel
theorem neW1 : (nW == nM) = false := by decide +kernel
theorem unf_m {h : MH} {cap : Int} {k0 : Ky} : ∃ h', mi1 [.ref h.length, eK k0, .int cap] (h ++ [.ins 2 []]) = .val .non h' ∧ US h' h.length (h.length + 1) (h.length + 2) cap [k0] ∧ ∀ j, j < h.length → h'[j]? = h[j]? := by
  have e0 : ((h ++ [MO.ins 2 []]) ++ [.lst [eK k0]])[h.length]? = some (.ins 2 []) := by simp
  have q1 : setFD (· == 2) nF ((h ++ [MO.ins 2 []]) ++ [.lst [eK k0]]) (.ref h.length) (.ref (h.length + 1)) = some (h ++ [.ins 2 [(nF, .ref (h.length + 1))], .lst [eK k0]]) := by
    rw [setF_at e0 rfl (by decide), put1]
    simp
  have r1 : cSetF (· == 2) "found" (cVar 0) (cLstM (cCons (cVar 1) cNil)) [some (.ref h.length), some (eK k0), some (.int cap), some (.int 600)] (h ++ [.ins 2 []]) = .nxt [some (.ref h.length), some (eK k0), some (.int cap), some (.int 600)] (h ++ [.ins 2 [(nF, .ref (h.length + 1))], .lst [eK k0]]) := by
    refine setF_n (lstM_n (cons_n rfl rfl) (by simp)) rfl ?_
    have : (h ++ [MO.ins 2 []]).length = h.length + 1 := by simp
    rw [this]
    exact q1
  have e2 : (((h ++ [.ins 2 [(nF, .ref (h.length + 1))], .lst [eK k0]]) ++ [MO.dic true [(eK k0, .int 0)]]))[h.length]? = some (.ins 2 [(nF, .ref (h.length + 1))]) := by simp
  have q2 : setFD (· == 2) nN ((h ++ [.ins 2 [(nF, .ref (h.length + 1))], .lst [eK k0]]) ++ [MO.dic true [(eK k0, .int 0)]]) (.ref h.length) (.ref (h.length + 2)) = some (h ++ [.ins 2 [(nF, .ref (h.length + 1)), (nN, .ref (h.length + 2))], .lst [eK k0], .dic true [(eK k0, .int 0)]]) := by
    rw [setF_at e2 rfl (by simp), put2 neF1, put1]
    simp
  have r2 : cSetF (· == 2) "numbers" (cVar 0) (cDic1 true (cVar 1) (cC (.int 0))) [some (.ref h.length), some (eK k0), some (.int cap), some (.int 600)] (h ++ [.ins 2 [(nF, .ref (h.length + 1))], .lst [eK k0]]) = .nxt [some (.ref h.length), some (eK k0), some (.int cap), some (.int 600)] (h ++ [.ins 2 [(nF, .ref (h.length + 1)), (nN, .ref (h.length + 2))], .lst [eK k0], .dic true [(eK k0, .int 0)]]) := by
    refine setF_n (dic1_n rfl rfl (keyOk_eK k0)) rfl ?_
    have : (h ++ [.ins 2 [(nF, .ref (h.length + 1))], MO.lst [eK k0]]).length = h.length + 2 := by simp
    rw [this]
    exact q2
  have e3 : (h ++ [.ins 2 [(nF, .ref (h.length + 1)), (nN, .ref (h.length + 2))], .lst [eK k0], MO.dic true [(eK k0, .int 0)]])[h.length]? = some (.ins 2 [(nF, .ref (h.length + 1)), (nN, .ref (h.length + 2))]) := by simp
  have q3 : setFD (· == 2) nW (h ++ [.ins 2 [(nF, .ref (h.length + 1)), (nN, .ref (h.length + 2))], .lst [eK k0], MO.dic true [(eK k0, .int 0)]]) (.ref h.length) (.int cap) = some (h ++ [.ins 2 [(nF, .ref (h.length + 1)), (nN, .ref (h.length + 2)), (nW, .int cap)], .lst [eK k0], MO.dic true [(eK k0, .int 0)]]) := by
    rw [setF_at e3 rfl (by simp), put2 neF2, put2 neN1, put1]
    simp
  have e4 : (h ++ [.ins 2 [(nF, .ref (h.length + 1)), (nN, .ref (h.length + 2)), (nW, .int cap)], .lst [eK k0], MO.dic true [(eK k0, .int 0)]])[h.length]? = some (.ins 2 [(nF, .ref (h.length + 1)), (nN, .ref (h.length + 2)), (nW, .int cap)]) := by simp
  have q4 : setFD (· == 2) nM (h ++ [.ins 2 [(nF, .ref (h.length + 1)), (nN, .ref (h.length + 2)), (nW, .int cap)], .lst [eK k0], MO.dic true [(eK k0, .int 0)]]) (.ref h.length) (.int 600) = some (h ++ [.ins 2 (uFs (h.length + 1) (h.length + 2) cap), .lst [eK k0], MO.dic true [(eK k0, .int 0)]]) := by
    rw [setF_at e4 rfl (by simp), put2 neF3, put2 neN2, put2 neW1, put1]
    simp [uFs]
  have hm : m1 [.ref h.length, eK k0, .int cap, .int 600] (h ++ [.ins 2 []]) = .val .non (h ++ [.ins 2 (uFs (h.length + 1) (h.length + 2) cap), .lst [eK k0], MO.dic true [(eK k0, .int 0)]]) :=
    cDef_nxt rfl (seq_n r1 (seq_n r2 (seq_n (setF_n rfl rfl q3) (setF_n rfl rfl q4))))
  refine ⟨_, hm, ⟨by simp, by simp, by simp [kvF], by omega, by omega, by omega⟩, fun j hj => by rw [List.getElem?_append_left hj]⟩
abbrev nO : Str := "owner_of"
abbrev nS : Str := "steps_of"
theorem w_o (ar : List Rw) (cap : Int) : (wFs ar cap).lookup nO = none := by
  have h1 : (nO == nA) = false := by decide +kernel
  have h2 : (nO == nC) = false := by decide +kernel
  simp only [wFs, List.lookup, h1, h2]
theorem w_s (ar : List Rw) (cap : Int) : (wFs ar cap).lookup nS = none := by
  have h1 : (nS == nA) = false := by decide +kernel
  have h2 : (nS == nC) = false := by decide +kernel
  simp only [wFs, List.lookup, h1, h2]
theorem u_a (F N : Nat) (cap : Int) : (uFs F N cap).lookup nA = none := by
  have h1 : (nA == nF) = false := by decide +kernel
  have h2 : (nA == nN) = false := by decide +kernel
  have h3 : (nA == nW) = false := by decide +kernel
  have h4 : (nA == nM) = false := by decide +kernel
  simp only [uFs, List.lookup, h1, h2, h3, h4]
theorem bm_at {P : Nat → Bool} {f : Str} {i n c : Nat} {fs : List (Str × D)} {h : MH} (e : h[n]? = some (.ins c fs)) (hp : P c = true) (hf : fs.lookup f = none) : bmD P f i h (.ref n) = some (.met i (.ref n)) := by
  simp only [bmD, insD, e, hp, if_true, if_pos hf]
theorem capped_m {h : MH} {cap : Int} {ar : List Rw} {start L : Nat} (hL : L = 601) (ha : ArOk ar) (hs : start < ar.length) (hc : okMsg cap) :
    if (stL ar cap ([.at start cap], []) L).1.length ≤ 600 then ∃ h', m7 [eA ar, .int cap, .int start] h = .val (outD (stL ar cap ([.at start cap], []) L)) h'
    else ∃ h', m7 [eA ar, .int cap, .int start] h = .exc (tooMany cap) h' := by
  have v0 : Inv ar ([.at start cap], []) := ⟨by simp, fun k hk => by
    have : k = .at start cap := by simpa using hk
    subst this
    exact hs⟩
  have r1 : cSet 3 (cMake 3 m4 (cCons (cVar 0) (cCons (cVar 1) cNil))) [some (eA ar), some (.int cap), some (.int start), none, none, none, none] h = .nxt [some (eA ar), some (.int cap), some (.int start), some (.ref h.length), none, none, none] (h ++ [.ins 3 (wFs ar cap)]) :=
    set_n (make_n (cons_n rfl (cons_n rfl rfl)) world_m)
  obtain ⟨h2, run2, us, f2⟩ := unf_m (h := h ++ [.ins 3 (wFs ar cap)]) (cap := cap) (k0 := .at start cap)
  have r2 : cSet 4 (cMake 2 mi1 (cCons (cTup (cCons (cVar 2) (cCons (cVar 1) cNil))) (cCons (cVar 1) cNil))) [some (eA ar), some (.int cap), some (.int start), some (.ref h.length), none, none, none] (h ++ [MO.ins 3 (wFs ar cap)]) = .nxt [some (eA ar), some (.int cap), some (.int start), some (.ref h.length), some (.ref (h ++ [MO.ins 3 (wFs ar cap)]).length), none, none] h2 :=
    set_n (make_n (cons_n (tup_n (cons_n rfl (cons_n rfl rfl)) (by simp)) (cons_n rfl rfl)) run2)
  have hl : (h ++ [MO.ins 3 (wFs ar cap)]).length = h.length + 1 := by simp
  have hw : h2[h.length]? = some (.ins 3 (wFs ar cap)) := by rw [f2 _ (by omega)]; simp
  have un := unfolded hL ha v0 hc us hw (by omega) (by omega) (by omega)
  have hargs : (cCons (cBM (· == 3) "owner_of" 5 (cVar 3)) (cCons (cBM (· == 3) "steps_of" 6 (cVar 3)) cNil)) [some (eA ar), some (.int cap), some (.int start), some (.ref h.length), some (.ref (h ++ [MO.ins 3 (wFs ar cap)]).length), none, none] h2 = .val [.met 5 (.ref h.length), .met 6 (.ref h.length)] h2 :=
    cons_n (c1_n rfl (bm_at (P := (· == 3)) (f := nO) hw rfl (w_o ar cap))) (cons_n (c1_n rfl (bm_at (P := (· == 3)) (f := nS) hw rfl (w_s ar cap))) rfl)
  by_cases hq : (stL ar cap ([.at start cap], []) L).1.length ≤ 600
  · rw [if_pos hq] at un ⊢
    obtain ⟨h3, run3, us3⟩ := un
    have r3 : cSet 5 (cMeth (· == 2) "arena" m3 (cVar 4) (cCons (cBM (· == 3) "owner_of" 5 (cVar 3)) (cCons (cBM (· == 3) "steps_of" 6 (cVar 3)) cNil))) [some (eA ar), some (.int cap), some (.int start), some (.ref h.length), some (.ref (h ++ [MO.ins 3 (wFs ar cap)]).length), none, none] h2 = .nxt [some (eA ar), some (.int cap), some (.int start), some (.ref h.length), some (.ref (h ++ [MO.ins 3 (wFs ar cap)]).length), some (.tup ((stL ar cap ([.at start cap], []) L).2.map eR)), none] h3 :=
      set_n (meth_n rfl (u_in us.u) (u_a _ _ _) hargs run3)
    have k3l : (h ++ [MO.ins 3 (wFs ar cap)]).length + 1 < h3.length := (List.getElem?_eq_some_iff.mp us3.f).1
    obtain ⟨h4, run4, e4, l4, f4⟩ := comp_map (it := cCur (c1 (fldD (· == 2) "found") (cVar 4))) (vs := [6]) (g := gN 6) (e := cIf (cB (c2 eqD (cVar 6) (cC c_BARE))) (cC (.int 1)) (cC (.int 0))) (ds := [some (eA ar), some (.int cap), some (.int start), some (.ref h.length), some (.ref (h ++ [MO.ins 3 (wFs ar cap)]).length), some (.tup ((stL ar cap ([.at start cap], []) L).2.map eR)), none]) (h := h3) (h1 := h3)
      (cur := curD (.ref ((h ++ [MO.ins 3 (wFs ar cap)]).length + 1))) (xs := (stL ar cap ([.at start cap], []) L).1.map eK) markD (cur_n (c1_n rfl (u_f us3.u)) (zs := (stL ar cap ([.at start cap], []) L).1.map eK) (by simp only [curD, seqL, us3.f]))
      (fun hh hj => by simp only [curD, seqL, hj _ k3l, us3.f])
      (fun x hx hh hj => by
        obtain ⟨k, hk, rfl⟩ := List.mem_map.mp hx
        refine ⟨_, rfl, ?_⟩
        have hq := eq_bare hh k
        have hm : markD (eK k) = .int (if k = .bare then 1 else 0) := mark_eK k
        rw [hm]
        by_cases hk2 : k = .bare
        · rw [if_pos hk2]
          rw [decide_eq_true hk2] at hq
          exact ife_t (cB_n (c2_n rfl rfl hq)) rfl
        · rw [if_neg hk2]
          rw [decide_eq_false hk2] at hq
          exact ife_f (cB_n (c2_n rfl rfl hq)) rfl)
      (by simp; omega)
    have hmk : tupleD h4 [.ref h3.length] = some (.tup ((stL ar cap ([.at start cap], []) L).1.map mark)) := by
      have : ((stL ar cap ([.at start cap], []) L).1.map eK).map markD = (stL ar cap ([.at start cap], []) L).1.map mark := by
        rw [List.map_map]
        exact List.map_congr_left fun k _ => mark_eK k
      simp only [tupleD, itemsD, seqL, e4, this]
    have hu4 : h4[(h ++ [MO.ins 3 (wFs ar cap)]).length]? = some (.ins 2 (uFs ((h ++ [MO.ins 3 (wFs ar cap)]).length + 1) ((h ++ [MO.ins 3 (wFs ar cap)]).length + 2) cap)) := by rw [f4 _ (by omega)]; exact us3.u
    have hks : tupleD h4 [.ref ((h ++ [MO.ins 3 (wFs ar cap)]).length + 1)] = some (.tup ((stL ar cap ([.at start cap], []) L).1.map eK)) := by simp only [tupleD, itemsD, seqL, f4 _ k3l, us3.f]
    exact ⟨h4, cDef_ret rfl (seq_n r1 (seq_n r2 (seq_n r3 (ret_n (tup_n (cons_n rfl (cons_n (cn_n (cons_n run4 rfl) hmk) (cons_n (cn_n (cons_n (c1_n rfl (u_f hu4)) rfl) hks) rfl))) (by simp))))))⟩
  · rw [if_neg hq] at un ⊢
    obtain ⟨h3, run3⟩ := un
    have r3 : cSet 5 (cMeth (· == 2) "arena" m3 (cVar 4) (cCons (cBM (· == 3) "owner_of" 5 (cVar 3)) (cCons (cBM (· == 3) "steps_of" 6 (cVar 3)) cNil))) [some (eA ar), some (.int cap), some (.int start), some (.ref h.length), some (.ref (h ++ [MO.ins 3 (wFs ar cap)]).length), none, none] h2 = .exc (tooMany cap) [some (eA ar), some (.int cap), some (.int start), some (.ref h.length), some (.ref (h ++ [MO.ins 3 (wFs ar cap)]).length), none, none] h3 :=
      set_x (meth_n rfl (u_in us.u) (u_a _ _ _) hargs run3)
    exact ⟨h3, cDef_exc rfl (seq_n r1 (seq_n r2 (seq_x r3)))⟩
theorem told_m {h : MH} {cap : Int} {ar : List Rw} {start L : Nat} (hL : L = 601) (ha : ArOk ar) (hs : start < ar.length) (hc : okMsg cap) :
    ∃ h', m16 [eA ar, .int cap, .int start] h = .val (if 600 < (stL ar cap ([.at start cap], []) L).1.length then .tup [.str "many", .int cap] else outD (stL ar cap ([.at start cap], []) L)) h' := by
  have cm := capped_m (h := h) (cap := cap) hL ha hs hc
  by_cases hq : (stL ar cap ([.at start cap], []) L).1.length ≤ 600
  · rw [if_pos hq] at cm
    rw [if_neg (by omega)]
    obtain ⟨h', run⟩ := cm
    refine ⟨h', cDef_ret rfl ?_⟩
    unfold cTry
    rw [ret_n (call_n (cons_n rfl (cons_n rfl (cons_n rfl rfl))) run)]
  · rw [if_neg hq] at cm
    rw [if_pos (by omega)]
    obtain ⟨h', run⟩ := cm
    refine ⟨h', cDef_ret rfl ?_⟩
    unfold cTry
    rw [ret_x (call_n (cons_n rfl (cons_n rfl (cons_n rfl rfl))) run)]
    rfl
end K74
end
section
set_option Elab.async false
set_option linter.all false
set_option maxRecDepth 100000
set_option maxHeartbeats 1000000
namespace K74
open PySem PySem.Spec DL L2

/-- plain data of whole numbers, texts and tuples, n deep -/
def Sm : Nat → D → Prop
  | 0, _ => False
  | n + 1, .int _ => True
  | n + 1, .str _ => True
  | n + 1, .tup xs => xs.length ≤ 90000 ∧ ∀ x ∈ xs, Sm n x
  | _ + 1, _ => False
theorem k_it : kitB "int" "tuple" = some false := by decide +kernel
theorem k_is' : kitB "int" "str" = some false := by decide +kernel
theorem k_ii : kitB "int" "int" = some true := by decide +kernel
theorem k_ib : kitB "int" "bool" = some false := by decide +kernel
theorem k_st : kitB "str" "tuple" = some false := by decide +kernel
theorem k_ss : kitB "str" "str" = some true := by decide +kernel
theorem k_tt : kitB "tuple" "tuple" = some true := by decide +kernel
theorem isi_n {Ty t : String} {c : Sl → MH → ER D} {ds : Sl} {h h1 : MH} {x : D} {b : Bool} (e : c ds h = .val x h1) (et : tyD h1 x = some t) (ek : kitB t Ty = some b) : cIsi Ty c ds h = .val (.bl b) h1 := by
  unfold cIsi
  rw [e, bv, et]
  simp only [ek]
theorem whole_m {n : Int} {h : MH} : m10 [.int n] h = .val (.bl true) h :=
  cDef_ret rfl (ret_n (andV_t (isi_n rfl rfl k_ii) (notV_n (k := false) (isi_n rfl rfl k_ib))))
theorem bls_rep : ∀ n : Nat, blsOf (List.replicate n (.bl true)) = some (List.replicate n true)
  | 0 => rfl
  | n + 1 => by
    simp only [List.replicate_succ, blsOf, bls_rep n]
theorem same_m : ∀ (n : Nat) (d : D) (h : MH), Sm n d → ∃ h', m11 n [d, d] h = .val (.bl true) h' ∧ h.length ≤ h'.length ∧ ∀ j, j < h.length → h'[j]? = h[j]? := by
  intro n
  induction n with
  | zero => intro d h s; exact s.elim
  | succ n ih =>
    intro d h s
    cases d with
    | int k =>
      have e : eqD h (.int k) (.int k) = some (.bl true) := by simp [eqD]
      exact ⟨h, cDef_ret rfl (seq_n (ifs_f (cB_n (isi_n rfl rfl k_it)) rfl) (seq_n (ifs_f (cB_n (isi_n rfl rfl k_is')) rfl) (ret_n (andV_t (call_n (cons_n rfl rfl) whole_m) (c2_n rfl rfl e))))), Nat.le_refl _, fun _ _ => rfl⟩
    | str k =>
      have e : eqD h (.str k) (.str k) = some (.bl true) := by simp [eqD]
      exact ⟨h, cDef_ret rfl (seq_n (ifs_f (cB_n (isi_n rfl rfl k_st)) rfl) (seq_r (ifs_t (cB_n (isi_n rfl rfl k_ss)) (ret_n (andV_t (isi_n rfl rfl k_ss) (c2_n rfl rfl e)))))), Nat.le_refl _, fun _ _ => rfl⟩
    | tup xs =>
      obtain ⟨hl, hx⟩ : xs.length ≤ 90000 ∧ ∀ x ∈ xs, Sm n x := s
      have elen : ∀ hh : MH, lenD hh [.tup xs] = some (.int xs.length) := fun hh => by simp [lenD, itemsD]
      have ene : neD h (.int xs.length) (.int xs.length) = some (.bl false) := by simp [neD]
      have hrg : cRg1 (cCons (cn lenD (cCons (cVar 1) cNil)) cNil) [some (.tup xs), some (.tup xs), none] h = .val (fun _ => some (rgD 0 (xs.length : Int).toNat)) h := rg1_ok (cn_n (cons_n rfl rfl) (elen h)) (by omega) (by omega)
      obtain ⟨acc, h', run, q1, q2, q3, q4⟩ := comp_inv (cur := fun _ => some (rgD 0 (xs.length : Int).toNat)) (n := h.length) (g := gN 2) (t := cYes) (e := cCall (m11 n) (cCons (c2 (orD atD dgetD) (cVar 0) (cVar 2)) (cCons (c2 (orD atD dgetD) (cVar 1) (cVar 2)) cNil))) (dw := [some (.tup xs), some (.tup xs), none]) (xs := rgD 0 (xs.length : Int).toNat)
        (fun i acc hh => acc = List.replicate i (.bl true) ∧ hh[h.length]? = some (.lst acc) ∧ h.length < hh.length ∧ ∀ j, j < h.length → hh[j]? = h[j]?)
        (by
          rintro i acc hh ⟨q1, q2, q3, q4⟩
          refine ⟨q2, rfl, fun x hx' => ?_⟩
          obtain ⟨hi, rfl⟩ := rg_at hx'
          have hi : i < xs.length := by simpa using hi
          refine ⟨_, rfl, true, hh, rfl, ?_⟩
          simp only [if_true]
          have eat : orD atD dgetD hh (.tup xs) (.int i) = some xs[i] := atA (List.getElem?_eq_getElem hi)
          obtain ⟨h2, r2, l2, f2⟩ := ih xs[i] hh (hx _ (List.getElem_mem hi))
          refine ⟨.bl true, h2, call_n (cons_n (c2_n rfl rfl eat) (cons_n (c2_n rfl rfl eat) rfl)) r2, by rw [f2 _ q3]; exact q2, by rw [q1]; simp; omega, by rw [q1, List.replicate_succ'], set_at (by rw [f2 _ q3]; exact q2), by simp; omega, fun j hj => ?_⟩
          rw [List.getElem?_set_ne (by omega), f2 j (by omega), q4 j hj])
        (rgD 0 (xs.length : Int).toNat).length 0 [] (h ++ [MO.lst []]) rfl ⟨rfl, by simp, by simp, fun j hj => List.getElem?_append_left hj⟩
      have hc : cComp [2] (cRg1 (cCons (cn lenD (cCons (cVar 1) cNil)) cNil)) (gN 2) cYes (cCall (m11 n) (cCons (c2 (orD atD dgetD) (cVar 0) (cVar 2)) (cCons (c2 (orD atD dgetD) (cVar 1) (cVar 2)) cNil))) [some (.tup xs), some (.tup xs), none] h = .val (.ref h.length) h' := by
        unfold cComp
        rw [hrg, bv]
        exact run
      have eall : allD h' [.ref h.length] = some (.bl true) := by
        simp only [allD, seqL, q2, q1, bls_rep]
        have : ∀ k : Nat, (List.replicate k true).all id = true := fun k => by
          rw [List.all_eq_true]
          intro x hx
          exact (List.mem_replicate.mp hx).2
        rw [this]
      exact ⟨h', cDef_ret rfl (seq_r (ifs_t (cB_n (isi_n rfl rfl k_tt)) (seq_n (ifs_f (or_f (not_n (k := true) (cB_n (isi_n rfl rfl k_tt))) (cB_n (c2_n (cn_n (cons_n rfl rfl) (elen h)) (cn_n (cons_n rfl rfl) (elen h)) ene))) rfl) (ret_n (cn_n (cons_n hc rfl) eall))))), by omega, q4⟩
    | _ => exact s.elim
end K74
end
section
set_option Elab.async false
set_option linter.all false
set_option maxRecDepth 100000
set_option maxHeartbeats 1000000
namespace K74
open PySem PySem.Spec DL L2

/-- n deep, of weight w, short whole numbers -/
def Pl (n w : Nat) (d : D) : Prop := ∃ p, pyD d = some p ∧ p.showable = true ∧ p.hasDict = false ∧ p.leavesShort 40 = true ∧ p.depth ≤ n ∧ p.weight ≤ w
theorem Pl.le {n m w v : Nat} {d : D} (a : n ≤ m) (b : w ≤ v) (h : Pl n w d) : Pl m v d := by
  obtain ⟨p, e, h1, h2, h3, h4, h5⟩ := h
  exact ⟨p, e, h1, h2, h3, by omega, by omega⟩
theorem pl_int {i : Int} (h : i.natAbs < 10 ^ 31) : Pl 0 200 (.int i) := by
  have hl : i.natAbs.log2 < 110 := log2_lt (k := 110) (Nat.lt_of_lt_of_le h (by decide +kernel)) (by decide)
  have ht := int_text_length_le10 (k := 31) (by decide) h
  refine ⟨.int i, rfl, ?_, rfl, ?_, Nat.le_refl _, ?_⟩
  · simp only [PyData.showable, decide_eq_true_eq]; omega
  · simp only [PyData.leavesShort, decide_eq_true_eq]
    show (Str.ofString (toString i)).length ≤ 40
    rw [ofString_length]
    omega
  · simp only [PyData.weight]
    split <;> omega
theorem pl_all {n w : Nat} : ∀ xs : List D, (∀ x ∈ xs, Pl n w x) → ∃ ps, pyDs xs = some ps ∧ PyData.showableAll ps = true ∧ PyData.hasDictAll ps = false ∧ PyData.leavesShortAll 40 ps = true ∧ PyData.depthAll ps ≤ n ∧ PyData.weightAll ps ≤ xs.length * (w + 1)
  | [], _ => ⟨[], rfl, rfl, rfl, rfl, Nat.zero_le _, Nat.zero_le _⟩
  | x :: xs, h => by
    obtain ⟨p, e, h1, h2, h3, h4, h5⟩ := h x (by simp)
    obtain ⟨ps, es, q1, q2, q3, q4, q5⟩ := pl_all xs fun y hy => h y (List.mem_cons_of_mem _ hy)
    refine ⟨p :: ps, by simp only [pyDs, e, es], ?_, ?_, ?_, ?_, ?_⟩
    · simp only [PyData.showableAll, h1, q1, Bool.and_self]
    · simp only [PyData.hasDictAll, h2, q2, Bool.or_self]
    · simp only [PyData.leavesShortAll, h3, q3, Bool.and_self]
    · simp only [PyData.depthAll]; omega
    · simp only [PyData.weightAll, List.length_cons, Nat.add_mul, Nat.one_mul]; omega
theorem pl_tup {n w k : Nat} {xs : List D} (hl : xs.length ≤ k) (h : ∀ x ∈ xs, Pl n w x) : Pl (n + 1) (k * (w + 1)) (.tup xs) := by
  obtain ⟨ps, es, q1, q2, q3, q4, q5⟩ := pl_all xs h
  refine ⟨.tuple ps, by simp only [pyD, es], ?_, ?_, ?_, ?_, ?_⟩
  · simpa only [PyData.showable] using q1
  · simpa only [PyData.hasDict] using q2
  · simpa only [PyData.leavesShort] using q3
  · simp only [PyData.depth]; omega
  · have : xs.length * (w + 1) ≤ k * (w + 1) := Nat.mul_le_mul_right _ hl
    simp only [PyData.weight]; omega
theorem pl_show {n w : Nat} {d : D} (h : Pl n w d) (hn : n ≤ 64) (hw : w ≤ 200000) : okShow d = true := by
  obtain ⟨p, e, h1, h2, h3, h4, h5⟩ := h
  have hs := PyData.shown_le 40 (by decide) p h3
  have h6 : p.shown.length ≤ 10000000 := by
    have : (40 + 2) * p.weight ≤ 42 * 200000 := Nat.mul_le_mul (by omega) (by omega)
    omega
  have h7 : p.depth ≤ 64 := by omega
  simp only [okShow, e, h1, h2, h6, h7, decide_true, Bool.not_false, Bool.and_self]
theorem pl_eM {m : Mv} (h1 : m.1 ≤ 6) (h2 : m.2.natAbs < 10 ^ 31) : Pl 1 402 (eM m) := by
  refine (pl_tup (n := 0) (w := 200) (k := 2) (by simp) fun x hx => ?_).le (by omega) (by omega)
  have hx : x = .int m.1 ∨ x = .int m.2 := by simpa using hx
  rcases hx with rfl | rfl
  · exact pl_int (by have : (10 : Nat) ^ 31 = 10000000000000000000000000000000 := by decide
                     omega)
  · exact pl_int h2
theorem shows_A {a : List Rw} (ha : a.length ≤ 6) (h : ∀ r ∈ a, RwOk a.length (5 * 10 ^ 29) 6 r) : okShow (eA a) = true := by
  refine pl_show (n := 4) (w := 6 * (2 * (6 * 403 + 1) + 1)) (pl_tup (n := 3) (by simpa using ha) fun x hx => ?_) (by omega) (by omega)
  obtain ⟨r, hr, rfl⟩ := List.mem_map.mp hx
  obtain ⟨x1, x2, x3, x4, x5⟩ := h r hr
  refine pl_tup (n := 2) (k := 2) (by simp) fun x hx => ?_
  have hx : x = .int r.1 ∨ x = .tup (r.2.map eM) := by simpa using hx
  have e31 : (10 : Nat) ^ 31 = 10000000000000000000000000000000 := by decide
  rcases hx with rfl | rfl
  · exact (pl_int (by omega)).le (by omega) (by omega)
  · refine pl_tup (n := 1) (k := 6) (by simpa using x4) fun x hx => ?_
    obtain ⟨m, hm, rfl⟩ := List.mem_map.mp hx
    obtain ⟨z1, z2, z3⟩ := x5 m hm
    exact pl_eM (by omega) (by omega)
theorem arOk_of {a : List Rw} {w : Int} (h : ∀ r ∈ a, RwOk a.length w 6 r) : ArOk a := ⟨fun r hr => (h r hr).2.2.2.1, fun r hr m hm => ((h r hr).2.2.2.2 m hm).1⟩
theorem okMsg_700 : ∀ i : Fin 700, okMsg (i.val : Int) := by decide +kernel
theorem okMsg_of {c : Int} (h0 : 0 ≤ c) (h1 : c < 700) : okMsg c := by
  obtain ⟨j, rfl⟩ := Int.eq_ofNat_of_zero_le h0
  exact okMsg_700 ⟨j, by omega⟩
theorem sm_map {α : Type} {n : Nat} {f : α → D} {xs : List α} (hl : xs.length ≤ 90000) (h : ∀ x ∈ xs, Sm n (f x)) : Sm (n + 1) (.tup (xs.map f)) := by
  refine ⟨by simpa using hl, fun x hx => ?_⟩
  obtain ⟨y, hy, rfl⟩ := List.mem_map.mp hx
  exact h y hy
theorem sm_eK (n : Nat) (k : Ky) : Sm (n + 2) (eK k) := by
  cases k with
  | bare => exact ⟨by simp, fun x hx => by
      have : x = .str "empty" := by simpa using hx
      subst this
      exact trivial⟩
  | «at» s l => exact ⟨by simp, fun x hx => by
      have : x = .int s ∨ x = .int l := by simpa using hx
      rcases this with rfl | rfl <;> exact trivial⟩
theorem sm_eM (n : Nat) (m : Mv) : Sm (n + 2) (eM m) := ⟨by simp, fun x hx => by
  have : x = .int m.1 ∨ x = .int m.2 := by simpa using hx
  rcases this with rfl | rfl <;> exact trivial⟩
theorem sm_eR (n : Nat) {r : Rw} (h : r.2.length ≤ 90000) : Sm (n + 4) (eR r) := ⟨by simp, fun x hx => by
  have : x = .int r.1 ∨ x = .tup (r.2.map eM) := by simpa using hx
  rcases this with rfl | rfl
  · exact trivial
  · exact sm_map h fun m _ => sm_eM n m⟩
theorem stp_rows {ar : List Rw} (ha : ArOk ar) {cap : Int} {p : List Ky × List Rw} (i : Nat) (h : ∀ r ∈ p.2, r.2.length ≤ 6) : ∀ r ∈ (stp ar cap p i).2, r.2.length ≤ 6 := by
  intro r hr
  unfold stp at hr
  split at hr
  · rename_i k hk
    split at hr
    · rcases List.mem_append.mp hr with hr | hr
      · exact h r hr
      · have : r = (own ar k, ((sucs ar cap k).foldl stM (p.1, [])).2) := by simpa using hr
        subst this
        have := (fold_len (sucs ar cap k) (p.1, [])).2.2
        have sl := sucs_len ha (cap := cap) (k := k)
        simp only [List.length_nil] at this
        show ((sucs ar cap k).foldl stM (p.1, [])).2.length ≤ 6
        omega
    · exact h r hr
  · exact h r hr
theorem stL_rows {ar : List Rw} (ha : ArOk ar) {cap : Int} {k0 : Ky} : ∀ n, ∀ r ∈ (stL ar cap ([k0], []) n).2, r.2.length ≤ 6
  | 0 => fun r hr => by cases hr
  | n + 1 => stp_rows ha n (stL_rows ha n)
theorem sm_out {ar : List Rw} (ha : ArOk ar) {cap : Int} {k0 : Ky} {L : Nat} (hL : L ≤ 1000) : Sm 8 (outD (stL ar cap ([k0], []) L)) := by
  obtain ⟨l1, l2⟩ := stL_len ha (cap := cap) (k0 := k0) L
  have hr := stL_rows ha (cap := cap) (k0 := k0) L
  generalize stL ar cap ([k0], []) L = p at l1 l2 hr
  refine ⟨by simp, fun x hx => ?_⟩
  have : x = .tup (p.2.map eR) ∨ x = .tup (p.1.map mark) ∨ x = .tup (p.1.map eK) := by simpa using hx
  rcases this with rfl | rfl | rfl
  · exact sm_map (by omega) fun r h => sm_eR 2 (by have := hr r h; omega)
  · exact sm_map (by omega) fun k _ => trivial
  · exact sm_map (by omega) fun k _ => sm_eK 4 k
end K74
end
section
set_option Elab.async false
set_option linter.all false
set_option maxRecDepth 100000
set_option maxHeartbeats 1000000
namespace K74
open PySem PySem.Spec DL L2

theorem law_capped_L {h : MH} {cap : Int} {ar : List Rw} {start L : Nat} (hL : L = 601) (ha : ArOk ar) (hs : start < ar.length) :
    ∃ h', m14 [eA ar, .int cap, .int start] h = .val (if 600 < (stL ar cap ([.at start cap], []) L).1.length then .non else outD (stL ar cap ([.at start cap], []) L)) h' := by
  subst hL
  obtain ⟨h', r, _⟩ := law_capped (h := h) (cap := cap) ha hs
  exact ⟨h', r⟩
def eQ (q : Int × Nat) : D := .tup [.int q.1, .int q.2]
def QOk (n : Nat) (q : Int × Nat) : Prop := 0 ≤ q.1 ∧ q.1 < 700 ∧ q.2 < n
def bAsk : Sl → MH → SR := (cSeq (cSet 6 (c2 (orD atD dgetD) (cLstM (cCons (cCall m9 (cCons (cVar 1) (cCons (cC (.int 13)) cNil))) (cCons (cCall m9 (cCons (cVar 1) (cCons (cC (.int 700)) cNil))) cNil))) (cn intD (cCons (c2 eqD (cCall m9 (cCons (cVar 1) (cCons (cC (.int 6)) cNil))) (cC (.int 0))) cNil))))
  (cExpr (cMut appD (cVar 4) (cCons (cTup (cCons (cVar 6) (cCons (cCall m9 (cCons (cVar 1) (cCons (cn lenD (cCons (cVar 2) cNil)) cNil))) cNil))) cNil))))
theorem ask_turn {ns : List Int} {n Q : Nat} {h : MH} {a : List Rw} {qs : List (Int × Nat)} {sc b : D} {o5 o6 : Option D} (g : Gd ns n h) (hn : n < 10000) (ha : 0 < a.length) (ha6 : a.length ≤ 6) (hQ : Q ≠ 0) (eq : h[Q]? = some (.lst (qs.map eQ))) (hq : qs.length ≤ 10) :
    ∃ (q : Int × Nat) (h' : MH) (p6 : D), bAsk [some sc, some (.ref 0), some (eA a), some b, some (.ref Q), o5, o6, none, none] h = .nxt [some sc, some (.ref 0), some (eA a), some b, some (.ref Q), o5, some p6, none, none] h' ∧ QOk a.length q ∧ Gd ns (n + 4) h' ∧ h'[Q]? = some (.lst ((qs ++ [q]).map eQ)) := by
  obtain ⟨v1, h1, d1, p1, p1', g1, f1, l1⟩ := draw' (most := 13) g (by omega) (by omega) (by omega)
  obtain ⟨v2, h2, d2, p2, p2', g2, f2, l2⟩ := draw' (most := 700) g1 (by omega) (by omega) (by omega)
  have gA := g2.app [MO.lst [.int v1, .int v2]]
  obtain ⟨v3, h3, d3, p3, p3', g3, f3, l3⟩ := draw' (most := 6) gA (by omega) (by omega) (by omega)
  obtain ⟨v4, h4, d4, p4, p4', g4, f4, l4⟩ := draw' (most := a.length) g3 (by omega) (by omega) (by omega)
  have hl : h2.length ≠ 0 := by have := g2.pos; omega
  have eL : h3[h2.length]? = some (.lst [.int v1, .int v2]) := f3.at_ hl (by simp)
  have ql : Q < h.length := (List.getElem?_eq_some_iff.mp eq).1
  have eQ2 : h2[Q]? = some (.lst (qs.map eQ)) := f2.at_ hQ (f1.at_ hQ eq)
  have eQ3 : h3[Q]? = some (.lst (qs.map eQ)) := f3.at_ hQ (by rw [List.getElem?_append_left (by omega)]; exact eQ2)
  have eQ4 : h4[Q]? = some (.lst (qs.map eQ)) := f4.at_ hQ eQ3
  have elen : lenD h3 [eA a] = some (.int a.length) := by simp [lenD, eA, itemsD]
  have hidx : ∃ c : Int, orD atD dgetD h3 (.ref h2.length) (.int (if v3 = 0 then 1 else 0)) = some (.int c) ∧ 0 ≤ c ∧ c < 700 := by
    by_cases h0 : v3 = 0
    · refine ⟨v2, ?_, p2, p2'⟩
      rw [if_pos h0]
      have := atI_nat (xs := [D.int v1, D.int v2]) 1
      simp only [orD, atD, seqL, eL]
      rw [show (1 : Int) = ((1 : Nat) : Int) by rfl, atI_nat]
      rfl
    · refine ⟨v1, ?_, p1, by omega⟩
      rw [if_neg h0]
      simp only [orD, atD, seqL, eL]
      rw [show (0 : Int) = ((0 : Nat) : Int) by rfl, atI_nat]
      rfl
  obtain ⟨c, hc, c0, c7⟩ := hidx
  have ee : eqD h3 (.int v3) (.int 0) = some (.bl (decide (v3 = 0))) := rfl
  have ei : intD h3 [.bl (decide (v3 = 0))] = some (.int (if v3 = 0 then 1 else 0)) := by by_cases h0 : v3 = 0 <;> simp [intD, h0]
  have ev : (v4.toNat : Int) = v4 := Int.toNat_of_nonneg p4
  refine ⟨(c, v4.toNat), h4.set Q (.lst (qs.map eQ ++ [.tup [.int c, .int v4]])), .int c, seq_n (set_n (c2_n (lstM_n (cons_n (call_n (cons_n rfl (cons_n rfl rfl)) d1) (cons_n (call_n (cons_n rfl (cons_n rfl rfl)) d2) rfl)) (by simp)) (cn_n (cons_n (c2_n (call_n (cons_n rfl (cons_n rfl rfl)) d3) rfl ee) rfl) ei) hc))
    (expr_n (mut_n rfl (isl_n eQ3) (cons_n (tup_n (cons_n rfl (cons_n (call_n (cons_n rfl (cons_n (cn_n (cons_n rfl rfl) elen) rfl)) d4) rfl)) (by simp)) rfl) (app_n eQ4 (by simp; omega)))), ⟨c0, c7, by show v4.toNat < a.length; omega⟩, (g4.set hQ _).le (by omega), ?_⟩
  rw [set_at eQ4]
  simp [eQ, ev]
def bTell : Sl → MH → SR := (cSeq (cSet 8 (cCall m14 (cCons (cVar 2) (cCons (cVar 6) (cCons (cVar 7) cNil)))))
  (cSeq (cIfS (cB (c1 isNonD (cVar 8))) (cSet 8 (cTup (cCons (cC (.str "many")) (cCons (cVar 6) cNil)))) cEnd)
  (cIfS (cNot (cB (cCall (m11 8) (cCons (cCall m16 (cCons (cVar 2) (cCons (cVar 6) (cCons (cVar 7) cNil)))) (cCons (cVar 8) cNil))))) (cRet (cC (.bl false))) cEnd)))
theorem tell_turn {h : MH} {a : List Rw} {q : Int × Nat} {sc s b Q : D} {o5 o8 : Option D} (ha : ArOk a) (hq : QOk a.length q) :
    ∃ p8 h', bTell [some sc, some s, some (eA a), some b, some Q, o5, some (.int q.1), some (.int q.2), o8] h = .nxt [some sc, some s, some (eA a), some b, some Q, o5, some (.int q.1), some (.int q.2), some p8] h' := by
  obtain ⟨L, hL⟩ : ∃ L, L = 601 := ⟨_, rfl⟩
  obtain ⟨q0, q7, qn⟩ := hq
  obtain ⟨h1, r1⟩ := law_capped_L (h := h) (cap := q.1) hL ha qn
  obtain ⟨h2, r2⟩ := told_m (h := h1) (cap := q.1) hL ha qn (okMsg_of q0 q7)
  have hso := sm_out ha (cap := q.1) (k0 := .at q.2 q.1) (L := L) (by omega)
  by_cases hb : 600 < (stL a q.1 ([.at q.2 q.1], []) L).1.length
  · rw [if_pos hb] at r1 r2
    have sm : Sm 8 (.tup [.str "many", .int q.1]) := ⟨by simp, fun x hx => by
      have : x = .str "many" ∨ x = .int q.1 := by simpa using hx
      rcases this with rfl | rfl <;> exact trivial⟩
    obtain ⟨h3, r3, _⟩ := same_m 8 _ h2 sm
    exact ⟨_, h3, seq_n (set_n (call_n (cons_n rfl (cons_n rfl (cons_n rfl rfl))) r1)) (seq_n (ifs_t (cB_n (c1_n rfl rfl)) (set_n (tup_n (cons_n rfl (cons_n rfl rfl)) (by simp)))) (ifs_f (not_n (k := true) (cB_n (call_n (cons_n (call_n (cons_n rfl (cons_n rfl (cons_n rfl rfl))) r2) (cons_n rfl rfl)) r3))) rfl))⟩
  · rw [if_neg hb] at r1 r2
    obtain ⟨h3, r3, _⟩ := same_m 8 _ h2 hso
    have hn : isNonD h1 (outD (stL a q.1 ([.at q.2 q.1], []) L)) = some (.bl false) := rfl
    exact ⟨_, h3, seq_n (set_n (call_n (cons_n rfl (cons_n rfl (cons_n rfl rfl))) r1)) (seq_n (ifs_f (cB_n (c1_n rfl hn)) rfl) (ifs_f (not_n (k := true) (cB_n (call_n (cons_n (call_n (cons_n rfl (cons_n rfl (cons_n rfl rfl))) r2) (cons_n rfl rfl)) r3))) rfl))⟩
end K74
end
section
set_option Elab.async false
set_option linter.all false
set_option maxRecDepth 100000
set_option maxHeartbeats 1000000
namespace K74
open PySem PySem.Spec DL L2

theorem first_m {ns : List Int} : m8 [.scr ns] [] = .val (.ref 0) [St ns 0 0 0] := by
  have e : listD [] [.scr ns] = some (.lst (ns.map D.int)) := rfl
  have e2 : (cCons (cn listD (cCons (cVar 0) cNil)) (cCons (cC (.int 0)) (cCons (cC (.int 0)) (cCons (cC (.int 0)) cNil)))) [some (.scr ns)] [] = .val [.lst (ns.map D.int), .int 0, .int 0, .int 0] [] := cons_n (cn_n (cons_n rfl rfl) e) (cons_n rfl (cons_n rfl (cons_n rfl rfl)))
  exact cDef_ret rfl (ret_n (lstM_n e2 (by simp)))
theorem law_true (ns : List Int) (hl : ns.length ≤ 63) : DL.LawTrue m17 ns := by
  have g0 : Gd ns 0 [St ns 0 0 0] := ⟨0, 0, 0, rfl, by omega, by omega, by omega, by omega⟩
  obtain ⟨a, h1, r1, al0, al6, aok, g1, f1⟩ := drawn g0 (by omega)
  have ha := arOk_of aok
  have hsh := shows_A al6 aok
  have hrep : ∀ hh : MH, reprD hh [eA a] = some (.str (shownD (eA a))) := fun hh => by
    show (if okShow (eA a) = true then _ else _) = _
    rw [if_pos hsh]
    rfl
  have hp1 := g1.pos
  have hQ : h1.length ≠ 0 := by omega
  have gA := g1.app [MO.lst []]
  have s1 : cSet 1 (cCall m8 (cCons (cVar 0) cNil)) [some (.scr ns), none, none, none, none, none, none, none, none] [] = .nxt [some (.scr ns), some (.ref 0), none, none, none, none, none, none, none] [St ns 0 0 0] := set_n (call_n (cons_n rfl rfl) first_m)
  have s2 : cSet 2 (cCall m15 (cCons (cVar 1) cNil)) [some (.scr ns), some (.ref 0), none, none, none, none, none, none, none] [St ns 0 0 0] = .nxt [some (.scr ns), some (.ref 0), some (eA a), none, none, none, none, none, none] h1 := set_n (call_n (cons_n rfl rfl) r1)
  have s3 : cSet 3 (cn reprD (cCons (cVar 2) cNil)) [some (.scr ns), some (.ref 0), some (eA a), none, none, none, none, none, none] h1 = .nxt [some (.scr ns), some (.ref 0), some (eA a), some (.str (shownD (eA a))), none, none, none, none, none] h1 := set_n (cn_n (cons_n rfl rfl) (hrep h1))
  have s4 : cSet 4 (cLstM cNil) [some (.scr ns), some (.ref 0), some (eA a), some (.str (shownD (eA a))), none, none, none, none, none] h1 = .nxt [some (.scr ns), some (.ref 0), some (eA a), some (.str (shownD (eA a))), some (.ref h1.length), none, none, none, none] (h1 ++ [MO.lst []]) := set_n (lstM_n rfl (by simp))
  generalize hstr : shownD (eA a) = str at hrep s3 s4
  obtain ⟨ds5, h5, s5, ⟨o5, o6, rfl⟩, g5, qs, ql, eq, qok⟩ := cFor_inv (it := cRg1 (cCons (cC (.int 3)) cNil)) (g := gN 5) (b := bAsk) (xs := rgD 0 3) (cur := fun _ => some (rgD 0 3))
    (ds := [some (.scr ns), some (.ref 0), some (eA a), some (.str str), some (.ref h1.length), none, none, none, none]) (h := h1 ++ [MO.lst []]) (h1 := h1 ++ [MO.lst []])
    (fun i ds hh => (∃ o5 o6, ds = [some (.scr ns), some (.ref 0), some (eA a), some (.str str), some (.ref h1.length), o5, o6, none, none]) ∧ Gd ns (300 + 4 * i) hh ∧
      ∃ qs : List (Int × Nat), qs.length = i ∧ hh[h1.length]? = some (.lst (qs.map eQ)) ∧ ∀ q ∈ qs, QOk a.length q)
    (rg1_ok (n := 3) rfl (by omega) (by omega))
    ⟨⟨_, _, rfl⟩, gA.le (by omega), [], rfl, by simp, fun q hq => by cases hq⟩
    (by
      rintro i ds hh ⟨⟨o5, o6, rfl⟩, gg, qs, ql, eq, qok⟩
      refine ⟨rfl, fun x hx => ?_⟩
      obtain ⟨hi, rfl⟩ := rg_at hx
      refine ⟨_, rfl, ?_⟩
      obtain ⟨q, h', p6, run, qk, g', eq'⟩ := ask_turn (sc := .scr ns) (b := .str str) (o5 := some (.int i)) (o6 := o6) gg (by omega) al0 al6 hQ eq (by omega)
      refine ⟨_, h', run, ⟨_, _, rfl⟩, g'.le (by omega), qs ++ [q], by simp [ql], eq', fun z hz => ?_⟩
      rcases List.mem_append.mp hz with hz | hz
      · exact qok z hz
      · have : z = q := by simpa using hz
        subst this
        exact qk)
  rw [rg_len] at ql
  have esl : slD h5 (.ref h1.length) none (some 1) = some (.lst ((qs.take 1).map eQ)) := by
    have e1 : cutD (qs.map eQ) none (some ((1 : Nat) : Int)) = (qs.map eQ).take 1 := cut_take (by simp [ql])
    have e2 : cutD (qs.map eQ) none (some 1) = (qs.map eQ).take 1 := e1
    simp only [slD, seqL, eq, e2, List.map_take]
  have ead : addD h5 (.ref h1.length) (.lst ((qs.take 1).map eQ)) = some (.lst ((qs ++ qs.take 1).map eQ)) := by
    have : qs.length + min 1 qs.length ≤ 100000 := by omega
    simp [addD, seqL, eq, this]
  obtain ⟨ds6, h6, s6, p5, p6, p7, p8, rfl⟩ := cFor_inv (it := cCur (c2 addD (cVar 4) (cSl (cVar 4) cNo (cPart (cC (.int 1)))))) (g := gTu (gsC (gN 6) (gsC (gN 7) gsN))) (b := bTell) (xs := (qs ++ qs.take 1).map eQ) (cur := curD (.lst ((qs ++ qs.take 1).map eQ)))
    (ds := [some (.scr ns), some (.ref 0), some (eA a), some (.str str), some (.ref h1.length), o5, o6, none, none]) (h := h5) (h1 := h5)
    (fun i ds hh => ∃ p5 p6 p7 p8, ds = [some (.scr ns), some (.ref 0), some (eA a), some (.str str), some (.ref h1.length), p5, p6, p7, p8])
    (cur_n (zs := (qs ++ qs.take 1).map eQ) (c2_n rfl (sl_n rfl rfl (part_n rfl) esl) ead) rfl)
    ⟨_, _, _, _, rfl⟩
    (by
      rintro i ds hh ⟨p5, p6, p7, p8, rfl⟩
      refine ⟨rfl, fun x hx => ?_⟩
      obtain ⟨q, hq, rfl⟩ := List.mem_map.mp (List.mem_of_getElem? hx)
      have qk : QOk a.length q := by
        rcases List.mem_append.mp hq with hq | hq
        · exact qok q hq
        · exact qok q (List.mem_of_mem_take hq)
      obtain ⟨p8', h', run⟩ := tell_turn (h := hh) (sc := .scr ns) (s := .ref 0) (b := .str str) (Q := .ref h1.length) (o5 := p5) (o8 := p8) ha qk
      exact ⟨_, rfl, _, h', run, _, _, _, _, rfl⟩)
  have eend : eqD h6 (.str str) (.str str) = some (.bl true) := by simp [eqD]
  exact ⟨h6, cDef_ret rfl (seq_n s1 (seq_n s2 (seq_n s3 (seq_n s4 (seq_n s5 (seq_n s6 (ret_n (c2_n (cn_n (cons_n rfl rfl) (hrep h6)) rfl eend)))))))) ⟩
end K74
end
open PySem PySem.W PyProof.Rows
set_option maxRecDepth 100000
set_option maxHeartbeats 0
open_top hd for PySem.Challenge.rw_leastwait_k74_capped
theorem PySem.Challenge.cw_leastwait_k74_capped_holds : PySem.Challenge.rw_leastwait_k74_capped.Holds := by
  refine hd ?_
  k_fill
  refine DL.walk_dl (l := PySem.Challenge.rw_leastwait_k74_capped) (m := K74.m17) rfl (by decide) rfl (fun w h Y => PySem.W.kIn_of Y) ?F (fun ns hl => K74.law_true ns hl)
  case F =>
    intro w mg fa h KX G hmg
    refine' K74.all_mk KX G hmg ?z_abs ?z_all ?z_bool ?z_int ?z_isinstance ?z_len ?z_list ?z_min ?z_range ?z_repr ?z_str ?z_tuple ?a_BARE ?l_BARE ?a_KEEPER ?a_cls2 ?a1 ?i1 ?l1 ?c1 ?k1 ?ld1 ?a2 ?i2 ?l2 ?c2 ?k2 ?a_cls3 ?a5 ?i5 ?l5 ?c5 ?k5 ?a6 ?i6 ?l6 ?c6 ?k6 ?a3 ?i3 ?l3 ?c3 ?k3 ?a4 ?i4 ?l4 ?c4 ?k4 ?a7 ?l7 ?c7 ?k7 ?a8 ?l8 ?c8 ?k8 ?a9 ?l9 ?c9 ?k9 ?a10 ?l10 ?c10 ?k10 ?a11 ?l11 ?c11 ?k11 ?a12 ?l12 ?c12 ?k12 ?a13 ?l13 ?c13 ?k13 ?a14 ?l14 ?c14 ?k14 ?a15 ?l15 ?c15 ?k15 ?a16 ?l16 ?c16 ?k16 ?a17 ?l17 ?c17 ?k17 ?pg2 ?hd2 ?po2 ?sa2 ?mkk2 ?kc2 ?pg3 ?hd3 ?po3 ?sa3 ?mkk3 ?kc3 ?bg5 ?bt5 ?bf5 ?bg6 ?bt6 ?bf6 ?na2_found ?na2_most ?na2_numbers ?na2_wait ?na3_arena ?na3_cap ?a_cls1 ?xL1 ?xv1 ?sa1 ?eC1 ?tC1 ?kc1 ?a0 ?ti0 ?ga1 ?gg1 ?hd1 ?xn1 ?ic1 ?sc1_ ?l0 ?c0 ?lc0 ?lv0 ?lf0 ?lcc0 ?ms1 ?ks1 ?ve1 ?nsu1 ?opq1 ?tp1
    (case z_abs => k_is)
    (case z_all => k_is)
    (case z_bool => k_is)
    (case z_int => k_is)
    (case z_isinstance => k_is)
    (case z_len => k_is)
    (case z_list => k_is)
    (case z_min => k_is)
    (case z_range => k_is)
    (case z_repr => k_is)
    (case z_str => k_is)
    (case z_tuple => k_is)
    (case a_BARE => k_is)
    (case l_BARE => k_is)
    (case a_KEEPER => k_is)
    (case a_cls2 => k_is)
    (case a1 => k_is)
    (case i1 => k_is)
    (case l1 => k_is)
    (case c1 => k_is)
    (case k1 => k_is)
    (case ld1 => k_is)
    (case a2 => k_is)
    (case i2 => k_is)
    (case l2 => k_is)
    (case c2 => k_is)
    (case k2 => k_is)
    (case a_cls3 => k_is)
    (case a5 => k_is)
    (case i5 => k_is)
    (case l5 => k_is)
    (case c5 => k_is)
    (case k5 => k_is)
    (case a6 => k_is)
    (case i6 => k_is)
    (case l6 => k_is)
    (case c6 => k_is)
    (case k6 => k_is)
    (case a3 => k_is)
    (case i3 => k_is)
    (case l3 => k_is)
    (case c3 => k_is)
    (case k3 => k_is)
    (case a4 => k_is)
    (case i4 => k_is)
    (case l4 => k_is)
    (case c4 => k_is)
    (case k4 => k_is)
    (case a7 => k_is)
    (case l7 => k_is)
    (case c7 => k_is)
    (case k7 => k_is)
    (case a8 => k_is)
    (case l8 => k_is)
    (case c8 => k_is)
    (case k8 => k_is)
    (case a9 => k_is)
    (case l9 => k_is)
    (case c9 => k_is)
    (case k9 => k_is)
    (case a10 => k_is)
    (case l10 => k_is)
    (case c10 => k_is)
    (case k10 => k_is)
    (case a11 => k_is)
    (case l11 => k_is)
    (case c11 => k_is)
    (case k11 => k_is)
    (case a12 => k_is)
    (case l12 => k_is)
    (case c12 => k_is)
    (case k12 => k_is)
    (case a13 => k_is)
    (case l13 => k_is)
    (case c13 => k_is)
    (case k13 => k_is)
    (case a14 => k_is)
    (case l14 => k_is)
    (case c14 => k_is)
    (case k14 => k_is)
    (case a15 => k_is)
    (case l15 => k_is)
    (case c15 => k_is)
    (case k15 => k_is)
    (case a16 => k_is)
    (case l16 => k_is)
    (case c16 => k_is)
    (case k16 => k_is)
    (case a17 => k_is)
    (case l17 => k_is)
    (case c17 => k_is)
    (case k17 => k_is)
    (case pg2 => k_is)
    (case hd2 => k_is)
    (case po2 => k_is)
    (case sa2 => k_is)
    (case mkk2 => k_is)
    (case kc2 => k_is)
    (case pg3 => k_is)
    (case hd3 => k_is)
    (case po3 => k_is)
    (case sa3 => k_is)
    (case mkk3 => k_is)
    (case kc3 => k_is)
    (case bg5 => k_is)
    (case bt5 => k_is)
    (case bf5 => k_is)
    (case bg6 => k_is)
    (case bt6 => k_is)
    (case bf6 => k_is)
    (case na2_found => k_is)
    (case na2_most => k_is)
    (case na2_numbers => k_is)
    (case na2_wait => k_is)
    (case na3_arena => k_is)
    (case na3_cap => k_is)
    (case a_cls1 => k_is)
    (case xL1 => k_is)
    (case xv1 => decide +kernel)
    (case sa1 => k_is)
    (case eC1 => k_is)
    (case tC1 => k_is)
    (case kc1 => k_is)
    (case a0 => k_is)
    (case ti0 => k_is)
    (case ga1 => k_is)
    (case gg1 => k_is)
    (case hd1 => k_is)
    (case xn1 => k_is)
    (case ic1 => k_is)
    (case sc1_ => first | rfl | k_is)
    (case l0 => k_is)
    (case c0 => k_is)
    (case lc0 => k_is)
    (case lv0 => rfl)
    (case lf0 => first | rfl | decide +kernel)
    (case lcc0 => k_is)
    (case ms1 => k_is)
    (case ks1 => ks_is)
    (case ve1 => k_is)
    (case nsu1 => k_is)
    (case opq1 => k_is)
    (case tp1 => first | rfl | decide +kernel)
