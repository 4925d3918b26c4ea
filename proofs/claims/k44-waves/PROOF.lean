import PyProof.Rows.All
import Wide.All
import OpenK.AllK
import Wide.FinOn
import HandS.ForMost
import HandS.Walk
import HandS.Flow
import HandS.TupAny
import HandS.TupMul
import HandS.Wide
import HandS.Deep
import HandS.Conv
import HandS.Sort
import HandS.Star
import HandS.IsInst
import HandS.Style
import HandS.Defaults
import HandS.HeadEnd
import HandS.HeadHook1
import HandS.HeadHook2
import KE.SortData
import KE.KTupSum
import KE.GoesNew
import HandS.SetFor
import HandS.RaiseMore
import PyProof.P3In
import PyProof.ReprRoads
import KE.KRevSl
import KE.KStateDown
import HandS.Head0
import HandS.Head1
import HandS.Head2
import PySem.Challenge.RW_greenheld_k44_whole_waves_both_ways
set_option Elab.async false
set_option linter.all false
set_option maxRecDepth 100000
set_option maxHeartbeats 0
namespace GH
open PySem PySem.Spec PyProof.Rows L2

abbrev Sg := L2.St
/-- a value as a tree; src: the one object that a law's draws change -/
inductive D where
  | non | bl (b : Bool) | int (i : Int) | str (s : Str) | tup (ds : List D) | lst (ds : List D)
  | rng (lo hi : Int) | src | dct (ks : List Key) (ds : List D) | dtt (ks : List (List Key)) (ds : List D)

abbrev AP := Addr → Prop

mutual
/-- the tree d lies at the value v; it leans on no address of W -/
def Rp (p : Addr) (W : AP) (H : Hp) : D → V → Prop
  | .non, v => v = .non
  | .bl b, v => v = .bl b
  | .int i, v => v = .int i
  | .str s, v => v = .str s
  | .tup ds, v => ∃ a vs, v = .ref a ∧ ¬ W a ∧ H a = some (.tup vs) ∧ Rps p W H ds vs
  | .lst ds, v => ∃ a vs, v = .ref a ∧ ¬ W a ∧ H a = some (.lst vs) ∧ Rps p W H ds vs
  | .rng lo hi, v => ∃ a, v = .ref a ∧ ¬ W a ∧ H a = some (.rng lo hi)
  | .src, v => v = .ref p
  | .dct ks ds, v => ∃ a kvs, v = .ref a ∧ ¬ W a ∧ H a = some (.dK kvs) ∧ kvs.map (·.1) = ks ∧ Rps p W H ds (kvs.map (·.2))
  | .dtt ks ds, v => ∃ a kvs, v = .ref a ∧ ¬ W a ∧ H a = some (.dT kvs) ∧ kvs.map (·.1) = ks ∧ Rps p W H ds (kvs.map (·.2))
def Rps (p : Addr) (W : AP) (H : Hp) : List D → List V → Prop
  | [], vs => vs = []
  | d :: ds, vs => ∃ v r, vs = v :: r ∧ Rp p W H d v ∧ Rps p W H ds r
end

/-- what a tree may lean on stays -/
def Ev (W : AP) (H : Hp) (W' : AP) (H' : Hp) : Prop := ∀ a o, H a = some o → ¬ W a → H' a = some o ∧ ¬ W' a
theorem Ev.refl {W : AP} {H : Hp} : Ev W H W H := fun _ _ h n => ⟨h, n⟩
theorem Ev.trans {W W1 W2 : AP} {H H1 H2 : Hp} (a : Ev W H W1 H1) (b : Ev W1 H1 W2 H2) : Ev W H W2 H2 := fun c o h n => b c o (a c o h n).1 (a c o h n).2
/-- every address of W is taken -/
def WT (W : AP) (H : Hp) : Prop := ∀ a, W a → ∃ o, H a = some o
theorem WT.same {W : AP} {H H' : Hp} (w : WT W H) (s : Same H H') : WT W H' := fun a h => let ⟨o, e⟩ := w a h; ⟨o, s a o e⟩
theorem WT.new {W : AP} {H : Hp} {a : Addr} (w : WT W H) (n : H a = none) : ¬ W a := fun h => by
  obtain ⟨o, e⟩ := w a h
  rw [n] at e; cases e
theorem Ev.same {W : AP} {H H' : Hp} (s : Same H H') : Ev W H W H' := fun a o h n => ⟨s a o h, n⟩
theorem Ev.less {W W' : AP} {H : Hp} (h : ∀ a, W' a → W a) : Ev W H W' H := fun a o e n => ⟨e, fun z => n (h a z)⟩
theorem same_new {H : Hp} {p : Addr} {o : HO} (h : H p = none) : Same H (upd H p o) := fun b x e => by
  rw [upd_ne (ne_of_none e h)]; exact e

mutual
theorem Rp.ev {p : Addr} {W W' : AP} {H H' : Hp} (e : Ev W H W' H') : ∀ (d : D) (v : V), Rp p W H d v → Rp p W' H' d v
  | .non, _, h => h
  | .bl _, _, h => h
  | .int _, _, h => h
  | .str _, _, h => h
  | .src, _, h => h
  | .tup ds, _, ⟨a, vs, h1, h2, h3, h4⟩ => ⟨a, vs, h1, (e a _ h3 h2).2, (e a _ h3 h2).1, Rps.ev e ds vs h4⟩
  | .lst ds, _, ⟨a, vs, h1, h2, h3, h4⟩ => ⟨a, vs, h1, (e a _ h3 h2).2, (e a _ h3 h2).1, Rps.ev e ds vs h4⟩
  | .rng _ _, _, ⟨a, h1, h2, h3⟩ => ⟨a, h1, (e a _ h3 h2).2, (e a _ h3 h2).1⟩
  | .dct _ ds, _, ⟨a, kvs, h1, h2, h3, h4, h5⟩ => ⟨a, kvs, h1, (e a _ h3 h2).2, (e a _ h3 h2).1, h4, Rps.ev e ds _ h5⟩
  | .dtt _ ds, _, ⟨a, kvs, h1, h2, h3, h4, h5⟩ => ⟨a, kvs, h1, (e a _ h3 h2).2, (e a _ h3 h2).1, h4, Rps.ev e ds _ h5⟩
theorem Rps.ev {p : Addr} {W W' : AP} {H H' : Hp} (e : Ev W H W' H') : ∀ (ds : List D) (vs : List V), Rps p W H ds vs → Rps p W' H' ds vs
  | [], _, h => h
  | d :: ds, _, ⟨v, r, h1, h2, h3⟩ => ⟨v, r, h1, Rp.ev e d v h2, Rps.ev e ds r h3⟩
end

section
variable {p : Addr} {W : AP} {H H' : Hp}
theorem Rps.nil : Rps p W H [] [] := by unfold Rps; rfl
theorem Rps.cons {d : D} {v : V} {ds : List D} {vs : List V} (h : Rp p W H d v) (t : Rps p W H ds vs) : Rps p W H (d :: ds) (v :: vs) := by
  unfold Rps; exact ⟨v, vs, rfl, h, t⟩
theorem Rps.length : ∀ {ds : List D} {vs : List V}, Rps p W H ds vs → ds.length = vs.length
  | [], _, h => by unfold Rps at h; rw [h]; rfl
  | d :: ds, _, h => by
    unfold Rps at h
    obtain ⟨v, r, rfl, _, h3⟩ := h
    simp [Rps.length h3]
theorem Rps.get : ∀ {ds : List D} {vs : List V} {i : Nat} {d : D}, Rps p W H ds vs → ds[i]? = some d → ∃ v, vs[i]? = some v ∧ Rp p W H d v
  | [], _, _, _, _, e => by simp at e
  | d :: ds, _, 0, _, h, e => by
    unfold Rps at h
    obtain ⟨v, r, rfl, h2, h3⟩ := h
    simp at e; subst e
    exact ⟨v, rfl, h2⟩
  | d :: ds, _, i + 1, _, h, e => by
    unfold Rps at h
    obtain ⟨v, r, rfl, h2, h3⟩ := h
    obtain ⟨u, q1, q2⟩ := Rps.get (i := i) h3 (by simpa using e)
    exact ⟨u, by simpa using q1, q2⟩
theorem Rps.getV {ds : List D} {vs : List V} {i : Nat} {v : V} (h : Rps p W H ds vs) (e : vs[i]? = some v) : ∃ d, ds[i]? = some d ∧ Rp p W H d v := by
  have hl := h.length
  obtain ⟨hi, rfl⟩ := List.getElem?_eq_some_iff.mp e
  have hd : i < ds.length := by omega
  obtain ⟨u, q1, q2⟩ := h.get (List.getElem?_eq_getElem hd)
  rw [List.getElem?_eq_getElem hi] at q1
  cases q1
  exact ⟨_, List.getElem?_eq_getElem hd, q2⟩
theorem Rps.append : ∀ {ds es : List D} {vs us : List V}, Rps p W H ds vs → Rps p W H es us → Rps p W H (ds ++ es) (vs ++ us)
  | [], _, _, _, h, t => by unfold Rps at h; rw [h]; exact t
  | d :: ds, _, _, _, h, t => by
    unfold Rps at h
    obtain ⟨v, r, rfl, h2, h3⟩ := h
    exact .cons h2 (Rps.append h3 t)
theorem Rps.of_get : ∀ {ds : List D} {vs : List V}, ds.length = vs.length → (∀ (i : Nat) (d : D) (v : V), ds[i]? = some d → vs[i]? = some v → Rp p W H d v) → Rps p W H ds vs
  | [], [], _, _ => .nil
  | [], _ :: _, h, _ => by simp at h
  | _ :: _, [], h, _ => by simp at h
  | d :: ds, v :: vs, h, f => .cons (f 0 d v rfl rfl) (Rps.of_get (by simpa using h) fun i d v h1 h2 => f (i + 1) d v (by simpa using h1) (by simpa using h2))
theorem Rps.take {ds : List D} {vs : List V} (n : Nat) (h : Rps p W H ds vs) : Rps p W H (ds.take n) (vs.take n) := by
  refine Rps.of_get (by simp [h.length]) fun i d v h1 h2 => ?_
  rw [List.getElem?_take] at h1 h2
  split at h1
  · rename_i hi
    rw [if_pos hi] at h2
    obtain ⟨u, q1, q2⟩ := h.get h1
    rw [h2] at q1; cases q1; exact q2
  · cases h1
theorem Rps.drop {ds : List D} {vs : List V} (n : Nat) (h : Rps p W H ds vs) : Rps p W H (ds.drop n) (vs.drop n) := by
  refine Rps.of_get (by simp [h.length]) fun i d v h1 h2 => ?_
  rw [List.getElem?_drop] at h1 h2
  obtain ⟨u, q1, q2⟩ := h.get h1
  rw [h2] at q1; cases q1; exact q2
theorem Rps.set {ds : List D} {vs : List V} {d : D} {v : V} (n : Nat) (h : Rps p W H ds vs) (r : Rp p W H d v) : Rps p W H (ds.set n d) (vs.set n v) := by
  have hl := h.length
  refine Rps.of_get (by simp [hl]) fun i d' v' h1 h2 => ?_
  by_cases e : n = i
  · subst e
    by_cases hn : n < ds.length
    · rw [List.getElem?_set_self hn] at h1
      rw [List.getElem?_set_self (by omega)] at h2
      cases h1; cases h2; exact r
    · rw [List.getElem?_eq_none (by simpa using hn)] at h1; cases h1
  · rw [List.getElem?_set_ne e] at h1 h2
    obtain ⟨u, q1, q2⟩ := h.get h1
    rw [h2] at q1; cases q1; exact q2
end

structure Src where
  cells : List Int
  left : Int
  mixed : Int
  turn : Int
def kCells : Key := .inr "cells"
def kLeft : Key := .inr "left"
def kMixed : Key := .inr "mixed"
def kTurn : Key := .inr "turn"
structure SrcOk (p c : Addr) (H : Hp) (s : Src) : Prop where
  d : H p = some (.dK [(kCells, .ref c), (kLeft, .int s.left), (kMixed, .int s.mixed), (kTurn, .int s.turn)])
  l : H c = some (.lst (s.cells.map V.int))
theorem SrcOk.ne {p c : Addr} {H : Hp} {s : Src} (h : SrcOk p c H s) : p ≠ c := ne_of h.d h.l (by intro z; cases z)
theorem SrcOk.same {p c : Addr} {H H' : Hp} {s : Src} (h : SrcOk p c H s) (e : Same H H') : SrcOk p c H' s := ⟨e _ _ h.d, e _ _ h.l⟩

inductive Sl where
  | val (d : D) | own (ds : List D) | ownK (ks : List Key) (ds : List D) | ownT (ks : List (List Key)) (ds : List D)
def Sl.isOwn : Sl → Bool
  | .val _ => false
  | _ => true
structure S where
  env : List (Option Sl)
  src : Src
/-- what an own slot's object holds -/
def OwnR (p : Addr) (W : AP) (H : Hp) : Sl → HO → Prop
  | .val _, _ => False
  | .own ds, o => ∃ vs, o = .lst vs ∧ Rps p W H ds vs
  | .ownK ks ds, o => ∃ kvs, o = .dK kvs ∧ kvs.map (·.1) = ks ∧ Rps p W H ds (kvs.map (·.2))
  | .ownT ks ds, o => ∃ kvs, o = .dT kvs ∧ kvs.map (·.1) = ks ∧ Rps p W H ds (kvs.map (·.2))
theorem OwnR.ev {p : Addr} {W W' : AP} {H H' : Hp} (e : Ev W H W' H') : ∀ (sl : Sl) (o : HO), OwnR p W H sl o → OwnR p W' H' sl o
  | .val _, _, h => h
  | .own _, _, ⟨vs, h1, h2⟩ => ⟨vs, h1, Rps.ev e _ _ h2⟩
  | .ownK _ _, _, ⟨kvs, h1, h2, h3⟩ => ⟨kvs, h1, h2, Rps.ev e _ _ h3⟩
  | .ownT _ _, _, ⟨kvs, h1, h2, h3⟩ => ⟨kvs, h1, h2, Rps.ev e _ _ h3⟩
/-- the addresses of the own slots -/
def OwnA (env : List (Option Sl)) (σ : Sg) : AP := fun a => ∃ (i : Nat) (sl : Sl), env[i]? = some (some sl) ∧ sl.isOwn = true ∧ σ[i]? = some (some (.ref a))
/-- what a def was entered with: the source's dict and list, the addresses that no tree may lean on, the heap -/
structure Bs where
  p : Addr
  c : Addr
  Wc : AP
  H0 : Hp
def Bs.W (B : Bs) (env : List (Option Sl)) (σ : Sg) : AP := fun a => B.Wc a ∨ OwnA env σ a
def Bs.plus (B : Bs) (a : Addr) : Bs := { B with Wc := fun b => B.Wc b ∨ b = a }
structure StOk (B : Bs) (σ : Sg) (H : Hp) (s : S) : Prop where
  len : s.env.length = σ.length
  val : ∀ (i : Nat) (d : D), s.env[i]? = some (some (.val d)) → ∃ v, σ[i]? = some (some v) ∧ Rp B.p (B.W s.env σ) H d v
  own : ∀ (i : Nat) (sl : Sl), s.env[i]? = some (some sl) → sl.isOwn = true → ∃ a o, σ[i]? = some (some (.ref a)) ∧ H a = some o ∧ OwnR B.p (B.W s.env σ) H sl o ∧ B.H0 a = none ∧ ¬ B.Wc a
  sep : ∀ (i j : Nat) (sl sl' : Sl) (a : Addr), s.env[i]? = some (some sl) → sl.isOwn = true → s.env[j]? = some (some sl') → sl'.isOwn = true → σ[i]? = some (some (.ref a)) → σ[j]? = some (some (.ref a)) → i = j
  src : SrcOk B.p B.c H s.src
  keep : ∀ a o, B.H0 a = some o → a ≠ B.p → a ≠ B.c → H a = some o
  wc : WT B.Wc H
  wp : B.Wc B.p
  wcc : B.Wc B.c
section
variable {B : Bs} {σ : Sg} {H H' : Hp} {s : S}
theorem StOk.wt (k : StOk B σ H s) : WT (B.W s.env σ) H := fun a h => by
  rcases h with h | ⟨i, sl, e1, e2, e3⟩
  · exact k.wc a h
  · obtain ⟨b, o, q1, q2, _⟩ := k.own i sl e1 e2
    rw [e3] at q1; cases q1
    exact ⟨o, q2⟩
theorem StOk.same (k : StOk B σ H s) (e : Same H H') : StOk B σ H' s where
  len := k.len
  val := fun i d h => let ⟨v, h1, h2⟩ := k.val i d h; ⟨v, h1, h2.ev (Ev.same e)⟩
  own := fun i sl h ho => let ⟨a, o, h1, h2, h3, h4⟩ := k.own i sl h ho; ⟨a, o, h1, e _ _ h2, h3.ev (Ev.same e), h4⟩
  sep := k.sep
  src := k.src.same e
  keep := fun a o h h1 h2 => e _ _ (k.keep a o h h1 h2)
  wc := k.wc.same e
  wp := k.wp
  wcc := k.wcc
theorem StOk.new (k : StOk B σ H s) {a : Addr} (h : H a = none) : B.H0 a = none := by
  cases q : B.H0 a with
  | none => rfl
  | some o =>
    by_cases e1 : a = B.p
    · subst e1; rw [k.src.d] at h; cases h
    · by_cases e2 : a = B.c
      · subst e2; rw [k.src.l] at h; cases h
      · rw [k.keep a o q e1 e2] at h; cases h
end

def M (α : Type) := S → Option (α × S)
def ret {α : Type} (a : α) : M α := fun s => some (a, s)
def fail {α : Type} : M α := fun _ => none
def bnd {α β : Type} (m : M α) (f : α → M β) : M β := fun s => match m s with
  | some (a, s1) => f a s1
  | none => none
def lift {α : Type} (o : Option α) : M α := fun s => match o with
  | some a => some (a, s)
  | none => none
theorem bnd_some {α β : Type} {m : M α} {f : α → M β} {s s2 : S} {b : β} (h : bnd m f s = some (b, s2)) : ∃ a s1, m s = some (a, s1) ∧ f a s1 = some (b, s2) := by
  unfold bnd at h
  split at h
  · rename_i a s1 e; exact ⟨a, s1, e, h⟩
  · cases h
theorem bnd_eq {α β : Type} {m : M α} {f : α → M β} {s s1 : S} {a : α} (h : m s = some (a, s1)) : bnd m f s = f a s1 := by unfold bnd; rw [h]
theorem lift_some {α : Type} {o : Option α} {s s2 : S} {b : α} (h : lift o s = some (b, s2)) : o = some b ∧ s2 = s := by
  unfold lift at h
  split at h
  · cases h; exact ⟨rfl, rfl⟩
  · cases h
theorem ret_some {α : Type} {a b : α} {s s2 : S} (h : ret a s = some (b, s2)) : b = a ∧ s2 = s := by
  unfold ret at h; cases h; exact ⟨rfl, rfl⟩

/-- an expression's reading by trees -/
def tI (B : Bs) (m : M D) : TE := fun σ H Q => ∃ s d s', StOk B σ H s ∧ m s = some (d, s') ∧
  ∀ v H', StOk B σ H' s' → Ev (B.W s.env σ) H (B.W s'.env σ) H' → Rp B.p (B.W s'.env σ) H' d v → Q v H'
def tA (B : Bs) (m : M (List D)) : TA := fun σ H Q => ∃ s ds s', StOk B σ H s ∧ m s = some (ds, s') ∧
  ∀ vs H', StOk B σ H' s' → Ev (B.W s.env σ) H (B.W s'.env σ) H' → Rps B.p (B.W s'.env σ) H' ds vs → Q vs H'
def tT (B : Bs) (m : M Bool) : TT := fun σ H Q => ∃ s b s', StOk B σ H s ∧ m s = some (b, s') ∧
  ∀ H', StOk B σ H' s' → Ev (B.W s.env σ) H (B.W s'.env σ) H' → Q b H'
/-- an expression that makes a new list -/
def tL (B : Bs) (m : M (List D)) : TE := fun σ H Q => ∃ s ds s', StOk B σ H s ∧ m s = some (ds, s') ∧
  ∀ a vs H', StOk (B.plus a) σ H' s' → Ev (B.W s.env σ) H ((B.plus a).W s'.env σ) H' → B.H0 a = none → ¬ (B.W s'.env σ) a → H' a = some (.lst vs) → Rps B.p ((B.plus a).W s'.env σ) H' ds vs → Q (.ref a) H'
structure SE (X : Cx) (e : Expr) (m : M D) : Prop where
  pe : ∀ B, PE X e (tI B m)
structure SA (X : Cx) (es : List Expr) (m : M (List D)) : Prop where
  pa : ∀ B, PA X es (tA B m)
structure ST (X : Cx) (e : Expr) (m : M Bool) : Prop where
  pt : ∀ B, PT X e (tT B m)
structure SL (X : Cx) (e : Expr) (m : M (List D)) : Prop where
  pe : ∀ B, PE X e (tL B m)

theorem PE.imp {X : Cx} {e : Expr} {t t' : TE} (h : PE X e t) (f : ∀ σ H Q, t' σ H Q → t σ H Q) : PE X e t' := ⟨fun pins s σ H Q I q => h.run pins s σ H Q I (f _ _ _ q)⟩
theorem PT.imp {X : Cx} {e : Expr} {t t' : TT} (h : PT X e t) (f : ∀ σ H Q, t' σ H Q → t σ H Q) : PT X e t' := ⟨fun pins s σ H Q I q => h.run pins s σ H Q I (f _ _ _ q)⟩
theorem PA.imp {X : Cx} {e : List Expr} {t t' : TA} (h : PA X e t) (f : ∀ σ H Q, t' σ H Q → t σ H Q) : PA X e t' := ⟨fun pos pins s σ H Q I q => h.run pos pins s σ H Q I (f _ _ _ q)⟩
theorem PS.imp {X : Cx} {e : Stmt} {t t' : TS} (h : PS X e t) (f : ∀ D σ H, t' D σ H → t D σ H) : PS X e t' := ⟨fun pins s σ H D I q => h.run pins s σ H D I (f _ _ _ q)⟩
theorem PSs.imp {X : Cx} {e : List Stmt} {t t' : TS} (h : PSs X e t) (f : ∀ D σ H, t' D σ H → t D σ H) : PSs X e t' := ⟨fun pins s σ H D I q => h.run pins s σ H D I (f _ _ _ q)⟩

/-- from a step's reading to the next one's -/
theorem tI.bind {B : Bs} {σ : Sg} {H : Hp} {β : Type} {m : M D} {f : D → M β} {s s2 : S} {b : β} {Q : VK} (k : StOk B σ H s) (h : bnd m f s = some (b, s2))
    (g : ∀ d s1 v H1, m s = some (d, s1) → f d s1 = some (b, s2) → StOk B σ H1 s1 → Ev (B.W s.env σ) H (B.W s1.env σ) H1 → Rp B.p (B.W s1.env σ) H1 d v → Q v H1) : tI B m σ H Q := by
  obtain ⟨d, s1, h1, h2⟩ := bnd_some h
  exact ⟨s, d, s1, k, h1, fun v H1 k1 e1 r1 => g d s1 v H1 h1 h2 k1 e1 r1⟩
theorem tA.bind {B : Bs} {σ : Sg} {H : Hp} {β : Type} {m : M (List D)} {f : List D → M β} {s s2 : S} {b : β} {Q : List V → Hp → Prop} (k : StOk B σ H s) (h : bnd m f s = some (b, s2))
    (g : ∀ ds s1 vs H1, m s = some (ds, s1) → f ds s1 = some (b, s2) → StOk B σ H1 s1 → Ev (B.W s.env σ) H (B.W s1.env σ) H1 → Rps B.p (B.W s1.env σ) H1 ds vs → Q vs H1) : tA B m σ H Q := by
  obtain ⟨d, s1, h1, h2⟩ := bnd_some h
  exact ⟨s, d, s1, k, h1, fun v H1 k1 e1 r1 => g d s1 v H1 h1 h2 k1 e1 r1⟩
theorem tT.bind {B : Bs} {σ : Sg} {H : Hp} {β : Type} {m : M Bool} {f : Bool → M β} {s s2 : S} {b : β} {Q : Bool → Hp → Prop} (k : StOk B σ H s) (h : bnd m f s = some (b, s2))
    (g : ∀ d s1 H1, m s = some (d, s1) → f d s1 = some (b, s2) → StOk B σ H1 s1 → Ev (B.W s.env σ) H (B.W s1.env σ) H1 → Q d H1) : tT B m σ H Q := by
  obtain ⟨d, s1, h1, h2⟩ := bnd_some h
  exact ⟨s, d, s1, k, h1, fun H1 k1 e1 => g d s1 H1 h1 h2 k1 e1⟩

def eVar (i : Nat) : M D := fun s => match s.env[i]? with
  | some (some (.val d)) => some (d, s)
  | _ => none
/-- an own list or dict is read: from now on nobody changes it -/
def eFrz (i : Nat) : M D := fun s => match s.env[i]? with
  | some (some (.val d)) => some (d, s)
  | some (some (.own ds)) => some (.lst ds, { s with env := s.env.set i (some (.val (.lst ds))) })
  | some (some (.ownK ks ds)) => some (.dct ks ds, { s with env := s.env.set i (some (.val (.dct ks ds))) })
  | some (some (.ownT ks ds)) => some (.dtt ks ds, { s with env := s.env.set i (some (.val (.dtt ks ds))) })
  | _ => none
section
variable {X : Cx}
theorem s_var {i : Nat} {x : Str} {pos : Pos} (h : PE X (.Name x pos) (tVar i)) : SE X (.Name x pos) (eVar i) := ⟨fun B => PE.imp h fun σ H Q ⟨s, d, s', k, e, q⟩ => by
  unfold eVar at e
  split at e
  · rename_i d' hd
    cases e
    obtain ⟨v, h1, h2⟩ := k.val i d hd
    exact ⟨v, h1, q v H k Ev.refl h2⟩
  · cases e⟩
/-- an own slot i is turned into a value at the state s -/
theorem StOk.freeze {B : Bs} {σ : Sg} {H : Hp} {s : S} {i : Nat} {sl : Sl} {d : D} {a : Addr} (k : StOk B σ H s) (hi : s.env[i]? = some (some sl)) (ho : sl.isOwn = true) (ha : σ[i]? = some (some (.ref a)))
    (r : Rp B.p (B.W (s.env.set i (some (.val d))) σ) H d (.ref a)) : StOk B σ H { s with env := s.env.set i (some (.val d)) } ∧ Ev (B.W s.env σ) H (B.W (s.env.set i (some (.val d))) σ) H := by
  have hlt : i < s.env.length := (List.getElem?_eq_some_iff.mp hi).1
  have sub : ∀ b, B.W (s.env.set i (some (.val d))) σ b → B.W s.env σ b := fun b hb => by
    rcases hb with hb | ⟨j, sl', e1, e2, e3⟩
    · exact .inl hb
    · by_cases hj : i = j
      · subst hj
        rw [List.getElem?_set_self hlt] at e1
        cases e1; cases e2
      · rw [List.getElem?_set_ne hj] at e1
        exact .inr ⟨j, sl', e1, e2, e3⟩
  have ev : Ev (B.W s.env σ) H (B.W (s.env.set i (some (.val d))) σ) H := Ev.less sub
  refine ⟨⟨by simpa using k.len, fun j d' h => ?_, fun j sl' h h' => ?_, fun j1 j2 sl1 sl2 b h1 o1 h2 o2 q1 q2 => ?_, k.src, k.keep, k.wc, k.wp, k.wcc⟩, ev⟩
  · by_cases hj : i = j
    · subst hj
      have h : (s.env.set i (some (.val d)))[i]? = _ := h
      rw [List.getElem?_set_self hlt] at h
      cases h
      exact ⟨_, ha, r⟩
    · have h : (s.env.set i (some (.val d)))[j]? = _ := h
      rw [List.getElem?_set_ne hj] at h
      obtain ⟨v, h1, h2⟩ := k.val j d' h
      exact ⟨v, h1, h2.ev ev⟩
  · have h : (s.env.set i (some (.val d)))[j]? = _ := h
    by_cases hj : i = j
    · subst hj
      rw [List.getElem?_set_self hlt] at h
      cases h; cases h'
    · rw [List.getElem?_set_ne hj] at h
      obtain ⟨b, o, h1, h2, h3, h4⟩ := k.own j sl' h h'
      exact ⟨b, o, h1, h2, h3.ev ev, h4⟩
  · have h1 : (s.env.set i (some (.val d)))[j1]? = _ := h1
    have h2 : (s.env.set i (some (.val d)))[j2]? = _ := h2
    by_cases e1 : i = j1
    · subst e1
      rw [List.getElem?_set_self hlt] at h1
      cases h1; cases o1
    · by_cases e2 : i = j2
      · subst e2
        rw [List.getElem?_set_self hlt] at h2
        cases h2; cases o2
      · rw [List.getElem?_set_ne e1] at h1
        rw [List.getElem?_set_ne e2] at h2
        exact k.sep j1 j2 sl1 sl2 b h1 o1 h2 o2 q1 q2
/-- the address of an own slot is no more guarded behind its freezing -/
theorem StOk.unguard {B : Bs} {σ : Sg} {H : Hp} {s : S} {i : Nat} {sl : Sl} {d : D} {a : Addr} (k : StOk B σ H s) (hi : s.env[i]? = some (some sl)) (ho : sl.isOwn = true) (ha : σ[i]? = some (some (.ref a))) (hc : ¬ B.Wc a) :
    ¬ B.W (s.env.set i (some (.val d))) σ a := by
  have hlt : i < s.env.length := (List.getElem?_eq_some_iff.mp hi).1
  rintro (h | ⟨j, sl', e1, e2, e3⟩)
  · exact hc h
  · by_cases hj : i = j
    · subst hj
      rw [List.getElem?_set_self hlt] at e1
      cases e1; cases e2
    · rw [List.getElem?_set_ne hj] at e1
      exact hj (k.sep i j sl sl' a hi ho e1 e2 ha e3)
theorem s_frz {i : Nat} {x : Str} {pos : Pos} (h : PE X (.Name x pos) (tVar i)) : SE X (.Name x pos) (eFrz i) := ⟨fun B => PE.imp h fun σ H Q ⟨s, d, s', k, e, q⟩ => by
  unfold eFrz at e
  split at e
  · rename_i d' hd
    cases e
    obtain ⟨v, h1, h2⟩ := k.val i d hd
    exact ⟨v, h1, q v H k Ev.refl h2⟩
  · rename_i ds hd
    cases e
    obtain ⟨a, o, h1, h2, ⟨vs, rfl, h3⟩, h4, h5⟩ := k.own i _ hd rfl
    have un := k.unguard (d := .lst ds) hd rfl h1 h5
    have r : Rp B.p (B.W (s.env.set i (some (.val (.lst ds)))) σ) H (.lst ds) (.ref a) := ⟨a, vs, rfl, un, h2, Rps.ev (Ev.less fun b hb => ?_) _ _ h3⟩
    · obtain ⟨k', ev⟩ := k.freeze hd rfl h1 r
      exact ⟨_, h1, q _ H k' ev r⟩
    · rcases hb with hb | ⟨j, sl', e1, e2, e3⟩
      · exact .inl hb
      · by_cases hj : i = j
        · subst hj
          rw [List.getElem?_set_self (List.getElem?_eq_some_iff.mp hd).1] at e1
          cases e1; cases e2
        · rw [List.getElem?_set_ne hj] at e1
          exact .inr ⟨j, sl', e1, e2, e3⟩
  · rename_i ks ds hd
    cases e
    obtain ⟨a, o, h1, h2, ⟨vs, rfl, h6, h3⟩, h4, h5⟩ := k.own i _ hd rfl
    have un := k.unguard (d := .dct ks ds) hd rfl h1 h5
    have r : Rp B.p (B.W (s.env.set i (some (.val (.dct ks ds)))) σ) H (.dct ks ds) (.ref a) := ⟨a, vs, rfl, un, h2, h6, Rps.ev (Ev.less fun b hb => ?_) _ _ h3⟩
    · obtain ⟨k', ev⟩ := k.freeze hd rfl h1 r
      exact ⟨_, h1, q _ H k' ev r⟩
    · rcases hb with hb | ⟨j, sl', e1, e2, e3⟩
      · exact .inl hb
      · by_cases hj : i = j
        · subst hj
          rw [List.getElem?_set_self (List.getElem?_eq_some_iff.mp hd).1] at e1
          cases e1; cases e2
        · rw [List.getElem?_set_ne hj] at e1
          exact .inr ⟨j, sl', e1, e2, e3⟩
  · rename_i ks ds hd
    cases e
    obtain ⟨a, o, h1, h2, ⟨vs, rfl, h6, h3⟩, h4, h5⟩ := k.own i _ hd rfl
    have un := k.unguard (d := .dtt ks ds) hd rfl h1 h5
    have r : Rp B.p (B.W (s.env.set i (some (.val (.dtt ks ds)))) σ) H (.dtt ks ds) (.ref a) := ⟨a, vs, rfl, un, h2, h6, Rps.ev (Ev.less fun b hb => ?_) _ _ h3⟩
    · obtain ⟨k', ev⟩ := k.freeze hd rfl h1 r
      exact ⟨_, h1, q _ H k' ev r⟩
    · rcases hb with hb | ⟨j, sl', e1, e2, e3⟩
      · exact .inl hb
      · by_cases hj : i = j
        · subst hj
          rw [List.getElem?_set_self (List.getElem?_eq_some_iff.mp hd).1] at e1
          cases e1; cases e2
        · rw [List.getElem?_set_ne hj] at e1
          exact .inr ⟨j, sl', e1, e2, e3⟩
  · cases e⟩
/-- what is no object -/
def D.flat : D → Option V
  | .non => some .non
  | .bl b => some (.bl b)
  | .int i => some (.int i)
  | .str s => some (.str s)
  | _ => none
theorem Rp.flat {p : Addr} {W : AP} {H : Hp} {d : D} {v : V} (h : d.flat = some v) : Rp p W H d v := by
  cases d <;> simp [D.flat] at h <;> subst h <;> simp [Rp]
theorem Rp.flat_eq {p : Addr} {W : AP} {H : Hp} {d : D} {v u : V} (h : d.flat = some v) (r : Rp p W H d u) : u = v := by
  cases d <;> simp [D.flat] at h <;> subst h <;> simpa [Rp] using r
def eC (d : D) : M D := ret d
theorem s_cst {e : Expr} {d : D} {v : V} (h : PE X e (tC v)) (hd : d.flat = some v := by rfl) : SE X e (eC d) := ⟨fun B => PE.imp h fun σ H Q ⟨s, d', s', k, e, q⟩ => by
  obtain ⟨rfl, rfl⟩ := ret_some e
  exact q v H k Ev.refl (Rp.flat hd)⟩
theorem s_int {i j pos} : SE X (.Constant (.int i) j pos) (eC (.int i)) := s_cst pe_int
theorem s_bl {b j pos} : SE X (.Constant (.bool b) j pos) (eC (.bl b)) := s_cst pe_bl
theorem s_non {j pos} : SE X (.Constant .none j pos) (eC .non) := s_cst pe_non
theorem s_str {x j pos} : SE X (.Constant (.str x) j pos) (eC (.str x)) := s_cst pe_str
end
end GH

namespace GH
open PySem PySem.Spec PyProof.Rows L2

/-- a two-place operation on trees -/
def rB (f : D → D → Option D) : R2 := fun x y H Q => ∃ p W dx dy d, WT W H ∧ Rp p W H dx x ∧ Rp p W H dy y ∧ f dx dy = some d ∧ ∀ v H', Same H H' → Rp p W H' d v → Q v H'
def rU1 (f : D → Option D) : V → Hp → VK → Prop := fun x H Q => ∃ p W dx d, WT W H ∧ Rp p W H dx x ∧ f dx = some d ∧ ∀ v H', Same H H' → Rp p W H' d v → Q v H'
/-- a call by values -/
def rC (g : List D → Option D) : List V → Hp → VK → Prop := fun vs H Q => ∃ p W ds d, WT W H ∧ Rps p W H ds vs ∧ g ds = some d ∧ ∀ v H', Same H H' → Rp p W H' d v → Q v H'
/-- a call that makes a new list of what was there -/
def rCL (g : List D → Option (List D)) : List V → Hp → VK → Prop := fun vs H Q => ∃ p W ds es, WT W H ∧ Rps p W H ds vs ∧ g ds = some es ∧
  ∀ a us H', Same H H' → H a = none → H' a = some (.lst us) → Rps p W H es us → Q (.ref a) H'

section
variable {p : Addr} {W : AP} {H : Hp}
theorem rps1 {d : D} {vs : List V} (h : Rps p W H [d] vs) : ∃ v, vs = [v] ∧ Rp p W H d v := by
  simp only [Rps] at h
  obtain ⟨v, r, rfl, h1, rfl⟩ := h
  exact ⟨v, rfl, h1⟩
theorem rps2 {d e : D} {vs : List V} (h : Rps p W H [d, e] vs) : ∃ v u, vs = [v, u] ∧ Rp p W H d v ∧ Rp p W H e u := by
  simp only [Rps] at h
  obtain ⟨v, r, rfl, h1, u, r', rfl, h2, rfl⟩ := h
  exact ⟨v, u, rfl, h1, h2⟩
theorem rp_int {i : Int} {v : V} (h : Rp p W H (.int i) v) : v = .int i := by simpa only [Rp] using h
theorem rp_bl {i : Bool} {v : V} (h : Rp p W H (.bl i) v) : v = .bl i := by simpa only [Rp] using h
theorem rp_str {i : Str} {v : V} (h : Rp p W H (.str i) v) : v = .str i := by simpa only [Rp] using h
theorem rp_non {v : V} (h : Rp p W H .non v) : v = .non := by simpa only [Rp] using h
theorem rp_lst {ds : List D} {v : V} (h : Rp p W H (.lst ds) v) : ∃ a vs, v = .ref a ∧ ¬ W a ∧ H a = some (.lst vs) ∧ Rps p W H ds vs := by simpa only [Rp] using h
theorem rp_tup {ds : List D} {v : V} (h : Rp p W H (.tup ds) v) : ∃ a vs, v = .ref a ∧ ¬ W a ∧ H a = some (.tup vs) ∧ Rps p W H ds vs := by simpa only [Rp] using h
theorem rp_rng {lo hi : Int} {v : V} (h : Rp p W H (.rng lo hi) v) : ∃ a, v = .ref a ∧ ¬ W a ∧ H a = some (.rng lo hi) := by simpa only [Rp] using h
theorem rp_dct {ks : List Key} {ds : List D} {v : V} (h : Rp p W H (.dct ks ds) v) : ∃ a kvs, v = .ref a ∧ ¬ W a ∧ H a = some (.dK kvs) ∧ kvs.map (·.1) = ks ∧ Rps p W H ds (kvs.map (·.2)) := by simpa only [Rp] using h
theorem rp_dtt {ks : List (List Key)} {ds : List D} {v : V} (h : Rp p W H (.dtt ks ds) v) : ∃ a kvs, v = .ref a ∧ ¬ W a ∧ H a = some (.dT kvs) ∧ kvs.map (·.1) = ks ∧ Rps p W H ds (kvs.map (·.2)) := by simpa only [Rp] using h
theorem Rp.mkInt (i : Int) : Rp p W H (.int i) (.int i) := by simp [Rp]
theorem Rp.mkBl (i : Bool) : Rp p W H (.bl i) (.bl i) := by simp [Rp]
theorem Rp.mkStr (i : Str) : Rp p W H (.str i) (.str i) := by simp [Rp]
theorem Rp.mkNon : Rp p W H .non .non := by simp [Rp]
theorem Rp.mkTup {ds : List D} {vs : List V} {a : Addr} (n : ¬ W a) (h : H a = some (.tup vs)) (r : Rps p W H ds vs) : Rp p W H (.tup ds) (.ref a) := by
  simp only [Rp]; exact ⟨a, vs, rfl, n, h, r⟩
theorem Rp.mkLst {ds : List D} {vs : List V} {a : Addr} (n : ¬ W a) (h : H a = some (.lst vs)) (r : Rps p W H ds vs) : Rp p W H (.lst ds) (.ref a) := by
  simp only [Rp]; exact ⟨a, vs, rfl, n, h, r⟩
/-- a new tuple of what was there -/
theorem Rp.newTup {ds : List D} {vs : List V} {a : Addr} (w : WT W H) (n : H a = none) (r : Rps p W H ds vs) : Rp p W (upd H a (.tup vs)) (.tup ds) (.ref a) :=
  .mkTup (w.new n) upd_same (r.ev (Ev.same (same_new n)))
theorem Rp.newLst {ds : List D} {vs : List V} {a : Addr} (w : WT W H) (n : H a = none) (r : Rps p W H ds vs) : Rp p W (upd H a (.lst vs)) (.lst ds) (.ref a) :=
  .mkLst (w.new n) upd_same (r.ev (Ev.same (same_new n)))
end

def toInts : List D → Option (List Int)
  | [] => some []
  | .int i :: r => (toInts r).map (i :: ·)
  | _ => none
def toBls : List D → Option (List Bool)
  | [] => some []
  | .bl i :: r => (toBls r).map (i :: ·)
  | _ => none
theorem toInts_eq : ∀ {ds : List D} {ns : List Int}, toInts ds = some ns → ds = ns.map D.int
  | [], _, h => by simp [toInts] at h; subst h; rfl
  | d :: r, ns, h => by
    cases d <;> simp [toInts] at h
    obtain ⟨ms, h1, rfl⟩ := h
    rw [toInts_eq h1]; rfl
theorem toBls_eq : ∀ {ds : List D} {ns : List Bool}, toBls ds = some ns → ds = ns.map D.bl
  | [], _, h => by simp [toBls] at h; subst h; rfl
  | d :: r, ns, h => by
    cases d <;> simp [toBls] at h
    obtain ⟨ms, h1, rfl⟩ := h
    rw [toBls_eq h1]; rfl
@[simp] theorem toInts_map (ns : List Int) : toInts (ns.map D.int) = some ns := by
  induction ns with
  | nil => rfl
  | cons n r ih => simp [toInts, ih]
@[simp] theorem toBls_map (ns : List Bool) : toBls (ns.map D.bl) = some ns := by
  induction ns with
  | nil => rfl
  | cons n r ih => simp [toBls, ih]
theorem rps_ints {p : Addr} {W : AP} {H : Hp} : ∀ {ns : List Int} {vs : List V}, Rps p W H (ns.map D.int) vs → vs = ns.map V.int
  | [], _, h => by simpa [Rps] using h
  | n :: r, _, h => by
    rw [List.map_cons] at h
    simp only [Rps] at h
    obtain ⟨v, t, rfl, h1, h2⟩ := h
    rw [h1, rps_ints h2]; rfl
theorem rps_bls {p : Addr} {W : AP} {H : Hp} : ∀ {ns : List Bool} {vs : List V}, Rps p W H (ns.map D.bl) vs → vs = ns.map V.bl
  | [], _, h => by simpa [Rps] using h
  | n :: r, _, h => by
    rw [List.map_cons] at h
    simp only [Rps] at h
    obtain ⟨v, t, rfl, h1, h2⟩ := h
    rw [h1, rps_bls h2]; rfl
theorem ints_rps {p : Addr} {W : AP} {H : Hp} : ∀ {ns : List Int}, Rps p W H (ns.map D.int) (ns.map V.int)
  | [] => .nil
  | n :: _ => .cons (.mkInt n) ints_rps

def addD : D → D → Option D
  | .int a, .int b => some (.int (a + b))
  | .str a, .str b => if a.length + b.length ≤ sizeLine then some (.str (a ++ b)) else none
  | .tup a, .tup b => if a.length + b.length ≤ sizeLine then some (.tup (a ++ b)) else none
  | .lst a, .lst b => if a.length + b.length ≤ sizeLine then some (.lst (a ++ b)) else none
  | _, _ => none
def subD : D → D → Option D
  | .int a, .int b => some (.int (a - b))
  | _, _ => none
instance (i j : Int) : Decidable (CDivN i j) := by unfold CDivN; infer_instance
instance (i j : Int) : Decidable (CMulW i j) := by unfold CMulW; infer_instance
instance (i j : Int) : Decidable (CMul i j) := by unfold CMul; infer_instance
instance (i j : Int) : Decidable (CDivW i j) := by unfold CDivW; infer_instance
def mulD : D → D → Option D
  | .int a, .int b => if CMul a b then some (.int (a * b)) else if CMulW a b then some (.int (a * b)) else none
  | .tup a, .int k => if a ≠ [] ∧ 2 ≤ k ∧ k ≤ 1000 ∧ a.length ≤ 1000 then some (.tup (List.replicate k.toNat a).flatten) else none
  | .lst a, .int k => if -(2 ^ 63) ≤ k ∧ k < 2 ^ 63 ∧ a.length * k.toNat ≤ sizeLine then some (.lst (List.replicate k.toNat a).flatten) else none
  | _, _ => none
def modD : D → D → Option D
  | .int a, .int b => if b ≠ 0 then some (.int (a.fmod b)) else none
  | _, _ => none
def fdivD : D → D → Option D
  | .int a, .int b => if CDivN a b then some (.int (a.fdiv b)) else if CDivW a b then some (.int (a / b)) else none
  | _, _ => none

section
variable {X : Cx}
abbrev OpD (X : Cx) (g : Value → Value → Sem Value) (f : D → D → Option D) : Prop := OpR X g (rB f)
theorem OpR.imp {g : Value → Value → Sem Value} {r r' : R2} (h : OpR X g r) (f : ∀ x y H Q, r' x y H Q → r x y H Q) : OpR X g r' := fun pins s σ H x y v u Q I rx ry q => h pins s σ H x y v u Q I rx ry (f _ _ _ _ q)
theorem CallR.imp {g : Value} {r r' : List V → Hp → VK → Prop} (h : CallR X g r) (f : ∀ vs H Q, r' vs H Q → r vs H Q) : CallR X g r' := fun pins s σ H xs us Q I rx q => h pins s σ H xs us Q I rx (f _ _ _ q)
/-- case by case -/
theorem opD_cases {g : Value → Value → Sem Value} {f : D → D → Option D} (h : ∀ dx dy d p W, f dx dy = some d → OpR X g (fun x y H Q => WT W H ∧ Rp p W H dx x ∧ Rp p W H dy y ∧ ∀ v H', Same H H' → Rp p W H' d v → Q v H')) : OpD X g f := by
  intro pins s σ H x y v u Q I rx ry ⟨p, W, dx, dy, d, hw, hx, hy, he, hq⟩
  exact h dx dy d p W he pins s σ H x y v u Q I rx ry ⟨hw, hx, hy, hq⟩
theorem od_add : OpD X (binaryOp .Add) addD := opD_cases fun dx dy d p W he => by
  unfold addD at he
  split at he
  · cases he
    refine OpR.imp op_add fun x y H Q ⟨hw, hx, hy, hq⟩ => ⟨_, _, rp_int hx, rp_int hy, hq _ _ (Same.refl H) (.mkInt _)⟩
  · split at he
    · cases he
      rename_i hl
      refine OpR.imp op_add_str fun x y H Q ⟨hw, hx, hy, hq⟩ => ⟨_, _, rp_str hx, rp_str hy, hl, hq _ _ (Same.refl H) (.mkStr _)⟩
    · cases he
  · split at he
    · cases he
      rename_i as bs hl
      refine OpR.imp op_catA fun x y H Q ⟨hw, hx, hy, hq⟩ => ?_
      obtain ⟨a, vs, rfl, na, ha, ra⟩ := rp_tup hx
      obtain ⟨b, us, rfl, nb, hb, rb⟩ := rp_tup hy
      refine ⟨a, b, vs, us, rfl, rfl, SqT.of ha, SqT.of hb, by rw [← ra.length, ← rb.length]; exact hl, fun e => ?_, fun e1 e2 => ?_, fun e1 e2 q nq => ?_⟩
      · subst e
        have : as = [] := List.eq_nil_of_length_eq_zero (by simpa using ra.length)
        subst this
        exact hq _ _ (Same.refl H) (.mkTup nb hb (by simpa using rb))
      · subst e2
        have : bs = [] := List.eq_nil_of_length_eq_zero (by simpa using rb.length)
        subst this
        exact hq _ _ (Same.refl H) (.mkTup na ha (by simpa using ra))
      · exact hq _ _ (same_new nq) (.newTup hw nq (ra.append rb))
    · cases he
  · split at he
    · cases he
      rename_i as bs hl
      refine OpR.imp op_cat fun x y H Q ⟨hw, hx, hy, hq⟩ => ?_
      obtain ⟨a, vs, rfl, na, ha, ra⟩ := rp_lst hx
      obtain ⟨b, us, rfl, nb, hb, rb⟩ := rp_lst hy
      exact ⟨a, b, vs, us, rfl, rfl, ha, hb, by rw [← ra.length, ← rb.length]; exact hl, fun q nq => hq _ _ (same_new nq) (.newLst hw nq (ra.append rb))⟩
    · cases he
  · cases he
theorem od_sub : OpD X (binaryOp .Sub) subD := opD_cases fun dx dy d p W he => by
  unfold subD at he
  split at he
  · cases he
    refine OpR.imp op_sub fun x y H Q ⟨hw, hx, hy, hq⟩ => ⟨_, _, rp_int hx, rp_int hy, hq _ _ (Same.refl H) (.mkInt _)⟩
  · cases he
theorem rps_rep {p : Addr} {W : AP} {H : Hp} {ds : List D} {vs : List V} (r : Rps p W H ds vs) : ∀ n, Rps p W H (List.replicate n ds).flatten (List.replicate n vs).flatten
  | 0 => by simpa using Rps.nil
  | n + 1 => by
    rw [List.replicate_succ, List.replicate_succ, List.flatten_cons, List.flatten_cons]
    exact r.append (rps_rep r n)
theorem od_mul : OpD X (binaryOp .Mult) mulD := opD_cases fun dx dy d p W he => by
  unfold mulD at he
  split at he
  · split at he
    · cases he
      rename_i hl
      refine OpR.imp op_mul fun x y H Q ⟨hw, hx, hy, hq⟩ => ⟨_, _, rp_int hx, rp_int hy, hl, hq _ _ (Same.refl H) (.mkInt _)⟩
    · split at he
      · cases he
        rename_i hl
        refine OpR.imp op_mulW fun x y H Q ⟨hw, hx, hy, hq⟩ => ⟨_, _, rp_int hx, rp_int hy, hl, hq _ _ (Same.refl H) (.mkInt _)⟩
      · cases he
  · split at he
    · cases he
      rename_i as k hl
      refine OpR.imp op_repT fun x y H Q ⟨hw, hx, hy, hq⟩ => ?_
      obtain ⟨a, vs, rfl, na, ha, ra⟩ := rp_tup hx
      refine ⟨a, k, vs, rfl, rp_int hy, SqT.of ha, fun e => hl.1 ?_, hl.2.1, hl.2.2.1, by rw [← ra.length]; exact hl.2.2.2, fun q nq => hq _ _ (same_new nq) (.newTup hw nq (rps_rep ra _))⟩
      subst e
      exact List.eq_nil_of_length_eq_zero (by simpa using ra.length)
    · cases he
  · split at he
    · cases he
      rename_i as k hl
      refine OpR.imp op_rep fun x y H Q ⟨hw, hx, hy, hq⟩ => ?_
      obtain ⟨a, vs, rfl, na, ha, ra⟩ := rp_lst hx
      refine ⟨a, k, vs, rfl, rp_int hy, ha, hl.1, hl.2.1, by rw [← ra.length]; exact hl.2.2, fun q nq => hq _ _ (same_new nq) (.newLst hw nq (rps_rep ra _))⟩
    · cases he
  · cases he
theorem od_mod : OpD X (binaryOp .Mod) modD := opD_cases fun dx dy d p W he => by
  unfold modD at he
  split at he
  · split at he
    · cases he
      rename_i hl
      refine OpR.imp op_modN fun x y H Q ⟨hw, hx, hy, hq⟩ => ⟨_, _, rp_int hx, rp_int hy, hl, hq _ _ (Same.refl H) (.mkInt _)⟩
    · cases he
  · cases he
theorem od_fdiv : OpD X (binaryOp .FloorDiv) fdivD := opD_cases fun dx dy d p W he => by
  unfold fdivD at he
  split at he
  · split at he
    · cases he
      rename_i hl
      refine OpR.imp op_fdivN fun x y H Q ⟨hw, hx, hy, hq⟩ => ⟨_, _, rp_int hx, rp_int hy, hl, hq _ _ (Same.refl H) (.mkInt _)⟩
    · split at he
      · cases he
        rename_i hl
        refine OpR.imp op_fdivW fun x y H Q ⟨hw, hx, hy, hq⟩ => ⟨_, _, rp_int hx, rp_int hy, hl, hq _ _ (Same.refl H) (.mkInt _)⟩
      · cases he
  · cases he

def ltD : D → D → Option D
  | .int a, .int b => some (.bl (decide (a < b)))
  | _, _ => none
def leD : D → D → Option D
  | .int a, .int b => some (.bl (decide (a ≤ b)))
  | _, _ => none
def gtD : D → D → Option D
  | .int a, .int b => some (.bl (decide (b < a)))
  | _, _ => none
def geD : D → D → Option D
  | .int a, .int b => some (.bl (decide (b ≤ a)))
  | _, _ => none
theorem od_lt : OpD X (compareOp .Lt) ltD := opD_cases fun dx dy d p W he => by
  unfold ltD at he
  split at he
  · cases he
    exact OpR.imp op_lt fun x y H Q ⟨hw, hx, hy, hq⟩ => ⟨_, _, rp_int hx, rp_int hy, hq _ _ (Same.refl H) (.mkBl _)⟩
  · cases he
theorem od_le : OpD X (compareOp .LtE) leD := opD_cases fun dx dy d p W he => by
  unfold leD at he
  split at he
  · cases he
    exact OpR.imp op_le fun x y H Q ⟨hw, hx, hy, hq⟩ => ⟨_, _, rp_int hx, rp_int hy, hq _ _ (Same.refl H) (.mkBl _)⟩
  · cases he
theorem od_gt : OpD X (compareOp .Gt) gtD := opD_cases fun dx dy d p W he => by
  unfold gtD at he
  split at he
  · cases he
    exact OpR.imp op_gt fun x y H Q ⟨hw, hx, hy, hq⟩ => ⟨_, _, rp_int hx, rp_int hy, hq _ _ (Same.refl H) (.mkBl _)⟩
  · cases he
theorem od_ge : OpD X (compareOp .GtE) geD := opD_cases fun dx dy d p W he => by
  unfold geD at he
  split at he
  · cases he
    exact OpR.imp op_ge fun x y H Q ⟨hw, hx, hy, hq⟩ => ⟨_, _, rp_int hx, rp_int hy, hq _ _ (Same.refl H) (.mkBl _)⟩
  · cases he

mutual
def D.py : D → PyData
  | .non => .none
  | .bl b => .bool b
  | .int i => .int i
  | .str s => .str s
  | .tup ds => .tuple (D.pys ds)
  | .lst ds => .list (D.pys ds)
  | .rng _ _ => .dict []
  | .src => .dict []
  | .dct _ _ => .dict []
  | .dtt _ _ => .dict []
def D.pys : List D → List PyData
  | [] => []
  | d :: ds => d.py :: D.pys ds
end
theorem pys_map : ∀ ds : List D, D.pys ds = ds.map D.py
  | [] => by simp [D.pys]
  | d :: ds => by simp [D.pys, pys_map ds]
mutual
theorem Rp.dp {p : Addr} {W : AP} {H : Hp} {K : PySem.W.Frag} : ∀ (d : D) (v : V), Rp p W H d v → d.py.canLay0 = true → Dp K H v d.py
  | .non, _, h, _ => by rw [rp_non h]; exact .non
  | .bl _, _, h, _ => by rw [rp_bl h]; exact .bl _
  | .int _, _, h, _ => by rw [rp_int h]; exact .int _
  | .str _, _, h, _ => by rw [rp_str h]; exact .str _
  | .tup ds, _, h, hc => by
    obtain ⟨a, vs, rfl, n, ha, r⟩ := rp_tup h
    simp only [D.py, PyData.canLay0] at hc ⊢
    exact .tup (SqT.of ha) (Rps.dp ds vs r hc)
  | .lst ds, _, h, hc => by
    obtain ⟨a, vs, rfl, n, ha, r⟩ := rp_lst h
    simp only [D.py, PyData.canLay0] at hc ⊢
    exact .lst (SqL.of ha) (Rps.dp ds vs r hc)
  | .rng _ _, _, _, hc => by simp [D.py, PyData.canLay0] at hc
  | .src, _, _, hc => by simp [D.py, PyData.canLay0] at hc
  | .dct _ _, _, _, hc => by simp [D.py, PyData.canLay0] at hc
  | .dtt _ _, _, _, hc => by simp [D.py, PyData.canLay0] at hc
theorem Rps.dp {p : Addr} {W : AP} {H : Hp} {K : PySem.W.Frag} : ∀ (ds : List D) (vs : List V), Rps p W H ds vs → PyData.canLayAll0 (D.pys ds) = true → DpAll K H vs (D.pys ds)
  | [], _, h, _ => by
    simp only [Rps] at h; subst h
    simp only [D.pys]; exact .nil
  | d :: ds, _, h, hc => by
    simp only [Rps] at h
    obtain ⟨v, r, rfl, h1, h2⟩ := h
    simp only [D.pys, PyData.canLayAll0, Bool.and_eq_true] at hc ⊢
    exact .cons (Rp.dp d v h1 hc.1) (Rps.dp ds r h2 hc.2)
end
def eqD (a b : D) : Option D := if SeqAt.shaped a.py = true ∧ SeqAt.shaped b.py = true then some (.bl (PyData.eqv a.py b.py)) else none
def neD (a b : D) : Option D := if SeqAt.shaped a.py = true ∧ SeqAt.shaped b.py = true then some (.bl (!PyData.eqv a.py b.py)) else none
theorem od_eq (hu : X.A.units + 64 < cLine) : OpD X (compareOp .Eq) eqD := opD_cases fun dx dy d p W he => by
  unfold eqD at he
  split at he
  · cases he
    rename_i hs
    exact OpR.imp (op_eqD hu) fun x y H Q ⟨hw, hx, hy, hq⟩ => ⟨_, _, hx.dp _ _ (SeqAt.canLay_of_shaped hs.1), hy.dp _ _ (SeqAt.canLay_of_shaped hs.2), hs.1, hs.2, hq _ _ (Same.refl H) (.mkBl _)⟩
  · cases he
theorem od_ne (hu : X.A.units + 64 < cLine) : OpD X (compareOp .NotEq) neD := opD_cases fun dx dy d p W he => by
  unfold neD at he
  split at he
  · cases he
    rename_i hs
    exact OpR.imp (op_neD hu) fun x y H Q ⟨hw, hx, hy, hq⟩ => ⟨_, _, hx.dp _ _ (SeqAt.canLay_of_shaped hs.1), hy.dp _ _ (SeqAt.canLay_of_shaped hs.2), hs.1, hs.2, hq _ _ (Same.refl H) (.mkBl _)⟩
  · cases he

def isND : D → D → Option D
  | .non, .non => some (.bl true)
  | _, .non => some (.bl false)
  | _, _ => none
def notND : D → D → Option D
  | .non, .non => some (.bl false)
  | _, .non => some (.bl true)
  | _, _ => none
theorem Rp.isNon {p : Addr} {W : AP} {H : Hp} {d : D} {v : V} (h : Rp p W H d v) : decide (v = .non) = (match d with | .non => true | _ => false) := by
  cases d <;> simp only [Rp] at h
  case non => subst h; rfl
  case bl => subst h; rfl
  case int => subst h; rfl
  case str => subst h; rfl
  case src => subst h; rfl
  all_goals
    obtain ⟨a, h⟩ := h
    first
      | (obtain ⟨rfl, _⟩ := h; rfl)
      | (obtain ⟨_, rfl, _⟩ := h; rfl)
theorem od_isN : OpD X (compareOp .Is) isND := opD_cases fun dx dy d p W he => by
  unfold isND at he
  split at he
  · cases he
    exact OpR.imp op_isN fun x y H Q ⟨hw, hx, hy, hq⟩ => ⟨rp_non hy, by rw [hx.isNon]; exact hq _ _ (Same.refl H) (.mkBl _)⟩
  · cases he
    rename_i hn
    refine OpR.imp op_isN fun x y H Q ⟨hw, hx, hy, hq⟩ => ⟨rp_non hy, ?_⟩
    rw [hx.isNon]
    cases dx <;> first | exact hq _ _ (Same.refl H) (.mkBl _) | exact absurd rfl (hn rfl) | exact absurd rfl hn | simp at hn
  · cases he
theorem od_notN : OpD X (compareOp .IsNot) notND := opD_cases fun dx dy d p W he => by
  unfold notND at he
  split at he
  · cases he
    exact OpR.imp op_notN fun x y H Q ⟨hw, hx, hy, hq⟩ => ⟨rp_non hy, by rw [hx.isNon]; exact hq _ _ (Same.refl H) (.mkBl _)⟩
  · cases he
    rename_i hn
    refine OpR.imp op_notN fun x y H Q ⟨hw, hx, hy, hq⟩ => ⟨rp_non hy, ?_⟩
    rw [hx.isNon]
    cases dx <;> first | exact hq _ _ (Same.refl H) (.mkBl _) | exact absurd rfl (hn rfl) | exact absurd rfl hn | simp at hn
  · cases he
end
end GH

namespace GH
open PySem PySem.Spec PyProof.Rows L2

section
variable {X : Cx} {a b c e : Expr} {es : List Expr} {pos : Pos} {ma mb mc m : M D} {ms : M (List D)}

def eBin (f : D → D → Option D) (ma mb : M D) : M D := bnd ma fun x => bnd mb fun y => lift (f x y)
theorem bin_go {B : Bs} {f : D → D → Option D} {σ : Sg} {H : Hp} {Q : VK} (h : tI B (eBin f ma mb) σ H Q) : tOp (rB f) (tI B ma) (tI B mb) σ H Q := by
  obtain ⟨s, d, s', k, e, q⟩ := h
  refine tI.bind k e fun dx s1 x H1 h1 e1 k1 ev1 r1 => ?_
  refine tI.bind k1 e1 fun dy s2 y H2 h2 e2 k2 ev2 r2 => ?_
  obtain ⟨e3, rfl⟩ := lift_some e2
  exact ⟨B.p, _, dx, dy, d, k2.wt, r1.ev ev2, r2, e3, fun v H' sm r => q v H' (k2.same sm) ((ev1.trans ev2).trans (Ev.same sm)) r⟩
theorem s_bin {op : Operator} {f : D → D → Option D} (ho : OpD X (binaryOp op) f) (ha : SE X a ma) (hb : SE X b mb) : SE X (.BinOp a op b pos) (eBin f ma mb) :=
  ⟨fun B => PE.imp (pe_op ho (ha.pe B) (hb.pe B)) fun σ H Q h => bin_go h⟩
theorem s_cmp {op : CmpOp} {f : D → D → Option D} (ho : OpD X (compareOp op) f) (ha : SE X a ma) (hb : SE X b mb) (hm : behindInMarks op b = false := by first | exact nobehind _ (by decide) (by decide) | rfl) : SE X (.Compare a [op] [b] pos) (eBin f ma mb) :=
  ⟨fun B => PE.imp (pe_cmpR ho (ha.pe B) (hb.pe B) hm) fun σ H Q h => bin_go h⟩
/-- a True or False as a test -/
def tst (m : M D) : M Bool := bnd m fun d => match d with
  | .bl b => ret b
  | _ => fail
theorem t_cmp {op : CmpOp} {f : D → D → Option D} (ho : OpD X (compareOp op) f) (ha : SE X a ma) (hb : SE X b mb) (hm : behindInMarks op b = false := by first | exact nobehind _ (by decide) (by decide) | rfl) : ST X (.Compare a [op] [b] pos) (tst (eBin f ma mb)) :=
  ⟨fun B => PT.imp (pt_cmpR ho (ha.pe B) (hb.pe B) hm) fun σ H Q ⟨s, b', s', k, e, q⟩ => by
    obtain ⟨d, s1, h1, h2⟩ := bnd_some e
    cases d <;> simp only [fail] at h2 <;> try (cases h2; done)
    obtain ⟨rfl, rfl⟩ := ret_some h2
    refine bin_go ⟨s, _, _, k, h1, fun v H' k' ev r => ⟨_, rp_bl r, q H' k' ev⟩⟩⟩
/-- a value's truth -/
def truD : D → Option Bool
  | .non => some false
  | .bl b => some b
  | .int i => some (i != 0)
  | .str y => if y.length ≤ sizeLine then some ((y.length : Int) != 0) else none
  | .lst ds => some (!ds.isEmpty)
  | .tup ds => some (!ds.isEmpty)
  | .dct ks _ => some (!ks.isEmpty)
  | _ => none
theorem isEmpty_len {α β : Type} {l : List α} {l' : List β} (h : l.length = l'.length) : l.isEmpty = l'.isEmpty := by
  cases l <;> cases l' <;> simp at h ⊢
theorem Rp.tru {p : Addr} {W : AP} {H : Hp} {K : PySem.W.Frag} {d : D} {v : V} {k : Bool} (r : Rp p W H d v) (h : truD d = some k) : TruV K v H k := by
  cases d <;> simp only [truD] at h
  case non => cases h; rw [rp_non r]; rfl
  case bl => cases h; rw [rp_bl r]; rfl
  case int => cases h; rw [rp_int r]; rfl
  case str =>
    split at h
    · cases h; rename_i hl; rw [rp_str r]; exact ⟨hl, rfl⟩
    · cases h
  case tup =>
    cases h
    obtain ⟨a, vs, rfl, _, ha, rs⟩ := rp_tup r
    exact .inr (.inl ⟨vs, SqT.of ha, by rw [isEmpty_len rs.length]⟩)
  case lst =>
    cases h
    obtain ⟨a, vs, rfl, _, ha, rs⟩ := rp_lst r
    exact .inl ⟨vs, SqL.of ha, by rw [isEmpty_len rs.length]⟩
  case dct =>
    cases h
    obtain ⟨a, kvs, rfl, _, ha, hk, rs⟩ := rp_dct r
    exact .inr (.inr ⟨kvs, ha, by rw [← hk]; simp⟩)
  all_goals cases h
def tru (m : M D) : M Bool := bnd m fun d => lift (truD d)
theorem t_of (ha : SE X a ma) (he : ∀ whole, isTrue a X.env whole = (do let v ← whole; standAt a.pos; holding [v] (truthy v)) := by intro _; rfl) : ST X a (tru ma) :=
  ⟨fun B => PT.imp (pt_truth (ha.pe B) he) fun σ H Q ⟨s, b', s', k, e, q⟩ => by
    refine tI.bind k e fun dx s1 x H1 h1 e1 k1 ev1 r1 => ?_
    obtain ⟨e3, rfl⟩ := lift_some e1
    exact ⟨b', r1.tru e3, q H1 k1 ev1⟩⟩
structure SW (X : Cx) (e : Expr) (m : M Bool) : Prop where
  pw : ∀ B, PW X e (tT B m)
theorem PW.imp {X : Cx} {e : Expr} {t t' : TT} (h : PW X e t) (f : ∀ σ H Q, t' σ H Q → t σ H Q) : PW X e t' := ⟨fun wh pins s σ H Q I q => h.run wh pins s σ H Q I (f _ _ _ q)⟩
theorem SW.t {e : Expr} {m : M Bool} (h : SW X e m) : ST X e m := ⟨fun B => (h.pw B).pt⟩
def tAnd2 (m n : M Bool) : M Bool := bnd m fun b => if b = true then n else ret false
def tOr2 (m n : M Bool) : M Bool := bnd m fun b => if b = true then ret true else n
def tNot1 (m : M Bool) : M Bool := bnd m fun b => ret (!b)
theorem w_and1 {m : M Bool} (h : ST X a m) : SW X (.BoolOp .And [a] pos) m := ⟨fun B => pw_and1 (h.pt B)⟩
theorem w_or1 {m : M Bool} (h : ST X a m) : SW X (.BoolOp .Or [a] pos) m := ⟨fun B => pw_or1 (h.pt B)⟩
theorem w_and {m n : M Bool} (ha : ST X a m) (hb : SW X (.BoolOp .And (b :: es) pos) n) : SW X (.BoolOp .And (a :: b :: es) pos) (tAnd2 m n) :=
  ⟨fun B => PW.imp (pw_and (ha.pt B) (hb.pw B)) fun σ H Q ⟨s, b', s', k, e, q⟩ => by
    refine tT.bind k e fun d s1 H1 h1 e1 k1 ev1 => ?_
    cases d with
    | true => exact ⟨s1, b', s', k1, e1, fun H2 k2 ev2 => q H2 k2 (ev1.trans ev2)⟩
    | false =>
      obtain ⟨rfl, rfl⟩ := ret_some e1
      exact q H1 k1 ev1⟩
theorem w_or {m n : M Bool} (ha : ST X a m) (hb : SW X (.BoolOp .Or (b :: es) pos) n) : SW X (.BoolOp .Or (a :: b :: es) pos) (tOr2 m n) :=
  ⟨fun B => PW.imp (pw_or (ha.pt B) (hb.pw B)) fun σ H Q ⟨s, b', s', k, e, q⟩ => by
    refine tT.bind k e fun d s1 H1 h1 e1 k1 ev1 => ?_
    cases d with
    | false => exact ⟨s1, b', s', k1, e1, fun H2 k2 ev2 => q H2 k2 (ev1.trans ev2)⟩
    | true =>
      obtain ⟨rfl, rfl⟩ := ret_some e1
      exact q H1 k1 ev1⟩
theorem t_not {m : M Bool} (ha : ST X a m) : ST X (.UnaryOp .Not a pos) (tNot1 m) :=
  ⟨fun B => PT.imp (pt_not (ha.pt B)) fun σ H Q ⟨s, b', s', k, e, q⟩ => by
    refine tT.bind k e fun d s1 H1 h1 e1 k1 ev1 => ?_
    obtain ⟨rfl, rfl⟩ := ret_some e1
    exact q H1 k1 ev1⟩
/-- .. as values -/
def eAnd (ma mb : M D) : M D := bnd ma fun x => bnd (lift (truD x)) fun b => if b = true then mb else ret x
def eOr (ma mb : M D) : M D := bnd ma fun x => bnd (lift (truD x)) fun b => if b = true then ret x else mb
def eNot (ma : M D) : M D := bnd ma fun x => bnd (lift (truD x)) fun b => ret (.bl (!b))
theorem s_one {op} (h : SE X a ma) : SE X (.BoolOp op [a] pos) ma := ⟨fun B => pe_one (h.pe B)⟩
theorem s_and (ha : SE X a ma) (hb : SE X (.BoolOp .And (b :: es) pos) mb) : SE X (.BoolOp .And (a :: b :: es) pos) (eAnd ma mb) :=
  ⟨fun B => PE.imp (pe_andT (ha.pe B) (hb.pe B)) fun σ H Q ⟨s, d, s', k, e, q⟩ => by
    refine tI.bind k e fun dx s1 x H1 h1 e1 k1 ev1 r1 => ?_
    obtain ⟨t, s2, e2, e3⟩ := bnd_some e1
    obtain ⟨e4, rfl⟩ := lift_some e2
    refine ⟨t, r1.tru e4, ?_⟩
    cases t with
    | true => exact ⟨s2, d, s', k1, e3, fun v H2 k2 ev2 r2 => q v H2 k2 (ev1.trans ev2) r2⟩
    | false =>
      obtain ⟨rfl, rfl⟩ := ret_some e3
      exact q x H1 k1 ev1 r1⟩
theorem s_or (ha : SE X a ma) (hb : SE X (.BoolOp .Or (b :: es) pos) mb) : SE X (.BoolOp .Or (a :: b :: es) pos) (eOr ma mb) :=
  ⟨fun B => PE.imp (pe_orT (ha.pe B) (hb.pe B)) fun σ H Q ⟨s, d, s', k, e, q⟩ => by
    refine tI.bind k e fun dx s1 x H1 h1 e1 k1 ev1 r1 => ?_
    obtain ⟨t, s2, e2, e3⟩ := bnd_some e1
    obtain ⟨e4, rfl⟩ := lift_some e2
    refine ⟨t, r1.tru e4, ?_⟩
    cases t with
    | false => exact ⟨s2, d, s', k1, e3, fun v H2 k2 ev2 r2 => q v H2 k2 (ev1.trans ev2) r2⟩
    | true =>
      obtain ⟨rfl, rfl⟩ := ret_some e3
      exact q x H1 k1 ev1 r1⟩
theorem s_not (ha : SE X a ma) : SE X (.UnaryOp .Not a pos) (eNot ma) :=
  ⟨fun B => PE.imp (pe_notT (ha.pe B)) fun σ H Q ⟨s, d, s', k, e, q⟩ => by
    refine tI.bind k e fun dx s1 x H1 h1 e1 k1 ev1 r1 => ?_
    obtain ⟨t, s2, e2, e3⟩ := bnd_some e1
    obtain ⟨e4, rfl⟩ := lift_some e2
    obtain ⟨rfl, rfl⟩ := ret_some e3
    exact ⟨t, r1.tru e4, q _ H1 k1 ev1 (.mkBl _)⟩⟩
def eIf (t : M Bool) (ma mb : M D) : M D := bnd t fun b => if b = true then ma else mb
theorem s_if {t : M Bool} (hc : ST X c t) (ha : SE X a ma) (hb : SE X b mb) : SE X (.IfExp c a b pos) (eIf t ma mb) :=
  ⟨fun B => PE.imp (pe_ifExp (hc.pt B) (ha.pe B) (hb.pe B)) fun σ H Q ⟨s, d, s', k, e, q⟩ => by
    refine tT.bind k e fun t s1 H1 h1 e1 k1 ev1 => ?_
    cases t with
    | true => exact ⟨s1, d, s', k1, e1, fun v H2 k2 ev2 r2 => q v H2 k2 (ev1.trans ev2) r2⟩
    | false => exact ⟨s1, d, s', k1, e1, fun v H2 k2 ev2 r2 => q v H2 k2 (ev1.trans ev2) r2⟩⟩
def negD : D → Option D
  | .int i => some (.int (-i))
  | _ => none
def eUn (f : D → Option D) (ma : M D) : M D := bnd ma fun x => lift (f x)
theorem s_neg (ha : SE X a ma) : SE X (.UnaryOp .USub a pos) (eUn negD ma) :=
  ⟨fun B => PE.imp (pe_un un_neg (ha.pe B)) fun σ H Q ⟨s, d, s', k, e, q⟩ => by
    refine tI.bind k e fun dx s1 x H1 h1 e1 k1 ev1 r1 => ?_
    obtain ⟨e3, rfl⟩ := lift_some e1
    cases dx <;> simp only [negD] at e3 <;> cases e3
    exact ⟨_, rp_int r1, q _ H1 k1 ev1 (.mkInt _)⟩⟩

def aNil : M (List D) := ret []
def aCons (m : M D) (ms : M (List D)) : M (List D) := bnd m fun d => bnd ms fun ds => ret (d :: ds)
def seqD : D → Option (List D)
  | .tup ds => some ds
  | .lst ds => some ds
  | _ => none
def aStar (m : M D) (ms : M (List D)) : M (List D) := bnd m fun d => bnd (lift (seqD d)) fun xs => bnd ms fun ds => ret (xs ++ ds)
theorem a_nil : SA X [] aNil := ⟨fun B => PA.imp pa_nil fun σ H Q ⟨s, d, s', k, e, q⟩ => by
  obtain ⟨rfl, rfl⟩ := ret_some e
  exact q [] H k Ev.refl .nil⟩
theorem a_cons (ha : SE X e m) (hr : SA X es ms) (hs : starEach (e :: es) X.env = (false, eval e X.env) :: starEach es X.env := by rfl) : SA X (e :: es) (aCons m ms) :=
  ⟨fun B => PA.imp (pa_cons (ha.pe B) (hr.pa B) hs) fun σ H Q ⟨s, d, s', k, e, q⟩ => by
    refine tI.bind k e fun dx s1 x H1 h1 e1 k1 ev1 r1 => ?_
    refine tA.bind k1 e1 fun ds s2 vs H2 h2 e2 k2 ev2 r2 => ?_
    obtain ⟨rfl, rfl⟩ := ret_some e2
    exact q _ H2 k2 (ev1.trans ev2) (.cons (r1.ev ev2) r2)⟩
theorem a_star {sp : Pos} (ha : SE X e m) (hr : SA X es ms) (hs : starEach (.Starred e sp :: es) X.env = (true, eval e X.env) :: starEach es X.env := by rfl) : SA X (.Starred e sp :: es) (aStar m ms) :=
  ⟨fun B => PA.imp (StX.pa_star (ha.pe B) (hr.pa B) hs) fun σ H Q ⟨s, d, s', k, e, q⟩ => by
    refine tI.bind k e fun dx s1 x H1 h1 e1 k1 ev1 r1 => ?_
    obtain ⟨xs, s2, e2, e3⟩ := bnd_some e1
    obtain ⟨e2, rfl⟩ := lift_some e2
    have go : ∀ a vs, x = .ref a → H1 a = some (.tup vs) ∨ H1 a = some (.lst vs) → Rps B.p (B.W s2.env σ) H1 xs vs → StX.tStar X.K (fun σ H Q => Q x H) (tA B ms) σ H1 Q := fun a vs ex ha r => by
      refine ⟨a, vs, ex, ha.elim (fun z => .inl (SqT.of z)) (fun z => .inr (SqL.of z)), ?_⟩
      refine tA.bind k1 e3 fun ds s3 us H3 h3 e4 k3 ev3 r3 => ?_
      obtain ⟨rfl, rfl⟩ := ret_some e4
      exact q _ H3 k3 (ev1.trans ev3) ((r.ev ev3).append r3)
    cases dx <;> simp only [seqD] at e2 <;> cases e2
    · obtain ⟨a, vs, rfl, _, ha, r⟩ := rp_tup r1
      exact go a vs rfl (.inl ha) r
    · obtain ⟨a, vs, rfl, _, ha, r⟩ := rp_lst r1
      exact go a vs rfl (.inr ha) r⟩

def eTup (ms : M (List D)) : M D := bnd ms fun ds => if ds.length ≤ sizeLine then ret (.tup ds) else fail
theorem s_tup {x1} (h : SA X es ms) : SE X (.Tuple es x1 pos) (eTup ms) :=
  ⟨fun B => PE.imp (pe_tup (h.pa B)) fun σ H Q ⟨s, d, s', k, e, q⟩ => by
    refine tA.bind k e fun ds s1 vs H1 h1 e1 k1 ev1 r1 => ?_
    split at e1
    · rename_i hl
      obtain ⟨rfl, rfl⟩ := ret_some e1
      exact ⟨by rw [← r1.length]; exact hl, fun p np => q _ _ (k1.same (same_new np)) (ev1.trans (Ev.same (same_new np))) (.newTup k1.wt np r1)⟩
    · cases e1⟩
/-- a new list's own address guarded too -/
theorem StOk.plus {B : Bs} {σ : Sg} {H : Hp} {s : S} {a : Addr} {o : HO} (k : StOk B σ H s) (n : H a = none) : StOk (B.plus a) σ (upd H a o) s ∧ Ev (B.W s.env σ) H ((B.plus a).W s.env σ) (upd H a o) := by
  have sm : Same H (upd H a o) := same_new n
  have ne : ∀ b x, H b = some x → b ≠ a := fun b x h => ne_of_none h n
  have ev : Ev (B.W s.env σ) H ((B.plus a).W s.env σ) (upd H a o) := fun b x h hn => ⟨sm b x h, by
    rintro ((z | z) | z)
    · exact hn (.inl z)
    · exact ne b x h z
    · exact hn (.inr z)⟩
  refine ⟨⟨k.len, fun i d h => ?_, fun i sl h ho => ?_, k.sep, k.src.same sm, fun b x h h1 h2 => sm b x (k.keep b x h h1 h2), fun b h => ?_, .inl k.wp, .inl k.wcc⟩, ev⟩
  · obtain ⟨v, h1, h2⟩ := k.val i d h
    exact ⟨v, h1, h2.ev ev⟩
  · obtain ⟨b, x, h1, h2, h3, h4, h5⟩ := k.own i sl h ho
    refine ⟨b, x, h1, sm _ _ h2, h3.ev ev, h4, ?_⟩
    rintro (z | z)
    · exact h5 z
    · exact ne b x h2 z
  · rcases h with z | z
    · obtain ⟨x, h1⟩ := k.wc b z
      exact ⟨x, sm _ _ h1⟩
    · subst z
      exact ⟨o, upd_same⟩
theorem l_disp (h : SA X es ms) : SL X (.List es pos) (bnd ms fun ds => if ds.length ≤ sizeLine then ret ds else fail) :=
  ⟨fun B => PE.imp (pe_lst (h.pa B)) fun σ H Q ⟨s, d, s', k, e, q⟩ => by
    refine tA.bind k e fun ds s1 vs H1 h1 e1 k1 ev1 r1 => ?_
    split at e1
    · rename_i hl
      obtain ⟨rfl, rfl⟩ := ret_some e1
      refine ⟨by rw [← r1.length]; exact hl, fun p np => ?_⟩
      obtain ⟨kp, ev⟩ := k1.plus (o := .lst vs) np
      exact q p vs _ kp (ev1.trans ev) (k1.new np) (k1.wt.new np) upd_same (r1.ev ev)
    · cases e1⟩
end
end GH

namespace GH
open PySem PySem.Spec PyProof.Rows L2

theorem StOk.set {B : Bs} {σ : Sg} {H : Hp} {s : S} {i : Nat} {d : D} {v : V} (k : StOk B σ H s) (hi : i < s.env.length) (r : Rp B.p (B.W s.env σ) H d v) :
    StOk B (σ.set i (some v)) H { s with env := s.env.set i (some (.val d)) } ∧ Ev (B.W s.env σ) H (B.W (s.env.set i (some (.val d))) (σ.set i (some v))) H := by
  have hiσ : i < σ.length := by rw [← k.len]; exact hi
  have sub : ∀ b, B.W (s.env.set i (some (.val d))) (σ.set i (some v)) b → B.W s.env σ b := fun b hb => by
    rcases hb with hb | ⟨j, sl', e1, e2, e3⟩
    · exact .inl hb
    · by_cases hj : i = j
      · subst hj
        rw [List.getElem?_set_self hi] at e1
        cases e1; cases e2
      · rw [List.getElem?_set_ne hj] at e1 e3
        exact .inr ⟨j, sl', e1, e2, e3⟩
  have ev : Ev (B.W s.env σ) H (B.W (s.env.set i (some (.val d))) (σ.set i (some v))) H := Ev.less sub
  refine ⟨⟨by simpa using k.len, fun j d' h => ?_, fun j sl' h h' => ?_, fun j1 j2 sl1 sl2 b h1 o1 h2 o2 q1 q2 => ?_, k.src, k.keep, k.wc, k.wp, k.wcc⟩, ev⟩
  · by_cases hj : i = j
    · subst hj
      have h : (s.env.set i (some (.val d)))[i]? = _ := h
      rw [List.getElem?_set_self hi] at h
      cases h
      exact ⟨v, List.getElem?_set_self hiσ, r.ev ev⟩
    · have h : (s.env.set i (some (.val d)))[j]? = _ := h
      rw [List.getElem?_set_ne hj] at h ⊢
      obtain ⟨v, h1, h2⟩ := k.val j d' h
      exact ⟨v, h1, h2.ev ev⟩
  · have h : (s.env.set i (some (.val d)))[j]? = _ := h
    by_cases hj : i = j
    · subst hj
      rw [List.getElem?_set_self hi] at h
      cases h; cases h'
    · rw [List.getElem?_set_ne hj] at h ⊢
      obtain ⟨b, o, h1, h2, h3, h4⟩ := k.own j sl' h h'
      exact ⟨b, o, h1, h2, h3.ev ev, h4⟩
  · have h1 : (s.env.set i (some (.val d)))[j1]? = _ := h1
    have h2 : (s.env.set i (some (.val d)))[j2]? = _ := h2
    by_cases e1 : i = j1
    · subst e1
      rw [List.getElem?_set_self hi] at h1
      cases h1; cases o1
    · by_cases e2 : i = j2
      · subst e2
        rw [List.getElem?_set_self hi] at h2
        cases h2; cases o2
      · rw [List.getElem?_set_ne e1] at h1 q1
        rw [List.getElem?_set_ne e2] at h2 q2
        exact k.sep j1 j2 sl1 sl2 b h1 o1 h2 o2 q1 q2

def tG (B : Bs) (is : List Nat) (g : D → M Unit) : TG := fun v σ H Q => ∃ s d s', StOk B σ H s ∧ Rp B.p (B.W s.env σ) H d v ∧ g d s = some ((), s') ∧
  ∀ σ', StOk B σ' H s' → Ev (B.W s.env σ) H (B.W s'.env σ') H → (∀ vs : List Nat, (∀ i ∈ is, i ∈ vs) → wipe σ' vs = wipe σ vs) → Q σ' H
def tGs (B : Bs) (is : List Nat) (g : List D → M Unit) : TGs := fun vs σ H Q => ∃ s ds s', StOk B σ H s ∧ Rps B.p (B.W s.env σ) H ds vs ∧ g ds s = some ((), s') ∧
  ∀ σ', StOk B σ' H s' → Ev (B.W s.env σ) H (B.W s'.env σ') H → (∀ vs : List Nat, (∀ i ∈ is, i ∈ vs) → wipe σ' vs = wipe σ vs) → Q σ' H
structure SG (X : Cx) (tg : Expr) (is : List Nat) (g : D → M Unit) : Prop where
  pg : ∀ B, PG X tg (tG B is g)
structure SGs (X : Cx) (tg : List Expr) (is : List Nat) (g : List D → M Unit) : Prop where
  pg : ∀ B, PGs X tg (tGs B is g)
theorem PG.imp {X : Cx} {e : Expr} {t t' : TG} (h : PG X e t) (f : ∀ v σ H Q, t' v σ H Q → t v σ H Q) : PG X e t' := ⟨fun pins s σ H v u Q I r q => h.run pins s σ H v u Q I r (f _ _ _ _ q)⟩
theorem PGs.imp {X : Cx} {e : List Expr} {t t' : TGs} (h : PGs X e t) (f : ∀ v σ H Q, t' v σ H Q → t v σ H Q) : PGs X e t' := ⟨fun pins s σ H v u Q I r q => h.run pins s σ H v u Q I r (f _ _ _ _ q)⟩
theorem wipe_set_mem {σ : Sg} {i : Nat} {v : Option V} : ∀ {vs : List Nat}, i ∈ vs → wipe (σ.set i v) vs = wipe σ vs
  | [], h => by simp at h
  | j :: vs, h => by
    unfold wipe
    by_cases e : i ∈ vs
    · rw [wipe_set_mem e]
    · have hj : i = j := by
        rcases List.mem_cons.mp h with h | h
        · exact h
        · exact absurd h e
      subst hj
      have : ∀ (vs : List Nat), i ∉ vs → (wipe (σ.set i v) vs).set i none = (wipe σ vs).set i none := fun vs => by
        induction vs with
        | nil => intro _; unfold wipe; rw [List.set_set]
        | cons w ws ih =>
          intro hn
          have h1 : i ≠ w := fun q => hn (q ▸ List.mem_cons_self)
          have h2 : i ∉ ws := fun q => hn (List.mem_cons_of_mem _ q)
          unfold wipe
          rw [List.set_comm _ _ (Ne.symm h1), ih h2, List.set_comm _ _ h1]
      exact this vs e
def gN (i : Nat) : D → M Unit := fun d s => if i < s.env.length then some ((), { s with env := s.env.set i (some (.val d)) }) else none
def gNil : List D → M Unit
  | [] => ret ()
  | _ => fail
def gCons (g : D → M Unit) (gs : List D → M Unit) : List D → M Unit
  | d :: r => bnd (g d) fun _ => gs r
  | [] => fail
def gT (gs : List D → M Unit) : D → M Unit
  | .tup ds => gs ds
  | _ => fail
section
variable {X : Cx} {e : Expr} {es : List Expr} {pos : Pos}
theorem g_name {i : Nat} {x : Str} (hN : X.N.Nodup) (hi : X.N[i]? = some x) (hx : Loc X.env.scope x) (hf : X.fn x = true ∨ X.env.scope.names.lookup x = some .local := by first | exact .inl rfl | exact .inr rfl | assumption) : SG X (.Name x pos) [i] (gN i) :=
  ⟨fun B => PG.imp (pg_name hN hi hx hf) fun v σ H Q ⟨s, d, s', k, r, e, q⟩ => by
    unfold gN at e
    split at e
    · rename_i hl
      cases e
      obtain ⟨k', ev⟩ := k.set hl r
      exact q _ k' ev fun vs h => wipe_set_mem (h i (by simp))
    · cases e⟩
theorem gs_nil : SGs X [] [] gNil := ⟨fun B => PGs.imp pgs_nil fun v σ H Q ⟨s, ds, s', k, r, e, q⟩ => by
  cases ds with
  | nil =>
    simp only [Rps] at r
    simp only [gNil, ret] at e
    cases e
    exact ⟨r, q σ k Ev.refl fun _ _ => rfl⟩
  | cons d ds => simp [gNil, fail] at e⟩
theorem gs_cons {is js : List Nat} {g : D → M Unit} {gs : List D → M Unit} (h1 : SG X e is g) (h2 : SGs X es js gs) (hs : (assignEach (e :: es) X.env).map (·.2) = assign e X.env :: (assignEach es X.env).map (·.2) := by rfl) : SGs X (e :: es) (is ++ js) (gCons g gs) :=
  ⟨fun B => PGs.imp (pgs_cons (h1.pg B) (h2.pg B) hs) fun vs σ H Q ⟨s, ds, s', k, r, e, q⟩ => by
    cases ds with
    | nil => simp [gCons, fail] at e
    | cons d ds =>
      simp only [Rps] at r
      obtain ⟨v, rest, rfl, r1, r2⟩ := r
      obtain ⟨_, s1, e1, e2⟩ := bnd_some e
      refine ⟨v, rest, rfl, s, d, s1, k, r1, e1, fun σ1 k1 ev1 w1 => ⟨s1, ds, s', k1, r2.ev ev1, e2, fun σ2 k2 ev2 w2 => q σ2 k2 (ev1.trans ev2) fun vs h => ?_⟩⟩
      rw [w2 vs fun i hi => h i (List.mem_append_right _ hi), w1 vs fun i hi => h i (List.mem_append_left _ hi)]⟩
theorem g_tup {is : List Nat} {k n : Nat} {gs : List D → M Unit} (hc : X.calm = true) (h : SGs X es is gs) (hn : (assignEach es X.env).length = n := by rfl) (hst : (assignEach es X.env).findIdx? (·.1) = none := by rfl)
    (hl : ∀ ds s, ds.length ≠ n → gs ds s = none) : SG X (.Tuple es k pos) is (gT gs) :=
  ⟨fun B => PG.imp (pg_tup (k := k) (pos := pos) hc (h.pg B) hn hst) fun v σ H Q ⟨s, d, s', k, r, e, q⟩ => by
    cases d <;> simp only [gT] at e <;> try (simp [fail] at e; done)
    rename_i ds
    obtain ⟨a, vs, rfl, _, ha, rs⟩ := rp_tup r
    have hlen : ds.length = n := by
      by_cases z : ds.length = n
      · exact z
      · rw [hl ds s z] at e; cases e
    exact ⟨a, vs, rfl, SqT.of ha, by rw [← rs.length]; exact hlen, s, ds, s', k, rs, e, q⟩⟩
end
theorem gNil_len : ∀ ds s, ds.length ≠ 0 → gNil ds s = none
  | [], _, h => absurd rfl h
  | _ :: _, _, _ => rfl
theorem gCons_len {g : D → M Unit} {gs : List D → M Unit} {n : Nat} (h : ∀ ds s, ds.length ≠ n → gs ds s = none) : ∀ ds s, ds.length ≠ n + 1 → gCons g gs ds s = none
  | [], _, _ => rfl
  | d :: ds, s, hn => by
    show bnd (g d) (fun _ => gs ds) s = none
    unfold bnd
    split
    · exact h ds _ (by simpa using hn)
    · rfl

/-- J walks ds, whatever happens to what may change -/
def WalkD (p : Addr) (W : AP) (H : Hp) (J : It) (ds : List D) : Prop := ∀ W2 H2, Ev W H W2 H2 → WT W2 H2 →
  (∀ i, i < ds.length → J.go i H2) ∧ J.stop ds.length H2 ∧ ∀ i d x H3, ds[i]? = some d → J.yld i H2 x H3 → Same H2 H3 ∧ Rp p W2 H3 d x
def tIt (B : Bs) (m : M (List D)) : TI := fun σ H R => ∃ s ds s', StOk B σ H s ∧ m s = some (ds, s') ∧
  ∀ J H', StOk B σ H' s' → Ev (B.W s.env σ) H (B.W s'.env σ) H' → WalkD B.p (B.W s'.env σ) H' J ds → R J H'
structure SI (X : Cx) (tg iter : Expr) (m : M (List D)) : Prop where
  pi : ∀ B, PI X tg iter (tIt B m)
theorem PI.imp {X : Cx} {tg e : Expr} {t t' : TI} (h : PI X tg e t) (f : ∀ σ H Q, t' σ H Q → t σ H Q) : PI X tg e t' := ⟨fun pins s σ H R I q => h.run pins s σ H R I (f _ _ _ q)⟩
theorem rp_get {p : Addr} {W : AP} {H : Hp} {ds : List D} {vs : List V} {i : Nat} {d : D} {x : V} (r : Rps p W H ds vs) (h : ds[i]? = some d) (hx : vs[i]? = some x) : Rp p W H d x := by
  obtain ⟨v, h1, h2⟩ := r.get h
  rw [hx] at h1; cases h1; exact h2
theorem walk_of {p : Addr} {W : AP} {H : Hp} {J : It} {vs : List V} {ds : List D} {G : Hp → Prop} (w : Walk J vs.length G (YAt vs)) (r : Rps p W H ds vs) (g : ∀ W2 H2, Ev W H W2 H2 → G H2) : WalkD p W H J ds := fun W2 H2 ev wt => by
  have hl := r.length
  refine ⟨fun i hi => w.goes i H2 (by omega) (g W2 H2 ev), by rw [hl]; exact w.stops H2 (g W2 H2 ev), fun i d x H3 hd y => ?_⟩
  obtain ⟨e, hx⟩ := w.yields i H2 x H3 (by have := (List.getElem?_eq_some_iff.mp hd).1; omega) (g W2 H2 ev) y
  subst e
  exact ⟨Same.refl _, rp_get (r.ev ev) hd hx⟩
/-- over a list or a tuple -/
def iSeq (m : M D) : M (List D) := bnd m fun d => lift (seqD d)
def lstD : D → Option (List D)
  | .lst ds => some ds
  | _ => none
def tupD : D → Option (List D)
  | .tup ds => some ds
  | _ => none
def iLst (m : M D) : M (List D) := bnd m fun d => lift (lstD d)
def iTup (m : M D) : M (List D) := bnd m fun d => lift (tupD d)
section
variable {X : Cx} {tg e a b : Expr} {m ma mb : M D}
theorem i_lst (h : SE X e m) : SI X tg e (iLst m) := ⟨fun B => PI.imp (pi_list (h.pe B)) fun σ H R ⟨s, ds, s', k, e, q⟩ => by
  refine tI.bind k e fun d s1 v H1 h1 e1 k1 ev1 r1 => ?_
  obtain ⟨e3, rfl⟩ := lift_some e1
  cases d <;> simp only [lstD] at e3 <;> cases e3
  obtain ⟨a, vs, rfl, na, ha, rs⟩ := rp_lst r1
  exact ⟨a, rfl, ⟨vs, SqL.of ha⟩, q _ H1 k1 ev1 (walk_of walk_list rs fun W2 H2 ev => SqL.of (ev a _ ha na).1)⟩⟩
theorem i_tup (h : SE X e m) : SI X tg e (iTup m) := ⟨fun B => PI.imp (pi_tup (h.pe B)) fun σ H R ⟨s, ds, s', k, e, q⟩ => by
  refine tI.bind k e fun d s1 v H1 h1 e1 k1 ev1 r1 => ?_
  obtain ⟨e3, rfl⟩ := lift_some e1
  cases d <;> simp only [tupD] at e3 <;> cases e3
  obtain ⟨a, vs, rfl, na, ha, rs⟩ := rp_tup r1
  exact ⟨a, rfl, ⟨vs, SqT.of ha⟩, q _ H1 k1 ev1 (walk_of walk_tup rs fun W2 H2 ev => SqT.of (ev a _ ha na).1)⟩⟩
/-- .. of either kind -/
def tOr (t u : TI) : TI := fun σ H R => t σ H R ∨ u σ H R
theorem pi_or {t u : TI} (h : PI X tg e t) (h' : PI X tg e u) : PI X tg e (tOr t u) := ⟨fun pins s σ H R I q => q.elim (h.run pins s σ H R I) (h'.run pins s σ H R I)⟩
theorem i_seq (h : SE X e m) : SI X tg e (iSeq m) := ⟨fun B => PI.imp (pi_or ((i_lst h).pi B) ((i_tup h).pi B)) fun σ H R ⟨s, ds, s', k, e, q⟩ => by
  obtain ⟨d, s1, h1, h2⟩ := bnd_some e
  obtain ⟨e3, rfl⟩ := lift_some h2
  cases d <;> simp only [seqD] at e3 <;> cases e3
  · exact .inr ⟨s, ds, s', k, by unfold iTup bnd; rw [h1]; rfl, q⟩
  · exact .inl ⟨s, ds, s', k, by unfold iLst bnd; rw [h1]; rfl, q⟩⟩
/-- range -/
def rngL (lo hi : Int) : List D := (List.range (hi - lo).toNat).map fun i => .int (lo + (i : Nat))
def okR (i : Int) : Prop := -(2 ^ 62) ≤ i ∧ i < 2 ^ 62
instance (i : Int) : Decidable (okR i) := by unfold okR; infer_instance
def iRg1 (m : M D) : M (List D) := bnd m fun d => match d with
  | .int j => if okR j then ret (rngL 0 j) else fail
  | _ => fail
def iRg2 (ma mb : M D) : M (List D) := bnd ma fun d => bnd mb fun e => match d, e with
  | .int i, .int j => if okR i ∧ okR j then ret (rngL i j) else fail
  | _, _ => fail
theorem walk_rng {p : Addr} {W : AP} {H : Hp} {lo hi : Int} : WalkD p W H (Itr lo (hi - lo).toNat) (rngL lo hi) := fun W2 H2 ev wt => by
  have hl : (rngL lo hi).length = (hi - lo).toNat := by simp [rngL]
  refine ⟨fun i h => walk_range.goes i H2 (by omega) trivial, by rw [hl]; exact walk_range.stops H2 trivial, fun i d x H3 hd y => ?_⟩
  obtain ⟨e, hx⟩ := walk_range.yields i H2 x H3 (by have := (List.getElem?_eq_some_iff.mp hd).1; omega) trivial y
  subst e
  subst hx
  refine ⟨Same.refl _, ?_⟩
  unfold rngL at hd
  rw [List.getElem?_map] at hd
  have hi' : i < (hi - lo).toNat := by
    have := (List.getElem?_eq_some_iff.mp (show ((List.range (hi - lo).toNat).map fun i => D.int (lo + (i : Nat)))[i]? = some d by rw [List.getElem?_map]; exact hd)).1
    simpa using this
  rw [List.getElem?_range hi'] at hd
  cases hd
  exact .mkInt _
theorem i_rg1 {p pos : Pos} (hg : Gl X "range") (hm : X.mg "range" = none) (ha : SE X a ma) (hn : starEach [a] X.env = (false, eval a X.env) :: starEach [] X.env := by rfl) (hs : starEach [a] X.env = [(false, eval a X.env)] := by rfl) : SI X tg (.Call (.Name "range" p) [a] [] pos) (iRg1 ma) :=
  ⟨fun B => PI.imp (pi_range1 hg hm (pa_cons (ha.pe B) pa_nil hn) hs) fun σ H R ⟨s, ds, s', k, e, q⟩ => by
    refine tI.bind k e fun d s1 v H1 h1 e1 k1 ev1 r1 => ?_
    cases d <;> simp only [fail] at e1 <;> try (cases e1; done)
    split at e1
    · rename_i j hj
      obtain ⟨rfl, rfl⟩ := ret_some e1
      refine ⟨j, by rw [rp_int r1], hj.1, hj.2, q _ H1 k1 ev1 ?_⟩
      have := walk_rng (p := B.p) (W := B.W s'.env σ) (H := H1) (lo := 0) (hi := j)
      simpa using this
    · cases e1⟩
theorem i_rg2 {p pos : Pos} (hg : Gl X "range") (hm : X.mg "range" = none) (ha : SE X a ma) (hb : SE X b mb) (hn : starEach [a, b] X.env = (false, eval a X.env) :: starEach [b] X.env := by rfl) (hn2 : starEach [b] X.env = (false, eval b X.env) :: starEach [] X.env := by rfl)
    (hs : starEach [a, b] X.env = [(false, eval a X.env), (false, eval b X.env)] := by rfl) (hs2 : starEach [b] X.env = [(false, eval b X.env)] := by rfl) : SI X tg (.Call (.Name "range" p) [a, b] [] pos) (iRg2 ma mb) :=
  ⟨fun B => PI.imp (pi_range2 hg hm (pa_cons (ha.pe B) (pa_cons (hb.pe B) pa_nil hn2) hn) hs hs2) fun σ H R ⟨s, ds, s', k, e, q⟩ => by
    refine tI.bind k e fun d s1 v H1 h1 e1 k1 ev1 r1 => ?_
    refine tI.bind k1 e1 fun d2 s2 v2 H2 h2 e2 k2 ev2 r2 => ?_
    cases d <;> cases d2 <;> (try simp only [fail] at e2) <;> try (cases e2; done)
    split at e2
    · rename_i i j hj
      obtain ⟨rfl, rfl⟩ := ret_some e2
      exact ⟨i, j, by rw [rp_int r1, rp_int r2], ⟨hj.1.1, hj.1.2, hj.2.1, hj.2.2⟩, q _ H2 k2 (ev1.trans ev2) walk_rng⟩
    · cases e2⟩
end

def wipeE (env : List (Option Sl)) : List Nat → List (Option Sl)
  | [] => env
  | v :: vs => (wipeE env vs).set v none
theorem wipeE_len (env : List (Option Sl)) : ∀ vs, (wipeE env vs).length = env.length
  | [] => rfl
  | v :: vs => by unfold wipeE; rw [List.length_set, wipeE_len env vs]
theorem wipeE_get {env : List (Option Sl)} {i : Nat} : ∀ {vs : List Nat}, i ∉ vs → (wipeE env vs)[i]? = env[i]?
  | [], _ => rfl
  | v :: vs, h => by
    unfold wipeE
    rw [List.getElem?_set_ne (by rintro rfl; exact h List.mem_cons_self), wipeE_get fun z => h (List.mem_cons_of_mem _ z)]
theorem wipe_get {σ : Sg} {i : Nat} : ∀ {vs : List Nat}, i ∉ vs → (wipe σ vs)[i]? = σ[i]?
  | [], _ => rfl
  | v :: vs, h => by
    unfold wipe
    rw [List.getElem?_set_ne (by rintro rfl; exact h List.mem_cons_self), wipe_get fun z => h (List.mem_cons_of_mem _ z)]
theorem wipeE_some {env : List (Option Sl)} {i : Nat} {x : Sl} : ∀ {vs : List Nat}, (wipeE env vs)[i]? = some (some x) → env[i]? = some (some x) ∧ i ∉ vs
  | [], h => ⟨h, by simp⟩
  | v :: vs, h => by
    unfold wipeE at h
    by_cases hi : v = i
    · subst hi
      by_cases hv : v < (wipeE env vs).length
      · rw [List.getElem?_set_self hv] at h; cases h
      · rw [List.getElem?_eq_none (by simpa using hv)] at h; cases h
    · rw [List.getElem?_set_ne hi] at h
      obtain ⟨h1, h2⟩ := wipeE_some h
      exact ⟨h1, by simp only [List.mem_cons, not_or]; exact ⟨fun e => hi e.symm, h2⟩⟩
theorem wipe_wipe (σ : Sg) (vs : List Nat) : wipe (wipe σ vs) vs = wipe σ vs := by
  have h : ∀ (us : List Nat), (∀ u ∈ us, u ∈ vs) → wipe (wipe σ vs) us = wipe σ vs := fun us => by
    induction us with
    | nil => intro _; rfl
    | cons u us ih =>
      intro hu
      show (wipe (wipe σ vs) us).set u none = wipe σ vs
      rw [ih fun w hw => hu w (List.mem_cons_of_mem _ hw)]
      have hm := hu u List.mem_cons_self
      have set0 : ∀ (ws : List Nat), u ∈ ws → (wipe σ ws).set u none = wipe σ ws := fun ws => by
        induction ws with
        | nil => intro z; simp at z
        | cons w ws ih2 =>
          intro z
          unfold wipe
          by_cases e : w = u
          · subst e; rw [List.set_set]
          · have : u ∈ ws := by
              rcases List.mem_cons.mp z with z | z
              · exact absurd z.symm e
              · exact z
            rw [List.set_comm _ _ e, ih2 this]
      exact set0 vs hm
  exact h vs fun _ z => z
theorem W_wipe {B : Bs} {env : List (Option Sl)} {σ : Sg} {vs : List Nat} : ∀ b, B.W (wipeE env vs) (wipe σ vs) b → B.W env σ b := fun b hb => by
  rcases hb with hb | ⟨j, sl', e1, e2, e3⟩
  · exact .inl hb
  · exact .inr ⟨j, sl', (wipeE_some e1).1, e2, (wipe_some e3).1⟩
theorem StOk.wipe {B : Bs} {σ : Sg} {H : Hp} {s : S} (k : StOk B σ H s) (vs : List Nat) : StOk B (wipe σ vs) H { s with env := wipeE s.env vs } where
  len := by rw [wipe_length]; exact (wipeE_len _ _).trans k.len
  val := fun i d h => by
    obtain ⟨h1, h2⟩ := wipeE_some h
    obtain ⟨v, h3, h4⟩ := k.val i d h1
    exact ⟨v, by rw [wipe_get h2]; exact h3, h4.ev (Ev.less W_wipe)⟩
  own := fun i sl h ho => by
    obtain ⟨h1, h2⟩ := wipeE_some h
    obtain ⟨a, o, h3, h4, h5, h6⟩ := k.own i sl h1 ho
    exact ⟨a, o, by rw [wipe_get h2]; exact h3, h4, h5.ev (Ev.less W_wipe), h6⟩
  sep := fun i j sl sl' a h1 o1 h2 o2 q1 q2 => k.sep i j sl sl' a (wipeE_some h1).1 o1 (wipeE_some h2).1 o2 (wipe_some q1).1 (wipe_some q2).1
  src := k.src
  keep := k.keep
  wc := k.wc
  wp := k.wp
  wcc := k.wcc
def Bs.plusO (B : Bs) (a : Addr) (o : HO) : Bs := { B with Wc := fun b => B.Wc b ∨ b = a, H0 := upd B.H0 a o }
/-- the guarded new object is written -/
theorem StOk.grow {B : Bs} {σ : Sg} {H : Hp} {s : S} {a : Addr} {o o' : HO} (k : StOk (B.plusO a o) σ H s) (h1 : a ≠ B.p) (h2 : a ≠ B.c) : StOk (B.plusO a o') σ (upd H a o') s ∧ Ev ((B.plus a).W s.env σ) H ((B.plus a).W s.env σ) (upd H a o') := by
  have ev : Ev ((B.plus a).W s.env σ) H ((B.plus a).W s.env σ) (upd H a o') := fun b x e n => by
    have : b ≠ a := fun z => n (.inl (.inr z))
    exact ⟨by rw [upd_ne this]; exact e, n⟩
  refine ⟨⟨k.len, fun i d h => ?_, fun i sl h ho => ?_, k.sep, ⟨?_, ?_⟩, fun b x e n1 n2 => ?_, fun b h => ?_, k.wp, k.wcc⟩, ev⟩
  · obtain ⟨v, q1, q2⟩ := k.val i d h
    exact ⟨v, q1, Rp.ev ev _ _ q2⟩
  · obtain ⟨b, x, q1, q2, q3, q4, q5⟩ := k.own i sl h ho
    have hb : b ≠ a := fun z => q5 (.inr z)
    refine ⟨b, x, q1, by rw [upd_ne hb]; exact q2, OwnR.ev ev _ _ q3, ?_, q5⟩
    have q4 : upd B.H0 a o b = none := q4
    show upd B.H0 a o' b = none
    rw [upd_ne hb] at q4 ⊢; exact q4
  · show upd H a o' B.p = _
    rw [upd_ne (Ne.symm h1)]; exact k.src.d
  · show upd H a o' B.c = _
    rw [upd_ne (Ne.symm h2)]; exact k.src.l
  · have e : upd B.H0 a o' b = some x := e
    by_cases z : b = a
    · subst z; rw [upd_same] at e ⊢; exact e
    · rw [upd_ne z] at e ⊢
      exact k.keep b x (by show upd B.H0 a o b = _; rw [upd_ne z]; exact e) n1 n2
  · by_cases z : b = a
    · subst z; exact ⟨o', upd_same⟩
    · rw [upd_ne z]; exact k.wc b h
theorem StOk.begin {B : Bs} {σ : Sg} {H : Hp} {s : S} {a : Addr} {o : HO} (k : StOk B σ H s) (n : H a = none) : StOk (B.plusO a o) σ (upd H a o) s ∧ Ev (B.W s.env σ) H ((B.plus a).W s.env σ) (upd H a o) := by
  obtain ⟨k', ev⟩ := k.plus (o := o) n
  refine ⟨⟨k'.len, k'.val, fun i sl h ho => ?_, k'.sep, k'.src, fun b x e n1 n2 => ?_, k'.wc, k'.wp, k'.wcc⟩, ev⟩
  · obtain ⟨b, x, q1, q2, q3, q4, q5⟩ := k'.own i sl h ho
    exact ⟨b, x, q1, q2, q3, by show upd B.H0 a o b = none; rw [upd_ne (fun z => q5 (.inr z))]; exact q4, q5⟩
  · have e : upd B.H0 a o b = some x := e
    by_cases z : b = a
    · subst z; rw [upd_same] at e ⊢; exact e
    · rw [upd_ne z] at e
      exact k'.keep b x e n1 n2
theorem StOk.finish {B : Bs} {σ : Sg} {H : Hp} {s : S} {a : Addr} {o : HO} (k : StOk (B.plusO a o) σ H s) (n : B.H0 a = none) : StOk (B.plus a) σ H s where
  len := k.len
  val := k.val
  own := fun i sl h ho => by
    obtain ⟨b, x, q1, q2, q3, q4, q5⟩ := k.own i sl h ho
    have q4 : upd B.H0 a o b = none := q4
    rw [upd_ne (fun z => q5 (.inr z))] at q4
    exact ⟨b, x, q1, q2, q3, q4, q5⟩
  sep := k.sep
  src := k.src
  keep := fun b x e n1 n2 => k.keep b x (by show upd B.H0 a o b = _; rw [upd_ne (ne_of_none e n)]; exact e) n1 n2
  wc := k.wc
  wp := k.wp
  wcc := k.wcc

/-- a turn: the target bound, the tests, the element -/
def cStep (vs : List Nat) (g : D → M Unit) (c : M Bool) (el : M D) (d : D) : M (Option D) := fun s =>
  (bnd (g d) fun _ => bnd c fun b => if b = true then bnd el fun y => ret (some y) else ret none) { s with env := wipeE s.env vs }
def compF (vs : List Nat) (g : D → M Unit) (c : M Bool) (el : M D) : List D → M (List D)
  | [] => ret []
  | d :: r => bnd (cStep vs g c el d) fun o => bnd (compF vs g c el r) fun ys => ret (o.toList ++ ys)
/-- the slots of the block's names as they were -/
def restE (env0 env : List (Option Sl)) : List Nat → List (Option Sl)
  | [] => env
  | v :: vs => (restE env0 env vs).set v (match env0[v]? with
    | some (some (.val d)) => some (.val d)
    | _ => none)
def eComp (vs : List Nat) (g : D → M Unit) (c : M Bool) (el : M D) (it : M (List D)) : M (List D) := bnd it fun ds s1 =>
  if ds.length ≤ sizeLine then (match compF vs g c el ds s1 with
    | some (ys, sn) => some (ys, { sn with env := restE s1.env sn.env vs })
    | none => none) else none
theorem restE_len (env0 env : List (Option Sl)) : ∀ vs, (restE env0 env vs).length = env.length
  | [] => rfl
  | v :: vs => by unfold restE; rw [List.length_set, restE_len env0 env vs]
theorem restE_get {env0 env : List (Option Sl)} {i : Nat} {x : Sl} : ∀ {vs : List Nat}, (restE env0 env vs)[i]? = some (some x) → (i ∉ vs ∧ env[i]? = some (some x)) ∨ (i ∈ vs ∧ env0[i]? = some (some x) ∧ ∃ d, x = .val d)
  | [], h => .inl ⟨by simp, h⟩
  | v :: vs, h => by
    unfold restE at h
    by_cases hi : v = i
    · subst hi
      by_cases hv : v < (restE env0 env vs).length
      · rw [List.getElem?_set_self hv] at h
        split at h
        · rename_i d hd
          cases h
          exact .inr ⟨List.mem_cons_self, hd, d, rfl⟩
        · cases h
      · rw [List.getElem?_eq_none (by simpa using hv)] at h; cases h
    · rw [List.getElem?_set_ne hi] at h
      rcases restE_get h with ⟨h1, h2⟩ | ⟨h1, h2⟩
      · exact .inl ⟨by simp only [List.mem_cons, not_or]; exact ⟨fun e => hi e.symm, h1⟩, h2⟩
      · exact .inr ⟨List.mem_cons_of_mem _ h1, h2⟩
def tIx (m : M D) : TE := fun σ H Q => ∃ B, tI B m σ H Q
def tTx (m : M Bool) : TT := fun σ H Q => ∃ B, tT B m σ H Q
def tGx (is : List Nat) (g : D → M Unit) : TG := fun v σ H Q => ∃ B, tG B is g v σ H Q
theorem SE.px {X : Cx} {e : Expr} {m : M D} (h : SE X e m) : PE X e (tIx m) := ⟨fun pins s σ H Q I ⟨B, q⟩ => (h.pe B).run pins s σ H Q I q⟩
theorem SG.px {X : Cx} {e : Expr} {is : List Nat} {g : D → M Unit} (h : SG X e is g) : PG X e (tGx is g) := ⟨fun pins s σ H v u Q I r ⟨B, q⟩ => (h.pg B).run pins s σ H v u Q I r q⟩
/-- the tests of a clause -/
structure SF (X : Cx) (ifs : List Expr) (m : M Bool) : Prop where
  pt : PTs X ifs (tTx m)
theorem f_nil {X : Cx} : SF X [] (ret true) := ⟨⟨fun pins s σ H Q I ⟨B, s0, b, s1, k, e, q⟩ => by
  obtain ⟨rfl, rfl⟩ := ret_some e
  exact pts_nil.run pins s σ H Q I (q H k Ev.refl)⟩⟩
theorem f_one {X : Cx} {c : Expr} {m : M Bool} (h : ST X c m) : SF X [c] m := ⟨⟨fun pins s σ H Q I ⟨B, q⟩ => (pts_one (h.pt B)).run pins s σ H Q I q⟩⟩

theorem lc_go {B : Bs} {vs is : List Nat} {g : D → M Unit} {c : M Bool} {el : M D} {it : M (List D)} {σ : Sg} {H : Hp} {Q : VK} (hin : ∀ i ∈ is, i ∈ vs) (h : tL B (eComp vs g c el it) σ H Q) :
    tLc (tIt B it) (tGx is g) (tTx c) (tIx el) vs σ H Q := by
  obtain ⟨s, out, sE, k, e, q⟩ := h
  obtain ⟨ds, s1, e1, e2⟩ := bnd_some e
  refine ⟨s, ds, s1, k, e1, fun J H1 k1 ev1 wk => ?_⟩
  split at e2
  case isFalse => cases e2
  rename_i hsz
  split at e2
  case h_2 => cases e2
  rename_i ys sn eF
  cases e2
  intro A nA
  have nA0 := k1.new nA
  have hAp : A ≠ B.p := fun z => by subst z; rw [k1.src.d] at nA; cases nA
  have hAc : A ≠ B.c := fun z => by subst z; rw [k1.src.l] at nA; cases nA
  obtain ⟨kb, evb⟩ := k1.begin (o := .lst []) nA
  have kw := kb.wipe vs
  have evw : Ev (B.W s1.env σ) H1 ((B.plus A).W (wipeE s1.env vs) (wipe σ vs)) (upd H1 A (.lst [])) := evb.trans (Ev.less (W_wipe (B := B.plus A)))
  refine ⟨fun i m Hh => m = ds.length - i ∧ i ≤ ds.length ∧ ∃ si acc zs rest, StOk (B.plusO A (.lst acc)) (wipe σ vs) Hh { si with env := wipeE si.env vs } ∧ Ev (B.W s1.env σ) H1 ((B.plus A).W (wipeE si.env vs) (wipe σ vs)) Hh ∧
    Hh A = some (.lst acc) ∧ Rps B.p ((B.plus A).W (wipeE si.env vs) (wipe σ vs)) Hh zs acc ∧ acc.length ≤ i ∧ compF vs g c el (ds.drop i) si = some (rest, sn) ∧ out = zs ++ rest,
    ⟨ds.length, by simp, Nat.zero_le _, s1, [], [], out, kw, evw, upd_same, .nil, Nat.le_refl _, eF, rfl⟩, ?_⟩
  rintro i m Hh ⟨rfl, hi, si, acc, zs, rest, ki, evi, hA, ri, hlen, eR, rfl⟩
  obtain ⟨w1, w2, w3⟩ := wk _ _ evi ki.wt
  by_cases hlt : i < ds.length
  · refine .inr ⟨w1 i hlt, _, fun H' hN => ⟨ds.length - (i + 1), by omega, hN⟩, fun x H' y => ?_⟩
    have hd : ds[i]? = some ds[i] := List.getElem?_eq_getElem hlt
    obtain ⟨sm, rx⟩ := w3 i _ x H' hd y
    rw [List.drop_eq_getElem_cons hlt] at eR
    obtain ⟨o, s2, eS, eR⟩ := bnd_some eR
    obtain ⟨rs, s3, eR2, e3⟩ := bnd_some eR
    obtain ⟨e4, rfl⟩ := ret_some e3
    obtain ⟨_, s4, eg, eS⟩ := bnd_some eS
    obtain ⟨b, s5, ec, eS⟩ := bnd_some eS
    have k1' := ki.same sm
    have ev' : Ev (B.W s1.env σ) H1 ((B.plus A).W (wipeE si.env vs) (wipe σ vs)) H' := evi.trans (Ev.same sm)
    refine ⟨B.plusO A (.lst acc), { si with env := wipeE si.env vs }, ds[i], s4, k1', rx, eg, fun σ2 k2 ev2 wp => ?_⟩
    have hw : wipe σ2 vs = wipe σ vs := by rw [wp vs hin, wipe_wipe]
    refine ⟨hw, B.plusO A (.lst acc), s4, b, s5, k2, ec, fun H3 k3 ev3 => ?_⟩
    have evA : Ev ((B.plus A).W (wipeE si.env vs) (wipe σ vs)) H' ((B.plus A).W s5.env σ2) H3 := Ev.trans ev2 ev3
    have smA : Ev ((B.plus A).W (wipeE si.env vs) (wipe σ vs)) Hh ((B.plus A).W (wipeE si.env vs) (wipe σ vs)) H' := Ev.same sm
    cases b with
    | true =>
      obtain ⟨y', s6, ee, eS⟩ := bnd_some eS
      obtain ⟨rfl, rfl⟩ := ret_some eS
      refine ⟨B.plusO A (.lst acc), s5, y', s2, k3, ee, fun v H4 k4 ev4 r4 => ?_⟩
      have hA4 : H4 A = some (.lst acc) := k4.keep A _ upd_same hAp hAc
      have kw4 := k4.wipe vs
      rw [hw] at kw4
      obtain ⟨kg, evg⟩ := kw4.grow (o' := .lst (acc ++ [v])) hAp hAc
      have wl : Ev ((B.plus A).W s2.env σ2) H4 ((B.plus A).W (wipeE s2.env vs) (wipe σ vs)) H4 := by
        rw [← hw]; exact Ev.less (W_wipe (B := B.plus A))
      have evT : Ev ((B.plus A).W (wipeE si.env vs) (wipe σ vs)) Hh ((B.plus A).W (wipeE s2.env vs) (wipe σ vs)) (upd H4 A (.lst (acc ++ [v]))) :=
        smA.trans (evA.trans (Ev.trans ev4 (wl.trans evg)))
      refine ⟨acc, hA4, by omega, rfl, hlt, s2, acc ++ [v], zs ++ [y'], rs, kg, evi.trans evT, upd_same, ?_, by simp; omega, eR2, by rw [e4]; simp⟩
      exact (ri.ev evT).append (.cons (Rp.ev (wl.trans evg) _ _ r4) .nil)
    | false =>
      obtain ⟨rfl, rfl⟩ := ret_some eS
      have kw3 := k3.wipe vs
      rw [hw] at kw3
      have wl : Ev ((B.plus A).W s2.env σ2) H3 ((B.plus A).W (wipeE s2.env vs) (wipe σ vs)) H3 := by
        rw [← hw]; exact Ev.less (W_wipe (B := B.plus A))
      have evT : Ev ((B.plus A).W (wipeE si.env vs) (wipe σ vs)) Hh ((B.plus A).W (wipeE s2.env vs) (wipe σ vs)) H3 := smA.trans (evA.trans wl)
      have hA3 : H3 A = some (.lst acc) := k3.keep A _ upd_same hAp hAc
      exact ⟨rfl, hlt, s2, acc, zs, rs, kw3, evi.trans evT, hA3, ri.ev evT, by omega, eR2, by rw [e4]; simp⟩
  · have hn : i = ds.length := by omega
    subst hn
    rw [List.drop_length] at eR
    obtain ⟨rfl, e5⟩ := ret_some eR
    subst e5
    refine .inl ⟨w2, ?_⟩
    have kf := ki.finish nA0
    have sub : ∀ b, (B.plus A).W (restE s1.env sn.env vs) σ b → (B.plus A).W (wipeE sn.env vs) (wipe σ vs) b := fun b hb => by
      rcases hb with hb | ⟨j, sl, h1, h2, h3⟩
      · exact .inl hb
      · rcases restE_get h1 with ⟨n1, h4⟩ | ⟨_, _, d, rfl⟩
        · exact .inr ⟨j, sl, by rw [wipeE_get n1]; exact h4, h2, by rw [wipe_get n1]; exact h3⟩
        · cases h2
    have evf : Ev ((B.plus A).W (wipeE sn.env vs) (wipe σ vs)) Hh ((B.plus A).W (restE s1.env sn.env vs) σ) Hh := Ev.less sub
    have kR : StOk (B.plus A) σ Hh { sn with env := restE s1.env sn.env vs } := by
      refine ⟨?_, fun j d h => ?_, fun j sl h ho => ?_, fun j1 j2 sl1 sl2 b h1 o1 h2 o2 q1 q2 => ?_, kf.src, kf.keep, kf.wc, kf.wp, kf.wcc⟩
      · have := kf.len
        rw [wipe_length] at this
        show (restE s1.env sn.env vs).length = _
        rw [restE_len, ← this]
        exact (wipeE_len _ _).symm
      · rcases restE_get h with ⟨n1, h4⟩ | ⟨n1, h4, _⟩
        · obtain ⟨v, h5, h6⟩ := kf.val j d (by show (wipeE sn.env vs)[j]? = _; rw [wipeE_get n1]; exact h4)
          rw [wipe_get n1] at h5
          exact ⟨v, h5, h6.ev evf⟩
        · obtain ⟨v, h5, h6⟩ := k1.val j d h4
          exact ⟨v, h5, Rp.ev (evi.trans evf) _ _ h6⟩
      · rcases restE_get h with ⟨n1, h4⟩ | ⟨_, _, d, rfl⟩
        · obtain ⟨b, o, h5, h6, h7, h8⟩ := kf.own j sl (by show (wipeE sn.env vs)[j]? = _; rw [wipeE_get n1]; exact h4) ho
          rw [wipe_get n1] at h5
          exact ⟨b, o, h5, h6, h7.ev evf, h8⟩
        · cases ho
      · rcases restE_get h1 with ⟨n1, h4⟩ | ⟨_, _, d, rfl⟩
        · rcases restE_get h2 with ⟨n2, h5⟩ | ⟨_, _, d, rfl⟩
          · exact kf.sep j1 j2 sl1 sl2 b (by show (wipeE sn.env vs)[j1]? = _; rw [wipeE_get n1]; exact h4) o1 (by show (wipeE sn.env vs)[j2]? = _; rw [wipeE_get n2]; exact h5) o2 (by rw [wipe_get n1]; exact q1) (by rw [wipe_get n2]; exact q2)
          · cases o2
        · cases o1
    refine q A acc Hh kR (ev1.trans (evi.trans evf)) nA0 ?_ hA (by simpa using ri.ev evf)
    rintro (z | ⟨j, sl, h1, h2, h3⟩)
    · obtain ⟨o, ho⟩ := k1.wc A z
      rw [nA] at ho; cases ho
    · obtain ⟨b, o, h5, _, _, _, h8⟩ := kR.own j sl h1 h2
      rw [h3] at h5; cases h5
      exact h8 (.inr rfl)
end GH

namespace GH
open PySem PySem.Spec PyProof.Rows L2

inductive Out where
  | nx | ret (d : D) | brk | cnt
def Post (B : Bs) (D : Ends) (W0 : AP) (H0 : Hp) : Out → S → Prop
  | .nx, s' => ∀ σ' H', StOk B σ' H' s' → Ev W0 H0 (B.W s'.env σ') H' → D.nx σ' H'
  | .brk, s' => ∀ σ' H', StOk B σ' H' s' → Ev W0 H0 (B.W s'.env σ') H' → D.bk σ' H'
  | .cnt, s' => ∀ σ' H', StOk B σ' H' s' → Ev W0 H0 (B.W s'.env σ') H' → D.ct σ' H'
  | .ret d, s' => ∀ v σ' H', StOk B σ' H' s' → Ev W0 H0 (B.W s'.env σ') H' → Rp B.p (B.W s'.env σ') H' d v → D.rt v H'
theorem Post.ev {B : Bs} {D : Ends} {W0 W1 : AP} {H0 H1 : Hp} {s' : S} (e : Ev W0 H0 W1 H1) : ∀ {o : Out}, Post B D W0 H0 o s' → Post B D W1 H1 o s'
  | .nx, h => fun σ' H' k e' => h σ' H' k (e.trans e')
  | .brk, h => fun σ' H' k e' => h σ' H' k (e.trans e')
  | .cnt, h => fun σ' H' k e' => h σ' H' k (e.trans e')
  | .ret _, h => fun v σ' H' k e' r => h v σ' H' k (e.trans e') r
def tS (B : Bs) (m : M Out) : TS := fun D σ H => ∃ s o s', StOk B σ H s ∧ m s = some (o, s') ∧ Post B D (B.W s.env σ) H o s'
structure SS (X : Cx) (st : Stmt) (m : M Out) : Prop where
  ps : ∀ B, PS X st (tS B m)
structure SSs (X : Cx) (st : List Stmt) (m : M Out) : Prop where
  ps : ∀ B, PSs X st (tS B m)

section
variable {X : Cx} {st : Stmt} {rest : List Stmt} {e c a b : Expr} {pos : Pos} {m n : M Out} {me ma mb : M D} {mt : M Bool}
def sNx : M Out := ret .nx
def sSeq (m n : M Out) : M Out := bnd m fun o => match o with
  | .nx => n
  | o => ret o
theorem ss_nil : SSs X [] sNx := ⟨fun B => PSs.imp pss_nil fun D σ H ⟨s, o, s', k, e, q⟩ => by
  obtain ⟨rfl, rfl⟩ := ret_some e
  exact q σ H k Ev.refl⟩
theorem ss_cons (h1 : SS X st m) (h2 : SSs X rest n) : SSs X (st :: rest) (sSeq m n) := ⟨fun B => PSs.imp (pss_cons (h1.ps B) (h2.ps B)) fun D σ H ⟨s, o, s', k, e, q⟩ => by
  obtain ⟨o1, s1, e1, e2⟩ := bnd_some e
  refine ⟨s, o1, s1, k, e1, ?_⟩
  cases o1 with
  | nx => exact fun σ' H' k' ev => ⟨s1, o, s', k', e2, q.ev ev⟩
  | ret d => obtain ⟨rfl, rfl⟩ := ret_some e2; exact q
  | brk => obtain ⟨rfl, rfl⟩ := ret_some e2; exact q
  | cnt => obtain ⟨rfl, rfl⟩ := ret_some e2; exact q⟩
theorem ss_one (h1 : SS X st m) : SSs X [st] m := ⟨fun B => pss_one (h1.ps B)⟩
def sRet (m : M D) : M Out := bnd m fun d => ret (.ret d)
theorem s_ret (h : SE X e me) : SS X (.Return (some e) pos) (sRet me) := ⟨fun B => PS.imp (ps_ret (h.pe B)) fun D σ H ⟨s, o, s', k, e, q⟩ => by
  refine tI.bind k e fun d s1 v H1 h1 e1 k1 ev1 r1 => ?_
  obtain ⟨rfl, rfl⟩ := ret_some e1
  exact q v σ H1 k1 ev1 r1⟩
theorem s_retN : SS X (.Return none pos) (ret (.ret .non)) := ⟨fun B => PS.imp ps_retN fun D σ H ⟨s, o, s', k, e, q⟩ => by
  obtain ⟨rfl, rfl⟩ := ret_some e
  exact q .non σ H k Ev.refl .mkNon⟩
theorem s_pass : SS X (.Pass pos) sNx := ⟨fun B => PS.imp ps_pass fun D σ H ⟨s, o, s', k, e, q⟩ => by
  obtain ⟨rfl, rfl⟩ := ret_some e
  exact q σ H k Ev.refl⟩
theorem s_break : SS X (.Break pos) (ret .brk) := ⟨fun B => PS.imp ps_break fun D σ H ⟨s, o, s', k, e, q⟩ => by
  obtain ⟨rfl, rfl⟩ := ret_some e
  exact q σ H k Ev.refl⟩
theorem s_continue : SS X (.Continue pos) (ret .cnt) := ⟨fun B => PS.imp ps_continue fun D σ H ⟨s, o, s', k, e, q⟩ => by
  obtain ⟨rfl, rfl⟩ := ret_some e
  exact q σ H k Ev.refl⟩
def sIf (t : M Bool) (m n : M Out) : M Out := bnd t fun b => if b = true then m else n
theorem s_ifS {p q : List Stmt} (hc : ST X c mt) (ha : SSs X p m) (hb : SSs X q n) : SS X (.If c p q pos) (sIf mt m n) := ⟨fun B => PS.imp (ps_if (hc.pt B) (ha.ps B) (hb.ps B)) fun D σ H ⟨s, o, s', k, e, q⟩ => by
  refine tT.bind k e fun t s1 H1 h1 e1 k1 ev1 => ?_
  cases t with
  | true => exact ⟨s1, o, s', k1, e1, q.ev ev1⟩
  | false => exact ⟨s1, o, s', k1, e1, q.ev ev1⟩⟩
def sExpr (m : M D) : M Out := bnd m fun _ => ret .nx
theorem s_expr (h : SE X e me) (hs : swapsWith e none pos.line X.env = pure false := by rfl) : SS X (.Expr e pos) (sExpr me) := ⟨fun B => PS.imp (ps_expr (h.pe B) hs) fun D σ H ⟨s, o, s', k, e, q⟩ => by
  refine tI.bind k e fun d s1 v H1 h1 e1 k1 ev1 r1 => ?_
  obtain ⟨rfl, rfl⟩ := ret_some e1
  exact q σ H1 k1 ev1⟩

def sAsg (m : M D) (g : D → M Unit) : M Out := bnd m fun d => bnd (g d) fun _ => ret .nx
theorem asg_go {B : Bs} {Dn : Ends} {σ : Sg} {H : Hp} {is : List Nat} {g : D → M Unit} {t : TE} {u : TG} (ht : ∀ σ H Q, tI B me σ H Q → t σ H Q) (hu : ∀ v σ H Q, tG B is g v σ H Q → u v σ H Q) (h : tS B (sAsg me g) Dn σ H) : tAsg t u Dn σ H := by
  obtain ⟨s, o, s', k, e, q⟩ := h
  obtain ⟨d, s1, e1, e2⟩ := bnd_some e
  refine ht _ _ _ ⟨s, d, s1, k, e1, fun v H1 k1 ev1 r1 => ?_⟩
  obtain ⟨_, s2, e3, e4⟩ := bnd_some e2
  obtain ⟨rfl, rfl⟩ := ret_some e4
  exact hu _ _ _ _ ⟨s1, d, s', k1, r1, e3, fun σ' k2 ev2 _ => q σ' H1 k2 (ev1.trans ev2)⟩
theorem s_asg {tg : Expr} {is : List Nat} {g : D → M Unit} (he : SE X e me) (hg : SG X tg is g) (hs : swapsWithSole [tg] e pos.line X.env = pure false := by rfl) (hw : swappedStores [tg] e X.env = pure none := by rfl)
    (h1 : (assignEach [tg] X.env).map (·.2) = [assign tg X.env] := by rfl) : SS X (.Assign [tg] e pos) (sAsg me g) := ⟨fun B => PS.imp (ps_asg (he.pe B) (hg.pg B) hs hw h1) fun D σ H h => asg_go (fun _ _ _ z => z) (fun _ _ _ _ z => z) h⟩
theorem tG_name {B : Bs} {i : Nat} : ∀ v σ H Q, tG B [i] (gN i) v σ H Q → gName i v σ H Q := fun v σ H Q ⟨s, d, s', k, r, e, q⟩ => by
  unfold gN at e
  split at e
  · rename_i hl
    cases e
    obtain ⟨k', ev⟩ := k.set hl r
    exact q _ k' ev fun vs h => wipe_set_mem (h i (by simp))
  · cases e
/-- name = e -/
def sSet (i : Nat) (m : M D) : M Out := sAsg m (gN i)
theorem s_set {i : Nat} {x : Str} {pos' : Pos} (hN : X.N.Nodup) (hi : X.N[i]? = some x) (hx : Loc X.env.scope x) (he : SE X e me) (hs : swapsWith e (some (.Name x pos')) pos.line X.env = pure false := by rfl)
    (hf : X.fn x = true ∨ X.env.scope.names.lookup x = some .local := by first | exact .inl rfl | exact .inr rfl | assumption) : SS X (.Assign [.Name x pos'] e pos) (sSet i me) :=
  ⟨fun B => PS.imp (ps_set hN hi hx (he.pe B) hs hf) fun D σ H h => asg_go (fun _ _ _ z => z) tG_name h⟩

def eLst (ml : M (List D)) : M D := bnd ml fun ds => ret (.lst ds)
theorem tL_tI {B : Bs} {ml : M (List D)} {σ : Sg} {H : Hp} {Q : VK} (h : tI B (eLst ml) σ H Q) : tL B ml σ H Q := by
  obtain ⟨s, d, s', k, e, q⟩ := h
  obtain ⟨ds, s1, e1, e2⟩ := bnd_some e
  obtain ⟨rfl, rfl⟩ := ret_some e2
  refine ⟨s, ds, s', k, e1, fun a vs H' k' ev n nw ha r => ?_⟩
  have ev2 : Ev ((B.plus a).W s'.env σ) H' (B.W s'.env σ) H' := Ev.less fun b hb => hb.elim (fun z => .inl (.inl z)) fun z => .inr z
  refine q _ H' ⟨k'.len, fun i d h => ?_, fun i sl h ho => ?_, k'.sep, k'.src, k'.keep, fun b h => k'.wc b (.inl h), ?_, ?_⟩ (ev.trans ev2) (.mkLst nw ha (r.ev ev2))
  · obtain ⟨v, h1, h2⟩ := k'.val i d h
    exact ⟨v, h1, Rp.ev ev2 _ _ h2⟩
  · obtain ⟨b, o, h1, h2, h3, h4, h5⟩ := k'.own i sl h ho
    exact ⟨b, o, h1, h2, OwnR.ev ev2 _ _ h3, h4, fun z => h5 (.inl z)⟩
  · exact k.wp
  · exact k.wcc
theorem s_ofL {ml : M (List D)} (h : SL X e ml) : SE X e (eLst ml) := ⟨fun B => PE.imp (h.pe B) fun σ H Q z => tL_tI z⟩
/-- the new list's address is put at slot i -/
theorem StOk.putOwn {B : Bs} {σ : Sg} {H : Hp} {s : S} {i : Nat} {a : Addr} {vs : List V} {ds : List D} (k : StOk (B.plus a) σ H s) (hi : i < s.env.length) (n : B.H0 a = none) (nc : ¬ B.W s.env σ a) (wp : B.Wc B.p) (wcc : B.Wc B.c) (ha : H a = some (.lst vs)) (r : Rps B.p ((B.plus a).W s.env σ) H ds vs) :
    StOk B (σ.set i (some (.ref a))) H { s with env := s.env.set i (some (.own ds)) } ∧ Ev ((B.plus a).W s.env σ) H (B.W (s.env.set i (some (.own ds))) (σ.set i (some (.ref a)))) H := by
  have hiσ : i < σ.length := by rw [← k.len]; exact hi
  have sub : ∀ b, B.W (s.env.set i (some (.own ds))) (σ.set i (some (.ref a))) b → (B.plus a).W s.env σ b := fun b hb => by
    rcases hb with hb | ⟨j, sl', e1, e2, e3⟩
    · exact .inl (.inl hb)
    · by_cases hj : i = j
      · subst hj
        rw [List.getElem?_set_self hiσ] at e3
        cases e3
        exact .inl (.inr rfl)
      · rw [List.getElem?_set_ne hj] at e1 e3
        exact .inr ⟨j, sl', e1, e2, e3⟩
  have ev : Ev ((B.plus a).W s.env σ) H (B.W (s.env.set i (some (.own ds))) (σ.set i (some (.ref a)))) H := Ev.less sub
  have other : ∀ j sl b, i ≠ j → s.env[j]? = some (some sl) → sl.isOwn = true → σ[j]? = some (some (.ref b)) → b ≠ a := fun j sl b _ h1 h2 h3 z => by
    obtain ⟨b', o, q1, _, _, _, q5⟩ := k.own j sl h1 h2
    rw [h3] at q1; cases q1
    exact q5 (.inr z)
  refine ⟨⟨by simpa using k.len, fun j d' h => ?_, fun j sl' h h' => ?_, fun j1 j2 sl1 sl2 b h1 o1 h2 o2 q1 q2 => ?_, k.src, k.keep, fun b h => k.wc b (.inl h), wp, wcc⟩, ev⟩
  · have h : (s.env.set i (some (.own ds)))[j]? = _ := h
    by_cases hj : i = j
    · subst hj
      rw [List.getElem?_set_self hi] at h
      cases h
    · rw [List.getElem?_set_ne hj] at h ⊢
      obtain ⟨v, h1, h2⟩ := k.val j d' h
      exact ⟨v, h1, Rp.ev ev _ _ h2⟩
  · have h : (s.env.set i (some (.own ds)))[j]? = _ := h
    by_cases hj : i = j
    · subst hj
      rw [List.getElem?_set_self hi] at h
      cases h
      exact ⟨a, _, List.getElem?_set_self hiσ, ha, ⟨vs, rfl, Rps.ev ev _ _ r⟩, n, fun z => nc (.inl z)⟩
    · rw [List.getElem?_set_ne hj] at h ⊢
      obtain ⟨b, o, h1, h2, h3, h4, h5⟩ := k.own j sl' h h'
      exact ⟨b, o, h1, h2, OwnR.ev ev _ _ h3, h4, fun z => h5 (.inl z)⟩
  · have h1 : (s.env.set i (some (.own ds)))[j1]? = _ := h1
    have h2 : (s.env.set i (some (.own ds)))[j2]? = _ := h2
    by_cases e1 : i = j1
    · subst e1
      by_cases e2 : i = j2
      · exact e2
      · rw [List.getElem?_set_self hiσ] at q1
        cases q1
        rw [List.getElem?_set_ne e2] at h2 q2
        exact absurd rfl (other j2 sl2 _ e2 h2 o2 q2)
    · by_cases e2 : i = j2
      · subst e2
        rw [List.getElem?_set_self hiσ] at q2
        cases q2
        rw [List.getElem?_set_ne e1] at h1 q1
        exact absurd rfl (other j1 sl1 _ e1 h1 o1 q1)
      · rw [List.getElem?_set_ne e1] at h1 q1
        rw [List.getElem?_set_ne e2] at h2 q2
        exact k.sep j1 j2 sl1 sl2 b h1 o1 h2 o2 q1 q2
def oN (i : Nat) : List D → M Unit := fun ds s => if i < s.env.length then some ((), { s with env := s.env.set i (some (.own ds)) }) else none
def sOwn (i : Nat) (ml : M (List D)) : M Out := bnd ml fun ds => bnd (oN i ds) fun _ => ret .nx
theorem own_go {B : Bs} {Dn : Ends} {σ : Sg} {H : Hp} {i : Nat} {ml : M (List D)} {t : TE} (ht : ∀ σ H Q, tL B ml σ H Q → t σ H Q) (h : tS B (sOwn i ml) Dn σ H) : tAsg t (gName i) Dn σ H := by
  obtain ⟨s, o, s', k, e, q⟩ := h
  obtain ⟨ds, s1, e1, e2⟩ := bnd_some e
  refine ht _ _ _ ⟨s, ds, s1, k, e1, fun a vs H1 k1 ev1 n nc ha r => ?_⟩
  obtain ⟨_, s2, e3, e4⟩ := bnd_some e2
  obtain ⟨rfl, rfl⟩ := ret_some e4
  unfold oN at e3
  split at e3
  · rename_i hl
    cases e3
    obtain ⟨k2, ev2⟩ := k1.putOwn hl n nc k.wp k.wcc ha r
    exact q _ H1 k2 (ev1.trans ev2)
  · cases e3
theorem s_own {i : Nat} {x : Str} {pos' : Pos} {ml : M (List D)} (hN : X.N.Nodup) (hi : X.N[i]? = some x) (hx : Loc X.env.scope x) (he : SL X e ml) (hs : swapsWith e (some (.Name x pos')) pos.line X.env = pure false := by rfl)
    (hf : X.fn x = true ∨ X.env.scope.names.lookup x = some .local := by first | exact .inl rfl | exact .inr rfl | assumption) : SS X (.Assign [.Name x pos'] e pos) (sOwn i ml) :=
  ⟨fun B => PS.imp (ps_set hN hi hx (he.pe B) hs hf) fun D σ H h => own_go (fun _ _ _ z => z) h⟩

section
variable {elt tg iter : Expr} {ifs : List Expr} {scope : Scope} {own : List (Str × Nat)} {g : D → M Unit} {mc : M Bool} {el : M D} {it : M (List D)} {is : List Nat}
/-- what a comprehension's parts are, in any block of it -/
structure CompOk (X : Cx) (elt tg : Expr) (ifs : List Expr) (scope : Scope) (own : List (Str × Nat)) (is : List Nat) (g : D → M Unit) (mc : M Bool) (el : M D) : Prop where
  calm : X.calm = true
  nd : X.N.Nodup
  ok : BlkOk X.N X.env.scope scope own
  sub : ∀ i ∈ is, i ∈ own.map (·.2)
  hg : ∀ (s : Shared) (H : Hp) (C : Addr) (cl : List (Str × Addr)) (fp : List Addr), SG (X.blk s H scope (compEnvC scope cl C X.env) fp) tg is g
  ht : ∀ (s : Shared) (H : Hp) (C : Addr) (cl : List (Str × Addr)) (fp : List Addr), SF (X.blk s H scope (compEnvC scope cl C X.env) fp) ifs mc
  he : ∀ (s : Shared) (H : Hp) (C : Addr) (cl : List (Str × Addr)) (fp : List Addr), SE (X.blk s H scope (compEnvC scope cl C X.env) fp) elt el
theorem l_comp (C : CompOk X elt tg ifs scope own is g mc el) (hi : SI X tg iter it) (hs : ∀ x, foldedSetIterable iter X.env x = pure x := by intro _; rfl) :
    SL X (.ListComp elt [⟨tg, iter, ifs, 0⟩] scope pos) (eComp (own.map (·.2)) g mc el it) :=
  ⟨fun B => PE.imp (pe_lc C.calm C.nd (hi.pi B) C.ok (fun s H c cl fp => (C.hg s H c cl fp).px) (fun s H c cl fp => (C.ht s H c cl fp).pt) (fun s H c cl fp => (C.he s H c cl fp).px) hs) fun σ H Q h => lc_go C.sub h⟩
/-- name = [..] on one line -/
theorem s_setLc {i : Nat} {y : Str} {py cpos : Pos} (hy : X.N[i]? = some y) (hyl : X.env.scope.names.lookup y = some .local) (hsw : swapsWith (.ListComp elt [⟨tg, iter, ifs, 0⟩] scope cpos) (some (.Name y py)) pos.line X.env = pure true)
    (C : CompOk X elt tg ifs scope own is g mc el) (hi : SI X tg iter it) (hs : ∀ x, foldedSetIterable iter X.env x = pure x := by intro _; rfl) :
    SS X (.Assign [.Name y py] (.ListComp elt [⟨tg, iter, ifs, 0⟩] scope cpos) pos) (sSet i (eLst (eComp (own.map (·.2)) g mc el it))) :=
  ⟨fun B => PS.imp (ps_setLc C.calm C.nd hy hyl hsw (hi.pi B) C.ok (fun s H c cl fp => (C.hg s H c cl fp).px) (fun s H c cl fp => (C.ht s H c cl fp).pt) (fun s H c cl fp => (C.he s H c cl fp).px) hs) fun D σ H h =>
    asg_go (fun _ _ _ z => lc_go C.sub (tL_tI z)) tG_name h⟩
theorem s_ownLc {i : Nat} {y : Str} {py cpos : Pos} (hy : X.N[i]? = some y) (hyl : X.env.scope.names.lookup y = some .local) (hsw : swapsWith (.ListComp elt [⟨tg, iter, ifs, 0⟩] scope cpos) (some (.Name y py)) pos.line X.env = pure true)
    (C : CompOk X elt tg ifs scope own is g mc el) (hi : SI X tg iter it) (hs : ∀ x, foldedSetIterable iter X.env x = pure x := by intro _; rfl) :
    SS X (.Assign [.Name y py] (.ListComp elt [⟨tg, iter, ifs, 0⟩] scope cpos) pos) (sOwn i (eComp (own.map (·.2)) g mc el it)) :=
  ⟨fun B => PS.imp (ps_setLc C.calm C.nd hy hyl hsw (hi.pi B) C.ok (fun s H c cl fp => (C.hg s H c cl fp).px) (fun s H c cl fp => (C.ht s H c cl fp).pt) (fun s H c cl fp => (C.he s H c cl fp).px) hs) fun D σ H h =>
    own_go (fun _ _ _ z => lc_go C.sub z) h⟩
end

def forM (g : D → M Unit) (b : M Out) : List D → M Out
  | [] => ret .nx
  | d :: r => bnd (g d) fun _ => bnd b fun o => match o with
    | .nx => forM g b r
    | .cnt => forM g b r
    | .brk => ret .nx
    | .ret d => ret (.ret d)
def sFor (it : M (List D)) (g : D → M Unit) (b : M Out) : M Out := bnd it fun ds => forM g b ds
theorem s_for {tg iter : Expr} {body : List Stmt} {it : M (List D)} {is : List Nat} {g : D → M Unit} (hp : PassesOwn (model X.prog X.w) X.A X.env X.xe) (hc : X.calm = true) (hi : SI X tg iter it) (hg : SG X tg is g) (hb : SSs X body m)
    (hs : ∀ x, foldedSetIterable iter X.env x = pure x := by intro _; rfl) : SS X (.For tg iter body [] pos) (sFor it g m) := ⟨fun B => PS.imp (ps_for hp hc (hi.pi B) (hg.pg B) (hb.ps B) hs) fun D σ H ⟨s, o, s', k, e, q⟩ => by
  obtain ⟨ds, s1, e1, e2⟩ := bnd_some e
  refine ⟨s, ds, s1, k, e1, fun J H1 k1 ev1 wk => ?_⟩
  refine ⟨fun i mm σi Hi => mm = ds.length - i ∧ i ≤ ds.length ∧ ∃ si, StOk B σi Hi si ∧ Ev (B.W s1.env σ) H1 (B.W si.env σi) Hi ∧ forM g m (ds.drop i) si = some (o, s'), ⟨ds.length, by simp, Nat.zero_le _, s1, k1, Ev.refl, e2⟩, ?_⟩
  rintro i mm σi Hi ⟨rfl, hi, si, ki, evi, eR⟩
  obtain ⟨w1, w2, w3⟩ := wk _ _ evi ki.wt
  by_cases hlt : i < ds.length
  · refine .inr ⟨w1 i hlt, _, fun σ' H' hN => ⟨ds.length - (i + 1), by omega, hN⟩, fun x H' y => ?_⟩
    obtain ⟨sm, rx⟩ := w3 i _ x H' (List.getElem?_eq_getElem hlt) y
    rw [List.drop_eq_getElem_cons hlt] at eR
    obtain ⟨_, s2, eg, eR⟩ := bnd_some eR
    obtain ⟨o2, s3, eb, eR⟩ := bnd_some eR
    refine ⟨si, ds[i], s2, ki.same sm, rx, eg, fun σ2 k2 ev2 _ => ⟨s2, o2, s3, k2, eb, ?_⟩⟩
    have evA : Ev (B.W s1.env σ) H1 (B.W s2.env σ2) H' := evi.trans ((Ev.same sm).trans ev2)
    cases o2 with
    | nx => exact fun σ' H'' k' ev' => ⟨rfl, hlt, s3, k', evA.trans ev', eR⟩
    | cnt => exact fun σ' H'' k' ev' => ⟨rfl, hlt, s3, k', evA.trans ev', eR⟩
    | brk => obtain ⟨rfl, rfl⟩ := ret_some eR; exact fun σ' H'' k' ev' => q σ' H'' k' (ev1.trans (evA.trans ev'))
    | ret d => obtain ⟨rfl, rfl⟩ := ret_some eR; exact fun v σ' H'' k' ev' r => q v σ' H'' k' (ev1.trans (evA.trans ev')) r
  · have hn : i = ds.length := by omega
    subst hn
    rw [List.drop_length] at eR
    obtain ⟨rfl, rfl⟩ := ret_some eR
    exact .inl ⟨w2, q σi Hi ki (ev1.trans evi)⟩⟩

def whF (c : M Bool) (b : M Out) : Nat → M Out
  | 0 => fail
  | n + 1 => bnd c fun t => if t = true then bnd b fun o => match o with
      | .nx => whF c b n
      | .cnt => whF c b n
      | .brk => ret .nx
      | .ret d => ret (.ret d)
    else ret .nx
open Classical in
noncomputable def sWhile (c : M Bool) (b : M Out) : M Out := fun s => if h : ∃ n r, whF c b n s = some r then some h.choose_spec.choose else none
theorem whF_mono {c : M Bool} {b : M Out} : ∀ {n k : Nat} {s : S} {r : Out × S}, whF c b n s = some r → whF c b (n + k) s = some r
  | 0, _, _, _, h => by simp [whF, fail] at h
  | n + 1, k, s, r, h => by
    rw [show n + 1 + k = (n + k) + 1 by omega]
    obtain ⟨o, s'⟩ := r
    obtain ⟨t, s1, hc, h⟩ := bnd_some h
    refine (bnd_eq hc).trans ?_
    cases t with
    | false => exact h
    | true =>
      obtain ⟨o2, s2, hb, h⟩ := bnd_some h
      refine (bnd_eq hb).trans ?_
      cases o2 with
      | nx => exact whF_mono (n := n) h
      | cnt => exact whF_mono (n := n) h
      | brk => exact h
      | ret d => exact h
theorem sWhile_of {c : M Bool} {b : M Out} {n : Nat} {s : S} {r : Out × S} (h : whF c b n s = some r) : sWhile c b s = some r := by
  have ex : ∃ n r, whF c b n s = some r := ⟨n, r, h⟩
  unfold sWhile
  rw [dif_pos ex]
  have h1 := whF_mono (k := n) ex.choose_spec.choose_spec
  have h2 := whF_mono (k := ex.choose) h
  rw [Nat.add_comm] at h2
  rw [h2] at h1
  exact h1.symm ▸ rfl
theorem sWhile_some {c : M Bool} {b : M Out} {s : S} {r : Out × S} (h : sWhile c b s = some r) : ∃ n, whF c b n s = some r := by
  unfold sWhile at h
  split at h
  · rename_i ex
    have e : ex.choose_spec.choose = r := Option.some.inj h
    rw [← e]
    exact ⟨ex.choose, ex.choose_spec.choose_spec⟩
  · cases h
theorem s_while {body : List Stmt} (hp : PassesOwn (model X.prog X.w) X.A X.env X.xe) (hc : ST X c mt) (hb : SSs X body m) : SS X (.While c body [] pos) (sWhile mt m) := ⟨fun B => PS.imp (ps_while hp (hc.pt B) (hb.ps B)) fun D σ H ⟨s, o, s', k, e, q⟩ => by
  obtain ⟨n, e⟩ := sWhile_some e
  refine ⟨fun j σi Hi => ∃ si, StOk B σi Hi si ∧ Ev (B.W s.env σ) H (B.W si.env σi) Hi ∧ whF mt m j si = some (o, s'), ⟨n, s, k, Ev.refl, e⟩, ?_⟩
  rintro j σi Hi ⟨si, ki, evi, eR⟩
  cases j with
  | zero => simp [whF, fail] at eR
  | succ j =>
    obtain ⟨t, s1, ec, eR⟩ := bnd_some eR
    refine ⟨si, t, s1, ki, ec, fun H1 k1 ev1 => ?_⟩
    cases t with
    | false =>
      obtain ⟨rfl, rfl⟩ := ret_some eR
      rw [if_neg (by decide)]
      exact q σi H1 k1 (evi.trans ev1)
    | true =>
      obtain ⟨o2, s2, eb, eR⟩ := bnd_some eR
      rw [if_pos rfl]
      refine ⟨_, fun σ' H' hN => ⟨j, Nat.lt_succ_self _, hN⟩, s1, o2, s2, k1, eb, ?_⟩
      have evA := evi.trans ev1
      cases o2 with
      | nx => exact fun σ' H'' k' ev' => ⟨s2, k', evA.trans ev', eR⟩
      | cnt => exact fun σ' H'' k' ev' => ⟨s2, k', evA.trans ev', eR⟩
      | brk => obtain ⟨rfl, rfl⟩ := ret_some eR; exact fun σ' H'' k' ev' => q σ' H'' k' (evA.trans ev')
      | ret d => obtain ⟨rfl, rfl⟩ := ret_some eR; exact fun v σ' H'' k' ev' r => q v σ' H'' k' (evA.trans ev') r⟩
end
end GH

namespace GH
open PySem PySem.Spec PyProof.Rows L2

/-- what a def does: its arguments, the source ahead, the answer, the source behind -/
abbrev FnSem := List D → Src → Option (D × Src)
/-- its promise -/
def spOf (n : Nat) (g : FnSem) : Sp := fun vs H Q _ => ∃ p c Wc ds s0 d s1, Wc p ∧ Wc c ∧ WT Wc H ∧ SrcOk p c H s0 ∧ Rps p Wc H ds vs ∧ ds.length = n ∧ g ds s0 = some (d, s1) ∧
  ∀ v H', (∀ a o, H a = some o → a ≠ p → a ≠ c → H' a = some o) → SrcOk p c H' s1 → Rp p Wc H' d v → Q v H'
/-- room for k calls, and no text of an object being made around -/
structure RG (k : Nat) (A : Around) : Prop where
  r : Room k A
  g : A.guards = some []
theorem RG.mono {j k : Nat} {A : Around} (h : RG k A) (l : j ≤ k) : RG j A := ⟨h.r.mono l, h.g⟩
theorem RG.deeper {k : Nat} {A : Around} (h : RG (k + 1) A) (env : Env) : RG k (A.deeper env) := ⟨h.r.deeper env, h.g⟩
/-- the def at f keeps the promise of g, its calls k deep -/
def FnG (P : Program) (w : World) (K : PySem.W.Frag) (mg : Str → Option Value) (base : Heap) (k : Nat) (f : Addr) (n : Nat) (g : FnSem) : Prop :=
  ∀ (A : Around) (outer : List Env) (s : Shared) (H : Hp) (us : List Value) (vs : List V) (Q : VK) (E : XK), RG k A → Env0 P w K mg base A outer s H → Vals vs us → spOf n g vs H Q E →
    codeAny (model P w) A (.call (.ref f) ⟨us, []⟩) (CR CX0 outer P w H s Q E) s
structure Fn (P : Program) (w : World) (K : PySem.W.Frag) (mg : Str → Option Value) (base : Heap) (k : Nat) (x : Str) (n : Nat) (g : FnSem) : Prop where
  ok : ∃ f : Addr, mg x = some (.ref f) ∧ PySem.W.keepIn K (.ref f) = true ∧ FnG P w K mg base k f n g
theorem spOf_imp {n : Nat} {g g' : FnSem} (h : ∀ ds s r, g' ds s = some r → g ds s = some r) {vs : List V} {H : Hp} {Q : VK} {E : XK} (q : spOf n g' vs H Q E) : spOf n g vs H Q E := by
  obtain ⟨p, c, Wc, ds, s0, d, s1, h1, h2, h3, h4, h5, h6, h7, h8⟩ := q
  exact ⟨p, c, Wc, ds, s0, d, s1, h1, h2, h3, h4, h5, h6, h _ _ _ h7, h8⟩
/-- a def's meaning told otherwise -/
theorem Fn.imp {P : Program} {w : World} {K : PySem.W.Frag} {mg : Str → Option Value} {base : Heap} {k n : Nat} {x : Str} {g g' : FnSem} (F : Fn P w K mg base k x n g) (h : ∀ ds s r, g' ds s = some r → g ds s = some r) : Fn P w K mg base k x n g' := by
  obtain ⟨f, h1, h2, h3⟩ := F.ok
  exact ⟨f, h1, h2, fun A outer s H us vs Q E hr he hv q => h3 A outer s H us vs Q E hr he hv (spOf_imp h q)⟩
theorem Fn.mono {P : Program} {w : World} {K : PySem.W.Frag} {mg : Str → Option Value} {base : Heap} {j k n : Nat} {x : Str} {g : FnSem} (F : Fn P w K mg base j x n g) (h : j ≤ k) : Fn P w K mg base k x n g := by
  obtain ⟨f, h1, h2, h3⟩ := F.ok
  exact ⟨f, h1, h2, fun A outer s H us vs Q E hr he hv q => h3 A outer s H us vs Q E (hr.mono h) he hv q⟩

/-- behind a call -/
theorem StOk.called {B : Bs} {σ : Sg} {H H' : Hp} {s : S} {c' : Src} (k : StOk B σ H s) (kp : ∀ a o, H a = some o → a ≠ B.p → a ≠ B.c → H' a = some o) (sk : SrcOk B.p B.c H' c') :
    StOk B σ H' { s with src := c' } ∧ Ev (B.W s.env σ) H (B.W s.env σ) H' := by
  have ev : Ev (B.W s.env σ) H (B.W s.env σ) H' := fun a o h n => ⟨kp a o h (fun z => n (.inl (z ▸ k.wp))) (fun z => n (.inl (z ▸ k.wcc))), n⟩
  refine ⟨⟨k.len, fun i d h => ?_, fun i sl h ho => ?_, k.sep, sk, fun a o h n1 n2 => kp a o (k.keep a o h n1 n2) n1 n2, fun a h => ?_, k.wp, k.wcc⟩, ev⟩
  · obtain ⟨v, h1, h2⟩ := k.val i d h
    exact ⟨v, h1, h2.ev ev⟩
  · obtain ⟨a, o, h1, h2, h3, h4, h5⟩ := k.own i sl h ho
    exact ⟨a, o, h1, kp a o h2 (fun z => h5 (z ▸ k.wp)) (fun z => h5 (z ▸ k.wcc)), h3.ev ev, h4, h5⟩
  · by_cases e1 : a = B.p
    · subst e1; exact ⟨_, sk.d⟩
    · by_cases e2 : a = B.c
      · subst e2; exact ⟨_, sk.l⟩
      · obtain ⟨o, ho⟩ := k.wc a h
        exact ⟨o, kp a o ho e1 e2⟩
def eFn (g : FnSem) (ms : M (List D)) : M D := bnd ms fun ds s => match g ds s.src with
  | some (d, c) => some (d, { s with src := c })
  | none => none
/-- so many arguments -/
def aLen (n : Nat) (ms : M (List D)) : Prop := ∀ s ds s', ms s = some (ds, s') → ds.length = n
theorem aLen_nil : aLen 0 aNil := fun s ds s' h => by obtain ⟨rfl, rfl⟩ := ret_some h; rfl
theorem aLen_cons {n : Nat} {m : M D} {ms : M (List D)} (h : aLen n ms) : aLen (n + 1) (aCons m ms) := fun s ds s' e => by
  obtain ⟨d, s1, h1, h2⟩ := bnd_some e
  obtain ⟨r, s2, h3, h4⟩ := bnd_some h2
  obtain ⟨rfl, rfl⟩ := ret_some h4
  simp [h _ _ _ h3]

section
variable {X : Cx} {e : Expr} {es : List Expr} {pos p : Pos} {ms : M (List D)}
theorem run_g {k n : Nat} {f : Addr} {g : FnSem} {pins : List (Addr × Obj)} {σ : Sg} {H : Hp} {s : Shared} {Q : VK} {us : List Value} {vs : List V} (F : FnG X.prog X.w X.K X.mg X.base k f n g) (hr : RG k X.A) (I : Inv X pins σ H s) (r : Vals vs us) (h : spOf n g vs H Q E0) :
    wpAny (model X.prog X.w) X.A (call (.ref f) us) (EP X pins σ Q) X.xe s := by
  refine wpAny_call (codeAny_mono (F X.A X.stack s H us vs Q E0 hr I.env0 r h) fun res s' hq => ?_)
  cases res with
  | error e => exact False.elim hq
  | ok fl =>
    cases fl with
    | ret u => exact I.after hq
    | next => exact False.elim hq
    | brk => exact False.elim hq
    | cont => exact False.elim hq
theorem s_fn {k n : Nat} {x : Str} {g : FnSem} (F : Fn X.prog X.w X.K X.mg X.base k x n g) (hr : RG k X.A) (hg : Gl X x) (ha : SA X (e :: es) ms) (hl : aLen n ms) (hdb : (x == ("__debug__" : Str)) = false := by decide)
    (he : starEach (e :: es) X.env = (false, eval e X.env) :: starEach es X.env := by rfl) (hpl : (backTo pos (starEach es X.env)).any (·.1) = false := by rfl) : SE X (.Call (.Name x p) (e :: es) [] pos) (eFn g ms) := ⟨fun B => by
  obtain ⟨f, h1, h2, h3⟩ := F.ok
  refine ⟨fun pins sh σ H Q I ⟨s, d, s', k, e, q⟩ => ?_⟩
  refine wpAny_Call_Name_kw (ld_glob I hg h1 ?_ hdb)
  have hw : tA B ms σ H (fun vs Ha => spOf n g vs Ha Q E0) := by
    refine tA.bind k e fun ds s1 vs Ha q1 e1 k1 ev1 r1 => ?_
    split at e1
    · rename_i d' c' eg
      cases e1
      refine ⟨B.p, B.c, B.W s1.env σ, ds, s1.src, d, c', .inl k1.wp, .inl k1.wcc, k1.wt, k1.src, r1, hl _ _ _ q1, eg, fun v H' kp sk r => ?_⟩
      obtain ⟨k2, ev2⟩ := k1.called kp sk
      exact q v H' k2 (ev1.trans ev2) r
    · cases e1
  exact PySem.W.callWith_K (h₀ := X.base) I.ok.mod.kin h2 (thn ((ha.pa B).run pos pins sh σ H _ I hw) fun us s1 ⟨vs, H1, I1, r, q⟩ => ⟨I1.kIn, run_g h3 hr I1 r q⟩) he hpl⟩
end
def fnOf (n : Nat) (m : M Out) : FnSem := fun ds c => match m ⟨ds.map (fun d => some (Sl.val d)) ++ List.replicate (n - ds.length) none, c⟩ with
  | some (.ret d, s) => some (d, s.src)
  | some (.nx, s) => some (.non, s.src)
  | _ => none
theorem start_ok {p c : Addr} {Wc : AP} {H : Hp} {ds : List D} {vs : List V} {N : List Str} {s0 : Src} (h1 : Wc p) (h2 : Wc c) (h3 : WT Wc H) (h4 : SrcOk p c H s0) (h5 : Rps p Wc H ds vs) (hl : vs.length ≤ N.length) :
    StOk ⟨p, c, Wc, H⟩ (L2.start N vs) H ⟨ds.map (fun d => some (Sl.val d)) ++ List.replicate (N.length - ds.length) none, s0⟩ := by
  have hlen := h5.length
  have get : ∀ (i : Nat) (sl : Sl), (ds.map (fun d => some (Sl.val d)) ++ List.replicate (N.length - ds.length) none)[i]? = some (some sl) → ∃ d, ds[i]? = some d ∧ sl = Sl.val d := fun i sl h => by
    by_cases hi : i < ds.length
    · rw [List.getElem?_append_left (by simpa using hi), List.getElem?_map, List.getElem?_eq_getElem hi] at h
      cases h
      exact ⟨_, List.getElem?_eq_getElem hi, rfl⟩
    · rw [List.getElem?_append_right (by simpa using Nat.le_of_not_lt hi), List.getElem?_replicate] at h
      split at h <;> cases h
  have noW : ∀ b, (⟨p, c, Wc, H⟩ : Bs).W (ds.map (fun d => some (Sl.val d)) ++ List.replicate (N.length - ds.length) none) (L2.start N vs) b → Wc b := fun b hb => by
    rcases hb with hb | ⟨i, sl, e1, e2, _⟩
    · exact hb
    · obtain ⟨d, _, rfl⟩ := get i sl e1
      cases e2
  refine ⟨?_, fun i d h => ?_, fun i sl h ho => ?_, fun i j sl sl' a h ho => ?_, h4, fun a o h _ _ => h, h3, h1, h2⟩
  · unfold L2.start
    simp only [List.length_append, List.length_map, List.length_replicate]
    omega
  · obtain ⟨d', hd, e⟩ := get i _ h
    cases e
    obtain ⟨v, q1, q2⟩ := h5.get hd
    refine ⟨v, ?_, q2.ev (Ev.less noW)⟩
    unfold L2.start
    rw [List.getElem?_append_left (by simpa using (List.getElem?_eq_some_iff.mp q1).1), List.getElem?_map, q1]
    rfl
  · obtain ⟨d, _, rfl⟩ := get i sl h
    cases ho
  · obtain ⟨d, _, rfl⟩ := get i sl h
    cases ho
/-- THE RULE for a def -/
theorem fn_body {P : Program} {w : World} {K : PySem.W.Frag} {mg : Str → Option Value} {base : Heap} {x : Str} {params : Arguments} {code : List Stmt} {scope : Scope} {f : Addr} {fd : FuncData} {N ps : List Str} {k : Nat} {m : M Out}
    (F : FunD K x x params code scope [] [] f fd) (hm : mg x = some (.ref f)) (hb : Binds K fd ps []) (S : FnScope N ps scope) (hN : ps.length ≤ N.length)
    (body : ∀ (cdv : Value) (A : Around) (outer : List Env) (s : Shared) (H : Hp), RG k (A.deeper (envOfC x scope s.heap.objs.size f cdv)) →
      SSs (cxOf CX0 P w K mg base N x scope f cdv A outer s H E0).nox code m) : Fn P w K mg base (k + 1) x ps.length (fnOf N.length m) := by
  obtain ⟨oc, od, dV, kV, doc, pm, an, cdv, ct, osl, efd, lk, hcd, _, _⟩ := F.ex
  subst efd
  refine ⟨f, hm, F.kp, fun A outer s H us vs Q E hr e0 r h => ?_⟩
  have hl : vs.length = ps.length := by
    obtain ⟨p, c, Wc, ds, s0, d, s1, _, _, _, _, h5, h6, _⟩ := h
    rw [← h6, h5.length]
  have KX : K.In s.heap := e0.mod.kin.keeps fun b o e => (e0.bs b o e).1
  refine StX.run_bnd (G := fun xs H2 => xs = vs ∧ H2 = H) (E := E) lk hcd S hr.r e0 (fun A' Ex Q' hq => ?_) fun s2 H2 xs ⟨ex, eH⟩ hr2 => ?_
  · have bb := hb s us KX (by rw [List.append_nil, ← r.length, hl])
    rw [List.append_nil] at bb
    exact bb _ _ _ _ (hq s H vs us e0 Un.refl rfl (fun _ _ z => z) r hl ⟨rfl, rfl⟩)
  · subst ex
    subst eH
    obtain ⟨p, c, Wc, ds, s0, d, s1, h1, h2, h3, h4, h5, h6, h7, h8⟩ := h
    refine ⟨_, PSs.nox ((body cdv A outer s2 H2 ⟨hr2, hr.g⟩).ps ⟨p, c, Wc, H2⟩), ?_⟩
    unfold fnOf at h7
    split at h7
    · rename_i d' s' em
      cases h7
      refine ⟨_, _, _, start_ok h1 h2 h3 h4 h5 (by rw [← h5.length, h6]; exact hN), em, fun v σ' H' k' ev r => ?_⟩
      exact h8 v H' (fun a o e n1 n2 => k'.keep a o e n1 n2) k'.src (r.ev (Ev.less fun b hb => .inl hb))
    · rename_i s' em
      cases h7
      refine ⟨_, _, _, start_ok h1 h2 h3 h4 h5 (by rw [← h5.length, h6]; exact hN), em, fun σ' H' k' ev => ?_⟩
      exact h8 .non H' (fun a o e n1 n2 => k'.keep a o e n1 n2) k'.src .mkNon
    · cases h7
end GH

namespace GH
open PySem PySem.Spec PyProof.Rows L2

def eCall (g : List D → Option D) (ms : M (List D)) : M D := bnd ms fun ds => lift (g ds)
def eCallL (g : List D → Option (List D)) (ms : M (List D)) : M (List D) := bnd ms fun ds => lift (g ds)
section
variable {X : Cx} {e a b : Expr} {es : List Expr} {pos p : Pos} {ms : M (List D)} {ma mb m : M D}
abbrev CallD (X : Cx) (f : Value) (g : List D → Option D) : Prop := CallR X f (rC g)
abbrev CallL (X : Cx) (f : Value) (g : List D → Option (List D)) : Prop := CallR X f (rCL g)
theorem call_go {B : Bs} {g : List D → Option D} {σ : Sg} {H : Hp} {Q : VK} (h : tI B (eCall g ms) σ H Q) : tCB (rC g) (tA B ms) σ H Q := by
  obtain ⟨s, d, s', k, e, q⟩ := h
  refine tA.bind k e fun ds s1 vs H1 h1 e1 k1 ev1 r1 => ?_
  obtain ⟨e3, rfl⟩ := lift_some e1
  exact ⟨B.p, _, ds, d, k1.wt, r1, e3, fun v H' sm r => q v H' (k1.same sm) (ev1.trans (Ev.same sm)) r⟩
theorem s_callB {id : String} {x : Str} {g : List D → Option D} (hc : CallD X (.builtin id) g) (hg : Gl X x) (hm : X.mg x = none) (hv : bootBuiltins x = some (.builtin id)) (ha : SA X (e :: es) ms) (hn : x ≠ "__name__" := by decide) (hdb : (x == ("__debug__" : Str)) = false := by decide)
    (he : starEach (e :: es) X.env = (false, eval e X.env) :: starEach es X.env := by rfl) (hpl : (backTo pos (starEach es X.env)).any (·.1) = false := by rfl) : SE X (.Call (.Name x p) (e :: es) [] pos) (eCall g ms) :=
  ⟨fun B => PE.imp (pe_callB hc hg hm hv (ha.pa B) hn hdb he hpl) fun σ H Q h => call_go h⟩
theorem s_callT {T : String} {x : Str} {g : List D → Option D} (hc : CallD X (.type T) g) (hg : Gl X x) (hm : X.mg x = none) (hv : bootBuiltins x = some (.type T)) (ha : SA X (e :: es) ms) (hn : x ≠ "__name__" := by decide) (hdb : (x == ("__debug__" : Str)) = false := by decide)
    (he : starEach (e :: es) X.env = (false, eval e X.env) :: starEach es X.env := by rfl) (hpl : (backTo pos (starEach es X.env)).any (·.1) = false := by rfl) : SE X (.Call (.Name x p) (e :: es) [] pos) (eCall g ms) :=
  ⟨fun B => PE.imp (pe_callTy hc hg hm hv (ha.pa B) hn hdb he hpl) fun σ H Q h => call_go h⟩
/-- any new list of what was there -/
theorem StOk.newList {B : Bs} {σ : Sg} {H H' : Hp} {s : S} {a : Addr} {vs : List V} {ds : List D} (k : StOk B σ H s) (sm : Same H H') (n : H a = none) (ha : H' a = some (.lst vs)) (r : Rps B.p (B.W s.env σ) H ds vs) :
    StOk (B.plus a) σ H' s ∧ Ev (B.W s.env σ) H ((B.plus a).W s.env σ) H' ∧ Rps B.p ((B.plus a).W s.env σ) H' ds vs := by
  have ev : Ev (B.W s.env σ) H ((B.plus a).W s.env σ) H' := fun b x h hn => ⟨sm b x h, by
    rintro ((z | z) | z)
    · exact hn (.inl z)
    · exact ne_of_none h n z
    · exact hn (.inr z)⟩
  refine ⟨⟨k.len, fun i d h => ?_, fun i sl h ho => ?_, k.sep, k.src.same sm, fun b x h h1 h2 => sm b x (k.keep b x h h1 h2), fun b h => ?_, .inl k.wp, .inl k.wcc⟩, ev, r.ev ev⟩
  · obtain ⟨v, h1, h2⟩ := k.val i d h
    exact ⟨v, h1, h2.ev ev⟩
  · obtain ⟨b, x, h1, h2, h3, h4, h5⟩ := k.own i sl h ho
    refine ⟨b, x, h1, sm _ _ h2, h3.ev ev, h4, ?_⟩
    rintro (z | z)
    · exact h5 z
    · exact ne_of_none h2 n z
  · rcases h with z | z
    · obtain ⟨x, h1⟩ := k.wc b z
      exact ⟨x, sm _ _ h1⟩
    · subst z
      exact ⟨_, ha⟩
theorem callL_go {B : Bs} {g : List D → Option (List D)} {σ : Sg} {H : Hp} {Q : VK} (h : tL B (eCallL g ms) σ H Q) : tCB (rCL g) (tA B ms) σ H Q := by
  obtain ⟨s, d, s', k, e, q⟩ := h
  refine tA.bind k e fun ds s1 vs H1 h1 e1 k1 ev1 r1 => ?_
  obtain ⟨e3, rfl⟩ := lift_some e1
  refine ⟨B.p, _, ds, d, k1.wt, r1, e3, fun a us H' sm n ha r => ?_⟩
  obtain ⟨kp, ev2, r2⟩ := k1.newList sm n ha r
  exact q a us H' kp (ev1.trans ev2) (k1.new n) (k1.wt.new n) ha r2
theorem l_callB {id : String} {x : Str} {g : List D → Option (List D)} (hc : CallL X (.builtin id) g) (hg : Gl X x) (hm : X.mg x = none) (hv : bootBuiltins x = some (.builtin id)) (ha : SA X (e :: es) ms) (hn : x ≠ "__name__" := by decide) (hdb : (x == ("__debug__" : Str)) = false := by decide)
    (he : starEach (e :: es) X.env = (false, eval e X.env) :: starEach es X.env := by rfl) (hpl : (backTo pos (starEach es X.env)).any (·.1) = false := by rfl) : SL X (.Call (.Name x p) (e :: es) [] pos) (eCallL g ms) :=
  ⟨fun B => PE.imp (pe_callB hc hg hm hv (ha.pa B) hn hdb he hpl) fun σ H Q h => callL_go h⟩
theorem l_callT {T : String} {x : Str} {g : List D → Option (List D)} (hc : CallL X (.type T) g) (hg : Gl X x) (hm : X.mg x = none) (hv : bootBuiltins x = some (.type T)) (ha : SA X (e :: es) ms) (hn : x ≠ "__name__" := by decide) (hdb : (x == ("__debug__" : Str)) = false := by decide)
    (he : starEach (e :: es) X.env = (false, eval e X.env) :: starEach es X.env := by rfl) (hpl : (backTo pos (starEach es X.env)).any (·.1) = false := by rfl) : SL X (.Call (.Name x p) (e :: es) [] pos) (eCallL g ms) :=
  ⟨fun B => PE.imp (pe_callTy hc hg hm hv (ha.pa B) hn hdb he hpl) fun σ H Q h => callL_go h⟩

theorem callD_cases {f : Value} {g : List D → Option D} (h : ∀ ds d p W, g ds = some d → CallR X f (fun vs H Q => WT W H ∧ Rps p W H ds vs ∧ ∀ v H', Same H H' → Rp p W H' d v → Q v H')) : CallD X f g := by
  intro pins s σ H xs us Q I r ⟨p, W, ds, d, hw, hx, he, hq⟩
  exact h ds d p W he pins s σ H xs us Q I r ⟨hw, hx, hq⟩
def lenG : List D → Option D
  | [.lst ds] => some (.int ds.length)
  | [.tup ds] => some (.int ds.length)
  | [.str s] => if s.length ≤ sizeLine then some (.int s.length) else none
  | _ => none
theorem c_len : CallD X (.builtin "len") lenG := callD_cases fun ds d p W he => by
  unfold lenG at he
  split at he
  · cases he
    refine CallR.imp call_len fun vs H Q ⟨hw, hx, hq⟩ => ?_
    obtain ⟨v, rfl, r⟩ := rps1 hx
    obtain ⟨a, us, rfl, _, ha, rs⟩ := rp_lst r
    exact ⟨_, us.length, rfl, .inl ⟨us, SqL.of ha, rfl⟩, by rw [← rs.length]; exact hq _ _ (Same.refl H) (.mkInt _)⟩
  · cases he
    refine CallR.imp call_len fun vs H Q ⟨hw, hx, hq⟩ => ?_
    obtain ⟨v, rfl, r⟩ := rps1 hx
    obtain ⟨a, us, rfl, _, ha, rs⟩ := rp_tup r
    exact ⟨_, us.length, rfl, .inr ⟨us, SqT.of ha, rfl⟩, by rw [← rs.length]; exact hq _ _ (Same.refl H) (.mkInt _)⟩
  · split at he
    · rename_i hl
      cases he
      refine CallR.imp call_len fun vs H Q ⟨hw, hx, hq⟩ => ?_
      obtain ⟨v, rfl, r⟩ := rps1 hx
      rw [rp_str r]
      exact ⟨_, _, rfl, ⟨hl, rfl⟩, hq _ _ (Same.refl H) (.mkInt _)⟩
    · cases he
  · cases he
def intG : List D → Option D
  | [.int i] => some (.int i)
  | [.bl k] => some (.int (if k then 1 else 0))
  | _ => none
theorem c_int : CallD X (.type "int") intG := callD_cases fun ds d p W he => by
  unfold intG at he
  split at he
  · cases he
    refine CallR.imp call_int1 fun vs H Q ⟨hw, hx, hq⟩ => ?_
    obtain ⟨v, rfl, r⟩ := rps1 hx
    exact .inl ⟨_, by rw [rp_int r], hq _ _ (Same.refl H) (.mkInt _)⟩
  · cases he
    refine CallR.imp call_int1 fun vs H Q ⟨hw, hx, hq⟩ => ?_
    obtain ⟨v, rfl, r⟩ := rps1 hx
    exact .inr ⟨_, by rw [rp_bl r], hq _ _ (Same.refl H) (.mkInt _)⟩
  · cases he
def absG : List D → Option D
  | [.int i] => some (.int (if i < 0 then -i else i))
  | _ => none
theorem c_abs : CallD X (.builtin "abs") absG := callD_cases fun ds d p W he => by
  unfold absG at he
  split at he
  · cases he
    refine CallR.imp call_abs fun vs H Q ⟨hw, hx, hq⟩ => ?_
    obtain ⟨v, rfl, r⟩ := rps1 hx
    exact ⟨_, by rw [rp_int r], hq _ _ (Same.refl H) (.mkInt _)⟩
  · cases he
def tupG : List D → Option D
  | [.lst ds] => some (.tup ds)
  | [.tup ds] => some (.tup ds)
  | _ => none
theorem c_tup : CallD X (.type "tuple") tupG := callD_cases fun ds d p W he => by
  unfold tupG at he
  split at he
  · cases he
    refine CallR.imp call_tuple_of fun vs H Q ⟨hw, hx, hq⟩ => ?_
    obtain ⟨v, rfl, r⟩ := rps1 hx
    obtain ⟨a, us, rfl, _, ha, rs⟩ := rp_lst r
    exact ⟨a, us, rfl, .inl ⟨SqL.of ha, fun l hl => hq _ _ (same_new hl) (.newTup hw hl rs)⟩⟩
  · cases he
    refine CallR.imp call_tuple_of fun vs H Q ⟨hw, hx, hq⟩ => ?_
    obtain ⟨v, rfl, r⟩ := rps1 hx
    obtain ⟨a, us, rfl, na, ha, rs⟩ := rp_tup r
    exact ⟨a, us, rfl, .inr ⟨SqT.of ha, hq _ _ (Same.refl H) (.mkTup na ha rs)⟩⟩
  · cases he
def lstG : List D → Option (List D)
  | [.lst ds] => some ds
  | [.tup ds] => some ds
  | _ => none
theorem c_lst : CallL X (.type "list") lstG := by
  intro pins s σ H xs us Q I r ⟨p, W, ds, es, hw, hx, he, hq⟩
  unfold lstG at he
  split at he
  · cases he
    obtain ⟨v, rfl, r'⟩ := rps1 hx
    obtain ⟨a, ws, rfl, _, ha, rs⟩ := rp_lst r'
    exact call_list_of pins s σ H _ us Q I r ⟨a, ws, rfl, .inl (SqL.of ha), fun l hl => hq l ws _ (same_new hl) hl upd_same rs⟩
  · cases he
    obtain ⟨v, rfl, r'⟩ := rps1 hx
    obtain ⟨a, ws, rfl, _, ha, rs⟩ := rp_tup r'
    exact call_list_of pins s σ H _ us Q I r ⟨a, ws, rfl, .inr (SqT.of ha), fun l hl => hq l ws _ (same_new hl) hl upd_same rs⟩
  · cases he
def sumG : List D → Option D
  | [.lst ds] => (toInts ds).map fun ns => .int ns.sum
  | [.tup ds] => (toInts ds).map fun ns => .int ns.sum
  | _ => none
theorem sum_tup (hc : X.calm = true) : CallR X (.builtin "sum") (fun vs H Q => ∃ (a : Addr) (ns : List Int), vs = [V.ref a] ∧ SqT X.K H a (ns.map V.int) ∧ Q (.int ns.sum) H) := by
  intro pins s σ H vs us Q I r ⟨a, ns, e, hs, q⟩
  subst e
  obtain ⟨its, rv, hl, _⟩ := I.tuple hs
  rw [Vals.ref1 r]
  have hi := rv.ints
  obtain ⟨xs, hx⟩ := hi.allInts.items
  have hn := hi.numsOf
  have hl : s.heap.IsTuple a its.toArray := hl
  rw [show numsOf its = numsOf its.toArray.toList from rfl, hx] at hn
  rw [nums_intItems] at hn
  rw [hx] at hl
  refine PySem.W.ktm_sumG (I.ok.hd hc) hl fun h' tk t' hk => ?_
  rw [preSum_eq, List.take_of_length_le (by simp), hn]
  exact ⟨.int _, H, I.kept (t' := tk) hk, ⟨_, rfl⟩, q⟩
theorem c_sum (hc : X.calm = true) : CallD X (.builtin "sum") sumG := callD_cases fun ds d p W he => by
  unfold sumG at he
  split at he
  · rename_i es
    obtain ⟨ns, h1, rfl⟩ := Option.map_eq_some_iff.mp he
    have := toInts_eq h1
    subst this
    refine CallR.imp (cr_sum hc) fun vs H Q ⟨hw, hx, hq⟩ => ?_
    obtain ⟨v, rfl, r⟩ := rps1 hx
    obtain ⟨a, us, rfl, _, ha, rs⟩ := rp_lst r
    rw [rps_ints rs] at ha
    exact ⟨a, ns, rfl, SqL.of ha, hq _ _ (Same.refl H) (.mkInt _)⟩
  · rename_i es
    obtain ⟨ns, h1, rfl⟩ := Option.map_eq_some_iff.mp he
    have := toInts_eq h1
    subst this
    refine CallR.imp (sum_tup hc) fun vs H Q ⟨hw, hx, hq⟩ => ?_
    obtain ⟨v, rfl, r⟩ := rps1 hx
    obtain ⟨a, us, rfl, _, ha, rs⟩ := rp_tup r
    rw [rps_ints rs] at ha
    exact ⟨a, ns, rfl, SqT.of ha, hq _ _ (Same.refl H) (.mkInt _)⟩
  · cases he
/-- the greatest, the least of a row of ints -/
def maxL : List Int → Int
  | [] => 0
  | [x] => x
  | x :: r => if maxL r > x then maxL r else x
def minL : List Int → Int
  | [] => 0
  | [x] => x
  | x :: r => if minL r < x then minL r else x
theorem maxL_spec : ∀ {ns : List Int}, ns ≠ [] → maxL ns ∈ ns ∧ ∀ y ∈ ns, y ≤ maxL ns
  | [], h => absurd rfl h
  | [x], _ => ⟨by simp [maxL], by simp [maxL]⟩
  | x :: y :: r, _ => by
    obtain ⟨h1, h2⟩ := maxL_spec (ns := y :: r) (by simp)
    unfold maxL
    split
    · refine ⟨List.mem_cons_of_mem _ h1, fun z hz => ?_⟩
      rcases List.mem_cons.mp hz with rfl | hz
      · omega
      · exact h2 z hz
    · refine ⟨List.mem_cons_self, fun z hz => ?_⟩
      rcases List.mem_cons.mp hz with rfl | hz
      · exact Int.le_refl _
      · have := h2 z hz; omega
theorem minL_spec : ∀ {ns : List Int}, ns ≠ [] → minL ns ∈ ns ∧ ∀ y ∈ ns, minL ns ≤ y
  | [], h => absurd rfl h
  | [x], _ => ⟨by simp [minL], by simp [minL]⟩
  | x :: y :: r, _ => by
    obtain ⟨h1, h2⟩ := minL_spec (ns := y :: r) (by simp)
    unfold minL
    split
    · refine ⟨List.mem_cons_of_mem _ h1, fun z hz => ?_⟩
      rcases List.mem_cons.mp hz with rfl | hz
      · omega
      · exact h2 z hz
    · refine ⟨List.mem_cons_self, fun z hz => ?_⟩
      rcases List.mem_cons.mp hz with rfl | hz
      · exact Int.le_refl _
      · have := h2 z hz; omega
def maxG : List D → Option D
  | [.int i, .int j] => some (.int (if j > i then j else i))
  | [.lst ds] => (toInts ds).bind fun ns => if ns ≠ [] then some (.int (maxL ns)) else none
  | _ => none
def minG : List D → Option D
  | [.int i, .int j] => some (.int (if j < i then j else i))
  | [.lst ds] => (toInts ds).bind fun ns => if ns ≠ [] then some (.int (minL ns)) else none
  | _ => none
theorem c_max (hc : X.calm = true) : CallD X (.builtin "max") maxG := callD_cases fun ds d p W he => by
  unfold maxG at he
  split at he
  · cases he
    refine CallR.imp (call_max2 hc) fun vs H Q ⟨hw, hx, hq⟩ => ?_
    obtain ⟨v, u, rfl, r1, r2⟩ := rps2 hx
    exact ⟨_, _, by rw [rp_int r1, rp_int r2], hq _ _ (Same.refl H) (.mkInt _)⟩
  · obtain ⟨ns, h1, h2⟩ := Option.bind_eq_some_iff.mp he
    split at h2
    · rename_i hne
      cases h2
      have := toInts_eq h1
      subst this
      refine CallR.imp (cr_max hc) fun vs H Q ⟨hw, hx, hq⟩ => ?_
      obtain ⟨v, rfl, r⟩ := rps1 hx
      obtain ⟨a, us, rfl, _, ha, rs⟩ := rp_lst r
      rw [rps_ints rs] at ha
      refine ⟨a, ns, rfl, SqL.of ha, List.length_pos_iff.mpr hne, fun m hm1 hm2 => ?_⟩
      obtain ⟨q1, q2⟩ := maxL_spec hne
      have : m = maxL ns := Int.le_antisymm (q2 m hm1) (hm2 _ q1)
      subst this
      exact hq _ _ (Same.refl H) (.mkInt _)
    · cases h2
  · cases he
theorem c_min (hc : X.calm = true) : CallD X (.builtin "min") minG := callD_cases fun ds d p W he => by
  unfold minG at he
  split at he
  · cases he
    refine CallR.imp (call_min2 hc) fun vs H Q ⟨hw, hx, hq⟩ => ?_
    obtain ⟨v, u, rfl, r1, r2⟩ := rps2 hx
    exact ⟨_, _, by rw [rp_int r1, rp_int r2], hq _ _ (Same.refl H) (.mkInt _)⟩
  · obtain ⟨ns, h1, h2⟩ := Option.bind_eq_some_iff.mp he
    split at h2
    · rename_i hne
      cases h2
      have := toInts_eq h1
      subst this
      refine CallR.imp (cr_min hc) fun vs H Q ⟨hw, hx, hq⟩ => ?_
      obtain ⟨v, rfl, r⟩ := rps1 hx
      obtain ⟨a, us, rfl, _, ha, rs⟩ := rp_lst r
      rw [rps_ints rs] at ha
      refine ⟨a, ns, rfl, SqL.of ha, List.length_pos_iff.mpr hne, fun m hm1 hm2 => ?_⟩
      obtain ⟨q1, q2⟩ := minL_spec hne
      have : m = minL ns := Int.le_antisymm (hm2 _ q1) (q2 m hm1)
      subst this
      exact hq _ _ (Same.refl H) (.mkInt _)
    · cases h2
  · cases he
def anyG : List D → Option D
  | [.lst ds] => (toBls ds).map fun ns => .bl (ns.any id)
  | _ => none
def allG : List D → Option D
  | [.lst ds] => (toBls ds).map fun ns => .bl (ns.all id)
  | _ => none
theorem c_any (hc : X.calm = true) : CallD X (.builtin "any") anyG := callD_cases fun ds d p W he => by
  unfold anyG at he
  split at he
  · obtain ⟨ns, h1, rfl⟩ := Option.map_eq_some_iff.mp he
    have := toBls_eq h1
    subst this
    refine CallR.imp (cr_any hc) fun vs H Q ⟨hw, hx, hq⟩ => ?_
    obtain ⟨v, rfl, r⟩ := rps1 hx
    obtain ⟨a, us, rfl, _, ha, rs⟩ := rp_lst r
    rw [rps_bls rs] at ha
    exact ⟨a, ns, rfl, SqL.of ha, hq _ _ (Same.refl H) (.mkBl _)⟩
  · cases he
theorem c_all (hc : X.calm = true) : CallD X (.builtin "all") allG := callD_cases fun ds d p W he => by
  unfold allG at he
  split at he
  · obtain ⟨ns, h1, rfl⟩ := Option.map_eq_some_iff.mp he
    have := toBls_eq h1
    subst this
    refine CallR.imp (cr_all hc) fun vs H Q ⟨hw, hx, hq⟩ => ?_
    obtain ⟨v, rfl, r⟩ := rps1 hx
    obtain ⟨a, us, rfl, _, ha, rs⟩ := rp_lst r
    rw [rps_bls rs] at ha
    exact ⟨a, ns, rfl, SqL.of ha, hq _ _ (Same.refl H) (.mkBl _)⟩
  · cases he

instance (i j : Int) : Decidable (RgOk i j) := by unfold RgOk; infer_instance
def lRg1 (m : M D) : M (List D) := bnd m fun d => match d with
  | .int j => if RgOk 0 j then ret (rngL 0 j) else fail
  | _ => fail
def lRg2 (ma mb : M D) : M (List D) := bnd ma fun d => bnd mb fun e => match d, e with
  | .int i, .int j => if RgOk i j then ret (rngL i j) else fail
  | _, _ => fail
theorem rng_rps {p : Addr} {W : AP} {H : Hp} {lo hi : Int} : Rps p W H (rngL lo hi) (rgV lo hi) := by
  have e : rngL lo hi = ((List.range (hi - lo).toNat).map fun i => lo + ((i : Nat) : Int)).map D.int := by simp [rngL, List.map_map, Function.comp_def]
  have e2 : rgV lo hi = ((List.range (hi - lo).toNat).map fun i => lo + ((i : Nat) : Int)).map V.int := by simp [rgV, List.map_map, Function.comp_def]
  rw [e, e2]; exact ints_rps
theorem l_rg1 {p1 p2 pos2 : Pos} (hc : X.calm = true) (hl : Gl X "list") (hlm : X.mg "list" = none) (hg : Gl X "range") (hm : X.mg "range" = none) (ha : SE X a ma) (na : starEach [a] X.env = (false, eval a X.env) :: starEach [] X.env := by rfl)
    (nb : starEach [.Call (.Name "range" p2) [a] [] pos2] X.env = (false, eval (.Call (.Name "range" p2) [a] [] pos2) X.env) :: starEach [] X.env := by rfl) : SL X (.Call (.Name "list" p1) [.Call (.Name "range" p2) [a] [] pos2] [] pos) (lRg1 ma) :=
  ⟨fun B => PE.imp (pe_listRg hc hl hlm (prg_1 hg hm (ha.pe B) na) nb) fun σ H Q ⟨s, d, s', k, e, q⟩ => by
    refine tI.bind k e fun dx s1 v H1 h1 e1 k1 ev1 r1 => ?_
    cases dx <;> simp only [fail] at e1 <;> try (cases e1; done)
    split at e1
    · rename_i j hj
      obtain ⟨rfl, rfl⟩ := ret_some e1
      refine ⟨j, rp_int r1, hj, fun a n => ?_⟩
      obtain ⟨kp, ev2, r2⟩ := k1.newList (same_new n) n upd_same (rng_rps (lo := 0) (hi := j))
      exact q a _ _ kp (ev1.trans ev2) (k1.new n) (k1.wt.new n) upd_same r2
    · cases e1⟩
theorem l_rg2 {p1 p2 pos2 : Pos} (hc : X.calm = true) (hl : Gl X "list") (hlm : X.mg "list" = none) (hg : Gl X "range") (hm : X.mg "range" = none) (ha : SE X a ma) (hb : SE X b mb) (na : starEach [a, b] X.env = (false, eval a X.env) :: starEach [b] X.env := by rfl)
    (nb0 : starEach [b] X.env = (false, eval b X.env) :: starEach [] X.env := by rfl) (hp0 : (backTo pos (starEach [b] X.env)).any (·.1) = false := by rfl)
    (nb : starEach [.Call (.Name "range" p2) [a, b] [] pos2] X.env = (false, eval (.Call (.Name "range" p2) [a, b] [] pos2) X.env) :: starEach [] X.env := by rfl) (hp2 : (backTo pos2 (starEach [b] X.env)).any (·.1) = false := by rfl) : SL X (.Call (.Name "list" p1) [.Call (.Name "range" p2) [a, b] [] pos2] [] pos) (lRg2 ma mb) :=
  ⟨fun B => PE.imp (pe_listRg hc hl hlm (prg_2 hg hm (ha.pe B) (hb.pe B) na nb0 hp2) nb) fun σ H Q ⟨s, d, s', k, e, q⟩ => by
    refine tI.bind k e fun dx s1 v H1 h1 e1 k1 ev1 r1 => ?_
    refine tI.bind k1 e1 fun dy s2 v2 H2 h2 e2 k2 ev2 r2 => ?_
    cases dx <;> cases dy <;> (try simp only [fail] at e2) <;> try (cases e2; done)
    split at e2
    · rename_i i j hj
      obtain ⟨rfl, rfl⟩ := ret_some e2
      refine ⟨i, j, rp_int r1, rp_int r2, hj, fun a n => ?_⟩
      obtain ⟨kp, ev3, r3⟩ := k2.newList (same_new n) n upd_same (rng_rps (lo := i) (hi := j))
      exact q a _ _ kp ((ev1.trans ev2).trans ev3) (k2.new n) (k2.wt.new n) upd_same r3
    · cases e2⟩
theorem s_tupRg1 {p1 p2 pos2 : Pos} (hc : X.calm = true) (hl : Gl X "tuple") (hlm : X.mg "tuple" = none) (hg : Gl X "range") (hm : X.mg "range" = none) (ha : SE X a ma) (na : starEach [a] X.env = (false, eval a X.env) :: starEach [] X.env := by rfl)
    (nb : starEach [.Call (.Name "range" p2) [a] [] pos2] X.env = (false, eval (.Call (.Name "range" p2) [a] [] pos2) X.env) :: starEach [] X.env := by rfl) : SE X (.Call (.Name "tuple" p1) [.Call (.Name "range" p2) [a] [] pos2] [] pos) (bnd (lRg1 ma) fun ds => ret (.tup ds)) :=
  ⟨fun B => PE.imp (pe_tupRg hc hl hlm (prg_1 hg hm (ha.pe B) na) nb) fun σ H Q ⟨s, d, s', k, e, q⟩ => by
    obtain ⟨ds, s0, e, e0⟩ := bnd_some e
    obtain ⟨rfl, rfl⟩ := ret_some e0
    refine tI.bind k e fun dx s1 v H1 h1 e1 k1 ev1 r1 => ?_
    cases dx <;> simp only [fail] at e1 <;> try (cases e1; done)
    split at e1
    · rename_i j hj
      obtain ⟨rfl, rfl⟩ := ret_some e1
      exact ⟨j, rp_int r1, hj, fun a n => q _ _ (k1.same (same_new n)) (ev1.trans (Ev.same (same_new n))) (.newTup k1.wt n rng_rps)⟩
    · cases e1⟩

def okSort (ds : List PyData) : Bool := ds.all (fun a => ds.all fun b => PySem.W.alike a b) && ((ds.all fun a => match a with | .tuple (_ :: _) => true | _ => false) || ds.all fun a => match a with | .none => false | .tuple _ => false | _ => true) && (ds.all fun a => decide (a.depth ≤ 60)) && PyData.canLayAll0 ds
def srtG : List D → Option (List D)
  | [.lst ds] => if okSort (D.pys ds) = true ∧ ds.length ≤ sizeLine then some (ds.mergeSort (PySem.W.dataLe false D.py)) else none
  | [.tup ds] => if okSort (D.pys ds) = true ∧ ds.length ≤ sizeLine ∧ False then some ds else none
  | _ => none
theorem vals_zip : ∀ {vs : List V} {us : List Value} {ds : List D}, Vals vs us → ds.length = vs.length → PySem.W.EachIs (fun u (b : D × V) => RelV b.2 u) us (ds.zip vs)
  | _, _, [], .nil, _ => .nil
  | _, _, _ :: _, .nil, h => by simp at h
  | _, _, [], .cons _ _, h => by simp at h
  | _, _, d :: ds, .cons r t, h => .cons r (vals_zip t (by simpa using h))
theorem reads_zip {p : Addr} {W : AP} {pins : List (Addr × Obj)} {σ : Sg} {H : Hp} {s : Shared} (I : Inv X pins σ H s) : ∀ {vs : List V} {us : List Value} {ds : List D}, Vals vs us → Rps p W H ds vs → PyData.canLayAll0 (D.pys ds) = true →
    PySem.W.EachIs (fun u (b : D × V) => ∃ as, Reads s.heap u b.1.py as) us (ds.zip vs)
  | _, _, [], .nil, _, _ => .nil
  | _, _, _ :: _, .nil, h, _ => by simp [Rps] at h
  | _, _, [], .cons _ _, h, _ => by simp [Rps] at h
  | _, _, d :: ds, .cons r t, h, hc => by
    simp only [Rps] at h
    obtain ⟨v, r', e, h1, h2⟩ := h
    cases e
    simp only [D.pys, PyData.canLayAll0, Bool.and_eq_true] at hc
    exact .cons (Dp.reads I _ _ _ (h1.dp _ _ hc.1) r) (reads_zip I t h2 hc.2)
theorem vals_of_each : ∀ {bs : List (D × V)} {us : List Value}, PySem.W.EachIs (fun u (b : D × V) => RelV b.2 u) us bs → Vals (bs.map (·.2)) us
  | _, _, .nil => .nil
  | _, _, .cons r t => .cons r (vals_of_each t)
theorem zip_fst {α β : Type} : ∀ {xs : List α} {ys : List β}, xs.length = ys.length → (xs.zip ys).map (·.1) = xs
  | [], [], _ => rfl
  | _ :: _, [], h => by simp at h
  | [], _ :: _, _ => rfl
  | x :: xs, y :: ys, h => by simp [zip_fst (xs := xs) (ys := ys) (by simpa using h)]
theorem c_srt {k : Nat} (hr : RG k X.A) : CallL X (.builtin "sorted") srtG := by
  intro pins s σ H xs us Q I r ⟨p, W, ds, es, hw, hx, he, hq⟩
  unfold srtG at he
  split at he
  · rename_i ds
    split at he
    · rename_i hk
      cases he
      obtain ⟨hk, hsz⟩ := hk
      obtain ⟨v, rfl, r'⟩ := rps1 hx
      obtain ⟨a, ws, rfl, _, ha, rs⟩ := rp_lst r'
      obtain ⟨u0, rfl, r0⟩ := r.one
      cases r0
      obtain ⟨its, rv, pl, hz⟩ := I.list (SqL.of ha)
      unfold okSort at hk
      simp only [Bool.and_eq_true, Bool.or_eq_true] at hk
      obtain ⟨⟨⟨hal, hst⟩, hdp⟩, hcl⟩ := hk
      have hl := rs.length
      have AL : PySem.W.AllAlike (D.pys ds) := fun d hd d' hd' => List.all_eq_true.mp (List.all_eq_true.mp hal d hd) d' hd'
      have emap : (ds.zip ws).map (fun b => b.1.py) = D.pys ds := by
        rw [pys_map, ← zip_fst hl, List.map_map]
        · rw [zip_fst hl]; rfl
      have hS : PySem.W.Sortable (D.pys ds) := by
        rcases hst with z | z
        · refine .inl fun d hd => ?_
          have := List.all_eq_true.mp z d hd
          split at this
          · exact ⟨_, _, rfl⟩
          · cases this
        · refine .inr fun d hd => ?_
          have := List.all_eq_true.mp z d hd
          cases d <;> simp at this ⊢
      refine PySem.W.sorted_data (R := fun u (b : D × V) => RelV b.2 u) (enc := fun b => b.1.py) pl.isList (vals_zip rv hl) (reads_zip I rv rs hcl) (by rw [emap]; exact AL) (by rw [emap]; exact hS) ?_ (fun b hb => ?_) fun out ho eo => ?_
      · rw [List.length_zip, hl, Nat.min_self, ← hl]; exact hsz
      · have hd : b.1.py ∈ D.pys ds := by rw [← emap]; exact List.mem_map.mpr ⟨b, hb, rfl⟩
        have := of_decide_eq_true (List.all_eq_true.mp hdp _ hd)
        have := hr.r.units
        omega
      · have rv' := vals_of_each eo
        obtain ⟨ep, he'⟩ := PyProof.Rows.sortedAll_at s.heap its out.toArray
        have perm : ((ds.zip ws).mergeSort (PySem.W.dataLe false fun b => b.1.py)).Perm (ds.zip ws) := List.mergeSort_perm _ _
        have hlen : (((ds.zip ws).mergeSort (PySem.W.dataLe false fun b => b.1.py)).map (·.2)).length ≤ sizeLine := by
          rw [List.length_map, perm.length_eq, List.length_zip, hl, Nat.min_self, ← hl]; exact hsz
        have hn : H (s.heap.objs.size + 1) = none := I.hok.fresh (Nat.le_succ _)
        refine ⟨.ref (s.heap.objs.size + 1), upd H (s.heap.objs.size + 1) (.lst (((ds.zip ws).mergeSort (PySem.W.dataLe false fun b => b.1.py)).map (·.2))), I.laid (t' := s.toks) (fun _ _ => PyProof.Rows.sortedAll_old) (Nat.le_succ _) ⟨hlen, out, ep, rv', he'⟩, rfl, ?_⟩
        refine hq _ _ _ (same_new hn) hn upd_same ?_
        have e1 : ds.mergeSort (PySem.W.dataLe false D.py) = ((ds.zip ws).mergeSort (PySem.W.dataLe false fun b => b.1.py)).map (·.1) := by
          have q := List.map_mergeSort (f := fun b : D × V => b.1) (r := PySem.W.dataLe false fun b : D × V => b.1.py) (s := PySem.W.dataLe false D.py) (l := ds.zip ws) fun a _ b _ => rfl
          rw [zip_fst hl] at q
          exact q.symm
        rw [e1]
        have each : ∀ bs : List (D × V), (∀ b ∈ bs, Rp p W H b.1 b.2) → Rps p W H (bs.map (·.1)) (bs.map (·.2)) := fun bs => by
          induction bs with
          | nil => intro _; exact .nil
          | cons b bs ih => intro h; exact .cons (h b List.mem_cons_self) (ih fun x hx => h x (List.mem_cons_of_mem _ hx))
        refine each _ fun b hb => ?_
        have hb' := perm.mem_iff.mp hb
        obtain ⟨i, hi⟩ := List.mem_iff_getElem?.mp hb'
        rw [List.getElem?_zip_eq_some] at hi
        exact rp_get rs hi.1 hi.2
    · cases he
  · split at he
    · rename_i hk; exact absurd hk.2.2 id
    · cases he
  · cases he

def ixD : D → D → Option D
  | .lst ds, .int i => atI ds i
  | .tup ds, .int i => atI ds i
  | .str z, .int i => if z.length ≤ sizeLine then (atI z.cps.toList i).map fun c => .str ⟨#[c]⟩ else none
  | _, _ => none
theorem rps_atI {p : Addr} {W : AP} {H : Hp} {ds : List D} {vs : List V} {i : Int} {d : D} (r : Rps p W H ds vs) (h : atI ds i = some d) : ∃ v, atI vs i = some v ∧ Rp p W H d v := by
  unfold atI at h ⊢
  rw [r.length] at h
  obtain ⟨j, h1, h2⟩ := Option.bind_eq_some_iff.mp h
  obtain ⟨v, h3, h4⟩ := r.get h2
  exact ⟨v, by rw [h1]; exact h3, h4⟩
theorem ixr : IxR X (rB ixD) := by
  intro value slice pins s σ H x y v u Q I rx ry ⟨p, W, dx, dy, d, hw, hx, hy, he, hq⟩ hs
  unfold ixD at he
  split at he
  · obtain ⟨a, vs, rfl, _, ha, rs⟩ := rp_lst hx
    obtain ⟨w', h1, h2⟩ := rps_atI rs he
    exact ix_list value slice pins s σ H _ _ v u Q I rx ry ⟨a, vs, _, w', rfl, rp_int hy, SqL.of ha, h1, hq _ _ (Same.refl H) h2⟩ hs
  · obtain ⟨a, vs, rfl, _, ha, rs⟩ := rp_tup hx
    obtain ⟨w', h1, h2⟩ := rps_atI rs he
    exact ix_tup value slice pins s σ H _ _ v u Q I rx ry ⟨a, vs, _, w', rfl, rp_int hy, SqT.of ha, h1, hq _ _ (Same.refl H) h2⟩ hs
  · split at he
    · rename_i hl
      obtain ⟨c, h1, rfl⟩ := Option.map_eq_some_iff.mp he
      exact ix_str value slice pins s σ H _ _ v u Q I rx ry ⟨_, _, c, rp_str hx, rp_int hy, hl, h1, hq _ _ (Same.refl H) (.mkStr _)⟩ hs
    · cases he
  · cases he
theorem s_ix (ha : SE X a ma) (hb : SE X b mb) (hs : PlainIx b := by exact fun _ _ => rfl) : SE X (.Subscript a b pos) (eBin ixD ma mb) :=
  ⟨fun B => PE.imp (pe_ix ixr (ha.pe B) (hb.pe B) hs) fun σ H Q h => bin_go h⟩

def cutL {α : Type} (xs : List α) (lo hi : Option Int) : List α := (xs.drop (HT.sIx xs.length 0 lo)).take (HT.sIx xs.length xs.length hi - HT.sIx xs.length 0 lo)
theorem rps_cut {p : Addr} {W : AP} {H : Hp} {ds : List D} {vs : List V} (r : Rps p W H ds vs) (lo hi : Option Int) : Rps p W H (cutL ds lo hi) (cutV vs lo hi) := by
  unfold cutL cutV
  rw [r.length]
  exact (r.drop _).take _
def slD (lo hi : Option Int) : D → Option D
  | .lst ds => some (.lst (cutL ds lo hi))
  | .tup ds => some (.tup (cutL ds lo hi))
  | _ => none
def rSl : V → Option Int → Option Int → Hp → VK → Prop := fun x lo hi H Q => ∃ p W dx d, WT W H ∧ Rp p W H dx x ∧ slD lo hi dx = some d ∧ ∀ v H', Same H H' → Rp p W H' d v → Q v H'
theorem slr : L2.SlR X rSl := by
  intro pins s σ H x v vl vu lo hi sl Q I rx hs pl pu ⟨p, W, dx, d, hw, hx, he, hq⟩
  unfold slD at he
  split at he
  · cases he
    obtain ⟨a, vs, rfl, _, ha, rs⟩ := rp_lst hx
    exact sl_list pins s σ H _ v vl vu lo hi sl Q I rx hs pl pu ⟨a, vs, rfl, SqL.of ha, fun q nq => hq _ _ (same_new nq) (.newLst hw nq (rps_cut rs lo hi))⟩
  · cases he
    rename_i ds
    obtain ⟨a, vs, rfl, na, ha, rs⟩ := rp_tup hx
    refine sl_tupA pins s σ H _ v vl vu lo hi sl Q I rx hs pl pu ⟨a, vs, rfl, SqT.of ha, fun ⟨z1, z2⟩ => ?_, fun _ q nq => hq _ _ (same_new nq) (.newTup hw nq (rps_cut rs lo hi))⟩
    have e : cutL ds lo hi = ds := by
      unfold cutL
      rw [rs.length, z1, z2]
      simp only [Nat.sub_zero, List.drop_zero]
      rw [← rs.length, List.take_length]
    rw [e] at hq
    exact hq _ _ (Same.refl H) (.mkTup na ha rs)
  · cases he
def tO (B : Bs) (m : M (Option Int)) : TO := fun σ H Q => ∃ s d s', StOk B σ H s ∧ m s = some (d, s') ∧ ∀ H', StOk B σ H' s' → Ev (B.W s.env σ) H (B.W s'.env σ) H' → Q d H'
structure SO (X : Cx) (e : Option Expr) (m : M (Option Int)) : Prop where
  po : ∀ B, PO X e (tO B m)
theorem PO.imp {e : Option Expr} {t t' : TO} (h : PO X e t) (f : ∀ σ H Q, t' σ H Q → t σ H Q) : PO X e t' := ⟨fun pins s σ H Q I q => h.run pins s σ H Q I (f _ _ _ q)⟩
def oNo : M (Option Int) := ret none
def oAt (m : M D) : M (Option Int) := bnd m fun d => match d with
  | .int i => ret (some i)
  | _ => fail
theorem o_no : SO X none oNo := ⟨fun B => PO.imp po_none fun σ H Q ⟨s, d, s', k, e, q⟩ => by
  obtain ⟨rfl, rfl⟩ := ret_some e
  exact q H k Ev.refl⟩
theorem o_at (h : SE X e m) : SO X (some e) (oAt m) := ⟨fun B => PO.imp (po_some (h.pe B)) fun σ H Q ⟨s, d, s', k, e, q⟩ => by
  refine tI.bind k e fun dx s1 v H1 h1 e1 k1 ev1 r1 => ?_
  cases dx <;> simp only [fail] at e1 <;> try (cases e1; done)
  obtain ⟨rfl, rfl⟩ := ret_some e1
  exact ⟨_, rp_int r1, q H1 k1 ev1⟩⟩
def eSl (m : M D) (lo hi : M (Option Int)) : M D := bnd m fun d => bnd lo fun l => bnd hi fun h => lift (slD l h d)
theorem s_slice {lo hi : Option Expr} {ml mh : M (Option Int)} {p2 : Pos} (ha : SE X a ma) (hl : SO X lo ml) (hh : SO X hi mh) : SE X (.Subscript a (.Slice lo hi none p2) pos) (eSl ma ml mh) :=
  ⟨fun B => PE.imp (pe_slice slr (ha.pe B) (hl.po B) (hh.po B)) fun σ H Q ⟨s, d, s', k, e, q⟩ => by
    refine tI.bind k e fun dx s1 v H1 h1 e1 k1 ev1 r1 => ?_
    obtain ⟨l, s2, e2, e3⟩ := bnd_some e1
    refine ⟨s1, l, s2, k1, e2, fun H2 k2 ev2 => ?_⟩
    obtain ⟨h, s3, e4, e5⟩ := bnd_some e3
    refine ⟨s2, h, s3, k2, e4, fun H3 k3 ev3 => ?_⟩
    obtain ⟨e6, rfl⟩ := lift_some e5
    exact ⟨B.p, _, dx, d, k3.wt, r1.ev (ev2.trans ev3), e6, fun v H' sm r => q v H' (k3.same sm) ((ev1.trans (ev2.trans ev3)).trans (Ev.same sm)) r⟩⟩
end
end GH

namespace GH
open PySem PySem.Spec PyProof.Rows L2

/-- a list (true) or a tuple (false) that stands at a -/
def CN (k : Bool) (a : Addr) (items : Array Value) (h : Heap) : Prop := match k with
  | true => h.IsList a items
  | false => h.IsTuple a items
def ITr (k : Bool) (it a : Addr) (i : Nat) (h : Heap) : Prop := match k with
  | true => h.IsListIter it a i
  | false => h.IsTupleIter it a i
def itO (k : Bool) (a : Addr) : Obj := match k with
  | true => { cls := .type "list_iterator", data := .fields #[.ref a, .int 0 0] }
  | false => { cls := .type "tuple_iterator", data := .fields #[.ref a, .int 0 0] }
theorem beg (k : Bool) (a : Addr) (items : Array Value) : Begins (.ref a) (itO k a) (CN k a items) := by
  cases k with
  | true => exact begins_list a items
  | false => exact begins_tuple a items
theorem itO_at {k : Bool} {it a : Addr} {h : Heap} (e : h.get? it = some (itO k a)) : ITr k it a 0 h := by
  cases k with
  | true => exact ⟨_, e, rfl, rfl⟩
  | false => exact ⟨_, e, rfl, rfl⟩
theorem draws (prog : Program) (w : World) (A : Around) (hh : A.handled = none) (k : Bool) (it a : Addr) (hne : a ≠ it) (items : Array Value) :
    Draws prog w A it [it, a] items.size (fun i v => items[i]? = some v) (fun i h => ITr k it a i h ∧ CN k a items h) := by
  cases k with
  | true => exact Draws.list hh it a hne items
  | false => exact Draws.tuple hh it a hne items
theorem ITr.obj {k : Bool} {it a : Addr} {i : Nat} {h : Heap} (x : ITr k it a i h) : ∃ o, h.get? it = some o ∧ ∀ v, o.data ≠ .cell v := by
  cases k with
  | true =>
    obtain ⟨o, e, _, d⟩ := x
    exact ⟨o, e, fun v q => by rw [d] at q; cases q⟩
  | false =>
    obtain ⟨o, e, _, d⟩ := x
    exact ⟨o, e, fun v q => by rw [d] at q; cases q⟩
theorem ITr.keep {k : Bool} {it a : Addr} {i : Nat} {h h' : Heap} (x : ITr k it a i h) (kp : ∀ o, h.get? it = some o → h'.get? it = some o) : ITr k it a i h' := by
  cases k with
  | true => exact Heap.IsListIter.at x kp
  | false => exact Heap.IsTupleIter.at x kp
/-- what stands at a in the abstract heap -/
def SqA (K : PySem.W.Frag) (H : Hp) (k : Bool) (a : Addr) (xs : List V) : Prop := match k with
  | true => SqL K H a xs
  | false => SqT K H a xs
theorem SqA.cn {X : Cx} {pins : List (Addr × Obj)} {σ : Sg} {H : Hp} {s : Shared} {k : Bool} {a : Addr} {xs : List V} (I : Inv X pins σ H s) (h : SqA X.K H k a xs) : ∃ its : List Value, Vals xs its ∧ CN k a its.toArray s.heap ∧ xs.length ≤ sizeLine := by
  cases k with
  | true =>
    obtain ⟨its, r, p, z⟩ := I.list h
    exact ⟨its, r, p.isList, z⟩
  | false =>
    obtain ⟨its, r, p, z⟩ := I.tuple h
    exact ⟨its, r, p, z⟩
theorem CN.lt {k : Bool} {a : Addr} {items : Array Value} {h : Heap} (x : CN k a items h) : a < h.objs.size := by
  cases k with
  | true => obtain ⟨o, e, _⟩ := x; exact Heap.lt_size e
  | false => obtain ⟨o, e, _⟩ := x; exact Heap.lt_size e
/-- rows of new tuples: turn i gives row i, while C stands -/
def ItN (n : Nat) (C : Hp → Prop) (row : Nat → List V) : It :=
  ⟨fun i H => i < n ∧ C H, fun i H v H' => ∃ T, v = .ref T ∧ H T = none ∧ H' = upd H T (.tup (row i)), fun i H => n ≤ i ∧ C H⟩
theorem newTup_ok {X : Cx} {pins : List (Addr × Obj)} {σ : Sg} {H : Hp} {s : Shared} {fp : List Addr} {T : Addr} {row : List V} {us : List Value} {h' : Heap} {tk : Nat} (I : Inv X pins σ H s) (hf : ∀ b ∈ fp, FpOk X pins H b)
    (hk : ∀ b o, b ∉ fp → s.heap.get? b = some o → h'.get? b = some o) (hT : s.heap.objs.size ≤ T) (hI : h'.IsTuple T us.toArray) (hl : row.length ≤ sizeLine) (r : Vals row us) :
    Inv X pins σ (upd H T (.tup row)) { s with heap := h', toks := tk } :=
  I.turnedNew (t' := tk) (ch := fp) hk hf hT ⟨hl, us, r, hI⟩

theorem turn_en {P : Program} {w : World} {K : PySem.W.Frag} {elts : List Expr} {kk : Nat} {tpos : Pos} {k : Bool} {a e it : Addr} {xs : List V} (hei : e ≠ it) :
    Turn P w K (.Tuple elts kk tpos) (ItN xs.length (fun H => SqA K H k a xs) fun i => [.int ((i : Nat) : Int), (xs[i]?).getD .non]) [e, it] e (fun i h => (∃ old, IsEnum h e it ((0 : Int) + (i : Nat)) old) ∧ ITr k it a i h) where
  mem := by simp
  obj := fun i h st b hb => by
    obtain ⟨⟨old, he⟩, hi⟩ := st
    rcases List.mem_cons.mp hb with q | hb
    · subst q; exact ⟨_, he, fun v q => nomatch q⟩
    · obtain rfl : b = it := List.mem_singleton.mp hb
      exact hi.obj
  keep := fun i h h' st k' => ⟨let ⟨old, he⟩ := st.1; ⟨old, k' e (by simp) _ he⟩, st.2.keep fun o q => k' it (by simp) o q⟩
  item := by
    intro X hP hw hK hc i pins s σ H E I hf st hg
    subst hP hw hK
    obtain ⟨hlt, hA⟩ := hg
    obtain ⟨its, rv, cn, hz⟩ := hA.cn I
    have hsz : its.toArray.size = xs.length := by rw [List.size_toArray]; exact rv.length.symm
    have ha : a ≠ e := fun z => by
      have := (hf e (by simp)).1
      subst z
      cases k with
      | true =>
        rcases hA with (q | ⟨o, q⟩) | ⟨o, _, _, q, _⟩
        · rw [this] at q; cases q
        · rw [this] at q; cases q
        · obtain ⟨o', e', d⟩ := let ⟨⟨old, he⟩, _⟩ := st; (⟨_, he, rfl⟩ : ∃ o, s.heap.get? a = some o ∧ o.cls = Value.type "enumerate")
          obtain ⟨o2, e2, c2, _⟩ := cn
          rw [e'] at e2; cases e2
          rw [d] at c2; exact absurd c2 (by decide)
      | false =>
        rcases hA with (q | ⟨o, q⟩) | ⟨o, _, _, q, _⟩
        · rw [this] at q; cases q
        · rw [this] at q; cases q
        · obtain ⟨o', e', d⟩ := let ⟨⟨old, he⟩, _⟩ := st; (⟨_, he, rfl⟩ : ∃ o, s.heap.get? a = some o ∧ o.cls = Value.type "enumerate")
          obtain ⟨o2, e2, c2, _⟩ := cn
          rw [e'] at e2; cases e2
          rw [d] at c2; exact absurd c2 (by decide)
    have hai : a ≠ it := fun z => by
      subst z
      obtain ⟨o, e1, _⟩ := st.2.obj
      cases k with
      | true =>
        obtain ⟨o1, q1, c1, _⟩ := st.2
        obtain ⟨o2, q2, c2, _⟩ := cn
        rw [q1] at q2; cases q2
        rw [c1] at c2; exact absurd c2 (by decide)
      | false =>
        obtain ⟨o1, q1, c1, _⟩ := st.2
        obtain ⟨o2, q2, c2, _⟩ := cn
        rw [q1] at q2; cases q2
        rw [c1] at c2; exact absurd c2 (by decide)
    have D := draws X.prog X.w X.A.in1 (I.ok.hd hc) k it a hai its.toArray
    have W := GoesN.enumFrom (elts := elts) (x1 := kk) (pos := tpos) 0 D e hei (by simp [hei, Ne.symm ha]) (by simp)
    refine W.goes i s _ E (by rw [hsz]; exact hlt) ⟨st.1, st.2, cn⟩ fun v h' tk hY st' hk htk => ?_
    obtain ⟨T, t, x, rfl, hT, hx, hI⟩ := hY
    have hx' : its[i]? = some x := by simpa using hx
    obtain ⟨y, hy⟩ : ∃ y, xs[i]? = some y := ⟨_, List.getElem?_eq_getElem hlt⟩
    obtain ⟨u, hu, ru⟩ := rv.get hy
    rw [hx'] at hu; cases hu
    have I1 := newTup_ok (us := [.int (0 + (i : Int)) t, x]) (row := [V.int ((i : Nat) : Int), (xs[i]?).getD .non]) (tk := tk) I hf (fun b o hb q => hk b o hb q) hT hI (by show 2 ≤ sizeLine; decide)
      (.cons ⟨t, by rw [Int.zero_add]⟩ (.cons (by rw [hy]; exact ru) .nil))
    refine ⟨.ref T, _, I1, rfl, ⟨T, rfl, I.hok.fresh hT, rfl⟩, ⟨st'.1, st'.2.1⟩, fun b hb => ?_⟩
    have hbl : b < s.heap.objs.size := by
      rcases List.mem_cons.mp hb with q | hb
      · subst q; obtain ⟨⟨old, he⟩, _⟩ := st; exact Heap.lt_size he
      · obtain rfl : b = it := List.mem_singleton.mp hb
        obtain ⟨o, e1, _⟩ := st.2.obj; exact Heap.lt_size e1
    rw [upd_ne (Nat.ne_of_lt (Nat.lt_of_lt_of_le hbl hT))]
    exact (hf b hb).1
  done := by
    intro X hP hw hK hc i pins s σ H E I hf st hg
    subst hP hw hK
    obtain ⟨hlt, hA⟩ := hg
    obtain ⟨its, rv, cn, hz⟩ := hA.cn I
    have hsz : its.length = xs.length := rv.length.symm
    obtain ⟨⟨old, he⟩, hi⟩ := st
    cases k with
    | true =>
      refine wpAny_pyNext_enum_endD (n := i) (fp := [it, a]) (P := fun j v => its.toArray[j]? = some v ∧ j < i) (St := fun j h => j = i ∧ h.IsListIter it a j ∧ h.IsList a its.toArray) ⟨?_, ?_, ?_, ?_⟩ he ⟨rfl, hi, cn⟩ fun h' hx => ⟨rfl, I.turnedL (t' := s.toks) (ch := [e, it]) (fun b o hb q => hx b o (fun z => hb (by simp [z])) q) hf⟩
      · exact fun _ _ st => let ⟨o, ho, _⟩ := st.2.1; ⟨o, ho⟩
      · exact fun _ _ _ st hk => ⟨st.1, st.2.1.at fun o e => hk it (by simp) o e, st.2.2.at fun o e => hk a (by simp) o e⟩
      · exact fun j _ _ _ hj st => absurd st.1 (Nat.ne_of_lt hj)
      · exact fun s' Q E' st hE => wpAny_nextOf_list_end (I.ok.hd hc) st.2.1 st.2.2 (by simp; omega) hE
    | false =>
      refine wpAny_pyNext_enum_endD (n := i) (fp := [it, a]) (P := fun j v => its.toArray[j]? = some v ∧ j < i) (St := fun j h => j = i ∧ h.IsTupleIter it a j ∧ h.IsTuple a its.toArray) ⟨?_, ?_, ?_, ?_⟩ he ⟨rfl, hi, cn⟩ fun h' hx => ⟨rfl, I.turnedL (t' := s.toks) (ch := [e, it]) (fun b o hb q => hx b o (fun z => hb (by simp [z])) q) hf⟩
      · exact fun _ _ st => let ⟨o, ho, _⟩ := st.2.1; ⟨o, ho⟩
      · exact fun _ _ _ st hk => ⟨st.1, st.2.1.at fun o e => hk it (by simp) o e, st.2.2.at fun o e => hk a (by simp) o e⟩
      · exact fun j _ _ _ hj st => absurd st.1 (Nat.ne_of_lt hj)
      · exact fun s' Q E' st hE => wpAny_nextOf_tuple_end (I.ok.hd hc) st.2.1 st.2.2 (by simp; omega) hE
  self := fun A i s Q E st h => let ⟨⟨old, he⟩, _⟩ := st; wpAny_pyIter_enum he h
/-- as ItN, its end at n alone -/
def ItZ (n : Nat) (C : Hp → Prop) (row : Nat → List V) : It :=
  ⟨fun i H => i < n ∧ C H, fun i H v H' => ∃ T, v = .ref T ∧ H T = none ∧ H' = upd H T (.tup (row i)), fun i H => i = n ∧ C H⟩
theorem turn_z2 {P : Program} {w : World} {K : PySem.W.Frag} {elts : List Expr} {kk N : Nat} {tpos : Pos} {k1 k2 : Bool} {a1 a2 : Addr} {x1 x2 : List V} (h1 : a1 < N) (h2 : a2 < N) :
    Turn P w K (.Tuple elts kk tpos) (ItZ (min x1.length x2.length) (fun H => SqA K H k1 a1 x1 ∧ SqA K H k2 a2 x2) fun i => [(x1[i]?).getD .non, (x2[i]?).getD .non]) [N + 4, N + 2, N + 3, N, N + 1] (N + 4) (fun i h => IsZip h (N + 4) (N + 2) (N + 3) .none ∧ IsTupOf2 h (N + 2) (.ref N) (.ref (N + 1)) ∧ (∃ b1 b2, IsTupOf2 h (N + 3) b1 b2) ∧ ITr k1 N a1 i h ∧ ITr k2 (N + 1) a2 i h) where
  mem := by simp
  obj := fun i h st b hb => by
    obtain ⟨hz, hT, ⟨c1, c2, hO⟩, q1, q2⟩ := st
    simp only [List.mem_cons, List.not_mem_nil, or_false] at hb
    rcases hb with e | e | e | e | e
    · rw [e]; exact ⟨_, hz, fun v q => nomatch q⟩
    · rw [e]; exact ⟨_, hT, fun v q => nomatch q⟩
    · rw [e]; exact ⟨_, hO, fun v q => nomatch q⟩
    · rw [e]; exact q1.obj
    · rw [e]; exact q2.obj
  keep := fun i h h' st k' => by
    obtain ⟨hz, hT, ⟨c1, c2, hO⟩, q1, q2⟩ := st
    exact ⟨k' _ (by simp) _ hz, k' _ (by simp) _ hT, ⟨c1, c2, k' _ (by simp) _ hO⟩, q1.keep fun o q => k' _ (by simp) o q, q2.keep fun o q => k' _ (by simp) o q⟩
  item := by
    intro X hP hw hK hc i pins s σ H E I hf st hg
    subst hP hw hK
    obtain ⟨hlt, hA1, hA2⟩ := hg
    obtain ⟨its1, rv1, cn1, hz1⟩ := hA1.cn I
    have hs1 : its1.toArray.size = x1.length := by rw [List.size_toArray]; exact rv1.length.symm
    have D1 := draws X.prog X.w X.A.in1 (I.ok.hd hc) k1 N a1 (Nat.ne_of_lt h1) its1.toArray
    obtain ⟨its2, rv2, cn2, hz2⟩ := hA2.cn I
    have hs2 : its2.toArray.size = x2.length := by rw [List.size_toArray]; exact rv2.length.symm
    have D2 := draws X.prog X.w X.A.in1 (I.ok.hd hc) k2 (N + 1) a2 (Nat.ne_of_lt (Nat.lt_of_lt_of_le h2 (Nat.le_add_right N 1))) its2.toArray
    have sub : ∀ {b : Addr}, b ∈ ([N + 4, N + 3, N, N + 1] : List Addr) → b ∈ ([N + 4, N + 2, N + 3, N, N + 1] : List Addr) := fun {b} z => by
      simp only [List.mem_cons, List.not_mem_nil, or_false] at z
      rcases z with e | e | e | e <;> simp [e]
    have W := GoesN.zip2 (elts := elts) (x1 := kk) (pos := tpos) (zip_sep2 (N := N) (fp1 := [a1]) (fp2 := [a2]) (fun b hb => by obtain rfl := List.mem_singleton.mp hb; exact h1) (fun b hb => by obtain rfl := List.mem_singleton.mp hb; exact h2)) D1 D2
    refine W.goes i s _ E (by rw [hs1, hs2]; exact hlt) ⟨st.1, st.2.1, st.2.2.1, ⟨st.2.2.2.1, cn1⟩, ⟨st.2.2.2.2, cn2⟩⟩ fun v h' tk hY st' hk htk => ?_
    obtain ⟨T, u1, u2, rfl, hT, hx1, hx2, hI⟩ := hY
    have hx1' : its1[i]? = some u1 := by simpa using hx1
    obtain ⟨y1, hy1⟩ : ∃ y, x1[i]? = some y := ⟨_, List.getElem?_eq_getElem (show i < x1.length by omega)⟩
    obtain ⟨w1, hw1, ru1⟩ := rv1.get hy1
    rw [hx1'] at hw1; cases hw1
    have hx2' : its2[i]? = some u2 := by simpa using hx2
    obtain ⟨y2, hy2⟩ : ∃ y, x2[i]? = some y := ⟨_, List.getElem?_eq_getElem (show i < x2.length by omega)⟩
    obtain ⟨w2, hw2, ru2⟩ := rv2.get hy2
    rw [hx2'] at hw2; cases hw2
    have I1 := newTup_ok (us := [u1, u2]) (row := [(x1[i]?).getD V.non, (x2[i]?).getD V.non]) (tk := tk) I hf (fun b o hb q => hk b o (fun z => hb (sub z)) q) hT hI (by show 2 ≤ sizeLine; decide)
      (.cons (by rw [hy1]; exact ru1) (.cons (by rw [hy2]; exact ru2) .nil))
    refine ⟨.ref T, _, I1, rfl, ⟨T, rfl, I.hok.fresh hT, rfl⟩, ⟨st'.1, st'.2.1, st'.2.2.1, st'.2.2.2.1.1, st'.2.2.2.2.1⟩, fun b hb => ?_⟩
    have hbl : b < s.heap.objs.size := by
      obtain ⟨hz, hT, ⟨c1, c2, hO⟩, q1, q2⟩ := st
      simp only [List.mem_cons, List.not_mem_nil, or_false] at hb
      rcases hb with e | e | e | e | e
      · rw [e]; exact Heap.lt_size hz
      · rw [e]; exact Heap.lt_size hT
      · rw [e]; exact Heap.lt_size hO
      · rw [e]; obtain ⟨o, e1, _⟩ := q1.obj; exact Heap.lt_size e1
      · rw [e]; obtain ⟨o, e1, _⟩ := q2.obj; exact Heap.lt_size e1
    rw [upd_ne (Nat.ne_of_lt (Nat.lt_of_lt_of_le hbl hT))]
    exact (hf b hb).1
  done := by
    intro X hP hw hK hc i pins s σ H E I hf st hg
    subst hP hw hK
    obtain ⟨hlt, hA1, hA2⟩ := hg
    subst hlt
    obtain ⟨its1, rv1, cn1, hz1⟩ := hA1.cn I
    have hs1 : its1.toArray.size = x1.length := by rw [List.size_toArray]; exact rv1.length.symm
    have D1 := draws X.prog X.w X.A.in1 (I.ok.hd hc) k1 N a1 (Nat.ne_of_lt h1) its1.toArray
    obtain ⟨its2, rv2, cn2, hz2⟩ := hA2.cn I
    have hs2 : its2.toArray.size = x2.length := by rw [List.size_toArray]; exact rv2.length.symm
    have D2 := draws X.prog X.w X.A.in1 (I.ok.hd hc) k2 (N + 1) a2 (Nat.ne_of_lt (Nat.lt_of_lt_of_le h2 (Nat.le_add_right N 1))) its2.toArray
    have sub : ∀ {b : Addr}, b ∈ ([N + 4, N + 3, N, N + 1] : List Addr) → b ∈ ([N + 4, N + 2, N + 3, N, N + 1] : List Addr) := fun {b} z => by
      simp only [List.mem_cons, List.not_mem_nil, or_false] at z
      rcases z with e | e | e | e <;> simp [e]
    have W := GoesN.zip2 (elts := elts) (x1 := kk) (pos := tpos) (zip_sep2 (N := N) (fp1 := [a1]) (fp2 := [a2]) (fun b hb => by obtain rfl := List.mem_singleton.mp hb; exact h1) (fun b hb => by obtain rfl := List.mem_singleton.mp hb; exact h2)) D1 D2
    refine W.stops s _ E (by rw [hs1, hs2]; exact ⟨st.1, st.2.1, st.2.2.1, ⟨st.2.2.2.1, cn1⟩, ⟨st.2.2.2.2, cn2⟩⟩) fun h' tk hk htk => ?_
    exact I.turnedL (fun b o hb q => hk b o (fun z => hb (sub z)) q) hf
  self := fun A i s Q E st h => wpAny_pyIter_zip st.1 h
theorem turn_z3 {P : Program} {w : World} {K : PySem.W.Frag} {elts : List Expr} {kk N : Nat} {tpos : Pos} {k1 k2 k3 : Bool} {a1 a2 a3 : Addr} {x1 x2 x3 : List V} (h1 : a1 < N) (h2 : a2 < N) (h3 : a3 < N) :
    Turn P w K (.Tuple elts kk tpos) (ItZ (min (min x1.length x2.length) x3.length) (fun H => SqA K H k1 a1 x1 ∧ SqA K H k2 a2 x2 ∧ SqA K H k3 a3 x3) fun i => [(x1[i]?).getD .non, (x2[i]?).getD .non, (x3[i]?).getD .non]) [N + 5, N + 3, N + 4, N, N + 1, N + 2] (N + 5) (fun i h => IsZip h (N + 5) (N + 3) (N + 4) .none ∧ IsTupOf3 h (N + 3) (.ref N) (.ref (N + 1)) (.ref (N + 2)) ∧ (∃ b1 b2 b3, IsTupOf3 h (N + 4) b1 b2 b3) ∧ ITr k1 N a1 i h ∧ ITr k2 (N + 1) a2 i h ∧ ITr k3 (N + 2) a3 i h) where
  mem := by simp
  obj := fun i h st b hb => by
    obtain ⟨hz, hT, ⟨c1, c2, c3, hO⟩, q1, q2, q3⟩ := st
    simp only [List.mem_cons, List.not_mem_nil, or_false] at hb
    rcases hb with e | e | e | e | e | e
    · rw [e]; exact ⟨_, hz, fun v q => nomatch q⟩
    · rw [e]; exact ⟨_, hT, fun v q => nomatch q⟩
    · rw [e]; exact ⟨_, hO, fun v q => nomatch q⟩
    · rw [e]; exact q1.obj
    · rw [e]; exact q2.obj
    · rw [e]; exact q3.obj
  keep := fun i h h' st k' => by
    obtain ⟨hz, hT, ⟨c1, c2, c3, hO⟩, q1, q2, q3⟩ := st
    exact ⟨k' _ (by simp) _ hz, k' _ (by simp) _ hT, ⟨c1, c2, c3, k' _ (by simp) _ hO⟩, q1.keep fun o q => k' _ (by simp) o q, q2.keep fun o q => k' _ (by simp) o q, q3.keep fun o q => k' _ (by simp) o q⟩
  item := by
    intro X hP hw hK hc i pins s σ H E I hf st hg
    subst hP hw hK
    obtain ⟨hlt, hA1, hA2, hA3⟩ := hg
    obtain ⟨its1, rv1, cn1, hz1⟩ := hA1.cn I
    have hs1 : its1.toArray.size = x1.length := by rw [List.size_toArray]; exact rv1.length.symm
    have D1 := draws X.prog X.w X.A.in1 (I.ok.hd hc) k1 N a1 (Nat.ne_of_lt h1) its1.toArray
    obtain ⟨its2, rv2, cn2, hz2⟩ := hA2.cn I
    have hs2 : its2.toArray.size = x2.length := by rw [List.size_toArray]; exact rv2.length.symm
    have D2 := draws X.prog X.w X.A.in1 (I.ok.hd hc) k2 (N + 1) a2 (Nat.ne_of_lt (Nat.lt_of_lt_of_le h2 (Nat.le_add_right N 1))) its2.toArray
    obtain ⟨its3, rv3, cn3, hz3⟩ := hA3.cn I
    have hs3 : its3.toArray.size = x3.length := by rw [List.size_toArray]; exact rv3.length.symm
    have D3 := draws X.prog X.w X.A.in1 (I.ok.hd hc) k3 (N + 2) a3 (Nat.ne_of_lt (Nat.lt_of_lt_of_le h3 (Nat.le_add_right N 2))) its3.toArray
    have sub : ∀ {b : Addr}, b ∈ ([N + 5, N + 4, N, N + 1, N + 2] : List Addr) → b ∈ ([N + 5, N + 3, N + 4, N, N + 1, N + 2] : List Addr) := fun {b} z => by
      simp only [List.mem_cons, List.not_mem_nil, or_false] at z
      rcases z with e | e | e | e | e <;> simp [e]
    have W := GoesN.zip3 (elts := elts) (x1 := kk) (pos := tpos) (zip_sep3 (N := N) (fp1 := [a1]) (fp2 := [a2]) (fp3 := [a3]) (fun b hb => by obtain rfl := List.mem_singleton.mp hb; exact h1) (fun b hb => by obtain rfl := List.mem_singleton.mp hb; exact h2) (fun b hb => by obtain rfl := List.mem_singleton.mp hb; exact h3)) D1 D2 D3
    refine W.goes i s _ E (by rw [hs1, hs2, hs3]; exact hlt) ⟨st.1, st.2.1, st.2.2.1, ⟨st.2.2.2.1, cn1⟩, ⟨st.2.2.2.2.1, cn2⟩, ⟨st.2.2.2.2.2, cn3⟩⟩ fun v h' tk hY st' hk htk => ?_
    obtain ⟨T, u1, u2, u3, rfl, hT, hx1, hx2, hx3, hI⟩ := hY
    have hx1' : its1[i]? = some u1 := by simpa using hx1
    obtain ⟨y1, hy1⟩ : ∃ y, x1[i]? = some y := ⟨_, List.getElem?_eq_getElem (show i < x1.length by omega)⟩
    obtain ⟨w1, hw1, ru1⟩ := rv1.get hy1
    rw [hx1'] at hw1; cases hw1
    have hx2' : its2[i]? = some u2 := by simpa using hx2
    obtain ⟨y2, hy2⟩ : ∃ y, x2[i]? = some y := ⟨_, List.getElem?_eq_getElem (show i < x2.length by omega)⟩
    obtain ⟨w2, hw2, ru2⟩ := rv2.get hy2
    rw [hx2'] at hw2; cases hw2
    have hx3' : its3[i]? = some u3 := by simpa using hx3
    obtain ⟨y3, hy3⟩ : ∃ y, x3[i]? = some y := ⟨_, List.getElem?_eq_getElem (show i < x3.length by omega)⟩
    obtain ⟨w3, hw3, ru3⟩ := rv3.get hy3
    rw [hx3'] at hw3; cases hw3
    have I1 := newTup_ok (us := [u1, u2, u3]) (row := [(x1[i]?).getD V.non, (x2[i]?).getD V.non, (x3[i]?).getD V.non]) (tk := tk) I hf (fun b o hb q => hk b o (fun z => hb (sub z)) q) hT hI (by show 3 ≤ sizeLine; decide)
      (.cons (by rw [hy1]; exact ru1) (.cons (by rw [hy2]; exact ru2) (.cons (by rw [hy3]; exact ru3) .nil)))
    refine ⟨.ref T, _, I1, rfl, ⟨T, rfl, I.hok.fresh hT, rfl⟩, ⟨st'.1, st'.2.1, st'.2.2.1, st'.2.2.2.1.1, st'.2.2.2.2.1.1, st'.2.2.2.2.2.1⟩, fun b hb => ?_⟩
    have hbl : b < s.heap.objs.size := by
      obtain ⟨hz, hT, ⟨c1, c2, c3, hO⟩, q1, q2, q3⟩ := st
      simp only [List.mem_cons, List.not_mem_nil, or_false] at hb
      rcases hb with e | e | e | e | e | e
      · rw [e]; exact Heap.lt_size hz
      · rw [e]; exact Heap.lt_size hT
      · rw [e]; exact Heap.lt_size hO
      · rw [e]; obtain ⟨o, e1, _⟩ := q1.obj; exact Heap.lt_size e1
      · rw [e]; obtain ⟨o, e1, _⟩ := q2.obj; exact Heap.lt_size e1
      · rw [e]; obtain ⟨o, e1, _⟩ := q3.obj; exact Heap.lt_size e1
    rw [upd_ne (Nat.ne_of_lt (Nat.lt_of_lt_of_le hbl hT))]
    exact (hf b hb).1
  done := by
    intro X hP hw hK hc i pins s σ H E I hf st hg
    subst hP hw hK
    obtain ⟨hlt, hA1, hA2, hA3⟩ := hg
    subst hlt
    obtain ⟨its1, rv1, cn1, hz1⟩ := hA1.cn I
    have hs1 : its1.toArray.size = x1.length := by rw [List.size_toArray]; exact rv1.length.symm
    have D1 := draws X.prog X.w X.A.in1 (I.ok.hd hc) k1 N a1 (Nat.ne_of_lt h1) its1.toArray
    obtain ⟨its2, rv2, cn2, hz2⟩ := hA2.cn I
    have hs2 : its2.toArray.size = x2.length := by rw [List.size_toArray]; exact rv2.length.symm
    have D2 := draws X.prog X.w X.A.in1 (I.ok.hd hc) k2 (N + 1) a2 (Nat.ne_of_lt (Nat.lt_of_lt_of_le h2 (Nat.le_add_right N 1))) its2.toArray
    obtain ⟨its3, rv3, cn3, hz3⟩ := hA3.cn I
    have hs3 : its3.toArray.size = x3.length := by rw [List.size_toArray]; exact rv3.length.symm
    have D3 := draws X.prog X.w X.A.in1 (I.ok.hd hc) k3 (N + 2) a3 (Nat.ne_of_lt (Nat.lt_of_lt_of_le h3 (Nat.le_add_right N 2))) its3.toArray
    have sub : ∀ {b : Addr}, b ∈ ([N + 5, N + 4, N, N + 1, N + 2] : List Addr) → b ∈ ([N + 5, N + 3, N + 4, N, N + 1, N + 2] : List Addr) := fun {b} z => by
      simp only [List.mem_cons, List.not_mem_nil, or_false] at z
      rcases z with e | e | e | e | e <;> simp [e]
    have W := GoesN.zip3 (elts := elts) (x1 := kk) (pos := tpos) (zip_sep3 (N := N) (fp1 := [a1]) (fp2 := [a2]) (fp3 := [a3]) (fun b hb => by obtain rfl := List.mem_singleton.mp hb; exact h1) (fun b hb => by obtain rfl := List.mem_singleton.mp hb; exact h2) (fun b hb => by obtain rfl := List.mem_singleton.mp hb; exact h3)) D1 D2 D3
    refine W.stops s _ E (by rw [hs1, hs2, hs3]; exact ⟨st.1, st.2.1, st.2.2.1, ⟨st.2.2.2.1, cn1⟩, ⟨st.2.2.2.2.1, cn2⟩, ⟨st.2.2.2.2.2, cn3⟩⟩) fun h' tk hk htk => ?_
    exact I.turnedL (fun b o hb q => hk b o (fun z => hb (sub z)) q) hf
  self := fun A i s Q E st h => wpAny_pyIter_zip st.1 h
end GH

namespace GH
open PySem PySem.Spec PyProof.Rows L2

theorem meets_enum1 {v : Value} {o : Obj} {C : Heap → Prop} (B : Begins v o C) :
    Meets (Builtin.«enumerate.__new__» ⟨[.type "enumerate", v], []⟩) (fun _ R s => C s.heap ∧
      R (.ok (.ret (.ref (s.heap.push o).objs.size))) { s with heap := (s.heap.push o).push { cls := .type "enumerate", data := .fields #[.none, .bool false, .ref s.heap.objs.size, rawInt 0, .none, .none] } }) :=
  .of_wp fun prog w A R s h => by
    obtain ⟨hp, g, d, tk, os⟩ := s
    obtain ⟨h1, h⟩ := h
    have hsub := sub_enumerate
    have q1 : ∀ {A2 : Around} {E2 : Value → Shared → Prop} {Q2 : Value → Shared → Prop}, Q2 (.ref hp.objs.size) ⟨hp.push o, g, d, tk, os⟩ → wpAny (model prog w) A2 (pyIter v) Q2 E2 ⟨hp, g, d, tk, os⟩ :=
      fun q => B.iter prog w _ _ ⟨hp, g, d, tk, os⟩ _ h1 q
    wp_walk using q1
    refine wpAny_stack_any fun st => wpAny_pure ?_
    split
    · rename_i c _ _ _ _ _
      cases (c == Value.type "enumerate")
      · wp_walk using q1
        exact ⟨_, rfl, h⟩
      · wp_walk using q1
        exact ⟨_, rfl, h⟩
    · wp_walk using q1
      exact ⟨_, rfl, h⟩
theorem enum1_begins {prog : Program} {w : World} {A : Around} {E : Value → Shared → Prop} {s : Shared} {v : Value} {o : Obj} {C : Heap → Prop} {Q : Value → Shared → Prop} (B : Begins v o C) (h1 : C s.heap)
    (h : ∀ h', IsEnum h' (s.heap.objs.size + 1) s.heap.objs.size 0 .none → h'.get? s.heap.objs.size = some o → (∀ b o2, s.heap.get? b = some o2 → h'.get? b = some o2) → Q (.ref (s.heap.objs.size + 1)) { s with heap := h' }) :
    wpAny (model prog w) A (call (.type "enumerate") [v]) Q E s := by
  refine callType_new F.called_enumerate (by decide) (F.typeCall_enumerate_1 _) (F.newCall_enumerate_1 _) (fun obj => F.args_object_init_2 obj _) F.entry_enumerate_new (meets_enum1 B) ⟨h1, ?_⟩
  have hz : (s.heap.push o).objs.size = s.heap.objs.size + 1 := Heap.size_push ..
  show _ ∧ _
  rw [hz]
  have he : IsEnum ((s.heap.push o).push { cls := .type "enumerate", data := .fields #[.none, .bool false, .ref s.heap.objs.size, rawInt 0, .none, .none] }) (s.heap.objs.size + 1) s.heap.objs.size 0 .none := by
    have q := Heap.get?_push_size (s.heap.push o) (o := { cls := .type "enumerate", data := .fields #[.none, .bool false, .ref s.heap.objs.size, rawInt 0, .none, .none] }) rfl
    rw [hz] at q; exact q
  exact ⟨⟨_, he, rfl⟩, h _ he (Heap.get?_push_of_some _ (Heap.get?_push_size _ B.free)) fun b o2 x => Heap.get?_push_of_some _ (Heap.get?_push_of_some _ x)⟩

def enumF : Nat → List D → List D
  | _, [] => []
  | i, d :: r => .tup [.int (i : Nat), d] :: enumF (i + 1) r
theorem enumF_get : ∀ (ds : List D) (k i : Nat), (enumF k ds)[i]? = ds[i]?.map fun d => .tup [.int ((k + i : Nat) : Int), d]
  | [], _, _ => by simp [enumF]
  | d :: r, k, 0 => by simp [enumF]
  | d :: r, k, i + 1 => by
    simp only [enumF, List.getElem?_cons_succ]
    rw [enumF_get r (k + 1) i]
    rw [show k + 1 + i = k + (i + 1) by omega]
theorem enumF_len : ∀ (ds : List D) (k : Nat), (enumF k ds).length = ds.length
  | [], _ => rfl
  | _ :: r, k => by simp [enumF, enumF_len r]
def zipF2 : List D → List D → List D
  | a :: as, b :: bs => .tup [a, b] :: zipF2 as bs
  | _, _ => []
def zipF3 : List D → List D → List D → List D
  | a :: as, b :: bs, c :: cs => .tup [a, b, c] :: zipF3 as bs cs
  | _, _, _ => []
theorem zipF2_len : ∀ (as bs : List D), (zipF2 as bs).length = min as.length bs.length
  | [], _ => by simp [zipF2]
  | _ :: _, [] => by simp [zipF2]
  | a :: as, b :: bs => by simp [zipF2, zipF2_len as bs]
theorem zipF2_get : ∀ {as bs : List D} {i : Nat} {d : D}, (zipF2 as bs)[i]? = some d → ∃ a b, as[i]? = some a ∧ bs[i]? = some b ∧ d = .tup [a, b]
  | [], _, _, _, h => by simp [zipF2] at h
  | _ :: _, [], _, _, h => by simp [zipF2] at h
  | a :: as, b :: bs, 0, d, h => by simp [zipF2] at h; exact ⟨a, b, rfl, rfl, h.symm⟩
  | a :: as, b :: bs, i + 1, d, h => by
    simp only [zipF2, List.getElem?_cons_succ] at h
    obtain ⟨x, y, h1, h2, h3⟩ := zipF2_get h
    exact ⟨x, y, by simpa using h1, by simpa using h2, h3⟩
theorem zipF3_len : ∀ (as bs cs : List D), (zipF3 as bs cs).length = min (min as.length bs.length) cs.length
  | [], _, _ => by simp [zipF3]
  | _ :: _, [], _ => by simp [zipF3]
  | _ :: _, _ :: _, [] => by simp [zipF3]
  | a :: as, b :: bs, c :: cs => by simp only [zipF3, List.length_cons, zipF3_len as bs cs]; omega
theorem zipF3_get : ∀ {as bs cs : List D} {i : Nat} {d : D}, (zipF3 as bs cs)[i]? = some d → ∃ a b c, as[i]? = some a ∧ bs[i]? = some b ∧ cs[i]? = some c ∧ d = .tup [a, b, c]
  | [], _, _, _, _, h => by simp [zipF3] at h
  | _ :: _, [], _, _, _, h => by simp [zipF3] at h
  | _ :: _, _ :: _, [], _, _, h => by simp [zipF3] at h
  | a :: as, b :: bs, c :: cs, 0, d, h => by simp [zipF3] at h; exact ⟨a, b, c, rfl, rfl, rfl, h.symm⟩
  | a :: as, b :: bs, c :: cs, i + 1, d, h => by
    simp only [zipF3, List.getElem?_cons_succ] at h
    obtain ⟨x, y, z, h1, h2, h3, h4⟩ := zipF3_get h
    exact ⟨x, y, z, by simpa using h1, by simpa using h2, by simpa using h3, h4⟩
/-- a list or a tuple: where it lies -/
theorem rp_seq {p : Addr} {W : AP} {H : Hp} {d : D} {v : V} {ds : List D} (r : Rp p W H d v) (h : seqD d = some ds) : ∃ k a vs o, v = .ref a ∧ ¬ W a ∧ H a = some o ∧ Rps p W H ds vs ∧ ∀ (K : PySem.W.Frag) (H' : Hp), H' a = some o → SqA K H' k a vs := by
  cases d <;> simp only [seqD] at h <;> cases h
  · obtain ⟨a, vs, rfl, n, ha, rs⟩ := rp_tup r
    exact ⟨false, a, vs, _, rfl, n, ha, rs, fun K H' h => SqT.of h⟩
  · obtain ⟨a, vs, rfl, n, ha, rs⟩ := rp_lst r
    exact ⟨true, a, vs, _, rfl, n, ha, rs, fun K H' h => SqL.of h⟩
theorem getD_rp {p : Addr} {W : AP} {H : Hp} {ds : List D} {vs : List V} {i : Nat} {d : D} (r : Rps p W H ds vs) (h : ds[i]? = some d) : Rp p W H d ((vs[i]?).getD .non) := by
  obtain ⟨v, h1, h2⟩ := r.get h
  rw [h1]; exact h2

section
variable {X : Cx} {e a b c : Expr} {elts : List Expr} {kk : Nat} {tpos p pos : Pos} {m ma mb mc : M D}
def iEnum (m : M D) : M (List D) := bnd m fun d => bnd (lift (seqD d)) fun ds => ret (enumF 0 ds)
theorem i_enum (hg : Gl X "enumerate") (hm : X.mg "enumerate" = none) (ha : SE X e m) (hn : starEach [e] X.env = (false, eval e X.env) :: starEach [] X.env := by rfl) (hs : starEach [e] X.env = [(false, eval e X.env)] := by rfl) :
    SI X (.Tuple elts kk tpos) (.Call (.Name "enumerate" p) [e] [] pos) (iEnum m) := ⟨fun B => ⟨fun pins sh σ H R I ⟨s, ds, s', k, ee, q⟩ => by
  refine Call_ (ld_blt I hg hm boot_enumerate (PyProof.Rows.callWith_type1 (thn ((pa_cons (ha.pe B) pa_nil hn).run pos pins sh σ H (fun vs H1 => ∃ v, vs = [v] ∧ ∃ d s1 es, StOk B σ H1 s1 ∧ Ev (B.W s.env σ) H (B.W s1.env σ) H1 ∧ Rp B.p (B.W s1.env σ) H1 d v ∧ seqD d = some es ∧ ds = enumF 0 es ∧ s' = s1) I ?_) fun us s1 ⟨vs, H1, I1, r1, q1⟩ => ?_) hs rfl))
  · refine tI.bind k ee fun d s1 v H1 h1 e1 k1 ev1 r1 => ?_
    obtain ⟨es, s2, e2, e3⟩ := bnd_some e1
    obtain ⟨e4, rfl⟩ := lift_some e2
    obtain ⟨rfl, rfl⟩ := ret_some e3
    exact ⟨v, rfl, d, _, es, k1, ev1, r1, e4, rfl, rfl⟩
  · obtain ⟨v, rfl, d, sx, es, k1, ev1, rv, hd, rfl, rfl⟩ := q1
    obtain ⟨u, rfl, ru⟩ := r1.one
    obtain ⟨kd, ad, vs, o, rfl, nw, hH, rs, fs⟩ := rp_seq rv hd
    cases ru
    obtain ⟨its, rvs, cn, hz⟩ := (fs X.K H1 hH).cn I1
    refine enum1_begins (beg kd ad its.toArray) cn fun h' he hit hk => wpAny_pyIter_enum he ?_
    have I2 : Inv X pins σ H1 { s1 with heap := h' } := I1.kept (t' := s1.toks) hk
    refine ⟨s1.heap.objs.size + 1, [s1.heap.objs.size + 1, s1.heap.objs.size], _, _, H1, rfl, I2, turn_en (k := kd) (a := ad) (xs := vs) (Nat.succ_ne_self _), ⟨⟨.none, he⟩, itO_at hit⟩, fun b hb => ?_, ?_⟩
    · simp only [List.mem_cons, List.not_mem_nil, or_false] at hb
      have hle : s1.heap.objs.size ≤ b := by
        rcases hb with z | z
        · rw [z]; exact Nat.le_add_right _ _
        · rw [z]; exact Nat.le_refl _
      exact I1.fpOk hle (I1.hok.fresh hle)
    · refine q _ H1 k1 ev1 fun W2 H2 ev wt => ?_
      have hH2 := (ev ad o hH nw).1
      have hlen := rs.length
      refine ⟨fun i hi => ⟨by rw [enumF_len] at hi; omega, fs _ _ hH2⟩, ⟨by rw [enumF_len]; omega, fs _ _ hH2⟩, fun i d' x H3 hd' y => ?_⟩
      obtain ⟨T, rfl, nT, rfl⟩ := y
      rw [enumF_get] at hd'
      obtain ⟨d0, h0, rfl⟩ := Option.map_eq_some_iff.mp hd'
      refine ⟨same_new nT, .newTup wt nT (.cons (by simpa using Rp.mkInt _) (.cons (getD_rp (rs.ev ev) h0) .nil))⟩⟩⟩
def iZip2 (ma mb : M D) : M (List D) := bnd ma fun a => bnd mb fun b => bnd (lift (seqD a)) fun as => bnd (lift (seqD b)) fun bs => ret (zipF2 as bs)
def iZip3 (ma mb mc : M D) : M (List D) := bnd ma fun a => bnd mb fun b => bnd mc fun c => bnd (lift (seqD a)) fun as => bnd (lift (seqD b)) fun bs => bnd (lift (seqD c)) fun cs => ret (zipF3 as bs cs)
theorem i_zip2 (hg : Gl X "zip") (hm : X.mg "zip" = none) (ha : SE X a ma) (hb : SE X b mb) (hn : starEach [a, b] X.env = (false, eval a X.env) :: starEach [b] X.env := by rfl) (hn2 : starEach [b] X.env = (false, eval b X.env) :: starEach [] X.env := by rfl)
    (hpl : (backTo pos (starEach [b] X.env)).any (·.1) = false := by rfl) : SI X (.Tuple elts kk tpos) (.Call (.Name "zip" p) [a, b] [] pos) (iZip2 ma mb) := ⟨fun B => ⟨fun pins sh σ H R I ⟨s, ds, s', k, ee, q⟩ => by
  refine Call_ (ld_blt I hg hm PyProof.Rows.boot_zip (PyProof.Rows.callWith_type1 (thn ((pa_cons (ha.pe B) (pa_cons (hb.pe B) pa_nil hn2) hn).run pos pins sh σ H (fun vs H1 => ∃ v1 v2, vs = [v1, v2] ∧ ∃ d1 d2 s1 es1 es2, StOk B σ H1 s1 ∧ Ev (B.W s.env σ) H (B.W s1.env σ) H1 ∧ Rp B.p (B.W s1.env σ) H1 d1 v1 ∧ Rp B.p (B.W s1.env σ) H1 d2 v2 ∧ seqD d1 = some es1 ∧ seqD d2 = some es2 ∧ ds = zipF2 es1 es2 ∧ s' = s1) I ?_) fun us s1 ⟨vs, H1, I1, r1, q1⟩ => ?_) hn hpl))
  · refine tI.bind k ee fun d1 s1 v1 H1 h1 e1 k1 ev1 r1 => ?_
    refine tI.bind k1 e1 fun d2 s2 v2 H2 h2 e2 k2 ev2 r2 => ?_
    obtain ⟨es1, s3, e3, e4⟩ := bnd_some e2
    obtain ⟨e5, rfl⟩ := lift_some e3
    obtain ⟨es2, s4, e6, e7⟩ := bnd_some e4
    obtain ⟨e8, rfl⟩ := lift_some e6
    obtain ⟨rfl, rfl⟩ := ret_some e7
    exact ⟨v1, v2, rfl, d1, d2, _, es1, es2, k2, ev1.trans ev2, r1.ev ev2, r2, e5, e8, rfl, rfl⟩
  · obtain ⟨v1, v2, rfl, d1, d2, sx, es1, es2, k1, ev1, rv1, rv2, hd1, hd2, rfl, rfl⟩ := q1
    obtain ⟨u1, u2, rfl, ru1, ru2⟩ := r1.two
    obtain ⟨kd1, a1, vs1, o1, rfl, nw1, hH1, rs1, fs1⟩ := rp_seq rv1 hd1
    obtain ⟨kd2, a2, vs2, o2, rfl, nw2, hH2, rs2, fs2⟩ := rp_seq rv2 hd2
    cases ru1
    cases ru2
    obtain ⟨its1, rvs1, cn1, hz1⟩ := (fs1 X.K H1 hH1).cn I1
    obtain ⟨its2, rvs2, cn2, hz2⟩ := (fs2 X.K H1 hH2).cn I1
    refine zip_begins2 (beg kd1 a1 its1.toArray) (beg kd2 a2 its2.toArray) cn1 cn2 fun h' hz hT hO i1 i2 hsz hk => wpAny_pyIter_zip hz ?_
    have I2 : Inv X pins σ H1 { s1 with heap := h' } := I1.kept (t' := s1.toks) hk
    refine ⟨s1.heap.objs.size + 4, _, _, _, H1, rfl, I2, turn_z2 (k1 := kd1) (k2 := kd2) (a1 := a1) (a2 := a2) (x1 := vs1) (x2 := vs2) cn1.lt cn2.lt, ⟨hz, hT, ⟨_, _, hO⟩, itO_at i1, itO_at i2⟩, fun b hb => ?_, ?_⟩
    · simp only [List.mem_cons, List.not_mem_nil, or_false] at hb
      have hle : s1.heap.objs.size ≤ b := by
        rcases hb with z | z | z | z | z <;> rw [z] <;> first | exact Nat.le_add_right _ _ | exact Nat.le_refl _
      exact I1.fpOk hle (I1.hok.fresh hle)
    · refine q _ H1 k1 ev1 fun W2 H2 ev wt => ?_
      have g1 := (ev a1 o1 hH1 nw1).1
      have g2 := (ev a2 o2 hH2 nw2).1
      have l1 := rs1.length
      have l2 := rs2.length
      refine ⟨fun i hi => ⟨by rw [zipF2_len] at hi; omega, fs1 _ _ g1, fs2 _ _ g2⟩, ⟨by rw [zipF2_len]; omega, fs1 _ _ g1, fs2 _ _ g2⟩, fun i d' x H3 hd' y => ?_⟩
      obtain ⟨T, rfl, nT, rfl⟩ := y
      obtain ⟨x1, x2, h1, h2, rfl⟩ := zipF2_get hd'
      exact ⟨same_new nT, .newTup wt nT (.cons (getD_rp (rs1.ev ev) h1) (.cons (getD_rp (rs2.ev ev) h2) .nil))⟩⟩⟩
theorem i_zip3 (hg : Gl X "zip") (hm : X.mg "zip" = none) (ha : SE X a ma) (hb : SE X b mb) (hc : SE X c mc) (hn : starEach [a, b, c] X.env = (false, eval a X.env) :: starEach [b, c] X.env := by rfl) (hn2 : starEach [b, c] X.env = (false, eval b X.env) :: starEach [c] X.env := by rfl)
    (hn3 : starEach [c] X.env = (false, eval c X.env) :: starEach [] X.env := by rfl)
    (hpl : (backTo pos (starEach [b, c] X.env)).any (·.1) = false := by rfl) : SI X (.Tuple elts kk tpos) (.Call (.Name "zip" p) [a, b, c] [] pos) (iZip3 ma mb mc) := ⟨fun B => ⟨fun pins sh σ H R I ⟨s, ds, s', k, ee, q⟩ => by
  refine Call_ (ld_blt I hg hm PyProof.Rows.boot_zip (PyProof.Rows.callWith_type1 (thn ((pa_cons (ha.pe B) (pa_cons (hb.pe B) (pa_cons (hc.pe B) pa_nil hn3) hn2) hn).run pos pins sh σ H (fun vs H1 => ∃ v1 v2 v3, vs = [v1, v2, v3] ∧ ∃ d1 d2 d3 s1 es1 es2 es3, StOk B σ H1 s1 ∧ Ev (B.W s.env σ) H (B.W s1.env σ) H1 ∧ Rp B.p (B.W s1.env σ) H1 d1 v1 ∧ Rp B.p (B.W s1.env σ) H1 d2 v2 ∧ Rp B.p (B.W s1.env σ) H1 d3 v3 ∧ seqD d1 = some es1 ∧ seqD d2 = some es2 ∧ seqD d3 = some es3 ∧ ds = zipF3 es1 es2 es3 ∧ s' = s1) I ?_) fun us s1 ⟨vs, H1, I1, r1, q1⟩ => ?_) hn hpl))
  · refine tI.bind k ee fun d1 s1 v1 H1 h1 e1 k1 ev1 r1 => ?_
    refine tI.bind k1 e1 fun d2 s2 v2 H2 h2 e2 k2 ev2 r2 => ?_
    refine tI.bind k2 e2 fun d3 s3 v3 H3 h3 e3 k3 ev3 r3 => ?_
    obtain ⟨es1, s4, e4, e5⟩ := bnd_some e3
    obtain ⟨e6, rfl⟩ := lift_some e4
    obtain ⟨es2, s5, e7, e8⟩ := bnd_some e5
    obtain ⟨e9, rfl⟩ := lift_some e7
    obtain ⟨es3, s6, e10, e11⟩ := bnd_some e8
    obtain ⟨e12, rfl⟩ := lift_some e10
    obtain ⟨rfl, rfl⟩ := ret_some e11
    exact ⟨v1, v2, v3, rfl, d1, d2, d3, _, es1, es2, es3, k3, (ev1.trans ev2).trans ev3, r1.ev (ev2.trans ev3), r2.ev ev3, r3, e6, e9, e12, rfl, rfl⟩
  · obtain ⟨v1, v2, v3, rfl, d1, d2, d3, sx, es1, es2, es3, k1, ev1, rv1, rv2, rv3, hd1, hd2, hd3, rfl, rfl⟩ := q1
    obtain ⟨kd1, a1, vs1, o1, rfl, nw1, hH1, rs1, fs1⟩ := rp_seq rv1 hd1
    obtain ⟨kd2, a2, vs2, o2, rfl, nw2, hH2, rs2, fs2⟩ := rp_seq rv2 hd2
    obtain ⟨kd3, a3, vs3, o3, rfl, nw3, hH3, rs3, fs3⟩ := rp_seq rv3 hd3
    cases r1 with
    | cons ru1 r1 =>
      cases r1 with
      | cons ru2 r1 =>
        cases r1 with
        | cons ru3 r1 =>
          cases r1
          cases ru1
          cases ru2
          cases ru3
          obtain ⟨its1, rvs1, cn1, hz1⟩ := (fs1 X.K H1 hH1).cn I1
          obtain ⟨its2, rvs2, cn2, hz2⟩ := (fs2 X.K H1 hH2).cn I1
          obtain ⟨its3, rvs3, cn3, hz3⟩ := (fs3 X.K H1 hH3).cn I1
          refine zip_begins3 (beg kd1 a1 its1.toArray) (beg kd2 a2 its2.toArray) (beg kd3 a3 its3.toArray) cn1 cn2 cn3 fun h' hz hT hO i1 i2 i3 hsz hk => wpAny_pyIter_zip hz ?_
          have I2 : Inv X pins σ H1 { s1 with heap := h' } := I1.kept (t' := s1.toks) hk
          refine ⟨s1.heap.objs.size + 5, _, _, _, H1, rfl, I2, turn_z3 (k1 := kd1) (k2 := kd2) (k3 := kd3) (a1 := a1) (a2 := a2) (a3 := a3) (x1 := vs1) (x2 := vs2) (x3 := vs3) cn1.lt cn2.lt cn3.lt, ⟨hz, hT, ⟨_, _, _, hO⟩, itO_at i1, itO_at i2, itO_at i3⟩, fun b hb => ?_, ?_⟩
          · simp only [List.mem_cons, List.not_mem_nil, or_false] at hb
            have hle : s1.heap.objs.size ≤ b := by
              rcases hb with z | z | z | z | z | z <;> rw [z] <;> first | exact Nat.le_add_right _ _ | exact Nat.le_refl _
            exact I1.fpOk hle (I1.hok.fresh hle)
          · refine q _ H1 k1 ev1 fun W2 H2 ev wt => ?_
            have g1 := (ev a1 o1 hH1 nw1).1
            have g2 := (ev a2 o2 hH2 nw2).1
            have g3 := (ev a3 o3 hH3 nw3).1
            have l1 := rs1.length
            have l2 := rs2.length
            have l3 := rs3.length
            refine ⟨fun i hi => ⟨by rw [zipF3_len] at hi; omega, fs1 _ _ g1, fs2 _ _ g2, fs3 _ _ g3⟩, ⟨by rw [zipF3_len]; omega, fs1 _ _ g1, fs2 _ _ g2, fs3 _ _ g3⟩, fun i d' x H3 hd' y => ?_⟩
            obtain ⟨T, rfl, nT, rfl⟩ := y
            obtain ⟨x1, x2, x3, h1, h2, h3, rfl⟩ := zipF3_get hd'
            exact ⟨same_new nT, .newTup wt nT (.cons (getD_rp (rs1.ev ev) h1) (.cons (getD_rp (rs2.ev ev) h2) (.cons (getD_rp (rs3.ev ev) h3) .nil)))⟩⟩⟩
end
end GH

namespace GH
open PySem PySem.Spec PyProof.Rows L2

theorem W_own {B : Bs} {env : List (Option Sl)} {σ : Sg} {i : Nat} {sl sl' : Sl} (hi : env[i]? = some (some sl)) (ho : sl.isOwn = true) (ho' : sl'.isOwn = true) (b : Addr) : B.W (env.set i (some sl')) σ b ↔ B.W env σ b := by
  have hlt : i < env.length := (List.getElem?_eq_some_iff.mp hi).1
  constructor
  · rintro (h | ⟨j, x, e1, e2, e3⟩)
    · exact .inl h
    · by_cases hj : i = j
      · subst hj
        exact .inr ⟨i, sl, hi, ho, e3⟩
      · rw [List.getElem?_set_ne hj] at e1
        exact .inr ⟨j, x, e1, e2, e3⟩
  · rintro (h | ⟨j, x, e1, e2, e3⟩)
    · exact .inl h
    · by_cases hj : i = j
      · subst hj
        exact .inr ⟨i, sl', List.getElem?_set_self hlt, ho', e3⟩
      · exact .inr ⟨j, x, by rw [List.getElem?_set_ne hj]; exact e1, e2, e3⟩
theorem StOk.wr {B : Bs} {σ : Sg} {H : Hp} {s : S} {i : Nat} {sl sl' : Sl} {a : Addr} {o : HO} (k : StOk B σ H s) (hi : s.env[i]? = some (some sl)) (ho : sl.isOwn = true) (ho' : sl'.isOwn = true) (ha : σ[i]? = some (some (.ref a)))
    (r : OwnR B.p (B.W s.env σ) H sl' o) : StOk B σ (upd H a o) { s with env := s.env.set i (some sl') } ∧ Ev (B.W s.env σ) H (B.W (s.env.set i (some sl')) σ) (upd H a o) := by
  have hlt : i < s.env.length := (List.getElem?_eq_some_iff.mp hi).1
  have wa : B.W s.env σ a := .inr ⟨i, sl, hi, ho, ha⟩
  obtain ⟨a', o', q1, q2, q3, q4, q5⟩ := k.own i sl hi ho
  rw [ha] at q1; cases q1
  have hp : a ≠ B.p := fun z => q5 (z ▸ k.wp)
  have hc : a ≠ B.c := fun z => q5 (z ▸ k.wcc)
  have ev : Ev (B.W s.env σ) H (B.W (s.env.set i (some sl')) σ) (upd H a o) := fun b x h n => by
    have : b ≠ a := fun z => n (z ▸ wa)
    exact ⟨by rw [upd_ne this]; exact h, fun z => n ((W_own hi ho ho' b).mp z)⟩
  refine ⟨⟨by simpa using k.len, fun j d' h => ?_, fun j x h h' => ?_, fun j1 j2 sl1 sl2 b h1 o1 h2 o2 q1 q2 => ?_, ⟨by rw [upd_ne (Ne.symm hp)]; exact k.src.d, by rw [upd_ne (Ne.symm hc)]; exact k.src.l⟩, fun b x e n1 n2 => ?_, fun b h => ?_, k.wp, k.wcc⟩, ev⟩
  · have h : (s.env.set i (some sl'))[j]? = _ := h
    by_cases hj : i = j
    · subst hj
      rw [List.getElem?_set_self hlt] at h
      cases h; cases ho'
    · rw [List.getElem?_set_ne hj] at h
      obtain ⟨v, h1, h2⟩ := k.val j d' h
      exact ⟨v, h1, h2.ev ev⟩
  · have h : (s.env.set i (some sl'))[j]? = _ := h
    by_cases hj : i = j
    · subst hj
      rw [List.getElem?_set_self hlt] at h
      cases h
      exact ⟨a, o, ha, upd_same, r.ev ev, q4, q5⟩
    · rw [List.getElem?_set_ne hj] at h
      obtain ⟨b, x', h1, h2, h3, h4⟩ := k.own j x h h'
      have : b ≠ a := fun z => hj (k.sep i j sl x a hi ho h h' ha (z ▸ h1))
      exact ⟨b, x', h1, by rw [upd_ne this]; exact h2, h3.ev ev, h4⟩
  · have h1 : (s.env.set i (some sl'))[j1]? = _ := h1
    have h2 : (s.env.set i (some sl'))[j2]? = _ := h2
    have g : ∀ (j : Nat) (x : Sl), (s.env.set i (some sl'))[j]? = some (some x) → x.isOwn = true → ∃ y : Sl, s.env[j]? = some (some y) ∧ y.isOwn = true := fun j x h hx => by
      by_cases hj : i = j
      · subst hj; exact ⟨sl, hi, ho⟩
      · rw [List.getElem?_set_ne hj] at h; exact ⟨x, h, hx⟩
    obtain ⟨y1, e1, e2⟩ := g j1 sl1 h1 o1
    obtain ⟨y2, e3, e4⟩ := g j2 sl2 h2 o2
    exact k.sep j1 j2 y1 y2 b e1 e2 e3 e4 q1 q2
  · have : b ≠ a := fun z => by subst z; rw [q4] at e; cases e
    rw [upd_ne this]; exact k.keep b x e n1 n2
  · by_cases z : b = a
    · subst z; exact ⟨o, upd_same⟩
    · rw [upd_ne z]; exact k.wc b h
/-- an own list's place -/
theorem StOk.ownL {B : Bs} {σ : Sg} {H : Hp} {s : S} {i : Nat} {ds : List D} (k : StOk B σ H s) (hi : s.env[i]? = some (some (.own ds))) : ∃ a vs, σ[i]? = some (some (.ref a)) ∧ H a = some (.lst vs) ∧ Rps B.p (B.W s.env σ) H ds vs := by
  obtain ⟨a, o, h1, h2, ⟨vs, rfl, h3⟩, h4, h5⟩ := k.own i _ hi rfl
  exact ⟨a, vs, h1, h2, h3⟩

def D.isFlat : D → Bool
  | .non => true
  | .bl _ => true
  | .int _ => true
  | .str _ => true
  | _ => false
theorem D.isFlat_rp {d : D} (h : d.isFlat = true) {p : Addr} {W W' : AP} {H H' : Hp} {v : V} (r : Rp p W H d v) : Rp p W' H' d v := by
  cases d <;> simp [D.isFlat] at h <;> simpa [Rp] using r
def Sl.bor : Sl → D
  | .val d => d
  | .own ds => .lst ds
  | .ownK ks ds => .dct ks ds
  | .ownT ks ds => .dtt ks ds
def borSl (t : Bool) : Option Sl → Option Sl
  | some (.val d) => some (.val d)
  | some sl => if t = true then some (.val sl.bor) else none
  | none => none
/-- the slots of `is` as values, the other own ones away -/
def borE (is : List Nat) (env : List (Option Sl)) : List (Option Sl) := env.mapIdx fun j x => borSl (is.contains j) x
def eBor (is : List Nat) (m : M D) : M D := fun s => match m ⟨borE is s.env, s.src⟩ with
  | some (d, s') => if d.isFlat = true then some (d, ⟨s.env, s'.src⟩) else none
  | none => none
def tBor (is : List Nat) (m : M Bool) : M Bool := fun s => match m ⟨borE is s.env, s.src⟩ with
  | some (d, s') => some (d, ⟨s.env, s'.src⟩)
  | none => none
/-- the base of a borrowing -/
def Bs.bor (B : Bs) (is : List Nat) (env : List (Option Sl)) (σ : Sg) (H : Hp) : Bs :=
  { B with Wc := fun b => B.W env σ b ∧ ¬ ∃ i sl, i ∈ is ∧ env[i]? = some (some sl) ∧ sl.isOwn = true ∧ σ[i]? = some (some (.ref b)), H0 := H }
theorem borE_get {is : List Nat} {env : List (Option Sl)} {j : Nat} {x : Sl} (h : (borE is env)[j]? = some (some x)) : (∃ d, x = .val d ∧ env[j]? = some (some (.val d))) ∨ (∃ sl, env[j]? = some (some sl) ∧ sl.isOwn = true ∧ j ∈ is ∧ x = .val sl.bor) := by
  unfold borE at h
  rw [List.getElem?_mapIdx] at h
  obtain ⟨y, h1, h2⟩ := Option.map_eq_some_iff.mp h
  cases y with
  | none => simp [borSl] at h2
  | some sl =>
    by_cases hj : is.contains j = true
    · have hm : j ∈ is := by simpa using hj
      rw [hj] at h2
      cases sl <;> simp only [borSl, if_pos] at h2 <;> cases h2
      · exact .inl ⟨_, rfl, h1⟩
      · exact .inr ⟨_, h1, rfl, hm, rfl⟩
      · exact .inr ⟨_, h1, rfl, hm, rfl⟩
      · exact .inr ⟨_, h1, rfl, hm, rfl⟩
    · have hf : is.contains j = false := by simpa using hj
      rw [hf] at h2
      cases sl <;> simp only [borSl, Bool.false_eq_true, if_false] at h2 <;> cases h2
      · exact .inl ⟨_, rfl, h1⟩
theorem StOk.bor {B : Bs} {σ : Sg} {H : Hp} {s : S} (k : StOk B σ H s) (is : List Nat) : StOk (B.bor is s.env σ H) σ H ⟨borE is s.env, s.src⟩ := by
  have noOwn : ∀ b, ¬ OwnA (borE is s.env) σ b := fun b ⟨i, sl, h1, h2, _⟩ => by
    rcases borE_get h1 with ⟨d, rfl, _⟩ | ⟨_, _, _, _, rfl⟩ <;> cases h2
  have sub : ∀ b, (B.bor is s.env σ H).W (borE is s.env) σ b → B.W s.env σ b := fun b hb => by
    rcases hb with hb | hb
    · exact hb.1
    · exact absurd hb (noOwn b)
  have fresh : ∀ (i : Nat) (sl : Sl) (b : Addr), s.env[i]? = some (some sl) → sl.isOwn = true → σ[i]? = some (some (.ref b)) → ¬ B.Wc b := fun i sl b h1 h2 h3 => by
    obtain ⟨b', o, q1, _, _, _, q5⟩ := k.own i sl h1 h2
    rw [h3] at q1; cases q1; exact q5
  refine ⟨by show (borE is s.env).length = _; unfold borE; rw [List.length_mapIdx]; exact k.len, fun i d h => ?_, fun i sl h ho => ?_, fun i j sl sl' a h ho => ?_, k.src, fun a o h _ _ => h, fun a h => k.wt a h.1,
    ⟨.inl k.wp, fun ⟨i, sl, _, h1, h2, h3⟩ => fresh i sl _ h1 h2 h3 k.wp⟩, ⟨.inl k.wcc, fun ⟨i, sl, _, h1, h2, h3⟩ => fresh i sl _ h1 h2 h3 k.wcc⟩⟩
  · rcases borE_get h with ⟨d', e, h1⟩ | ⟨sl, h1, ho, hm, e⟩
    · cases e
      obtain ⟨v, q1, q2⟩ := k.val i d h1
      exact ⟨v, q1, q2.ev (Ev.less sub)⟩
    · cases e
      obtain ⟨a, o, q1, q2, q3, q4, q5⟩ := k.own i sl h1 ho
      have na : ¬ (B.bor is s.env σ H).W (borE is s.env) σ a := by
        rintro (z | z)
        · exact z.2 ⟨i, sl, hm, h1, ho, q1⟩
        · exact noOwn a z
      refine ⟨_, q1, ?_⟩
      have q3' := OwnR.ev (Ev.less (H := H) sub) sl o q3
      cases sl with
      | val d => cases ho
      | own ds => obtain ⟨vs, rfl, r⟩ := q3'; exact .mkLst na q2 r
      | ownK ks ds => obtain ⟨kvs, rfl, r1, r⟩ := q3'; simp only [Sl.bor, Rp]; exact ⟨a, kvs, rfl, na, q2, r1, r⟩
      | ownT ks ds => obtain ⟨kvs, rfl, r1, r⟩ := q3'; simp only [Sl.bor, Rp]; exact ⟨a, kvs, rfl, na, q2, r1, r⟩
  · rcases borE_get h with ⟨d', e, h1⟩ | ⟨_, _, _, _, e⟩ <;> cases e <;> cases ho
  · rcases borE_get h with ⟨d', e, h1⟩ | ⟨_, _, _, _, e⟩ <;> cases e <;> cases ho
theorem StOk.unbor {B : Bs} {σ : Sg} {H H' : Hp} {s s' : S} {is : List Nat} (k : StOk B σ H s) (k' : StOk (B.bor is s.env σ H) σ H' s') : StOk B σ H' ⟨s.env, s'.src⟩ ∧ Ev (B.W s.env σ) H (B.W s.env σ) H' :=
  k.called (fun a o h n1 n2 => k'.keep a o h n1 n2) k'.src
section
variable {X : Cx} {e : Expr} {m : M D} {mt : M Bool} {is : List Nat}
theorem s_bor (h : SE X e m) : SE X e (eBor is m) := ⟨fun B => ⟨fun pins sh σ H Q I ⟨s, d, s', k, e, q⟩ => by
  unfold eBor at e
  split at e
  · rename_i d1 s1 em
    split at e
    · rename_i hd
      cases e
      refine (h.pe (B.bor is s.env σ H)).run pins sh σ H Q I ⟨_, d, s1, k.bor is, em, fun v H' k' ev r => ?_⟩
      obtain ⟨k2, ev2⟩ := k.unbor k'
      exact q v H' k2 ev2 (D.isFlat_rp hd r)
    · cases e
  · cases e⟩⟩
theorem t_bor (h : ST X e mt) : ST X e (tBor is mt) := ⟨fun B => ⟨fun pins sh σ H Q I ⟨s, d, s', k, e, q⟩ => by
  unfold tBor at e
  split at e
  · rename_i d1 s1 em
    cases e
    refine (h.pt (B.bor is s.env σ H)).run pins sh σ H Q I ⟨_, d, s1, k.bor is, em, fun H' k' ev => ?_⟩
    obtain ⟨k2, ev2⟩ := k.unbor k'
    exact q H' k2 ev2
  · cases e⟩⟩
end

section
variable {X : Cx} {e b : Expr} {es : List Expr} {x : Str} {i : Nat} {pos p apos cpos : Pos} {m mb : M D}
def ownIx (sl : Sl) (d : D) : Option D := match sl, d with
  | .own ds, .int j => atI ds j
  | .val (.lst ds), .int j => atI ds j
  | .val (.tup ds), .int j => atI ds j
  | _, _ => none
def eIxO (i : Nat) (mb : M D) : M D := fun s0 => match s0.env[i]? with
  | some (some _) => bnd mb (fun d s => match s.env[i]? with
    | some (some sl) => (match ownIx sl d with
      | some y => some (y, s)
      | none => none)
    | _ => none) s0
  | _ => none
theorem StOk.slot {B : Bs} {σ : Sg} {H : Hp} {s : S} {i : Nat} {sl : Sl} (k : StOk B σ H s) (hi : s.env[i]? = some (some sl)) : ∃ v, σ[i]? = some (some v) := by
  by_cases ho : sl.isOwn = true
  · obtain ⟨a, _, h, _⟩ := k.own i sl hi ho; exact ⟨_, h⟩
  · cases sl with
    | val d => obtain ⟨v, h, _⟩ := k.val i d hi; exact ⟨v, h⟩
    | own _ => exact absurd rfl ho
    | ownK _ _ => exact absurd rfl ho
    | ownT _ _ => exact absurd rfl ho
theorem s_ixO (hx : PE X (.Name x p) (tVar i)) (hb : SE X b mb) (hs : PlainIx b := by exact fun _ _ => rfl) : SE X (.Subscript (.Name x p) b pos) (eIxO i mb) := ⟨fun B => by
  refine PE.imp (pe_ix ix_seq hx (hb.pe B) hs) fun σ H Q ⟨s, d, s', k, e, q⟩ => ?_
  unfold eIxO at e
  split at e
  · rename_i sl0 h0
    obtain ⟨v, hv⟩ := k.slot h0
    refine ⟨v, hv, ?_⟩
    refine tI.bind k e fun dy s1 u H1 h1 e1 k1 ev1 r1 => ?_
    split at e1
    · rename_i sl hsl
      split at e1
      · rename_i y hy
        cases e1
        unfold ownIx at hy
        split at hy
        · obtain ⟨a, vs, q1, q2, q3⟩ := k1.ownL hsl
          rw [hv] at q1; cases q1
          obtain ⟨w, h2, h3⟩ := rps_atI q3 hy
          exact .inl ⟨a, vs, _, w, rfl, rp_int r1, SqL.of q2, h2, q _ H1 k1 ev1 h3⟩
        · obtain ⟨v', q1, q2⟩ := k1.val i _ hsl
          rw [hv] at q1; cases q1
          obtain ⟨a, vs, rfl, _, q2, q3⟩ := rp_lst q2
          obtain ⟨w, h2, h3⟩ := rps_atI q3 hy
          exact .inl ⟨a, vs, _, w, rfl, rp_int r1, SqL.of q2, h2, q _ H1 k1 ev1 h3⟩
        · obtain ⟨v', q1, q2⟩ := k1.val i _ hsl
          rw [hv] at q1; cases q1
          obtain ⟨a, vs, rfl, _, q2, q3⟩ := rp_tup q2
          obtain ⟨w, h2, h3⟩ := rps_atI q3 hy
          exact .inr (.inl ⟨a, vs, _, w, rfl, rp_int r1, SqT.of q2, h2, q _ H1 k1 ev1 h3⟩)
        · cases hy
      · cases e1
    · cases e1
  · cases e⟩
/-- the own list of slot i becomes f of it -/
def putL (i : Nat) (f : List D → Option (List D)) : M Unit := fun s => match s.env[i]? with
  | some (some (.own ds)) => (match f ds with
    | some ds' => some ((), ⟨s.env.set i (some (.own ds')), s.src⟩)
    | none => none)
  | _ => none
def ownHere (i : Nat) : M Unit := fun s => match s.env[i]? with
  | some (some (.own _)) => some ((), s)
  | _ => none
def appL (d : D) (ds : List D) : Option (List D) := if ds.length < sizeLine then some (ds ++ [d]) else none
def eApp (i : Nat) (m : M D) : M D := bnd (ownHere i) fun _ => bnd m fun d => bnd (putL i (appL d)) fun _ => ret .non
theorem own_here {i : Nat} {s s' : S} {u : Unit} (h : ownHere i s = some (u, s')) : s' = s ∧ ∃ ds, s.env[i]? = some (some (.own ds)) := by
  unfold ownHere at h
  split at h
  · rename_i ds hd; cases h; exact ⟨rfl, ds, hd⟩
  · cases h
theorem put_L {i : Nat} {f : List D → Option (List D)} {s s' : S} {u : Unit} (h : putL i f s = some (u, s')) : ∃ ds ds', s.env[i]? = some (some (.own ds)) ∧ f ds = some ds' ∧ s' = ⟨s.env.set i (some (.own ds')), s.src⟩ := by
  unfold putL at h
  split at h
  · rename_i ds hd
    split at h
    · rename_i ds' hf; cases h; exact ⟨ds, ds', hd, hf, rfl⟩
    · cases h
  · cases h
theorem s_append (hx : PE X (.Name x p) (tVar i)) (ha : SE X e m)
    (hbase : attributeBase (.Name x p) "append" X.env (eval (.Name x p) X.env) = eval (.Name x p) X.env := by rfl)
    (hfew : ((backTo cpos (starEach [e] X.env)).all (fun x => !x.1) && (backToKw cpos (keywordEach [] X.env)).all (fun x => x.1.isSome)
      && decide ([e].length + ([] : List Keyword).length + (if ([] : List Keyword).isEmpty then 0 else 1) < 30)) = true := by rfl)
    (hline : (apos.endLine == cpos.line) = true := by rfl) (hs : starEach [e] X.env = (false, eval e X.env) :: starEach [] X.env := by rfl) (hpl : (backTo cpos (starEach [] X.env)).any (·.1) = false := by rfl) :
    SE X (.Call (.Attribute (.Name x p) "append" apos) [e] [] cpos) (eApp i m) := ⟨fun B => by
  refine PE.imp (pe_bm PySem.F.plainAttrs_list PySem.F.slot_list_append PySem.F.type_list_append mt_append hx (pa_cons (ha.pe B) pa_nil hs) hbase hfew hline hs hpl) fun σ H Q ⟨s, d, s', k, e, q⟩ => ?_
  obtain ⟨_, s0, e0, e9⟩ := bnd_some e
  obtain ⟨rfl, ds0, h0⟩ := own_here e0
  obtain ⟨a, vs, q1, q2, q3⟩ := k.ownL h0
  refine ⟨_, q1, .inl ⟨rfl, vs, SqL.of q2⟩, ?_⟩
  refine tI.bind k e9 fun dy s1 u H1 h1 e1 k1 ev1 r1 => ?_
  obtain ⟨_, s2, e2, e3⟩ := bnd_some e1
  obtain ⟨ds, ds', hsl, hf, rfl⟩ := put_L e2
  obtain ⟨rfl, rfl⟩ := ret_some e3
  unfold appL at hf
  split at hf
  · rename_i hz
    cases hf
    obtain ⟨a', us, p1, p2, p3⟩ := k1.ownL hsl
    rw [q1] at p1; cases p1
    obtain ⟨k2, ev2⟩ := k1.wr (sl' := .own (ds ++ [dy])) (o := .lst (us ++ [u])) hsl rfl rfl q1 ⟨_, rfl, p3.append (.cons r1 .nil)⟩
    refine ⟨a, us, u, rfl, rfl, p2, by rw [← p3.length]; exact hz, q _ _ k2 (ev1.trans ev2) .mkNon⟩
  · cases hf⟩

def popL : List D → Option (D × List D)
  | ds => ds.getLast?.map fun d => (d, ds.dropLast)
def ePop (i : Nat) : M D := fun s => match s.env[i]? with
  | some (some (.own ds)) => (match popL ds with
    | some (d, ds') => some (d, ⟨s.env.set i (some (.own ds')), s.src⟩)
    | none => none)
  | _ => none
theorem rps_dropLast {p : Addr} {W : AP} {H : Hp} {ds : List D} {vs : List V} (r : Rps p W H ds vs) : Rps p W H ds.dropLast vs.dropLast := by
  rw [List.dropLast_eq_take, List.dropLast_eq_take, r.length]; exact r.take _
theorem s_pop (hx : PE X (.Name x p) (tVar i)) (hbase : attributeBase (.Name x p) "pop" X.env (eval (.Name x p) X.env) = eval (.Name x p) X.env := by rfl) (hline : (apos.endLine == cpos.line) = true := by rfl) :
    SE X (.Call (.Attribute (.Name x p) "pop" apos) [] [] cpos) (ePop i) := ⟨fun B => by
  refine PE.imp (pe_bm0 PySem.F.plainAttrs_list PySem.F.slot_list_pop PySem.F.type_list_pop mt_pop hx hbase hline) fun σ H Q ⟨s, d, s', k, e, q⟩ => ?_
  unfold ePop at e
  split at e
  · rename_i ds hsl
    split at e
    · rename_i d' ds' hf
      cases e
      unfold popL at hf
      obtain ⟨y, h1, h2⟩ := Option.map_eq_some_iff.mp hf
      cases h2
      obtain ⟨a, vs, q1, q2, q3⟩ := k.ownL hsl
      have hl : ds[ds.length - 1]? = some d := by rw [← List.getLast?_eq_getElem?]; exact h1
      obtain ⟨v, h3, h4⟩ := q3.get hl
      obtain ⟨k2, ev2⟩ := k.wr (sl' := .own ds.dropLast) (o := .lst vs.dropLast) hsl rfl rfl q1 ⟨_, rfl, rps_dropLast q3⟩
      exact ⟨_, q1, .inl ⟨rfl, vs, SqL.of q2⟩, a, vs, v, rfl, rfl, q2, by rw [← q3.length]; exact h3, q _ _ k2 ev2 (h4.ev ev2)⟩
    · cases e
  · cases e⟩
/-- x.pop(j) -/
def popAtL (d : D) (ds : List D) : Option (D × List D) := match d with
  | .int j => (ixN ds.length j).bind fun n => if ds.length ≤ sizeLine then ds[n]?.map fun y => (y, ds.eraseIdx n) else none
  | _ => none
def ePopAt (i : Nat) (m : M D) : M D := bnd (ownHere i) fun _ => bnd m fun d s => match s.env[i]? with
  | some (some (.own ds)) => (match popAtL d ds with
    | some (d, ds') => some (d, ⟨s.env.set i (some (.own ds')), s.src⟩)
    | none => none)
  | _ => none
theorem Rps.erase {p : Addr} {W : AP} {H : Hp} : ∀ {ds : List D} {vs : List V} (n : Nat), Rps p W H ds vs → Rps p W H (ds.eraseIdx n) (vs.eraseIdx n)
  | [], _, _, h => by simp only [Rps] at h; subst h; exact .nil
  | d :: ds, _, 0, h => by
    simp only [Rps] at h
    obtain ⟨v, r, rfl, h1, h2⟩ := h
    exact h2
  | d :: ds, _, n + 1, h => by
    simp only [Rps] at h
    obtain ⟨v, r, rfl, h1, h2⟩ := h
    exact .cons h1 (h2.erase n)
theorem s_popAt (hx : PE X (.Name x p) (tVar i)) (ha : SE X e m)
    (hbase : attributeBase (.Name x p) "pop" X.env (eval (.Name x p) X.env) = eval (.Name x p) X.env := by rfl)
    (hfew : ((backTo cpos (starEach [e] X.env)).all (fun x => !x.1) && (backToKw cpos (keywordEach [] X.env)).all (fun x => x.1.isSome)
      && decide ([e].length + ([] : List Keyword).length + (if ([] : List Keyword).isEmpty then 0 else 1) < 30)) = true := by rfl)
    (hline : (apos.endLine == cpos.line) = true := by rfl) (hs : starEach [e] X.env = (false, eval e X.env) :: starEach [] X.env := by rfl) (hpl : (backTo cpos (starEach [] X.env)).any (·.1) = false := by rfl) :
    SE X (.Call (.Attribute (.Name x p) "pop" apos) [e] [] cpos) (ePopAt i m) := ⟨fun B => by
  refine PE.imp (pe_bm PySem.F.plainAttrs_list PySem.F.slot_list_pop PySem.F.type_list_pop mt_popAt hx (pa_cons (ha.pe B) pa_nil hs) hbase hfew hline hs hpl) fun σ H Q ⟨s, d, s', k, e, q⟩ => ?_
  obtain ⟨_, s0, e0, e9⟩ := bnd_some e
  obtain ⟨rfl, ds0, h0⟩ := own_here e0
  obtain ⟨a, vs, q1, q2, q3⟩ := k.ownL h0
  refine ⟨_, q1, .inl ⟨rfl, vs, SqL.of q2⟩, ?_⟩
  refine tI.bind k e9 fun dy s1 u H1 h1 e1 k1 ev1 r1 => ?_
  split at e1
  · rename_i ds hsl
    split at e1
    · rename_i d' ds' hf
      cases e1
      unfold popAtL at hf
      split at hf
      · rename_i j
        obtain ⟨n, hn, hf⟩ := Option.bind_eq_some_iff.mp hf
        split at hf
        · rename_i hz
          obtain ⟨y, hy, e2⟩ := Option.map_eq_some_iff.mp hf
          cases e2
          obtain ⟨a', us, p1, p2, p3⟩ := k1.ownL hsl
          rw [q1] at p1; cases p1
          obtain ⟨w, h3, h4⟩ := p3.get hy
          obtain ⟨k2, ev2⟩ := k1.wr (sl' := .own (ds.eraseIdx n)) (o := .lst (us.eraseIdx n)) hsl rfl rfl q1 ⟨_, rfl, p3.erase n⟩
          obtain ⟨z1, z2, z3, z4⟩ := ixN_seq hn
          have hs := line63
          exact ⟨a, us, j, n, w, rfl, by rw [rp_int r1], p2, by omega, by omega, by rw [← p3.length]; exact z1, h3, q _ _ k2 (ev1.trans ev2) (h4.ev ev2)⟩
        · cases hf
      · cases hf
    · cases e1
  · cases e1⟩
/-- x[j] = e -/
def setL (dy d : D) (ds : List D) : Option (List D) := match dy with
  | .int j => (ixN ds.length j).map fun n => ds.set n d
  | _ => none
def sSetIx (i : Nat) (me mb : M D) : M Out := bnd me fun d => bnd (ownHere i) fun _ => bnd mb fun dy => bnd (putL i (setL dy d)) fun _ => ret .nx
theorem s_setIx {tpos : Pos} {me : M D} (hx : PE X (.Name x p) (tVar i)) (hb : SE X b mb) (he : SE X e me) (hs : swapsWithSole [.Subscript (.Name x p) b tpos] e pos.line X.env = pure false := by rfl) (hw : swappedStores [.Subscript (.Name x p) b tpos] e X.env = pure none := by rfl)
    (h1 : (assignEach [.Subscript (.Name x p) b tpos] X.env).map (·.2) = [assign (.Subscript (.Name x p) b tpos) X.env] := by rfl)
    (ha : ∀ v, assign (.Subscript (.Name x p) b tpos) X.env v = (do
      let ov ← holding [v] (eval (.Name x p) X.env)
      let iv ← holding [v, ov] (eval b X.env)
      standAt tpos
      holding [v, ov, iv] (setItem ov iv v)
      release [v, ov, iv] []) := by intro _; rfl) : SS X (.Assign [.Subscript (.Name x p) b tpos] e pos) (sSetIx i me mb) := ⟨fun B => by
  refine PS.imp (ps_asg (he.pe B) (pg_sub hx (hb.pe B) set_list ha) hs hw h1) fun D σ H ⟨s, o, s', k, e, q⟩ => ?_
  refine tI.bind k e fun d s1 v H1 h1 e1 k1 ev1 r1 => ?_
  obtain ⟨_, s0, e0, e9⟩ := bnd_some e1
  obtain ⟨rfl, ds0, h0⟩ := own_here e0
  obtain ⟨a, vs, q1, q2, q3⟩ := k1.ownL h0
  refine ⟨_, q1, ?_⟩
  refine tI.bind k1 e9 fun dy s2 u H2 h2 e2 k2 ev2 r2 => ?_
  obtain ⟨_, s3, e3, e4⟩ := bnd_some e2
  obtain ⟨ds, ds', hsl, hf, rfl⟩ := put_L e3
  obtain ⟨rfl, rfl⟩ := ret_some e4
  unfold setL at hf
  split at hf
  · rename_i j
    obtain ⟨n, hn, rfl⟩ := Option.map_eq_some_iff.mp hf
    obtain ⟨a', us, p1, p2, p3⟩ := k2.ownL hsl
    rw [q1] at p1; cases p1
    obtain ⟨k3, ev3⟩ := k2.wr (sl' := .own (ds.set n d)) (o := .lst (us.set n v)) hsl rfl rfl q1 ⟨_, rfl, p3.set n (r1.ev ev2)⟩
    exact ⟨a, us, j, n, rfl, by rw [rp_int r2], p2, by rw [← p3.length]; exact hn, q σ _ k3 (ev1.trans (ev2.trans ev3))⟩
  · cases hf⟩
/-- x[j] op= e -/
def rGetL : V → V → Hp → VK → Prop := fun o i H Q => ∃ p xs k j v, o = .ref p ∧ i = .int k ∧ H p = some (.lst xs) ∧ ixN xs.length k = some j ∧ xs[j]? = some v ∧ Q v H
theorem get_list : PGet X rGetL := by
  intro pins s σ H o i ov iv Q I ro ri h
  obtain ⟨p, xs, k, j, z, rfl, rfl, hp, hj, hz, q⟩ := h
  cases ro
  obtain ⟨t, rfl⟩ := ri
  obtain ⟨its, n, r, ho, hsz⟩ := I.lst hp
  obtain ⟨h1, h2, h3, h4⟩ := ixN_seq hj
  obtain ⟨w, ew, rw'⟩ := r.get hz
  have hl := r.length
  have hn := line63
  have fin : EP X pins σ Q w s := ⟨z, H, I, rw', q⟩
  have hL : s.heap.IsList p its.toArray := ⟨_, ho, rfl, _, rfl⟩
  by_cases h0 : 0 ≤ k
  · have hk : k.toNat = j := by
      rw [seqIndex_of h0 h4] at h1
      exact Option.some.inj h1
    exact wpAny_getItem_list hL h0 (by omega) (by rw [hk]; simpa using ew) fin
  · have hk : (k + (its.toArray.size : Int)).toNat = j := by
      rw [seqIndex_neg (by omega) h3] at h1
      rw [List.size_toArray, ← hl]
      exact Option.some.inj h1
    exact wpAny_getItem_list_neg hL (by omega) (by rw [List.size_toArray] <;> omega) (by omega) (by rw [hk]; simpa using ew) fin
def ownGet (i : Nat) (dy : D) : M D := fun s => match s.env[i]? with
  | some (some (.own ds)) => (match dy with
    | .int j => (match atI ds j with
      | some y => some (y, s)
      | none => none)
    | _ => none)
  | _ => none
theorem own_get {i : Nat} {dy y : D} {s s' : S} (h : ownGet i dy s = some (y, s')) : s' = s ∧ ∃ ds j, s.env[i]? = some (some (.own ds)) ∧ dy = .int j ∧ atI ds j = some y := by
  unfold ownGet at h
  split at h
  · rename_i ds hd
    split at h
    · rename_i j
      split at h
      · rename_i z hz; cases h; exact ⟨rfl, ds, j, hd, rfl, hz⟩
      · cases h
    · cases h
  · cases h
def augI (f : Int → Int → Int) : D → D → Option D
  | .int x, .int y => some (.int (f x y))
  | _, _ => none
def sAugIx (i : Nat) (f : Int → Int → Int) (mb me : M D) : M Out := bnd (ownHere i) fun _ => bnd mb fun dy => bnd (ownGet i dy) fun old => bnd me fun d => bnd (lift (augI f old d)) fun z => bnd (putL i (setL dy z)) fun _ => ret .nx
theorem augI_some {f : Int → Int → Int} {x y z : D} (h : augI f x y = some z) : ∃ i j, x = .int i ∧ y = .int j ∧ z = .int (f i j) := by
  unfold augI at h
  split at h
  · cases h; exact ⟨_, _, rfl, rfl, rfl⟩
  · cases h
theorem s_augIx {op : Operator} {f : Int → Int → Int} {tpos : Pos} {me : M D} (hx : PE X (.Name x p) (tVar i)) (hb : SE X b mb) (he : SE X e me) (ho : PIp X op (ipI f))
    (ha : ∀ ov iv new, augStore b ov iv new = (do holding [new, ov, iv] (setItem ov iv new); release [new, ov, iv] []; pure .next) := by intros; rfl) : SS X (.AugAssign (.Subscript (.Name x p) b tpos) op e pos) (sAugIx i f mb me) := ⟨fun B => by
  refine PS.imp (ps_augS hx (hb.pe B) get_list (he.pe B) ho set_list ha) fun D σ H ⟨s, o, s', k, e, q⟩ => ?_
  obtain ⟨_, s0, e0, e9⟩ := bnd_some e
  obtain ⟨rfl, ds0, h0⟩ := own_here e0
  obtain ⟨a, vs, q1, q2, q3⟩ := k.ownL h0
  refine ⟨_, q1, ?_⟩
  refine tI.bind k e9 fun dy s1 u H1 h1 e1 k1 ev1 r1 => ?_
  obtain ⟨old, s2, e2, e3⟩ := bnd_some e1
  obtain ⟨rfl, ds, j, hsl, rfl, hy⟩ := own_get e2
  obtain ⟨a', us, p1, p2, p3⟩ := k1.ownL hsl
  rw [q1] at p1; cases p1
  unfold atI at hy
  obtain ⟨n, hn, hy⟩ := Option.bind_eq_some_iff.mp hy
  obtain ⟨w, h3, h4⟩ := p3.get hy
  refine ⟨a, us, j, n, w, rfl, rp_int r1, p2, by rw [← p3.length]; exact hn, h3, ?_⟩
  refine tI.bind k1 e3 fun d s3 v H3 h5 e5 k3 ev3 r3 => ?_
  obtain ⟨z, s4, e6, e7⟩ := bnd_some e5
  obtain ⟨e11, rfl⟩ := lift_some e6
  obtain ⟨xi, yi, rfl, rfl, rfl⟩ := augI_some e11
  obtain ⟨_, s5, e8, e10⟩ := bnd_some e7
  obtain ⟨ds3, ds', hsl3, hf, rfl⟩ := put_L e8
  obtain ⟨rfl, rfl⟩ := ret_some e10
  unfold setL at hf
  obtain ⟨n', hn', rfl⟩ := Option.map_eq_some_iff.mp hf
  obtain ⟨a', us3, g1, g2, g3⟩ := k3.ownL hsl3
  rw [q1] at g1; cases g1
  obtain ⟨k4, ev4⟩ := k3.wr (sl' := .own (ds3.set n' (.int (f xi yi)))) (o := .lst (us3.set n' (.int (f xi yi)))) hsl3 rfl rfl q1 ⟨_, rfl, g3.set n' (.mkInt _)⟩
  exact ⟨xi, yi, rp_int h4, rp_int r3, a, us3, j, n', rfl, rp_int r1, g2, by rw [← g3.length]; exact hn', q σ _ k4 (ev1.trans (ev3.trans ev4))⟩⟩
end
end GH

namespace GH
open PySem PySem.Spec PyProof.Rows L2

def PendR (σ : Sg) (H : Hp) (s : S) (Bf : Bs) : Bs → List Sl → List V → Prop
  | B, [], vs => vs = [] ∧ Bf = B
  | B, .val d :: r, vs => ∃ v t, vs = v :: t ∧ Rp Bf.p (Bf.W s.env σ) H d v ∧ PendR σ H s Bf B r t
  | B, .own ds :: r, vs => ∃ a us t, vs = .ref a :: t ∧ B.H0 a = none ∧ ¬ B.Wc a ∧ Rps Bf.p (Bf.W s.env σ) H ds us ∧ PendR σ H s Bf (B.plusO a (.lst us)) r t
  | _, _ :: _, _ => False
/-- what each base under the new lists keeps -/
theorem PendR.base {σ : Sg} {H : Hp} {s : S} {Bf : Bs} : ∀ {l : List Sl} {B : Bs} {us : List V}, PendR σ H s Bf B l us → Bf.p = B.p ∧ Bf.c = B.c ∧ (∀ b o, B.H0 b = some o → Bf.H0 b = some o) ∧ (∀ b, B.Wc b → Bf.Wc b)
  | [], _, _, h => by rw [h.2]; exact ⟨rfl, rfl, fun _ _ z => z, fun _ z => z⟩
  | .val _ :: _, _, _, ⟨_, _, _, _, h⟩ => h.base
  | .own _ :: _, B, _, ⟨a, us, _, _, n, _, _, h⟩ => let ⟨h1, h2, h3, h4⟩ := h.base; ⟨h1, h2, fun b o z => h3 b o (by
      show upd B.H0 a _ b = _
      rw [upd_ne (ne_of_none z n)]; exact z), fun b z => h4 b (.inl z)⟩
  | .ownK _ _ :: _, _, _, h => False.elim h
  | .ownT _ _ :: _, _, _, h => False.elim h
theorem StOk.pin {B : Bs} {σ : Sg} {H : Hp} {s : S} {a : Addr} {o : HO} (k : StOk (B.plus a) σ H s) (h : H a = some o) : StOk (B.plusO a o) σ H s where
  len := k.len
  val := k.val
  own := fun i sl h ho => by
    obtain ⟨b, x, q1, q2, q3, q4, q5⟩ := k.own i sl h ho
    exact ⟨b, x, q1, q2, q3, by show upd B.H0 a o b = none; rw [upd_ne (fun z => q5 (.inr z))]; exact q4, q5⟩
  sep := k.sep
  src := k.src
  keep := fun b x e n1 n2 => by
    have e : upd B.H0 a o b = some x := e
    by_cases z : b = a
    · subst z; rw [upd_same] at e; cases e; exact h
    · rw [upd_ne z] at e; exact k.keep b x e n1 n2
  wc := k.wc
  wp := k.wp
  wcc := k.wcc
def tP (B : Bs) (m : M (List Sl)) : TA := fun σ H Q => ∃ s sls s', StOk B σ H s ∧ m s = some (sls, s') ∧
  ∀ vs H' Bf, StOk Bf σ H' s' → Ev (B.W s.env σ) H (Bf.W s'.env σ) H' → PendR σ H' s' Bf B sls vs → Q vs H'
structure SP (X : Cx) (es : List Expr) (m : M (List Sl)) : Prop where
  pa : ∀ B, PA X es (tP B m)
def pNil : M (List Sl) := ret []
def pVal (m : M D) (ms : M (List Sl)) : M (List Sl) := bnd m fun d => bnd ms fun r => ret (.val d :: r)
def pOwn (ml : M (List D)) (ms : M (List Sl)) : M (List Sl) := bnd ml fun ds => bnd ms fun r => ret (.own ds :: r)
section
variable {X : Cx} {e : Expr} {es : List Expr} {m : M D} {ml : M (List D)} {ms : M (List Sl)}
theorem p_nil : SP X [] pNil := ⟨fun B => PA.imp pa_nil fun σ H Q ⟨s, d, s', k, e, q⟩ => by
  obtain ⟨rfl, rfl⟩ := ret_some e
  exact q [] H B k Ev.refl ⟨rfl, rfl⟩⟩
theorem p_val (ha : SE X e m) (hr : SP X es ms) (hs : starEach (e :: es) X.env = (false, eval e X.env) :: starEach es X.env := by rfl) : SP X (e :: es) (pVal m ms) :=
  ⟨fun B => PA.imp (pa_cons (ha.pe B) (hr.pa B) hs) fun σ H Q ⟨s, d, s', k, e, q⟩ => by
    refine tI.bind k e fun dx s1 x H1 h1 e1 k1 ev1 r1 => ?_
    obtain ⟨r, s2, e2, e3⟩ := bnd_some e1
    obtain ⟨rfl, rfl⟩ := ret_some e3
    refine ⟨s1, r, s', k1, e2, fun vs H' Bf k2 ev2 pr => q _ H' Bf k2 (ev1.trans ev2) ⟨x, vs, rfl, ?_, pr⟩⟩
    rw [pr.base.1]
    exact r1.ev ev2⟩
theorem p_own (ha : SL X e ml) (hr : SP X es ms) (hs : starEach (e :: es) X.env = (false, eval e X.env) :: starEach es X.env := by rfl) : SP X (e :: es) (pOwn ml ms) :=
  ⟨fun B => ⟨fun pos pins sh σ H Q I h => by
    -- the base of what follows hangs on the new list's address
    refine (pa_cons (t := fun σ H Q => ∃ B', tP B' ms σ H Q) (ha.pe B) ⟨fun pos pins sh σ H Q I ⟨B', h⟩ => (hr.pa B').run pos pins sh σ H Q I h⟩ hs).run pos pins sh σ H Q I ?_
    obtain ⟨s, d, s', k, e, q⟩ := h
    obtain ⟨ds, s1, e1, e2⟩ := bnd_some e
    refine ⟨s, ds, s1, k, e1, fun a vs H1 k1 ev1 n nw hA r1 => ?_⟩
    obtain ⟨r, s2, e3, e4⟩ := bnd_some e2
    obtain ⟨rfl, rfl⟩ := ret_some e4
    refine ⟨B.plusO a (.lst vs), s1, r, s', k1.pin hA, e3, fun us H' Bf k2 ev2 pr => q _ H' Bf k2 (Ev.trans ev1 ev2) ⟨a, vs, us, rfl, n, fun z => nw (.inl z), ?_, pr⟩⟩
    rw [pr.base.1]
    exact Rps.ev ev2 _ _ r1⟩⟩

def putAll : List Nat → List Sl → List (Option Sl) → Option (List (Option Sl))
  | [], [], env => some env
  | i :: is, sl :: r, env => if i < env.length then (putAll is r env).map fun env' => env'.set i (some sl) else none
  | _, _, _ => none
def setAll : List Nat → List V → Sg → Sg
  | i :: is, v :: vs, σ => (setAll is vs σ).set i (some v)
  | _, _, σ => σ
theorem putAll_len : ∀ {is : List Nat} {l : List Sl} {env env' : List (Option Sl)}, putAll is l env = some env' → env'.length = env.length
  | [], [], _, _, h => by cases h; rfl
  | i :: is, sl :: r, env, env', h => by
    unfold putAll at h
    split at h
    · obtain ⟨e1, h1, rfl⟩ := Option.map_eq_some_iff.mp h
      rw [List.length_set, putAll_len h1]
    · cases h
  | [], _ :: _, _, _, h => by simp [putAll] at h
  | _ :: _, [], _, _, h => by simp [putAll] at h
theorem put_all {σ : Sg} {H : Hp} {s : S} {Bf : Bs} (kf : StOk Bf σ H s) : ∀ {is : List Nat} {l : List Sl} {B : Bs} {us : List V} {env' : List (Option Sl)}, PendR σ H s Bf B l us → B.Wc B.p → B.Wc B.c → putAll is l s.env = some env' →
    StOk B (setAll is us σ) H ⟨env', s.src⟩ ∧ Ev (Bf.W s.env σ) H (B.W env' (setAll is us σ)) H
  | [], [], _, _, _, h, _, _, e => by
    obtain ⟨rfl, rfl⟩ := h
    cases e
    exact ⟨kf, Ev.refl⟩
  | i :: is, .val d :: r, B, _, env', ⟨v, t, e1, r1, h⟩, wp, wc, e => by
    subst e1
    unfold putAll at e
    split at e
    · rename_i hl
      obtain ⟨e1, h1, rfl⟩ := Option.map_eq_some_iff.mp e
      obtain ⟨k, ev⟩ := put_all kf h wp wc h1
      obtain ⟨k2, ev2⟩ := k.set (d := d) (v := v) (i := i) (by rw [putAll_len h1]; exact hl) (by rw [← h.base.1]; exact r1.ev ev)
      exact ⟨k2, ev.trans ev2⟩
    · cases e
  | i :: is, .own ds :: r, B, _, env', ⟨a, us, t, e1, n, nc, r1, h⟩, wp, wc, e => by
    subst e1
    unfold putAll at e
    split at e
    · rename_i hl
      obtain ⟨e1, h1, rfl⟩ := Option.map_eq_some_iff.mp e
      obtain ⟨k, ev⟩ := put_all kf h (.inl wp) (.inl wc) h1
      have hA : H a = some (.lst us) := kf.keep a _ (h.base.2.2.1 a _ upd_same) (by rw [h.base.1]; exact fun z => nc (z ▸ wp)) (by rw [h.base.2.1]; exact fun z => nc (z ▸ wc))
      have kk := k.finish n
      obtain ⟨k2, ev2⟩ := kk.putOwn (i := i) (a := a) (vs := us) (ds := ds) (by show i < e1.length; rw [putAll_len h1]; exact hl) n (by
        rintro (z | ⟨j, sl, z1, z2, z3⟩)
        · exact nc z
        · obtain ⟨b, o, y1, _, _, _, y5⟩ := kk.own j sl z1 z2
          rw [z3] at y1; cases y1
          exact y5 (.inr rfl)) wp wc hA (by
        have : Bf.p = B.p := h.base.1
        rw [← this]; exact Rps.ev ev _ _ r1)
      exact ⟨k2, Ev.trans ev ev2⟩
    · cases e
  | [], _ :: _, _, _, _, _, _, _, e => by simp [putAll] at e
  | _ :: _, [], _, _, _, _, _, _, e => by simp [putAll] at e
  | _ :: _, .ownK _ _ :: _, _, _, _, h, _, _, _ => False.elim h
  | _ :: _, .ownT _ _ :: _, _, _, _, h, _, _, _ => False.elim h
theorem PendR.length {σ : Sg} {H : Hp} {s : S} {Bf : Bs} : ∀ {l : List Sl} {B : Bs} {us : List V}, PendR σ H s Bf B l us → us.length = l.length
  | [], _, _, h => by rw [h.1]; rfl
  | .val _ :: _, _, _, ⟨_, _, e, _, h⟩ => by rw [e]; simp [h.length]
  | .own _ :: _, _, _, ⟨_, _, _, e, _, _, _, h⟩ => by rw [e]; simp [h.length]
  | .ownK _ _ :: _, _, _, h => False.elim h
  | .ownT _ _ :: _, _, _, h => False.elim h
def sPar (is : List Nat) (ms : M (List Sl)) : M Out := bnd ms fun sls s => match putAll is sls s.env with
  | some env => some (.nx, ⟨env, s.src⟩)
  | none => none
theorem putAll_ilen : ∀ {is : List Nat} {l : List Sl} {env env' : List (Option Sl)}, putAll is l env = some env' → l.length = is.length
  | [], [], _, _, _ => rfl
  | i :: is, sl :: r, env, env', h => by
    unfold putAll at h
    split at h
    · obtain ⟨e1, h1, rfl⟩ := Option.map_eq_some_iff.mp h
      simp [putAll_ilen h1]
    · cases h
  | [], _ :: _, _, _, h => by simp [putAll] at h
  | _ :: _, [], _, _, h => by simp [putAll] at h
theorem par_go {B : Bs} {Dn : Ends} {σ : Sg} {H : Hp} {is : List Nat} (h : tS B (sPar is ms) Dn σ H) : tP B ms σ H fun vs H1 => vs.length = is.length ∧ ∀ H2, Same H1 H2 → Dn.nx (setAll is vs σ) H2 := by
  obtain ⟨s, o, s', k, e, q⟩ := h
  obtain ⟨sls, s1, e1, e2⟩ := bnd_some e
  split at e2
  · rename_i env he
    cases e2
    refine ⟨s, sls, s1, k, e1, fun vs H' Bf k1 ev1 pr => ⟨by rw [pr.length, putAll_ilen he], fun H2 sm => ?_⟩⟩
    obtain ⟨k2, ev2⟩ := put_all k1 pr k.wp k.wcc he
    exact q _ H2 (k2.same sm) (ev1.trans (ev2.trans (Ev.same sm)))
  · cases e2
theorem TP.imp {B : Bs} {σ : Sg} {H : Hp} {Q Q' : List V → Hp → Prop} (h : tP B ms σ H Q) (f : ∀ vs H', Q vs H' → Q' vs H') : tP B ms σ H Q' := by
  obtain ⟨s, sls, s', k, e, q⟩ := h
  exact ⟨s, sls, s', k, e, fun vs H' Bf k1 ev1 pr => f _ _ (q vs H' Bf k1 ev1 pr)⟩
theorem s_par2 {pos : Pos} {i j : Nat} {x y : Str} {a b : Expr} {px py pt : Pos} {kt k2 pt2} (hc : X.calm = true) (hN : X.N.Nodup) (hi : X.N[i]? = some x) (hj : X.N[j]? = some y) (hij : i ≠ j)
    (hx : X.env.scope.names.lookup x = some .local) (hy : X.env.scope.names.lookup y = some .local) (ha : SP X [a, b] ms)
    (hw : swappedStores [.Tuple [.Name x px, .Name y py] kt pt] (.Tuple [a, b] k2 pt2) X.env = pure (some [x, y]))
    (hs : swapsWithSole [.Tuple [.Name x px, .Name y py] kt pt] (.Tuple [a, b] k2 pt2) pos.line X.env = pure false := by rfl) :
    SS X (.Assign [.Tuple [.Name x px, .Name y py] kt pt] (.Tuple [a, b] k2 pt2) pos) (sPar [i, j] ms) := ⟨fun B => PS.imp (ps_par hc hN hi hj hij hx hy (ha.pa B) hw hs) fun D σ H h => by
  refine TP.imp (par_go h) fun vs H1 ⟨hl, q⟩ => ?_
  match vs, hl with
  | [v, w], _ =>
    refine ⟨v, w, rfl, ?_⟩
    have q := q H1 (Same.refl _)
    simp only [setAll] at q
    rw [List.set_comm _ _ (Ne.symm hij)] at q
    exact q⟩
theorem s_par3 {pos : Pos} {i j l : Nat} {x y z : Str} {a b c : Expr} {px py pz pt : Pos} {kt k2 pt2} (hc : X.calm = true) (hN : X.N.Nodup) (hi : X.N[i]? = some x) (hj : X.N[j]? = some y) (hl : X.N[l]? = some z) (hij : i ≠ j) (hil : i ≠ l) (hjl : j ≠ l)
    (hx : X.env.scope.names.lookup x = some .local) (hy : X.env.scope.names.lookup y = some .local) (hz : X.env.scope.names.lookup z = some .local) (ha : SP X [a, b, c] ms)
    (hw : swappedStores [.Tuple [.Name x px, .Name y py, .Name z pz] kt pt] (.Tuple [a, b, c] k2 pt2) X.env = pure (some [x, y, z]))
    (hs : swapsWithSole [.Tuple [.Name x px, .Name y py, .Name z pz] kt pt] (.Tuple [a, b, c] k2 pt2) pos.line X.env = pure false := by rfl) :
    SS X (.Assign [.Tuple [.Name x px, .Name y py, .Name z pz] kt pt] (.Tuple [a, b, c] k2 pt2) pos) (sPar [i, j, l] ms) := ⟨fun B => PS.imp (ps_par3 hc hN hi hj hl hij hil hjl hx hy hz (ha.pa B) hw hs) fun D σ H h => by
  refine TP.imp (par_go h) fun vs H1 ⟨hl, q⟩ => ?_
  match vs, hl with
  | [u, v, w], _ =>
    refine ⟨u, v, w, rfl, ?_⟩
    have q := q H1 (Same.refl _)
    simp only [setAll] at q
    rw [List.set_comm (some v) (some u) (Ne.symm hij), List.set_comm (some w) (some u) (Ne.symm hil), List.set_comm (some w) (some v) (Ne.symm hjl)] at q
    exact q⟩
/-- names, however many, by way of the tuple -/
def gNames : List Nat → TGs
  | [] => L2.gNil
  | i :: is => L2.gCons (gName i) (gNames is)
theorem gNames_of : ∀ {is : List Nat} {vs : List V} {σ : Sg} {H : Hp} {Q : Sg → Hp → Prop}, is.Nodup → vs.length = is.length → Q (setAll is vs σ) H → gNames is vs σ H Q
  | [], [], _, _, _, _, _, q => ⟨rfl, q⟩
  | i :: is, v :: vs, σ, H, Q, nd, hl, q => by
    refine ⟨v, vs, rfl, ?_⟩
    have nd' := List.nodup_cons.mp nd
    refine gNames_of nd'.2 (by simpa using hl) ?_
    have : ∀ (js : List Nat) (us : List V), i ∉ js → setAll js us (σ.set i (some v)) = (setAll js us σ).set i (some v) := fun js => by
      induction js with
      | nil => intro us _; cases us <;> rfl
      | cons j js ih =>
        intro us hn
        cases us with
        | nil => rfl
        | cons u us =>
          simp only [setAll]
          rw [ih us (fun z => hn (List.mem_cons_of_mem _ z)), List.set_comm _ _ (fun z : i = j => hn (by rw [z]; exact List.mem_cons_self))]
    rw [this is vs nd'.1]
    exact q
  | [], _ :: _, _, _, _, _, hl, _ => by simp at hl
  | _ :: _, [], _, _, _, _, hl, _ => by simp at hl
theorem s_parT {pos : Pos} {is : List Nat} {tgs es : List Expr} {pt : Pos} {kt k2 pt2} (hc : X.calm = true) (nd : is.Nodup) (ht : PGs X tgs (gNames is)) (ha : SP X es ms) (hn : (assignEach tgs X.env).length = is.length := by rfl) (hst : (assignEach tgs X.env).findIdx? (·.1) = none := by rfl) (hz : is.length ≤ 30 := by decide)
    (hs : swapsWithSole [.Tuple tgs kt pt] (.Tuple es k2 pt2) pos.line X.env = pure false := by rfl) (hw : swappedStores [.Tuple tgs kt pt] (.Tuple es k2 pt2) X.env = pure none := by rfl)
    (h1 : (assignEach [.Tuple tgs kt pt] X.env).map (·.2) = [assign (.Tuple tgs kt pt) X.env] := by rfl) :
    SS X (.Assign [.Tuple tgs kt pt] (.Tuple es k2 pt2) pos) (sPar is ms) := ⟨fun B => PS.imp (ps_asg (pe_tup (ha.pa B)) (pg_tup hc ht hn hst) hs hw h1) fun D σ H h => by
  refine TP.imp (par_go h) fun vs H1 ⟨hl, q⟩ => ⟨by have := line63; unfold sizeLine at *; omega, fun p np => ?_⟩
  refine ⟨p, vs, rfl, SqT.of upd_same, hl, gNames_of nd hl (q _ (same_new np))⟩⟩
theorem pgs_name {is : List Nat} {i : Nat} {x : Str} {tgs : List Expr} {p : Pos} (hN : X.N.Nodup) (hi : X.N[i]? = some x) (hx : Loc X.env.scope x) (h : PGs X tgs (gNames is)) (hs : (assignEach (.Name x p :: tgs) X.env).map (·.2) = assign (.Name x p) X.env :: (assignEach tgs X.env).map (·.2) := by rfl) (hf : X.fn x = true ∨ X.env.scope.names.lookup x = some .local := by first | exact .inl rfl | exact .inr rfl | assumption) : PGs X (.Name x p :: tgs) (gNames (i :: is)) :=
  pgs_cons (pg_name hN hi hx hf) h hs
theorem pgs_none : PGs X [] (gNames []) := L2.pgs_nil

def rBL (f : D → D → Option (List D)) : R2 := fun x y H Q => ∃ p W dx dy es, WT W H ∧ Rp p W H dx x ∧ Rp p W H dy y ∧ f dx dy = some es ∧
  ∀ a us H', Same H H' → H a = none → H' a = some (.lst us) → Rps p W H es us → Q (.ref a) H'
def eBinL (f : D → D → Option (List D)) (ma mb : M D) : M (List D) := bnd ma fun x => bnd mb fun y => lift (f x y)
theorem binL_go {B : Bs} {f : D → D → Option (List D)} {σ : Sg} {H : Hp} {Q : VK} {ma mb : M D} (h : tL B (eBinL f ma mb) σ H Q) : tOp (rBL f) (tI B ma) (tI B mb) σ H Q := by
  obtain ⟨s, d, s', k, e, q⟩ := h
  refine tI.bind k e fun dx s1 x H1 h1 e1 k1 ev1 r1 => ?_
  refine tI.bind k1 e1 fun dy s2 y H2 h2 e2 k2 ev2 r2 => ?_
  obtain ⟨e3, rfl⟩ := lift_some e2
  refine ⟨B.p, _, dx, dy, d, k2.wt, r1.ev ev2, r2, e3, fun a us H' sm n ha r => ?_⟩
  obtain ⟨kp, ev3, r3⟩ := k2.newList sm n ha r
  exact q a us H' kp ((ev1.trans ev2).trans ev3) (k2.new n) (k2.wt.new n) ha r3
theorem l_bin {op : Operator} {f : D → D → Option (List D)} {a b : Expr} {ma mb : M D} {pos : Pos} (ho : OpR X (binaryOp op) (rBL f)) (ha : SE X a ma) (hb : SE X b mb) : SL X (.BinOp a op b pos) (eBinL f ma mb) :=
  ⟨fun B => PE.imp (pe_op ho (ha.pe B) (hb.pe B)) fun σ H Q h => binL_go h⟩
def addLD : D → D → Option (List D)
  | .lst a, .lst b => if a.length + b.length ≤ sizeLine then some (a ++ b) else none
  | _, _ => none
def mulLD : D → D → Option (List D)
  | .lst a, .int k => if -(2 ^ 63) ≤ k ∧ k < 2 ^ 63 ∧ a.length * k.toNat ≤ sizeLine then some (List.replicate k.toNat a).flatten else none
  | _, _ => none
theorem opL_cases {g : Value → Value → Sem Value} {f : D → D → Option (List D)} (h : ∀ dx dy es p W, f dx dy = some es → OpR X g (fun x y H Q => WT W H ∧ Rp p W H dx x ∧ Rp p W H dy y ∧ ∀ a us H', Same H H' → H a = none → H' a = some (.lst us) → Rps p W H es us → Q (.ref a) H')) : OpR X g (rBL f) := by
  intro pins s σ H x y v u Q I rx ry ⟨p, W, dx, dy, d, hw, hx, hy, he, hq⟩
  exact h dx dy d p W he pins s σ H x y v u Q I rx ry ⟨hw, hx, hy, hq⟩
theorem ol_add : OpR X (binaryOp .Add) (rBL addLD) := opL_cases fun dx dy d p W he => by
  unfold addLD at he
  split at he
  · split at he
    · cases he
      rename_i as bs hl
      refine OpR.imp op_cat fun x y H Q ⟨hw, hx, hy, hq⟩ => ?_
      obtain ⟨a, vs, rfl, na, ha, ra⟩ := rp_lst hx
      obtain ⟨b, us, rfl, nb, hb, rb⟩ := rp_lst hy
      exact ⟨a, b, vs, us, rfl, rfl, ha, hb, by rw [← ra.length, ← rb.length]; exact hl, fun q nq => hq _ _ _ (same_new nq) nq upd_same (ra.append rb)⟩
    · cases he
  · cases he
theorem ol_mul : OpR X (binaryOp .Mult) (rBL mulLD) := opL_cases fun dx dy d p W he => by
  unfold mulLD at he
  split at he
  · split at he
    · cases he
      rename_i as k hl
      refine OpR.imp op_rep fun x y H Q ⟨hw, hx, hy, hq⟩ => ?_
      obtain ⟨a, vs, rfl, na, ha, ra⟩ := rp_lst hx
      exact ⟨a, k, vs, rfl, rp_int hy, ha, hl.1, hl.2.1, by rw [← ra.length]; exact hl.2.2, fun q nq => hq _ _ _ (same_new nq) nq upd_same (rps_rep ra _)⟩
    · cases he
  · cases he
end
end GH

namespace GH
open PySem PySem.Spec PyProof.Rows L2

section
variable {X : Cx}
def itemsD : D → Option (List D)
  | .lst ds => some ds
  | .tup ds => some ds
  | _ => none
def okIn (x : D) (ds : List D) : Prop := SeqAt.shaped x.py = true ∧ (SeqAt.shaped (PyData.list (D.pys ds)) = true ∧ PyData.canLayAll0 (D.pys ds) = true)
instance (x : D) (ds : List D) : Decidable (okIn x ds) := by unfold okIn; infer_instance
def memD (x : D) (ds : List D) : Bool := (D.pys ds).any fun z => PyData.eqv z x.py
def inD (x y : D) : Option D := match x, y with
  | .int i, .rng lo hi => some (.bl (decide (lo ≤ i ∧ i < hi)))
  | x, .lst ds => if okIn x ds then some (.bl (memD x ds)) else none
  | x, .tup ds => if okIn x ds then some (.bl (memD x ds)) else none
  | _, _ => none
def ninD (x y : D) : Option D := match x, y with
  | x, .lst ds => if okIn x ds then some (.bl (!memD x ds)) else none
  | x, .tup ds => if okIn x ds then some (.bl (!memD x ds)) else none
  | _, _ => none
theorem in_go {neg : Bool} {x : D} {ds : List D} {p : Addr} {W : AP} (hu : X.A.units + 65 < cLine) (h : okIn x ds) (tup : Bool) : OpR X (compareOp (if neg then .NotIn else .In)) (fun u v H Q => WT W H ∧ Rp p W H x u ∧ Rp p W H (if tup then .tup ds else .lst ds) v ∧ Q (.bl (if neg then !memD x ds else memD x ds)) H) := by
  intro pins s σ H u v uv vv Q I ru rv ⟨hw, hx, hy, q⟩
  obtain ⟨as, r1⟩ := Dp.reads I x.py u uv (hx.dp _ _ (SeqAt.canLay_of_shaped h.1)) ru
  cases tup with
  | false =>
    obtain ⟨bs, r2⟩ := Dp.reads I (.list (D.pys ds)) v vv (by
      have := hy.dp (K := X.K) (.lst ds) v (by simp only [D.py]; exact SeqAt.canLay_of_shaped h.2.1)
      simpa only [D.py] using this) rv
    cases neg with
    | false => exact SeqAt.in_list_reads r2 r1 h.2.2 (SeqAt.canLay_of_shaped h.1) (room_in_shaped h.1 hu) ⟨.bl _, H, I, rfl, q⟩
    | true => exact SeqAt.notIn_list_reads r2 r1 h.2.2 (SeqAt.canLay_of_shaped h.1) (room_in_shaped h.1 hu) ⟨.bl _, H, I, rfl, q⟩
  | true =>
    obtain ⟨bs, r2⟩ := Dp.reads I (.tuple (D.pys ds)) v vv (by
      have := hy.dp (K := X.K) (.tup ds) v (by simp only [D.py, PyData.canLay0]; exact h.2.2)
      simpa only [D.py] using this) rv
    cases neg with
    | false => exact SeqAt.in_tuple_reads r2 r1 h.2.2 (SeqAt.canLay_of_shaped h.1) (room_in_shaped h.1 hu) ⟨.bl _, H, I, rfl, q⟩
    | true => exact SeqAt.notIn_tuple_reads r2 r1 h.2.2 (SeqAt.canLay_of_shaped h.1) (room_in_shaped h.1 hu) ⟨.bl _, H, I, rfl, q⟩
theorem od_in (hu : X.A.units + 65 < cLine) : OpD X (compareOp .In) inD := opD_cases fun dx dy d p W he => by
  unfold inD at he
  split at he
  · cases he
    refine OpR.imp op_in_rng fun x y H Q ⟨hw, hx, hy, hq⟩ => ?_
    obtain ⟨a, rfl, _, ha⟩ := rp_rng hy
    exact ⟨_, a, _, _, rp_int hx, rfl, ha, hq _ _ (Same.refl H) (.mkBl _)⟩
  · split at he
    · cases he
      rename_i hk
      exact OpR.imp (in_go (neg := false) (p := p) (W := W) hu hk false) fun x y H Q ⟨hw, hx, hy, hq⟩ => ⟨hw, hx, hy, hq _ _ (Same.refl H) (.mkBl _)⟩
    · cases he
  · split at he
    · cases he
      rename_i hk
      exact OpR.imp (in_go (neg := false) (p := p) (W := W) hu hk true) fun x y H Q ⟨hw, hx, hy, hq⟩ => ⟨hw, hx, hy, hq _ _ (Same.refl H) (.mkBl _)⟩
    · cases he
  · cases he
theorem od_nin (hu : X.A.units + 65 < cLine) : OpD X (compareOp .NotIn) ninD := opD_cases fun dx dy d p W he => by
  unfold ninD at he
  split at he
  · split at he
    · cases he
      rename_i hk
      exact OpR.imp (in_go (neg := true) (p := p) (W := W) hu hk false) fun x y H Q ⟨hw, hx, hy, hq⟩ => ⟨hw, hx, hy, hq _ _ (Same.refl H) (.mkBl _)⟩
    · cases he
  · split at he
    · cases he
      rename_i hk
      exact OpR.imp (in_go (neg := true) (p := p) (W := W) hu hk true) fun x y H Q ⟨hw, hx, hy, hq⟩ => ⟨hw, hx, hy, hq _ _ (Same.refl H) (.mkBl _)⟩
    · cases he
  · cases he

variable {a b c e : Expr} {es : List Expr} {pos p : Pos} {ma mb mc m : M D} {ms : M (List D)}
def eChain (f g : D → D → Option D) (ma mb mc : M D) : M D := bnd ma fun x => bnd mb fun y => bnd (lift (f x y)) fun z => match z with
  | .bl true => bnd mc fun w => lift (g y w)
  | .bl false => ret (.bl false)
  | _ => fail
theorem chain_go {B : Bs} {f g : D → D → Option D} {σ : Sg} {H : Hp} {Q : VK} (h : tI B (eChain f g ma mb mc) σ H Q) : tChain (rB f) (rB g) (tI B ma) (tI B mb) (tI B mc) σ H Q := by
  obtain ⟨s, d, s', k, e, q⟩ := h
  refine tI.bind k e fun dx s1 x H1 h1 e1 k1 ev1 r1 => ?_
  refine tI.bind k1 e1 fun dy s2 y H2 h2 e2 k2 ev2 r2 => ?_
  obtain ⟨z, s3, e3, e4⟩ := bnd_some e2
  obtain ⟨e5, rfl⟩ := lift_some e3
  refine ⟨B.p, _, dx, dy, z, k2.wt, r1.ev ev2, r2, e5, fun v H3 sm r3 => ?_⟩
  have k3 := k2.same sm
  have ev3 := (ev1.trans ev2).trans (Ev.same (W := B.W s3.env σ) sm)
  split at e4
  · refine ⟨true, rp_bl r3, ?_⟩
    rw [if_pos rfl]
    refine tI.bind k3 e4 fun dw s4 w H4 h4 e6 k4 ev4 r4 => ?_
    obtain ⟨e7, rfl⟩ := lift_some e6
    exact ⟨B.p, _, dy, dw, d, k4.wt, (r2.ev (Ev.same sm)).ev ev4, r4, e7, fun v H' sm r => q v H' (k4.same sm) ((ev3.trans ev4).trans (Ev.same sm)) r⟩
  · refine ⟨false, rp_bl r3, ?_⟩
    rw [if_neg (by decide)]
    obtain ⟨rfl, rfl⟩ := ret_some e4
    exact q _ H3 k3 ev3 (.mkBl _)
  · cases e4
theorem s_chain {op op' : CmpOp} {f g : D → D → Option D} (ho : OpD X (compareOp op) f) (ho' : OpD X (compareOp op') g) (ha : SE X a ma) (hb : SE X b mb) (hc : SE X c mc) (hm : lastMarks [op, op'] [b, c] = false := by with_unfolding_all rfl) : SE X (.Compare a [op, op'] [b, c] pos) (eChain f g ma mb mc) :=
  ⟨fun B => PE.imp (pe_chain ho ho' (ha.pe B) (hb.pe B) (hc.pe B) hm) fun σ H Q h => chain_go h⟩
theorem t_chain {op op' : CmpOp} {f g : D → D → Option D} (ho : OpD X (compareOp op) f) (ho' : OpD X (compareOp op') g) (ha : SE X a ma) (hb : SE X b mb) (hc : SE X c mc) (hm : lastMarks [op, op'] [b, c] = false := by with_unfolding_all rfl) : ST X (.Compare a [op, op'] [b, c] pos) (tst (eChain f g ma mb mc)) :=
  ⟨fun B => PT.imp (pt_chain ho ho' (ha.pe B) (hb.pe B) (hc.pe B) hm) fun σ H Q ⟨s, b', s', k, e, q⟩ => by
    obtain ⟨d, s1, h1, h2⟩ := bnd_some e
    cases d <;> simp only [fail] at h2 <;> try (cases h2; done)
    obtain ⟨rfl, rfl⟩ := ret_some h2
    refine chain_go ⟨s, _, _, k, h1, fun v H' k' ev r => ⟨_, rp_bl r, q H' k' ev⟩⟩⟩

def tyD : D → Option String
  | .non => some "NoneType"
  | .bl _ => some "bool"
  | .int _ => some "int"
  | .str _ => some "str"
  | .tup _ => some "tuple"
  | .lst _ => some "list"
  | .dct _ _ => some "dict"
  | _ => none
def isiD (T : String) (d : D) : Option D := (tyD d).bind fun t => (kitB t T).map .bl
theorem Rp.ty {p : Addr} {W : AP} {H : Hp} {K : PySem.W.Frag} {d : D} {v : V} {t : String} (r : Rp p W H d v) (h : tyD d = some t) : TyX K H v (.type t) := by
  cases d <;> simp only [tyD] at h <;> cases h
  · rw [rp_non r]; exact .base .non
  · rw [rp_bl r]; exact .base (.bl _)
  · rw [rp_int r]; exact .base (.int _)
  · rw [rp_str r]; exact .base (.str _)
  · obtain ⟨a, vs, rfl, _, ha, _⟩ := rp_tup r; exact .base (.tup ha)
  · obtain ⟨a, vs, rfl, _, ha, _⟩ := rp_lst r; exact .base (.lst ha)
  · obtain ⟨a, vs, rfl, _, ha, _⟩ := rp_dct r; exact .base (.dK ha)
theorem s_isi {T : String} {x : Str} {p2 : Pos} (hg : Gl X "isinstance") (hm : X.mg "isinstance" = none) (ha : SE X e ma) (hg2 : Gl X x) (hm2 : X.mg x = none) (hv2 : bootBuiltins x = some (.type T)) (hn2 : x ≠ "__name__" := by decide) (hd2 : (x == ("__debug__" : Str)) = false := by decide)
    (na : starEach [e, .Name x p2] X.env = (false, eval e X.env) :: starEach [.Name x p2] X.env := by rfl) (nb : starEach [.Name x p2] X.env = (false, eval (.Name x p2) X.env) :: starEach [] X.env := by rfl)
    (hpl : (backTo pos (starEach [.Name x p2] X.env)).any (·.1) = false := by rfl) : SE X (.Call (.Name "isinstance" p) [e, .Name x p2] [] pos) (eUn (isiD T) ma) :=
  ⟨fun B => PE.imp (pe_callB call_isi hg hm boot_isinstance (pa_cons (ha.pe B) (pa_cons (pe_bltn (v := .ty T) hg2 hm2 hv2 rfl hn2 hd2) pa_nil nb) na) (by decide) (by decide) na hpl) fun σ H Q ⟨s, d, s', k, e, q⟩ => by
    refine tI.bind k e fun dx s1 u H1 h1 e1 k1 ev1 r1 => ?_
    obtain ⟨e3, rfl⟩ := lift_some e1
    unfold isiD at e3
    obtain ⟨t, ht, e4⟩ := Option.bind_eq_some_iff.mp e3
    obtain ⟨b, hb, rfl⟩ := Option.map_eq_some_iff.mp e4
    exact ⟨u, .ty T, .type t, .type T, b, rfl, .ty T, r1.ty ht, kit_ty hb, q _ H1 k1 ev1 (.mkBl _)⟩⟩

/-- data without dicts -/
def D.plain : D → Bool
  | .rng _ _ => false
  | .src => false
  | .dct _ _ => false
  | .dtt _ _ => false
  | _ => true
def okRepr (d : D) : Prop := d.py.canLay0 = true ∧ d.py.showable = true ∧ d.py.hasDict = false ∧ d.py.depth ≤ 60 ∧ d.py.shown.length ≤ sizeLine
instance (d : D) : Decidable (okRepr d) := by unfold okRepr; infer_instance
def reprG : List D → Option D
  | [.int i] => if i.natAbs.log2 < 1920 then some (.str (toString i : String)) else none
  | [.bl b] => some (.str (if b = true then "True" else "False"))
  | [.non] => some (.str "None")
  | [.tup ds] => if okRepr (.tup ds) then some (.str (D.tup ds).py.shown) else none
  | [.lst ds] => if okRepr (.lst ds) then some (.str (D.lst ds).py.shown) else none
  | _ => none
theorem repr_ref {k : Nat} (hr : RG k X.A) {p : Addr} {W : AP} (d : D) (hk : okRepr d) : CallR X (.builtin "repr") (fun vs H Q => ∃ a, vs = [.ref a] ∧ Rp p W H d (.ref a) ∧ Q (.str d.py.shown) H) := by
  intro pins s σ H xs us Q I r ⟨a, e, rd, q⟩
  subst e
  obtain ⟨u, rfl, ru⟩ := r.one
  cases ru
  obtain ⟨h1, h2, h3, h4, h5⟩ := hk
  obtain ⟨as, rr⟩ := Dp.reads I d.py (.ref a) (.ref a) (rd.dp _ _ h1) rfl
  have hu := hr.r.units
  refine PySem.repr_of_reads' rr h2 (fun z => by rw [h3] at z; cases z) hr.g (by omega) (fun _ _ z => z) (fun h' u tk hk => ?_) h5
  exact ⟨.str _, H, I.kept (t' := tk) hk, ⟨_, rfl⟩, q⟩
theorem c_repr {k : Nat} (hr : RG k X.A) : CallD X (.builtin "repr") reprG := callD_cases fun ds d p W he => by
  unfold reprG at he
  split at he
  · split at he
    · rename_i hz
      cases he
      refine CallR.imp SkE.call_repr_int fun vs H Q ⟨hw, hx, hq⟩ => ?_
      obtain ⟨v, rfl, r⟩ := rps1 hx
      exact ⟨_, by rw [rp_int r], hz, hq _ _ (Same.refl H) (.mkStr _)⟩
    · cases he
  · cases he
    intro pins s σ H xs us Q I r ⟨hw, hx, hq⟩
    obtain ⟨v, rfl, rv⟩ := rps1 hx
    rw [rp_bl rv] at r
    obtain ⟨u, rfl, ru⟩ := r.one
    cases ru
    exact P.repr_of_bool ⟨.str _, H, I.tok _, ⟨_, rfl⟩, hq _ _ (Same.refl H) (.mkStr _)⟩
  · cases he
    intro pins s σ H xs us Q I r ⟨hw, hx, hq⟩
    obtain ⟨v, rfl, rv⟩ := rps1 hx
    rw [rp_non rv] at r
    obtain ⟨u, rfl, ru⟩ := r.one
    cases ru
    exact P.repr_of_none ⟨.str _, H, I.tok _, ⟨_, rfl⟩, hq _ _ (Same.refl H) (.mkStr _)⟩
  · split at he
    · rename_i hz
      cases he
      refine CallR.imp (repr_ref (p := p) (W := W) hr _ hz) fun vs H Q ⟨hw, hx, hq⟩ => ?_
      obtain ⟨v, rfl, r⟩ := rps1 hx
      obtain ⟨a, us, rfl, _⟩ := rp_tup r
      exact ⟨a, rfl, r, hq _ _ (Same.refl H) (.mkStr _)⟩
    · cases he
  · split at he
    · rename_i hz
      cases he
      refine CallR.imp (repr_ref (p := p) (W := W) hr _ hz) fun vs H Q ⟨hw, hx, hq⟩ => ?_
      obtain ⟨v, rfl, r⟩ := rps1 hx
      obtain ⟨a, us, rfl, _⟩ := rp_lst r
      exact ⟨a, rfl, r, hq _ _ (Same.refl H) (.mkStr _)⟩
    · cases he
  · cases he

def sAug (i : Nat) (f : Int → Int → Int) (m : M D) : M Out := fun s0 => match s0.env[i]? with
  | some (some (.val x)) => bnd m (fun d => bnd (lift (augI f x d)) fun z => bnd (gN i z) fun _ => ret .nx) s0
  | _ => none
theorem s_aug {op : Operator} {f : Int → Int → Int} {i : Nat} {x : Str} {pos' : Pos} (hN : X.N.Nodup) (hi : X.N[i]? = some x) (hx : Loc X.env.scope x) (he : SE X e m) (ho : PIp X op (ipI f)) (hf : X.fn x = true ∨ X.env.scope.names.lookup x = some .local := by first | exact .inl rfl | exact .inr rfl | assumption) : SS X (.AugAssign (.Name x pos') op e pos) (sAug i f m) :=
  ⟨fun B => PS.imp (ps_aug hN hi hx (he.pe B) ho hf) fun D σ H ⟨s, o, s', k, e, q⟩ => by
    unfold sAug at e
    split at e
    · rename_i dx hd
      obtain ⟨v, h1, h2⟩ := k.val i dx hd
      refine ⟨v, h1, ?_⟩
      refine tI.bind k e fun d s1 u H1 h3 e1 k1 ev1 r1 => ?_
      obtain ⟨z, s2, e2, e3⟩ := bnd_some e1
      obtain ⟨e4, rfl⟩ := lift_some e2
      obtain ⟨xi, yi, rfl, rfl, rfl⟩ := augI_some e4
      refine ⟨xi, yi, rp_int h2, rp_int r1, ?_⟩
      obtain ⟨_, s3, e5, e6⟩ := bnd_some e3
      obtain ⟨rfl, rfl⟩ := ret_some e6
      unfold gN at e5
      split at e5
      · rename_i hl
        cases e5
        obtain ⟨k', ev⟩ := k1.set hl (.mkInt (f xi yi))
        exact q _ H1 k' (ev1.trans ev)
      · cases e5
    · cases e⟩

def rngDn (hi lo : Int) : List D := (List.range (hi - lo).toNat).map fun i => .int (hi - (i : Nat))
def iRgDn (ma mb mc : M D) : M (List D) := bnd ma fun d => bnd mb fun e => bnd mc fun f => match d, e, f with
  | .int i, .int j, .int c => if okR i ∧ okR j ∧ c = -1 then ret (rngDn i j) else fail
  | _, _, _ => fail
theorem walk_dn {p : Addr} {W : AP} {H : Hp} {hi lo : Int} : WalkD p W H (Itc hi (-1) (hi - lo).toNat) (rngDn hi lo) := fun W2 H2 ev wt => by
  have hl : (rngDn hi lo).length = (hi - lo).toNat := by simp [rngDn]
  refine ⟨fun i h => by show i < _; omega, by show _ ≤ _; omega, fun i d x H3 hd y => ?_⟩
  obtain ⟨e, hx⟩ := y
  subst e
  subst hx
  refine ⟨Same.refl _, ?_⟩
  have hi' : i < (hi - lo).toNat := by have := (List.getElem?_eq_some_iff.mp hd).1; omega
  unfold rngDn at hd
  rw [List.getElem?_map, List.getElem?_range hi'] at hd
  cases hd
  have e : hi + ((i : Nat) : Int) * -1 = hi - ((i : Nat) : Int) := by omega
  rw [e]
  exact .mkInt _
theorem i_rgDn {tg : Expr} (hg : Gl X "range") (hm : X.mg "range" = none) (ha : SE X a ma) (hb : SE X b mb) (hc : SE X c mc) (hs : starEach [a, b, c] X.env = (false, eval a X.env) :: starEach [b, c] X.env := by rfl) (hs2 : starEach [b, c] X.env = (false, eval b X.env) :: starEach [c] X.env := by rfl) (hs3 : starEach [c] X.env = (false, eval c X.env) :: starEach [] X.env := by rfl)
    (hpl : (backTo pos (starEach [b, c] X.env)).any (·.1) = false := by rfl) : SI X tg (.Call (.Name "range" p) [a, b, c] [] pos) (iRgDn ma mb mc) :=
  ⟨fun B => PI.imp (pi_range3 hg hm (pa_cons (ha.pe B) (pa_cons (hb.pe B) (pa_cons (hc.pe B) pa_nil hs3) hs2) hs) hs hpl) fun σ H R ⟨s, ds, s', k, e, q⟩ => by
    refine tI.bind k e fun d s1 v H1 h1 e1 k1 ev1 r1 => ?_
    refine tI.bind k1 e1 fun d2 s2 v2 H2 h2 e2 k2 ev2 r2 => ?_
    refine tI.bind k2 e2 fun d3 s3 v3 H3 h3 e3 k3 ev3 r3 => ?_
    split at e3
    · rename_i i j c
      split at e3
      · rename_i hk
        obtain ⟨h4, h5, rfl⟩ := hk
        obtain ⟨rfl, rfl⟩ := ret_some e3
        exact ⟨i, j, -1, _, by rw [rp_int r1, rp_int r2, rp_int r3], RgC.neg h4.1 h4.2 h5.1 h5.2, q _ H3 k3 (ev1.trans (ev2.trans ev3)) walk_dn⟩
      · cases e3
    · cases e3⟩
end
end GH

namespace GH
open PySem PySem.Spec PyProof.Rows L2

theorem fm_congr {α β : Type} {f g : α → Option β} : ∀ {l : List α}, (∀ x ∈ l, f x = g x) → l.filterMap f = l.filterMap g
  | [], _ => rfl
  | a :: l, h => by
    rw [List.filterMap_cons, List.filterMap_cons, h a List.mem_cons_self, fm_congr fun x hx => h x (List.mem_cons_of_mem _ hx)]
section
variable {prog : Program} {w : World} {A : Around} {E : Value → Shared → Prop} {s : Shared}
theorem back_places (n : Nat) : Builtin.Slice.slicePlaces ((n : Int) - 1) (-1) (-1) = n := by
  unfold Builtin.Slice.slicePlaces
  rw [if_neg (by decide)]
  by_cases h : (n : Int) - 1 > -1
  · rw [if_pos h]
    have : (-(-1) : Int) = 1 := by decide
    rw [this, Int.ediv_one]
    omega
  · rw [if_neg h]
    omega
theorem back_applied {sl : Addr} {vs : Value} {n : Nat} {Q : Int × Int × Nat → Shared → Prop} (hs : s.heap.IsSliceOf sl .none .none vs) (pv : IsPart vs (some (-1))) (h : Q ((n : Int) - 1, -1, n) s) :
    wpAny (model prog w) A (Builtin.Slice.sliceApplied (.ref sl) (pure (n : Int))) Q E s := by
  obtain ⟨os, hos, hcs, hds⟩ := id hs
  unfold Builtin.Slice.sliceApplied
  unfold Builtin.Slice.sliceFields
  refine wpAny_bind (wpAny_bind (wpAny_field hos hds (x := .none) rfl ?_))
  refine wpAny_bind (wpAny_field hos hds (x := .none) rfl ?_)
  refine wpAny_bind (wpAny_field hos hds (x := vs) rfl (wpAny_pure ?_))
  refine wpAny_bind (HT.slicePart_ pv ?_)
  show wpAny _ _ (if ((-1 : Int) == 0) = true then _ else _) _ _ s
  rw [if_neg (by decide)]
  refine wpAny_bind (HT.slicePart_ .none (wpAny_bind ?_))
  refine HT.slicePart_ .none ?_
  refine wpAny_bind (wpAny_pure ?_)
  have e : Builtin.Slice.sliceAdjust none none (-1) (n : Int) = ((n : Int) - 1, -1) := rfl
  show wpAny _ _ (match Builtin.Slice.sliceAdjust none none (-1) (n : Int) with | (lo, hi) => pure (lo, (-1 : Int), Builtin.Slice.slicePlaces lo hi (-1))) _ _ s
  rw [e]
  show wpAny _ _ (pure ((n : Int) - 1, (-1 : Int), Builtin.Slice.slicePlaces ((n : Int) - 1) (-1) (-1))) _ _ s
  rw [back_places]
  exact wpAny_pure h
theorem back_pick (xs : Array Value) : ((List.range xs.size).filterMap fun (m : Nat) => xs[((xs.size : Int) - 1 + (m : Int) * -1).toNat]?).toArray = xs.toList.reverse.toArray := by
  congr 1
  have key : ∀ l : List Value, ((List.range l.length).filterMap fun (m : Nat) => l[((l.length : Int) - 1 + (m : Int) * -1).toNat]?) = l.reverse := fun l => by
    have e1 : ((List.range l.length).filterMap fun (m : Nat) => l[((l.length : Int) - 1 + (m : Int) * -1).toNat]?) = (List.range l.length).filterMap fun m => l.reverse[m]? := by
      refine fm_congr fun m hm => ?_
      have hm := List.mem_range.mp hm
      rw [List.getElem?_reverse hm]
      congr 1
      omega
    rw [e1]
    have := PySem.W.krv_all l.reverse.toArray
    simpa using this
  have := key xs.toList
  simpa using this
theorem tup_back {t sl : Addr} {items : Array Value} {vs : Value} {Q : Value → Shared → Prop} (ht : IsTup s.heap t items) (hs : s.heap.IsSliceOf sl .none .none vs) (pv : IsPart vs (some (-1)))
    (h : Q (.ref s.heap.objs.size) { s with heap := s.heap.push { cls := .type "tuple", data := .seq items.toList.reverse.toArray } }) (hsz : items.size ≤ sizeLine) : wpAny (model prog w) A (getItem (.ref t) (.ref sl)) Q E s := by
  have hfit : sizeOk (.seq items.toList.reverse.toArray) := by
    show items.toList.reverse.toArray.size ≤ sizeLine
    simpa using hsz
  obtain ⟨os, hos, hcs, hds⟩ := id hs
  have hTs : s.TypeIs (.ref sl) "slice" := ⟨os, hos, hcs⟩
  unfold getItem
  try with_reducible refine wpAny_holding ?_
  first | refine wpAny_bind (wpAny_pure ?_) | skip
  refine wpAny_bind (wpAny_sequenceKey ht.typeIs (by decide) ?_)
  refine wpAny_bind (wpAny_callSpecial?_slot (name := Str.ofString "__getitem__") ht.typeIs slot_tuple_getitem ?_)
  refine wpAny_call_entry slot_tuple_getitem ht.typeIs entry_tuple_getitem ?_ (args_tuple_getitem _ _)
  show wpAny _ _ (Builtin.Tuple.tupleItemsOf (.ref t) >>= _) _ _ s
  refine wpAny_bind (tupleItemsOf_ ht ?_)
  refine wpAny_bind (wpAny_typeOf hTs ?_)
  rw [if_pos (by decide)]
  refine wpAny_bind (back_applied hs pv ?_)
  show wpAny _ _ (if (((items.size : Int) - 1 == 0 && (-1 : Int) == 1 && items.size == items.size) = true) then _ else _) _ _ s
  rw [if_neg (by simp), back_pick]
  first
    | exact wpAny_bind (m := Builtin.Tuple.tupleExact _) (wpAny_newObj_type (wpAny_pure ⟨_, rfl, wpAny_pure h⟩) hfit)
    | exact wpAny_bind (m := Builtin.Tuple.tupleExact _) (wpAny_newObj_type (wpAny_bind (wpAny_pure (wpAny_pure ⟨_, rfl, wpAny_pure h⟩))) hfit)
    | exact wpAny_bind (wpAny_bind (m := Builtin.Tuple.tupleExact _) (wpAny_newObj_type (wpAny_pure (wpAny_pure ⟨_, rfl, wpAny_pure h⟩)) hfit))
    | exact wpAny_bind (wpAny_bind (m := Builtin.Tuple.tupleExact _) (wpAny_newObj_type (wpAny_pure ⟨_, rfl, wpAny_pure h⟩) hfit))
end
section
variable {X : Cx} {e : Expr} {pos : Pos} {m : M D}
def tRevT (K : PySem.W.Frag) (te : TE) : TE := fun σ H Q => te σ H fun x H1 => ∃ a xs, x = .ref a ∧ SqT K H1 a xs ∧ ∀ p, H1 p = none → Q (.ref p) (upd H1 p (.tup xs.reverse))
theorem pe_revT {te : TE} {k : Nat} {p1 p2 p3 : Pos} (he : PE X e te) : PE X (.Subscript e (.Slice none none (some (.UnaryOp .USub (.Constant (.int 1) k p1) p2)) p3) pos) (tRevT X.K te) := by
  refine ⟨fun pins s σ H Q I h => Subscript_ (thn (he.run pins s σ H _ I h) fun v s1 ⟨x, H1, I1, r1, q1⟩ => ?_)⟩
  obtain ⟨a, xs, ex, hx, q⟩ := q1
  subst ex
  cases r1
  have hst : PO X (some (.UnaryOp .USub (.Constant (.int 1) k p1) p2)) (tPart (tUn (rU fun i => .int (-i)) (tC (.int 1)))) := po_some (pe_un un_neg pe_int)
  refine wpAny_Slice (thn (po_none.run pins s1 σ H1 (fun o H2 => o = none ∧ H2 = H1) I1 ⟨rfl, rfl⟩) fun vl s2 y2 => ?_)
  obtain ⟨l, H2, I2, pl, el, e2⟩ := y2
  subst el e2
  refine thn (po_none.run pins s2 σ H2 (fun o H3 => o = none ∧ H3 = H2) I2 ⟨rfl, rfl⟩) fun vu s3 y3 => ?_
  obtain ⟨u, H3, I3, pu, eu, e3⟩ := y3
  subst eu e3
  refine thn (hst.run pins s3 σ H3 (fun o H4 => o = some (-1) ∧ H4 = H3) I3 ⟨1, rfl, -1, rfl, rfl, rfl⟩) fun vs s4 y4 => ?_
  obtain ⟨o, H4, I4, ps, eo, e4⟩ := y4
  subst eo e4
  cases pl
  cases pu
  have I5 : Inv X pins σ H4 { s4 with heap := s4.heap.push { cls := .type "slice", data := .fields #[.none, .none, vs] } } := I4.kept (t' := s4.toks) fun b ob q => Heap.get?_push_of_some _ q
  obtain ⟨its, r, ht, hz⟩ := I5.tuple hx
  have hlen := r.length
  show wpAny (model X.prog X.w) X.A (subscriptTail e (.Slice none none (some (.UnaryOp .USub (.Constant (.int 1) k p1) p2)) p3) (.ref a) (.ref s4.heap.objs.size)) (EP X pins σ Q) X.xe _
  refine tail_any (ops := [.ref a, .ref s4.heap.objs.size]) ht.typeIs (slot_tuple_getitem.lookup) ?_ (by with_unfolding_all rfl)
  refine tup_back ht (Heap.IsSliceOf.new _ .none .none vs) ps ?_ (by rw [List.size_toArray]; omega)
  refine ⟨.ref _, _, I5.laid (t' := s4.toks) (o := .tup xs.reverse) (fun b ob q => Heap.get?_push_of_some _ q) (Nat.le_refl _) ?_, rfl, q _ (I5.hok.fresh (Nat.le_refl _))⟩
  exact ⟨by rw [List.length_reverse]; exact hz, _, r.reverse, IsTup.new _ _⟩
theorem peOr {t u : TE} (h : PE X e t) (h' : PE X e u) : PE X e (fun σ H Q => t σ H Q ∨ u σ H Q) := ⟨fun pins s σ H Q I q => q.elim (h.run pins s σ H Q I) (h'.run pins s σ H Q I)⟩
theorem Rps.rev {p : Addr} {W : AP} {H : Hp} : ∀ {ds : List D} {vs : List V}, Rps p W H ds vs → Rps p W H ds.reverse vs.reverse
  | [], _, h => by simp only [Rps] at h; subst h; exact .nil
  | d :: ds, _, h => by
    simp only [Rps] at h
    obtain ⟨v, r, rfl, h1, h2⟩ := h
    rw [List.reverse_cons, List.reverse_cons]
    exact (Rps.rev h2).append (.cons h1 .nil)
def revD : D → Option D
  | .lst ds => some (.lst ds.reverse)
  | .tup ds => some (.tup ds.reverse)
  | _ => none
theorem s_rev {k : Nat} {p1 p2 p3 : Pos} (he : SE X e m) : SE X (.Subscript e (.Slice none none (some (.UnaryOp .USub (.Constant (.int 1) k p1) p2)) p3) pos) (eUn revD m) :=
  ⟨fun B => PE.imp (peOr (pe_revL (he.pe B)) (pe_revT (he.pe B))) fun σ H Q ⟨s, d, s', k, e, q⟩ => by
    obtain ⟨dx, s1, h1, h2⟩ := bnd_some e
    obtain ⟨h3, rfl⟩ := lift_some h2
    cases dx <;> simp only [revD] at h3 <;> cases h3
    · refine .inr ⟨s, _, s', k, h1, fun v H1 k1 ev1 r1 => ?_⟩
      obtain ⟨a, vs, rfl, _, ha, rs⟩ := rp_tup r1
      exact ⟨a, vs, rfl, SqT.of ha, fun p np => q _ _ (k1.same (same_new np)) (ev1.trans (Ev.same (same_new np))) (.newTup k1.wt np rs.rev)⟩
    · refine .inl ⟨s, _, s', k, h1, fun v H1 k1 ev1 r1 => ?_⟩
      obtain ⟨a, vs, rfl, _, ha, rs⟩ := rp_lst r1
      exact ⟨a, vs, rfl, SqL.of ha, fun p np => q _ _ (k1.same (same_new np)) (ev1.trans (Ev.same (same_new np))) (.newLst k1.wt np rs.rev)⟩⟩

/-- a turn of the outer clause: the rows of the inner one -/
def cOut (vs vs1 : List Nat) (g : D → M Unit) (c : M Bool) (it1 : M (List D)) (g1 : D → M Unit) (c1 : M Bool) (el : M D) (d : D) : M (List D) := fun s =>
  (bnd (g d) fun _ => bnd c fun b => if b = true then bnd it1 (fun ds1 => compF vs1 g1 c1 el ds1) else ret []) { s with env := wipeE s.env vs }
def outF (vs : List Nat) (f : D → M (List D)) : List D → M (List D)
  | [] => ret []
  | d :: r => bnd (f d) fun ys => bnd (outF vs f r) fun zs => ret (ys ++ zs)
def eComp2 (vs vs1 : List Nat) (g : D → M Unit) (c : M Bool) (it1 : M (List D)) (g1 : D → M Unit) (c1 : M Bool) (el : M D) (it : M (List D)) : M (List D) := bnd it fun ds s1 =>
  match outF vs (cOut vs vs1 g c it1 g1 c1 el) ds s1 with
    | some (ys, sn) => if ys.length ≤ sizeLine then some (ys, { sn with env := restE s1.env sn.env vs }) else none
    | none => none
def tItx (m : M (List D)) : TI := fun σ H R => ∃ B, tIt B m σ H R
theorem SI.px {tg : Expr} {it : M (List D)} (h : SI X tg e it) : PI X tg e (tItx it) := ⟨fun pins s σ H Q I ⟨B, q⟩ => (h.pi B).run pins s σ H Q I q⟩
theorem lc2_go {B : Bs} {vs vs1 is is1 : List Nat} {g g1 : D → M Unit} {c c1 : M Bool} {el : M D} {it it1 : M (List D)} {σ : Sg} {H : Hp} {Q : VK} (hin : ∀ i ∈ is, i ∈ vs) (hin1 : ∀ i ∈ is1, i ∈ vs1) (hsub : ∀ i ∈ vs1, i ∈ vs) (h : tL B (eComp2 vs vs1 g c it1 g1 c1 el it) σ H Q) :
    tLc2 (tIt B it) (tGx is g) (tTx c) (tItx it1) (tGx is1 g1) (tTx c1) (tIx el) vs vs1 σ H Q := by
  obtain ⟨s, out, sE, k, e, q⟩ := h
  obtain ⟨ds, s1, e1, e2⟩ := bnd_some e
  refine ⟨s, ds, s1, k, e1, fun J H1 k1 ev1 wk => ?_⟩
  split at e2
  case h_2 => cases e2
  rename_i ys sn eF
  split at e2
  case isFalse => cases e2
  rename_i hsz
  cases e2
  intro A nA
  have nA0 := k1.new nA
  have hAp : A ≠ B.p := fun z => by subst z; rw [k1.src.d] at nA; cases nA
  have hAc : A ≠ B.c := fun z => by subst z; rw [k1.src.l] at nA; cases nA
  obtain ⟨kb, evb⟩ := k1.begin (o := .lst []) nA
  have kw := kb.wipe vs
  have evw : Ev (B.W s1.env σ) H1 ((B.plus A).W (wipeE s1.env vs) (wipe σ vs)) (upd H1 A (.lst [])) := evb.trans (Ev.less (W_wipe (B := B.plus A)))
  refine ⟨fun i m Hh => m = ds.length - i ∧ i ≤ ds.length ∧ ∃ si acc zs rest, StOk (B.plusO A (.lst acc)) (wipe σ vs) Hh { si with env := wipeE si.env vs } ∧ Ev (B.W s1.env σ) H1 ((B.plus A).W (wipeE si.env vs) (wipe σ vs)) Hh ∧
    Hh A = some (.lst acc) ∧ Rps B.p ((B.plus A).W (wipeE si.env vs) (wipe σ vs)) Hh zs acc ∧ outF vs (cOut vs vs1 g c it1 g1 c1 el) (ds.drop i) si = some (rest, sn) ∧ out = zs ++ rest,
    ⟨ds.length, by simp, Nat.zero_le _, s1, [], [], out, kw, evw, upd_same, .nil, eF, rfl⟩, ?_⟩
  rintro i m Hh ⟨rfl, hi, si, acc, zs, rest, ki, evi, hA, ri, eR, eOut⟩
  obtain ⟨w1, w2, w3⟩ := wk _ _ evi ki.wt
  by_cases hlt : i < ds.length
  · refine .inr ⟨w1 i hlt, _, fun H' hN => ⟨ds.length - (i + 1), by omega, hN⟩, fun x H' y => ?_⟩
    have hd : ds[i]? = some ds[i] := List.getElem?_eq_getElem hlt
    obtain ⟨sm, rx⟩ := w3 i _ x H' hd y
    rw [List.drop_eq_getElem_cons hlt] at eR
    obtain ⟨o, s2, eS, eR⟩ := bnd_some eR
    obtain ⟨rs, s3, eR2, e3⟩ := bnd_some eR
    obtain ⟨e4, rfl⟩ := ret_some e3
    obtain ⟨_, s4, eg, eS⟩ := bnd_some eS
    obtain ⟨b, s5, ec, eS⟩ := bnd_some eS
    have k1' := ki.same sm
    have ev' : Ev (B.W s1.env σ) H1 ((B.plus A).W (wipeE si.env vs) (wipe σ vs)) H' := evi.trans (Ev.same sm)
    refine ⟨B.plusO A (.lst acc), { si with env := wipeE si.env vs }, ds[i], s4, k1', rx, eg, fun σ2 k2 ev2 wp => ?_⟩
    have hw : wipe σ2 vs = wipe σ vs := by rw [wp vs hin, wipe_wipe]
    refine ⟨hw, B.plusO A (.lst acc), s4, b, s5, k2, ec, fun H3 k3 ev3 => ?_⟩
    have evA : Ev ((B.plus A).W (wipeE si.env vs) (wipe σ vs)) H' ((B.plus A).W s5.env σ2) H3 := Ev.trans ev2 ev3
    have smA : Ev ((B.plus A).W (wipeE si.env vs) (wipe σ vs)) Hh ((B.plus A).W (wipeE si.env vs) (wipe σ vs)) H' := Ev.same sm
    have evB : Ev ((B.plus A).W (wipeE si.env vs) (wipe σ vs)) Hh ((B.plus A).W s5.env σ2) H3 := smA.trans evA
    cases b with
    | true =>
      obtain ⟨ds1, s6, ei, eS⟩ := bnd_some eS
      refine ⟨B.plusO A (.lst acc), s5, ds1, s6, k3, ei, fun J1 H4 k4 ev4 wk1 => ?_⟩
      have evC : Ev ((B.plus A).W (wipeE si.env vs) (wipe σ vs)) Hh ((B.plus A).W s6.env σ2) H4 := evB.trans ev4
      have hA4 : H4 A = some (.lst acc) := k4.keep A _ upd_same hAp hAc
      have kw4 := k4.wipe vs1
      have evD : Ev ((B.plus A).W s6.env σ2) H4 ((B.plus A).W (wipeE s6.env vs1) (wipe σ2 vs1)) H4 := Ev.less (W_wipe (B := B.plus A))
      refine ⟨fun j m Hj => m = ds1.length - j ∧ j ≤ ds1.length ∧ ∃ sj accj zsj restj, StOk (B.plusO A (.lst accj)) (wipe σ2 vs1) Hj { sj with env := wipeE sj.env vs1 } ∧ Ev ((B.plus A).W s6.env σ2) H4 ((B.plus A).W (wipeE sj.env vs1) (wipe σ2 vs1)) Hj ∧
        Hj A = some (.lst accj) ∧ Rps B.p ((B.plus A).W (wipeE sj.env vs1) (wipe σ2 vs1)) Hj zsj accj ∧ compF vs1 g1 c1 el (ds1.drop j) sj = some (restj, s2) ∧ out = zsj ++ restj ++ rs,
        ⟨ds1.length, by simp, Nat.zero_le _, s6, acc, zs, o, kw4, evD, hA4, ri.ev (evC.trans evD), eS, by rw [eOut, e4, List.append_assoc]⟩, ?_⟩
      rintro j m Hj ⟨rfl, hj, sj, accj, zsj, restj, kj, evj, hAj, rj, eRj, eOutj⟩
      obtain ⟨u1, u2, u3⟩ := wk1 _ _ evj kj.wt
      by_cases hltj : j < ds1.length
      · refine .inr ⟨u1 j hltj, _, fun H' hN => ⟨ds1.length - (j + 1), by omega, hN⟩, fun x1 Hj' yj => ?_⟩
        have hdj : ds1[j]? = some ds1[j] := List.getElem?_eq_getElem hltj
        obtain ⟨smj, rxj⟩ := u3 j _ x1 Hj' hdj yj
        rw [List.drop_eq_getElem_cons hltj] at eRj
        obtain ⟨oj, s7, eSj, eRj⟩ := bnd_some eRj
        obtain ⟨rsj, s8, eRj2, e8⟩ := bnd_some eRj
        obtain ⟨e9, rfl⟩ := ret_some e8
        obtain ⟨_, s9, egj, eSj⟩ := bnd_some eSj
        obtain ⟨bj, s10, ecj, eSj⟩ := bnd_some eSj
        refine ⟨B.plusO A (.lst accj), { sj with env := wipeE sj.env vs1 }, ds1[j], s9, kj.same smj, rxj, egj, fun σ3 k9 ev9 wp9 => ?_⟩
        have hw1 : wipe σ3 vs1 = wipe σ2 vs1 := by rw [wp9 vs1 hin1, wipe_wipe]
        refine ⟨hw1, B.plusO A (.lst accj), s9, bj, s10, k9, ecj, fun H10 k10 ev10 => ?_⟩
        have evE : Ev ((B.plus A).W (wipeE sj.env vs1) (wipe σ2 vs1)) Hj ((B.plus A).W s10.env σ3) H10 := Ev.trans (Ev.same smj) (Ev.trans ev9 ev10)
        cases bj with
        | true =>
          obtain ⟨y', s11, eej, eSj⟩ := bnd_some eSj
          obtain ⟨rfl, rfl⟩ := ret_some eSj
          refine ⟨B.plusO A (.lst accj), s10, y', s7, k10, eej, fun v H11 k11 ev11 r11 => ?_⟩
          have hA11 : H11 A = some (.lst accj) := k11.keep A _ upd_same hAp hAc
          have kw11 := k11.wipe vs1
          rw [hw1] at kw11
          obtain ⟨kg, evg⟩ := kw11.grow (o' := .lst (accj ++ [v])) hAp hAc
          have wl : Ev ((B.plus A).W s7.env σ3) H11 ((B.plus A).W (wipeE s7.env vs1) (wipe σ2 vs1)) H11 := by
            rw [← hw1]; exact Ev.less (W_wipe (B := B.plus A))
          have evT : Ev ((B.plus A).W (wipeE sj.env vs1) (wipe σ2 vs1)) Hj ((B.plus A).W (wipeE s7.env vs1) (wipe σ2 vs1)) (upd H11 A (.lst (accj ++ [v]))) :=
            evE.trans (Ev.trans ev11 (wl.trans evg))
          have hlen := rj.length
          have hlt2 : accj.length < sizeLine := by
            have e5 : out.length = zsj.length + restj.length + rs.length := by rw [eOutj]; simp; omega
            have e6 : restj.length = rsj.length + 1 := by rw [e9]; simp
            omega
          refine ⟨accj, hA11, hlt2, rfl, hltj, s7, accj ++ [v], zsj ++ [y'], rsj, kg, evj.trans evT, upd_same, ?_, eRj2, by rw [eOutj, e9]; simp⟩
          exact (rj.ev evT).append (.cons (Rp.ev (wl.trans evg) _ _ r11) .nil)
        | false =>
          obtain ⟨rfl, rfl⟩ := ret_some eSj
          have kw10 := k10.wipe vs1
          rw [hw1] at kw10
          have wl : Ev ((B.plus A).W s7.env σ3) H10 ((B.plus A).W (wipeE s7.env vs1) (wipe σ2 vs1)) H10 := by
            rw [← hw1]; exact Ev.less (W_wipe (B := B.plus A))
          have evT : Ev ((B.plus A).W (wipeE sj.env vs1) (wipe σ2 vs1)) Hj ((B.plus A).W (wipeE s7.env vs1) (wipe σ2 vs1)) H10 := evE.trans wl
          have hA10 : H10 A = some (.lst accj) := k10.keep A _ upd_same hAp hAc
          exact ⟨rfl, hltj, s7, accj, zsj, rsj, kw10, evj.trans evT, hA10, rj.ev evT, eRj2, by rw [eOutj, e9]; simp⟩
      · have hn : j = ds1.length := by omega
        subst hn
        rw [List.drop_length] at eRj
        obtain ⟨rfl, e5⟩ := ret_some eRj
        refine .inl ⟨u2, ?_⟩
        have hee : wipe (wipe σ2 vs1) vs = wipe σ vs := by
          rw [← hw]
          have : ∀ us : List Nat, (∀ u ∈ us, u ∈ vs) → wipe (wipe σ2 us) vs = wipe σ2 vs := fun us => by
            induction us with
            | nil => intro _; rfl
            | cons u us ih =>
              intro hu
              show wipe ((wipe σ2 us).set u none) vs = _
              rw [wipe_set_mem (hu u List.mem_cons_self), ih fun z hz => hu z (List.mem_cons_of_mem _ hz)]
          exact this vs1 hsub
        have heE : wipeE (wipeE sj.env vs1) vs = wipeE sj.env vs := by
          have base : ∀ (env : List (Option Sl)) (ws us : List Nat) (u : Nat), u ∈ ws → wipeE (env.set u none) ws = wipeE env ws := fun env ws _ u => by
            induction ws with
            | nil => intro z; simp at z
            | cons w ws ih =>
              intro z
              unfold wipeE
              by_cases hm : u ∈ ws
              · rw [ih hm]
              · have e0 : u = w := by
                  rcases List.mem_cons.mp z with z | z
                  · exact z
                  · exact absurd z hm
                subst e0
                have out0 : ∀ ws : List Nat, u ∉ ws → (wipeE (env.set u none) ws).set u none = (wipeE env ws).set u none := fun ws => by
                  induction ws with
                  | nil => intro _; unfold wipeE; rw [List.set_set]
                  | cons a as ih2 =>
                    intro hn
                    have h1 : u ≠ a := fun z => hn (z ▸ List.mem_cons_self)
                    have h2 : u ∉ as := fun z => hn (List.mem_cons_of_mem _ z)
                    unfold wipeE
                    rw [List.set_comm _ _ (Ne.symm h1), ih2 h2, List.set_comm _ _ h1]
                exact out0 ws hm
          have : ∀ us : List Nat, (∀ u ∈ us, u ∈ vs) → wipeE (wipeE sj.env us) vs = wipeE sj.env vs := fun us => by
            induction us with
            | nil => intro _; rfl
            | cons u us ih =>
              intro hu
              show wipeE ((wipeE sj.env us).set u none) vs = _
              rw [base _ _ us u (hu u List.mem_cons_self), ih fun z hz => hu z (List.mem_cons_of_mem _ hz)]
          exact this vs1 hsub
        have kk := kj.wipe vs
        have kk : StOk (B.plusO A (.lst accj)) (wipe σ vs) Hj { sj with env := wipeE sj.env vs } := by
          rw [← hee]
          have : ({ sj with env := wipeE sj.env vs } : S) = { sj with env := wipeE (wipeE sj.env vs1) vs } := by rw [heE]
          rw [this]; exact kk
        have evF : Ev ((B.plus A).W (wipeE sj.env vs1) (wipe σ2 vs1)) Hj ((B.plus A).W (wipeE sj.env vs) (wipe σ vs)) Hj := by
          rw [← hee, ← heE]; exact Ev.less (W_wipe (B := B.plus A))
        subst e5
        exact ⟨rfl, hlt, s2, accj, zsj, rs, kk, evi.trans (evC.trans (evj.trans evF)), hAj, rj.ev evF, eR2, by rw [eOutj]; simp⟩
    | false =>
      obtain ⟨rfl, rfl⟩ := ret_some eS
      have kw3 := k3.wipe vs
      rw [hw] at kw3
      have wl : Ev ((B.plus A).W s2.env σ2) H3 ((B.plus A).W (wipeE s2.env vs) (wipe σ vs)) H3 := by
        rw [← hw]; exact Ev.less (W_wipe (B := B.plus A))
      have evT : Ev ((B.plus A).W (wipeE si.env vs) (wipe σ vs)) Hh ((B.plus A).W (wipeE s2.env vs) (wipe σ vs)) H3 := evB.trans wl
      have hA3 : H3 A = some (.lst acc) := k3.keep A _ upd_same hAp hAc
      exact ⟨rfl, hlt, s2, acc, zs, rs, kw3, evi.trans evT, hA3, ri.ev evT, eR2, by rw [eOut, e4]; simp⟩
  · have hn : i = ds.length := by omega
    subst hn
    rw [List.drop_length] at eR
    obtain ⟨rfl, e5⟩ := ret_some eR
    subst e5
    refine .inl ⟨w2, ?_⟩
    have kf := ki.finish nA0
    have sub : ∀ b, (B.plus A).W (restE s1.env sn.env vs) σ b → (B.plus A).W (wipeE sn.env vs) (wipe σ vs) b := fun b hb => by
      rcases hb with hb | ⟨j, sl, h1, h2, h3⟩
      · exact .inl hb
      · rcases restE_get h1 with ⟨n1, h4⟩ | ⟨_, _, d, rfl⟩
        · exact .inr ⟨j, sl, by rw [wipeE_get n1]; exact h4, h2, by rw [wipe_get n1]; exact h3⟩
        · cases h2
    have evf : Ev ((B.plus A).W (wipeE sn.env vs) (wipe σ vs)) Hh ((B.plus A).W (restE s1.env sn.env vs) σ) Hh := Ev.less sub
    have kR : StOk (B.plus A) σ Hh { sn with env := restE s1.env sn.env vs } := by
      refine ⟨?_, fun j d h => ?_, fun j sl h ho => ?_, fun j1 j2 sl1 sl2 b h1 o1 h2 o2 q1 q2 => ?_, kf.src, kf.keep, kf.wc, kf.wp, kf.wcc⟩
      · have := kf.len
        rw [wipe_length] at this
        show (restE s1.env sn.env vs).length = _
        rw [restE_len, ← this]
        exact (wipeE_len _ _).symm
      · rcases restE_get h with ⟨n1, h4⟩ | ⟨n1, h4, _⟩
        · obtain ⟨v, h5, h6⟩ := kf.val j d (by show (wipeE sn.env vs)[j]? = _; rw [wipeE_get n1]; exact h4)
          rw [wipe_get n1] at h5
          exact ⟨v, h5, h6.ev evf⟩
        · obtain ⟨v, h5, h6⟩ := k1.val j d h4
          exact ⟨v, h5, Rp.ev (evi.trans evf) _ _ h6⟩
      · rcases restE_get h with ⟨n1, h4⟩ | ⟨_, _, d, rfl⟩
        · obtain ⟨b, o, h5, h6, h7, h8⟩ := kf.own j sl (by show (wipeE sn.env vs)[j]? = _; rw [wipeE_get n1]; exact h4) ho
          rw [wipe_get n1] at h5
          exact ⟨b, o, h5, h6, h7.ev evf, h8⟩
        · cases ho
      · rcases restE_get h1 with ⟨n1, h4⟩ | ⟨_, _, d, rfl⟩
        · rcases restE_get h2 with ⟨n2, h5⟩ | ⟨_, _, d, rfl⟩
          · exact kf.sep j1 j2 sl1 sl2 b (by show (wipeE sn.env vs)[j1]? = _; rw [wipeE_get n1]; exact h4) o1 (by show (wipeE sn.env vs)[j2]? = _; rw [wipeE_get n2]; exact h5) o2 (by rw [wipe_get n1]; exact q1) (by rw [wipe_get n2]; exact q2)
          · cases o2
        · cases o1
    refine q A acc Hh kR (ev1.trans (evi.trans evf)) nA0 ?_ hA (by rw [eOut]; simpa using ri.ev evf)
    rintro (z | ⟨j, sl, h1, h2, h3⟩)
    · obtain ⟨o, ho⟩ := k1.wc A z
      rw [nA] at ho; cases ho
    · obtain ⟨b, o, h5, _, _, _, h8⟩ := kR.own j sl h1 h2
      rw [h3] at h5; cases h5
      exact h8 (.inr rfl)

section
variable {elt tg iter tg1 iter1 : Expr} {ifs ifs1 : List Expr} {scope : Scope} {own : List (Str × Nat)} {g g1 : D → M Unit} {mc mc1 : M Bool} {el : M D} {it it1 : M (List D)} {is is1 vs1 : List Nat}
/-- what the parts of a comprehension of two clauses are, in any block of it -/
structure CompOk2 (X : Cx) (elt tg : Expr) (ifs : List Expr) (tg1 iter1 : Expr) (ifs1 : List Expr) (scope : Scope) (own : List (Str × Nat)) (vs1 is is1 : List Nat) (g : D → M Unit) (mc : M Bool) (it1 : M (List D)) (g1 : D → M Unit) (mc1 : M Bool) (el : M D) : Prop where
  calm : X.calm = true
  nd : X.N.Nodup
  ok : BlkOk X.N X.env.scope scope own
  sub : ∀ i ∈ is, i ∈ own.map (·.2)
  sub1 : ∀ i ∈ is1, i ∈ vs1
  vs : ∀ i ∈ vs1, i ∈ own.map (·.2)
  hg : ∀ (s : Shared) (H : Hp) (C : Addr) (cl : List (Str × Addr)) (fp : List Addr), SG (X.blk s H scope (compEnvC scope cl C X.env) fp) tg is g
  ht : ∀ (s : Shared) (H : Hp) (C : Addr) (cl : List (Str × Addr)) (fp : List Addr), SF (X.blk s H scope (compEnvC scope cl C X.env) fp) ifs mc
  hi1 : ∀ (s : Shared) (H : Hp) (C : Addr) (cl : List (Str × Addr)) (fp : List Addr), SI (X.blk s H scope (compEnvC scope cl C X.env) fp) tg1 iter1 it1
  hg1 : ∀ (s : Shared) (H : Hp) (C : Addr) (cl : List (Str × Addr)) (fp : List Addr), SG (X.blk s H scope (compEnvC scope cl C X.env) fp) tg1 is1 g1
  ht1 : ∀ (s : Shared) (H : Hp) (C : Addr) (cl : List (Str × Addr)) (fp : List Addr), SF (X.blk s H scope (compEnvC scope cl C X.env) fp) ifs1 mc1
  he : ∀ (s : Shared) (H : Hp) (C : Addr) (cl : List (Str × Addr)) (fp : List Addr), SE (X.blk s H scope (compEnvC scope cl C X.env) fp) elt el
theorem l_comp2 (C : CompOk2 X elt tg ifs tg1 iter1 ifs1 scope own vs1 is is1 g mc it1 g1 mc1 el) (hi : SI X tg iter it) (hs : ∀ x, foldedSetIterable iter X.env x = pure x := by intro _; rfl) (hs1 : ∀ env x, foldedSetIterable iter1 env x = pure x := by intro _ _; rfl) :
    SL X (.ListComp elt [⟨tg, iter, ifs, 0⟩, ⟨tg1, iter1, ifs1, 0⟩] scope pos) (eComp2 (own.map (·.2)) vs1 g mc it1 g1 mc1 el it) :=
  ⟨fun B => PE.imp (pe_lc2 C.calm C.nd (hi.pi B) C.ok C.vs (fun s H c cl fp => (C.hg s H c cl fp).px) (fun s H c cl fp => (C.ht s H c cl fp).pt) (fun s H c cl fp => (C.hi1 s H c cl fp).px) (fun s H c cl fp => (C.hg1 s H c cl fp).px) (fun s H c cl fp => (C.ht1 s H c cl fp).pt) (fun s H c cl fp => (C.he s H c cl fp).px) hs hs1) fun σ H Q h => lc2_go C.sub C.sub1 C.vs h⟩
theorem s_setLc2 {i : Nat} {y : Str} {py cpos : Pos} (hy : X.N[i]? = some y) (hyl : X.env.scope.names.lookup y = some .local) (hsw : swapsWith (.ListComp elt [⟨tg, iter, ifs, 0⟩, ⟨tg1, iter1, ifs1, 0⟩] scope cpos) (some (.Name y py)) pos.line X.env = pure true)
    (C : CompOk2 X elt tg ifs tg1 iter1 ifs1 scope own vs1 is is1 g mc it1 g1 mc1 el) (hi : SI X tg iter it) (hs : ∀ x, foldedSetIterable iter X.env x = pure x := by intro _; rfl) (hs1 : ∀ env x, foldedSetIterable iter1 env x = pure x := by intro _ _; rfl) :
    SS X (.Assign [.Name y py] (.ListComp elt [⟨tg, iter, ifs, 0⟩, ⟨tg1, iter1, ifs1, 0⟩] scope cpos) pos) (sSet i (eLst (eComp2 (own.map (·.2)) vs1 g mc it1 g1 mc1 el it))) :=
  ⟨fun B => PS.imp (ps_setLc2 C.calm C.nd hy hyl hsw (hi.pi B) C.ok C.vs (fun s H c cl fp => (C.hg s H c cl fp).px) (fun s H c cl fp => (C.ht s H c cl fp).pt) (fun s H c cl fp => (C.hi1 s H c cl fp).px) (fun s H c cl fp => (C.hg1 s H c cl fp).px) (fun s H c cl fp => (C.ht1 s H c cl fp).pt) (fun s H c cl fp => (C.he s H c cl fp).px) hs hs1) fun D σ H h =>
    asg_go (fun _ _ _ z => lc2_go C.sub C.sub1 C.vs (tL_tI z)) tG_name h⟩
theorem s_ownLc2 {i : Nat} {y : Str} {py cpos : Pos} (hy : X.N[i]? = some y) (hyl : X.env.scope.names.lookup y = some .local) (hsw : swapsWith (.ListComp elt [⟨tg, iter, ifs, 0⟩, ⟨tg1, iter1, ifs1, 0⟩] scope cpos) (some (.Name y py)) pos.line X.env = pure true)
    (C : CompOk2 X elt tg ifs tg1 iter1 ifs1 scope own vs1 is is1 g mc it1 g1 mc1 el) (hi : SI X tg iter it) (hs : ∀ x, foldedSetIterable iter X.env x = pure x := by intro _; rfl) (hs1 : ∀ env x, foldedSetIterable iter1 env x = pure x := by intro _ _; rfl) :
    SS X (.Assign [.Name y py] (.ListComp elt [⟨tg, iter, ifs, 0⟩, ⟨tg1, iter1, ifs1, 0⟩] scope cpos) pos) (sOwn i (eComp2 (own.map (·.2)) vs1 g mc it1 g1 mc1 el it)) :=
  ⟨fun B => PS.imp (ps_setLc2 C.calm C.nd hy hyl hsw (hi.pi B) C.ok C.vs (fun s H c cl fp => (C.hg s H c cl fp).px) (fun s H c cl fp => (C.ht s H c cl fp).pt) (fun s H c cl fp => (C.hi1 s H c cl fp).px) (fun s H c cl fp => (C.hg1 s H c cl fp).px) (fun s H c cl fp => (C.ht1 s H c cl fp).pt) (fun s H c cl fp => (C.he s H c cl fp).px) hs hs1) fun D σ H h =>
    own_go (fun _ _ _ z => lc2_go C.sub C.sub1 C.vs z) h⟩
end
end
end GH

namespace GH
open PySem PySem.Spec PyProof.Rows L2

def srcKvs (c : Addr) (s : Src) : List (Key × V) := [(kCells, .ref c), (kLeft, .int s.left), (kMixed, .int s.mixed), (kTurn, .int s.turn)]
section
variable {X : Cx} {e : Expr} {x : Str} {i j n : Nat} {ky : String} {p p2 pos : Pos} {m : M D}
def eFld (i : Nat) (f : Src → Int) : M D := fun s => match s.env[i]? with
  | some (some (.val .src)) => some (.int (f s.src), s)
  | _ => none
theorem src_slot {B : Bs} {σ : Sg} {H : Hp} {s : S} (k : StOk B σ H s) (h : s.env[i]? = some (some (.val .src))) : σ[i]? = some (some (.ref B.p)) := by
  obtain ⟨v, h1, h2⟩ := k.val i _ h
  have h2 : v = .ref B.p := by simpa only [Rp] using h2
  rw [h1, h2]
theorem s_fld {f : Src → Int} (hx : PE X (.Name x p) (tVar i)) (hu : X.A.units + 1 < cLine) (hv : ∀ (s : Src) (c : Addr), valV (srcKvs c s) (.inr (Str.ofString ky)) = some (.int (f s))) : SE X (.Subscript (.Name x p) (.Constant (.str (Str.ofString ky)) n p2) pos) (eFld i f) :=
  ⟨fun B => PE.imp (pe_dget hu hx (pe_str (j := n) (pos := p2)) (fun _ _ => rfl)) fun σ H Q ⟨s, d, s', k, e, q⟩ => by
    unfold eFld at e
    split at e
    · rename_i hi
      cases e
      refine ⟨_, src_slot k hi, ?_⟩
      have g := DGet.k (k := .inr (Str.ofString ky)) k.src.d
      rw [show [(kCells, V.ref B.c), (kLeft, .int s.src.left), (kMixed, .int s.src.mixed), (kTurn, .int s.src.turn)] = srcKvs B.c s.src from rfl, hv] at g
      exact ⟨B.p, _, rfl, g, q _ H k Ev.refl (.mkInt _)⟩
    · cases e⟩
def sFld (i : Nat) (g : Src → Int → Src) (m : M D) : M Out := bnd m fun d s => match d, s.env[i]? with
  | .int z, some (some (.val .src)) => some (.nx, ⟨s.env, g s.src z⟩)
  | _, _ => none
theorem StOk.fld {B : Bs} {σ : Sg} {H : Hp} {s : S} {c' : Src} {o : HO} (k : StOk B σ H s) (ho : o = .dK (srcKvs B.c c')) (hc : c'.cells = s.src.cells) : StOk B σ (upd H B.p o) ⟨s.env, c'⟩ ∧ Ev (B.W s.env σ) H (B.W s.env σ) (upd H B.p o) :=
  k.called (fun a x h n1 _ => by rw [upd_ne n1]; exact h) ⟨by rw [upd_same, ho]; rfl, by rw [upd_ne (Ne.symm k.src.ne), hc]; exact k.src.l⟩
theorem s_fldSet {g : Src → Int → Src} (hx : PE X (.Name x p) (tVar i)) (hu : X.A.units + 1 < cLine) (he : SE X e m) (hg : ∀ (s : Src) (z : Int) (c : Addr), putK (srcKvs c s) (.inr (Str.ofString ky)) (.int z) = srcKvs c (g s z)) (hc : ∀ s z, (g s z).cells = s.cells) {p3 : Pos}
    (hs : swapsWith e (some (.Subscript (.Name x p) (.Constant (.str (Str.ofString ky)) n p2) p3)) pos.line X.env = pure false := by rfl) : SS X (.Assign [.Subscript (.Name x p) (.Constant (.str (Str.ofString ky)) n p2) p3] e pos) (sFld i g m) :=
  ⟨fun B => PS.imp (ps_dput hu hx pe_str (he.pe B) hs) fun D σ H ⟨s, o, s', k, e, q⟩ => by
    refine tI.bind k e fun d s1 v H1 h1 e1 k1 ev1 r1 => ?_
    split at e1
    · rename_i z hi
      cases e1
      have hv := rp_int r1
      subst hv
      refine ⟨_, src_slot k1 hi, B.p, _, rfl, DPut.k (k := .inr (Str.ofString ky)) k1.src.d (by show 4 < sizeLine; decide), ?_⟩
      obtain ⟨k2, ev2⟩ := k1.fld (c' := g s1.src z) (o := .dK (putK (srcKvs B.c s1.src) (.inr (Str.ofString ky)) (.int z))) (by rw [hg]) (hc _ _)
      exact q σ _ k2 (ev1.trans ev2)
    · cases e1⟩
/-- a slot whose name is bound, and of which nothing is told -/
theorem StOk.dead {B : Bs} {σ : Sg} {H : Hp} {s : S} {v : V} (k : StOk B σ H s) (h : s.env[j]? = some none) : StOk B (σ.set j (some v)) H s ∧ ∀ b, B.W s.env (σ.set j (some v)) b ↔ B.W s.env σ b := by
  have ne : ∀ (i : Nat) (x : Sl), s.env[i]? = some (some x) → j ≠ i := fun i x hi z => by subst z; rw [h] at hi; cases hi
  have w : ∀ b, B.W s.env (σ.set j (some v)) b ↔ B.W s.env σ b := fun b => by
    constructor
    · rintro (z | ⟨i, x, h1, h2, h3⟩)
      · exact .inl z
      · rw [List.getElem?_set_ne (ne i x h1)] at h3; exact .inr ⟨i, x, h1, h2, h3⟩
    · rintro (z | ⟨i, x, h1, h2, h3⟩)
      · exact .inl z
      · exact .inr ⟨i, x, h1, h2, by rw [List.getElem?_set_ne (ne i x h1)]; exact h3⟩
  have ev : Ev (B.W s.env σ) H (B.W s.env (σ.set j (some v))) H := Ev.less fun b hb => (w b).mp hb
  refine ⟨⟨by simpa using k.len, fun i d hi => ?_, fun i sl hi ho => ?_, fun i1 i2 sl1 sl2 a h1 o1 h2 o2 q1 q2 => ?_, k.src, k.keep, k.wc, k.wp, k.wcc⟩, w⟩
  · obtain ⟨u, h1, h2⟩ := k.val i d hi
    exact ⟨u, by rw [List.getElem?_set_ne (ne i _ hi)]; exact h1, h2.ev ev⟩
  · obtain ⟨a, o, h1, h2, h3, h4⟩ := k.own i sl hi ho
    exact ⟨a, o, by rw [List.getElem?_set_ne (ne i _ hi)]; exact h1, h2, h3.ev ev, h4⟩
  · rw [List.getElem?_set_ne (ne i1 _ h1)] at q1
    rw [List.getElem?_set_ne (ne i2 _ h2)] at q2
    exact k.sep i1 i2 sl1 sl2 a h1 o1 h2 o2 q1 q2
def drainN : Nat → Src → Src
  | 0, s => s
  | n + 1, s => if s.left < 2 ∧ s.cells ≠ [] then drainN n { s with cells := s.cells.dropLast, left := s.cells.getLastD 0 } else s
def drain (s : Src) : Src := drainN s.cells.length s
abbrev rLtI : R2 := rI0 fun i j => .bl (decide (i < j))
abbrev rGtI : R2 := rI0 fun i j => .bl (decide (j < i))
abbrev rLenX (K : PySem.W.Frag) : List V → Hp → VK → Prop := fun xs H Q => ∃ x n, xs = [x] ∧ LenV K x H n ∧ Q (.int n) H
def mDrain (i j : Nat) (mr : M Out) : M Out := fun s => match s.env[i]?, s.env[j]? with
  | some (some (.val .src)), some none => mr ⟨s.env, drain s.src⟩
  | _, _ => none
/-- cells = source['cells']; while source['left'] < 2 and len(cells) > 0: source['left'] = cells.pop() -/
theorem s_drain {st1 st2 : Stmt} {rest : List Stmt} {mr : M Out} (hij : i ≠ j) (h1 : PS X st1 (tAsg (tDGet (tVar i) (tC (.str "cells"))) (gName j)))
    (h2 : PS X st2 (tWhile (tAnd (tTest (tOp rLtI (tDGet (tVar i) (tC (.str "left"))) (tC (.int 2)))) (tTest (tOp rGtI (tCB (rLenX X.K) (tCons (tVar j) tNil)) (tC (.int 0))))) (sDPut (tVar i) (tC (.str "left")) (tBM0 X.K "list" rPop (tVar j)))))
    (hr : SSs X rest mr) : SSs X (st1 :: st2 :: rest) (mDrain i j mr) := ⟨fun B => PSs.imp (pss_cons h1 (pss_cons h2 (hr.ps B))) fun D σ H ⟨s, o, s', k, e, q⟩ => by
  unfold mDrain at e
  split at e
  · rename_i hi hj
    refine ⟨_, src_slot k hi, B.p, _, rfl, DGet.k (k := kCells) k.src.d, ?_⟩
    obtain ⟨k1, w1⟩ := k.dead (v := .ref B.c) hj
    have ev1 : Ev (B.W s.env σ) H (B.W s.env (σ.set j (some (.ref B.c)))) H := Ev.less fun b hb => (w1 b).mp hb
    have hjl : j < σ.length := by rw [← k.len]; exact (List.getElem?_eq_some_iff.mp hj).1
    have sj : (σ.set j (some (V.ref B.c)))[j]? = some (some (.ref B.c)) := List.getElem?_set_self hjl
    have si := src_slot k1 hi
    show tWhile _ _ _ (σ.set j (some (.ref B.c))) H
    refine ⟨fun n σi Hi => σi = σ.set j (some (.ref B.c)) ∧ ∃ c', c'.cells.length = n ∧ StOk B (σ.set j (some (.ref B.c))) Hi ⟨s.env, c'⟩ ∧ Ev (B.W s.env σ) H (B.W s.env (σ.set j (some (.ref B.c)))) Hi ∧ drainN n c' = drain s.src,
      ⟨s.src.cells.length, rfl, s.src, rfl, k1, ev1, rfl⟩, ?_⟩
    rintro n σi Hi ⟨rfl, c', hn, ki, evi, hd⟩
    refine ⟨_, si, B.p, _, rfl, DGet.k (k := kLeft) ki.src.d, c'.left, 2, rfl, rfl, _, rfl, ?_⟩
    have leave : (¬ (c'.left < 2 ∧ c'.cells ≠ [])) → tS B mr D (σ.set j (some (.ref B.c))) Hi := fun hno => by
      have e3 : drainN n c' = c' := by
        cases n with
        | zero => rfl
        | succ n => exact if_neg hno
      rw [e3] at hd
      refine ⟨⟨s.env, c'⟩, o, s', ki, by rw [hd]; exact e, q.ev evi⟩
    by_cases hl : c'.left < 2
    · show (if decide (c'.left < 2) = true then _ else _)
      rw [if_pos (decide_eq_true hl)]
      refine ⟨_, sj, _, (c'.cells.map V.int).length, rfl, .inl ⟨_, SqL.of ki.src.l, rfl⟩, _, 0, rfl, rfl, _, rfl, ?_⟩
      by_cases hc : c'.cells = []
      · have : ¬ (0 : Int) < (((c'.cells.map V.int).length : Nat) : Int) := by rw [hc]; simp
        show (if decide ((0 : Int) < (((c'.cells.map V.int).length : Nat) : Int)) = true then _ else _)
        rw [if_neg (by simpa using this)]
        exact leave fun z => z.2 hc
      · have hpos : 0 < c'.cells.length := List.length_pos_iff.mpr hc
        have : (0 : Int) < (((c'.cells.map V.int).length : Nat) : Int) := by rw [List.length_map]; omega
        show (if decide ((0 : Int) < (((c'.cells.map V.int).length : Nat) : Int)) = true then _ else _)
        rw [if_pos (by simpa using this)]
        cases n with
        | zero => omega
        | succ n =>
          have hlast : (c'.cells.map V.int)[(c'.cells.map V.int).length - 1]? = some (.int (c'.cells.getLastD 0)) := by
            rw [← List.getLast?_eq_getElem?, List.getLast?_map]
            cases hg : c'.cells.getLast? with
            | none => exact absurd (List.getLast?_eq_none_iff.mp hg) hc
            | some z => simp [List.getLastD_eq_getLast?, hg]
          refine ⟨_, fun σ' H' hN => ⟨n, Nat.lt_succ_self _, hN⟩, ?_⟩
          refine ⟨_, sj, .inl ⟨rfl, _, SqL.of ki.src.l⟩, B.c, _, _, rfl, rfl, ki.src.l, hlast, ?_⟩
          refine ⟨_, si, B.p, _, rfl, DPut.k (k := kLeft) (by rw [upd_ne ki.src.ne]; exact ki.src.d) (by show 4 < sizeLine; decide), ?_⟩
          have hd2 : drainN n { c' with cells := c'.cells.dropLast, left := c'.cells.getLastD 0 } = drain s.src := by
            rw [← hd]
            exact (if_pos (show c'.left < 2 ∧ c'.cells ≠ [] from ⟨hl, hc⟩)).symm
          obtain ⟨k2, ev2⟩ := ki.called (H' := upd (upd Hi B.c (.lst (c'.cells.map V.int).dropLast)) B.p (.dK (putK (srcKvs B.c c') kLeft (.int (c'.cells.getLastD 0))))) (c' := { c' with cells := c'.cells.dropLast, left := c'.cells.getLastD 0 })
            (fun a x h n1 n2 => by rw [upd_ne n1, upd_ne n2]; exact h) ⟨by rw [upd_same]; rfl, by rw [upd_ne (Ne.symm ki.src.ne), upd_same, List.map_dropLast]⟩
          exact ⟨rfl, _, by simp; omega, k2, evi.trans ev2, hd2⟩
    · have : ¬ decide (c'.left < 2) = true := by simpa using hl
      show (if decide (c'.left < 2) = true then _ else _)
      rw [if_neg this]
      exact leave fun z => hl z.1
  · cases e⟩
end
end GH

namespace GH
open PySem PySem.Spec PyProof.Rows L2

/-- the def at f keeps the promise sp, its calls k deep, where no text of an object is being made around -/
def FnR0 (P : Program) (w : World) (K : PySem.W.Frag) (mg : Str → Option Value) (base : Heap) (k : Nat) (f : Addr) (sp : Sp) : Prop :=
  ∀ (A : Around) (outer : List Env) (s : Shared) (H : Hp) (us : List Value) (vs : List V) (Q : VK), RG k A → Env0 P w K mg base A outer s H → Vals vs us → sp vs H Q E0 →
    codeAny (model P w) A (.call (.ref f) ⟨us, []⟩) (CR CX0 outer P w H s Q E0) s
structure FnW (P : Program) (w : World) (K : PySem.W.Frag) (mg : Str → Option Value) (base : Heap) (k : Nat) (x : Str) (sp : Sp) : Prop where
  ok : ∃ f : Addr, mg x = some (.ref f) ∧ PySem.W.keepIn K (.ref f) = true ∧ FnR0 P w K mg base k f sp
theorem fn_raw {P : Program} {w : World} {K : PySem.W.Frag} {mg : Str → Option Value} {base : Heap} {x : Str} {params : Arguments} {code : List Stmt} {scope : Scope} {f : Addr} {fd : FuncData} {N ps : List Str} {k : Nat} {sp : Sp} {t : TS}
    (F : FunD K x x params code scope [] [] f fd) (hm : mg x = some (.ref f)) (hb : Binds K fd ps []) (S : FnScope N ps scope) (hl : ∀ vs H Q, sp vs H Q E0 → vs.length = ps.length)
    (body : ∀ (cdv : Value) (A : Around) (outer : List Env) (s : Shared) (H : Hp), RG k (A.deeper (envOfC x scope s.heap.objs.size f cdv)) → PSs (cxOf CX0 P w K mg base N x scope f cdv A outer s H E0).nox code t)
    (pure : ∀ vs H Q, sp vs H Q E0 → t { nx := fun _ H' => Q .non H', rt := Q } (L2.start N vs) H) : FnW P w K mg base (k + 1) x sp := by
  obtain ⟨oc, od, dV, kV, doc, pm, an, cdv, ct, osl, efd, lk, hcd, _, _⟩ := F.ex
  subst efd
  refine ⟨f, hm, F.kp, fun A outer s H us vs Q hr e0 r h => ?_⟩
  have KX : K.In s.heap := e0.mod.kin.keeps fun b o e => (e0.bs b o e).1
  refine StX.run_bnd (G := fun xs H2 => xs = vs ∧ H2 = H) (E := E0) lk hcd S hr.r e0 (fun A' Ex Q' hq => ?_) fun s2 H2 xs ⟨ex, eH⟩ hr2 => ?_
  · have bb := hb s us KX (by rw [List.append_nil, ← r.length, hl vs H Q h])
    rw [List.append_nil] at bb
    exact bb _ _ _ _ (hq s H vs us e0 Un.refl rfl (fun _ _ z => z) r (hl vs H Q h) ⟨rfl, rfl⟩)
  · subst ex
    subst eH
    exact ⟨_, PSs.nox (body cdv A outer s2 H2 ⟨hr2, hr.g⟩), pure _ _ _ h⟩
section
variable {X : Cx} {e : Expr} {es : List Expr} {pos p : Pos} {ta : TA}
/-- a call of such a def -/
theorem pe_raw {k : Nat} {x : Str} {sp : Sp} (F : FnW X.prog X.w X.K X.mg X.base k x sp) (hr : RG k X.A) (hg : Gl X x) (ha : PA X (e :: es) ta) (hdb : (x == ("__debug__" : Str)) = false := by decide)
    (he : starEach (e :: es) X.env = (false, eval e X.env) :: starEach es X.env := by rfl) (hpl : (backTo pos (starEach es X.env)).any (·.1) = false := by rfl) : PE X (.Call (.Name x p) (e :: es) [] pos) (fun σ H Q => ta σ H fun vs H1 => sp vs H1 Q E0) := by
  obtain ⟨f, h1, h2, h3⟩ := F.ok
  refine ⟨fun pins sh σ H Q I h => ?_⟩
  refine wpAny_Call_Name_kw (ld_glob I hg h1 ?_ hdb)
  refine PySem.W.callWith_K (h₀ := X.base) I.ok.mod.kin h2 (thn (ha.run pos pins sh σ H _ I h) fun us s1 ⟨vs, H1, I1, r, q⟩ => ⟨I1.kIn, ?_⟩) he hpl
  refine wpAny_call (codeAny_mono (h3 X.A X.stack s1 H1 us vs Q hr I1.env0 r q) fun res s' hq => ?_)
  cases res with
  | error e => exact False.elim hq
  | ok fl =>
    cases fl with
    | ret u => exact I1.after hq
    | next => exact False.elim hq
    | brk => exact False.elim hq
    | cont => exact False.elim hq
end

theorem SqL.grow {K : PySem.W.Frag} {H H' : Hp} {a : Addr} {xs : List V} (h : SqL K H a xs) (s : Same H H') : SqL K H' a xs := by
  rcases h with (h | ⟨o, h⟩) | h
  · exact .inl (.inl (s _ _ h))
  · exact .inl (.inr ⟨o, s _ _ h⟩)
  · exact .inr h
def spOpen (K : PySem.W.Frag) : Sp := fun vs H Q _ => ∃ (a : Addr) (ns : List Int), vs = [.ref a] ∧ SqL K H a (ns.map V.int) ∧ ns.length < sizeLine ∧ ∀ (p c : Addr) (m : Int) (H' : Hp), Same H H' → H p = none → H c = none → SrcOk p c H' ⟨(ns.map fun i => if i < 0 then -i else i).reverse, 1, m, 0⟩ → Q (.ref p) H'
abbrev rMulI : R2 := rI CMul fun i j => .int (i * j)
abbrev rAddI : R2 := rI0 fun i j => .int (i + j)
abbrev rModI : R2 := rI (fun _ j => j ≠ 0) fun i j => .int (i.fmod j)
abbrev rIntC : List V → Hp → VK → Prop := fun xs H Q => (∃ i, xs = [.int i] ∧ Q (.int i) H) ∨ ∃ k, xs = [.bl k] ∧ Q (.int (if k then 1 else 0)) H
abbrev rAbsC : List V → Hp → VK → Prop := fun xs H Q => ∃ i, xs = [.int i] ∧ Q (.int (if i < 0 then -i else i)) H
def tOpenTurn : TS := tAsg (tOp rModI (tCB rIntC (tCons (tOp rAddI (tOp rAddI (tOp rMulI (tVar 1) (tC (.int 69069))) (tOp rMulI (tVar 2) (tC (.int 31)))) (tC (.int 5))) tNil)) (tC (.int 2147483629))) (gName 1)
def tOpen (K : PySem.W.Frag) : TS := tSeq (tAsg (tC (.int 11)) (gName 1)) (tSeq (tFor (iList K (tVar 0)) (gName 2) tOpenTurn)
  (tSeq (tAsg (tLc (iList K (tVar 0)) (gName 2) tYes (tCB rAbsC (tCons (tVar 2) tNil)) [2]) (gName 3))
    (tRet (tDisp [(tC (.str "cells"), tRevL K (tVar 3)), (tC (.str "left"), tC (.int 1)), (tC (.str "mixed"), tVar 1), (tC (.str "turn"), tC (.int 0))]))))
theorem xs_at {ns : List Int} (i : Nat) (x : V) (h : (ns.map V.int)[i]? = some x) : ∃ n, ns[i]? = some n ∧ x = .int n := by
  rw [List.getElem?_map] at h
  obtain ⟨n, h1, h2⟩ := Option.map_eq_some_iff.mp h
  exact ⟨n, h1, h2.symm⟩
theorem open_for {K : PySem.W.Frag} {a : Addr} {ns : List Int} {D : Ends} {H : Hp} (hs : SqL K H a (ns.map V.int)) (q : ∀ m o, D.nx [some (.ref a), some (.int m), o, none] H) : tFor (iList K (tVar 0)) (gName 2) tOpenTurn D [some (.ref a), some (.int 11), none, none] H := by
  refine ⟨_, rfl, a, rfl, ⟨_, hs⟩, ?_⟩
  refine for_list (xs := ns.map V.int) (D := D) (fun i σ H' => H' = H ∧ ∃ m o, σ = [some (.ref a), some (.int m), o, none]) ⟨rfl, 11, none, rfl⟩ (fun i σ H' _ ⟨e, _⟩ => e ▸ hs) (fun i x σ H' hx ⟨e, m, o, es⟩ => ?_) fun σ H' ⟨e, m, o, es⟩ => by subst e es; exact q m o
  subst e es
  obtain ⟨n, _, rfl⟩ := xs_at i x hx
  exact ⟨_, rfl, m, 69069, rfl, rfl, .inr (by decide), _, rfl, n, 31, rfl, rfl, .inr (by decide), _, _, rfl, rfl, _, _, rfl, rfl, .inl ⟨_, rfl, _, _, rfl, rfl, (by show (2147483629 : Int) ≠ 0; decide), rfl, _, _, rfl⟩⟩
def absF (i : Int) : Int := if i < 0 then -i else i
theorem open_lc {K : PySem.W.Frag} {a : Addr} {ns : List Int} {m : V} {o : Option V} {Q : VK} {H : Hp} (hs : SqL K H a (ns.map V.int)) (hlen : ns.length < sizeLine) (q : ∀ D, H D = none → Q (.ref D) (upd H D (.lst ((ns.map absF).map V.int)))) : tLc (iList K (tVar 0)) (gName 2) tYes (tCB rAbsC (tCons (tVar 2) tNil)) [2] [some (.ref a), some m, o, none] H Q := by
  refine ⟨_, rfl, a, rfl, ⟨_, hs⟩, fun D nD => ?_⟩
  have aD : ∀ (l : List V), Same H (upd H D (.lst l)) := fun l => same_new nD
  refine lc_list (xs := ns.map V.int) (fun i H2 => i ≤ ns.length ∧ H2 = upd H D (.lst (((ns.take i).map absF).map V.int))) ⟨Nat.zero_le _, by simp⟩ (fun i H2 _ ⟨_, e⟩ => e ▸ SqL.grow hs (aD _)) (fun i x H2 hx ⟨hi, e⟩ => ?_) fun H2 ⟨_, e⟩ => ?_
  · subst e
    obtain ⟨n, hn, rfl⟩ := xs_at i x hx
    have hlt : i < ns.length := (List.getElem?_eq_some_iff.mp hn).1
    refine ⟨by simp [wipe], ?_⟩
    refine ⟨_, rfl, n, rfl, _, upd_same, by simp; omega, hlt, ?_⟩
    rw [upd_upd, List.take_succ, hn]
    simp [absF]
  · subst e
    rw [List.length_map, List.take_length]
    exact q D nD
theorem open_ret {K : PySem.W.Frag} {a D : Addr} {ns : List Int} {m : Int} {o : Option V} {E : Ends} {H : Hp} (nD : H D = none) (q : ∀ p c H', Same H H' → H p = none → H c = none → SrcOk p c H' ⟨(ns.map absF).reverse, 1, m, 0⟩ → E.rt (.ref p) H') :
    tRet (tDisp [(tC (.str "cells"), tRevL K (tVar 3)), (tC (.str "left"), tC (.int 1)), (tC (.str "mixed"), tVar 1), (tC (.str "turn"), tC (.int 0))]) E [some (.ref a), some (.int m), o, some (.ref D)] (upd H D (.lst ((ns.map absF).map V.int))) := by
  intro p np
  have neD : D ≠ p := fun z => by subst z; rw [upd_same] at np; cases np
  refine ⟨_, rfl, D, _, rfl, SqL.of (by rw [upd_ne neD]; exact upd_same), fun c nc => ?_⟩
  have nec : c ≠ p := fun z => by subst z; rw [upd_same] at nc; cases nc
  rw [upd_ne nec] at nc
  have necD : c ≠ D := fun z => by subst z; rw [upd_same] at nc; cases nc
  refine ⟨_, rfl, ?_⟩
  refine ⟨by rw [upd_ne (Ne.symm nec)]; exact upd_same, srcKvs c ⟨(ns.map absF).reverse, 1, m, 0⟩, rfl, by show 4 ≤ 15; decide, ?_⟩
  have nH : H p = none := by rw [upd_ne (Ne.symm neD)] at np; exact np
  have nHc : H c = none := by rw [upd_ne necD] at nc; exact nc
  refine q p c _ (fun b o hb => ?_) nH nHc ⟨by rw [upd_same]; rfl, ?_⟩
  · have h1 : b ≠ p := ne_of_none hb nH
    have h2 : b ≠ c := ne_of_none hb nHc
    have h3 : b ≠ D := ne_of_none hb nD
    rw [upd_ne h1, upd_ne h2, upd_ne h1, upd_ne h3]; exact hb
  · rw [upd_ne nec, upd_same, List.map_reverse]
theorem open_pure {K : PySem.W.Frag} (vs : List V) (H : Hp) (Q : VK) (h : spOpen K vs H Q E0) : tOpen K { nx := fun _ H' => Q .non H', rt := Q } (L2.start ["script", "stirred", "cell", "cells"] vs) H := by
  obtain ⟨a, ns, rfl, hs, hlen, q⟩ := h
  rw [show L2.start ["script", "stirred", "cell", "cells"] [.ref a] = [some (.ref a), none, none, none] from rfl]
  dsimp only [tOpen, tSeq, tAsg, tC]
  refine open_for hs fun m o => ?_
  dsimp only [tSeq, tAsg]
  refine open_lc hs hlen fun D nD => ?_
  exact open_ret nD fun p c H' s n1 n2 k => q p c m H' s n1 n2 k

def spLaw (K : PySem.W.Frag) : Sp := fun vs H Q _ => ∃ (a : Addr) (ns : List Int), vs = [.ref a] ∧ ns.length ≤ 63 ∧ SqL K H a (ns.map V.int) ∧ ∀ H', Q (.bl true) H'
section
variable {P : Program} {w : World} {K : PySem.W.Frag} {mg mb : Str → Option Value} {k : Nat} {x : Str} {fa a : Addr} {s1 : Shared} {vs : List Value} {ns : List Int}
/-- the law's call from an abstract heap that tracks the script alone, or nothing -/
theorem end_core (H : Hp) (hok : HOk P w H s1.heap) (one : ∀ b, H b ≠ none → b = a) (frz : ∀ b u, H b = some u → ∃ o ys, u = .frz o (.lst ys)) (kA : H a ≠ none → K.lookup a = none) (hS : SqL K H a (ns.map V.int)) (hl : ns.length ≤ 63)
    (kin : K.In s1.heap) (hg : s1.heap.Ns mainGlobals mg) (hb : s1.heap.Ns builtinsNs mb) (hbb : ∀ x : Str, x ≠ "__name__" → mb x = bootBuiltins x) (lim : s1.heap.NoLimit) (gens : s1.gens = #[])
    (obj : ∃ c d n, s1.heap.get? a = some { cls := c, dict := d, data := .seq n }) (rg : RG k callerA) (hm : mg x = some (.ref fa))
    (F : ∀ base : Heap, K.In base → base.Ns mainGlobals mg → FnW P w K mg base k x (spLaw K)) :
    codeAny (model P w) callerA (.call (.ref fa) ⟨[.ref a], []⟩) (fun r s' => r = .ok (.ret (.bool true)) ∧ OldK s1.heap s'.heap ∧ s'.os = s1.os ∧ AllBare s'.gens) s1 := by
  obtain ⟨c, d, n, obj⟩ := obj
  have free : ∀ {b : Addr} {o : Obj} {es : Array DictEntry} {ep : Nat}, s1.heap.get? b = some o → o.data = .dict es ep → H b = none := fun {b o es ep} g e => by
    cases q : H b with
    | none => rfl
    | some u =>
      have z := one b (by rw [q]; simp)
      subst z
      rw [obj] at g
      cases g
      cases e
  have ns' : ∀ {b : Addr} {m : Str → Option Value}, s1.heap.Ns b m → (hidT s1.heap H).Ns b m := fun {b m} ⟨o, es, ep, g, e, r⟩ => ⟨o, es, ep, hidT_get g (free g e), e, r⟩
  have kin' : K.In (hidT s1.heap H) := fun b o g => hidT_get (kin b o g) (by
    cases q : H b with
    | none => rfl
    | some u =>
      have z := one b (by rw [q]; simp)
      subst z
      rw [kA (by rw [q]; simp)] at g
      cases g)
  obtain ⟨mc, l1, l2⟩ := lim
  have e0 : Env0 P w K mg (hidT s1.heap H) callerA [] s1 H :=
    ⟨rfl, ⟨kin', ns' hg, ⟨mb, ns' hb, hbb⟩, ⟨mc, ns' l1, l2⟩⟩, fun b o g => of_hidT g, Nat.le_of_eq (hidT_size _ _), trivial, (fun b hb => by cases hb), hok, .of_eq gens⟩
  obtain ⟨f, h1, h2, h3⟩ := (F _ kin' (ns' hg)).ok
  rw [hm] at h1
  cases h1
  refine codeAny_mono (h3 callerA [] s1 H [.ref a] [.ref a] (fun v _ => v = .bl true) rg e0 (.cons rfl .nil) ⟨a, ns, rfl, hl, hS, fun _ => rfl⟩) fun r s' h => ?_
  cases r with
  | error e => exact False.elim h
  | ok fl =>
    cases fl with
    | next => exact False.elim h
    | brk => exact False.elim h
    | cont => exact False.elim h
    | ret u =>
      obtain ⟨v, H', os, bare, un, hok', r', q⟩ := h
      have q' : v = .bl true := q
      subst q'
      obtain rfl : u = Value.bool true := r'
      refine ⟨rfl, OldK.of_keep fun b o g => ?_, os, bare⟩
      cases q : H b with
      | none => exact un.keep b o g q (fun z => by cases z) (by simp)
      | some u =>
        obtain ⟨ob, ys, rfl⟩ := frz b u q
        have z2 := un.frzs b ob _ q
        obtain ⟨y1, _⟩ := hok b _ q
        obtain ⟨y2, _⟩ := hok' b _ z2
        rw [g] at y1
        cases y1
        exact y2
theorem end_call (kin : K.In s1.heap) (hg : s1.heap.Ns mainGlobals mg) (hb : s1.heap.Ns builtinsNs mb) (hbb : ∀ x : Str, x ≠ "__name__" → mb x = bootBuiltins x) (lim : s1.heap.NoLimit) (gens : s1.gens = #[])
    (ha : s1.heap.get? a = some { cls := .type "list", data := .seq vs.toArray }) (hi : IntsAre vs ns) (hl : ns.length ≤ 63) (rg : RG k callerA) (hm : mg x = some (.ref fa))
    (F : ∀ base : Heap, K.In base → base.Ns mainGlobals mg → FnW P w K mg base k x (spLaw K)) :
    codeAny (model P w) callerA (.call (.ref fa) ⟨[.ref a], []⟩) (fun r s' => r = .ok (.ret (.bool true)) ∧ OldK s1.heap s'.heap ∧ s'.os = s1.os ∧ AllBare s'.gens) s1 := by
  have rv := vals_ints hi
  have lenV := hi.length
  have small : ns.length ≤ sizeLine := Nat.le_trans hl (by decide)
  cases hk : K.lookup a with
  | some o =>
    have g := kin a o hk
    rw [ha] at g
    cases g
    refine end_core (fun _ => none) (fun b u z => nomatch z) (fun b z => absurd rfl z) (fun b u z => nomatch z) (fun z => absurd rfl z) ?_ hl kin hg hb hbb lim gens ⟨_, _, _, ha⟩ rg hm F
    exact .inr ⟨_, vs.toArray, _, hk, rfl, rfl, rfl, by rw [List.size_toArray, lenV]; exact small, by simpa using rv⟩
  | none =>
    let H : Hp := fun b => if b = a then some (.frz { cls := .type "list", data := .seq vs.toArray } (.lst (ns.map V.int))) else none
    have at_ : H a = some (.frz { cls := .type "list", data := .seq vs.toArray } (.lst (ns.map V.int))) := if_pos rfl
    have off : ∀ b, b ≠ a → H b = none := fun b z => if_neg z
    refine end_core H (fun b u z => ?_) (fun b z => ?_) (fun b u z => ?_) (fun _ => hk) (.inl (.inr ⟨_, at_⟩)) hl kin hg hb hbb lim gens ⟨_, _, _, ha⟩ rg hm F
    · by_cases e : b = a
      · subst e
        rw [at_] at z
        cases z
        exact ⟨ha, by rw [List.length_map]; exact small, vs, _, rv, ha⟩
      · rw [off b e] at z
        cases z
    · by_cases e : b = a
      · exact e
      · exact absurd (off b e) z
    · by_cases e : b = a
      · subst e
        rw [at_] at z
        cases z
        exact ⟨_, _, rfl⟩
      · rw [off b e] at z
        cases z
end
/-- the walk of a law's row -/
theorem walk_law {l : PySem.W.OpenLaw} {k : Nat} {q : Program} {loose : List Str} {XP : (Str → Option Value) → Heap → Prop} {YP : World → Heap → Prop} {d : DefRec}
    (hn : l.most = some 63) (hdf : d.params.defaults = []) (rg : RG k callerA)
    (F : ∀ (w : World) (mg : Str → Option Value) (h : Heap), YP w h → h.Ns mainGlobals mg → ∃ K : PySem.W.Frag, K.In h ∧ ∀ base : Heap, K.In base → base.Ns mainGlobals mg → FnW l.prog w K mg base k d.name (spLaw K)) :
    PySem.W.WalkO q loose XP YP l.row.toRowW d [] (fun f vs => PySem.call f vs) := by
  refine Att.attach_call hn hdf fun w s₀ s1 mg mb fa o pm cd doc a vs ns G Y ho hd hcd hmg hobj hints hlen hg => ?_
  obtain ⟨K, kin, hF⟩ := F w mg _ Y G.T.g
  exact end_call kin G.T.g G.T.b G.T.builtins G.T.nolimit hg hobj hints hlen rg hmg hF

def tSx (m : M Out) : TS := fun D σ H => ∃ B, tS B m D σ H
theorem SSs.px {X : Cx} {st : List Stmt} {m : M Out} (h : SSs X st m) : PSs X st (tSx m) := ⟨fun pins s σ H D I ⟨B, q⟩ => (h.ps B).run pins s σ H D I q⟩
def tOpenCall (K : PySem.W.Frag) (i : Nat) : TS := tAsg (fun σ H Q => tCons (tVar 0) tNil σ H fun vs H1 => spOpen K vs H1 Q E0) (gName i)
def lawEnv (n i : Nat) : List (Option Sl) := (List.replicate n none).set i (some (.val .src))
theorem law_pure {K : PySem.W.Frag} {N : List Str} {i : Nat} {m : M Out} {vs : List V} {H : Hp} {Q : VK} (hi : 0 < i) (hN : i < N.length) (ok : ∀ src, ∃ s', m ⟨lawEnv N.length i, src⟩ = some (.ret (.bl true), s')) (h : spLaw K vs H Q E0) :
    tSeq (tOpenCall K i) (tSx m) { nx := fun _ H' => Q .non H', rt := Q } (L2.start N vs) H := by
  obtain ⟨a, ns, rfl, hl, hs, q⟩ := h
  have h0 : (L2.start N [V.ref a])[0]? = some (some (.ref a)) := rfl
  refine ⟨_, h0, a, ns, rfl, hs, Nat.lt_of_le_of_lt hl (by decide), fun p c mx H' sm np nc k => ?_⟩
  obtain ⟨s', e⟩ := ok ⟨(ns.map fun i => if i < 0 then -i else i).reverse, 1, mx, 0⟩
  have hlen : (L2.start N [V.ref a]).length = N.length := by
    unfold L2.start
    simp only [List.length_append, List.length_map, List.length_replicate, List.length_singleton]
    omega
  have slots : ∀ (j : Nat) (sl : Sl), (lawEnv N.length i)[j]? = some (some sl) → j = i ∧ sl = .val .src := fun j sl z => by
    unfold lawEnv at z
    by_cases e : i = j
    · subst e
      rw [List.getElem?_set_self (by simpa using hN)] at z
      cases z; exact ⟨rfl, rfl⟩
    · rw [List.getElem?_set_ne e, List.getElem?_replicate] at z
      split at z <;> cases z
  refine ⟨⟨p, c, fun b => b = p ∨ b = c, H'⟩, ⟨lawEnv N.length i, _⟩, _, s', ⟨?_, fun j d z => ?_, fun j sl z ho => ?_, fun j1 j2 sl1 sl2 b z1 o1 => ?_, k, fun b o z _ _ => z, fun b z => ?_, .inl rfl, .inr rfl⟩, e, ?_⟩
  · show (lawEnv N.length i).length = _
    rw [List.length_set, hlen]
    unfold lawEnv
    simp
  · obtain ⟨rfl, y1⟩ := slots j _ z
    cases y1
    exact ⟨.ref p, List.getElem?_set_self (by rw [hlen]; exact hN), by simp [Rp]⟩
  · obtain ⟨rfl, y1⟩ := slots j _ z
    subst y1
    cases ho
  · obtain ⟨rfl, y1⟩ := slots j1 _ z1
    subst y1
    cases o1
  · rcases z with rfl | rfl
    · exact ⟨_, k.d⟩
    · exact ⟨_, k.l⟩
  · intro v σ' H2 k2 ev r
    rw [rp_bl r]
    exact q H2
theorem law_fn {P : Program} {w : World} {K : PySem.W.Frag} {mg : Str → Option Value} {base : Heap} {x : Str} {params : Arguments} {st : Stmt} {rest : List Stmt} {scope : Scope} {f : Addr} {fd : FuncData} {N : List Str} {y : Str} {k i : Nat} {m : M Out}
    (F : FunD K x x params (st :: rest) scope [] [] f fd) (hm : mg x = some (.ref f)) (hb : Binds K fd [y] []) (S : FnScope N [y] scope) (hi : 0 < i) (hN : i < N.length)
    (body : ∀ (cdv : Value) (A : Around) (outer : List Env) (s : Shared) (H : Hp), RG k (A.deeper (envOfC x scope s.heap.objs.size f cdv)) →
      PS (cxOf CX0 P w K mg base N x scope f cdv A outer s H E0).nox st (tOpenCall K i) ∧ SSs (cxOf CX0 P w K mg base N x scope f cdv A outer s H E0).nox rest m)
    (ok : ∀ src, ∃ s', m ⟨lawEnv N.length i, src⟩ = some (.ret (.bl true), s')) : FnW P w K mg base (k + 1) x (spLaw K) :=
  fn_raw (t := tSeq (tOpenCall K i) (tSx m)) F hm hb S (fun vs H Q ⟨a, ns, e, _⟩ => by rw [e]; rfl) (fun cdv A outer s H hr => pss_cons (body cdv A outer s H hr).1 (body cdv A outer s H hr).2.px) fun vs H Q h => law_pure hi hN ok h
end GH

namespace GH
open PySem PySem.Spec PyProof.Rows L2

def blkB (N : List Str) (sc scope : Scope) (own : List (Str × Nat)) : Bool :=
  decide (∀ y ∈ scope.names, scope.names.lookup y.1 = some y.2) && decide (∀ p ∈ own, N[p.2]? = some p.1) &&
  decide (∀ y ∈ scope.names, y.2 = .free → sc.names.lookup y.1 = some .cell ∨ sc.names.lookup y.1 = some .free) &&
  decide (∀ y ∈ scope.names, y.2 = .local ∨ y.2 = .cell → y.1 ∈ own.map (·.1) ∨ y.1 ∉ N)
theorem blk_of {N : List Str} {sc scope : Scope} {own : List (Str × Nat)} (k : scope.kind = .function) (h : blkB N sc scope own = true) : BlkOk N sc scope own := by
  unfold blkB at h
  simp only [Bool.and_eq_true] at h
  exact ⟨k, of_decide_eq_true h.1.1.1, of_decide_eq_true h.1.1.2, of_decide_eq_true h.1.2, of_decide_eq_true h.2⟩
def lDisp (ms : M (List D)) : M (List D) := bnd ms fun ds => if ds.length ≤ sizeLine then ret ds else fail
def eTupRg (m : M D) : M D := bnd (lRg1 m) fun ds => ret (.tup ds)
section
variable {X : Cx} {es : List Expr} {pos : Pos} {ms : M (List D)}
theorem pv {i : Nat} {x : Str} (hN : X.N[i]? = some x := by rfl) (hv : Vis X.env.scope x := by first | exact Or.inl rfl | exact Or.inr (Or.inl rfl) | exact Or.inr (Or.inr rfl)) (hd : (x == ("__debug__" : Str)) = false := by decide) (hcd : (x == ("__classdict__" : Str)) = false := by decide) : PE X (.Name x pos) (tVar i) := pe_var hN hv hd hcd
theorem s_v {i : Nat} {x : Str} (hN : X.N[i]? = some x := by rfl) (hv : Vis X.env.scope x := by first | exact Or.inl rfl | exact Or.inr (Or.inl rfl) | exact Or.inr (Or.inr rfl)) (hd : (x == ("__debug__" : Str)) = false := by decide) (hcd : (x == ("__classdict__" : Str)) = false := by decide) : SE X (.Name x pos) (eVar i) := s_var (pe_var hN hv hd hcd)
theorem g_n {i : Nat} {x : Str} (hN : X.N.Nodup) (hi : X.N[i]? = some x := by rfl) (hx : Loc X.env.scope x := by first | exact Or.inl rfl | exact Or.inr rfl) (hf : X.fn x = true ∨ X.env.scope.names.lookup x = some .local := by first | exact .inl rfl | exact .inr rfl | assumption) : SG X (.Name x pos) [i] (gN i) := g_name hN hi hx hf
theorem l_dsp (h : SA X es ms) : SL X (.List es pos) (lDisp ms) := l_disp h
end
theorem RG.u64 {k : Nat} {A : Around} (h : RG k A) : A.units + 64 < cLine := by have := h.r.un; omega
theorem RG.u65 {k : Nat} {A : Around} (h : RG k A) : A.units + 65 < cLine := by have := h.r.un; omega
theorem RG.u1 {k : Nat} {A : Around} (h : RG k A) : A.units + 1 < cLine := by have := h.r.un; omega
def mPick : M Out := sSeq (sIf (tst (eBin ltD (eVar 1) (eC (.int 2)))) (sRet (eC (.int 0))) sNx)
  (mDrain 0 2 (sSeq (sSet 3 (eFld 0 Src.left))
  (sSeq (sIf (tst (eBin gtD (eVar 3) (eC (.int 1)))) (sSeq (sFld 0 (fun s z => { s with left := z }) (eBin fdivD (eVar 3) (eVar 1))) (sRet (eBin modD (eCall intG (aCons (eVar 3) aNil)) (eVar 1)))) sNx)
  (sSeq (sFld 0 (fun s z => { s with turn := z }) (eBin addD (eFld 0 Src.turn) (eC (.int 1))))
  (sSeq (sSet 4 (eFld 0 Src.turn))
  (sSeq (sSet 5 (eBin modD (eCall intG (aCons (eBin addD (eFld 0 Src.mixed) (eBin mulD (eVar 4) (eC (.int 104729)))) aNil)) (eC (.int 998244353))))
  (sSeq (sSet 5 (eBin modD (eCall intG (aCons (eBin addD (eBin mulD (eVar 5) (eVar 5)) (eBin mulD (eVar 4) (eC (.int 17)))) aNil)) (eC (.int 2147483647))))
  (sRet (eBin modD (eCall intG (aCons (eBin fdivD (eVar 5) (eC (.int 16))) aNil)) (eVar 1))))))))))
def S_pick : FnSem := fnOf 6 mPick
end GH

namespace GH
open PySem PySem.Spec PyProof.Rows L2

theorem bndE {α β : Type} (m : M α) (f : α → M β) (s : S) : bnd m f s = (match m s with
  | some (a, s1) => f a s1
  | none => none) := rfl
theorem sz (n : Nat) (h : n ≤ 100000) : n ≤ sizeLine := Nat.le_trans h (by decide)
theorem seq_nx {m n : M Out} {s s1 : S} (h : m s = some (.nx, s1)) : sSeq m n s = n s1 := by unfold sSeq; rw [bndE, h]
theorem seq_ret {m n : M Out} {s s1 : S} {d : D} (h : m s = some (.ret d, s1)) : sSeq m n s = some (.ret d, s1) := by unfold sSeq; rw [bndE, h]; rfl
theorem if_tt {t : M Bool} {m n : M Out} {s s1 : S} (h : t s = some (true, s1)) : sIf t m n s = m s1 := by unfold sIf; rw [bndE, h]; rfl
theorem if_ff {t : M Bool} {m n : M Out} {s s1 : S} (h : t s = some (false, s1)) : sIf t m n s = n s1 := by unfold sIf; rw [bndE, h]; rfl
theorem for_eq {it : M (List D)} {g : D → M Unit} {b : M Out} {s s1 : S} {ds : List D} (h : it s = some (ds, s1)) : sFor it g b s = forM g b ds s1 := by unfold sFor; rw [bndE, h]
theorem for_nil {g : D → M Unit} {b : M Out} {s : S} : forM g b [] s = some (.nx, s) := rfl
theorem for_nx {g : D → M Unit} {b : M Out} {d : D} {r : List D} {s s1 s2 : S} (h : g d s = some ((), s1)) (h2 : b s1 = some (.nx, s2)) : forM g b (d :: r) s = forM g b r s2 := by
  show bnd (g d) _ s = _
  rw [bndE, h]
  show bnd b _ s1 = _
  rw [bndE, h2]
theorem for_ret {g : D → M Unit} {b : M Out} {d : D} {r : List D} {s s1 s2 : S} {v : D} (h : g d s = some ((), s1)) (h2 : b s1 = some (.ret v, s2)) : forM g b (d :: r) s = some (.ret v, s2) := by
  show bnd (g d) _ s = _
  rw [bndE, h]
  show bnd b _ s1 = _
  rw [bndE, h2]
  rfl
theorem fn_eq {g : FnSem} {ms : M (List D)} {s : S} {env : List (Option Sl)} {c0 : Src} {ds : List D} {d : D} {c : Src} (h : ms s = some (ds, ⟨env, c0⟩)) (h2 : g ds c0 = some (d, c)) : eFn g ms s = some (d, ⟨env, c⟩) := by
  unfold eFn
  exact (bnd_eq h).trans (by show (match g ds c0 with | some (d, c) => _ | none => none) = _; rw [h2])
theorem fnOf_ret {n : Nat} {m : M Out} {ds : List D} {c c' : Src} {d : D} {env : List (Option Sl)} (h : m ⟨ds.map (fun d => some (Sl.val d)) ++ List.replicate (n - ds.length) none, c⟩ = some (.ret d, ⟨env, c'⟩)) : fnOf n m ds c = some (d, c') := by
  unfold fnOf; rw [h]

def turnC (g : D → M Unit) (c : M Bool) (el : M D) (d : D) : M (Option D) := bnd (g d) fun _ => bnd c fun b => if b = true then bnd el fun y => ret (some y) else ret none
theorem cStep_eq {vs : List Nat} {g : D → M Unit} {c : M Bool} {el : M D} {d : D} {s : S} : cStep vs g c el d s = turnC g c el d ⟨wipeE s.env vs, s.src⟩ := rfl
def cleanE (env : List (Option Sl)) (vs : List Nat) : Prop := ∀ v ∈ vs, ∀ x, env[v]? = some (some x) → ∃ d, x = .val d
theorem wipeE_at {env : List (Option Sl)} {i : Nat} : ∀ {vs : List Nat}, i ∈ vs → (wipeE env vs)[i]? = env[i]?.map fun _ => none
  | [], h => by simp at h
  | v :: vs, h => by
    unfold wipeE
    by_cases e : v = i
    · subst e
      by_cases hv : v < env.length
      · rw [List.getElem?_set_self (by rw [wipeE_len]; exact hv), List.getElem?_eq_getElem hv]; rfl
      · rw [List.getElem?_eq_none (by rw [List.length_set, wipeE_len]; omega), List.getElem?_eq_none (by omega)]; rfl
    · rw [List.getElem?_set_ne e]
      exact wipeE_at (by
        rcases List.mem_cons.mp h with z | z
        · exact absurd z.symm e
        · exact z)
theorem restE_at {env0 env : List (Option Sl)} {i : Nat} : ∀ {vs : List Nat}, i ∈ vs → i < env.length → (restE env0 env vs)[i]? = some (match env0[i]? with
    | some (some (.val d)) => some (.val d)
    | _ => none)
  | [], h, _ => by simp at h
  | v :: vs, h, hl => by
    unfold restE
    by_cases e : v = i
    · subst e
      rw [List.getElem?_set_self (by rw [restE_len]; exact hl)]
      all_goals rfl
    · rw [List.getElem?_set_ne e]
      exact restE_at (by
        rcases List.mem_cons.mp h with z | z
        · exact absurd z.symm e
        · exact z) hl
theorem restE_off {env0 env : List (Option Sl)} {i : Nat} : ∀ {vs : List Nat}, i ∉ vs → (restE env0 env vs)[i]? = env[i]?
  | [], _ => rfl
  | v :: vs, h => by
    unfold restE
    rw [List.getElem?_set_ne (by rintro rfl; exact h List.mem_cons_self), restE_off fun z => h (List.mem_cons_of_mem _ z)]
theorem rest_clean {env env1 : List (Option Sl)} {vs : List Nat} (h : wipeE env1 vs = wipeE env vs) (cl : cleanE env vs) : restE env env1 vs = env := by
  have hlen : env1.length = env.length := by rw [← wipeE_len env1 vs, h, wipeE_len]
  refine List.ext_getElem? fun i => ?_
  by_cases hi : i ∈ vs
  · by_cases hl : i < env.length
    · rw [restE_at hi (by omega), List.getElem?_eq_getElem hl]
      cases q : env[i] with
      | none => rfl
      | some x =>
        obtain ⟨d, rfl⟩ := cl i hi x (by rw [List.getElem?_eq_getElem hl, q])
        rfl
    · rw [List.getElem?_eq_none (by rw [restE_len]; omega), List.getElem?_eq_none (by omega)]
  · rw [restE_off hi, ← wipeE_get (env := env1) hi, h, wipeE_get hi]
section
variable {vs : List Nat} {g : D → M Unit} {c : M Bool} {el : M D} {it : M (List D)} {env : List (Option Sl)}
theorem compF_rel {α : Type} {enc : α → Option D} {R : D → α → Prop} : ∀ {ds : List D} {env0 : List (Option Sl)} {src : Src}, wipeE env0 vs = wipeE env vs →
    (∀ d ∈ ds, ∀ s, ∃ y env1 s', turnC g c el d ⟨wipeE env vs, s⟩ = some (enc y, ⟨env1, s'⟩) ∧ wipeE env1 vs = wipeE env vs ∧ R d y) →
    ∃ (ys : List α) (env2 : List (Option Sl)) (s' : Src), ys.length = ds.length ∧ (∀ (i : Nat) (d : D) (y : α), ds[i]? = some d → ys[i]? = some y → R d y) ∧ compF vs g c el ds ⟨env0, src⟩ = some (ys.filterMap enc, ⟨env2, s'⟩) ∧ wipeE env2 vs = wipeE env vs
  | [], env0, src, h, _ => ⟨[], env0, src, rfl, fun i d y z => by simp at z, rfl, h⟩
  | d :: r, env0, src, h, step => by
    obtain ⟨y, env1, s1, e1, w1, hy⟩ := step d List.mem_cons_self src
    obtain ⟨ys, env2, s2, hl, hr, e2, w2⟩ := compF_rel (ds := r) (env0 := env1) (src := s1) w1 fun d hd => step d (List.mem_cons_of_mem _ hd)
    refine ⟨y :: ys, env2, s2, by simp [hl], fun i d' y' h1 h2 => ?_, ?_, w2⟩
    · cases i with
      | zero => simp at h1 h2; subst h1 h2; exact hy
      | succ i => simp at h1 h2; exact hr i d' y' h1 h2
    · show bnd (cStep vs g c el d) _ _ = _
      rw [bnd_eq (show cStep vs g c el d ⟨env0, src⟩ = some (enc y, ⟨env1, s1⟩) by rw [cStep_eq]; show turnC g c el d ⟨wipeE env0 vs, src⟩ = _; rw [h]; exact e1)]
      rw [bnd_eq e2]
      show some _ = _
      rw [List.filterMap_cons]
      cases enc y <;> rfl
theorem comp_rel {α : Type} {enc : α → Option D} {R : D → α → Prop} {ds : List D} {src src1 : Src} (hit : it ⟨env, src⟩ = some (ds, ⟨env, src1⟩)) (hl : ds.length ≤ 100000) (cl : cleanE env vs)
    (step : ∀ d ∈ ds, ∀ s, ∃ y env1 s', turnC g c el d ⟨wipeE env vs, s⟩ = some (enc y, ⟨env1, s'⟩) ∧ wipeE env1 vs = wipeE env vs ∧ R d y) :
    ∃ (ys : List α) (s' : Src), ys.length = ds.length ∧ (∀ (i : Nat) (d : D) (y : α), ds[i]? = some d → ys[i]? = some y → R d y) ∧ eComp vs g c el it ⟨env, src⟩ = some (ys.filterMap enc, ⟨env, s'⟩) := by
  obtain ⟨ys, env2, s', h1, h2, h3, h4⟩ := compF_rel (src := src1) rfl step
  refine ⟨ys, s', h1, h2, ?_⟩
  unfold eComp
  refine (bnd_eq hit).trans ?_
  show (if ds.length ≤ PySem.sizeLine then (match compF vs g c el ds ⟨env, src1⟩ with
    | some (ys, sn) => some (ys, { sn with env := restE env sn.env vs })
    | none => none) else none) = _
  rw [if_pos (sz _ hl), h3]
  show some (_, (⟨restE env env2 vs, s'⟩ : S)) = _
  rw [rest_clean h4 cl]
theorem compF_pure {α : Type} {enc : α → D} {f : α → Option D} {src : Src} : ∀ {xs : List α} {env0 : List (Option Sl)}, wipeE env0 vs = wipeE env vs →
    (∀ x ∈ xs, ∃ env1, turnC g c el (enc x) ⟨wipeE env vs, src⟩ = some (f x, ⟨env1, src⟩) ∧ wipeE env1 vs = wipeE env vs) →
    ∃ env2, compF vs g c el (xs.map enc) ⟨env0, src⟩ = some (xs.filterMap f, ⟨env2, src⟩) ∧ wipeE env2 vs = wipeE env vs
  | [], env0, h, _ => ⟨env0, rfl, h⟩
  | x :: r, env0, h, step => by
    obtain ⟨env1, e1, w1⟩ := step x List.mem_cons_self
    obtain ⟨env2, e2, w2⟩ := compF_pure (xs := r) (env0 := env1) w1 fun x hx => step x (List.mem_cons_of_mem _ hx)
    refine ⟨env2, ?_, w2⟩
    show bnd (cStep vs g c el (enc x)) _ _ = _
    rw [bnd_eq (show cStep vs g c el (enc x) ⟨env0, src⟩ = some (f x, ⟨env1, src⟩) by rw [cStep_eq]; show turnC g c el (enc x) ⟨wipeE env0 vs, src⟩ = _; rw [h]; exact e1)]
    rw [bnd_eq e2]
    show some _ = _
    rw [List.filterMap_cons]
    cases f x <;> rfl
theorem comp_pure {α : Type} {enc : α → D} {f : α → Option D} {xs : List α} {src src1 : Src} (hit : it ⟨env, src⟩ = some (xs.map enc, ⟨env, src1⟩)) (hl : xs.length ≤ 100000) (cl : cleanE env vs)
    (step : ∀ x ∈ xs, ∃ env1, turnC g c el (enc x) ⟨wipeE env vs, src1⟩ = some (f x, ⟨env1, src1⟩) ∧ wipeE env1 vs = wipeE env vs) :
    eComp vs g c el it ⟨env, src⟩ = some (xs.filterMap f, ⟨env, src1⟩) := by
  obtain ⟨env2, h3, h4⟩ := compF_pure rfl step
  unfold eComp
  refine (bnd_eq hit).trans ?_
  show (if (xs.map enc).length ≤ PySem.sizeLine then (match compF vs g c el (xs.map enc) ⟨env, src1⟩ with
    | some (ys, sn) => some (ys, { sn with env := restE env sn.env vs })
    | none => none) else none) = _
  rw [if_pos (sz _ (by simpa using hl)), h3]
  show some (_, (⟨restE env env2 vs, src1⟩ : S)) = _
  rw [rest_clean h4 cl]
/-- .. that keeps each -/
theorem comp_map {α : Type} {enc : α → D} {f : α → D} {xs : List α} {src src1 : Src} (hit : it ⟨env, src⟩ = some (xs.map enc, ⟨env, src1⟩)) (hl : xs.length ≤ 100000) (cl : cleanE env vs)
    (step : ∀ x ∈ xs, ∃ env1, turnC g c el (enc x) ⟨wipeE env vs, src1⟩ = some (some (f x), ⟨env1, src1⟩) ∧ wipeE env1 vs = wipeE env vs) :
    eComp vs g c el it ⟨env, src⟩ = some (xs.map f, ⟨env, src1⟩) := by
  have := comp_pure (f := fun x => some (f x)) hit hl cl step
  rw [this]
  congr 2
  induction xs with
  | nil => rfl
  | cons x r ih => rw [List.filterMap_cons, List.map_cons]; simp
/-- .. whose elements are drawn -/
theorem comp_draw {α : Type} {enc : α → D} {R : D → α → Prop} {ds : List D} {src src1 : Src} (hit : it ⟨env, src⟩ = some (ds, ⟨env, src1⟩)) (hl : ds.length ≤ 100000) (cl : cleanE env vs)
    (step : ∀ d ∈ ds, ∀ s, ∃ y env1 s', turnC g c el d ⟨wipeE env vs, s⟩ = some (some (enc y), ⟨env1, s'⟩) ∧ wipeE env1 vs = wipeE env vs ∧ R d y) :
    ∃ (ys : List α) (s' : Src), ys.length = ds.length ∧ (∀ (i : Nat) (d : D) (y : α), ds[i]? = some d → ys[i]? = some y → R d y) ∧ eComp vs g c el it ⟨env, src⟩ = some (ys.map enc, ⟨env, s'⟩) := by
  obtain ⟨ys, s', h1, h2, h3⟩ := comp_rel (enc := fun y => some (enc y)) hit hl cl step
  refine ⟨ys, s', h1, h2, ?_⟩
  rw [h3]
  congr 2
  clear h1 h2 h3
  induction ys with
  | nil => rfl
  | cons x r ih => rw [List.filterMap_cons, List.map_cons]; simp
theorem ret_eq {m : M D} {s s1 : S} {d : D} (h : m s = some (d, s1)) : sRet m s = some (.ret d, s1) := by unfold sRet; rw [bnd_eq h]; rfl
theorem set_eq {i : Nat} {m : M D} {s : S} {env : List (Option Sl)} {c : Src} {d : D} (h : m s = some (d, ⟨env, c⟩)) (hi : i < env.length) : sSet i m s = some (.nx, ⟨env.set i (some (.val d)), c⟩) := by
  unfold sSet sAsg
  rw [bnd_eq h]
  have : gN i d ⟨env, c⟩ = some ((), ⟨env.set i (some (.val d)), c⟩) := by unfold gN; rw [if_pos hi]
  rw [bnd_eq this]
  rfl
theorem own_eq {i : Nat} {m : M (List D)} {s : S} {env : List (Option Sl)} {c : Src} {d : List D} (h : m s = some (d, ⟨env, c⟩)) (hi : i < env.length) : sOwn i m s = some (.nx, ⟨env.set i (some (.own d)), c⟩) := by
  unfold sOwn
  rw [bnd_eq h]
  have : oN i d ⟨env, c⟩ = some ((), ⟨env.set i (some (.own d)), c⟩) := by unfold oN; rw [if_pos hi]
  rw [bnd_eq this]
  rfl
theorem fld_eq {i : Nat} {m : M D} {s : S} {env : List (Option Sl)} {c : Src} {z : Int} {g : Src → Int → Src} (h : m s = some (.int z, ⟨env, c⟩)) (hi : env[i]? = some (some (.val .src))) : sFld i g m s = some (.nx, ⟨env, g c z⟩) := by
  unfold sFld
  refine (bnd_eq h).trans ?_
  show (match (D.int z), env[i]? with
    | .int z, some (some (.val .src)) => some (Out.nx, (⟨env, g c z⟩ : S))
    | _, _ => none) = _
  rw [hi]
theorem call_eq {G : List D → Option D} {ms : M (List D)} {s s1 : S} {ds : List D} {d : D} (h : ms s = some (ds, s1)) (h2 : G ds = some d) : eCall G ms s = some (d, s1) := by
  unfold eCall; rw [bnd_eq h]; show lift (G ds) s1 = _; rw [h2]; rfl
theorem cons_eq {m : M D} {ms : M (List D)} {s s1 s2 : S} {d : D} {ds : List D} (h : m s = some (d, s1)) (h2 : ms s1 = some (ds, s2)) : aCons m ms s = some (d :: ds, s2) := by
  unfold aCons; rw [bnd_eq h, bnd_eq h2]; rfl
theorem one_eq {m : M D} {s s1 : S} {d : D} (h : m s = some (d, s1)) : aCons m aNil s = some ([d], s1) := cons_eq h rfl
theorem lst_eq {m : M (List D)} {s s1 : S} {ds : List D} (h : m s = some (ds, s1)) : eLst m s = some (.lst ds, s1) := by unfold eLst; rw [bnd_eq h]; rfl
theorem bin_eq {f : D → D → Option D} {ma mb : M D} {s s1 s2 : S} {x y z : D} (h : ma s = some (x, s1)) (h2 : mb s1 = some (y, s2)) (h3 : f x y = some z) : eBin f ma mb s = some (z, s2) := by
  unfold eBin; rw [bnd_eq h, bnd_eq h2, h3]; rfl
theorem tst_eq {m : M D} {s s1 : S} {b : Bool} (h : m s = some (.bl b, s1)) : tst m s = some (b, s1) := by unfold tst; rw [bnd_eq h]; rfl
theorem tru_eq {m : M D} {s s1 : S} {b : Bool} (h : m s = some (.bl b, s1)) : tru m s = some (b, s1) := by unfold tru; rw [bnd_eq h]; rfl
end
theorem rng_map (n : Nat) : rngL 0 (n : Int) = (List.range n).map fun i => .int ((i : Nat) : Int) := by
  unfold rngL; simp
/-- a loop whose body keeps a state's form -/
theorem for_keep {g : D → M Unit} {b : M Out} {I : S → Prop} : ∀ {ds : List D} {s : S}, I s → (∀ d ∈ ds, ∀ s, I s → ∃ s1 s2, g d s = some ((), s1) ∧ b s1 = some (.nx, s2) ∧ I s2) → ∃ s', forM g b ds s = some (.nx, s') ∧ I s'
  | [], s, h, _ => ⟨s, rfl, h⟩
  | d :: r, s, h, step => by
    obtain ⟨s1, s2, e1, e2, h2⟩ := step d List.mem_cons_self s h
    obtain ⟨s', e3, h3⟩ := for_keep (ds := r) h2 fun d hd => step d (List.mem_cons_of_mem _ hd)
    exact ⟨s', by rw [for_nx e1 e2]; exact e3, h3⟩
end GH

namespace GH

theorem pick_lt (most : Int) (c : Src) (h : most < 2) : S_pick [.src, .int most] c = some (.int 0, c) := by
  refine fnOf_ret (env := [some (.val .src), some (.val (.int most)), none, none, none, none]) ?_
  unfold mPick
  refine seq_ret ?_
  rw [if_tt (s1 := ⟨[some (.val .src), some (.val (.int most)), none, none, none, none], c⟩)]
  · rfl
  · exact tst_eq (bin_eq (f := ltD) (x := .int most) (y := .int 2) rfl rfl (by simp [ltD, h]))
theorem div_ok {a b : Int} (h1 : 2 ≤ b) (h2 : b ≤ 1000000) : fdivD (.int a) (.int b) = some (.int (a.fdiv b)) := by
  show (if L2.CDivN a b then some (D.int (a.fdiv b)) else if L2.CDivW a b then some (D.int (a / b)) else none) = _
  rw [if_pos ⟨by omega, by omega⟩]
theorem mod_ok {a b : Int} (h1 : b ≠ 0) : modD (.int a) (.int b) = some (.int (a.fmod b)) := by
  show (if b ≠ 0 then some (D.int (a.fmod b)) else none) = _
  rw [if_pos h1]
theorem pick_ok (most : Int) (c : Src) (h : 2 ≤ most) (h2 : most ≤ 1000000) : ∃ r c', S_pick [.src, .int most] c = some (.int r, c') ∧ 0 ≤ r ∧ r < most := by
  have h0 : most ≠ 0 := by omega
  have go : ∀ a : Int, 0 ≤ a.fmod most ∧ a.fmod most < most := fun a => ⟨Int.fmod_nonneg_of_pos a (by omega), Int.fmod_lt_of_pos a (by omega)⟩
  let e0 : List (Option Sl) := [some (.val .src), some (.val (.int most)), none, none, none, none]
  let s1 := drain c
  have start : ∀ {d c'} {env : List (Option Sl)}, (sSeq (sIf (tst (eBin gtD (eVar 3) (eC (.int 1)))) (sSeq (sFld 0 (fun s z => { s with left := z }) (eBin fdivD (eVar 3) (eVar 1))) (sRet (eBin modD (eCall intG (aCons (eVar 3) aNil)) (eVar 1)))) sNx)
      (sSeq (sFld 0 (fun s z => { s with turn := z }) (eBin addD (eFld 0 Src.turn) (eC (.int 1))))
      (sSeq (sSet 4 (eFld 0 Src.turn))
      (sSeq (sSet 5 (eBin modD (eCall intG (aCons (eBin addD (eFld 0 Src.mixed) (eBin mulD (eVar 4) (eC (.int 104729)))) aNil)) (eC (.int 998244353))))
      (sSeq (sSet 5 (eBin modD (eCall intG (aCons (eBin addD (eBin mulD (eVar 5) (eVar 5)) (eBin mulD (eVar 4) (eC (.int 17)))) aNil)) (eC (.int 2147483647))))
      (sRet (eBin modD (eCall intG (aCons (eBin fdivD (eVar 5) (eC (.int 16))) aNil)) (eVar 1)))))))) ⟨e0.set 3 (some (.val (.int s1.left))), s1⟩ = some (.ret d, ⟨env, c'⟩) → S_pick [.src, .int most] c = some (d, c') := fun {d c' env} hh => by
    refine fnOf_ret (env := env) ?_
    unfold mPick
    rw [seq_nx (s1 := ⟨e0, c⟩)]
    · show sSeq _ _ ⟨e0, s1⟩ = _
      rw [seq_nx (s1 := ⟨e0.set 3 (some (.val (.int s1.left))), s1⟩) rfl]
      exact hh
    · rw [if_ff (s1 := ⟨e0, c⟩)]
      · rfl
      · exact tst_eq (bin_eq (f := ltD) (x := .int most) (y := .int 2) (by rfl) (by rfl) (by simp [ltD]; omega))
  by_cases hl : 1 < s1.left
  · refine ⟨s1.left.fmod most, { s1 with left := s1.left.fdiv most }, start (env := e0.set 3 (some (.val (.int s1.left)))) ?_, go _⟩
    refine seq_ret ?_
    rw [if_tt (s1 := ⟨e0.set 3 (some (.val (.int s1.left))), s1⟩) (tst_eq (bin_eq (f := gtD) (x := .int s1.left) (y := .int 1) (by rfl) (by rfl) (by simp [gtD, hl])))]
    rw [seq_nx (s1 := ⟨e0.set 3 (some (.val (.int s1.left))), { s1 with left := s1.left.fdiv most }⟩)]
    · exact ret_eq (bin_eq (f := modD) (x := .int s1.left) (y := .int most) (by rfl) (by rfl) (mod_ok h0))
    · exact fld_eq (bin_eq (f := fdivD) (x := .int s1.left) (y := .int most) (by rfl) (by rfl) (div_ok h h2)) rfl
  · let t : Int := s1.turn + 1
    let c2 : Src := { s1 with turn := t }
    let a : Int := (s1.mixed + t * 104729).fmod 998244353
    let b : Int := (a * a + t * 17).fmod 2147483647
    have ha : 0 ≤ a ∧ a < 998244353 := ⟨Int.fmod_nonneg_of_pos _ (by decide), Int.fmod_lt_of_pos _ (by decide)⟩
    have m1 : ∀ x y : Int, -(2 ^ 64) < y → y < 2 ^ 64 → mulD (.int x) (.int y) = some (.int (x * y)) := fun x y h1 h2 => by
      show (if L2.CMul x y then some (D.int (x * y)) else if L2.CMulW x y then some (D.int (x * y)) else none) = _
      rw [if_pos (.inr ⟨h1, h2⟩)]
    refine ⟨(b.fdiv 16).fmod most, c2, start (env := ((e0.set 3 (some (.val (.int s1.left)))).set 4 (some (.val (.int t)))).set 5 (some (.val (.int b)))) ?_, go _⟩
    rw [seq_nx (s1 := ⟨e0.set 3 (some (.val (.int s1.left))), s1⟩)]
    · rw [seq_nx (s1 := ⟨e0.set 3 (some (.val (.int s1.left))), c2⟩) rfl]
      rw [seq_nx (s1 := ⟨(e0.set 3 (some (.val (.int s1.left)))).set 4 (some (.val (.int t))), c2⟩) rfl]
      rw [seq_nx (s1 := ⟨((e0.set 3 (some (.val (.int s1.left)))).set 4 (some (.val (.int t)))).set 5 (some (.val (.int a))), c2⟩)]
      · rw [seq_nx (s1 := ⟨((e0.set 3 (some (.val (.int s1.left)))).set 4 (some (.val (.int t)))).set 5 (some (.val (.int b))), c2⟩)]
        · refine ret_eq (bin_eq (f := modD) (x := .int (b.fdiv 16)) (y := .int most) (call_eq (ds := [.int (b.fdiv 16)]) (one_eq (bin_eq (f := fdivD) (x := .int b) (y := .int 16) (by rfl) (by rfl) (div_ok (by decide) (by decide)))) (by rfl)) (by rfl) (mod_ok h0))
        · refine (set_eq (c := c2) (env := ((e0.set 3 (some (.val (.int s1.left)))).set 4 (some (.val (.int t)))).set 5 (some (.val (.int a)))) (bin_eq (f := modD) (x := .int (a * a + t * 17)) (y := .int 2147483647) (call_eq (ds := [.int (a * a + t * 17)]) (one_eq (bin_eq (f := addD) (s1 := ⟨((e0.set 3 (some (.val (.int s1.left)))).set 4 (some (.val (.int t)))).set 5 (some (.val (.int a))), c2⟩) (x := .int (a * a)) (y := .int (t * 17)) ?_ ?_ (by rfl))) (by rfl)) (by rfl) (mod_ok (by decide))) (by show 5 < 6; decide)).trans (by rfl)
          · exact bin_eq (f := mulD) (x := .int a) (y := .int a) (by rfl) (by rfl) (m1 _ _ (by omega) (by omega))
          · exact bin_eq (f := mulD) (x := .int t) (y := .int 17) (by rfl) (by rfl) (m1 _ _ (by decide) (by decide))
      · refine set_eq (bin_eq (f := modD) (x := .int (s1.mixed + t * 104729)) (y := .int 998244353) (call_eq (ds := [.int (s1.mixed + t * 104729)]) (one_eq (bin_eq (f := addD) (x := .int s1.mixed) (y := .int (t * 104729)) (by rfl) ?_ (by rfl))) (by rfl)) (by rfl) (mod_ok (by decide))) (by show 5 < 6; decide)
        exact bin_eq (f := mulD) (x := .int t) (y := .int 104729) (by rfl) (by rfl) (m1 _ _ (by decide) (by decide))
    · rw [if_ff (s1 := ⟨e0.set 3 (some (.val (.int s1.left))), s1⟩) (tst_eq (bin_eq (f := gtD) (x := .int s1.left) (y := .int 1) (by rfl) (by rfl) (by simp [gtD]; omega)))]
      rfl
/-- a draw below most -/
theorem pick_any (most : Int) (c : Src) (h1 : 1 ≤ most) (h2 : most ≤ 1000000) : ∃ r c', S_pick [.src, .int most] c = some (.int r, c') ∧ 0 ≤ r ∧ r < most := by
  by_cases h : most < 2
  · exact ⟨0, c, pick_lt most c h, by omega, by omega⟩
  · exact pick_ok most c (by omega) h2
end GH

namespace GH
open PySem (PyData)

mutual
/-- ints, texts, None, and what is made of them -/
def D.nice : D → Bool
  | .non => true
  | .int _ => true
  | .str s => PyData.strOk s
  | .tup ds => D.niceAll ds
  | .lst ds => D.niceAll ds
  | _ => false
def D.niceAll : List D → Bool
  | [] => true
  | d :: ds => d.nice && D.niceAll ds
end
mutual
theorem D.nice_can : ∀ d : D, d.nice = true → d.py.canLay0 = true
  | .non, _ => by simp [D.py, PyData.canLay0]
  | .int _, _ => by simp [D.py, PyData.canLay0]
  | .str s, h => by simpa [D.nice, D.py, PyData.canLay0] using h
  | .tup ds, h => by
    simp only [D.py, PyData.canLay0]
    exact D.niceAll_can ds (by simpa [D.nice] using h)
  | .lst ds, h => by
    simp only [D.py, PyData.canLay0]
    exact D.niceAll_can ds (by simpa [D.nice] using h)
  | .bl _, h => by simp [D.nice] at h
  | .rng _ _, h => by simp [D.nice] at h
  | .src, h => by simp [D.nice] at h
  | .dct _ _, h => by simp [D.nice] at h
  | .dtt _ _, h => by simp [D.nice] at h
theorem D.niceAll_can : ∀ ds : List D, D.niceAll ds = true → PyData.canLayAll0 (D.pys ds) = true
  | [], _ => by simp [D.pys, PyData.canLayAll0]
  | d :: ds, h => by
    simp only [D.niceAll, Bool.and_eq_true] at h
    simp only [D.pys, PyData.canLayAll0, Bool.and_eq_true]
    exact ⟨D.nice_can d h.1, D.niceAll_can ds h.2⟩
end
mutual
theorem D.eqv_nice : ∀ a b : D, a.nice = true → b.nice = true → (PyData.eqv a.py b.py = true ↔ a = b)
  | .non, b, _, hb => by cases b <;> simp [D.nice] at hb <;> simp [D.py, PyData.eqv]
  | .int i, b, _, hb => by cases b <;> simp [D.nice] at hb <;> simp [D.py, PyData.eqv]
  | .str i, b, _, hb => by cases b <;> simp [D.nice] at hb <;> simp [D.py, PyData.eqv]
  | .tup ds, b, ha, hb => by
    cases b <;> simp only [D.nice] at hb <;> try (simp [D.py, PyData.eqv]; done)
    · simp only [D.py, PyData.eqv, D.tup.injEq]
      exact D.eqvAll_nice ds _ (by simpa [D.nice] using ha) hb
    all_goals cases hb
  | .lst ds, b, ha, hb => by
    cases b <;> simp only [D.nice] at hb <;> try (simp [D.py, PyData.eqv]; done)
    · simp only [D.py, PyData.eqv, D.lst.injEq]
      exact D.eqvAll_nice ds _ (by simpa [D.nice] using ha) hb
    all_goals cases hb
  | .bl _, _, h, _ => by simp [D.nice] at h
  | .rng _ _, _, h, _ => by simp [D.nice] at h
  | .src, _, h, _ => by simp [D.nice] at h
  | .dct _ _, _, h, _ => by simp [D.nice] at h
  | .dtt _ _, _, h, _ => by simp [D.nice] at h
theorem D.eqvAll_nice : ∀ a b : List D, D.niceAll a = true → D.niceAll b = true → (PyData.eqvAll (D.pys a) (D.pys b) = true ↔ a = b)
  | [], b, _, _ => by cases b <;> simp [D.pys, PyData.eqvAll]
  | x :: a, [], _, _ => by simp [D.pys, PyData.eqvAll]
  | x :: a, y :: b, ha, hb => by
    simp only [D.niceAll, Bool.and_eq_true] at ha hb
    simp only [D.pys, PyData.eqvAll, Bool.and_eq_true, List.cons.injEq]
    rw [D.eqv_nice x y ha.1 hb.1, D.eqvAll_nice a b ha.2 hb.2]
end
/-- a tree that == takes -/
def D.ok (d : D) : Prop := d.nice = true ∧ d.py.depth ≤ 64
theorem D.ok.shaped {d : D} (h : d.ok) : PySem.SeqAt.shaped d.py = true := by
  unfold PySem.SeqAt.shaped
  rw [Bool.and_eq_true]
  exact ⟨D.nice_can d h.1, decide_eq_true h.2⟩
theorem eqD_same {a : D} (h : a.ok) : eqD a a = some (.bl true) := by
  unfold eqD
  rw [if_pos ⟨h.shaped, h.shaped⟩, (D.eqv_nice a a h.1 h.1).mpr rfl]
theorem neD_same {a : D} (h : a.ok) : neD a a = some (.bl false) := by
  unfold neD
  rw [if_pos ⟨h.shaped, h.shaped⟩, (D.eqv_nice a a h.1 h.1).mpr rfl]
  rfl
theorem eqD_iff {a b : D} (h : a.ok) (h2 : b.ok) {p : Prop} [Decidable p] (hp : a = b ↔ p) : eqD a b = some (.bl (decide p)) := by
  unfold eqD
  rw [if_pos ⟨h.shaped, h2.shaped⟩]
  have := D.eqv_nice a b h.1 h2.1
  by_cases q : p
  · rw [this.mpr (hp.mpr q), decide_eq_true q]
  · rw [decide_eq_false q]
    cases e : PyData.eqv a.py b.py with
    | false => rfl
    | true => exact absurd (hp.mp (this.mp e)) q
theorem neD_iff {a b : D} (h : a.ok) (h2 : b.ok) {p : Prop} [Decidable p] (hp : a = b ↔ p) : neD a b = some (.bl (!decide p)) := by
  have := eqD_iff h h2 hp
  unfold eqD at this
  unfold neD
  rw [if_pos ⟨h.shaped, h2.shaped⟩] at this ⊢
  have e := Option.some.inj this
  have e : PyData.eqv a.py b.py = decide p := by injection e
  rw [e]
theorem D.ok_int (i : Int) : (D.int i).ok := ⟨rfl, by simp [D.py, PyData.depth]⟩
theorem D.ok_non : D.non.ok := ⟨rfl, by simp [D.py, PyData.depth]⟩
theorem niceAll_of : ∀ {ds : List D}, (∀ d ∈ ds, d.nice = true) → D.niceAll ds = true
  | [], _ => by simp [D.niceAll]
  | d :: ds, h => by
    simp only [D.niceAll, Bool.and_eq_true]
    exact ⟨h d List.mem_cons_self, niceAll_of fun x hx => h x (List.mem_cons_of_mem _ hx)⟩
theorem depthAll_of {n : Nat} : ∀ {ds : List D}, (∀ d ∈ ds, d.py.depth ≤ n) → PyData.depthAll (D.pys ds) ≤ n
  | [], _ => by simp [D.pys, PyData.depthAll]
  | d :: ds, h => by
    simp only [D.pys, PyData.depthAll]
    exact Nat.max_le.mpr ⟨h d List.mem_cons_self, depthAll_of fun x hx => h x (List.mem_cons_of_mem _ hx)⟩
/-- .. of a depth -/
def D.okN (n : Nat) (d : D) : Prop := d.nice = true ∧ d.py.depth ≤ n
theorem D.okN.ok {n : Nat} {d : D} (h : d.okN n) (hn : n ≤ 64 := by decide) : d.ok := ⟨h.1, Nat.le_trans h.2 hn⟩
theorem D.okN_int {n : Nat} (i : Int) : (D.int i).okN n := ⟨rfl, by simp [D.py, PyData.depth]⟩
theorem D.okN_tup {n : Nat} {ds : List D} (h : ∀ d ∈ ds, d.okN n) : (D.tup ds).okN (n + 1) :=
  ⟨by simp only [D.nice]; exact niceAll_of fun d hd => (h d hd).1, by simp only [D.py, PyData.depth]; exact Nat.succ_le_succ (depthAll_of fun d hd => (h d hd).2)⟩
theorem D.okN_lst {n : Nat} {ds : List D} (h : ∀ d ∈ ds, d.okN n) : (D.lst ds).okN (n + 1) :=
  ⟨by simp only [D.nice]; exact niceAll_of fun d hd => (h d hd).1, by simp only [D.py, PyData.depth]; exact Nat.succ_le_succ (depthAll_of fun d hd => (h d hd).2)⟩
theorem eqD_int (i j : Int) : eqD (.int i) (.int j) = some (.bl (decide (i = j))) := eqD_iff (D.ok_int i) (D.ok_int j) ⟨fun h => by injection h, fun h => by rw [h]⟩
theorem neD_int (i j : Int) : neD (.int i) (.int j) = some (.bl (!decide (i = j))) := neD_iff (D.ok_int i) (D.ok_int j) ⟨fun h => by injection h, fun h => by rw [h]⟩

theorem memD_ints (i : Int) : ∀ xs : List Int, memD (.int i) (xs.map D.int) = decide (i ∈ xs)
  | [] => by simp [memD, D.pys]
  | x :: xs => by
    have ih := memD_ints i xs
    unfold memD at ih ⊢
    rw [List.map_cons]
    simp only [D.pys, List.any_cons]
    rw [ih]
    simp only [D.py, PyData.eqv]
    by_cases h : i = x
    · subst h; simp
    · have : ¬ x = i := fun z => h z.symm
      simp [h, this]
theorem okIn_ints (i : Int) (xs : List Int) : okIn (.int i) (xs.map D.int) := by
  have h : (D.lst (xs.map D.int)).okN 1 := D.okN_lst (n := 0) fun d hd => by
    obtain ⟨x, _, rfl⟩ := List.mem_map.mp hd
    exact D.okN_int x
  refine ⟨(D.ok_int i).shaped, by simpa only [D.py] using h.ok.shaped, ?_⟩
  have := D.nice_can _ h.1
  simpa only [D.py, PyData.canLay0] using this

theorem perm_map_inv {α : Type} {f : α → D} : ∀ {l l' : List D}, l.Perm l' → ∀ xs : List α, l' = xs.map f → ∃ ys : List α, ys.Perm xs ∧ l = ys.map f := by
  intro l l' h
  induction h with
  | nil => intro xs e; exact ⟨xs, .refl _, e⟩
  | @cons a l1 l2 h ih =>
    intro xs e
    cases xs with
    | nil => cases e
    | cons x xs =>
      rw [List.map_cons] at e
      cases e
      obtain ⟨ys, p, e2⟩ := ih xs rfl
      exact ⟨x :: ys, p.cons x, by rw [e2, List.map_cons]⟩
  | swap a b l =>
    intro xs e
    match xs, e with
    | x :: y :: xs, e =>
      rw [List.map_cons, List.map_cons] at e
      injection e with e1 e2
      injection e2 with e2 e3
      exact ⟨y :: x :: xs, List.Perm.swap x y xs, by rw [List.map_cons, List.map_cons, ← e1, ← e2, ← e3]⟩
  | trans _ _ ih1 ih2 =>
    intro xs e
    obtain ⟨ys, p, e1⟩ := ih2 xs e
    obtain ⟨zs, p2, e2⟩ := ih1 ys e1
    exact ⟨zs, p2.trans p, e2⟩
/-- two tuples of ints, each not empty -/
theorem alike_ints (a b : List Int) : PySem.W.alike (D.tup (a.map D.int)).py (D.tup (b.map D.int)).py = true := by
  simp only [D.py, PySem.W.alike]
  induction a generalizing b with
  | nil => simp [D.pys, PySem.W.alikeAll]
  | cons x a ih =>
    cases b with
    | nil => simp [D.pys, PySem.W.alikeAll]
    | cons y b =>
      rw [List.map_cons, List.map_cons]
      simp only [D.pys, PySem.W.alikeAll, D.py, PySem.W.alike, Bool.true_and]
      exact ih b
theorem okSort_ints (vs : List (List Int)) (h : ∀ v ∈ vs, v ≠ []) : okSort (D.pys (vs.map fun v => D.tup (v.map D.int))) = true := by
  have mem : ∀ p ∈ D.pys (vs.map fun v => D.tup (v.map D.int)), ∃ v ∈ vs, p = (D.tup (v.map D.int)).py := fun p hp => by
    rw [pys_map, List.map_map] at hp
    obtain ⟨v, hv, rfl⟩ := List.mem_map.mp hp
    exact ⟨v, hv, rfl⟩
  have okt : ∀ v : List Int, (D.tup (v.map D.int)).okN 1 := fun v => D.okN_tup (n := 0) fun d hd => by
    obtain ⟨x, _, rfl⟩ := List.mem_map.mp hd
    exact D.okN_int x
  unfold okSort
  simp only [Bool.and_eq_true, Bool.or_eq_true]
  refine ⟨⟨⟨List.all_eq_true.mpr fun a ha => List.all_eq_true.mpr fun b hb => ?_, .inl (List.all_eq_true.mpr fun a ha => ?_)⟩, List.all_eq_true.mpr fun a ha => ?_⟩, ?_⟩
  · obtain ⟨v, _, rfl⟩ := mem a ha
    obtain ⟨u, _, rfl⟩ := mem b hb
    exact alike_ints v u
  · obtain ⟨v, hv, rfl⟩ := mem a ha
    cases v with
    | nil => exact absurd rfl (h _ hv)
    | cons x r => simp [D.py, D.pys]
  · obtain ⟨v, hv, rfl⟩ := mem a ha
    exact decide_eq_true (Nat.le_trans (okt v).2 (by decide))
  · exact D.niceAll_can _ (niceAll_of fun d hd => by
      obtain ⟨v, _, rfl⟩ := List.mem_map.mp hd
      exact (okt v).1)
theorem srt_ints (vs : List (List Int)) (h : ∀ v ∈ vs, v ≠ []) (hl : vs.length ≤ 100000) : ∃ us : List (List Int), us.Perm vs ∧ srtG [.lst (vs.map fun v => D.tup (v.map D.int))] = some (us.map fun v => D.tup (v.map D.int)) := by
  obtain ⟨us, p, e⟩ := perm_map_inv (List.mergeSort_perm (vs.map fun v => D.tup (v.map D.int)) (PySem.W.dataLe false D.py)) vs rfl
  refine ⟨us, p, ?_⟩
  show (if okSort (D.pys (vs.map fun v => D.tup (v.map D.int))) = true ∧ (vs.map fun v => D.tup (v.map D.int)).length ≤ PySem.sizeLine then some ((vs.map fun v => D.tup (v.map D.int)).mergeSort (PySem.W.dataLe false D.py)) else none) = _
  rw [if_pos ⟨okSort_ints vs h, sz _ (by simpa using hl)⟩, e]

theorem wipeE_sub {env : List (Option Sl)} {us vs : List Nat} (h : ∀ u ∈ us, u ∈ vs) : wipeE (wipeE env us) vs = wipeE env vs := by
  refine List.ext_getElem? fun i => ?_
  by_cases hi : i ∈ vs
  · rw [wipeE_at hi, wipeE_at hi]
    by_cases hu : i ∈ us
    · rw [wipeE_at hu]; cases env[i]? <;> rfl
    · rw [wipeE_get hu]
  · rw [wipeE_get hi, wipeE_get hi, wipeE_get fun z => hi (h i z)]
theorem outF_map {α β : Type} {vs vs1 : List Nat} {g g1 : D → M Unit} {c1 : M Bool} {el : M D} {it1 : M (List D)} {env : List (Option Sl)} {enc : α → D} {enc1 : β → D} {f : α → β → D} {ys : List β} {src : Src} (sub : ∀ i ∈ vs1, i ∈ vs) : ∀ {xs : List α} {env0 : List (Option Sl)}, wipeE env0 vs = wipeE env vs →
    (∀ x ∈ xs, ∃ env1, g (enc x) ⟨wipeE env vs, src⟩ = some ((), ⟨env1, src⟩) ∧ wipeE env1 vs = wipeE env vs ∧ it1 ⟨env1, src⟩ = some (ys.map enc1, ⟨env1, src⟩) ∧
      ∀ y ∈ ys, ∃ env2, turnC g1 c1 el (enc1 y) ⟨wipeE env1 vs1, src⟩ = some (some (f x y), ⟨env2, src⟩) ∧ wipeE env2 vs1 = wipeE env1 vs1) →
    ∃ env2, outF vs (cOut vs vs1 g (ret true) it1 g1 c1 el) (xs.map enc) ⟨env0, src⟩ = some (xs.flatMap fun x => ys.map (f x), ⟨env2, src⟩) ∧ wipeE env2 vs = wipeE env vs
  | [], env0, h, _ => ⟨env0, rfl, h⟩
  | x :: r, env0, h, step => by
    obtain ⟨env1, e1, w1, i1, t1⟩ := step x List.mem_cons_self
    obtain ⟨envE, eE, wE⟩ := compF_pure (vs := vs1) (g := g1) (c := c1) (el := el) (env := env1) (enc := enc1) (f := fun y => some (f x y)) (src := src) (xs := ys) (env0 := env1) rfl t1
    have eE2 : (ys.filterMap fun y => some (f x y)) = ys.map (f x) := by
      clear t1 i1 eE
      induction ys with
      | nil => rfl
      | cons y r ih => rw [List.filterMap_cons, List.map_cons]; simp
    rw [eE2] at eE
    have wE2 : wipeE envE vs = wipeE env vs := by rw [← wipeE_sub (env := envE) sub, wE, wipeE_sub sub, w1]
    obtain ⟨env2, e2, w2⟩ := outF_map sub (xs := r) (env0 := envE) wE2 fun x hx => step x (List.mem_cons_of_mem _ hx)
    refine ⟨env2, ?_, w2⟩
    have hc : cOut vs vs1 g (ret true) it1 g1 c1 el (enc x) ⟨env0, src⟩ = some (ys.map (f x), ⟨envE, src⟩) := by
      show bnd (g (enc x)) _ ⟨wipeE env0 vs, src⟩ = _
      rw [h, bnd_eq e1, bnd_eq (a := true) (s1 := ⟨env1, src⟩) rfl, if_pos rfl, bnd_eq i1]
      exact eE
    show bnd (cOut vs vs1 g (ret true) it1 g1 c1 el (enc x)) _ _ = _
    rw [bnd_eq hc, bnd_eq e2]
    rfl
theorem comp2_map {α β : Type} {vs vs1 : List Nat} {g g1 : D → M Unit} {c1 : M Bool} {el : M D} {it it1 : M (List D)} {env : List (Option Sl)} {enc : α → D} {enc1 : β → D} {f : α → β → D} {xs : List α} {ys : List β} {src src1 : Src} (sub : ∀ i ∈ vs1, i ∈ vs)
    (hit : it ⟨env, src⟩ = some (xs.map enc, ⟨env, src1⟩)) (hl : (xs.flatMap fun x => ys.map (f x)).length ≤ 100000) (cl : cleanE env vs)
    (step : ∀ x ∈ xs, ∃ env1, g (enc x) ⟨wipeE env vs, src1⟩ = some ((), ⟨env1, src1⟩) ∧ wipeE env1 vs = wipeE env vs ∧ it1 ⟨env1, src1⟩ = some (ys.map enc1, ⟨env1, src1⟩) ∧
      ∀ y ∈ ys, ∃ env2, turnC g1 c1 el (enc1 y) ⟨wipeE env1 vs1, src1⟩ = some (some (f x y), ⟨env2, src1⟩) ∧ wipeE env2 vs1 = wipeE env1 vs1) :
    eComp2 vs vs1 g (ret true) it1 g1 c1 el it ⟨env, src⟩ = some (xs.flatMap fun x => ys.map (f x), ⟨env, src1⟩) := by
  obtain ⟨env2, h3, h4⟩ := outF_map sub rfl step
  unfold eComp2
  refine (bnd_eq hit).trans ?_
  show (match outF vs (cOut vs vs1 g (ret true) it1 g1 c1 el) (xs.map enc) ⟨env, src1⟩ with
    | some (ys, sn) => if ys.length ≤ PySem.sizeLine then some (ys, { sn with env := restE env sn.env vs }) else none
    | none => none) = _
  rw [h3]
  show (if (xs.flatMap fun x => ys.map (f x)).length ≤ PySem.sizeLine then some (xs.flatMap fun x => ys.map (f x), (⟨restE env env2 vs, src1⟩ : S)) else none) = _
  rw [if_pos (sz _ hl), rest_clean h4 cl]
theorem enum_range (ds : List D) : enumF 0 ds = (List.range ds.length).map fun i => D.tup [.int ((i : Nat) : Int), ds.getD i .non] := by
  refine List.ext_getElem? fun i => ?_
  rw [enumF_get, List.getElem?_map]
  by_cases h : i < ds.length
  · rw [List.getElem?_range h, List.getElem?_eq_getElem h]
    simp [List.getD_eq_getElem?_getD, List.getElem?_eq_getElem h]
  · rw [List.getElem?_eq_none (by omega), List.getElem?_eq_none (by simpa using h)]
    rfl
end GH

noncomputable section
namespace GW
open PySem PySem.Spec PyProof.Rows L2 GH

def top (i : Nat) : Stmt := PySem.Challenge.pw_greenheld_k44_whole_waves_both_ways.main.body.getD i (.Pass ⟨0, 0, 0, 0⟩)
abbrev FP (K : PySem.W.Frag) (x : Str) (st : Stmt) (f : Addr) (fd : FuncData) : Prop := FunD K x x (defArgs st) (defBody st) (defScope st) [] [] f fd
abbrev st_all_offsets : Stmt := top 1
abbrev st_arrivals : Stmt := top 3
abbrev st_passes : Stmt := top 4
abbrev st_band : Stmt := top 5
abbrev st_band_bound : Stmt := top 6
abbrev st_offsets_of_line : Stmt := top 7
abbrev st_back_line : Stmt := top 8
abbrev st_both_bands : Stmt := top 9
abbrev st_line_offsets : Stmt := top 10
abbrev st_best_both : Stmt := top 11
abbrev st_full_both : Stmt := top 12
abbrev st_full_paper : Stmt := top 13
abbrev st__law_open_cells : Stmt := top 15
abbrev st__law_pick : Stmt := top 16
abbrev st__law_any_order : Stmt := top 17
abbrev st__law_rest : Stmt := top 18
abbrev st__law_rows_below : Stmt := top 19
abbrev st__law_line_ticks : Stmt := top 20
abbrev st__law_band : Stmt := top 21
abbrev st__law_back_line : Stmt := top 22
abbrev st__law_draw_line : Stmt := top 23
abbrev st__law_line_offsets : Stmt := top 24
abbrev st__law_paper : Stmt := top 25
abbrev st__law_fitting_backs : Stmt := top 26
abbrev st_law : Stmt := top 27
theorem sc_all_offsets : FnScope ["free", "L", "found", "_", "row", "offset"] ["free", "L"] (defScope st_all_offsets) := ⟨rfl, rfl, rfl, by decide +kernel, rfl, by decide +kernel, by decide +kernel⟩
def m_all_offsets : M Out :=
 (sSeq (sSet 2 (eLst (lDisp (aCons (eTup aNil) aNil))))
 (sSeq (sFor (iRg1 (eVar 0)) (gN 3)
 (sSet 2 (eLst (eComp2 [4, 5] [5] (gN 4) (ret true) (iRg1 (eVar 1)) (gN 5) (ret true) (eBin addD (eVar 4) (eTup (aCons (eVar 5) aNil))) (iSeq (eVar 2))))))
 (sRet (eVar 2))))
def S_all_offsets : FnSem := fnOf 6 m_all_offsets
theorem w_all_offsets {P : Program} {w : World} {K : PySem.W.Frag} {mg : Str → Option Value} {base : Heap} {f : Addr} {fd : FuncData} (F : FP K "all_offsets" st_all_offsets f fd) (hm : mg "all_offsets" = some (.ref f)) (h_range : mg "range" = none) : Fn P w K mg base 1 "all_offsets" 2 S_all_offsets := by
  have sc := sc_all_offsets
  refine fn_body (k := 0) (N := ["free", "L", "found", "_", "row", "offset"]) (m := m_all_offsets) F hm (F.bindsN (ps := ["free", "L"]) fun _ _ _ _ _ _ us hl => match us, hl with | [_, _], _ => rfl) sc (by decide) fun cdv A outer s H hr => ?_
  have hu := hr.u64
  have hv := hr.u65
  unfold m_all_offsets
  exact (ss_cons (s_set sc.nd rfl (by first | exact Or.inl rfl | exact Or.inr rfl) (s_ofL (l_dsp (a_cons (s_tup a_nil) a_nil))))
 (ss_cons (s_for PassesOwn.never rfl (i_rg1 rfl h_range s_v) (g_n sc.nd)
 (ss_one (s_setLc2 (own := [("row", 4), ("offset", 5)]) (vs1 := [5])  rfl rfl rfl ⟨rfl, sc.nd, (blk_of rfl (by kernel_rfl)), by decide, by decide, by decide, fun _ _ _ _ _ => (g_n sc.nd), fun _ _ _ _ _ => f_nil, fun _ _ _ _ _ => (i_rg1 rfl h_range s_v), fun _ _ _ _ _ => (g_n sc.nd), fun _ _ _ _ _ => f_nil, fun _ _ _ _ _ => (s_bin od_add s_v (s_tup (a_cons s_v a_nil)))⟩ (i_seq s_v))))
 (ss_one (s_ret s_v))))
theorem sc_arrivals : FnScope ["line", "start", "found", "tick", "crossing", "time"] ["line", "start"] (defScope st_arrivals) := ⟨rfl, rfl, rfl, by decide +kernel, rfl, by decide +kernel, by decide +kernel⟩
def m_arrivals : M Out :=
 (sSeq (sPar [2, 3] (pOwn (lDisp aNil) (pVal (eVar 1) pNil)))
 (sSeq (sFor (iSeq (eVar 0)) (gT (gCons (gN 4) (gCons (gN 5) gNil)))
 (sSeq (sAug 3 (fun i j => i + j) (eVar 5))
 (sExpr (eApp 2 (eVar 3)))))
 (sRet (eCall tupG (aCons (eFrz 2) aNil)))))
def S_arrivals : FnSem := fnOf 6 m_arrivals
theorem w_arrivals {P : Program} {w : World} {K : PySem.W.Frag} {mg : Str → Option Value} {base : Heap} {f : Addr} {fd : FuncData} (F : FP K "arrivals" st_arrivals f fd) (hm : mg "arrivals" = some (.ref f)) (h_tuple : mg "tuple" = none) : Fn P w K mg base 1 "arrivals" 2 S_arrivals := by
  have sc := sc_arrivals
  refine fn_body (k := 0) (N := ["line", "start", "found", "tick", "crossing", "time"]) (m := m_arrivals) F hm (F.bindsN (ps := ["line", "start"]) fun _ _ _ _ _ _ us hl => match us, hl with | [_, _], _ => rfl) sc (by decide) fun cdv A outer s H hr => ?_
  have hu := hr.u64
  have hv := hr.u65
  unfold m_arrivals
  exact (ss_cons (s_par2 rfl sc.nd rfl rfl (by decide) rfl rfl (p_own (l_dsp a_nil) (p_val s_v p_nil)) rfl)
 (ss_cons (s_for PassesOwn.never rfl (i_seq s_v) (g_tup rfl (gs_cons (g_n sc.nd) (gs_cons (g_n sc.nd) gs_nil)) rfl rfl (gCons_len (gCons_len gNil_len)))
 (ss_cons (s_aug sc.nd rfl (by first | exact Or.inl rfl | exact Or.inr rfl) s_v ip_add)
 (ss_one (s_expr (s_append pv s_v)))))
 (ss_one (s_ret (s_callT c_tup rfl h_tuple (by decide +kernel) (a_cons (s_frz pv) a_nil))))))
theorem sc_passes : FnScope ["line", "greens", "L", "offsets", "start", "crossing", "time", "begin", "length", "tick"] ["line", "greens", "L", "offsets", "start"] (defScope st_passes) := ⟨rfl, rfl, rfl, by decide +kernel, rfl, by decide +kernel, by decide +kernel⟩
def m_passes : M Out :=
 (sSeq (sFor (iZip3 (eVar 0) (eVar 1) (eFn S_arrivals (aCons (eVar 0) (aCons (eVar 4) aNil)))) (gT (gCons (gT (gCons (gN 5) (gCons (gN 6) gNil))) (gCons (gT (gCons (gN 7) (gCons (gN 8) gNil))) (gCons (gN 9) gNil))))
 (sIf (tst (eBin geD (eBin modD (eBin subD (eBin subD (eVar 9) (eBin ixD (eVar 3) (eVar 5))) (eVar 7)) (eVar 2)) (eVar 8)))
 (sRet (eC (.bl false)))
 sNx))
 (sRet (eC (.bl true))))
def S_passes : FnSem := fnOf 10 m_passes
theorem w_passes {P : Program} {w : World} {K : PySem.W.Frag} {mg : Str → Option Value} {base : Heap} {f : Addr} {fd : FuncData} (F : FP K "passes" st_passes f fd) (hm : mg "passes" = some (.ref f)) (h_zip : mg "zip" = none) (F_arrivals : Fn P w K mg base 1 "arrivals" 2 S_arrivals) : Fn P w K mg base 2 "passes" 5 S_passes := by
  have sc := sc_passes
  refine fn_body (k := 1) (N := ["line", "greens", "L", "offsets", "start", "crossing", "time", "begin", "length", "tick"]) (m := m_passes) F hm (F.bindsN (ps := ["line", "greens", "L", "offsets", "start"]) fun _ _ _ _ _ _ us hl => match us, hl with | [_, _, _, _, _], _ => rfl) sc (by decide) fun cdv A outer s H hr => ?_
  have hu := hr.u64
  have hv := hr.u65
  unfold m_passes
  exact (ss_cons (s_for PassesOwn.never rfl (i_zip3 rfl h_zip s_v s_v (s_fn (F_arrivals.mono (by decide)) hr rfl (a_cons s_v (a_cons s_v a_nil)) (aLen_cons (aLen_cons aLen_nil)))) (g_tup rfl (gs_cons (g_tup rfl (gs_cons (g_n sc.nd) (gs_cons (g_n sc.nd) gs_nil)) rfl rfl (gCons_len (gCons_len gNil_len))) (gs_cons (g_tup rfl (gs_cons (g_n sc.nd) (gs_cons (g_n sc.nd) gs_nil)) rfl rfl (gCons_len (gCons_len gNil_len))) (gs_cons (g_n sc.nd) gs_nil))) rfl rfl (gCons_len (gCons_len (gCons_len gNil_len))))
 (ss_one (s_ifS (t_cmp od_ge (s_bin od_mod (s_bin od_sub (s_bin od_sub s_v (s_ix s_v s_v)) s_v) s_v) s_v)
 (ss_one (s_ret s_bl))
 ss_nil)))
 (ss_one (s_ret s_bl)))
theorem sc_band : FnScope ["line", "greens", "L", "offsets", "start"] ["line", "greens", "L", "offsets"] (defScope st_band) := ⟨rfl, rfl, rfl, by decide +kernel, rfl, by decide +kernel, by decide +kernel⟩
def m_band : M Out :=
 (sRet (eCall tupG (aCons (eLst (eComp [4] (gN 4) (tru (eFn S_passes (aCons (eVar 0) (aCons (eVar 1) (aCons (eVar 2) (aCons (eVar 3) (aCons (eVar 4) aNil))))))) (eVar 4) (iRg1 (eVar 2)))) aNil)))
def S_band : FnSem := fnOf 5 m_band
theorem w_band {P : Program} {w : World} {K : PySem.W.Frag} {mg : Str → Option Value} {base : Heap} {f : Addr} {fd : FuncData} (F : FP K "band" st_band f fd) (hm : mg "band" = some (.ref f)) (h_range : mg "range" = none) (h_tuple : mg "tuple" = none) (F_passes : Fn P w K mg base 2 "passes" 5 S_passes) : Fn P w K mg base 3 "band" 4 S_band := by
  have sc := sc_band
  refine fn_body (k := 2) (N := ["line", "greens", "L", "offsets", "start"]) (m := m_band) F hm (F.bindsN (ps := ["line", "greens", "L", "offsets"]) fun _ _ _ _ _ _ us hl => match us, hl with | [_, _, _, _], _ => rfl) sc (by decide) fun cdv A outer s H hr => ?_
  have hu := hr.u64
  have hv := hr.u65
  unfold m_band
  exact (ss_one (s_ret (s_callT c_tup rfl h_tuple (by decide +kernel) (a_cons (s_ofL (l_comp (own := [("start", 4)]) ⟨rfl, sc.nd, (blk_of rfl (by kernel_rfl)), by decide, fun _ _ _ _ _ => (g_n sc.nd), fun _ _ _ _ _ => (f_one (t_of (s_fn (F_passes.mono (by decide)) hr rfl (a_cons s_v (a_cons s_v (a_cons s_v (a_cons s_v (a_cons s_v a_nil))))) (aLen_cons (aLen_cons (aLen_cons (aLen_cons (aLen_cons aLen_nil)))))))), fun _ _ _ _ _ => s_v⟩ (i_rg1 rfl h_range s_v))) a_nil))))
theorem sc_band_bound : FnScope ["greens", "begin", "length"] ["greens"] (defScope st_band_bound) := ⟨rfl, rfl, rfl, by decide +kernel, rfl, by decide +kernel, by decide +kernel⟩
def m_band_bound : M Out :=
 (sRet (eCall minG (aCons (eLst (eComp [1, 2] (gT (gCons (gN 1) (gCons (gN 2) gNil))) (ret true) (eVar 2) (iSeq (eVar 0)))) aNil)))
def S_band_bound : FnSem := fnOf 3 m_band_bound
theorem w_band_bound {P : Program} {w : World} {K : PySem.W.Frag} {mg : Str → Option Value} {base : Heap} {f : Addr} {fd : FuncData} (F : FP K "band_bound" st_band_bound f fd) (hm : mg "band_bound" = some (.ref f)) (h_min : mg "min" = none) : Fn P w K mg base 1 "band_bound" 1 S_band_bound := by
  have sc := sc_band_bound
  refine fn_body (k := 0) (N := ["greens", "begin", "length"]) (m := m_band_bound) F hm (F.bindsN (ps := ["greens"]) fun _ _ _ _ _ _ us hl => match us, hl with | [_], _ => rfl) sc (by decide) fun cdv A outer s H hr => ?_
  have hu := hr.u64
  have hv := hr.u65
  unfold m_band_bound
  exact (ss_one (s_ret (s_callB (c_min rfl) rfl h_min (by decide +kernel) (a_cons (s_ofL (l_comp (own := [("begin", 1), ("length", 2)]) ⟨rfl, sc.nd, (blk_of rfl (by kernel_rfl)), by decide, fun _ _ _ _ _ => (g_tup rfl (gs_cons (g_n sc.nd) (gs_cons (g_n sc.nd) gs_nil)) rfl rfl (gCons_len (gCons_len gNil_len))), fun _ _ _ _ _ => f_nil, fun _ _ _ _ _ => s_v⟩ (i_seq s_v))) a_nil))))
theorem sc_offsets_of_line : FnScope ["m", "line", "greens", "L", "found", "crossing", "time", "begin", "length", "tick"] ["m", "line", "greens", "L"] (defScope st_offsets_of_line) := ⟨rfl, rfl, rfl, by decide +kernel, rfl, by decide +kernel, by decide +kernel⟩
def m_offsets_of_line : M Out :=
 (sSeq (sOwn 4 (eComp [5] (gN 5) (ret true) (eC (.int 0)) (iRg1 (eVar 0))))
 (sSeq (sFor (iZip3 (eVar 1) (eVar 2) (eFn S_arrivals (aCons (eVar 1) (aCons (eC (.int 0)) aNil)))) (gT (gCons (gT (gCons (gN 5) (gCons (gN 6) gNil))) (gCons (gT (gCons (gN 7) (gCons (gN 8) gNil))) (gCons (gN 9) gNil))))
 (sSetIx 4 (eBin modD (eBin subD (eBin addD (eBin ixD (eBin ixD (eVar 2) (eC (.int 0))) (eC (.int 0))) (eVar 9)) (eVar 7)) (eVar 3)) (eVar 5)))
 (sRet (eCall tupG (aCons (eFrz 4) aNil)))))
def S_offsets_of_line : FnSem := fnOf 10 m_offsets_of_line
theorem w_offsets_of_line {P : Program} {w : World} {K : PySem.W.Frag} {mg : Str → Option Value} {base : Heap} {f : Addr} {fd : FuncData} (F : FP K "offsets_of_line" st_offsets_of_line f fd) (hm : mg "offsets_of_line" = some (.ref f)) (h_range : mg "range" = none) (h_tuple : mg "tuple" = none) (h_zip : mg "zip" = none) (F_arrivals : Fn P w K mg base 1 "arrivals" 2 S_arrivals) : Fn P w K mg base 2 "offsets_of_line" 4 S_offsets_of_line := by
  have sc := sc_offsets_of_line
  refine fn_body (k := 1) (N := ["m", "line", "greens", "L", "found", "crossing", "time", "begin", "length", "tick"]) (m := m_offsets_of_line) F hm (F.bindsN (ps := ["m", "line", "greens", "L"]) fun _ _ _ _ _ _ us hl => match us, hl with | [_, _, _, _], _ => rfl) sc (by decide) fun cdv A outer s H hr => ?_
  have hu := hr.u64
  have hv := hr.u65
  unfold m_offsets_of_line
  exact (ss_cons (s_ownLc (own := [("crossing", 5)])  rfl rfl rfl ⟨rfl, sc.nd, (blk_of rfl (by kernel_rfl)), by decide, fun _ _ _ _ _ => (g_n sc.nd), fun _ _ _ _ _ => f_nil, fun _ _ _ _ _ => s_int⟩ (i_rg1 rfl h_range s_v))
 (ss_cons (s_for PassesOwn.never rfl (i_zip3 rfl h_zip s_v s_v (s_fn (F_arrivals.mono (by decide)) hr rfl (a_cons s_v (a_cons s_int a_nil)) (aLen_cons (aLen_cons aLen_nil)))) (g_tup rfl (gs_cons (g_tup rfl (gs_cons (g_n sc.nd) (gs_cons (g_n sc.nd) gs_nil)) rfl rfl (gCons_len (gCons_len gNil_len))) (gs_cons (g_tup rfl (gs_cons (g_n sc.nd) (gs_cons (g_n sc.nd) gs_nil)) rfl rfl (gCons_len (gCons_len gNil_len))) (gs_cons (g_n sc.nd) gs_nil))) rfl rfl (gCons_len (gCons_len (gCons_len gNil_len))))
 (ss_one (s_setIx pv s_v (s_bin od_mod (s_bin od_sub (s_bin od_add (s_ix (s_ix s_v s_int) s_int) s_v) s_v) s_v))))
 (ss_one (s_ret (s_callT c_tup rfl h_tuple (by decide +kernel) (a_cons (s_frz pv) a_nil))))))
theorem sc_back_line : FnScope ["line", "times", "crossing", "time", "k"] ["line"] (defScope st_back_line) := ⟨rfl, rfl, rfl, by decide +kernel, rfl, by decide +kernel, by decide +kernel⟩
def m_back_line : M Out :=
 (sSeq (sSet 1 (eBin addD (eLst (lDisp (aCons (eC (.int 0)) aNil))) (eLst (eComp [2, 3] (gT (gCons (gN 2) (gCons (gN 3) gNil))) (ret true) (eVar 3) (iSeq (eUn revD (eVar 0)))))))
 (sRet (eCall tupG (aCons (eLst (eComp [4, 2, 3] (gT (gCons (gN 4) (gCons (gT (gCons (gN 2) (gCons (gN 3) gNil))) gNil))) (ret true) (eTup (aCons (eVar 2) (aCons (eBin ixD (eVar 1) (eVar 4)) aNil))) (iEnum (eUn revD (eVar 0))))) aNil))))
def S_back_line : FnSem := fnOf 5 m_back_line
theorem w_back_line {P : Program} {w : World} {K : PySem.W.Frag} {mg : Str → Option Value} {base : Heap} {f : Addr} {fd : FuncData} (F : FP K "back_line" st_back_line f fd) (hm : mg "back_line" = some (.ref f)) (h_enumerate : mg "enumerate" = none) (h_tuple : mg "tuple" = none) : Fn P w K mg base 1 "back_line" 1 S_back_line := by
  have sc := sc_back_line
  refine fn_body (k := 0) (N := ["line", "times", "crossing", "time", "k"]) (m := m_back_line) F hm (F.bindsN (ps := ["line"]) fun _ _ _ _ _ _ us hl => match us, hl with | [_], _ => rfl) sc (by decide) fun cdv A outer s H hr => ?_
  have hu := hr.u64
  have hv := hr.u65
  unfold m_back_line
  exact (ss_cons (s_set sc.nd rfl (by first | exact Or.inl rfl | exact Or.inr rfl) (s_bin od_add (s_ofL (l_dsp (a_cons s_int a_nil))) (s_ofL (l_comp (own := [("crossing", 2), ("time", 3)]) ⟨rfl, sc.nd, (blk_of rfl (by kernel_rfl)), by decide, fun _ _ _ _ _ => (g_tup rfl (gs_cons (g_n sc.nd) (gs_cons (g_n sc.nd) gs_nil)) rfl rfl (gCons_len (gCons_len gNil_len))), fun _ _ _ _ _ => f_nil, fun _ _ _ _ _ => s_v⟩ (i_seq (s_rev s_v))))))
 (ss_one (s_ret (s_callT c_tup rfl h_tuple (by decide +kernel) (a_cons (s_ofL (l_comp (own := [("k", 4), ("crossing", 2), ("time", 3)]) ⟨rfl, sc.nd, (blk_of rfl (by kernel_rfl)), by decide, fun _ _ _ _ _ => (g_tup rfl (gs_cons (g_n sc.nd) (gs_cons (g_tup rfl (gs_cons (g_n sc.nd) (gs_cons (g_n sc.nd) gs_nil)) rfl rfl (gCons_len (gCons_len gNil_len))) gs_nil)) rfl rfl (gCons_len (gCons_len gNil_len))), fun _ _ _ _ _ => f_nil, fun _ _ _ _ _ => (s_tup (a_cons s_v (a_cons (s_ix s_v s_v) a_nil)))⟩ (i_enum rfl h_enumerate (s_rev s_v)))) a_nil)))))
theorem sc_both_bands : FnScope ["line", "greens", "backs", "L", "offsets"] ["line", "greens", "backs", "L", "offsets"] (defScope st_both_bands) := ⟨rfl, rfl, rfl, by decide +kernel, rfl, by decide +kernel, by decide +kernel⟩
def m_both_bands : M Out :=
 (sRet (eTup (aCons (eCall lenG (aCons (eFn S_band (aCons (eVar 0) (aCons (eVar 1) (aCons (eVar 3) (aCons (eVar 4) aNil))))) aNil)) (aCons (eCall lenG (aCons (eFn S_band (aCons (eFn S_back_line (aCons (eVar 0) aNil)) (aCons (eVar 2) (aCons (eVar 3) (aCons (eVar 4) aNil))))) aNil)) aNil))))
def S_both_bands : FnSem := fnOf 5 m_both_bands
theorem w_both_bands {P : Program} {w : World} {K : PySem.W.Frag} {mg : Str → Option Value} {base : Heap} {f : Addr} {fd : FuncData} (F : FP K "both_bands" st_both_bands f fd) (hm : mg "both_bands" = some (.ref f)) (h_len : mg "len" = none) (F_back_line : Fn P w K mg base 1 "back_line" 1 S_back_line) (F_band : Fn P w K mg base 3 "band" 4 S_band) : Fn P w K mg base 4 "both_bands" 5 S_both_bands := by
  have sc := sc_both_bands
  refine fn_body (k := 3) (N := ["line", "greens", "backs", "L", "offsets"]) (m := m_both_bands) F hm (F.bindsN (ps := ["line", "greens", "backs", "L", "offsets"]) fun _ _ _ _ _ _ us hl => match us, hl with | [_, _, _, _, _], _ => rfl) sc (by decide) fun cdv A outer s H hr => ?_
  have hu := hr.u64
  have hv := hr.u65
  unfold m_both_bands
  exact (ss_one (s_ret (s_tup (a_cons (s_callB c_len rfl h_len (by decide +kernel) (a_cons (s_fn (F_band.mono (by decide)) hr rfl (a_cons s_v (a_cons s_v (a_cons s_v (a_cons s_v a_nil)))) (aLen_cons (aLen_cons (aLen_cons (aLen_cons aLen_nil))))) a_nil)) (a_cons (s_callB c_len rfl h_len (by decide +kernel) (a_cons (s_fn (F_band.mono (by decide)) hr rfl (a_cons (s_fn (F_back_line.mono (by decide)) hr rfl (a_cons s_v a_nil) (aLen_cons aLen_nil)) (a_cons s_v (a_cons s_v (a_cons s_v a_nil)))) (aLen_cons (aLen_cons (aLen_cons (aLen_cons aLen_nil))))) a_nil)) a_nil)))))
theorem sc_line_offsets : FnScope ["m", "line", "L", "free", "found", "row", "offsets", "crossing", "offset", "time"] ["m", "line", "L"] (defScope st_line_offsets) := ⟨rfl, rfl, rfl, by decide +kernel, rfl, by decide +kernel, by decide +kernel⟩
def m_line_offsets : M Out :=
 (sSeq (sPar [3, 4] (pVal (eLst (eComp [7, 9] (gT (gCons (gN 7) (gCons (gN 9) gNil))) (ret true) (eVar 7) (iSeq (eSl (eVar 1) (oAt (eC (.int 1))) oNo)))) (pOwn (lDisp aNil) pNil)))
 (sSeq (sFor (iSeq (eFn S_all_offsets (aCons (eCall lenG (aCons (eVar 3) aNil)) (aCons (eVar 2) aNil)))) (gN 5)
 (sSeq (sOwn 6 (eComp [7] (gN 7) (ret true) (eC (.int 0)) (iRg1 (eVar 0))))
 (sSeq (sFor (iZip2 (eVar 3) (eVar 5)) (gT (gCons (gN 7) (gCons (gN 8) gNil)))
 (sSetIx 6 (eVar 8) (eVar 7)))
 (sExpr (eApp 4 (eCall tupG (aCons (eFrz 6) aNil)))))))
 (sRet (eLst (eCallL srtG (aCons (eFrz 4) aNil))))))
def S_line_offsets : FnSem := fnOf 10 m_line_offsets
theorem w_line_offsets {P : Program} {w : World} {K : PySem.W.Frag} {mg : Str → Option Value} {base : Heap} {f : Addr} {fd : FuncData} (F : FP K "line_offsets" st_line_offsets f fd) (hm : mg "line_offsets" = some (.ref f)) (h_len : mg "len" = none) (h_range : mg "range" = none) (h_sorted : mg "sorted" = none) (h_tuple : mg "tuple" = none) (h_zip : mg "zip" = none) (F_all_offsets : Fn P w K mg base 1 "all_offsets" 2 S_all_offsets) : Fn P w K mg base 2 "line_offsets" 3 S_line_offsets := by
  have sc := sc_line_offsets
  refine fn_body (k := 1) (N := ["m", "line", "L", "free", "found", "row", "offsets", "crossing", "offset", "time"]) (m := m_line_offsets) F hm (F.bindsN (ps := ["m", "line", "L"]) fun _ _ _ _ _ _ us hl => match us, hl with | [_, _, _], _ => rfl) sc (by decide) fun cdv A outer s H hr => ?_
  have hu := hr.u64
  have hv := hr.u65
  unfold m_line_offsets
  exact (ss_cons (s_par2 rfl sc.nd rfl rfl (by decide) rfl rfl (p_val (s_ofL (l_comp (own := [("crossing", 7), ("time", 9)]) ⟨rfl, sc.nd, (blk_of rfl (by kernel_rfl)), by decide, fun _ _ _ _ _ => (g_tup rfl (gs_cons (g_n sc.nd) (gs_cons (g_n sc.nd) gs_nil)) rfl rfl (gCons_len (gCons_len gNil_len))), fun _ _ _ _ _ => f_nil, fun _ _ _ _ _ => s_v⟩ (i_seq (s_slice s_v (o_at s_int) o_no)))) (p_own (l_dsp a_nil) p_nil)) rfl)
 (ss_cons (s_for PassesOwn.never rfl (i_seq (s_fn (F_all_offsets.mono (by decide)) hr rfl (a_cons (s_callB c_len rfl h_len (by decide +kernel) (a_cons s_v a_nil)) (a_cons s_v a_nil)) (aLen_cons (aLen_cons aLen_nil)))) (g_n sc.nd)
 (ss_cons (s_ownLc (own := [("crossing", 7)])  rfl rfl rfl ⟨rfl, sc.nd, (blk_of rfl (by kernel_rfl)), by decide, fun _ _ _ _ _ => (g_n sc.nd), fun _ _ _ _ _ => f_nil, fun _ _ _ _ _ => s_int⟩ (i_rg1 rfl h_range s_v))
 (ss_cons (s_for PassesOwn.never rfl (i_zip2 rfl h_zip s_v s_v) (g_tup rfl (gs_cons (g_n sc.nd) (gs_cons (g_n sc.nd) gs_nil)) rfl rfl (gCons_len (gCons_len gNil_len)))
 (ss_one (s_setIx pv s_v s_v)))
 (ss_one (s_expr (s_append pv (s_callT c_tup rfl h_tuple (by decide +kernel) (a_cons (s_frz pv) a_nil))))))))
 (ss_one (s_ret (s_ofL (l_callB (c_srt hr) rfl h_sorted boot_sorted (a_cons (s_frz pv) a_nil)))))))
theorem sc_best_both : FnScope ["m", "line", "greens", "backs", "L", "best", "offsets", "total"] ["m", "line", "greens", "backs", "L"] (defScope st_best_both) := ⟨rfl, rfl, rfl, by decide +kernel, rfl, by decide +kernel, by decide +kernel⟩
def m_best_both : M Out :=
 (sSeq (sSet 5 (eC .non))
 (sSeq (sFor (iSeq (eFn S_line_offsets (aCons (eVar 0) (aCons (eVar 1) (aCons (eVar 4) aNil))))) (gN 6)
 (sSeq (sSet 7 (eCall sumG (aCons (eFn S_both_bands (aCons (eVar 1) (aCons (eVar 2) (aCons (eVar 3) (aCons (eVar 4) (aCons (eVar 6) aNil)))))) aNil)))
 (sIf (tOr2 (tst (eBin isND (eVar 5) (eC .non))) (tst (eBin gtD (eVar 7) (eBin ixD (eVar 5) (eC (.int 0))))))
 (sSet 5 (eTup (aCons (eVar 7) (aCons (eVar 6) aNil))))
 sNx)))
 (sRet (eVar 5))))
def S_best_both : FnSem := fnOf 8 m_best_both
theorem w_best_both {P : Program} {w : World} {K : PySem.W.Frag} {mg : Str → Option Value} {base : Heap} {f : Addr} {fd : FuncData} (F : FP K "best_both" st_best_both f fd) (hm : mg "best_both" = some (.ref f)) (h_sum : mg "sum" = none) (F_both_bands : Fn P w K mg base 4 "both_bands" 5 S_both_bands) (F_line_offsets : Fn P w K mg base 2 "line_offsets" 3 S_line_offsets) : Fn P w K mg base 5 "best_both" 5 S_best_both := by
  have sc := sc_best_both
  refine fn_body (k := 4) (N := ["m", "line", "greens", "backs", "L", "best", "offsets", "total"]) (m := m_best_both) F hm (F.bindsN (ps := ["m", "line", "greens", "backs", "L"]) fun _ _ _ _ _ _ us hl => match us, hl with | [_, _, _, _, _], _ => rfl) sc (by decide) fun cdv A outer s H hr => ?_
  have hu := hr.u64
  have hv := hr.u65
  unfold m_best_both
  exact (ss_cons (s_set sc.nd rfl (by first | exact Or.inl rfl | exact Or.inr rfl) s_non)
 (ss_cons (s_for PassesOwn.never rfl (i_seq (s_fn (F_line_offsets.mono (by decide)) hr rfl (a_cons s_v (a_cons s_v (a_cons s_v a_nil))) (aLen_cons (aLen_cons (aLen_cons aLen_nil))))) (g_n sc.nd)
 (ss_cons (s_set sc.nd rfl (by first | exact Or.inl rfl | exact Or.inr rfl) (s_callB (c_sum rfl) rfl h_sum (by decide +kernel) (a_cons (s_fn (F_both_bands.mono (by decide)) hr rfl (a_cons s_v (a_cons s_v (a_cons s_v (a_cons s_v (a_cons s_v a_nil))))) (aLen_cons (aLen_cons (aLen_cons (aLen_cons (aLen_cons aLen_nil)))))) a_nil)))
 (ss_one (s_ifS (SW.t (w_or (t_cmp od_isN s_v s_non) (w_or1 (t_cmp od_gt s_v (s_ix s_v s_int)))))
 (ss_one (s_set sc.nd rfl (by first | exact Or.inl rfl | exact Or.inr rfl) (s_tup (a_cons s_v (a_cons s_v a_nil)))))
 ss_nil))))
 (ss_one (s_ret s_v))))
theorem sc_full_both : FnScope ["line", "greens", "backs", "L", "m", "due", "crossing", "time", "offsets"] ["line", "greens", "backs", "L"] (defScope st_full_both) := ⟨rfl, rfl, rfl, by decide +kernel, rfl, by decide +kernel, by decide +kernel⟩
def m_full_both : M Out :=
 (sSeq (sPar [4, 5] (pVal (eBin addD (eCall maxG (aCons (eLst (eComp [6, 7] (gT (gCons (gN 6) (gCons (gN 7) gNil))) (ret true) (eVar 6) (iSeq (eVar 0)))) aNil)) (eC (.int 1))) (pVal (eTup (aCons (eFn S_band_bound (aCons (eVar 1) aNil)) (aCons (eFn S_band_bound (aCons (eVar 2) aNil)) aNil))) pNil)))
 (sRet (eCall anyG (aCons (eLst (eComp [8] (gN 8) (ret true) (eBin eqD (eFn S_both_bands (aCons (eVar 0) (aCons (eVar 1) (aCons (eVar 2) (aCons (eVar 3) (aCons (eVar 8) aNil)))))) (eVar 5)) (iSeq (eFn S_line_offsets (aCons (eVar 4) (aCons (eVar 0) (aCons (eVar 3) aNil))))))) aNil))))
def S_full_both : FnSem := fnOf 9 m_full_both
theorem w_full_both {P : Program} {w : World} {K : PySem.W.Frag} {mg : Str → Option Value} {base : Heap} {f : Addr} {fd : FuncData} (F : FP K "full_both" st_full_both f fd) (hm : mg "full_both" = some (.ref f)) (h_any : mg "any" = none) (h_max : mg "max" = none) (F_band_bound : Fn P w K mg base 1 "band_bound" 1 S_band_bound) (F_both_bands : Fn P w K mg base 4 "both_bands" 5 S_both_bands) (F_line_offsets : Fn P w K mg base 2 "line_offsets" 3 S_line_offsets) : Fn P w K mg base 5 "full_both" 4 S_full_both := by
  have sc := sc_full_both
  refine fn_body (k := 4) (N := ["line", "greens", "backs", "L", "m", "due", "crossing", "time", "offsets"]) (m := m_full_both) F hm (F.bindsN (ps := ["line", "greens", "backs", "L"]) fun _ _ _ _ _ _ us hl => match us, hl with | [_, _, _, _], _ => rfl) sc (by decide) fun cdv A outer s H hr => ?_
  have hu := hr.u64
  have hv := hr.u65
  unfold m_full_both
  exact (ss_cons (s_parT rfl (by decide) (pgs_name sc.nd rfl (by first | exact Or.inl rfl | exact Or.inr rfl) (pgs_name sc.nd rfl (by first | exact Or.inl rfl | exact Or.inr rfl) pgs_none)) (p_val (s_bin od_add (s_callB (c_max rfl) rfl h_max (by decide +kernel) (a_cons (s_ofL (l_comp (own := [("crossing", 6), ("time", 7)]) ⟨rfl, sc.nd, (blk_of rfl (by kernel_rfl)), by decide, fun _ _ _ _ _ => (g_tup rfl (gs_cons (g_n sc.nd) (gs_cons (g_n sc.nd) gs_nil)) rfl rfl (gCons_len (gCons_len gNil_len))), fun _ _ _ _ _ => f_nil, fun _ _ _ _ _ => s_v⟩ (i_seq s_v))) a_nil)) s_int) (p_val (s_tup (a_cons (s_fn (F_band_bound.mono (by decide)) hr rfl (a_cons s_v a_nil) (aLen_cons aLen_nil)) (a_cons (s_fn (F_band_bound.mono (by decide)) hr rfl (a_cons s_v a_nil) (aLen_cons aLen_nil)) a_nil))) p_nil)))
 (ss_one (s_ret (s_callB (c_any rfl) rfl h_any (by decide +kernel) (a_cons (s_ofL (l_comp (own := [("offsets", 8)]) ⟨rfl, sc.nd, (blk_of rfl (by kernel_rfl)), by decide, fun _ _ _ _ _ => (g_n sc.nd), fun _ _ _ _ _ => f_nil, fun _ _ _ _ _ => (s_cmp (od_eq hu) (s_fn (F_both_bands.mono (by decide)) hr rfl (a_cons s_v (a_cons s_v (a_cons s_v (a_cons s_v (a_cons s_v a_nil))))) (aLen_cons (aLen_cons (aLen_cons (aLen_cons (aLen_cons aLen_nil)))))) s_v)⟩ (i_seq (s_fn (F_line_offsets.mono (by decide)) hr rfl (a_cons s_v (a_cons s_v (a_cons s_v a_nil))) (aLen_cons (aLen_cons (aLen_cons aLen_nil))))))) a_nil)))))
theorem sc_full_paper : FnScope ["line", "greens", "backs", "L", "ticks", "k", "here", "rest"] ["line", "greens", "backs", "L"] (defScope st_full_paper) := ⟨rfl, rfl, rfl, by decide +kernel, rfl, by decide +kernel, by decide +kernel⟩
def m_full_paper : M Out :=
 (sSeq (sSet 4 (eFn S_arrivals (aCons (eVar 0) (aCons (eC (.int 0)) aNil))))
 (sSeq (sFor (iRg2 (eC (.int 1)) (eCall lenG (aCons (eVar 0) aNil))) (gN 5)
 (sSeq (sSet 6 (eBin subD (eBin ixD (eBin ixD (eVar 2) (eBin subD (eBin subD (eCall lenG (aCons (eVar 0) aNil)) (eC (.int 1))) (eVar 5))) (eC (.int 0))) (eBin ixD (eBin ixD (eVar 1) (eVar 5)) (eC (.int 0)))))
 (sSeq (sSet 7 (eBin modD (eBin addD (eBin subD (eVar 6) (eBin subD (eBin ixD (eBin ixD (eVar 2) (eBin subD (eCall lenG (aCons (eVar 0) aNil)) (eC (.int 1)))) (eC (.int 0))) (eBin ixD (eBin ixD (eVar 1) (eC (.int 0))) (eC (.int 0))))) (eBin mulD (eC (.int 2)) (eBin subD (eBin ixD (eVar 4) (eVar 5)) (eBin ixD (eVar 4) (eC (.int 0)))))) (eVar 3)))
 (sIf (tst (eBin neD (eVar 7) (eC (.int 0))))
 (sRet (eTup (aCons (eVar 5) (aCons (eVar 7) aNil))))
 sNx))))
 (sRet (eC .non))))
def S_full_paper : FnSem := fnOf 8 m_full_paper
theorem w_full_paper {P : Program} {w : World} {K : PySem.W.Frag} {mg : Str → Option Value} {base : Heap} {f : Addr} {fd : FuncData} (F : FP K "full_paper" st_full_paper f fd) (hm : mg "full_paper" = some (.ref f)) (h_len : mg "len" = none) (h_range : mg "range" = none) (F_arrivals : Fn P w K mg base 1 "arrivals" 2 S_arrivals) : Fn P w K mg base 2 "full_paper" 4 S_full_paper := by
  have sc := sc_full_paper
  refine fn_body (k := 1) (N := ["line", "greens", "backs", "L", "ticks", "k", "here", "rest"]) (m := m_full_paper) F hm (F.bindsN (ps := ["line", "greens", "backs", "L"]) fun _ _ _ _ _ _ us hl => match us, hl with | [_, _, _, _], _ => rfl) sc (by decide) fun cdv A outer s H hr => ?_
  have hu := hr.u64
  have hv := hr.u65
  unfold m_full_paper
  exact (ss_cons (s_set sc.nd rfl (by first | exact Or.inl rfl | exact Or.inr rfl) (s_fn (F_arrivals.mono (by decide)) hr rfl (a_cons s_v (a_cons s_int a_nil)) (aLen_cons (aLen_cons aLen_nil))))
 (ss_cons (s_for PassesOwn.never rfl (i_rg2 rfl h_range s_int (s_callB c_len rfl h_len (by decide +kernel) (a_cons s_v a_nil))) (g_n sc.nd)
 (ss_cons (s_set sc.nd rfl (by first | exact Or.inl rfl | exact Or.inr rfl) (s_bin od_sub (s_ix (s_ix s_v (s_bin od_sub (s_bin od_sub (s_callB c_len rfl h_len (by decide +kernel) (a_cons s_v a_nil)) s_int) s_v)) s_int) (s_ix (s_ix s_v s_v) s_int)))
 (ss_cons (s_set sc.nd rfl (by first | exact Or.inl rfl | exact Or.inr rfl) (s_bin od_mod (s_bin od_add (s_bin od_sub s_v (s_bin od_sub (s_ix (s_ix s_v (s_bin od_sub (s_callB c_len rfl h_len (by decide +kernel) (a_cons s_v a_nil)) s_int)) s_int) (s_ix (s_ix s_v s_int) s_int))) (s_bin od_mul s_int (s_bin od_sub (s_ix s_v s_v) (s_ix s_v s_int)))) s_v))
 (ss_one (s_ifS (t_cmp (od_ne hu) s_v s_int)
 (ss_one (s_ret (s_tup (a_cons s_v (a_cons s_v a_nil)))))
 ss_nil)))))
 (ss_one (s_ret s_non))))
theorem sc__law_open_cells : FnScope ["script", "stirred", "cell", "cells"] ["script"] (defScope st__law_open_cells) := ⟨rfl, rfl, rfl, by decide +kernel, rfl, by decide +kernel, by decide +kernel⟩
theorem w__law_open_cells {k : Nat} {P : Program} {w : World} {K : PySem.W.Frag} {mg : Str → Option Value} {base : Heap} {f : Addr} {fd : FuncData} (F : FP K "_law_open_cells" st__law_open_cells f fd) (hm : mg "_law_open_cells" = some (.ref f)) (h_int : mg "int" = none) (h_abs : mg "abs" = none) : FnW P w K mg base (k + 1) "_law_open_cells" (spOpen K) := by
  have sc := sc__law_open_cells
  refine fn_raw F hm (F.bindsN (ps := ["script"]) fun _ _ _ _ _ _ us hl => match us, hl with | [_], _ => rfl) sc (fun vs H Q h => by obtain ⟨a, ns, rfl, _⟩ := h; rfl) (fun cdv A outer s H hr => ?_) open_pure
  exact pss_cons (ps_set sc.nd rfl (by first | exact Or.inl rfl | exact Or.inr rfl) pe_int)
    (pss_cons (ps_for PassesOwn.never rfl (pi_list pv) (pg_name sc.nd rfl (by first | exact Or.inl rfl | exact Or.inr rfl)) (pss_one (ps_set sc.nd rfl (by first | exact Or.inl rfl | exact Or.inr rfl)
      (pe_op op_modN (pe_callTy call_int1 rfl h_int (by decide +kernel) (pa_cons (pe_op op_add (pe_op op_add (pe_op op_mul pv pe_int) (pe_op op_mul pv pe_int)) pe_int) pa_nil)) pe_int))))
    (pss_cons (ps_setLc (own := [("cell", 2)]) rfl sc.nd rfl rfl rfl (pi_list pv) (blk_of rfl (by kernel_rfl)) (fun _ _ _ _ _ => pg_name sc.nd rfl (by first | exact Or.inl rfl | exact Or.inr rfl)) (fun _ _ _ _ _ => pts_nil) (fun _ _ _ _ _ => pe_callB call_abs rfl h_abs (by decide +kernel) (pa_cons pv pa_nil)))
    (pss_one (ps_ret (pe_disp (pps_cons pe_str (pe_revL pv) (pps_cons pe_str pe_int (pps_cons pe_str pv (pps_cons pe_str pe_int pps_nil)))) rfl rfl (by simp) (by decide))))))
theorem sc__law_pick : FnScope ["source", "most", "cells", "others", "lap", "stirred"] ["source", "most"] (defScope st__law_pick) := ⟨rfl, rfl, rfl, by decide +kernel, rfl, by decide +kernel, by decide +kernel⟩
def S__law_pick : FnSem := S_pick
theorem w__law_pick {P : Program} {w : World} {K : PySem.W.Frag} {mg : Str → Option Value} {base : Heap} {f : Addr} {fd : FuncData} (F : FP K "_law_pick" st__law_pick f fd) (hm : mg "_law_pick" = some (.ref f)) (h_int : mg "int" = none) (h_len : mg "len" = none) : Fn P w K mg base 1 "_law_pick" 2 S__law_pick := by
  have sc := sc__law_pick
  refine fn_body (N := ["source", "most", "cells", "others", "lap", "stirred"]) (m := mPick) F hm (F.bindsN (ps := ["source", "most"]) fun _ _ _ _ _ _ us hl => match us, hl with | [_, _], _ => rfl) sc (by decide) fun cdv A outer s H hr => ?_
  have hu := hr.u1
  have lo : ∀ i : Nat, True := fun _ => trivial
  unfold mPick
  refine ss_cons (s_ifS (t_cmp od_lt s_v s_int) (ss_one (s_ret s_int)) ss_nil) ?_
  refine s_drain (by decide) (ps_set sc.nd rfl (by first | exact Or.inl rfl | exact Or.inr rfl) (pe_dget hu pv pe_str (fun _ _ => rfl)))
    (ps_while PassesOwn.never (PW.pt (pw_and (pt_cmpR op_lt (pe_dget hu pv pe_str (fun _ _ => rfl)) pe_int rfl) (pw_and1 (pt_cmpR op_gt (pe_callB call_len rfl h_len (by decide +kernel) (pa_cons pv pa_nil)) pe_int rfl))))
      (pss_one (ps_dput hu pv pe_str (pe_bm0 PySem.F.plainAttrs_list PySem.F.slot_list_pop PySem.F.type_list_pop mt_pop pv) rfl))) ?_
  have fl : ∀ s c, valV (srcKvs c s) (.inr (Str.ofString "left")) = some (.int s.left) := fun _ _ => rfl
  have ft : ∀ s c, valV (srcKvs c s) (.inr (Str.ofString "turn")) = some (.int s.turn) := fun _ _ => rfl
  have fm : ∀ s c, valV (srcKvs c s) (.inr (Str.ofString "mixed")) = some (.int s.mixed) := fun _ _ => rfl
  have pl : ∀ (s : Src) (z : Int) (c : Addr), putK (srcKvs c s) (.inr (Str.ofString "left")) (.int z) = srcKvs c { s with left := z } := fun _ _ _ => rfl
  have pt : ∀ (s : Src) (z : Int) (c : Addr), putK (srcKvs c s) (.inr (Str.ofString "turn")) (.int z) = srcKvs c { s with turn := z } := fun _ _ _ => rfl
  refine ss_cons (s_set sc.nd rfl (by first | exact Or.inl rfl | exact Or.inr rfl) (s_fld (ky := "left") pv hu fl)) ?_
  refine ss_cons (s_ifS (t_cmp od_gt s_v s_int) (ss_cons (s_fldSet (ky := "left") pv hu (s_bin od_fdiv s_v s_v) pl (fun _ _ => rfl)) (ss_one (s_ret (s_bin od_mod (s_callT c_int rfl h_int (by decide +kernel) (a_cons s_v a_nil)) s_v)))) ss_nil) ?_
  refine ss_cons (s_fldSet (ky := "turn") pv hu (s_bin od_add (s_fld (ky := "turn") pv hu ft) s_int) pt (fun _ _ => rfl)) ?_
  refine ss_cons (s_set sc.nd rfl (by first | exact Or.inl rfl | exact Or.inr rfl) (s_fld (ky := "turn") pv hu ft)) ?_
  refine ss_cons (s_set sc.nd rfl (by first | exact Or.inl rfl | exact Or.inr rfl) (s_bin od_mod (s_callT c_int rfl h_int (by decide +kernel) (a_cons (s_bin od_add (s_fld (ky := "mixed") pv hu fm) (s_bin od_mul s_v s_int)) a_nil)) s_int)) ?_
  refine ss_cons (s_set sc.nd rfl (by first | exact Or.inl rfl | exact Or.inr rfl) (s_bin od_mod (s_callT c_int rfl h_int (by decide +kernel) (a_cons (s_bin od_add (s_bin od_mul s_v s_v) (s_bin od_mul s_v s_int)) a_nil)) s_int)) ?_
  exact ss_one (s_ret (s_bin od_mod (s_callT c_int rfl h_int (by decide +kernel) (a_cons (s_bin od_fdiv s_v s_int) a_nil)) s_v))
theorem sc__law_any_order : FnScope ["source", "things", "others", "lap"] ["source", "things"] (defScope st__law_any_order) := ⟨rfl, rfl, rfl, by decide +kernel, rfl, by decide +kernel, by decide +kernel⟩
def m__law_any_order : M Out :=
 (sSeq (sOwn 2 (eCallL lstG (aCons (eVar 1) aNil)))
 (sRet (eLst (eComp [3] (gN 3) (ret true) (ePopAt 2 (eFn S__law_pick (aCons (eVar 0) (aCons (eBor [2] (eCall lenG (aCons (eVar 2) aNil))) aNil)))) (iRg1 (eBor [2] (eCall lenG (aCons (eVar 2) aNil))))))))
def S__law_any_order : FnSem := fnOf 4 m__law_any_order
theorem w__law_any_order {P : Program} {w : World} {K : PySem.W.Frag} {mg : Str → Option Value} {base : Heap} {f : Addr} {fd : FuncData} (F : FP K "_law_any_order" st__law_any_order f fd) (hm : mg "_law_any_order" = some (.ref f)) (h_len : mg "len" = none) (h_list : mg "list" = none) (h_range : mg "range" = none) (F__law_pick : Fn P w K mg base 1 "_law_pick" 2 S__law_pick) : Fn P w K mg base 2 "_law_any_order" 2 S__law_any_order := by
  have sc := sc__law_any_order
  refine fn_body (k := 1) (N := ["source", "things", "others", "lap"]) (m := m__law_any_order) F hm (F.bindsN (ps := ["source", "things"]) fun _ _ _ _ _ _ us hl => match us, hl with | [_, _], _ => rfl) sc (by decide) fun cdv A outer s H hr => ?_
  have hu := hr.u64
  have hv := hr.u65
  unfold m__law_any_order
  exact (ss_cons (s_own sc.nd rfl (by first | exact Or.inl rfl | exact Or.inr rfl) (l_callT c_lst rfl h_list boot_list (a_cons s_v a_nil)))
 (ss_one (s_ret (s_ofL (l_comp (own := [("lap", 3)]) ⟨rfl, sc.nd, (blk_of rfl (by kernel_rfl)), by decide, fun _ _ _ _ _ => (g_n sc.nd), fun _ _ _ _ _ => f_nil, fun _ _ _ _ _ => (s_popAt pv (s_fn (F__law_pick.mono (by decide)) hr rfl (a_cons s_v (a_cons (s_bor (s_callB c_len rfl h_len (by decide +kernel) (a_cons s_v a_nil))) a_nil)) (aLen_cons (aLen_cons aLen_nil))))⟩ (i_rg1 rfl h_range (s_bor (s_callB c_len rfl h_len (by decide +kernel) (a_cons s_v a_nil)))))))))
theorem sc__law_rest : FnScope ["number", "L"] ["number", "L"] (defScope st__law_rest) := ⟨rfl, rfl, rfl, by decide +kernel, rfl, by decide +kernel, by decide +kernel⟩
def m__law_rest : M Out :=
 (sRet (eBin modD (eCall intG (aCons (eVar 0) aNil)) (eVar 1)))
def S__law_rest : FnSem := fnOf 2 m__law_rest
theorem w__law_rest {P : Program} {w : World} {K : PySem.W.Frag} {mg : Str → Option Value} {base : Heap} {f : Addr} {fd : FuncData} (F : FP K "_law_rest" st__law_rest f fd) (hm : mg "_law_rest" = some (.ref f)) (h_int : mg "int" = none) : Fn P w K mg base 1 "_law_rest" 2 S__law_rest := by
  have sc := sc__law_rest
  refine fn_body (k := 0) (N := ["number", "L"]) (m := m__law_rest) F hm (F.bindsN (ps := ["number", "L"]) fun _ _ _ _ _ _ us hl => match us, hl with | [_, _], _ => rfl) sc (by decide) fun cdv A outer s H hr => ?_
  have hu := hr.u64
  have hv := hr.u65
  unfold m__law_rest
  exact (ss_one (s_ret (s_bin od_mod (s_callT c_int rfl h_int (by decide +kernel) (a_cons s_v a_nil)) s_v)))
theorem sc__law_rows_below : FnScope ["many", "most", "found", "lap", "further", "row", "number"] ["many", "most"] (defScope st__law_rows_below) := ⟨rfl, rfl, rfl, by decide +kernel, rfl, by decide +kernel, by decide +kernel⟩
def m__law_rows_below : M Out :=
 (sSeq (sSet 2 (eLst (lDisp (aCons (eTup aNil) aNil))))
 (sSeq (sFor (iRg1 (eVar 0)) (gN 3)
 (sSeq (sSet 4 (eLst (lDisp aNil)))
 (sSeq (sFor (iSeq (eVar 2)) (gN 5)
 (sSet 4 (eBin addD (eVar 4) (eLst (eComp [6] (gN 6) (ret true) (eBin addD (eVar 5) (eTup (aCons (eVar 6) aNil))) (iRg1 (eVar 1)))))))
 (sSet 2 (eVar 4)))))
 (sRet (eVar 2))))
def S__law_rows_below : FnSem := fnOf 7 m__law_rows_below
theorem w__law_rows_below {P : Program} {w : World} {K : PySem.W.Frag} {mg : Str → Option Value} {base : Heap} {f : Addr} {fd : FuncData} (F : FP K "_law_rows_below" st__law_rows_below f fd) (hm : mg "_law_rows_below" = some (.ref f)) (h_range : mg "range" = none) : Fn P w K mg base 1 "_law_rows_below" 2 S__law_rows_below := by
  have sc := sc__law_rows_below
  refine fn_body (k := 0) (N := ["many", "most", "found", "lap", "further", "row", "number"]) (m := m__law_rows_below) F hm (F.bindsN (ps := ["many", "most"]) fun _ _ _ _ _ _ us hl => match us, hl with | [_, _], _ => rfl) sc (by decide) fun cdv A outer s H hr => ?_
  have hu := hr.u64
  have hv := hr.u65
  unfold m__law_rows_below
  exact (ss_cons (s_set sc.nd rfl (by first | exact Or.inl rfl | exact Or.inr rfl) (s_ofL (l_dsp (a_cons (s_tup a_nil) a_nil))))
 (ss_cons (s_for PassesOwn.never rfl (i_rg1 rfl h_range s_v) (g_n sc.nd)
 (ss_cons (s_set sc.nd rfl (by first | exact Or.inl rfl | exact Or.inr rfl) (s_ofL (l_dsp a_nil)))
 (ss_cons (s_for PassesOwn.never rfl (i_seq s_v) (g_n sc.nd)
 (ss_one (s_set sc.nd rfl (by first | exact Or.inl rfl | exact Or.inr rfl) (s_bin od_add s_v (s_ofL (l_comp (own := [("number", 6)]) ⟨rfl, sc.nd, (blk_of rfl (by kernel_rfl)), by decide, fun _ _ _ _ _ => (g_n sc.nd), fun _ _ _ _ _ => f_nil, fun _ _ _ _ _ => (s_bin od_add s_v (s_tup (a_cons s_v a_nil)))⟩ (i_rg1 rfl h_range s_v)))))))
 (ss_one (s_set sc.nd rfl (by first | exact Or.inl rfl | exact Or.inr rfl) s_v)))))
 (ss_one (s_ret s_v))))
theorem sc__law_line_ticks : FnScope ["line", "start", "found", "tick", "crossing", "time"] ["line", "start"] (defScope st__law_line_ticks) := ⟨rfl, rfl, rfl, by decide +kernel, rfl, by decide +kernel, by decide +kernel⟩
def m__law_line_ticks : M Out :=
 (sSeq (sPar [2, 3] (pOwn (lDisp aNil) (pVal (eVar 1) pNil)))
 (sSeq (sFor (iSeq (eVar 0)) (gT (gCons (gN 4) (gCons (gN 5) gNil)))
 (sSeq (sSet 3 (eBin addD (eVar 3) (eVar 5)))
 (sExpr (eApp 2 (eVar 3)))))
 (sRet (eFrz 2))))
def S__law_line_ticks : FnSem := fnOf 6 m__law_line_ticks
theorem w__law_line_ticks {P : Program} {w : World} {K : PySem.W.Frag} {mg : Str → Option Value} {base : Heap} {f : Addr} {fd : FuncData} (F : FP K "_law_line_ticks" st__law_line_ticks f fd) (hm : mg "_law_line_ticks" = some (.ref f)) : Fn P w K mg base 1 "_law_line_ticks" 2 S__law_line_ticks := by
  have sc := sc__law_line_ticks
  refine fn_body (k := 0) (N := ["line", "start", "found", "tick", "crossing", "time"]) (m := m__law_line_ticks) F hm (F.bindsN (ps := ["line", "start"]) fun _ _ _ _ _ _ us hl => match us, hl with | [_, _], _ => rfl) sc (by decide) fun cdv A outer s H hr => ?_
  have hu := hr.u64
  have hv := hr.u65
  unfold m__law_line_ticks
  exact (ss_cons (s_par2 rfl sc.nd rfl rfl (by decide) rfl rfl (p_own (l_dsp a_nil) (p_val s_v p_nil)) rfl)
 (ss_cons (s_for PassesOwn.never rfl (i_seq s_v) (g_tup rfl (gs_cons (g_n sc.nd) (gs_cons (g_n sc.nd) gs_nil)) rfl rfl (gCons_len (gCons_len gNil_len)))
 (ss_cons (s_set sc.nd rfl (by first | exact Or.inl rfl | exact Or.inr rfl) (s_bin od_add s_v s_v))
 (ss_one (s_expr (s_append pv s_v)))))
 (ss_one (s_ret (s_frz pv)))))
theorem sc__law_band : FnScope ["line", "greens", "L", "offsets", "found", "start", "is_on", "one", "green", "tick"] ["line", "greens", "L", "offsets"] (defScope st__law_band) := ⟨rfl, rfl, rfl, by decide +kernel, rfl, by decide +kernel, by decide +kernel⟩
def m__law_band : M Out :=
 (sSeq (sSet 4 (eLst (lDisp aNil)))
 (sSeq (sFor (iRg1 (eVar 2)) (gN 5)
 (sSeq (sSet 6 (eC (.bl true)))
 (sSeq (sFor (iZip3 (eVar 0) (eVar 1) (eFn S__law_line_ticks (aCons (eVar 0) (aCons (eVar 5) aNil)))) (gT (gCons (gN 7) (gCons (gN 8) (gCons (gN 9) gNil))))
 (sSet 6 (eAnd (eVar 6) (eBin ltD (eFn S__law_rest (aCons (eBin subD (eBin subD (eVar 9) (eBin ixD (eVar 3) (eBin ixD (eVar 7) (eC (.int 0))))) (eBin ixD (eVar 8) (eC (.int 0)))) (aCons (eVar 2) aNil))) (eBin ixD (eVar 8) (eC (.int 1)))))))
 (sSet 4 (eBin addD (eVar 4) (eBin mulD (eLst (lDisp (aCons (eVar 5) aNil))) (eCall intG (aCons (eVar 6) aNil))))))))
 (sRet (eCall tupG (aCons (eVar 4) aNil)))))
def S__law_band : FnSem := fnOf 10 m__law_band
theorem w__law_band {P : Program} {w : World} {K : PySem.W.Frag} {mg : Str → Option Value} {base : Heap} {f : Addr} {fd : FuncData} (F : FP K "_law_band" st__law_band f fd) (hm : mg "_law_band" = some (.ref f)) (h_int : mg "int" = none) (h_range : mg "range" = none) (h_tuple : mg "tuple" = none) (h_zip : mg "zip" = none) (F__law_line_ticks : Fn P w K mg base 1 "_law_line_ticks" 2 S__law_line_ticks) (F__law_rest : Fn P w K mg base 1 "_law_rest" 2 S__law_rest) : Fn P w K mg base 2 "_law_band" 4 S__law_band := by
  have sc := sc__law_band
  refine fn_body (k := 1) (N := ["line", "greens", "L", "offsets", "found", "start", "is_on", "one", "green", "tick"]) (m := m__law_band) F hm (F.bindsN (ps := ["line", "greens", "L", "offsets"]) fun _ _ _ _ _ _ us hl => match us, hl with | [_, _, _, _], _ => rfl) sc (by decide) fun cdv A outer s H hr => ?_
  have hu := hr.u64
  have hv := hr.u65
  unfold m__law_band
  exact (ss_cons (s_set sc.nd rfl (by first | exact Or.inl rfl | exact Or.inr rfl) (s_ofL (l_dsp a_nil)))
 (ss_cons (s_for PassesOwn.never rfl (i_rg1 rfl h_range s_v) (g_n sc.nd)
 (ss_cons (s_set sc.nd rfl (by first | exact Or.inl rfl | exact Or.inr rfl) s_bl)
 (ss_cons (s_for PassesOwn.never rfl (i_zip3 rfl h_zip s_v s_v (s_fn (F__law_line_ticks.mono (by decide)) hr rfl (a_cons s_v (a_cons s_v a_nil)) (aLen_cons (aLen_cons aLen_nil)))) (g_tup rfl (gs_cons (g_n sc.nd) (gs_cons (g_n sc.nd) (gs_cons (g_n sc.nd) gs_nil))) rfl rfl (gCons_len (gCons_len (gCons_len gNil_len))))
 (ss_one (s_set sc.nd rfl (by first | exact Or.inl rfl | exact Or.inr rfl) (s_and s_v (s_one (s_cmp od_lt (s_fn (F__law_rest.mono (by decide)) hr rfl (a_cons (s_bin od_sub (s_bin od_sub s_v (s_ix s_v (s_ix s_v s_int))) (s_ix s_v s_int)) (a_cons s_v a_nil)) (aLen_cons (aLen_cons aLen_nil))) (s_ix s_v s_int)))))))
 (ss_one (s_set sc.nd rfl (by first | exact Or.inl rfl | exact Or.inr rfl) (s_bin od_add s_v (s_bin od_mul (s_ofL (l_dsp (a_cons s_v a_nil))) (s_callT c_int rfl h_int (by decide +kernel) (a_cons s_v a_nil)))))))))
 (ss_one (s_ret (s_callT c_tup rfl h_tuple (by decide +kernel) (a_cons s_v a_nil))))))
theorem sc__law_back_line : FnScope ["line", "found", "k"] ["line"] (defScope st__law_back_line) := ⟨rfl, rfl, rfl, by decide +kernel, rfl, by decide +kernel, by decide +kernel⟩
def m__law_back_line : M Out :=
 (sSeq (sOwn 1 (lDisp (aCons (eTup (aCons (eBin ixD (eBin ixD (eVar 0) (eUn negD (eC (.int 1)))) (eC (.int 0))) (aCons (eC (.int 0)) aNil))) aNil)))
 (sSeq (sFor (iRgDn (eBin subD (eCall lenG (aCons (eVar 0) aNil)) (eC (.int 1))) (eC (.int 0)) (eBin subD (eC (.int 0)) (eC (.int 1)))) (gN 2)
 (sExpr (eApp 1 (eTup (aCons (eBin ixD (eBin ixD (eVar 0) (eBin subD (eVar 2) (eC (.int 1)))) (eC (.int 0))) (aCons (eBin ixD (eBin ixD (eVar 0) (eVar 2)) (eC (.int 1))) aNil))))))
 (sRet (eCall tupG (aCons (eFrz 1) aNil)))))
def S__law_back_line : FnSem := fnOf 3 m__law_back_line
theorem w__law_back_line {P : Program} {w : World} {K : PySem.W.Frag} {mg : Str → Option Value} {base : Heap} {f : Addr} {fd : FuncData} (F : FP K "_law_back_line" st__law_back_line f fd) (hm : mg "_law_back_line" = some (.ref f)) (h_len : mg "len" = none) (h_range : mg "range" = none) (h_tuple : mg "tuple" = none) : Fn P w K mg base 1 "_law_back_line" 1 S__law_back_line := by
  have sc := sc__law_back_line
  refine fn_body (k := 0) (N := ["line", "found", "k"]) (m := m__law_back_line) F hm (F.bindsN (ps := ["line"]) fun _ _ _ _ _ _ us hl => match us, hl with | [_], _ => rfl) sc (by decide) fun cdv A outer s H hr => ?_
  have hu := hr.u64
  have hv := hr.u65
  unfold m__law_back_line
  exact (ss_cons (s_own sc.nd rfl (by first | exact Or.inl rfl | exact Or.inr rfl) (l_dsp (a_cons (s_tup (a_cons (s_ix (s_ix s_v (s_neg s_int)) s_int) (a_cons s_int a_nil))) a_nil)))
 (ss_cons (s_for PassesOwn.never rfl (i_rgDn rfl h_range (s_bin od_sub (s_callB c_len rfl h_len (by decide +kernel) (a_cons s_v a_nil)) s_int) s_int (s_bin od_sub s_int s_int)) (g_n sc.nd)
 (ss_one (s_expr (s_append pv (s_tup (a_cons (s_ix (s_ix s_v (s_bin od_sub s_v s_int)) s_int) (a_cons (s_ix (s_ix s_v s_v) s_int) a_nil)))))))
 (ss_one (s_ret (s_callT c_tup rfl h_tuple (by decide +kernel) (a_cons (s_frz pv) a_nil))))))
theorem sc__law_draw_line : FnScope ["source", "m", "cells", "k", "cell"] ["source", "m"] (defScope st__law_draw_line) := ⟨rfl, rfl, rfl, by decide +kernel, rfl, by decide +kernel, by decide +kernel⟩
def m__law_draw_line : M Out :=
 (sSeq (sSet 2 (eSl (eFn S__law_any_order (aCons (eVar 0) (aCons (eLst (lRg1 (eVar 1))) aNil))) oNo (oAt (eBin addD (eC (.int 1)) (eFn S__law_pick (aCons (eVar 0) (aCons (eVar 1) aNil)))))))
 (sRet (eCall tupG (aCons (eLst (eComp [3, 4] (gT (gCons (gN 3) (gCons (gN 4) gNil))) (ret true) (eTup (aCons (eVar 4) (aCons (eIf (tst (eBin eqD (eVar 3) (eC (.int 0)))) (eC (.int 0)) (eFn S__law_pick (aCons (eVar 0) (aCons (eC (.int 30)) aNil)))) aNil))) (iEnum (eVar 2)))) aNil))))
def S__law_draw_line : FnSem := fnOf 5 m__law_draw_line
theorem w__law_draw_line {P : Program} {w : World} {K : PySem.W.Frag} {mg : Str → Option Value} {base : Heap} {f : Addr} {fd : FuncData} (F : FP K "_law_draw_line" st__law_draw_line f fd) (hm : mg "_law_draw_line" = some (.ref f)) (h_enumerate : mg "enumerate" = none) (h_list : mg "list" = none) (h_range : mg "range" = none) (h_tuple : mg "tuple" = none) (F__law_any_order : Fn P w K mg base 2 "_law_any_order" 2 S__law_any_order) (F__law_pick : Fn P w K mg base 1 "_law_pick" 2 S__law_pick) : Fn P w K mg base 3 "_law_draw_line" 2 S__law_draw_line := by
  have sc := sc__law_draw_line
  refine fn_body (k := 2) (N := ["source", "m", "cells", "k", "cell"]) (m := m__law_draw_line) F hm (F.bindsN (ps := ["source", "m"]) fun _ _ _ _ _ _ us hl => match us, hl with | [_, _], _ => rfl) sc (by decide) fun cdv A outer s H hr => ?_
  have hu := hr.u64
  have hv := hr.u65
  unfold m__law_draw_line
  exact (ss_cons (s_set sc.nd rfl (by first | exact Or.inl rfl | exact Or.inr rfl) (s_slice (s_fn (F__law_any_order.mono (by decide)) hr rfl (a_cons s_v (a_cons (s_ofL (l_rg1 rfl rfl h_list rfl h_range s_v)) a_nil)) (aLen_cons (aLen_cons aLen_nil))) o_no (o_at (s_bin od_add s_int (s_fn (F__law_pick.mono (by decide)) hr rfl (a_cons s_v (a_cons s_v a_nil)) (aLen_cons (aLen_cons aLen_nil)))))))
 (ss_one (s_ret (s_callT c_tup rfl h_tuple (by decide +kernel) (a_cons (s_ofL (l_comp (own := [("k", 3), ("cell", 4)]) ⟨rfl, sc.nd, (blk_of rfl (by kernel_rfl)), by decide, fun _ _ _ _ _ => (g_tup rfl (gs_cons (g_n sc.nd) (gs_cons (g_n sc.nd) gs_nil)) rfl rfl (gCons_len (gCons_len gNil_len))), fun _ _ _ _ _ => f_nil, fun _ _ _ _ _ => (s_tup (a_cons s_v (a_cons (s_if (t_cmp (od_eq hu) s_v s_int) s_int (s_fn (F__law_pick.mono (by decide)) hr rfl (a_cons s_v (a_cons s_int a_nil)) (aLen_cons (aLen_cons aLen_nil)))) a_nil)))⟩ (i_enum rfl h_enumerate s_v))) a_nil)))))
theorem sc__law_line_offsets : FnScope ["m", "line", "L", "found", "row", "offsets", "one", "offset"] ["m", "line", "L"] (defScope st__law_line_offsets) := ⟨rfl, rfl, rfl, by decide +kernel, rfl, by decide +kernel, by decide +kernel⟩
def m__law_line_offsets : M Out :=
 (sSeq (sOwn 3 (lDisp aNil))
 (sSeq (sFor (iSeq (eFn S__law_rows_below (aCons (eBin subD (eCall lenG (aCons (eVar 1) aNil)) (eC (.int 1))) (aCons (eVar 2) aNil)))) (gN 4)
 (sSeq (sOwn 5 (eBinL mulLD (eLst (lDisp (aCons (eC (.int 0)) aNil))) (eVar 0)))
 (sSeq (sFor (iZip2 (eSl (eVar 1) (oAt (eC (.int 1))) oNo) (eVar 4)) (gT (gCons (gN 6) (gCons (gN 7) gNil)))
 (sSetIx 5 (eVar 7) (eBin ixD (eVar 6) (eC (.int 0)))))
 (sExpr (eApp 3 (eCall tupG (aCons (eFrz 5) aNil)))))))
 (sRet (eLst (eCallL srtG (aCons (eFrz 3) aNil))))))
def S__law_line_offsets : FnSem := fnOf 8 m__law_line_offsets
theorem w__law_line_offsets {P : Program} {w : World} {K : PySem.W.Frag} {mg : Str → Option Value} {base : Heap} {f : Addr} {fd : FuncData} (F : FP K "_law_line_offsets" st__law_line_offsets f fd) (hm : mg "_law_line_offsets" = some (.ref f)) (h_len : mg "len" = none) (h_sorted : mg "sorted" = none) (h_tuple : mg "tuple" = none) (h_zip : mg "zip" = none) (F__law_rows_below : Fn P w K mg base 1 "_law_rows_below" 2 S__law_rows_below) : Fn P w K mg base 2 "_law_line_offsets" 3 S__law_line_offsets := by
  have sc := sc__law_line_offsets
  refine fn_body (k := 1) (N := ["m", "line", "L", "found", "row", "offsets", "one", "offset"]) (m := m__law_line_offsets) F hm (F.bindsN (ps := ["m", "line", "L"]) fun _ _ _ _ _ _ us hl => match us, hl with | [_, _, _], _ => rfl) sc (by decide) fun cdv A outer s H hr => ?_
  have hu := hr.u64
  have hv := hr.u65
  unfold m__law_line_offsets
  exact (ss_cons (s_own sc.nd rfl (by first | exact Or.inl rfl | exact Or.inr rfl) (l_dsp a_nil))
 (ss_cons (s_for PassesOwn.never rfl (i_seq (s_fn (F__law_rows_below.mono (by decide)) hr rfl (a_cons (s_bin od_sub (s_callB c_len rfl h_len (by decide +kernel) (a_cons s_v a_nil)) s_int) (a_cons s_v a_nil)) (aLen_cons (aLen_cons aLen_nil)))) (g_n sc.nd)
 (ss_cons (s_own sc.nd rfl (by first | exact Or.inl rfl | exact Or.inr rfl) (l_bin ol_mul (s_ofL (l_dsp (a_cons s_int a_nil))) s_v))
 (ss_cons (s_for PassesOwn.never rfl (i_zip2 rfl h_zip (s_slice s_v (o_at s_int) o_no) s_v) (g_tup rfl (gs_cons (g_n sc.nd) (gs_cons (g_n sc.nd) gs_nil)) rfl rfl (gCons_len (gCons_len gNil_len)))
 (ss_one (s_setIx pv (s_ix s_v s_int) s_v)))
 (ss_one (s_expr (s_append pv (s_callT c_tup rfl h_tuple (by decide +kernel) (a_cons (s_frz pv) a_nil))))))))
 (ss_one (s_ret (s_ofL (l_callB (c_srt hr) rfl h_sorted boot_sorted (a_cons (s_frz pv) a_nil)))))))
theorem sc__law_paper : FnScope ["line", "greens", "backs", "L", "ticks", "last", "k", "here"] ["line", "greens", "backs", "L"] (defScope st__law_paper) := ⟨rfl, rfl, rfl, by decide +kernel, rfl, by decide +kernel, by decide +kernel⟩
def m__law_paper : M Out :=
 (sSeq (sPar [4, 5] (pVal (eFn S__law_line_ticks (aCons (eVar 0) (aCons (eC (.int 0)) aNil))) (pVal (eBin subD (eCall lenG (aCons (eVar 0) aNil)) (eC (.int 1))) pNil)))
 (sSeq (sFor (iRg2 (eC (.int 1)) (eCall lenG (aCons (eVar 0) aNil))) (gN 6)
 (sSeq (sSet 7 (eBin addD (eBin addD (eBin subD (eBin subD (eBin ixD (eBin ixD (eVar 2) (eBin subD (eVar 5) (eVar 6))) (eC (.int 0))) (eBin ixD (eBin ixD (eVar 1) (eVar 6)) (eC (.int 0)))) (eBin ixD (eBin ixD (eVar 2) (eVar 5)) (eC (.int 0)))) (eBin ixD (eBin ixD (eVar 1) (eC (.int 0))) (eC (.int 0)))) (eBin mulD (eC (.int 2)) (eBin subD (eBin ixD (eVar 4) (eVar 6)) (eBin ixD (eVar 4) (eC (.int 0)))))))
 (sIf (tst (eBin neD (eFn S__law_rest (aCons (eVar 7) (aCons (eVar 3) aNil))) (eC (.int 0))))
 (sRet (eTup (aCons (eVar 6) (aCons (eFn S__law_rest (aCons (eVar 7) (aCons (eVar 3) aNil))) aNil))))
 sNx)))
 (sRet (eC .non))))
def S__law_paper : FnSem := fnOf 8 m__law_paper
theorem w__law_paper {P : Program} {w : World} {K : PySem.W.Frag} {mg : Str → Option Value} {base : Heap} {f : Addr} {fd : FuncData} (F : FP K "_law_paper" st__law_paper f fd) (hm : mg "_law_paper" = some (.ref f)) (h_len : mg "len" = none) (h_range : mg "range" = none) (F__law_line_ticks : Fn P w K mg base 1 "_law_line_ticks" 2 S__law_line_ticks) (F__law_rest : Fn P w K mg base 1 "_law_rest" 2 S__law_rest) : Fn P w K mg base 2 "_law_paper" 4 S__law_paper := by
  have sc := sc__law_paper
  refine fn_body (k := 1) (N := ["line", "greens", "backs", "L", "ticks", "last", "k", "here"]) (m := m__law_paper) F hm (F.bindsN (ps := ["line", "greens", "backs", "L"]) fun _ _ _ _ _ _ us hl => match us, hl with | [_, _, _, _], _ => rfl) sc (by decide) fun cdv A outer s H hr => ?_
  have hu := hr.u64
  have hv := hr.u65
  unfold m__law_paper
  exact (ss_cons (s_par2 rfl sc.nd rfl rfl (by decide) rfl rfl (p_val (s_fn (F__law_line_ticks.mono (by decide)) hr rfl (a_cons s_v (a_cons s_int a_nil)) (aLen_cons (aLen_cons aLen_nil))) (p_val (s_bin od_sub (s_callB c_len rfl h_len (by decide +kernel) (a_cons s_v a_nil)) s_int) p_nil)) rfl)
 (ss_cons (s_for PassesOwn.never rfl (i_rg2 rfl h_range s_int (s_callB c_len rfl h_len (by decide +kernel) (a_cons s_v a_nil))) (g_n sc.nd)
 (ss_cons (s_set sc.nd rfl (by first | exact Or.inl rfl | exact Or.inr rfl) (s_bin od_add (s_bin od_add (s_bin od_sub (s_bin od_sub (s_ix (s_ix s_v (s_bin od_sub s_v s_v)) s_int) (s_ix (s_ix s_v s_v) s_int)) (s_ix (s_ix s_v s_v) s_int)) (s_ix (s_ix s_v s_int) s_int)) (s_bin od_mul s_int (s_bin od_sub (s_ix s_v s_v) (s_ix s_v s_int)))))
 (ss_one (s_ifS (t_cmp (od_ne hu) (s_fn (F__law_rest.mono (by decide)) hr rfl (a_cons s_v (a_cons s_v a_nil)) (aLen_cons (aLen_cons aLen_nil))) s_int)
 (ss_one (s_ret (s_tup (a_cons s_v (a_cons (s_fn (F__law_rest.mono (by decide)) hr rfl (a_cons s_v (a_cons s_v a_nil)) (aLen_cons (aLen_cons aLen_nil))) a_nil)))))
 ss_nil))))
 (ss_one (s_ret s_non))))
theorem sc__law_fitting_backs : FnScope ["source", "line", "greens", "length", "L", "ticks", "last", "begin", "found", "k", "here"] ["source", "line", "greens", "length", "L"] (defScope st__law_fitting_backs) := ⟨rfl, rfl, rfl, by decide +kernel, rfl, by decide +kernel, by decide +kernel⟩
def m__law_fitting_backs : M Out :=
 (sSeq (sPar [5, 6, 7] (pVal (eFn S__law_line_ticks (aCons (eVar 1) (aCons (eC (.int 0)) aNil))) (pVal (eBin subD (eCall lenG (aCons (eVar 1) aNil)) (eC (.int 1))) (pVal (eFn S__law_pick (aCons (eVar 0) (aCons (eVar 4) aNil))) pNil))))
 (sSeq (sOwn 8 (eBinL mulLD (eLst (lDisp (aCons (eTup (aCons (eC (.int 0)) (aCons (eVar 3) aNil))) aNil))) (eCall lenG (aCons (eVar 1) aNil))))
 (sSeq (sFor (iRg1 (eCall lenG (aCons (eVar 1) aNil))) (gN 9)
 (sSeq (sSet 10 (eBin addD (eBin subD (eBin subD (eBin addD (eVar 7) (eBin ixD (eBin ixD (eVar 2) (eVar 9)) (eC (.int 0)))) (eBin ixD (eBin ixD (eVar 2) (eC (.int 0))) (eC (.int 0)))) (eBin mulD (eC (.int 2)) (eBin subD (eBin ixD (eVar 5) (eVar 9)) (eBin ixD (eVar 5) (eC (.int 0)))))) (eCall intG (aCons (eBin eqD (eFn S__law_pick (aCons (eVar 0) (aCons (eC (.int 6)) aNil))) (eC (.int 0))) aNil))))
 (sSetIx 8 (eTup (aCons (eBin addD (eFn S__law_rest (aCons (eVar 10) (aCons (eVar 4) aNil))) (eBin mulD (eVar 4) (eBin subD (eFn S__law_pick (aCons (eVar 0) (aCons (eC (.int 3)) aNil))) (eC (.int 1))))) (aCons (eVar 3) aNil))) (eBin subD (eVar 6) (eVar 9)))))
 (sRet (eCall tupG (aCons (eFrz 8) aNil))))))
def S__law_fitting_backs : FnSem := fnOf 11 m__law_fitting_backs
theorem w__law_fitting_backs {P : Program} {w : World} {K : PySem.W.Frag} {mg : Str → Option Value} {base : Heap} {f : Addr} {fd : FuncData} (F : FP K "_law_fitting_backs" st__law_fitting_backs f fd) (hm : mg "_law_fitting_backs" = some (.ref f)) (h_int : mg "int" = none) (h_len : mg "len" = none) (h_range : mg "range" = none) (h_tuple : mg "tuple" = none) (F__law_line_ticks : Fn P w K mg base 1 "_law_line_ticks" 2 S__law_line_ticks) (F__law_pick : Fn P w K mg base 1 "_law_pick" 2 S__law_pick) (F__law_rest : Fn P w K mg base 1 "_law_rest" 2 S__law_rest) : Fn P w K mg base 2 "_law_fitting_backs" 5 S__law_fitting_backs := by
  have sc := sc__law_fitting_backs
  refine fn_body (k := 1) (N := ["source", "line", "greens", "length", "L", "ticks", "last", "begin", "found", "k", "here"]) (m := m__law_fitting_backs) F hm (F.bindsN (ps := ["source", "line", "greens", "length", "L"]) fun _ _ _ _ _ _ us hl => match us, hl with | [_, _, _, _, _], _ => rfl) sc (by decide) fun cdv A outer s H hr => ?_
  have hu := hr.u64
  have hv := hr.u65
  unfold m__law_fitting_backs
  exact (ss_cons (s_par3 rfl sc.nd rfl rfl rfl (by decide) (by decide) (by decide) rfl rfl rfl (p_val (s_fn (F__law_line_ticks.mono (by decide)) hr rfl (a_cons s_v (a_cons s_int a_nil)) (aLen_cons (aLen_cons aLen_nil))) (p_val (s_bin od_sub (s_callB c_len rfl h_len (by decide +kernel) (a_cons s_v a_nil)) s_int) (p_val (s_fn (F__law_pick.mono (by decide)) hr rfl (a_cons s_v (a_cons s_v a_nil)) (aLen_cons (aLen_cons aLen_nil))) p_nil))) rfl)
 (ss_cons (s_own sc.nd rfl (by first | exact Or.inl rfl | exact Or.inr rfl) (l_bin ol_mul (s_ofL (l_dsp (a_cons (s_tup (a_cons s_int (a_cons s_v a_nil))) a_nil))) (s_callB c_len rfl h_len (by decide +kernel) (a_cons s_v a_nil))))
 (ss_cons (s_for PassesOwn.never rfl (i_rg1 rfl h_range (s_callB c_len rfl h_len (by decide +kernel) (a_cons s_v a_nil))) (g_n sc.nd)
 (ss_cons (s_set sc.nd rfl (by first | exact Or.inl rfl | exact Or.inr rfl) (s_bin od_add (s_bin od_sub (s_bin od_sub (s_bin od_add s_v (s_ix (s_ix s_v s_v) s_int)) (s_ix (s_ix s_v s_int) s_int)) (s_bin od_mul s_int (s_bin od_sub (s_ix s_v s_v) (s_ix s_v s_int)))) (s_callT c_int rfl h_int (by decide +kernel) (a_cons (s_cmp (od_eq hu) (s_fn (F__law_pick.mono (by decide)) hr rfl (a_cons s_v (a_cons s_int a_nil)) (aLen_cons (aLen_cons aLen_nil))) s_int) a_nil))))
 (ss_one (s_setIx pv (s_bin od_sub s_v s_v) (s_tup (a_cons (s_bin od_add (s_fn (F__law_rest.mono (by decide)) hr rfl (a_cons s_v (a_cons s_v a_nil)) (aLen_cons (aLen_cons aLen_nil))) (s_bin od_mul s_v (s_bin od_sub (s_fn (F__law_pick.mono (by decide)) hr rfl (a_cons s_v (a_cons s_int a_nil)) (aLen_cons (aLen_cons aLen_nil))) s_int))) (a_cons s_v a_nil)))))))
 (ss_one (s_ret (s_callT c_tup rfl h_tuple (by decide +kernel) (a_cons (s_frz pv) a_nil)))))))
theorem sc_law : FnScope ["script", "source", "lap", "m", "L", "line", "g", "h", "greens", "backs", "paper", "back", "best", "is_full", "offsets", "pair", "total", "spots", "own", "some", "one"] ["script"] (defScope st_law) := ⟨rfl, rfl, rfl, by decide +kernel, rfl, by decide +kernel, by decide +kernel⟩
def m_law : M Out :=
 (sSeq (sFor (iRg1 (eC (.int 3))) (gN 2)
 (sSeq (sPar [3, 4] (pVal (eBin addD (eC (.int 1)) (eFn S__law_pick (aCons (eVar 1) (aCons (eC (.int 3)) aNil)))) (pVal (eBin addD (eC (.int 2)) (eFn S__law_pick (aCons (eVar 1) (aCons (eC (.int 6)) aNil)))) pNil)))
 (sSeq (sSet 5 (eFn S__law_draw_line (aCons (eVar 1) (aCons (eVar 3) aNil))))
 (sSeq (sPar [6, 7] (pVal (eBin addD (eC (.int 1)) (eFn S__law_pick (aCons (eVar 1) (aCons (eBin subD (eVar 4) (eC (.int 1))) aNil)))) (pVal (eBin addD (eC (.int 1)) (eFn S__law_pick (aCons (eVar 1) (aCons (eBin subD (eVar 4) (eC (.int 1))) aNil)))) pNil)))
 (sSeq (sSet 8 (eCall tupG (aCons (eLst (eComp [20] (gN 20) (ret true) (eTup (aCons (eBin subD (eFn S__law_pick (aCons (eVar 1) (aCons (eBin mulD (eC (.int 3)) (eVar 4)) aNil))) (eVar 4)) (aCons (eVar 6) aNil))) (iSeq (eVar 5)))) aNil)))
 (sSeq (sSet 9 (eFn S__law_fitting_backs (aCons (eVar 1) (aCons (eVar 5) (aCons (eVar 8) (aCons (eVar 7) (aCons (eVar 4) aNil)))))))
 (sSeq (sIf (tst (eBin eqD (eFn S__law_pick (aCons (eVar 1) (aCons (eC (.int 4)) aNil))) (eC (.int 0))))
 (sSet 9 (eCall tupG (aCons (eLst (eComp [20] (gN 20) (ret true) (eTup (aCons (eBin subD (eFn S__law_pick (aCons (eVar 1) (aCons (eBin mulD (eC (.int 3)) (eVar 4)) aNil))) (eVar 4)) (aCons (eVar 7) aNil))) (iSeq (eVar 5)))) aNil)))
 sNx)
 (sSeq (sPar [10, 11] (pVal (eFn S__law_paper (aCons (eVar 5) (aCons (eVar 8) (aCons (eVar 9) (aCons (eVar 4) aNil))))) (pVal (eFn S__law_back_line (aCons (eVar 5) aNil)) pNil)))
 (sSeq (sPar [12, 13] (pVal (eC (.int 0)) (pVal (eC (.bl false)) pNil)))
 (sSeq (sFor (iSeq (eFn S__law_line_offsets (aCons (eVar 3) (aCons (eVar 5) (aCons (eVar 4) aNil))))) (gN 14)
 (sSeq (sSet 15 (eTup (aCons (eCall lenG (aCons (eFn S__law_band (aCons (eVar 5) (aCons (eVar 8) (aCons (eVar 4) (aCons (eVar 14) aNil))))) aNil)) (aCons (eCall lenG (aCons (eFn S__law_band (aCons (eVar 11) (aCons (eVar 9) (aCons (eVar 4) (aCons (eVar 14) aNil))))) aNil)) aNil))))
 (sPar [12, 13] (pVal (eCall maxG (aCons (eVar 12) (aCons (eCall sumG (aCons (eVar 15) aNil)) aNil))) (pVal (eOr (eVar 13) (eBin eqD (eVar 15) (eTup (aCons (eVar 6) (aCons (eVar 7) aNil))))) pNil)))))
 (sSeq (sIf (tOr2 (tst (eBin neD (eVar 13) (eBin isND (eVar 10) (eC .non)))) (tst (eBin neD (eCall reprG (aCons (eFn S_full_paper (aCons (eVar 5) (aCons (eVar 8) (aCons (eVar 9) (aCons (eVar 4) aNil))))) aNil)) (eCall reprG (aCons (eVar 10) aNil)))))
 (sRet (eC (.bl false)))
 sNx)
 (sSeq (sIf (tOr2 (tst (eBin neD (eCall reprG (aCons (eFn S_full_both (aCons (eVar 5) (aCons (eVar 8) (aCons (eVar 9) (aCons (eVar 4) aNil))))) aNil)) (eCall reprG (aCons (eVar 13) aNil)))) (tst (eBin neD (eFn S_back_line (aCons (eVar 5) aNil)) (eVar 11))))
 (sRet (eC (.bl false)))
 sNx)
 (sSeq (sAsg (eFn S_best_both (aCons (eVar 3) (aCons (eVar 5) (aCons (eVar 8) (aCons (eVar 9) (aCons (eVar 4) aNil)))))) (gT (gCons (gN 16) (gCons (gN 17) gNil))))
 (sSeq (sSet 18 (eBin addD (eCall lenG (aCons (eFn S__law_band (aCons (eVar 5) (aCons (eVar 8) (aCons (eVar 4) (aCons (eVar 17) aNil))))) aNil)) (eCall lenG (aCons (eFn S__law_band (aCons (eVar 11) (aCons (eVar 9) (aCons (eVar 4) (aCons (eVar 17) aNil))))) aNil))))
 (sSeq (sIf (tOr2 (tst (eBin neD (eVar 16) (eVar 12))) (tOr2 (tst (eBin neD (eVar 18) (eVar 12))) (tst (eBin neD (eCall sumG (aCons (eFn S_both_bands (aCons (eVar 5) (aCons (eVar 8) (aCons (eVar 9) (aCons (eVar 4) (aCons (eVar 17) aNil)))))) aNil)) (eVar 12)))))
 (sRet (eC (.bl false)))
 sNx)
 (sSeq (sIf (tAnd2 (tru (eVar 13)) (tst (eBin neD (eVar 12) (eBin addD (eVar 6) (eVar 7)))))
 (sRet (eC (.bl false)))
 sNx)
 (sSeq (sSet 19 (eFn S_offsets_of_line (aCons (eVar 3) (aCons (eVar 5) (aCons (eVar 8) (aCons (eVar 4) aNil))))))
 (sIf (tOr2 (tst (eBin neD (eCall lenG (aCons (eFn S_band (aCons (eVar 5) (aCons (eVar 8) (aCons (eVar 4) (aCons (eVar 19) aNil))))) aNil)) (eVar 6))) (tst (eBin neD (eBin ixD (eFn S_both_bands (aCons (eVar 5) (aCons (eVar 8) (aCons (eVar 9) (aCons (eVar 4) (aCons (eVar 19) aNil)))))) (eC (.int 0))) (eVar 6))))
 (sRet (eC (.bl false)))
 sNx))))))))))))))))))
 (sRet (eC (.bl true))))
theorem w_law {P : Program} {w : World} {K : PySem.W.Frag} {mg : Str → Option Value} {base : Heap} {f : Addr} {fd : FuncData} (F : FP K "law" st_law f fd) (hm : mg "law" = some (.ref f)) (h_len : mg "len" = none) (h_max : mg "max" = none) (h_range : mg "range" = none) (h_repr : mg "repr" = none) (h_sum : mg "sum" = none) (h_tuple : mg "tuple" = none) (F__law_back_line : Fn P w K mg base 1 "_law_back_line" 1 S__law_back_line) (F__law_band : Fn P w K mg base 2 "_law_band" 4 S__law_band) (F__law_draw_line : Fn P w K mg base 3 "_law_draw_line" 2 S__law_draw_line) (F__law_fitting_backs : Fn P w K mg base 2 "_law_fitting_backs" 5 S__law_fitting_backs) (F__law_line_offsets : Fn P w K mg base 2 "_law_line_offsets" 3 S__law_line_offsets) (F__law_paper : Fn P w K mg base 2 "_law_paper" 4 S__law_paper) (F__law_pick : Fn P w K mg base 1 "_law_pick" 2 S__law_pick) (F_back_line : Fn P w K mg base 1 "back_line" 1 S_back_line) (F_band : Fn P w K mg base 3 "band" 4 S_band) (F_best_both : Fn P w K mg base 5 "best_both" 5 S_best_both) (F_both_bands : Fn P w K mg base 4 "both_bands" 5 S_both_bands) (F_full_both : Fn P w K mg base 5 "full_both" 4 S_full_both) (F_full_paper : Fn P w K mg base 2 "full_paper" 4 S_full_paper) (F_offsets_of_line : Fn P w K mg base 2 "offsets_of_line" 4 S_offsets_of_line) (F_open : FnW P w K mg base 5 "_law_open_cells" (spOpen K)) (ok : ∀ src, ∃ s', m_law ⟨lawEnv 21 1, src⟩ = some (.ret (.bl true), s')) : FnW P w K mg base 6 "law" (spLaw K) := by
  have sc := sc_law
  refine law_fn (k := 5) (N := ["script", "source", "lap", "m", "L", "line", "g", "h", "greens", "backs", "paper", "back", "best", "is_full", "offsets", "pair", "total", "spots", "own", "some", "one"]) (m := m_law) (i := 1) (y := "script") F hm (F.bindsN (ps := ["script"]) fun _ _ _ _ _ _ us hl => match us, hl with | [_], _ => rfl) sc (by decide) (by decide) (fun cdv A outer s H hr => ⟨?_, ?_⟩) ok
  · exact ps_set sc.nd rfl (by first | exact Or.inl rfl | exact Or.inr rfl) (pe_raw F_open hr rfl (pa_cons pv pa_nil))
  · have hu := hr.u64
    have hv := hr.u65
    unfold m_law
    exact (ss_cons (s_for PassesOwn.never rfl (i_rg1 rfl h_range s_int) (g_n sc.nd)
 (ss_cons (s_parT rfl (by decide) (pgs_name sc.nd rfl (by first | exact Or.inl rfl | exact Or.inr rfl) (pgs_name sc.nd rfl (by first | exact Or.inl rfl | exact Or.inr rfl) pgs_none)) (p_val (s_bin od_add s_int (s_fn (F__law_pick.mono (by decide)) hr rfl (a_cons s_v (a_cons s_int a_nil)) (aLen_cons (aLen_cons aLen_nil)))) (p_val (s_bin od_add s_int (s_fn (F__law_pick.mono (by decide)) hr rfl (a_cons s_v (a_cons s_int a_nil)) (aLen_cons (aLen_cons aLen_nil)))) p_nil)))
 (ss_cons (s_set sc.nd rfl (by first | exact Or.inl rfl | exact Or.inr rfl) (s_fn (F__law_draw_line.mono (by decide)) hr rfl (a_cons s_v (a_cons s_v a_nil)) (aLen_cons (aLen_cons aLen_nil))))
 (ss_cons (s_parT rfl (by decide) (pgs_name sc.nd rfl (by first | exact Or.inl rfl | exact Or.inr rfl) (pgs_name sc.nd rfl (by first | exact Or.inl rfl | exact Or.inr rfl) pgs_none)) (p_val (s_bin od_add s_int (s_fn (F__law_pick.mono (by decide)) hr rfl (a_cons s_v (a_cons (s_bin od_sub s_v s_int) a_nil)) (aLen_cons (aLen_cons aLen_nil)))) (p_val (s_bin od_add s_int (s_fn (F__law_pick.mono (by decide)) hr rfl (a_cons s_v (a_cons (s_bin od_sub s_v s_int) a_nil)) (aLen_cons (aLen_cons aLen_nil)))) p_nil)))
 (ss_cons (s_set sc.nd rfl (by first | exact Or.inl rfl | exact Or.inr rfl) (s_callT c_tup rfl h_tuple (by decide +kernel) (a_cons (s_ofL (l_comp (own := [("one", 20)]) ⟨rfl, sc.nd, (blk_of rfl (by kernel_rfl)), by decide, fun _ _ _ _ _ => (g_n sc.nd), fun _ _ _ _ _ => f_nil, fun _ _ _ _ _ => (s_tup (a_cons (s_bin od_sub (s_fn (F__law_pick.mono (by decide)) hr rfl (a_cons s_v (a_cons (s_bin od_mul s_int s_v) a_nil)) (aLen_cons (aLen_cons aLen_nil))) s_v) (a_cons s_v a_nil)))⟩ (i_seq s_v))) a_nil)))
 (ss_cons (s_set sc.nd rfl (by first | exact Or.inl rfl | exact Or.inr rfl) (s_fn (F__law_fitting_backs.mono (by decide)) hr rfl (a_cons s_v (a_cons s_v (a_cons s_v (a_cons s_v (a_cons s_v a_nil))))) (aLen_cons (aLen_cons (aLen_cons (aLen_cons (aLen_cons aLen_nil)))))))
 (ss_cons (s_ifS (t_cmp (od_eq hu) (s_fn (F__law_pick.mono (by decide)) hr rfl (a_cons s_v (a_cons s_int a_nil)) (aLen_cons (aLen_cons aLen_nil))) s_int)
 (ss_one (s_set sc.nd rfl (by first | exact Or.inl rfl | exact Or.inr rfl) (s_callT c_tup rfl h_tuple (by decide +kernel) (a_cons (s_ofL (l_comp (own := [("one", 20)]) ⟨rfl, sc.nd, (blk_of rfl (by kernel_rfl)), by decide, fun _ _ _ _ _ => (g_n sc.nd), fun _ _ _ _ _ => f_nil, fun _ _ _ _ _ => (s_tup (a_cons (s_bin od_sub (s_fn (F__law_pick.mono (by decide)) hr rfl (a_cons s_v (a_cons (s_bin od_mul s_int s_v) a_nil)) (aLen_cons (aLen_cons aLen_nil))) s_v) (a_cons s_v a_nil)))⟩ (i_seq s_v))) a_nil))))
 ss_nil)
 (ss_cons (s_par2 rfl sc.nd rfl rfl (by decide) rfl rfl (p_val (s_fn (F__law_paper.mono (by decide)) hr rfl (a_cons s_v (a_cons s_v (a_cons s_v (a_cons s_v a_nil)))) (aLen_cons (aLen_cons (aLen_cons (aLen_cons aLen_nil))))) (p_val (s_fn (F__law_back_line.mono (by decide)) hr rfl (a_cons s_v a_nil) (aLen_cons aLen_nil)) p_nil)) rfl)
 (ss_cons (s_parT rfl (by decide) (pgs_name sc.nd rfl (by first | exact Or.inl rfl | exact Or.inr rfl) (pgs_name sc.nd rfl (by first | exact Or.inl rfl | exact Or.inr rfl) pgs_none)) (p_val s_int (p_val s_bl p_nil)))
 (ss_cons (s_for PassesOwn.never rfl (i_seq (s_fn (F__law_line_offsets.mono (by decide)) hr rfl (a_cons s_v (a_cons s_v (a_cons s_v a_nil))) (aLen_cons (aLen_cons (aLen_cons aLen_nil))))) (g_n sc.nd)
 (ss_cons (s_set sc.nd rfl (by first | exact Or.inl rfl | exact Or.inr rfl) (s_tup (a_cons (s_callB c_len rfl h_len (by decide +kernel) (a_cons (s_fn (F__law_band.mono (by decide)) hr rfl (a_cons s_v (a_cons s_v (a_cons s_v (a_cons s_v a_nil)))) (aLen_cons (aLen_cons (aLen_cons (aLen_cons aLen_nil))))) a_nil)) (a_cons (s_callB c_len rfl h_len (by decide +kernel) (a_cons (s_fn (F__law_band.mono (by decide)) hr rfl (a_cons s_v (a_cons s_v (a_cons s_v (a_cons s_v a_nil)))) (aLen_cons (aLen_cons (aLen_cons (aLen_cons aLen_nil))))) a_nil)) a_nil))))
 (ss_one (s_par2 rfl sc.nd rfl rfl (by decide) rfl rfl (p_val (s_callB (c_max rfl) rfl h_max (by decide +kernel) (a_cons s_v (a_cons (s_callB (c_sum rfl) rfl h_sum (by decide +kernel) (a_cons s_v a_nil)) a_nil))) (p_val (s_or s_v (s_one (s_cmp (od_eq hu) s_v (s_tup (a_cons s_v (a_cons s_v a_nil)))))) p_nil)) rfl))))
 (ss_cons (s_ifS (SW.t (w_or (t_cmp (od_ne hu) s_v (s_cmp od_isN s_v s_non)) (w_or1 (t_cmp (od_ne hu) (s_callB (c_repr hr) rfl h_repr (by decide +kernel) (a_cons (s_fn (F_full_paper.mono (by decide)) hr rfl (a_cons s_v (a_cons s_v (a_cons s_v (a_cons s_v a_nil)))) (aLen_cons (aLen_cons (aLen_cons (aLen_cons aLen_nil))))) a_nil)) (s_callB (c_repr hr) rfl h_repr (by decide +kernel) (a_cons s_v a_nil))))))
 (ss_one (s_ret s_bl))
 ss_nil)
 (ss_cons (s_ifS (SW.t (w_or (t_cmp (od_ne hu) (s_callB (c_repr hr) rfl h_repr (by decide +kernel) (a_cons (s_fn (F_full_both.mono (by decide)) hr rfl (a_cons s_v (a_cons s_v (a_cons s_v (a_cons s_v a_nil)))) (aLen_cons (aLen_cons (aLen_cons (aLen_cons aLen_nil))))) a_nil)) (s_callB (c_repr hr) rfl h_repr (by decide +kernel) (a_cons s_v a_nil))) (w_or1 (t_cmp (od_ne hu) (s_fn (F_back_line.mono (by decide)) hr rfl (a_cons s_v a_nil) (aLen_cons aLen_nil)) s_v))))
 (ss_one (s_ret s_bl))
 ss_nil)
 (ss_cons (s_asg (s_fn (F_best_both.mono (by decide)) hr rfl (a_cons s_v (a_cons s_v (a_cons s_v (a_cons s_v (a_cons s_v a_nil))))) (aLen_cons (aLen_cons (aLen_cons (aLen_cons (aLen_cons aLen_nil)))))) (g_tup rfl (gs_cons (g_n sc.nd) (gs_cons (g_n sc.nd) gs_nil)) rfl rfl (gCons_len (gCons_len gNil_len))))
 (ss_cons (s_set sc.nd rfl (by first | exact Or.inl rfl | exact Or.inr rfl) (s_bin od_add (s_callB c_len rfl h_len (by decide +kernel) (a_cons (s_fn (F__law_band.mono (by decide)) hr rfl (a_cons s_v (a_cons s_v (a_cons s_v (a_cons s_v a_nil)))) (aLen_cons (aLen_cons (aLen_cons (aLen_cons aLen_nil))))) a_nil)) (s_callB c_len rfl h_len (by decide +kernel) (a_cons (s_fn (F__law_band.mono (by decide)) hr rfl (a_cons s_v (a_cons s_v (a_cons s_v (a_cons s_v a_nil)))) (aLen_cons (aLen_cons (aLen_cons (aLen_cons aLen_nil))))) a_nil))))
 (ss_cons (s_ifS (SW.t (w_or (t_cmp (od_ne hu) s_v s_v) (w_or (t_cmp (od_ne hu) s_v s_v) (w_or1 (t_cmp (od_ne hu) (s_callB (c_sum rfl) rfl h_sum (by decide +kernel) (a_cons (s_fn (F_both_bands.mono (by decide)) hr rfl (a_cons s_v (a_cons s_v (a_cons s_v (a_cons s_v (a_cons s_v a_nil))))) (aLen_cons (aLen_cons (aLen_cons (aLen_cons (aLen_cons aLen_nil)))))) a_nil)) s_v)))))
 (ss_one (s_ret s_bl))
 ss_nil)
 (ss_cons (s_ifS (SW.t (w_and (t_of s_v) (w_and1 (t_cmp (od_ne hu) s_v (s_bin od_add s_v s_v)))))
 (ss_one (s_ret s_bl))
 ss_nil)
 (ss_cons (s_set sc.nd rfl (by first | exact Or.inl rfl | exact Or.inr rfl) (s_fn (F_offsets_of_line.mono (by decide)) hr rfl (a_cons s_v (a_cons s_v (a_cons s_v (a_cons s_v a_nil)))) (aLen_cons (aLen_cons (aLen_cons (aLen_cons aLen_nil))))))
 (ss_one (s_ifS (SW.t (w_or (t_cmp (od_ne hu) (s_callB c_len rfl h_len (by decide +kernel) (a_cons (s_fn (F_band.mono (by decide)) hr rfl (a_cons s_v (a_cons s_v (a_cons s_v (a_cons s_v a_nil)))) (aLen_cons (aLen_cons (aLen_cons (aLen_cons aLen_nil))))) a_nil)) s_v) (w_or1 (t_cmp (od_ne hu) (s_ix (s_fn (F_both_bands.mono (by decide)) hr rfl (a_cons s_v (a_cons s_v (a_cons s_v (a_cons s_v (a_cons s_v a_nil))))) (aLen_cons (aLen_cons (aLen_cons (aLen_cons (aLen_cons aLen_nil)))))) s_int) s_v))))
 (ss_one (s_ret s_bl))
 ss_nil)))))))))))))))))))
 (ss_one (s_ret s_bl)))
end GW
end

noncomputable section
namespace GW
open GH
def eP (p : Int × Int) : D := .tup [.int p.1, .int p.2]
def ePs (l : List (Int × Int)) : D := .tup (l.map eP)
def eIs (l : List Int) : D := .tup (l.map D.int)
def arr : List (Int × Int) → Int → List Int
  | [], _ => []
  | p :: r, t => (t + p.2) :: arr r (t + p.2)
theorem arr_len : ∀ l t, (arr l t).length = l.length
  | [], _ => rfl
  | p :: r, t => by simp [arr, arr_len r]
theorem arr_loop (a0 a1 : Option Sl) (c : Src) : ∀ (l : List (Int × Int)) (t : Int) (acc : List D) (x4 x5 : Option Sl), acc.length + l.length ≤ 100000 → ∃ t' y4 y5,
    forM (gT (gCons (gN 4) (gCons (gN 5) gNil))) (sSeq (sAug 3 (fun i j => i + j) (eVar 5)) (sExpr (eApp 2 (eVar 3)))) (l.map eP) ⟨[a0, a1, some (.own acc), some (.val (.int t)), x4, x5], c⟩
      = some (.nx, ⟨[a0, a1, some (.own (acc ++ (arr l t).map D.int)), t', y4, y5], c⟩)
  | [], t, acc, x4, x5, _ => ⟨some (.val (.int t)), x4, x5, by simp [for_nil, arr]⟩
  | p :: r, t, acc, x4, x5, h => by
    simp only [List.length_cons] at h
    obtain ⟨t', y4, y5, e⟩ := arr_loop a0 a1 c r (t + p.2) (acc ++ [.int (t + p.2)]) (some (.val (.int p.1))) (some (.val (.int p.2))) (by simp; omega)
    refine ⟨t', y4, y5, ?_⟩
    rw [List.map_cons, for_nx (s1 := ⟨[a0, a1, some (.own acc), some (.val (.int t)), some (.val (.int p.1)), some (.val (.int p.2))], c⟩) (s2 := ⟨[a0, a1, some (.own (acc ++ [.int (t + p.2)])), some (.val (.int (t + p.2))), some (.val (.int p.1)), some (.val (.int p.2))], c⟩) rfl ?_, e]
    · simp [arr]
    · have hl : acc.length < PySem.sizeLine := Nat.lt_of_lt_of_le (by omega) (sz 100000 (by omega))
      rw [seq_nx (s1 := ⟨[a0, a1, some (.own acc), some (.val (.int (t + p.2))), some (.val (.int p.1)), some (.val (.int p.2))], c⟩) rfl]
      simp [sExpr, eApp, bndE, ownHere, eVar, putL, appL, hl, ret]
theorem S_arrivals_eq (l : List (Int × Int)) (t : Int) (c : Src) (h : l.length ≤ 100000) : S_arrivals [ePs l, .int t] c = some (eIs (arr l t), c) := by
  obtain ⟨t', y4, y5, e⟩ := arr_loop (some (.val (ePs l))) (some (.val (.int t))) c l t [] none none (by simpa using h)
  refine fnOf_ret (env := ?_) ?_
  rotate_left
  · unfold m_arrivals
    rw [seq_nx (s1 := ⟨[some (.val (ePs l)), some (.val (.int t)), some (.own []), some (.val (.int t)), none, none], c⟩) (by rfl), seq_nx (m := sFor _ _ _) (by rw [for_eq (ds := l.map eP) (s1 := _) (by rfl)]; exact e)]
    rfl

def offAt (off : List Int) (c : Int) : Int := off.getD c.toNat 0
theorem ix_ints (off : List Int) (c : Int) (h : 0 ≤ c) (h2 : c < off.length) : L2.atI (off.map D.int) c = some (.int (offAt off c)) := by
  unfold L2.atI L2.ixN
  rw [List.length_map, if_pos h, if_pos h2]
  show (off.map D.int)[c.toNat]? = _
  rw [List.getElem?_map]
  unfold offAt
  have : c.toNat < off.length := by omega
  rw [List.getD_eq_getElem?_getD, List.getElem?_eq_getElem this]
  rfl
def passG (L : Int) (off : List Int) : List (Int × Int) → List (Int × Int) → List Int → Bool
  | p :: l, g :: gs, t :: ts => decide ((t - offAt off p.1 - g.1).fmod L < g.2) && passG L off l gs ts
  | _, _, _ => true
def inOff (off : List Int) (l : List (Int × Int)) : Prop := ∀ p ∈ l, 0 ≤ p.1 ∧ p.1 < off.length
theorem pass_loop (a0 a1 a4 : Option Sl) (c : Src) (L : Int) (off : List Int) (hL : L ≠ 0) : ∀ (l gs : List (Int × Int)) (ts : List Int) (x5 x6 x7 x8 x9 : Option Sl), inOff off l → ∃ env',
    forM (gT (gCons (gT (gCons (gN 5) (gCons (gN 6) gNil))) (gCons (gT (gCons (gN 7) (gCons (gN 8) gNil))) (gCons (gN 9) gNil))))
      (sIf (tst (eBin geD (eBin modD (eBin subD (eBin subD (eVar 9) (eBin ixD (eVar 3) (eVar 5))) (eVar 7)) (eVar 2)) (eVar 8))) (sRet (eC (.bl false))) sNx)
      (zipF3 (l.map eP) (gs.map eP) (ts.map D.int)) ⟨[a0, a1, some (.val (.int L)), some (.val (eIs off)), a4, x5, x6, x7, x8, x9], c⟩
      = some (if passG L off l gs ts = true then .nx else .ret (.bl false), ⟨env', c⟩)
  | [], gs, ts, x5, x6, x7, x8, x9, _ => ⟨_, by simp [zipF3, for_nil, passG]; rfl⟩
  | p :: l, [], ts, x5, x6, x7, x8, x9, _ => ⟨_, by simp [zipF3, for_nil, passG]; rfl⟩
  | p :: l, g :: gs, [], x5, x6, x7, x8, x9, _ => ⟨_, by simp [zipF3, for_nil, passG]; rfl⟩
  | p :: l, g :: gs, t :: ts, x5, x6, x7, x8, x9, h => by
    have hp := h p List.mem_cons_self
    have hi := ix_ints off p.1 hp.1 hp.2
    let env1 : List (Option Sl) := [a0, a1, some (.val (.int L)), some (.val (eIs off)), a4, some (.val (.int p.1)), some (.val (.int p.2)), some (.val (.int g.1)), some (.val (.int g.2)), some (.val (.int t))]
    have ev : tst (eBin geD (eBin modD (eBin subD (eBin subD (eVar 9) (eBin ixD (eVar 3) (eVar 5))) (eVar 7)) (eVar 2)) (eVar 8)) ⟨env1, c⟩ = some (decide (g.2 ≤ (t - offAt off p.1 - g.1).fmod L), ⟨env1, c⟩) := by
      refine tst_eq (bin_eq (f := geD) (s1 := ⟨env1, c⟩) (x := .int ((t - offAt off p.1 - g.1).fmod L)) (y := .int g.2) ?_ (by rfl) rfl)
      refine bin_eq (f := modD) (s1 := ⟨env1, c⟩) (x := .int (t - offAt off p.1 - g.1)) (y := .int L) ?_ (by rfl) (mod_ok hL)
      refine bin_eq (f := subD) (s1 := ⟨env1, c⟩) (x := .int (t - offAt off p.1)) (y := .int g.1) ?_ (by rfl) rfl
      refine bin_eq (f := subD) (s1 := ⟨env1, c⟩) (x := .int t) (y := .int (offAt off p.1)) (by rfl) ?_ rfl
      exact bin_eq (f := ixD) (s1 := ⟨env1, c⟩) (x := eIs off) (y := .int p.1) (by rfl) (by rfl) hi
    by_cases hk : (t - offAt off p.1 - g.1).fmod L < g.2
    · obtain ⟨env', e⟩ := pass_loop a0 a1 a4 c L off hL l gs ts (some (.val (.int p.1))) (some (.val (.int p.2))) (some (.val (.int g.1))) (some (.val (.int g.2))) (some (.val (.int t))) fun q hq => h q (List.mem_cons_of_mem _ hq)
      refine ⟨env', ?_⟩
      rw [List.map_cons, List.map_cons, List.map_cons, zipF3, for_nx (s1 := ⟨env1, c⟩) (s2 := ⟨env1, c⟩) (by rfl) (by rw [if_ff (s1 := ⟨env1, c⟩) (by rw [ev]; simp; omega)]; rfl), e]
      simp [passG, hk]
    · refine ⟨env1, ?_⟩
      rw [List.map_cons, List.map_cons, List.map_cons, zipF3, for_ret (s1 := ⟨env1, c⟩) (s2 := ⟨env1, c⟩) (v := .bl false) (by rfl) (by rw [if_tt (s1 := ⟨env1, c⟩) (by rw [ev]; simp; omega)]; rfl)]
      simp [passG, hk]
theorem S_passes_eq (l gs : List (Int × Int)) (L : Int) (off : List Int) (t : Int) (c : Src) (hL : L ≠ 0) (h : inOff off l) (hl : l.length ≤ 100000) :
    S_passes [ePs l, ePs gs, .int L, eIs off, .int t] c = some (.bl (passG L off l gs (arr l t)), c) := by
  obtain ⟨env', e⟩ := pass_loop (some (.val (ePs l))) (some (.val (ePs gs))) (some (.val (.int t))) c L off hL l gs (arr l t) none none none none none h
  have hit : sFor (iZip3 (eVar 0) (eVar 1) (eFn S_arrivals (aCons (eVar 0) (aCons (eVar 4) aNil)))) (gT (gCons (gT (gCons (gN 5) (gCons (gN 6) gNil))) (gCons (gT (gCons (gN 7) (gCons (gN 8) gNil))) (gCons (gN 9) gNil))))
      (sIf (tst (eBin geD (eBin modD (eBin subD (eBin subD (eVar 9) (eBin ixD (eVar 3) (eVar 5))) (eVar 7)) (eVar 2)) (eVar 8))) (sRet (eC (.bl false))) sNx)
      ⟨[some (.val (ePs l)), some (.val (ePs gs)), some (.val (.int L)), some (.val (eIs off)), some (.val (.int t)), none, none, none, none, none], c⟩ = some (if passG L off l gs (arr l t) = true then .nx else .ret (.bl false), ⟨env', c⟩) := by
    rw [for_eq (ds := zipF3 (l.map eP) (gs.map eP) ((arr l t).map D.int)) (s1 := ⟨[some (.val (ePs l)), some (.val (ePs gs)), some (.val (.int L)), some (.val (eIs off)), some (.val (.int t)), none, none, none, none, none], c⟩)]
    · exact e
    · unfold iZip3
      rw [bnd_eq (a := ePs l) (s1 := ⟨_, c⟩) (by rfl), bnd_eq (a := ePs gs) (s1 := ⟨_, c⟩) (by rfl), bnd_eq (a := eIs (arr l t)) (fn_eq (ds := [ePs l, .int t]) (by rfl) (S_arrivals_eq l t c hl))]
      rfl
  cases hp : passG L off l gs (arr l t) with
  | true =>
    rw [hp] at hit
    refine fnOf_ret (env := env') ?_
    unfold m_passes
    exact (seq_nx hit).trans (by rfl)
  | false =>
    rw [hp] at hit
    refine fnOf_ret (env := env') ?_
    unfold m_passes
    exact seq_ret hit
end GW
end

noncomputable section
namespace GW
open GH
def bandL (L : Int) (off : List Int) (l gs : List (Int × Int)) : List Int := ((List.range L.toNat).map fun i => ((i : Nat) : Int)).filter fun s => passG L off l gs (arr l s)
theorem rngL0 (L : Int) : rngL 0 L = (List.range L.toNat).map fun i => D.int ((i : Nat) : Int) := by unfold rngL; simp
theorem okR_of {L : Int} (h : 0 ≤ L) (h2 : L ≤ 100000) : okR L := ⟨by omega, by omega⟩
theorem filterMap_int (p : Int → Bool) (xs : List Nat) : (xs.filterMap fun i => if p ((i : Nat) : Int) = true then some (D.int ((i : Nat) : Int)) else none) = (((xs.map fun i => ((i : Nat) : Int)).filter p).map D.int) := by
  induction xs with
  | nil => rfl
  | cons x r ih =>
    rw [List.filterMap_cons, List.map_cons, List.filter_cons]
    by_cases h : p ((x : Nat) : Int) = true
    · simp only [h, if_true]; rw [ih]; rfl
    · simp only [h]; rw [ih]; rfl
theorem S_band_eq (l gs : List (Int × Int)) (L : Int) (off : List Int) (c : Src) (hL : 0 < L) (hL2 : L ≤ 100000) (h : inOff off l) (hl : l.length ≤ 100000) :
    S_band [ePs l, ePs gs, .int L, eIs off] c = some (eIs (bandL L off l gs), c) := by
  let env : List (Option Sl) := [some (.val (ePs l)), some (.val (ePs gs)), some (.val (.int L)), some (.val (eIs off)), none]
  refine fnOf_ret (env := env) ?_
  unfold m_band
  refine ret_eq (call_eq (ds := [.lst ((bandL L off l gs).map D.int)]) (one_eq (lst_eq ?_)) (by rfl))
  unfold bandL
  rw [← filterMap_int]
  refine comp_pure (enc := fun i : Nat => D.int (i : Int)) (src1 := c) ?_ (by simp; omega) ?_ fun i hi => ?_
  · rw [← rngL0]
    unfold iRg1
    exact (bnd_eq (a := .int L) (s1 := ⟨env, c⟩) (by rfl)).trans (by show (if okR L then ret (rngL 0 L) else fail) _ = _; rw [if_pos (okR_of (by omega) hL2)]; rfl)
  · intro v hv x hx
    simp at hv
    subst hv
    cases hx
  · let env1 : List (Option Sl) := [some (.val (ePs l)), some (.val (ePs gs)), some (.val (.int L)), some (.val (eIs off)), some (.val (.int (i : Int)))]
    refine ⟨env1, ?_, by rfl⟩
    have e1 : tru (eFn S_passes (aCons (eVar 0) (aCons (eVar 1) (aCons (eVar 2) (aCons (eVar 3) (aCons (eVar 4) aNil)))))) ⟨env1, c⟩ = some (passG L off l gs (arr l i), ⟨env1, c⟩) :=
      tru_eq (fn_eq (ds := [ePs l, ePs gs, .int L, eIs off, .int (i : Int)]) (by rfl) (S_passes_eq l gs L off i c (by omega) h hl))
    unfold turnC
    rw [bnd_eq (a := ()) (s1 := ⟨env1, c⟩) (by rfl), bnd_eq e1]
    cases passG L off l gs (arr l i) <;> rfl
theorem rest_eq (a L : Int) (c : Src) (hL : L ≠ 0) : S__law_rest [.int a, .int L] c = some (.int (a.fmod L), c) := by
  refine fnOf_ret (env := [some (.val (.int a)), some (.val (.int L))]) ?_
  unfold m__law_rest
  exact ret_eq (bin_eq (f := modD) (x := .int a) (y := .int L) (by rfl) (by rfl) (mod_ok hL))
theorem ticks_loop (a0 a1 : Option Sl) (c : Src) : ∀ (l : List (Int × Int)) (t : Int) (acc : List D) (x4 x5 : Option Sl), acc.length + l.length ≤ 100000 → ∃ t' y4 y5,
    forM (gT (gCons (gN 4) (gCons (gN 5) gNil))) (sSeq (sSet 3 (eBin addD (eVar 3) (eVar 5))) (sExpr (eApp 2 (eVar 3)))) (l.map eP) ⟨[a0, a1, some (.own acc), some (.val (.int t)), x4, x5], c⟩
      = some (.nx, ⟨[a0, a1, some (.own (acc ++ (arr l t).map D.int)), t', y4, y5], c⟩)
  | [], t, acc, x4, x5, _ => ⟨some (.val (.int t)), x4, x5, by simp [for_nil, arr]⟩
  | p :: r, t, acc, x4, x5, h => by
    simp only [List.length_cons] at h
    obtain ⟨t', y4, y5, e⟩ := ticks_loop a0 a1 c r (t + p.2) (acc ++ [.int (t + p.2)]) (some (.val (.int p.1))) (some (.val (.int p.2))) (by simp; omega)
    refine ⟨t', y4, y5, ?_⟩
    rw [List.map_cons, for_nx (s1 := ⟨[a0, a1, some (.own acc), some (.val (.int t)), some (.val (.int p.1)), some (.val (.int p.2))], c⟩) (s2 := ⟨[a0, a1, some (.own (acc ++ [.int (t + p.2)])), some (.val (.int (t + p.2))), some (.val (.int p.1)), some (.val (.int p.2))], c⟩) rfl ?_, e]
    · simp [arr]
    · have hl : acc.length < PySem.sizeLine := Nat.lt_of_lt_of_le (by omega) (sz 100000 (by omega))
      rw [seq_nx (s1 := ⟨[a0, a1, some (.own acc), some (.val (.int (t + p.2))), some (.val (.int p.1)), some (.val (.int p.2))], c⟩) rfl]
      simp [sExpr, eApp, bndE, ownHere, eVar, putL, appL, hl, ret]
theorem ticks_eq (l : List (Int × Int)) (t : Int) (c : Src) (h : l.length ≤ 100000) : S__law_line_ticks [ePs l, .int t] c = some (.lst ((arr l t).map D.int), c) := by
  obtain ⟨t', y4, y5, e⟩ := ticks_loop (some (.val (ePs l))) (some (.val (.int t))) c l t [] none none (by simpa using h)
  refine fnOf_ret (env := ?_) ?_
  rotate_left
  · unfold m__law_line_ticks
    rw [seq_nx (s1 := ⟨[some (.val (ePs l)), some (.val (.int t)), some (.own []), some (.val (.int t)), none, none], c⟩) (by rfl), seq_nx (m := sFor _ _ _) (by rw [for_eq (ds := l.map eP) (s1 := _) (by rfl)]; exact e)]
    rfl
/-- the inner loop of the law's own band -/
theorem on_loop (a0 a1 a4 a5 : Option Sl) (c : Src) (L : Int) (off : List Int) (hL : L ≠ 0) : ∀ (l gs : List (Int × Int)) (ts : List Int) (b : Bool) (x7 x8 x9 : Option Sl), inOff off l → ∃ y7 y8 y9,
    forM (gT (gCons (gN 7) (gCons (gN 8) (gCons (gN 9) gNil))))
      (sSet 6 (eAnd (eVar 6) (eBin ltD (eFn S__law_rest (aCons (eBin subD (eBin subD (eVar 9) (eBin ixD (eVar 3) (eBin ixD (eVar 7) (eC (.int 0))))) (eBin ixD (eVar 8) (eC (.int 0)))) (aCons (eVar 2) aNil))) (eBin ixD (eVar 8) (eC (.int 1))))))
      (zipF3 (l.map eP) (gs.map eP) (ts.map D.int)) ⟨[a0, a1, some (.val (.int L)), some (.val (eIs off)), a4, a5, some (.val (.bl b)), x7, x8, x9], c⟩
      = some (.nx, ⟨[a0, a1, some (.val (.int L)), some (.val (eIs off)), a4, a5, some (.val (.bl (b && passG L off l gs ts))), y7, y8, y9], c⟩)
  | [], gs, ts, b, x7, x8, x9, _ => ⟨x7, x8, x9, by simp [zipF3, for_nil, passG]⟩
  | p :: l, [], ts, b, x7, x8, x9, _ => ⟨x7, x8, x9, by simp [zipF3, for_nil, passG]⟩
  | p :: l, g :: gs, [], b, x7, x8, x9, _ => ⟨x7, x8, x9, by simp [zipF3, for_nil, passG]⟩
  | p :: l, g :: gs, t :: ts, b, x7, x8, x9, h => by
    have hp := h p List.mem_cons_self
    have hi := ix_ints off p.1 hp.1 hp.2
    let env1 : Bool → List (Option Sl) := fun b => [a0, a1, some (.val (.int L)), some (.val (eIs off)), a4, a5, some (.val (.bl b)), some (.val (eP p)), some (.val (eP g)), some (.val (.int t))]
    have ev : eBin ltD (eFn S__law_rest (aCons (eBin subD (eBin subD (eVar 9) (eBin ixD (eVar 3) (eBin ixD (eVar 7) (eC (.int 0))))) (eBin ixD (eVar 8) (eC (.int 0)))) (aCons (eVar 2) aNil))) (eBin ixD (eVar 8) (eC (.int 1))) ⟨env1 b, c⟩
        = some (.bl (decide ((t - offAt off p.1 - g.1).fmod L < g.2)), ⟨env1 b, c⟩) := by
      refine bin_eq (f := ltD) (s1 := ⟨env1 b, c⟩) (x := .int ((t - offAt off p.1 - g.1).fmod L)) (y := .int g.2) ?_ (by rfl) rfl
      refine fn_eq (env := env1 b) (c0 := c) (ds := [.int (t - offAt off p.1 - g.1), .int L]) ?_ (rest_eq _ L c hL)
      refine cons_eq (s1 := ⟨env1 b, c⟩) ?_ (by rfl)
      refine bin_eq (f := subD) (s1 := ⟨env1 b, c⟩) (x := .int (t - offAt off p.1)) (y := .int g.1) ?_ (by rfl) rfl
      refine bin_eq (f := subD) (s1 := ⟨env1 b, c⟩) (x := .int t) (y := .int (offAt off p.1)) (by rfl) ?_ rfl
      exact bin_eq (f := ixD) (s1 := ⟨env1 b, c⟩) (x := eIs off) (y := .int p.1) (by rfl) (by rfl) hi
    have ev2 : eAnd (eVar 6) (eBin ltD (eFn S__law_rest (aCons (eBin subD (eBin subD (eVar 9) (eBin ixD (eVar 3) (eBin ixD (eVar 7) (eC (.int 0))))) (eBin ixD (eVar 8) (eC (.int 0)))) (aCons (eVar 2) aNil))) (eBin ixD (eVar 8) (eC (.int 1)))) ⟨env1 b, c⟩
        = some (.bl (b && decide ((t - offAt off p.1 - g.1).fmod L < g.2)), ⟨env1 b, c⟩) := by
      unfold eAnd
      rw [bnd_eq (a := .bl b) (s1 := ⟨env1 b, c⟩) (by rfl), bnd_eq (a := b) (s1 := ⟨env1 b, c⟩) (by rfl)]
      cases b with
      | true => rw [if_pos rfl, ev]; simp
      | false => rw [if_neg (by decide)]; rfl
    obtain ⟨y7, y8, y9, e⟩ := on_loop a0 a1 a4 a5 c L off hL l gs ts (b && decide ((t - offAt off p.1 - g.1).fmod L < g.2)) (some (.val (eP p))) (some (.val (eP g))) (some (.val (.int t))) fun q hq => h q (List.mem_cons_of_mem _ hq)
    refine ⟨y7, y8, y9, ?_⟩
    rw [List.map_cons, List.map_cons, List.map_cons, zipF3, for_nx (s1 := ⟨env1 b, c⟩) (s2 := ⟨env1 (b && decide ((t - offAt off p.1 - g.1).fmod L < g.2)), c⟩) (by rfl) (set_eq ev2 (by show 6 < 10; decide)), e]
    simp [passG, Bool.and_assoc]
theorem band_loop (l gs : List (Int × Int)) (L : Int) (off : List Int) (c : Src) (hL : L ≠ 0) (h : inOff off l) (hl : l.length ≤ 100000) : ∀ (xs : List Nat) (acc : List Int) (x5 x6 x7 x8 x9 : Option Sl), acc.length + xs.length ≤ 100000 → ∃ y5 y6 y7 y8 y9,
    forM (gN 5) (sSeq (sSet 6 (eC (.bl true)))
      (sSeq (sFor (iZip3 (eVar 0) (eVar 1) (eFn S__law_line_ticks (aCons (eVar 0) (aCons (eVar 5) aNil)))) (gT (gCons (gN 7) (gCons (gN 8) (gCons (gN 9) gNil))))
        (sSet 6 (eAnd (eVar 6) (eBin ltD (eFn S__law_rest (aCons (eBin subD (eBin subD (eVar 9) (eBin ixD (eVar 3) (eBin ixD (eVar 7) (eC (.int 0))))) (eBin ixD (eVar 8) (eC (.int 0)))) (aCons (eVar 2) aNil))) (eBin ixD (eVar 8) (eC (.int 1)))))))
      (sSet 4 (eBin addD (eVar 4) (eBin mulD (eLst (lDisp (aCons (eVar 5) aNil))) (eCall intG (aCons (eVar 6) aNil)))))))
      (xs.map fun i => D.int ((i : Nat) : Int)) ⟨[some (.val (ePs l)), some (.val (ePs gs)), some (.val (.int L)), some (.val (eIs off)), some (.val (.lst (acc.map D.int))), x5, x6, x7, x8, x9], c⟩
      = some (.nx, ⟨[some (.val (ePs l)), some (.val (ePs gs)), some (.val (.int L)), some (.val (eIs off)), some (.val (.lst ((acc ++ (xs.map fun i => ((i : Nat) : Int)).filter fun s => passG L off l gs (arr l s)).map D.int))), y5, y6, y7, y8, y9], c⟩)
  | [], acc, x5, x6, x7, x8, x9, _ => ⟨x5, x6, x7, x8, x9, by simp [for_nil]⟩
  | i :: xs, acc, x5, x6, x7, x8, x9, hlen => by
    simp only [List.length_cons] at hlen
    let fr := some (Sl.val (.lst (acc.map D.int)))
    let b := passG L off l gs (arr l i)
    obtain ⟨z7, z8, z9, e1⟩ := on_loop (some (.val (ePs l))) (some (.val (ePs gs))) fr (some (.val (.int (i : Int)))) c L off hL l gs (arr l i) true x7 x8 x9 h
    let add : List Int := if b = true then [(i : Int)] else []
    have hadd : add.length ≤ 1 := by show (if b = true then [(i : Int)] else []).length ≤ 1; split <;> simp
    have hsum : acc ++ add ++ ((xs.map fun i => ((i : Nat) : Int)).filter fun s => passG L off l gs (arr l s)) = acc ++ (((i :: xs).map fun i => ((i : Nat) : Int)).filter fun s => passG L off l gs (arr l s)) := by
      rw [List.map_cons, List.filter_cons, List.append_assoc]
      show acc ++ ((if b = true then [(i : Int)] else []) ++ _) = acc ++ (if b = true then _ else _)
      cases b <;> rfl
    obtain ⟨y5, y6, y7, y8, y9, e⟩ := band_loop l gs L off c hL h hl xs (acc ++ add) (some (.val (.int (i : Int)))) (some (.val (.bl (true && b)))) z7 z8 z9 (by simp only [List.length_append]; omega)
    refine ⟨y5, y6, y7, y8, y9, ?_⟩
    rw [List.map_cons, for_nx (s1 := ⟨[some (.val (ePs l)), some (.val (ePs gs)), some (.val (.int L)), some (.val (eIs off)), fr, some (.val (.int (i : Int))), x6, x7, x8, x9], c⟩)
      (s2 := ⟨[some (.val (ePs l)), some (.val (ePs gs)), some (.val (.int L)), some (.val (eIs off)), some (.val (.lst ((acc ++ add).map D.int))), some (.val (.int (i : Int))), some (.val (.bl (true && b))), z7, z8, z9], c⟩) (by rfl) ?_, e]
    · rw [hsum]
    · rw [seq_nx (s1 := ⟨[some (.val (ePs l)), some (.val (ePs gs)), some (.val (.int L)), some (.val (eIs off)), fr, some (.val (.int (i : Int))), some (.val (.bl true)), x7, x8, x9], c⟩) (by rfl)]
      rw [seq_nx (m := sFor _ _ _) (by
        rw [for_eq (ds := zipF3 (l.map eP) (gs.map eP) ((arr l i).map D.int)) (s1 := ⟨[some (.val (ePs l)), some (.val (ePs gs)), some (.val (.int L)), some (.val (eIs off)), fr, some (.val (.int (i : Int))), some (.val (.bl true)), x7, x8, x9], c⟩)]
        · exact e1
        · unfold iZip3
          rw [bnd_eq (a := ePs l) (s1 := ⟨_, c⟩) (by rfl), bnd_eq (a := ePs gs) (s1 := ⟨_, c⟩) (by rfl), bnd_eq (a := .lst ((arr l i).map D.int)) (fn_eq (ds := [ePs l, .int (i : Int)]) (by rfl) (ticks_eq l i c hl))]
          rfl)]
      refine set_eq (env := [some (.val (ePs l)), some (.val (ePs gs)), some (.val (.int L)), some (.val (eIs off)), fr, some (.val (.int (i : Int))), some (.val (.bl (true && b))), z7, z8, z9]) ?_ (by show 4 < 10; decide)
      refine bin_eq (f := addD) (s1 := ⟨[some (.val (ePs l)), some (.val (ePs gs)), some (.val (.int L)), some (.val (eIs off)), fr, some (.val (.int (i : Int))), some (.val (.bl (true && b))), z7, z8, z9], c⟩) (x := .lst (acc.map D.int)) (y := .lst (add.map D.int)) (by rfl) ?_ ?_
      · refine bin_eq (f := mulD) (s1 := ⟨[some (.val (ePs l)), some (.val (ePs gs)), some (.val (.int L)), some (.val (eIs off)), fr, some (.val (.int (i : Int))), some (.val (.bl (true && b))), z7, z8, z9], c⟩) (x := .lst [.int (i : Int)]) (y := .int (if (true && b) = true then 1 else 0)) (by rfl) (by rfl) ?_
        show (if -(2 ^ 63) ≤ (if (true && b) = true then (1 : Int) else 0) ∧ (if (true && b) = true then (1 : Int) else 0) < 2 ^ 63 ∧ ([D.int (i : Int)] : List D).length * (if (true && b) = true then (1 : Int) else 0).toNat ≤ PySem.sizeLine then some (D.lst (List.replicate (if (true && b) = true then (1 : Int) else 0).toNat [D.int (i : Int)]).flatten) else none) = _
        show _ = some (D.lst ((if b = true then [(i : Int)] else []).map D.int))
        cases b <;> rfl
      · show (if (acc.map D.int).length + (add.map D.int).length ≤ PySem.sizeLine then some (D.lst (acc.map D.int ++ add.map D.int)) else none) = _
        rw [if_pos (sz _ (by simp only [List.length_map]; omega))]
        simp
theorem law_band_eq (l gs : List (Int × Int)) (L : Int) (off : List Int) (c : Src) (hL : 0 < L) (hL2 : L ≤ 100000) (h : inOff off l) (hl : l.length ≤ 100000) :
    S__law_band [ePs l, ePs gs, .int L, eIs off] c = some (eIs (bandL L off l gs), c) := by
  obtain ⟨y5, y6, y7, y8, y9, e⟩ := band_loop l gs L off c (by omega) h hl (List.range L.toNat) [] none none none none none (by simp; omega)
  refine fnOf_ret (env := ?_) ?_
  rotate_left
  · unfold m__law_band
    rw [seq_nx (s1 := ⟨[some (.val (ePs l)), some (.val (ePs gs)), some (.val (.int L)), some (.val (eIs off)), some (.val (.lst [])), none, none, none, none, none], c⟩) (by rfl)]
    rw [seq_nx (m := sFor _ _ _) (by
      rw [for_eq (ds := (List.range L.toNat).map fun i => D.int ((i : Nat) : Int)) (s1 := ⟨[some (.val (ePs l)), some (.val (ePs gs)), some (.val (.int L)), some (.val (eIs off)), some (.val (.lst [])), none, none, none, none, none], c⟩)]
      · exact e
      · rw [← rngL0]
        unfold iRg1
        exact (bnd_eq (a := .int L) (s1 := ⟨_, c⟩) (by rfl)).trans (by show (if okR L then ret (rngL 0 L) else fail) _ = _; rw [if_pos (okR_of (by omega) hL2)]; rfl))]
    rfl
end GW
end

noncomputable section
namespace GW
open GH
theorem clean_nones {env : List (Option Sl)} {vs : List Nat} (h : ∀ v ∈ vs, env[v]? = some none ∨ env[v]? = none) : cleanE env vs := fun v hv x hx => by
  rcases h v hv with z | z <;> rw [z] at hx <;> cases hx
/-- the least length -/
def least (gs : List (Int × Int)) : Int := minL (gs.map (·.2))
theorem min_ints (ns : List Int) (h : ns ≠ []) : minG [.lst (ns.map D.int)] = some (.int (minL ns)) := by
  show ((toInts (ns.map D.int)).bind fun ns => if ns ≠ [] then some (D.int (minL ns)) else none) = _
  rw [toInts_map]
  show (if ns ≠ [] then some (D.int (minL ns)) else none) = _
  rw [if_pos h]
theorem max_ints (ns : List Int) (h : ns ≠ []) : maxG [.lst (ns.map D.int)] = some (.int (maxL ns)) := by
  show ((toInts (ns.map D.int)).bind fun ns => if ns ≠ [] then some (D.int (maxL ns)) else none) = _
  rw [toInts_map]
  show (if ns ≠ [] then some (D.int (maxL ns)) else none) = _
  rw [if_pos h]
theorem band_bound_eq (gs : List (Int × Int)) (c : Src) (h : gs ≠ []) (hl : gs.length ≤ 100000) : S_band_bound [ePs gs] c = some (.int (least gs), c) := by
  let env : List (Option Sl) := [some (.val (ePs gs)), none, none]
  refine fnOf_ret (env := env) ?_
  unfold m_band_bound
  refine ret_eq (call_eq (ds := [.lst ((gs.map (·.2)).map D.int)]) (one_eq (lst_eq ?_)) (min_ints _ (by simpa using h)))
  rw [List.map_map]
  refine comp_map (enc := eP) (f := D.int ∘ fun x => x.2) (src1 := c) (by rfl) hl (clean_nones fun v hv => by simp at hv; rcases hv with rfl | rfl <;> exact .inl rfl) fun g hg => ?_
  exact ⟨[some (.val (ePs gs)), some (.val (.int g.1)), some (.val (.int g.2))], by rfl, by rfl⟩

def tellF (g0 L : Int) : List Int → List (Int × Int) → List (Int × Int) → List Int → List Int
  | off, p :: l, g :: gs, t :: ts => tellF g0 L (off.set p.1.toNat ((g0 + t - g.1).fmod L)) l gs ts
  | off, _, _, _ => off
def told (m : Nat) (l gs : List (Int × Int)) (L : Int) : List Int := tellF (gs.headD (0, 0)).1 L (List.replicate m 0) l gs (arr l 0)
theorem ixN_of {n : Nat} {i : Int} (h : 0 ≤ i) (h2 : i < n) : L2.ixN n i = some i.toNat := by
  unfold L2.ixN; rw [if_pos h, if_pos h2]
theorem set_ints (off : List Int) (c v : Int) (h : 0 ≤ c) (h2 : c < off.length) : setL (.int c) (.int v) (off.map D.int) = some ((off.set c.toNat v).map D.int) := by
  show ((L2.ixN (off.map D.int).length c).map fun n => (off.map D.int).set n (.int v)) = _
  rw [ixN_of h (by simpa using h2)]
  simp [List.map_set]
theorem tell_loop (a0 a1 : Option Sl) (c : Src) (gall : List (Int × Int)) (g0 L : Int) (hg0 : gall.headD (0, 0) = (g0, (gall.headD (0, 0)).2)) (hne : gall ≠ []) (hL : L ≠ 0) : ∀ (l gs : List (Int × Int)) (ts : List Int) (off : List Int) (x5 x6 x7 x8 x9 : Option Sl), inOff off l → ∃ y5 y6 y7 y8 y9,
    forM (gT (gCons (gT (gCons (gN 5) (gCons (gN 6) gNil))) (gCons (gT (gCons (gN 7) (gCons (gN 8) gNil))) (gCons (gN 9) gNil))))
      (sSetIx 4 (eBin modD (eBin subD (eBin addD (eBin ixD (eBin ixD (eVar 2) (eC (.int 0))) (eC (.int 0))) (eVar 9)) (eVar 7)) (eVar 3)) (eVar 5))
      (zipF3 (l.map eP) (gs.map eP) (ts.map D.int)) ⟨[a0, a1, some (.val (ePs gall)), some (.val (.int L)), some (.own (off.map D.int)), x5, x6, x7, x8, x9], c⟩
      = some (.nx, ⟨[a0, a1, some (.val (ePs gall)), some (.val (.int L)), some (.own ((tellF g0 L off l gs ts).map D.int)), y5, y6, y7, y8, y9], c⟩)
  | [], gs, ts, off, x5, x6, x7, x8, x9, _ => ⟨x5, x6, x7, x8, x9, by simp [zipF3, for_nil, tellF]⟩
  | p :: l, [], ts, off, x5, x6, x7, x8, x9, _ => ⟨x5, x6, x7, x8, x9, by simp [zipF3, for_nil, tellF]⟩
  | p :: l, g :: gs, [], off, x5, x6, x7, x8, x9, _ => ⟨x5, x6, x7, x8, x9, by simp [zipF3, for_nil, tellF]⟩
  | p :: l, g :: gs, t :: ts, off, x5, x6, x7, x8, x9, h => by
    have hp := h p List.mem_cons_self
    let v : Int := (g0 + t - g.1).fmod L
    let env1 : List Int → List (Option Sl) := fun off => [a0, a1, some (.val (ePs gall)), some (.val (.int L)), some (.own (off.map D.int)), some (.val (.int p.1)), some (.val (.int p.2)), some (.val (.int g.1)), some (.val (.int g.2)), some (.val (.int t))]
    obtain ⟨y5, y6, y7, y8, y9, e⟩ := tell_loop a0 a1 c gall g0 L hg0 hne hL l gs ts (off.set p.1.toNat v) (some (.val (.int p.1))) (some (.val (.int p.2))) (some (.val (.int g.1))) (some (.val (.int g.2))) (some (.val (.int t))) fun q hq => by
      have := h q (List.mem_cons_of_mem _ hq)
      rw [List.length_set]; exact this
    refine ⟨y5, y6, y7, y8, y9, ?_⟩
    rw [List.map_cons, List.map_cons, List.map_cons, zipF3, for_nx (s1 := ⟨env1 off, c⟩) (s2 := ⟨env1 (off.set p.1.toNat v), c⟩) (by rfl) ?_, e]
    · rfl
    · have hix : eBin ixD (eBin ixD (eVar 2) (eC (.int 0))) (eC (.int 0)) ⟨env1 off, c⟩ = some (.int g0, ⟨env1 off, c⟩) := by
        cases gall with
        | nil => exact absurd rfl hne
        | cons q r =>
          have e0 : q.1 = g0 := congrArg Prod.fst hg0
          rw [← e0]
          refine bin_eq (f := ixD) (s1 := ⟨env1 off, c⟩) (x := eP q) (y := .int 0) (bin_eq (f := ixD) (s1 := ⟨env1 off, c⟩) (x := ePs (q :: r)) (y := .int 0) (by rfl) (by rfl) ?_) (by rfl) rfl
          show L2.atI ((q :: r).map eP) 0 = _
          unfold L2.atI L2.ixN
          simp
      have hv : eBin modD (eBin subD (eBin addD (eBin ixD (eBin ixD (eVar 2) (eC (.int 0))) (eC (.int 0))) (eVar 9)) (eVar 7)) (eVar 3) ⟨env1 off, c⟩ = some (.int v, ⟨env1 off, c⟩) := by
        refine bin_eq (f := modD) (s1 := ⟨env1 off, c⟩) (x := .int (g0 + t - g.1)) (y := .int L) ?_ (by rfl) (mod_ok hL)
        refine bin_eq (f := subD) (s1 := ⟨env1 off, c⟩) (x := .int (g0 + t)) (y := .int g.1) ?_ (by rfl) rfl
        exact bin_eq (f := addD) (s1 := ⟨env1 off, c⟩) (x := .int g0) (y := .int t) hix (by rfl) rfl
      unfold sSetIx
      rw [bnd_eq hv, bnd_eq (a := ()) (s1 := ⟨env1 off, c⟩) (by rfl), bnd_eq (a := .int p.1) (s1 := ⟨env1 off, c⟩) (by rfl)]
      have hput : putL 4 (setL (.int p.1) (.int v)) ⟨env1 off, c⟩ = some ((), ⟨env1 (off.set p.1.toNat v), c⟩) := by
        show (match setL (.int p.1) (.int v) (off.map D.int) with
          | some ds' => some ((), (⟨(env1 off).set 4 (some (.own ds')), c⟩ : S))
          | none => none) = _
        rw [set_ints off p.1 v hp.1 hp.2]
        rfl
      rw [bnd_eq hput]
      rfl
theorem zeros_map (m : Nat) : (List.range m).map (fun _ => D.int 0) = (List.replicate m 0).map D.int := by
  rw [List.map_replicate]
  refine List.ext_getElem (by simp) fun i h1 h2 => by simp
theorem told_eq (m : Nat) (l gs : List (Int × Int)) (L : Int) (c : Src) (hm : m ≤ 1000) (hL : L ≠ 0) (hne : gs ≠ []) (h : ∀ p ∈ l, 0 ≤ p.1 ∧ p.1 < m) (hl : l.length ≤ 100000) :
    S_offsets_of_line [.int m, ePs l, ePs gs, .int L] c = some (eIs (told m l gs L), c) := by
  let g0 := (gs.headD (0, 0)).1
  obtain ⟨y5, y6, y7, y8, y9, e⟩ := tell_loop (some (.val (.int m))) (some (.val (ePs l))) c gs g0 L rfl hne hL l gs (arr l 0) (List.replicate m 0) none none none none none (fun p hp => by simpa using h p hp)
  let env0 : List (Option Sl) := [some (.val (.int m)), some (.val (ePs l)), some (.val (ePs gs)), some (.val (.int L)), none, none, none, none, none, none]
  refine fnOf_ret (env := ?_) ?_
  rotate_left
  · unfold m_offsets_of_line
    rw [seq_nx (s1 := ⟨env0.set 4 (some (.own ((List.replicate m (0 : Int)).map D.int))), c⟩) (own_eq (env := env0) (by
      rw [← zeros_map]
      refine comp_map (env := env0) (enc := fun i : Nat => D.int (i : Int)) (src1 := c) ?_ (by simp; omega) (clean_nones fun v hv => by simp at hv; subst hv; exact .inl rfl) fun x hx => ⟨env0.set 5 (some (.val (.int (x : Int)))), by rfl, by rfl⟩
      rw [show (List.range m).map (fun i : Nat => D.int (i : Int)) = rngL 0 (m : Int) by rw [rngL0]; rfl]
      unfold iRg1
      exact (bnd_eq (a := .int (m : Int)) (s1 := ⟨env0, c⟩) (by rfl)).trans (by show (if okR (m : Int) then ret (rngL 0 (m : Int)) else fail) _ = _; rw [if_pos (okR_of (by omega) (by omega))]; rfl)) (by show 4 < 10; decide))]
    rw [seq_nx (m := sFor _ _ _) (by
      rw [for_eq (ds := zipF3 (l.map eP) (gs.map eP) ((arr l 0).map D.int)) (s1 := ⟨env0.set 4 (some (.own ((List.replicate m (0 : Int)).map D.int))), c⟩)]
      · exact e
      · unfold iZip3
        rw [bnd_eq (a := ePs l) (s1 := ⟨_, c⟩) (by rfl), bnd_eq (a := ePs gs) (s1 := ⟨_, c⟩) (by rfl), bnd_eq (a := eIs (arr l 0)) (fn_eq (ds := [ePs l, .int 0]) (by rfl) (S_arrivals_eq l 0 c hl))]
        rfl)]
    rfl
end GW
end

noncomputable section
namespace GW
open GH
def at0 (l : List (Int × Int)) (i : Nat) : Int × Int := l.getD i (0, 0)
def backL (l : List (Int × Int)) : List (Int × Int) := (List.range l.length).map fun i => ((at0 l (l.length - 1 - i)).1, if i = 0 then 0 else (at0 l (l.length - i)).2)
theorem rev_at (l : List (Int × Int)) (i : Nat) (h : i < l.length) : (l.map eP).reverse[i]? = some (eP (at0 l (l.length - 1 - i))) := by
  rw [List.getElem?_reverse (by simpa using h), List.length_map, List.getElem?_map]
  unfold at0
  rw [List.getD_eq_getElem?_getD, List.getElem?_eq_getElem (show l.length - 1 - i < l.length by omega)]
  rfl
theorem S_back_eq (l : List (Int × Int)) (c : Src) (hl : l.length ≤ 10000) : S_back_line [ePs l] c = some (ePs (backL l), c) := by
  let env0 : List (Option Sl) := [some (.val (ePs l)), none, none, none, none]
  let times : List Int := 0 :: l.reverse.map (·.2)
  let env1 : List (Option Sl) := env0.set 1 (some (.val (.lst (times.map D.int))))
  have hrev : eUn revD (eVar 0) ⟨env0, c⟩ = some (.tup (l.reverse.map eP), ⟨env0, c⟩) := by
    show some (D.tup (l.map eP).reverse, _) = _
    rw [List.map_reverse]
  refine fnOf_ret (env := env1) ?_
  unfold m_back_line
  rw [seq_nx (s1 := ⟨env1, c⟩)]
  · refine ret_eq (call_eq (ds := [.lst ((backL l).map eP)]) (one_eq (lst_eq ?_)) (by rfl))
    have hb : (backL l).map eP = (List.range l.length).map fun i => eP ((at0 l (l.length - 1 - i)).1, if i = 0 then 0 else (at0 l (l.length - i)).2) := by
      unfold backL; rw [List.map_map]; rfl
    rw [hb]
    refine comp_map (enc := fun i : Nat => D.tup [.int (i : Int), (l.map eP).reverse.getD i .non]) (src1 := c) ?_ (by simpa using (by omega : l.length ≤ 100000)) (clean_nones fun v hv => by simp at hv; rcases hv with rfl | rfl | rfl <;> exact .inl rfl) fun i hi => ?_
    · unfold iEnum
      refine (bnd_eq (a := .tup (l.map eP).reverse) (s1 := ⟨env1, c⟩) (by rfl)).trans ?_
      show some (enumF 0 (l.map eP).reverse, _) = _
      rw [enum_range]
      simp
    · have hi : i < l.length := List.mem_range.mp hi
      have hd : (l.map eP).reverse.getD i .non = eP (at0 l (l.length - 1 - i)) := by rw [List.getD_eq_getElem?_getD, rev_at l i hi]; rfl
      let p := at0 l (l.length - 1 - i)
      let env2 : List (Option Sl) := [some (.val (ePs l)), some (.val (.lst (times.map D.int))), some (.val (.int p.1)), some (.val (.int p.2)), some (.val (.int (i : Int)))]
      refine ⟨env2, ?_, by rfl⟩
      have ht : L2.atI (times.map D.int) (i : Int) = some (.int (if i = 0 then 0 else (at0 l (l.length - i)).2)) := by
        unfold L2.atI
        rw [ixN_of (by omega) (by simp [times]; omega)]
        show (times.map D.int)[(i : Int).toNat]? = _
        rw [Int.toNat_natCast]
        cases i with
        | zero => rfl
        | succ j =>
          show (((l.reverse.map (·.2)).map D.int))[j]? = _
          rw [List.getElem?_map, List.getElem?_map, List.getElem?_reverse (by omega)]
          unfold at0
          rw [List.getD_eq_getElem?_getD, List.getElem?_eq_getElem (show l.length - 1 - j < l.length by omega), show l.length - (j + 1) = l.length - 1 - j by omega, List.getElem?_eq_getElem (show l.length - 1 - j < l.length by omega)]
          rfl
      have hg : gT (gCons (gN 4) (gCons (gT (gCons (gN 2) (gCons (gN 3) gNil))) gNil)) (D.tup [.int (i : Int), (l.map eP).reverse.getD i .non]) ⟨wipeE env1 [4, 2, 3], c⟩ = some ((), ⟨env2, c⟩) := by rw [hd]; rfl
      unfold turnC
      rw [bnd_eq hg, bnd_eq (a := true) (s1 := ⟨env2, c⟩) rfl, if_pos rfl]
      have he : eTup (aCons (eVar 2) (aCons (eBin ixD (eVar 1) (eVar 4)) aNil)) ⟨env2, c⟩ = some (eP (p.1, if i = 0 then 0 else (at0 l (l.length - i)).2), ⟨env2, c⟩) := by
        unfold eTup
        rw [bnd_eq (cons_eq (d := .int p.1) (s1 := ⟨env2, c⟩) (by rfl) (one_eq (bin_eq (f := ixD) (s1 := ⟨env2, c⟩) (x := .lst (times.map D.int)) (y := .int (i : Int)) (by rfl) (by rfl) ht)))]
        rfl
      rw [bnd_eq he]
      rfl
  · refine set_eq (env := env0) ?_ (by show 1 < 5; decide)
    refine bin_eq (f := addD) (s1 := ⟨env0, c⟩) (x := .lst [.int 0]) (y := .lst ((l.reverse.map (·.2)).map D.int)) (by rfl) (lst_eq ?_) ?_
    · rw [List.map_map]
      refine comp_map (enc := eP) (f := D.int ∘ fun x => x.2) (src1 := c) ?_ (by simpa using (by omega : l.length ≤ 100000)) (clean_nones fun v hv => by simp at hv; rcases hv with rfl | rfl <;> exact .inl rfl) fun g hg => ?_
      · unfold iSeq
        rw [bnd_eq hrev]
        rfl
      · exact ⟨[some (.val (ePs l)), none, some (.val (.int g.1)), some (.val (.int g.2)), none], by rfl, by rfl⟩
    · show (if ([D.int 0]).length + ((l.reverse.map (·.2)).map D.int).length ≤ PySem.sizeLine then some (D.lst ([D.int 0] ++ (l.reverse.map (·.2)).map D.int)) else none) = _
      rw [if_pos (sz _ (by simp; omega))]
      rfl
theorem ix_Ps (l : List (Int × Int)) (i : Int) (h : 0 ≤ i) (h2 : i < l.length) : L2.atI (l.map eP) i = some (eP (at0 l i.toNat)) := by
  unfold L2.atI
  rw [List.length_map, ixN_of h h2]
  show (l.map eP)[i.toNat]? = _
  have : i.toNat < l.length := by omega
  unfold at0
  rw [List.getElem?_map, List.getElem?_eq_getElem this, List.getD_eq_getElem?_getD, List.getElem?_eq_getElem this]
  rfl
theorem lback_loop (l : List (Int × Int)) (c : Src) (hl : l.length ≤ 10000) : ∀ (xs : List Nat) (acc : List D) (x2 : Option Sl), (∀ j ∈ xs, j + 1 < l.length) → acc.length + xs.length ≤ 100000 → ∃ y2,
    forM (gN 2) (sExpr (eApp 1 (eTup (aCons (eBin ixD (eBin ixD (eVar 0) (eBin subD (eVar 2) (eC (.int 1)))) (eC (.int 0))) (aCons (eBin ixD (eBin ixD (eVar 0) (eVar 2)) (eC (.int 1))) aNil)))))
      (xs.map fun j => D.int (((l.length : Nat) : Int) - 1 - ((j : Nat) : Int))) ⟨[some (.val (ePs l)), some (.own acc), x2], c⟩
      = some (.nx, ⟨[some (.val (ePs l)), some (.own (acc ++ xs.map fun j => eP ((at0 l (l.length - 1 - j - 1)).1, (at0 l (l.length - 1 - j)).2))), y2], c⟩)
  | [], acc, x2, _, _ => ⟨x2, by simp [for_nil]⟩
  | j :: xs, acc, x2, hj, hlen => by
    have h1 := hj j List.mem_cons_self
    simp only [List.length_cons] at hlen
    let k : Int := ((l.length : Nat) : Int) - 1 - ((j : Nat) : Int)
    let e : D := eP ((at0 l (l.length - 1 - j - 1)).1, (at0 l (l.length - 1 - j)).2)
    obtain ⟨y2, ih⟩ := lback_loop l c hl xs (acc ++ [e]) (some (.val (.int k))) (fun i hi => hj i (List.mem_cons_of_mem _ hi)) (by simp; omega)
    refine ⟨y2, ?_⟩
    let env1 : List (Option Sl) := [some (.val (ePs l)), some (.own acc), some (.val (.int k))]
    rw [List.map_cons, for_nx (s1 := ⟨env1, c⟩) (s2 := ⟨[some (.val (ePs l)), some (.own (acc ++ [e])), some (.val (.int k))], c⟩) (by rfl) ?_, ih]
    · simp [e]
    · have i1 : L2.atI (l.map eP) (k - 1) = some (eP (at0 l (l.length - 1 - j - 1))) := by
        rw [ix_Ps l (k - 1) (by omega) (by omega)]
        congr 3
        omega
      have i2 : L2.atI (l.map eP) k = some (eP (at0 l (l.length - 1 - j))) := by
        rw [ix_Ps l k (by omega) (by omega)]
        congr 3
        omega
      have he : eTup (aCons (eBin ixD (eBin ixD (eVar 0) (eBin subD (eVar 2) (eC (.int 1)))) (eC (.int 0))) (aCons (eBin ixD (eBin ixD (eVar 0) (eVar 2)) (eC (.int 1))) aNil)) ⟨env1, c⟩ = some (e, ⟨env1, c⟩) := by
        unfold eTup
        rw [bnd_eq (cons_eq (d := .int (at0 l (l.length - 1 - j - 1)).1) (s1 := ⟨env1, c⟩) (bin_eq (f := ixD) (s1 := ⟨env1, c⟩) (x := eP (at0 l (l.length - 1 - j - 1))) (y := .int 0) (bin_eq (f := ixD) (s1 := ⟨env1, c⟩) (x := ePs l) (y := .int (k - 1)) (by rfl) (by rfl) i1) (by rfl) rfl)
          (one_eq (bin_eq (f := ixD) (s1 := ⟨env1, c⟩) (x := eP (at0 l (l.length - 1 - j))) (y := .int 1) (bin_eq (f := ixD) (s1 := ⟨env1, c⟩) (x := ePs l) (y := .int k) (by rfl) (by rfl) i2) (by rfl) rfl)))]
        rfl
      have hl : acc.length < PySem.sizeLine := Nat.lt_of_lt_of_le (by omega) (sz 100000 (by omega))
      unfold sExpr eApp
      have hh : (bnd (ownHere 1) fun _ => bnd (eTup (aCons (eBin ixD (eBin ixD (eVar 0) (eBin subD (eVar 2) (eC (.int 1)))) (eC (.int 0))) (aCons (eBin ixD (eBin ixD (eVar 0) (eVar 2)) (eC (.int 1))) aNil))) fun d => bnd (putL 1 (appL d)) fun _ => ret D.non) ⟨env1, c⟩
          = some (D.non, ⟨[some (.val (ePs l)), some (.own (acc ++ [e])), some (.val (.int k))], c⟩) := by
        rw [bnd_eq (a := ()) (s1 := ⟨env1, c⟩) (by rfl), bnd_eq he]
        simp [bndE, putL, appL, hl, ret, env1]
      rw [bnd_eq hh]
      rfl
theorem law_back_eq (l : List (Int × Int)) (c : Src) (h0 : l ≠ []) (hl : l.length ≤ 10000) : S__law_back_line [ePs l] c = some (ePs (backL l), c) := by
  have hpos : 0 < l.length := List.length_pos_iff.mpr h0
  let f0 : D := eP ((at0 l (l.length - 1)).1, 0)
  obtain ⟨y2, e⟩ := lback_loop l c hl (List.range (l.length - 1)) [f0] none (fun j hj => by have := List.mem_range.mp hj; omega) (by simp; omega)
  have hlast : L2.atI (l.map eP) (-1) = some (eP (at0 l (l.length - 1))) := by
    unfold L2.atI L2.ixN
    rw [List.length_map, if_neg (by decide), if_pos (by omega)]
    show (l.map eP)[((-1 : Int) + (l.length : Nat)).toNat]? = _
    have : ((-1 : Int) + ((l.length : Nat) : Int)).toNat = l.length - 1 := by omega
    rw [this]
    have h2 : l.length - 1 < l.length := by omega
    unfold at0
    rw [List.getElem?_map, List.getElem?_eq_getElem h2, List.getD_eq_getElem?_getD, List.getElem?_eq_getElem h2]
    rfl
  have heq : [f0] ++ (List.range (l.length - 1)).map (fun j => eP ((at0 l (l.length - 1 - j - 1)).1, (at0 l (l.length - 1 - j)).2)) = (backL l).map eP := by
    unfold backL
    rw [List.map_map]
    refine List.ext_getElem (by simp; omega) fun i h1 h2 => ?_
    cases i with
    | zero => simp [f0]
    | succ i =>
      simp only [List.cons_append, List.nil_append, List.getElem_cons_succ, List.getElem_map, List.getElem_range, Function.comp]
      rw [if_neg (by omega), show l.length - 1 - i - 1 = l.length - 1 - (i + 1) by omega, show l.length - 1 - i = l.length - (i + 1) by omega]
  let env0 : List (Option Sl) := [some (.val (ePs l)), none, none]
  refine fnOf_ret (env := ?_) ?_
  rotate_left
  · unfold m__law_back_line
    rw [seq_nx (s1 := ⟨[some (.val (ePs l)), some (.own [f0]), none], c⟩)]
    · rw [seq_nx (m := sFor _ _ _) (by
        rw [for_eq (ds := (List.range (l.length - 1)).map fun j => D.int (((l.length : Nat) : Int) - 1 - ((j : Nat) : Int))) (s1 := ⟨[some (.val (ePs l)), some (.own [f0]), none], c⟩)]
        · exact e
        · unfold iRgDn
          have h1 : eBin subD (eCall lenG (aCons (eVar 0) aNil)) (eC (.int 1)) ⟨[some (.val (ePs l)), some (.own [f0]), none], c⟩ = some (.int (((l.map eP).length : Nat) - 1), ⟨[some (.val (ePs l)), some (.own [f0]), none], c⟩) := by rfl
          rw [bnd_eq h1, bnd_eq (a := .int 0) (s1 := ⟨_, c⟩) (by rfl), bnd_eq (a := .int (0 - 1)) (s1 := ⟨_, c⟩) (by rfl)]
          show (if okR (((l.map eP).length : Nat) - 1 : Int) ∧ okR 0 ∧ (0 - 1 : Int) = -1 then ret (rngDn (((l.map eP).length : Nat) - 1 : Int) 0) else fail) _ = _
          rw [List.length_map, if_pos ⟨okR_of (by omega) (by omega), by decide, by decide⟩]
          unfold rngDn
          have : ((((l.length : Nat) : Int) - 1) - 0).toNat = l.length - 1 := by omega
          rw [this]
          rfl)]
      rw [heq]
      rfl
    · refine own_eq (env := env0) ?_ (by show 1 < 3; decide)
      have h1 : eTup (aCons (eBin ixD (eBin ixD (eVar 0) (eUn negD (eC (.int 1)))) (eC (.int 0))) (aCons (eC (.int 0)) aNil)) ⟨env0, c⟩ = some (f0, ⟨env0, c⟩) := by
        unfold eTup
        rw [bnd_eq (cons_eq (d := .int (at0 l (l.length - 1)).1) (s1 := ⟨env0, c⟩) (bin_eq (f := ixD) (s1 := ⟨env0, c⟩) (x := eP (at0 l (l.length - 1))) (y := .int 0) (bin_eq (f := ixD) (s1 := ⟨env0, c⟩) (x := ePs l) (y := .int (-1)) (by rfl) (by rfl) hlast) (by rfl) rfl) (by rfl))]
        rfl
      exact (bnd_eq (one_eq h1)).trans (by rfl)
end GW
end

noncomputable section
namespace GW
open GH
def rowsOf (L : Nat) : Nat → List (List Int)
  | 0 => [[]]
  | n + 1 => (rowsOf L n).flatMap fun r => (List.range L).map fun i => r ++ [((i : Nat) : Int)]
theorem flat_len {α β : Type} (L : Nat) (f : α → Nat → β) (xs : List α) : (xs.flatMap fun r => (List.range L).map (f r)).length = xs.length * L := by
  induction xs with
  | nil => simp
  | cons x r ih => rw [List.flatMap_cons, List.length_append, ih, List.length_map, List.length_range, List.length_cons, Nat.succ_mul]; omega
theorem rows_len (L : Nat) : ∀ n, (rowsOf L n).length = L ^ n
  | 0 => rfl
  | n + 1 => by
    show ((rowsOf L n).flatMap _).length = _
    rw [flat_len, rows_len L n, Nat.pow_succ]
theorem row_len (L : Nat) : ∀ n, ∀ r ∈ rowsOf L n, r.length = n
  | 0, r, h => by simp [rowsOf] at h; subst h; rfl
  | n + 1, r, h => by
    obtain ⟨q, hq, h2⟩ := List.mem_flatMap.mp h
    obtain ⟨i, _, rfl⟩ := List.mem_map.mp h2
    simp [row_len L n q hq]
theorem pow_mono {L n k : Nat} (h : 1 ≤ L) (hk : k ≤ n) : L ^ k ≤ L ^ n := Nat.pow_le_pow_right h hk
def eRows (rs : List (List Int)) : List D := rs.map eIs
theorem add_row (r : List Int) (i : Nat) (h : r.length ≤ 1000) : addD (eIs r) (.tup [.int (i : Int)]) = some (eIs (r ++ [(i : Int)])) := by
  show (if (r.map D.int).length + ([D.int (i : Int)]).length ≤ PySem.sizeLine then some (D.tup (r.map D.int ++ [D.int (i : Int)])) else none) = _
  rw [if_pos (sz _ (by simp; omega))]
  unfold eIs
  rw [List.map_append]
  rfl
/-- the program's rows -/
theorem rows_loop (free : Int) (L : Nat) (c : Src) (hL : 1 ≤ L) (hL2 : L ≤ 1000) (N : Nat) (hN : L ^ N ≤ 50000) (hN2 : N ≤ 1000) : ∀ (xs : List Nat) (k : Nat) (x3 : Option Sl), k + xs.length = N → ∃ y3,
    forM (gN 3) (sSet 2 (eLst (eComp2 [4, 5] [5] (gN 4) (ret true) (iRg1 (eVar 1)) (gN 5) (ret true) (eBin addD (eVar 4) (eTup (aCons (eVar 5) aNil))) (iSeq (eVar 2)))))
      (xs.map fun i => D.int ((i : Nat) : Int)) ⟨[some (.val (.int free)), some (.val (.int L)), some (.val (.lst (eRows (rowsOf L k)))), x3, none, none], c⟩
      = some (.nx, ⟨[some (.val (.int free)), some (.val (.int L)), some (.val (.lst (eRows (rowsOf L N)))), y3, none, none], c⟩)
  | [], k, x3, h => ⟨x3, by simp at h; subst h; rfl⟩
  | i :: xs, k, x3, h => by
    simp only [List.length_cons] at h
    obtain ⟨y3, e⟩ := rows_loop free L c hL hL2 N hN hN2 xs (k + 1) (some (.val (.int (i : Int)))) (by omega)
    refine ⟨y3, ?_⟩
    let env1 : List (Option Sl) := [some (.val (.int free)), some (.val (.int L)), some (.val (.lst (eRows (rowsOf L k)))), some (.val (.int (i : Int))), none, none]
    have hc : eComp2 [4, 5] [5] (gN 4) (ret true) (iRg1 (eVar 1)) (gN 5) (ret true) (eBin addD (eVar 4) (eTup (aCons (eVar 5) aNil))) (iSeq (eVar 2)) ⟨env1, c⟩ = some (eRows (rowsOf L (k + 1)), ⟨env1, c⟩) := by
      have hh := comp2_map (vs := [4, 5]) (vs1 := [5]) (g := gN 4) (g1 := gN 5) (c1 := ret true) (el := eBin addD (eVar 4) (eTup (aCons (eVar 5) aNil))) (it := iSeq (eVar 2)) (it1 := iRg1 (eVar 1)) (env := env1) (enc := eIs) (enc1 := fun i : Nat => D.int (i : Int))
        (f := fun r i => eIs (r ++ [((i : Nat) : Int)])) (xs := rowsOf L k) (ys := List.range L) (src := c) (src1 := c) (by decide) (by rfl) ?_ (clean_nones fun v hv => by simp at hv; rcases hv with rfl | rfl <;> exact .inl rfl) ?_
      · rw [hh]
        congr 2
        show _ = ((rowsOf L k).flatMap _).map eIs
        rw [List.map_flatMap]
        simp only [List.map_map]
        rfl
      · rw [flat_len, rows_len, ← Nat.pow_succ]
        exact Nat.le_trans (pow_mono (n := N) (k := k + 1) hL (by omega)) (Nat.le_trans hN (by decide))
      · intro r hr
        have hrl := row_len L k r hr
        refine ⟨env1.set 4 (some (.val (eIs r))), by rfl, by rfl, ?_, fun j hj => ⟨(env1.set 4 (some (.val (eIs r)))).set 5 (some (.val (.int (j : Int)))), ?_, by rfl⟩⟩
        · rw [show (List.range L).map (fun i : Nat => D.int (i : Int)) = rngL 0 (L : Int) by rw [rngL0]; rfl]
          unfold iRg1
          exact (bnd_eq (a := .int (L : Int)) (s1 := ⟨_, c⟩) (by rfl)).trans (by show (if okR (L : Int) then ret (rngL 0 (L : Int)) else fail) _ = _; rw [if_pos (okR_of (by omega) (by omega))]; rfl)
        · unfold turnC
          rw [bnd_eq (a := ()) (s1 := ⟨(env1.set 4 (some (.val (eIs r)))).set 5 (some (.val (.int (j : Int)))), c⟩) (by rfl), bnd_eq (a := true) (s1 := ⟨_, c⟩) rfl, if_pos rfl]
          rw [bnd_eq (bin_eq (f := addD) (s1 := ⟨(env1.set 4 (some (.val (eIs r)))).set 5 (some (.val (.int (j : Int)))), c⟩) (x := eIs r) (y := .tup [.int (j : Int)]) (by rfl) (by rfl) (add_row r j (by omega)))]
          rfl
    rw [List.map_cons, for_nx (s1 := ⟨env1, c⟩) (s2 := ⟨[some (.val (.int free)), some (.val (.int L)), some (.val (.lst (eRows (rowsOf L (k + 1))))), some (.val (.int (i : Int))), none, none], c⟩) (by rfl) (set_eq (lst_eq hc) (by show 2 < 6; decide)), e]
theorem all_offsets_eq (n L : Nat) (c : Src) (hL : 1 ≤ L) (hL2 : L ≤ 1000) (hN : L ^ n ≤ 50000) (hn : n ≤ 1000) : S_all_offsets [.int n, .int L] c = some (.lst (eRows (rowsOf L n)), c) := by
  obtain ⟨y3, e⟩ := rows_loop n L c hL hL2 n hN hn (List.range n) 0 none (by simp)
  refine fnOf_ret (env := ?_) ?_
  rotate_left
  · unfold m_all_offsets
    rw [seq_nx (s1 := ⟨[some (.val (.int n)), some (.val (.int L)), some (.val (.lst (eRows (rowsOf L 0)))), none, none, none], c⟩) (by rfl)]
    rw [seq_nx (m := sFor _ _ _) (by
      rw [for_eq (ds := (List.range n).map fun i : Nat => D.int (i : Int)) (s1 := ⟨[some (.val (.int n)), some (.val (.int L)), some (.val (.lst (eRows (rowsOf L 0)))), none, none, none], c⟩)]
      · exact e
      · rw [show (List.range n).map (fun i : Nat => D.int (i : Int)) = rngL 0 (n : Int) by rw [rngL0]; rfl]
        unfold iRg1
        exact (bnd_eq (a := .int (n : Int)) (s1 := ⟨_, c⟩) (by rfl)).trans (by show (if okR (n : Int) then ret (rngL 0 (n : Int)) else fail) _ = _; rw [if_pos (okR_of (by omega) (by omega))]; rfl))]
    rfl
/-- the law's own rows -/
theorem lrow_inner (a0 a2 a3 : Option Sl) (L : Nat) (c : Src) (hL2 : L ≤ 1000) : ∀ (rs acc : List (List Int)) (x5 : Option Sl), (∀ r ∈ rs, r.length ≤ 1000) → acc.length + rs.length * L ≤ 50000 → ∃ y5,
    forM (gN 5) (sSet 4 (eBin addD (eVar 4) (eLst (eComp [6] (gN 6) (ret true) (eBin addD (eVar 5) (eTup (aCons (eVar 6) aNil))) (iRg1 (eVar 1))))))
      (eRows rs) ⟨[a0, some (.val (.int L)), a2, a3, some (.val (.lst (eRows acc))), x5, none], c⟩
      = some (.nx, ⟨[a0, some (.val (.int L)), a2, a3, some (.val (.lst (eRows (acc ++ rs.flatMap fun r => (List.range L).map fun i => r ++ [((i : Nat) : Int)])))), y5, none], c⟩)
  | [], acc, x5, _, _ => ⟨x5, by simp [eRows, for_nil]⟩
  | r :: rs, acc, x5, hr, hlen => by
    have h1 := hr r List.mem_cons_self
    simp only [List.length_cons, Nat.succ_mul] at hlen
    let new : List (List Int) := (List.range L).map fun i => r ++ [((i : Nat) : Int)]
    have hnew : new.length = L := by simp [new]
    obtain ⟨y5, e⟩ := lrow_inner a0 a2 a3 L c hL2 rs (acc ++ new) (some (.val (eIs r))) (fun q hq => hr q (List.mem_cons_of_mem _ hq)) (by rw [List.length_append, hnew]; omega)
    refine ⟨y5, ?_⟩
    let env1 : List (Option Sl) := [a0, some (.val (.int L)), a2, a3, some (.val (.lst (eRows acc))), some (.val (eIs r)), none]
    show forM _ _ (eIs r :: eRows rs) _ = _
    rw [for_nx (s1 := ⟨env1, c⟩) (s2 := ⟨[a0, some (.val (.int L)), a2, a3, some (.val (.lst (eRows (acc ++ new)))), some (.val (eIs r)), none], c⟩) (by rfl) ?_, e]
    · rw [List.flatMap_cons, List.append_assoc]
    · refine set_eq (env := env1) ?_ (by show 4 < 7; decide)
      refine bin_eq (f := addD) (s1 := ⟨env1, c⟩) (x := .lst (eRows acc)) (y := .lst (eRows new)) (by rfl) (lst_eq ?_) ?_
      · show _ = some ((((List.range L).map fun i => r ++ [((i : Nat) : Int)]).map eIs), _)
        rw [List.map_map]
        refine comp_map (enc := fun i : Nat => D.int (i : Int)) (f := eIs ∘ fun i : Nat => r ++ [(i : Int)]) (src1 := c) ?_ (by simp; omega) (clean_nones fun v hv => by simp at hv; subst hv; exact .inl rfl) fun j hj => ⟨env1.set 6 (some (.val (.int (j : Int)))), ?_, by rfl⟩
        · rw [show (List.range L).map (fun i : Nat => D.int (i : Int)) = rngL 0 (L : Int) by rw [rngL0]; rfl]
          unfold iRg1
          exact (bnd_eq (a := .int (L : Int)) (s1 := ⟨env1, c⟩) (by rfl)).trans (by show (if okR (L : Int) then ret (rngL 0 (L : Int)) else fail) _ = _; rw [if_pos (okR_of (by omega) (by omega))]; rfl)
        · unfold turnC
          rw [bnd_eq (a := ()) (s1 := ⟨env1.set 6 (some (.val (.int (j : Int)))), c⟩) (by rfl), bnd_eq (a := true) (s1 := ⟨_, c⟩) rfl, if_pos rfl]
          rw [bnd_eq (bin_eq (f := addD) (s1 := ⟨env1.set 6 (some (.val (.int (j : Int)))), c⟩) (x := eIs r) (y := .tup [.int (j : Int)]) (by rfl) (by rfl) (add_row r j (by omega)))]
          rfl
      · show (if (eRows acc).length + (eRows new).length ≤ PySem.sizeLine then some (D.lst (eRows acc ++ eRows new)) else none) = _
        rw [if_pos (sz _ (by simp only [eRows, List.length_map]; omega))]
        simp [eRows]
theorem lrows_loop (many : Int) (L : Nat) (c : Src) (hL : 1 ≤ L) (hL2 : L ≤ 1000) (N : Nat) (hN : L ^ N ≤ 50000) (hN2 : N ≤ 1000) : ∀ (xs : List Nat) (k : Nat) (x3 x4 x5 : Option Sl), k + xs.length = N → ∃ y3 y4 y5,
    forM (gN 3) (sSeq (sSet 4 (eLst (lDisp aNil))) (sSeq (sFor (iSeq (eVar 2)) (gN 5)
      (sSet 4 (eBin addD (eVar 4) (eLst (eComp [6] (gN 6) (ret true) (eBin addD (eVar 5) (eTup (aCons (eVar 6) aNil))) (iRg1 (eVar 1)))))))
      (sSet 2 (eVar 4))))
      (xs.map fun i => D.int ((i : Nat) : Int)) ⟨[some (.val (.int many)), some (.val (.int L)), some (.val (.lst (eRows (rowsOf L k)))), x3, x4, x5, none], c⟩
      = some (.nx, ⟨[some (.val (.int many)), some (.val (.int L)), some (.val (.lst (eRows (rowsOf L N)))), y3, y4, y5, none], c⟩)
  | [], k, x3, x4, x5, h => ⟨x3, x4, x5, by simp at h; subst h; rfl⟩
  | i :: xs, k, x3, x4, x5, h => by
    simp only [List.length_cons] at h
    have hp := pow_mono (n := N) (k := k + 1) hL (by omega)
    have hlen : (rowsOf L k).length * L ≤ 50000 := by rw [rows_len, ← Nat.pow_succ]; exact Nat.le_trans hp hN
    obtain ⟨z5, e1⟩ := lrow_inner (some (.val (.int many))) (some (.val (.lst (eRows (rowsOf L k))))) (some (.val (.int (i : Int)))) L c hL2 (rowsOf L k) [] x5 (fun r hr => by rw [row_len L k r hr]; omega) (by simpa using hlen)
    obtain ⟨y3, y4, y5, e⟩ := lrows_loop many L c hL hL2 N hN hN2 xs (k + 1) (some (.val (.int (i : Int)))) (some (.val (.lst (eRows (rowsOf L (k + 1)))))) z5 (by omega)
    refine ⟨y3, y4, y5, ?_⟩
    rw [List.map_cons, for_nx (s1 := ⟨[some (.val (.int many)), some (.val (.int L)), some (.val (.lst (eRows (rowsOf L k)))), some (.val (.int (i : Int))), x4, x5, none], c⟩)
      (s2 := ⟨[some (.val (.int many)), some (.val (.int L)), some (.val (.lst (eRows (rowsOf L (k + 1))))), some (.val (.int (i : Int))), some (.val (.lst (eRows (rowsOf L (k + 1))))), z5, none], c⟩) (by rfl) ?_, e]
    rw [seq_nx (s1 := ⟨[some (.val (.int many)), some (.val (.int L)), some (.val (.lst (eRows (rowsOf L k)))), some (.val (.int (i : Int))), some (.val (.lst (eRows []))), x5, none], c⟩) (by rfl)]
    rw [seq_nx (m := sFor _ _ _) (by rw [for_eq (ds := eRows (rowsOf L k)) (s1 := ⟨[some (.val (.int many)), some (.val (.int L)), some (.val (.lst (eRows (rowsOf L k)))), some (.val (.int (i : Int))), some (.val (.lst (eRows []))), x5, none], c⟩) (by rfl)]; exact e1)]
    rfl
theorem rows_below_eq (n L : Nat) (c : Src) (hL : 1 ≤ L) (hL2 : L ≤ 1000) (hN : L ^ n ≤ 50000) (hn : n ≤ 1000) : S__law_rows_below [.int n, .int L] c = some (.lst (eRows (rowsOf L n)), c) := by
  obtain ⟨y3, y4, y5, e⟩ := lrows_loop n L c hL hL2 n hN hn (List.range n) 0 none none none (by simp)
  refine fnOf_ret (env := ?_) ?_
  rotate_left
  · unfold m__law_rows_below
    rw [seq_nx (s1 := ⟨[some (.val (.int n)), some (.val (.int L)), some (.val (.lst (eRows (rowsOf L 0)))), none, none, none, none], c⟩) (by rfl)]
    rw [seq_nx (m := sFor _ _ _) (by
      rw [for_eq (ds := (List.range n).map fun i : Nat => D.int (i : Int)) (s1 := ⟨[some (.val (.int n)), some (.val (.int L)), some (.val (.lst (eRows (rowsOf L 0)))), none, none, none, none], c⟩)]
      · exact e
      · rw [show (List.range n).map (fun i : Nat => D.int (i : Int)) = rngL 0 (n : Int) by rw [rngL0]; rfl]
        unfold iRg1
        exact (bnd_eq (a := .int (n : Int)) (s1 := ⟨_, c⟩) (by rfl)).trans (by show (if okR (n : Int) then ret (rngL 0 (n : Int)) else fail) _ = _; rw [if_pos (okR_of (by omega) (by omega))]; rfl))]
    rfl
end GW
end

noncomputable section
namespace GW
open GH
def placeF : List Int → List Int → List Int → List Int
  | off, c :: fr, o :: row => placeF (off.set c.toNat o) fr row
  | off, _, _ => off
def freeOf (l : List (Int × Int)) : List Int := (l.drop 1).map (·.1)
def vecs (m : Nat) (l : List (Int × Int)) (L : Nat) : List (List Int) := (rowsOf L (l.length - 1)).map fun row => placeF (List.replicate m 0) (freeOf l) row
theorem place_len : ∀ (fr row off : List Int), (placeF off fr row).length = off.length
  | [], _, off => rfl
  | _ :: _, [], off => rfl
  | c :: fr, o :: row, off => by
    show (placeF (off.set c.toNat o) fr row).length = _
    rw [place_len fr row, List.length_set]
theorem cut_tail {α : Type} (xs : List α) : cutL xs (some 1) none = xs.drop 1 := by
  unfold cutL
  show (xs.drop (HT.sIx xs.length 0 (some ((1 : Nat) : Int)))).take (HT.sIx xs.length xs.length none - HT.sIx xs.length 0 (some ((1 : Nat) : Int))) = _
  rw [HT.sIx_nat, HT.sIx_none]
  cases xs with
  | nil => rfl
  | cons x r =>
    have : min 1 (x :: r).length = 1 := by simp
    rw [this]
    show (r).take ((x :: r).length - 1) = r
    rw [List.length_cons, Nat.add_sub_cancel, List.take_length]
def OkS (x : Option Sl) : Prop := x = none ∨ ∃ d, x = some (.val d)
theorem place_loop (a0 a1 a2 a3 a4 a5 x9 : Option Sl) (c : Src) : ∀ (fr row off : List Int) (x7 x8 : Option Sl), (∀ k ∈ fr, 0 ≤ k ∧ k < off.length) → OkS x7 → ∃ y7 y8, OkS y7 ∧
    forM (gT (gCons (gN 7) (gCons (gN 8) gNil))) (sSetIx 6 (eVar 8) (eVar 7)) (zipF2 (fr.map D.int) (row.map D.int)) ⟨[a0, a1, a2, a3, a4, a5, some (.own (off.map D.int)), x7, x8, x9], c⟩
      = some (.nx, ⟨[a0, a1, a2, a3, a4, a5, some (.own ((placeF off fr row).map D.int)), y7, y8, x9], c⟩)
  | [], row, off, x7, x8, _, hx => ⟨x7, x8, hx, by simp [zipF2, for_nil, placeF]⟩
  | k :: fr, [], off, x7, x8, _, hx => ⟨x7, x8, hx, by simp [zipF2, for_nil, placeF]⟩
  | k :: fr, o :: row, off, x7, x8, h, hx => by
    have hk := h k List.mem_cons_self
    obtain ⟨y7, y8, hy, e⟩ := place_loop a0 a1 a2 a3 a4 a5 x9 c fr row (off.set k.toNat o) (some (.val (.int k))) (some (.val (.int o))) (fun q hq =>
      (by rw [List.length_set]; exact h q (List.mem_cons_of_mem _ hq))) (.inr ⟨_, rfl⟩)
    refine ⟨y7, y8, hy, ?_⟩
    let env1 : List Int → List (Option Sl) := fun off => [a0, a1, a2, a3, a4, a5, some (.own (off.map D.int)), some (.val (.int k)), some (.val (.int o)), x9]
    rw [List.map_cons, List.map_cons, zipF2, for_nx (s1 := ⟨env1 off, c⟩) (s2 := ⟨env1 (off.set k.toNat o), c⟩) (by rfl) ?_, e]
    · rfl
    · unfold sSetIx
      rw [bnd_eq (a := .int o) (s1 := ⟨env1 off, c⟩) (by rfl), bnd_eq (a := ()) (s1 := ⟨env1 off, c⟩) (by rfl), bnd_eq (a := .int k) (s1 := ⟨env1 off, c⟩) (by rfl)]
      have hput : putL 6 (setL (.int k) (.int o)) ⟨env1 off, c⟩ = some ((), ⟨env1 (off.set k.toNat o), c⟩) := by
        show (match setL (.int k) (.int o) (off.map D.int) with
          | some ds' => some ((), (⟨(env1 off).set 6 (some (.own ds')), c⟩ : S))
          | none => none) = _
        rw [set_ints off k o hk.1 hk.2]
        rfl
      rw [bnd_eq hput]
      rfl
theorem lo_loop (m : Nat) (l : List (Int × Int)) (L : Nat) (c : Src) (hm : m ≤ 1000) (hf : ∀ k ∈ freeOf l, 0 ≤ k ∧ k < m) : ∀ (rs acc : List (List Int)) (x5 x6 x7 x8 : Option Sl), OkS x7 → acc.length + rs.length ≤ 50000 → ∃ y5 y6 y7 y8,
    forM (gN 5) (sSeq (sOwn 6 (eComp [7] (gN 7) (ret true) (eC (.int 0)) (iRg1 (eVar 0))))
      (sSeq (sFor (iZip2 (eVar 3) (eVar 5)) (gT (gCons (gN 7) (gCons (gN 8) gNil))) (sSetIx 6 (eVar 8) (eVar 7)))
      (sExpr (eApp 4 (eCall tupG (aCons (eFrz 6) aNil))))))
      (eRows rs) ⟨[some (.val (.int m)), some (.val (ePs l)), some (.val (.int L)), some (.val (.lst ((freeOf l).map D.int))), some (.own (eRows acc)), x5, x6, x7, x8, none], c⟩
      = some (.nx, ⟨[some (.val (.int m)), some (.val (ePs l)), some (.val (.int L)), some (.val (.lst ((freeOf l).map D.int))), some (.own (eRows (acc ++ rs.map fun row => placeF (List.replicate m 0) (freeOf l) row))), y5, y6, y7, y8, none], c⟩)
  | [], acc, x5, x6, x7, x8, _, _ => ⟨x5, x6, x7, x8, by simp [eRows, for_nil]⟩
  | row :: rs, acc, x5, x6, x7, x8, hx7, hlen => by
    simp only [List.length_cons] at hlen
    let v := placeF (List.replicate m 0) (freeOf l) row
    let a0 := some (Sl.val (.int m)); let a1 := some (Sl.val (ePs l)); let a2 := some (Sl.val (.int L)); let a3 := some (Sl.val (.lst ((freeOf l).map D.int)))
    let a4 := some (Sl.own (eRows acc)); let a5 := some (Sl.val (eIs row))
    let z := some (Sl.own ((List.replicate m (0 : Int)).map D.int))
    obtain ⟨z7, z8, hz7, ep⟩ := place_loop a0 a1 a2 a3 a4 a5 none c (freeOf l) row (List.replicate m 0) x7 x8 (by simpa using hf) hx7
    obtain ⟨y5, y6, y7, y8, e⟩ := lo_loop m l L c hm hf rs (acc ++ [v]) a5 (some (.val (.lst (v.map D.int)))) z7 z8 hz7 (by simp; omega)
    refine ⟨y5, y6, y7, y8, ?_⟩
    show forM _ _ (eIs row :: eRows rs) _ = _
    rw [for_nx (s1 := ⟨[a0, a1, a2, a3, a4, a5, x6, x7, x8, none], c⟩) (s2 := ⟨[a0, a1, a2, a3, some (.own (eRows (acc ++ [v]))), a5, some (.val (.lst (v.map D.int))), z7, z8, none], c⟩) (by rfl) ?_, e]
    · simp [v]
    · have e1 : eComp [7] (gN 7) (ret true) (eC (.int 0)) (iRg1 (eVar 0)) ⟨[a0, a1, a2, a3, a4, a5, x6, x7, x8, none], c⟩ = some ((List.replicate m (0 : Int)).map D.int, ⟨[a0, a1, a2, a3, a4, a5, x6, x7, x8, none], c⟩) := by
        rw [← zeros_map]
        refine comp_map (enc := fun i : Nat => D.int (i : Int)) (src1 := c) ?_ (by simp; omega) (fun u hu x hx => ?_) fun x hx => ⟨[a0, a1, a2, a3, a4, a5, x6, some (.val (.int (x : Int))), x8, none], by rfl, by rfl⟩
        · rw [show (List.range m).map (fun i : Nat => D.int (i : Int)) = rngL 0 (m : Int) by rw [rngL0]; rfl]
          unfold iRg1
          exact (bnd_eq (a := .int (m : Int)) (s1 := ⟨_, c⟩) (by rfl)).trans (by show (if okR (m : Int) then ret (rngL 0 (m : Int)) else fail) _ = _; rw [if_pos (okR_of (by omega) (by omega))]; rfl)
        · simp at hu
          subst hu
          have hx : some x7 = some (some x) := hx
          rcases hx7 with q | ⟨d, q⟩
          · rw [q] at hx; cases hx
          · rw [q] at hx; cases hx; exact ⟨d, rfl⟩
      rw [seq_nx (s1 := ⟨[a0, a1, a2, a3, a4, a5, z, x7, x8, none], c⟩) (own_eq e1 (by show 6 < 10; decide))]
      rw [seq_nx (m := sFor _ _ _) (by
        rw [for_eq (ds := zipF2 ((freeOf l).map D.int) (row.map D.int)) (s1 := ⟨[a0, a1, a2, a3, a4, a5, z, x7, x8, none], c⟩) (by rfl)]
        exact ep)]
      have hl : (eRows acc).length < PySem.sizeLine := Nat.lt_of_lt_of_le (by simp only [eRows, List.length_map]; omega) (sz 100000 (by omega))
      have hh : eApp 4 (eCall tupG (aCons (eFrz 6) aNil)) ⟨[a0, a1, a2, a3, a4, a5, some (.own (v.map D.int)), z7, z8, none], c⟩ = some (D.non, ⟨[a0, a1, a2, a3, some (.own (eRows acc ++ [eIs v])), a5, some (.val (.lst (v.map D.int))), z7, z8, none], c⟩) := by
        unfold eApp
        rw [bnd_eq (a := ()) (s1 := ⟨[a0, a1, a2, a3, a4, a5, some (.own (v.map D.int)), z7, z8, none], c⟩) (by rfl)]
        rw [bnd_eq (call_eq (ds := [.lst (v.map D.int)]) (d := eIs v) (s1 := ⟨[a0, a1, a2, a3, a4, a5, some (.val (.lst (v.map D.int))), z7, z8, none], c⟩) (by rfl) (by rfl))]
        simp [bndE, putL, appL, hl, ret, a4]
      unfold sExpr
      rw [bnd_eq hh]
      simp [eRows, ret]
theorem vec_ne (m : Nat) (l : List (Int × Int)) (L : Nat) (hm : 0 < m) : ∀ v ∈ vecs m l L, v ≠ [] := fun v hv => by
  unfold vecs at hv
  obtain ⟨r, _, rfl⟩ := List.mem_map.mp hv
  intro z
  have := place_len (freeOf l) r (List.replicate m 0)
  rw [z] at this
  simp at this
  omega
theorem line_off_eq (m : Nat) (l : List (Int × Int)) (L : Nat) (c : Src) (hm : m ≤ 1000) (hf : ∀ k ∈ freeOf l, 0 ≤ k ∧ k < m) (hL : 1 ≤ L) (hL2 : L ≤ 1000) (hN : L ^ (l.length - 1) ≤ 50000) (hl : l.length ≤ 1000)
    {us : List (List Int)} (hs : srtG [.lst ((vecs m l L).map eIs)] = some (us.map eIs)) : S_line_offsets [.int m, ePs l, .int L] c = some (.lst (us.map eIs), c) := by
  let a0 := some (Sl.val (.int m)); let a1 := some (Sl.val (ePs l)); let a2 := some (Sl.val (.int L)); let a3 := some (Sl.val (.lst ((freeOf l).map D.int)))
  have hfl : (freeOf l).length = l.length - 1 := by simp [freeOf]
  obtain ⟨y5, y6, y7, y8, e⟩ := lo_loop m l L c hm hf (rowsOf L (l.length - 1)) [] none none none none (.inl rfl) (by rw [rows_len]; simpa using hN)
  let env0 : List (Option Sl) := [a0, a1, a2, none, none, none, none, none, none, none]
  refine fnOf_ret (env := ?_) ?_
  rotate_left
  · unfold m_line_offsets
    rw [seq_nx (s1 := ⟨[a0, a1, a2, a3, some (.own []), none, none, none, none, none], c⟩)]
    · rw [seq_nx (m := sFor _ _ _) (by
        rw [for_eq (ds := eRows (rowsOf L (l.length - 1))) (s1 := ⟨[a0, a1, a2, a3, some (.own []), none, none, none, none, none], c⟩)]
        · exact e
        · unfold iSeq
          rw [bnd_eq (fn_eq (env := [a0, a1, a2, a3, some (.own []), none, none, none, none, none]) (c0 := c) (ds := [.int (((freeOf l).map D.int).length : Nat), .int L]) (by rfl) (by rw [List.length_map, hfl]; exact all_offsets_eq _ L c hL hL2 hN (by omega)))]
          rfl)]
      refine ret_eq (lst_eq (m := eCallL srtG (aCons (eFrz 4) aNil)) (ds := us.map eIs) ?_)
      unfold eCallL
      refine (bnd_eq (a := [.lst ((vecs m l L).map eIs)]) (by rfl)).trans ?_
      show lift (srtG [.lst ((vecs m l L).map eIs)]) _ = _
      rw [hs]
      rfl
    · unfold sPar
      have hfree : eLst (eComp [7, 9] (gT (gCons (gN 7) (gCons (gN 9) gNil))) (ret true) (eVar 7) (iSeq (eSl (eVar 1) (oAt (eC (.int 1))) oNo))) ⟨env0, c⟩ = some (.lst ((freeOf l).map D.int), ⟨env0, c⟩) := by
        refine lst_eq ?_
        unfold freeOf
        rw [List.map_map]
        refine comp_map (enc := eP) (f := D.int ∘ fun x => x.1) (src1 := c) ?_ (by simp; omega) (clean_nones fun v hv => by simp at hv; rcases hv with rfl | rfl <;> exact .inl rfl) fun g hg => ⟨[a0, a1, a2, none, none, none, none, some (.val (.int g.1)), none, some (.val (.int g.2))], by rfl, by rfl⟩
        unfold iSeq
        have h1 : eSl (eVar 1) (oAt (eC (.int 1))) oNo ⟨env0, c⟩ = some (.tup ((l.drop 1).map eP), ⟨env0, c⟩) := by
          show some (D.tup (cutL (l.map eP) (some 1) none), _) = _
          rw [cut_tail, List.map_drop]
        rw [bnd_eq h1]
        rfl
      have hp : pVal (eLst (eComp [7, 9] (gT (gCons (gN 7) (gCons (gN 9) gNil))) (ret true) (eVar 7) (iSeq (eSl (eVar 1) (oAt (eC (.int 1))) oNo)))) (pOwn (lDisp aNil) pNil) ⟨env0, c⟩ = some ([.val (.lst ((freeOf l).map D.int)), .own []], ⟨env0, c⟩) := by
        unfold pVal
        rw [bnd_eq hfree]
        rfl
      exact (bnd_eq hp).trans (by rfl)
end GW
end

noncomputable section
namespace GW
open GH
theorem lplace_loop (a0 a1 a2 a3 a4 : Option Sl) (c : Src) : ∀ (ps : List (Int × Int)) (row off : List Int) (x6 x7 : Option Sl), (∀ p ∈ ps, 0 ≤ p.1 ∧ p.1 < off.length) → ∃ y6 y7,
    forM (gT (gCons (gN 6) (gCons (gN 7) gNil))) (sSetIx 5 (eVar 7) (eBin ixD (eVar 6) (eC (.int 0)))) (zipF2 (ps.map eP) (row.map D.int)) ⟨[a0, a1, a2, a3, a4, some (.own (off.map D.int)), x6, x7], c⟩
      = some (.nx, ⟨[a0, a1, a2, a3, a4, some (.own ((placeF off (ps.map (·.1)) row).map D.int)), y6, y7], c⟩)
  | [], row, off, x6, x7, _ => ⟨x6, x7, by simp [zipF2, for_nil, placeF]⟩
  | p :: ps, [], off, x6, x7, _ => ⟨x6, x7, by simp [zipF2, for_nil, placeF]⟩
  | p :: ps, o :: row, off, x6, x7, h => by
    have hk := h p List.mem_cons_self
    obtain ⟨y6, y7, e⟩ := lplace_loop a0 a1 a2 a3 a4 c ps row (off.set p.1.toNat o) (some (.val (eP p))) (some (.val (.int o))) (fun q hq =>
      (by rw [List.length_set]; exact h q (List.mem_cons_of_mem _ hq)))
    refine ⟨y6, y7, ?_⟩
    let env1 : List Int → List (Option Sl) := fun off => [a0, a1, a2, a3, a4, some (.own (off.map D.int)), some (.val (eP p)), some (.val (.int o))]
    rw [List.map_cons, List.map_cons, zipF2, for_nx (s1 := ⟨env1 off, c⟩) (s2 := ⟨env1 (off.set p.1.toNat o), c⟩) (by rfl) ?_, e]
    · rfl
    · unfold sSetIx
      rw [bnd_eq (a := .int o) (s1 := ⟨env1 off, c⟩) (by rfl), bnd_eq (a := ()) (s1 := ⟨env1 off, c⟩) (by rfl), bnd_eq (a := .int p.1) (s1 := ⟨env1 off, c⟩) (by rfl)]
      have hput : putL 5 (setL (.int p.1) (.int o)) ⟨env1 off, c⟩ = some ((), ⟨env1 (off.set p.1.toNat o), c⟩) := by
        show (match setL (.int p.1) (.int o) (off.map D.int) with
          | some ds' => some ((), (⟨(env1 off).set 5 (some (.own ds')), c⟩ : S))
          | none => none) = _
        rw [set_ints off p.1 o hk.1 hk.2]
        rfl
      rw [bnd_eq hput]
      rfl
theorem flat_rep (m : Nat) : (List.replicate m [D.int 0]).flatten = (List.replicate m (0 : Int)).map D.int := by
  induction m with
  | zero => rfl
  | succ m ih => rw [List.replicate_succ, List.flatten_cons, ih, List.replicate_succ]; rfl
theorem llo_loop (m : Nat) (l : List (Int × Int)) (L : Nat) (c : Src) (hm : m ≤ 1000) (hf : ∀ p ∈ l.drop 1, 0 ≤ p.1 ∧ p.1 < m) : ∀ (rs acc : List (List Int)) (x4 x5 x6 x7 : Option Sl), acc.length + rs.length ≤ 50000 → ∃ y4 y5 y6 y7,
    forM (gN 4) (sSeq (sOwn 5 (eBinL mulLD (eLst (lDisp (aCons (eC (.int 0)) aNil))) (eVar 0)))
      (sSeq (sFor (iZip2 (eSl (eVar 1) (oAt (eC (.int 1))) oNo) (eVar 4)) (gT (gCons (gN 6) (gCons (gN 7) gNil))) (sSetIx 5 (eVar 7) (eBin ixD (eVar 6) (eC (.int 0)))))
      (sExpr (eApp 3 (eCall tupG (aCons (eFrz 5) aNil))))))
      (eRows rs) ⟨[some (.val (.int m)), some (.val (ePs l)), some (.val (.int L)), some (.own (eRows acc)), x4, x5, x6, x7], c⟩
      = some (.nx, ⟨[some (.val (.int m)), some (.val (ePs l)), some (.val (.int L)), some (.own (eRows (acc ++ rs.map fun row => placeF (List.replicate m 0) (freeOf l) row))), y4, y5, y6, y7], c⟩)
  | [], acc, x4, x5, x6, x7, _ => ⟨x4, x5, x6, x7, by simp [eRows, for_nil]⟩
  | row :: rs, acc, x4, x5, x6, x7, hlen => by
    simp only [List.length_cons] at hlen
    let v := placeF (List.replicate m 0) (freeOf l) row
    let a0 := some (Sl.val (.int m)); let a1 := some (Sl.val (ePs l)); let a2 := some (Sl.val (.int L))
    let a3 := some (Sl.own (eRows acc)); let a4 := some (Sl.val (eIs row))
    let z := some (Sl.own ((List.replicate m (0 : Int)).map D.int))
    obtain ⟨z6, z7, ep⟩ := lplace_loop a0 a1 a2 a3 a4 c (l.drop 1) row (List.replicate m 0) x6 x7 (by simpa using hf)
    obtain ⟨y4, y5, y6, y7, e⟩ := llo_loop m l L c hm hf rs (acc ++ [v]) a4 (some (.val (.lst (v.map D.int)))) z6 z7 (by simp; omega)
    refine ⟨y4, y5, y6, y7, ?_⟩
    show forM _ _ (eIs row :: eRows rs) _ = _
    rw [for_nx (s1 := ⟨[a0, a1, a2, a3, a4, x5, x6, x7], c⟩) (s2 := ⟨[a0, a1, a2, some (.own (eRows (acc ++ [v]))), a4, some (.val (.lst (v.map D.int))), z6, z7], c⟩) (by rfl) ?_, e]
    · simp [v]
    · have e1 : eBinL mulLD (eLst (lDisp (aCons (eC (.int 0)) aNil))) (eVar 0) ⟨[a0, a1, a2, a3, a4, x5, x6, x7], c⟩ = some ((List.replicate m (0 : Int)).map D.int, ⟨[a0, a1, a2, a3, a4, x5, x6, x7], c⟩) := by
        unfold eBinL
        rw [bnd_eq (a := .lst [.int 0]) (s1 := ⟨[a0, a1, a2, a3, a4, x5, x6, x7], c⟩) (by rfl), bnd_eq (a := .int m) (s1 := ⟨[a0, a1, a2, a3, a4, x5, x6, x7], c⟩) (by rfl)]
        have hmul : mulLD (.lst [.int 0]) (.int (m : Int)) = some ((List.replicate m (0 : Int)).map D.int) := by
          have h1 : -(2 ^ 63) ≤ (m : Int) := by omega
          have h2 : (m : Int) < 2 ^ 63 := by omega
          have h3 : ([D.int 0]).length * (m : Int).toNat ≤ PySem.sizeLine := sz _ (by simp; omega)
          simp only [mulLD]
          rw [if_pos ⟨h1, h2, h3⟩, Int.toNat_natCast, flat_rep]
        rw [hmul]
        rfl
      rw [seq_nx (s1 := ⟨[a0, a1, a2, a3, a4, z, x6, x7], c⟩) (own_eq e1 (by show 5 < 8; decide))]
      rw [seq_nx (m := sFor _ _ _) (by
        rw [for_eq (ds := zipF2 ((l.drop 1).map eP) (row.map D.int)) (s1 := ⟨[a0, a1, a2, a3, a4, z, x6, x7], c⟩)]
        · exact ep
        · unfold iZip2
          have h1 : eSl (eVar 1) (oAt (eC (.int 1))) oNo ⟨[a0, a1, a2, a3, a4, z, x6, x7], c⟩ = some (.tup ((l.drop 1).map eP), ⟨[a0, a1, a2, a3, a4, z, x6, x7], c⟩) := by
            show some (D.tup (cutL (l.map eP) (some 1) none), _) = _
            rw [cut_tail, List.map_drop]
          rw [bnd_eq h1]
          rfl)]
      have hl : (eRows acc).length < PySem.sizeLine := Nat.lt_of_lt_of_le (by simp only [eRows, List.length_map]; omega) (sz 100000 (by omega))
      have hh : eApp 3 (eCall tupG (aCons (eFrz 5) aNil)) ⟨[a0, a1, a2, a3, a4, some (.own (v.map D.int)), z6, z7], c⟩ = some (D.non, ⟨[a0, a1, a2, some (.own (eRows acc ++ [eIs v])), a4, some (.val (.lst (v.map D.int))), z6, z7], c⟩) := by
        unfold eApp
        rw [bnd_eq (a := ()) (s1 := ⟨[a0, a1, a2, a3, a4, some (.own (v.map D.int)), z6, z7], c⟩) (by rfl)]
        rw [bnd_eq (call_eq (ds := [.lst (v.map D.int)]) (d := eIs v) (s1 := ⟨[a0, a1, a2, a3, a4, some (.val (.lst (v.map D.int))), z6, z7], c⟩) (by rfl) (by rfl))]
        simp [bndE, putL, appL, hl, ret, a3]
      unfold sExpr
      rw [show (placeF (List.replicate m 0) ((l.drop 1).map (·.1)) row) = v from rfl]
      rw [bnd_eq hh]
      simp [eRows, ret]
theorem law_off_eq (m : Nat) (l : List (Int × Int)) (L : Nat) (c : Src) (hm : m ≤ 1000) (hf : ∀ p ∈ l.drop 1, 0 ≤ p.1 ∧ p.1 < m) (hL : 1 ≤ L) (hL2 : L ≤ 1000) (hN : L ^ (l.length - 1) ≤ 50000) (hl : l.length ≤ 1000) (h0 : l ≠ [])
    {us : List (List Int)} (hs : srtG [.lst ((vecs m l L).map eIs)] = some (us.map eIs)) : S__law_line_offsets [.int m, ePs l, .int L] c = some (.lst (us.map eIs), c) := by
  have hpos : 0 < l.length := List.length_pos_iff.mpr h0
  let a0 := some (Sl.val (.int m)); let a1 := some (Sl.val (ePs l)); let a2 := some (Sl.val (.int L))
  obtain ⟨y4, y5, y6, y7, e⟩ := llo_loop m l L c hm hf (rowsOf L (l.length - 1)) [] none none none none (by rw [rows_len]; simpa using hN)
  refine fnOf_ret (env := ?_) ?_
  rotate_left
  · unfold m__law_line_offsets
    rw [seq_nx (s1 := ⟨[a0, a1, a2, some (.own []), none, none, none, none], c⟩) (by rfl)]
    rw [seq_nx (m := sFor _ _ _) (by
      rw [for_eq (ds := eRows (rowsOf L (l.length - 1))) (s1 := ⟨[a0, a1, a2, some (.own []), none, none, none, none], c⟩)]
      · exact e
      · unfold iSeq
        rw [bnd_eq (fn_eq (env := [a0, a1, a2, some (.own []), none, none, none, none]) (c0 := c) (ds := [.int (((l.map eP).length : Nat) - 1), .int L]) (by rfl) (by
          rw [List.length_map, show (((l.length : Nat) : Int) - 1) = ((l.length - 1 : Nat) : Int) by omega]
          exact rows_below_eq _ L c hL hL2 hN (by omega)))]
        rfl)]
    refine ret_eq (lst_eq (m := eCallL srtG (aCons (eFrz 3) aNil)) (ds := us.map eIs) ?_)
    unfold eCallL
    refine (bnd_eq (a := [.lst ((vecs m l L).map eIs)]) (by rfl)).trans ?_
    show lift (srtG [.lst ((vecs m l L).map eIs)]) _ = _
    rw [hs]
    rfl

def pairV (L : Int) (off : List Int) (l gs bs : List (Int × Int)) : Int × Int := (((bandL L off l gs).length : Nat), ((bandL L off (backL l) bs).length : Nat))
theorem back_in {off : List Int} {l : List (Int × Int)} (h : inOff off l) : inOff off (backL l) := fun p hp => by
  unfold backL at hp
  obtain ⟨i, hi, rfl⟩ := List.mem_map.mp hp
  have hi := List.mem_range.mp hi
  have hm : at0 l (l.length - 1 - i) ∈ l := by
    unfold at0
    have : l.length - 1 - i < l.length := by omega
    rw [List.getD_eq_getElem?_getD, List.getElem?_eq_getElem this]
    exact List.getElem_mem this
  exact h (at0 l (l.length - 1 - i)) hm
theorem back_len (l : List (Int × Int)) : (backL l).length = l.length := by simp [backL]
theorem both_eq (l gs bs : List (Int × Int)) (L : Int) (off : List Int) (c : Src) (hL : 0 < L) (hL2 : L ≤ 1000) (h : inOff off l) (hl : l.length ≤ 10000) : S_both_bands [ePs l, ePs gs, ePs bs, .int L, eIs off] c = some (eP (pairV L off l gs bs), c) := by
  let env0 : List (Option Sl) := [some (.val (ePs l)), some (.val (ePs gs)), some (.val (ePs bs)), some (.val (.int L)), some (.val (eIs off))]
  refine fnOf_ret (env := env0) ?_
  unfold m_both_bands
  refine ret_eq ?_
  unfold eTup
  rw [bnd_eq (a := [.int ((bandL L off l gs).length : Nat), .int ((bandL L off (backL l) bs).length : Nat)]) (s1 := ⟨env0, c⟩)]
  · rfl
  · refine cons_eq (s1 := ⟨env0, c⟩) (call_eq (ds := [eIs (bandL L off l gs)]) (s1 := ⟨env0, c⟩) (one_eq (fn_eq (env := env0) (c0 := c) (ds := [ePs l, ePs gs, .int L, eIs off]) (by rfl) (S_band_eq l gs L off c hL (by omega) h (by omega)))) (by simp [lenG, eIs])) ?_
    refine one_eq (call_eq (ds := [eIs (bandL L off (backL l) bs)]) (s1 := ⟨env0, c⟩) (one_eq (fn_eq (env := env0) (c0 := c) (ds := [ePs (backL l), ePs bs, .int L, eIs off]) ?_ (S_band_eq (backL l) bs L off c hL (by omega) (back_in h) (by rw [back_len]; omega)))) (by simp [lenG, eIs]))
    exact cons_eq (s1 := ⟨env0, c⟩) (fn_eq (env := env0) (c0 := c) (ds := [ePs l]) (by rfl) (S_back_eq l c hl)) (by rfl)
/-- the best of a row of offsets: the first of the greatest -/
def bestStep (L : Int) (l gs bs : List (Int × Int)) (b : Option (Int × List Int)) (off : List Int) : Option (Int × List Int) :=
  let t := (pairV L off l gs bs).1 + (pairV L off l gs bs).2
  match b with
  | none => some (t, off)
  | some (u, o) => if u < t then some (t, off) else some (u, o)
def eBest : Option (Int × List Int) → D
  | none => .non
  | some (t, off) => .tup [.int t, eIs off]
theorem best_test (b : Option (Int × List Int)) (t : Int) (i j : Nat) (s : S) (hi : s.env[i]? = some (some (.val (eBest b)))) (hj : s.env[j]? = some (some (.val (.int t)))) :
    tOr2 (tst (eBin isND (eVar i) (eC .non))) (tst (eBin gtD (eVar j) (eBin ixD (eVar i) (eC (.int 0))))) s = some (match b with | none => true | some (u, _) => decide (u < t), s) := by
  have vi : eVar i s = some (eBest b, s) := by unfold eVar; rw [hi]
  have vj : eVar j s = some (.int t, s) := by unfold eVar; rw [hj]
  unfold tOr2
  cases b with
  | none => rw [bnd_eq (tst_eq (bin_eq (f := isND) vi (by rfl) (by rfl)))]; rfl
  | some p =>
    obtain ⟨u, o⟩ := p
    rw [bnd_eq (tst_eq (b := false) (bin_eq (f := isND) vi (by rfl) (by rfl))), if_neg (by decide)]
    exact tst_eq (bin_eq (f := gtD) vj (bin_eq (f := ixD) (y := .int 0) vi (by rfl) (by rfl)) (by rfl))
theorem best_loop (m : Int) (l gs bs : List (Int × Int)) (L : Int) (c : Src) (hL : 0 < L) (hL2 : L ≤ 1000) (hl : l.length ≤ 10000) : ∀ (us : List (List Int)) (b : Option (Int × List Int)) (x6 x7 : Option Sl), (∀ u ∈ us, inOff u l) → ∃ y6 y7,
    forM (gN 6) (sSeq (sSet 7 (eCall sumG (aCons (eFn S_both_bands (aCons (eVar 1) (aCons (eVar 2) (aCons (eVar 3) (aCons (eVar 4) (aCons (eVar 6) aNil)))))) aNil)))
      (sIf (tOr2 (tst (eBin isND (eVar 5) (eC .non))) (tst (eBin gtD (eVar 7) (eBin ixD (eVar 5) (eC (.int 0))))))
        (sSet 5 (eTup (aCons (eVar 7) (aCons (eVar 6) aNil)))) sNx))
      (us.map eIs) ⟨[some (.val (.int m)), some (.val (ePs l)), some (.val (ePs gs)), some (.val (ePs bs)), some (.val (.int L)), some (.val (eBest b)), x6, x7], c⟩
      = some (.nx, ⟨[some (.val (.int m)), some (.val (ePs l)), some (.val (ePs gs)), some (.val (ePs bs)), some (.val (.int L)), some (.val (eBest (us.foldl (bestStep L l gs bs) b))), y6, y7], c⟩)
  | [], b, x6, x7, _ => ⟨x6, x7, by simp [for_nil]⟩
  | u :: us, b, x6, x7, h => by
    let t := (pairV L u l gs bs).1 + (pairV L u l gs bs).2
    obtain ⟨y6, y7, e⟩ := best_loop m l gs bs L c hL hL2 hl us (bestStep L l gs bs b u) (some (.val (eIs u))) (some (.val (.int t))) fun q hq => h q (List.mem_cons_of_mem _ hq)
    refine ⟨y6, y7, ?_⟩
    let env1 : Option Sl → Option (Int × List Int) → List (Option Sl) := fun x b => [some (.val (.int m)), some (.val (ePs l)), some (.val (ePs gs)), some (.val (ePs bs)), some (.val (.int L)), some (.val (eBest b)), some (.val (eIs u)), x]
    let x := some (Sl.val (.int t))
    rw [List.map_cons, List.foldl_cons, for_nx (s1 := ⟨env1 x7 b, c⟩) (s2 := ⟨env1 x (bestStep L l gs bs b u), c⟩) (by rfl) ?_, e]
    have e1 : eCall sumG (aCons (eFn S_both_bands (aCons (eVar 1) (aCons (eVar 2) (aCons (eVar 3) (aCons (eVar 4) (aCons (eVar 6) aNil)))))) aNil) ⟨env1 x7 b, c⟩ = some (.int t, ⟨env1 x7 b, c⟩) :=
      call_eq (ds := [eP (pairV L u l gs bs)]) (one_eq (fn_eq (env := env1 x7 b) (c0 := c) (ds := [ePs l, ePs gs, ePs bs, .int L, eIs u]) (by rfl) (both_eq l gs bs L u c hL hL2 (h u List.mem_cons_self) hl))) (by
        show some (D.int ((pairV L u l gs bs).1 + ((pairV L u l gs bs).2 + 0))) = _
        rw [Int.add_zero])
    rw [seq_nx (s1 := ⟨env1 x b, c⟩) (set_eq e1 (by show 7 < 8; decide))]
    have ht := best_test b t 5 7 ⟨env1 x b, c⟩ (by rfl) (by rfl)
    cases b with
    | none => rw [if_tt ht]; rfl
    | some p =>
      obtain ⟨w, o⟩ := p
      by_cases hw : w < t
      · rw [if_tt (s1 := ⟨env1 x (some (w, o)), c⟩) (by rw [ht]; simp [hw])]
        have : bestStep L l gs bs (some (w, o)) u = some (t, u) := if_pos hw
        rw [this]
        rfl
      · rw [if_ff (s1 := ⟨env1 x (some (w, o)), c⟩) (by rw [ht]; simp [hw])]
        have : bestStep L l gs bs (some (w, o)) u = some (w, o) := if_neg hw
        rw [this]
        rfl
end GW
end

noncomputable section
namespace GW
open GH
theorem best_both_eq (m : Nat) (l gs bs : List (Int × Int)) (L : Nat) (c : Src) (hm : m ≤ 1000) (hf : ∀ k ∈ freeOf l, 0 ≤ k ∧ k < m) (hL : 1 ≤ L) (hL2 : L ≤ 1000) (hN : L ^ (l.length - 1) ≤ 50000) (hl : l.length ≤ 1000)
    {us : List (List Int)} (hs : srtG [.lst ((vecs m l L).map eIs)] = some (us.map eIs)) (hin : ∀ u ∈ us, inOff u l) :
    S_best_both [.int m, ePs l, ePs gs, ePs bs, .int L] c = some (eBest (us.foldl (bestStep L l gs bs) none), c) := by
  obtain ⟨y6, y7, e⟩ := best_loop m l gs bs L c (by omega) (by omega) (by omega) us none none none hin
  let env0 : List (Option Sl) := [some (.val (.int m)), some (.val (ePs l)), some (.val (ePs gs)), some (.val (ePs bs)), some (.val (.int L)), some (.val (eBest none)), none, none]
  refine fnOf_ret (env := ?_) ?_
  rotate_left
  · unfold m_best_both
    rw [seq_nx (s1 := ⟨env0, c⟩) (by rfl)]
    rw [seq_nx (m := sFor _ _ _) (by
      rw [for_eq (ds := us.map eIs) (s1 := ⟨env0, c⟩)]
      · exact e
      · unfold iSeq
        rw [bnd_eq (fn_eq (env := env0) (c0 := c) (ds := [.int m, ePs l, .int L]) (by rfl) (line_off_eq m l L c hm hf hL hL2 hN hl hs))]
        rfl)]
    rfl
theorem any_bls (bs : List Bool) : anyG [.lst (bs.map D.bl)] = some (.bl (bs.any id)) := by
  show (toBls (bs.map D.bl)).map _ = _
  rw [toBls_map]
  rfl
theorem all_bls (bs : List Bool) : allG [.lst (bs.map D.bl)] = some (.bl (bs.all id)) := by
  show (toBls (bs.map D.bl)).map _ = _
  rw [toBls_map]
  rfl
theorem okP (p : Int × Int) : (eP p).okN 1 := D.okN_tup (n := 0) fun d hd => by
  simp at hd
  rcases hd with rfl | rfl <;> exact D.okN_int _
theorem eP_inj (p q : Int × Int) : eP p = eP q ↔ p = q := by
  constructor
  · intro h
    have h : D.tup [.int p.1, .int p.2] = D.tup [.int q.1, .int q.2] := h
    injection h with h
    injection h with h1 h2
    injection h2 with h2 _
    injection h1 with h1
    injection h2 with h2
    exact Prod.ext h1 h2
  · intro h; rw [h]
theorem eqP (p q : Int × Int) : eqD (eP p) (eP q) = some (.bl (decide (p = q))) := eqD_iff (okP p).ok (okP q).ok (eP_inj p q)
theorem full_both_eq (l gs bs : List (Int × Int)) (L : Nat) (c : Src) (hm : maxL (l.map (·.1)) + 1 ≤ 1000) (hp : 0 ≤ maxL (l.map (·.1))) (h0 : l ≠ []) (hg : gs ≠ []) (hb : bs ≠ []) (hgl : gs.length ≤ 1000) (hbl : bs.length ≤ 1000)
    (hf : ∀ k ∈ freeOf l, 0 ≤ k ∧ k < maxL (l.map (·.1)) + 1) (hL : 1 ≤ L) (hL2 : L ≤ 1000) (hN : L ^ (l.length - 1) ≤ 50000) (hl : l.length ≤ 1000)
    {us : List (List Int)} (hs : srtG [.lst ((vecs (maxL (l.map (·.1)) + 1).toNat l L).map eIs)] = some (us.map eIs)) (hin : ∀ u ∈ us, inOff u l) (hul : us.length ≤ 50000) :
    S_full_both [ePs l, ePs gs, ePs bs, .int L] c = some (.bl (us.any fun u => decide (pairV L u l gs bs = (least gs, least bs))), c) := by
  let M : Nat := (maxL (l.map (·.1)) + 1).toNat
  have hM : ((M : Nat) : Int) = maxL (l.map (·.1)) + 1 := by omega
  let a0 := some (Sl.val (ePs l)); let a1 := some (Sl.val (ePs gs)); let a2 := some (Sl.val (ePs bs)); let a3 := some (Sl.val (.int (L : Int)))
  let due := D.tup [.int (least gs), .int (least bs)]
  let env0 : List (Option Sl) := [a0, a1, a2, a3, none, none, none, none, none]
  let env1 : List (Option Sl) := [a0, a1, a2, a3, some (.val (.int (M : Int))), some (.val due), none, none, none]
  have hmax : eBin addD (eCall maxG (aCons (eLst (eComp [6, 7] (gT (gCons (gN 6) (gCons (gN 7) gNil))) (ret true) (eVar 6) (iSeq (eVar 0)))) aNil)) (eC (.int 1)) ⟨env0, c⟩ = some (.int (M : Int), ⟨env0, c⟩) := by
    rw [hM]
    refine bin_eq (f := addD) (s1 := ⟨env0, c⟩) (x := .int (maxL (l.map (·.1)))) (y := .int 1) (call_eq (ds := [.lst ((l.map (·.1)).map D.int)]) (one_eq (lst_eq ?_)) (max_ints _ (by simpa using h0))) (by rfl) (by rfl)
    rw [List.map_map]
    exact comp_map (enc := eP) (f := D.int ∘ fun x => x.1) (src1 := c) (by rfl) (by omega) (clean_nones fun v hv => by simp at hv; rcases hv with rfl | rfl <;> exact .inl rfl) fun g hg => ⟨[a0, a1, a2, a3, none, none, some (.val (.int g.1)), some (.val (.int g.2)), none], by rfl, by rfl⟩
  have hdue : eTup (aCons (eFn S_band_bound (aCons (eVar 1) aNil)) (aCons (eFn S_band_bound (aCons (eVar 2) aNil)) aNil)) ⟨env0, c⟩ = some (due, ⟨env0, c⟩) := by
    unfold eTup
    rw [bnd_eq (cons_eq (s1 := ⟨env0, c⟩) (fn_eq (env := env0) (c0 := c) (ds := [ePs gs]) (by rfl) (band_bound_eq gs c hg (by omega))) (one_eq (fn_eq (env := env0) (c0 := c) (ds := [ePs bs]) (by rfl) (band_bound_eq bs c hb (by omega)))))]
    rfl
  refine fnOf_ret (env := env1) ?_
  unfold m_full_both
  rw [seq_nx (s1 := ⟨env1, c⟩)]
  · refine ret_eq (call_eq (ds := [.lst ((us.map fun u => decide (pairV L u l gs bs = (least gs, least bs))).map D.bl)]) (one_eq (lst_eq ?_)) ?_)
    · rw [List.map_map]
      refine comp_map (enc := eIs) (f := D.bl ∘ fun u => decide (pairV L u l gs bs = (least gs, least bs))) (src1 := c) ?_ (by omega) (clean_nones fun v hv => by simp at hv; subst hv; exact .inl rfl) fun u hu => ?_
      · unfold iSeq
        rw [bnd_eq (fn_eq (env := env1) (c0 := c) (ds := [.int (M : Int), ePs l, .int L]) (by rfl) (line_off_eq M l L c (by omega) (fun k hk => by rw [hM]; exact hf k hk) hL hL2 hN hl hs))]
        rfl
      · let env2 : List (Option Sl) := [a0, a1, a2, a3, some (.val (.int (M : Int))), some (.val due), none, none, some (.val (eIs u))]
        refine ⟨env2, ?_, by rfl⟩
        unfold turnC
        rw [bnd_eq (a := ()) (s1 := ⟨env2, c⟩) (by rfl), bnd_eq (a := true) (s1 := ⟨env2, c⟩) rfl, if_pos rfl]
        have e1 : eBin eqD (eFn S_both_bands (aCons (eVar 0) (aCons (eVar 1) (aCons (eVar 2) (aCons (eVar 3) (aCons (eVar 8) aNil)))))) (eVar 5) ⟨env2, c⟩ = some (.bl (decide (pairV L u l gs bs = (least gs, least bs))), ⟨env2, c⟩) :=
          bin_eq (f := eqD) (s1 := ⟨env2, c⟩) (fn_eq (env := env2) (c0 := c) (ds := [ePs l, ePs gs, ePs bs, .int L, eIs u]) (by rfl) (both_eq l gs bs L u c (by omega) (by omega) (hin u hu) (by omega))) (by rfl) (eqP _ (least gs, least bs))
        rw [bnd_eq e1]
        rfl
    · rw [any_bls, List.any_map]
      rfl
  · unfold sPar
    have hp : pVal (eBin addD (eCall maxG (aCons (eLst (eComp [6, 7] (gT (gCons (gN 6) (gCons (gN 7) gNil))) (ret true) (eVar 6) (iSeq (eVar 0)))) aNil)) (eC (.int 1))) (pVal (eTup (aCons (eFn S_band_bound (aCons (eVar 1) aNil)) (aCons (eFn S_band_bound (aCons (eVar 2) aNil)) aNil))) pNil) ⟨env0, c⟩
        = some ([.val (.int (M : Int)), .val due], ⟨env0, c⟩) := by
      have h2 : pVal (eTup (aCons (eFn S_band_bound (aCons (eVar 1) aNil)) (aCons (eFn S_band_bound (aCons (eVar 2) aNil)) aNil))) pNil ⟨env0, c⟩ = some ([.val due], ⟨env0, c⟩) := by
        unfold pVal
        rw [bnd_eq hdue]
        rfl
      unfold pVal at h2 ⊢
      rw [bnd_eq hmax, bnd_eq h2]
      rfl
    exact (bnd_eq hp).trans (by rfl)

theorem pass_congr (L : Int) (off off' : List Int) : ∀ (l gs : List (Int × Int)) (ts : List Int), (∀ p ∈ l, offAt off p.1 = offAt off' p.1) → passG L off l gs ts = passG L off' l gs ts
  | [], _, _, _ => rfl
  | _ :: _, [], _, _ => rfl
  | _ :: _, _ :: _, [], _ => rfl
  | p :: l, g :: gs, t :: ts, h => by
    show (decide _ && _) = (decide _ && _)
    rw [h p List.mem_cons_self, pass_congr L off off' l gs ts fun q hq => h q (List.mem_cons_of_mem _ hq)]
theorem band_congr (L : Int) (off off' : List Int) (l gs : List (Int × Int)) (h : ∀ p ∈ l, offAt off p.1 = offAt off' p.1) : bandL L off l gs = bandL L off' l gs := by
  unfold bandL
  congr 1
  funext s
  exact pass_congr L off off' l gs _ h
theorem back_first {l : List (Int × Int)} {p : Int × Int} (h : p ∈ backL l) : ∃ q ∈ l, q.1 = p.1 := by
  unfold backL at h
  obtain ⟨i, hi, rfl⟩ := List.mem_map.mp h
  have hi := List.mem_range.mp hi
  refine ⟨at0 l (l.length - 1 - i), ?_, rfl⟩
  unfold at0
  have : l.length - 1 - i < l.length := by omega
  rw [List.getD_eq_getElem?_getD, List.getElem?_eq_getElem this]
  exact List.getElem_mem this
theorem pair_congr (L : Int) (off off' : List Int) (l gs bs : List (Int × Int)) (h : ∀ p ∈ l, offAt off p.1 = offAt off' p.1) : pairV L off l gs bs = pairV L off' l gs bs := by
  unfold pairV
  rw [band_congr L off off' l gs h, band_congr L off off' (backL l) bs fun p hp => by
    obtain ⟨q, hq, e⟩ := back_first hp
    rw [← e]; exact h q hq]
theorem place_at : ∀ (fr row off off' : List Int) (k : Int), (∀ q ∈ fr, 0 ≤ q ∧ q < off.length ∧ q < off'.length) → 0 ≤ k → k < off.length → k < off'.length → offAt off k = offAt off' k → offAt (placeF off fr row) k = offAt (placeF off' fr row) k
  | [], _, _, _, _, _, _, _, _, h => h
  | _ :: _, [], _, _, _, _, _, _, _, h => h
  | c :: fr, o :: row, off, off', k, hf, h0, h1, h2, h => by
    have hc := hf c List.mem_cons_self
    refine place_at fr row (off.set c.toNat o) (off'.set c.toNat o) k (fun q hq => by rw [List.length_set, List.length_set]; exact hf q (List.mem_cons_of_mem _ hq)) h0 (by rw [List.length_set]; exact h1) (by rw [List.length_set]; exact h2) ?_
    unfold offAt at h ⊢
    rw [List.getD_eq_getElem?_getD, List.getD_eq_getElem?_getD] at h ⊢
    by_cases e : c.toNat = k.toNat
    · rw [e, List.getElem?_set_self (by omega), List.getElem?_set_self (by omega)]
    · rw [List.getElem?_set_ne e, List.getElem?_set_ne e]; exact h
theorem any_perm {α : Type} {p : α → Bool} {a b : List α} (h : a.Perm b) : a.any p = b.any p := by
  rw [Bool.eq_iff_iff, List.any_eq_true, List.any_eq_true]
  constructor
  · rintro ⟨x, h1, h2⟩; exact ⟨x, h.mem_iff.mp h1, h2⟩
  · rintro ⟨x, h1, h2⟩; exact ⟨x, h.mem_iff.mpr h1, h2⟩
/-- whether some offsets fill both bands: over the vectors of either size -/
theorem any_size (m m' : Nat) (l gs bs : List (Int × Int)) (L : Nat) (t : Int × Int) (h : ∀ p ∈ l, 0 ≤ p.1 ∧ p.1 < m ∧ p.1 < m') :
    ((vecs m l L).any fun u => decide (pairV L u l gs bs = t)) = ((vecs m' l L).any fun u => decide (pairV L u l gs bs = t)) := by
  unfold vecs
  rw [List.any_map, List.any_map]
  congr 1
  funext row
  show decide (pairV L _ l gs bs = t) = decide (pairV L _ l gs bs = t)
  rw [pair_congr L (placeF (List.replicate m 0) (freeOf l) row) (placeF (List.replicate m' 0) (freeOf l) row) l gs bs fun p hp => by
    have hp' := h p hp
    refine place_at (freeOf l) row _ _ p.1 (fun q hq => ?_) hp'.1 (by simpa using hp'.2.1) (by simpa using hp'.2.2) ?_
    · unfold freeOf at hq
      obtain ⟨r, hr, rfl⟩ := List.mem_map.mp hq
      have := h r (List.mem_of_mem_drop hr)
      simpa using this
    · unfold offAt
      rw [List.getD_eq_getElem?_getD, List.getD_eq_getElem?_getD, List.getElem?_replicate, List.getElem?_replicate, if_pos (by omega), if_pos (by omega)]]
end GW
end

noncomputable section
namespace GW
open GH
theorem mul_ok (x y : Int) (h1 : -(2 ^ 64) < y) (h2 : y < 2 ^ 64) : mulD (.int x) (.int y) = some (.int (x * y)) := by
  simp only [mulD]
  rw [if_pos (.inr ⟨h1, h2⟩)]
theorem erase_perm {α : Type} : ∀ (l : List α) (i : Nat) (h : i < l.length), (l[i] :: l.eraseIdx i).Perm l
  | [], _, h => by simp at h
  | x :: l, 0, _ => by simp
  | x :: l, i + 1, h => by
    have h' : i < l.length := by simpa using h
    have := erase_perm l i h'
    simp only [List.getElem_cons_succ, List.eraseIdx_cons_succ]
    exact (List.Perm.swap x l[i] _).trans (this.cons x)
theorem order_loop (a1 : Option Sl) : ∀ (xs rem : List D) (x3 : Option Sl) (c : Src), xs.length = rem.length → rem.length ≤ 1000 → ∃ (ys : List D) (c' : Src) (y3 : Option Sl), ys.Perm rem ∧
    compF [3] (gN 3) (ret true) (ePopAt 2 (eFn S__law_pick (aCons (eVar 0) (aCons (eBor [2] (eCall lenG (aCons (eVar 2) aNil))) aNil)))) xs ⟨[some (.val .src), a1, some (.own rem), x3], c⟩
      = some (ys, ⟨[some (.val .src), a1, some (.own []), y3], c'⟩)
  | [], rem, x3, c, h, _ => by
    have : rem = [] := List.eq_nil_of_length_eq_zero (by simpa using h.symm)
    subst this
    exact ⟨[], c, x3, .refl _, rfl⟩
  | d :: xs, rem, x3, c, h, hl => by
    simp only [List.length_cons] at h
    let n := rem.length
    obtain ⟨r, c1, hp, h0, hr⟩ := pick_any (n : Int) c (by omega) (by omega)
    have hi : r.toNat < rem.length := by omega
    let y := rem[r.toNat]
    have herase : (rem.eraseIdx r.toNat).length = rem.length - 1 := List.length_eraseIdx_of_lt hi
    obtain ⟨ys, c', y3, hperm, e⟩ := order_loop a1 xs (rem.eraseIdx r.toNat) (some (.val d)) c1 (by rw [herase]; omega) (by omega)
    refine ⟨y :: ys, c', y3, (hperm.cons y).trans (erase_perm rem r.toNat hi), ?_⟩
    let env1 : List (Option Sl) := [some (.val .src), a1, some (.own rem), some (.val d)]
    have hpop : ePopAt 2 (eFn S__law_pick (aCons (eVar 0) (aCons (eBor [2] (eCall lenG (aCons (eVar 2) aNil))) aNil))) ⟨env1, c⟩ = some (y, ⟨[some (.val .src), a1, some (.own (rem.eraseIdx r.toNat)), some (.val d)], c1⟩) := by
      unfold ePopAt
      rw [bnd_eq (a := ()) (s1 := ⟨env1, c⟩) (by rfl)]
      refine (bnd_eq (fn_eq (env := env1) (c0 := c) (ds := [.src, .int (n : Int)]) (by rfl) hp)).trans ?_
      show (match popAtL (.int r) rem with
        | some (d, ds') => some (d, (⟨env1.set 2 (some (.own ds')), c1⟩ : S))
        | none => none) = _
      have hpa : popAtL (.int r) rem = some (y, rem.eraseIdx r.toNat) := by
        show ((L2.ixN rem.length r).bind fun n => if rem.length ≤ PySem.sizeLine then rem[n]?.map fun y => (y, rem.eraseIdx n) else none) = _
        rw [ixN_of h0 hr]
        show (if rem.length ≤ PySem.sizeLine then rem[r.toNat]?.map fun y => (y, rem.eraseIdx r.toNat) else none) = _
        rw [if_pos (sz _ (by omega)), List.getElem?_eq_getElem hi]
        rfl
      rw [hpa]
      rfl
    have hstep : cStep [3] (gN 3) (ret true) (ePopAt 2 (eFn S__law_pick (aCons (eVar 0) (aCons (eBor [2] (eCall lenG (aCons (eVar 2) aNil))) aNil)))) d ⟨[some (.val .src), a1, some (.own rem), x3], c⟩
        = some (some y, ⟨[some (.val .src), a1, some (.own (rem.eraseIdx r.toNat)), some (.val d)], c1⟩) := by
      rw [cStep_eq]
      unfold turnC
      refine (bnd_eq (a := ()) (s1 := ⟨env1, c⟩) (by rfl)).trans ?_
      rw [bnd_eq (a := true) (s1 := ⟨env1, c⟩) rfl, if_pos rfl, bnd_eq hpop]
      rfl
    show bnd (cStep _ _ _ _ d) _ _ = _
    rw [bnd_eq hstep, bnd_eq e]
    rfl
theorem order_eq (ds : List D) (c : Src) (hl : ds.length ≤ 1000) : ∃ (ys : List D) (c' : Src), ys.Perm ds ∧ S__law_any_order [.src, .lst ds] c = some (.lst ys, c') := by
  let xs := (List.range ds.length).map fun i : Nat => D.int (i : Int)
  obtain ⟨ys, c', y3, hperm, e⟩ := order_loop (some (.val (.lst ds))) xs ds none c (by simp [xs]) hl
  refine ⟨ys, c', hperm, ?_⟩
  let env0 : List (Option Sl) := [some (.val .src), some (.val (.lst ds)), some (.own ds), none]
  refine fnOf_ret (env := restE env0 [some (.val .src), some (.val (.lst ds)), some (.own []), y3] [3]) ?_
  unfold m__law_any_order
  rw [seq_nx (s1 := ⟨env0, c⟩) (by rfl)]
  refine ret_eq (lst_eq ?_)
  unfold eComp
  have hit : iRg1 (eBor [2] (eCall lenG (aCons (eVar 2) aNil))) ⟨env0, c⟩ = some (xs, ⟨env0, c⟩) := by
    show _ = some ((List.range ds.length).map (fun i : Nat => D.int (i : Int)), _)
    rw [show (List.range ds.length).map (fun i : Nat => D.int (i : Int)) = rngL 0 ((ds.length : Nat) : Int) by rw [rngL0]; rfl]
    unfold iRg1
    exact (bnd_eq (a := .int ((ds.length : Nat) : Int)) (s1 := ⟨env0, c⟩) (by rfl)).trans (by show (if okR ((ds.length : Nat) : Int) then ret (rngL 0 ((ds.length : Nat) : Int)) else fail) _ = _; rw [if_pos (okR_of (by omega) (by omega))]; rfl)
  refine (bnd_eq hit).trans ?_
  show (if xs.length ≤ PySem.sizeLine then (match compF [3] (gN 3) (ret true) (ePopAt 2 (eFn S__law_pick (aCons (eVar 0) (aCons (eBor [2] (eCall lenG (aCons (eVar 2) aNil))) aNil)))) xs ⟨env0, c⟩ with
    | some (ys, sn) => some (ys, { sn with env := restE env0 sn.env [3] })
    | none => none) else none) = _
  rw [if_pos (sz _ (by simp [xs]; omega)), e]
structure LineOk (m : Nat) (l : List (Int × Int)) : Prop where
  ne : l ≠ []
  len : l.length ≤ m
  inn : ∀ p ∈ l, 0 ≤ p.1 ∧ p.1 < m
  nd : (l.map (·.1)).Nodup
  first : (at0 l 0).2 = 0
theorem cut_head {α : Type} (xs : List α) (k : Nat) : cutL xs none (some (k : Int)) = xs.take k := by
  unfold cutL
  rw [HT.sIx_none, HT.sIx_nat, List.drop_zero, Nat.sub_zero]
  by_cases h : k ≤ xs.length
  · rw [Nat.min_eq_left h]
  · rw [Nat.min_eq_right (by omega), List.take_length, List.take_of_length_le (by omega)]
theorem draw_line_eq (m : Nat) (c : Src) (hm : 1 ≤ m) (hm2 : m ≤ 1000) : ∃ l c', LineOk m l ∧ S__law_draw_line [.src, .int m] c = some (ePs l, c') := by
  obtain ⟨ys, c1, hperm, ho⟩ := order_eq ((List.range m).map fun i : Nat => D.int (i : Int)) c (by simpa using hm2)
  obtain ⟨zs, hz, rfl⟩ := perm_map_inv (f := fun i : Nat => D.int (i : Int)) hperm (List.range m) rfl
  obtain ⟨r, c2, hp, h0, hr⟩ := pick_any (m : Int) c1 (by omega) (by omega)
  let k : Nat := (1 + r).toNat
  have hk : ((k : Nat) : Int) = 1 + r := by omega
  let cs := zs.take k
  have hzl : zs.length = m := by rw [hz.length_eq, List.length_range]
  have hcl : cs.length = k := by show (zs.take k).length = k; rw [List.length_take, hzl]; omega
  have hcm : ∀ z ∈ cs, z < m := fun z hz' => List.mem_range.mp (hz.mem_iff.mp (List.mem_of_mem_take hz'))
  have hcn : cs.Nodup := (hz.nodup_iff.mpr List.nodup_range).sublist (List.take_sublist k zs)
  let cells : List D := cs.map fun i : Nat => D.int (i : Int)
  let env0 : List (Option Sl) := [some (.val .src), some (.val (.int (m : Int))), none, none, none]
  let env1 : List (Option Sl) := [some (.val .src), some (.val (.int (m : Int))), some (.val (.lst cells)), none, none]
  let R : D → (Int × Int) → Prop := fun d y => ∀ i cell, d = .tup [.int i, .int cell] → y.1 = cell ∧ (i = 0 → y.2 = 0)
  obtain ⟨l, c3, hll, hR, hc⟩ := comp_draw (vs := [3, 4]) (g := gT (gCons (gN 3) (gCons (gN 4) gNil))) (c := ret true) (el := eTup (aCons (eVar 4) (aCons (eIf (tst (eBin eqD (eVar 3) (eC (.int 0)))) (eC (.int 0)) (eFn S__law_pick (aCons (eVar 0) (aCons (eC (.int 30)) aNil)))) aNil)))
    (it := iEnum (eVar 2)) (env := env1) (enc := eP) (R := R) (ds := enumF 0 cells) (src := c2) (src1 := c2) (by rfl) (by rw [enumF_len]; simp only [cells, List.length_map, hcl]; omega) (clean_nones fun v hv => by simp at hv; rcases hv with rfl | rfl <;> exact .inl rfl) (fun d hd s => by
      rw [enum_range] at hd
      obtain ⟨i, hi, rfl⟩ := List.mem_map.mp hd
      have hi : i < cs.length := by simpa [cells] using List.mem_range.mp hi
      have hd' : cells.getD i .non = .int ((cs[i] : Nat) : Int) := by
        rw [List.getD_eq_getElem?_getD]
        show ((cs.map fun i : Nat => D.int (i : Int))[i]?).getD _ = _
        rw [List.getElem?_map, List.getElem?_eq_getElem hi]
        rfl
      rw [hd']
      let env2 : List (Option Sl) := [some (.val .src), some (.val (.int (m : Int))), some (.val (.lst cells)), some (.val (.int (i : Int))), some (.val (.int ((cs[i] : Nat) : Int)))]
      have go : ∀ (t : Int) (s' : Src), eIf (tst (eBin eqD (eVar 3) (eC (.int 0)))) (eC (.int 0)) (eFn S__law_pick (aCons (eVar 0) (aCons (eC (.int 30)) aNil))) ⟨env2, s⟩ = some (.int t, ⟨env2, s'⟩) → ((i : Int) = 0 → t = 0) →
          ∃ y e1 s', turnC (gT (gCons (gN 3) (gCons (gN 4) gNil))) (ret true) (eTup (aCons (eVar 4) (aCons (eIf (tst (eBin eqD (eVar 3) (eC (.int 0)))) (eC (.int 0)) (eFn S__law_pick (aCons (eVar 0) (aCons (eC (.int 30)) aNil)))) aNil))) (.tup [.int (i : Int), .int ((cs[i] : Nat) : Int)]) ⟨wipeE env1 [3, 4], s⟩ = some (some (eP y), ⟨e1, s'⟩) ∧ wipeE e1 [3, 4] = wipeE env1 [3, 4] ∧ R (.tup [.int (i : Int), .int ((cs[i] : Nat) : Int)]) y := fun t s' ht h0 => by
        refine ⟨(((cs[i] : Nat) : Int), t), env2, s', ?_, by rfl, fun i' cell e => ?_⟩
        · unfold turnC
          rw [bnd_eq (a := ()) (s1 := ⟨env2, s⟩) (by rfl), bnd_eq (a := true) (s1 := ⟨env2, s⟩) rfl, if_pos rfl]
          have he : eTup (aCons (eVar 4) (aCons (eIf (tst (eBin eqD (eVar 3) (eC (.int 0)))) (eC (.int 0)) (eFn S__law_pick (aCons (eVar 0) (aCons (eC (.int 30)) aNil)))) aNil)) ⟨env2, s⟩ = some (eP (((cs[i] : Nat) : Int), t), ⟨env2, s'⟩) := by
            unfold eTup
            rw [bnd_eq (cons_eq (d := .int ((cs[i] : Nat) : Int)) (s1 := ⟨env2, s⟩) (by rfl) (one_eq ht))]
            rfl
          rw [bnd_eq he]
          rfl
        · injection e with e
          injection e with e1 e2
          injection e2 with e2 _
          injection e1 with e1
          injection e2 with e2
          exact ⟨e2, fun z => h0 (e1.trans z)⟩
      by_cases hz0 : i = 0
      · refine go 0 s ?_ fun _ => rfl
        unfold eIf
        rw [bnd_eq (tst_eq (b := true) (bin_eq (f := eqD) (s1 := ⟨env2, s⟩) (x := .int (i : Int)) (y := .int 0) (by rfl) (by rfl) (by rw [eqD_int, hz0]; rfl))), if_pos rfl]
        rfl
      · obtain ⟨t, s', ht, _, _⟩ := pick_any 30 s (by decide) (by decide)
        refine go t s' ?_ fun z => absurd (by omega) hz0
        unfold eIf
        rw [bnd_eq (tst_eq (b := false) (bin_eq (f := eqD) (s1 := ⟨env2, s⟩) (x := .int (i : Int)) (y := .int 0) (by rfl) (by rfl) (by rw [eqD_int, decide_eq_false (by omega)]))), if_neg (by decide)]
        exact fn_eq (env := env2) (c0 := s) (ds := [.src, .int 30]) (by rfl) ht)
  have hlen : l.length = k := by rw [hll, enumF_len]; simp only [cells, List.length_map, hcl]
  have hat : ∀ (i : Nat) (h : i < l.length), l[i].1 = ((cs[i]'(by omega) : Nat) : Int) ∧ (i = 0 → l[i].2 = 0) := fun i h => by
    have h2 : i < cs.length := by omega
    have hen : (enumF 0 cells)[i]? = some (.tup [.int (i : Int), .int ((cs[i] : Nat) : Int)]) := by
      rw [enumF_get]
      show Option.map _ ((cs.map fun i : Nat => D.int (i : Int))[i]?) = _
      rw [List.getElem?_map, List.getElem?_eq_getElem h2]
      simp
    have := hR i _ _ hen (List.getElem?_eq_getElem h) (i : Int) _ rfl
    exact ⟨this.1, fun z => this.2 (by omega)⟩
  have hmap : l.map (·.1) = cs.map fun i : Nat => (i : Int) := by
    refine List.ext_getElem (by simp; omega) fun i h1 h2 => ?_
    rw [List.getElem_map, List.getElem_map]
    exact (hat i (by simpa using h1)).1
  refine ⟨l, c3, ⟨fun z => ?_, by omega, fun p hp => ?_, ?_, ?_⟩, ?_⟩
  · rw [z] at hlen; simp at hlen; omega
  · have : p.1 ∈ l.map (·.1) := List.mem_map.mpr ⟨p, hp, rfl⟩
    rw [hmap] at this
    obtain ⟨z, hz', e⟩ := List.mem_map.mp this
    have := hcm z hz'
    omega
  · rw [hmap]
    exact List.Pairwise.map _ (fun a b h z => h (by omega)) hcn
  · unfold at0
    have : 0 < l.length := by omega
    rw [List.getD_eq_getElem?_getD, List.getElem?_eq_getElem this]
    exact (hat 0 this).2 rfl
  · refine fnOf_ret (env := env1) ?_
    unfold m__law_draw_line
    rw [seq_nx (s1 := ⟨env1, c2⟩)]
    · exact ret_eq (call_eq (ds := [.lst (l.map eP)]) (one_eq (lst_eq hc)) (by rfl))
    · refine set_eq (env := env0) ?_ (by show 2 < 5; decide)
      unfold eSl
      have h1 : eFn S__law_any_order (aCons (eVar 0) (aCons (eLst (lRg1 (eVar 1))) aNil)) ⟨env0, c⟩ = some (.lst (zs.map fun i : Nat => D.int (i : Int)), ⟨env0, c1⟩) := by
        refine fn_eq (env := env0) (c0 := c) (ds := [.src, .lst ((List.range m).map fun i : Nat => D.int (i : Int))]) ?_ ho
        refine cons_eq (s1 := ⟨env0, c⟩) (by rfl) (one_eq (lst_eq ?_))
        unfold lRg1
        refine (bnd_eq (a := .int (m : Int)) (s1 := ⟨env0, c⟩) (by rfl)).trans ?_
        show (if L2.RgOk 0 (m : Int) then ret (rngL 0 (m : Int)) else fail) _ = _
        rw [if_pos (by unfold L2.RgOk; omega), rngL0]
        rfl
      have h2 : oAt (eBin addD (eC (.int 1)) (eFn S__law_pick (aCons (eVar 0) (aCons (eVar 1) aNil)))) ⟨env0, c1⟩ = some (some (k : Int), ⟨env0, c2⟩) := by
        unfold oAt
        have hp' : S__law_pick [.src, .int (m : Int)] c1 = some (.int r, c2) := hp
        have h3 : eBin addD (eC (.int 1)) (eFn S__law_pick (aCons (eVar 0) (aCons (eVar 1) aNil))) ⟨env0, c1⟩ = some (.int (k : Int), ⟨env0, c2⟩) := by
          rw [hk]
          exact bin_eq (f := addD) (s1 := ⟨env0, c1⟩) (x := .int 1) (y := .int r) (by rfl) (fn_eq (env := env0) (c0 := c1) (ds := [.src, .int (m : Int)]) (by rfl) hp') (by rfl)
        rw [bnd_eq h3]
        rfl
      refine (bnd_eq h1).trans ?_
      refine (bnd_eq (a := none) (s1 := ⟨env0, c1⟩) (by rfl)).trans ?_
      refine (bnd_eq h2).trans ?_
      show some (D.lst (cutL (zs.map fun i : Nat => D.int (i : Int)) none (some (k : Int))), _) = _
      rw [cut_head, ← List.map_take]
end GW
end

noncomputable section
namespace GW
open GH
structure GreensOk (n : Nat) (L : Int) (gs : List (Int × Int)) : Prop where
  len : gs.length = n
  rng : ∀ g ∈ gs, 0 ≤ g.2 ∧ g.2 ≤ L
theorem cnt_lt (k : Nat) : ∀ n : Nat, (List.range n).countP (fun s => decide (s < k)) = min k n
  | 0 => by simp
  | n + 1 => by
    rw [List.range_succ, List.countP_append, cnt_lt k n]
    by_cases h : n < k
    · simp [h]; omega
    · simp [h]; omega
theorem rot_range (n c : Nat) (hc : c < n) : (List.range n).map (fun s => (s + c) % n) = List.range' c (n - c) ++ List.range c := by
  refine List.ext_getElem (by simp; omega) fun i h1 h2 => ?_
  have hi : i < n := by simpa using h1
  rw [List.getElem_map, List.getElem_range]
  by_cases h : i < n - c
  · rw [List.getElem_append_left (by simpa using h), List.getElem_range', Nat.mod_eq_of_lt (by omega)]
    omega
  · rw [List.getElem_append_right (by simpa using h), List.getElem_range]
    have e : i + c = (i - (n - c)) + n := by omega
    rw [e, Nat.add_mod_right, Nat.mod_eq_of_lt (by omega)]
    simp
theorem cnt_rot (n c k : Nat) (hn : 0 < n) : (List.range n).countP (fun s => decide ((s + c) % n < k)) = min k n := by
  have h0 : (fun s => decide ((s + c) % n < k)) = fun s => decide ((s + c % n) % n < k) := by
    funext s
    rw [Nat.add_mod, Nat.add_mod s (c % n), Nat.mod_mod]
  rw [h0]
  have hc := Nat.mod_lt c hn
  have e : (List.range n).countP (fun s => decide ((s + c % n) % n < k)) = ((List.range n).map (fun s => (s + c % n) % n)).countP (fun s => decide (s < k)) := by
    rw [List.countP_map]; rfl
  rw [e, rot_range n (c % n) hc, List.countP_append, Nat.add_comm, ← List.countP_append]
  have e2 : List.range (c % n) ++ List.range' (c % n) (n - c % n) = List.range n := by
    rw [List.range_eq_range', List.range_eq_range']
    have := List.range'_append (s := 0) (m := c % n) (n := n - c % n) (step := 1)
    simp only [Nat.zero_add, Nat.one_mul] at this
    rw [this]
    congr 1
    omega
  rw [e2, cnt_lt]
/-- the places of [0, L) whose turn by X lies below k -/
theorem cnt_int (L X k : Int) (hL : 0 < L) (hk : 0 ≤ k) (hk2 : k ≤ L) : ((List.range L.toNat).countP fun s => decide ((((s : Nat) : Int) + X).fmod L < k)) = k.toNat := by
  have e : (fun s : Nat => decide ((((s : Nat) : Int) + X).fmod L < k)) = fun s : Nat => decide ((s + (X % L).toNat) % L.toNat < k.toNat) := by
    funext s
    have h1 : (((s : Nat) : Int) + X).fmod L = (((s + (X % L).toNat) % L.toNat : Nat) : Int) := by
      rw [Int.fmod_eq_emod_of_nonneg _ (by omega)]
      have h2 : 0 ≤ X % L := Int.emod_nonneg X (by omega)
      rw [Int.natCast_emod, Int.natCast_add, Int.toNat_of_nonneg h2, Int.toNat_of_nonneg (by omega : 0 ≤ L)]
      rw [Int.add_emod, Int.add_emod ((s : Nat) : Int) (X % L), Int.emod_emod_of_dvd X (Int.dvd_refl L)]
    rw [h1]
    by_cases h : (s + (X % L).toNat) % L.toNat < k.toNat
    · rw [decide_eq_true h, decide_eq_true (by omega)]
    · rw [decide_eq_false h, decide_eq_false (by omega)]
  rw [e, cnt_rot _ _ _ (by omega)]
  omega

theorem arr_at : ∀ (l : List (Int × Int)) (t : Int) (i : Nat), (arr l t)[i]? = (arr l 0)[i]?.map fun x => x + t
  | [], _, _ => rfl
  | p :: r, t, 0 => by simp [arr]; omega
  | p :: r, t, i + 1 => by
    show (arr r (t + p.2))[i]? = (arr r (0 + p.2))[i]?.map _
    rw [arr_at r (t + p.2) i, arr_at r (0 + p.2) i]
    cases (arr r 0)[i]? with
    | none => rfl
    | some x => simp; omega
def tk (l : List (Int × Int)) (i : Nat) : Int := (arr l 0).getD i 0
theorem pass_iff (L : Int) (off : List Int) : ∀ (l gs : List (Int × Int)) (ts : List Int), l.length = gs.length → l.length = ts.length →
    (passG L off l gs ts = true ↔ ∀ i, i < l.length → (ts.getD i 0 - offAt off (at0 l i).1 - (at0 gs i).1).fmod L < (at0 gs i).2)
  | [], gs, ts, _, _ => by simp [passG]
  | p :: l, [], ts, h, _ => by simp at h
  | p :: l, g :: gs, [], _, h => by simp at h
  | p :: l, g :: gs, t :: ts, h1, h2 => by
    simp only [List.length_cons] at h1 h2
    have ih := pass_iff L off l gs ts (by omega) (by omega)
    show (decide _ && passG L off l gs ts) = true ↔ _
    rw [Bool.and_eq_true, ih, decide_eq_true_iff]
    constructor
    · rintro ⟨a, b⟩ i hi
      cases i with
      | zero => exact a
      | succ i => exact b i (by simpa using hi)
    · intro h
      exact ⟨h 0 (by simp), fun i hi => h (i + 1) (by simpa using hi)⟩
theorem pass_at (L : Int) (off : List Int) (l gs : List (Int × Int)) (s : Int) (h : l.length = gs.length) :
    passG L off l gs (arr l s) = true ↔ ∀ i, i < l.length → (s + (tk l i - offAt off (at0 l i).1 - (at0 gs i).1)).fmod L < (at0 gs i).2 := by
  rw [pass_iff L off l gs (arr l s) h (arr_len l s).symm]
  have key : ∀ i, i < l.length → (arr l s).getD i 0 = tk l i + s := fun i hi => by
    unfold tk
    have hl : i < (arr l 0).length := by rw [arr_len]; exact hi
    rw [List.getD_eq_getElem?_getD, List.getD_eq_getElem?_getD, arr_at, List.getElem?_eq_getElem hl]
    rfl
  constructor
  · intro hh i hi
    have := hh i hi
    rw [key i hi] at this
    rw [show s + (tk l i - offAt off (at0 l i).1 - (at0 gs i).1) = tk l i + s - offAt off (at0 l i).1 - (at0 gs i).1 by omega]
    exact this
  · intro hh i hi
    have := hh i hi
    rw [key i hi]
    rw [show s + (tk l i - offAt off (at0 l i).1 - (at0 gs i).1) = tk l i + s - offAt off (at0 l i).1 - (at0 gs i).1 by omega] at this
    exact this
theorem at0_mem {l : List (Int × Int)} {i : Nat} (h : i < l.length) : at0 l i ∈ l := by
  unfold at0
  rw [List.getD_eq_getElem?_getD, List.getElem?_eq_getElem h]
  exact List.getElem_mem h
theorem band_len (L : Int) (off : List Int) (l gs : List (Int × Int)) : (bandL L off l gs).length = (List.range L.toNat).countP fun s => passG L off l gs (arr l (s : Nat)) := by
  unfold bandL
  rw [← List.countP_eq_length_filter, List.countP_map]
  rfl
theorem least_spec {gs : List (Int × Int)} (h : gs ≠ []) : (∃ i, i < gs.length ∧ least gs = (at0 gs i).2) ∧ ∀ i, i < gs.length → least gs ≤ (at0 gs i).2 := by
  obtain ⟨h1, h2⟩ := minL_spec (ns := gs.map (·.2)) (by simpa using h)
  refine ⟨?_, fun i hi => h2 _ (List.mem_map.mpr ⟨_, at0_mem hi, rfl⟩)⟩
  obtain ⟨g, hg, e⟩ := List.mem_map.mp h1
  obtain ⟨i, hi⟩ := List.mem_iff_getElem?.mp hg
  have hlt := (List.getElem?_eq_some_iff.mp hi).1
  refine ⟨i, hlt, ?_⟩
  unfold at0
  rw [List.getD_eq_getElem?_getD, hi]
  exact e.symm
/-- no band is wider than the least green -/
theorem band_le (L : Int) (off : List Int) (l gs : List (Int × Int)) (hL : 0 < L) (h : l.length = gs.length) (h0 : gs ≠ []) (hg : ∀ g ∈ gs, 0 ≤ g.2 ∧ g.2 ≤ L) : ((bandL L off l gs).length : Int) ≤ least gs := by
  obtain ⟨⟨i, hi, e⟩, _⟩ := least_spec h0
  have hr := hg _ (at0_mem hi)
  rw [e, band_len]
  have hle := List.countP_mono_left (l := List.range L.toNat) (p := fun s => passG L off l gs (arr l (s : Nat))) (q := fun s => decide ((((s : Nat) : Int) + (tk l i - offAt off (at0 l i).1 - (at0 gs i).1)).fmod L < (at0 gs i).2)) fun s _ hp => by
    have := (pass_at L off l gs (s : Nat) h).mp hp i (by omega)
    exact decide_eq_true this
  rw [cnt_int L _ _ hL hr.1 hr.2] at hle
  omega

theorem tell_len (g0 L : Int) : ∀ (l gs : List (Int × Int)) (ts off : List Int), (tellF g0 L off l gs ts).length = off.length
  | [], _, _, _ => by simp [tellF]
  | _ :: _, [], _, _ => by simp [tellF]
  | _ :: _, _ :: _, [], _ => by simp [tellF]
  | p :: l, g :: gs, t :: ts, off => by
    show (tellF g0 L (off.set _ _) l gs ts).length = _
    rw [tell_len, List.length_set]
theorem tell_off (g0 L : Int) (k : Int) (hk : 0 ≤ k) : ∀ (l gs : List (Int × Int)) (ts off : List Int), (∀ p ∈ l, 0 ≤ p.1) → k ∉ l.map (·.1) → offAt (tellF g0 L off l gs ts) k = offAt off k
  | [], _, _, _, _, _ => by simp [tellF]
  | _ :: _, [], _, _, _, _ => by simp [tellF]
  | _ :: _, _ :: _, [], _, _, _ => by simp [tellF]
  | p :: l, g :: gs, t :: ts, off, hp, hn => by
    rw [List.map_cons, List.mem_cons, not_or] at hn
    show offAt (tellF g0 L (off.set p.1.toNat _) l gs ts) k = _
    rw [tell_off g0 L k hk l gs ts _ (fun q hq => hp q (List.mem_cons_of_mem _ hq)) hn.2]
    have h0 := hp p List.mem_cons_self
    unfold offAt
    rw [List.getD_eq_getElem?_getD, List.getD_eq_getElem?_getD, List.getElem?_set_ne (by omega)]
theorem tell_at (g0 L : Int) : ∀ (l gs : List (Int × Int)) (ts off : List Int) (i : Nat), l.length = gs.length → l.length = ts.length → (∀ p ∈ l, 0 ≤ p.1 ∧ p.1 < off.length) → (l.map (·.1)).Nodup → i < l.length →
    offAt (tellF g0 L off l gs ts) (at0 l i).1 = (g0 + ts.getD i 0 - (at0 gs i).1).fmod L
  | [], _, _, _, i, _, _, _, _, h => by simp at h
  | _ :: _, [], _, _, _, h, _, _, _, _ => by simp at h
  | _ :: _, _ :: _, [], _, _, _, h, _, _, _ => by simp at h
  | p :: l, g :: gs, t :: ts, off, i, h1, h2, hp, hn, hi => by
    rw [List.map_cons, List.nodup_cons] at hn
    have h0 := hp p List.mem_cons_self
    simp only [List.length_cons] at h1 h2 hi
    cases i with
    | zero =>
      show offAt (tellF g0 L (off.set p.1.toNat _) l gs ts) p.1 = _
      rw [tell_off g0 L p.1 h0.1 l gs ts _ (fun q hq => (hp q (List.mem_cons_of_mem _ hq)).1) hn.1]
      unfold offAt
      rw [List.getD_eq_getElem?_getD, List.getElem?_set_self (by omega)]
      rfl
    | succ i =>
      exact tell_at g0 L l gs ts (off.set p.1.toNat ((g0 + t - g.1).fmod L)) i (by omega) (by omega) (fun q hq => by rw [List.length_set]; exact hp q (List.mem_cons_of_mem _ hq)) hn.2 (by omega)
theorem fmod_shift (a b L : Int) (hL : 0 < L) : (a - b.fmod L).fmod L = (a - b).fmod L := by
  rw [Int.fmod_eq_emod_of_nonneg _ (by omega), Int.fmod_eq_emod_of_nonneg _ (by omega), Int.fmod_eq_emod_of_nonneg _ (by omega)]
  rw [Int.sub_emod a (b % L), Int.emod_emod_of_dvd b (Int.dvd_refl L), ← Int.sub_emod]
end GW
end

noncomputable section
namespace GW
open GH
theorem fmod_add (a b L : Int) (hL : 0 < L) : (a.fmod L + b).fmod L = (a + b).fmod L := by
  rw [Int.fmod_eq_emod_of_nonneg _ (by omega), Int.fmod_eq_emod_of_nonneg _ (by omega), Int.fmod_eq_emod_of_nonneg _ (by omega)]
  rw [Int.add_emod (a % L), Int.emod_emod_of_dvd a (Int.dvd_refl L), ← Int.add_emod]
theorem told_len (m : Nat) (l gs : List (Int × Int)) (L : Int) : (told m l gs L).length = m := by unfold told; rw [tell_len]; simp
theorem told_in {m : Nat} {l gs : List (Int × Int)} {L : Int} (h : LineOk m l) : inOff (told m l gs L) l := fun p hp => by
  rw [told_len]; exact h.inn p hp
theorem lt_all {n : Nat} {gs : List (Int × Int)} {x : Int} (h0 : gs ≠ []) (hl : n = gs.length) : (∀ i, i < n → x < (at0 gs i).2) ↔ x < least gs := by
  obtain ⟨⟨j, hj, e⟩, hle⟩ := least_spec h0
  constructor
  · intro h; rw [e]; exact h j (by omega)
  · intro h i hi
    have := hle i (by omega)
    omega
theorem told_band (m : Nat) (l gs : List (Int × Int)) (L : Int) (hl : LineOk m l) (hL : 0 < L) (hg : GreensOk l.length L gs) : ((bandL L (told m l gs L) l gs).length : Int) = least gs := by
  have hne : gs ≠ [] := fun z => by
    have := hg.len
    rw [z] at this
    have h2 := List.length_pos_iff.mpr hl.ne
    simp at this
    omega
  obtain ⟨⟨j, hj, e⟩, _⟩ := least_spec hne
  have hr := hg.rng _ (at0_mem hj)
  let g0 := (gs.headD (0, 0)).1
  have key : ∀ s : Nat, passG L (told m l gs L) l gs (arr l (s : Int)) = decide ((((s : Nat) : Int) + -g0).fmod L < least gs) := fun s => by
    rw [Bool.eq_iff_iff, pass_at L _ l gs _ hg.len.symm, decide_eq_true_iff, ← lt_all (n := l.length) hne hg.len.symm]
    constructor
    · intro h i hi
      have := h i hi
      have ht : offAt (told m l gs L) (at0 l i).1 = (g0 + tk l i - (at0 gs i).1).fmod L := tell_at g0 L l gs (arr l 0) _ i hg.len.symm (arr_len l 0).symm (fun p hp => by simpa using hl.inn p hp) hl.nd hi
      rw [ht, show ((s : Nat) : Int) + (tk l i - (g0 + tk l i - (at0 gs i).1).fmod L - (at0 gs i).1) = ((s : Nat) : Int) + tk l i - (at0 gs i).1 - (g0 + tk l i - (at0 gs i).1).fmod L by omega, fmod_shift _ _ _ hL] at this
      rw [show ((s : Nat) : Int) + tk l i - (at0 gs i).1 - (g0 + tk l i - (at0 gs i).1) = ((s : Nat) : Int) + -g0 by omega] at this
      exact this
    · intro h i hi
      have := h i hi
      have ht : offAt (told m l gs L) (at0 l i).1 = (g0 + tk l i - (at0 gs i).1).fmod L := tell_at g0 L l gs (arr l 0) _ i hg.len.symm (arr_len l 0).symm (fun p hp => by simpa using hl.inn p hp) hl.nd hi
      rw [ht, show ((s : Nat) : Int) + (tk l i - (g0 + tk l i - (at0 gs i).1).fmod L - (at0 gs i).1) = ((s : Nat) : Int) + tk l i - (at0 gs i).1 - (g0 + tk l i - (at0 gs i).1).fmod L by omega, fmod_shift _ _ _ hL]
      rw [show ((s : Nat) : Int) + tk l i - (at0 gs i).1 - (g0 + tk l i - (at0 gs i).1) = ((s : Nat) : Int) + -g0 by omega]
      exact this
  rw [band_len]
  have : (List.range L.toNat).countP (fun s => passG L (told m l gs L) l gs (arr l (s : Nat))) = (List.range L.toNat).countP fun s => decide ((((s : Nat) : Int) + -g0).fmod L < least gs) := by
    congr 1
    funext s
    exact key s
  rw [this, cnt_int L (-g0) _ hL (by omega) (by omega)]
  omega
theorem pass_mem (L : Int) (off : List Int) (l gs : List (Int × Int)) (s : Int) (hL : 0 < L) (h : l.length = gs.length) : decide (s.fmod L ∈ bandL L off l gs) = passG L off l gs (arr l s) := by
  rw [Bool.eq_iff_iff, decide_eq_true_iff]
  have h0 : 0 ≤ s.fmod L := Int.fmod_nonneg_of_pos s hL
  have h1 : s.fmod L < L := Int.fmod_lt_of_pos s hL
  have per : passG L off l gs (arr l (s.fmod L)) = true ↔ passG L off l gs (arr l s) = true := by
    rw [pass_at L off l gs _ h, pass_at L off l gs _ h]
    constructor
    · intro hh i hi
      have := hh i hi
      rw [fmod_add _ _ _ hL] at this
      exact this
    · intro hh i hi
      rw [fmod_add _ _ _ hL]
      exact hh i hi
  unfold bandL
  rw [List.mem_filter, per]
  constructor
  · exact fun z => z.2
  · intro z
    exact ⟨List.mem_map.mpr ⟨(s.fmod L).toNat, List.mem_range.mpr (by omega), by omega⟩, z⟩
theorem told_first (m : Nat) (l gs : List (Int × Int)) (L : Int) (hl : LineOk m l) (hL : 0 < L) (hg : l.length = gs.length) : offAt (told m l gs L) (at0 l 0).1 = 0 := by
  have hpos : 0 < l.length := List.length_pos_iff.mpr hl.ne
  have ht : offAt (told m l gs L) (at0 l 0).1 = ((gs.headD (0, 0)).1 + tk l 0 - (at0 gs 0).1).fmod L := tell_at _ L l gs (arr l 0) _ 0 hg (arr_len l 0).symm (fun p hp => by simpa using hl.inn p hp) hl.nd hpos
  rw [ht]
  have h1 : tk l 0 = 0 := by
    have hf := hl.first
    unfold tk
    cases l with
    | nil => simp at hpos
    | cons p r =>
      have hf : p.2 = 0 := hf
      simp [arr, hf]
  have h2 : (gs.headD (0, 0)).1 = (at0 gs 0).1 := by cases gs <;> rfl
  rw [h1, h2, show (at0 gs 0).1 + 0 - (at0 gs 0).1 = 0 by omega]
  simp
theorem told_zero (m : Nat) (l gs : List (Int × Int)) (L : Int) (hl : LineOk m l) (hL : 0 < L) (hg : l.length = gs.length) (k : Int) (hk : 0 ≤ k) (hk2 : k < m) (hn : k ∉ freeOf l) : offAt (told m l gs L) k = 0 := by
  by_cases h : k = (at0 l 0).1
  · rw [h]; exact told_first m l gs L hl hL hg
  · have : k ∉ l.map (·.1) := fun z => by
      cases l with
      | nil => simp at z
      | cons p r =>
        rw [List.map_cons, List.mem_cons] at z
        rcases z with z | z
        · exact h z
        · exact hn z
    unfold told
    rw [tell_off _ L k hk l gs _ _ (fun p hp => (hl.inn p hp).1) this]
    unfold offAt
    rw [List.getD_eq_getElem?_getD, List.getElem?_replicate]
    split <;> rfl
theorem told_rng (m : Nat) (l gs : List (Int × Int)) (L : Int) (hL : 0 < L) : ∀ x ∈ told m l gs L, 0 ≤ x ∧ x < L := by
  have key : ∀ (l gs : List (Int × Int)) (ts off : List Int), (∀ x ∈ off, 0 ≤ x ∧ x < L) → ∀ x ∈ tellF (gs.headD (0, 0)).1 L off l gs ts, 0 ≤ x ∧ x < L := fun l gs => by
    suffices h : ∀ (g0 : Int) (l gs : List (Int × Int)) (ts off : List Int), (∀ x ∈ off, 0 ≤ x ∧ x < L) → ∀ x ∈ tellF g0 L off l gs ts, 0 ≤ x ∧ x < L from h _ l gs
    intro g0 l
    induction l with
    | nil => intro gs ts off h x hx; simp [tellF] at hx; exact h x hx
    | cons p l ih =>
      intro gs ts off h x hx
      cases gs with
      | nil => simp [tellF] at hx; exact h x hx
      | cons g gs =>
        cases ts with
        | nil => simp [tellF] at hx; exact h x hx
        | cons t ts =>
          refine ih gs ts (off.set p.1.toNat ((g0 + t - g.1).fmod L)) (fun y hy => ?_) x hx
          rcases List.mem_or_eq_of_mem_set hy with z | z
          · exact h y z
          · rw [z]; exact ⟨Int.fmod_nonneg_of_pos _ hL, Int.fmod_lt_of_pos _ hL⟩
  exact key l gs _ _ fun x hx => by
    have := List.eq_of_mem_replicate hx
    subst this
    exact ⟨by omega, hL⟩
/-- so many draws below L -/
theorem draws_comp {v : Nat} {it : M (List D)} {env : List (Option Sl)} {as : M (List D)} (n : Nat) (L : Int) (c : Src) (hn : n ≤ 1000) (hL : 1 ≤ L) (hL2 : L ≤ 1000) (hit : it ⟨env, c⟩ = some (rngL 0 (n : Int), ⟨env, c⟩)) (cl : cleanE env [v])
    (step : ∀ (i : Nat) (s : Src), ∃ env2, gN v (.int (i : Int)) ⟨wipeE env [v], s⟩ = some ((), ⟨env2, s⟩) ∧ as ⟨env2, s⟩ = some ([.src, .int L], ⟨env2, s⟩) ∧ wipeE env2 [v] = wipeE env [v]) :
    ∃ (os : List Int) (c' : Src), os.length = n ∧ (∀ o ∈ os, 0 ≤ o ∧ o < L) ∧ eComp [v] (gN v) (ret true) (eFn S__law_pick as) it ⟨env, c⟩ = some (os.map D.int, ⟨env, c'⟩) := by
  obtain ⟨os, c', hl, hR, hc⟩ := comp_draw (vs := [v]) (g := gN v) (c := ret true) (el := eFn S__law_pick as) (it := it) (env := env) (enc := D.int) (R := fun _ y => 0 ≤ y ∧ y < L) (ds := rngL 0 (n : Int)) (src := c) (src1 := c) hit (by rw [rngL0]; simp; omega) cl (fun d hd s => by
    rw [rngL0] at hd
    obtain ⟨i, _, rfl⟩ := List.mem_map.mp hd
    obtain ⟨env2, h1, h2, h3⟩ := step i s
    obtain ⟨r, s', hp, h0, h4⟩ := pick_any L s hL (by omega)
    refine ⟨r, env2, s', ?_, h3, h0, h4⟩
    unfold turnC
    have hp' : S__law_pick [.src, .int L] s = some (.int r, s') := hp
    rw [bnd_eq h1, bnd_eq (a := true) (s1 := ⟨env2, s⟩) rfl, if_pos rfl, bnd_eq (fn_eq (env := env2) (c0 := s) h2 hp')]
    rfl)
  refine ⟨os, c', by rw [hl, rngL0]; simp, fun o ho => ?_, hc⟩
  obtain ⟨i, hi⟩ := List.mem_iff_getElem?.mp ho
  have hlt : i < (rngL 0 (n : Int)).length := by rw [← hl]; exact (List.getElem?_eq_some_iff.mp hi).1
  exact hR i _ o (List.getElem?_eq_getElem hlt) hi
theorem rg1_of {env : List (Option Sl)} {c : Src} {m : M D} {L : Int} (h : m ⟨env, c⟩ = some (.int L, ⟨env, c⟩)) (h0 : 0 ≤ L) (h2 : L ≤ 100000) : iRg1 m ⟨env, c⟩ = some (rngL 0 L, ⟨env, c⟩) := by
  unfold iRg1
  exact (bnd_eq h).trans (by show (if okR L then ret (rngL 0 L) else fail) _ = _; rw [if_pos (okR_of h0 h2)]; rfl)
theorem ok_Is (xs : List Int) : (eIs xs).okN 1 := D.okN_tup (n := 0) fun d hd => by
  obtain ⟨x, _, rfl⟩ := List.mem_map.mp hd
  exact D.okN_int x
theorem ok_Ps (xs : List (Int × Int)) : (ePs xs).okN 2 := D.okN_tup (n := 1) fun d hd => by
  obtain ⟨x, _, rfl⟩ := List.mem_map.mp hd
  exact okP x
theorem or2_ff {t u : M Bool} {s s1 s2 : S} (h : t s = some (false, s1)) (h2 : u s1 = some (false, s2)) : tOr2 t u s = some (false, s2) := by
  unfold tOr2; rw [bnd_eq h, if_neg (by decide), h2]
theorem skip_if {t : M Bool} {m n : M Out} {s s1 : S} (h : t s = some (false, s1)) : sSeq (sIf t m sNx) n s = n s1 := seq_nx ((if_ff h).trans (by rfl))
theorem repr_bl (b : Bool) : reprG [.bl b] = some (.str (if b = true then "True" else "False")) := rfl
theorem str_ok (b : Bool) : (D.str (if b = true then "True" else "False")).ok := by
  cases b
  · exact ⟨by simp only [D.nice]; decide +kernel, by simp [D.py, PySem.PyData.depth]⟩
  · exact ⟨by simp only [D.nice]; decide +kernel, by simp [D.py, PySem.PyData.depth]⟩
theorem fields_comp {v : Nat} {it : M (List D)} {env : List (Option Sl)} {k : Int} (f : Int × Int → Int) (ps : List (Int × Int)) (c : Src) (hl : ps.length ≤ 1000) (hit : it ⟨env, c⟩ = some (ps.map eP, ⟨env, c⟩)) (cl : cleanE env [v])
    (step : ∀ p : Int × Int, ∃ env2, gN v (eP p) ⟨wipeE env [v], c⟩ = some ((), ⟨env2, c⟩) ∧ eBin ixD (eVar v) (eC (.int k)) ⟨env2, c⟩ = some (.int (f p), ⟨env2, c⟩) ∧ wipeE env2 [v] = wipeE env [v]) :
    eComp [v] (gN v) (ret true) (eBin ixD (eVar v) (eC (.int k))) it ⟨env, c⟩ = some ((ps.map f).map D.int, ⟨env, c⟩) := by
  rw [List.map_map]
  refine comp_map (enc := eP) (f := D.int ∘ f) (src1 := c) hit (by omega) cl fun p _ => ?_
  obtain ⟨env2, h1, h2, h3⟩ := step p
  refine ⟨env2, ?_, h3⟩
  unfold turnC
  rw [bnd_eq h1, bnd_eq (a := true) (s1 := ⟨env2, c⟩) rfl, if_pos rfl, bnd_eq h2]
  rfl
theorem nones_nil {α : Type} (xs : List α) : (xs.filterMap fun _ => (none : Option D)) = [] := by
  induction xs with
  | nil => rfl
  | cons x r ih => rw [List.filterMap_cons]; exact ih
theorem trues_all (xs : List Int) : ((xs.map fun _ => true).all id) = true := by
  rw [List.all_map]
  exact List.all_eq_true.mpr fun _ _ => rfl
theorem repr_call {m : M D} {s s1 : S} {b : Bool} (h : m s = some (.bl b, s1)) : eCall reprG (aCons m aNil) s = some (.str (if b = true then "True" else "False"), s1) := call_eq (one_eq h) (repr_bl b)
theorem len_call {m : M D} {s s1 : S} {xs : List D} (h : m s = some (.tup xs, s1)) : eCall lenG (aCons m aNil) s = some (.int (xs.length : Nat), s1) := call_eq (one_eq h) (by rfl)
theorem ne_same {ma mb : M D} {s s1 s2 : S} {d : D} (h : ma s = some (d, s1)) (h2 : mb s1 = some (d, s2)) (ok : d.ok) : tst (eBin neD ma mb) s = some (false, s2) := tst_eq (bin_eq (f := neD) h h2 (neD_same ok))
theorem ok_best (b : Option (Int × List Int)) : (eBest b).ok := by
  cases b with
  | none => exact D.ok_non
  | some p => exact (D.okN_tup (n := 1) (ds := [.int p.1, eIs p.2]) fun d hd => by
      simp at hd
      rcases hd with rfl | rfl
      · exact D.okN_int _
      · exact ok_Is _).ok
theorem par2 {i j : Nat} {ma mb : M D} {env : List (Option Sl)} {c c1 c2 : Src} {x y : D} (h1 : ma ⟨env, c⟩ = some (x, ⟨env, c1⟩)) (h2 : mb ⟨env, c1⟩ = some (y, ⟨env, c2⟩)) (hi : i < env.length) (hj : j < env.length) :
    sPar [i, j] (pVal ma (pVal mb pNil)) ⟨env, c⟩ = some (.nx, ⟨(env.set j (some (.val y))).set i (some (.val x)), c2⟩) := by
  have hq : pVal mb pNil ⟨env, c1⟩ = some ([.val y], ⟨env, c2⟩) := by
    unfold pVal; rw [bnd_eq h2]; rfl
  have hp : pVal ma (pVal mb pNil) ⟨env, c⟩ = some ([.val x, .val y], ⟨env, c2⟩) := by
    unfold pVal at hq ⊢; rw [bnd_eq h1, bnd_eq hq]; rfl
  unfold sPar
  refine (bnd_eq hp).trans ?_
  show (match putAll [i, j] [.val x, .val y] env with
    | some env => some (Out.nx, (⟨env, c2⟩ : S))
    | none => none) = _
  simp [putAll, hi, hj]
theorem plus_pick {env : List (Option Sl)} {c : Src} {k : Int} (hk : 1 ≤ k) (hk2 : k ≤ 1000) (as : M (List D)) (has : ∀ s, as ⟨env, s⟩ = some ([.src, .int k], ⟨env, s⟩)) :
    ∃ (n : Nat) (c' : Src), 1 ≤ n ∧ ((n : Nat) : Int) ≤ k ∧ eBin addD (eC (.int 1)) (eFn S__law_pick as) ⟨env, c⟩ = some (.int (n : Int), ⟨env, c'⟩) := by
  obtain ⟨r, c', e, h0, h1⟩ := pick_any k c hk (by omega)
  have e' : S__law_pick [.src, .int k] c = some (.int r, c') := e
  refine ⟨(1 + r).toNat, c', by omega, by omega, ?_⟩
  rw [show (((1 + r).toNat : Nat) : Int) = 1 + r by omega]
  exact bin_eq (f := addD) (s1 := ⟨env, c⟩) (x := .int 1) (y := .int r) (by rfl) (fn_eq (env := env) (c0 := c) (has c) e') (by rfl)
theorem max_in {l : List (Int × Int)} {m : Nat} (h : LineOk m l) : 0 ≤ maxL (l.map (·.1)) ∧ maxL (l.map (·.1)) < m ∧ ∀ p ∈ l, p.1 ≤ maxL (l.map (·.1)) := by
  obtain ⟨h1, h2⟩ := maxL_spec (ns := l.map (·.1)) (by simpa using h.ne)
  obtain ⟨p, hp, e⟩ := List.mem_map.mp h1
  have := h.inn p hp
  refine ⟨by rw [← e]; exact this.1, by rw [← e]; exact this.2, fun q hq => h2 _ (List.mem_map.mpr ⟨q, hq, rfl⟩)⟩
theorem vec_in {m : Nat} {l : List (Int × Int)} {L : Nat} {us : List (List Int)} (hp : us.Perm (vecs m l L)) (h : ∀ p ∈ l, 0 ≤ p.1 ∧ p.1 < m) : ∀ u ∈ us, inOff u l := fun u hu => by
  have := hp.mem_iff.mp hu
  unfold vecs at this
  obtain ⟨r, _, rfl⟩ := List.mem_map.mp this
  intro p hp
  rw [place_len, List.length_replicate]
  exact h p hp
theorem pow_small {L k : Nat} (h : L ≤ 6) (hk : k ≤ 2) : L ^ k ≤ 50000 := by
  have h1 : L ^ k ≤ 6 ^ k := Nat.pow_le_pow_left h k
  have h2 : 6 ^ k ≤ 6 ^ 2 := Nat.pow_le_pow_right (by decide) hk
  exact Nat.le_trans h1 (Nat.le_trans h2 (by decide))
theorem vecs_len (m : Nat) (l : List (Int × Int)) (L : Nat) : (vecs m l L).length = L ^ (l.length - 1) := by
  unfold vecs; rw [List.length_map, rows_len]
end GW
end

noncomputable section
namespace GW
open GH
theorem arc_zero {L g d : Int} (h0 : 0 < g) (h1 : g < L) (h : ∀ x : Int, 0 ≤ x → x < g → (x + d) % L < g) : d % L = 0 := by
  have e0 : 0 ≤ d % L := Int.emod_nonneg d (by omega)
  have e1 : d % L < L := Int.emod_lt_of_pos d (by omega)
  by_cases hz : d % L = 0
  · exact hz
  · exfalso
    have h2 := h 0 (by omega) h0
    rw [Int.zero_add] at h2
    have h3 := h (g - d % L) (by omega) (by omega)
    have e2 : g - d % L + d = g + (d - d % L) := by omega
    have e3 : (g - d % L + d) % L = g := by
      have hd : d - d % L = L * (d / L) := by have := Int.emod_add_mul_ediv d L; omega
      rw [e2, hd, Int.add_mul_emod_self_left, Int.emod_eq_of_lt (by omega) h1]
    omega
theorem cnt_sub {α : Type} {p q : α → Bool} : ∀ {l : List α}, (∀ x ∈ l, p x = true → q x = true) → l.countP p = l.countP q → ∀ x ∈ l, q x = true → p x = true
  | [], _, _, x, hx, _ => by simp at hx
  | a :: l, h, e, x, hx, hq => by
    have hle := List.countP_mono_left (l := l) (p := p) (q := q) fun y hy => h y (List.mem_cons_of_mem _ hy)
    have ha := h a List.mem_cons_self
    rw [List.countP_cons, List.countP_cons] at e
    cases hp : p a with
    | true =>
      have hqa := ha hp
      rw [hp, hqa] at e
      simp only [if_true] at e
      rcases List.mem_cons.mp hx with rfl | hx
      · exact hp
      · exact cnt_sub (fun y hy => h y (List.mem_cons_of_mem _ hy)) (by omega) x hx hq
    | false =>
      cases hqa : q a with
      | true => rw [hp, hqa] at e; simp at e; omega
      | false =>
        rw [hp, hqa] at e
        simp at e
        rcases List.mem_cons.mp hx with rfl | hx
        · rw [hqa] at hq; cases hq
        · exact cnt_sub (fun y hy => h y (List.mem_cons_of_mem _ hy)) e x hx hq
/-- what a crossing takes off the clock -/
def resid (l gs : List (Int × Int)) (off : List Int) (i : Nat) : Int := tk l i - offAt off (at0 l i).1 - (at0 gs i).1
theorem band_full {L g : Int} (h0 : 0 < g) (h1 : g < L) (l gs : List (Int × Int)) (off : List Int) (hlen : l.length = gs.length) (hpos : 0 < l.length) (hg : ∀ q ∈ gs, q.2 = g) :
    ((bandL L off l gs).length : Int) = g ↔ ∀ i, i < l.length → (resid l gs off i - resid l gs off 0) % L = 0 := by
  have hgi : ∀ i, i < l.length → (at0 gs i).2 = g := fun i hi => hg _ (at0_mem (by omega))
  have hp : ∀ s : Int, passG L off l gs (arr l s) = true ↔ ∀ i, i < l.length → (s + resid l gs off i) % L < g := fun s => by
    rw [pass_at L off l gs s hlen]
    constructor
    · intro h i hi
      have := h i hi
      rw [hgi i hi, Int.fmod_eq_emod_of_nonneg _ (by omega)] at this
      exact this
    · intro h i hi
      rw [hgi i hi, Int.fmod_eq_emod_of_nonneg _ (by omega)]
      exact h i hi
  have hc := cnt_int L (resid l gs off 0) g (by omega) (by omega) (by omega)
  rw [band_len]
  constructor
  · intro he i hi
    have hsub := cnt_sub (l := List.range L.toNat) (p := fun s => passG L off l gs (arr l (s : Nat))) (q := fun s => decide ((((s : Nat) : Int) + resid l gs off 0).fmod L < g)) (fun s _ hps => by
      have := (hp (s : Nat)).mp hps 0 hpos
      rw [Int.fmod_eq_emod_of_nonneg _ (by omega)]
      exact decide_eq_true this) (by omega)
    refine arc_zero h0 h1 fun x hx0 hx1 => ?_
    have hs0 : 0 ≤ (x - resid l gs off 0) % L := Int.emod_nonneg _ (by omega)
    have hs1 : (x - resid l gs off 0) % L < L := Int.emod_lt_of_pos _ (by omega)
    have hs := hsub ((x - resid l gs off 0) % L).toNat (List.mem_range.mpr (by omega)) (by
      rw [Int.toNat_of_nonneg hs0, Int.fmod_eq_emod_of_nonneg _ (by omega)]
      refine decide_eq_true ?_
      rw [Int.emod_add_emod, show x - resid l gs off 0 + resid l gs off 0 = x by omega, Int.emod_eq_of_lt hx0 (by omega)]
      exact hx1)
    have := (hp _).mp hs i hi
    rw [Int.toNat_of_nonneg hs0, Int.emod_add_emod] at this
    rw [show x + (resid l gs off i - resid l gs off 0) = x - resid l gs off 0 + resid l gs off i by omega]
    exact this
  · intro h
    have heq : (List.range L.toNat).countP (fun s => passG L off l gs (arr l (s : Nat))) = (List.range L.toNat).countP fun s => decide ((((s : Nat) : Int) + resid l gs off 0).fmod L < g) := by
      congr 1
      funext s
      rw [Bool.eq_iff_iff, decide_eq_true_iff, hp, Int.fmod_eq_emod_of_nonneg _ (by omega)]
      have same : ∀ i, i < l.length → (((s : Nat) : Int) + resid l gs off i) % L = (((s : Nat) : Int) + resid l gs off 0) % L := fun i hi => by
        have hd := h i hi
        have hm : resid l gs off i - resid l gs off 0 = L * ((resid l gs off i - resid l gs off 0) / L) := by have := Int.emod_add_mul_ediv (resid l gs off i - resid l gs off 0) L; omega
        rw [show ((s : Nat) : Int) + resid l gs off i = ((s : Nat) : Int) + resid l gs off 0 + (resid l gs off i - resid l gs off 0) by omega, hm, Int.add_mul_emod_self_left]
      constructor
      · intro hh; exact hh 0 hpos
      · intro hh i hi; rw [same i hi]; exact hh
    rw [heq, hc]
    omega
theorem band_top {L g : Int} (h0 : 0 < g) (h1 : g < L) (l gs : List (Int × Int)) (off : List Int) (hlen : l.length = gs.length) (hpos : 0 < l.length) (hg : ∀ q ∈ gs, q.2 = g) : ((bandL L off l gs).length : Int) ≤ g := by
  have hne : gs ≠ [] := fun z => by rw [z] at hlen; have h2 : l.length = 0 := hlen; omega
  have := band_le L off l gs (by omega) hlen hne fun q hq => ⟨by rw [hg q hq]; omega, by rw [hg q hq]; omega⟩
  obtain ⟨⟨i, hi, e⟩, _⟩ := least_spec hne
  have := hg _ (at0_mem hi)
  omega
end GW
end

noncomputable section
namespace GW
open GH
theorem tk_cons (p : Int × Int) (r : List (Int × Int)) (i : Nat) (h : i < r.length) : tk (p :: r) (i + 1) = tk r i + p.2 := by
  unfold tk
  have hl : i < (arr r 0).length := by rw [arr_len]; exact h
  show (arr r (0 + p.2)).getD i 0 = _
  rw [List.getD_eq_getElem?_getD, List.getD_eq_getElem?_getD, arr_at, List.getElem?_eq_getElem hl]
  simp
theorem tk_zero (p : Int × Int) (r : List (Int × Int)) : tk (p :: r) 0 = p.2 := by
  show (0 + p.2 : Int) = _
  omega
theorem tk_succ : ∀ (l : List (Int × Int)) (i : Nat), i + 1 < l.length → tk l (i + 1) = tk l i + (at0 l (i + 1)).2
  | [], _, h => by simp at h
  | [p], _, h => by simp at h
  | p :: q :: r, 0, _ => by
    rw [tk_cons p (q :: r) 0 (by simp), tk_zero, tk_zero]
    show q.2 + p.2 = p.2 + q.2
    omega
  | p :: q :: r, i + 1, h => by
    have h' : i + 1 < (q :: r).length := by simpa using h
    rw [tk_cons p (q :: r) (i + 1) h', tk_cons p (q :: r) i (by omega), tk_succ (q :: r) i h']
    show tk (q :: r) i + (at0 (q :: r) (i + 1)).2 + p.2 = tk (q :: r) i + p.2 + (at0 (q :: r) (i + 1)).2
    omega
theorem back_at (l : List (Int × Int)) (i : Nat) (h : i < l.length) : at0 (backL l) i = ((at0 l (l.length - 1 - i)).1, if i = 0 then 0 else (at0 l (l.length - i)).2) := by
  unfold backL
  show ((List.range l.length).map _).getD i (0, 0) = _
  rw [List.getD_eq_getElem?_getD, List.getElem?_map, List.getElem?_range h]
  rfl
theorem tk_back (l : List (Int × Int)) : ∀ i, i < l.length → tk (backL l) i = tk l (l.length - 1) - tk l (l.length - 1 - i)
  | 0, h => by
    have hb : 0 < (backL l).length := by rw [back_len]; exact h
    have h0 : tk (backL l) 0 = (at0 (backL l) 0).2 := by
      cases hq : backL l with
      | nil => rw [hq] at hb; simp at hb
      | cons p r => rw [tk_zero]; rfl
    rw [h0, back_at l 0 h, Nat.sub_zero]
    simp
  | i + 1, h => by
    rw [tk_succ (backL l) i (by rw [back_len]; exact h), tk_back l i (by omega), back_at l (i + 1) h, if_neg (by omega)]
    have hs := tk_succ l (l.length - 1 - (i + 1)) (by omega)
    rw [show l.length - 1 - (i + 1) + 1 = l.length - 1 - i by omega] at hs
    show tk l (l.length - 1) - tk l (l.length - 1 - i) + (at0 l (l.length - (i + 1))).2 = _
    rw [show l.length - (i + 1) = l.length - 1 - i by omega]
    omega
/-- what paper asks of crossing k -/
def askP (l gs bs : List (Int × Int)) (k : Nat) : Int := (at0 bs (l.length - 1 - k)).1 - (at0 gs k).1 - (at0 bs (l.length - 1)).1 + (at0 gs 0).1 + 2 * (tk l k - tk l 0)
theorem resid_back (l bs : List (Int × Int)) (off : List Int) (k : Nat) (h : k < l.length) : resid (backL l) bs off (l.length - 1 - k) = tk l (l.length - 1) - tk l k - offAt off (at0 l k).1 - (at0 bs (l.length - 1 - k)).1 := by
  unfold resid
  rw [tk_back l _ (by omega), back_at l _ (by omega)]
  show tk l (l.length - 1) - tk l (l.length - 1 - (l.length - 1 - k)) - offAt off (at0 l (l.length - 1 - (l.length - 1 - k))).1 - _ = _
  rw [show l.length - 1 - (l.length - 1 - k) = k by omega]
/-- both bands full at some offsets: then paper bars nothing -/
theorem full_then {L g h : Int} (g0 : 0 < g) (g1 : g < L) (h0 : 0 < h) (h1 : h < L) (l gs bs : List (Int × Int)) (off : List Int) (hg : l.length = gs.length) (hb : l.length = bs.length) (hpos : 0 < l.length) (hga : ∀ q ∈ gs, q.2 = g) (hba : ∀ q ∈ bs, q.2 = h) :
    pairV L off l gs bs = (g, h) ↔ (∀ k, k < l.length → (resid l gs off k - resid l gs off 0) % L = 0 ∧ askP l gs bs k % L = 0) := by
  have hF := band_full g0 g1 l gs off hg hpos hga
  have hB := band_full h0 h1 (backL l) bs off (by rw [back_len]; exact hb) (by rw [back_len]; exact hpos) hba
  rw [back_len] at hB
  have key : ∀ k, k < l.length → askP l gs bs k = (resid l gs off k - resid l gs off 0) - (resid (backL l) bs off (l.length - 1 - k) - resid (backL l) bs off (l.length - 1 - 0)) := fun k hk => by
    rw [resid_back l bs off k hk, resid_back l bs off 0 hpos]
    unfold resid askP
    rw [Nat.sub_zero]
    omega
  have hpair : pairV L off l gs bs = (g, h) ↔ ((bandL L off l gs).length : Int) = g ∧ ((bandL L off (backL l) bs).length : Int) = h := by
    unfold pairV
    rw [Prod.mk.injEq]
  rw [hpair, hF, hB]
  constructor
  · rintro ⟨a, b⟩ k hk
    refine ⟨a k hk, ?_⟩
    have d1 := Int.dvd_of_emod_eq_zero (a k hk)
    have d2 := Int.dvd_of_emod_eq_zero (b (l.length - 1 - k) (by omega))
    have d3 := Int.dvd_of_emod_eq_zero (b (l.length - 1 - 0) (by omega))
    rw [key k hk]
    refine Int.emod_eq_zero_of_dvd ?_
    have : (resid (backL l) bs off (l.length - 1 - k) - resid (backL l) bs off (l.length - 1 - 0)) = (resid (backL l) bs off (l.length - 1 - k) - resid (backL l) bs off 0) - (resid (backL l) bs off (l.length - 1 - 0) - resid (backL l) bs off 0) := by omega
    rw [this]
    exact Int.dvd_sub d1 (Int.dvd_sub d2 d3)
  · intro hh
    refine ⟨fun k hk => (hh k hk).1, fun i hi => ?_⟩
    -- i = n - 1 - k
    have far : ∀ k, k < l.length → L ∣ (resid (backL l) bs off (l.length - 1 - k) - resid (backL l) bs off (l.length - 1 - 0)) := fun k hk => by
      have d1 := Int.dvd_of_emod_eq_zero (hh k hk).1
      have d2 := Int.dvd_of_emod_eq_zero (hh k hk).2
      have e := key k hk
      have : resid (backL l) bs off (l.length - 1 - k) - resid (backL l) bs off (l.length - 1 - 0) = (resid l gs off k - resid l gs off 0) - askP l gs bs k := by omega
      rw [this]
      exact Int.dvd_sub d1 d2
    have a1 := far (l.length - 1 - i) (by omega)
    have a2 := far (l.length - 1) (by omega)
    rw [show l.length - 1 - (l.length - 1 - i) = i by omega] at a1
    rw [show l.length - 1 - (l.length - 1) = 0 by omega] at a2
    refine Int.emod_eq_zero_of_dvd ?_
    have : resid (backL l) bs off i - resid (backL l) bs off 0 = (resid (backL l) bs off i - resid (backL l) bs off (l.length - 1 - 0)) - (resid (backL l) bs off 0 - resid (backL l) bs off (l.length - 1 - 0)) := by omega
    rw [this]
    exact Int.dvd_sub a1 a2
end GW
end

noncomputable section
namespace GW
open GH
theorem mem_rows (L : Nat) : ∀ (n : Nat) (r : List Int), r.length = n → (∀ x ∈ r, 0 ≤ x ∧ x < L) → r ∈ rowsOf L n
  | 0, r, h, _ => by
    have : r = [] := List.eq_nil_of_length_eq_zero h
    subst this
    simp [rowsOf]
  | n + 1, r, h, hx => by
    have hne : r ≠ [] := fun z => by rw [z] at h; simp at h
    have e := List.dropLast_concat_getLast hne
    have hl := hx _ (List.getLast_mem hne)
    refine List.mem_flatMap.mpr ⟨r.dropLast, mem_rows L n r.dropLast (by rw [List.length_dropLast]; omega) (fun x h' => hx x ((List.dropLast_sublist r).subset h')), List.mem_map.mpr ⟨(r.getLast hne).toNat, List.mem_range.mpr (by omega), ?_⟩⟩
    rw [Int.toNat_of_nonneg hl.1]
    exact e
theorem place_off (k : Int) (hk : 0 ≤ k) : ∀ (fr row off : List Int), (∀ q ∈ fr, 0 ≤ q) → k ∉ fr → offAt (placeF off fr row) k = offAt off k
  | [], _, _, _, _ => by simp [placeF]
  | _ :: _, [], _, _, _ => by simp [placeF]
  | c :: fr, o :: row, off, h, hn => by
    rw [List.mem_cons, not_or] at hn
    show offAt (placeF (off.set c.toNat o) fr row) k = _
    rw [place_off k hk fr row _ (fun q hq => h q (List.mem_cons_of_mem _ hq)) hn.2]
    have h0 := h c List.mem_cons_self
    unfold offAt
    rw [List.getD_eq_getElem?_getD, List.getD_eq_getElem?_getD, List.getElem?_set_ne (by omega)]
theorem place_get : ∀ (fr row off : List Int) (i : Nat), fr.length = row.length → (∀ q ∈ fr, 0 ≤ q ∧ q < off.length) → fr.Nodup → i < fr.length → offAt (placeF off fr row) (fr.getD i 0) = row.getD i 0
  | [], _, _, _, _, _, _, h => by simp at h
  | _ :: _, [], _, _, h, _, _, _ => by simp at h
  | c :: fr, o :: row, off, i, h1, h, hn, hi => by
    rw [List.nodup_cons] at hn
    have h0 := h c List.mem_cons_self
    simp only [List.length_cons] at h1 hi
    cases i with
    | zero =>
      show offAt (placeF (off.set c.toNat o) fr row) c = o
      rw [place_off c h0.1 fr row _ (fun q hq => (h q (List.mem_cons_of_mem _ hq)).1) hn.1]
      unfold offAt
      rw [List.getD_eq_getElem?_getD, List.getElem?_set_self (by omega)]
      rfl
    | succ i => exact place_get fr row (off.set c.toNat o) i (by omega) (fun q hq => by rw [List.length_set]; exact h q (List.mem_cons_of_mem _ hq)) hn.2 (by omega)
theorem free_at (l : List (Int × Int)) (i : Nat) (h : i + 1 < l.length) : (freeOf l).getD i 0 = (at0 l (i + 1)).1 := by
  cases l with
  | nil => simp at h
  | cons p r =>
    have h' : i < r.length := by simpa using h
    show (r.map (·.1)).getD i 0 = (r.getD i (0, 0)).1
    rw [List.getD_eq_getElem?_getD, List.getD_eq_getElem?_getD, List.getElem?_map, List.getElem?_eq_getElem h']
    rfl
/-- full waves both ways are there exactly if paper bars nothing -/
theorem full_iff {g h : Int} {m L : Nat} (g0 : 0 < g) (g1 : g < L) (h0 : 0 < h) (h1 : h < L) (l gs bs : List (Int × Int)) (hl : LineOk m l) (hg : l.length = gs.length) (hb : l.length = bs.length) (hga : ∀ q ∈ gs, q.2 = g) (hba : ∀ q ∈ bs, q.2 = h) :
    ((vecs m l L).any fun u => decide (pairV L u l gs bs = (g, h))) = true ↔ ∀ k, k < l.length → askP l gs bs k % L = 0 := by
  have hpos : 0 < l.length := List.length_pos_iff.mpr hl.ne
  rw [List.any_eq_true]
  constructor
  · rintro ⟨u, _, hu⟩ k hk
    exact ((full_then g0 g1 h0 h1 l gs bs u hg hb hpos hga hba).mp (of_decide_eq_true hu) k hk).2
  · intro hh
    let f : Nat → Int := fun k => tk l k - (at0 gs k).1 + (at0 gs 0).1
    let row : List Int := (List.range (l.length - 1)).map fun i => f (i + 1) % L
    have hrow : row.length = l.length - 1 := by simp [row]
    have hfl : (freeOf l).length = l.length - 1 := by simp [freeOf]
    have hfin : ∀ q ∈ freeOf l, 0 ≤ q ∧ q < (List.replicate m (0 : Int)).length := fun q hq => by
      unfold freeOf at hq
      obtain ⟨p, hp, rfl⟩ := List.mem_map.mp hq
      simpa using hl.inn p (List.mem_of_mem_drop hp)
    have hcons : l.map (·.1) = (at0 l 0).1 :: freeOf l := by
      cases l with
      | nil => simp at hpos
      | cons p r => rfl
    have hnd := hl.nd
    rw [hcons, List.nodup_cons] at hnd
    let u := placeF (List.replicate m 0) (freeOf l) row
    have hu : u ∈ vecs m l L := List.mem_map.mpr ⟨row, mem_rows L _ row hrow (fun x hx => by
      obtain ⟨i, _, rfl⟩ := List.mem_map.mp hx
      exact ⟨Int.emod_nonneg _ (by omega), Int.emod_lt_of_pos _ (by omega)⟩), rfl⟩
    have first : offAt u (at0 l 0).1 = 0 := by
      show offAt (placeF _ _ _) _ = 0
      rw [place_off _ (hl.inn _ (at0_mem hpos)).1 _ _ _ (fun q hq => (hfin q hq).1) hnd.1]
      unfold offAt
      rw [List.getD_eq_getElem?_getD, List.getElem?_replicate]
      split <;> rfl
    have later : ∀ i, i + 1 < l.length → offAt u (at0 l (i + 1)).1 = f (i + 1) % L := fun i hi => by
      have := place_get (freeOf l) row (List.replicate m 0) i (by rw [hfl, hrow]) hfin hnd.2 (by omega)
      rw [free_at l i hi] at this
      rw [show offAt u (at0 l (i + 1)).1 = row.getD i 0 from this]
      show ((List.range (l.length - 1)).map _).getD i 0 = _
      rw [List.getD_eq_getElem?_getD, List.getElem?_map, List.getElem?_range (by omega)]
      rfl
    have t0 : tk l 0 = 0 := by
      have hf := hl.first
      cases l with
      | nil => simp at hpos
      | cons p r => rw [tk_zero]; exact hf
    refine ⟨u, hu, decide_eq_true ((full_then g0 g1 h0 h1 l gs bs u hg hb hpos hga hba).mpr fun k hk => ⟨?_, hh k hk⟩)⟩
    cases k with
    | zero => simp
    | succ i =>
      unfold resid
      rw [first, later i hk, t0]
      have e : tk l (i + 1) - f (i + 1) % L - (at0 gs (i + 1)).1 - (0 - 0 - (at0 gs 0).1) = L * (f (i + 1) / L) := by
        have := Int.emod_add_mul_ediv (f (i + 1)) L
        have hf : f (i + 1) = tk l (i + 1) - (at0 gs (i + 1)).1 + (at0 gs 0).1 := rfl
        omega
      rw [e, Int.mul_emod_right]
end GW
end

noncomputable section
namespace GW
open GH
def paperF (l gs bs : List (Int × Int)) (L : Int) : List Nat → Option (Nat × Int)
  | [] => none
  | i :: r => if (askP l gs bs (i + 1)).fmod L = 0 then paperF l gs bs L r else some (i + 1, (askP l gs bs (i + 1)).fmod L)
def ePaper : Option (Nat × Int) → D
  | none => .non
  | some (k, r) => .tup [.int (k : Int), .int r]
def outP : Option (Nat × Int) → Out
  | none => .nx
  | some p => .ret (ePaper (some p))
theorem mul_okl (x y : Int) (h1 : -(2 ^ 64) < x) (h2 : x < 2 ^ 64) : mulD (.int x) (.int y) = some (.int (x * y)) := by
  simp only [mulD]
  rw [if_pos (.inl ⟨h1, h2⟩)]
theorem fst_ix {ma me : M D} {s : S} {xs : List (Int × Int)} {i : Int} (h1 : ma s = some (ePs xs, s)) (h2 : me s = some (.int i, s)) (h3 : 0 ≤ i) (h4 : i < xs.length) : eBin ixD (eBin ixD ma me) (eC (.int 0)) s = some (.int (at0 xs i.toNat).1, s) :=
  bin_eq (f := ixD) (s1 := s) (x := eP (at0 xs i.toNat)) (y := .int 0) (bin_eq (f := ixD) (s1 := s) (x := ePs xs) (y := .int i) h1 h2 (ix_Ps xs i h3 h4)) (by rfl) rfl
theorem tick_ix {ma me : M D} {s : S} {l : List (Int × Int)} {i : Int} {d : D} (hd : d = eIs (arr l 0) ∨ d = .lst ((arr l 0).map D.int)) (h1 : ma s = some (d, s)) (h2 : me s = some (.int i, s)) (h3 : 0 ≤ i) (h4 : i < l.length) : eBin ixD ma me s = some (.int (tk l i.toNat), s) := by
  have hix := ix_ints (arr l 0) i h3 (by rw [arr_len]; exact h4)
  rcases hd with rfl | rfl
  · exact bin_eq (f := ixD) (s1 := s) (x := eIs (arr l 0)) (y := .int i) h1 h2 hix
  · exact bin_eq (f := ixD) (s1 := s) (x := .lst ((arr l 0).map D.int)) (y := .int i) h1 h2 hix
theorem ne_zero {m : M D} {s : S} {r : Int} (h : m s = some (.int r, s)) : tst (eBin neD m (eC (.int 0))) s = some (!decide (r = 0), s) := tst_eq (bin_eq (f := neD) (s1 := s) (x := .int r) (y := .int 0) h (by rfl) (neD_int r 0))
theorem full_paper_loop (l gs bs : List (Int × Int)) (L : Int) (c : Src) (hL : L ≠ 0) (hg : l.length = gs.length) (hb : l.length = bs.length) (hll : l.length ≤ 1000) : ∀ (xs : List Nat) (x5 x6 x7 : Option Sl), (∀ i ∈ xs, i + 1 < l.length) → ∃ env',
    forM (gN 5) (sSeq (sSet 6 (eBin subD (eBin ixD (eBin ixD (eVar 2) (eBin subD (eBin subD (eCall lenG (aCons (eVar 0) aNil)) (eC (.int 1))) (eVar 5))) (eC (.int 0))) (eBin ixD (eBin ixD (eVar 1) (eVar 5)) (eC (.int 0)))))
      (sSeq (sSet 7 (eBin modD (eBin addD (eBin subD (eVar 6) (eBin subD (eBin ixD (eBin ixD (eVar 2) (eBin subD (eCall lenG (aCons (eVar 0) aNil)) (eC (.int 1)))) (eC (.int 0))) (eBin ixD (eBin ixD (eVar 1) (eC (.int 0))) (eC (.int 0))))) (eBin mulD (eC (.int 2)) (eBin subD (eBin ixD (eVar 4) (eVar 5)) (eBin ixD (eVar 4) (eC (.int 0)))))) (eVar 3)))
      (sIf (tst (eBin neD (eVar 7) (eC (.int 0)))) (sRet (eTup (aCons (eVar 5) (aCons (eVar 7) aNil)))) sNx)))
      (xs.map fun i => D.int (1 + ((i : Nat) : Int))) ⟨[some (.val (ePs l)), some (.val (ePs gs)), some (.val (ePs bs)), some (.val (.int L)), some (.val (eIs (arr l 0))), x5, x6, x7], c⟩
      = some (outP (paperF l gs bs L xs), ⟨env', c⟩)
  | [], x5, x6, x7, _ => ⟨_, by rfl⟩
  | i :: xs, x5, x6, x7, h => by
    have hi := h i List.mem_cons_self
    let env1 : Option Sl → Option Sl → List (Option Sl) := fun x6 x7 => [some (.val (ePs l)), some (.val (ePs gs)), some (.val (ePs bs)), some (.val (.int L)), some (.val (eIs (arr l 0))), some (.val (.int (1 + (i : Int)))), x6, x7]
    let hv : Int := (at0 bs (l.length - 1 - (i + 1))).1 - (at0 gs (i + 1)).1
    let y6 := some (Sl.val (.int hv))
    let rv : Int := (askP l gs bs (i + 1)).fmod L
    let y7 := some (Sl.val (.int rv))
    have hlen : ∀ x6 x7, eBin subD (eCall lenG (aCons (eVar 0) aNil)) (eC (.int 1)) ⟨env1 x6 x7, c⟩ = some (.int ((l.length : Int) - 1), ⟨env1 x6 x7, c⟩) := fun x6 x7 => by
      refine bin_eq (f := subD) (s1 := ⟨env1 x6 x7, c⟩) (x := .int (l.length : Nat)) (y := .int 1) ?_ (by rfl) rfl
      have := len_call (m := eVar 0) (s := ⟨env1 x6 x7, c⟩) (s1 := ⟨env1 x6 x7, c⟩) (xs := l.map eP) (by rfl)
      rw [List.length_map] at this
      exact this
    have e6 : eBin subD (eBin ixD (eBin ixD (eVar 2) (eBin subD (eBin subD (eCall lenG (aCons (eVar 0) aNil)) (eC (.int 1))) (eVar 5))) (eC (.int 0))) (eBin ixD (eBin ixD (eVar 1) (eVar 5)) (eC (.int 0))) ⟨env1 x6 x7, c⟩ = some (.int hv, ⟨env1 x6 x7, c⟩) := by
      refine bin_eq (f := subD) (s1 := ⟨env1 x6 x7, c⟩) (x := .int (at0 bs (l.length - 1 - (i + 1))).1) (y := .int (at0 gs (i + 1)).1) ?_ ?_ rfl
      · have := fst_ix (ma := eVar 2) (me := eBin subD (eBin subD (eCall lenG (aCons (eVar 0) aNil)) (eC (.int 1))) (eVar 5)) (s := ⟨env1 x6 x7, c⟩) (xs := bs) (i := (l.length : Int) - 1 - (1 + (i : Int))) (by rfl) (bin_eq (f := subD) (s1 := ⟨env1 x6 x7, c⟩) (x := .int ((l.length : Int) - 1)) (y := .int (1 + (i : Int))) (hlen _ _) (by rfl) rfl) (by omega) (by omega)
        rw [show ((l.length : Int) - 1 - (1 + (i : Int))).toNat = l.length - 1 - (i + 1) by omega] at this
        exact this
      · have := fst_ix (ma := eVar 1) (me := eVar 5) (s := ⟨env1 x6 x7, c⟩) (xs := gs) (i := 1 + (i : Int)) (by rfl) (by rfl) (by omega) (by omega)
        rw [show (1 + (i : Int)).toNat = i + 1 by omega] at this
        exact this
    have e7 : eBin modD (eBin addD (eBin subD (eVar 6) (eBin subD (eBin ixD (eBin ixD (eVar 2) (eBin subD (eCall lenG (aCons (eVar 0) aNil)) (eC (.int 1)))) (eC (.int 0))) (eBin ixD (eBin ixD (eVar 1) (eC (.int 0))) (eC (.int 0))))) (eBin mulD (eC (.int 2)) (eBin subD (eBin ixD (eVar 4) (eVar 5)) (eBin ixD (eVar 4) (eC (.int 0)))))) (eVar 3) ⟨env1 y6 x7, c⟩ = some (.int rv, ⟨env1 y6 x7, c⟩) := by
      have t1 := tick_ix (ma := eVar 4) (me := eVar 5) (s := ⟨env1 y6 x7, c⟩) (l := l) (i := 1 + (i : Int)) (.inl rfl) (by rfl) (by rfl) (by omega) (by omega)
      have t0 := tick_ix (ma := eVar 4) (me := eC (.int 0)) (s := ⟨env1 y6 x7, c⟩) (l := l) (i := 0) (.inl rfl) (by rfl) (by rfl) (by omega) (by omega)
      have bA := fst_ix (ma := eVar 2) (me := eBin subD (eCall lenG (aCons (eVar 0) aNil)) (eC (.int 1))) (s := ⟨env1 y6 x7, c⟩) (xs := bs) (i := (l.length : Int) - 1) (by rfl) (hlen _ _) (by omega) (by omega)
      have gB := fst_ix (ma := eVar 1) (me := eC (.int 0)) (s := ⟨env1 y6 x7, c⟩) (xs := gs) (i := 0) (by rfl) (by rfl) (by omega) (by omega)
      have hask : askP l gs bs (i + 1) = hv - ((at0 bs ((l.length : Int) - 1).toNat).1 - (at0 gs (0 : Int).toNat).1) + 2 * (tk l (1 + (i : Int)).toNat - tk l (0 : Int).toNat) := by
        rw [show ((l.length : Int) - 1).toNat = l.length - 1 by omega, show (1 + (i : Int)).toNat = i + 1 by omega, show (0 : Int).toNat = 0 from rfl]
        unfold askP
        show _ = (at0 bs (l.length - 1 - (i + 1))).1 - (at0 gs (i + 1)).1 - _ + _
        omega
      refine bin_eq (f := modD) (s1 := ⟨env1 y6 x7, c⟩) (x := .int (askP l gs bs (i + 1))) (y := .int L) ?_ (by rfl) (mod_ok hL)
      rw [hask]
      refine bin_eq (f := addD) (s1 := ⟨env1 y6 x7, c⟩) (x := .int (hv - ((at0 bs ((l.length : Int) - 1).toNat).1 - (at0 gs (0 : Int).toNat).1))) (y := .int (2 * (tk l (1 + (i : Int)).toNat - tk l (0 : Int).toNat))) (bin_eq (f := subD) (s1 := ⟨env1 y6 x7, c⟩) (x := .int hv) (by rfl) (bin_eq (f := subD) (s1 := ⟨env1 y6 x7, c⟩) bA gB rfl) rfl) ?_ rfl
      exact bin_eq (f := mulD) (s1 := ⟨env1 y6 x7, c⟩) (x := .int 2) (by rfl) (bin_eq (f := subD) (s1 := ⟨env1 y6 x7, c⟩) t1 t0 rfl) (mul_okl 2 _ (by omega) (by omega))
    have hz := ne_zero (m := eVar 7) (s := ⟨env1 y6 y7, c⟩) (r := rv) (by rfl)
    have pre : ∀ n : M Out, (sSeq (sSet 6 (eBin subD (eBin ixD (eBin ixD (eVar 2) (eBin subD (eBin subD (eCall lenG (aCons (eVar 0) aNil)) (eC (.int 1))) (eVar 5))) (eC (.int 0))) (eBin ixD (eBin ixD (eVar 1) (eVar 5)) (eC (.int 0)))))
      (sSeq (sSet 7 (eBin modD (eBin addD (eBin subD (eVar 6) (eBin subD (eBin ixD (eBin ixD (eVar 2) (eBin subD (eCall lenG (aCons (eVar 0) aNil)) (eC (.int 1)))) (eC (.int 0))) (eBin ixD (eBin ixD (eVar 1) (eC (.int 0))) (eC (.int 0))))) (eBin mulD (eC (.int 2)) (eBin subD (eBin ixD (eVar 4) (eVar 5)) (eBin ixD (eVar 4) (eC (.int 0)))))) (eVar 3))) n)) ⟨env1 x6 x7, c⟩ = n ⟨env1 y6 y7, c⟩ := fun n => by
      rw [seq_nx (s1 := ⟨env1 y6 x7, c⟩) (set_eq e6 (by show 6 < 8; decide)), seq_nx (s1 := ⟨env1 y6 y7, c⟩) (set_eq e7 (by show 7 < 8; decide))]
    by_cases hr : rv = 0
    · obtain ⟨env', e⟩ := full_paper_loop l gs bs L c hL hg hb hll xs (some (.val (.int (1 + (i : Int))))) y6 y7 fun j hj => h j (List.mem_cons_of_mem _ hj)
      refine ⟨env', ?_⟩
      rw [List.map_cons, for_nx (s1 := ⟨env1 x6 x7, c⟩) (s2 := ⟨env1 y6 y7, c⟩) (by rfl) (by rw [pre, if_ff (s1 := ⟨env1 y6 y7, c⟩) (by rw [hz, decide_eq_true hr]; rfl)]; rfl), e]
      show _ = some (outP (if rv = 0 then _ else _), _)
      rw [if_pos hr]
    · refine ⟨env1 y6 y7, ?_⟩
      rw [List.map_cons, for_ret (s1 := ⟨env1 x6 x7, c⟩) (s2 := ⟨env1 y6 y7, c⟩) (v := .tup [.int (1 + (i : Int)), .int rv]) (by rfl) (by rw [pre, if_tt (s1 := ⟨env1 y6 y7, c⟩) (by rw [hz, decide_eq_false hr]; rfl)]; rfl)]
      show _ = some (outP (if rv = 0 then _ else some (i + 1, rv)), _)
      rw [if_neg hr]
      show _ = some (Out.ret (.tup [.int ((i + 1 : Nat) : Int), .int rv]), _)
      rw [show ((i + 1 : Nat) : Int) = 1 + (i : Int) by omega]
end GW
end

noncomputable section
namespace GW
open GH
theorem rg2_of {env : List (Option Sl)} {c : Src} {ma mb : M D} {n : Nat} (h1 : ma ⟨env, c⟩ = some (.int 1, ⟨env, c⟩)) (h2 : mb ⟨env, c⟩ = some (.int (n : Int), ⟨env, c⟩)) (hn : n ≤ 1000) : iRg2 ma mb ⟨env, c⟩ = some ((List.range (n - 1)).map fun i => D.int (1 + ((i : Nat) : Int)), ⟨env, c⟩) := by
  unfold iRg2
  refine (bnd_eq h1).trans ?_
  refine (bnd_eq h2).trans ?_
  show (if okR 1 ∧ okR (n : Int) then ret (rngL 1 (n : Int)) else fail) _ = _
  rw [if_pos ⟨by decide, okR_of (by omega) (by omega)⟩]
  unfold rngL
  rw [show ((n : Int) - 1).toNat = n - 1 by omega]
  rfl
def papers (l gs bs : List (Int × Int)) (L : Int) : Option (Nat × Int) := paperF l gs bs L (List.range (l.length - 1))
theorem full_paper_eq (l gs bs : List (Int × Int)) (L : Int) (c : Src) (hL : L ≠ 0) (hg : l.length = gs.length) (hb : l.length = bs.length) (hll : l.length ≤ 1000) : S_full_paper [ePs l, ePs gs, ePs bs, .int L] c = some (ePaper (papers l gs bs L), c) := by
  obtain ⟨env', e⟩ := full_paper_loop l gs bs L c hL hg hb hll (List.range (l.length - 1)) none none none fun i hi => by have := List.mem_range.mp hi; omega
  let E4 : List (Option Sl) := [some (.val (ePs l)), some (.val (ePs gs)), some (.val (ePs bs)), some (.val (.int L)), some (.val (eIs (arr l 0))), none, none, none]
  have hfor : ∀ b : M Out, forM (gN 5) b ((List.range (l.length - 1)).map fun i => D.int (1 + ((i : Nat) : Int))) ⟨E4, c⟩ = sFor (iRg2 (eC (.int 1)) (eCall lenG (aCons (eVar 0) aNil))) (gN 5) b ⟨E4, c⟩ := fun b => by
    rw [for_eq (ds := (List.range (l.length - 1)).map fun i => D.int (1 + ((i : Nat) : Int))) (s1 := ⟨E4, c⟩) (rg2_of (n := l.length) (by rfl) (by
      have := len_call (m := eVar 0) (s := ⟨E4, c⟩) (s1 := ⟨E4, c⟩) (xs := l.map eP) (by rfl)
      rw [List.length_map] at this
      exact this) hll)]
  rw [hfor] at e
  have e4 : sSet 4 (eFn S_arrivals (aCons (eVar 0) (aCons (eC (.int 0)) aNil))) ⟨[some (.val (ePs l)), some (.val (ePs gs)), some (.val (ePs bs)), some (.val (.int L)), none, none, none, none], c⟩ = some (.nx, ⟨E4, c⟩) :=
    set_eq (env := [some (.val (ePs l)), some (.val (ePs gs)), some (.val (ePs bs)), some (.val (.int L)), none, none, none, none]) (fn_eq (env := [some (.val (ePs l)), some (.val (ePs gs)), some (.val (ePs bs)), some (.val (.int L)), none, none, none, none]) (c0 := c) (ds := [ePs l, .int 0]) (by rfl) (S_arrivals_eq l 0 c (by omega))) (by show 4 < 8; decide)
  unfold papers
  cases hp : paperF l gs bs L (List.range (l.length - 1)) with
  | none =>
    rw [hp] at e
    refine fnOf_ret (env := env') ?_
    unfold m_full_paper
    exact (seq_nx e4).trans ((seq_nx e).trans (by rfl))
  | some p =>
    rw [hp] at e
    refine fnOf_ret (env := env') ?_
    unfold m_full_paper
    exact (seq_nx e4).trans (seq_ret e)
theorem law_paper_loop (l gs bs : List (Int × Int)) (L : Int) (c : Src) (hL : L ≠ 0) (hg : l.length = gs.length) (hb : l.length = bs.length) (hll : l.length ≤ 1000) : ∀ (xs : List Nat) (x6 x7 : Option Sl), (∀ i ∈ xs, i + 1 < l.length) → ∃ env',
    forM (gN 6) (sSeq (sSet 7 (eBin addD (eBin addD (eBin subD (eBin subD (eBin ixD (eBin ixD (eVar 2) (eBin subD (eVar 5) (eVar 6))) (eC (.int 0))) (eBin ixD (eBin ixD (eVar 1) (eVar 6)) (eC (.int 0)))) (eBin ixD (eBin ixD (eVar 2) (eVar 5)) (eC (.int 0)))) (eBin ixD (eBin ixD (eVar 1) (eC (.int 0))) (eC (.int 0)))) (eBin mulD (eC (.int 2)) (eBin subD (eBin ixD (eVar 4) (eVar 6)) (eBin ixD (eVar 4) (eC (.int 0)))))))
      (sIf (tst (eBin neD (eFn S__law_rest (aCons (eVar 7) (aCons (eVar 3) aNil))) (eC (.int 0)))) (sRet (eTup (aCons (eVar 6) (aCons (eFn S__law_rest (aCons (eVar 7) (aCons (eVar 3) aNil))) aNil)))) sNx))
      (xs.map fun i => D.int (1 + ((i : Nat) : Int))) ⟨[some (.val (ePs l)), some (.val (ePs gs)), some (.val (ePs bs)), some (.val (.int L)), some (.val (.lst ((arr l 0).map D.int))), some (.val (.int ((l.length : Int) - 1))), x6, x7], c⟩
      = some (outP (paperF l gs bs L xs), ⟨env', c⟩)
  | [], x6, x7, _ => ⟨_, by rfl⟩
  | i :: xs, x6, x7, h => by
    have hi := h i List.mem_cons_self
    let env1 : Option Sl → List (Option Sl) := fun x7 => [some (.val (ePs l)), some (.val (ePs gs)), some (.val (ePs bs)), some (.val (.int L)), some (.val (.lst ((arr l 0).map D.int))), some (.val (.int ((l.length : Int) - 1))), some (.val (.int (1 + (i : Int)))), x7]
    let av : Int := askP l gs bs (i + 1)
    let rv : Int := av.fmod L
    let y7 := some (Sl.val (.int av))
    have e7 : eBin addD (eBin addD (eBin subD (eBin subD (eBin ixD (eBin ixD (eVar 2) (eBin subD (eVar 5) (eVar 6))) (eC (.int 0))) (eBin ixD (eBin ixD (eVar 1) (eVar 6)) (eC (.int 0)))) (eBin ixD (eBin ixD (eVar 2) (eVar 5)) (eC (.int 0)))) (eBin ixD (eBin ixD (eVar 1) (eC (.int 0))) (eC (.int 0)))) (eBin mulD (eC (.int 2)) (eBin subD (eBin ixD (eVar 4) (eVar 6)) (eBin ixD (eVar 4) (eC (.int 0))))) ⟨env1 x7, c⟩ = some (.int av, ⟨env1 x7, c⟩) := by
      have t1 := tick_ix (ma := eVar 4) (me := eVar 6) (s := ⟨env1 x7, c⟩) (l := l) (i := 1 + (i : Int)) (.inr rfl) (by rfl) (by rfl) (by omega) (by omega)
      have t0 := tick_ix (ma := eVar 4) (me := eC (.int 0)) (s := ⟨env1 x7, c⟩) (l := l) (i := 0) (.inr rfl) (by rfl) (by rfl) (by omega) (by omega)
      have b1 := fst_ix (ma := eVar 2) (me := eBin subD (eVar 5) (eVar 6)) (s := ⟨env1 x7, c⟩) (xs := bs) (i := (l.length : Int) - 1 - (1 + (i : Int))) (by rfl) (by rfl) (by omega) (by omega)
      have g1 := fst_ix (ma := eVar 1) (me := eVar 6) (s := ⟨env1 x7, c⟩) (xs := gs) (i := 1 + (i : Int)) (by rfl) (by rfl) (by omega) (by omega)
      have bA := fst_ix (ma := eVar 2) (me := eVar 5) (s := ⟨env1 x7, c⟩) (xs := bs) (i := (l.length : Int) - 1) (by rfl) (by rfl) (by omega) (by omega)
      have gB := fst_ix (ma := eVar 1) (me := eC (.int 0)) (s := ⟨env1 x7, c⟩) (xs := gs) (i := 0) (by rfl) (by rfl) (by omega) (by omega)
      have hask : av = (at0 bs ((l.length : Int) - 1 - (1 + (i : Int))).toNat).1 - (at0 gs (1 + (i : Int)).toNat).1 - (at0 bs ((l.length : Int) - 1).toNat).1 + (at0 gs (0 : Int).toNat).1 + 2 * (tk l (1 + (i : Int)).toNat - tk l (0 : Int).toNat) := by
        rw [show ((l.length : Int) - 1 - (1 + (i : Int))).toNat = l.length - 1 - (i + 1) by omega, show ((l.length : Int) - 1).toNat = l.length - 1 by omega, show (1 + (i : Int)).toNat = i + 1 by omega, show (0 : Int).toNat = 0 from rfl]
        rfl
      rw [hask]
      refine bin_eq (f := addD) (s1 := ⟨env1 x7, c⟩) (x := .int ((at0 bs ((l.length : Int) - 1 - (1 + (i : Int))).toNat).1 - (at0 gs (1 + (i : Int)).toNat).1 - (at0 bs ((l.length : Int) - 1).toNat).1 + (at0 gs (0 : Int).toNat).1)) (y := .int (2 * (tk l (1 + (i : Int)).toNat - tk l (0 : Int).toNat))) ?_ ?_ rfl
      · exact bin_eq (f := addD) (s1 := ⟨env1 x7, c⟩) (bin_eq (f := subD) (s1 := ⟨env1 x7, c⟩) (bin_eq (f := subD) (s1 := ⟨env1 x7, c⟩) b1 g1 rfl) bA rfl) gB rfl
      · exact bin_eq (f := mulD) (s1 := ⟨env1 x7, c⟩) (x := .int 2) (by rfl) (bin_eq (f := subD) (s1 := ⟨env1 x7, c⟩) t1 t0 rfl) (mul_okl 2 _ (by omega) (by omega))
    have er : eFn S__law_rest (aCons (eVar 7) (aCons (eVar 3) aNil)) ⟨env1 y7, c⟩ = some (.int rv, ⟨env1 y7, c⟩) := fn_eq (env := env1 y7) (c0 := c) (ds := [.int av, .int L]) (by rfl) (rest_eq av L c hL)
    have hz := ne_zero er
    have pre : ∀ n : M Out, (sSeq (sSet 7 (eBin addD (eBin addD (eBin subD (eBin subD (eBin ixD (eBin ixD (eVar 2) (eBin subD (eVar 5) (eVar 6))) (eC (.int 0))) (eBin ixD (eBin ixD (eVar 1) (eVar 6)) (eC (.int 0)))) (eBin ixD (eBin ixD (eVar 2) (eVar 5)) (eC (.int 0)))) (eBin ixD (eBin ixD (eVar 1) (eC (.int 0))) (eC (.int 0)))) (eBin mulD (eC (.int 2)) (eBin subD (eBin ixD (eVar 4) (eVar 6)) (eBin ixD (eVar 4) (eC (.int 0))))))) n) ⟨env1 x7, c⟩ = n ⟨env1 y7, c⟩ := fun n => by
      rw [seq_nx (s1 := ⟨env1 y7, c⟩) (set_eq e7 (by show 7 < 8; decide))]
    by_cases hr : rv = 0
    · obtain ⟨env', e⟩ := law_paper_loop l gs bs L c hL hg hb hll xs (some (.val (.int (1 + (i : Int))))) y7 fun j hj => h j (List.mem_cons_of_mem _ hj)
      refine ⟨env', ?_⟩
      rw [List.map_cons, for_nx (s1 := ⟨env1 x7, c⟩) (s2 := ⟨env1 y7, c⟩) (by rfl) (by rw [pre, if_ff (s1 := ⟨env1 y7, c⟩) (by rw [hz, decide_eq_true hr]; rfl)]; rfl), e]
      show _ = some (outP (if rv = 0 then _ else _), _)
      rw [if_pos hr]
    · refine ⟨env1 y7, ?_⟩
      have hret : sRet (eTup (aCons (eVar 6) (aCons (eFn S__law_rest (aCons (eVar 7) (aCons (eVar 3) aNil))) aNil))) ⟨env1 y7, c⟩ = some (.ret (.tup [.int (1 + (i : Int)), .int rv]), ⟨env1 y7, c⟩) := by
        refine ret_eq ?_
        unfold eTup
        rw [bnd_eq (cons_eq (d := .int (1 + (i : Int))) (s1 := ⟨env1 y7, c⟩) (by rfl) (one_eq er))]
        rfl
      rw [List.map_cons, for_ret (s1 := ⟨env1 x7, c⟩) (s2 := ⟨env1 y7, c⟩) (v := .tup [.int (1 + (i : Int)), .int rv]) (by rfl) (by rw [pre, if_tt (s1 := ⟨env1 y7, c⟩) (by rw [hz, decide_eq_false hr]; rfl)]; exact hret)]
      show _ = some (outP (if rv = 0 then _ else some (i + 1, rv)), _)
      rw [if_neg hr]
      show _ = some (Out.ret (.tup [.int ((i + 1 : Nat) : Int), .int rv]), _)
      rw [show ((i + 1 : Nat) : Int) = 1 + (i : Int) by omega]
theorem law_paper_eq (l gs bs : List (Int × Int)) (L : Int) (c : Src) (hL : L ≠ 0) (hg : l.length = gs.length) (hb : l.length = bs.length) (hll : l.length ≤ 1000) : S__law_paper [ePs l, ePs gs, ePs bs, .int L] c = some (ePaper (papers l gs bs L), c) := by
  obtain ⟨env', e⟩ := law_paper_loop l gs bs L c hL hg hb hll (List.range (l.length - 1)) none none fun i hi => by have := List.mem_range.mp hi; omega
  let E0 : List (Option Sl) := [some (.val (ePs l)), some (.val (ePs gs)), some (.val (ePs bs)), some (.val (.int L)), none, none, none, none]
  let E4 : List (Option Sl) := [some (.val (ePs l)), some (.val (ePs gs)), some (.val (ePs bs)), some (.val (.int L)), some (.val (.lst ((arr l 0).map D.int))), some (.val (.int ((l.length : Int) - 1))), none, none]
  have hlen0 : ∀ E : List (Option Sl), E[0]? = some (some (.val (ePs l))) → eCall lenG (aCons (eVar 0) aNil) ⟨E, c⟩ = some (.int (l.length : Int), ⟨E, c⟩) := fun E hE => by
    have hv : eVar 0 ⟨E, c⟩ = some (.tup (l.map eP), ⟨E, c⟩) := by
      show (match E[0]? with | some (some (.val d)) => some (d, (⟨E, c⟩ : S)) | _ => none) = _
      rw [hE]
      rfl
    have := len_call hv
    rw [List.length_map] at this
    exact this
  have hfor : ∀ b : M Out, forM (gN 6) b ((List.range (l.length - 1)).map fun i => D.int (1 + ((i : Nat) : Int))) ⟨E4, c⟩ = sFor (iRg2 (eC (.int 1)) (eCall lenG (aCons (eVar 0) aNil))) (gN 6) b ⟨E4, c⟩ := fun b => by
    rw [for_eq (ds := (List.range (l.length - 1)).map fun i => D.int (1 + ((i : Nat) : Int))) (s1 := ⟨E4, c⟩) (rg2_of (n := l.length) (by rfl) (hlen0 E4 (by rfl)) hll)]
  rw [hfor] at e
  have e4 := par2 (i := 4) (j := 5) (env := E0) (c := c) (c1 := c) (c2 := c) (ma := eFn S__law_line_ticks (aCons (eVar 0) (aCons (eC (.int 0)) aNil))) (mb := eBin subD (eCall lenG (aCons (eVar 0) aNil)) (eC (.int 1)))
    (fn_eq (env := E0) (c0 := c) (ds := [ePs l, .int 0]) (by rfl) (ticks_eq l 0 c (by omega))) (bin_eq (f := subD) (s1 := ⟨E0, c⟩) (x := .int (l.length : Int)) (y := .int 1) (hlen0 E0 (by rfl)) (by rfl) rfl) (by show 4 < 8; decide) (by show 5 < 8; decide)
  unfold papers
  cases hp : paperF l gs bs L (List.range (l.length - 1)) with
  | none =>
    rw [hp] at e
    refine fnOf_ret (env := env') ?_
    unfold m__law_paper
    exact (seq_nx (s1 := ⟨E4, c⟩) e4).trans ((seq_nx e).trans (by rfl))
  | some p =>
    rw [hp] at e
    refine fnOf_ret (env := env') ?_
    unfold m__law_paper
    exact (seq_nx (s1 := ⟨E4, c⟩) e4).trans (seq_ret e)
end GW
end

noncomputable section
namespace GW
open GH
theorem fit_body (l gs : List (Int × Int)) (h : Int) (L : Nat) (b0 : Int) (hL : 1 ≤ L) (hL2 : L ≤ 1000) (hg : l.length = gs.length) (hll : l.length ≤ 1000) : ∀ (xs : List Nat) (fs : List (Int × Int)) (x9 x10 : Option Sl) (c : Src), (∀ i ∈ xs, i < l.length) → fs.length = l.length → (∀ q ∈ fs, q.2 = h) → ∃ (fs' : List (Int × Int)) (y9 y10 : Option Sl) (c' : Src), fs'.length = l.length ∧ (∀ q ∈ fs', q.2 = h) ∧
    forM (gN 9) (sSeq (sSet 10 (eBin addD (eBin subD (eBin subD (eBin addD (eVar 7) (eBin ixD (eBin ixD (eVar 2) (eVar 9)) (eC (.int 0)))) (eBin ixD (eBin ixD (eVar 2) (eC (.int 0))) (eC (.int 0)))) (eBin mulD (eC (.int 2)) (eBin subD (eBin ixD (eVar 5) (eVar 9)) (eBin ixD (eVar 5) (eC (.int 0)))))) (eCall intG (aCons (eBin eqD (eFn S__law_pick (aCons (eVar 0) (aCons (eC (.int 6)) aNil))) (eC (.int 0))) aNil))))
      (sSetIx 8 (eTup (aCons (eBin addD (eFn S__law_rest (aCons (eVar 10) (aCons (eVar 4) aNil))) (eBin mulD (eVar 4) (eBin subD (eFn S__law_pick (aCons (eVar 0) (aCons (eC (.int 3)) aNil))) (eC (.int 1))))) (aCons (eVar 3) aNil))) (eBin subD (eVar 6) (eVar 9))))
      (xs.map fun i => D.int ((i : Nat) : Int)) ⟨[some (.val .src), some (.val (ePs l)), some (.val (ePs gs)), some (.val (.int h)), some (.val (.int (L : Int))), some (.val (.lst ((arr l 0).map D.int))), some (.val (.int ((l.length : Int) - 1))), some (.val (.int b0)), some (.own (fs.map eP)), x9, x10], c⟩
      = some (.nx, ⟨[some (.val .src), some (.val (ePs l)), some (.val (ePs gs)), some (.val (.int h)), some (.val (.int (L : Int))), some (.val (.lst ((arr l 0).map D.int))), some (.val (.int ((l.length : Int) - 1))), some (.val (.int b0)), some (.own (fs'.map eP)), y9, y10], c'⟩)
  | [], fs, x9, x10, c, _, hf, hh => ⟨fs, x9, x10, c, hf, hh, by rfl⟩
  | i :: xs, fs, x9, x10, c, hx, hf, hh => by
    have hi := hx i List.mem_cons_self
    let env1 : List (Int × Int) → Option Sl → List (Option Sl) := fun fs x10 => [some (.val .src), some (.val (ePs l)), some (.val (ePs gs)), some (.val (.int h)), some (.val (.int (L : Int))), some (.val (.lst ((arr l 0).map D.int))), some (.val (.int ((l.length : Int) - 1))), some (.val (.int b0)), some (.own (fs.map eP)), some (.val (.int (i : Int))), x10]
    obtain ⟨r1, c1, p1, _, _⟩ := pick_any 6 c (by decide) (by decide)
    have p1 : S__law_pick [.src, .int 6] c = some (.int r1, c1) := p1
    let A : Int := b0 + (at0 gs (i : Int).toNat).1 - (at0 gs (0 : Int).toNat).1 - 2 * (tk l (i : Int).toNat - tk l (0 : Int).toNat)
    let B : Int := if decide (r1 = 0) = true then 1 else 0
    let y10 := some (Sl.val (.int (A + B)))
    have e10 : eBin addD (eBin subD (eBin subD (eBin addD (eVar 7) (eBin ixD (eBin ixD (eVar 2) (eVar 9)) (eC (.int 0)))) (eBin ixD (eBin ixD (eVar 2) (eC (.int 0))) (eC (.int 0)))) (eBin mulD (eC (.int 2)) (eBin subD (eBin ixD (eVar 5) (eVar 9)) (eBin ixD (eVar 5) (eC (.int 0)))))) (eCall intG (aCons (eBin eqD (eFn S__law_pick (aCons (eVar 0) (aCons (eC (.int 6)) aNil))) (eC (.int 0))) aNil)) ⟨env1 fs x10, c⟩ = some (.int (A + B), ⟨env1 fs x10, c1⟩) := by
      have t1 := tick_ix (ma := eVar 5) (me := eVar 9) (s := ⟨env1 fs x10, c⟩) (l := l) (i := (i : Int)) (.inr rfl) (by rfl) (by rfl) (by omega) (by omega)
      have t0 := tick_ix (ma := eVar 5) (me := eC (.int 0)) (s := ⟨env1 fs x10, c⟩) (l := l) (i := 0) (.inr rfl) (by rfl) (by rfl) (by omega) (by omega)
      have g1 := fst_ix (ma := eVar 2) (me := eVar 9) (s := ⟨env1 fs x10, c⟩) (xs := gs) (i := (i : Int)) (by rfl) (by rfl) (by omega) (by omega)
      have g0 := fst_ix (ma := eVar 2) (me := eC (.int 0)) (s := ⟨env1 fs x10, c⟩) (xs := gs) (i := 0) (by rfl) (by rfl) (by omega) (by omega)
      refine bin_eq (f := addD) (s1 := ⟨env1 fs x10, c⟩) (x := .int A) (y := .int B) ?_ ?_ rfl
      · refine bin_eq (f := subD) (s1 := ⟨env1 fs x10, c⟩) (x := .int (b0 + (at0 gs (i : Int).toNat).1 - (at0 gs (0 : Int).toNat).1)) (y := .int (2 * (tk l (i : Int).toNat - tk l (0 : Int).toNat))) ?_ ?_ rfl
        · exact bin_eq (f := subD) (s1 := ⟨env1 fs x10, c⟩) (x := .int (b0 + (at0 gs (i : Int).toNat).1)) (bin_eq (f := addD) (s1 := ⟨env1 fs x10, c⟩) (x := .int b0) (by rfl) g1 rfl) g0 rfl
        · exact bin_eq (f := mulD) (s1 := ⟨env1 fs x10, c⟩) (x := .int 2) (by rfl) (bin_eq (f := subD) (s1 := ⟨env1 fs x10, c⟩) t1 t0 rfl) (mul_okl 2 _ (by omega) (by omega))
      · exact call_eq (one_eq (bin_eq (f := eqD) (s1 := ⟨env1 fs x10, c1⟩) (x := .int r1) (y := .int 0) (fn_eq (env := env1 fs x10) (c0 := c) (ds := [.src, .int 6]) (by rfl) p1) (by rfl) (eqD_int r1 0))) (by rfl)
    obtain ⟨r2, c2, p2, _, _⟩ := pick_any 3 c1 (by decide) (by decide)
    have p2 : S__law_pick [.src, .int 3] c1 = some (.int r2, c2) := p2
    let V : Int := (A + B).fmod (L : Int) + (L : Int) * (r2 - 1)
    let fs1 := fs.set (l.length - 1 - i) (V, h)
    have eT : eTup (aCons (eBin addD (eFn S__law_rest (aCons (eVar 10) (aCons (eVar 4) aNil))) (eBin mulD (eVar 4) (eBin subD (eFn S__law_pick (aCons (eVar 0) (aCons (eC (.int 3)) aNil))) (eC (.int 1))))) (aCons (eVar 3) aNil)) ⟨env1 fs y10, c1⟩ = some (eP (V, h), ⟨env1 fs y10, c2⟩) := by
      unfold eTup
      refine (bnd_eq (cons_eq (d := .int V) (s1 := ⟨env1 fs y10, c2⟩) (ds := [.int h]) ?_ (by rfl))).trans (by rfl)
      refine bin_eq (f := addD) (s1 := ⟨env1 fs y10, c1⟩) (x := .int ((A + B).fmod (L : Int))) (y := .int ((L : Int) * (r2 - 1))) (fn_eq (env := env1 fs y10) (c0 := c1) (ds := [.int (A + B), .int (L : Int)]) (by rfl) (rest_eq (A + B) L c1 (by omega))) ?_ rfl
      exact bin_eq (f := mulD) (s1 := ⟨env1 fs y10, c1⟩) (x := .int (L : Int)) (by rfl) (bin_eq (f := subD) (s1 := ⟨env1 fs y10, c2⟩) (x := .int r2) (y := .int 1) (fn_eq (env := env1 fs y10) (c0 := c1) (ds := [.src, .int 3]) (by rfl) p2) (by rfl) rfl) (mul_okl (L : Int) (r2 - 1) (by omega) (by omega))
    have eI : sSetIx 8 (eTup (aCons (eBin addD (eFn S__law_rest (aCons (eVar 10) (aCons (eVar 4) aNil))) (eBin mulD (eVar 4) (eBin subD (eFn S__law_pick (aCons (eVar 0) (aCons (eC (.int 3)) aNil))) (eC (.int 1))))) (aCons (eVar 3) aNil))) (eBin subD (eVar 6) (eVar 9)) ⟨env1 fs y10, c1⟩ = some (.nx, ⟨env1 fs1 y10, c2⟩) := by
      unfold sSetIx
      rw [bnd_eq eT, bnd_eq (a := ()) (s1 := ⟨env1 fs y10, c2⟩) (by rfl), bnd_eq (a := .int ((l.length : Int) - 1 - (i : Int))) (s1 := ⟨env1 fs y10, c2⟩) (bin_eq (f := subD) (s1 := ⟨env1 fs y10, c2⟩) (x := .int ((l.length : Int) - 1)) (y := .int (i : Int)) (by rfl) (by rfl) rfl)]
      have hset : setL (.int ((l.length : Int) - 1 - (i : Int))) (eP (V, h)) (fs.map eP) = some (fs1.map eP) := by
        show ((L2.ixN (fs.map eP).length ((l.length : Int) - 1 - (i : Int))).map fun n => (fs.map eP).set n (eP (V, h))) = _
        rw [ixN_of (by omega) (by rw [List.length_map]; omega), show ((l.length : Int) - 1 - (i : Int)).toNat = l.length - 1 - i by omega]
        simp [fs1, List.map_set]
      have hput : putL 8 (setL (.int ((l.length : Int) - 1 - (i : Int))) (eP (V, h))) ⟨env1 fs y10, c2⟩ = some ((), ⟨env1 fs1 y10, c2⟩) := by
        show (match setL (.int ((l.length : Int) - 1 - (i : Int))) (eP (V, h)) (fs.map eP) with
          | some ds' => some ((), (⟨(env1 fs y10).set 8 (some (.own ds')), c2⟩ : S))
          | none => none) = _
        rw [hset]
        rfl
      rw [bnd_eq hput]
      rfl
    obtain ⟨fs', y9, z10, c', q1, q2, q3⟩ := fit_body l gs h L b0 hL hL2 hg hll xs fs1 (some (.val (.int (i : Int)))) y10 c2 (fun j hj => hx j (List.mem_cons_of_mem _ hj)) (by simp [fs1, hf]) (fun q hq => by
      rcases List.mem_or_eq_of_mem_set hq with z | z
      · exact hh q z
      · rw [z])
    refine ⟨fs', y9, z10, c', q1, q2, ?_⟩
    rw [List.map_cons, for_nx (s1 := ⟨env1 fs x10, c⟩) (s2 := ⟨env1 fs1 y10, c2⟩) (by rfl) (by rw [seq_nx (s1 := ⟨env1 fs y10, c1⟩) (set_eq e10 (by show 10 < 11; decide)), eI])]
    exact q3
theorem par3 {i j k : Nat} {ma mb mc : M D} {env : List (Option Sl)} {c c1 c2 c3 : Src} {x y z : D} (h1 : ma ⟨env, c⟩ = some (x, ⟨env, c1⟩)) (h2 : mb ⟨env, c1⟩ = some (y, ⟨env, c2⟩)) (h3 : mc ⟨env, c2⟩ = some (z, ⟨env, c3⟩)) :
    pVal ma (pVal mb (pVal mc pNil)) ⟨env, c⟩ = some ([.val x, .val y, .val z], ⟨env, c3⟩) := by
  have hr : pVal mc pNil ⟨env, c2⟩ = some ([.val z], ⟨env, c3⟩) := by
    unfold pVal; rw [bnd_eq h3]; rfl
  have hq : pVal mb (pVal mc pNil) ⟨env, c1⟩ = some ([.val y, .val z], ⟨env, c3⟩) := by
    unfold pVal at hr ⊢; rw [bnd_eq h2, bnd_eq hr]; rfl
  unfold pVal at hq ⊢; rw [bnd_eq h1, bnd_eq hq]; rfl
theorem flat_one {α : Type} (m : Nat) (d : α) : (List.replicate m [d]).flatten = List.replicate m d := by
  induction m with
  | zero => rfl
  | succ n ih => rw [List.replicate_succ, List.flatten_cons, ih]; rfl
theorem fitting_eq (l gs : List (Int × Int)) (h : Int) (L : Nat) (c : Src) (hL : 1 ≤ L) (hL2 : L ≤ 1000) (hg : l.length = gs.length) (hll : l.length ≤ 1000) : ∃ (bs : List (Int × Int)) (c' : Src), bs.length = l.length ∧ (∀ q ∈ bs, q.2 = h) ∧
    S__law_fitting_backs [.src, ePs l, ePs gs, .int h, .int (L : Int)] c = some (ePs bs, c') := by
  obtain ⟨b0, c1, p1, _, _⟩ := pick_any L c (by omega) (by omega)
  have p1 : S__law_pick [.src, .int (L : Int)] c = some (.int b0, c1) := p1
  obtain ⟨fs', y9, y10, c', q1, q2, q3⟩ := fit_body l gs h L b0 hL hL2 hg hll (List.range l.length) (List.replicate l.length (0, h)) none none c1 (fun i hi => List.mem_range.mp hi) (by simp) (fun q hq => by rw [List.eq_of_mem_replicate hq])
  refine ⟨fs', c', q1, q2, ?_⟩
  let E0 : List (Option Sl) := [some (.val .src), some (.val (ePs l)), some (.val (ePs gs)), some (.val (.int h)), some (.val (.int (L : Int))), none, none, none, none, none, none]
  let E7 : List (Option Sl) := [some (.val .src), some (.val (ePs l)), some (.val (ePs gs)), some (.val (.int h)), some (.val (.int (L : Int))), some (.val (.lst ((arr l 0).map D.int))), some (.val (.int ((l.length : Int) - 1))), some (.val (.int b0)), none, none, none]
  let E8 : List (Int × Int) → Option Sl → Option Sl → List (Option Sl) := fun fs x9 x10 => [some (.val .src), some (.val (ePs l)), some (.val (ePs gs)), some (.val (.int h)), some (.val (.int (L : Int))), some (.val (.lst ((arr l 0).map D.int))), some (.val (.int ((l.length : Int) - 1))), some (.val (.int b0)), some (.own (fs.map eP)), x9, x10]
  have hlen : ∀ (E : List (Option Sl)) (c : Src), E[1]? = some (some (.val (ePs l))) → eCall lenG (aCons (eVar 1) aNil) ⟨E, c⟩ = some (.int (l.length : Int), ⟨E, c⟩) := fun E c hE => by
    have hv : eVar 1 ⟨E, c⟩ = some (.tup (l.map eP), ⟨E, c⟩) := by
      show (match E[1]? with | some (some (.val d)) => some (d, (⟨E, c⟩ : S)) | _ => none) = _
      rw [hE]
      rfl
    have := len_call hv
    rw [List.length_map] at this
    exact this
  refine fnOf_ret (env := [some (.val .src), some (.val (ePs l)), some (.val (ePs gs)), some (.val (.int h)), some (.val (.int (L : Int))), some (.val (.lst ((arr l 0).map D.int))), some (.val (.int ((l.length : Int) - 1))), some (.val (.int b0)), some (.val (.lst (fs'.map eP))), y9, y10]) ?_
  unfold m__law_fitting_backs
  have e7 : sPar [5, 6, 7] (pVal (eFn S__law_line_ticks (aCons (eVar 1) (aCons (eC (.int 0)) aNil))) (pVal (eBin subD (eCall lenG (aCons (eVar 1) aNil)) (eC (.int 1))) (pVal (eFn S__law_pick (aCons (eVar 0) (aCons (eVar 4) aNil))) pNil))) ⟨E0, c⟩ = some (.nx, ⟨E7, c1⟩) := by
    unfold sPar
    refine (bnd_eq (par3 (i := 5) (j := 6) (k := 7) (env := E0) (c := c) (c1 := c) (c2 := c) (c3 := c1) (fn_eq (env := E0) (c0 := c) (ds := [ePs l, .int 0]) (by rfl) (ticks_eq l 0 c (by omega))) (bin_eq (f := subD) (s1 := ⟨E0, c⟩) (x := .int (l.length : Int)) (y := .int 1) (hlen E0 c (by rfl)) (by rfl) rfl)
      (fn_eq (env := E0) (c0 := c) (ds := [.src, .int (L : Int)]) (by rfl) p1))).trans (by rfl)
  have e8 : sOwn 8 (eBinL mulLD (eLst (lDisp (aCons (eTup (aCons (eC (.int 0)) (aCons (eVar 3) aNil))) aNil))) (eCall lenG (aCons (eVar 1) aNil))) ⟨E7, c1⟩ = some (.nx, ⟨E8 (List.replicate l.length (0, h)) none none, c1⟩) := by
    refine (own_eq (env := E7) (c := c1) (d := (List.replicate l.length ((0 : Int), h)).map eP) ?_ (by show 8 < 11; decide)).trans (by rfl)
    unfold eBinL
    rw [bnd_eq (a := .lst [eP (0, h)]) (s1 := ⟨E7, c1⟩) (by rfl), bnd_eq (hlen E7 c1 (by rfl))]
    have hm : mulLD (.lst [eP (0, h)]) (.int (l.length : Int)) = some ((List.replicate l.length ((0 : Int), h)).map eP) := by
      simp only [mulLD]
      rw [if_pos ⟨by omega, by omega, by
        have := sz (1 * l.length) (by omega)
        simpa using this⟩]
      rw [show ((l.length : Int)).toNat = l.length by omega, flat_one, List.map_replicate]
    show lift (mulLD _ _) _ = _
    rw [hm]
    rfl
  refine (seq_nx (s1 := ⟨E7, c1⟩) e7).trans ?_
  rw [seq_nx (s1 := ⟨E8 (List.replicate l.length (0, h)) none none, c1⟩) e8]
  rw [seq_nx (m := sFor _ _ _) (s1 := ⟨E8 fs' y9 y10, c'⟩) (by
    rw [for_eq (ds := (List.range l.length).map fun i => D.int ((i : Nat) : Int)) (s1 := ⟨E8 (List.replicate l.length (0, h)) none none, c1⟩) (by
      have := rg1_of (env := E8 (List.replicate l.length (0, h)) none none) (c := c1) (hlen (E8 (List.replicate l.length (0, h)) none none) c1 (by rfl)) (by omega) (by omega)
      rw [rngL0, show ((l.length : Int)).toNat = l.length by omega] at this
      exact this)]
    exact q3)]
  rfl
end GW
end

noncomputable section
namespace GW
open GH
theorem fmod_pos (a : Int) {L : Int} (hL : 0 < L) : a.fmod L = a % L := Int.fmod_eq_emod_of_nonneg a (by omega)
theorem paper_none (l gs bs : List (Int × Int)) {L : Int} (hL : 0 < L) : ∀ xs : List Nat, paperF l gs bs L xs = none ↔ ∀ i ∈ xs, askP l gs bs (i + 1) % L = 0
  | [] => by simp [paperF]
  | i :: r => by
    unfold paperF
    rw [fmod_pos _ hL]
    by_cases h : askP l gs bs (i + 1) % L = 0
    · rw [if_pos h, paper_none l gs bs hL r]
      simp [h]
    · rw [if_neg h]
      simp [h]
theorem paper_some (l gs bs : List (Int × Int)) {L : Int} (hL : 0 < L) {k : Nat} {r : Int} : ∀ xs : List Nat, paperF l gs bs L xs = some (k, r) → (∃ i ∈ xs, k = i + 1) ∧ 0 ≤ r ∧ r < L
  | [], h => by simp [paperF] at h
  | i :: t, h => by
    unfold paperF at h
    split at h
    · obtain ⟨⟨j, hj, e⟩, q⟩ := paper_some l gs bs hL t h
      exact ⟨⟨j, List.mem_cons_of_mem _ hj, e⟩, q⟩
    · injection h with h
      injection h with h1 h2
      refine ⟨⟨i, List.mem_cons_self, h1.symm⟩, ?_⟩
      rw [← h2]
      exact ⟨Int.fmod_nonneg_of_pos _ hL, Int.fmod_lt_of_pos _ hL⟩
theorem papers_none (l gs bs : List (Int × Int)) {L : Int} (hL : 0 < L) : papers l gs bs L = none ↔ ∀ k, k < l.length → askP l gs bs k % L = 0 := by
  unfold papers
  rw [paper_none l gs bs hL]
  constructor
  · intro h k hk
    cases k with
    | zero =>
      have : askP l gs bs 0 = 0 := by
        unfold askP
        rw [Nat.sub_zero]
        omega
      rw [this]
      simp
    | succ i => exact h i (List.mem_range.mpr (by omega))
  · intro h i hi
    have := List.mem_range.mp hi
    exact h (i + 1) (by omega)
theorem small_repr : ∀ k : Fin 4, ∀ r : Fin 8, okRepr (.tup [.int (k.val : Int), .int (r.val : Int)]) ∧ (D.str (D.tup [.int (k.val : Int), .int (r.val : Int)]).py.shown).nice = true := by decide +kernel
def sPaper : Option (Nat × Int) → D
  | none => .str "None"
  | some (k, r) => .str (D.tup [.int (k : Int), .int r]).py.shown
theorem repr_paper (l gs bs : List (Int × Int)) {L : Int} (hL : 0 < L) (hL2 : L ≤ 8) (hl : l.length ≤ 4) : reprG [ePaper (papers l gs bs L)] = some (sPaper (papers l gs bs L)) ∧ (sPaper (papers l gs bs L)).ok := by
  cases hp : papers l gs bs L with
  | none => exact ⟨rfl, by exact ⟨by simp only [sPaper, D.nice]; decide +kernel, by simp [sPaper, D.py, PySem.PyData.depth]⟩⟩
  | some q =>
    obtain ⟨k, r⟩ := q
    obtain ⟨⟨i, hi, e⟩, h0, h1⟩ := paper_some l gs bs hL _ hp
    have := List.mem_range.mp hi
    have hs := small_repr ⟨k, by omega⟩ ⟨r.toNat, by omega⟩
    rw [show (((⟨r.toNat, by omega⟩ : Fin 8).val : Nat) : Int) = r by show ((r.toNat : Nat) : Int) = r; omega] at hs
    refine ⟨?_, hs.2, by simp [sPaper, D.py, PySem.PyData.depth]⟩
    show (if okRepr _ then _ else _) = _
    rw [if_pos hs.1]
    rfl
theorem full_papers {g h : Int} {m L : Nat} (g0 : 0 < g) (g1 : g < L) (h0 : 0 < h) (h1 : h < L) (l gs bs : List (Int × Int)) (hl : LineOk m l) (hg : l.length = gs.length) (hb : l.length = bs.length) (hga : ∀ q ∈ gs, q.2 = g) (hba : ∀ q ∈ bs, q.2 = h) {us : List (List Int)} (hu : us.Perm (vecs m l L)) :
    (us.any fun u => decide (pairV L u l gs bs = (g, h))) = (papers l gs bs L).isNone := by
  have hi := full_iff g0 g1 h0 h1 l gs bs hl hg hb hga hba
  rw [← papers_none l gs bs (L := (L : Int)) (by omega)] at hi
  rw [any_perm hu, Bool.eq_iff_iff, hi]
  cases papers l gs bs (L : Int) <;> simp
def totV (L : Int) (l gs bs : List (Int × Int)) (u : List Int) : Int := (pairV L u l gs bs).1 + (pairV L u l gs bs).2
def mxStep (L : Int) (l gs bs : List (Int × Int)) (b : Int) (u : List Int) : Int := if totV L l gs bs u > b then totV L l gs bs u else b
theorem tot_pos (L : Int) (l gs bs : List (Int × Int)) (u : List Int) : 0 ≤ totV L l gs bs u := by unfold totV pairV; simp only; omega
theorem best_from (L : Int) (l gs bs : List (Int × Int)) : ∀ (us : List (List Int)) (t : Int) (o : List Int), ∃ o', us.foldl (bestStep L l gs bs) (some (t, o)) = some (us.foldl (mxStep L l gs bs) t, o') ∧ (o' ∈ us ∧ totV L l gs bs o' = us.foldl (mxStep L l gs bs) t ∨ o' = o ∧ us.foldl (mxStep L l gs bs) t = t)
  | [], t, o => ⟨o, rfl, .inr ⟨rfl, rfl⟩⟩
  | u :: us, t, o => by
    rw [List.foldl_cons, List.foldl_cons]
    by_cases h : t < totV L l gs bs u
    · have e1 : bestStep L l gs bs (some (t, o)) u = some (totV L l gs bs u, u) := if_pos h
      have e2 : mxStep L l gs bs t u = totV L l gs bs u := if_pos h
      rw [e1, e2]
      obtain ⟨o', h1, h2⟩ := best_from L l gs bs us (totV L l gs bs u) u
      refine ⟨o', h1, .inl ?_⟩
      rcases h2 with ⟨h3, h4⟩ | ⟨h3, h4⟩
      · exact ⟨List.mem_cons_of_mem _ h3, h4⟩
      · exact ⟨by rw [h3]; exact List.mem_cons_self, by rw [h3, h4]⟩
    · have e1 : bestStep L l gs bs (some (t, o)) u = some (t, o) := if_neg h
      have e2 : mxStep L l gs bs t u = t := if_neg h
      rw [e1, e2]
      obtain ⟨o', h1, h2⟩ := best_from L l gs bs us t o
      refine ⟨o', h1, ?_⟩
      rcases h2 with ⟨h3, h4⟩ | ⟨h3, h4⟩
      · exact .inl ⟨List.mem_cons_of_mem _ h3, h4⟩
      · exact .inr ⟨h3, h4⟩
theorem best_all (L : Int) (l gs bs : List (Int × Int)) : ∀ (us : List (List Int)), us ≠ [] → ∃ o ∈ us, us.foldl (bestStep L l gs bs) none = some (us.foldl (mxStep L l gs bs) 0, o) ∧ totV L l gs bs o = us.foldl (mxStep L l gs bs) 0
  | [], h => absurd rfl h
  | u :: us, _ => by
    rw [List.foldl_cons, List.foldl_cons]
    have e1 : bestStep L l gs bs none u = some (totV L l gs bs u, u) := rfl
    have e2 : mxStep L l gs bs 0 u = totV L l gs bs u := by
      have := tot_pos L l gs bs u
      unfold mxStep
      split <;> omega
    rw [e1, e2]
    obtain ⟨o', h1, h2⟩ := best_from L l gs bs us (totV L l gs bs u) u
    rcases h2 with ⟨h3, h4⟩ | ⟨h3, h4⟩
    · exact ⟨o', List.mem_cons_of_mem _ h3, h1, h4⟩
    · exact ⟨o', by rw [h3]; exact List.mem_cons_self, h1, by rw [h3, h4]⟩
theorem mx_ge (L : Int) (l gs bs : List (Int × Int)) : ∀ (us : List (List Int)) (t : Int), t ≤ us.foldl (mxStep L l gs bs) t ∧ ∀ u ∈ us, totV L l gs bs u ≤ us.foldl (mxStep L l gs bs) t
  | [], t => ⟨Int.le_refl _, by simp⟩
  | u :: us, t => by
    rw [List.foldl_cons]
    obtain ⟨h1, h2⟩ := mx_ge L l gs bs us (mxStep L l gs bs t u)
    have : t ≤ mxStep L l gs bs t u ∧ totV L l gs bs u ≤ mxStep L l gs bs t u := by unfold mxStep; split <;> omega
    refine ⟨by omega, fun q hq => ?_⟩
    rcases List.mem_cons.mp hq with rfl | hq
    · omega
    · exact h2 q hq
theorem mx_le (L : Int) (l gs bs : List (Int × Int)) (B : Int) : ∀ (us : List (List Int)) (t : Int), t ≤ B → (∀ u ∈ us, totV L l gs bs u ≤ B) → us.foldl (mxStep L l gs bs) t ≤ B
  | [], t, h, _ => h
  | u :: us, t, h, hu => by
    rw [List.foldl_cons]
    have := hu u List.mem_cons_self
    exact mx_le L l gs bs B us _ (by unfold mxStep; split <;> omega) fun q hq => hu q (List.mem_cons_of_mem _ hq)
end GW
end

noncomputable section
namespace GW
open GH
theorem len_Is {m : M D} {s s1 : S} {xs : List Int} (h : m s = some (eIs xs, s1)) : eCall lenG (aCons m aNil) s = some (.int (xs.length : Nat), s1) := by
  have := len_call (xs := xs.map D.int) h
  rw [List.length_map] at this
  exact this
/-- one look at the offsets: best so far, and whether it was full -/
theorem wave_loop (b0 b1 b2 b3 b10 b16 b17 b18 b19 : Option Sl) (g h : Int) (l gs bs : List (Int × Int)) (L : Int) (c : Src) (hL : 0 < L) (hL2 : L ≤ 1000) (hl : l.length ≤ 1000) : ∀ (us : List (List Int)) (b : Int) (f : Bool) (x14 x15 : Option Sl), (∀ u ∈ us, inOff u l) → ∃ y14 y15,
    forM (gN 14) (sSeq (sSet 15 (eTup (aCons (eCall lenG (aCons (eFn S__law_band (aCons (eVar 5) (aCons (eVar 8) (aCons (eVar 4) (aCons (eVar 14) aNil))))) aNil)) (aCons (eCall lenG (aCons (eFn S__law_band (aCons (eVar 11) (aCons (eVar 9) (aCons (eVar 4) (aCons (eVar 14) aNil))))) aNil)) aNil))))
      (sPar [12, 13] (pVal (eCall maxG (aCons (eVar 12) (aCons (eCall sumG (aCons (eVar 15) aNil)) aNil))) (pVal (eOr (eVar 13) (eBin eqD (eVar 15) (eTup (aCons (eVar 6) (aCons (eVar 7) aNil))))) pNil))))
      (us.map eIs) ⟨[b0, b1, b2, b3, some (.val (.int L)), some (.val (ePs l)), some (.val (.int g)), some (.val (.int h)), some (.val (ePs gs)), some (.val (ePs bs)), b10, some (.val (ePs (backL l))), some (.val (.int b)), some (.val (.bl f)), x14, x15, b16, b17, b18, b19, none], c⟩
      = some (.nx, ⟨[b0, b1, b2, b3, some (.val (.int L)), some (.val (ePs l)), some (.val (.int g)), some (.val (.int h)), some (.val (ePs gs)), some (.val (ePs bs)), b10, some (.val (ePs (backL l))), some (.val (.int (us.foldl (mxStep L l gs bs) b))), some (.val (.bl (f || us.any fun u => decide (pairV L u l gs bs = (g, h))))), y14, y15, b16, b17, b18, b19, none], c⟩)
  | [], b, f, x14, x15, _ => ⟨x14, x15, by simp [for_nil]⟩
  | u :: us, b, f, x14, x15, hu => by
    let p := pairV L u l gs bs
    let f' : Bool := f || decide (p = (g, h))
    let b' : Int := mxStep L l gs bs b u
    obtain ⟨y14, y15, e⟩ := wave_loop b0 b1 b2 b3 b10 b16 b17 b18 b19 g h l gs bs L c hL hL2 hl us b' f' (some (.val (eIs u))) (some (.val (eP p))) fun q hq => hu q (List.mem_cons_of_mem _ hq)
    refine ⟨y14, y15, ?_⟩
    have hi := hu u List.mem_cons_self
    let env1 : Int → Bool → Option Sl → List (Option Sl) := fun b f x => [b0, b1, b2, b3, some (.val (.int L)), some (.val (ePs l)), some (.val (.int g)), some (.val (.int h)), some (.val (ePs gs)), some (.val (ePs bs)), b10, some (.val (ePs (backL l))), some (.val (.int b)), some (.val (.bl f)), some (.val (eIs u)), x, b16, b17, b18, b19, none]
    let x := some (Sl.val (eP p))
    have e15 : eTup (aCons (eCall lenG (aCons (eFn S__law_band (aCons (eVar 5) (aCons (eVar 8) (aCons (eVar 4) (aCons (eVar 14) aNil))))) aNil)) (aCons (eCall lenG (aCons (eFn S__law_band (aCons (eVar 11) (aCons (eVar 9) (aCons (eVar 4) (aCons (eVar 14) aNil))))) aNil)) aNil)) ⟨env1 b f x15, c⟩ = some (eP p, ⟨env1 b f x15, c⟩) := by
      unfold eTup
      exact (bnd_eq (cons_eq (s1 := ⟨env1 b f x15, c⟩) (len_Is (fn_eq (env := env1 b f x15) (c0 := c) (ds := [ePs l, ePs gs, .int L, eIs u]) (by rfl) (law_band_eq l gs L u c hL (by omega) hi (by omega))))
        (one_eq (len_Is (fn_eq (env := env1 b f x15) (c0 := c) (ds := [ePs (backL l), ePs bs, .int L, eIs u]) (by rfl) (law_band_eq (backL l) bs L u c hL (by omega) (back_in hi) (by rw [back_len]; omega))))))).trans (by rfl)
    have e12 : eCall maxG (aCons (eVar 12) (aCons (eCall sumG (aCons (eVar 15) aNil)) aNil)) ⟨env1 b f x, c⟩ = some (.int b', ⟨env1 b f x, c⟩) := by
      refine call_eq (ds := [.int b, .int (totV L l gs bs u)]) (cons_eq (s1 := ⟨env1 b f x, c⟩) (by rfl) (one_eq (call_eq (ds := [eP p]) (by rfl) (by
        show some (D.int (p.1 + (p.2 + 0))) = _
        rw [Int.add_zero]
        rfl)))) (by rfl)
    have e13 : eOr (eVar 13) (eBin eqD (eVar 15) (eTup (aCons (eVar 6) (aCons (eVar 7) aNil)))) ⟨env1 b f x, c⟩ = some (.bl f', ⟨env1 b f x, c⟩) := by
      unfold eOr
      rw [bnd_eq (a := .bl f) (s1 := ⟨env1 b f x, c⟩) (by rfl), bnd_eq (a := f) (s1 := ⟨env1 b f x, c⟩) (by rfl)]
      cases f with
      | true => rfl
      | false => exact bin_eq (f := eqD) (s1 := ⟨env1 b false x, c⟩) (x := eP p) (y := eP (g, h)) (by rfl) (by rfl) ((eqP p (g, h)).trans (by simp [f']))
    have eb := par2 (i := 12) (j := 13) (env := env1 b f x) e12 e13 (by show 12 < 21; decide) (by show 13 < 21; decide)
    rw [List.map_cons, List.foldl_cons, List.any_cons, for_nx (s1 := ⟨env1 b f x15, c⟩) (s2 := ⟨env1 b' f' x, c⟩) (by rfl) (by rw [seq_nx (s1 := ⟨env1 b f x, c⟩) (set_eq e15 (by show 15 < 21; decide)), eb]; rfl)]
    refine e.trans ?_
    rw [show (f' || us.any fun u => decide (pairV L u l gs bs = (g, h))) = (f || (decide (pairV L u l gs bs = (g, h)) || us.any fun u => decide (pairV L u l gs bs = (g, h)))) from Bool.or_assoc f _ _]
/-- greens drawn, all of one length -/
theorem greens_comp {env : List (Option Sl)} {j : Nat} (g L : Int) (l : List (Int × Int)) (c : Src) (h1 : 1 ≤ L) (h2 : L ≤ 1000) (hl : l.length ≤ 1000) (hit : iSeq (eVar 5) ⟨env, c⟩ = some (l.map eP, ⟨env, c⟩)) (cl : cleanE env [20])
    (step : ∀ (p : Int × Int) (s : Src), ∃ env2, gN 20 (eP p) ⟨wipeE env [20], s⟩ = some ((), ⟨env2, s⟩) ∧ wipeE env2 [20] = wipeE env [20] ∧ (∀ s, eVar 1 ⟨env2, s⟩ = some (.src, ⟨env2, s⟩)) ∧ (∀ s, eVar 4 ⟨env2, s⟩ = some (.int L, ⟨env2, s⟩)) ∧ ∀ s, eVar j ⟨env2, s⟩ = some (.int g, ⟨env2, s⟩)) :
    ∃ (gs : List (Int × Int)) (c' : Src), gs.length = l.length ∧ (∀ q ∈ gs, q.2 = g) ∧ eCall tupG (aCons (eLst (eComp [20] (gN 20) (ret true) (eTup (aCons (eBin subD (eFn S__law_pick (aCons (eVar 1) (aCons (eBin mulD (eC (.int 3)) (eVar 4)) aNil))) (eVar 4)) (aCons (eVar j) aNil))) (iSeq (eVar 5)))) aNil) ⟨env, c⟩ = some (ePs gs, ⟨env, c'⟩) := by
  obtain ⟨gs, c', hgl, hR, hc⟩ := comp_draw (vs := [20]) (g := gN 20) (c := ret true) (el := eTup (aCons (eBin subD (eFn S__law_pick (aCons (eVar 1) (aCons (eBin mulD (eC (.int 3)) (eVar 4)) aNil))) (eVar 4)) (aCons (eVar j) aNil))) (it := iSeq (eVar 5)) (env := env) (enc := eP) (R := fun _ y => y.2 = g) (ds := l.map eP) (src := c) (src1 := c) hit (by rw [List.length_map]; omega) cl (fun d hd s => by
    obtain ⟨p, _, rfl⟩ := List.mem_map.mp hd
    obtain ⟨env2, q1, q2, q3, q4, q5⟩ := step p s
    obtain ⟨r, s', hp, _, _⟩ := pick_any (3 * L) s (by omega) (by omega)
    have hp' : S__law_pick [.src, .int (3 * L)] s = some (.int r, s') := hp
    refine ⟨(r - L, g), env2, s', ?_, q2, rfl⟩
    have hm : eBin mulD (eC (.int 3)) (eVar 4) ⟨env2, s⟩ = some (.int (3 * L), ⟨env2, s⟩) := bin_eq (f := mulD) (s1 := ⟨env2, s⟩) (x := .int 3) (by rfl) (q4 s) (mul_okl 3 L (by omega) (by omega))
    have hd1 : eBin subD (eFn S__law_pick (aCons (eVar 1) (aCons (eBin mulD (eC (.int 3)) (eVar 4)) aNil))) (eVar 4) ⟨env2, s⟩ = some (.int (r - L), ⟨env2, s'⟩) :=
      bin_eq (f := subD) (s1 := ⟨env2, s'⟩) (x := .int r) (fn_eq (env := env2) (c0 := s) (cons_eq (q3 s) (one_eq hm)) hp') (q4 s') rfl
    unfold turnC
    rw [bnd_eq q1, bnd_eq (a := true) (s1 := ⟨env2, s⟩) rfl, if_pos rfl]
    have ht : eTup (aCons (eBin subD (eFn S__law_pick (aCons (eVar 1) (aCons (eBin mulD (eC (.int 3)) (eVar 4)) aNil))) (eVar 4)) (aCons (eVar j) aNil)) ⟨env2, s⟩ = some (eP (r - L, g), ⟨env2, s'⟩) := by
      unfold eTup
      exact (bnd_eq (cons_eq hd1 (one_eq (q5 s')))).trans (by rfl)
    rw [bnd_eq ht]
    rfl)
  refine ⟨gs, c', by rw [hgl, List.length_map], fun q hq => ?_, call_eq (one_eq (lst_eq hc)) (by rfl)⟩
  obtain ⟨i, hi⟩ := List.mem_iff_getElem?.mp hq
  have hlt : i < (l.map eP).length := by rw [← hgl]; exact (List.getElem?_eq_some_iff.mp hi).1
  exact hR i _ q (List.getElem?_eq_getElem hlt) hi
end GW
end

noncomputable section
namespace GW
open GH
def lapB : M Out :=
 (sSeq (sPar [3, 4] (pVal (eBin addD (eC (.int 1)) (eFn S__law_pick (aCons (eVar 1) (aCons (eC (.int 3)) aNil)))) (pVal (eBin addD (eC (.int 2)) (eFn S__law_pick (aCons (eVar 1) (aCons (eC (.int 6)) aNil)))) pNil)))
 (sSeq (sSet 5 (eFn S__law_draw_line (aCons (eVar 1) (aCons (eVar 3) aNil))))
 (sSeq (sPar [6, 7] (pVal (eBin addD (eC (.int 1)) (eFn S__law_pick (aCons (eVar 1) (aCons (eBin subD (eVar 4) (eC (.int 1))) aNil)))) (pVal (eBin addD (eC (.int 1)) (eFn S__law_pick (aCons (eVar 1) (aCons (eBin subD (eVar 4) (eC (.int 1))) aNil)))) pNil)))
 (sSeq (sSet 8 (eCall tupG (aCons (eLst (eComp [20] (gN 20) (ret true) (eTup (aCons (eBin subD (eFn S__law_pick (aCons (eVar 1) (aCons (eBin mulD (eC (.int 3)) (eVar 4)) aNil))) (eVar 4)) (aCons (eVar 6) aNil))) (iSeq (eVar 5)))) aNil)))
 (sSeq (sSet 9 (eFn S__law_fitting_backs (aCons (eVar 1) (aCons (eVar 5) (aCons (eVar 8) (aCons (eVar 7) (aCons (eVar 4) aNil)))))))
 (sSeq (sIf (tst (eBin eqD (eFn S__law_pick (aCons (eVar 1) (aCons (eC (.int 4)) aNil))) (eC (.int 0))))
 (sSet 9 (eCall tupG (aCons (eLst (eComp [20] (gN 20) (ret true) (eTup (aCons (eBin subD (eFn S__law_pick (aCons (eVar 1) (aCons (eBin mulD (eC (.int 3)) (eVar 4)) aNil))) (eVar 4)) (aCons (eVar 7) aNil))) (iSeq (eVar 5)))) aNil)))
 sNx)
 (sSeq (sPar [10, 11] (pVal (eFn S__law_paper (aCons (eVar 5) (aCons (eVar 8) (aCons (eVar 9) (aCons (eVar 4) aNil))))) (pVal (eFn S__law_back_line (aCons (eVar 5) aNil)) pNil)))
 (sSeq (sPar [12, 13] (pVal (eC (.int 0)) (pVal (eC (.bl false)) pNil)))
 (sSeq (sFor (iSeq (eFn S__law_line_offsets (aCons (eVar 3) (aCons (eVar 5) (aCons (eVar 4) aNil))))) (gN 14)
 (sSeq (sSet 15 (eTup (aCons (eCall lenG (aCons (eFn S__law_band (aCons (eVar 5) (aCons (eVar 8) (aCons (eVar 4) (aCons (eVar 14) aNil))))) aNil)) (aCons (eCall lenG (aCons (eFn S__law_band (aCons (eVar 11) (aCons (eVar 9) (aCons (eVar 4) (aCons (eVar 14) aNil))))) aNil)) aNil))))
 (sPar [12, 13] (pVal (eCall maxG (aCons (eVar 12) (aCons (eCall sumG (aCons (eVar 15) aNil)) aNil))) (pVal (eOr (eVar 13) (eBin eqD (eVar 15) (eTup (aCons (eVar 6) (aCons (eVar 7) aNil))))) pNil)))))
 (sSeq (sIf (tOr2 (tst (eBin neD (eVar 13) (eBin isND (eVar 10) (eC .non)))) (tst (eBin neD (eCall reprG (aCons (eFn S_full_paper (aCons (eVar 5) (aCons (eVar 8) (aCons (eVar 9) (aCons (eVar 4) aNil))))) aNil)) (eCall reprG (aCons (eVar 10) aNil)))))
 (sRet (eC (.bl false)))
 sNx)
 (sSeq (sIf (tOr2 (tst (eBin neD (eCall reprG (aCons (eFn S_full_both (aCons (eVar 5) (aCons (eVar 8) (aCons (eVar 9) (aCons (eVar 4) aNil))))) aNil)) (eCall reprG (aCons (eVar 13) aNil)))) (tst (eBin neD (eFn S_back_line (aCons (eVar 5) aNil)) (eVar 11))))
 (sRet (eC (.bl false)))
 sNx)
 (sSeq (sAsg (eFn S_best_both (aCons (eVar 3) (aCons (eVar 5) (aCons (eVar 8) (aCons (eVar 9) (aCons (eVar 4) aNil)))))) (gT (gCons (gN 16) (gCons (gN 17) gNil))))
 (sSeq (sSet 18 (eBin addD (eCall lenG (aCons (eFn S__law_band (aCons (eVar 5) (aCons (eVar 8) (aCons (eVar 4) (aCons (eVar 17) aNil))))) aNil)) (eCall lenG (aCons (eFn S__law_band (aCons (eVar 11) (aCons (eVar 9) (aCons (eVar 4) (aCons (eVar 17) aNil))))) aNil))))
 (sSeq (sIf (tOr2 (tst (eBin neD (eVar 16) (eVar 12))) (tOr2 (tst (eBin neD (eVar 18) (eVar 12))) (tst (eBin neD (eCall sumG (aCons (eFn S_both_bands (aCons (eVar 5) (aCons (eVar 8) (aCons (eVar 9) (aCons (eVar 4) (aCons (eVar 17) aNil)))))) aNil)) (eVar 12)))))
 (sRet (eC (.bl false)))
 sNx)
 (sSeq (sIf (tAnd2 (tru (eVar 13)) (tst (eBin neD (eVar 12) (eBin addD (eVar 6) (eVar 7)))))
 (sRet (eC (.bl false)))
 sNx)
 (sSeq (sSet 19 (eFn S_offsets_of_line (aCons (eVar 3) (aCons (eVar 5) (aCons (eVar 8) (aCons (eVar 4) aNil))))))
 (sIf (tOr2 (tst (eBin neD (eCall lenG (aCons (eFn S_band (aCons (eVar 5) (aCons (eVar 8) (aCons (eVar 4) (aCons (eVar 19) aNil))))) aNil)) (eVar 6))) (tst (eBin neD (eBin ixD (eFn S_both_bands (aCons (eVar 5) (aCons (eVar 8) (aCons (eVar 9) (aCons (eVar 4) (aCons (eVar 19) aNil)))))) (eC (.int 0))) (eVar 6))))
 (sRet (eC (.bl false)))
 sNx)))))))))))))))))
theorem m_law_is : m_law = sSeq (sFor (iRg1 (eC (.int 3))) (gN 2) lapB) (sRet (eC (.bl true))) := rfl
def LawI (s : S) : Prop := ∃ x2 x3 x4 x5 x6 x7 x8 x9 x10 x11 x12 x13 x14 x15 x16 x17 x18 x19 : Option Sl, s.env = [none, some (.val .src), x2, x3, x4, x5, x6, x7, x8, x9, x10, x11, x12, x13, x14, x15, x16, x17, x18, x19, none]
theorem ne_bl (b : Bool) : neD (.bl b) (.bl b) = some (.bl false) := by cases b <;> rfl
theorem is_paper (p : Option (Nat × Int)) : isND (ePaper p) .non = some (.bl p.isNone) := by
  cases p with
  | none => rfl
  | some q => obtain ⟨k, r⟩ := q; rfl
theorem lap_ok (x2 x3 x4 x5 x6 x7 x8 x9 x10 x11 x12 x13 x14 x15 x16 x17 x18 x19 : Option Sl) (c : Src) : ∃ s', lapB ⟨[none, some (.val .src), x2, x3, x4, x5, x6, x7, x8, x9, x10, x11, x12, x13, x14, x15, x16, x17, x18, x19, none], c⟩ = some (.nx, s') ∧ LawI s' := by
  let E0 : List (Option Sl) := [none, some (.val .src), x2, x3, x4, x5, x6, x7, x8, x9, x10, x11, x12, x13, x14, x15, x16, x17, x18, x19, none]
  obtain ⟨m, c1, hm, hm', e1⟩ := plus_pick (env := E0) (c := c) (k := 3) (by decide) (by decide) (aCons (eVar 1) (aCons (eC (.int 3)) aNil)) fun s => by rfl
  obtain ⟨rL, c2, pL, hL0, hL1⟩ := pick_any 6 c1 (by decide) (by decide)
  have pL : S__law_pick [.src, .int 6] c1 = some (.int rL, c2) := pL
  obtain ⟨L, hLe⟩ : ∃ L : Nat, ((L : Nat) : Int) = 2 + rL := ⟨(2 + rL).toNat, by omega⟩
  have e2 : eBin addD (eC (.int 2)) (eFn S__law_pick (aCons (eVar 1) (aCons (eC (.int 6)) aNil))) ⟨E0, c1⟩ = some (.int (L : Int), ⟨E0, c2⟩) := by
    rw [hLe]
    exact bin_eq (f := addD) (s1 := ⟨E0, c1⟩) (x := .int 2) (by rfl) (fn_eq (env := E0) (c0 := c1) (ds := [.src, .int 6]) (by rfl) pL) rfl
  obtain ⟨l, c3, hl, e3⟩ := draw_line_eq m c2 hm (by omega)
  have hll := hl.len
  have hpos : 0 < l.length := List.length_pos_iff.mpr hl.ne
  let s1 := some (Sl.val D.src); let s3 := some (Sl.val (.int (m : Int))); let s4 := some (Sl.val (.int (L : Int))); let s5 := some (Sl.val (ePs l))
  let E5 : List (Option Sl) := [none, s1, x2, s3, s4, s5, x6, x7, x8, x9, x10, x11, x12, x13, x14, x15, x16, x17, x18, x19, none]
  have hless : ∀ s : Src, aCons (eVar 1) (aCons (eBin subD (eVar 4) (eC (.int 1))) aNil) ⟨E5, s⟩ = some ([.src, .int ((L : Int) - 1)], ⟨E5, s⟩) := fun s => by rfl
  obtain ⟨g, c4, hg0, hg1, e6⟩ := plus_pick (env := E5) (c := c3) (k := (L : Int) - 1) (by omega) (by omega) (aCons (eVar 1) (aCons (eBin subD (eVar 4) (eC (.int 1))) aNil)) hless
  obtain ⟨h, c5, hh0, hh1, e7⟩ := plus_pick (env := E5) (c := c4) (k := (L : Int) - 1) (by omega) (by omega) (aCons (eVar 1) (aCons (eBin subD (eVar 4) (eC (.int 1))) aNil)) hless
  let s6 := some (Sl.val (.int (g : Int))); let s7 := some (Sl.val (.int (h : Int)))
  let E7 : List (Option Sl) := [none, s1, x2, s3, s4, s5, s6, s7, x8, x9, x10, x11, x12, x13, x14, x15, x16, x17, x18, x19, none]
  obtain ⟨gs, c6, hgl, hga, e8⟩ := greens_comp (env := E7) (j := 6) (g : Int) (L : Int) l c5 (by omega) (by omega) (by omega) (by rfl) (clean_nones fun v hv => by simp at hv; subst hv; exact .inl rfl) fun p s => ⟨E7.set 20 (some (.val (eP p))), by rfl, by rfl, fun s => by rfl, fun s => by rfl, fun s => by rfl⟩
  let s8 := some (Sl.val (ePs gs))
  let E8 : List (Option Sl) := [none, s1, x2, s3, s4, s5, s6, s7, s8, x9, x10, x11, x12, x13, x14, x15, x16, x17, x18, x19, none]
  obtain ⟨bs0, c7, hbl0, hba0, e9⟩ := fitting_eq l gs (h : Int) L c6 (by omega) (by omega) hgl.symm (by omega)
  let E9 : List (Int × Int) → List (Option Sl) := fun bs => [none, s1, x2, s3, s4, s5, s6, s7, s8, some (.val (ePs bs)), x10, x11, x12, x13, x14, x15, x16, x17, x18, x19, none]
  obtain ⟨r4, c8, p4, _, _⟩ := pick_any 4 c7 (by decide) (by decide)
  have p4 : S__law_pick [.src, .int 4] c7 = some (.int r4, c8) := p4
  obtain ⟨bs1, c9, hbl1, hba1, e10⟩ := greens_comp (env := E9 bs0) (j := 7) (h : Int) (L : Int) l c8 (by omega) (by omega) (by omega) (by rfl) (clean_nones fun v hv => by simp at hv; subst hv; exact .inl rfl) fun p s => ⟨(E9 bs0).set 20 (some (.val (eP p))), by rfl, by rfl, fun s => by rfl, fun s => by rfl, fun s => by rfl⟩
  have hif : ∃ (bs : List (Int × Int)) (cc : Src), bs.length = l.length ∧ (∀ q ∈ bs, q.2 = (h : Int)) ∧ sIf (tst (eBin eqD (eFn S__law_pick (aCons (eVar 1) (aCons (eC (.int 4)) aNil))) (eC (.int 0))))
      (sSet 9 (eCall tupG (aCons (eLst (eComp [20] (gN 20) (ret true) (eTup (aCons (eBin subD (eFn S__law_pick (aCons (eVar 1) (aCons (eBin mulD (eC (.int 3)) (eVar 4)) aNil))) (eVar 4)) (aCons (eVar 7) aNil))) (iSeq (eVar 5)))) aNil))) sNx ⟨E9 bs0, c7⟩ = some (.nx, ⟨E9 bs, cc⟩) := by
    have ht : tst (eBin eqD (eFn S__law_pick (aCons (eVar 1) (aCons (eC (.int 4)) aNil))) (eC (.int 0))) ⟨E9 bs0, c7⟩ = some (decide (r4 = 0), ⟨E9 bs0, c8⟩) :=
      tst_eq (bin_eq (f := eqD) (s1 := ⟨E9 bs0, c8⟩) (x := .int r4) (y := .int 0) (fn_eq (env := E9 bs0) (c0 := c7) (ds := [.src, .int 4]) (by rfl) p4) (by rfl) (eqD_int r4 0))
    by_cases hr : r4 = 0
    · refine ⟨bs1, c9, hbl1, hba1, ?_⟩
      rw [if_tt (s1 := ⟨E9 bs0, c8⟩) (by rw [ht, decide_eq_true hr])]
      exact (set_eq e10 (by show 9 < 21; decide)).trans (by rfl)
    · refine ⟨bs0, c8, hbl0, hba0, ?_⟩
      rw [if_ff (s1 := ⟨E9 bs0, c8⟩) (by rw [ht, decide_eq_false hr])]
      rfl
  obtain ⟨bs, cc, hbl, hba, eif⟩ := hif
  have hgne : gs ≠ [] := fun z => by rw [z] at hgl; simp at hgl; omega
  have hbne : bs ≠ [] := fun z => by rw [z] at hbl; simp at hbl; omega
  have hN : L ^ (l.length - 1) ≤ 50000 := by
    have h1 : L ^ (l.length - 1) ≤ 7 ^ (l.length - 1) := Nat.pow_le_pow_left (by omega) _
    have h2 : 7 ^ (l.length - 1) ≤ 7 ^ 2 := Nat.pow_le_pow_right (by decide) (by omega)
    exact Nat.le_trans h1 (Nat.le_trans h2 (by decide))
  have hfree : ∀ (M : Nat), (∀ p ∈ l, 0 ≤ p.1 ∧ p.1 < M) → ∀ k ∈ freeOf l, 0 ≤ k ∧ k < M := fun M hM k hk => by
    unfold freeOf at hk
    obtain ⟨p, hp, rfl⟩ := List.mem_map.mp hk
    exact hM p (List.mem_of_mem_drop hp)
  have hleast : ∀ (xs : List (Int × Int)) (v : Int), xs ≠ [] → (∀ q ∈ xs, q.2 = v) → least xs = v := fun xs v hx hv => by
    obtain ⟨⟨i, hi, e⟩, _⟩ := least_spec hx
    rw [e]
    exact hv _ (at0_mem hi)
  have hlg := hleast gs g hgne hga
  have hlb := hleast bs h hbne hba
  obtain ⟨us, hus, hsr⟩ := srt_ints (vecs m l L) (vec_ne m l L hm) (by rw [vecs_len]; omega)
  have hin : ∀ u ∈ us, inOff u l := vec_in hus hl.inn
  have hune : us ≠ [] := fun z => by
    have := hus.length_eq
    rw [z, vecs_len] at this
    have := Nat.pow_pos (n := l.length - 1) (show 0 < L by omega)
    simp at *
    omega
  obtain ⟨q1, q2, q3⟩ := max_in hl
  let M : Nat := (maxL (l.map (·.1)) + 1).toNat
  have hM : ((M : Nat) : Int) = maxL (l.map (·.1)) + 1 := by omega
  have hinM : ∀ p ∈ l, 0 ≤ p.1 ∧ p.1 < M := fun p hp => ⟨(hl.inn p hp).1, by rw [hM]; have := q3 p hp; omega⟩
  obtain ⟨vs, hvs, hvr⟩ := srt_ints (vecs M l L) (vec_ne M l L (by omega)) (by rw [vecs_len]; omega)
  have hvin : ∀ u ∈ vs, inOff u l := vec_in hvs hinM
  have hany : (us.any fun u => decide (pairV L u l gs bs = ((g : Int), (h : Int)))) = (vs.any fun u => decide (pairV L u l gs bs = ((g : Int), (h : Int)))) := by
    rw [any_perm hus, any_perm hvs]
    exact any_size m M l gs bs L _ fun p hp => ⟨(hl.inn p hp).1, (hl.inn p hp).2, (hinM p hp).2⟩
  have hpap := full_papers (g := (g : Int)) (h := (h : Int)) (m := m) (L := L) (by omega) (by omega) (by omega) (by omega) l gs bs hl hgl.symm hbl.symm hga hba hus
  let pp := papers l gs bs (L : Int)
  let best := us.foldl (mxStep L l gs bs) 0
  let full := (false || us.any fun u => decide (pairV L u l gs bs = ((g : Int), (h : Int))))
  have hfull : full = pp.isNone := by
    show (false || _) = _
    rw [Bool.false_or, hpap]
  let s9 := some (Sl.val (ePs bs)); let s10 := some (Sl.val (ePaper pp)); let s11 := some (Sl.val (ePs (backL l)))
  let E13 : List (Option Sl) := [none, s1, x2, s3, s4, s5, s6, s7, s8, s9, s10, s11, some (.val (.int 0)), some (.val (.bl false)), x14, x15, x16, x17, x18, x19, none]
  obtain ⟨y14, y15, eW⟩ := wave_loop none s1 x2 s3 s10 x16 x17 x18 x19 (g : Int) (h : Int) l gs bs L cc (by omega) (by omega) (by omega) us 0 false x14 x15 hin
  let s12 := some (Sl.val (.int best)); let s13 := some (Sl.val (.bl full))
  let E15 : List (Option Sl) := [none, s1, x2, s3, s4, s5, s6, s7, s8, s9, s10, s11, s12, s13, y14, y15, x16, x17, x18, x19, none]
  obtain ⟨o, ho, hbest, hto⟩ := best_all L l gs bs us hune
  have hoi := hin o ho
  let s16 := some (Sl.val (.int best)); let s17 := some (Sl.val (eIs o)); let s18 := some (Sl.val (.int best))
  let E17 : List (Option Sl) := [none, s1, x2, s3, s4, s5, s6, s7, s8, s9, s10, s11, s12, s13, y14, y15, s16, s17, x18, x19, none]
  let E18 : List (Option Sl) := [none, s1, x2, s3, s4, s5, s6, s7, s8, s9, s10, s11, s12, s13, y14, y15, s16, s17, s18, x19, none]
  let tv := told m l gs (L : Int)
  let s19 := some (Sl.val (eIs tv))
  let E19 : List (Option Sl) := [none, s1, x2, s3, s4, s5, s6, s7, s8, s9, s10, s11, s12, s13, y14, y15, s16, s17, s18, s19, none]
  have htl : ((bandL L tv l gs).length : Int) = g := by rw [told_band m l gs L hl (by omega) ⟨hgl, fun q hq => by rw [hga q hq]; omega⟩, hlg]
  have hti : inOff tv l := told_in hl
  refine ⟨⟨E19, cc⟩, ?_, ⟨x2, s3, s4, s5, s6, s7, s8, s9, s10, s11, s12, s13, y14, y15, s16, s17, s18, s19, rfl⟩⟩
  unfold lapB
  have p34 := par2 (i := 3) (j := 4) (env := E0) e1 e2 (by show 3 < 21; decide) (by show 4 < 21; decide)
  refine (seq_nx (s1 := ⟨[none, s1, x2, s3, s4, x5, x6, x7, x8, x9, x10, x11, x12, x13, x14, x15, x16, x17, x18, x19, none], c2⟩) p34).trans ?_
  rw [seq_nx (s1 := ⟨E5, c3⟩) (set_eq (env := [none, s1, x2, s3, s4, x5, x6, x7, x8, x9, x10, x11, x12, x13, x14, x15, x16, x17, x18, x19, none]) (fn_eq (env := [none, s1, x2, s3, s4, x5, x6, x7, x8, x9, x10, x11, x12, x13, x14, x15, x16, x17, x18, x19, none]) (c0 := c2) (ds := [.src, .int (m : Int)]) (by rfl) e3) (by show 5 < 21; decide))]
  have p67 := par2 (i := 6) (j := 7) (env := E5) e6 e7 (by show 6 < 21; decide) (by show 7 < 21; decide)
  rw [seq_nx (s1 := ⟨E7, c5⟩) p67]
  rw [seq_nx (s1 := ⟨E8, c6⟩) (set_eq (env := E7) e8 (by show 8 < 21; decide))]
  rw [seq_nx (s1 := ⟨E9 bs0, c7⟩) (set_eq (env := E8) (fn_eq (env := E8) (c0 := c6) (ds := [.src, ePs l, ePs gs, .int (h : Int), .int (L : Int)]) (by rfl) e9) (by show 9 < 21; decide))]
  rw [seq_nx (s1 := ⟨E9 bs, cc⟩) eif]
  have p1011 := par2 (i := 10) (j := 11) (env := E9 bs) (c := cc) (ma := eFn S__law_paper (aCons (eVar 5) (aCons (eVar 8) (aCons (eVar 9) (aCons (eVar 4) aNil))))) (mb := eFn S__law_back_line (aCons (eVar 5) aNil)) (fn_eq (env := E9 bs) (c0 := cc) (ds := [ePs l, ePs gs, ePs bs, .int (L : Int)]) (by rfl) (law_paper_eq l gs bs L cc (by omega) hgl.symm hbl.symm (by omega)))
    (fn_eq (env := E9 bs) (c0 := cc) (ds := [ePs l]) (by rfl) (law_back_eq l cc hl.ne (by omega))) (by show 10 < 21; decide) (by show 11 < 21; decide)
  rw [seq_nx (s1 := ⟨[none, s1, x2, s3, s4, s5, s6, s7, s8, s9, s10, s11, x12, x13, x14, x15, x16, x17, x18, x19, none], cc⟩) p1011]
  rw [seq_nx (s1 := ⟨E13, cc⟩) (by rfl)]
  rw [seq_nx (m := sFor _ _ _) (s1 := ⟨E15, cc⟩) (by
    rw [for_eq (ds := us.map eIs) (s1 := ⟨E13, cc⟩)]
    · exact eW
    · unfold iSeq
      rw [bnd_eq (fn_eq (env := E13) (c0 := cc) (ds := [.int (m : Int), ePs l, .int (L : Int)]) (by rfl) (law_off_eq m l L cc (by omega) (fun p hp => hl.inn p (List.mem_of_mem_drop hp)) (by omega) (by omega) hN (by omega) hl.ne hsr))]
      rfl)]
  obtain ⟨hr1, hr2⟩ := repr_paper l gs bs (L := (L : Int)) (by omega) (by omega) (by omega)
  rw [skip_if (s1 := ⟨E15, cc⟩)]
  rotate_left
  · refine or2_ff (s1 := ⟨E15, cc⟩) (tst_eq (bin_eq (f := neD) (s1 := ⟨E15, cc⟩) (x := .bl full) (y := .bl full) (by rfl) ?_ (ne_bl full))) ?_
    · refine bin_eq (f := isND) (s1 := ⟨E15, cc⟩) (x := ePaper pp) (y := .non) (by rfl) (by rfl) ?_
      rw [hfull]
      exact is_paper pp
    · exact ne_same (s1 := ⟨E15, cc⟩) (d := sPaper pp) (call_eq (one_eq (fn_eq (env := E15) (c0 := cc) (ds := [ePs l, ePs gs, ePs bs, .int (L : Int)]) (by rfl) (full_paper_eq l gs bs L cc (by omega) hgl.symm hbl.symm (by omega)))) hr1) (call_eq (ds := [ePaper pp]) (by rfl) hr1) hr2
  rw [skip_if (s1 := ⟨E15, cc⟩)]
  rotate_left
  · refine or2_ff (s1 := ⟨E15, cc⟩) (ne_same (s1 := ⟨E15, cc⟩) (d := .str (if full = true then "True" else "False")) (repr_call ?_) (repr_call (by rfl)) (str_ok _)) ?_
    · have hf : full = (vs.any fun u => decide (pairV L u l gs bs = (least gs, least bs))) := by
        rw [hlg, hlb]
        show (false || us.any fun u => decide (pairV L u l gs bs = ((g : Int), (h : Int)))) = _
        rw [Bool.false_or, hany]
      rw [hf]
      exact fn_eq (env := E15) (c0 := cc) (ds := [ePs l, ePs gs, ePs bs, .int (L : Int)]) (by rfl) (full_both_eq l gs bs L cc (by omega) q1 hl.ne hgne hbne (by omega) (by omega) (fun k hk => by have := hfree M hinM k hk; omega) (by omega) (by omega) hN (by omega) hvr hvin (by rw [hvs.length_eq, vecs_len]; exact hN))
    · exact ne_same (s1 := ⟨E15, cc⟩) (d := ePs (backL l)) (fn_eq (env := E15) (c0 := cc) (ds := [ePs l]) (by rfl) (S_back_eq l cc (by omega))) (by rfl) (ok_Ps _).ok
  have hbb : eFn S_best_both (aCons (eVar 3) (aCons (eVar 5) (aCons (eVar 8) (aCons (eVar 9) (aCons (eVar 4) aNil))))) ⟨E15, cc⟩ = some (.tup [.int best, eIs o], ⟨E15, cc⟩) := by
    have := best_both_eq m l gs bs L cc (by omega) (hfree m hl.inn) (by omega) (by omega) hN (by omega) hsr hin
    rw [hbest] at this
    exact fn_eq (env := E15) (c0 := cc) (ds := [.int (m : Int), ePs l, ePs gs, ePs bs, .int (L : Int)]) (by rfl) this
  rw [seq_nx (s1 := ⟨E17, cc⟩) (by unfold sAsg; rw [bnd_eq hbb]; rfl)]
  have hown : eBin addD (eCall lenG (aCons (eFn S__law_band (aCons (eVar 5) (aCons (eVar 8) (aCons (eVar 4) (aCons (eVar 17) aNil))))) aNil)) (eCall lenG (aCons (eFn S__law_band (aCons (eVar 11) (aCons (eVar 9) (aCons (eVar 4) (aCons (eVar 17) aNil))))) aNil)) ⟨E17, cc⟩ = some (.int best, ⟨E17, cc⟩) := by
    refine bin_eq (f := addD) (s1 := ⟨E17, cc⟩) (len_Is (fn_eq (env := E17) (c0 := cc) (ds := [ePs l, ePs gs, .int (L : Int), eIs o]) (by rfl) (law_band_eq l gs L o cc (by omega) (by omega) hoi (by omega))))
      (len_Is (fn_eq (env := E17) (c0 := cc) (ds := [ePs (backL l), ePs bs, .int (L : Int), eIs o]) (by rfl) (law_band_eq (backL l) bs L o cc (by omega) (by omega) (back_in hoi) (by rw [back_len]; omega)))) ?_
    show some (D.int (totV (L : Int) l gs bs o)) = _
    rw [hto]
  rw [seq_nx (s1 := ⟨E18, cc⟩) (set_eq (env := E17) hown (by show 18 < 21; decide))]
  rw [skip_if (s1 := ⟨E18, cc⟩)]
  rotate_left
  · refine or2_ff (s1 := ⟨E18, cc⟩) (ne_same (s1 := ⟨E18, cc⟩) (d := .int best) (by rfl) (by rfl) (D.ok_int _)) (or2_ff (s1 := ⟨E18, cc⟩) (ne_same (s1 := ⟨E18, cc⟩) (d := .int best) (by rfl) (by rfl) (D.ok_int _)) (ne_same (s1 := ⟨E18, cc⟩) (d := .int best) ?_ (by rfl) (D.ok_int _)))
    refine call_eq (ds := [eP (pairV L o l gs bs)]) (one_eq (fn_eq (env := E18) (c0 := cc) (ds := [ePs l, ePs gs, ePs bs, .int (L : Int), eIs o]) (by rfl) (both_eq l gs bs L o cc (by omega) (by omega) hoi (by omega)))) ?_
    show some (D.int ((pairV L o l gs bs).1 + ((pairV L o l gs bs).2 + 0))) = _
    rw [Int.add_zero]
    show some (D.int (totV (L : Int) l gs bs o)) = _
    rw [hto]
  have hbtop : full = true → best = (g : Int) + h := fun hf => by
    have hf : (false || us.any fun u => decide (pairV L u l gs bs = ((g : Int), (h : Int)))) = true := hf
    rw [Bool.false_or, List.any_eq_true] at hf
    obtain ⟨u, hu, hd⟩ := hf
    have hd := of_decide_eq_true hd
    have h1 := (mx_ge L l gs bs us 0).2 u hu
    have h2 : best ≤ (g : Int) + h := mx_le L l gs bs _ us 0 (by omega) fun q _ => by
      have t1 := band_top (L := (L : Int)) (g := (g : Int)) (by omega) (by omega) l gs q hgl.symm hpos hga
      have t2 := band_top (L := (L : Int)) (g := (h : Int)) (by omega) (by omega) (backL l) bs q (by rw [back_len]; exact hbl.symm) (by rw [back_len]; exact hpos) hba
      unfold totV pairV
      simp only
      omega
    have h3 : totV (L : Int) l gs bs u = (g : Int) + h := by unfold totV; rw [hd]
    rw [h3] at h1
    exact Int.le_antisymm h2 h1
  rw [skip_if (s1 := ⟨E18, cc⟩)]
  rotate_left
  · unfold tAnd2
    rw [bnd_eq (a := full) (s1 := ⟨E18, cc⟩) (by rfl)]
    cases hf : full with
    | false => rfl
    | true =>
      rw [if_pos rfl]
      refine ne_same (s1 := ⟨E18, cc⟩) (d := .int best) (by rfl) ?_ (D.ok_int _)
      rw [hbtop hf]
      exact bin_eq (f := addD) (s1 := ⟨E18, cc⟩) (x := .int (g : Int)) (y := .int (h : Int)) (by rfl) (by rfl) rfl
  rw [seq_nx (s1 := ⟨E19, cc⟩) (set_eq (env := E18) (fn_eq (env := E18) (c0 := cc) (ds := [.int (m : Int), ePs l, ePs gs, .int (L : Int)]) (by rfl) (told_eq m l gs L cc (by omega) (by omega) hgne hl.inn (by omega))) (by show 19 < 21; decide))]
  rw [if_ff (s1 := ⟨E19, cc⟩)]
  · rfl
  refine or2_ff (s1 := ⟨E19, cc⟩) (ne_same (s1 := ⟨E19, cc⟩) (d := .int (g : Int)) ?_ (by rfl) (D.ok_int _)) (ne_same (s1 := ⟨E19, cc⟩) (d := .int (g : Int)) ?_ (by rfl) (D.ok_int _))
  · rw [← htl]
    exact len_Is (fn_eq (env := E19) (c0 := cc) (ds := [ePs l, ePs gs, .int (L : Int), eIs tv]) (by rfl) (S_band_eq l gs L tv cc (by omega) (by omega) hti (by omega)))
  · rw [← htl]
    exact bin_eq (f := ixD) (s1 := ⟨E19, cc⟩) (x := eP (pairV L tv l gs bs)) (y := .int 0) (fn_eq (env := E19) (c0 := cc) (ds := [ePs l, ePs gs, ePs bs, .int (L : Int), eIs tv]) (by rfl) (both_eq l gs bs L tv cc (by omega) (by omega) hti (by omega))) (by rfl) (by rfl)
theorem plain_law : ∀ src, ∃ s', m_law ⟨lawEnv 21 1, src⟩ = some (.ret (.bl true), s') := fun src => by
  rw [m_law_is]
  have hI : LawI ⟨lawEnv 21 1, src⟩ := ⟨none, none, none, none, none, none, none, none, none, none, none, none, none, none, none, none, none, none, rfl⟩
  obtain ⟨s', e, _⟩ := for_keep (g := gN 2) (b := lapB) (I := LawI) (ds := rngL 0 3) hI (fun d _ s ⟨x2, x3, x4, x5, x6, x7, x8, x9, x10, x11, x12, x13, x14, x15, x16, x17, x18, x19, hs⟩ => by
    obtain ⟨env, c⟩ := s
    have hs : env = _ := hs
    subst hs
    obtain ⟨s2, e2, h2⟩ := lap_ok (some (.val d)) x3 x4 x5 x6 x7 x8 x9 x10 x11 x12 x13 x14 x15 x16 x17 x18 x19 c
    exact ⟨_, s2, by rfl, e2, h2⟩)
  refine ⟨s', ?_⟩
  rw [seq_nx (m := sFor _ _ _) (by rw [for_eq (ds := rngL 0 3) (s1 := ⟨lawEnv 21 1, src⟩) (rg1_of (by rfl) (by decide) (by decide))]; exact e)]
  rfl
end GW
end

noncomputable section
namespace GW
open PySem PySem.Spec PyProof.Rows L2 GH
def d_all_offsets : He.DefD := ⟨("all_offsets", none), "all_offsets", "all_offsets", defArgs st_all_offsets, defBody st_all_offsets, defScope st_all_offsets, [], []⟩
def d_arrivals : He.DefD := ⟨("arrivals", none), "arrivals", "arrivals", defArgs st_arrivals, defBody st_arrivals, defScope st_arrivals, [], []⟩
def d_passes : He.DefD := ⟨("passes", none), "passes", "passes", defArgs st_passes, defBody st_passes, defScope st_passes, [], []⟩
def d_band : He.DefD := ⟨("band", none), "band", "band", defArgs st_band, defBody st_band, defScope st_band, [], []⟩
def d_band_bound : He.DefD := ⟨("band_bound", none), "band_bound", "band_bound", defArgs st_band_bound, defBody st_band_bound, defScope st_band_bound, [], []⟩
def d_offsets_of_line : He.DefD := ⟨("offsets_of_line", none), "offsets_of_line", "offsets_of_line", defArgs st_offsets_of_line, defBody st_offsets_of_line, defScope st_offsets_of_line, [], []⟩
def d_back_line : He.DefD := ⟨("back_line", none), "back_line", "back_line", defArgs st_back_line, defBody st_back_line, defScope st_back_line, [], []⟩
def d_both_bands : He.DefD := ⟨("both_bands", none), "both_bands", "both_bands", defArgs st_both_bands, defBody st_both_bands, defScope st_both_bands, [], []⟩
def d_line_offsets : He.DefD := ⟨("line_offsets", none), "line_offsets", "line_offsets", defArgs st_line_offsets, defBody st_line_offsets, defScope st_line_offsets, [], []⟩
def d_best_both : He.DefD := ⟨("best_both", none), "best_both", "best_both", defArgs st_best_both, defBody st_best_both, defScope st_best_both, [], []⟩
def d_full_both : He.DefD := ⟨("full_both", none), "full_both", "full_both", defArgs st_full_both, defBody st_full_both, defScope st_full_both, [], []⟩
def d_full_paper : He.DefD := ⟨("full_paper", none), "full_paper", "full_paper", defArgs st_full_paper, defBody st_full_paper, defScope st_full_paper, [], []⟩
def d__law_open_cells : He.DefD := ⟨("_law_open_cells", none), "_law_open_cells", "_law_open_cells", defArgs st__law_open_cells, defBody st__law_open_cells, defScope st__law_open_cells, [], []⟩
def d__law_pick : He.DefD := ⟨("_law_pick", none), "_law_pick", "_law_pick", defArgs st__law_pick, defBody st__law_pick, defScope st__law_pick, [], []⟩
def d__law_any_order : He.DefD := ⟨("_law_any_order", none), "_law_any_order", "_law_any_order", defArgs st__law_any_order, defBody st__law_any_order, defScope st__law_any_order, [], []⟩
def d__law_rest : He.DefD := ⟨("_law_rest", none), "_law_rest", "_law_rest", defArgs st__law_rest, defBody st__law_rest, defScope st__law_rest, [], []⟩
def d__law_rows_below : He.DefD := ⟨("_law_rows_below", none), "_law_rows_below", "_law_rows_below", defArgs st__law_rows_below, defBody st__law_rows_below, defScope st__law_rows_below, [], []⟩
def d__law_line_ticks : He.DefD := ⟨("_law_line_ticks", none), "_law_line_ticks", "_law_line_ticks", defArgs st__law_line_ticks, defBody st__law_line_ticks, defScope st__law_line_ticks, [], []⟩
def d__law_band : He.DefD := ⟨("_law_band", none), "_law_band", "_law_band", defArgs st__law_band, defBody st__law_band, defScope st__law_band, [], []⟩
def d__law_back_line : He.DefD := ⟨("_law_back_line", none), "_law_back_line", "_law_back_line", defArgs st__law_back_line, defBody st__law_back_line, defScope st__law_back_line, [], []⟩
def d__law_draw_line : He.DefD := ⟨("_law_draw_line", none), "_law_draw_line", "_law_draw_line", defArgs st__law_draw_line, defBody st__law_draw_line, defScope st__law_draw_line, [], []⟩
def d__law_line_offsets : He.DefD := ⟨("_law_line_offsets", none), "_law_line_offsets", "_law_line_offsets", defArgs st__law_line_offsets, defBody st__law_line_offsets, defScope st__law_line_offsets, [], []⟩
def d__law_paper : He.DefD := ⟨("_law_paper", none), "_law_paper", "_law_paper", defArgs st__law_paper, defBody st__law_paper, defScope st__law_paper, [], []⟩
def d__law_fitting_backs : He.DefD := ⟨("_law_fitting_backs", none), "_law_fitting_backs", "_law_fitting_backs", defArgs st__law_fitting_backs, defBody st__law_fitting_backs, defScope st__law_fitting_backs, [], []⟩
def d_law : He.DefD := ⟨("law", none), "law", "law", defArgs st_law, defBody st_law, defScope st_law, [], []⟩
def dfs : List He.DefD := [d_all_offsets, d_arrivals, d_passes, d_band, d_band_bound, d_offsets_of_line, d_back_line, d_both_bands, d_line_offsets, d_best_both, d_full_both, d_full_paper, d__law_open_cells, d__law_pick, d__law_any_order, d__law_rest, d__law_rows_below, d__law_line_ticks, d__law_band, d__law_back_line, d__law_draw_line, d__law_line_offsets, d__law_paper, d__law_fitting_backs, d_law]
def fcs : List He.Fa := [.glo "all_offsets", .glo "arrivals", .glo "passes", .glo "band", .glo "band_bound", .glo "offsets_of_line", .glo "back_line", .glo "both_bands", .glo "line_offsets", .glo "best_both", .glo "full_both", .glo "full_paper", .glo "_law_open_cells", .glo "_law_pick", .glo "_law_any_order", .glo "_law_rest", .glo "_law_rows_below", .glo "_law_line_ticks", .glo "_law_band", .glo "_law_back_line", .glo "_law_draw_line", .glo "_law_line_offsets", .glo "_law_paper", .glo "_law_fitting_backs", .glo "law", .free "abs", .free "any", .free "enumerate", .free "int", .free "len", .free "list", .free "max", .free "min", .free "range", .free "repr", .free "sorted", .free "sum", .free "tuple", .free "zip"]
abbrev Rr : PySem.W.OpenRow := PySem.W.OpenLaw.row PySem.Challenge.rw_greenheld_k44_whole_waves_both_ways
abbrev hk : PySem.W.Hook := He.hookD 4 fcs dfs
def ob (s : PySem.W.SharedT) : He.AlD := He.obsDG 4 fcs dfs (HandSHeadRun.getT s)
theorem ob_eq (s : PySem.W.SharedT) : ob s = hk.obs s.abs := He.obsDG_eq (HandSHeadRun.getT_eq s)
def loose : List Str := ["all_offsets", "arrivals", "passes", "band", "band_bound", "offsets_of_line", "back_line", "both_bands", "line_offsets", "best_both", "full_both", "full_paper", "_law_open_cells", "_law_pick", "_law_any_order", "_law_rest", "_law_rows_below", "_law_line_ticks", "_law_band", "_law_back_line", "_law_draw_line", "_law_line_offsets", "_law_paper", "_law_fitting_backs"]
theorem run (w : World) : HandSHeadRun.RunEq Rr (PySem.W.view Rr.prog [27]) hk ob 2080 loose w := by
  intro os
  kernel_rfl
theorem facts (ok : ∀ src, ∃ s', m_law ⟨lawEnv 21 1, src⟩ = some (.ret (.bl true), s')) {P : Program} {w : World} {K : PySem.W.Frag} {h : Heap} {mg : Str → Option Value} (X : K.In h) (G : h.Ns mainGlobals mg) (c : He.SaysD fcs dfs K) (base : Heap) : FnW P w K mg base 6 "law" (spLaw K) := by
  obtain ⟨fd_all_offsets, D_all_offsets⟩ := c.def_ 0 (d := d_all_offsets) rfl
  obtain ⟨fd_arrivals, D_arrivals⟩ := c.def_ 1 (d := d_arrivals) rfl
  obtain ⟨fd_passes, D_passes⟩ := c.def_ 2 (d := d_passes) rfl
  obtain ⟨fd_band, D_band⟩ := c.def_ 3 (d := d_band) rfl
  obtain ⟨fd_band_bound, D_band_bound⟩ := c.def_ 4 (d := d_band_bound) rfl
  obtain ⟨fd_offsets_of_line, D_offsets_of_line⟩ := c.def_ 5 (d := d_offsets_of_line) rfl
  obtain ⟨fd_back_line, D_back_line⟩ := c.def_ 6 (d := d_back_line) rfl
  obtain ⟨fd_both_bands, D_both_bands⟩ := c.def_ 7 (d := d_both_bands) rfl
  obtain ⟨fd_line_offsets, D_line_offsets⟩ := c.def_ 8 (d := d_line_offsets) rfl
  obtain ⟨fd_best_both, D_best_both⟩ := c.def_ 9 (d := d_best_both) rfl
  obtain ⟨fd_full_both, D_full_both⟩ := c.def_ 10 (d := d_full_both) rfl
  obtain ⟨fd_full_paper, D_full_paper⟩ := c.def_ 11 (d := d_full_paper) rfl
  obtain ⟨fd__law_open_cells, D__law_open_cells⟩ := c.def_ 12 (d := d__law_open_cells) rfl
  obtain ⟨fd__law_pick, D__law_pick⟩ := c.def_ 13 (d := d__law_pick) rfl
  obtain ⟨fd__law_any_order, D__law_any_order⟩ := c.def_ 14 (d := d__law_any_order) rfl
  obtain ⟨fd__law_rest, D__law_rest⟩ := c.def_ 15 (d := d__law_rest) rfl
  obtain ⟨fd__law_rows_below, D__law_rows_below⟩ := c.def_ 16 (d := d__law_rows_below) rfl
  obtain ⟨fd__law_line_ticks, D__law_line_ticks⟩ := c.def_ 17 (d := d__law_line_ticks) rfl
  obtain ⟨fd__law_band, D__law_band⟩ := c.def_ 18 (d := d__law_band) rfl
  obtain ⟨fd__law_back_line, D__law_back_line⟩ := c.def_ 19 (d := d__law_back_line) rfl
  obtain ⟨fd__law_draw_line, D__law_draw_line⟩ := c.def_ 20 (d := d__law_draw_line) rfl
  obtain ⟨fd__law_line_offsets, D__law_line_offsets⟩ := c.def_ 21 (d := d__law_line_offsets) rfl
  obtain ⟨fd__law_paper, D__law_paper⟩ := c.def_ 22 (d := d__law_paper) rfl
  obtain ⟨fd__law_fitting_backs, D__law_fitting_backs⟩ := c.def_ 23 (d := d__law_fitting_backs) rfl
  obtain ⟨fd_law, D_law⟩ := c.def_ 24 (d := d_law) rfl
  have g_all_offsets := He.glo_ok X G (c.fact 0 (f := .glo "all_offsets") rfl)
  have g_arrivals := He.glo_ok X G (c.fact 1 (f := .glo "arrivals") rfl)
  have g_passes := He.glo_ok X G (c.fact 2 (f := .glo "passes") rfl)
  have g_band := He.glo_ok X G (c.fact 3 (f := .glo "band") rfl)
  have g_band_bound := He.glo_ok X G (c.fact 4 (f := .glo "band_bound") rfl)
  have g_offsets_of_line := He.glo_ok X G (c.fact 5 (f := .glo "offsets_of_line") rfl)
  have g_back_line := He.glo_ok X G (c.fact 6 (f := .glo "back_line") rfl)
  have g_both_bands := He.glo_ok X G (c.fact 7 (f := .glo "both_bands") rfl)
  have g_line_offsets := He.glo_ok X G (c.fact 8 (f := .glo "line_offsets") rfl)
  have g_best_both := He.glo_ok X G (c.fact 9 (f := .glo "best_both") rfl)
  have g_full_both := He.glo_ok X G (c.fact 10 (f := .glo "full_both") rfl)
  have g_full_paper := He.glo_ok X G (c.fact 11 (f := .glo "full_paper") rfl)
  have g__law_open_cells := He.glo_ok X G (c.fact 12 (f := .glo "_law_open_cells") rfl)
  have g__law_pick := He.glo_ok X G (c.fact 13 (f := .glo "_law_pick") rfl)
  have g__law_any_order := He.glo_ok X G (c.fact 14 (f := .glo "_law_any_order") rfl)
  have g__law_rest := He.glo_ok X G (c.fact 15 (f := .glo "_law_rest") rfl)
  have g__law_rows_below := He.glo_ok X G (c.fact 16 (f := .glo "_law_rows_below") rfl)
  have g__law_line_ticks := He.glo_ok X G (c.fact 17 (f := .glo "_law_line_ticks") rfl)
  have g__law_band := He.glo_ok X G (c.fact 18 (f := .glo "_law_band") rfl)
  have g__law_back_line := He.glo_ok X G (c.fact 19 (f := .glo "_law_back_line") rfl)
  have g__law_draw_line := He.glo_ok X G (c.fact 20 (f := .glo "_law_draw_line") rfl)
  have g__law_line_offsets := He.glo_ok X G (c.fact 21 (f := .glo "_law_line_offsets") rfl)
  have g__law_paper := He.glo_ok X G (c.fact 22 (f := .glo "_law_paper") rfl)
  have g__law_fitting_backs := He.glo_ok X G (c.fact 23 (f := .glo "_law_fitting_backs") rfl)
  have g_law := He.glo_ok X G (c.fact 24 (f := .glo "law") rfl)
  have h_abs := He.free_ok X G (c.fact 25 (f := .free "abs") rfl)
  have h_any := He.free_ok X G (c.fact 26 (f := .free "any") rfl)
  have h_enumerate := He.free_ok X G (c.fact 27 (f := .free "enumerate") rfl)
  have h_int := He.free_ok X G (c.fact 28 (f := .free "int") rfl)
  have h_len := He.free_ok X G (c.fact 29 (f := .free "len") rfl)
  have h_list := He.free_ok X G (c.fact 30 (f := .free "list") rfl)
  have h_max := He.free_ok X G (c.fact 31 (f := .free "max") rfl)
  have h_min := He.free_ok X G (c.fact 32 (f := .free "min") rfl)
  have h_range := He.free_ok X G (c.fact 33 (f := .free "range") rfl)
  have h_repr := He.free_ok X G (c.fact 34 (f := .free "repr") rfl)
  have h_sorted := He.free_ok X G (c.fact 35 (f := .free "sorted") rfl)
  have h_sum := He.free_ok X G (c.fact 36 (f := .free "sum") rfl)
  have h_tuple := He.free_ok X G (c.fact 37 (f := .free "tuple") rfl)
  have h_zip := He.free_ok X G (c.fact 38 (f := .free "zip") rfl)
  have F_all_offsets : Fn P w K mg base 1 "all_offsets" 2 S_all_offsets := w_all_offsets D_all_offsets g_all_offsets (h_range := h_range)
  have F_arrivals : Fn P w K mg base 1 "arrivals" 2 S_arrivals := w_arrivals D_arrivals g_arrivals (h_tuple := h_tuple)
  have F_passes : Fn P w K mg base 2 "passes" 5 S_passes := w_passes D_passes g_passes (h_zip := h_zip) (F_arrivals := F_arrivals)
  have F_band : Fn P w K mg base 3 "band" 4 S_band := w_band D_band g_band (h_range := h_range) (h_tuple := h_tuple) (F_passes := F_passes)
  have F_band_bound : Fn P w K mg base 1 "band_bound" 1 S_band_bound := w_band_bound D_band_bound g_band_bound (h_min := h_min)
  have F_offsets_of_line : Fn P w K mg base 2 "offsets_of_line" 4 S_offsets_of_line := w_offsets_of_line D_offsets_of_line g_offsets_of_line (h_range := h_range) (h_tuple := h_tuple) (h_zip := h_zip) (F_arrivals := F_arrivals)
  have F_back_line : Fn P w K mg base 1 "back_line" 1 S_back_line := w_back_line D_back_line g_back_line (h_enumerate := h_enumerate) (h_tuple := h_tuple)
  have F_both_bands : Fn P w K mg base 4 "both_bands" 5 S_both_bands := w_both_bands D_both_bands g_both_bands (h_len := h_len) (F_back_line := F_back_line) (F_band := F_band)
  have F_line_offsets : Fn P w K mg base 2 "line_offsets" 3 S_line_offsets := w_line_offsets D_line_offsets g_line_offsets (h_len := h_len) (h_range := h_range) (h_sorted := h_sorted) (h_tuple := h_tuple) (h_zip := h_zip) (F_all_offsets := F_all_offsets)
  have F_best_both : Fn P w K mg base 5 "best_both" 5 S_best_both := w_best_both D_best_both g_best_both (h_sum := h_sum) (F_both_bands := F_both_bands) (F_line_offsets := F_line_offsets)
  have F_full_both : Fn P w K mg base 5 "full_both" 4 S_full_both := w_full_both D_full_both g_full_both (h_any := h_any) (h_max := h_max) (F_band_bound := F_band_bound) (F_both_bands := F_both_bands) (F_line_offsets := F_line_offsets)
  have F_full_paper : Fn P w K mg base 2 "full_paper" 4 S_full_paper := w_full_paper D_full_paper g_full_paper (h_len := h_len) (h_range := h_range) (F_arrivals := F_arrivals)
  have F_open : FnW P w K mg base 5 "_law_open_cells" (spOpen K) := w__law_open_cells (k := 4) D__law_open_cells g__law_open_cells (h_abs := h_abs) (h_int := h_int)
  have F__law_pick : Fn P w K mg base 1 "_law_pick" 2 S__law_pick := w__law_pick D__law_pick g__law_pick (h_int := h_int) (h_len := h_len)
  have F__law_any_order : Fn P w K mg base 2 "_law_any_order" 2 S__law_any_order := w__law_any_order D__law_any_order g__law_any_order (h_len := h_len) (h_list := h_list) (h_range := h_range) (F__law_pick := F__law_pick)
  have F__law_rest : Fn P w K mg base 1 "_law_rest" 2 S__law_rest := w__law_rest D__law_rest g__law_rest (h_int := h_int)
  have F__law_rows_below : Fn P w K mg base 1 "_law_rows_below" 2 S__law_rows_below := w__law_rows_below D__law_rows_below g__law_rows_below (h_range := h_range)
  have F__law_line_ticks : Fn P w K mg base 1 "_law_line_ticks" 2 S__law_line_ticks := w__law_line_ticks D__law_line_ticks g__law_line_ticks
  have F__law_band : Fn P w K mg base 2 "_law_band" 4 S__law_band := w__law_band D__law_band g__law_band (h_int := h_int) (h_range := h_range) (h_tuple := h_tuple) (h_zip := h_zip) (F__law_line_ticks := F__law_line_ticks) (F__law_rest := F__law_rest)
  have F__law_back_line : Fn P w K mg base 1 "_law_back_line" 1 S__law_back_line := w__law_back_line D__law_back_line g__law_back_line (h_len := h_len) (h_range := h_range) (h_tuple := h_tuple)
  have F__law_draw_line : Fn P w K mg base 3 "_law_draw_line" 2 S__law_draw_line := w__law_draw_line D__law_draw_line g__law_draw_line (h_enumerate := h_enumerate) (h_list := h_list) (h_range := h_range) (h_tuple := h_tuple) (F__law_any_order := F__law_any_order) (F__law_pick := F__law_pick)
  have F__law_line_offsets : Fn P w K mg base 2 "_law_line_offsets" 3 S__law_line_offsets := w__law_line_offsets D__law_line_offsets g__law_line_offsets (h_len := h_len) (h_sorted := h_sorted) (h_tuple := h_tuple) (h_zip := h_zip) (F__law_rows_below := F__law_rows_below)
  have F__law_paper : Fn P w K mg base 2 "_law_paper" 4 S__law_paper := w__law_paper D__law_paper g__law_paper (h_len := h_len) (h_range := h_range) (F__law_line_ticks := F__law_line_ticks) (F__law_rest := F__law_rest)
  have F__law_fitting_backs : Fn P w K mg base 2 "_law_fitting_backs" 5 S__law_fitting_backs := w__law_fitting_backs D__law_fitting_backs g__law_fitting_backs (h_int := h_int) (h_len := h_len) (h_range := h_range) (h_tuple := h_tuple) (F__law_line_ticks := F__law_line_ticks) (F__law_pick := F__law_pick) (F__law_rest := F__law_rest)
  exact w_law D_law g_law (h_len := h_len) (h_max := h_max) (h_range := h_range) (h_repr := h_repr) (h_sum := h_sum) (h_tuple := h_tuple) (F__law_back_line := F__law_back_line) (F__law_band := F__law_band) (F__law_draw_line := F__law_draw_line) (F__law_fitting_backs := F__law_fitting_backs) (F__law_line_offsets := F__law_line_offsets) (F__law_paper := F__law_paper) (F__law_pick := F__law_pick) (F_back_line := F_back_line) (F_band := F_band) (F_best_both := F_best_both) (F_both_bands := F_both_bands) (F_full_both := F_full_both) (F_full_paper := F_full_paper) (F_offsets_of_line := F_offsets_of_line) (F_open := F_open) ok
end GW
open PySem PySem.W PySem.Calls PyProof.Rows
theorem PySem.Challenge.cw_greenheld_k44_whole_waves_both_ways_holds : PySem.Challenge.rw_greenheld_k44_whole_waves_both_ways.Holds := by
  w_on; o_law
  refine HandSHeadRun.head_any (r := OpenLaw.row PySem.Challenge.rw_greenheld_k44_whole_waves_both_ways) (q := view (OpenLaw.row PySem.Challenge.rw_greenheld_k44_whole_waves_both_ways).prog [27]) (H := GW.hk) (ob := GW.ob) (M := 2080) (loose := GW.loose) (d := HandSHeadRun.topDef (OpenLaw.row PySem.Challenge.rw_greenheld_k44_whole_waves_both_ways).prog 27) (kwd := []) GW.ob_eq
    (by kernel_rfl) (fun s => by kernel_rfl) GW.run (by kernel_rfl) (by kernel_rfl) (by kernel_rfl) (by rfl) (by first | assumption | decide +kernel) (by decide +kernel) ⟨rfl, rfl, rfl, rfl, rfl, by decide +kernel⟩ ?hw ?hc
  case hw => w_witness2
  case hc =>
    refine GH.walk_law (l := PySem.Challenge.rw_greenheld_k44_whole_waves_both_ways) (k := 6) rfl (by kernel_rfl) ⟨⟨rfl, by decide, by decide⟩, rfl⟩ ?F
    intro w mg h Y G
    obtain ⟨K, KX, c⟩ := Y
    refine ⟨K, KX, fun base _ _ => ?_⟩
    have e : (HandSHeadRun.topDef (OpenLaw.row PySem.Challenge.rw_greenheld_k44_whole_waves_both_ways).prog 27).name = ("law" : PySem.Str) := by kernel_rfl
    rw [e]
    exact GW.facts GW.plain_law KX G c base
end
