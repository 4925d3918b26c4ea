import PyProof.Rows.All
import Wide.All
import OpenK.AllK
import Wide.FinOn
import HandS.ForMost
import HandS.Walk
import HandS.Flow
import HandS.TupAny
import HandS.TupMul
import HandS.Wide
import HandS.Deep
import HandS.Conv
import HandS.Sort
import HandS.Star
import HandS.IsInst
import HandS.Style
import HandS.Defaults
import HandS.HeadEnd
import HandS.HeadHook1
import HandS.HeadHook2
import KE.SortData
import KE.KTupSum
import KE.DatumOrd
import KE.GoesNew
import HandS.SetFor
import HandS.RaiseMore
import PyProof.P3In
import PyProof.ReprRoads
import KE.KRevSl
import KE.KStateDown
import HandS.Head0
import HandS.Head1
import HandS.Head2
import HandS.More
import HandS.DictComp
import PySem.Challenge.RW_greenheld_k05_plans_and_lamps
set_option Elab.async false
set_option linter.all false
set_option maxRecDepth 100000
set_option maxHeartbeats 0
namespace GH
open PySem PySem.Spec PyProof.Rows L2

abbrev Sg := L2.St
/-- a value as a tree; src: the one object that a law's draws change -/
inductive D where
  | non | bl (b : Bool) | int (i : Int) | str (s : Str) | tup (ds : List D) | lst (ds : List D)
  | rng (lo hi : Int) | src | dct (ks : List Key) (ds : List D) | dtt (ks : List (List Key)) (ds : List D)

abbrev AP := Addr → Prop

mutual
/-- the tree d lies at the value v; it leans on no address of W -/
def Rp (p : Addr) (W : AP) (H : Hp) : D → V → Prop
  | .non, v => v = .non
  | .bl b, v => v = .bl b
  | .int i, v => v = .int i
  | .str s, v => v = .str s
  | .tup ds, v => ∃ a vs, v = .ref a ∧ ¬ W a ∧ H a = some (.tup vs) ∧ Rps p W H ds vs
  | .lst ds, v => ∃ a vs, v = .ref a ∧ ¬ W a ∧ H a = some (.lst vs) ∧ Rps p W H ds vs
  | .rng lo hi, v => ∃ a, v = .ref a ∧ ¬ W a ∧ H a = some (.rng lo hi)
  | .src, v => v = .ref p
  | .dct ks ds, v => ∃ a kvs, v = .ref a ∧ ¬ W a ∧ Rd H a (.dK kvs) ∧ kvs.map (·.1) = ks ∧ Rps p W H ds (kvs.map (·.2))
  | .dtt ks ds, v => ∃ a kvs, v = .ref a ∧ ¬ W a ∧ Rd H a (.dT kvs) ∧ kvs.map (·.1) = ks ∧ Rps p W H ds (kvs.map (·.2))
def Rps (p : Addr) (W : AP) (H : Hp) : List D → List V → Prop
  | [], vs => vs = []
  | d :: ds, vs => ∃ v r, vs = v :: r ∧ Rp p W H d v ∧ Rps p W H ds r
end

/-- what a tree may lean on stays -/
def Ev (W : AP) (H : Hp) (W' : AP) (H' : Hp) : Prop := ∀ a o, H a = some o → ¬ W a → H' a = some o ∧ ¬ W' a
theorem Ev.refl {W : AP} {H : Hp} : Ev W H W H := fun _ _ h n => ⟨h, n⟩
theorem Ev.rd {W W' : AP} {H H' : Hp} {a : Addr} {u : HO} (e : Ev W H W' H') (h : Rd H a u) (n : ¬ W a) : Rd H' a u ∧ ¬ W' a := by
  rcases h with h | ⟨o, h⟩
  · exact ⟨.inl (e a _ h n).1, (e a _ h n).2⟩
  · exact ⟨.inr ⟨o, (e a _ h n).1⟩, (e a _ h n).2⟩
theorem Ev.trans {W W1 W2 : AP} {H H1 H2 : Hp} (a : Ev W H W1 H1) (b : Ev W1 H1 W2 H2) : Ev W H W2 H2 := fun c o h n => b c o (a c o h n).1 (a c o h n).2
/-- every address of W is taken -/
def NoTup (o : HO) : Prop := ∀ xs, o ≠ .tup xs
def WT (W : AP) (H : Hp) : Prop := ∀ a, W a → ∃ o, H a = some o ∧ NoTup o
theorem WT.same {W : AP} {H H' : Hp} (w : WT W H) (s : Same H H') : WT W H' := fun a h => let ⟨o, e, n⟩ := w a h; ⟨o, s a o e, n⟩
theorem WT.tup {W : AP} {H : Hp} {a : Addr} {xs : List V} (w : WT W H) (h : H a = some (.tup xs)) : ¬ W a := fun z => by
  obtain ⟨o, e, n⟩ := w a z
  rw [h] at e; cases e; exact n _ rfl
theorem WT.new {W : AP} {H : Hp} {a : Addr} (w : WT W H) (n : H a = none) : ¬ W a := fun h => by
  obtain ⟨o, e, _⟩ := w a h
  rw [n] at e; cases e
theorem Ev.same {W : AP} {H H' : Hp} (s : Same H H') : Ev W H W H' := fun a o h n => ⟨s a o h, n⟩
theorem Ev.less {W W' : AP} {H : Hp} (h : ∀ a, W' a → W a) : Ev W H W' H := fun a o e n => ⟨e, fun z => n (h a z)⟩
theorem same_new {H : Hp} {p : Addr} {o : HO} (h : H p = none) : Same H (upd H p o) := fun b x e => by
  rw [upd_ne (ne_of_none e h)]; exact e

mutual
theorem Rp.ev {p : Addr} {W W' : AP} {H H' : Hp} (e : Ev W H W' H') : ∀ (d : D) (v : V), Rp p W H d v → Rp p W' H' d v
  | .non, _, h => h
  | .bl _, _, h => h
  | .int _, _, h => h
  | .str _, _, h => h
  | .src, _, h => h
  | .tup ds, _, ⟨a, vs, h1, h2, h3, h4⟩ => ⟨a, vs, h1, (e a _ h3 h2).2, (e a _ h3 h2).1, Rps.ev e ds vs h4⟩
  | .lst ds, _, ⟨a, vs, h1, h2, h3, h4⟩ => ⟨a, vs, h1, (e a _ h3 h2).2, (e a _ h3 h2).1, Rps.ev e ds vs h4⟩
  | .rng _ _, _, ⟨a, h1, h2, h3⟩ => ⟨a, h1, (e a _ h3 h2).2, (e a _ h3 h2).1⟩
  | .dct _ ds, _, ⟨a, kvs, h1, h2, h3, h4, h5⟩ => ⟨a, kvs, h1, (e.rd h3 h2).2, (e.rd h3 h2).1, h4, Rps.ev e ds _ h5⟩
  | .dtt _ ds, _, ⟨a, kvs, h1, h2, h3, h4, h5⟩ => ⟨a, kvs, h1, (e.rd h3 h2).2, (e.rd h3 h2).1, h4, Rps.ev e ds _ h5⟩
theorem Rps.ev {p : Addr} {W W' : AP} {H H' : Hp} (e : Ev W H W' H') : ∀ (ds : List D) (vs : List V), Rps p W H ds vs → Rps p W' H' ds vs
  | [], _, h => h
  | d :: ds, _, ⟨v, r, h1, h2, h3⟩ => ⟨v, r, h1, Rp.ev e d v h2, Rps.ev e ds r h3⟩
end

section
variable {p : Addr} {W : AP} {H H' : Hp}
theorem Rps.nil : Rps p W H [] [] := by unfold Rps; rfl
theorem Rps.cons {d : D} {v : V} {ds : List D} {vs : List V} (h : Rp p W H d v) (t : Rps p W H ds vs) : Rps p W H (d :: ds) (v :: vs) := by
  unfold Rps; exact ⟨v, vs, rfl, h, t⟩
theorem Rps.length : ∀ {ds : List D} {vs : List V}, Rps p W H ds vs → ds.length = vs.length
  | [], _, h => by unfold Rps at h; rw [h]; rfl
  | d :: ds, _, h => by
    unfold Rps at h
    obtain ⟨v, r, rfl, _, h3⟩ := h
    simp [Rps.length h3]
theorem Rps.get : ∀ {ds : List D} {vs : List V} {i : Nat} {d : D}, Rps p W H ds vs → ds[i]? = some d → ∃ v, vs[i]? = some v ∧ Rp p W H d v
  | [], _, _, _, _, e => by simp at e
  | d :: ds, _, 0, _, h, e => by
    unfold Rps at h
    obtain ⟨v, r, rfl, h2, h3⟩ := h
    simp at e; subst e
    exact ⟨v, rfl, h2⟩
  | d :: ds, _, i + 1, _, h, e => by
    unfold Rps at h
    obtain ⟨v, r, rfl, h2, h3⟩ := h
    obtain ⟨u, q1, q2⟩ := Rps.get (i := i) h3 (by simpa using e)
    exact ⟨u, by simpa using q1, q2⟩
theorem Rps.getV {ds : List D} {vs : List V} {i : Nat} {v : V} (h : Rps p W H ds vs) (e : vs[i]? = some v) : ∃ d, ds[i]? = some d ∧ Rp p W H d v := by
  have hl := h.length
  obtain ⟨hi, rfl⟩ := List.getElem?_eq_some_iff.mp e
  have hd : i < ds.length := by omega
  obtain ⟨u, q1, q2⟩ := h.get (List.getElem?_eq_getElem hd)
  rw [List.getElem?_eq_getElem hi] at q1
  cases q1
  exact ⟨_, List.getElem?_eq_getElem hd, q2⟩
theorem Rps.append : ∀ {ds es : List D} {vs us : List V}, Rps p W H ds vs → Rps p W H es us → Rps p W H (ds ++ es) (vs ++ us)
  | [], _, _, _, h, t => by unfold Rps at h; rw [h]; exact t
  | d :: ds, _, _, _, h, t => by
    unfold Rps at h
    obtain ⟨v, r, rfl, h2, h3⟩ := h
    exact .cons h2 (Rps.append h3 t)
theorem Rps.of_get : ∀ {ds : List D} {vs : List V}, ds.length = vs.length → (∀ (i : Nat) (d : D) (v : V), ds[i]? = some d → vs[i]? = some v → Rp p W H d v) → Rps p W H ds vs
  | [], [], _, _ => .nil
  | [], _ :: _, h, _ => by simp at h
  | _ :: _, [], h, _ => by simp at h
  | d :: ds, v :: vs, h, f => .cons (f 0 d v rfl rfl) (Rps.of_get (by simpa using h) fun i d v h1 h2 => f (i + 1) d v (by simpa using h1) (by simpa using h2))
theorem Rps.take {ds : List D} {vs : List V} (n : Nat) (h : Rps p W H ds vs) : Rps p W H (ds.take n) (vs.take n) := by
  refine Rps.of_get (by simp [h.length]) fun i d v h1 h2 => ?_
  rw [List.getElem?_take] at h1 h2
  split at h1
  · rename_i hi
    rw [if_pos hi] at h2
    obtain ⟨u, q1, q2⟩ := h.get h1
    rw [h2] at q1; cases q1; exact q2
  · cases h1
theorem Rps.drop {ds : List D} {vs : List V} (n : Nat) (h : Rps p W H ds vs) : Rps p W H (ds.drop n) (vs.drop n) := by
  refine Rps.of_get (by simp [h.length]) fun i d v h1 h2 => ?_
  rw [List.getElem?_drop] at h1 h2
  obtain ⟨u, q1, q2⟩ := h.get h1
  rw [h2] at q1; cases q1; exact q2
theorem Rps.set {ds : List D} {vs : List V} {d : D} {v : V} (n : Nat) (h : Rps p W H ds vs) (r : Rp p W H d v) : Rps p W H (ds.set n d) (vs.set n v) := by
  have hl := h.length
  refine Rps.of_get (by simp [hl]) fun i d' v' h1 h2 => ?_
  by_cases e : n = i
  · subst e
    by_cases hn : n < ds.length
    · rw [List.getElem?_set_self hn] at h1
      rw [List.getElem?_set_self (by omega)] at h2
      cases h1; cases h2; exact r
    · rw [List.getElem?_eq_none (by simpa using hn)] at h1; cases h1
  · rw [List.getElem?_set_ne e] at h1 h2
    obtain ⟨u, q1, q2⟩ := h.get h1
    rw [h2] at q1; cases q1; exact q2
end

structure Src where
  cells : List Int
  left : Int
  mixed : Int
  turn : Int
def kCells : Key := .inr "cells"
def kLeft : Key := .inr "left"
def kMixed : Key := .inr "mixed"
def kTurn : Key := .inr "turn"
structure SrcOk (p c : Addr) (H : Hp) (s : Src) : Prop where
  d : H p = some (.dK [(kCells, .ref c), (kLeft, .int s.left), (kMixed, .int s.mixed), (kTurn, .int s.turn)])
  l : H c = some (.lst (s.cells.map V.int))
theorem SrcOk.ne {p c : Addr} {H : Hp} {s : Src} (h : SrcOk p c H s) : p ≠ c := ne_of h.d h.l (by intro z; cases z)
theorem SrcOk.same {p c : Addr} {H H' : Hp} {s : Src} (h : SrcOk p c H s) (e : Same H H') : SrcOk p c H' s := ⟨e _ _ h.d, e _ _ h.l⟩

inductive Sl where
  | val (d : D) | own (ds : List D) | ownK (ks : List Key) (ds : List D) | ownT (ks : List (List Key)) (ds : List D)
def Sl.isOwn : Sl → Bool
  | .val _ => false
  | _ => true
structure S where
  env : List (Option Sl)
  src : Src
/-- what an own slot's object holds -/
def OwnR (p : Addr) (W : AP) (H : Hp) : Sl → HO → Prop
  | .val _, _ => False
  | .own ds, o => ∃ vs, o = .lst vs ∧ Rps p W H ds vs
  | .ownK ks ds, o => ∃ kvs, o = .dK kvs ∧ kvs.map (·.1) = ks ∧ Rps p W H ds (kvs.map (·.2))
  | .ownT ks ds, o => ∃ kvs, o = .dT kvs ∧ kvs.map (·.1) = ks ∧ Rps p W H ds (kvs.map (·.2))
theorem OwnR.noTup {p : Addr} {W : AP} {H : Hp} : ∀ {sl : Sl} {o : HO}, OwnR p W H sl o → NoTup o
  | .val _, _, h => False.elim h
  | .own _, _, ⟨_, h, _⟩ => fun _ z => by rw [h] at z; cases z
  | .ownK _ _, _, ⟨_, h, _⟩ => fun _ z => by rw [h] at z; cases z
  | .ownT _ _, _, ⟨_, h, _⟩ => fun _ z => by rw [h] at z; cases z
theorem OwnR.ev {p : Addr} {W W' : AP} {H H' : Hp} (e : Ev W H W' H') : ∀ (sl : Sl) (o : HO), OwnR p W H sl o → OwnR p W' H' sl o
  | .val _, _, h => h
  | .own _, _, ⟨vs, h1, h2⟩ => ⟨vs, h1, Rps.ev e _ _ h2⟩
  | .ownK _ _, _, ⟨kvs, h1, h2, h3⟩ => ⟨kvs, h1, h2, Rps.ev e _ _ h3⟩
  | .ownT _ _, _, ⟨kvs, h1, h2, h3⟩ => ⟨kvs, h1, h2, Rps.ev e _ _ h3⟩
/-- the addresses of the own slots -/
def OwnA (env : List (Option Sl)) (σ : Sg) : AP := fun a => ∃ (i : Nat) (sl : Sl), env[i]? = some (some sl) ∧ sl.isOwn = true ∧ σ[i]? = some (some (.ref a))
/-- what a def was entered with: the source's dict and list, the addresses that no tree may lean on, the heap -/
structure Bs where
  p : Addr
  c : Addr
  Wc : AP
  H0 : Hp
def Bs.W (B : Bs) (env : List (Option Sl)) (σ : Sg) : AP := fun a => B.Wc a ∨ OwnA env σ a
def Bs.plus (B : Bs) (a : Addr) : Bs := { B with Wc := fun b => B.Wc b ∨ b = a }
structure StOk (B : Bs) (σ : Sg) (H : Hp) (s : S) : Prop where
  len : s.env.length = σ.length
  val : ∀ (i : Nat) (d : D), s.env[i]? = some (some (.val d)) → ∃ v, σ[i]? = some (some v) ∧ Rp B.p (B.W s.env σ) H d v
  own : ∀ (i : Nat) (sl : Sl), s.env[i]? = some (some sl) → sl.isOwn = true → ∃ a o, σ[i]? = some (some (.ref a)) ∧ H a = some o ∧ OwnR B.p (B.W s.env σ) H sl o ∧ B.H0 a = none ∧ ¬ B.Wc a
  sep : ∀ (i j : Nat) (sl sl' : Sl) (a : Addr), s.env[i]? = some (some sl) → sl.isOwn = true → s.env[j]? = some (some sl') → sl'.isOwn = true → σ[i]? = some (some (.ref a)) → σ[j]? = some (some (.ref a)) → i = j
  src : SrcOk B.p B.c H s.src
  keep : ∀ a o, B.H0 a = some o → a ≠ B.p → a ≠ B.c → H a = some o
  wc : WT B.Wc H
  wp : B.Wc B.p
  wcc : B.Wc B.c
section
variable {B : Bs} {σ : Sg} {H H' : Hp} {s : S}
theorem StOk.wt (k : StOk B σ H s) : WT (B.W s.env σ) H := fun a h => by
  rcases h with h | ⟨i, sl, e1, e2, e3⟩
  · exact k.wc a h
  · obtain ⟨b, o, q1, q2, q3, _⟩ := k.own i sl e1 e2
    rw [e3] at q1; cases q1
    exact ⟨o, q2, q3.noTup⟩
theorem StOk.same (k : StOk B σ H s) (e : Same H H') : StOk B σ H' s where
  len := k.len
  val := fun i d h => let ⟨v, h1, h2⟩ := k.val i d h; ⟨v, h1, h2.ev (Ev.same e)⟩
  own := fun i sl h ho => let ⟨a, o, h1, h2, h3, h4⟩ := k.own i sl h ho; ⟨a, o, h1, e _ _ h2, h3.ev (Ev.same e), h4⟩
  sep := k.sep
  src := k.src.same e
  keep := fun a o h h1 h2 => e _ _ (k.keep a o h h1 h2)
  wc := k.wc.same e
  wp := k.wp
  wcc := k.wcc
theorem StOk.new (k : StOk B σ H s) {a : Addr} (h : H a = none) : B.H0 a = none := by
  cases q : B.H0 a with
  | none => rfl
  | some o =>
    by_cases e1 : a = B.p
    · subst e1; rw [k.src.d] at h; cases h
    · by_cases e2 : a = B.c
      · subst e2; rw [k.src.l] at h; cases h
      · rw [k.keep a o q e1 e2] at h; cases h
end

def M (α : Type) := S → Option (α × S)
def ret {α : Type} (a : α) : M α := fun s => some (a, s)
def fail {α : Type} : M α := fun _ => none
def bnd {α β : Type} (m : M α) (f : α → M β) : M β := fun s => match m s with
  | some (a, s1) => f a s1
  | none => none
def lift {α : Type} (o : Option α) : M α := fun s => match o with
  | some a => some (a, s)
  | none => none
theorem bnd_some {α β : Type} {m : M α} {f : α → M β} {s s2 : S} {b : β} (h : bnd m f s = some (b, s2)) : ∃ a s1, m s = some (a, s1) ∧ f a s1 = some (b, s2) := by
  unfold bnd at h
  split at h
  · rename_i a s1 e; exact ⟨a, s1, e, h⟩
  · cases h
theorem bnd_eq {α β : Type} {m : M α} {f : α → M β} {s s1 : S} {a : α} (h : m s = some (a, s1)) : bnd m f s = f a s1 := by unfold bnd; rw [h]
theorem lift_some {α : Type} {o : Option α} {s s2 : S} {b : α} (h : lift o s = some (b, s2)) : o = some b ∧ s2 = s := by
  unfold lift at h
  split at h
  · cases h; exact ⟨rfl, rfl⟩
  · cases h
theorem ret_some {α : Type} {a b : α} {s s2 : S} (h : ret a s = some (b, s2)) : b = a ∧ s2 = s := by
  unfold ret at h; cases h; exact ⟨rfl, rfl⟩

/-- an expression's reading by trees -/
def tI (B : Bs) (m : M D) : TE := fun σ H Q => ∃ s d s', StOk B σ H s ∧ m s = some (d, s') ∧
  ∀ v H', StOk B σ H' s' → Ev (B.W s.env σ) H (B.W s'.env σ) H' → Rp B.p (B.W s'.env σ) H' d v → Q v H'
def tA (B : Bs) (m : M (List D)) : TA := fun σ H Q => ∃ s ds s', StOk B σ H s ∧ m s = some (ds, s') ∧
  ∀ vs H', StOk B σ H' s' → Ev (B.W s.env σ) H (B.W s'.env σ) H' → Rps B.p (B.W s'.env σ) H' ds vs → Q vs H'
def tT (B : Bs) (m : M Bool) : TT := fun σ H Q => ∃ s b s', StOk B σ H s ∧ m s = some (b, s') ∧
  ∀ H', StOk B σ H' s' → Ev (B.W s.env σ) H (B.W s'.env σ) H' → Q b H'
/-- an expression that makes a new list -/
def tL (B : Bs) (m : M (List D)) : TE := fun σ H Q => ∃ s ds s', StOk B σ H s ∧ m s = some (ds, s') ∧
  ∀ a vs H', StOk (B.plus a) σ H' s' → Ev (B.W s.env σ) H ((B.plus a).W s'.env σ) H' → B.H0 a = none → ¬ (B.W s'.env σ) a → H' a = some (.lst vs) → Rps B.p ((B.plus a).W s'.env σ) H' ds vs → Q (.ref a) H'
structure SE (X : Cx) (e : Expr) (m : M D) : Prop where
  pe : ∀ B, PE X e (tI B m)
structure SA (X : Cx) (es : List Expr) (m : M (List D)) : Prop where
  pa : ∀ B, PA X es (tA B m)
structure ST (X : Cx) (e : Expr) (m : M Bool) : Prop where
  pt : ∀ B, PT X e (tT B m)
structure SL (X : Cx) (e : Expr) (m : M (List D)) : Prop where
  pe : ∀ B, PE X e (tL B m)

theorem PE.imp {X : Cx} {e : Expr} {t t' : TE} (h : PE X e t) (f : ∀ σ H Q, t' σ H Q → t σ H Q) : PE X e t' := ⟨fun pins s σ H Q I q => h.run pins s σ H Q I (f _ _ _ q)⟩
theorem PT.imp {X : Cx} {e : Expr} {t t' : TT} (h : PT X e t) (f : ∀ σ H Q, t' σ H Q → t σ H Q) : PT X e t' := ⟨fun pins s σ H Q I q => h.run pins s σ H Q I (f _ _ _ q)⟩
theorem PA.imp {X : Cx} {e : List Expr} {t t' : TA} (h : PA X e t) (f : ∀ σ H Q, t' σ H Q → t σ H Q) : PA X e t' := ⟨fun pos pins s σ H Q I q => h.run pos pins s σ H Q I (f _ _ _ q)⟩
theorem PS.imp {X : Cx} {e : Stmt} {t t' : TS} (h : PS X e t) (f : ∀ D σ H, t' D σ H → t D σ H) : PS X e t' := ⟨fun pins s σ H D I q => h.run pins s σ H D I (f _ _ _ q)⟩
theorem PSs.imp {X : Cx} {e : List Stmt} {t t' : TS} (h : PSs X e t) (f : ∀ D σ H, t' D σ H → t D σ H) : PSs X e t' := ⟨fun pins s σ H D I q => h.run pins s σ H D I (f _ _ _ q)⟩

/-- from a step's reading to the next one's -/
theorem tI.bind {B : Bs} {σ : Sg} {H : Hp} {β : Type} {m : M D} {f : D → M β} {s s2 : S} {b : β} {Q : VK} (k : StOk B σ H s) (h : bnd m f s = some (b, s2))
    (g : ∀ d s1 v H1, m s = some (d, s1) → f d s1 = some (b, s2) → StOk B σ H1 s1 → Ev (B.W s.env σ) H (B.W s1.env σ) H1 → Rp B.p (B.W s1.env σ) H1 d v → Q v H1) : tI B m σ H Q := by
  obtain ⟨d, s1, h1, h2⟩ := bnd_some h
  exact ⟨s, d, s1, k, h1, fun v H1 k1 e1 r1 => g d s1 v H1 h1 h2 k1 e1 r1⟩
theorem tA.bind {B : Bs} {σ : Sg} {H : Hp} {β : Type} {m : M (List D)} {f : List D → M β} {s s2 : S} {b : β} {Q : List V → Hp → Prop} (k : StOk B σ H s) (h : bnd m f s = some (b, s2))
    (g : ∀ ds s1 vs H1, m s = some (ds, s1) → f ds s1 = some (b, s2) → StOk B σ H1 s1 → Ev (B.W s.env σ) H (B.W s1.env σ) H1 → Rps B.p (B.W s1.env σ) H1 ds vs → Q vs H1) : tA B m σ H Q := by
  obtain ⟨d, s1, h1, h2⟩ := bnd_some h
  exact ⟨s, d, s1, k, h1, fun v H1 k1 e1 r1 => g d s1 v H1 h1 h2 k1 e1 r1⟩
theorem tT.bind {B : Bs} {σ : Sg} {H : Hp} {β : Type} {m : M Bool} {f : Bool → M β} {s s2 : S} {b : β} {Q : Bool → Hp → Prop} (k : StOk B σ H s) (h : bnd m f s = some (b, s2))
    (g : ∀ d s1 H1, m s = some (d, s1) → f d s1 = some (b, s2) → StOk B σ H1 s1 → Ev (B.W s.env σ) H (B.W s1.env σ) H1 → Q d H1) : tT B m σ H Q := by
  obtain ⟨d, s1, h1, h2⟩ := bnd_some h
  exact ⟨s, d, s1, k, h1, fun H1 k1 e1 => g d s1 H1 h1 h2 k1 e1⟩

def eVar (i : Nat) : M D := fun s => match s.env[i]? with
  | some (some (.val d)) => some (d, s)
  | _ => none
/-- an own list or dict is read: from now on nobody changes it -/
def eFrz (i : Nat) : M D := fun s => match s.env[i]? with
  | some (some (.val d)) => some (d, s)
  | some (some (.own ds)) => some (.lst ds, { s with env := s.env.set i (some (.val (.lst ds))) })
  | some (some (.ownK ks ds)) => some (.dct ks ds, { s with env := s.env.set i (some (.val (.dct ks ds))) })
  | some (some (.ownT ks ds)) => some (.dtt ks ds, { s with env := s.env.set i (some (.val (.dtt ks ds))) })
  | _ => none
section
variable {X : Cx}
theorem s_var {i : Nat} {x : Str} {pos : Pos} (h : PE X (.Name x pos) (tVar i)) : SE X (.Name x pos) (eVar i) := ⟨fun B => PE.imp h fun σ H Q ⟨s, d, s', k, e, q⟩ => by
  unfold eVar at e
  split at e
  · rename_i d' hd
    cases e
    obtain ⟨v, h1, h2⟩ := k.val i d hd
    exact ⟨v, h1, q v H k Ev.refl h2⟩
  · cases e⟩
/-- an own slot i is turned into a value at the state s -/
theorem StOk.freeze {B : Bs} {σ : Sg} {H : Hp} {s : S} {i : Nat} {sl : Sl} {d : D} {a : Addr} (k : StOk B σ H s) (hi : s.env[i]? = some (some sl)) (ho : sl.isOwn = true) (ha : σ[i]? = some (some (.ref a)))
    (r : Rp B.p (B.W (s.env.set i (some (.val d))) σ) H d (.ref a)) : StOk B σ H { s with env := s.env.set i (some (.val d)) } ∧ Ev (B.W s.env σ) H (B.W (s.env.set i (some (.val d))) σ) H := by
  have hlt : i < s.env.length := (List.getElem?_eq_some_iff.mp hi).1
  have sub : ∀ b, B.W (s.env.set i (some (.val d))) σ b → B.W s.env σ b := fun b hb => by
    rcases hb with hb | ⟨j, sl', e1, e2, e3⟩
    · exact .inl hb
    · by_cases hj : i = j
      · subst hj
        rw [List.getElem?_set_self hlt] at e1
        cases e1; cases e2
      · rw [List.getElem?_set_ne hj] at e1
        exact .inr ⟨j, sl', e1, e2, e3⟩
  have ev : Ev (B.W s.env σ) H (B.W (s.env.set i (some (.val d))) σ) H := Ev.less sub
  refine ⟨⟨by simpa using k.len, fun j d' h => ?_, fun j sl' h h' => ?_, fun j1 j2 sl1 sl2 b h1 o1 h2 o2 q1 q2 => ?_, k.src, k.keep, k.wc, k.wp, k.wcc⟩, ev⟩
  · by_cases hj : i = j
    · subst hj
      have h : (s.env.set i (some (.val d)))[i]? = _ := h
      rw [List.getElem?_set_self hlt] at h
      cases h
      exact ⟨_, ha, r⟩
    · have h : (s.env.set i (some (.val d)))[j]? = _ := h
      rw [List.getElem?_set_ne hj] at h
      obtain ⟨v, h1, h2⟩ := k.val j d' h
      exact ⟨v, h1, h2.ev ev⟩
  · have h : (s.env.set i (some (.val d)))[j]? = _ := h
    by_cases hj : i = j
    · subst hj
      rw [List.getElem?_set_self hlt] at h
      cases h; cases h'
    · rw [List.getElem?_set_ne hj] at h
      obtain ⟨b, o, h1, h2, h3, h4⟩ := k.own j sl' h h'
      exact ⟨b, o, h1, h2, h3.ev ev, h4⟩
  · have h1 : (s.env.set i (some (.val d)))[j1]? = _ := h1
    have h2 : (s.env.set i (some (.val d)))[j2]? = _ := h2
    by_cases e1 : i = j1
    · subst e1
      rw [List.getElem?_set_self hlt] at h1
      cases h1; cases o1
    · by_cases e2 : i = j2
      · subst e2
        rw [List.getElem?_set_self hlt] at h2
        cases h2; cases o2
      · rw [List.getElem?_set_ne e1] at h1
        rw [List.getElem?_set_ne e2] at h2
        exact k.sep j1 j2 sl1 sl2 b h1 o1 h2 o2 q1 q2
/-- the address of an own slot is no more guarded behind its freezing -/
theorem StOk.unguard {B : Bs} {σ : Sg} {H : Hp} {s : S} {i : Nat} {sl : Sl} {d : D} {a : Addr} (k : StOk B σ H s) (hi : s.env[i]? = some (some sl)) (ho : sl.isOwn = true) (ha : σ[i]? = some (some (.ref a))) (hc : ¬ B.Wc a) :
    ¬ B.W (s.env.set i (some (.val d))) σ a := by
  have hlt : i < s.env.length := (List.getElem?_eq_some_iff.mp hi).1
  rintro (h | ⟨j, sl', e1, e2, e3⟩)
  · exact hc h
  · by_cases hj : i = j
    · subst hj
      rw [List.getElem?_set_self hlt] at e1
      cases e1; cases e2
    · rw [List.getElem?_set_ne hj] at e1
      exact hj (k.sep i j sl sl' a hi ho e1 e2 ha e3)
theorem s_frz {i : Nat} {x : Str} {pos : Pos} (h : PE X (.Name x pos) (tVar i)) : SE X (.Name x pos) (eFrz i) := ⟨fun B => PE.imp h fun σ H Q ⟨s, d, s', k, e, q⟩ => by
  unfold eFrz at e
  split at e
  · rename_i d' hd
    cases e
    obtain ⟨v, h1, h2⟩ := k.val i d hd
    exact ⟨v, h1, q v H k Ev.refl h2⟩
  · rename_i ds hd
    cases e
    obtain ⟨a, o, h1, h2, ⟨vs, rfl, h3⟩, h4, h5⟩ := k.own i _ hd rfl
    have un := k.unguard (d := .lst ds) hd rfl h1 h5
    have r : Rp B.p (B.W (s.env.set i (some (.val (.lst ds)))) σ) H (.lst ds) (.ref a) := ⟨a, vs, rfl, un, h2, Rps.ev (Ev.less fun b hb => ?_) _ _ h3⟩
    · obtain ⟨k', ev⟩ := k.freeze hd rfl h1 r
      exact ⟨_, h1, q _ H k' ev r⟩
    · rcases hb with hb | ⟨j, sl', e1, e2, e3⟩
      · exact .inl hb
      · by_cases hj : i = j
        · subst hj
          rw [List.getElem?_set_self (List.getElem?_eq_some_iff.mp hd).1] at e1
          cases e1; cases e2
        · rw [List.getElem?_set_ne hj] at e1
          exact .inr ⟨j, sl', e1, e2, e3⟩
  · rename_i ks ds hd
    cases e
    obtain ⟨a, o, h1, h2, ⟨vs, rfl, h6, h3⟩, h4, h5⟩ := k.own i _ hd rfl
    have un := k.unguard (d := .dct ks ds) hd rfl h1 h5
    have r : Rp B.p (B.W (s.env.set i (some (.val (.dct ks ds)))) σ) H (.dct ks ds) (.ref a) := ⟨a, vs, rfl, un, .inl h2, h6, Rps.ev (Ev.less fun b hb => ?_) _ _ h3⟩
    · obtain ⟨k', ev⟩ := k.freeze hd rfl h1 r
      exact ⟨_, h1, q _ H k' ev r⟩
    · rcases hb with hb | ⟨j, sl', e1, e2, e3⟩
      · exact .inl hb
      · by_cases hj : i = j
        · subst hj
          rw [List.getElem?_set_self (List.getElem?_eq_some_iff.mp hd).1] at e1
          cases e1; cases e2
        · rw [List.getElem?_set_ne hj] at e1
          exact .inr ⟨j, sl', e1, e2, e3⟩
  · rename_i ks ds hd
    cases e
    obtain ⟨a, o, h1, h2, ⟨vs, rfl, h6, h3⟩, h4, h5⟩ := k.own i _ hd rfl
    have un := k.unguard (d := .dtt ks ds) hd rfl h1 h5
    have r : Rp B.p (B.W (s.env.set i (some (.val (.dtt ks ds)))) σ) H (.dtt ks ds) (.ref a) := ⟨a, vs, rfl, un, .inl h2, h6, Rps.ev (Ev.less fun b hb => ?_) _ _ h3⟩
    · obtain ⟨k', ev⟩ := k.freeze hd rfl h1 r
      exact ⟨_, h1, q _ H k' ev r⟩
    · rcases hb with hb | ⟨j, sl', e1, e2, e3⟩
      · exact .inl hb
      · by_cases hj : i = j
        · subst hj
          rw [List.getElem?_set_self (List.getElem?_eq_some_iff.mp hd).1] at e1
          cases e1; cases e2
        · rw [List.getElem?_set_ne hj] at e1
          exact .inr ⟨j, sl', e1, e2, e3⟩
  · cases e⟩
/-- what is no object -/
def D.flat : D → Option V
  | .non => some .non
  | .bl b => some (.bl b)
  | .int i => some (.int i)
  | .str s => some (.str s)
  | _ => none
theorem Rp.flat {p : Addr} {W : AP} {H : Hp} {d : D} {v : V} (h : d.flat = some v) : Rp p W H d v := by
  cases d <;> simp [D.flat] at h <;> subst h <;> simp [Rp]
theorem Rp.flat_eq {p : Addr} {W : AP} {H : Hp} {d : D} {v u : V} (h : d.flat = some v) (r : Rp p W H d u) : u = v := by
  cases d <;> simp [D.flat] at h <;> subst h <;> simpa [Rp] using r
def eC (d : D) : M D := ret d
theorem s_cst {e : Expr} {d : D} {v : V} (h : PE X e (tC v)) (hd : d.flat = some v := by rfl) : SE X e (eC d) := ⟨fun B => PE.imp h fun σ H Q ⟨s, d', s', k, e, q⟩ => by
  obtain ⟨rfl, rfl⟩ := ret_some e
  exact q v H k Ev.refl (Rp.flat hd)⟩
theorem s_int {i j pos} : SE X (.Constant (.int i) j pos) (eC (.int i)) := s_cst pe_int
theorem s_bl {b j pos} : SE X (.Constant (.bool b) j pos) (eC (.bl b)) := s_cst pe_bl
theorem s_non {j pos} : SE X (.Constant .none j pos) (eC .non) := s_cst pe_non
theorem s_str {x j pos} : SE X (.Constant (.str x) j pos) (eC (.str x)) := s_cst pe_str
end
end GH

namespace GH
open PySem PySem.Spec PyProof.Rows L2

theorem tuple_mul1 (l : Addr) (items : Array Value) (n : Nat) (dd : Option Addr) (sl : Array (Option Value)) (x : Int) (u : Tok) (c0 : (decide (x < -(2 ^ 63)) || decide (x ≥ 2 ^ 63)) = false) (c1 : (items.isEmpty || x == 1) = true) :
    Meets (Builtin.«tuple.__mul__» ⟨[.ref l, .int x u], []⟩) (fun _ R s => s.heap.get? l = some { cls := .type "tuple", dict := dd, data := .seq items n, slots := sl } ∧
      R (.ok (.ret (Value.ref l))) s) :=
  .of_wp fun prog w A R s h => by
    obtain ⟨hp, g, d, tk, os⟩ := s
    obtain ⟨hl, h⟩ := h
    have f1 := AutoSeq1.idx_int
    have hT : Shared.TypeIs ⟨hp, g, d, tk, os⟩ (.ref l) "tuple" := ⟨_, hl, rfl⟩
    wp_walk using wpAny_loadPart' hl, wpAny_typeOf hT
    repeat (first
      | (refine wpAny_ite_false (decide_eq_false (by rw [c0]; exact Bool.false_ne_true)) ?_; wp_walk using wpAny_loadPart' hl, wpAny_typeOf hT)
      | (refine wpAny_ite_true (decide_eq_true c1) ?_; wp_walk using wpAny_loadPart' hl, wpAny_typeOf hT)
      | (refine wpAny_ite_true (by rfl) ?_; wp_walk using wpAny_loadPart' hl, wpAny_typeOf hT))
    exact ⟨_, rfl, h⟩
theorem tuple_mul0 (l : Addr) (items : Array Value) (n : Nat) (dd : Option Addr) (sl : Array (Option Value)) (x : Int) (u : Tok) (c0 : (decide (x < -(2 ^ 63)) || decide (x ≥ 2 ^ 63)) = false) (c1 : (items.isEmpty || x == 1) = false) (c2 : (decide (x ≤ 0) || items.isEmpty) = true) :
    Meets (Builtin.«tuple.__mul__» ⟨[.ref l, .int x u], []⟩) (fun _ R s => s.heap.get? l = some { cls := .type "tuple", dict := dd, data := .seq items n, slots := sl } ∧
      R (.ok (.ret (Value.ref s.heap.objs.size))) { s with heap := s.heap.push { cls := Value.type "tuple", data := Data.seq #[] }, toks := s.toks }) :=
  .of_wp fun prog w A R s h => by
    obtain ⟨hp, g, d, tk, os⟩ := s
    obtain ⟨hl, h⟩ := h
    have f1 := AutoSeq1.idx_int
    wp_walk using wpAny_loadPart' hl
    repeat (first
      | (refine wpAny_ite_false (decide_eq_false (by rw [c0]; exact Bool.false_ne_true)) ?_; wp_walk using wpAny_loadPart' hl)
      | (refine wpAny_ite_false (decide_eq_false (by rw [c1]; exact Bool.false_ne_true)) ?_; wp_walk using wpAny_loadPart' hl)
      | (refine wpAny_ite_true (decide_eq_true c2) ?_; wp_walk using wpAny_loadPart' hl))
    exact ⟨_, rfl, h⟩
/-- tuple * int, any small int -/
def rRepA (K : PySem.W.Frag) : R2 := fun x y H Q => ∃ l k xs, x = .ref l ∧ y = .int k ∧ SqT K H l xs ∧ -(2 ^ 63) ≤ k ∧ k ≤ 1000 ∧ xs.length ≤ 1000 ∧ ((xs = [] ∨ k = 1) → Q (.ref l) H) ∧ (¬ (xs = [] ∨ k = 1) → ∀ p, H p = none → Q (.ref p) (upd H p (.tup (List.replicate k.toNat xs).flatten)))
theorem op_repA {X : Cx} : OpR X (binaryOp .Mult) (rRepA X.K) := by
  intro pins s σ H x y v u Q I rx ry h
  obtain ⟨l, k, xs, rfl, rfl, hT, h1, h2, hz, q1, q2⟩ := h
  by_cases hbig : xs ≠ [] ∧ 2 ≤ k
  · exact op_repT pins s σ H _ _ v u Q I rx ry ⟨l, k, xs, rfl, rfl, hT, hbig.1, hbig.2, h2, hz, q2 (fun z => by rcases z with z | z; exact hbig.1 z; omega)⟩
  cases rx
  obtain ⟨t, rfl⟩ := ry
  have hT' := hT
  obtain ⟨its, r, ⟨⟨cls, dd, data, sl⟩, ho, hc, n, hd⟩, hs⟩ := I.tuple hT'
  simp only at hc hd
  subst hc hd
  have hle : its.length = xs.length := r.length.symm
  have hemp : its.toArray.isEmpty = decide (xs = []) := by
    cases its with
    | nil =>
      have : xs = [] := List.eq_nil_of_length_eq_zero (by rw [← hle]; rfl)
      rw [this]; rfl
    | cons a b =>
      have : xs ≠ [] := fun e => by rw [e] at hle; simp at hle
      rw [decide_eq_false this]; rfl
  have c0 : (decide (k < -(2 ^ 63)) || decide (k ≥ 2 ^ 63)) = false := by
    rw [decide_eq_false (by omega), decide_eq_false (by omega)] <;> rfl
  by_cases hsame : xs = [] ∨ k = 1
  · have c1 : (its.toArray.isEmpty || k == 1) = true := by
      rw [hemp]
      rcases hsame with z | z
      · rw [decide_eq_true z]; rfl
      · rw [z, Bool.or_eq_true]; exact .inr rfl
    refine wpAny_binaryOp_repeat_ref (T := "tuple") (U := "int") (by decide) ⟨_, ho, rfl⟩ (fun s' => typeIs_int s' k t) noFill_tuple_mul F.fills_int_mul F.slot_int_rmul repeat_tuple F.slot_int_index.lookup
      (call_meets F.slot_int_rmul (typeIs_int s k t) F.entry_int_rmul (F.args_int_rmul_2 _ _) (int_rmul_tuple k t l its.toArray n dd sl)
        ⟨ho, rfl, ⟨_, ho, rfl⟩, call_meets F.slot_tuple_mul ⟨_, ho, rfl⟩ F.entry_tuple_mul (F.args_tuple_mul_2 _ _) (tuple_mul1 l its.toArray n dd sl k t c0 c1) ⟨ho, ?_⟩⟩)
    exact ⟨.ref l, H, I, rfl, q1 hsame⟩
  · have hne : xs ≠ [] := fun z => hsame (.inl z)
    have hk : k ≤ 0 := by
      by_cases z : 2 ≤ k
      · exact absurd ⟨hne, z⟩ hbig
      · have : k ≠ 1 := fun z => hsame (.inr z)
        omega
    have c1 : (its.toArray.isEmpty || k == 1) = false := by
      rw [hemp, decide_eq_false hne, Bool.false_or]
      exact beq_eq_false_iff_ne.mpr (by omega)
    have c2 : (decide (k ≤ 0) || its.toArray.isEmpty) = true := by rw [decide_eq_true hk]; rfl
    refine wpAny_binaryOp_repeat_ref (T := "tuple") (U := "int") (by decide) ⟨_, ho, rfl⟩ (fun s' => typeIs_int s' k t) noFill_tuple_mul F.fills_int_mul F.slot_int_rmul repeat_tuple F.slot_int_index.lookup
      (call_meets F.slot_int_rmul (typeIs_int s k t) F.entry_int_rmul (F.args_int_rmul_2 _ _) (int_rmul_tuple k t l its.toArray n dd sl)
        ⟨ho, rfl, ⟨_, ho, rfl⟩, call_meets F.slot_tuple_mul ⟨_, ho, rfl⟩ F.entry_tuple_mul (F.args_tuple_mul_2 _ _) (tuple_mul0 l its.toArray n dd sl k t c0 c1 c2) ⟨ho, ?_⟩⟩)
    have hz0 : (List.replicate k.toNat xs).flatten = [] := by rw [show k.toNat = 0 by omega]; rfl
    have q3 := q2 hsame
    rw [hz0] at q3
    refine ⟨.ref s.heap.objs.size, _, I.laid (t' := s.toks) (o := .tup []) (fun b ob q => Heap.get?_push_of_some _ q) (Nat.le_refl _) ?_, rfl, q3 _ (I.hok.fresh (Nat.le_refl _))⟩
    exact ⟨by simp, [], .nil, IsTup.new _ _⟩
/-- a two-place operation on trees -/
def rB (f : D → D → Option D) : R2 := fun x y H Q => ∃ p W dx dy d, WT W H ∧ Rp p W H dx x ∧ Rp p W H dy y ∧ f dx dy = some d ∧ ∀ v H', Same H H' → Rp p W H' d v → Q v H'
def rU1 (f : D → Option D) : V → Hp → VK → Prop := fun x H Q => ∃ p W dx d, WT W H ∧ Rp p W H dx x ∧ f dx = some d ∧ ∀ v H', Same H H' → Rp p W H' d v → Q v H'
/-- a call by values -/
def rC (g : List D → Option D) : List V → Hp → VK → Prop := fun vs H Q => ∃ p W ds d, WT W H ∧ Rps p W H ds vs ∧ g ds = some d ∧ ∀ v H', Same H H' → Rp p W H' d v → Q v H'
/-- a call that makes a new list of what was there -/
def rCL (g : List D → Option (List D)) : List V → Hp → VK → Prop := fun vs H Q => ∃ p W ds es, WT W H ∧ Rps p W H ds vs ∧ g ds = some es ∧
  ∀ a us H', Same H H' → H a = none → H' a = some (.lst us) → Rps p W H es us → Q (.ref a) H'

section
variable {p : Addr} {W : AP} {H : Hp}
theorem rps1 {d : D} {vs : List V} (h : Rps p W H [d] vs) : ∃ v, vs = [v] ∧ Rp p W H d v := by
  simp only [Rps] at h
  obtain ⟨v, r, rfl, h1, rfl⟩ := h
  exact ⟨v, rfl, h1⟩
theorem rps2 {d e : D} {vs : List V} (h : Rps p W H [d, e] vs) : ∃ v u, vs = [v, u] ∧ Rp p W H d v ∧ Rp p W H e u := by
  simp only [Rps] at h
  obtain ⟨v, r, rfl, h1, u, r', rfl, h2, rfl⟩ := h
  exact ⟨v, u, rfl, h1, h2⟩
theorem rp_int {i : Int} {v : V} (h : Rp p W H (.int i) v) : v = .int i := by simpa only [Rp] using h
theorem rp_bl {i : Bool} {v : V} (h : Rp p W H (.bl i) v) : v = .bl i := by simpa only [Rp] using h
theorem rp_str {i : Str} {v : V} (h : Rp p W H (.str i) v) : v = .str i := by simpa only [Rp] using h
theorem rp_non {v : V} (h : Rp p W H .non v) : v = .non := by simpa only [Rp] using h
theorem rp_lst {ds : List D} {v : V} (h : Rp p W H (.lst ds) v) : ∃ a vs, v = .ref a ∧ ¬ W a ∧ H a = some (.lst vs) ∧ Rps p W H ds vs := by simpa only [Rp] using h
theorem rp_tup {ds : List D} {v : V} (h : Rp p W H (.tup ds) v) : ∃ a vs, v = .ref a ∧ ¬ W a ∧ H a = some (.tup vs) ∧ Rps p W H ds vs := by simpa only [Rp] using h
theorem rp_rng {lo hi : Int} {v : V} (h : Rp p W H (.rng lo hi) v) : ∃ a, v = .ref a ∧ ¬ W a ∧ H a = some (.rng lo hi) := by simpa only [Rp] using h
theorem rp_dct {ks : List Key} {ds : List D} {v : V} (h : Rp p W H (.dct ks ds) v) : ∃ a kvs, v = .ref a ∧ ¬ W a ∧ Rd H a (.dK kvs) ∧ kvs.map (·.1) = ks ∧ Rps p W H ds (kvs.map (·.2)) := by simpa only [Rp] using h
theorem rp_dtt {ks : List (List Key)} {ds : List D} {v : V} (h : Rp p W H (.dtt ks ds) v) : ∃ a kvs, v = .ref a ∧ ¬ W a ∧ Rd H a (.dT kvs) ∧ kvs.map (·.1) = ks ∧ Rps p W H ds (kvs.map (·.2)) := by simpa only [Rp] using h
theorem Rp.mkInt (i : Int) : Rp p W H (.int i) (.int i) := by simp [Rp]
theorem Rp.mkBl (i : Bool) : Rp p W H (.bl i) (.bl i) := by simp [Rp]
theorem Rp.mkStr (i : Str) : Rp p W H (.str i) (.str i) := by simp [Rp]
theorem Rp.mkNon : Rp p W H .non .non := by simp [Rp]
theorem Rp.mkTup {ds : List D} {vs : List V} {a : Addr} (n : ¬ W a) (h : H a = some (.tup vs)) (r : Rps p W H ds vs) : Rp p W H (.tup ds) (.ref a) := by
  simp only [Rp]; exact ⟨a, vs, rfl, n, h, r⟩
theorem Rp.mkLst {ds : List D} {vs : List V} {a : Addr} (n : ¬ W a) (h : H a = some (.lst vs)) (r : Rps p W H ds vs) : Rp p W H (.lst ds) (.ref a) := by
  simp only [Rp]; exact ⟨a, vs, rfl, n, h, r⟩
/-- a new tuple of what was there -/
theorem Rp.newTup {ds : List D} {vs : List V} {a : Addr} (w : WT W H) (n : H a = none) (r : Rps p W H ds vs) : Rp p W (upd H a (.tup vs)) (.tup ds) (.ref a) :=
  .mkTup (w.new n) upd_same (r.ev (Ev.same (same_new n)))
theorem Rp.newLst {ds : List D} {vs : List V} {a : Addr} (w : WT W H) (n : H a = none) (r : Rps p W H ds vs) : Rp p W (upd H a (.lst vs)) (.lst ds) (.ref a) :=
  .mkLst (w.new n) upd_same (r.ev (Ev.same (same_new n)))
end

def toInts : List D → Option (List Int)
  | [] => some []
  | .int i :: r => (toInts r).map (i :: ·)
  | _ => none
def toBls : List D → Option (List Bool)
  | [] => some []
  | .bl i :: r => (toBls r).map (i :: ·)
  | _ => none
theorem toInts_eq : ∀ {ds : List D} {ns : List Int}, toInts ds = some ns → ds = ns.map D.int
  | [], _, h => by simp [toInts] at h; subst h; rfl
  | d :: r, ns, h => by
    cases d <;> simp [toInts] at h
    obtain ⟨ms, h1, rfl⟩ := h
    rw [toInts_eq h1]; rfl
theorem toBls_eq : ∀ {ds : List D} {ns : List Bool}, toBls ds = some ns → ds = ns.map D.bl
  | [], _, h => by simp [toBls] at h; subst h; rfl
  | d :: r, ns, h => by
    cases d <;> simp [toBls] at h
    obtain ⟨ms, h1, rfl⟩ := h
    rw [toBls_eq h1]; rfl
@[simp] theorem toInts_map (ns : List Int) : toInts (ns.map D.int) = some ns := by
  induction ns with
  | nil => rfl
  | cons n r ih => simp [toInts, ih]
@[simp] theorem toBls_map (ns : List Bool) : toBls (ns.map D.bl) = some ns := by
  induction ns with
  | nil => rfl
  | cons n r ih => simp [toBls, ih]
theorem rps_ints {p : Addr} {W : AP} {H : Hp} : ∀ {ns : List Int} {vs : List V}, Rps p W H (ns.map D.int) vs → vs = ns.map V.int
  | [], _, h => by simpa [Rps] using h
  | n :: r, _, h => by
    rw [List.map_cons] at h
    simp only [Rps] at h
    obtain ⟨v, t, rfl, h1, h2⟩ := h
    rw [h1, rps_ints h2]; rfl
theorem rps_bls {p : Addr} {W : AP} {H : Hp} : ∀ {ns : List Bool} {vs : List V}, Rps p W H (ns.map D.bl) vs → vs = ns.map V.bl
  | [], _, h => by simpa [Rps] using h
  | n :: r, _, h => by
    rw [List.map_cons] at h
    simp only [Rps] at h
    obtain ⟨v, t, rfl, h1, h2⟩ := h
    rw [h1, rps_bls h2]; rfl
theorem ints_rps {p : Addr} {W : AP} {H : Hp} : ∀ {ns : List Int}, Rps p W H (ns.map D.int) (ns.map V.int)
  | [] => .nil
  | n :: _ => .cons (.mkInt n) ints_rps

def addD : D → D → Option D
  | .int a, .int b => some (.int (a + b))
  | .str a, .str b => if a.length + b.length ≤ sizeLine then some (.str (a ++ b)) else none
  | .tup a, .tup b => if a.length + b.length ≤ sizeLine then some (.tup (a ++ b)) else none
  | .lst a, .lst b => if a.length + b.length ≤ sizeLine then some (.lst (a ++ b)) else none
  | _, _ => none
def subD : D → D → Option D
  | .int a, .int b => some (.int (a - b))
  | _, _ => none
instance (i j : Int) : Decidable (CDivN i j) := by unfold CDivN; infer_instance
instance (i j : Int) : Decidable (CMulW i j) := by unfold CMulW; infer_instance
instance (i j : Int) : Decidable (CMul i j) := by unfold CMul; infer_instance
instance (i j : Int) : Decidable (CDivW i j) := by unfold CDivW; infer_instance
def mulD : D → D → Option D
  | .int a, .int b => if CMul a b then some (.int (a * b)) else if CMulW a b then some (.int (a * b)) else none
  | .tup a, .int k => if -(2 ^ 63) ≤ k ∧ k ≤ 1000 ∧ a.length ≤ 1000 then some (.tup (List.replicate k.toNat a).flatten) else none
  | .lst a, .int k => if -(2 ^ 63) ≤ k ∧ k < 2 ^ 63 ∧ a.length * k.toNat ≤ sizeLine then some (.lst (List.replicate k.toNat a).flatten) else none
  | _, _ => none
def modD : D → D → Option D
  | .int a, .int b => if b ≠ 0 then some (.int (a.fmod b)) else none
  | _, _ => none
def fdivD : D → D → Option D
  | .int a, .int b => if CDivN a b then some (.int (a.fdiv b)) else if CDivW a b then some (.int (a / b)) else none
  | _, _ => none

section
variable {X : Cx}
abbrev OpD (X : Cx) (g : Value → Value → Sem Value) (f : D → D → Option D) : Prop := OpR X g (rB f)
theorem OpR.imp {g : Value → Value → Sem Value} {r r' : R2} (h : OpR X g r) (f : ∀ x y H Q, r' x y H Q → r x y H Q) : OpR X g r' := fun pins s σ H x y v u Q I rx ry q => h pins s σ H x y v u Q I rx ry (f _ _ _ _ q)
theorem CallR.imp {g : Value} {r r' : List V → Hp → VK → Prop} (h : CallR X g r) (f : ∀ vs H Q, r' vs H Q → r vs H Q) : CallR X g r' := fun pins s σ H xs us Q I rx q => h pins s σ H xs us Q I rx (f _ _ _ q)
/-- case by case -/
theorem opD_cases {g : Value → Value → Sem Value} {f : D → D → Option D} (h : ∀ dx dy d p W, f dx dy = some d → OpR X g (fun x y H Q => WT W H ∧ Rp p W H dx x ∧ Rp p W H dy y ∧ ∀ v H', Same H H' → Rp p W H' d v → Q v H')) : OpD X g f := by
  intro pins s σ H x y v u Q I rx ry ⟨p, W, dx, dy, d, hw, hx, hy, he, hq⟩
  exact h dx dy d p W he pins s σ H x y v u Q I rx ry ⟨hw, hx, hy, hq⟩
theorem od_add : OpD X (binaryOp .Add) addD := opD_cases fun dx dy d p W he => by
  unfold addD at he
  split at he
  · cases he
    refine OpR.imp op_add fun x y H Q ⟨hw, hx, hy, hq⟩ => ⟨_, _, rp_int hx, rp_int hy, hq _ _ (Same.refl H) (.mkInt _)⟩
  · split at he
    · cases he
      rename_i hl
      refine OpR.imp op_add_str fun x y H Q ⟨hw, hx, hy, hq⟩ => ⟨_, _, rp_str hx, rp_str hy, hl, hq _ _ (Same.refl H) (.mkStr _)⟩
    · cases he
  · split at he
    · cases he
      rename_i as bs hl
      refine OpR.imp op_catA fun x y H Q ⟨hw, hx, hy, hq⟩ => ?_
      obtain ⟨a, vs, rfl, na, ha, ra⟩ := rp_tup hx
      obtain ⟨b, us, rfl, nb, hb, rb⟩ := rp_tup hy
      refine ⟨a, b, vs, us, rfl, rfl, SqT.of ha, SqT.of hb, by rw [← ra.length, ← rb.length]; exact hl, fun e => ?_, fun e1 e2 => ?_, fun e1 e2 q nq => ?_⟩
      · subst e
        have : as = [] := List.eq_nil_of_length_eq_zero (by simpa using ra.length)
        subst this
        exact hq _ _ (Same.refl H) (.mkTup nb hb (by simpa using rb))
      · subst e2
        have : bs = [] := List.eq_nil_of_length_eq_zero (by simpa using rb.length)
        subst this
        exact hq _ _ (Same.refl H) (.mkTup na ha (by simpa using ra))
      · exact hq _ _ (same_new nq) (.newTup hw nq (ra.append rb))
    · cases he
  · split at he
    · cases he
      rename_i as bs hl
      refine OpR.imp op_cat fun x y H Q ⟨hw, hx, hy, hq⟩ => ?_
      obtain ⟨a, vs, rfl, na, ha, ra⟩ := rp_lst hx
      obtain ⟨b, us, rfl, nb, hb, rb⟩ := rp_lst hy
      exact ⟨a, b, vs, us, rfl, rfl, ha, hb, by rw [← ra.length, ← rb.length]; exact hl, fun q nq => hq _ _ (same_new nq) (.newLst hw nq (ra.append rb))⟩
    · cases he
  · cases he
theorem od_sub : OpD X (binaryOp .Sub) subD := opD_cases fun dx dy d p W he => by
  unfold subD at he
  split at he
  · cases he
    refine OpR.imp op_sub fun x y H Q ⟨hw, hx, hy, hq⟩ => ⟨_, _, rp_int hx, rp_int hy, hq _ _ (Same.refl H) (.mkInt _)⟩
  · cases he
theorem rps_rep {p : Addr} {W : AP} {H : Hp} {ds : List D} {vs : List V} (r : Rps p W H ds vs) : ∀ n, Rps p W H (List.replicate n ds).flatten (List.replicate n vs).flatten
  | 0 => by simpa using Rps.nil
  | n + 1 => by
    rw [List.replicate_succ, List.replicate_succ, List.flatten_cons, List.flatten_cons]
    exact r.append (rps_rep r n)
theorem od_mul : OpD X (binaryOp .Mult) mulD := opD_cases fun dx dy d p W he => by
  unfold mulD at he
  split at he
  · split at he
    · cases he
      rename_i hl
      refine OpR.imp op_mul fun x y H Q ⟨hw, hx, hy, hq⟩ => ⟨_, _, rp_int hx, rp_int hy, hl, hq _ _ (Same.refl H) (.mkInt _)⟩
    · split at he
      · cases he
        rename_i hl
        refine OpR.imp op_mulW fun x y H Q ⟨hw, hx, hy, hq⟩ => ⟨_, _, rp_int hx, rp_int hy, hl, hq _ _ (Same.refl H) (.mkInt _)⟩
      · cases he
  · split at he
    · cases he
      rename_i as k hl
      refine OpR.imp op_repA fun x y H Q ⟨hw, hx, hy, hq⟩ => ?_
      obtain ⟨a, vs, rfl, na, ha, ra⟩ := rp_tup hx
      refine ⟨a, k, vs, rfl, rp_int hy, SqT.of ha, hl.1, hl.2.1, by rw [← ra.length]; exact hl.2.2, fun z => ?_, fun _ q nq => hq _ _ (same_new nq) (.newTup hw nq (rps_rep ra _))⟩
      have e : (List.replicate k.toNat as).flatten = as := by
        rcases z with z | z
        · have : as = [] := List.eq_nil_of_length_eq_zero (by rw [ra.length, z]; rfl)
          rw [this]; simp
        · rw [z]; simp
      rw [e] at hq
      exact hq _ _ (Same.refl H) hx
    · cases he
  · split at he
    · cases he
      rename_i as k hl
      refine OpR.imp op_rep fun x y H Q ⟨hw, hx, hy, hq⟩ => ?_
      obtain ⟨a, vs, rfl, na, ha, ra⟩ := rp_lst hx
      refine ⟨a, k, vs, rfl, rp_int hy, ha, hl.1, hl.2.1, by rw [← ra.length]; exact hl.2.2, fun q nq => hq _ _ (same_new nq) (.newLst hw nq (rps_rep ra _))⟩
    · cases he
  · cases he
theorem od_mod : OpD X (binaryOp .Mod) modD := opD_cases fun dx dy d p W he => by
  unfold modD at he
  split at he
  · split at he
    · cases he
      rename_i hl
      refine OpR.imp op_modN fun x y H Q ⟨hw, hx, hy, hq⟩ => ⟨_, _, rp_int hx, rp_int hy, hl, hq _ _ (Same.refl H) (.mkInt _)⟩
    · cases he
  · cases he
theorem od_fdiv : OpD X (binaryOp .FloorDiv) fdivD := opD_cases fun dx dy d p W he => by
  unfold fdivD at he
  split at he
  · split at he
    · cases he
      rename_i hl
      refine OpR.imp op_fdivN fun x y H Q ⟨hw, hx, hy, hq⟩ => ⟨_, _, rp_int hx, rp_int hy, hl, hq _ _ (Same.refl H) (.mkInt _)⟩
    · split at he
      · cases he
        rename_i hl
        refine OpR.imp op_fdivW fun x y H Q ⟨hw, hx, hy, hq⟩ => ⟨_, _, rp_int hx, rp_int hy, hl, hq _ _ (Same.refl H) (.mkInt _)⟩
      · cases he
  · cases he

def ltD : D → D → Option D
  | .int a, .int b => some (.bl (decide (a < b)))
  | _, _ => none
def leD : D → D → Option D
  | .int a, .int b => some (.bl (decide (a ≤ b)))
  | _, _ => none
def gtD : D → D → Option D
  | .int a, .int b => some (.bl (decide (b < a)))
  | _, _ => none
def geD : D → D → Option D
  | .int a, .int b => some (.bl (decide (b ≤ a)))
  | _, _ => none
theorem od_lt : OpD X (compareOp .Lt) ltD := opD_cases fun dx dy d p W he => by
  unfold ltD at he
  split at he
  · cases he
    exact OpR.imp op_lt fun x y H Q ⟨hw, hx, hy, hq⟩ => ⟨_, _, rp_int hx, rp_int hy, hq _ _ (Same.refl H) (.mkBl _)⟩
  · cases he
theorem od_le : OpD X (compareOp .LtE) leD := opD_cases fun dx dy d p W he => by
  unfold leD at he
  split at he
  · cases he
    exact OpR.imp op_le fun x y H Q ⟨hw, hx, hy, hq⟩ => ⟨_, _, rp_int hx, rp_int hy, hq _ _ (Same.refl H) (.mkBl _)⟩
  · cases he
theorem od_gt : OpD X (compareOp .Gt) gtD := opD_cases fun dx dy d p W he => by
  unfold gtD at he
  split at he
  · cases he
    exact OpR.imp op_gt fun x y H Q ⟨hw, hx, hy, hq⟩ => ⟨_, _, rp_int hx, rp_int hy, hq _ _ (Same.refl H) (.mkBl _)⟩
  · cases he
theorem od_ge : OpD X (compareOp .GtE) geD := opD_cases fun dx dy d p W he => by
  unfold geD at he
  split at he
  · cases he
    exact OpR.imp op_ge fun x y H Q ⟨hw, hx, hy, hq⟩ => ⟨_, _, rp_int hx, rp_int hy, hq _ _ (Same.refl H) (.mkBl _)⟩
  · cases he

mutual
def D.py : D → PyData
  | .non => .none
  | .bl b => .bool b
  | .int i => .int i
  | .str s => .str s
  | .tup ds => .tuple (D.pys ds)
  | .lst ds => .list (D.pys ds)
  | .rng _ _ => .dict []
  | .src => .dict []
  | .dct _ _ => .dict []
  | .dtt _ _ => .dict []
def D.pys : List D → List PyData
  | [] => []
  | d :: ds => d.py :: D.pys ds
end
theorem pys_map : ∀ ds : List D, D.pys ds = ds.map D.py
  | [] => by simp [D.pys]
  | d :: ds => by simp [D.pys, pys_map ds]
mutual
theorem Rp.dp {p : Addr} {W : AP} {H : Hp} {K : PySem.W.Frag} : ∀ (d : D) (v : V), Rp p W H d v → d.py.canLay0 = true → Dp K H v d.py
  | .non, _, h, _ => by rw [rp_non h]; exact .non
  | .bl _, _, h, _ => by rw [rp_bl h]; exact .bl _
  | .int _, _, h, _ => by rw [rp_int h]; exact .int _
  | .str _, _, h, _ => by rw [rp_str h]; exact .str _
  | .tup ds, _, h, hc => by
    obtain ⟨a, vs, rfl, n, ha, r⟩ := rp_tup h
    simp only [D.py, PyData.canLay0] at hc ⊢
    exact .tup (SqT.of ha) (Rps.dp ds vs r hc)
  | .lst ds, _, h, hc => by
    obtain ⟨a, vs, rfl, n, ha, r⟩ := rp_lst h
    simp only [D.py, PyData.canLay0] at hc ⊢
    exact .lst (SqL.of ha) (Rps.dp ds vs r hc)
  | .rng _ _, _, _, hc => by simp [D.py, PyData.canLay0] at hc
  | .src, _, _, hc => by simp [D.py, PyData.canLay0] at hc
  | .dct _ _, _, _, hc => by simp [D.py, PyData.canLay0] at hc
  | .dtt _ _, _, _, hc => by simp [D.py, PyData.canLay0] at hc
theorem Rps.dp {p : Addr} {W : AP} {H : Hp} {K : PySem.W.Frag} : ∀ (ds : List D) (vs : List V), Rps p W H ds vs → PyData.canLayAll0 (D.pys ds) = true → DpAll K H vs (D.pys ds)
  | [], _, h, _ => by
    simp only [Rps] at h; subst h
    simp only [D.pys]; exact .nil
  | d :: ds, _, h, hc => by
    simp only [Rps] at h
    obtain ⟨v, r, rfl, h1, h2⟩ := h
    simp only [D.pys, PyData.canLayAll0, Bool.and_eq_true] at hc ⊢
    exact .cons (Rp.dp d v h1 hc.1) (Rps.dp ds r h2 hc.2)
end
def eqD (a b : D) : Option D := if SeqAt.shaped a.py = true ∧ SeqAt.shaped b.py = true then some (.bl (PyData.eqv a.py b.py)) else none
def neD (a b : D) : Option D := if SeqAt.shaped a.py = true ∧ SeqAt.shaped b.py = true then some (.bl (!PyData.eqv a.py b.py)) else none
theorem od_eq (hu : X.A.units + 64 < cLine) : OpD X (compareOp .Eq) eqD := opD_cases fun dx dy d p W he => by
  unfold eqD at he
  split at he
  · cases he
    rename_i hs
    exact OpR.imp (op_eqD hu) fun x y H Q ⟨hw, hx, hy, hq⟩ => ⟨_, _, hx.dp _ _ (SeqAt.canLay_of_shaped hs.1), hy.dp _ _ (SeqAt.canLay_of_shaped hs.2), hs.1, hs.2, hq _ _ (Same.refl H) (.mkBl _)⟩
  · cases he
theorem od_ne (hu : X.A.units + 64 < cLine) : OpD X (compareOp .NotEq) neD := opD_cases fun dx dy d p W he => by
  unfold neD at he
  split at he
  · cases he
    rename_i hs
    exact OpR.imp (op_neD hu) fun x y H Q ⟨hw, hx, hy, hq⟩ => ⟨_, _, hx.dp _ _ (SeqAt.canLay_of_shaped hs.1), hy.dp _ _ (SeqAt.canLay_of_shaped hs.2), hs.1, hs.2, hq _ _ (Same.refl H) (.mkBl _)⟩
  · cases he

def isND : D → D → Option D
  | .non, .non => some (.bl true)
  | _, .non => some (.bl false)
  | _, _ => none
def notND : D → D → Option D
  | .non, .non => some (.bl false)
  | _, .non => some (.bl true)
  | _, _ => none
theorem Rp.isNon {p : Addr} {W : AP} {H : Hp} {d : D} {v : V} (h : Rp p W H d v) : decide (v = .non) = (match d with | .non => true | _ => false) := by
  cases d <;> simp only [Rp] at h
  case non => subst h; rfl
  case bl => subst h; rfl
  case int => subst h; rfl
  case str => subst h; rfl
  case src => subst h; rfl
  all_goals
    obtain ⟨a, h⟩ := h
    first
      | (obtain ⟨rfl, _⟩ := h; rfl)
      | (obtain ⟨_, rfl, _⟩ := h; rfl)
theorem od_isN : OpD X (compareOp .Is) isND := opD_cases fun dx dy d p W he => by
  unfold isND at he
  split at he
  · cases he
    exact OpR.imp op_isN fun x y H Q ⟨hw, hx, hy, hq⟩ => ⟨rp_non hy, by rw [hx.isNon]; exact hq _ _ (Same.refl H) (.mkBl _)⟩
  · cases he
    rename_i hn
    refine OpR.imp op_isN fun x y H Q ⟨hw, hx, hy, hq⟩ => ⟨rp_non hy, ?_⟩
    rw [hx.isNon]
    cases dx <;> first | exact hq _ _ (Same.refl H) (.mkBl _) | exact absurd rfl (hn rfl) | exact absurd rfl hn | simp at hn
  · cases he
theorem od_notN : OpD X (compareOp .IsNot) notND := opD_cases fun dx dy d p W he => by
  unfold notND at he
  split at he
  · cases he
    exact OpR.imp op_notN fun x y H Q ⟨hw, hx, hy, hq⟩ => ⟨rp_non hy, by rw [hx.isNon]; exact hq _ _ (Same.refl H) (.mkBl _)⟩
  · cases he
    rename_i hn
    refine OpR.imp op_notN fun x y H Q ⟨hw, hx, hy, hq⟩ => ⟨rp_non hy, ?_⟩
    rw [hx.isNon]
    cases dx <;> first | exact hq _ _ (Same.refl H) (.mkBl _) | exact absurd rfl (hn rfl) | exact absurd rfl hn | simp at hn
  · cases he
end
end GH

namespace GH
open PySem PySem.Spec PyProof.Rows L2

section
variable {X : Cx} {a b c e : Expr} {es : List Expr} {pos : Pos} {ma mb mc m : M D} {ms : M (List D)}

def eBin (f : D → D → Option D) (ma mb : M D) : M D := bnd ma fun x => bnd mb fun y => lift (f x y)
theorem bin_go {B : Bs} {f : D → D → Option D} {σ : Sg} {H : Hp} {Q : VK} (h : tI B (eBin f ma mb) σ H Q) : tOp (rB f) (tI B ma) (tI B mb) σ H Q := by
  obtain ⟨s, d, s', k, e, q⟩ := h
  refine tI.bind k e fun dx s1 x H1 h1 e1 k1 ev1 r1 => ?_
  refine tI.bind k1 e1 fun dy s2 y H2 h2 e2 k2 ev2 r2 => ?_
  obtain ⟨e3, rfl⟩ := lift_some e2
  exact ⟨B.p, _, dx, dy, d, k2.wt, r1.ev ev2, r2, e3, fun v H' sm r => q v H' (k2.same sm) ((ev1.trans ev2).trans (Ev.same sm)) r⟩
theorem s_bin {op : Operator} {f : D → D → Option D} (ho : OpD X (binaryOp op) f) (ha : SE X a ma) (hb : SE X b mb) : SE X (.BinOp a op b pos) (eBin f ma mb) :=
  ⟨fun B => PE.imp (pe_op ho (ha.pe B) (hb.pe B)) fun σ H Q h => bin_go h⟩
theorem s_cmp {op : CmpOp} {f : D → D → Option D} (ho : OpD X (compareOp op) f) (ha : SE X a ma) (hb : SE X b mb) (hm : behindInMarks op b = false := by first | exact nobehind _ (by decide) (by decide) | rfl) : SE X (.Compare a [op] [b] pos) (eBin f ma mb) :=
  ⟨fun B => PE.imp (pe_cmpR ho (ha.pe B) (hb.pe B) hm) fun σ H Q h => bin_go h⟩
/-- a True or False as a test -/
def tst (m : M D) : M Bool := bnd m fun d => match d with
  | .bl b => ret b
  | _ => fail
theorem t_cmp {op : CmpOp} {f : D → D → Option D} (ho : OpD X (compareOp op) f) (ha : SE X a ma) (hb : SE X b mb) (hm : behindInMarks op b = false := by first | exact nobehind _ (by decide) (by decide) | rfl) : ST X (.Compare a [op] [b] pos) (tst (eBin f ma mb)) :=
  ⟨fun B => PT.imp (pt_cmpR ho (ha.pe B) (hb.pe B) hm) fun σ H Q ⟨s, b', s', k, e, q⟩ => by
    obtain ⟨d, s1, h1, h2⟩ := bnd_some e
    cases d <;> simp only [fail] at h2 <;> try (cases h2; done)
    obtain ⟨rfl, rfl⟩ := ret_some h2
    refine bin_go ⟨s, _, _, k, h1, fun v H' k' ev r => ⟨_, rp_bl r, q H' k' ev⟩⟩⟩
/-- a value's truth -/
def truD : D → Option Bool
  | .non => some false
  | .bl b => some b
  | .int i => some (i != 0)
  | .str y => if y.length ≤ sizeLine then some ((y.length : Int) != 0) else none
  | .lst ds => some (!ds.isEmpty)
  | .tup ds => some (!ds.isEmpty)
  | _ => none
theorem isEmpty_len {α β : Type} {l : List α} {l' : List β} (h : l.length = l'.length) : l.isEmpty = l'.isEmpty := by
  cases l <;> cases l' <;> simp at h ⊢
theorem Rp.tru {p : Addr} {W : AP} {H : Hp} {K : PySem.W.Frag} {d : D} {v : V} {k : Bool} (r : Rp p W H d v) (h : truD d = some k) : TruV K v H k := by
  cases d <;> simp only [truD] at h
  case non => cases h; rw [rp_non r]; rfl
  case bl => cases h; rw [rp_bl r]; rfl
  case int => cases h; rw [rp_int r]; rfl
  case str =>
    split at h
    · cases h; rename_i hl; rw [rp_str r]; exact ⟨hl, rfl⟩
    · cases h
  case tup =>
    cases h
    obtain ⟨a, vs, rfl, _, ha, rs⟩ := rp_tup r
    exact .inr (.inl ⟨vs, SqT.of ha, by rw [isEmpty_len rs.length]⟩)
  case lst =>
    cases h
    obtain ⟨a, vs, rfl, _, ha, rs⟩ := rp_lst r
    exact .inl ⟨vs, SqL.of ha, by rw [isEmpty_len rs.length]⟩
  all_goals cases h
def tru (m : M D) : M Bool := bnd m fun d => lift (truD d)
theorem t_of (ha : SE X a ma) (he : ∀ whole, isTrue a X.env whole = (do let v ← whole; standAt a.pos; holding [v] (truthy v)) := by intro _; rfl) : ST X a (tru ma) :=
  ⟨fun B => PT.imp (pt_truth (ha.pe B) he) fun σ H Q ⟨s, b', s', k, e, q⟩ => by
    refine tI.bind k e fun dx s1 x H1 h1 e1 k1 ev1 r1 => ?_
    obtain ⟨e3, rfl⟩ := lift_some e1
    exact ⟨b', r1.tru e3, q H1 k1 ev1⟩⟩
structure SW (X : Cx) (e : Expr) (m : M Bool) : Prop where
  pw : ∀ B, PW X e (tT B m)
theorem PW.imp {X : Cx} {e : Expr} {t t' : TT} (h : PW X e t) (f : ∀ σ H Q, t' σ H Q → t σ H Q) : PW X e t' := ⟨fun wh pins s σ H Q I q => h.run wh pins s σ H Q I (f _ _ _ q)⟩
theorem SW.t {e : Expr} {m : M Bool} (h : SW X e m) : ST X e m := ⟨fun B => (h.pw B).pt⟩
def tAnd2 (m n : M Bool) : M Bool := bnd m fun b => if b = true then n else ret false
def tOr2 (m n : M Bool) : M Bool := bnd m fun b => if b = true then ret true else n
def tNot1 (m : M Bool) : M Bool := bnd m fun b => ret (!b)
theorem w_and1 {m : M Bool} (h : ST X a m) : SW X (.BoolOp .And [a] pos) m := ⟨fun B => pw_and1 (h.pt B)⟩
theorem w_or1 {m : M Bool} (h : ST X a m) : SW X (.BoolOp .Or [a] pos) m := ⟨fun B => pw_or1 (h.pt B)⟩
theorem w_and {m n : M Bool} (ha : ST X a m) (hb : SW X (.BoolOp .And (b :: es) pos) n) : SW X (.BoolOp .And (a :: b :: es) pos) (tAnd2 m n) :=
  ⟨fun B => PW.imp (pw_and (ha.pt B) (hb.pw B)) fun σ H Q ⟨s, b', s', k, e, q⟩ => by
    refine tT.bind k e fun d s1 H1 h1 e1 k1 ev1 => ?_
    cases d with
    | true => exact ⟨s1, b', s', k1, e1, fun H2 k2 ev2 => q H2 k2 (ev1.trans ev2)⟩
    | false =>
      obtain ⟨rfl, rfl⟩ := ret_some e1
      exact q H1 k1 ev1⟩
theorem w_or {m n : M Bool} (ha : ST X a m) (hb : SW X (.BoolOp .Or (b :: es) pos) n) : SW X (.BoolOp .Or (a :: b :: es) pos) (tOr2 m n) :=
  ⟨fun B => PW.imp (pw_or (ha.pt B) (hb.pw B)) fun σ H Q ⟨s, b', s', k, e, q⟩ => by
    refine tT.bind k e fun d s1 H1 h1 e1 k1 ev1 => ?_
    cases d with
    | false => exact ⟨s1, b', s', k1, e1, fun H2 k2 ev2 => q H2 k2 (ev1.trans ev2)⟩
    | true =>
      obtain ⟨rfl, rfl⟩ := ret_some e1
      exact q H1 k1 ev1⟩
theorem t_not {m : M Bool} (ha : ST X a m) : ST X (.UnaryOp .Not a pos) (tNot1 m) :=
  ⟨fun B => PT.imp (pt_not (ha.pt B)) fun σ H Q ⟨s, b', s', k, e, q⟩ => by
    refine tT.bind k e fun d s1 H1 h1 e1 k1 ev1 => ?_
    obtain ⟨rfl, rfl⟩ := ret_some e1
    exact q H1 k1 ev1⟩
/-- .. as values -/
def eAnd (ma mb : M D) : M D := bnd ma fun x => bnd (lift (truD x)) fun b => if b = true then mb else ret x
def eOr (ma mb : M D) : M D := bnd ma fun x => bnd (lift (truD x)) fun b => if b = true then ret x else mb
def eNot (ma : M D) : M D := bnd ma fun x => bnd (lift (truD x)) fun b => ret (.bl (!b))
theorem s_one {op} (h : SE X a ma) : SE X (.BoolOp op [a] pos) ma := ⟨fun B => pe_one (h.pe B)⟩
theorem s_and (ha : SE X a ma) (hb : SE X (.BoolOp .And (b :: es) pos) mb) : SE X (.BoolOp .And (a :: b :: es) pos) (eAnd ma mb) :=
  ⟨fun B => PE.imp (pe_andT (ha.pe B) (hb.pe B)) fun σ H Q ⟨s, d, s', k, e, q⟩ => by
    refine tI.bind k e fun dx s1 x H1 h1 e1 k1 ev1 r1 => ?_
    obtain ⟨t, s2, e2, e3⟩ := bnd_some e1
    obtain ⟨e4, rfl⟩ := lift_some e2
    refine ⟨t, r1.tru e4, ?_⟩
    cases t with
    | true => exact ⟨s2, d, s', k1, e3, fun v H2 k2 ev2 r2 => q v H2 k2 (ev1.trans ev2) r2⟩
    | false =>
      obtain ⟨rfl, rfl⟩ := ret_some e3
      exact q x H1 k1 ev1 r1⟩
theorem s_or (ha : SE X a ma) (hb : SE X (.BoolOp .Or (b :: es) pos) mb) : SE X (.BoolOp .Or (a :: b :: es) pos) (eOr ma mb) :=
  ⟨fun B => PE.imp (pe_orT (ha.pe B) (hb.pe B)) fun σ H Q ⟨s, d, s', k, e, q⟩ => by
    refine tI.bind k e fun dx s1 x H1 h1 e1 k1 ev1 r1 => ?_
    obtain ⟨t, s2, e2, e3⟩ := bnd_some e1
    obtain ⟨e4, rfl⟩ := lift_some e2
    refine ⟨t, r1.tru e4, ?_⟩
    cases t with
    | false => exact ⟨s2, d, s', k1, e3, fun v H2 k2 ev2 r2 => q v H2 k2 (ev1.trans ev2) r2⟩
    | true =>
      obtain ⟨rfl, rfl⟩ := ret_some e3
      exact q x H1 k1 ev1 r1⟩
theorem s_not (ha : SE X a ma) : SE X (.UnaryOp .Not a pos) (eNot ma) :=
  ⟨fun B => PE.imp (pe_notT (ha.pe B)) fun σ H Q ⟨s, d, s', k, e, q⟩ => by
    refine tI.bind k e fun dx s1 x H1 h1 e1 k1 ev1 r1 => ?_
    obtain ⟨t, s2, e2, e3⟩ := bnd_some e1
    obtain ⟨e4, rfl⟩ := lift_some e2
    obtain ⟨rfl, rfl⟩ := ret_some e3
    exact ⟨t, r1.tru e4, q _ H1 k1 ev1 (.mkBl _)⟩⟩
def eIf (t : M Bool) (ma mb : M D) : M D := bnd t fun b => if b = true then ma else mb
theorem s_if {t : M Bool} (hc : ST X c t) (ha : SE X a ma) (hb : SE X b mb) : SE X (.IfExp c a b pos) (eIf t ma mb) :=
  ⟨fun B => PE.imp (pe_ifExp (hc.pt B) (ha.pe B) (hb.pe B)) fun σ H Q ⟨s, d, s', k, e, q⟩ => by
    refine tT.bind k e fun t s1 H1 h1 e1 k1 ev1 => ?_
    cases t with
    | true => exact ⟨s1, d, s', k1, e1, fun v H2 k2 ev2 r2 => q v H2 k2 (ev1.trans ev2) r2⟩
    | false => exact ⟨s1, d, s', k1, e1, fun v H2 k2 ev2 r2 => q v H2 k2 (ev1.trans ev2) r2⟩⟩
def negD : D → Option D
  | .int i => some (.int (-i))
  | _ => none
def eUn (f : D → Option D) (ma : M D) : M D := bnd ma fun x => lift (f x)
theorem s_neg (ha : SE X a ma) : SE X (.UnaryOp .USub a pos) (eUn negD ma) :=
  ⟨fun B => PE.imp (pe_un un_neg (ha.pe B)) fun σ H Q ⟨s, d, s', k, e, q⟩ => by
    refine tI.bind k e fun dx s1 x H1 h1 e1 k1 ev1 r1 => ?_
    obtain ⟨e3, rfl⟩ := lift_some e1
    cases dx <;> simp only [negD] at e3 <;> cases e3
    exact ⟨_, rp_int r1, q _ H1 k1 ev1 (.mkInt _)⟩⟩

def aNil : M (List D) := ret []
def aCons (m : M D) (ms : M (List D)) : M (List D) := bnd m fun d => bnd ms fun ds => ret (d :: ds)
def seqD : D → Option (List D)
  | .tup ds => some ds
  | .lst ds => some ds
  | _ => none
def aStar (m : M D) (ms : M (List D)) : M (List D) := bnd m fun d => bnd (lift (seqD d)) fun xs => bnd ms fun ds => ret (xs ++ ds)
theorem a_nil : SA X [] aNil := ⟨fun B => PA.imp pa_nil fun σ H Q ⟨s, d, s', k, e, q⟩ => by
  obtain ⟨rfl, rfl⟩ := ret_some e
  exact q [] H k Ev.refl .nil⟩
theorem a_cons (ha : SE X e m) (hr : SA X es ms) (hs : starEach (e :: es) X.env = (false, eval e X.env) :: starEach es X.env := by rfl) : SA X (e :: es) (aCons m ms) :=
  ⟨fun B => PA.imp (pa_cons (ha.pe B) (hr.pa B) hs) fun σ H Q ⟨s, d, s', k, e, q⟩ => by
    refine tI.bind k e fun dx s1 x H1 h1 e1 k1 ev1 r1 => ?_
    refine tA.bind k1 e1 fun ds s2 vs H2 h2 e2 k2 ev2 r2 => ?_
    obtain ⟨rfl, rfl⟩ := ret_some e2
    exact q _ H2 k2 (ev1.trans ev2) (.cons (r1.ev ev2) r2)⟩
theorem a_star {sp : Pos} (ha : SE X e m) (hr : SA X es ms) (hs : starEach (.Starred e sp :: es) X.env = (true, eval e X.env) :: starEach es X.env := by rfl) : SA X (.Starred e sp :: es) (aStar m ms) :=
  ⟨fun B => PA.imp (StX.pa_star (ha.pe B) (hr.pa B) hs) fun σ H Q ⟨s, d, s', k, e, q⟩ => by
    refine tI.bind k e fun dx s1 x H1 h1 e1 k1 ev1 r1 => ?_
    obtain ⟨xs, s2, e2, e3⟩ := bnd_some e1
    obtain ⟨e2, rfl⟩ := lift_some e2
    have go : ∀ a vs, x = .ref a → H1 a = some (.tup vs) ∨ H1 a = some (.lst vs) → Rps B.p (B.W s2.env σ) H1 xs vs → StX.tStar X.K (fun σ H Q => Q x H) (tA B ms) σ H1 Q := fun a vs ex ha r => by
      refine ⟨a, vs, ex, ha.elim (fun z => .inl (SqT.of z)) (fun z => .inr (SqL.of z)), ?_⟩
      refine tA.bind k1 e3 fun ds s3 us H3 h3 e4 k3 ev3 r3 => ?_
      obtain ⟨rfl, rfl⟩ := ret_some e4
      exact q _ H3 k3 (ev1.trans ev3) ((r.ev ev3).append r3)
    cases dx <;> simp only [seqD] at e2 <;> cases e2
    · obtain ⟨a, vs, rfl, _, ha, r⟩ := rp_tup r1
      exact go a vs rfl (.inl ha) r
    · obtain ⟨a, vs, rfl, _, ha, r⟩ := rp_lst r1
      exact go a vs rfl (.inr ha) r⟩

def eTup (ms : M (List D)) : M D := bnd ms fun ds => if ds.length ≤ sizeLine then ret (.tup ds) else fail
theorem s_tup {x1} (h : SA X es ms) : SE X (.Tuple es x1 pos) (eTup ms) :=
  ⟨fun B => PE.imp (pe_tup (h.pa B)) fun σ H Q ⟨s, d, s', k, e, q⟩ => by
    refine tA.bind k e fun ds s1 vs H1 h1 e1 k1 ev1 r1 => ?_
    split at e1
    · rename_i hl
      obtain ⟨rfl, rfl⟩ := ret_some e1
      exact ⟨by rw [← r1.length]; exact hl, fun p np => q _ _ (k1.same (same_new np)) (ev1.trans (Ev.same (same_new np))) (.newTup k1.wt np r1)⟩
    · cases e1⟩
/-- a new list's own address guarded too -/
theorem StOk.plus {B : Bs} {σ : Sg} {H : Hp} {s : S} {a : Addr} {o : HO} (k : StOk B σ H s) (n : H a = none) (nt : NoTup o := by intro _ z; cases z) : StOk (B.plus a) σ (upd H a o) s ∧ Ev (B.W s.env σ) H ((B.plus a).W s.env σ) (upd H a o) := by
  have sm : Same H (upd H a o) := same_new n
  have ne : ∀ b x, H b = some x → b ≠ a := fun b x h => ne_of_none h n
  have ev : Ev (B.W s.env σ) H ((B.plus a).W s.env σ) (upd H a o) := fun b x h hn => ⟨sm b x h, by
    rintro ((z | z) | z)
    · exact hn (.inl z)
    · exact ne b x h z
    · exact hn (.inr z)⟩
  refine ⟨⟨k.len, fun i d h => ?_, fun i sl h ho => ?_, k.sep, k.src.same sm, fun b x h h1 h2 => sm b x (k.keep b x h h1 h2), fun b h => ?_, .inl k.wp, .inl k.wcc⟩, ev⟩
  · obtain ⟨v, h1, h2⟩ := k.val i d h
    exact ⟨v, h1, h2.ev ev⟩
  · obtain ⟨b, x, h1, h2, h3, h4, h5⟩ := k.own i sl h ho
    refine ⟨b, x, h1, sm _ _ h2, h3.ev ev, h4, ?_⟩
    rintro (z | z)
    · exact h5 z
    · exact ne b x h2 z
  · rcases h with z | z
    · obtain ⟨x, h1, h2⟩ := k.wc b z
      exact ⟨x, sm _ _ h1, h2⟩
    · subst z
      exact ⟨o, upd_same, nt⟩
theorem l_disp (h : SA X es ms) : SL X (.List es pos) (bnd ms fun ds => if ds.length ≤ sizeLine then ret ds else fail) :=
  ⟨fun B => PE.imp (pe_lst (h.pa B)) fun σ H Q ⟨s, d, s', k, e, q⟩ => by
    refine tA.bind k e fun ds s1 vs H1 h1 e1 k1 ev1 r1 => ?_
    split at e1
    · rename_i hl
      obtain ⟨rfl, rfl⟩ := ret_some e1
      refine ⟨by rw [← r1.length]; exact hl, fun p np => ?_⟩
      obtain ⟨kp, ev⟩ := k1.plus (o := .lst vs) np
      exact q p vs _ kp (ev1.trans ev) (k1.new np) (k1.wt.new np) upd_same (r1.ev ev)
    · cases e1⟩
end
end GH

namespace GH
open PySem PySem.Spec PyProof.Rows L2

theorem StOk.set {B : Bs} {σ : Sg} {H : Hp} {s : S} {i : Nat} {d : D} {v : V} (k : StOk B σ H s) (hi : i < s.env.length) (r : Rp B.p (B.W s.env σ) H d v) :
    StOk B (σ.set i (some v)) H { s with env := s.env.set i (some (.val d)) } ∧ Ev (B.W s.env σ) H (B.W (s.env.set i (some (.val d))) (σ.set i (some v))) H := by
  have hiσ : i < σ.length := by rw [← k.len]; exact hi
  have sub : ∀ b, B.W (s.env.set i (some (.val d))) (σ.set i (some v)) b → B.W s.env σ b := fun b hb => by
    rcases hb with hb | ⟨j, sl', e1, e2, e3⟩
    · exact .inl hb
    · by_cases hj : i = j
      · subst hj
        rw [List.getElem?_set_self hi] at e1
        cases e1; cases e2
      · rw [List.getElem?_set_ne hj] at e1 e3
        exact .inr ⟨j, sl', e1, e2, e3⟩
  have ev : Ev (B.W s.env σ) H (B.W (s.env.set i (some (.val d))) (σ.set i (some v))) H := Ev.less sub
  refine ⟨⟨by simpa using k.len, fun j d' h => ?_, fun j sl' h h' => ?_, fun j1 j2 sl1 sl2 b h1 o1 h2 o2 q1 q2 => ?_, k.src, k.keep, k.wc, k.wp, k.wcc⟩, ev⟩
  · by_cases hj : i = j
    · subst hj
      have h : (s.env.set i (some (.val d)))[i]? = _ := h
      rw [List.getElem?_set_self hi] at h
      cases h
      exact ⟨v, List.getElem?_set_self hiσ, r.ev ev⟩
    · have h : (s.env.set i (some (.val d)))[j]? = _ := h
      rw [List.getElem?_set_ne hj] at h ⊢
      obtain ⟨v, h1, h2⟩ := k.val j d' h
      exact ⟨v, h1, h2.ev ev⟩
  · have h : (s.env.set i (some (.val d)))[j]? = _ := h
    by_cases hj : i = j
    · subst hj
      rw [List.getElem?_set_self hi] at h
      cases h; cases h'
    · rw [List.getElem?_set_ne hj] at h ⊢
      obtain ⟨b, o, h1, h2, h3, h4⟩ := k.own j sl' h h'
      exact ⟨b, o, h1, h2, h3.ev ev, h4⟩
  · have h1 : (s.env.set i (some (.val d)))[j1]? = _ := h1
    have h2 : (s.env.set i (some (.val d)))[j2]? = _ := h2
    by_cases e1 : i = j1
    · subst e1
      rw [List.getElem?_set_self hi] at h1
      cases h1; cases o1
    · by_cases e2 : i = j2
      · subst e2
        rw [List.getElem?_set_self hi] at h2
        cases h2; cases o2
      · rw [List.getElem?_set_ne e1] at h1 q1
        rw [List.getElem?_set_ne e2] at h2 q2
        exact k.sep j1 j2 sl1 sl2 b h1 o1 h2 o2 q1 q2

def tG (B : Bs) (is : List Nat) (g : D → M Unit) : TG := fun v σ H Q => ∃ s d s', StOk B σ H s ∧ Rp B.p (B.W s.env σ) H d v ∧ g d s = some ((), s') ∧
  ∀ σ', StOk B σ' H s' → Ev (B.W s.env σ) H (B.W s'.env σ') H → (∀ vs : List Nat, (∀ i ∈ is, i ∈ vs) → wipe σ' vs = wipe σ vs) → Q σ' H
def tGs (B : Bs) (is : List Nat) (g : List D → M Unit) : TGs := fun vs σ H Q => ∃ s ds s', StOk B σ H s ∧ Rps B.p (B.W s.env σ) H ds vs ∧ g ds s = some ((), s') ∧
  ∀ σ', StOk B σ' H s' → Ev (B.W s.env σ) H (B.W s'.env σ') H → (∀ vs : List Nat, (∀ i ∈ is, i ∈ vs) → wipe σ' vs = wipe σ vs) → Q σ' H
structure SG (X : Cx) (tg : Expr) (is : List Nat) (g : D → M Unit) : Prop where
  pg : ∀ B, PG X tg (tG B is g)
structure SGs (X : Cx) (tg : List Expr) (is : List Nat) (g : List D → M Unit) : Prop where
  pg : ∀ B, PGs X tg (tGs B is g)
theorem PG.imp {X : Cx} {e : Expr} {t t' : TG} (h : PG X e t) (f : ∀ v σ H Q, t' v σ H Q → t v σ H Q) : PG X e t' := ⟨fun pins s σ H v u Q I r q => h.run pins s σ H v u Q I r (f _ _ _ _ q)⟩
theorem PGs.imp {X : Cx} {e : List Expr} {t t' : TGs} (h : PGs X e t) (f : ∀ v σ H Q, t' v σ H Q → t v σ H Q) : PGs X e t' := ⟨fun pins s σ H v u Q I r q => h.run pins s σ H v u Q I r (f _ _ _ _ q)⟩
theorem wipe_set_mem {σ : Sg} {i : Nat} {v : Option V} : ∀ {vs : List Nat}, i ∈ vs → wipe (σ.set i v) vs = wipe σ vs
  | [], h => by simp at h
  | j :: vs, h => by
    unfold wipe
    by_cases e : i ∈ vs
    · rw [wipe_set_mem e]
    · have hj : i = j := by
        rcases List.mem_cons.mp h with h | h
        · exact h
        · exact absurd h e
      subst hj
      have : ∀ (vs : List Nat), i ∉ vs → (wipe (σ.set i v) vs).set i none = (wipe σ vs).set i none := fun vs => by
        induction vs with
        | nil => intro _; unfold wipe; rw [List.set_set]
        | cons w ws ih =>
          intro hn
          have h1 : i ≠ w := fun q => hn (q ▸ List.mem_cons_self)
          have h2 : i ∉ ws := fun q => hn (List.mem_cons_of_mem _ q)
          unfold wipe
          rw [List.set_comm _ _ (Ne.symm h1), ih h2, List.set_comm _ _ h1]
      exact this vs e
def gN (i : Nat) : D → M Unit := fun d s => if i < s.env.length then some ((), { s with env := s.env.set i (some (.val d)) }) else none
def gNil : List D → M Unit
  | [] => ret ()
  | _ => fail
def gCons (g : D → M Unit) (gs : List D → M Unit) : List D → M Unit
  | d :: r => bnd (g d) fun _ => gs r
  | [] => fail
def gT (gs : List D → M Unit) : D → M Unit
  | .tup ds => gs ds
  | _ => fail
section
variable {X : Cx} {e : Expr} {es : List Expr} {pos : Pos}
theorem g_name {i : Nat} {x : Str} (hN : X.N.Nodup) (hi : X.N[i]? = some x) (hx : Loc X.env.scope x) (hf : X.fn x = true ∨ X.env.scope.names.lookup x = some .local := by first | exact .inl rfl | exact .inr rfl | assumption) : SG X (.Name x pos) [i] (gN i) :=
  ⟨fun B => PG.imp (pg_name hN hi hx hf) fun v σ H Q ⟨s, d, s', k, r, e, q⟩ => by
    unfold gN at e
    split at e
    · rename_i hl
      cases e
      obtain ⟨k', ev⟩ := k.set hl r
      exact q _ k' ev fun vs h => wipe_set_mem (h i (by simp))
    · cases e⟩
theorem gs_nil : SGs X [] [] gNil := ⟨fun B => PGs.imp pgs_nil fun v σ H Q ⟨s, ds, s', k, r, e, q⟩ => by
  cases ds with
  | nil =>
    simp only [Rps] at r
    simp only [gNil, ret] at e
    cases e
    exact ⟨r, q σ k Ev.refl fun _ _ => rfl⟩
  | cons d ds => simp [gNil, fail] at e⟩
theorem gs_cons {is js : List Nat} {g : D → M Unit} {gs : List D → M Unit} (h1 : SG X e is g) (h2 : SGs X es js gs) (hs : (assignEach (e :: es) X.env).map (·.2) = assign e X.env :: (assignEach es X.env).map (·.2) := by rfl) : SGs X (e :: es) (is ++ js) (gCons g gs) :=
  ⟨fun B => PGs.imp (pgs_cons (h1.pg B) (h2.pg B) hs) fun vs σ H Q ⟨s, ds, s', k, r, e, q⟩ => by
    cases ds with
    | nil => simp [gCons, fail] at e
    | cons d ds =>
      simp only [Rps] at r
      obtain ⟨v, rest, rfl, r1, r2⟩ := r
      obtain ⟨_, s1, e1, e2⟩ := bnd_some e
      refine ⟨v, rest, rfl, s, d, s1, k, r1, e1, fun σ1 k1 ev1 w1 => ⟨s1, ds, s', k1, r2.ev ev1, e2, fun σ2 k2 ev2 w2 => q σ2 k2 (ev1.trans ev2) fun vs h => ?_⟩⟩
      rw [w2 vs fun i hi => h i (List.mem_append_right _ hi), w1 vs fun i hi => h i (List.mem_append_left _ hi)]⟩
theorem g_tup {is : List Nat} {k n : Nat} {gs : List D → M Unit} (hc : X.calm = true) (h : SGs X es is gs) (hn : (assignEach es X.env).length = n := by rfl) (hst : (assignEach es X.env).findIdx? (·.1) = none := by rfl)
    (hl : ∀ ds s, ds.length ≠ n → gs ds s = none) : SG X (.Tuple es k pos) is (gT gs) :=
  ⟨fun B => PG.imp (pg_tup (k := k) (pos := pos) hc (h.pg B) hn hst) fun v σ H Q ⟨s, d, s', k, r, e, q⟩ => by
    cases d <;> simp only [gT] at e <;> try (simp [fail] at e; done)
    rename_i ds
    obtain ⟨a, vs, rfl, _, ha, rs⟩ := rp_tup r
    have hlen : ds.length = n := by
      by_cases z : ds.length = n
      · exact z
      · rw [hl ds s z] at e; cases e
    exact ⟨a, vs, rfl, SqT.of ha, by rw [← rs.length]; exact hlen, s, ds, s', k, rs, e, q⟩⟩
end
theorem gNil_len : ∀ ds s, ds.length ≠ 0 → gNil ds s = none
  | [], _, h => absurd rfl h
  | _ :: _, _, _ => rfl
theorem gCons_len {g : D → M Unit} {gs : List D → M Unit} {n : Nat} (h : ∀ ds s, ds.length ≠ n → gs ds s = none) : ∀ ds s, ds.length ≠ n + 1 → gCons g gs ds s = none
  | [], _, _ => rfl
  | d :: ds, s, hn => by
    show bnd (g d) (fun _ => gs ds) s = none
    unfold bnd
    split
    · exact h ds _ (by simpa using hn)
    · rfl

/-- J walks ds, whatever happens to what may change -/
def WalkD (p : Addr) (W : AP) (H : Hp) (J : It) (ds : List D) : Prop := ∀ W2 H2, Ev W H W2 H2 → WT W2 H2 →
  (∀ i, i < ds.length → J.go i H2) ∧ J.stop ds.length H2 ∧ ∀ i d x H3, ds[i]? = some d → J.yld i H2 x H3 → Same H2 H3 ∧ Rp p W2 H3 d x
def tIt (B : Bs) (m : M (List D)) : TI := fun σ H R => ∃ s ds s', StOk B σ H s ∧ m s = some (ds, s') ∧
  ∀ J H', StOk B σ H' s' → Ev (B.W s.env σ) H (B.W s'.env σ) H' → WalkD B.p (B.W s'.env σ) H' J ds → R J H'
structure SI (X : Cx) (tg iter : Expr) (m : M (List D)) : Prop where
  pi : ∀ B, PI X tg iter (tIt B m)
theorem PI.imp {X : Cx} {tg e : Expr} {t t' : TI} (h : PI X tg e t) (f : ∀ σ H Q, t' σ H Q → t σ H Q) : PI X tg e t' := ⟨fun pins s σ H R I q => h.run pins s σ H R I (f _ _ _ q)⟩
theorem rp_get {p : Addr} {W : AP} {H : Hp} {ds : List D} {vs : List V} {i : Nat} {d : D} {x : V} (r : Rps p W H ds vs) (h : ds[i]? = some d) (hx : vs[i]? = some x) : Rp p W H d x := by
  obtain ⟨v, h1, h2⟩ := r.get h
  rw [hx] at h1; cases h1; exact h2
theorem walk_of {p : Addr} {W : AP} {H : Hp} {J : It} {vs : List V} {ds : List D} {G : Hp → Prop} (w : Walk J vs.length G (YAt vs)) (r : Rps p W H ds vs) (g : ∀ W2 H2, Ev W H W2 H2 → G H2) : WalkD p W H J ds := fun W2 H2 ev wt => by
  have hl := r.length
  refine ⟨fun i hi => w.goes i H2 (by omega) (g W2 H2 ev), by rw [hl]; exact w.stops H2 (g W2 H2 ev), fun i d x H3 hd y => ?_⟩
  obtain ⟨e, hx⟩ := w.yields i H2 x H3 (by have := (List.getElem?_eq_some_iff.mp hd).1; omega) (g W2 H2 ev) y
  subst e
  exact ⟨Same.refl _, rp_get (r.ev ev) hd hx⟩
/-- over a list or a tuple -/
def iSeq (m : M D) : M (List D) := bnd m fun d => lift (seqD d)
def lstD : D → Option (List D)
  | .lst ds => some ds
  | _ => none
def tupD : D → Option (List D)
  | .tup ds => some ds
  | _ => none
def iLst (m : M D) : M (List D) := bnd m fun d => lift (lstD d)
def iTup (m : M D) : M (List D) := bnd m fun d => lift (tupD d)
section
variable {X : Cx} {tg e a b : Expr} {m ma mb : M D}
theorem i_lst (h : SE X e m) : SI X tg e (iLst m) := ⟨fun B => PI.imp (pi_list (h.pe B)) fun σ H R ⟨s, ds, s', k, e, q⟩ => by
  refine tI.bind k e fun d s1 v H1 h1 e1 k1 ev1 r1 => ?_
  obtain ⟨e3, rfl⟩ := lift_some e1
  cases d <;> simp only [lstD] at e3 <;> cases e3
  obtain ⟨a, vs, rfl, na, ha, rs⟩ := rp_lst r1
  exact ⟨a, rfl, ⟨vs, SqL.of ha⟩, q _ H1 k1 ev1 (walk_of walk_list rs fun W2 H2 ev => SqL.of (ev a _ ha na).1)⟩⟩
theorem i_tup (h : SE X e m) : SI X tg e (iTup m) := ⟨fun B => PI.imp (pi_tup (h.pe B)) fun σ H R ⟨s, ds, s', k, e, q⟩ => by
  refine tI.bind k e fun d s1 v H1 h1 e1 k1 ev1 r1 => ?_
  obtain ⟨e3, rfl⟩ := lift_some e1
  cases d <;> simp only [tupD] at e3 <;> cases e3
  obtain ⟨a, vs, rfl, na, ha, rs⟩ := rp_tup r1
  exact ⟨a, rfl, ⟨vs, SqT.of ha⟩, q _ H1 k1 ev1 (walk_of walk_tup rs fun W2 H2 ev => SqT.of (ev a _ ha na).1)⟩⟩
/-- .. of either kind -/
def tOr (t u : TI) : TI := fun σ H R => t σ H R ∨ u σ H R
theorem pi_or {t u : TI} (h : PI X tg e t) (h' : PI X tg e u) : PI X tg e (tOr t u) := ⟨fun pins s σ H R I q => q.elim (h.run pins s σ H R I) (h'.run pins s σ H R I)⟩
theorem i_seq (h : SE X e m) : SI X tg e (iSeq m) := ⟨fun B => PI.imp (pi_or ((i_lst h).pi B) ((i_tup h).pi B)) fun σ H R ⟨s, ds, s', k, e, q⟩ => by
  obtain ⟨d, s1, h1, h2⟩ := bnd_some e
  obtain ⟨e3, rfl⟩ := lift_some h2
  cases d <;> simp only [seqD] at e3 <;> cases e3
  · exact .inr ⟨s, ds, s', k, by unfold iTup bnd; rw [h1]; rfl, q⟩
  · exact .inl ⟨s, ds, s', k, by unfold iLst bnd; rw [h1]; rfl, q⟩⟩
/-- range -/
def rngL (lo hi : Int) : List D := (List.range (hi - lo).toNat).map fun i => .int (lo + (i : Nat))
def okR (i : Int) : Prop := -(2 ^ 62) ≤ i ∧ i < 2 ^ 62
instance (i : Int) : Decidable (okR i) := by unfold okR; infer_instance
def iRg1 (m : M D) : M (List D) := bnd m fun d => match d with
  | .int j => if okR j then ret (rngL 0 j) else fail
  | _ => fail
def iRg2 (ma mb : M D) : M (List D) := bnd ma fun d => bnd mb fun e => match d, e with
  | .int i, .int j => if okR i ∧ okR j then ret (rngL i j) else fail
  | _, _ => fail
theorem walk_rng {p : Addr} {W : AP} {H : Hp} {lo hi : Int} : WalkD p W H (Itr lo (hi - lo).toNat) (rngL lo hi) := fun W2 H2 ev wt => by
  have hl : (rngL lo hi).length = (hi - lo).toNat := by simp [rngL]
  refine ⟨fun i h => walk_range.goes i H2 (by omega) trivial, by rw [hl]; exact walk_range.stops H2 trivial, fun i d x H3 hd y => ?_⟩
  obtain ⟨e, hx⟩ := walk_range.yields i H2 x H3 (by have := (List.getElem?_eq_some_iff.mp hd).1; omega) trivial y
  subst e
  subst hx
  refine ⟨Same.refl _, ?_⟩
  unfold rngL at hd
  rw [List.getElem?_map] at hd
  have hi' : i < (hi - lo).toNat := by
    have := (List.getElem?_eq_some_iff.mp (show ((List.range (hi - lo).toNat).map fun i => D.int (lo + (i : Nat)))[i]? = some d by rw [List.getElem?_map]; exact hd)).1
    simpa using this
  rw [List.getElem?_range hi'] at hd
  cases hd
  exact .mkInt _
theorem i_rg1 {p pos : Pos} (hg : Gl X "range") (hm : X.mg "range" = none) (ha : SE X a ma) (hn : starEach [a] X.env = (false, eval a X.env) :: starEach [] X.env := by rfl) (hs : starEach [a] X.env = [(false, eval a X.env)] := by rfl) : SI X tg (.Call (.Name "range" p) [a] [] pos) (iRg1 ma) :=
  ⟨fun B => PI.imp (pi_range1 hg hm (pa_cons (ha.pe B) pa_nil hn) hs) fun σ H R ⟨s, ds, s', k, e, q⟩ => by
    refine tI.bind k e fun d s1 v H1 h1 e1 k1 ev1 r1 => ?_
    cases d <;> simp only [fail] at e1 <;> try (cases e1; done)
    split at e1
    · rename_i j hj
      obtain ⟨rfl, rfl⟩ := ret_some e1
      refine ⟨j, by rw [rp_int r1], hj.1, hj.2, q _ H1 k1 ev1 ?_⟩
      have := walk_rng (p := B.p) (W := B.W s'.env σ) (H := H1) (lo := 0) (hi := j)
      simpa using this
    · cases e1⟩
theorem i_rg2 {p pos : Pos} (hg : Gl X "range") (hm : X.mg "range" = none) (ha : SE X a ma) (hb : SE X b mb) (hn : starEach [a, b] X.env = (false, eval a X.env) :: starEach [b] X.env := by rfl) (hn2 : starEach [b] X.env = (false, eval b X.env) :: starEach [] X.env := by rfl)
    (hs : starEach [a, b] X.env = [(false, eval a X.env), (false, eval b X.env)] := by rfl) (hs2 : starEach [b] X.env = [(false, eval b X.env)] := by rfl) : SI X tg (.Call (.Name "range" p) [a, b] [] pos) (iRg2 ma mb) :=
  ⟨fun B => PI.imp (pi_range2 hg hm (pa_cons (ha.pe B) (pa_cons (hb.pe B) pa_nil hn2) hn) hs hs2) fun σ H R ⟨s, ds, s', k, e, q⟩ => by
    refine tI.bind k e fun d s1 v H1 h1 e1 k1 ev1 r1 => ?_
    refine tI.bind k1 e1 fun d2 s2 v2 H2 h2 e2 k2 ev2 r2 => ?_
    cases d <;> cases d2 <;> (try simp only [fail] at e2) <;> try (cases e2; done)
    split at e2
    · rename_i i j hj
      obtain ⟨rfl, rfl⟩ := ret_some e2
      exact ⟨i, j, by rw [rp_int r1, rp_int r2], ⟨hj.1.1, hj.1.2, hj.2.1, hj.2.2⟩, q _ H2 k2 (ev1.trans ev2) walk_rng⟩
    · cases e2⟩
end

def wipeE (env : List (Option Sl)) : List Nat → List (Option Sl)
  | [] => env
  | v :: vs => (wipeE env vs).set v none
theorem wipeE_len (env : List (Option Sl)) : ∀ vs, (wipeE env vs).length = env.length
  | [] => rfl
  | v :: vs => by unfold wipeE; rw [List.length_set, wipeE_len env vs]
theorem wipeE_get {env : List (Option Sl)} {i : Nat} : ∀ {vs : List Nat}, i ∉ vs → (wipeE env vs)[i]? = env[i]?
  | [], _ => rfl
  | v :: vs, h => by
    unfold wipeE
    rw [List.getElem?_set_ne (by rintro rfl; exact h List.mem_cons_self), wipeE_get fun z => h (List.mem_cons_of_mem _ z)]
theorem wipe_get {σ : Sg} {i : Nat} : ∀ {vs : List Nat}, i ∉ vs → (wipe σ vs)[i]? = σ[i]?
  | [], _ => rfl
  | v :: vs, h => by
    unfold wipe
    rw [List.getElem?_set_ne (by rintro rfl; exact h List.mem_cons_self), wipe_get fun z => h (List.mem_cons_of_mem _ z)]
theorem wipeE_some {env : List (Option Sl)} {i : Nat} {x : Sl} : ∀ {vs : List Nat}, (wipeE env vs)[i]? = some (some x) → env[i]? = some (some x) ∧ i ∉ vs
  | [], h => ⟨h, by simp⟩
  | v :: vs, h => by
    unfold wipeE at h
    by_cases hi : v = i
    · subst hi
      by_cases hv : v < (wipeE env vs).length
      · rw [List.getElem?_set_self hv] at h; cases h
      · rw [List.getElem?_eq_none (by simpa using hv)] at h; cases h
    · rw [List.getElem?_set_ne hi] at h
      obtain ⟨h1, h2⟩ := wipeE_some h
      exact ⟨h1, by simp only [List.mem_cons, not_or]; exact ⟨fun e => hi e.symm, h2⟩⟩
theorem wipe_wipe (σ : Sg) (vs : List Nat) : wipe (wipe σ vs) vs = wipe σ vs := by
  have h : ∀ (us : List Nat), (∀ u ∈ us, u ∈ vs) → wipe (wipe σ vs) us = wipe σ vs := fun us => by
    induction us with
    | nil => intro _; rfl
    | cons u us ih =>
      intro hu
      show (wipe (wipe σ vs) us).set u none = wipe σ vs
      rw [ih fun w hw => hu w (List.mem_cons_of_mem _ hw)]
      have hm := hu u List.mem_cons_self
      have set0 : ∀ (ws : List Nat), u ∈ ws → (wipe σ ws).set u none = wipe σ ws := fun ws => by
        induction ws with
        | nil => intro z; simp at z
        | cons w ws ih2 =>
          intro z
          unfold wipe
          by_cases e : w = u
          · subst e; rw [List.set_set]
          · have : u ∈ ws := by
              rcases List.mem_cons.mp z with z | z
              · exact absurd z.symm e
              · exact z
            rw [List.set_comm _ _ e, ih2 this]
      exact set0 vs hm
  exact h vs fun _ z => z
theorem W_wipe {B : Bs} {env : List (Option Sl)} {σ : Sg} {vs : List Nat} : ∀ b, B.W (wipeE env vs) (wipe σ vs) b → B.W env σ b := fun b hb => by
  rcases hb with hb | ⟨j, sl', e1, e2, e3⟩
  · exact .inl hb
  · exact .inr ⟨j, sl', (wipeE_some e1).1, e2, (wipe_some e3).1⟩
theorem StOk.wipe {B : Bs} {σ : Sg} {H : Hp} {s : S} (k : StOk B σ H s) (vs : List Nat) : StOk B (wipe σ vs) H { s with env := wipeE s.env vs } where
  len := by rw [wipe_length]; exact (wipeE_len _ _).trans k.len
  val := fun i d h => by
    obtain ⟨h1, h2⟩ := wipeE_some h
    obtain ⟨v, h3, h4⟩ := k.val i d h1
    exact ⟨v, by rw [wipe_get h2]; exact h3, h4.ev (Ev.less W_wipe)⟩
  own := fun i sl h ho => by
    obtain ⟨h1, h2⟩ := wipeE_some h
    obtain ⟨a, o, h3, h4, h5, h6⟩ := k.own i sl h1 ho
    exact ⟨a, o, by rw [wipe_get h2]; exact h3, h4, h5.ev (Ev.less W_wipe), h6⟩
  sep := fun i j sl sl' a h1 o1 h2 o2 q1 q2 => k.sep i j sl sl' a (wipeE_some h1).1 o1 (wipeE_some h2).1 o2 (wipe_some q1).1 (wipe_some q2).1
  src := k.src
  keep := k.keep
  wc := k.wc
  wp := k.wp
  wcc := k.wcc
def Bs.plusO (B : Bs) (a : Addr) (o : HO) : Bs := { B with Wc := fun b => B.Wc b ∨ b = a, H0 := upd B.H0 a o }
/-- the guarded new object is written -/
theorem StOk.grow {B : Bs} {σ : Sg} {H : Hp} {s : S} {a : Addr} {o o' : HO} (k : StOk (B.plusO a o) σ H s) (h1 : a ≠ B.p) (h2 : a ≠ B.c) (nt : NoTup o' := by intro _ z; cases z) : StOk (B.plusO a o') σ (upd H a o') s ∧ Ev ((B.plus a).W s.env σ) H ((B.plus a).W s.env σ) (upd H a o') := by
  have ev : Ev ((B.plus a).W s.env σ) H ((B.plus a).W s.env σ) (upd H a o') := fun b x e n => by
    have : b ≠ a := fun z => n (.inl (.inr z))
    exact ⟨by rw [upd_ne this]; exact e, n⟩
  refine ⟨⟨k.len, fun i d h => ?_, fun i sl h ho => ?_, k.sep, ⟨?_, ?_⟩, fun b x e n1 n2 => ?_, fun b h => ?_, k.wp, k.wcc⟩, ev⟩
  · obtain ⟨v, q1, q2⟩ := k.val i d h
    exact ⟨v, q1, Rp.ev ev _ _ q2⟩
  · obtain ⟨b, x, q1, q2, q3, q4, q5⟩ := k.own i sl h ho
    have hb : b ≠ a := fun z => q5 (.inr z)
    refine ⟨b, x, q1, by rw [upd_ne hb]; exact q2, OwnR.ev ev _ _ q3, ?_, q5⟩
    have q4 : upd B.H0 a o b = none := q4
    show upd B.H0 a o' b = none
    rw [upd_ne hb] at q4 ⊢; exact q4
  · show upd H a o' B.p = _
    rw [upd_ne (Ne.symm h1)]; exact k.src.d
  · show upd H a o' B.c = _
    rw [upd_ne (Ne.symm h2)]; exact k.src.l
  · have e : upd B.H0 a o' b = some x := e
    by_cases z : b = a
    · subst z; rw [upd_same] at e ⊢; exact e
    · rw [upd_ne z] at e ⊢
      exact k.keep b x (by show upd B.H0 a o b = _; rw [upd_ne z]; exact e) n1 n2
  · by_cases z : b = a
    · subst z; exact ⟨o', upd_same, nt⟩
    · rw [upd_ne z]; exact k.wc b h
theorem StOk.begin {B : Bs} {σ : Sg} {H : Hp} {s : S} {a : Addr} {o : HO} (k : StOk B σ H s) (n : H a = none) (nt : NoTup o := by intro _ z; cases z) : StOk (B.plusO a o) σ (upd H a o) s ∧ Ev (B.W s.env σ) H ((B.plus a).W s.env σ) (upd H a o) := by
  obtain ⟨k', ev⟩ := k.plus (o := o) n nt
  refine ⟨⟨k'.len, k'.val, fun i sl h ho => ?_, k'.sep, k'.src, fun b x e n1 n2 => ?_, k'.wc, k'.wp, k'.wcc⟩, ev⟩
  · obtain ⟨b, x, q1, q2, q3, q4, q5⟩ := k'.own i sl h ho
    exact ⟨b, x, q1, q2, q3, by show upd B.H0 a o b = none; rw [upd_ne (fun z => q5 (.inr z))]; exact q4, q5⟩
  · have e : upd B.H0 a o b = some x := e
    by_cases z : b = a
    · subst z; rw [upd_same] at e ⊢; exact e
    · rw [upd_ne z] at e
      exact k'.keep b x e n1 n2
theorem StOk.finish {B : Bs} {σ : Sg} {H : Hp} {s : S} {a : Addr} {o : HO} (k : StOk (B.plusO a o) σ H s) (n : B.H0 a = none) : StOk (B.plus a) σ H s where
  len := k.len
  val := k.val
  own := fun i sl h ho => by
    obtain ⟨b, x, q1, q2, q3, q4, q5⟩ := k.own i sl h ho
    have q4 : upd B.H0 a o b = none := q4
    rw [upd_ne (fun z => q5 (.inr z))] at q4
    exact ⟨b, x, q1, q2, q3, q4, q5⟩
  sep := k.sep
  src := k.src
  keep := fun b x e n1 n2 => k.keep b x (by show upd B.H0 a o b = _; rw [upd_ne (ne_of_none e n)]; exact e) n1 n2
  wc := k.wc
  wp := k.wp
  wcc := k.wcc

/-- a turn: the target bound, the tests, the element -/
def cStep (vs : List Nat) (g : D → M Unit) (c : M Bool) (el : M D) (d : D) : M (Option D) := fun s =>
  (bnd (g d) fun _ => bnd c fun b => if b = true then bnd el fun y => ret (some y) else ret none) { s with env := wipeE s.env vs }
def compF (vs : List Nat) (g : D → M Unit) (c : M Bool) (el : M D) : List D → M (List D)
  | [] => ret []
  | d :: r => bnd (cStep vs g c el d) fun o => bnd (compF vs g c el r) fun ys => ret (o.toList ++ ys)
/-- the slots of the block's names as they were -/
def restE (env0 env : List (Option Sl)) : List Nat → List (Option Sl)
  | [] => env
  | v :: vs => (restE env0 env vs).set v (match env0[v]? with
    | some (some (.val d)) => some (.val d)
    | _ => none)
def eComp (vs : List Nat) (g : D → M Unit) (c : M Bool) (el : M D) (it : M (List D)) : M (List D) := bnd it fun ds s1 =>
  if ds.length ≤ sizeLine then (match compF vs g c el ds s1 with
    | some (ys, sn) => some (ys, { sn with env := restE s1.env sn.env vs })
    | none => none) else none
theorem restE_len (env0 env : List (Option Sl)) : ∀ vs, (restE env0 env vs).length = env.length
  | [] => rfl
  | v :: vs => by unfold restE; rw [List.length_set, restE_len env0 env vs]
theorem restE_get {env0 env : List (Option Sl)} {i : Nat} {x : Sl} : ∀ {vs : List Nat}, (restE env0 env vs)[i]? = some (some x) → (i ∉ vs ∧ env[i]? = some (some x)) ∨ (i ∈ vs ∧ env0[i]? = some (some x) ∧ ∃ d, x = .val d)
  | [], h => .inl ⟨by simp, h⟩
  | v :: vs, h => by
    unfold restE at h
    by_cases hi : v = i
    · subst hi
      by_cases hv : v < (restE env0 env vs).length
      · rw [List.getElem?_set_self hv] at h
        split at h
        · rename_i d hd
          cases h
          exact .inr ⟨List.mem_cons_self, hd, d, rfl⟩
        · cases h
      · rw [List.getElem?_eq_none (by simpa using hv)] at h; cases h
    · rw [List.getElem?_set_ne hi] at h
      rcases restE_get h with ⟨h1, h2⟩ | ⟨h1, h2⟩
      · exact .inl ⟨by simp only [List.mem_cons, not_or]; exact ⟨fun e => hi e.symm, h1⟩, h2⟩
      · exact .inr ⟨List.mem_cons_of_mem _ h1, h2⟩
def tIx (m : M D) : TE := fun σ H Q => ∃ B, tI B m σ H Q
def tTx (m : M Bool) : TT := fun σ H Q => ∃ B, tT B m σ H Q
def tGx (is : List Nat) (g : D → M Unit) : TG := fun v σ H Q => ∃ B, tG B is g v σ H Q
theorem SE.px {X : Cx} {e : Expr} {m : M D} (h : SE X e m) : PE X e (tIx m) := ⟨fun pins s σ H Q I ⟨B, q⟩ => (h.pe B).run pins s σ H Q I q⟩
theorem SG.px {X : Cx} {e : Expr} {is : List Nat} {g : D → M Unit} (h : SG X e is g) : PG X e (tGx is g) := ⟨fun pins s σ H v u Q I r ⟨B, q⟩ => (h.pg B).run pins s σ H v u Q I r q⟩
/-- the tests of a clause -/
structure SF (X : Cx) (ifs : List Expr) (m : M Bool) : Prop where
  pt : PTs X ifs (tTx m)
theorem f_nil {X : Cx} : SF X [] (ret true) := ⟨⟨fun pins s σ H Q I ⟨B, s0, b, s1, k, e, q⟩ => by
  obtain ⟨rfl, rfl⟩ := ret_some e
  exact pts_nil.run pins s σ H Q I (q H k Ev.refl)⟩⟩
theorem f_one {X : Cx} {c : Expr} {m : M Bool} (h : ST X c m) : SF X [c] m := ⟨⟨fun pins s σ H Q I ⟨B, q⟩ => (pts_one (h.pt B)).run pins s σ H Q I q⟩⟩

theorem lc_go {B : Bs} {vs is : List Nat} {g : D → M Unit} {c : M Bool} {el : M D} {it : M (List D)} {σ : Sg} {H : Hp} {Q : VK} (hin : ∀ i ∈ is, i ∈ vs) (h : tL B (eComp vs g c el it) σ H Q) :
    tLc (tIt B it) (tGx is g) (tTx c) (tIx el) vs σ H Q := by
  obtain ⟨s, out, sE, k, e, q⟩ := h
  obtain ⟨ds, s1, e1, e2⟩ := bnd_some e
  refine ⟨s, ds, s1, k, e1, fun J H1 k1 ev1 wk => ?_⟩
  split at e2
  case isFalse => cases e2
  rename_i hsz
  split at e2
  case h_2 => cases e2
  rename_i ys sn eF
  cases e2
  intro A nA
  have nA0 := k1.new nA
  have hAp : A ≠ B.p := fun z => by subst z; rw [k1.src.d] at nA; cases nA
  have hAc : A ≠ B.c := fun z => by subst z; rw [k1.src.l] at nA; cases nA
  obtain ⟨kb, evb⟩ := k1.begin (o := .lst []) nA
  have kw := kb.wipe vs
  have evw : Ev (B.W s1.env σ) H1 ((B.plus A).W (wipeE s1.env vs) (wipe σ vs)) (upd H1 A (.lst [])) := evb.trans (Ev.less (W_wipe (B := B.plus A)))
  refine ⟨fun i m Hh => m = ds.length - i ∧ i ≤ ds.length ∧ ∃ si acc zs rest, StOk (B.plusO A (.lst acc)) (wipe σ vs) Hh { si with env := wipeE si.env vs } ∧ Ev (B.W s1.env σ) H1 ((B.plus A).W (wipeE si.env vs) (wipe σ vs)) Hh ∧
    Hh A = some (.lst acc) ∧ Rps B.p ((B.plus A).W (wipeE si.env vs) (wipe σ vs)) Hh zs acc ∧ acc.length ≤ i ∧ compF vs g c el (ds.drop i) si = some (rest, sn) ∧ out = zs ++ rest,
    ⟨ds.length, by simp, Nat.zero_le _, s1, [], [], out, kw, evw, upd_same, .nil, Nat.le_refl _, eF, rfl⟩, ?_⟩
  rintro i m Hh ⟨rfl, hi, si, acc, zs, rest, ki, evi, hA, ri, hlen, eR, rfl⟩
  obtain ⟨w1, w2, w3⟩ := wk _ _ evi ki.wt
  by_cases hlt : i < ds.length
  · refine .inr ⟨w1 i hlt, _, fun H' hN => ⟨ds.length - (i + 1), by omega, hN⟩, fun x H' y => ?_⟩
    have hd : ds[i]? = some ds[i] := List.getElem?_eq_getElem hlt
    obtain ⟨sm, rx⟩ := w3 i _ x H' hd y
    rw [List.drop_eq_getElem_cons hlt] at eR
    obtain ⟨o, s2, eS, eR⟩ := bnd_some eR
    obtain ⟨rs, s3, eR2, e3⟩ := bnd_some eR
    obtain ⟨e4, rfl⟩ := ret_some e3
    obtain ⟨_, s4, eg, eS⟩ := bnd_some eS
    obtain ⟨b, s5, ec, eS⟩ := bnd_some eS
    have k1' := ki.same sm
    have ev' : Ev (B.W s1.env σ) H1 ((B.plus A).W (wipeE si.env vs) (wipe σ vs)) H' := evi.trans (Ev.same sm)
    refine ⟨B.plusO A (.lst acc), { si with env := wipeE si.env vs }, ds[i], s4, k1', rx, eg, fun σ2 k2 ev2 wp => ?_⟩
    have hw : wipe σ2 vs = wipe σ vs := by rw [wp vs hin, wipe_wipe]
    refine ⟨hw, B.plusO A (.lst acc), s4, b, s5, k2, ec, fun H3 k3 ev3 => ?_⟩
    have evA : Ev ((B.plus A).W (wipeE si.env vs) (wipe σ vs)) H' ((B.plus A).W s5.env σ2) H3 := Ev.trans ev2 ev3
    have smA : Ev ((B.plus A).W (wipeE si.env vs) (wipe σ vs)) Hh ((B.plus A).W (wipeE si.env vs) (wipe σ vs)) H' := Ev.same sm
    cases b with
    | true =>
      obtain ⟨y', s6, ee, eS⟩ := bnd_some eS
      obtain ⟨rfl, rfl⟩ := ret_some eS
      refine ⟨B.plusO A (.lst acc), s5, y', s2, k3, ee, fun v H4 k4 ev4 r4 => ?_⟩
      have hA4 : H4 A = some (.lst acc) := k4.keep A _ upd_same hAp hAc
      have kw4 := k4.wipe vs
      rw [hw] at kw4
      obtain ⟨kg, evg⟩ := kw4.grow (o' := .lst (acc ++ [v])) hAp hAc
      have wl : Ev ((B.plus A).W s2.env σ2) H4 ((B.plus A).W (wipeE s2.env vs) (wipe σ vs)) H4 := by
        rw [← hw]; exact Ev.less (W_wipe (B := B.plus A))
      have evT : Ev ((B.plus A).W (wipeE si.env vs) (wipe σ vs)) Hh ((B.plus A).W (wipeE s2.env vs) (wipe σ vs)) (upd H4 A (.lst (acc ++ [v]))) :=
        smA.trans (evA.trans (Ev.trans ev4 (wl.trans evg)))
      refine ⟨acc, hA4, by omega, rfl, hlt, s2, acc ++ [v], zs ++ [y'], rs, kg, evi.trans evT, upd_same, ?_, by simp; omega, eR2, by rw [e4]; simp⟩
      exact (ri.ev evT).append (.cons (Rp.ev (wl.trans evg) _ _ r4) .nil)
    | false =>
      obtain ⟨rfl, rfl⟩ := ret_some eS
      have kw3 := k3.wipe vs
      rw [hw] at kw3
      have wl : Ev ((B.plus A).W s2.env σ2) H3 ((B.plus A).W (wipeE s2.env vs) (wipe σ vs)) H3 := by
        rw [← hw]; exact Ev.less (W_wipe (B := B.plus A))
      have evT : Ev ((B.plus A).W (wipeE si.env vs) (wipe σ vs)) Hh ((B.plus A).W (wipeE s2.env vs) (wipe σ vs)) H3 := smA.trans (evA.trans wl)
      have hA3 : H3 A = some (.lst acc) := k3.keep A _ upd_same hAp hAc
      exact ⟨rfl, hlt, s2, acc, zs, rs, kw3, evi.trans evT, hA3, ri.ev evT, by omega, eR2, by rw [e4]; simp⟩
  · have hn : i = ds.length := by omega
    subst hn
    rw [List.drop_length] at eR
    obtain ⟨rfl, e5⟩ := ret_some eR
    subst e5
    refine .inl ⟨w2, ?_⟩
    have kf := ki.finish nA0
    have sub : ∀ b, (B.plus A).W (restE s1.env sn.env vs) σ b → (B.plus A).W (wipeE sn.env vs) (wipe σ vs) b := fun b hb => by
      rcases hb with hb | ⟨j, sl, h1, h2, h3⟩
      · exact .inl hb
      · rcases restE_get h1 with ⟨n1, h4⟩ | ⟨_, _, d, rfl⟩
        · exact .inr ⟨j, sl, by rw [wipeE_get n1]; exact h4, h2, by rw [wipe_get n1]; exact h3⟩
        · cases h2
    have evf : Ev ((B.plus A).W (wipeE sn.env vs) (wipe σ vs)) Hh ((B.plus A).W (restE s1.env sn.env vs) σ) Hh := Ev.less sub
    have kR : StOk (B.plus A) σ Hh { sn with env := restE s1.env sn.env vs } := by
      refine ⟨?_, fun j d h => ?_, fun j sl h ho => ?_, fun j1 j2 sl1 sl2 b h1 o1 h2 o2 q1 q2 => ?_, kf.src, kf.keep, kf.wc, kf.wp, kf.wcc⟩
      · have := kf.len
        rw [wipe_length] at this
        show (restE s1.env sn.env vs).length = _
        rw [restE_len, ← this]
        exact (wipeE_len _ _).symm
      · rcases restE_get h with ⟨n1, h4⟩ | ⟨n1, h4, _⟩
        · obtain ⟨v, h5, h6⟩ := kf.val j d (by show (wipeE sn.env vs)[j]? = _; rw [wipeE_get n1]; exact h4)
          rw [wipe_get n1] at h5
          exact ⟨v, h5, h6.ev evf⟩
        · obtain ⟨v, h5, h6⟩ := k1.val j d h4
          exact ⟨v, h5, Rp.ev (evi.trans evf) _ _ h6⟩
      · rcases restE_get h with ⟨n1, h4⟩ | ⟨_, _, d, rfl⟩
        · obtain ⟨b, o, h5, h6, h7, h8⟩ := kf.own j sl (by show (wipeE sn.env vs)[j]? = _; rw [wipeE_get n1]; exact h4) ho
          rw [wipe_get n1] at h5
          exact ⟨b, o, h5, h6, h7.ev evf, h8⟩
        · cases ho
      · rcases restE_get h1 with ⟨n1, h4⟩ | ⟨_, _, d, rfl⟩
        · rcases restE_get h2 with ⟨n2, h5⟩ | ⟨_, _, d, rfl⟩
          · exact kf.sep j1 j2 sl1 sl2 b (by show (wipeE sn.env vs)[j1]? = _; rw [wipeE_get n1]; exact h4) o1 (by show (wipeE sn.env vs)[j2]? = _; rw [wipeE_get n2]; exact h5) o2 (by rw [wipe_get n1]; exact q1) (by rw [wipe_get n2]; exact q2)
          · cases o2
        · cases o1
    refine q A acc Hh kR (ev1.trans (evi.trans evf)) nA0 ?_ hA (by simpa using ri.ev evf)
    rintro (z | ⟨j, sl, h1, h2, h3⟩)
    · obtain ⟨o, ho, _⟩ := k1.wc A z
      rw [nA] at ho; cases ho
    · obtain ⟨b, o, h5, _, _, _, h8⟩ := kR.own j sl h1 h2
      rw [h3] at h5; cases h5
      exact h8 (.inr rfl)
end GH

namespace GH
open PySem PySem.Spec PyProof.Rows L2

inductive Out where
  | nx | ret (d : D) | brk | cnt
def Post (B : Bs) (D : Ends) (W0 : AP) (H0 : Hp) : Out → S → Prop
  | .nx, s' => ∀ σ' H', StOk B σ' H' s' → Ev W0 H0 (B.W s'.env σ') H' → D.nx σ' H'
  | .brk, s' => ∀ σ' H', StOk B σ' H' s' → Ev W0 H0 (B.W s'.env σ') H' → D.bk σ' H'
  | .cnt, s' => ∀ σ' H', StOk B σ' H' s' → Ev W0 H0 (B.W s'.env σ') H' → D.ct σ' H'
  | .ret d, s' => ∀ v σ' H', StOk B σ' H' s' → Ev W0 H0 (B.W s'.env σ') H' → Rp B.p (B.W s'.env σ') H' d v → D.rt v H'
theorem Post.ev {B : Bs} {D : Ends} {W0 W1 : AP} {H0 H1 : Hp} {s' : S} (e : Ev W0 H0 W1 H1) : ∀ {o : Out}, Post B D W0 H0 o s' → Post B D W1 H1 o s'
  | .nx, h => fun σ' H' k e' => h σ' H' k (e.trans e')
  | .brk, h => fun σ' H' k e' => h σ' H' k (e.trans e')
  | .cnt, h => fun σ' H' k e' => h σ' H' k (e.trans e')
  | .ret _, h => fun v σ' H' k e' r => h v σ' H' k (e.trans e') r
def tS (B : Bs) (m : M Out) : TS := fun D σ H => ∃ s o s', StOk B σ H s ∧ m s = some (o, s') ∧ Post B D (B.W s.env σ) H o s'
structure SS (X : Cx) (st : Stmt) (m : M Out) : Prop where
  ps : ∀ B, PS X st (tS B m)
structure SSs (X : Cx) (st : List Stmt) (m : M Out) : Prop where
  ps : ∀ B, PSs X st (tS B m)

section
variable {X : Cx} {st : Stmt} {rest : List Stmt} {e c a b : Expr} {pos : Pos} {m n : M Out} {me ma mb : M D} {mt : M Bool}
def sNx : M Out := ret .nx
def sSeq (m n : M Out) : M Out := bnd m fun o => match o with
  | .nx => n
  | o => ret o
theorem ss_nil : SSs X [] sNx := ⟨fun B => PSs.imp pss_nil fun D σ H ⟨s, o, s', k, e, q⟩ => by
  obtain ⟨rfl, rfl⟩ := ret_some e
  exact q σ H k Ev.refl⟩
theorem ss_cons (h1 : SS X st m) (h2 : SSs X rest n) : SSs X (st :: rest) (sSeq m n) := ⟨fun B => PSs.imp (pss_cons (h1.ps B) (h2.ps B)) fun D σ H ⟨s, o, s', k, e, q⟩ => by
  obtain ⟨o1, s1, e1, e2⟩ := bnd_some e
  refine ⟨s, o1, s1, k, e1, ?_⟩
  cases o1 with
  | nx => exact fun σ' H' k' ev => ⟨s1, o, s', k', e2, q.ev ev⟩
  | ret d => obtain ⟨rfl, rfl⟩ := ret_some e2; exact q
  | brk => obtain ⟨rfl, rfl⟩ := ret_some e2; exact q
  | cnt => obtain ⟨rfl, rfl⟩ := ret_some e2; exact q⟩
theorem ss_one (h1 : SS X st m) : SSs X [st] m := ⟨fun B => pss_one (h1.ps B)⟩
def sRet (m : M D) : M Out := bnd m fun d => ret (.ret d)
theorem s_ret (h : SE X e me) : SS X (.Return (some e) pos) (sRet me) := ⟨fun B => PS.imp (ps_ret (h.pe B)) fun D σ H ⟨s, o, s', k, e, q⟩ => by
  refine tI.bind k e fun d s1 v H1 h1 e1 k1 ev1 r1 => ?_
  obtain ⟨rfl, rfl⟩ := ret_some e1
  exact q v σ H1 k1 ev1 r1⟩
theorem s_retN : SS X (.Return none pos) (ret (.ret .non)) := ⟨fun B => PS.imp ps_retN fun D σ H ⟨s, o, s', k, e, q⟩ => by
  obtain ⟨rfl, rfl⟩ := ret_some e
  exact q .non σ H k Ev.refl .mkNon⟩
theorem s_pass : SS X (.Pass pos) sNx := ⟨fun B => PS.imp ps_pass fun D σ H ⟨s, o, s', k, e, q⟩ => by
  obtain ⟨rfl, rfl⟩ := ret_some e
  exact q σ H k Ev.refl⟩
theorem s_break : SS X (.Break pos) (ret .brk) := ⟨fun B => PS.imp ps_break fun D σ H ⟨s, o, s', k, e, q⟩ => by
  obtain ⟨rfl, rfl⟩ := ret_some e
  exact q σ H k Ev.refl⟩
theorem s_continue : SS X (.Continue pos) (ret .cnt) := ⟨fun B => PS.imp ps_continue fun D σ H ⟨s, o, s', k, e, q⟩ => by
  obtain ⟨rfl, rfl⟩ := ret_some e
  exact q σ H k Ev.refl⟩
def sIf (t : M Bool) (m n : M Out) : M Out := bnd t fun b => if b = true then m else n
theorem s_ifS {p q : List Stmt} (hc : ST X c mt) (ha : SSs X p m) (hb : SSs X q n) : SS X (.If c p q pos) (sIf mt m n) := ⟨fun B => PS.imp (ps_if (hc.pt B) (ha.ps B) (hb.ps B)) fun D σ H ⟨s, o, s', k, e, q⟩ => by
  refine tT.bind k e fun t s1 H1 h1 e1 k1 ev1 => ?_
  cases t with
  | true => exact ⟨s1, o, s', k1, e1, q.ev ev1⟩
  | false => exact ⟨s1, o, s', k1, e1, q.ev ev1⟩⟩
def sExpr (m : M D) : M Out := bnd m fun _ => ret .nx
theorem s_expr (h : SE X e me) (hs : swapsWith e none pos.line X.env = pure false := by rfl) : SS X (.Expr e pos) (sExpr me) := ⟨fun B => PS.imp (ps_expr (h.pe B) hs) fun D σ H ⟨s, o, s', k, e, q⟩ => by
  refine tI.bind k e fun d s1 v H1 h1 e1 k1 ev1 r1 => ?_
  obtain ⟨rfl, rfl⟩ := ret_some e1
  exact q σ H1 k1 ev1⟩

def sAsg (m : M D) (g : D → M Unit) : M Out := bnd m fun d => bnd (g d) fun _ => ret .nx
theorem asg_go {B : Bs} {Dn : Ends} {σ : Sg} {H : Hp} {is : List Nat} {g : D → M Unit} {t : TE} {u : TG} (ht : ∀ σ H Q, tI B me σ H Q → t σ H Q) (hu : ∀ v σ H Q, tG B is g v σ H Q → u v σ H Q) (h : tS B (sAsg me g) Dn σ H) : tAsg t u Dn σ H := by
  obtain ⟨s, o, s', k, e, q⟩ := h
  obtain ⟨d, s1, e1, e2⟩ := bnd_some e
  refine ht _ _ _ ⟨s, d, s1, k, e1, fun v H1 k1 ev1 r1 => ?_⟩
  obtain ⟨_, s2, e3, e4⟩ := bnd_some e2
  obtain ⟨rfl, rfl⟩ := ret_some e4
  exact hu _ _ _ _ ⟨s1, d, s', k1, r1, e3, fun σ' k2 ev2 _ => q σ' H1 k2 (ev1.trans ev2)⟩
theorem s_asg {tg : Expr} {is : List Nat} {g : D → M Unit} (he : SE X e me) (hg : SG X tg is g) (hs : swapsWithSole [tg] e pos.line X.env = pure false := by rfl) (hw : swappedStores [tg] e X.env = pure none := by rfl)
    (h1 : (assignEach [tg] X.env).map (·.2) = [assign tg X.env] := by rfl) : SS X (.Assign [tg] e pos) (sAsg me g) := ⟨fun B => PS.imp (ps_asg (he.pe B) (hg.pg B) hs hw h1) fun D σ H h => asg_go (fun _ _ _ z => z) (fun _ _ _ _ z => z) h⟩
theorem tG_name {B : Bs} {i : Nat} : ∀ v σ H Q, tG B [i] (gN i) v σ H Q → gName i v σ H Q := fun v σ H Q ⟨s, d, s', k, r, e, q⟩ => by
  unfold gN at e
  split at e
  · rename_i hl
    cases e
    obtain ⟨k', ev⟩ := k.set hl r
    exact q _ k' ev fun vs h => wipe_set_mem (h i (by simp))
  · cases e
/-- name = e -/
def sSet (i : Nat) (m : M D) : M Out := sAsg m (gN i)
theorem s_set {i : Nat} {x : Str} {pos' : Pos} (hN : X.N.Nodup) (hi : X.N[i]? = some x) (hx : Loc X.env.scope x) (he : SE X e me) (hs : swapsWith e (some (.Name x pos')) pos.line X.env = pure false := by rfl)
    (hf : X.fn x = true ∨ X.env.scope.names.lookup x = some .local := by first | exact .inl rfl | exact .inr rfl | assumption) : SS X (.Assign [.Name x pos'] e pos) (sSet i me) :=
  ⟨fun B => PS.imp (ps_set hN hi hx (he.pe B) hs hf) fun D σ H h => asg_go (fun _ _ _ z => z) tG_name h⟩

def eLst (ml : M (List D)) : M D := bnd ml fun ds => ret (.lst ds)
theorem tL_tI {B : Bs} {ml : M (List D)} {σ : Sg} {H : Hp} {Q : VK} (h : tI B (eLst ml) σ H Q) : tL B ml σ H Q := by
  obtain ⟨s, d, s', k, e, q⟩ := h
  obtain ⟨ds, s1, e1, e2⟩ := bnd_some e
  obtain ⟨rfl, rfl⟩ := ret_some e2
  refine ⟨s, ds, s', k, e1, fun a vs H' k' ev n nw ha r => ?_⟩
  have ev2 : Ev ((B.plus a).W s'.env σ) H' (B.W s'.env σ) H' := Ev.less fun b hb => hb.elim (fun z => .inl (.inl z)) fun z => .inr z
  refine q _ H' ⟨k'.len, fun i d h => ?_, fun i sl h ho => ?_, k'.sep, k'.src, k'.keep, fun b h => k'.wc b (.inl h), ?_, ?_⟩ (ev.trans ev2) (.mkLst nw ha (r.ev ev2))
  · obtain ⟨v, h1, h2⟩ := k'.val i d h
    exact ⟨v, h1, Rp.ev ev2 _ _ h2⟩
  · obtain ⟨b, o, h1, h2, h3, h4, h5⟩ := k'.own i sl h ho
    exact ⟨b, o, h1, h2, OwnR.ev ev2 _ _ h3, h4, fun z => h5 (.inl z)⟩
  · exact k.wp
  · exact k.wcc
theorem s_ofL {ml : M (List D)} (h : SL X e ml) : SE X e (eLst ml) := ⟨fun B => PE.imp (h.pe B) fun σ H Q z => tL_tI z⟩
/-- the new list's address is put at slot i -/
theorem StOk.putOwnS {B : Bs} {σ : Sg} {H : Hp} {s : S} {i : Nat} {a : Addr} {o : HO} {sl : Sl} (k : StOk (B.plus a) σ H s) (hi : i < s.env.length) (hso : sl.isOwn = true) (n : B.H0 a = none) (nc : ¬ B.W s.env σ a) (wp : B.Wc B.p) (wcc : B.Wc B.c) (ha : H a = some o) (r : OwnR B.p ((B.plus a).W s.env σ) H sl o) :
    StOk B (σ.set i (some (.ref a))) H { s with env := s.env.set i (some sl) } ∧ Ev ((B.plus a).W s.env σ) H (B.W (s.env.set i (some sl)) (σ.set i (some (.ref a)))) H := by
  have hiσ : i < σ.length := by rw [← k.len]; exact hi
  have sub : ∀ b, B.W (s.env.set i (some sl)) (σ.set i (some (.ref a))) b → (B.plus a).W s.env σ b := fun b hb => by
    rcases hb with hb | ⟨j, sl', e1, e2, e3⟩
    · exact .inl (.inl hb)
    · by_cases hj : i = j
      · subst hj
        rw [List.getElem?_set_self hiσ] at e3
        cases e3
        exact .inl (.inr rfl)
      · rw [List.getElem?_set_ne hj] at e1 e3
        exact .inr ⟨j, sl', e1, e2, e3⟩
  have ev : Ev ((B.plus a).W s.env σ) H (B.W (s.env.set i (some sl)) (σ.set i (some (.ref a)))) H := Ev.less sub
  have other : ∀ j sl b, i ≠ j → s.env[j]? = some (some sl) → sl.isOwn = true → σ[j]? = some (some (.ref b)) → b ≠ a := fun j sl b _ h1 h2 h3 z => by
    obtain ⟨b', o, q1, _, _, _, q5⟩ := k.own j sl h1 h2
    rw [h3] at q1; cases q1
    exact q5 (.inr z)
  refine ⟨⟨by simpa using k.len, fun j d' h => ?_, fun j sl' h h' => ?_, fun j1 j2 sl1 sl2 b h1 o1 h2 o2 q1 q2 => ?_, k.src, k.keep, fun b h => k.wc b (.inl h), wp, wcc⟩, ev⟩
  · have h : (s.env.set i (some sl))[j]? = _ := h
    by_cases hj : i = j
    · subst hj
      rw [List.getElem?_set_self hi] at h
      cases h; cases hso
    · rw [List.getElem?_set_ne hj] at h ⊢
      obtain ⟨v, h1, h2⟩ := k.val j d' h
      exact ⟨v, h1, Rp.ev ev _ _ h2⟩
  · have h : (s.env.set i (some sl))[j]? = _ := h
    by_cases hj : i = j
    · subst hj
      rw [List.getElem?_set_self hi] at h
      cases h
      exact ⟨a, _, List.getElem?_set_self hiσ, ha, OwnR.ev ev _ _ r, n, fun z => nc (.inl z)⟩
    · rw [List.getElem?_set_ne hj] at h ⊢
      obtain ⟨b, o, h1, h2, h3, h4, h5⟩ := k.own j sl' h h'
      exact ⟨b, o, h1, h2, OwnR.ev ev _ _ h3, h4, fun z => h5 (.inl z)⟩
  · have h1 : (s.env.set i (some sl))[j1]? = _ := h1
    have h2 : (s.env.set i (some sl))[j2]? = _ := h2
    by_cases e1 : i = j1
    · subst e1
      by_cases e2 : i = j2
      · exact e2
      · rw [List.getElem?_set_self hiσ] at q1
        cases q1
        rw [List.getElem?_set_ne e2] at h2 q2
        exact absurd rfl (other j2 sl2 _ e2 h2 o2 q2)
    · by_cases e2 : i = j2
      · subst e2
        rw [List.getElem?_set_self hiσ] at q2
        cases q2
        rw [List.getElem?_set_ne e1] at h1 q1
        exact absurd rfl (other j1 sl1 _ e1 h1 o1 q1)
      · rw [List.getElem?_set_ne e1] at h1 q1
        rw [List.getElem?_set_ne e2] at h2 q2
        exact k.sep j1 j2 sl1 sl2 b h1 o1 h2 o2 q1 q2
theorem StOk.putOwn {B : Bs} {σ : Sg} {H : Hp} {s : S} {i : Nat} {a : Addr} {vs : List V} {ds : List D} (k : StOk (B.plus a) σ H s) (hi : i < s.env.length) (n : B.H0 a = none) (nc : ¬ B.W s.env σ a) (wp : B.Wc B.p) (wcc : B.Wc B.c) (ha : H a = some (.lst vs)) (r : Rps B.p ((B.plus a).W s.env σ) H ds vs) :
    StOk B (σ.set i (some (.ref a))) H { s with env := s.env.set i (some (.own ds)) } ∧ Ev ((B.plus a).W s.env σ) H (B.W (s.env.set i (some (.own ds))) (σ.set i (some (.ref a)))) H :=
  k.putOwnS (sl := .own ds) hi rfl n nc wp wcc ha ⟨vs, rfl, r⟩
def oN (i : Nat) : List D → M Unit := fun ds s => if i < s.env.length then some ((), { s with env := s.env.set i (some (.own ds)) }) else none
def sOwn (i : Nat) (ml : M (List D)) : M Out := bnd ml fun ds => bnd (oN i ds) fun _ => ret .nx
theorem own_go {B : Bs} {Dn : Ends} {σ : Sg} {H : Hp} {i : Nat} {ml : M (List D)} {t : TE} (ht : ∀ σ H Q, tL B ml σ H Q → t σ H Q) (h : tS B (sOwn i ml) Dn σ H) : tAsg t (gName i) Dn σ H := by
  obtain ⟨s, o, s', k, e, q⟩ := h
  obtain ⟨ds, s1, e1, e2⟩ := bnd_some e
  refine ht _ _ _ ⟨s, ds, s1, k, e1, fun a vs H1 k1 ev1 n nc ha r => ?_⟩
  obtain ⟨_, s2, e3, e4⟩ := bnd_some e2
  obtain ⟨rfl, rfl⟩ := ret_some e4
  unfold oN at e3
  split at e3
  · rename_i hl
    cases e3
    obtain ⟨k2, ev2⟩ := k1.putOwn hl n nc k.wp k.wcc ha r
    exact q _ H1 k2 (ev1.trans ev2)
  · cases e3
theorem s_own {i : Nat} {x : Str} {pos' : Pos} {ml : M (List D)} (hN : X.N.Nodup) (hi : X.N[i]? = some x) (hx : Loc X.env.scope x) (he : SL X e ml) (hs : swapsWith e (some (.Name x pos')) pos.line X.env = pure false := by rfl)
    (hf : X.fn x = true ∨ X.env.scope.names.lookup x = some .local := by first | exact .inl rfl | exact .inr rfl | assumption) : SS X (.Assign [.Name x pos'] e pos) (sOwn i ml) :=
  ⟨fun B => PS.imp (ps_set hN hi hx (he.pe B) hs hf) fun D σ H h => own_go (fun _ _ _ z => z) h⟩

section
variable {elt tg iter : Expr} {ifs : List Expr} {scope : Scope} {own : List (Str × Nat)} {g : D → M Unit} {mc : M Bool} {el : M D} {it : M (List D)} {is : List Nat}
/-- what a comprehension's parts are, in any block of it -/
structure CompOk (X : Cx) (elt tg : Expr) (ifs : List Expr) (scope : Scope) (own : List (Str × Nat)) (is : List Nat) (g : D → M Unit) (mc : M Bool) (el : M D) : Prop where
  calm : X.calm = true
  nd : X.N.Nodup
  ok : BlkOk X.N X.env.scope scope own
  sub : ∀ i ∈ is, i ∈ own.map (·.2)
  hg : ∀ (s : Shared) (H : Hp) (C : Addr) (cl : List (Str × Addr)) (fp : List Addr), SG (X.blk s H scope (compEnvC scope cl C X.env) fp) tg is g
  ht : ∀ (s : Shared) (H : Hp) (C : Addr) (cl : List (Str × Addr)) (fp : List Addr), SF (X.blk s H scope (compEnvC scope cl C X.env) fp) ifs mc
  he : ∀ (s : Shared) (H : Hp) (C : Addr) (cl : List (Str × Addr)) (fp : List Addr), SE (X.blk s H scope (compEnvC scope cl C X.env) fp) elt el
theorem l_comp (C : CompOk X elt tg ifs scope own is g mc el) (hi : SI X tg iter it) (hs : ∀ x, foldedSetIterable iter X.env x = pure x := by intro _; rfl) :
    SL X (.ListComp elt [⟨tg, iter, ifs, 0⟩] scope pos) (eComp (own.map (·.2)) g mc el it) :=
  ⟨fun B => PE.imp (pe_lc C.calm C.nd (hi.pi B) C.ok (fun s H c cl fp => (C.hg s H c cl fp).px) (fun s H c cl fp => (C.ht s H c cl fp).pt) (fun s H c cl fp => (C.he s H c cl fp).px) hs) fun σ H Q h => lc_go C.sub h⟩
/-- name = [..] on one line -/
theorem s_setLc {i : Nat} {y : Str} {py cpos : Pos} (hy : X.N[i]? = some y) (hyl : X.env.scope.names.lookup y = some .local) (hsw : swapsWith (.ListComp elt [⟨tg, iter, ifs, 0⟩] scope cpos) (some (.Name y py)) pos.line X.env = pure true)
    (C : CompOk X elt tg ifs scope own is g mc el) (hi : SI X tg iter it) (hs : ∀ x, foldedSetIterable iter X.env x = pure x := by intro _; rfl) :
    SS X (.Assign [.Name y py] (.ListComp elt [⟨tg, iter, ifs, 0⟩] scope cpos) pos) (sSet i (eLst (eComp (own.map (·.2)) g mc el it))) :=
  ⟨fun B => PS.imp (ps_setLc C.calm C.nd hy hyl hsw (hi.pi B) C.ok (fun s H c cl fp => (C.hg s H c cl fp).px) (fun s H c cl fp => (C.ht s H c cl fp).pt) (fun s H c cl fp => (C.he s H c cl fp).px) hs) fun D σ H h =>
    asg_go (fun _ _ _ z => lc_go C.sub (tL_tI z)) tG_name h⟩
theorem s_ownLc {i : Nat} {y : Str} {py cpos : Pos} (hy : X.N[i]? = some y) (hyl : X.env.scope.names.lookup y = some .local) (hsw : swapsWith (.ListComp elt [⟨tg, iter, ifs, 0⟩] scope cpos) (some (.Name y py)) pos.line X.env = pure true)
    (C : CompOk X elt tg ifs scope own is g mc el) (hi : SI X tg iter it) (hs : ∀ x, foldedSetIterable iter X.env x = pure x := by intro _; rfl) :
    SS X (.Assign [.Name y py] (.ListComp elt [⟨tg, iter, ifs, 0⟩] scope cpos) pos) (sOwn i (eComp (own.map (·.2)) g mc el it)) :=
  ⟨fun B => PS.imp (ps_setLc C.calm C.nd hy hyl hsw (hi.pi B) C.ok (fun s H c cl fp => (C.hg s H c cl fp).px) (fun s H c cl fp => (C.ht s H c cl fp).pt) (fun s H c cl fp => (C.he s H c cl fp).px) hs) fun D σ H h =>
    own_go (fun _ _ _ z => lc_go C.sub z) h⟩
end

def forM (g : D → M Unit) (b : M Out) : List D → M Out
  | [] => ret .nx
  | d :: r => bnd (g d) fun _ => bnd b fun o => match o with
    | .nx => forM g b r
    | .cnt => forM g b r
    | .brk => ret .nx
    | .ret d => ret (.ret d)
def sFor (it : M (List D)) (g : D → M Unit) (b : M Out) : M Out := bnd it fun ds => forM g b ds
theorem s_for {tg iter : Expr} {body : List Stmt} {it : M (List D)} {is : List Nat} {g : D → M Unit} (hp : PassesOwn (model X.prog X.w) X.A X.env X.xe) (hc : X.calm = true) (hi : SI X tg iter it) (hg : SG X tg is g) (hb : SSs X body m)
    (hs : ∀ x, foldedSetIterable iter X.env x = pure x := by intro _; rfl) : SS X (.For tg iter body [] pos) (sFor it g m) := ⟨fun B => PS.imp (ps_for hp hc (hi.pi B) (hg.pg B) (hb.ps B) hs) fun D σ H ⟨s, o, s', k, e, q⟩ => by
  obtain ⟨ds, s1, e1, e2⟩ := bnd_some e
  refine ⟨s, ds, s1, k, e1, fun J H1 k1 ev1 wk => ?_⟩
  refine ⟨fun i mm σi Hi => mm = ds.length - i ∧ i ≤ ds.length ∧ ∃ si, StOk B σi Hi si ∧ Ev (B.W s1.env σ) H1 (B.W si.env σi) Hi ∧ forM g m (ds.drop i) si = some (o, s'), ⟨ds.length, by simp, Nat.zero_le _, s1, k1, Ev.refl, e2⟩, ?_⟩
  rintro i mm σi Hi ⟨rfl, hi, si, ki, evi, eR⟩
  obtain ⟨w1, w2, w3⟩ := wk _ _ evi ki.wt
  by_cases hlt : i < ds.length
  · refine .inr ⟨w1 i hlt, _, fun σ' H' hN => ⟨ds.length - (i + 1), by omega, hN⟩, fun x H' y => ?_⟩
    obtain ⟨sm, rx⟩ := w3 i _ x H' (List.getElem?_eq_getElem hlt) y
    rw [List.drop_eq_getElem_cons hlt] at eR
    obtain ⟨_, s2, eg, eR⟩ := bnd_some eR
    obtain ⟨o2, s3, eb, eR⟩ := bnd_some eR
    refine ⟨si, ds[i], s2, ki.same sm, rx, eg, fun σ2 k2 ev2 _ => ⟨s2, o2, s3, k2, eb, ?_⟩⟩
    have evA : Ev (B.W s1.env σ) H1 (B.W s2.env σ2) H' := evi.trans ((Ev.same sm).trans ev2)
    cases o2 with
    | nx => exact fun σ' H'' k' ev' => ⟨rfl, hlt, s3, k', evA.trans ev', eR⟩
    | cnt => exact fun σ' H'' k' ev' => ⟨rfl, hlt, s3, k', evA.trans ev', eR⟩
    | brk => obtain ⟨rfl, rfl⟩ := ret_some eR; exact fun σ' H'' k' ev' => q σ' H'' k' (ev1.trans (evA.trans ev'))
    | ret d => obtain ⟨rfl, rfl⟩ := ret_some eR; exact fun v σ' H'' k' ev' r => q v σ' H'' k' (ev1.trans (evA.trans ev')) r
  · have hn : i = ds.length := by omega
    subst hn
    rw [List.drop_length] at eR
    obtain ⟨rfl, rfl⟩ := ret_some eR
    exact .inl ⟨w2, q σi Hi ki (ev1.trans evi)⟩⟩

def whF (c : M Bool) (b : M Out) : Nat → M Out
  | 0 => fail
  | n + 1 => bnd c fun t => if t = true then bnd b fun o => match o with
      | .nx => whF c b n
      | .cnt => whF c b n
      | .brk => ret .nx
      | .ret d => ret (.ret d)
    else ret .nx
open Classical in
noncomputable def sWhile (c : M Bool) (b : M Out) : M Out := fun s => if h : ∃ n r, whF c b n s = some r then some h.choose_spec.choose else none
theorem whF_mono {c : M Bool} {b : M Out} : ∀ {n k : Nat} {s : S} {r : Out × S}, whF c b n s = some r → whF c b (n + k) s = some r
  | 0, _, _, _, h => by simp [whF, fail] at h
  | n + 1, k, s, r, h => by
    rw [show n + 1 + k = (n + k) + 1 by omega]
    obtain ⟨o, s'⟩ := r
    obtain ⟨t, s1, hc, h⟩ := bnd_some h
    refine (bnd_eq hc).trans ?_
    cases t with
    | false => exact h
    | true =>
      obtain ⟨o2, s2, hb, h⟩ := bnd_some h
      refine (bnd_eq hb).trans ?_
      cases o2 with
      | nx => exact whF_mono (n := n) h
      | cnt => exact whF_mono (n := n) h
      | brk => exact h
      | ret d => exact h
theorem sWhile_of {c : M Bool} {b : M Out} {n : Nat} {s : S} {r : Out × S} (h : whF c b n s = some r) : sWhile c b s = some r := by
  have ex : ∃ n r, whF c b n s = some r := ⟨n, r, h⟩
  unfold sWhile
  rw [dif_pos ex]
  have h1 := whF_mono (k := n) ex.choose_spec.choose_spec
  have h2 := whF_mono (k := ex.choose) h
  rw [Nat.add_comm] at h2
  rw [h2] at h1
  exact h1.symm ▸ rfl
theorem sWhile_some {c : M Bool} {b : M Out} {s : S} {r : Out × S} (h : sWhile c b s = some r) : ∃ n, whF c b n s = some r := by
  unfold sWhile at h
  split at h
  · rename_i ex
    have e : ex.choose_spec.choose = r := Option.some.inj h
    rw [← e]
    exact ⟨ex.choose, ex.choose_spec.choose_spec⟩
  · cases h
theorem s_while {body : List Stmt} (hp : PassesOwn (model X.prog X.w) X.A X.env X.xe) (hc : ST X c mt) (hb : SSs X body m) : SS X (.While c body [] pos) (sWhile mt m) := ⟨fun B => PS.imp (ps_while hp (hc.pt B) (hb.ps B)) fun D σ H ⟨s, o, s', k, e, q⟩ => by
  obtain ⟨n, e⟩ := sWhile_some e
  refine ⟨fun j σi Hi => ∃ si, StOk B σi Hi si ∧ Ev (B.W s.env σ) H (B.W si.env σi) Hi ∧ whF mt m j si = some (o, s'), ⟨n, s, k, Ev.refl, e⟩, ?_⟩
  rintro j σi Hi ⟨si, ki, evi, eR⟩
  cases j with
  | zero => simp [whF, fail] at eR
  | succ j =>
    obtain ⟨t, s1, ec, eR⟩ := bnd_some eR
    refine ⟨si, t, s1, ki, ec, fun H1 k1 ev1 => ?_⟩
    cases t with
    | false =>
      obtain ⟨rfl, rfl⟩ := ret_some eR
      rw [if_neg (by decide)]
      exact q σi H1 k1 (evi.trans ev1)
    | true =>
      obtain ⟨o2, s2, eb, eR⟩ := bnd_some eR
      rw [if_pos rfl]
      refine ⟨_, fun σ' H' hN => ⟨j, Nat.lt_succ_self _, hN⟩, s1, o2, s2, k1, eb, ?_⟩
      have evA := evi.trans ev1
      cases o2 with
      | nx => exact fun σ' H'' k' ev' => ⟨s2, k', evA.trans ev', eR⟩
      | cnt => exact fun σ' H'' k' ev' => ⟨s2, k', evA.trans ev', eR⟩
      | brk => obtain ⟨rfl, rfl⟩ := ret_some eR; exact fun σ' H'' k' ev' => q σ' H'' k' (evA.trans ev')
      | ret d => obtain ⟨rfl, rfl⟩ := ret_some eR; exact fun v σ' H'' k' ev' r => q v σ' H'' k' (evA.trans ev') r⟩
end
end GH

namespace GH
open PySem PySem.Spec PyProof.Rows L2

/-- what a def does: its arguments, the source ahead, the answer, the source behind -/
abbrev FnSem := List D → Src → Option (D × Src)
/-- its promise -/
def spOf (n : Nat) (g : FnSem) : Sp := fun vs H Q _ => ∃ p c Wc ds s0 d s1, Wc p ∧ Wc c ∧ WT Wc H ∧ SrcOk p c H s0 ∧ Rps p Wc H ds vs ∧ ds.length = n ∧ g ds s0 = some (d, s1) ∧
  ∀ v H', (∀ a o, H a = some o → a ≠ p → a ≠ c → H' a = some o) → SrcOk p c H' s1 → Rp p Wc H' d v → Q v H'
/-- room for k calls, and no text of an object being made around -/
structure RG (k : Nat) (A : Around) : Prop where
  r : Room k A
  g : A.guards = some []
theorem RG.mono {j k : Nat} {A : Around} (h : RG k A) (l : j ≤ k) : RG j A := ⟨h.r.mono l, h.g⟩
theorem RG.deeper {k : Nat} {A : Around} (h : RG (k + 1) A) (env : Env) : RG k (A.deeper env) := ⟨h.r.deeper env, h.g⟩
/-- the def at f keeps the promise of g, its calls k deep -/
def FnG (P : Program) (w : World) (K : PySem.W.Frag) (mg : Str → Option Value) (base : Heap) (k : Nat) (f : Addr) (n : Nat) (g : FnSem) : Prop :=
  ∀ (A : Around) (outer : List Env) (s : Shared) (H : Hp) (us : List Value) (vs : List V) (Q : VK) (E : XK), RG k A → Env0 P w K mg base A outer s H → Vals vs us → spOf n g vs H Q E →
    codeAny (model P w) A (.call (.ref f) ⟨us, []⟩) (CR CX0 outer P w H s Q E) s
structure Fn (P : Program) (w : World) (K : PySem.W.Frag) (mg : Str → Option Value) (base : Heap) (k : Nat) (x : Str) (n : Nat) (g : FnSem) : Prop where
  ok : ∃ f : Addr, mg x = some (.ref f) ∧ PySem.W.keepIn K (.ref f) = true ∧ FnG P w K mg base k f n g
theorem spOf_imp {n : Nat} {g g' : FnSem} (h : ∀ ds s r, g' ds s = some r → g ds s = some r) {vs : List V} {H : Hp} {Q : VK} {E : XK} (q : spOf n g' vs H Q E) : spOf n g vs H Q E := by
  obtain ⟨p, c, Wc, ds, s0, d, s1, h1, h2, h3, h4, h5, h6, h7, h8⟩ := q
  exact ⟨p, c, Wc, ds, s0, d, s1, h1, h2, h3, h4, h5, h6, h _ _ _ h7, h8⟩
/-- a def's meaning told otherwise -/
theorem Fn.imp {P : Program} {w : World} {K : PySem.W.Frag} {mg : Str → Option Value} {base : Heap} {k n : Nat} {x : Str} {g g' : FnSem} (F : Fn P w K mg base k x n g) (h : ∀ ds s r, g' ds s = some r → g ds s = some r) : Fn P w K mg base k x n g' := by
  obtain ⟨f, h1, h2, h3⟩ := F.ok
  exact ⟨f, h1, h2, fun A outer s H us vs Q E hr he hv q => h3 A outer s H us vs Q E hr he hv (spOf_imp h q)⟩
theorem Fn.mono {P : Program} {w : World} {K : PySem.W.Frag} {mg : Str → Option Value} {base : Heap} {j k n : Nat} {x : Str} {g : FnSem} (F : Fn P w K mg base j x n g) (h : j ≤ k) : Fn P w K mg base k x n g := by
  obtain ⟨f, h1, h2, h3⟩ := F.ok
  exact ⟨f, h1, h2, fun A outer s H us vs Q E hr he hv q => h3 A outer s H us vs Q E (hr.mono h) he hv q⟩

/-- behind a call -/
theorem StOk.called {B : Bs} {σ : Sg} {H H' : Hp} {s : S} {c' : Src} (k : StOk B σ H s) (kp : ∀ a o, H a = some o → a ≠ B.p → a ≠ B.c → H' a = some o) (sk : SrcOk B.p B.c H' c') :
    StOk B σ H' { s with src := c' } ∧ Ev (B.W s.env σ) H (B.W s.env σ) H' := by
  have ev : Ev (B.W s.env σ) H (B.W s.env σ) H' := fun a o h n => ⟨kp a o h (fun z => n (.inl (z ▸ k.wp))) (fun z => n (.inl (z ▸ k.wcc))), n⟩
  refine ⟨⟨k.len, fun i d h => ?_, fun i sl h ho => ?_, k.sep, sk, fun a o h n1 n2 => kp a o (k.keep a o h n1 n2) n1 n2, fun a h => ?_, k.wp, k.wcc⟩, ev⟩
  · obtain ⟨v, h1, h2⟩ := k.val i d h
    exact ⟨v, h1, h2.ev ev⟩
  · obtain ⟨a, o, h1, h2, h3, h4, h5⟩ := k.own i sl h ho
    exact ⟨a, o, h1, kp a o h2 (fun z => h5 (z ▸ k.wp)) (fun z => h5 (z ▸ k.wcc)), h3.ev ev, h4, h5⟩
  · by_cases e1 : a = B.p
    · subst e1; exact ⟨_, sk.d, by intro _ z; cases z⟩
    · by_cases e2 : a = B.c
      · subst e2; exact ⟨_, sk.l, by intro _ z; cases z⟩
      · obtain ⟨o, ho, nt⟩ := k.wc a h
        exact ⟨o, kp a o ho e1 e2, nt⟩
def eFn (g : FnSem) (ms : M (List D)) : M D := bnd ms fun ds s => match g ds s.src with
  | some (d, c) => some (d, { s with src := c })
  | none => none
/-- so many arguments -/
def aLen (n : Nat) (ms : M (List D)) : Prop := ∀ s ds s', ms s = some (ds, s') → ds.length = n
theorem aLen_nil : aLen 0 aNil := fun s ds s' h => by obtain ⟨rfl, rfl⟩ := ret_some h; rfl
theorem aLen_cons {n : Nat} {m : M D} {ms : M (List D)} (h : aLen n ms) : aLen (n + 1) (aCons m ms) := fun s ds s' e => by
  obtain ⟨d, s1, h1, h2⟩ := bnd_some e
  obtain ⟨r, s2, h3, h4⟩ := bnd_some h2
  obtain ⟨rfl, rfl⟩ := ret_some h4
  simp [h _ _ _ h3]

section
variable {X : Cx} {e : Expr} {es : List Expr} {pos p : Pos} {ms : M (List D)}
theorem run_g {k n : Nat} {f : Addr} {g : FnSem} {pins : List (Addr × Obj)} {σ : Sg} {H : Hp} {s : Shared} {Q : VK} {us : List Value} {vs : List V} (F : FnG X.prog X.w X.K X.mg X.base k f n g) (hr : RG k X.A) (I : Inv X pins σ H s) (r : Vals vs us) (h : spOf n g vs H Q E0) :
    wpAny (model X.prog X.w) X.A (call (.ref f) us) (EP X pins σ Q) X.xe s := by
  refine wpAny_call (codeAny_mono (F X.A X.stack s H us vs Q E0 hr I.env0 r h) fun res s' hq => ?_)
  cases res with
  | error e => exact False.elim hq
  | ok fl =>
    cases fl with
    | ret u => exact I.after hq
    | next => exact False.elim hq
    | brk => exact False.elim hq
    | cont => exact False.elim hq
theorem s_fn {k n : Nat} {x : Str} {g : FnSem} (F : Fn X.prog X.w X.K X.mg X.base k x n g) (hr : RG k X.A) (hg : Gl X x) (ha : SA X (e :: es) ms) (hl : aLen n ms) (hdb : (x == ("__debug__" : Str)) = false := by decide)
    (he : starEach (e :: es) X.env = (false, eval e X.env) :: starEach es X.env := by rfl) (hpl : (backTo pos (starEach es X.env)).any (·.1) = false := by rfl) : SE X (.Call (.Name x p) (e :: es) [] pos) (eFn g ms) := ⟨fun B => by
  obtain ⟨f, h1, h2, h3⟩ := F.ok
  refine ⟨fun pins sh σ H Q I ⟨s, d, s', k, e, q⟩ => ?_⟩
  refine wpAny_Call_Name_kw (ld_glob I hg h1 ?_ hdb)
  have hw : tA B ms σ H (fun vs Ha => spOf n g vs Ha Q E0) := by
    refine tA.bind k e fun ds s1 vs Ha q1 e1 k1 ev1 r1 => ?_
    split at e1
    · rename_i d' c' eg
      cases e1
      refine ⟨B.p, B.c, B.W s1.env σ, ds, s1.src, d, c', .inl k1.wp, .inl k1.wcc, k1.wt, k1.src, r1, hl _ _ _ q1, eg, fun v H' kp sk r => ?_⟩
      obtain ⟨k2, ev2⟩ := k1.called kp sk
      exact q v H' k2 (ev1.trans ev2) r
    · cases e1
  exact PySem.W.callWith_K (h₀ := X.base) I.ok.mod.kin h2 (thn ((ha.pa B).run pos pins sh σ H _ I hw) fun us s1 ⟨vs, H1, I1, r, q⟩ => ⟨I1.kIn, run_g h3 hr I1 r q⟩) he hpl⟩
end
def fnOf (n : Nat) (m : M Out) : FnSem := fun ds c => match m ⟨ds.map (fun d => some (Sl.val d)) ++ List.replicate (n - ds.length) none, c⟩ with
  | some (.ret d, s) => some (d, s.src)
  | some (.nx, s) => some (.non, s.src)
  | _ => none
theorem start_ok {p c : Addr} {Wc : AP} {H : Hp} {ds : List D} {vs : List V} {N : List Str} {s0 : Src} (h1 : Wc p) (h2 : Wc c) (h3 : WT Wc H) (h4 : SrcOk p c H s0) (h5 : Rps p Wc H ds vs) (hl : vs.length ≤ N.length) :
    StOk ⟨p, c, Wc, H⟩ (L2.start N vs) H ⟨ds.map (fun d => some (Sl.val d)) ++ List.replicate (N.length - ds.length) none, s0⟩ := by
  have hlen := h5.length
  have get : ∀ (i : Nat) (sl : Sl), (ds.map (fun d => some (Sl.val d)) ++ List.replicate (N.length - ds.length) none)[i]? = some (some sl) → ∃ d, ds[i]? = some d ∧ sl = Sl.val d := fun i sl h => by
    by_cases hi : i < ds.length
    · rw [List.getElem?_append_left (by simpa using hi), List.getElem?_map, List.getElem?_eq_getElem hi] at h
      cases h
      exact ⟨_, List.getElem?_eq_getElem hi, rfl⟩
    · rw [List.getElem?_append_right (by simpa using Nat.le_of_not_lt hi), List.getElem?_replicate] at h
      split at h <;> cases h
  have noW : ∀ b, (⟨p, c, Wc, H⟩ : Bs).W (ds.map (fun d => some (Sl.val d)) ++ List.replicate (N.length - ds.length) none) (L2.start N vs) b → Wc b := fun b hb => by
    rcases hb with hb | ⟨i, sl, e1, e2, _⟩
    · exact hb
    · obtain ⟨d, _, rfl⟩ := get i sl e1
      cases e2
  refine ⟨?_, fun i d h => ?_, fun i sl h ho => ?_, fun i j sl sl' a h ho => ?_, h4, fun a o h _ _ => h, h3, h1, h2⟩
  · unfold L2.start
    simp only [List.length_append, List.length_map, List.length_replicate]
    omega
  · obtain ⟨d', hd, e⟩ := get i _ h
    cases e
    obtain ⟨v, q1, q2⟩ := h5.get hd
    refine ⟨v, ?_, q2.ev (Ev.less noW)⟩
    unfold L2.start
    rw [List.getElem?_append_left (by simpa using (List.getElem?_eq_some_iff.mp q1).1), List.getElem?_map, q1]
    rfl
  · obtain ⟨d, _, rfl⟩ := get i sl h
    cases ho
  · obtain ⟨d, _, rfl⟩ := get i sl h
    cases ho
/-- THE RULE for a def -/
theorem fn_body {P : Program} {w : World} {K : PySem.W.Frag} {mg : Str → Option Value} {base : Heap} {x : Str} {params : Arguments} {code : List Stmt} {scope : Scope} {f : Addr} {fd : FuncData} {N ps : List Str} {k : Nat} {m : M Out}
    (F : FunD K x x params code scope [] [] f fd) (hm : mg x = some (.ref f)) (hb : Binds K fd ps []) (S : FnScope N ps scope) (hN : ps.length ≤ N.length)
    (body : ∀ (cdv : Value) (A : Around) (outer : List Env) (s : Shared) (H : Hp), RG k (A.deeper (envOfC x scope s.heap.objs.size f cdv)) →
      SSs (cxOf CX0 P w K mg base N x scope f cdv A outer s H E0).nox code m) : Fn P w K mg base (k + 1) x ps.length (fnOf N.length m) := by
  obtain ⟨oc, od, dV, kV, doc, pm, an, cdv, ct, osl, efd, lk, hcd, _, _⟩ := F.ex
  subst efd
  refine ⟨f, hm, F.kp, fun A outer s H us vs Q E hr e0 r h => ?_⟩
  have hl : vs.length = ps.length := by
    obtain ⟨p, c, Wc, ds, s0, d, s1, _, _, _, _, h5, h6, _⟩ := h
    rw [← h6, h5.length]
  have KX : K.In s.heap := e0.mod.kin.keeps fun b o e => (e0.bs b o e).1
  refine StX.run_bnd (G := fun xs H2 => xs = vs ∧ H2 = H) (E := E) lk hcd S hr.r e0 (fun A' Ex Q' hq => ?_) fun s2 H2 xs ⟨ex, eH⟩ hr2 => ?_
  · have bb := hb s us KX (by rw [List.append_nil, ← r.length, hl])
    rw [List.append_nil] at bb
    exact bb _ _ _ _ (hq s H vs us e0 Un.refl rfl (fun _ _ z => z) r hl ⟨rfl, rfl⟩)
  · subst ex
    subst eH
    obtain ⟨p, c, Wc, ds, s0, d, s1, h1, h2, h3, h4, h5, h6, h7, h8⟩ := h
    refine ⟨_, PSs.nox ((body cdv A outer s2 H2 ⟨hr2, hr.g⟩).ps ⟨p, c, Wc, H2⟩), ?_⟩
    unfold fnOf at h7
    split at h7
    · rename_i d' s' em
      cases h7
      refine ⟨_, _, _, start_ok h1 h2 h3 h4 h5 (by rw [← h5.length, h6]; exact hN), em, fun v σ' H' k' ev r => ?_⟩
      exact h8 v H' (fun a o e n1 n2 => k'.keep a o e n1 n2) k'.src (r.ev (Ev.less fun b hb => .inl hb))
    · rename_i s' em
      cases h7
      refine ⟨_, _, _, start_ok h1 h2 h3 h4 h5 (by rw [← h5.length, h6]; exact hN), em, fun σ' H' k' ev => ?_⟩
      exact h8 .non H' (fun a o e n1 n2 => k'.keep a o e n1 n2) k'.src .mkNon
    · cases h7
end GH

namespace GH
open PySem PySem.Spec PyProof.Rows L2

def eCall (g : List D → Option D) (ms : M (List D)) : M D := bnd ms fun ds => lift (g ds)
def eCallL (g : List D → Option (List D)) (ms : M (List D)) : M (List D) := bnd ms fun ds => lift (g ds)
section
variable {X : Cx} {e a b : Expr} {es : List Expr} {pos p : Pos} {ms : M (List D)} {ma mb m : M D}
abbrev CallD (X : Cx) (f : Value) (g : List D → Option D) : Prop := CallR X f (rC g)
abbrev CallL (X : Cx) (f : Value) (g : List D → Option (List D)) : Prop := CallR X f (rCL g)
theorem call_go {B : Bs} {g : List D → Option D} {σ : Sg} {H : Hp} {Q : VK} (h : tI B (eCall g ms) σ H Q) : tCB (rC g) (tA B ms) σ H Q := by
  obtain ⟨s, d, s', k, e, q⟩ := h
  refine tA.bind k e fun ds s1 vs H1 h1 e1 k1 ev1 r1 => ?_
  obtain ⟨e3, rfl⟩ := lift_some e1
  exact ⟨B.p, _, ds, d, k1.wt, r1, e3, fun v H' sm r => q v H' (k1.same sm) (ev1.trans (Ev.same sm)) r⟩
theorem s_callB {id : String} {x : Str} {g : List D → Option D} (hc : CallD X (.builtin id) g) (hg : Gl X x) (hm : X.mg x = none) (hv : bootBuiltins x = some (.builtin id)) (ha : SA X (e :: es) ms) (hn : x ≠ "__name__" := by decide) (hdb : (x == ("__debug__" : Str)) = false := by decide)
    (he : starEach (e :: es) X.env = (false, eval e X.env) :: starEach es X.env := by rfl) (hpl : (backTo pos (starEach es X.env)).any (·.1) = false := by rfl) : SE X (.Call (.Name x p) (e :: es) [] pos) (eCall g ms) :=
  ⟨fun B => PE.imp (pe_callB hc hg hm hv (ha.pa B) hn hdb he hpl) fun σ H Q h => call_go h⟩
theorem s_callT {T : String} {x : Str} {g : List D → Option D} (hc : CallD X (.type T) g) (hg : Gl X x) (hm : X.mg x = none) (hv : bootBuiltins x = some (.type T)) (ha : SA X (e :: es) ms) (hn : x ≠ "__name__" := by decide) (hdb : (x == ("__debug__" : Str)) = false := by decide)
    (he : starEach (e :: es) X.env = (false, eval e X.env) :: starEach es X.env := by rfl) (hpl : (backTo pos (starEach es X.env)).any (·.1) = false := by rfl) : SE X (.Call (.Name x p) (e :: es) [] pos) (eCall g ms) :=
  ⟨fun B => PE.imp (pe_callTy hc hg hm hv (ha.pa B) hn hdb he hpl) fun σ H Q h => call_go h⟩
/-- any new list of what was there -/
theorem StOk.newList {B : Bs} {σ : Sg} {H H' : Hp} {s : S} {a : Addr} {vs : List V} {ds : List D} (k : StOk B σ H s) (sm : Same H H') (n : H a = none) (ha : H' a = some (.lst vs)) (r : Rps B.p (B.W s.env σ) H ds vs) :
    StOk (B.plus a) σ H' s ∧ Ev (B.W s.env σ) H ((B.plus a).W s.env σ) H' ∧ Rps B.p ((B.plus a).W s.env σ) H' ds vs := by
  have ev : Ev (B.W s.env σ) H ((B.plus a).W s.env σ) H' := fun b x h hn => ⟨sm b x h, by
    rintro ((z | z) | z)
    · exact hn (.inl z)
    · exact ne_of_none h n z
    · exact hn (.inr z)⟩
  refine ⟨⟨k.len, fun i d h => ?_, fun i sl h ho => ?_, k.sep, k.src.same sm, fun b x h h1 h2 => sm b x (k.keep b x h h1 h2), fun b h => ?_, .inl k.wp, .inl k.wcc⟩, ev, r.ev ev⟩
  · obtain ⟨v, h1, h2⟩ := k.val i d h
    exact ⟨v, h1, h2.ev ev⟩
  · obtain ⟨b, x, h1, h2, h3, h4, h5⟩ := k.own i sl h ho
    refine ⟨b, x, h1, sm _ _ h2, h3.ev ev, h4, ?_⟩
    rintro (z | z)
    · exact h5 z
    · exact ne_of_none h2 n z
  · rcases h with z | z
    · obtain ⟨x, h1, nt⟩ := k.wc b z
      exact ⟨x, sm _ _ h1, nt⟩
    · subst z
      exact ⟨_, ha, by intro _ z; cases z⟩
theorem callL_go {B : Bs} {g : List D → Option (List D)} {σ : Sg} {H : Hp} {Q : VK} (h : tL B (eCallL g ms) σ H Q) : tCB (rCL g) (tA B ms) σ H Q := by
  obtain ⟨s, d, s', k, e, q⟩ := h
  refine tA.bind k e fun ds s1 vs H1 h1 e1 k1 ev1 r1 => ?_
  obtain ⟨e3, rfl⟩ := lift_some e1
  refine ⟨B.p, _, ds, d, k1.wt, r1, e3, fun a us H' sm n ha r => ?_⟩
  obtain ⟨kp, ev2, r2⟩ := k1.newList sm n ha r
  exact q a us H' kp (ev1.trans ev2) (k1.new n) (k1.wt.new n) ha r2
theorem l_callB {id : String} {x : Str} {g : List D → Option (List D)} (hc : CallL X (.builtin id) g) (hg : Gl X x) (hm : X.mg x = none) (hv : bootBuiltins x = some (.builtin id)) (ha : SA X (e :: es) ms) (hn : x ≠ "__name__" := by decide) (hdb : (x == ("__debug__" : Str)) = false := by decide)
    (he : starEach (e :: es) X.env = (false, eval e X.env) :: starEach es X.env := by rfl) (hpl : (backTo pos (starEach es X.env)).any (·.1) = false := by rfl) : SL X (.Call (.Name x p) (e :: es) [] pos) (eCallL g ms) :=
  ⟨fun B => PE.imp (pe_callB hc hg hm hv (ha.pa B) hn hdb he hpl) fun σ H Q h => callL_go h⟩
theorem l_callT {T : String} {x : Str} {g : List D → Option (List D)} (hc : CallL X (.type T) g) (hg : Gl X x) (hm : X.mg x = none) (hv : bootBuiltins x = some (.type T)) (ha : SA X (e :: es) ms) (hn : x ≠ "__name__" := by decide) (hdb : (x == ("__debug__" : Str)) = false := by decide)
    (he : starEach (e :: es) X.env = (false, eval e X.env) :: starEach es X.env := by rfl) (hpl : (backTo pos (starEach es X.env)).any (·.1) = false := by rfl) : SL X (.Call (.Name x p) (e :: es) [] pos) (eCallL g ms) :=
  ⟨fun B => PE.imp (pe_callTy hc hg hm hv (ha.pa B) hn hdb he hpl) fun σ H Q h => callL_go h⟩

theorem callD_cases {f : Value} {g : List D → Option D} (h : ∀ ds d p W, g ds = some d → CallR X f (fun vs H Q => WT W H ∧ Rps p W H ds vs ∧ ∀ v H', Same H H' → Rp p W H' d v → Q v H')) : CallD X f g := by
  intro pins s σ H xs us Q I r ⟨p, W, ds, d, hw, hx, he, hq⟩
  exact h ds d p W he pins s σ H xs us Q I r ⟨hw, hx, hq⟩
def lenG : List D → Option D
  | [.lst ds] => some (.int ds.length)
  | [.tup ds] => some (.int ds.length)
  | [.str s] => if s.length ≤ sizeLine then some (.int s.length) else none
  | _ => none
theorem c_len : CallD X (.builtin "len") lenG := callD_cases fun ds d p W he => by
  unfold lenG at he
  split at he
  · cases he
    refine CallR.imp call_len fun vs H Q ⟨hw, hx, hq⟩ => ?_
    obtain ⟨v, rfl, r⟩ := rps1 hx
    obtain ⟨a, us, rfl, _, ha, rs⟩ := rp_lst r
    exact ⟨_, us.length, rfl, .inl ⟨us, SqL.of ha, rfl⟩, by rw [← rs.length]; exact hq _ _ (Same.refl H) (.mkInt _)⟩
  · cases he
    refine CallR.imp call_len fun vs H Q ⟨hw, hx, hq⟩ => ?_
    obtain ⟨v, rfl, r⟩ := rps1 hx
    obtain ⟨a, us, rfl, _, ha, rs⟩ := rp_tup r
    exact ⟨_, us.length, rfl, .inr ⟨us, SqT.of ha, rfl⟩, by rw [← rs.length]; exact hq _ _ (Same.refl H) (.mkInt _)⟩
  · split at he
    · rename_i hl
      cases he
      refine CallR.imp call_len fun vs H Q ⟨hw, hx, hq⟩ => ?_
      obtain ⟨v, rfl, r⟩ := rps1 hx
      rw [rp_str r]
      exact ⟨_, _, rfl, ⟨hl, rfl⟩, hq _ _ (Same.refl H) (.mkInt _)⟩
    · cases he
  · cases he
def intG : List D → Option D
  | [.int i] => some (.int i)
  | [.bl k] => some (.int (if k then 1 else 0))
  | _ => none
theorem c_int : CallD X (.type "int") intG := callD_cases fun ds d p W he => by
  unfold intG at he
  split at he
  · cases he
    refine CallR.imp call_int1 fun vs H Q ⟨hw, hx, hq⟩ => ?_
    obtain ⟨v, rfl, r⟩ := rps1 hx
    exact .inl ⟨_, by rw [rp_int r], hq _ _ (Same.refl H) (.mkInt _)⟩
  · cases he
    refine CallR.imp call_int1 fun vs H Q ⟨hw, hx, hq⟩ => ?_
    obtain ⟨v, rfl, r⟩ := rps1 hx
    exact .inr ⟨_, by rw [rp_bl r], hq _ _ (Same.refl H) (.mkInt _)⟩
  · cases he
def absG : List D → Option D
  | [.int i] => some (.int (if i < 0 then -i else i))
  | _ => none
theorem c_abs : CallD X (.builtin "abs") absG := callD_cases fun ds d p W he => by
  unfold absG at he
  split at he
  · cases he
    refine CallR.imp call_abs fun vs H Q ⟨hw, hx, hq⟩ => ?_
    obtain ⟨v, rfl, r⟩ := rps1 hx
    exact ⟨_, by rw [rp_int r], hq _ _ (Same.refl H) (.mkInt _)⟩
  · cases he
def tupG : List D → Option D
  | [.lst ds] => some (.tup ds)
  | [.tup ds] => some (.tup ds)
  | _ => none
theorem c_tup : CallD X (.type "tuple") tupG := callD_cases fun ds d p W he => by
  unfold tupG at he
  split at he
  · cases he
    refine CallR.imp call_tuple_of fun vs H Q ⟨hw, hx, hq⟩ => ?_
    obtain ⟨v, rfl, r⟩ := rps1 hx
    obtain ⟨a, us, rfl, _, ha, rs⟩ := rp_lst r
    exact ⟨a, us, rfl, .inl ⟨SqL.of ha, fun l hl => hq _ _ (same_new hl) (.newTup hw hl rs)⟩⟩
  · cases he
    refine CallR.imp call_tuple_of fun vs H Q ⟨hw, hx, hq⟩ => ?_
    obtain ⟨v, rfl, r⟩ := rps1 hx
    obtain ⟨a, us, rfl, na, ha, rs⟩ := rp_tup r
    exact ⟨a, us, rfl, .inr ⟨SqT.of ha, hq _ _ (Same.refl H) (.mkTup na ha rs)⟩⟩
  · cases he
def lstG : List D → Option (List D)
  | [.lst ds] => some ds
  | [.tup ds] => some ds
  | _ => none
theorem c_lst : CallL X (.type "list") lstG := by
  intro pins s σ H xs us Q I r ⟨p, W, ds, es, hw, hx, he, hq⟩
  unfold lstG at he
  split at he
  · cases he
    obtain ⟨v, rfl, r'⟩ := rps1 hx
    obtain ⟨a, ws, rfl, _, ha, rs⟩ := rp_lst r'
    exact call_list_of pins s σ H _ us Q I r ⟨a, ws, rfl, .inl (SqL.of ha), fun l hl => hq l ws _ (same_new hl) hl upd_same rs⟩
  · cases he
    obtain ⟨v, rfl, r'⟩ := rps1 hx
    obtain ⟨a, ws, rfl, _, ha, rs⟩ := rp_tup r'
    exact call_list_of pins s σ H _ us Q I r ⟨a, ws, rfl, .inr (SqT.of ha), fun l hl => hq l ws _ (same_new hl) hl upd_same rs⟩
  · cases he
def sumG : List D → Option D
  | [.lst ds] => (toInts ds).map fun ns => .int ns.sum
  | [.tup ds] => (toInts ds).map fun ns => .int ns.sum
  | _ => none
theorem sum_tup (hc : X.calm = true) : CallR X (.builtin "sum") (fun vs H Q => ∃ (a : Addr) (ns : List Int), vs = [V.ref a] ∧ SqT X.K H a (ns.map V.int) ∧ Q (.int ns.sum) H) := by
  intro pins s σ H vs us Q I r ⟨a, ns, e, hs, q⟩
  subst e
  obtain ⟨its, rv, hl, _⟩ := I.tuple hs
  rw [Vals.ref1 r]
  have hi := rv.ints
  obtain ⟨xs, hx⟩ := hi.allInts.items
  have hn := hi.numsOf
  have hl : s.heap.IsTuple a its.toArray := hl
  rw [show numsOf its = numsOf its.toArray.toList from rfl, hx] at hn
  rw [nums_intItems] at hn
  rw [hx] at hl
  refine PySem.W.ktm_sumG (I.ok.hd hc) hl fun h' tk t' hk => ?_
  rw [preSum_eq, List.take_of_length_le (by simp), hn]
  exact ⟨.int _, H, I.kept (t' := tk) hk, ⟨_, rfl⟩, q⟩
theorem c_sum (hc : X.calm = true) : CallD X (.builtin "sum") sumG := callD_cases fun ds d p W he => by
  unfold sumG at he
  split at he
  · rename_i es
    obtain ⟨ns, h1, rfl⟩ := Option.map_eq_some_iff.mp he
    have := toInts_eq h1
    subst this
    refine CallR.imp (cr_sum hc) fun vs H Q ⟨hw, hx, hq⟩ => ?_
    obtain ⟨v, rfl, r⟩ := rps1 hx
    obtain ⟨a, us, rfl, _, ha, rs⟩ := rp_lst r
    rw [rps_ints rs] at ha
    exact ⟨a, ns, rfl, SqL.of ha, hq _ _ (Same.refl H) (.mkInt _)⟩
  · rename_i es
    obtain ⟨ns, h1, rfl⟩ := Option.map_eq_some_iff.mp he
    have := toInts_eq h1
    subst this
    refine CallR.imp (sum_tup hc) fun vs H Q ⟨hw, hx, hq⟩ => ?_
    obtain ⟨v, rfl, r⟩ := rps1 hx
    obtain ⟨a, us, rfl, _, ha, rs⟩ := rp_tup r
    rw [rps_ints rs] at ha
    exact ⟨a, ns, rfl, SqT.of ha, hq _ _ (Same.refl H) (.mkInt _)⟩
  · cases he
/-- the greatest, the least of a row of ints -/
def maxL : List Int → Int
  | [] => 0
  | [x] => x
  | x :: r => if maxL r > x then maxL r else x
def minL : List Int → Int
  | [] => 0
  | [x] => x
  | x :: r => if minL r < x then minL r else x
theorem maxL_spec : ∀ {ns : List Int}, ns ≠ [] → maxL ns ∈ ns ∧ ∀ y ∈ ns, y ≤ maxL ns
  | [], h => absurd rfl h
  | [x], _ => ⟨by simp [maxL], by simp [maxL]⟩
  | x :: y :: r, _ => by
    obtain ⟨h1, h2⟩ := maxL_spec (ns := y :: r) (by simp)
    unfold maxL
    split
    · refine ⟨List.mem_cons_of_mem _ h1, fun z hz => ?_⟩
      rcases List.mem_cons.mp hz with rfl | hz
      · omega
      · exact h2 z hz
    · refine ⟨List.mem_cons_self, fun z hz => ?_⟩
      rcases List.mem_cons.mp hz with rfl | hz
      · exact Int.le_refl _
      · have := h2 z hz; omega
theorem minL_spec : ∀ {ns : List Int}, ns ≠ [] → minL ns ∈ ns ∧ ∀ y ∈ ns, minL ns ≤ y
  | [], h => absurd rfl h
  | [x], _ => ⟨by simp [minL], by simp [minL]⟩
  | x :: y :: r, _ => by
    obtain ⟨h1, h2⟩ := minL_spec (ns := y :: r) (by simp)
    unfold minL
    split
    · refine ⟨List.mem_cons_of_mem _ h1, fun z hz => ?_⟩
      rcases List.mem_cons.mp hz with rfl | hz
      · omega
      · exact h2 z hz
    · refine ⟨List.mem_cons_self, fun z hz => ?_⟩
      rcases List.mem_cons.mp hz with rfl | hz
      · exact Int.le_refl _
      · have := h2 z hz; omega
def maxG : List D → Option D
  | [.int i, .int j] => some (.int (if j > i then j else i))
  | [.lst ds] => (toInts ds).bind fun ns => if ns ≠ [] then some (.int (maxL ns)) else none
  | [.tup ds] => (toInts ds).bind fun ns => if ns ≠ [] then some (.int (maxL ns)) else none
  | _ => none
def minG : List D → Option D
  | [.int i, .int j] => some (.int (if j < i then j else i))
  | [.lst ds] => (toInts ds).bind fun ns => if ns ≠ [] then some (.int (minL ns)) else none
  | _ => none
/-- the greatest of ints, by walking -/
theorem maxOf_int (x : Int) : ∀ xs : List Int, PySem.W.maxOf x xs ∈ x :: xs ∧ ∀ y ∈ x :: xs, y ≤ PySem.W.maxOf x xs := fun xs => by
  unfold PySem.W.maxOf
  induction xs generalizing x with
  | nil => exact ⟨by simp, by simp⟩
  | cons y t ih =>
    rw [List.foldl_cons]
    have hlt : PySem.W.DatumOrd.lt x y = decide (x < y) := by first | rfl | simp [PySem.W.DatumOrd.lt]
    rw [hlt]
    obtain ⟨h1, h2⟩ := ih (if decide (x < y) = true then y else x)
    have hx : x ≤ (if decide (x < y) = true then y else x) ∧ y ≤ (if decide (x < y) = true then y else x) ∧ ((if decide (x < y) = true then y else x) = x ∨ (if decide (x < y) = true then y else x) = y) := by
      by_cases h : x < y
      · rw [decide_eq_true h, if_pos rfl]; omega
      · rw [decide_eq_false h, if_neg (by decide)]; omega
    generalize (if decide (x < y) = true then y else x) = z at h1 h2 hx ⊢
    obtain ⟨a, b, c⟩ := hx
    have hz := h2 z List.mem_cons_self
    refine ⟨?_, fun w hw => ?_⟩
    · rcases List.mem_cons.mp h1 with e | e
      · rw [e]; rcases c with c | c <;> rw [c] <;> simp
      · exact List.mem_cons_of_mem _ (List.mem_cons_of_mem _ e)
    · rcases List.mem_cons.mp hw with e | e
      · subst e; omega
      · rcases List.mem_cons.mp e with e | e
        · subst e; omega
        · exact h2 w (List.mem_cons_of_mem _ e)
theorem max_tup (hc : X.calm = true) (hu : X.A.units + 1 < cLine) : CallR X (.builtin "max") (fun vs H Q => ∃ (a : Addr) (ns : List Int), vs = [V.ref a] ∧ SqT X.K H a (ns.map V.int) ∧ ns ≠ [] ∧ ∀ m, m ∈ ns → (∀ y, y ∈ ns → y ≤ m) → Q (.int m) H) := by
  intro pins s σ H vs us Q I r ⟨a, ns, e, hs, hne, q⟩
  subst e
  obtain ⟨its, rv, hl, _⟩ := I.tuple hs
  rw [Vals.ref1 r]
  have hi := rv.ints
  have hl : s.heap.IsTuple a its.toArray := hl
  cases ns with
  | nil => exact absurd rfl hne
  | cons x xs =>
    refine PySem.W.max_tuple_datum (α := Int) (I.ok.hd hc) hl (x := x) (xs := xs) (PySem.W.HoldAll.of_ints hi) (by exact hu) fun i v h' tk hv hh hk => ?_
    obtain ⟨as, hr⟩ := hh
    have : ∃ t, v = .int (PySem.W.maxOf x xs) t := by
      have hr : Reads h' v (.int (PySem.W.maxOf x xs)) as := hr
      cases hr with
      | int n t => exact ⟨t, rfl⟩
    obtain ⟨t, rfl⟩ := this
    obtain ⟨m1, m2⟩ := maxOf_int x xs
    exact ⟨.int _, H, I.kept (t' := tk) hk, ⟨_, rfl⟩, q _ m1 m2⟩
theorem c_max (hc : X.calm = true) (hu : X.A.units + 1 < cLine) : CallD X (.builtin "max") maxG := callD_cases fun ds d p W he => by
  unfold maxG at he
  split at he
  · cases he
    refine CallR.imp (call_max2 hc) fun vs H Q ⟨hw, hx, hq⟩ => ?_
    obtain ⟨v, u, rfl, r1, r2⟩ := rps2 hx
    exact ⟨_, _, by rw [rp_int r1, rp_int r2], hq _ _ (Same.refl H) (.mkInt _)⟩
  · obtain ⟨ns, h1, h2⟩ := Option.bind_eq_some_iff.mp he
    split at h2
    · rename_i hne
      cases h2
      have := toInts_eq h1
      subst this
      refine CallR.imp (cr_max hc) fun vs H Q ⟨hw, hx, hq⟩ => ?_
      obtain ⟨v, rfl, r⟩ := rps1 hx
      obtain ⟨a, us, rfl, _, ha, rs⟩ := rp_lst r
      rw [rps_ints rs] at ha
      refine ⟨a, ns, rfl, SqL.of ha, List.length_pos_iff.mpr hne, fun m hm1 hm2 => ?_⟩
      obtain ⟨q1, q2⟩ := maxL_spec hne
      have : m = maxL ns := Int.le_antisymm (q2 m hm1) (hm2 _ q1)
      subst this
      exact hq _ _ (Same.refl H) (.mkInt _)
    · cases h2
  · obtain ⟨ns, h1, h2⟩ := Option.bind_eq_some_iff.mp he
    split at h2
    · rename_i hne
      cases h2
      have := toInts_eq h1
      subst this
      refine CallR.imp (max_tup hc hu) fun vs H Q ⟨hw, hx, hq⟩ => ?_
      obtain ⟨v, rfl, r⟩ := rps1 hx
      obtain ⟨a, us, rfl, _, ha, rs⟩ := rp_tup r
      rw [rps_ints rs] at ha
      refine ⟨a, ns, rfl, SqT.of ha, hne, fun m hm1 hm2 => ?_⟩
      obtain ⟨q1, q2⟩ := maxL_spec hne
      have : m = maxL ns := Int.le_antisymm (q2 m hm1) (hm2 _ q1)
      subst this
      exact hq _ _ (Same.refl H) (.mkInt _)
    · cases h2
  · cases he
theorem c_min (hc : X.calm = true) : CallD X (.builtin "min") minG := callD_cases fun ds d p W he => by
  unfold minG at he
  split at he
  · cases he
    refine CallR.imp (call_min2 hc) fun vs H Q ⟨hw, hx, hq⟩ => ?_
    obtain ⟨v, u, rfl, r1, r2⟩ := rps2 hx
    exact ⟨_, _, by rw [rp_int r1, rp_int r2], hq _ _ (Same.refl H) (.mkInt _)⟩
  · obtain ⟨ns, h1, h2⟩ := Option.bind_eq_some_iff.mp he
    split at h2
    · rename_i hne
      cases h2
      have := toInts_eq h1
      subst this
      refine CallR.imp (cr_min hc) fun vs H Q ⟨hw, hx, hq⟩ => ?_
      obtain ⟨v, rfl, r⟩ := rps1 hx
      obtain ⟨a, us, rfl, _, ha, rs⟩ := rp_lst r
      rw [rps_ints rs] at ha
      refine ⟨a, ns, rfl, SqL.of ha, List.length_pos_iff.mpr hne, fun m hm1 hm2 => ?_⟩
      obtain ⟨q1, q2⟩ := minL_spec hne
      have : m = minL ns := Int.le_antisymm (hm2 _ q1) (q2 m hm1)
      subst this
      exact hq _ _ (Same.refl H) (.mkInt _)
    · cases h2
  · cases he
def anyG : List D → Option D
  | [.lst ds] => (toBls ds).map fun ns => .bl (ns.any id)
  | _ => none
def allG : List D → Option D
  | [.lst ds] => (toBls ds).map fun ns => .bl (ns.all id)
  | _ => none
theorem c_any (hc : X.calm = true) : CallD X (.builtin "any") anyG := callD_cases fun ds d p W he => by
  unfold anyG at he
  split at he
  · obtain ⟨ns, h1, rfl⟩ := Option.map_eq_some_iff.mp he
    have := toBls_eq h1
    subst this
    refine CallR.imp (cr_any hc) fun vs H Q ⟨hw, hx, hq⟩ => ?_
    obtain ⟨v, rfl, r⟩ := rps1 hx
    obtain ⟨a, us, rfl, _, ha, rs⟩ := rp_lst r
    rw [rps_bls rs] at ha
    exact ⟨a, ns, rfl, SqL.of ha, hq _ _ (Same.refl H) (.mkBl _)⟩
  · cases he
theorem c_all (hc : X.calm = true) : CallD X (.builtin "all") allG := callD_cases fun ds d p W he => by
  unfold allG at he
  split at he
  · obtain ⟨ns, h1, rfl⟩ := Option.map_eq_some_iff.mp he
    have := toBls_eq h1
    subst this
    refine CallR.imp (cr_all hc) fun vs H Q ⟨hw, hx, hq⟩ => ?_
    obtain ⟨v, rfl, r⟩ := rps1 hx
    obtain ⟨a, us, rfl, _, ha, rs⟩ := rp_lst r
    rw [rps_bls rs] at ha
    exact ⟨a, ns, rfl, SqL.of ha, hq _ _ (Same.refl H) (.mkBl _)⟩
  · cases he

instance (i j : Int) : Decidable (RgOk i j) := by unfold RgOk; infer_instance
def lRg1 (m : M D) : M (List D) := bnd m fun d => match d with
  | .int j => if RgOk 0 j then ret (rngL 0 j) else fail
  | _ => fail
def lRg2 (ma mb : M D) : M (List D) := bnd ma fun d => bnd mb fun e => match d, e with
  | .int i, .int j => if RgOk i j then ret (rngL i j) else fail
  | _, _ => fail
theorem rng_rps {p : Addr} {W : AP} {H : Hp} {lo hi : Int} : Rps p W H (rngL lo hi) (rgV lo hi) := by
  have e : rngL lo hi = ((List.range (hi - lo).toNat).map fun i => lo + ((i : Nat) : Int)).map D.int := by simp [rngL, List.map_map, Function.comp_def]
  have e2 : rgV lo hi = ((List.range (hi - lo).toNat).map fun i => lo + ((i : Nat) : Int)).map V.int := by simp [rgV, List.map_map, Function.comp_def]
  rw [e, e2]; exact ints_rps
theorem l_rg1 {p1 p2 pos2 : Pos} (hc : X.calm = true) (hl : Gl X "list") (hlm : X.mg "list" = none) (hg : Gl X "range") (hm : X.mg "range" = none) (ha : SE X a ma) (na : starEach [a] X.env = (false, eval a X.env) :: starEach [] X.env := by rfl)
    (nb : starEach [.Call (.Name "range" p2) [a] [] pos2] X.env = (false, eval (.Call (.Name "range" p2) [a] [] pos2) X.env) :: starEach [] X.env := by rfl) : SL X (.Call (.Name "list" p1) [.Call (.Name "range" p2) [a] [] pos2] [] pos) (lRg1 ma) :=
  ⟨fun B => PE.imp (pe_listRg hc hl hlm (prg_1 hg hm (ha.pe B) na) nb) fun σ H Q ⟨s, d, s', k, e, q⟩ => by
    refine tI.bind k e fun dx s1 v H1 h1 e1 k1 ev1 r1 => ?_
    cases dx <;> simp only [fail] at e1 <;> try (cases e1; done)
    split at e1
    · rename_i j hj
      obtain ⟨rfl, rfl⟩ := ret_some e1
      refine ⟨j, rp_int r1, hj, fun a n => ?_⟩
      obtain ⟨kp, ev2, r2⟩ := k1.newList (same_new n) n upd_same (rng_rps (lo := 0) (hi := j))
      exact q a _ _ kp (ev1.trans ev2) (k1.new n) (k1.wt.new n) upd_same r2
    · cases e1⟩
theorem l_rg2 {p1 p2 pos2 : Pos} (hc : X.calm = true) (hl : Gl X "list") (hlm : X.mg "list" = none) (hg : Gl X "range") (hm : X.mg "range" = none) (ha : SE X a ma) (hb : SE X b mb) (na : starEach [a, b] X.env = (false, eval a X.env) :: starEach [b] X.env := by rfl)
    (nb0 : starEach [b] X.env = (false, eval b X.env) :: starEach [] X.env := by rfl) (hp0 : (backTo pos (starEach [b] X.env)).any (·.1) = false := by rfl)
    (nb : starEach [.Call (.Name "range" p2) [a, b] [] pos2] X.env = (false, eval (.Call (.Name "range" p2) [a, b] [] pos2) X.env) :: starEach [] X.env := by rfl) (hp2 : (backTo pos2 (starEach [b] X.env)).any (·.1) = false := by rfl) : SL X (.Call (.Name "list" p1) [.Call (.Name "range" p2) [a, b] [] pos2] [] pos) (lRg2 ma mb) :=
  ⟨fun B => PE.imp (pe_listRg hc hl hlm (prg_2 hg hm (ha.pe B) (hb.pe B) na nb0 hp2) nb) fun σ H Q ⟨s, d, s', k, e, q⟩ => by
    refine tI.bind k e fun dx s1 v H1 h1 e1 k1 ev1 r1 => ?_
    refine tI.bind k1 e1 fun dy s2 v2 H2 h2 e2 k2 ev2 r2 => ?_
    cases dx <;> cases dy <;> (try simp only [fail] at e2) <;> try (cases e2; done)
    split at e2
    · rename_i i j hj
      obtain ⟨rfl, rfl⟩ := ret_some e2
      refine ⟨i, j, rp_int r1, rp_int r2, hj, fun a n => ?_⟩
      obtain ⟨kp, ev3, r3⟩ := k2.newList (same_new n) n upd_same (rng_rps (lo := i) (hi := j))
      exact q a _ _ kp ((ev1.trans ev2).trans ev3) (k2.new n) (k2.wt.new n) upd_same r3
    · cases e2⟩
theorem s_tupRg1 {p1 p2 pos2 : Pos} (hc : X.calm = true) (hl : Gl X "tuple") (hlm : X.mg "tuple" = none) (hg : Gl X "range") (hm : X.mg "range" = none) (ha : SE X a ma) (na : starEach [a] X.env = (false, eval a X.env) :: starEach [] X.env := by rfl)
    (nb : starEach [.Call (.Name "range" p2) [a] [] pos2] X.env = (false, eval (.Call (.Name "range" p2) [a] [] pos2) X.env) :: starEach [] X.env := by rfl) : SE X (.Call (.Name "tuple" p1) [.Call (.Name "range" p2) [a] [] pos2] [] pos) (bnd (lRg1 ma) fun ds => ret (.tup ds)) :=
  ⟨fun B => PE.imp (pe_tupRg hc hl hlm (prg_1 hg hm (ha.pe B) na) nb) fun σ H Q ⟨s, d, s', k, e, q⟩ => by
    obtain ⟨ds, s0, e, e0⟩ := bnd_some e
    obtain ⟨rfl, rfl⟩ := ret_some e0
    refine tI.bind k e fun dx s1 v H1 h1 e1 k1 ev1 r1 => ?_
    cases dx <;> simp only [fail] at e1 <;> try (cases e1; done)
    split at e1
    · rename_i j hj
      obtain ⟨rfl, rfl⟩ := ret_some e1
      exact ⟨j, rp_int r1, hj, fun a n => q _ _ (k1.same (same_new n)) (ev1.trans (Ev.same (same_new n))) (.newTup k1.wt n rng_rps)⟩
    · cases e1⟩

def okSort (ds : List PyData) : Bool := ds.all (fun a => ds.all fun b => PySem.W.alike a b) && ((ds.all fun a => match a with | .tuple (_ :: _) => true | _ => false) || ds.all fun a => match a with | .none => false | .tuple _ => false | _ => true) && (ds.all fun a => decide (a.depth ≤ 60)) && PyData.canLayAll0 ds
def srtG : List D → Option (List D)
  | [.lst ds] => if okSort (D.pys ds) = true ∧ ds.length ≤ sizeLine then some (ds.mergeSort (PySem.W.dataLe false D.py)) else none
  | [.tup ds] => if okSort (D.pys ds) = true ∧ ds.length ≤ sizeLine ∧ False then some ds else none
  | _ => none
theorem vals_zip : ∀ {vs : List V} {us : List Value} {ds : List D}, Vals vs us → ds.length = vs.length → PySem.W.EachIs (fun u (b : D × V) => RelV b.2 u) us (ds.zip vs)
  | _, _, [], .nil, _ => .nil
  | _, _, _ :: _, .nil, h => by simp at h
  | _, _, [], .cons _ _, h => by simp at h
  | _, _, d :: ds, .cons r t, h => .cons r (vals_zip t (by simpa using h))
theorem reads_zip {p : Addr} {W : AP} {pins : List (Addr × Obj)} {σ : Sg} {H : Hp} {s : Shared} (I : Inv X pins σ H s) : ∀ {vs : List V} {us : List Value} {ds : List D}, Vals vs us → Rps p W H ds vs → PyData.canLayAll0 (D.pys ds) = true →
    PySem.W.EachIs (fun u (b : D × V) => ∃ as, Reads s.heap u b.1.py as) us (ds.zip vs)
  | _, _, [], .nil, _, _ => .nil
  | _, _, _ :: _, .nil, h, _ => by simp [Rps] at h
  | _, _, [], .cons _ _, h, _ => by simp [Rps] at h
  | _, _, d :: ds, .cons r t, h, hc => by
    simp only [Rps] at h
    obtain ⟨v, r', e, h1, h2⟩ := h
    cases e
    simp only [D.pys, PyData.canLayAll0, Bool.and_eq_true] at hc
    exact .cons (Dp.reads I _ _ _ (h1.dp _ _ hc.1) r) (reads_zip I t h2 hc.2)
theorem vals_of_each : ∀ {bs : List (D × V)} {us : List Value}, PySem.W.EachIs (fun u (b : D × V) => RelV b.2 u) us bs → Vals (bs.map (·.2)) us
  | _, _, .nil => .nil
  | _, _, .cons r t => .cons r (vals_of_each t)
theorem zip_fst {α β : Type} : ∀ {xs : List α} {ys : List β}, xs.length = ys.length → (xs.zip ys).map (·.1) = xs
  | [], [], _ => rfl
  | _ :: _, [], h => by simp at h
  | [], _ :: _, _ => rfl
  | x :: xs, y :: ys, h => by simp [zip_fst (xs := xs) (ys := ys) (by simpa using h)]
theorem c_srt {k : Nat} (hr : RG k X.A) : CallL X (.builtin "sorted") srtG := by
  intro pins s σ H xs us Q I r ⟨p, W, ds, es, hw, hx, he, hq⟩
  unfold srtG at he
  split at he
  · rename_i ds
    split at he
    · rename_i hk
      cases he
      obtain ⟨hk, hsz⟩ := hk
      obtain ⟨v, rfl, r'⟩ := rps1 hx
      obtain ⟨a, ws, rfl, _, ha, rs⟩ := rp_lst r'
      obtain ⟨u0, rfl, r0⟩ := r.one
      cases r0
      obtain ⟨its, rv, pl, hz⟩ := I.list (SqL.of ha)
      unfold okSort at hk
      simp only [Bool.and_eq_true, Bool.or_eq_true] at hk
      obtain ⟨⟨⟨hal, hst⟩, hdp⟩, hcl⟩ := hk
      have hl := rs.length
      have AL : PySem.W.AllAlike (D.pys ds) := fun d hd d' hd' => List.all_eq_true.mp (List.all_eq_true.mp hal d hd) d' hd'
      have emap : (ds.zip ws).map (fun b => b.1.py) = D.pys ds := by
        rw [pys_map, ← zip_fst hl, List.map_map]
        · rw [zip_fst hl]; rfl
      have hS : PySem.W.Sortable (D.pys ds) := by
        rcases hst with z | z
        · refine .inl fun d hd => ?_
          have := List.all_eq_true.mp z d hd
          split at this
          · exact ⟨_, _, rfl⟩
          · cases this
        · refine .inr fun d hd => ?_
          have := List.all_eq_true.mp z d hd
          cases d <;> simp at this ⊢
      refine PySem.W.sorted_data (R := fun u (b : D × V) => RelV b.2 u) (enc := fun b => b.1.py) pl.isList (vals_zip rv hl) (reads_zip I rv rs hcl) (by rw [emap]; exact AL) (by rw [emap]; exact hS) ?_ (fun b hb => ?_) fun out ho eo => ?_
      · rw [List.length_zip, hl, Nat.min_self, ← hl]; exact hsz
      · have hd : b.1.py ∈ D.pys ds := by rw [← emap]; exact List.mem_map.mpr ⟨b, hb, rfl⟩
        have := of_decide_eq_true (List.all_eq_true.mp hdp _ hd)
        have := hr.r.units
        omega
      · have rv' := vals_of_each eo
        obtain ⟨ep, he'⟩ := PyProof.Rows.sortedAll_at s.heap its out.toArray
        have perm : ((ds.zip ws).mergeSort (PySem.W.dataLe false fun b => b.1.py)).Perm (ds.zip ws) := List.mergeSort_perm _ _
        have hlen : (((ds.zip ws).mergeSort (PySem.W.dataLe false fun b => b.1.py)).map (·.2)).length ≤ sizeLine := by
          rw [List.length_map, perm.length_eq, List.length_zip, hl, Nat.min_self, ← hl]; exact hsz
        have hn : H (s.heap.objs.size + 1) = none := I.hok.fresh (Nat.le_succ _)
        refine ⟨.ref (s.heap.objs.size + 1), upd H (s.heap.objs.size + 1) (.lst (((ds.zip ws).mergeSort (PySem.W.dataLe false fun b => b.1.py)).map (·.2))), I.laid (t' := s.toks) (fun _ _ => PyProof.Rows.sortedAll_old) (Nat.le_succ _) ⟨hlen, out, ep, rv', he'⟩, rfl, ?_⟩
        refine hq _ _ _ (same_new hn) hn upd_same ?_
        have e1 : ds.mergeSort (PySem.W.dataLe false D.py) = ((ds.zip ws).mergeSort (PySem.W.dataLe false fun b => b.1.py)).map (·.1) := by
          have q := List.map_mergeSort (f := fun b : D × V => b.1) (r := PySem.W.dataLe false fun b : D × V => b.1.py) (s := PySem.W.dataLe false D.py) (l := ds.zip ws) fun a _ b _ => rfl
          rw [zip_fst hl] at q
          exact q.symm
        rw [e1]
        have each : ∀ bs : List (D × V), (∀ b ∈ bs, Rp p W H b.1 b.2) → Rps p W H (bs.map (·.1)) (bs.map (·.2)) := fun bs => by
          induction bs with
          | nil => intro _; exact .nil
          | cons b bs ih => intro h; exact .cons (h b List.mem_cons_self) (ih fun x hx => h x (List.mem_cons_of_mem _ hx))
        refine each _ fun b hb => ?_
        have hb' := perm.mem_iff.mp hb
        obtain ⟨i, hi⟩ := List.mem_iff_getElem?.mp hb'
        rw [List.getElem?_zip_eq_some] at hi
        exact rp_get rs hi.1 hi.2
    · cases he
  · split at he
    · rename_i hk; exact absurd hk.2.2 id
    · cases he
  · cases he

def ixD : D → D → Option D
  | .lst ds, .int i => atI ds i
  | .tup ds, .int i => atI ds i
  | .str z, .int i => if z.length ≤ sizeLine then (atI z.cps.toList i).map fun c => .str ⟨#[c]⟩ else none
  | _, _ => none
theorem rps_atI {p : Addr} {W : AP} {H : Hp} {ds : List D} {vs : List V} {i : Int} {d : D} (r : Rps p W H ds vs) (h : atI ds i = some d) : ∃ v, atI vs i = some v ∧ Rp p W H d v := by
  unfold atI at h ⊢
  rw [r.length] at h
  obtain ⟨j, h1, h2⟩ := Option.bind_eq_some_iff.mp h
  obtain ⟨v, h3, h4⟩ := r.get h2
  exact ⟨v, by rw [h1]; exact h3, h4⟩
theorem ixr : IxR X (rB ixD) := by
  intro value slice pins s σ H x y v u Q I rx ry ⟨p, W, dx, dy, d, hw, hx, hy, he, hq⟩ hs
  unfold ixD at he
  split at he
  · obtain ⟨a, vs, rfl, _, ha, rs⟩ := rp_lst hx
    obtain ⟨w', h1, h2⟩ := rps_atI rs he
    exact ix_list value slice pins s σ H _ _ v u Q I rx ry ⟨a, vs, _, w', rfl, rp_int hy, SqL.of ha, h1, hq _ _ (Same.refl H) h2⟩ hs
  · obtain ⟨a, vs, rfl, _, ha, rs⟩ := rp_tup hx
    obtain ⟨w', h1, h2⟩ := rps_atI rs he
    exact ix_tup value slice pins s σ H _ _ v u Q I rx ry ⟨a, vs, _, w', rfl, rp_int hy, SqT.of ha, h1, hq _ _ (Same.refl H) h2⟩ hs
  · split at he
    · rename_i hl
      obtain ⟨c, h1, rfl⟩ := Option.map_eq_some_iff.mp he
      exact ix_str value slice pins s σ H _ _ v u Q I rx ry ⟨_, _, c, rp_str hx, rp_int hy, hl, h1, hq _ _ (Same.refl H) (.mkStr _)⟩ hs
    · cases he
  · cases he
theorem s_ix (ha : SE X a ma) (hb : SE X b mb) (hs : PlainIx b := by exact fun _ _ => rfl) : SE X (.Subscript a b pos) (eBin ixD ma mb) :=
  ⟨fun B => PE.imp (pe_ix ixr (ha.pe B) (hb.pe B) hs) fun σ H Q h => bin_go h⟩

def cutL {α : Type} (xs : List α) (lo hi : Option Int) : List α := (xs.drop (HT.sIx xs.length 0 lo)).take (HT.sIx xs.length xs.length hi - HT.sIx xs.length 0 lo)
theorem rps_cut {p : Addr} {W : AP} {H : Hp} {ds : List D} {vs : List V} (r : Rps p W H ds vs) (lo hi : Option Int) : Rps p W H (cutL ds lo hi) (cutV vs lo hi) := by
  unfold cutL cutV
  rw [r.length]
  exact (r.drop _).take _
def slD (lo hi : Option Int) : D → Option D
  | .lst ds => some (.lst (cutL ds lo hi))
  | .tup ds => some (.tup (cutL ds lo hi))
  | _ => none
def rSl : V → Option Int → Option Int → Hp → VK → Prop := fun x lo hi H Q => ∃ p W dx d, WT W H ∧ Rp p W H dx x ∧ slD lo hi dx = some d ∧ ∀ v H', Same H H' → Rp p W H' d v → Q v H'
theorem slr : L2.SlR X rSl := by
  intro pins s σ H x v vl vu lo hi sl Q I rx hs pl pu ⟨p, W, dx, d, hw, hx, he, hq⟩
  unfold slD at he
  split at he
  · cases he
    obtain ⟨a, vs, rfl, _, ha, rs⟩ := rp_lst hx
    exact sl_list pins s σ H _ v vl vu lo hi sl Q I rx hs pl pu ⟨a, vs, rfl, SqL.of ha, fun q nq => hq _ _ (same_new nq) (.newLst hw nq (rps_cut rs lo hi))⟩
  · cases he
    rename_i ds
    obtain ⟨a, vs, rfl, na, ha, rs⟩ := rp_tup hx
    refine sl_tupA pins s σ H _ v vl vu lo hi sl Q I rx hs pl pu ⟨a, vs, rfl, SqT.of ha, fun ⟨z1, z2⟩ => ?_, fun _ q nq => hq _ _ (same_new nq) (.newTup hw nq (rps_cut rs lo hi))⟩
    have e : cutL ds lo hi = ds := by
      unfold cutL
      rw [rs.length, z1, z2]
      simp only [Nat.sub_zero, List.drop_zero]
      rw [← rs.length, List.take_length]
    rw [e] at hq
    exact hq _ _ (Same.refl H) (.mkTup na ha rs)
  · cases he
def tO (B : Bs) (m : M (Option Int)) : TO := fun σ H Q => ∃ s d s', StOk B σ H s ∧ m s = some (d, s') ∧ ∀ H', StOk B σ H' s' → Ev (B.W s.env σ) H (B.W s'.env σ) H' → Q d H'
structure SO (X : Cx) (e : Option Expr) (m : M (Option Int)) : Prop where
  po : ∀ B, PO X e (tO B m)
theorem PO.imp {e : Option Expr} {t t' : TO} (h : PO X e t) (f : ∀ σ H Q, t' σ H Q → t σ H Q) : PO X e t' := ⟨fun pins s σ H Q I q => h.run pins s σ H Q I (f _ _ _ q)⟩
def oNo : M (Option Int) := ret none
def oAt (m : M D) : M (Option Int) := bnd m fun d => match d with
  | .int i => ret (some i)
  | _ => fail
theorem o_no : SO X none oNo := ⟨fun B => PO.imp po_none fun σ H Q ⟨s, d, s', k, e, q⟩ => by
  obtain ⟨rfl, rfl⟩ := ret_some e
  exact q H k Ev.refl⟩
theorem o_at (h : SE X e m) : SO X (some e) (oAt m) := ⟨fun B => PO.imp (po_some (h.pe B)) fun σ H Q ⟨s, d, s', k, e, q⟩ => by
  refine tI.bind k e fun dx s1 v H1 h1 e1 k1 ev1 r1 => ?_
  cases dx <;> simp only [fail] at e1 <;> try (cases e1; done)
  obtain ⟨rfl, rfl⟩ := ret_some e1
  exact ⟨_, rp_int r1, q H1 k1 ev1⟩⟩
def eSl (m : M D) (lo hi : M (Option Int)) : M D := bnd m fun d => bnd lo fun l => bnd hi fun h => lift (slD l h d)
theorem s_slice {lo hi : Option Expr} {ml mh : M (Option Int)} {p2 : Pos} (ha : SE X a ma) (hl : SO X lo ml) (hh : SO X hi mh) : SE X (.Subscript a (.Slice lo hi none p2) pos) (eSl ma ml mh) :=
  ⟨fun B => PE.imp (pe_slice slr (ha.pe B) (hl.po B) (hh.po B)) fun σ H Q ⟨s, d, s', k, e, q⟩ => by
    refine tI.bind k e fun dx s1 v H1 h1 e1 k1 ev1 r1 => ?_
    obtain ⟨l, s2, e2, e3⟩ := bnd_some e1
    refine ⟨s1, l, s2, k1, e2, fun H2 k2 ev2 => ?_⟩
    obtain ⟨h, s3, e4, e5⟩ := bnd_some e3
    refine ⟨s2, h, s3, k2, e4, fun H3 k3 ev3 => ?_⟩
    obtain ⟨e6, rfl⟩ := lift_some e5
    exact ⟨B.p, _, dx, d, k3.wt, r1.ev (ev2.trans ev3), e6, fun v H' sm r => q v H' (k3.same sm) ((ev1.trans (ev2.trans ev3)).trans (Ev.same sm)) r⟩⟩
end
end GH

namespace GH
open PySem PySem.Spec PyProof.Rows L2

/-- a list (true) or a tuple (false) that stands at a -/
def CN (k : Bool) (a : Addr) (items : Array Value) (h : Heap) : Prop := match k with
  | true => h.IsList a items
  | false => h.IsTuple a items
def ITr (k : Bool) (it a : Addr) (i : Nat) (h : Heap) : Prop := match k with
  | true => h.IsListIter it a i
  | false => h.IsTupleIter it a i
def itO (k : Bool) (a : Addr) : Obj := match k with
  | true => { cls := .type "list_iterator", data := .fields #[.ref a, .int 0 0] }
  | false => { cls := .type "tuple_iterator", data := .fields #[.ref a, .int 0 0] }
theorem beg (k : Bool) (a : Addr) (items : Array Value) : Begins (.ref a) (itO k a) (CN k a items) := by
  cases k with
  | true => exact begins_list a items
  | false => exact begins_tuple a items
theorem itO_at {k : Bool} {it a : Addr} {h : Heap} (e : h.get? it = some (itO k a)) : ITr k it a 0 h := by
  cases k with
  | true => exact ⟨_, e, rfl, rfl⟩
  | false => exact ⟨_, e, rfl, rfl⟩
theorem draws (prog : Program) (w : World) (A : Around) (hh : A.handled = none) (k : Bool) (it a : Addr) (hne : a ≠ it) (items : Array Value) :
    Draws prog w A it [it, a] items.size (fun i v => items[i]? = some v) (fun i h => ITr k it a i h ∧ CN k a items h) := by
  cases k with
  | true => exact Draws.list hh it a hne items
  | false => exact Draws.tuple hh it a hne items
theorem ITr.obj {k : Bool} {it a : Addr} {i : Nat} {h : Heap} (x : ITr k it a i h) : ∃ o, h.get? it = some o ∧ ∀ v, o.data ≠ .cell v := by
  cases k with
  | true =>
    obtain ⟨o, e, _, d⟩ := x
    exact ⟨o, e, fun v q => by rw [d] at q; cases q⟩
  | false =>
    obtain ⟨o, e, _, d⟩ := x
    exact ⟨o, e, fun v q => by rw [d] at q; cases q⟩
theorem ITr.keep {k : Bool} {it a : Addr} {i : Nat} {h h' : Heap} (x : ITr k it a i h) (kp : ∀ o, h.get? it = some o → h'.get? it = some o) : ITr k it a i h' := by
  cases k with
  | true => exact Heap.IsListIter.at x kp
  | false => exact Heap.IsTupleIter.at x kp
/-- what stands at a in the abstract heap -/
def SqA (K : PySem.W.Frag) (H : Hp) (k : Bool) (a : Addr) (xs : List V) : Prop := match k with
  | true => SqL K H a xs
  | false => SqT K H a xs
theorem SqA.cn {X : Cx} {pins : List (Addr × Obj)} {σ : Sg} {H : Hp} {s : Shared} {k : Bool} {a : Addr} {xs : List V} (I : Inv X pins σ H s) (h : SqA X.K H k a xs) : ∃ its : List Value, Vals xs its ∧ CN k a its.toArray s.heap ∧ xs.length ≤ sizeLine := by
  cases k with
  | true =>
    obtain ⟨its, r, p, z⟩ := I.list h
    exact ⟨its, r, p.isList, z⟩
  | false =>
    obtain ⟨its, r, p, z⟩ := I.tuple h
    exact ⟨its, r, p, z⟩
theorem CN.lt {k : Bool} {a : Addr} {items : Array Value} {h : Heap} (x : CN k a items h) : a < h.objs.size := by
  cases k with
  | true => obtain ⟨o, e, _⟩ := x; exact Heap.lt_size e
  | false => obtain ⟨o, e, _⟩ := x; exact Heap.lt_size e
/-- rows of new tuples: turn i gives row i, while C stands -/
def ItN (n : Nat) (C : Hp → Prop) (row : Nat → List V) : It :=
  ⟨fun i H => i < n ∧ C H, fun i H v H' => ∃ T, v = .ref T ∧ H T = none ∧ H' = upd H T (.tup (row i)), fun i H => n ≤ i ∧ C H⟩
theorem newTup_ok {X : Cx} {pins : List (Addr × Obj)} {σ : Sg} {H : Hp} {s : Shared} {fp : List Addr} {T : Addr} {row : List V} {us : List Value} {h' : Heap} {tk : Nat} (I : Inv X pins σ H s) (hf : ∀ b ∈ fp, FpOk X pins H b)
    (hk : ∀ b o, b ∉ fp → s.heap.get? b = some o → h'.get? b = some o) (hT : s.heap.objs.size ≤ T) (hI : h'.IsTuple T us.toArray) (hl : row.length ≤ sizeLine) (r : Vals row us) :
    Inv X pins σ (upd H T (.tup row)) { s with heap := h', toks := tk } :=
  I.turnedNew (t' := tk) (ch := fp) hk hf hT ⟨hl, us, r, hI⟩

theorem turn_en {P : Program} {w : World} {K : PySem.W.Frag} {elts : List Expr} {kk : Nat} {tpos : Pos} {k : Bool} {a e it : Addr} {xs : List V} (hei : e ≠ it) :
    Turn P w K (.Tuple elts kk tpos) (ItN xs.length (fun H => SqA K H k a xs) fun i => [.int ((i : Nat) : Int), (xs[i]?).getD .non]) [e, it] e (fun i h => (∃ old, IsEnum h e it ((0 : Int) + (i : Nat)) old) ∧ ITr k it a i h) where
  mem := by simp
  obj := fun i h st b hb => by
    obtain ⟨⟨old, he⟩, hi⟩ := st
    rcases List.mem_cons.mp hb with q | hb
    · subst q; exact ⟨_, he, fun v q => nomatch q⟩
    · obtain rfl : b = it := List.mem_singleton.mp hb
      exact hi.obj
  keep := fun i h h' st k' => ⟨let ⟨old, he⟩ := st.1; ⟨old, k' e (by simp) _ he⟩, st.2.keep fun o q => k' it (by simp) o q⟩
  item := by
    intro X hP hw hK hc i pins s σ H E I hf st hg
    subst hP hw hK
    obtain ⟨hlt, hA⟩ := hg
    obtain ⟨its, rv, cn, hz⟩ := hA.cn I
    have hsz : its.toArray.size = xs.length := by rw [List.size_toArray]; exact rv.length.symm
    have ha : a ≠ e := fun z => by
      have := (hf e (by simp)).1
      subst z
      cases k with
      | true =>
        rcases hA with (q | ⟨o, q⟩) | ⟨o, _, _, q, _⟩
        · rw [this] at q; cases q
        · rw [this] at q; cases q
        · obtain ⟨o', e', d⟩ := let ⟨⟨old, he⟩, _⟩ := st; (⟨_, he, rfl⟩ : ∃ o, s.heap.get? a = some o ∧ o.cls = Value.type "enumerate")
          obtain ⟨o2, e2, c2, _⟩ := cn
          rw [e'] at e2; cases e2
          rw [d] at c2; exact absurd c2 (by decide)
      | false =>
        rcases hA with (q | ⟨o, q⟩) | ⟨o, _, _, q, _⟩
        · rw [this] at q; cases q
        · rw [this] at q; cases q
        · obtain ⟨o', e', d⟩ := let ⟨⟨old, he⟩, _⟩ := st; (⟨_, he, rfl⟩ : ∃ o, s.heap.get? a = some o ∧ o.cls = Value.type "enumerate")
          obtain ⟨o2, e2, c2, _⟩ := cn
          rw [e'] at e2; cases e2
          rw [d] at c2; exact absurd c2 (by decide)
    have hai : a ≠ it := fun z => by
      subst z
      obtain ⟨o, e1, _⟩ := st.2.obj
      cases k with
      | true =>
        obtain ⟨o1, q1, c1, _⟩ := st.2
        obtain ⟨o2, q2, c2, _⟩ := cn
        rw [q1] at q2; cases q2
        rw [c1] at c2; exact absurd c2 (by decide)
      | false =>
        obtain ⟨o1, q1, c1, _⟩ := st.2
        obtain ⟨o2, q2, c2, _⟩ := cn
        rw [q1] at q2; cases q2
        rw [c1] at c2; exact absurd c2 (by decide)
    have D := draws X.prog X.w X.A.in1 (I.ok.hd hc) k it a hai its.toArray
    have W := GoesN.enumFrom (elts := elts) (x1 := kk) (pos := tpos) 0 D e hei (by simp [hei, Ne.symm ha]) (by simp)
    refine W.goes i s _ E (by rw [hsz]; exact hlt) ⟨st.1, st.2, cn⟩ fun v h' tk hY st' hk htk => ?_
    obtain ⟨T, t, x, rfl, hT, hx, hI⟩ := hY
    have hx' : its[i]? = some x := by simpa using hx
    obtain ⟨y, hy⟩ : ∃ y, xs[i]? = some y := ⟨_, List.getElem?_eq_getElem hlt⟩
    obtain ⟨u, hu, ru⟩ := rv.get hy
    rw [hx'] at hu; cases hu
    have I1 := newTup_ok (us := [.int (0 + (i : Int)) t, x]) (row := [V.int ((i : Nat) : Int), (xs[i]?).getD .non]) (tk := tk) I hf (fun b o hb q => hk b o hb q) hT hI (by show 2 ≤ sizeLine; decide)
      (.cons ⟨t, by rw [Int.zero_add]⟩ (.cons (by rw [hy]; exact ru) .nil))
    refine ⟨.ref T, _, I1, rfl, ⟨T, rfl, I.hok.fresh hT, rfl⟩, ⟨st'.1, st'.2.1⟩, fun b hb => ?_⟩
    have hbl : b < s.heap.objs.size := by
      rcases List.mem_cons.mp hb with q | hb
      · subst q; obtain ⟨⟨old, he⟩, _⟩ := st; exact Heap.lt_size he
      · obtain rfl : b = it := List.mem_singleton.mp hb
        obtain ⟨o, e1, _⟩ := st.2.obj; exact Heap.lt_size e1
    rw [upd_ne (Nat.ne_of_lt (Nat.lt_of_lt_of_le hbl hT))]
    exact (hf b hb).1
  done := by
    intro X hP hw hK hc i pins s σ H E I hf st hg
    subst hP hw hK
    obtain ⟨hlt, hA⟩ := hg
    obtain ⟨its, rv, cn, hz⟩ := hA.cn I
    have hsz : its.length = xs.length := rv.length.symm
    obtain ⟨⟨old, he⟩, hi⟩ := st
    cases k with
    | true =>
      refine wpAny_pyNext_enum_endD (n := i) (fp := [it, a]) (P := fun j v => its.toArray[j]? = some v ∧ j < i) (St := fun j h => j = i ∧ h.IsListIter it a j ∧ h.IsList a its.toArray) ⟨?_, ?_, ?_, ?_⟩ he ⟨rfl, hi, cn⟩ fun h' hx => ⟨rfl, I.turnedL (t' := s.toks) (ch := [e, it]) (fun b o hb q => hx b o (fun z => hb (by simp [z])) q) hf⟩
      · exact fun _ _ st => let ⟨o, ho, _⟩ := st.2.1; ⟨o, ho⟩
      · exact fun _ _ _ st hk => ⟨st.1, st.2.1.at fun o e => hk it (by simp) o e, st.2.2.at fun o e => hk a (by simp) o e⟩
      · exact fun j _ _ _ hj st => absurd st.1 (Nat.ne_of_lt hj)
      · exact fun s' Q E' st hE => wpAny_nextOf_list_end (I.ok.hd hc) st.2.1 st.2.2 (by simp; omega) hE
    | false =>
      refine wpAny_pyNext_enum_endD (n := i) (fp := [it, a]) (P := fun j v => its.toArray[j]? = some v ∧ j < i) (St := fun j h => j = i ∧ h.IsTupleIter it a j ∧ h.IsTuple a its.toArray) ⟨?_, ?_, ?_, ?_⟩ he ⟨rfl, hi, cn⟩ fun h' hx => ⟨rfl, I.turnedL (t' := s.toks) (ch := [e, it]) (fun b o hb q => hx b o (fun z => hb (by simp [z])) q) hf⟩
      · exact fun _ _ st => let ⟨o, ho, _⟩ := st.2.1; ⟨o, ho⟩
      · exact fun _ _ _ st hk => ⟨st.1, st.2.1.at fun o e => hk it (by simp) o e, st.2.2.at fun o e => hk a (by simp) o e⟩
      · exact fun j _ _ _ hj st => absurd st.1 (Nat.ne_of_lt hj)
      · exact fun s' Q E' st hE => wpAny_nextOf_tuple_end (I.ok.hd hc) st.2.1 st.2.2 (by simp; omega) hE
  self := fun A i s Q E st h => let ⟨⟨old, he⟩, _⟩ := st; wpAny_pyIter_enum he h
/-- as ItN, its end at n alone -/
def ItZ (n : Nat) (C : Hp → Prop) (row : Nat → List V) : It :=
  ⟨fun i H => i < n ∧ C H, fun i H v H' => ∃ T, v = .ref T ∧ H T = none ∧ H' = upd H T (.tup (row i)), fun i H => i = n ∧ C H⟩
theorem turn_z2 {P : Program} {w : World} {K : PySem.W.Frag} {elts : List Expr} {kk N : Nat} {tpos : Pos} {k1 k2 : Bool} {a1 a2 : Addr} {x1 x2 : List V} (h1 : a1 < N) (h2 : a2 < N) :
    Turn P w K (.Tuple elts kk tpos) (ItZ (min x1.length x2.length) (fun H => SqA K H k1 a1 x1 ∧ SqA K H k2 a2 x2) fun i => [(x1[i]?).getD .non, (x2[i]?).getD .non]) [N + 4, N + 2, N + 3, N, N + 1] (N + 4) (fun i h => IsZip h (N + 4) (N + 2) (N + 3) .none ∧ IsTupOf2 h (N + 2) (.ref N) (.ref (N + 1)) ∧ (∃ b1 b2, IsTupOf2 h (N + 3) b1 b2) ∧ ITr k1 N a1 i h ∧ ITr k2 (N + 1) a2 i h) where
  mem := by simp
  obj := fun i h st b hb => by
    obtain ⟨hz, hT, ⟨c1, c2, hO⟩, q1, q2⟩ := st
    simp only [List.mem_cons, List.not_mem_nil, or_false] at hb
    rcases hb with e | e | e | e | e
    · rw [e]; exact ⟨_, hz, fun v q => nomatch q⟩
    · rw [e]; exact ⟨_, hT, fun v q => nomatch q⟩
    · rw [e]; exact ⟨_, hO, fun v q => nomatch q⟩
    · rw [e]; exact q1.obj
    · rw [e]; exact q2.obj
  keep := fun i h h' st k' => by
    obtain ⟨hz, hT, ⟨c1, c2, hO⟩, q1, q2⟩ := st
    exact ⟨k' _ (by simp) _ hz, k' _ (by simp) _ hT, ⟨c1, c2, k' _ (by simp) _ hO⟩, q1.keep fun o q => k' _ (by simp) o q, q2.keep fun o q => k' _ (by simp) o q⟩
  item := by
    intro X hP hw hK hc i pins s σ H E I hf st hg
    subst hP hw hK
    obtain ⟨hlt, hA1, hA2⟩ := hg
    obtain ⟨its1, rv1, cn1, hz1⟩ := hA1.cn I
    have hs1 : its1.toArray.size = x1.length := by rw [List.size_toArray]; exact rv1.length.symm
    have D1 := draws X.prog X.w X.A.in1 (I.ok.hd hc) k1 N a1 (Nat.ne_of_lt h1) its1.toArray
    obtain ⟨its2, rv2, cn2, hz2⟩ := hA2.cn I
    have hs2 : its2.toArray.size = x2.length := by rw [List.size_toArray]; exact rv2.length.symm
    have D2 := draws X.prog X.w X.A.in1 (I.ok.hd hc) k2 (N + 1) a2 (Nat.ne_of_lt (Nat.lt_of_lt_of_le h2 (Nat.le_add_right N 1))) its2.toArray
    have sub : ∀ {b : Addr}, b ∈ ([N + 4, N + 3, N, N + 1] : List Addr) → b ∈ ([N + 4, N + 2, N + 3, N, N + 1] : List Addr) := fun {b} z => by
      simp only [List.mem_cons, List.not_mem_nil, or_false] at z
      rcases z with e | e | e | e <;> simp [e]
    have W := GoesN.zip2 (elts := elts) (x1 := kk) (pos := tpos) (zip_sep2 (N := N) (fp1 := [a1]) (fp2 := [a2]) (fun b hb => by obtain rfl := List.mem_singleton.mp hb; exact h1) (fun b hb => by obtain rfl := List.mem_singleton.mp hb; exact h2)) D1 D2
    refine W.goes i s _ E (by rw [hs1, hs2]; exact hlt) ⟨st.1, st.2.1, st.2.2.1, ⟨st.2.2.2.1, cn1⟩, ⟨st.2.2.2.2, cn2⟩⟩ fun v h' tk hY st' hk htk => ?_
    obtain ⟨T, u1, u2, rfl, hT, hx1, hx2, hI⟩ := hY
    have hx1' : its1[i]? = some u1 := by simpa using hx1
    obtain ⟨y1, hy1⟩ : ∃ y, x1[i]? = some y := ⟨_, List.getElem?_eq_getElem (show i < x1.length by omega)⟩
    obtain ⟨w1, hw1, ru1⟩ := rv1.get hy1
    rw [hx1'] at hw1; cases hw1
    have hx2' : its2[i]? = some u2 := by simpa using hx2
    obtain ⟨y2, hy2⟩ : ∃ y, x2[i]? = some y := ⟨_, List.getElem?_eq_getElem (show i < x2.length by omega)⟩
    obtain ⟨w2, hw2, ru2⟩ := rv2.get hy2
    rw [hx2'] at hw2; cases hw2
    have I1 := newTup_ok (us := [u1, u2]) (row := [(x1[i]?).getD V.non, (x2[i]?).getD V.non]) (tk := tk) I hf (fun b o hb q => hk b o (fun z => hb (sub z)) q) hT hI (by show 2 ≤ sizeLine; decide)
      (.cons (by rw [hy1]; exact ru1) (.cons (by rw [hy2]; exact ru2) .nil))
    refine ⟨.ref T, _, I1, rfl, ⟨T, rfl, I.hok.fresh hT, rfl⟩, ⟨st'.1, st'.2.1, st'.2.2.1, st'.2.2.2.1.1, st'.2.2.2.2.1⟩, fun b hb => ?_⟩
    have hbl : b < s.heap.objs.size := by
      obtain ⟨hz, hT, ⟨c1, c2, hO⟩, q1, q2⟩ := st
      simp only [List.mem_cons, List.not_mem_nil, or_false] at hb
      rcases hb with e | e | e | e | e
      · rw [e]; exact Heap.lt_size hz
      · rw [e]; exact Heap.lt_size hT
      · rw [e]; exact Heap.lt_size hO
      · rw [e]; obtain ⟨o, e1, _⟩ := q1.obj; exact Heap.lt_size e1
      · rw [e]; obtain ⟨o, e1, _⟩ := q2.obj; exact Heap.lt_size e1
    rw [upd_ne (Nat.ne_of_lt (Nat.lt_of_lt_of_le hbl hT))]
    exact (hf b hb).1
  done := by
    intro X hP hw hK hc i pins s σ H E I hf st hg
    subst hP hw hK
    obtain ⟨hlt, hA1, hA2⟩ := hg
    subst hlt
    obtain ⟨its1, rv1, cn1, hz1⟩ := hA1.cn I
    have hs1 : its1.toArray.size = x1.length := by rw [List.size_toArray]; exact rv1.length.symm
    have D1 := draws X.prog X.w X.A.in1 (I.ok.hd hc) k1 N a1 (Nat.ne_of_lt h1) its1.toArray
    obtain ⟨its2, rv2, cn2, hz2⟩ := hA2.cn I
    have hs2 : its2.toArray.size = x2.length := by rw [List.size_toArray]; exact rv2.length.symm
    have D2 := draws X.prog X.w X.A.in1 (I.ok.hd hc) k2 (N + 1) a2 (Nat.ne_of_lt (Nat.lt_of_lt_of_le h2 (Nat.le_add_right N 1))) its2.toArray
    have sub : ∀ {b : Addr}, b ∈ ([N + 4, N + 3, N, N + 1] : List Addr) → b ∈ ([N + 4, N + 2, N + 3, N, N + 1] : List Addr) := fun {b} z => by
      simp only [List.mem_cons, List.not_mem_nil, or_false] at z
      rcases z with e | e | e | e <;> simp [e]
    have W := GoesN.zip2 (elts := elts) (x1 := kk) (pos := tpos) (zip_sep2 (N := N) (fp1 := [a1]) (fp2 := [a2]) (fun b hb => by obtain rfl := List.mem_singleton.mp hb; exact h1) (fun b hb => by obtain rfl := List.mem_singleton.mp hb; exact h2)) D1 D2
    refine W.stops s _ E (by rw [hs1, hs2]; exact ⟨st.1, st.2.1, st.2.2.1, ⟨st.2.2.2.1, cn1⟩, ⟨st.2.2.2.2, cn2⟩⟩) fun h' tk hk htk => ?_
    exact I.turnedL (fun b o hb q => hk b o (fun z => hb (sub z)) q) hf
  self := fun A i s Q E st h => wpAny_pyIter_zip st.1 h
theorem turn_z3 {P : Program} {w : World} {K : PySem.W.Frag} {elts : List Expr} {kk N : Nat} {tpos : Pos} {k1 k2 k3 : Bool} {a1 a2 a3 : Addr} {x1 x2 x3 : List V} (h1 : a1 < N) (h2 : a2 < N) (h3 : a3 < N) :
    Turn P w K (.Tuple elts kk tpos) (ItZ (min (min x1.length x2.length) x3.length) (fun H => SqA K H k1 a1 x1 ∧ SqA K H k2 a2 x2 ∧ SqA K H k3 a3 x3) fun i => [(x1[i]?).getD .non, (x2[i]?).getD .non, (x3[i]?).getD .non]) [N + 5, N + 3, N + 4, N, N + 1, N + 2] (N + 5) (fun i h => IsZip h (N + 5) (N + 3) (N + 4) .none ∧ IsTupOf3 h (N + 3) (.ref N) (.ref (N + 1)) (.ref (N + 2)) ∧ (∃ b1 b2 b3, IsTupOf3 h (N + 4) b1 b2 b3) ∧ ITr k1 N a1 i h ∧ ITr k2 (N + 1) a2 i h ∧ ITr k3 (N + 2) a3 i h) where
  mem := by simp
  obj := fun i h st b hb => by
    obtain ⟨hz, hT, ⟨c1, c2, c3, hO⟩, q1, q2, q3⟩ := st
    simp only [List.mem_cons, List.not_mem_nil, or_false] at hb
    rcases hb with e | e | e | e | e | e
    · rw [e]; exact ⟨_, hz, fun v q => nomatch q⟩
    · rw [e]; exact ⟨_, hT, fun v q => nomatch q⟩
    · rw [e]; exact ⟨_, hO, fun v q => nomatch q⟩
    · rw [e]; exact q1.obj
    · rw [e]; exact q2.obj
    · rw [e]; exact q3.obj
  keep := fun i h h' st k' => by
    obtain ⟨hz, hT, ⟨c1, c2, c3, hO⟩, q1, q2, q3⟩ := st
    exact ⟨k' _ (by simp) _ hz, k' _ (by simp) _ hT, ⟨c1, c2, c3, k' _ (by simp) _ hO⟩, q1.keep fun o q => k' _ (by simp) o q, q2.keep fun o q => k' _ (by simp) o q, q3.keep fun o q => k' _ (by simp) o q⟩
  item := by
    intro X hP hw hK hc i pins s σ H E I hf st hg
    subst hP hw hK
    obtain ⟨hlt, hA1, hA2, hA3⟩ := hg
    obtain ⟨its1, rv1, cn1, hz1⟩ := hA1.cn I
    have hs1 : its1.toArray.size = x1.length := by rw [List.size_toArray]; exact rv1.length.symm
    have D1 := draws X.prog X.w X.A.in1 (I.ok.hd hc) k1 N a1 (Nat.ne_of_lt h1) its1.toArray
    obtain ⟨its2, rv2, cn2, hz2⟩ := hA2.cn I
    have hs2 : its2.toArray.size = x2.length := by rw [List.size_toArray]; exact rv2.length.symm
    have D2 := draws X.prog X.w X.A.in1 (I.ok.hd hc) k2 (N + 1) a2 (Nat.ne_of_lt (Nat.lt_of_lt_of_le h2 (Nat.le_add_right N 1))) its2.toArray
    obtain ⟨its3, rv3, cn3, hz3⟩ := hA3.cn I
    have hs3 : its3.toArray.size = x3.length := by rw [List.size_toArray]; exact rv3.length.symm
    have D3 := draws X.prog X.w X.A.in1 (I.ok.hd hc) k3 (N + 2) a3 (Nat.ne_of_lt (Nat.lt_of_lt_of_le h3 (Nat.le_add_right N 2))) its3.toArray
    have sub : ∀ {b : Addr}, b ∈ ([N + 5, N + 4, N, N + 1, N + 2] : List Addr) → b ∈ ([N + 5, N + 3, N + 4, N, N + 1, N + 2] : List Addr) := fun {b} z => by
      simp only [List.mem_cons, List.not_mem_nil, or_false] at z
      rcases z with e | e | e | e | e <;> simp [e]
    have W := GoesN.zip3 (elts := elts) (x1 := kk) (pos := tpos) (zip_sep3 (N := N) (fp1 := [a1]) (fp2 := [a2]) (fp3 := [a3]) (fun b hb => by obtain rfl := List.mem_singleton.mp hb; exact h1) (fun b hb => by obtain rfl := List.mem_singleton.mp hb; exact h2) (fun b hb => by obtain rfl := List.mem_singleton.mp hb; exact h3)) D1 D2 D3
    refine W.goes i s _ E (by rw [hs1, hs2, hs3]; exact hlt) ⟨st.1, st.2.1, st.2.2.1, ⟨st.2.2.2.1, cn1⟩, ⟨st.2.2.2.2.1, cn2⟩, ⟨st.2.2.2.2.2, cn3⟩⟩ fun v h' tk hY st' hk htk => ?_
    obtain ⟨T, u1, u2, u3, rfl, hT, hx1, hx2, hx3, hI⟩ := hY
    have hx1' : its1[i]? = some u1 := by simpa using hx1
    obtain ⟨y1, hy1⟩ : ∃ y, x1[i]? = some y := ⟨_, List.getElem?_eq_getElem (show i < x1.length by omega)⟩
    obtain ⟨w1, hw1, ru1⟩ := rv1.get hy1
    rw [hx1'] at hw1; cases hw1
    have hx2' : its2[i]? = some u2 := by simpa using hx2
    obtain ⟨y2, hy2⟩ : ∃ y, x2[i]? = some y := ⟨_, List.getElem?_eq_getElem (show i < x2.length by omega)⟩
    obtain ⟨w2, hw2, ru2⟩ := rv2.get hy2
    rw [hx2'] at hw2; cases hw2
    have hx3' : its3[i]? = some u3 := by simpa using hx3
    obtain ⟨y3, hy3⟩ : ∃ y, x3[i]? = some y := ⟨_, List.getElem?_eq_getElem (show i < x3.length by omega)⟩
    obtain ⟨w3, hw3, ru3⟩ := rv3.get hy3
    rw [hx3'] at hw3; cases hw3
    have I1 := newTup_ok (us := [u1, u2, u3]) (row := [(x1[i]?).getD V.non, (x2[i]?).getD V.non, (x3[i]?).getD V.non]) (tk := tk) I hf (fun b o hb q => hk b o (fun z => hb (sub z)) q) hT hI (by show 3 ≤ sizeLine; decide)
      (.cons (by rw [hy1]; exact ru1) (.cons (by rw [hy2]; exact ru2) (.cons (by rw [hy3]; exact ru3) .nil)))
    refine ⟨.ref T, _, I1, rfl, ⟨T, rfl, I.hok.fresh hT, rfl⟩, ⟨st'.1, st'.2.1, st'.2.2.1, st'.2.2.2.1.1, st'.2.2.2.2.1.1, st'.2.2.2.2.2.1⟩, fun b hb => ?_⟩
    have hbl : b < s.heap.objs.size := by
      obtain ⟨hz, hT, ⟨c1, c2, c3, hO⟩, q1, q2, q3⟩ := st
      simp only [List.mem_cons, List.not_mem_nil, or_false] at hb
      rcases hb with e | e | e | e | e | e
      · rw [e]; exact Heap.lt_size hz
      · rw [e]; exact Heap.lt_size hT
      · rw [e]; exact Heap.lt_size hO
      · rw [e]; obtain ⟨o, e1, _⟩ := q1.obj; exact Heap.lt_size e1
      · rw [e]; obtain ⟨o, e1, _⟩ := q2.obj; exact Heap.lt_size e1
      · rw [e]; obtain ⟨o, e1, _⟩ := q3.obj; exact Heap.lt_size e1
    rw [upd_ne (Nat.ne_of_lt (Nat.lt_of_lt_of_le hbl hT))]
    exact (hf b hb).1
  done := by
    intro X hP hw hK hc i pins s σ H E I hf st hg
    subst hP hw hK
    obtain ⟨hlt, hA1, hA2, hA3⟩ := hg
    subst hlt
    obtain ⟨its1, rv1, cn1, hz1⟩ := hA1.cn I
    have hs1 : its1.toArray.size = x1.length := by rw [List.size_toArray]; exact rv1.length.symm
    have D1 := draws X.prog X.w X.A.in1 (I.ok.hd hc) k1 N a1 (Nat.ne_of_lt h1) its1.toArray
    obtain ⟨its2, rv2, cn2, hz2⟩ := hA2.cn I
    have hs2 : its2.toArray.size = x2.length := by rw [List.size_toArray]; exact rv2.length.symm
    have D2 := draws X.prog X.w X.A.in1 (I.ok.hd hc) k2 (N + 1) a2 (Nat.ne_of_lt (Nat.lt_of_lt_of_le h2 (Nat.le_add_right N 1))) its2.toArray
    obtain ⟨its3, rv3, cn3, hz3⟩ := hA3.cn I
    have hs3 : its3.toArray.size = x3.length := by rw [List.size_toArray]; exact rv3.length.symm
    have D3 := draws X.prog X.w X.A.in1 (I.ok.hd hc) k3 (N + 2) a3 (Nat.ne_of_lt (Nat.lt_of_lt_of_le h3 (Nat.le_add_right N 2))) its3.toArray
    have sub : ∀ {b : Addr}, b ∈ ([N + 5, N + 4, N, N + 1, N + 2] : List Addr) → b ∈ ([N + 5, N + 3, N + 4, N, N + 1, N + 2] : List Addr) := fun {b} z => by
      simp only [List.mem_cons, List.not_mem_nil, or_false] at z
      rcases z with e | e | e | e | e <;> simp [e]
    have W := GoesN.zip3 (elts := elts) (x1 := kk) (pos := tpos) (zip_sep3 (N := N) (fp1 := [a1]) (fp2 := [a2]) (fp3 := [a3]) (fun b hb => by obtain rfl := List.mem_singleton.mp hb; exact h1) (fun b hb => by obtain rfl := List.mem_singleton.mp hb; exact h2) (fun b hb => by obtain rfl := List.mem_singleton.mp hb; exact h3)) D1 D2 D3
    refine W.stops s _ E (by rw [hs1, hs2, hs3]; exact ⟨st.1, st.2.1, st.2.2.1, ⟨st.2.2.2.1, cn1⟩, ⟨st.2.2.2.2.1, cn2⟩, ⟨st.2.2.2.2.2, cn3⟩⟩) fun h' tk hk htk => ?_
    exact I.turnedL (fun b o hb q => hk b o (fun z => hb (sub z)) q) hf
  self := fun A i s Q E st h => wpAny_pyIter_zip st.1 h
end GH

namespace GH
open PySem PySem.Spec PyProof.Rows L2

theorem meets_enum1 {v : Value} {o : Obj} {C : Heap → Prop} (B : Begins v o C) :
    Meets (Builtin.«enumerate.__new__» ⟨[.type "enumerate", v], []⟩) (fun _ R s => C s.heap ∧
      R (.ok (.ret (.ref (s.heap.push o).objs.size))) { s with heap := (s.heap.push o).push { cls := .type "enumerate", data := .fields #[.none, .bool false, .ref s.heap.objs.size, rawInt 0, .none, .none] } }) :=
  .of_wp fun prog w A R s h => by
    obtain ⟨hp, g, d, tk, os⟩ := s
    obtain ⟨h1, h⟩ := h
    have hsub := sub_enumerate
    have q1 : ∀ {A2 : Around} {E2 : Value → Shared → Prop} {Q2 : Value → Shared → Prop}, Q2 (.ref hp.objs.size) ⟨hp.push o, g, d, tk, os⟩ → wpAny (model prog w) A2 (pyIter v) Q2 E2 ⟨hp, g, d, tk, os⟩ :=
      fun q => B.iter prog w _ _ ⟨hp, g, d, tk, os⟩ _ h1 q
    wp_walk using q1
    refine wpAny_stack_any fun st => wpAny_pure ?_
    split
    · rename_i c _ _ _ _ _
      cases (c == Value.type "enumerate")
      · wp_walk using q1
        exact ⟨_, rfl, h⟩
      · wp_walk using q1
        exact ⟨_, rfl, h⟩
    · wp_walk using q1
      exact ⟨_, rfl, h⟩
theorem enum1_begins {prog : Program} {w : World} {A : Around} {E : Value → Shared → Prop} {s : Shared} {v : Value} {o : Obj} {C : Heap → Prop} {Q : Value → Shared → Prop} (B : Begins v o C) (h1 : C s.heap)
    (h : ∀ h', IsEnum h' (s.heap.objs.size + 1) s.heap.objs.size 0 .none → h'.get? s.heap.objs.size = some o → (∀ b o2, s.heap.get? b = some o2 → h'.get? b = some o2) → Q (.ref (s.heap.objs.size + 1)) { s with heap := h' }) :
    wpAny (model prog w) A (call (.type "enumerate") [v]) Q E s := by
  refine callType_new F.called_enumerate (by decide) (F.typeCall_enumerate_1 _) (F.newCall_enumerate_1 _) (fun obj => F.args_object_init_2 obj _) F.entry_enumerate_new (meets_enum1 B) ⟨h1, ?_⟩
  have hz : (s.heap.push o).objs.size = s.heap.objs.size + 1 := Heap.size_push ..
  show _ ∧ _
  rw [hz]
  have he : IsEnum ((s.heap.push o).push { cls := .type "enumerate", data := .fields #[.none, .bool false, .ref s.heap.objs.size, rawInt 0, .none, .none] }) (s.heap.objs.size + 1) s.heap.objs.size 0 .none := by
    have q := Heap.get?_push_size (s.heap.push o) (o := { cls := .type "enumerate", data := .fields #[.none, .bool false, .ref s.heap.objs.size, rawInt 0, .none, .none] }) rfl
    rw [hz] at q; exact q
  exact ⟨⟨_, he, rfl⟩, h _ he (Heap.get?_push_of_some _ (Heap.get?_push_size _ B.free)) fun b o2 x => Heap.get?_push_of_some _ (Heap.get?_push_of_some _ x)⟩

def enumF : Nat → List D → List D
  | _, [] => []
  | i, d :: r => .tup [.int (i : Nat), d] :: enumF (i + 1) r
theorem enumF_get : ∀ (ds : List D) (k i : Nat), (enumF k ds)[i]? = ds[i]?.map fun d => .tup [.int ((k + i : Nat) : Int), d]
  | [], _, _ => by simp [enumF]
  | d :: r, k, 0 => by simp [enumF]
  | d :: r, k, i + 1 => by
    simp only [enumF, List.getElem?_cons_succ]
    rw [enumF_get r (k + 1) i]
    rw [show k + 1 + i = k + (i + 1) by omega]
theorem enumF_len : ∀ (ds : List D) (k : Nat), (enumF k ds).length = ds.length
  | [], _ => rfl
  | _ :: r, k => by simp [enumF, enumF_len r]
def zipF2 : List D → List D → List D
  | a :: as, b :: bs => .tup [a, b] :: zipF2 as bs
  | _, _ => []
def zipF3 : List D → List D → List D → List D
  | a :: as, b :: bs, c :: cs => .tup [a, b, c] :: zipF3 as bs cs
  | _, _, _ => []
theorem zipF2_len : ∀ (as bs : List D), (zipF2 as bs).length = min as.length bs.length
  | [], _ => by simp [zipF2]
  | _ :: _, [] => by simp [zipF2]
  | a :: as, b :: bs => by simp [zipF2, zipF2_len as bs]
theorem zipF2_get : ∀ {as bs : List D} {i : Nat} {d : D}, (zipF2 as bs)[i]? = some d → ∃ a b, as[i]? = some a ∧ bs[i]? = some b ∧ d = .tup [a, b]
  | [], _, _, _, h => by simp [zipF2] at h
  | _ :: _, [], _, _, h => by simp [zipF2] at h
  | a :: as, b :: bs, 0, d, h => by simp [zipF2] at h; exact ⟨a, b, rfl, rfl, h.symm⟩
  | a :: as, b :: bs, i + 1, d, h => by
    simp only [zipF2, List.getElem?_cons_succ] at h
    obtain ⟨x, y, h1, h2, h3⟩ := zipF2_get h
    exact ⟨x, y, by simpa using h1, by simpa using h2, h3⟩
theorem zipF3_len : ∀ (as bs cs : List D), (zipF3 as bs cs).length = min (min as.length bs.length) cs.length
  | [], _, _ => by simp [zipF3]
  | _ :: _, [], _ => by simp [zipF3]
  | _ :: _, _ :: _, [] => by simp [zipF3]
  | a :: as, b :: bs, c :: cs => by simp only [zipF3, List.length_cons, zipF3_len as bs cs]; omega
theorem zipF3_get : ∀ {as bs cs : List D} {i : Nat} {d : D}, (zipF3 as bs cs)[i]? = some d → ∃ a b c, as[i]? = some a ∧ bs[i]? = some b ∧ cs[i]? = some c ∧ d = .tup [a, b, c]
  | [], _, _, _, _, h => by simp [zipF3] at h
  | _ :: _, [], _, _, _, h => by simp [zipF3] at h
  | _ :: _, _ :: _, [], _, _, h => by simp [zipF3] at h
  | a :: as, b :: bs, c :: cs, 0, d, h => by simp [zipF3] at h; exact ⟨a, b, c, rfl, rfl, rfl, h.symm⟩
  | a :: as, b :: bs, c :: cs, i + 1, d, h => by
    simp only [zipF3, List.getElem?_cons_succ] at h
    obtain ⟨x, y, z, h1, h2, h3, h4⟩ := zipF3_get h
    exact ⟨x, y, z, by simpa using h1, by simpa using h2, by simpa using h3, h4⟩
/-- a list or a tuple: where it lies -/
theorem rp_seq {p : Addr} {W : AP} {H : Hp} {d : D} {v : V} {ds : List D} (r : Rp p W H d v) (h : seqD d = some ds) : ∃ k a vs o, v = .ref a ∧ ¬ W a ∧ H a = some o ∧ Rps p W H ds vs ∧ ∀ (K : PySem.W.Frag) (H' : Hp), H' a = some o → SqA K H' k a vs := by
  cases d <;> simp only [seqD] at h <;> cases h
  · obtain ⟨a, vs, rfl, n, ha, rs⟩ := rp_tup r
    exact ⟨false, a, vs, _, rfl, n, ha, rs, fun K H' h => SqT.of h⟩
  · obtain ⟨a, vs, rfl, n, ha, rs⟩ := rp_lst r
    exact ⟨true, a, vs, _, rfl, n, ha, rs, fun K H' h => SqL.of h⟩
theorem getD_rp {p : Addr} {W : AP} {H : Hp} {ds : List D} {vs : List V} {i : Nat} {d : D} (r : Rps p W H ds vs) (h : ds[i]? = some d) : Rp p W H d ((vs[i]?).getD .non) := by
  obtain ⟨v, h1, h2⟩ := r.get h
  rw [h1]; exact h2

section
variable {X : Cx} {e a b c : Expr} {elts : List Expr} {kk : Nat} {tpos p pos : Pos} {m ma mb mc : M D}
def iEnum (m : M D) : M (List D) := bnd m fun d => bnd (lift (seqD d)) fun ds => ret (enumF 0 ds)
theorem i_enum (hg : Gl X "enumerate") (hm : X.mg "enumerate" = none) (ha : SE X e m) (hn : starEach [e] X.env = (false, eval e X.env) :: starEach [] X.env := by rfl) (hs : starEach [e] X.env = [(false, eval e X.env)] := by rfl) :
    SI X (.Tuple elts kk tpos) (.Call (.Name "enumerate" p) [e] [] pos) (iEnum m) := ⟨fun B => ⟨fun pins sh σ H R I ⟨s, ds, s', k, ee, q⟩ => by
  refine Call_ (ld_blt I hg hm boot_enumerate (PyProof.Rows.callWith_type1 (thn ((pa_cons (ha.pe B) pa_nil hn).run pos pins sh σ H (fun vs H1 => ∃ v, vs = [v] ∧ ∃ d s1 es, StOk B σ H1 s1 ∧ Ev (B.W s.env σ) H (B.W s1.env σ) H1 ∧ Rp B.p (B.W s1.env σ) H1 d v ∧ seqD d = some es ∧ ds = enumF 0 es ∧ s' = s1) I ?_) fun us s1 ⟨vs, H1, I1, r1, q1⟩ => ?_) hs rfl))
  · refine tI.bind k ee fun d s1 v H1 h1 e1 k1 ev1 r1 => ?_
    obtain ⟨es, s2, e2, e3⟩ := bnd_some e1
    obtain ⟨e4, rfl⟩ := lift_some e2
    obtain ⟨rfl, rfl⟩ := ret_some e3
    exact ⟨v, rfl, d, _, es, k1, ev1, r1, e4, rfl, rfl⟩
  · obtain ⟨v, rfl, d, sx, es, k1, ev1, rv, hd, rfl, rfl⟩ := q1
    obtain ⟨u, rfl, ru⟩ := r1.one
    obtain ⟨kd, ad, vs, o, rfl, nw, hH, rs, fs⟩ := rp_seq rv hd
    cases ru
    obtain ⟨its, rvs, cn, hz⟩ := (fs X.K H1 hH).cn I1
    refine enum1_begins (beg kd ad its.toArray) cn fun h' he hit hk => wpAny_pyIter_enum he ?_
    have I2 : Inv X pins σ H1 { s1 with heap := h' } := I1.kept (t' := s1.toks) hk
    refine ⟨s1.heap.objs.size + 1, [s1.heap.objs.size + 1, s1.heap.objs.size], _, _, H1, rfl, I2, turn_en (k := kd) (a := ad) (xs := vs) (Nat.succ_ne_self _), ⟨⟨.none, he⟩, itO_at hit⟩, fun b hb => ?_, ?_⟩
    · simp only [List.mem_cons, List.not_mem_nil, or_false] at hb
      have hle : s1.heap.objs.size ≤ b := by
        rcases hb with z | z
        · rw [z]; exact Nat.le_add_right _ _
        · rw [z]; exact Nat.le_refl _
      exact I1.fpOk hle (I1.hok.fresh hle)
    · refine q _ H1 k1 ev1 fun W2 H2 ev wt => ?_
      have hH2 := (ev ad o hH nw).1
      have hlen := rs.length
      refine ⟨fun i hi => ⟨by rw [enumF_len] at hi; omega, fs _ _ hH2⟩, ⟨by rw [enumF_len]; omega, fs _ _ hH2⟩, fun i d' x H3 hd' y => ?_⟩
      obtain ⟨T, rfl, nT, rfl⟩ := y
      rw [enumF_get] at hd'
      obtain ⟨d0, h0, rfl⟩ := Option.map_eq_some_iff.mp hd'
      refine ⟨same_new nT, .newTup wt nT (.cons (by simpa using Rp.mkInt _) (.cons (getD_rp (rs.ev ev) h0) .nil))⟩⟩⟩
def iZip2 (ma mb : M D) : M (List D) := bnd ma fun a => bnd mb fun b => bnd (lift (seqD a)) fun as => bnd (lift (seqD b)) fun bs => ret (zipF2 as bs)
def iZip3 (ma mb mc : M D) : M (List D) := bnd ma fun a => bnd mb fun b => bnd mc fun c => bnd (lift (seqD a)) fun as => bnd (lift (seqD b)) fun bs => bnd (lift (seqD c)) fun cs => ret (zipF3 as bs cs)
theorem i_zip2 (hg : Gl X "zip") (hm : X.mg "zip" = none) (ha : SE X a ma) (hb : SE X b mb) (hn : starEach [a, b] X.env = (false, eval a X.env) :: starEach [b] X.env := by rfl) (hn2 : starEach [b] X.env = (false, eval b X.env) :: starEach [] X.env := by rfl)
    (hpl : (backTo pos (starEach [b] X.env)).any (·.1) = false := by rfl) : SI X (.Tuple elts kk tpos) (.Call (.Name "zip" p) [a, b] [] pos) (iZip2 ma mb) := ⟨fun B => ⟨fun pins sh σ H R I ⟨s, ds, s', k, ee, q⟩ => by
  refine Call_ (ld_blt I hg hm PyProof.Rows.boot_zip (PyProof.Rows.callWith_type1 (thn ((pa_cons (ha.pe B) (pa_cons (hb.pe B) pa_nil hn2) hn).run pos pins sh σ H (fun vs H1 => ∃ v1 v2, vs = [v1, v2] ∧ ∃ d1 d2 s1 es1 es2, StOk B σ H1 s1 ∧ Ev (B.W s.env σ) H (B.W s1.env σ) H1 ∧ Rp B.p (B.W s1.env σ) H1 d1 v1 ∧ Rp B.p (B.W s1.env σ) H1 d2 v2 ∧ seqD d1 = some es1 ∧ seqD d2 = some es2 ∧ ds = zipF2 es1 es2 ∧ s' = s1) I ?_) fun us s1 ⟨vs, H1, I1, r1, q1⟩ => ?_) hn hpl))
  · refine tI.bind k ee fun d1 s1 v1 H1 h1 e1 k1 ev1 r1 => ?_
    refine tI.bind k1 e1 fun d2 s2 v2 H2 h2 e2 k2 ev2 r2 => ?_
    obtain ⟨es1, s3, e3, e4⟩ := bnd_some e2
    obtain ⟨e5, rfl⟩ := lift_some e3
    obtain ⟨es2, s4, e6, e7⟩ := bnd_some e4
    obtain ⟨e8, rfl⟩ := lift_some e6
    obtain ⟨rfl, rfl⟩ := ret_some e7
    exact ⟨v1, v2, rfl, d1, d2, _, es1, es2, k2, ev1.trans ev2, r1.ev ev2, r2, e5, e8, rfl, rfl⟩
  · obtain ⟨v1, v2, rfl, d1, d2, sx, es1, es2, k1, ev1, rv1, rv2, hd1, hd2, rfl, rfl⟩ := q1
    obtain ⟨u1, u2, rfl, ru1, ru2⟩ := r1.two
    obtain ⟨kd1, a1, vs1, o1, rfl, nw1, hH1, rs1, fs1⟩ := rp_seq rv1 hd1
    obtain ⟨kd2, a2, vs2, o2, rfl, nw2, hH2, rs2, fs2⟩ := rp_seq rv2 hd2
    cases ru1
    cases ru2
    obtain ⟨its1, rvs1, cn1, hz1⟩ := (fs1 X.K H1 hH1).cn I1
    obtain ⟨its2, rvs2, cn2, hz2⟩ := (fs2 X.K H1 hH2).cn I1
    refine zip_begins2 (beg kd1 a1 its1.toArray) (beg kd2 a2 its2.toArray) cn1 cn2 fun h' hz hT hO i1 i2 hsz hk => wpAny_pyIter_zip hz ?_
    have I2 : Inv X pins σ H1 { s1 with heap := h' } := I1.kept (t' := s1.toks) hk
    refine ⟨s1.heap.objs.size + 4, _, _, _, H1, rfl, I2, turn_z2 (k1 := kd1) (k2 := kd2) (a1 := a1) (a2 := a2) (x1 := vs1) (x2 := vs2) cn1.lt cn2.lt, ⟨hz, hT, ⟨_, _, hO⟩, itO_at i1, itO_at i2⟩, fun b hb => ?_, ?_⟩
    · simp only [List.mem_cons, List.not_mem_nil, or_false] at hb
      have hle : s1.heap.objs.size ≤ b := by
        rcases hb with z | z | z | z | z <;> rw [z] <;> first | exact Nat.le_add_right _ _ | exact Nat.le_refl _
      exact I1.fpOk hle (I1.hok.fresh hle)
    · refine q _ H1 k1 ev1 fun W2 H2 ev wt => ?_
      have g1 := (ev a1 o1 hH1 nw1).1
      have g2 := (ev a2 o2 hH2 nw2).1
      have l1 := rs1.length
      have l2 := rs2.length
      refine ⟨fun i hi => ⟨by rw [zipF2_len] at hi; omega, fs1 _ _ g1, fs2 _ _ g2⟩, ⟨by rw [zipF2_len]; omega, fs1 _ _ g1, fs2 _ _ g2⟩, fun i d' x H3 hd' y => ?_⟩
      obtain ⟨T, rfl, nT, rfl⟩ := y
      obtain ⟨x1, x2, h1, h2, rfl⟩ := zipF2_get hd'
      exact ⟨same_new nT, .newTup wt nT (.cons (getD_rp (rs1.ev ev) h1) (.cons (getD_rp (rs2.ev ev) h2) .nil))⟩⟩⟩
theorem i_zip3 (hg : Gl X "zip") (hm : X.mg "zip" = none) (ha : SE X a ma) (hb : SE X b mb) (hc : SE X c mc) (hn : starEach [a, b, c] X.env = (false, eval a X.env) :: starEach [b, c] X.env := by rfl) (hn2 : starEach [b, c] X.env = (false, eval b X.env) :: starEach [c] X.env := by rfl)
    (hn3 : starEach [c] X.env = (false, eval c X.env) :: starEach [] X.env := by rfl)
    (hpl : (backTo pos (starEach [b, c] X.env)).any (·.1) = false := by rfl) : SI X (.Tuple elts kk tpos) (.Call (.Name "zip" p) [a, b, c] [] pos) (iZip3 ma mb mc) := ⟨fun B => ⟨fun pins sh σ H R I ⟨s, ds, s', k, ee, q⟩ => by
  refine Call_ (ld_blt I hg hm PyProof.Rows.boot_zip (PyProof.Rows.callWith_type1 (thn ((pa_cons (ha.pe B) (pa_cons (hb.pe B) (pa_cons (hc.pe B) pa_nil hn3) hn2) hn).run pos pins sh σ H (fun vs H1 => ∃ v1 v2 v3, vs = [v1, v2, v3] ∧ ∃ d1 d2 d3 s1 es1 es2 es3, StOk B σ H1 s1 ∧ Ev (B.W s.env σ) H (B.W s1.env σ) H1 ∧ Rp B.p (B.W s1.env σ) H1 d1 v1 ∧ Rp B.p (B.W s1.env σ) H1 d2 v2 ∧ Rp B.p (B.W s1.env σ) H1 d3 v3 ∧ seqD d1 = some es1 ∧ seqD d2 = some es2 ∧ seqD d3 = some es3 ∧ ds = zipF3 es1 es2 es3 ∧ s' = s1) I ?_) fun us s1 ⟨vs, H1, I1, r1, q1⟩ => ?_) hn hpl))
  · refine tI.bind k ee fun d1 s1 v1 H1 h1 e1 k1 ev1 r1 => ?_
    refine tI.bind k1 e1 fun d2 s2 v2 H2 h2 e2 k2 ev2 r2 => ?_
    refine tI.bind k2 e2 fun d3 s3 v3 H3 h3 e3 k3 ev3 r3 => ?_
    obtain ⟨es1, s4, e4, e5⟩ := bnd_some e3
    obtain ⟨e6, rfl⟩ := lift_some e4
    obtain ⟨es2, s5, e7, e8⟩ := bnd_some e5
    obtain ⟨e9, rfl⟩ := lift_some e7
    obtain ⟨es3, s6, e10, e11⟩ := bnd_some e8
    obtain ⟨e12, rfl⟩ := lift_some e10
    obtain ⟨rfl, rfl⟩ := ret_some e11
    exact ⟨v1, v2, v3, rfl, d1, d2, d3, _, es1, es2, es3, k3, (ev1.trans ev2).trans ev3, r1.ev (ev2.trans ev3), r2.ev ev3, r3, e6, e9, e12, rfl, rfl⟩
  · obtain ⟨v1, v2, v3, rfl, d1, d2, d3, sx, es1, es2, es3, k1, ev1, rv1, rv2, rv3, hd1, hd2, hd3, rfl, rfl⟩ := q1
    obtain ⟨kd1, a1, vs1, o1, rfl, nw1, hH1, rs1, fs1⟩ := rp_seq rv1 hd1
    obtain ⟨kd2, a2, vs2, o2, rfl, nw2, hH2, rs2, fs2⟩ := rp_seq rv2 hd2
    obtain ⟨kd3, a3, vs3, o3, rfl, nw3, hH3, rs3, fs3⟩ := rp_seq rv3 hd3
    cases r1 with
    | cons ru1 r1 =>
      cases r1 with
      | cons ru2 r1 =>
        cases r1 with
        | cons ru3 r1 =>
          cases r1
          cases ru1
          cases ru2
          cases ru3
          obtain ⟨its1, rvs1, cn1, hz1⟩ := (fs1 X.K H1 hH1).cn I1
          obtain ⟨its2, rvs2, cn2, hz2⟩ := (fs2 X.K H1 hH2).cn I1
          obtain ⟨its3, rvs3, cn3, hz3⟩ := (fs3 X.K H1 hH3).cn I1
          refine zip_begins3 (beg kd1 a1 its1.toArray) (beg kd2 a2 its2.toArray) (beg kd3 a3 its3.toArray) cn1 cn2 cn3 fun h' hz hT hO i1 i2 i3 hsz hk => wpAny_pyIter_zip hz ?_
          have I2 : Inv X pins σ H1 { s1 with heap := h' } := I1.kept (t' := s1.toks) hk
          refine ⟨s1.heap.objs.size + 5, _, _, _, H1, rfl, I2, turn_z3 (k1 := kd1) (k2 := kd2) (k3 := kd3) (a1 := a1) (a2 := a2) (a3 := a3) (x1 := vs1) (x2 := vs2) (x3 := vs3) cn1.lt cn2.lt cn3.lt, ⟨hz, hT, ⟨_, _, _, hO⟩, itO_at i1, itO_at i2, itO_at i3⟩, fun b hb => ?_, ?_⟩
          · simp only [List.mem_cons, List.not_mem_nil, or_false] at hb
            have hle : s1.heap.objs.size ≤ b := by
              rcases hb with z | z | z | z | z | z <;> rw [z] <;> first | exact Nat.le_add_right _ _ | exact Nat.le_refl _
            exact I1.fpOk hle (I1.hok.fresh hle)
          · refine q _ H1 k1 ev1 fun W2 H2 ev wt => ?_
            have g1 := (ev a1 o1 hH1 nw1).1
            have g2 := (ev a2 o2 hH2 nw2).1
            have g3 := (ev a3 o3 hH3 nw3).1
            have l1 := rs1.length
            have l2 := rs2.length
            have l3 := rs3.length
            refine ⟨fun i hi => ⟨by rw [zipF3_len] at hi; omega, fs1 _ _ g1, fs2 _ _ g2, fs3 _ _ g3⟩, ⟨by rw [zipF3_len]; omega, fs1 _ _ g1, fs2 _ _ g2, fs3 _ _ g3⟩, fun i d' x H3 hd' y => ?_⟩
            obtain ⟨T, rfl, nT, rfl⟩ := y
            obtain ⟨x1, x2, x3, h1, h2, h3, rfl⟩ := zipF3_get hd'
            exact ⟨same_new nT, .newTup wt nT (.cons (getD_rp (rs1.ev ev) h1) (.cons (getD_rp (rs2.ev ev) h2) (.cons (getD_rp (rs3.ev ev) h3) .nil)))⟩⟩⟩
end
end GH

namespace GH
open PySem PySem.Spec PyProof.Rows L2

theorem W_own {B : Bs} {env : List (Option Sl)} {σ : Sg} {i : Nat} {sl sl' : Sl} (hi : env[i]? = some (some sl)) (ho : sl.isOwn = true) (ho' : sl'.isOwn = true) (b : Addr) : B.W (env.set i (some sl')) σ b ↔ B.W env σ b := by
  have hlt : i < env.length := (List.getElem?_eq_some_iff.mp hi).1
  constructor
  · rintro (h | ⟨j, x, e1, e2, e3⟩)
    · exact .inl h
    · by_cases hj : i = j
      · subst hj
        exact .inr ⟨i, sl, hi, ho, e3⟩
      · rw [List.getElem?_set_ne hj] at e1
        exact .inr ⟨j, x, e1, e2, e3⟩
  · rintro (h | ⟨j, x, e1, e2, e3⟩)
    · exact .inl h
    · by_cases hj : i = j
      · subst hj
        exact .inr ⟨i, sl', List.getElem?_set_self hlt, ho', e3⟩
      · exact .inr ⟨j, x, by rw [List.getElem?_set_ne hj]; exact e1, e2, e3⟩
theorem StOk.wr {B : Bs} {σ : Sg} {H : Hp} {s : S} {i : Nat} {sl sl' : Sl} {a : Addr} {o : HO} (k : StOk B σ H s) (hi : s.env[i]? = some (some sl)) (ho : sl.isOwn = true) (ho' : sl'.isOwn = true) (ha : σ[i]? = some (some (.ref a)))
    (r : OwnR B.p (B.W s.env σ) H sl' o) : StOk B σ (upd H a o) { s with env := s.env.set i (some sl') } ∧ Ev (B.W s.env σ) H (B.W (s.env.set i (some sl')) σ) (upd H a o) := by
  have hlt : i < s.env.length := (List.getElem?_eq_some_iff.mp hi).1
  have wa : B.W s.env σ a := .inr ⟨i, sl, hi, ho, ha⟩
  obtain ⟨a', o', q1, q2, q3, q4, q5⟩ := k.own i sl hi ho
  rw [ha] at q1; cases q1
  have hp : a ≠ B.p := fun z => q5 (z ▸ k.wp)
  have hc : a ≠ B.c := fun z => q5 (z ▸ k.wcc)
  have ev : Ev (B.W s.env σ) H (B.W (s.env.set i (some sl')) σ) (upd H a o) := fun b x h n => by
    have : b ≠ a := fun z => n (z ▸ wa)
    exact ⟨by rw [upd_ne this]; exact h, fun z => n ((W_own hi ho ho' b).mp z)⟩
  refine ⟨⟨by simpa using k.len, fun j d' h => ?_, fun j x h h' => ?_, fun j1 j2 sl1 sl2 b h1 o1 h2 o2 q1 q2 => ?_, ⟨by rw [upd_ne (Ne.symm hp)]; exact k.src.d, by rw [upd_ne (Ne.symm hc)]; exact k.src.l⟩, fun b x e n1 n2 => ?_, fun b h => ?_, k.wp, k.wcc⟩, ev⟩
  · have h : (s.env.set i (some sl'))[j]? = _ := h
    by_cases hj : i = j
    · subst hj
      rw [List.getElem?_set_self hlt] at h
      cases h; cases ho'
    · rw [List.getElem?_set_ne hj] at h
      obtain ⟨v, h1, h2⟩ := k.val j d' h
      exact ⟨v, h1, h2.ev ev⟩
  · have h : (s.env.set i (some sl'))[j]? = _ := h
    by_cases hj : i = j
    · subst hj
      rw [List.getElem?_set_self hlt] at h
      cases h
      exact ⟨a, o, ha, upd_same, r.ev ev, q4, q5⟩
    · rw [List.getElem?_set_ne hj] at h
      obtain ⟨b, x', h1, h2, h3, h4⟩ := k.own j x h h'
      have : b ≠ a := fun z => hj (k.sep i j sl x a hi ho h h' ha (z ▸ h1))
      exact ⟨b, x', h1, by rw [upd_ne this]; exact h2, h3.ev ev, h4⟩
  · have h1 : (s.env.set i (some sl'))[j1]? = _ := h1
    have h2 : (s.env.set i (some sl'))[j2]? = _ := h2
    have g : ∀ (j : Nat) (x : Sl), (s.env.set i (some sl'))[j]? = some (some x) → x.isOwn = true → ∃ y : Sl, s.env[j]? = some (some y) ∧ y.isOwn = true := fun j x h hx => by
      by_cases hj : i = j
      · subst hj; exact ⟨sl, hi, ho⟩
      · rw [List.getElem?_set_ne hj] at h; exact ⟨x, h, hx⟩
    obtain ⟨y1, e1, e2⟩ := g j1 sl1 h1 o1
    obtain ⟨y2, e3, e4⟩ := g j2 sl2 h2 o2
    exact k.sep j1 j2 y1 y2 b e1 e2 e3 e4 q1 q2
  · have : b ≠ a := fun z => by subst z; rw [q4] at e; cases e
    rw [upd_ne this]; exact k.keep b x e n1 n2
  · by_cases z : b = a
    · subst z; exact ⟨o, upd_same, r.noTup⟩
    · rw [upd_ne z]; exact k.wc b h
/-- an own list's place -/
theorem StOk.ownL {B : Bs} {σ : Sg} {H : Hp} {s : S} {i : Nat} {ds : List D} (k : StOk B σ H s) (hi : s.env[i]? = some (some (.own ds))) : ∃ a vs, σ[i]? = some (some (.ref a)) ∧ H a = some (.lst vs) ∧ Rps B.p (B.W s.env σ) H ds vs := by
  obtain ⟨a, o, h1, h2, ⟨vs, rfl, h3⟩, h4, h5⟩ := k.own i _ hi rfl
  exact ⟨a, vs, h1, h2, h3⟩

def D.isFlat : D → Bool
  | .non => true
  | .bl _ => true
  | .int _ => true
  | .str _ => true
  | _ => false
theorem D.isFlat_rp {d : D} (h : d.isFlat = true) {p : Addr} {W W' : AP} {H H' : Hp} {v : V} (r : Rp p W H d v) : Rp p W' H' d v := by
  cases d <;> simp [D.isFlat] at h <;> simpa [Rp] using r
def Sl.bor : Sl → D
  | .val d => d
  | .own ds => .lst ds
  | .ownK ks ds => .dct ks ds
  | .ownT ks ds => .dtt ks ds
def borSl (t : Bool) : Option Sl → Option Sl
  | some (.val d) => some (.val d)
  | some sl => if t = true then some (.val sl.bor) else none
  | none => none
/-- the slots of `is` as values, the other own ones away -/
def borE (is : List Nat) (env : List (Option Sl)) : List (Option Sl) := env.mapIdx fun j x => borSl (is.contains j) x
def eBor (is : List Nat) (m : M D) : M D := fun s => match m ⟨borE is s.env, s.src⟩ with
  | some (d, s') => if d.isFlat = true then some (d, ⟨s.env, s'.src⟩) else none
  | none => none
def tBor (is : List Nat) (m : M Bool) : M Bool := fun s => match m ⟨borE is s.env, s.src⟩ with
  | some (d, s') => some (d, ⟨s.env, s'.src⟩)
  | none => none
/-- the base of a borrowing -/
def Bs.bor (B : Bs) (is : List Nat) (env : List (Option Sl)) (σ : Sg) (H : Hp) : Bs :=
  { B with Wc := fun b => B.W env σ b ∧ ¬ ∃ i sl, i ∈ is ∧ env[i]? = some (some sl) ∧ sl.isOwn = true ∧ σ[i]? = some (some (.ref b)), H0 := H }
theorem borE_get {is : List Nat} {env : List (Option Sl)} {j : Nat} {x : Sl} (h : (borE is env)[j]? = some (some x)) : (∃ d, x = .val d ∧ env[j]? = some (some (.val d))) ∨ (∃ sl, env[j]? = some (some sl) ∧ sl.isOwn = true ∧ j ∈ is ∧ x = .val sl.bor) := by
  unfold borE at h
  rw [List.getElem?_mapIdx] at h
  obtain ⟨y, h1, h2⟩ := Option.map_eq_some_iff.mp h
  cases y with
  | none => simp [borSl] at h2
  | some sl =>
    by_cases hj : is.contains j = true
    · have hm : j ∈ is := by simpa using hj
      rw [hj] at h2
      cases sl <;> simp only [borSl, if_pos] at h2 <;> cases h2
      · exact .inl ⟨_, rfl, h1⟩
      · exact .inr ⟨_, h1, rfl, hm, rfl⟩
      · exact .inr ⟨_, h1, rfl, hm, rfl⟩
      · exact .inr ⟨_, h1, rfl, hm, rfl⟩
    · have hf : is.contains j = false := by simpa using hj
      rw [hf] at h2
      cases sl <;> simp only [borSl, Bool.false_eq_true, if_false] at h2 <;> cases h2
      · exact .inl ⟨_, rfl, h1⟩
theorem StOk.bor {B : Bs} {σ : Sg} {H : Hp} {s : S} (k : StOk B σ H s) (is : List Nat) : StOk (B.bor is s.env σ H) σ H ⟨borE is s.env, s.src⟩ := by
  have noOwn : ∀ b, ¬ OwnA (borE is s.env) σ b := fun b ⟨i, sl, h1, h2, _⟩ => by
    rcases borE_get h1 with ⟨d, rfl, _⟩ | ⟨_, _, _, _, rfl⟩ <;> cases h2
  have sub : ∀ b, (B.bor is s.env σ H).W (borE is s.env) σ b → B.W s.env σ b := fun b hb => by
    rcases hb with hb | hb
    · exact hb.1
    · exact absurd hb (noOwn b)
  have fresh : ∀ (i : Nat) (sl : Sl) (b : Addr), s.env[i]? = some (some sl) → sl.isOwn = true → σ[i]? = some (some (.ref b)) → ¬ B.Wc b := fun i sl b h1 h2 h3 => by
    obtain ⟨b', o, q1, _, _, _, q5⟩ := k.own i sl h1 h2
    rw [h3] at q1; cases q1; exact q5
  refine ⟨by show (borE is s.env).length = _; unfold borE; rw [List.length_mapIdx]; exact k.len, fun i d h => ?_, fun i sl h ho => ?_, fun i j sl sl' a h ho => ?_, k.src, fun a o h _ _ => h, fun a h => k.wt a h.1,
    ⟨.inl k.wp, fun ⟨i, sl, _, h1, h2, h3⟩ => fresh i sl _ h1 h2 h3 k.wp⟩, ⟨.inl k.wcc, fun ⟨i, sl, _, h1, h2, h3⟩ => fresh i sl _ h1 h2 h3 k.wcc⟩⟩
  · rcases borE_get h with ⟨d', e, h1⟩ | ⟨sl, h1, ho, hm, e⟩
    · cases e
      obtain ⟨v, q1, q2⟩ := k.val i d h1
      exact ⟨v, q1, q2.ev (Ev.less sub)⟩
    · cases e
      obtain ⟨a, o, q1, q2, q3, q4, q5⟩ := k.own i sl h1 ho
      have na : ¬ (B.bor is s.env σ H).W (borE is s.env) σ a := by
        rintro (z | z)
        · exact z.2 ⟨i, sl, hm, h1, ho, q1⟩
        · exact noOwn a z
      refine ⟨_, q1, ?_⟩
      have q3' := OwnR.ev (Ev.less (H := H) sub) sl o q3
      cases sl with
      | val d => cases ho
      | own ds => obtain ⟨vs, rfl, r⟩ := q3'; exact .mkLst na q2 r
      | ownK ks ds => obtain ⟨kvs, rfl, r1, r⟩ := q3'; simp only [Sl.bor, Rp]; exact ⟨a, kvs, rfl, na, .inl q2, r1, r⟩
      | ownT ks ds => obtain ⟨kvs, rfl, r1, r⟩ := q3'; simp only [Sl.bor, Rp]; exact ⟨a, kvs, rfl, na, .inl q2, r1, r⟩
  · rcases borE_get h with ⟨d', e, h1⟩ | ⟨_, _, _, _, e⟩ <;> cases e <;> cases ho
  · rcases borE_get h with ⟨d', e, h1⟩ | ⟨_, _, _, _, e⟩ <;> cases e <;> cases ho
theorem StOk.unbor {B : Bs} {σ : Sg} {H H' : Hp} {s s' : S} {is : List Nat} (k : StOk B σ H s) (k' : StOk (B.bor is s.env σ H) σ H' s') : StOk B σ H' ⟨s.env, s'.src⟩ ∧ Ev (B.W s.env σ) H (B.W s.env σ) H' :=
  k.called (fun a o h n1 n2 => k'.keep a o h n1 n2) k'.src
section
variable {X : Cx} {e : Expr} {m : M D} {mt : M Bool} {is : List Nat}
theorem s_bor (h : SE X e m) : SE X e (eBor is m) := ⟨fun B => ⟨fun pins sh σ H Q I ⟨s, d, s', k, e, q⟩ => by
  unfold eBor at e
  split at e
  · rename_i d1 s1 em
    split at e
    · rename_i hd
      cases e
      refine (h.pe (B.bor is s.env σ H)).run pins sh σ H Q I ⟨_, d, s1, k.bor is, em, fun v H' k' ev r => ?_⟩
      obtain ⟨k2, ev2⟩ := k.unbor k'
      exact q v H' k2 ev2 (D.isFlat_rp hd r)
    · cases e
  · cases e⟩⟩
theorem t_bor (h : ST X e mt) : ST X e (tBor is mt) := ⟨fun B => ⟨fun pins sh σ H Q I ⟨s, d, s', k, e, q⟩ => by
  unfold tBor at e
  split at e
  · rename_i d1 s1 em
    cases e
    refine (h.pt (B.bor is s.env σ H)).run pins sh σ H Q I ⟨_, d, s1, k.bor is, em, fun H' k' ev => ?_⟩
    obtain ⟨k2, ev2⟩ := k.unbor k'
    exact q H' k2 ev2
  · cases e⟩⟩
end

section
variable {X : Cx} {e b : Expr} {es : List Expr} {x : Str} {i : Nat} {pos p apos cpos : Pos} {m mb : M D}
def ownIx (sl : Sl) (d : D) : Option D := match sl, d with
  | .own ds, .int j => atI ds j
  | .val (.lst ds), .int j => atI ds j
  | .val (.tup ds), .int j => atI ds j
  | _, _ => none
def eIxO (i : Nat) (mb : M D) : M D := fun s0 => match s0.env[i]? with
  | some (some _) => bnd mb (fun d s => match s.env[i]? with
    | some (some sl) => (match ownIx sl d with
      | some y => some (y, s)
      | none => none)
    | _ => none) s0
  | _ => none
theorem StOk.slot {B : Bs} {σ : Sg} {H : Hp} {s : S} {i : Nat} {sl : Sl} (k : StOk B σ H s) (hi : s.env[i]? = some (some sl)) : ∃ v, σ[i]? = some (some v) := by
  by_cases ho : sl.isOwn = true
  · obtain ⟨a, _, h, _⟩ := k.own i sl hi ho; exact ⟨_, h⟩
  · cases sl with
    | val d => obtain ⟨v, h, _⟩ := k.val i d hi; exact ⟨v, h⟩
    | own _ => exact absurd rfl ho
    | ownK _ _ => exact absurd rfl ho
    | ownT _ _ => exact absurd rfl ho
theorem s_ixO (hx : PE X (.Name x p) (tVar i)) (hb : SE X b mb) (hs : PlainIx b := by exact fun _ _ => rfl) : SE X (.Subscript (.Name x p) b pos) (eIxO i mb) := ⟨fun B => by
  refine PE.imp (pe_ix ix_seq hx (hb.pe B) hs) fun σ H Q ⟨s, d, s', k, e, q⟩ => ?_
  unfold eIxO at e
  split at e
  · rename_i sl0 h0
    obtain ⟨v, hv⟩ := k.slot h0
    refine ⟨v, hv, ?_⟩
    refine tI.bind k e fun dy s1 u H1 h1 e1 k1 ev1 r1 => ?_
    split at e1
    · rename_i sl hsl
      split at e1
      · rename_i y hy
        cases e1
        unfold ownIx at hy
        split at hy
        · obtain ⟨a, vs, q1, q2, q3⟩ := k1.ownL hsl
          rw [hv] at q1; cases q1
          obtain ⟨w, h2, h3⟩ := rps_atI q3 hy
          exact .inl ⟨a, vs, _, w, rfl, rp_int r1, SqL.of q2, h2, q _ H1 k1 ev1 h3⟩
        · obtain ⟨v', q1, q2⟩ := k1.val i _ hsl
          rw [hv] at q1; cases q1
          obtain ⟨a, vs, rfl, _, q2, q3⟩ := rp_lst q2
          obtain ⟨w, h2, h3⟩ := rps_atI q3 hy
          exact .inl ⟨a, vs, _, w, rfl, rp_int r1, SqL.of q2, h2, q _ H1 k1 ev1 h3⟩
        · obtain ⟨v', q1, q2⟩ := k1.val i _ hsl
          rw [hv] at q1; cases q1
          obtain ⟨a, vs, rfl, _, q2, q3⟩ := rp_tup q2
          obtain ⟨w, h2, h3⟩ := rps_atI q3 hy
          exact .inr (.inl ⟨a, vs, _, w, rfl, rp_int r1, SqT.of q2, h2, q _ H1 k1 ev1 h3⟩)
        · cases hy
      · cases e1
    · cases e1
  · cases e⟩
/-- the own list of slot i becomes f of it -/
def putL (i : Nat) (f : List D → Option (List D)) : M Unit := fun s => match s.env[i]? with
  | some (some (.own ds)) => (match f ds with
    | some ds' => some ((), ⟨s.env.set i (some (.own ds')), s.src⟩)
    | none => none)
  | _ => none
def ownHere (i : Nat) : M Unit := fun s => match s.env[i]? with
  | some (some (.own _)) => some ((), s)
  | _ => none
def appL (d : D) (ds : List D) : Option (List D) := if ds.length < sizeLine then some (ds ++ [d]) else none
def eApp (i : Nat) (m : M D) : M D := bnd (ownHere i) fun _ => bnd m fun d => bnd (putL i (appL d)) fun _ => ret .non
theorem own_here {i : Nat} {s s' : S} {u : Unit} (h : ownHere i s = some (u, s')) : s' = s ∧ ∃ ds, s.env[i]? = some (some (.own ds)) := by
  unfold ownHere at h
  split at h
  · rename_i ds hd; cases h; exact ⟨rfl, ds, hd⟩
  · cases h
theorem put_L {i : Nat} {f : List D → Option (List D)} {s s' : S} {u : Unit} (h : putL i f s = some (u, s')) : ∃ ds ds', s.env[i]? = some (some (.own ds)) ∧ f ds = some ds' ∧ s' = ⟨s.env.set i (some (.own ds')), s.src⟩ := by
  unfold putL at h
  split at h
  · rename_i ds hd
    split at h
    · rename_i ds' hf; cases h; exact ⟨ds, ds', hd, hf, rfl⟩
    · cases h
  · cases h
theorem s_append (hx : PE X (.Name x p) (tVar i)) (ha : SE X e m)
    (hbase : attributeBase (.Name x p) "append" X.env (eval (.Name x p) X.env) = eval (.Name x p) X.env := by rfl)
    (hfew : ((backTo cpos (starEach [e] X.env)).all (fun x => !x.1) && (backToKw cpos (keywordEach [] X.env)).all (fun x => x.1.isSome)
      && decide ([e].length + ([] : List Keyword).length + (if ([] : List Keyword).isEmpty then 0 else 1) < 30)) = true := by rfl)
    (hline : (apos.endLine == cpos.line) = true := by rfl) (hs : starEach [e] X.env = (false, eval e X.env) :: starEach [] X.env := by rfl) (hpl : (backTo cpos (starEach [] X.env)).any (·.1) = false := by rfl) :
    SE X (.Call (.Attribute (.Name x p) "append" apos) [e] [] cpos) (eApp i m) := ⟨fun B => by
  refine PE.imp (pe_bm PySem.F.plainAttrs_list PySem.F.slot_list_append PySem.F.type_list_append mt_append hx (pa_cons (ha.pe B) pa_nil hs) hbase hfew hline hs hpl) fun σ H Q ⟨s, d, s', k, e, q⟩ => ?_
  obtain ⟨_, s0, e0, e9⟩ := bnd_some e
  obtain ⟨rfl, ds0, h0⟩ := own_here e0
  obtain ⟨a, vs, q1, q2, q3⟩ := k.ownL h0
  refine ⟨_, q1, .inl ⟨rfl, vs, SqL.of q2⟩, ?_⟩
  refine tI.bind k e9 fun dy s1 u H1 h1 e1 k1 ev1 r1 => ?_
  obtain ⟨_, s2, e2, e3⟩ := bnd_some e1
  obtain ⟨ds, ds', hsl, hf, rfl⟩ := put_L e2
  obtain ⟨rfl, rfl⟩ := ret_some e3
  unfold appL at hf
  split at hf
  · rename_i hz
    cases hf
    obtain ⟨a', us, p1, p2, p3⟩ := k1.ownL hsl
    rw [q1] at p1; cases p1
    obtain ⟨k2, ev2⟩ := k1.wr (sl' := .own (ds ++ [dy])) (o := .lst (us ++ [u])) hsl rfl rfl q1 ⟨_, rfl, p3.append (.cons r1 .nil)⟩
    refine ⟨a, us, u, rfl, rfl, p2, by rw [← p3.length]; exact hz, q _ _ k2 (ev1.trans ev2) .mkNon⟩
  · cases hf⟩

def popL : List D → Option (D × List D)
  | ds => ds.getLast?.map fun d => (d, ds.dropLast)
def ePop (i : Nat) : M D := fun s => match s.env[i]? with
  | some (some (.own ds)) => (match popL ds with
    | some (d, ds') => some (d, ⟨s.env.set i (some (.own ds')), s.src⟩)
    | none => none)
  | _ => none
theorem rps_dropLast {p : Addr} {W : AP} {H : Hp} {ds : List D} {vs : List V} (r : Rps p W H ds vs) : Rps p W H ds.dropLast vs.dropLast := by
  rw [List.dropLast_eq_take, List.dropLast_eq_take, r.length]; exact r.take _
theorem s_pop (hx : PE X (.Name x p) (tVar i)) (hbase : attributeBase (.Name x p) "pop" X.env (eval (.Name x p) X.env) = eval (.Name x p) X.env := by rfl) (hline : (apos.endLine == cpos.line) = true := by rfl) :
    SE X (.Call (.Attribute (.Name x p) "pop" apos) [] [] cpos) (ePop i) := ⟨fun B => by
  refine PE.imp (pe_bm0 PySem.F.plainAttrs_list PySem.F.slot_list_pop PySem.F.type_list_pop mt_pop hx hbase hline) fun σ H Q ⟨s, d, s', k, e, q⟩ => ?_
  unfold ePop at e
  split at e
  · rename_i ds hsl
    split at e
    · rename_i d' ds' hf
      cases e
      unfold popL at hf
      obtain ⟨y, h1, h2⟩ := Option.map_eq_some_iff.mp hf
      cases h2
      obtain ⟨a, vs, q1, q2, q3⟩ := k.ownL hsl
      have hl : ds[ds.length - 1]? = some d := by rw [← List.getLast?_eq_getElem?]; exact h1
      obtain ⟨v, h3, h4⟩ := q3.get hl
      obtain ⟨k2, ev2⟩ := k.wr (sl' := .own ds.dropLast) (o := .lst vs.dropLast) hsl rfl rfl q1 ⟨_, rfl, rps_dropLast q3⟩
      exact ⟨_, q1, .inl ⟨rfl, vs, SqL.of q2⟩, a, vs, v, rfl, rfl, q2, by rw [← q3.length]; exact h3, q _ _ k2 ev2 (h4.ev ev2)⟩
    · cases e
  · cases e⟩
/-- x.pop(j) -/
def popAtL (d : D) (ds : List D) : Option (D × List D) := match d with
  | .int j => (ixN ds.length j).bind fun n => if ds.length ≤ sizeLine then ds[n]?.map fun y => (y, ds.eraseIdx n) else none
  | _ => none
def ePopAt (i : Nat) (m : M D) : M D := bnd (ownHere i) fun _ => bnd m fun d s => match s.env[i]? with
  | some (some (.own ds)) => (match popAtL d ds with
    | some (d, ds') => some (d, ⟨s.env.set i (some (.own ds')), s.src⟩)
    | none => none)
  | _ => none
theorem Rps.erase {p : Addr} {W : AP} {H : Hp} : ∀ {ds : List D} {vs : List V} (n : Nat), Rps p W H ds vs → Rps p W H (ds.eraseIdx n) (vs.eraseIdx n)
  | [], _, _, h => by simp only [Rps] at h; subst h; exact .nil
  | d :: ds, _, 0, h => by
    simp only [Rps] at h
    obtain ⟨v, r, rfl, h1, h2⟩ := h
    exact h2
  | d :: ds, _, n + 1, h => by
    simp only [Rps] at h
    obtain ⟨v, r, rfl, h1, h2⟩ := h
    exact .cons h1 (h2.erase n)
theorem s_popAt (hx : PE X (.Name x p) (tVar i)) (ha : SE X e m)
    (hbase : attributeBase (.Name x p) "pop" X.env (eval (.Name x p) X.env) = eval (.Name x p) X.env := by rfl)
    (hfew : ((backTo cpos (starEach [e] X.env)).all (fun x => !x.1) && (backToKw cpos (keywordEach [] X.env)).all (fun x => x.1.isSome)
      && decide ([e].length + ([] : List Keyword).length + (if ([] : List Keyword).isEmpty then 0 else 1) < 30)) = true := by rfl)
    (hline : (apos.endLine == cpos.line) = true := by rfl) (hs : starEach [e] X.env = (false, eval e X.env) :: starEach [] X.env := by rfl) (hpl : (backTo cpos (starEach [] X.env)).any (·.1) = false := by rfl) :
    SE X (.Call (.Attribute (.Name x p) "pop" apos) [e] [] cpos) (ePopAt i m) := ⟨fun B => by
  refine PE.imp (pe_bm PySem.F.plainAttrs_list PySem.F.slot_list_pop PySem.F.type_list_pop mt_popAt hx (pa_cons (ha.pe B) pa_nil hs) hbase hfew hline hs hpl) fun σ H Q ⟨s, d, s', k, e, q⟩ => ?_
  obtain ⟨_, s0, e0, e9⟩ := bnd_some e
  obtain ⟨rfl, ds0, h0⟩ := own_here e0
  obtain ⟨a, vs, q1, q2, q3⟩ := k.ownL h0
  refine ⟨_, q1, .inl ⟨rfl, vs, SqL.of q2⟩, ?_⟩
  refine tI.bind k e9 fun dy s1 u H1 h1 e1 k1 ev1 r1 => ?_
  split at e1
  · rename_i ds hsl
    split at e1
    · rename_i d' ds' hf
      cases e1
      unfold popAtL at hf
      split at hf
      · rename_i j
        obtain ⟨n, hn, hf⟩ := Option.bind_eq_some_iff.mp hf
        split at hf
        · rename_i hz
          obtain ⟨y, hy, e2⟩ := Option.map_eq_some_iff.mp hf
          cases e2
          obtain ⟨a', us, p1, p2, p3⟩ := k1.ownL hsl
          rw [q1] at p1; cases p1
          obtain ⟨w, h3, h4⟩ := p3.get hy
          obtain ⟨k2, ev2⟩ := k1.wr (sl' := .own (ds.eraseIdx n)) (o := .lst (us.eraseIdx n)) hsl rfl rfl q1 ⟨_, rfl, p3.erase n⟩
          obtain ⟨z1, z2, z3, z4⟩ := ixN_seq hn
          have hs := line63
          exact ⟨a, us, j, n, w, rfl, by rw [rp_int r1], p2, by omega, by omega, by rw [← p3.length]; exact z1, h3, q _ _ k2 (ev1.trans ev2) (h4.ev ev2)⟩
        · cases hf
      · cases hf
    · cases e1
  · cases e1⟩
/-- x[j] = e -/
def setL (dy d : D) (ds : List D) : Option (List D) := match dy with
  | .int j => (ixN ds.length j).map fun n => ds.set n d
  | _ => none
def sSetIx (i : Nat) (me mb : M D) : M Out := bnd me fun d => bnd (ownHere i) fun _ => bnd mb fun dy => bnd (putL i (setL dy d)) fun _ => ret .nx
theorem s_setIx {tpos : Pos} {me : M D} (hx : PE X (.Name x p) (tVar i)) (hb : SE X b mb) (he : SE X e me) (hs : swapsWithSole [.Subscript (.Name x p) b tpos] e pos.line X.env = pure false := by rfl) (hw : swappedStores [.Subscript (.Name x p) b tpos] e X.env = pure none := by rfl)
    (h1 : (assignEach [.Subscript (.Name x p) b tpos] X.env).map (·.2) = [assign (.Subscript (.Name x p) b tpos) X.env] := by rfl)
    (ha : ∀ v, assign (.Subscript (.Name x p) b tpos) X.env v = (do
      let ov ← holding [v] (eval (.Name x p) X.env)
      let iv ← holding [v, ov] (eval b X.env)
      standAt tpos
      holding [v, ov, iv] (setItem ov iv v)
      release [v, ov, iv] []) := by intro _; rfl) : SS X (.Assign [.Subscript (.Name x p) b tpos] e pos) (sSetIx i me mb) := ⟨fun B => by
  refine PS.imp (ps_asg (he.pe B) (pg_sub hx (hb.pe B) set_list ha) hs hw h1) fun D σ H ⟨s, o, s', k, e, q⟩ => ?_
  refine tI.bind k e fun d s1 v H1 h1 e1 k1 ev1 r1 => ?_
  obtain ⟨_, s0, e0, e9⟩ := bnd_some e1
  obtain ⟨rfl, ds0, h0⟩ := own_here e0
  obtain ⟨a, vs, q1, q2, q3⟩ := k1.ownL h0
  refine ⟨_, q1, ?_⟩
  refine tI.bind k1 e9 fun dy s2 u H2 h2 e2 k2 ev2 r2 => ?_
  obtain ⟨_, s3, e3, e4⟩ := bnd_some e2
  obtain ⟨ds, ds', hsl, hf, rfl⟩ := put_L e3
  obtain ⟨rfl, rfl⟩ := ret_some e4
  unfold setL at hf
  split at hf
  · rename_i j
    obtain ⟨n, hn, rfl⟩ := Option.map_eq_some_iff.mp hf
    obtain ⟨a', us, p1, p2, p3⟩ := k2.ownL hsl
    rw [q1] at p1; cases p1
    obtain ⟨k3, ev3⟩ := k2.wr (sl' := .own (ds.set n d)) (o := .lst (us.set n v)) hsl rfl rfl q1 ⟨_, rfl, p3.set n (r1.ev ev2)⟩
    exact ⟨a, us, j, n, rfl, by rw [rp_int r2], p2, by rw [← p3.length]; exact hn, q σ _ k3 (ev1.trans (ev2.trans ev3))⟩
  · cases hf⟩
/-- x[j] op= e -/
def rGetL : V → V → Hp → VK → Prop := fun o i H Q => ∃ p xs k j v, o = .ref p ∧ i = .int k ∧ H p = some (.lst xs) ∧ ixN xs.length k = some j ∧ xs[j]? = some v ∧ Q v H
theorem get_list : PGet X rGetL := by
  intro pins s σ H o i ov iv Q I ro ri h
  obtain ⟨p, xs, k, j, z, rfl, rfl, hp, hj, hz, q⟩ := h
  cases ro
  obtain ⟨t, rfl⟩ := ri
  obtain ⟨its, n, r, ho, hsz⟩ := I.lst hp
  obtain ⟨h1, h2, h3, h4⟩ := ixN_seq hj
  obtain ⟨w, ew, rw'⟩ := r.get hz
  have hl := r.length
  have hn := line63
  have fin : EP X pins σ Q w s := ⟨z, H, I, rw', q⟩
  have hL : s.heap.IsList p its.toArray := ⟨_, ho, rfl, _, rfl⟩
  by_cases h0 : 0 ≤ k
  · have hk : k.toNat = j := by
      rw [seqIndex_of h0 h4] at h1
      exact Option.some.inj h1
    exact wpAny_getItem_list hL h0 (by omega) (by rw [hk]; simpa using ew) fin
  · have hk : (k + (its.toArray.size : Int)).toNat = j := by
      rw [seqIndex_neg (by omega) h3] at h1
      rw [List.size_toArray, ← hl]
      exact Option.some.inj h1
    exact wpAny_getItem_list_neg hL (by omega) (by rw [List.size_toArray] <;> omega) (by omega) (by rw [hk]; simpa using ew) fin
def ownGet (i : Nat) (dy : D) : M D := fun s => match s.env[i]? with
  | some (some (.own ds)) => (match dy with
    | .int j => (match atI ds j with
      | some y => some (y, s)
      | none => none)
    | _ => none)
  | _ => none
theorem own_get {i : Nat} {dy y : D} {s s' : S} (h : ownGet i dy s = some (y, s')) : s' = s ∧ ∃ ds j, s.env[i]? = some (some (.own ds)) ∧ dy = .int j ∧ atI ds j = some y := by
  unfold ownGet at h
  split at h
  · rename_i ds hd
    split at h
    · rename_i j
      split at h
      · rename_i z hz; cases h; exact ⟨rfl, ds, j, hd, rfl, hz⟩
      · cases h
    · cases h
  · cases h
def augI (f : Int → Int → Int) : D → D → Option D
  | .int x, .int y => some (.int (f x y))
  | _, _ => none
def sAugIx (i : Nat) (f : Int → Int → Int) (mb me : M D) : M Out := bnd (ownHere i) fun _ => bnd mb fun dy => bnd (ownGet i dy) fun old => bnd me fun d => bnd (lift (augI f old d)) fun z => bnd (putL i (setL dy z)) fun _ => ret .nx
theorem augI_some {f : Int → Int → Int} {x y z : D} (h : augI f x y = some z) : ∃ i j, x = .int i ∧ y = .int j ∧ z = .int (f i j) := by
  unfold augI at h
  split at h
  · cases h; exact ⟨_, _, rfl, rfl, rfl⟩
  · cases h
theorem s_augIx {op : Operator} {f : Int → Int → Int} {tpos : Pos} {me : M D} (hx : PE X (.Name x p) (tVar i)) (hb : SE X b mb) (he : SE X e me) (ho : PIp X op (ipI f))
    (ha : ∀ ov iv new, augStore b ov iv new = (do holding [new, ov, iv] (setItem ov iv new); release [new, ov, iv] []; pure .next) := by intros; rfl) : SS X (.AugAssign (.Subscript (.Name x p) b tpos) op e pos) (sAugIx i f mb me) := ⟨fun B => by
  refine PS.imp (ps_augS hx (hb.pe B) get_list (he.pe B) ho set_list ha) fun D σ H ⟨s, o, s', k, e, q⟩ => ?_
  obtain ⟨_, s0, e0, e9⟩ := bnd_some e
  obtain ⟨rfl, ds0, h0⟩ := own_here e0
  obtain ⟨a, vs, q1, q2, q3⟩ := k.ownL h0
  refine ⟨_, q1, ?_⟩
  refine tI.bind k e9 fun dy s1 u H1 h1 e1 k1 ev1 r1 => ?_
  obtain ⟨old, s2, e2, e3⟩ := bnd_some e1
  obtain ⟨rfl, ds, j, hsl, rfl, hy⟩ := own_get e2
  obtain ⟨a', us, p1, p2, p3⟩ := k1.ownL hsl
  rw [q1] at p1; cases p1
  unfold atI at hy
  obtain ⟨n, hn, hy⟩ := Option.bind_eq_some_iff.mp hy
  obtain ⟨w, h3, h4⟩ := p3.get hy
  refine ⟨a, us, j, n, w, rfl, rp_int r1, p2, by rw [← p3.length]; exact hn, h3, ?_⟩
  refine tI.bind k1 e3 fun d s3 v H3 h5 e5 k3 ev3 r3 => ?_
  obtain ⟨z, s4, e6, e7⟩ := bnd_some e5
  obtain ⟨e11, rfl⟩ := lift_some e6
  obtain ⟨xi, yi, rfl, rfl, rfl⟩ := augI_some e11
  obtain ⟨_, s5, e8, e10⟩ := bnd_some e7
  obtain ⟨ds3, ds', hsl3, hf, rfl⟩ := put_L e8
  obtain ⟨rfl, rfl⟩ := ret_some e10
  unfold setL at hf
  obtain ⟨n', hn', rfl⟩ := Option.map_eq_some_iff.mp hf
  obtain ⟨a', us3, g1, g2, g3⟩ := k3.ownL hsl3
  rw [q1] at g1; cases g1
  obtain ⟨k4, ev4⟩ := k3.wr (sl' := .own (ds3.set n' (.int (f xi yi)))) (o := .lst (us3.set n' (.int (f xi yi)))) hsl3 rfl rfl q1 ⟨_, rfl, g3.set n' (.mkInt _)⟩
  exact ⟨xi, yi, rp_int h4, rp_int r3, a, us3, j, n', rfl, rp_int r1, g2, by rw [← g3.length]; exact hn', q σ _ k4 (ev1.trans (ev3.trans ev4))⟩⟩
end
end GH

namespace GH
open PySem PySem.Spec PyProof.Rows L2

def PendR (σ : Sg) (H : Hp) (s : S) (Bf : Bs) : Bs → List Sl → List V → Prop
  | B, [], vs => vs = [] ∧ Bf = B
  | B, .val d :: r, vs => ∃ v t, vs = v :: t ∧ Rp Bf.p (Bf.W s.env σ) H d v ∧ PendR σ H s Bf B r t
  | B, sl :: r, vs => ∃ a o t, vs = .ref a :: t ∧ B.H0 a = none ∧ ¬ B.Wc a ∧ OwnR Bf.p (Bf.W s.env σ) H sl o ∧ PendR σ H s Bf (B.plusO a o) r t
/-- what each base under the new lists keeps -/
theorem PendR.base {σ : Sg} {H : Hp} {s : S} {Bf : Bs} : ∀ {l : List Sl} {B : Bs} {us : List V}, PendR σ H s Bf B l us → Bf.p = B.p ∧ Bf.c = B.c ∧ (∀ b o, B.H0 b = some o → Bf.H0 b = some o) ∧ (∀ b, B.Wc b → Bf.Wc b)
  | [], _, _, h => by rw [h.2]; exact ⟨rfl, rfl, fun _ _ z => z, fun _ z => z⟩
  | .val _ :: _, _, _, ⟨_, _, _, _, h⟩ => h.base
  | .own _ :: _, B, _, ⟨a, us, _, _, n, _, _, h⟩ => let ⟨h1, h2, h3, h4⟩ := h.base; ⟨h1, h2, fun b o z => h3 b o (by
      show upd B.H0 a _ b = _
      rw [upd_ne (ne_of_none z n)]; exact z), fun b z => h4 b (.inl z)⟩
  | .ownK _ _ :: _, B, _, ⟨a, us, _, _, n, _, _, h⟩ => let ⟨h1, h2, h3, h4⟩ := h.base; ⟨h1, h2, fun b o z => h3 b o (by
      show upd B.H0 a _ b = _
      rw [upd_ne (ne_of_none z n)]; exact z), fun b z => h4 b (.inl z)⟩
  | .ownT _ _ :: _, B, _, ⟨a, us, _, _, n, _, _, h⟩ => let ⟨h1, h2, h3, h4⟩ := h.base; ⟨h1, h2, fun b o z => h3 b o (by
      show upd B.H0 a _ b = _
      rw [upd_ne (ne_of_none z n)]; exact z), fun b z => h4 b (.inl z)⟩
theorem StOk.pin {B : Bs} {σ : Sg} {H : Hp} {s : S} {a : Addr} {o : HO} (k : StOk (B.plus a) σ H s) (h : H a = some o) : StOk (B.plusO a o) σ H s where
  len := k.len
  val := k.val
  own := fun i sl h ho => by
    obtain ⟨b, x, q1, q2, q3, q4, q5⟩ := k.own i sl h ho
    exact ⟨b, x, q1, q2, q3, by show upd B.H0 a o b = none; rw [upd_ne (fun z => q5 (.inr z))]; exact q4, q5⟩
  sep := k.sep
  src := k.src
  keep := fun b x e n1 n2 => by
    have e : upd B.H0 a o b = some x := e
    by_cases z : b = a
    · subst z; rw [upd_same] at e; cases e; exact h
    · rw [upd_ne z] at e; exact k.keep b x e n1 n2
  wc := k.wc
  wp := k.wp
  wcc := k.wcc
def tP (B : Bs) (m : M (List Sl)) : TA := fun σ H Q => ∃ s sls s', StOk B σ H s ∧ m s = some (sls, s') ∧
  ∀ vs H' Bf, StOk Bf σ H' s' → Ev (B.W s.env σ) H (Bf.W s'.env σ) H' → PendR σ H' s' Bf B sls vs → Q vs H'
structure SP (X : Cx) (es : List Expr) (m : M (List Sl)) : Prop where
  pa : ∀ B, PA X es (tP B m)
def pNil : M (List Sl) := ret []
def pVal (m : M D) (ms : M (List Sl)) : M (List Sl) := bnd m fun d => bnd ms fun r => ret (.val d :: r)
def pOwn (ml : M (List D)) (ms : M (List Sl)) : M (List Sl) := bnd ml fun ds => bnd ms fun r => ret (.own ds :: r)
section
variable {X : Cx} {e : Expr} {es : List Expr} {m : M D} {ml : M (List D)} {ms : M (List Sl)}
theorem p_nil : SP X [] pNil := ⟨fun B => PA.imp pa_nil fun σ H Q ⟨s, d, s', k, e, q⟩ => by
  obtain ⟨rfl, rfl⟩ := ret_some e
  exact q [] H B k Ev.refl ⟨rfl, rfl⟩⟩
theorem p_val (ha : SE X e m) (hr : SP X es ms) (hs : starEach (e :: es) X.env = (false, eval e X.env) :: starEach es X.env := by rfl) : SP X (e :: es) (pVal m ms) :=
  ⟨fun B => PA.imp (pa_cons (ha.pe B) (hr.pa B) hs) fun σ H Q ⟨s, d, s', k, e, q⟩ => by
    refine tI.bind k e fun dx s1 x H1 h1 e1 k1 ev1 r1 => ?_
    obtain ⟨r, s2, e2, e3⟩ := bnd_some e1
    obtain ⟨rfl, rfl⟩ := ret_some e3
    refine ⟨s1, r, s', k1, e2, fun vs H' Bf k2 ev2 pr => q _ H' Bf k2 (ev1.trans ev2) ⟨x, vs, rfl, ?_, pr⟩⟩
    rw [pr.base.1]
    exact r1.ev ev2⟩
theorem p_own (ha : SL X e ml) (hr : SP X es ms) (hs : starEach (e :: es) X.env = (false, eval e X.env) :: starEach es X.env := by rfl) : SP X (e :: es) (pOwn ml ms) :=
  ⟨fun B => ⟨fun pos pins sh σ H Q I h => by
    -- the base of what follows hangs on the new list's address
    refine (pa_cons (t := fun σ H Q => ∃ B', tP B' ms σ H Q) (ha.pe B) ⟨fun pos pins sh σ H Q I ⟨B', h⟩ => (hr.pa B').run pos pins sh σ H Q I h⟩ hs).run pos pins sh σ H Q I ?_
    obtain ⟨s, d, s', k, e, q⟩ := h
    obtain ⟨ds, s1, e1, e2⟩ := bnd_some e
    refine ⟨s, ds, s1, k, e1, fun a vs H1 k1 ev1 n nw hA r1 => ?_⟩
    obtain ⟨r, s2, e3, e4⟩ := bnd_some e2
    obtain ⟨rfl, rfl⟩ := ret_some e4
    refine ⟨B.plusO a (.lst vs), s1, r, s', k1.pin hA, e3, fun us H' Bf k2 ev2 pr => q _ H' Bf k2 (Ev.trans ev1 ev2) ⟨a, .lst vs, us, rfl, n, fun z => nw (.inl z), ⟨vs, rfl, ?_⟩, pr⟩⟩
    rw [pr.base.1]
    exact Rps.ev ev2 _ _ r1⟩⟩

def putAll : List Nat → List Sl → List (Option Sl) → Option (List (Option Sl))
  | [], [], env => some env
  | i :: is, sl :: r, env => if i < env.length then (putAll is r env).map fun env' => env'.set i (some sl) else none
  | _, _, _ => none
def setAll : List Nat → List V → Sg → Sg
  | i :: is, v :: vs, σ => (setAll is vs σ).set i (some v)
  | _, _, σ => σ
theorem putAll_len : ∀ {is : List Nat} {l : List Sl} {env env' : List (Option Sl)}, putAll is l env = some env' → env'.length = env.length
  | [], [], _, _, h => by cases h; rfl
  | i :: is, sl :: r, env, env', h => by
    unfold putAll at h
    split at h
    · obtain ⟨e1, h1, rfl⟩ := Option.map_eq_some_iff.mp h
      rw [List.length_set, putAll_len h1]
    · cases h
  | [], _ :: _, _, _, h => by simp [putAll] at h
  | _ :: _, [], _, _, h => by simp [putAll] at h
theorem put_all1 {σ : Sg} {H : Hp} {s : S} {Bf : Bs} (kf : StOk Bf σ H s) {is : List Nat} {r : List Sl} {B : Bs} {us t : List V} {env' : List (Option Sl)} {i : Nat} {sl : Sl} {a : Addr} {o : HO} (ho : sl.isOwn = true) (e0 : us = .ref a :: t) (n : B.H0 a = none) (nc : ¬ B.Wc a) (r1 : OwnR Bf.p (Bf.W s.env σ) H sl o)
    (ih : ∀ e1, putAll is r s.env = some e1 → StOk (B.plusO a o) (setAll is t σ) H ⟨e1, s.src⟩ ∧ Ev (Bf.W s.env σ) H ((B.plusO a o).W e1 (setAll is t σ)) H)
    (hb : Bf.p = (B.plusO a o).p ∧ Bf.c = (B.plusO a o).c ∧ (∀ b x, (B.plusO a o).H0 b = some x → Bf.H0 b = some x) ∧ (∀ b, (B.plusO a o).Wc b → Bf.Wc b)) (wp : B.Wc B.p) (wc : B.Wc B.c) (e : putAll (i :: is) (sl :: r) s.env = some env') :
    StOk B (setAll (i :: is) us σ) H ⟨env', s.src⟩ ∧ Ev (Bf.W s.env σ) H (B.W env' (setAll (i :: is) us σ)) H := by
  subst e0
  unfold putAll at e
  split at e
  · rename_i hl
    obtain ⟨e1, h1, rfl⟩ := Option.map_eq_some_iff.mp e
    obtain ⟨k, ev⟩ := ih e1 h1
    have hA : H a = some o := kf.keep a _ (hb.2.2.1 a _ upd_same) (by rw [hb.1]; exact fun z => nc (z ▸ wp)) (by rw [hb.2.1]; exact fun z => nc (z ▸ wc))
    have kk := k.finish n
    obtain ⟨k2, ev2⟩ := kk.putOwnS (i := i) (a := a) (o := o) (sl := sl) (by show i < e1.length; rw [putAll_len h1]; exact hl) ho n (by
      rintro (z | ⟨j, sl, z1, z2, z3⟩)
      · exact nc z
      · obtain ⟨b, o, y1, _, _, _, y5⟩ := kk.own j sl z1 z2
        rw [z3] at y1; cases y1
        exact y5 (.inr rfl)) wp wc hA (by
      have : Bf.p = B.p := hb.1
      rw [← this]; exact OwnR.ev ev _ _ r1)
    exact ⟨k2, Ev.trans ev ev2⟩
  · cases e
theorem put_all {σ : Sg} {H : Hp} {s : S} {Bf : Bs} (kf : StOk Bf σ H s) : ∀ {is : List Nat} {l : List Sl} {B : Bs} {us : List V} {env' : List (Option Sl)}, PendR σ H s Bf B l us → B.Wc B.p → B.Wc B.c → putAll is l s.env = some env' →
    StOk B (setAll is us σ) H ⟨env', s.src⟩ ∧ Ev (Bf.W s.env σ) H (B.W env' (setAll is us σ)) H
  | [], [], _, _, _, h, _, _, e => by
    obtain ⟨rfl, rfl⟩ := h
    cases e
    exact ⟨kf, Ev.refl⟩
  | i :: is, .val d :: r, B, _, env', ⟨v, t, e1, r1, h⟩, wp, wc, e => by
    subst e1
    unfold putAll at e
    split at e
    · rename_i hl
      obtain ⟨e1, h1, rfl⟩ := Option.map_eq_some_iff.mp e
      obtain ⟨k, ev⟩ := put_all kf h wp wc h1
      obtain ⟨k2, ev2⟩ := k.set (d := d) (v := v) (i := i) (by rw [putAll_len h1]; exact hl) (by rw [← h.base.1]; exact r1.ev ev)
      exact ⟨k2, ev.trans ev2⟩
    · cases e
  | i :: is, .own ds :: r, B, _, env', ⟨a, us, t, e1, n, nc, r1, h⟩, wp, wc, e => put_all1 kf rfl e1 n nc r1 (fun e1 h1 => put_all kf h (.inl wp) (.inl wc) h1) h.base wp wc e
  | i :: is, .ownK ks ds :: r, B, _, env', ⟨a, us, t, e1, n, nc, r1, h⟩, wp, wc, e => put_all1 kf rfl e1 n nc r1 (fun e1 h1 => put_all kf h (.inl wp) (.inl wc) h1) h.base wp wc e
  | i :: is, .ownT ks ds :: r, B, _, env', ⟨a, us, t, e1, n, nc, r1, h⟩, wp, wc, e => put_all1 kf rfl e1 n nc r1 (fun e1 h1 => put_all kf h (.inl wp) (.inl wc) h1) h.base wp wc e
  | [], _ :: _, _, _, _, _, _, _, e => by simp [putAll] at e
  | _ :: _, [], _, _, _, _, _, _, e => by simp [putAll] at e
theorem PendR.length {σ : Sg} {H : Hp} {s : S} {Bf : Bs} : ∀ {l : List Sl} {B : Bs} {us : List V}, PendR σ H s Bf B l us → us.length = l.length
  | [], _, _, h => by rw [h.1]; rfl
  | .val _ :: _, _, _, ⟨_, _, e, _, h⟩ => by rw [e]; simp [h.length]
  | .own _ :: _, _, _, ⟨_, _, _, e, _, _, _, h⟩ => by rw [e]; simp [h.length]
  | .ownK _ _ :: _, _, _, ⟨_, _, _, e, _, _, _, h⟩ => by rw [e]; simp [h.length]
  | .ownT _ _ :: _, _, _, ⟨_, _, _, e, _, _, _, h⟩ => by rw [e]; simp [h.length]
def sPar (is : List Nat) (ms : M (List Sl)) : M Out := bnd ms fun sls s => match putAll is sls s.env with
  | some env => some (.nx, ⟨env, s.src⟩)
  | none => none
theorem putAll_ilen : ∀ {is : List Nat} {l : List Sl} {env env' : List (Option Sl)}, putAll is l env = some env' → l.length = is.length
  | [], [], _, _, _ => rfl
  | i :: is, sl :: r, env, env', h => by
    unfold putAll at h
    split at h
    · obtain ⟨e1, h1, rfl⟩ := Option.map_eq_some_iff.mp h
      simp [putAll_ilen h1]
    · cases h
  | [], _ :: _, _, _, h => by simp [putAll] at h
  | _ :: _, [], _, _, h => by simp [putAll] at h
theorem par_go {B : Bs} {Dn : Ends} {σ : Sg} {H : Hp} {is : List Nat} (h : tS B (sPar is ms) Dn σ H) : tP B ms σ H fun vs H1 => vs.length = is.length ∧ ∀ H2, Same H1 H2 → Dn.nx (setAll is vs σ) H2 := by
  obtain ⟨s, o, s', k, e, q⟩ := h
  obtain ⟨sls, s1, e1, e2⟩ := bnd_some e
  split at e2
  · rename_i env he
    cases e2
    refine ⟨s, sls, s1, k, e1, fun vs H' Bf k1 ev1 pr => ⟨by rw [pr.length, putAll_ilen he], fun H2 sm => ?_⟩⟩
    obtain ⟨k2, ev2⟩ := put_all k1 pr k.wp k.wcc he
    exact q _ H2 (k2.same sm) (ev1.trans (ev2.trans (Ev.same sm)))
  · cases e2
theorem TP.imp {B : Bs} {σ : Sg} {H : Hp} {Q Q' : List V → Hp → Prop} (h : tP B ms σ H Q) (f : ∀ vs H', Q vs H' → Q' vs H') : tP B ms σ H Q' := by
  obtain ⟨s, sls, s', k, e, q⟩ := h
  exact ⟨s, sls, s', k, e, fun vs H' Bf k1 ev1 pr => f _ _ (q vs H' Bf k1 ev1 pr)⟩
theorem s_par2 {pos : Pos} {i j : Nat} {x y : Str} {a b : Expr} {px py pt : Pos} {kt k2 pt2} (hc : X.calm = true) (hN : X.N.Nodup) (hi : X.N[i]? = some x) (hj : X.N[j]? = some y) (hij : i ≠ j)
    (hx : X.env.scope.names.lookup x = some .local) (hy : X.env.scope.names.lookup y = some .local) (ha : SP X [a, b] ms)
    (hw : swappedStores [.Tuple [.Name x px, .Name y py] kt pt] (.Tuple [a, b] k2 pt2) X.env = pure (some [x, y]))
    (hs : swapsWithSole [.Tuple [.Name x px, .Name y py] kt pt] (.Tuple [a, b] k2 pt2) pos.line X.env = pure false := by rfl) :
    SS X (.Assign [.Tuple [.Name x px, .Name y py] kt pt] (.Tuple [a, b] k2 pt2) pos) (sPar [i, j] ms) := ⟨fun B => PS.imp (ps_par hc hN hi hj hij hx hy (ha.pa B) hw hs) fun D σ H h => by
  refine TP.imp (par_go h) fun vs H1 ⟨hl, q⟩ => ?_
  match vs, hl with
  | [v, w], _ =>
    refine ⟨v, w, rfl, ?_⟩
    have q := q H1 (Same.refl _)
    simp only [setAll] at q
    rw [List.set_comm _ _ (Ne.symm hij)] at q
    exact q⟩
theorem s_par3 {pos : Pos} {i j l : Nat} {x y z : Str} {a b c : Expr} {px py pz pt : Pos} {kt k2 pt2} (hc : X.calm = true) (hN : X.N.Nodup) (hi : X.N[i]? = some x) (hj : X.N[j]? = some y) (hl : X.N[l]? = some z) (hij : i ≠ j) (hil : i ≠ l) (hjl : j ≠ l)
    (hx : X.env.scope.names.lookup x = some .local) (hy : X.env.scope.names.lookup y = some .local) (hz : X.env.scope.names.lookup z = some .local) (ha : SP X [a, b, c] ms)
    (hw : swappedStores [.Tuple [.Name x px, .Name y py, .Name z pz] kt pt] (.Tuple [a, b, c] k2 pt2) X.env = pure (some [x, y, z]))
    (hs : swapsWithSole [.Tuple [.Name x px, .Name y py, .Name z pz] kt pt] (.Tuple [a, b, c] k2 pt2) pos.line X.env = pure false := by rfl) :
    SS X (.Assign [.Tuple [.Name x px, .Name y py, .Name z pz] kt pt] (.Tuple [a, b, c] k2 pt2) pos) (sPar [i, j, l] ms) := ⟨fun B => PS.imp (ps_par3 hc hN hi hj hl hij hil hjl hx hy hz (ha.pa B) hw hs) fun D σ H h => by
  refine TP.imp (par_go h) fun vs H1 ⟨hl, q⟩ => ?_
  match vs, hl with
  | [u, v, w], _ =>
    refine ⟨u, v, w, rfl, ?_⟩
    have q := q H1 (Same.refl _)
    simp only [setAll] at q
    rw [List.set_comm (some v) (some u) (Ne.symm hij), List.set_comm (some w) (some u) (Ne.symm hil), List.set_comm (some w) (some v) (Ne.symm hjl)] at q
    exact q⟩
/-- names, however many, by way of the tuple -/
def gNames : List Nat → TGs
  | [] => L2.gNil
  | i :: is => L2.gCons (gName i) (gNames is)
theorem gNames_of : ∀ {is : List Nat} {vs : List V} {σ : Sg} {H : Hp} {Q : Sg → Hp → Prop}, is.Nodup → vs.length = is.length → Q (setAll is vs σ) H → gNames is vs σ H Q
  | [], [], _, _, _, _, _, q => ⟨rfl, q⟩
  | i :: is, v :: vs, σ, H, Q, nd, hl, q => by
    refine ⟨v, vs, rfl, ?_⟩
    have nd' := List.nodup_cons.mp nd
    refine gNames_of nd'.2 (by simpa using hl) ?_
    have : ∀ (js : List Nat) (us : List V), i ∉ js → setAll js us (σ.set i (some v)) = (setAll js us σ).set i (some v) := fun js => by
      induction js with
      | nil => intro us _; cases us <;> rfl
      | cons j js ih =>
        intro us hn
        cases us with
        | nil => rfl
        | cons u us =>
          simp only [setAll]
          rw [ih us (fun z => hn (List.mem_cons_of_mem _ z)), List.set_comm _ _ (fun z : i = j => hn (by rw [z]; exact List.mem_cons_self))]
    rw [this is vs nd'.1]
    exact q
  | [], _ :: _, _, _, _, _, hl, _ => by simp at hl
  | _ :: _, [], _, _, _, _, hl, _ => by simp at hl
theorem s_parT {pos : Pos} {is : List Nat} {tgs es : List Expr} {pt : Pos} {kt k2 pt2} (hc : X.calm = true) (nd : is.Nodup) (ht : PGs X tgs (gNames is)) (ha : SP X es ms) (hn : (assignEach tgs X.env).length = is.length := by rfl) (hst : (assignEach tgs X.env).findIdx? (·.1) = none := by rfl) (hz : is.length ≤ 30 := by decide)
    (hs : swapsWithSole [.Tuple tgs kt pt] (.Tuple es k2 pt2) pos.line X.env = pure false := by rfl) (hw : swappedStores [.Tuple tgs kt pt] (.Tuple es k2 pt2) X.env = pure none := by rfl)
    (h1 : (assignEach [.Tuple tgs kt pt] X.env).map (·.2) = [assign (.Tuple tgs kt pt) X.env] := by rfl) :
    SS X (.Assign [.Tuple tgs kt pt] (.Tuple es k2 pt2) pos) (sPar is ms) := ⟨fun B => PS.imp (ps_asg (pe_tup (ha.pa B)) (pg_tup hc ht hn hst) hs hw h1) fun D σ H h => by
  refine TP.imp (par_go h) fun vs H1 ⟨hl, q⟩ => ⟨by have := line63; unfold sizeLine at *; omega, fun p np => ?_⟩
  refine ⟨p, vs, rfl, SqT.of upd_same, hl, gNames_of nd hl (q _ (same_new np))⟩⟩
theorem pgs_name {is : List Nat} {i : Nat} {x : Str} {tgs : List Expr} {p : Pos} (hN : X.N.Nodup) (hi : X.N[i]? = some x) (hx : Loc X.env.scope x) (h : PGs X tgs (gNames is)) (hs : (assignEach (.Name x p :: tgs) X.env).map (·.2) = assign (.Name x p) X.env :: (assignEach tgs X.env).map (·.2) := by rfl) (hf : X.fn x = true ∨ X.env.scope.names.lookup x = some .local := by first | exact .inl rfl | exact .inr rfl | assumption) : PGs X (.Name x p :: tgs) (gNames (i :: is)) :=
  pgs_cons (pg_name hN hi hx hf) h hs
theorem pgs_none : PGs X [] (gNames []) := L2.pgs_nil

def rBL (f : D → D → Option (List D)) : R2 := fun x y H Q => ∃ p W dx dy es, WT W H ∧ Rp p W H dx x ∧ Rp p W H dy y ∧ f dx dy = some es ∧
  ∀ a us H', Same H H' → H a = none → H' a = some (.lst us) → Rps p W H es us → Q (.ref a) H'
def eBinL (f : D → D → Option (List D)) (ma mb : M D) : M (List D) := bnd ma fun x => bnd mb fun y => lift (f x y)
theorem binL_go {B : Bs} {f : D → D → Option (List D)} {σ : Sg} {H : Hp} {Q : VK} {ma mb : M D} (h : tL B (eBinL f ma mb) σ H Q) : tOp (rBL f) (tI B ma) (tI B mb) σ H Q := by
  obtain ⟨s, d, s', k, e, q⟩ := h
  refine tI.bind k e fun dx s1 x H1 h1 e1 k1 ev1 r1 => ?_
  refine tI.bind k1 e1 fun dy s2 y H2 h2 e2 k2 ev2 r2 => ?_
  obtain ⟨e3, rfl⟩ := lift_some e2
  refine ⟨B.p, _, dx, dy, d, k2.wt, r1.ev ev2, r2, e3, fun a us H' sm n ha r => ?_⟩
  obtain ⟨kp, ev3, r3⟩ := k2.newList sm n ha r
  exact q a us H' kp ((ev1.trans ev2).trans ev3) (k2.new n) (k2.wt.new n) ha r3
theorem l_bin {op : Operator} {f : D → D → Option (List D)} {a b : Expr} {ma mb : M D} {pos : Pos} (ho : OpR X (binaryOp op) (rBL f)) (ha : SE X a ma) (hb : SE X b mb) : SL X (.BinOp a op b pos) (eBinL f ma mb) :=
  ⟨fun B => PE.imp (pe_op ho (ha.pe B) (hb.pe B)) fun σ H Q h => binL_go h⟩
def addLD : D → D → Option (List D)
  | .lst a, .lst b => if a.length + b.length ≤ sizeLine then some (a ++ b) else none
  | _, _ => none
def mulLD : D → D → Option (List D)
  | .lst a, .int k => if -(2 ^ 63) ≤ k ∧ k < 2 ^ 63 ∧ a.length * k.toNat ≤ sizeLine then some (List.replicate k.toNat a).flatten else none
  | _, _ => none
theorem opL_cases {g : Value → Value → Sem Value} {f : D → D → Option (List D)} (h : ∀ dx dy es p W, f dx dy = some es → OpR X g (fun x y H Q => WT W H ∧ Rp p W H dx x ∧ Rp p W H dy y ∧ ∀ a us H', Same H H' → H a = none → H' a = some (.lst us) → Rps p W H es us → Q (.ref a) H')) : OpR X g (rBL f) := by
  intro pins s σ H x y v u Q I rx ry ⟨p, W, dx, dy, d, hw, hx, hy, he, hq⟩
  exact h dx dy d p W he pins s σ H x y v u Q I rx ry ⟨hw, hx, hy, hq⟩
theorem ol_add : OpR X (binaryOp .Add) (rBL addLD) := opL_cases fun dx dy d p W he => by
  unfold addLD at he
  split at he
  · split at he
    · cases he
      rename_i as bs hl
      refine OpR.imp op_cat fun x y H Q ⟨hw, hx, hy, hq⟩ => ?_
      obtain ⟨a, vs, rfl, na, ha, ra⟩ := rp_lst hx
      obtain ⟨b, us, rfl, nb, hb, rb⟩ := rp_lst hy
      exact ⟨a, b, vs, us, rfl, rfl, ha, hb, by rw [← ra.length, ← rb.length]; exact hl, fun q nq => hq _ _ _ (same_new nq) nq upd_same (ra.append rb)⟩
    · cases he
  · cases he
theorem ol_mul : OpR X (binaryOp .Mult) (rBL mulLD) := opL_cases fun dx dy d p W he => by
  unfold mulLD at he
  split at he
  · split at he
    · cases he
      rename_i as k hl
      refine OpR.imp op_rep fun x y H Q ⟨hw, hx, hy, hq⟩ => ?_
      obtain ⟨a, vs, rfl, na, ha, ra⟩ := rp_lst hx
      exact ⟨a, k, vs, rfl, rp_int hy, ha, hl.1, hl.2.1, by rw [← ra.length]; exact hl.2.2, fun q nq => hq _ _ _ (same_new nq) nq upd_same (rps_rep ra _)⟩
    · cases he
  · cases he
end
end GH

namespace GH
open PySem PySem.Spec PyProof.Rows L2

section
variable {X : Cx}
def itemsD : D → Option (List D)
  | .lst ds => some ds
  | .tup ds => some ds
  | _ => none
def okIn (x : D) (ds : List D) : Prop := SeqAt.shaped x.py = true ∧ (SeqAt.shaped (PyData.list (D.pys ds)) = true ∧ PyData.canLayAll0 (D.pys ds) = true)
instance (x : D) (ds : List D) : Decidable (okIn x ds) := by unfold okIn; infer_instance
def memD (x : D) (ds : List D) : Bool := (D.pys ds).any fun z => PyData.eqv z x.py
def inD (x y : D) : Option D := match x, y with
  | .int i, .rng lo hi => some (.bl (decide (lo ≤ i ∧ i < hi)))
  | x, .lst ds => if okIn x ds then some (.bl (memD x ds)) else none
  | x, .tup ds => if okIn x ds then some (.bl (memD x ds)) else none
  | _, _ => none
def ninD (x y : D) : Option D := match x, y with
  | x, .lst ds => if okIn x ds then some (.bl (!memD x ds)) else none
  | x, .tup ds => if okIn x ds then some (.bl (!memD x ds)) else none
  | _, _ => none
theorem in_go {neg : Bool} {x : D} {ds : List D} {p : Addr} {W : AP} (hu : X.A.units + 65 < cLine) (h : okIn x ds) (tup : Bool) : OpR X (compareOp (if neg then .NotIn else .In)) (fun u v H Q => WT W H ∧ Rp p W H x u ∧ Rp p W H (if tup then .tup ds else .lst ds) v ∧ Q (.bl (if neg then !memD x ds else memD x ds)) H) := by
  intro pins s σ H u v uv vv Q I ru rv ⟨hw, hx, hy, q⟩
  obtain ⟨as, r1⟩ := Dp.reads I x.py u uv (hx.dp _ _ (SeqAt.canLay_of_shaped h.1)) ru
  cases tup with
  | false =>
    obtain ⟨bs, r2⟩ := Dp.reads I (.list (D.pys ds)) v vv (by
      have := hy.dp (K := X.K) (.lst ds) v (by simp only [D.py]; exact SeqAt.canLay_of_shaped h.2.1)
      simpa only [D.py] using this) rv
    cases neg with
    | false => exact SeqAt.in_list_reads r2 r1 h.2.2 (SeqAt.canLay_of_shaped h.1) (room_in_shaped h.1 hu) ⟨.bl _, H, I, rfl, q⟩
    | true => exact SeqAt.notIn_list_reads r2 r1 h.2.2 (SeqAt.canLay_of_shaped h.1) (room_in_shaped h.1 hu) ⟨.bl _, H, I, rfl, q⟩
  | true =>
    obtain ⟨bs, r2⟩ := Dp.reads I (.tuple (D.pys ds)) v vv (by
      have := hy.dp (K := X.K) (.tup ds) v (by simp only [D.py, PyData.canLay0]; exact h.2.2)
      simpa only [D.py] using this) rv
    cases neg with
    | false => exact SeqAt.in_tuple_reads r2 r1 h.2.2 (SeqAt.canLay_of_shaped h.1) (room_in_shaped h.1 hu) ⟨.bl _, H, I, rfl, q⟩
    | true => exact SeqAt.notIn_tuple_reads r2 r1 h.2.2 (SeqAt.canLay_of_shaped h.1) (room_in_shaped h.1 hu) ⟨.bl _, H, I, rfl, q⟩
theorem od_in (hu : X.A.units + 65 < cLine) : OpD X (compareOp .In) inD := opD_cases fun dx dy d p W he => by
  unfold inD at he
  split at he
  · cases he
    refine OpR.imp op_in_rng fun x y H Q ⟨hw, hx, hy, hq⟩ => ?_
    obtain ⟨a, rfl, _, ha⟩ := rp_rng hy
    exact ⟨_, a, _, _, rp_int hx, rfl, ha, hq _ _ (Same.refl H) (.mkBl _)⟩
  · split at he
    · cases he
      rename_i hk
      exact OpR.imp (in_go (neg := false) (p := p) (W := W) hu hk false) fun x y H Q ⟨hw, hx, hy, hq⟩ => ⟨hw, hx, hy, hq _ _ (Same.refl H) (.mkBl _)⟩
    · cases he
  · split at he
    · cases he
      rename_i hk
      exact OpR.imp (in_go (neg := false) (p := p) (W := W) hu hk true) fun x y H Q ⟨hw, hx, hy, hq⟩ => ⟨hw, hx, hy, hq _ _ (Same.refl H) (.mkBl _)⟩
    · cases he
  · cases he
theorem od_nin (hu : X.A.units + 65 < cLine) : OpD X (compareOp .NotIn) ninD := opD_cases fun dx dy d p W he => by
  unfold ninD at he
  split at he
  · split at he
    · cases he
      rename_i hk
      exact OpR.imp (in_go (neg := true) (p := p) (W := W) hu hk false) fun x y H Q ⟨hw, hx, hy, hq⟩ => ⟨hw, hx, hy, hq _ _ (Same.refl H) (.mkBl _)⟩
    · cases he
  · split at he
    · cases he
      rename_i hk
      exact OpR.imp (in_go (neg := true) (p := p) (W := W) hu hk true) fun x y H Q ⟨hw, hx, hy, hq⟩ => ⟨hw, hx, hy, hq _ _ (Same.refl H) (.mkBl _)⟩
    · cases he
  · cases he

variable {a b c e : Expr} {es : List Expr} {pos p : Pos} {ma mb mc m : M D} {ms : M (List D)}
def eChain (f g : D → D → Option D) (ma mb mc : M D) : M D := bnd ma fun x => bnd mb fun y => bnd (lift (f x y)) fun z => match z with
  | .bl true => bnd mc fun w => lift (g y w)
  | .bl false => ret (.bl false)
  | _ => fail
theorem chain_go {B : Bs} {f g : D → D → Option D} {σ : Sg} {H : Hp} {Q : VK} (h : tI B (eChain f g ma mb mc) σ H Q) : tChain (rB f) (rB g) (tI B ma) (tI B mb) (tI B mc) σ H Q := by
  obtain ⟨s, d, s', k, e, q⟩ := h
  refine tI.bind k e fun dx s1 x H1 h1 e1 k1 ev1 r1 => ?_
  refine tI.bind k1 e1 fun dy s2 y H2 h2 e2 k2 ev2 r2 => ?_
  obtain ⟨z, s3, e3, e4⟩ := bnd_some e2
  obtain ⟨e5, rfl⟩ := lift_some e3
  refine ⟨B.p, _, dx, dy, z, k2.wt, r1.ev ev2, r2, e5, fun v H3 sm r3 => ?_⟩
  have k3 := k2.same sm
  have ev3 := (ev1.trans ev2).trans (Ev.same (W := B.W s3.env σ) sm)
  split at e4
  · refine ⟨true, rp_bl r3, ?_⟩
    rw [if_pos rfl]
    refine tI.bind k3 e4 fun dw s4 w H4 h4 e6 k4 ev4 r4 => ?_
    obtain ⟨e7, rfl⟩ := lift_some e6
    exact ⟨B.p, _, dy, dw, d, k4.wt, (r2.ev (Ev.same sm)).ev ev4, r4, e7, fun v H' sm r => q v H' (k4.same sm) ((ev3.trans ev4).trans (Ev.same sm)) r⟩
  · refine ⟨false, rp_bl r3, ?_⟩
    rw [if_neg (by decide)]
    obtain ⟨rfl, rfl⟩ := ret_some e4
    exact q _ H3 k3 ev3 (.mkBl _)
  · cases e4
theorem s_chain {op op' : CmpOp} {f g : D → D → Option D} (ho : OpD X (compareOp op) f) (ho' : OpD X (compareOp op') g) (ha : SE X a ma) (hb : SE X b mb) (hc : SE X c mc) (hm : lastMarks [op, op'] [b, c] = false := by with_unfolding_all rfl) : SE X (.Compare a [op, op'] [b, c] pos) (eChain f g ma mb mc) :=
  ⟨fun B => PE.imp (pe_chain ho ho' (ha.pe B) (hb.pe B) (hc.pe B) hm) fun σ H Q h => chain_go h⟩
theorem t_chain {op op' : CmpOp} {f g : D → D → Option D} (ho : OpD X (compareOp op) f) (ho' : OpD X (compareOp op') g) (ha : SE X a ma) (hb : SE X b mb) (hc : SE X c mc) (hm : lastMarks [op, op'] [b, c] = false := by with_unfolding_all rfl) : ST X (.Compare a [op, op'] [b, c] pos) (tst (eChain f g ma mb mc)) :=
  ⟨fun B => PT.imp (pt_chain ho ho' (ha.pe B) (hb.pe B) (hc.pe B) hm) fun σ H Q ⟨s, b', s', k, e, q⟩ => by
    obtain ⟨d, s1, h1, h2⟩ := bnd_some e
    cases d <;> simp only [fail] at h2 <;> try (cases h2; done)
    obtain ⟨rfl, rfl⟩ := ret_some h2
    refine chain_go ⟨s, _, _, k, h1, fun v H' k' ev r => ⟨_, rp_bl r, q H' k' ev⟩⟩⟩

def tyD : D → Option String
  | .non => some "NoneType"
  | .bl _ => some "bool"
  | .int _ => some "int"
  | .str _ => some "str"
  | .tup _ => some "tuple"
  | .lst _ => some "list"
  | .dct _ _ => some "dict"
  | _ => none
def isiD (T : String) (d : D) : Option D := (tyD d).bind fun t => (kitB t T).map .bl
theorem Rp.ty {p : Addr} {W : AP} {H : Hp} {K : PySem.W.Frag} {d : D} {v : V} {t : String} (r : Rp p W H d v) (h : tyD d = some t) : TyX K H v (.type t) := by
  cases d <;> simp only [tyD] at h <;> cases h
  · rw [rp_non r]; exact .base .non
  · rw [rp_bl r]; exact .base (.bl _)
  · rw [rp_int r]; exact .base (.int _)
  · rw [rp_str r]; exact .base (.str _)
  · obtain ⟨a, vs, rfl, _, ha, _⟩ := rp_tup r; exact .base (.tup ha)
  · obtain ⟨a, vs, rfl, _, ha, _⟩ := rp_lst r; exact .base (.lst ha)
  · simp only [Rp] at r
    obtain ⟨a, kvs, rfl, _, ha, _⟩ := r
    rcases ha with ha | ⟨o, ha⟩
    · exact .base (.dK ha)
    · exact .fDict ha
theorem s_isi {T : String} {x : Str} {p2 : Pos} (hg : Gl X "isinstance") (hm : X.mg "isinstance" = none) (ha : SE X e ma) (hg2 : Gl X x) (hm2 : X.mg x = none) (hv2 : bootBuiltins x = some (.type T)) (hn2 : x ≠ "__name__" := by decide) (hd2 : (x == ("__debug__" : Str)) = false := by decide)
    (na : starEach [e, .Name x p2] X.env = (false, eval e X.env) :: starEach [.Name x p2] X.env := by rfl) (nb : starEach [.Name x p2] X.env = (false, eval (.Name x p2) X.env) :: starEach [] X.env := by rfl)
    (hpl : (backTo pos (starEach [.Name x p2] X.env)).any (·.1) = false := by rfl) : SE X (.Call (.Name "isinstance" p) [e, .Name x p2] [] pos) (eUn (isiD T) ma) :=
  ⟨fun B => PE.imp (pe_callB call_isi hg hm boot_isinstance (pa_cons (ha.pe B) (pa_cons (pe_bltn (v := .ty T) hg2 hm2 hv2 rfl hn2 hd2) pa_nil nb) na) (by decide) (by decide) na hpl) fun σ H Q ⟨s, d, s', k, e, q⟩ => by
    refine tI.bind k e fun dx s1 u H1 h1 e1 k1 ev1 r1 => ?_
    obtain ⟨e3, rfl⟩ := lift_some e1
    unfold isiD at e3
    obtain ⟨t, ht, e4⟩ := Option.bind_eq_some_iff.mp e3
    obtain ⟨b, hb, rfl⟩ := Option.map_eq_some_iff.mp e4
    exact ⟨u, .ty T, .type t, .type T, b, rfl, .ty T, r1.ty ht, kit_ty hb, q _ H1 k1 ev1 (.mkBl _)⟩⟩

/-- data without dicts -/
def D.plain : D → Bool
  | .rng _ _ => false
  | .src => false
  | .dct _ _ => false
  | .dtt _ _ => false
  | _ => true
def okRepr (d : D) : Prop := d.py.canLay0 = true ∧ d.py.showable = true ∧ d.py.hasDict = false ∧ d.py.depth ≤ 60 ∧ d.py.shown.length ≤ sizeLine
instance (d : D) : Decidable (okRepr d) := by unfold okRepr; infer_instance
def reprG : List D → Option D
  | [.int i] => if i.natAbs.log2 < 1920 then some (.str (toString i : String)) else none
  | [.bl b] => some (.str (if b = true then "True" else "False"))
  | [.non] => some (.str "None")
  | [.tup ds] => if okRepr (.tup ds) then some (.str (D.tup ds).py.shown) else none
  | [.lst ds] => if okRepr (.lst ds) then some (.str (D.lst ds).py.shown) else none
  | _ => none
theorem repr_ref {k : Nat} (hr : RG k X.A) {p : Addr} {W : AP} (d : D) (hk : okRepr d) : CallR X (.builtin "repr") (fun vs H Q => ∃ a, vs = [.ref a] ∧ Rp p W H d (.ref a) ∧ Q (.str d.py.shown) H) := by
  intro pins s σ H xs us Q I r ⟨a, e, rd, q⟩
  subst e
  obtain ⟨u, rfl, ru⟩ := r.one
  cases ru
  obtain ⟨h1, h2, h3, h4, h5⟩ := hk
  obtain ⟨as, rr⟩ := Dp.reads I d.py (.ref a) (.ref a) (rd.dp _ _ h1) rfl
  have hu := hr.r.units
  refine PySem.repr_of_reads' rr h2 (fun z => by rw [h3] at z; cases z) hr.g (by omega) (fun _ _ z => z) (fun h' u tk hk => ?_) h5
  exact ⟨.str _, H, I.kept (t' := tk) hk, ⟨_, rfl⟩, q⟩
theorem c_repr {k : Nat} (hr : RG k X.A) : CallD X (.builtin "repr") reprG := callD_cases fun ds d p W he => by
  unfold reprG at he
  split at he
  · split at he
    · rename_i hz
      cases he
      refine CallR.imp SkE.call_repr_int fun vs H Q ⟨hw, hx, hq⟩ => ?_
      obtain ⟨v, rfl, r⟩ := rps1 hx
      exact ⟨_, by rw [rp_int r], hz, hq _ _ (Same.refl H) (.mkStr _)⟩
    · cases he
  · cases he
    intro pins s σ H xs us Q I r ⟨hw, hx, hq⟩
    obtain ⟨v, rfl, rv⟩ := rps1 hx
    rw [rp_bl rv] at r
    obtain ⟨u, rfl, ru⟩ := r.one
    cases ru
    exact P.repr_of_bool ⟨.str _, H, I.tok _, ⟨_, rfl⟩, hq _ _ (Same.refl H) (.mkStr _)⟩
  · cases he
    intro pins s σ H xs us Q I r ⟨hw, hx, hq⟩
    obtain ⟨v, rfl, rv⟩ := rps1 hx
    rw [rp_non rv] at r
    obtain ⟨u, rfl, ru⟩ := r.one
    cases ru
    exact P.repr_of_none ⟨.str _, H, I.tok _, ⟨_, rfl⟩, hq _ _ (Same.refl H) (.mkStr _)⟩
  · split at he
    · rename_i hz
      cases he
      refine CallR.imp (repr_ref (p := p) (W := W) hr _ hz) fun vs H Q ⟨hw, hx, hq⟩ => ?_
      obtain ⟨v, rfl, r⟩ := rps1 hx
      obtain ⟨a, us, rfl, _⟩ := rp_tup r
      exact ⟨a, rfl, r, hq _ _ (Same.refl H) (.mkStr _)⟩
    · cases he
  · split at he
    · rename_i hz
      cases he
      refine CallR.imp (repr_ref (p := p) (W := W) hr _ hz) fun vs H Q ⟨hw, hx, hq⟩ => ?_
      obtain ⟨v, rfl, r⟩ := rps1 hx
      obtain ⟨a, us, rfl, _⟩ := rp_lst r
      exact ⟨a, rfl, r, hq _ _ (Same.refl H) (.mkStr _)⟩
    · cases he
  · cases he

def sAug (i : Nat) (f : Int → Int → Int) (m : M D) : M Out := fun s0 => match s0.env[i]? with
  | some (some (.val x)) => bnd m (fun d => bnd (lift (augI f x d)) fun z => bnd (gN i z) fun _ => ret .nx) s0
  | _ => none
theorem s_aug {op : Operator} {f : Int → Int → Int} {i : Nat} {x : Str} {pos' : Pos} (hN : X.N.Nodup) (hi : X.N[i]? = some x) (hx : Loc X.env.scope x) (he : SE X e m) (ho : PIp X op (ipI f)) (hf : X.fn x = true ∨ X.env.scope.names.lookup x = some .local := by first | exact .inl rfl | exact .inr rfl | assumption) : SS X (.AugAssign (.Name x pos') op e pos) (sAug i f m) :=
  ⟨fun B => PS.imp (ps_aug hN hi hx (he.pe B) ho hf) fun D σ H ⟨s, o, s', k, e, q⟩ => by
    unfold sAug at e
    split at e
    · rename_i dx hd
      obtain ⟨v, h1, h2⟩ := k.val i dx hd
      refine ⟨v, h1, ?_⟩
      refine tI.bind k e fun d s1 u H1 h3 e1 k1 ev1 r1 => ?_
      obtain ⟨z, s2, e2, e3⟩ := bnd_some e1
      obtain ⟨e4, rfl⟩ := lift_some e2
      obtain ⟨xi, yi, rfl, rfl, rfl⟩ := augI_some e4
      refine ⟨xi, yi, rp_int h2, rp_int r1, ?_⟩
      obtain ⟨_, s3, e5, e6⟩ := bnd_some e3
      obtain ⟨rfl, rfl⟩ := ret_some e6
      unfold gN at e5
      split at e5
      · rename_i hl
        cases e5
        obtain ⟨k', ev⟩ := k1.set hl (.mkInt (f xi yi))
        exact q _ H1 k' (ev1.trans ev)
      · cases e5
    · cases e⟩

def rngDn (hi lo : Int) : List D := (List.range (hi - lo).toNat).map fun i => .int (hi - (i : Nat))
def iRgDn (ma mb mc : M D) : M (List D) := bnd ma fun d => bnd mb fun e => bnd mc fun f => match d, e, f with
  | .int i, .int j, .int c => if okR i ∧ okR j ∧ c = -1 then ret (rngDn i j) else fail
  | _, _, _ => fail
theorem walk_dn {p : Addr} {W : AP} {H : Hp} {hi lo : Int} : WalkD p W H (Itc hi (-1) (hi - lo).toNat) (rngDn hi lo) := fun W2 H2 ev wt => by
  have hl : (rngDn hi lo).length = (hi - lo).toNat := by simp [rngDn]
  refine ⟨fun i h => by show i < _; omega, by show _ ≤ _; omega, fun i d x H3 hd y => ?_⟩
  obtain ⟨e, hx⟩ := y
  subst e
  subst hx
  refine ⟨Same.refl _, ?_⟩
  have hi' : i < (hi - lo).toNat := by have := (List.getElem?_eq_some_iff.mp hd).1; omega
  unfold rngDn at hd
  rw [List.getElem?_map, List.getElem?_range hi'] at hd
  cases hd
  have e : hi + ((i : Nat) : Int) * -1 = hi - ((i : Nat) : Int) := by omega
  rw [e]
  exact .mkInt _
theorem i_rgDn {tg : Expr} (hg : Gl X "range") (hm : X.mg "range" = none) (ha : SE X a ma) (hb : SE X b mb) (hc : SE X c mc) (hs : starEach [a, b, c] X.env = (false, eval a X.env) :: starEach [b, c] X.env := by rfl) (hs2 : starEach [b, c] X.env = (false, eval b X.env) :: starEach [c] X.env := by rfl) (hs3 : starEach [c] X.env = (false, eval c X.env) :: starEach [] X.env := by rfl)
    (hpl : (backTo pos (starEach [b, c] X.env)).any (·.1) = false := by rfl) : SI X tg (.Call (.Name "range" p) [a, b, c] [] pos) (iRgDn ma mb mc) :=
  ⟨fun B => PI.imp (pi_range3 hg hm (pa_cons (ha.pe B) (pa_cons (hb.pe B) (pa_cons (hc.pe B) pa_nil hs3) hs2) hs) hs hpl) fun σ H R ⟨s, ds, s', k, e, q⟩ => by
    refine tI.bind k e fun d s1 v H1 h1 e1 k1 ev1 r1 => ?_
    refine tI.bind k1 e1 fun d2 s2 v2 H2 h2 e2 k2 ev2 r2 => ?_
    refine tI.bind k2 e2 fun d3 s3 v3 H3 h3 e3 k3 ev3 r3 => ?_
    split at e3
    · rename_i i j c
      split at e3
      · rename_i hk
        obtain ⟨h4, h5, rfl⟩ := hk
        obtain ⟨rfl, rfl⟩ := ret_some e3
        exact ⟨i, j, -1, _, by rw [rp_int r1, rp_int r2, rp_int r3], RgC.neg h4.1 h4.2 h5.1 h5.2, q _ H3 k3 (ev1.trans (ev2.trans ev3)) walk_dn⟩
      · cases e3
    · cases e3⟩
end
end GH

namespace GH
open PySem PySem.Spec PyProof.Rows L2

theorem fm_congr {α β : Type} {f g : α → Option β} : ∀ {l : List α}, (∀ x ∈ l, f x = g x) → l.filterMap f = l.filterMap g
  | [], _ => rfl
  | a :: l, h => by
    rw [List.filterMap_cons, List.filterMap_cons, h a List.mem_cons_self, fm_congr fun x hx => h x (List.mem_cons_of_mem _ hx)]
section
variable {prog : Program} {w : World} {A : Around} {E : Value → Shared → Prop} {s : Shared}
theorem back_places (n : Nat) : Builtin.Slice.slicePlaces ((n : Int) - 1) (-1) (-1) = n := by
  unfold Builtin.Slice.slicePlaces
  rw [if_neg (by decide)]
  by_cases h : (n : Int) - 1 > -1
  · rw [if_pos h]
    have : (-(-1) : Int) = 1 := by decide
    rw [this, Int.ediv_one]
    omega
  · rw [if_neg h]
    omega
theorem back_applied {sl : Addr} {vs : Value} {n : Nat} {Q : Int × Int × Nat → Shared → Prop} (hs : s.heap.IsSliceOf sl .none .none vs) (pv : IsPart vs (some (-1))) (h : Q ((n : Int) - 1, -1, n) s) :
    wpAny (model prog w) A (Builtin.Slice.sliceApplied (.ref sl) (pure (n : Int))) Q E s := by
  obtain ⟨os, hos, hcs, hds⟩ := id hs
  unfold Builtin.Slice.sliceApplied
  unfold Builtin.Slice.sliceFields
  refine wpAny_bind (wpAny_bind (wpAny_field hos hds (x := .none) rfl ?_))
  refine wpAny_bind (wpAny_field hos hds (x := .none) rfl ?_)
  refine wpAny_bind (wpAny_field hos hds (x := vs) rfl (wpAny_pure ?_))
  refine wpAny_bind (HT.slicePart_ pv ?_)
  show wpAny _ _ (if ((-1 : Int) == 0) = true then _ else _) _ _ s
  rw [if_neg (by decide)]
  refine wpAny_bind (HT.slicePart_ .none (wpAny_bind ?_))
  refine HT.slicePart_ .none ?_
  refine wpAny_bind (wpAny_pure ?_)
  have e : Builtin.Slice.sliceAdjust none none (-1) (n : Int) = ((n : Int) - 1, -1) := rfl
  show wpAny _ _ (match Builtin.Slice.sliceAdjust none none (-1) (n : Int) with | (lo, hi) => pure (lo, (-1 : Int), Builtin.Slice.slicePlaces lo hi (-1))) _ _ s
  rw [e]
  show wpAny _ _ (pure ((n : Int) - 1, (-1 : Int), Builtin.Slice.slicePlaces ((n : Int) - 1) (-1) (-1))) _ _ s
  rw [back_places]
  exact wpAny_pure h
theorem back_pick (xs : Array Value) : ((List.range xs.size).filterMap fun (m : Nat) => xs[((xs.size : Int) - 1 + (m : Int) * -1).toNat]?).toArray = xs.toList.reverse.toArray := by
  congr 1
  have key : ∀ l : List Value, ((List.range l.length).filterMap fun (m : Nat) => l[((l.length : Int) - 1 + (m : Int) * -1).toNat]?) = l.reverse := fun l => by
    have e1 : ((List.range l.length).filterMap fun (m : Nat) => l[((l.length : Int) - 1 + (m : Int) * -1).toNat]?) = (List.range l.length).filterMap fun m => l.reverse[m]? := by
      refine fm_congr fun m hm => ?_
      have hm := List.mem_range.mp hm
      rw [List.getElem?_reverse hm]
      congr 1
      omega
    rw [e1]
    have := PySem.W.krv_all l.reverse.toArray
    simpa using this
  have := key xs.toList
  simpa using this
theorem tup_back {t sl : Addr} {items : Array Value} {vs : Value} {Q : Value → Shared → Prop} (ht : IsTup s.heap t items) (hs : s.heap.IsSliceOf sl .none .none vs) (pv : IsPart vs (some (-1)))
    (h : Q (.ref s.heap.objs.size) { s with heap := s.heap.push { cls := .type "tuple", data := .seq items.toList.reverse.toArray } }) (hsz : items.size ≤ sizeLine) : wpAny (model prog w) A (getItem (.ref t) (.ref sl)) Q E s := by
  have hfit : sizeOk (.seq items.toList.reverse.toArray) := by
    show items.toList.reverse.toArray.size ≤ sizeLine
    simpa using hsz
  obtain ⟨os, hos, hcs, hds⟩ := id hs
  have hTs : s.TypeIs (.ref sl) "slice" := ⟨os, hos, hcs⟩
  unfold getItem
  try with_reducible refine wpAny_holding ?_
  first | refine wpAny_bind (wpAny_pure ?_) | skip
  refine wpAny_bind (wpAny_sequenceKey ht.typeIs (by decide) ?_)
  refine wpAny_bind (wpAny_callSpecial?_slot (name := Str.ofString "__getitem__") ht.typeIs slot_tuple_getitem ?_)
  refine wpAny_call_entry slot_tuple_getitem ht.typeIs entry_tuple_getitem ?_ (args_tuple_getitem _ _)
  show wpAny _ _ (Builtin.Tuple.tupleItemsOf (.ref t) >>= _) _ _ s
  refine wpAny_bind (tupleItemsOf_ ht ?_)
  refine wpAny_bind (wpAny_typeOf hTs ?_)
  rw [if_pos (by decide)]
  refine wpAny_bind (back_applied hs pv ?_)
  show wpAny _ _ (if (((items.size : Int) - 1 == 0 && (-1 : Int) == 1 && items.size == items.size) = true) then _ else _) _ _ s
  rw [if_neg (by simp), back_pick]
  first
    | exact wpAny_bind (m := Builtin.Tuple.tupleExact _) (wpAny_newObj_type (wpAny_pure ⟨_, rfl, wpAny_pure h⟩) hfit)
    | exact wpAny_bind (m := Builtin.Tuple.tupleExact _) (wpAny_newObj_type (wpAny_bind (wpAny_pure (wpAny_pure ⟨_, rfl, wpAny_pure h⟩))) hfit)
    | exact wpAny_bind (wpAny_bind (m := Builtin.Tuple.tupleExact _) (wpAny_newObj_type (wpAny_pure (wpAny_pure ⟨_, rfl, wpAny_pure h⟩)) hfit))
    | exact wpAny_bind (wpAny_bind (m := Builtin.Tuple.tupleExact _) (wpAny_newObj_type (wpAny_pure ⟨_, rfl, wpAny_pure h⟩) hfit))
end
section
variable {X : Cx} {e : Expr} {pos : Pos} {m : M D}
def tRevT (K : PySem.W.Frag) (te : TE) : TE := fun σ H Q => te σ H fun x H1 => ∃ a xs, x = .ref a ∧ SqT K H1 a xs ∧ ∀ p, H1 p = none → Q (.ref p) (upd H1 p (.tup xs.reverse))
theorem pe_revT {te : TE} {k : Nat} {p1 p2 p3 : Pos} (he : PE X e te) : PE X (.Subscript e (.Slice none none (some (.UnaryOp .USub (.Constant (.int 1) k p1) p2)) p3) pos) (tRevT X.K te) := by
  refine ⟨fun pins s σ H Q I h => Subscript_ (thn (he.run pins s σ H _ I h) fun v s1 ⟨x, H1, I1, r1, q1⟩ => ?_)⟩
  obtain ⟨a, xs, ex, hx, q⟩ := q1
  subst ex
  cases r1
  have hst : PO X (some (.UnaryOp .USub (.Constant (.int 1) k p1) p2)) (tPart (tUn (rU fun i => .int (-i)) (tC (.int 1)))) := po_some (pe_un un_neg pe_int)
  refine wpAny_Slice (thn (po_none.run pins s1 σ H1 (fun o H2 => o = none ∧ H2 = H1) I1 ⟨rfl, rfl⟩) fun vl s2 y2 => ?_)
  obtain ⟨l, H2, I2, pl, el, e2⟩ := y2
  subst el e2
  refine thn (po_none.run pins s2 σ H2 (fun o H3 => o = none ∧ H3 = H2) I2 ⟨rfl, rfl⟩) fun vu s3 y3 => ?_
  obtain ⟨u, H3, I3, pu, eu, e3⟩ := y3
  subst eu e3
  refine thn (hst.run pins s3 σ H3 (fun o H4 => o = some (-1) ∧ H4 = H3) I3 ⟨1, rfl, -1, rfl, rfl, rfl⟩) fun vs s4 y4 => ?_
  obtain ⟨o, H4, I4, ps, eo, e4⟩ := y4
  subst eo e4
  cases pl
  cases pu
  have I5 : Inv X pins σ H4 { s4 with heap := s4.heap.push { cls := .type "slice", data := .fields #[.none, .none, vs] } } := I4.kept (t' := s4.toks) fun b ob q => Heap.get?_push_of_some _ q
  obtain ⟨its, r, ht, hz⟩ := I5.tuple hx
  have hlen := r.length
  show wpAny (model X.prog X.w) X.A (subscriptTail e (.Slice none none (some (.UnaryOp .USub (.Constant (.int 1) k p1) p2)) p3) (.ref a) (.ref s4.heap.objs.size)) (EP X pins σ Q) X.xe _
  refine tail_any (ops := [.ref a, .ref s4.heap.objs.size]) ht.typeIs (slot_tuple_getitem.lookup) ?_ (by with_unfolding_all rfl)
  refine tup_back ht (Heap.IsSliceOf.new _ .none .none vs) ps ?_ (by rw [List.size_toArray]; omega)
  refine ⟨.ref _, _, I5.laid (t' := s4.toks) (o := .tup xs.reverse) (fun b ob q => Heap.get?_push_of_some _ q) (Nat.le_refl _) ?_, rfl, q _ (I5.hok.fresh (Nat.le_refl _))⟩
  exact ⟨by rw [List.length_reverse]; exact hz, _, r.reverse, IsTup.new _ _⟩
theorem peOr {t u : TE} (h : PE X e t) (h' : PE X e u) : PE X e (fun σ H Q => t σ H Q ∨ u σ H Q) := ⟨fun pins s σ H Q I q => q.elim (h.run pins s σ H Q I) (h'.run pins s σ H Q I)⟩
theorem Rps.rev {p : Addr} {W : AP} {H : Hp} : ∀ {ds : List D} {vs : List V}, Rps p W H ds vs → Rps p W H ds.reverse vs.reverse
  | [], _, h => by simp only [Rps] at h; subst h; exact .nil
  | d :: ds, _, h => by
    simp only [Rps] at h
    obtain ⟨v, r, rfl, h1, h2⟩ := h
    rw [List.reverse_cons, List.reverse_cons]
    exact (Rps.rev h2).append (.cons h1 .nil)
def revD : D → Option D
  | .lst ds => some (.lst ds.reverse)
  | .tup ds => some (.tup ds.reverse)
  | _ => none
theorem s_rev {k : Nat} {p1 p2 p3 : Pos} (he : SE X e m) : SE X (.Subscript e (.Slice none none (some (.UnaryOp .USub (.Constant (.int 1) k p1) p2)) p3) pos) (eUn revD m) :=
  ⟨fun B => PE.imp (peOr (pe_revL (he.pe B)) (pe_revT (he.pe B))) fun σ H Q ⟨s, d, s', k, e, q⟩ => by
    obtain ⟨dx, s1, h1, h2⟩ := bnd_some e
    obtain ⟨h3, rfl⟩ := lift_some h2
    cases dx <;> simp only [revD] at h3 <;> cases h3
    · refine .inr ⟨s, _, s', k, h1, fun v H1 k1 ev1 r1 => ?_⟩
      obtain ⟨a, vs, rfl, _, ha, rs⟩ := rp_tup r1
      exact ⟨a, vs, rfl, SqT.of ha, fun p np => q _ _ (k1.same (same_new np)) (ev1.trans (Ev.same (same_new np))) (.newTup k1.wt np rs.rev)⟩
    · refine .inl ⟨s, _, s', k, h1, fun v H1 k1 ev1 r1 => ?_⟩
      obtain ⟨a, vs, rfl, _, ha, rs⟩ := rp_lst r1
      exact ⟨a, vs, rfl, SqL.of ha, fun p np => q _ _ (k1.same (same_new np)) (ev1.trans (Ev.same (same_new np))) (.newLst k1.wt np rs.rev)⟩⟩

/-- a turn of the outer clause: the rows of the inner one -/
def cOut (vs vs1 : List Nat) (g : D → M Unit) (c : M Bool) (it1 : M (List D)) (g1 : D → M Unit) (c1 : M Bool) (el : M D) (d : D) : M (List D) := fun s =>
  (bnd (g d) fun _ => bnd c fun b => if b = true then bnd it1 (fun ds1 => compF vs1 g1 c1 el ds1) else ret []) { s with env := wipeE s.env vs }
def outF (vs : List Nat) (f : D → M (List D)) : List D → M (List D)
  | [] => ret []
  | d :: r => bnd (f d) fun ys => bnd (outF vs f r) fun zs => ret (ys ++ zs)
def eComp2 (vs vs1 : List Nat) (g : D → M Unit) (c : M Bool) (it1 : M (List D)) (g1 : D → M Unit) (c1 : M Bool) (el : M D) (it : M (List D)) : M (List D) := bnd it fun ds s1 =>
  match outF vs (cOut vs vs1 g c it1 g1 c1 el) ds s1 with
    | some (ys, sn) => if ys.length ≤ sizeLine then some (ys, { sn with env := restE s1.env sn.env vs }) else none
    | none => none
def tItx (m : M (List D)) : TI := fun σ H R => ∃ B, tIt B m σ H R
theorem SI.px {tg : Expr} {it : M (List D)} (h : SI X tg e it) : PI X tg e (tItx it) := ⟨fun pins s σ H Q I ⟨B, q⟩ => (h.pi B).run pins s σ H Q I q⟩
theorem lc2_go {B : Bs} {vs vs1 is is1 : List Nat} {g g1 : D → M Unit} {c c1 : M Bool} {el : M D} {it it1 : M (List D)} {σ : Sg} {H : Hp} {Q : VK} (hin : ∀ i ∈ is, i ∈ vs) (hin1 : ∀ i ∈ is1, i ∈ vs1) (hsub : ∀ i ∈ vs1, i ∈ vs) (h : tL B (eComp2 vs vs1 g c it1 g1 c1 el it) σ H Q) :
    tLc2 (tIt B it) (tGx is g) (tTx c) (tItx it1) (tGx is1 g1) (tTx c1) (tIx el) vs vs1 σ H Q := by
  obtain ⟨s, out, sE, k, e, q⟩ := h
  obtain ⟨ds, s1, e1, e2⟩ := bnd_some e
  refine ⟨s, ds, s1, k, e1, fun J H1 k1 ev1 wk => ?_⟩
  split at e2
  case h_2 => cases e2
  rename_i ys sn eF
  split at e2
  case isFalse => cases e2
  rename_i hsz
  cases e2
  intro A nA
  have nA0 := k1.new nA
  have hAp : A ≠ B.p := fun z => by subst z; rw [k1.src.d] at nA; cases nA
  have hAc : A ≠ B.c := fun z => by subst z; rw [k1.src.l] at nA; cases nA
  obtain ⟨kb, evb⟩ := k1.begin (o := .lst []) nA
  have kw := kb.wipe vs
  have evw : Ev (B.W s1.env σ) H1 ((B.plus A).W (wipeE s1.env vs) (wipe σ vs)) (upd H1 A (.lst [])) := evb.trans (Ev.less (W_wipe (B := B.plus A)))
  refine ⟨fun i m Hh => m = ds.length - i ∧ i ≤ ds.length ∧ ∃ si acc zs rest, StOk (B.plusO A (.lst acc)) (wipe σ vs) Hh { si with env := wipeE si.env vs } ∧ Ev (B.W s1.env σ) H1 ((B.plus A).W (wipeE si.env vs) (wipe σ vs)) Hh ∧
    Hh A = some (.lst acc) ∧ Rps B.p ((B.plus A).W (wipeE si.env vs) (wipe σ vs)) Hh zs acc ∧ outF vs (cOut vs vs1 g c it1 g1 c1 el) (ds.drop i) si = some (rest, sn) ∧ out = zs ++ rest,
    ⟨ds.length, by simp, Nat.zero_le _, s1, [], [], out, kw, evw, upd_same, .nil, eF, rfl⟩, ?_⟩
  rintro i m Hh ⟨rfl, hi, si, acc, zs, rest, ki, evi, hA, ri, eR, eOut⟩
  obtain ⟨w1, w2, w3⟩ := wk _ _ evi ki.wt
  by_cases hlt : i < ds.length
  · refine .inr ⟨w1 i hlt, _, fun H' hN => ⟨ds.length - (i + 1), by omega, hN⟩, fun x H' y => ?_⟩
    have hd : ds[i]? = some ds[i] := List.getElem?_eq_getElem hlt
    obtain ⟨sm, rx⟩ := w3 i _ x H' hd y
    rw [List.drop_eq_getElem_cons hlt] at eR
    obtain ⟨o, s2, eS, eR⟩ := bnd_some eR
    obtain ⟨rs, s3, eR2, e3⟩ := bnd_some eR
    obtain ⟨e4, rfl⟩ := ret_some e3
    obtain ⟨_, s4, eg, eS⟩ := bnd_some eS
    obtain ⟨b, s5, ec, eS⟩ := bnd_some eS
    have k1' := ki.same sm
    have ev' : Ev (B.W s1.env σ) H1 ((B.plus A).W (wipeE si.env vs) (wipe σ vs)) H' := evi.trans (Ev.same sm)
    refine ⟨B.plusO A (.lst acc), { si with env := wipeE si.env vs }, ds[i], s4, k1', rx, eg, fun σ2 k2 ev2 wp => ?_⟩
    have hw : wipe σ2 vs = wipe σ vs := by rw [wp vs hin, wipe_wipe]
    refine ⟨hw, B.plusO A (.lst acc), s4, b, s5, k2, ec, fun H3 k3 ev3 => ?_⟩
    have evA : Ev ((B.plus A).W (wipeE si.env vs) (wipe σ vs)) H' ((B.plus A).W s5.env σ2) H3 := Ev.trans ev2 ev3
    have smA : Ev ((B.plus A).W (wipeE si.env vs) (wipe σ vs)) Hh ((B.plus A).W (wipeE si.env vs) (wipe σ vs)) H' := Ev.same sm
    have evB : Ev ((B.plus A).W (wipeE si.env vs) (wipe σ vs)) Hh ((B.plus A).W s5.env σ2) H3 := smA.trans evA
    cases b with
    | true =>
      obtain ⟨ds1, s6, ei, eS⟩ := bnd_some eS
      refine ⟨B.plusO A (.lst acc), s5, ds1, s6, k3, ei, fun J1 H4 k4 ev4 wk1 => ?_⟩
      have evC : Ev ((B.plus A).W (wipeE si.env vs) (wipe σ vs)) Hh ((B.plus A).W s6.env σ2) H4 := evB.trans ev4
      have hA4 : H4 A = some (.lst acc) := k4.keep A _ upd_same hAp hAc
      have kw4 := k4.wipe vs1
      have evD : Ev ((B.plus A).W s6.env σ2) H4 ((B.plus A).W (wipeE s6.env vs1) (wipe σ2 vs1)) H4 := Ev.less (W_wipe (B := B.plus A))
      refine ⟨fun j m Hj => m = ds1.length - j ∧ j ≤ ds1.length ∧ ∃ sj accj zsj restj, StOk (B.plusO A (.lst accj)) (wipe σ2 vs1) Hj { sj with env := wipeE sj.env vs1 } ∧ Ev ((B.plus A).W s6.env σ2) H4 ((B.plus A).W (wipeE sj.env vs1) (wipe σ2 vs1)) Hj ∧
        Hj A = some (.lst accj) ∧ Rps B.p ((B.plus A).W (wipeE sj.env vs1) (wipe σ2 vs1)) Hj zsj accj ∧ compF vs1 g1 c1 el (ds1.drop j) sj = some (restj, s2) ∧ out = zsj ++ restj ++ rs,
        ⟨ds1.length, by simp, Nat.zero_le _, s6, acc, zs, o, kw4, evD, hA4, ri.ev (evC.trans evD), eS, by rw [eOut, e4, List.append_assoc]⟩, ?_⟩
      rintro j m Hj ⟨rfl, hj, sj, accj, zsj, restj, kj, evj, hAj, rj, eRj, eOutj⟩
      obtain ⟨u1, u2, u3⟩ := wk1 _ _ evj kj.wt
      by_cases hltj : j < ds1.length
      · refine .inr ⟨u1 j hltj, _, fun H' hN => ⟨ds1.length - (j + 1), by omega, hN⟩, fun x1 Hj' yj => ?_⟩
        have hdj : ds1[j]? = some ds1[j] := List.getElem?_eq_getElem hltj
        obtain ⟨smj, rxj⟩ := u3 j _ x1 Hj' hdj yj
        rw [List.drop_eq_getElem_cons hltj] at eRj
        obtain ⟨oj, s7, eSj, eRj⟩ := bnd_some eRj
        obtain ⟨rsj, s8, eRj2, e8⟩ := bnd_some eRj
        obtain ⟨e9, rfl⟩ := ret_some e8
        obtain ⟨_, s9, egj, eSj⟩ := bnd_some eSj
        obtain ⟨bj, s10, ecj, eSj⟩ := bnd_some eSj
        refine ⟨B.plusO A (.lst accj), { sj with env := wipeE sj.env vs1 }, ds1[j], s9, kj.same smj, rxj, egj, fun σ3 k9 ev9 wp9 => ?_⟩
        have hw1 : wipe σ3 vs1 = wipe σ2 vs1 := by rw [wp9 vs1 hin1, wipe_wipe]
        refine ⟨hw1, B.plusO A (.lst accj), s9, bj, s10, k9, ecj, fun H10 k10 ev10 => ?_⟩
        have evE : Ev ((B.plus A).W (wipeE sj.env vs1) (wipe σ2 vs1)) Hj ((B.plus A).W s10.env σ3) H10 := Ev.trans (Ev.same smj) (Ev.trans ev9 ev10)
        cases bj with
        | true =>
          obtain ⟨y', s11, eej, eSj⟩ := bnd_some eSj
          obtain ⟨rfl, rfl⟩ := ret_some eSj
          refine ⟨B.plusO A (.lst accj), s10, y', s7, k10, eej, fun v H11 k11 ev11 r11 => ?_⟩
          have hA11 : H11 A = some (.lst accj) := k11.keep A _ upd_same hAp hAc
          have kw11 := k11.wipe vs1
          rw [hw1] at kw11
          obtain ⟨kg, evg⟩ := kw11.grow (o' := .lst (accj ++ [v])) hAp hAc
          have wl : Ev ((B.plus A).W s7.env σ3) H11 ((B.plus A).W (wipeE s7.env vs1) (wipe σ2 vs1)) H11 := by
            rw [← hw1]; exact Ev.less (W_wipe (B := B.plus A))
          have evT : Ev ((B.plus A).W (wipeE sj.env vs1) (wipe σ2 vs1)) Hj ((B.plus A).W (wipeE s7.env vs1) (wipe σ2 vs1)) (upd H11 A (.lst (accj ++ [v]))) :=
            evE.trans (Ev.trans ev11 (wl.trans evg))
          have hlen := rj.length
          have hlt2 : accj.length < sizeLine := by
            have e5 : out.length = zsj.length + restj.length + rs.length := by rw [eOutj]; simp; omega
            have e6 : restj.length = rsj.length + 1 := by rw [e9]; simp
            omega
          refine ⟨accj, hA11, hlt2, rfl, hltj, s7, accj ++ [v], zsj ++ [y'], rsj, kg, evj.trans evT, upd_same, ?_, eRj2, by rw [eOutj, e9]; simp⟩
          exact (rj.ev evT).append (.cons (Rp.ev (wl.trans evg) _ _ r11) .nil)
        | false =>
          obtain ⟨rfl, rfl⟩ := ret_some eSj
          have kw10 := k10.wipe vs1
          rw [hw1] at kw10
          have wl : Ev ((B.plus A).W s7.env σ3) H10 ((B.plus A).W (wipeE s7.env vs1) (wipe σ2 vs1)) H10 := by
            rw [← hw1]; exact Ev.less (W_wipe (B := B.plus A))
          have evT : Ev ((B.plus A).W (wipeE sj.env vs1) (wipe σ2 vs1)) Hj ((B.plus A).W (wipeE s7.env vs1) (wipe σ2 vs1)) H10 := evE.trans wl
          have hA10 : H10 A = some (.lst accj) := k10.keep A _ upd_same hAp hAc
          exact ⟨rfl, hltj, s7, accj, zsj, rsj, kw10, evj.trans evT, hA10, rj.ev evT, eRj2, by rw [eOutj, e9]; simp⟩
      · have hn : j = ds1.length := by omega
        subst hn
        rw [List.drop_length] at eRj
        obtain ⟨rfl, e5⟩ := ret_some eRj
        refine .inl ⟨u2, ?_⟩
        have hee : wipe (wipe σ2 vs1) vs = wipe σ vs := by
          rw [← hw]
          have : ∀ us : List Nat, (∀ u ∈ us, u ∈ vs) → wipe (wipe σ2 us) vs = wipe σ2 vs := fun us => by
            induction us with
            | nil => intro _; rfl
            | cons u us ih =>
              intro hu
              show wipe ((wipe σ2 us).set u none) vs = _
              rw [wipe_set_mem (hu u List.mem_cons_self), ih fun z hz => hu z (List.mem_cons_of_mem _ hz)]
          exact this vs1 hsub
        have heE : wipeE (wipeE sj.env vs1) vs = wipeE sj.env vs := by
          have base : ∀ (env : List (Option Sl)) (ws us : List Nat) (u : Nat), u ∈ ws → wipeE (env.set u none) ws = wipeE env ws := fun env ws _ u => by
            induction ws with
            | nil => intro z; simp at z
            | cons w ws ih =>
              intro z
              unfold wipeE
              by_cases hm : u ∈ ws
              · rw [ih hm]
              · have e0 : u = w := by
                  rcases List.mem_cons.mp z with z | z
                  · exact z
                  · exact absurd z hm
                subst e0
                have out0 : ∀ ws : List Nat, u ∉ ws → (wipeE (env.set u none) ws).set u none = (wipeE env ws).set u none := fun ws => by
                  induction ws with
                  | nil => intro _; unfold wipeE; rw [List.set_set]
                  | cons a as ih2 =>
                    intro hn
                    have h1 : u ≠ a := fun z => hn (z ▸ List.mem_cons_self)
                    have h2 : u ∉ as := fun z => hn (List.mem_cons_of_mem _ z)
                    unfold wipeE
                    rw [List.set_comm _ _ (Ne.symm h1), ih2 h2, List.set_comm _ _ h1]
                exact out0 ws hm
          have : ∀ us : List Nat, (∀ u ∈ us, u ∈ vs) → wipeE (wipeE sj.env us) vs = wipeE sj.env vs := fun us => by
            induction us with
            | nil => intro _; rfl
            | cons u us ih =>
              intro hu
              show wipeE ((wipeE sj.env us).set u none) vs = _
              rw [base _ _ us u (hu u List.mem_cons_self), ih fun z hz => hu z (List.mem_cons_of_mem _ hz)]
          exact this vs1 hsub
        have kk := kj.wipe vs
        have kk : StOk (B.plusO A (.lst accj)) (wipe σ vs) Hj { sj with env := wipeE sj.env vs } := by
          rw [← hee]
          have : ({ sj with env := wipeE sj.env vs } : S) = { sj with env := wipeE (wipeE sj.env vs1) vs } := by rw [heE]
          rw [this]; exact kk
        have evF : Ev ((B.plus A).W (wipeE sj.env vs1) (wipe σ2 vs1)) Hj ((B.plus A).W (wipeE sj.env vs) (wipe σ vs)) Hj := by
          rw [← hee, ← heE]; exact Ev.less (W_wipe (B := B.plus A))
        subst e5
        exact ⟨rfl, hlt, s2, accj, zsj, rs, kk, evi.trans (evC.trans (evj.trans evF)), hAj, rj.ev evF, eR2, by rw [eOutj]; simp⟩
    | false =>
      obtain ⟨rfl, rfl⟩ := ret_some eS
      have kw3 := k3.wipe vs
      rw [hw] at kw3
      have wl : Ev ((B.plus A).W s2.env σ2) H3 ((B.plus A).W (wipeE s2.env vs) (wipe σ vs)) H3 := by
        rw [← hw]; exact Ev.less (W_wipe (B := B.plus A))
      have evT : Ev ((B.plus A).W (wipeE si.env vs) (wipe σ vs)) Hh ((B.plus A).W (wipeE s2.env vs) (wipe σ vs)) H3 := evB.trans wl
      have hA3 : H3 A = some (.lst acc) := k3.keep A _ upd_same hAp hAc
      exact ⟨rfl, hlt, s2, acc, zs, rs, kw3, evi.trans evT, hA3, ri.ev evT, eR2, by rw [eOut, e4]; simp⟩
  · have hn : i = ds.length := by omega
    subst hn
    rw [List.drop_length] at eR
    obtain ⟨rfl, e5⟩ := ret_some eR
    subst e5
    refine .inl ⟨w2, ?_⟩
    have kf := ki.finish nA0
    have sub : ∀ b, (B.plus A).W (restE s1.env sn.env vs) σ b → (B.plus A).W (wipeE sn.env vs) (wipe σ vs) b := fun b hb => by
      rcases hb with hb | ⟨j, sl, h1, h2, h3⟩
      · exact .inl hb
      · rcases restE_get h1 with ⟨n1, h4⟩ | ⟨_, _, d, rfl⟩
        · exact .inr ⟨j, sl, by rw [wipeE_get n1]; exact h4, h2, by rw [wipe_get n1]; exact h3⟩
        · cases h2
    have evf : Ev ((B.plus A).W (wipeE sn.env vs) (wipe σ vs)) Hh ((B.plus A).W (restE s1.env sn.env vs) σ) Hh := Ev.less sub
    have kR : StOk (B.plus A) σ Hh { sn with env := restE s1.env sn.env vs } := by
      refine ⟨?_, fun j d h => ?_, fun j sl h ho => ?_, fun j1 j2 sl1 sl2 b h1 o1 h2 o2 q1 q2 => ?_, kf.src, kf.keep, kf.wc, kf.wp, kf.wcc⟩
      · have := kf.len
        rw [wipe_length] at this
        show (restE s1.env sn.env vs).length = _
        rw [restE_len, ← this]
        exact (wipeE_len _ _).symm
      · rcases restE_get h with ⟨n1, h4⟩ | ⟨n1, h4, _⟩
        · obtain ⟨v, h5, h6⟩ := kf.val j d (by show (wipeE sn.env vs)[j]? = _; rw [wipeE_get n1]; exact h4)
          rw [wipe_get n1] at h5
          exact ⟨v, h5, h6.ev evf⟩
        · obtain ⟨v, h5, h6⟩ := k1.val j d h4
          exact ⟨v, h5, Rp.ev (evi.trans evf) _ _ h6⟩
      · rcases restE_get h with ⟨n1, h4⟩ | ⟨_, _, d, rfl⟩
        · obtain ⟨b, o, h5, h6, h7, h8⟩ := kf.own j sl (by show (wipeE sn.env vs)[j]? = _; rw [wipeE_get n1]; exact h4) ho
          rw [wipe_get n1] at h5
          exact ⟨b, o, h5, h6, h7.ev evf, h8⟩
        · cases ho
      · rcases restE_get h1 with ⟨n1, h4⟩ | ⟨_, _, d, rfl⟩
        · rcases restE_get h2 with ⟨n2, h5⟩ | ⟨_, _, d, rfl⟩
          · exact kf.sep j1 j2 sl1 sl2 b (by show (wipeE sn.env vs)[j1]? = _; rw [wipeE_get n1]; exact h4) o1 (by show (wipeE sn.env vs)[j2]? = _; rw [wipeE_get n2]; exact h5) o2 (by rw [wipe_get n1]; exact q1) (by rw [wipe_get n2]; exact q2)
          · cases o2
        · cases o1
    refine q A acc Hh kR (ev1.trans (evi.trans evf)) nA0 ?_ hA (by rw [eOut]; simpa using ri.ev evf)
    rintro (z | ⟨j, sl, h1, h2, h3⟩)
    · obtain ⟨o, ho, _⟩ := k1.wc A z
      rw [nA] at ho; cases ho
    · obtain ⟨b, o, h5, _, _, _, h8⟩ := kR.own j sl h1 h2
      rw [h3] at h5; cases h5
      exact h8 (.inr rfl)

section
variable {elt tg iter tg1 iter1 : Expr} {ifs ifs1 : List Expr} {scope : Scope} {own : List (Str × Nat)} {g g1 : D → M Unit} {mc mc1 : M Bool} {el : M D} {it it1 : M (List D)} {is is1 vs1 : List Nat}
/-- what the parts of a comprehension of two clauses are, in any block of it -/
structure CompOk2 (X : Cx) (elt tg : Expr) (ifs : List Expr) (tg1 iter1 : Expr) (ifs1 : List Expr) (scope : Scope) (own : List (Str × Nat)) (vs1 is is1 : List Nat) (g : D → M Unit) (mc : M Bool) (it1 : M (List D)) (g1 : D → M Unit) (mc1 : M Bool) (el : M D) : Prop where
  calm : X.calm = true
  nd : X.N.Nodup
  ok : BlkOk X.N X.env.scope scope own
  sub : ∀ i ∈ is, i ∈ own.map (·.2)
  sub1 : ∀ i ∈ is1, i ∈ vs1
  vs : ∀ i ∈ vs1, i ∈ own.map (·.2)
  hg : ∀ (s : Shared) (H : Hp) (C : Addr) (cl : List (Str × Addr)) (fp : List Addr), SG (X.blk s H scope (compEnvC scope cl C X.env) fp) tg is g
  ht : ∀ (s : Shared) (H : Hp) (C : Addr) (cl : List (Str × Addr)) (fp : List Addr), SF (X.blk s H scope (compEnvC scope cl C X.env) fp) ifs mc
  hi1 : ∀ (s : Shared) (H : Hp) (C : Addr) (cl : List (Str × Addr)) (fp : List Addr), SI (X.blk s H scope (compEnvC scope cl C X.env) fp) tg1 iter1 it1
  hg1 : ∀ (s : Shared) (H : Hp) (C : Addr) (cl : List (Str × Addr)) (fp : List Addr), SG (X.blk s H scope (compEnvC scope cl C X.env) fp) tg1 is1 g1
  ht1 : ∀ (s : Shared) (H : Hp) (C : Addr) (cl : List (Str × Addr)) (fp : List Addr), SF (X.blk s H scope (compEnvC scope cl C X.env) fp) ifs1 mc1
  he : ∀ (s : Shared) (H : Hp) (C : Addr) (cl : List (Str × Addr)) (fp : List Addr), SE (X.blk s H scope (compEnvC scope cl C X.env) fp) elt el
theorem l_comp2 (C : CompOk2 X elt tg ifs tg1 iter1 ifs1 scope own vs1 is is1 g mc it1 g1 mc1 el) (hi : SI X tg iter it) (hs : ∀ x, foldedSetIterable iter X.env x = pure x := by intro _; rfl) (hs1 : ∀ env x, foldedSetIterable iter1 env x = pure x := by intro _ _; rfl) :
    SL X (.ListComp elt [⟨tg, iter, ifs, 0⟩, ⟨tg1, iter1, ifs1, 0⟩] scope pos) (eComp2 (own.map (·.2)) vs1 g mc it1 g1 mc1 el it) :=
  ⟨fun B => PE.imp (pe_lc2 C.calm C.nd (hi.pi B) C.ok C.vs (fun s H c cl fp => (C.hg s H c cl fp).px) (fun s H c cl fp => (C.ht s H c cl fp).pt) (fun s H c cl fp => (C.hi1 s H c cl fp).px) (fun s H c cl fp => (C.hg1 s H c cl fp).px) (fun s H c cl fp => (C.ht1 s H c cl fp).pt) (fun s H c cl fp => (C.he s H c cl fp).px) hs hs1) fun σ H Q h => lc2_go C.sub C.sub1 C.vs h⟩
theorem s_setLc2 {i : Nat} {y : Str} {py cpos : Pos} (hy : X.N[i]? = some y) (hyl : X.env.scope.names.lookup y = some .local) (hsw : swapsWith (.ListComp elt [⟨tg, iter, ifs, 0⟩, ⟨tg1, iter1, ifs1, 0⟩] scope cpos) (some (.Name y py)) pos.line X.env = pure true)
    (C : CompOk2 X elt tg ifs tg1 iter1 ifs1 scope own vs1 is is1 g mc it1 g1 mc1 el) (hi : SI X tg iter it) (hs : ∀ x, foldedSetIterable iter X.env x = pure x := by intro _; rfl) (hs1 : ∀ env x, foldedSetIterable iter1 env x = pure x := by intro _ _; rfl) :
    SS X (.Assign [.Name y py] (.ListComp elt [⟨tg, iter, ifs, 0⟩, ⟨tg1, iter1, ifs1, 0⟩] scope cpos) pos) (sSet i (eLst (eComp2 (own.map (·.2)) vs1 g mc it1 g1 mc1 el it))) :=
  ⟨fun B => PS.imp (ps_setLc2 C.calm C.nd hy hyl hsw (hi.pi B) C.ok C.vs (fun s H c cl fp => (C.hg s H c cl fp).px) (fun s H c cl fp => (C.ht s H c cl fp).pt) (fun s H c cl fp => (C.hi1 s H c cl fp).px) (fun s H c cl fp => (C.hg1 s H c cl fp).px) (fun s H c cl fp => (C.ht1 s H c cl fp).pt) (fun s H c cl fp => (C.he s H c cl fp).px) hs hs1) fun D σ H h =>
    asg_go (fun _ _ _ z => lc2_go C.sub C.sub1 C.vs (tL_tI z)) tG_name h⟩
theorem s_ownLc2 {i : Nat} {y : Str} {py cpos : Pos} (hy : X.N[i]? = some y) (hyl : X.env.scope.names.lookup y = some .local) (hsw : swapsWith (.ListComp elt [⟨tg, iter, ifs, 0⟩, ⟨tg1, iter1, ifs1, 0⟩] scope cpos) (some (.Name y py)) pos.line X.env = pure true)
    (C : CompOk2 X elt tg ifs tg1 iter1 ifs1 scope own vs1 is is1 g mc it1 g1 mc1 el) (hi : SI X tg iter it) (hs : ∀ x, foldedSetIterable iter X.env x = pure x := by intro _; rfl) (hs1 : ∀ env x, foldedSetIterable iter1 env x = pure x := by intro _ _; rfl) :
    SS X (.Assign [.Name y py] (.ListComp elt [⟨tg, iter, ifs, 0⟩, ⟨tg1, iter1, ifs1, 0⟩] scope cpos) pos) (sOwn i (eComp2 (own.map (·.2)) vs1 g mc it1 g1 mc1 el it)) :=
  ⟨fun B => PS.imp (ps_setLc2 C.calm C.nd hy hyl hsw (hi.pi B) C.ok C.vs (fun s H c cl fp => (C.hg s H c cl fp).px) (fun s H c cl fp => (C.ht s H c cl fp).pt) (fun s H c cl fp => (C.hi1 s H c cl fp).px) (fun s H c cl fp => (C.hg1 s H c cl fp).px) (fun s H c cl fp => (C.ht1 s H c cl fp).pt) (fun s H c cl fp => (C.he s H c cl fp).px) hs hs1) fun D σ H h =>
    own_go (fun _ _ _ z => lc2_go C.sub C.sub1 C.vs z) h⟩
end
end
end GH

namespace GH
open PySem PySem.Spec PyProof.Rows L2

def srcKvs (c : Addr) (s : Src) : List (Key × V) := [(kCells, .ref c), (kLeft, .int s.left), (kMixed, .int s.mixed), (kTurn, .int s.turn)]
section
variable {X : Cx} {e : Expr} {x : Str} {i j n : Nat} {ky : String} {p p2 pos : Pos} {m : M D}
def eFld (i : Nat) (f : Src → Int) : M D := fun s => match s.env[i]? with
  | some (some (.val .src)) => some (.int (f s.src), s)
  | _ => none
theorem src_slot {B : Bs} {σ : Sg} {H : Hp} {s : S} (k : StOk B σ H s) (h : s.env[i]? = some (some (.val .src))) : σ[i]? = some (some (.ref B.p)) := by
  obtain ⟨v, h1, h2⟩ := k.val i _ h
  have h2 : v = .ref B.p := by simpa only [Rp] using h2
  rw [h1, h2]
theorem s_fld {f : Src → Int} (hx : PE X (.Name x p) (tVar i)) (hu : X.A.units + 1 < cLine) (hv : ∀ (s : Src) (c : Addr), valV (srcKvs c s) (.inr (Str.ofString ky)) = some (.int (f s))) : SE X (.Subscript (.Name x p) (.Constant (.str (Str.ofString ky)) n p2) pos) (eFld i f) :=
  ⟨fun B => PE.imp (pe_dget hu hx (pe_str (j := n) (pos := p2)) (fun _ _ => rfl)) fun σ H Q ⟨s, d, s', k, e, q⟩ => by
    unfold eFld at e
    split at e
    · rename_i hi
      cases e
      refine ⟨_, src_slot k hi, ?_⟩
      have g := DGet.k (k := .inr (Str.ofString ky)) k.src.d
      rw [show [(kCells, V.ref B.c), (kLeft, .int s.src.left), (kMixed, .int s.src.mixed), (kTurn, .int s.src.turn)] = srcKvs B.c s.src from rfl, hv] at g
      exact ⟨B.p, _, rfl, g, q _ H k Ev.refl (.mkInt _)⟩
    · cases e⟩
def sFld (i : Nat) (g : Src → Int → Src) (m : M D) : M Out := bnd m fun d s => match d, s.env[i]? with
  | .int z, some (some (.val .src)) => some (.nx, ⟨s.env, g s.src z⟩)
  | _, _ => none
theorem StOk.fld {B : Bs} {σ : Sg} {H : Hp} {s : S} {c' : Src} {o : HO} (k : StOk B σ H s) (ho : o = .dK (srcKvs B.c c')) (hc : c'.cells = s.src.cells) : StOk B σ (upd H B.p o) ⟨s.env, c'⟩ ∧ Ev (B.W s.env σ) H (B.W s.env σ) (upd H B.p o) :=
  k.called (fun a x h n1 _ => by rw [upd_ne n1]; exact h) ⟨by rw [upd_same, ho]; rfl, by rw [upd_ne (Ne.symm k.src.ne), hc]; exact k.src.l⟩
theorem s_fldSet {g : Src → Int → Src} (hx : PE X (.Name x p) (tVar i)) (hu : X.A.units + 1 < cLine) (he : SE X e m) (hg : ∀ (s : Src) (z : Int) (c : Addr), putK (srcKvs c s) (.inr (Str.ofString ky)) (.int z) = srcKvs c (g s z)) (hc : ∀ s z, (g s z).cells = s.cells) {p3 : Pos}
    (hs : swapsWith e (some (.Subscript (.Name x p) (.Constant (.str (Str.ofString ky)) n p2) p3)) pos.line X.env = pure false := by rfl) : SS X (.Assign [.Subscript (.Name x p) (.Constant (.str (Str.ofString ky)) n p2) p3] e pos) (sFld i g m) :=
  ⟨fun B => PS.imp (ps_dput hu hx pe_str (he.pe B) hs) fun D σ H ⟨s, o, s', k, e, q⟩ => by
    refine tI.bind k e fun d s1 v H1 h1 e1 k1 ev1 r1 => ?_
    split at e1
    · rename_i z hi
      cases e1
      have hv := rp_int r1
      subst hv
      refine ⟨_, src_slot k1 hi, B.p, _, rfl, DPut.k (k := .inr (Str.ofString ky)) k1.src.d (by show 4 < sizeLine; decide), ?_⟩
      obtain ⟨k2, ev2⟩ := k1.fld (c' := g s1.src z) (o := .dK (putK (srcKvs B.c s1.src) (.inr (Str.ofString ky)) (.int z))) (by rw [hg]) (hc _ _)
      exact q σ _ k2 (ev1.trans ev2)
    · cases e1⟩
/-- a slot whose name is bound, and of which nothing is told -/
theorem StOk.dead {B : Bs} {σ : Sg} {H : Hp} {s : S} {v : V} (k : StOk B σ H s) (h : s.env[j]? = some none) : StOk B (σ.set j (some v)) H s ∧ ∀ b, B.W s.env (σ.set j (some v)) b ↔ B.W s.env σ b := by
  have ne : ∀ (i : Nat) (x : Sl), s.env[i]? = some (some x) → j ≠ i := fun i x hi z => by subst z; rw [h] at hi; cases hi
  have w : ∀ b, B.W s.env (σ.set j (some v)) b ↔ B.W s.env σ b := fun b => by
    constructor
    · rintro (z | ⟨i, x, h1, h2, h3⟩)
      · exact .inl z
      · rw [List.getElem?_set_ne (ne i x h1)] at h3; exact .inr ⟨i, x, h1, h2, h3⟩
    · rintro (z | ⟨i, x, h1, h2, h3⟩)
      · exact .inl z
      · exact .inr ⟨i, x, h1, h2, by rw [List.getElem?_set_ne (ne i x h1)]; exact h3⟩
  have ev : Ev (B.W s.env σ) H (B.W s.env (σ.set j (some v))) H := Ev.less fun b hb => (w b).mp hb
  refine ⟨⟨by simpa using k.len, fun i d hi => ?_, fun i sl hi ho => ?_, fun i1 i2 sl1 sl2 a h1 o1 h2 o2 q1 q2 => ?_, k.src, k.keep, k.wc, k.wp, k.wcc⟩, w⟩
  · obtain ⟨u, h1, h2⟩ := k.val i d hi
    exact ⟨u, by rw [List.getElem?_set_ne (ne i _ hi)]; exact h1, h2.ev ev⟩
  · obtain ⟨a, o, h1, h2, h3, h4⟩ := k.own i sl hi ho
    exact ⟨a, o, by rw [List.getElem?_set_ne (ne i _ hi)]; exact h1, h2, h3.ev ev, h4⟩
  · rw [List.getElem?_set_ne (ne i1 _ h1)] at q1
    rw [List.getElem?_set_ne (ne i2 _ h2)] at q2
    exact k.sep i1 i2 sl1 sl2 a h1 o1 h2 o2 q1 q2
def drainN : Nat → Src → Src
  | 0, s => s
  | n + 1, s => if s.left < 2 ∧ s.cells ≠ [] then drainN n { s with cells := s.cells.dropLast, left := s.cells.getLastD 0 } else s
def drain (s : Src) : Src := drainN s.cells.length s
abbrev rLtI : R2 := rI0 fun i j => .bl (decide (i < j))
abbrev rGtI : R2 := rI0 fun i j => .bl (decide (j < i))
abbrev rLenX (K : PySem.W.Frag) : List V → Hp → VK → Prop := fun xs H Q => ∃ x n, xs = [x] ∧ LenV K x H n ∧ Q (.int n) H
def mDrain (i j : Nat) (mr : M Out) : M Out := fun s => match s.env[i]?, s.env[j]? with
  | some (some (.val .src)), some none => mr ⟨s.env, drain s.src⟩
  | _, _ => none
/-- cells = source['cells']; while source['left'] < 2 and len(cells) > 0: source['left'] = cells.pop() -/
theorem s_drain {st1 st2 : Stmt} {rest : List Stmt} {mr : M Out} (hij : i ≠ j) (h1 : PS X st1 (tAsg (tDGet (tVar i) (tC (.str "cells"))) (gName j)))
    (h2 : PS X st2 (tWhile (tAnd (tTest (tOp rLtI (tDGet (tVar i) (tC (.str "left"))) (tC (.int 2)))) (tTest (tOp rGtI (tCB (rLenX X.K) (tCons (tVar j) tNil)) (tC (.int 0))))) (sDPut (tVar i) (tC (.str "left")) (tBM0 X.K "list" rPop (tVar j)))))
    (hr : SSs X rest mr) : SSs X (st1 :: st2 :: rest) (mDrain i j mr) := ⟨fun B => PSs.imp (pss_cons h1 (pss_cons h2 (hr.ps B))) fun D σ H ⟨s, o, s', k, e, q⟩ => by
  unfold mDrain at e
  split at e
  · rename_i hi hj
    refine ⟨_, src_slot k hi, B.p, _, rfl, DGet.k (k := kCells) k.src.d, ?_⟩
    obtain ⟨k1, w1⟩ := k.dead (v := .ref B.c) hj
    have ev1 : Ev (B.W s.env σ) H (B.W s.env (σ.set j (some (.ref B.c)))) H := Ev.less fun b hb => (w1 b).mp hb
    have hjl : j < σ.length := by rw [← k.len]; exact (List.getElem?_eq_some_iff.mp hj).1
    have sj : (σ.set j (some (V.ref B.c)))[j]? = some (some (.ref B.c)) := List.getElem?_set_self hjl
    have si := src_slot k1 hi
    show tWhile _ _ _ (σ.set j (some (.ref B.c))) H
    refine ⟨fun n σi Hi => σi = σ.set j (some (.ref B.c)) ∧ ∃ c', c'.cells.length = n ∧ StOk B (σ.set j (some (.ref B.c))) Hi ⟨s.env, c'⟩ ∧ Ev (B.W s.env σ) H (B.W s.env (σ.set j (some (.ref B.c)))) Hi ∧ drainN n c' = drain s.src,
      ⟨s.src.cells.length, rfl, s.src, rfl, k1, ev1, rfl⟩, ?_⟩
    rintro n σi Hi ⟨rfl, c', hn, ki, evi, hd⟩
    refine ⟨_, si, B.p, _, rfl, DGet.k (k := kLeft) ki.src.d, c'.left, 2, rfl, rfl, _, rfl, ?_⟩
    have leave : (¬ (c'.left < 2 ∧ c'.cells ≠ [])) → tS B mr D (σ.set j (some (.ref B.c))) Hi := fun hno => by
      have e3 : drainN n c' = c' := by
        cases n with
        | zero => rfl
        | succ n => exact if_neg hno
      rw [e3] at hd
      refine ⟨⟨s.env, c'⟩, o, s', ki, by rw [hd]; exact e, q.ev evi⟩
    by_cases hl : c'.left < 2
    · show (if decide (c'.left < 2) = true then _ else _)
      rw [if_pos (decide_eq_true hl)]
      refine ⟨_, sj, _, (c'.cells.map V.int).length, rfl, .inl ⟨_, SqL.of ki.src.l, rfl⟩, _, 0, rfl, rfl, _, rfl, ?_⟩
      by_cases hc : c'.cells = []
      · have : ¬ (0 : Int) < (((c'.cells.map V.int).length : Nat) : Int) := by rw [hc]; simp
        show (if decide ((0 : Int) < (((c'.cells.map V.int).length : Nat) : Int)) = true then _ else _)
        rw [if_neg (by simpa using this)]
        exact leave fun z => z.2 hc
      · have hpos : 0 < c'.cells.length := List.length_pos_iff.mpr hc
        have : (0 : Int) < (((c'.cells.map V.int).length : Nat) : Int) := by rw [List.length_map]; omega
        show (if decide ((0 : Int) < (((c'.cells.map V.int).length : Nat) : Int)) = true then _ else _)
        rw [if_pos (by simpa using this)]
        cases n with
        | zero => omega
        | succ n =>
          have hlast : (c'.cells.map V.int)[(c'.cells.map V.int).length - 1]? = some (.int (c'.cells.getLastD 0)) := by
            rw [← List.getLast?_eq_getElem?, List.getLast?_map]
            cases hg : c'.cells.getLast? with
            | none => exact absurd (List.getLast?_eq_none_iff.mp hg) hc
            | some z => simp [List.getLastD_eq_getLast?, hg]
          refine ⟨_, fun σ' H' hN => ⟨n, Nat.lt_succ_self _, hN⟩, ?_⟩
          refine ⟨_, sj, .inl ⟨rfl, _, SqL.of ki.src.l⟩, B.c, _, _, rfl, rfl, ki.src.l, hlast, ?_⟩
          refine ⟨_, si, B.p, _, rfl, DPut.k (k := kLeft) (by rw [upd_ne ki.src.ne]; exact ki.src.d) (by show 4 < sizeLine; decide), ?_⟩
          have hd2 : drainN n { c' with cells := c'.cells.dropLast, left := c'.cells.getLastD 0 } = drain s.src := by
            rw [← hd]
            exact (if_pos (show c'.left < 2 ∧ c'.cells ≠ [] from ⟨hl, hc⟩)).symm
          obtain ⟨k2, ev2⟩ := ki.called (H' := upd (upd Hi B.c (.lst (c'.cells.map V.int).dropLast)) B.p (.dK (putK (srcKvs B.c c') kLeft (.int (c'.cells.getLastD 0))))) (c' := { c' with cells := c'.cells.dropLast, left := c'.cells.getLastD 0 })
            (fun a x h n1 n2 => by rw [upd_ne n1, upd_ne n2]; exact h) ⟨by rw [upd_same]; rfl, by rw [upd_ne (Ne.symm ki.src.ne), upd_same, List.map_dropLast]⟩
          exact ⟨rfl, _, by simp; omega, k2, evi.trans ev2, hd2⟩
    · have : ¬ decide (c'.left < 2) = true := by simpa using hl
      show (if decide (c'.left < 2) = true then _ else _)
      rw [if_neg this]
      exact leave fun z => hl z.1
  · cases e⟩
end
end GH

namespace GH
open PySem PySem.Spec PyProof.Rows L2

/-- the def at f keeps the promise sp, its calls k deep, where no text of an object is being made around -/
def FnR0 (P : Program) (w : World) (K : PySem.W.Frag) (mg : Str → Option Value) (base : Heap) (k : Nat) (f : Addr) (sp : Sp) : Prop :=
  ∀ (A : Around) (outer : List Env) (s : Shared) (H : Hp) (us : List Value) (vs : List V) (Q : VK), RG k A → Env0 P w K mg base A outer s H → Vals vs us → sp vs H Q E0 →
    codeAny (model P w) A (.call (.ref f) ⟨us, []⟩) (CR CX0 outer P w H s Q E0) s
structure FnW (P : Program) (w : World) (K : PySem.W.Frag) (mg : Str → Option Value) (base : Heap) (k : Nat) (x : Str) (sp : Sp) : Prop where
  ok : ∃ f : Addr, mg x = some (.ref f) ∧ PySem.W.keepIn K (.ref f) = true ∧ FnR0 P w K mg base k f sp
theorem fn_raw {P : Program} {w : World} {K : PySem.W.Frag} {mg : Str → Option Value} {base : Heap} {x : Str} {params : Arguments} {code : List Stmt} {scope : Scope} {f : Addr} {fd : FuncData} {N ps : List Str} {k : Nat} {sp : Sp} {t : TS}
    (F : FunD K x x params code scope [] [] f fd) (hm : mg x = some (.ref f)) (hb : Binds K fd ps []) (S : FnScope N ps scope) (hl : ∀ vs H Q, sp vs H Q E0 → vs.length = ps.length)
    (body : ∀ (cdv : Value) (A : Around) (outer : List Env) (s : Shared) (H : Hp), RG k (A.deeper (envOfC x scope s.heap.objs.size f cdv)) → PSs (cxOf CX0 P w K mg base N x scope f cdv A outer s H E0).nox code t)
    (pure : ∀ vs H Q, sp vs H Q E0 → t { nx := fun _ H' => Q .non H', rt := Q } (L2.start N vs) H) : FnW P w K mg base (k + 1) x sp := by
  obtain ⟨oc, od, dV, kV, doc, pm, an, cdv, ct, osl, efd, lk, hcd, _, _⟩ := F.ex
  subst efd
  refine ⟨f, hm, F.kp, fun A outer s H us vs Q hr e0 r h => ?_⟩
  have KX : K.In s.heap := e0.mod.kin.keeps fun b o e => (e0.bs b o e).1
  refine StX.run_bnd (G := fun xs H2 => xs = vs ∧ H2 = H) (E := E0) lk hcd S hr.r e0 (fun A' Ex Q' hq => ?_) fun s2 H2 xs ⟨ex, eH⟩ hr2 => ?_
  · have bb := hb s us KX (by rw [List.append_nil, ← r.length, hl vs H Q h])
    rw [List.append_nil] at bb
    exact bb _ _ _ _ (hq s H vs us e0 Un.refl rfl (fun _ _ z => z) r (hl vs H Q h) ⟨rfl, rfl⟩)
  · subst ex
    subst eH
    exact ⟨_, PSs.nox (body cdv A outer s2 H2 ⟨hr2, hr.g⟩), pure _ _ _ h⟩
section
variable {X : Cx} {e : Expr} {es : List Expr} {pos p : Pos} {ta : TA}
/-- a call of such a def -/
theorem pe_raw {k : Nat} {x : Str} {sp : Sp} (F : FnW X.prog X.w X.K X.mg X.base k x sp) (hr : RG k X.A) (hg : Gl X x) (ha : PA X (e :: es) ta) (hdb : (x == ("__debug__" : Str)) = false := by decide)
    (he : starEach (e :: es) X.env = (false, eval e X.env) :: starEach es X.env := by rfl) (hpl : (backTo pos (starEach es X.env)).any (·.1) = false := by rfl) : PE X (.Call (.Name x p) (e :: es) [] pos) (fun σ H Q => ta σ H fun vs H1 => sp vs H1 Q E0) := by
  obtain ⟨f, h1, h2, h3⟩ := F.ok
  refine ⟨fun pins sh σ H Q I h => ?_⟩
  refine wpAny_Call_Name_kw (ld_glob I hg h1 ?_ hdb)
  refine PySem.W.callWith_K (h₀ := X.base) I.ok.mod.kin h2 (thn (ha.run pos pins sh σ H _ I h) fun us s1 ⟨vs, H1, I1, r, q⟩ => ⟨I1.kIn, ?_⟩) he hpl
  refine wpAny_call (codeAny_mono (h3 X.A X.stack s1 H1 us vs Q hr I1.env0 r q) fun res s' hq => ?_)
  cases res with
  | error e => exact False.elim hq
  | ok fl =>
    cases fl with
    | ret u => exact I1.after hq
    | next => exact False.elim hq
    | brk => exact False.elim hq
    | cont => exact False.elim hq
end

theorem SqL.grow {K : PySem.W.Frag} {H H' : Hp} {a : Addr} {xs : List V} (h : SqL K H a xs) (s : Same H H') : SqL K H' a xs := by
  rcases h with (h | ⟨o, h⟩) | h
  · exact .inl (.inl (s _ _ h))
  · exact .inl (.inr ⟨o, s _ _ h⟩)
  · exact .inr h
def spOpen (K : PySem.W.Frag) : Sp := fun vs H Q _ => ∃ (a : Addr) (ns : List Int), vs = [.ref a] ∧ SqL K H a (ns.map V.int) ∧ ns.length < sizeLine ∧ ∀ (p c : Addr) (m : Int) (H' : Hp), Same H H' → H p = none → H c = none → SrcOk p c H' ⟨(ns.map fun i => if i < 0 then -i else i).reverse, 1, m, 0⟩ → Q (.ref p) H'
abbrev rMulI : R2 := rI CMul fun i j => .int (i * j)
abbrev rAddI : R2 := rI0 fun i j => .int (i + j)
abbrev rModI : R2 := rI (fun _ j => j ≠ 0) fun i j => .int (i.fmod j)
abbrev rIntC : List V → Hp → VK → Prop := fun xs H Q => (∃ i, xs = [.int i] ∧ Q (.int i) H) ∨ ∃ k, xs = [.bl k] ∧ Q (.int (if k then 1 else 0)) H
abbrev rAbsC : List V → Hp → VK → Prop := fun xs H Q => ∃ i, xs = [.int i] ∧ Q (.int (if i < 0 then -i else i)) H
def tOpenTurn : TS := tAsg (tOp rModI (tCB rIntC (tCons (tOp rAddI (tOp rAddI (tOp rMulI (tVar 1) (tC (.int 69069))) (tOp rMulI (tVar 2) (tC (.int 31)))) (tC (.int 5))) tNil)) (tC (.int 2147483629))) (gName 1)
def tOpen (K : PySem.W.Frag) : TS := tSeq (tAsg (tC (.int 11)) (gName 1)) (tSeq (tFor (iList K (tVar 0)) (gName 2) tOpenTurn)
  (tSeq (tAsg (tLc (iList K (tVar 0)) (gName 2) tYes (tCB rAbsC (tCons (tVar 2) tNil)) [2]) (gName 3))
    (tRet (tDisp [(tC (.str "cells"), tRevL K (tVar 3)), (tC (.str "left"), tC (.int 1)), (tC (.str "mixed"), tVar 1), (tC (.str "turn"), tC (.int 0))]))))
theorem xs_at {ns : List Int} (i : Nat) (x : V) (h : (ns.map V.int)[i]? = some x) : ∃ n, ns[i]? = some n ∧ x = .int n := by
  rw [List.getElem?_map] at h
  obtain ⟨n, h1, h2⟩ := Option.map_eq_some_iff.mp h
  exact ⟨n, h1, h2.symm⟩
theorem open_for {K : PySem.W.Frag} {a : Addr} {ns : List Int} {D : Ends} {H : Hp} (hs : SqL K H a (ns.map V.int)) (q : ∀ m o, D.nx [some (.ref a), some (.int m), o, none] H) : tFor (iList K (tVar 0)) (gName 2) tOpenTurn D [some (.ref a), some (.int 11), none, none] H := by
  refine ⟨_, rfl, a, rfl, ⟨_, hs⟩, ?_⟩
  refine for_list (xs := ns.map V.int) (D := D) (fun i σ H' => H' = H ∧ ∃ m o, σ = [some (.ref a), some (.int m), o, none]) ⟨rfl, 11, none, rfl⟩ (fun i σ H' _ ⟨e, _⟩ => e ▸ hs) (fun i x σ H' hx ⟨e, m, o, es⟩ => ?_) fun σ H' ⟨e, m, o, es⟩ => by subst e es; exact q m o
  subst e es
  obtain ⟨n, _, rfl⟩ := xs_at i x hx
  exact ⟨_, rfl, m, 69069, rfl, rfl, .inr (by decide), _, rfl, n, 31, rfl, rfl, .inr (by decide), _, _, rfl, rfl, _, _, rfl, rfl, .inl ⟨_, rfl, _, _, rfl, rfl, (by show (2147483629 : Int) ≠ 0; decide), rfl, _, _, rfl⟩⟩
def absF (i : Int) : Int := if i < 0 then -i else i
theorem open_lc {K : PySem.W.Frag} {a : Addr} {ns : List Int} {m : V} {o : Option V} {Q : VK} {H : Hp} (hs : SqL K H a (ns.map V.int)) (hlen : ns.length < sizeLine) (q : ∀ D, H D = none → Q (.ref D) (upd H D (.lst ((ns.map absF).map V.int)))) : tLc (iList K (tVar 0)) (gName 2) tYes (tCB rAbsC (tCons (tVar 2) tNil)) [2] [some (.ref a), some m, o, none] H Q := by
  refine ⟨_, rfl, a, rfl, ⟨_, hs⟩, fun D nD => ?_⟩
  have aD : ∀ (l : List V), Same H (upd H D (.lst l)) := fun l => same_new nD
  refine lc_list (xs := ns.map V.int) (fun i H2 => i ≤ ns.length ∧ H2 = upd H D (.lst (((ns.take i).map absF).map V.int))) ⟨Nat.zero_le _, by simp⟩ (fun i H2 _ ⟨_, e⟩ => e ▸ SqL.grow hs (aD _)) (fun i x H2 hx ⟨hi, e⟩ => ?_) fun H2 ⟨_, e⟩ => ?_
  · subst e
    obtain ⟨n, hn, rfl⟩ := xs_at i x hx
    have hlt : i < ns.length := (List.getElem?_eq_some_iff.mp hn).1
    refine ⟨by simp [wipe], ?_⟩
    refine ⟨_, rfl, n, rfl, _, upd_same, by simp; omega, hlt, ?_⟩
    rw [upd_upd, List.take_succ, hn]
    simp [absF]
  · subst e
    rw [List.length_map, List.take_length]
    exact q D nD
theorem open_ret {K : PySem.W.Frag} {a D : Addr} {ns : List Int} {m : Int} {o : Option V} {E : Ends} {H : Hp} (nD : H D = none) (q : ∀ p c H', Same H H' → H p = none → H c = none → SrcOk p c H' ⟨(ns.map absF).reverse, 1, m, 0⟩ → E.rt (.ref p) H') :
    tRet (tDisp [(tC (.str "cells"), tRevL K (tVar 3)), (tC (.str "left"), tC (.int 1)), (tC (.str "mixed"), tVar 1), (tC (.str "turn"), tC (.int 0))]) E [some (.ref a), some (.int m), o, some (.ref D)] (upd H D (.lst ((ns.map absF).map V.int))) := by
  intro p np
  have neD : D ≠ p := fun z => by subst z; rw [upd_same] at np; cases np
  refine ⟨_, rfl, D, _, rfl, SqL.of (by rw [upd_ne neD]; exact upd_same), fun c nc => ?_⟩
  have nec : c ≠ p := fun z => by subst z; rw [upd_same] at nc; cases nc
  rw [upd_ne nec] at nc
  have necD : c ≠ D := fun z => by subst z; rw [upd_same] at nc; cases nc
  refine ⟨_, rfl, ?_⟩
  refine ⟨by rw [upd_ne (Ne.symm nec)]; exact upd_same, srcKvs c ⟨(ns.map absF).reverse, 1, m, 0⟩, rfl, by show 4 ≤ 15; decide, ?_⟩
  have nH : H p = none := by rw [upd_ne (Ne.symm neD)] at np; exact np
  have nHc : H c = none := by rw [upd_ne necD] at nc; exact nc
  refine q p c _ (fun b o hb => ?_) nH nHc ⟨by rw [upd_same]; rfl, ?_⟩
  · have h1 : b ≠ p := ne_of_none hb nH
    have h2 : b ≠ c := ne_of_none hb nHc
    have h3 : b ≠ D := ne_of_none hb nD
    rw [upd_ne h1, upd_ne h2, upd_ne h1, upd_ne h3]; exact hb
  · rw [upd_ne nec, upd_same, List.map_reverse]
theorem open_pure {K : PySem.W.Frag} (vs : List V) (H : Hp) (Q : VK) (h : spOpen K vs H Q E0) : tOpen K { nx := fun _ H' => Q .non H', rt := Q } (L2.start ["script", "stirred", "cell", "cells"] vs) H := by
  obtain ⟨a, ns, rfl, hs, hlen, q⟩ := h
  rw [show L2.start ["script", "stirred", "cell", "cells"] [.ref a] = [some (.ref a), none, none, none] from rfl]
  dsimp only [tOpen, tSeq, tAsg, tC]
  refine open_for hs fun m o => ?_
  dsimp only [tSeq, tAsg]
  refine open_lc hs hlen fun D nD => ?_
  exact open_ret nD fun p c H' s n1 n2 k => q p c m H' s n1 n2 k

def spLaw (K : PySem.W.Frag) : Sp := fun vs H Q _ => ∃ (a : Addr) (ns : List Int), vs = [.ref a] ∧ ns.length ≤ 63 ∧ SqL K H a (ns.map V.int) ∧ ∀ H', Q (.bl true) H'
section
variable {P : Program} {w : World} {K : PySem.W.Frag} {mg mb : Str → Option Value} {k : Nat} {x : Str} {fa a : Addr} {s1 : Shared} {vs : List Value} {ns : List Int}
/-- the law's call from an abstract heap that tracks the script alone, or nothing -/
theorem end_core (H : Hp) (hok : HOk P w H s1.heap) (one : ∀ b, H b ≠ none → b = a) (frz : ∀ b u, H b = some u → ∃ o ys, u = .frz o (.lst ys)) (kA : H a ≠ none → K.lookup a = none) (hS : SqL K H a (ns.map V.int)) (hl : ns.length ≤ 63)
    (kin : K.In s1.heap) (hg : s1.heap.Ns mainGlobals mg) (hb : s1.heap.Ns builtinsNs mb) (hbb : ∀ x : Str, x ≠ "__name__" → mb x = bootBuiltins x) (lim : s1.heap.NoLimit) (gens : s1.gens = #[])
    (obj : ∃ c d n, s1.heap.get? a = some { cls := c, dict := d, data := .seq n }) (rg : RG k callerA) (hm : mg x = some (.ref fa))
    (F : ∀ base : Heap, K.In base → base.Ns mainGlobals mg → FnW P w K mg base k x (spLaw K)) :
    codeAny (model P w) callerA (.call (.ref fa) ⟨[.ref a], []⟩) (fun r s' => r = .ok (.ret (.bool true)) ∧ OldK s1.heap s'.heap ∧ s'.os = s1.os ∧ AllBare s'.gens) s1 := by
  obtain ⟨c, d, n, obj⟩ := obj
  have free : ∀ {b : Addr} {o : Obj} {es : Array DictEntry} {ep : Nat}, s1.heap.get? b = some o → o.data = .dict es ep → H b = none := fun {b o es ep} g e => by
    cases q : H b with
    | none => rfl
    | some u =>
      have z := one b (by rw [q]; simp)
      subst z
      rw [obj] at g
      cases g
      cases e
  have ns' : ∀ {b : Addr} {m : Str → Option Value}, s1.heap.Ns b m → (hidT s1.heap H).Ns b m := fun {b m} ⟨o, es, ep, g, e, r⟩ => ⟨o, es, ep, hidT_get g (free g e), e, r⟩
  have kin' : K.In (hidT s1.heap H) := fun b o g => hidT_get (kin b o g) (by
    cases q : H b with
    | none => rfl
    | some u =>
      have z := one b (by rw [q]; simp)
      subst z
      rw [kA (by rw [q]; simp)] at g
      cases g)
  obtain ⟨mc, l1, l2⟩ := lim
  have e0 : Env0 P w K mg (hidT s1.heap H) callerA [] s1 H :=
    ⟨rfl, ⟨kin', ns' hg, ⟨mb, ns' hb, hbb⟩, ⟨mc, ns' l1, l2⟩⟩, fun b o g => of_hidT g, Nat.le_of_eq (hidT_size _ _), trivial, (fun b hb => by cases hb), hok, .of_eq gens⟩
  obtain ⟨f, h1, h2, h3⟩ := (F _ kin' (ns' hg)).ok
  rw [hm] at h1
  cases h1
  refine codeAny_mono (h3 callerA [] s1 H [.ref a] [.ref a] (fun v _ => v = .bl true) rg e0 (.cons rfl .nil) ⟨a, ns, rfl, hl, hS, fun _ => rfl⟩) fun r s' h => ?_
  cases r with
  | error e => exact False.elim h
  | ok fl =>
    cases fl with
    | next => exact False.elim h
    | brk => exact False.elim h
    | cont => exact False.elim h
    | ret u =>
      obtain ⟨v, H', os, bare, un, hok', r', q⟩ := h
      have q' : v = .bl true := q
      subst q'
      obtain rfl : u = Value.bool true := r'
      refine ⟨rfl, OldK.of_keep fun b o g => ?_, os, bare⟩
      cases q : H b with
      | none => exact un.keep b o g q (fun z => by cases z) (by simp)
      | some u =>
        obtain ⟨ob, ys, rfl⟩ := frz b u q
        have z2 := un.frzs b ob _ q
        obtain ⟨y1, _⟩ := hok b _ q
        obtain ⟨y2, _⟩ := hok' b _ z2
        rw [g] at y1
        cases y1
        exact y2
theorem end_call (kin : K.In s1.heap) (hg : s1.heap.Ns mainGlobals mg) (hb : s1.heap.Ns builtinsNs mb) (hbb : ∀ x : Str, x ≠ "__name__" → mb x = bootBuiltins x) (lim : s1.heap.NoLimit) (gens : s1.gens = #[])
    (ha : s1.heap.get? a = some { cls := .type "list", data := .seq vs.toArray }) (hi : IntsAre vs ns) (hl : ns.length ≤ 63) (rg : RG k callerA) (hm : mg x = some (.ref fa))
    (F : ∀ base : Heap, K.In base → base.Ns mainGlobals mg → FnW P w K mg base k x (spLaw K)) :
    codeAny (model P w) callerA (.call (.ref fa) ⟨[.ref a], []⟩) (fun r s' => r = .ok (.ret (.bool true)) ∧ OldK s1.heap s'.heap ∧ s'.os = s1.os ∧ AllBare s'.gens) s1 := by
  have rv := vals_ints hi
  have lenV := hi.length
  have small : ns.length ≤ sizeLine := Nat.le_trans hl (by decide)
  cases hk : K.lookup a with
  | some o =>
    have g := kin a o hk
    rw [ha] at g
    cases g
    refine end_core (fun _ => none) (fun b u z => nomatch z) (fun b z => absurd rfl z) (fun b u z => nomatch z) (fun z => absurd rfl z) ?_ hl kin hg hb hbb lim gens ⟨_, _, _, ha⟩ rg hm F
    exact .inr ⟨_, vs.toArray, _, hk, rfl, rfl, rfl, by rw [List.size_toArray, lenV]; exact small, by simpa using rv⟩
  | none =>
    let H : Hp := fun b => if b = a then some (.frz { cls := .type "list", data := .seq vs.toArray } (.lst (ns.map V.int))) else none
    have at_ : H a = some (.frz { cls := .type "list", data := .seq vs.toArray } (.lst (ns.map V.int))) := if_pos rfl
    have off : ∀ b, b ≠ a → H b = none := fun b z => if_neg z
    refine end_core H (fun b u z => ?_) (fun b z => ?_) (fun b u z => ?_) (fun _ => hk) (.inl (.inr ⟨_, at_⟩)) hl kin hg hb hbb lim gens ⟨_, _, _, ha⟩ rg hm F
    · by_cases e : b = a
      · subst e
        rw [at_] at z
        cases z
        exact ⟨ha, by rw [List.length_map]; exact small, vs, _, rv, ha⟩
      · rw [off b e] at z
        cases z
    · by_cases e : b = a
      · exact e
      · exact absurd (off b e) z
    · by_cases e : b = a
      · subst e
        rw [at_] at z
        cases z
        exact ⟨_, _, rfl⟩
      · rw [off b e] at z
        cases z
end
/-- the walk of a law's row -/
theorem walk_law {l : PySem.W.OpenLaw} {k : Nat} {q : Program} {loose : List Str} {XP : (Str → Option Value) → Heap → Prop} {YP : World → Heap → Prop} {d : DefRec}
    (hn : l.most = some 63) (hdf : d.params.defaults = []) (rg : RG k callerA)
    (F : ∀ (w : World) (mg : Str → Option Value) (h : Heap), YP w h → h.Ns mainGlobals mg → ∃ K : PySem.W.Frag, K.In h ∧ ∀ base : Heap, K.In base → base.Ns mainGlobals mg → FnW l.prog w K mg base k d.name (spLaw K)) :
    PySem.W.WalkO q loose XP YP l.row.toRowW d [] (fun f vs => PySem.call f vs) := by
  refine Att.attach_call hn hdf fun w s₀ s1 mg mb fa o pm cd doc a vs ns G Y ho hd hcd hmg hobj hints hlen hg => ?_
  obtain ⟨K, kin, hF⟩ := F w mg _ Y G.T.g
  exact end_call kin G.T.g G.T.b G.T.builtins G.T.nolimit hg hobj hints hlen rg hmg hF

def tSx (m : M Out) : TS := fun D σ H => ∃ B, tS B m D σ H
theorem SSs.px {X : Cx} {st : List Stmt} {m : M Out} (h : SSs X st m) : PSs X st (tSx m) := ⟨fun pins s σ H D I ⟨B, q⟩ => (h.ps B).run pins s σ H D I q⟩
def tOpenCall (K : PySem.W.Frag) (i : Nat) : TS := tAsg (fun σ H Q => tCons (tVar 0) tNil σ H fun vs H1 => spOpen K vs H1 Q E0) (gName i)
def lawEnv (n i : Nat) : List (Option Sl) := (List.replicate n none).set i (some (.val .src))
theorem law_pure {K : PySem.W.Frag} {N : List Str} {i : Nat} {m : M Out} {vs : List V} {H : Hp} {Q : VK} (hi : 0 < i) (hN : i < N.length) (ok : ∀ src, ∃ s', m ⟨lawEnv N.length i, src⟩ = some (.ret (.bl true), s')) (h : spLaw K vs H Q E0) :
    tSeq (tOpenCall K i) (tSx m) { nx := fun _ H' => Q .non H', rt := Q } (L2.start N vs) H := by
  obtain ⟨a, ns, rfl, hl, hs, q⟩ := h
  have h0 : (L2.start N [V.ref a])[0]? = some (some (.ref a)) := rfl
  refine ⟨_, h0, a, ns, rfl, hs, Nat.lt_of_le_of_lt hl (by decide), fun p c mx H' sm np nc k => ?_⟩
  obtain ⟨s', e⟩ := ok ⟨(ns.map fun i => if i < 0 then -i else i).reverse, 1, mx, 0⟩
  have hlen : (L2.start N [V.ref a]).length = N.length := by
    unfold L2.start
    simp only [List.length_append, List.length_map, List.length_replicate, List.length_singleton]
    omega
  have slots : ∀ (j : Nat) (sl : Sl), (lawEnv N.length i)[j]? = some (some sl) → j = i ∧ sl = .val .src := fun j sl z => by
    unfold lawEnv at z
    by_cases e : i = j
    · subst e
      rw [List.getElem?_set_self (by simpa using hN)] at z
      cases z; exact ⟨rfl, rfl⟩
    · rw [List.getElem?_set_ne e, List.getElem?_replicate] at z
      split at z <;> cases z
  refine ⟨⟨p, c, fun b => b = p ∨ b = c, H'⟩, ⟨lawEnv N.length i, _⟩, _, s', ⟨?_, fun j d z => ?_, fun j sl z ho => ?_, fun j1 j2 sl1 sl2 b z1 o1 => ?_, k, fun b o z _ _ => z, fun b z => ?_, .inl rfl, .inr rfl⟩, e, ?_⟩
  · show (lawEnv N.length i).length = _
    rw [List.length_set, hlen]
    unfold lawEnv
    simp
  · obtain ⟨rfl, y1⟩ := slots j _ z
    cases y1
    exact ⟨.ref p, List.getElem?_set_self (by rw [hlen]; exact hN), by simp [Rp]⟩
  · obtain ⟨rfl, y1⟩ := slots j _ z
    subst y1
    cases ho
  · obtain ⟨rfl, y1⟩ := slots j1 _ z1
    subst y1
    cases o1
  · rcases z with rfl | rfl
    · exact ⟨_, k.d, by intro _ z; cases z⟩
    · exact ⟨_, k.l, by intro _ z; cases z⟩
  · intro v σ' H2 k2 ev r
    rw [rp_bl r]
    exact q H2
theorem law_fn {P : Program} {w : World} {K : PySem.W.Frag} {mg : Str → Option Value} {base : Heap} {x : Str} {params : Arguments} {st : Stmt} {rest : List Stmt} {scope : Scope} {f : Addr} {fd : FuncData} {N : List Str} {y : Str} {k i : Nat} {m : M Out}
    (F : FunD K x x params (st :: rest) scope [] [] f fd) (hm : mg x = some (.ref f)) (hb : Binds K fd [y] []) (S : FnScope N [y] scope) (hi : 0 < i) (hN : i < N.length)
    (body : ∀ (cdv : Value) (A : Around) (outer : List Env) (s : Shared) (H : Hp), RG k (A.deeper (envOfC x scope s.heap.objs.size f cdv)) →
      PS (cxOf CX0 P w K mg base N x scope f cdv A outer s H E0).nox st (tOpenCall K i) ∧ SSs (cxOf CX0 P w K mg base N x scope f cdv A outer s H E0).nox rest m)
    (ok : ∀ src, ∃ s', m ⟨lawEnv N.length i, src⟩ = some (.ret (.bl true), s')) : FnW P w K mg base (k + 1) x (spLaw K) :=
  fn_raw (t := tSeq (tOpenCall K i) (tSx m)) F hm hb S (fun vs H Q ⟨a, ns, e, _⟩ => by rw [e]; rfl) (fun cdv A outer s H hr => pss_cons (body cdv A outer s H hr).1 (body cdv A outer s H hr).2.px) fun vs H Q h => law_pure hi hN ok h
end GH

namespace GH
open PySem PySem.Spec PyProof.Rows L2

def blkB (N : List Str) (sc scope : Scope) (own : List (Str × Nat)) : Bool :=
  decide (∀ y ∈ scope.names, scope.names.lookup y.1 = some y.2) && decide (∀ p ∈ own, N[p.2]? = some p.1) &&
  decide (∀ y ∈ scope.names, y.2 = .free → sc.names.lookup y.1 = some .cell ∨ sc.names.lookup y.1 = some .free) &&
  decide (∀ y ∈ scope.names, y.2 = .local ∨ y.2 = .cell → y.1 ∈ own.map (·.1) ∨ y.1 ∉ N)
theorem blk_of {N : List Str} {sc scope : Scope} {own : List (Str × Nat)} (k : scope.kind = .function) (h : blkB N sc scope own = true) : BlkOk N sc scope own := by
  unfold blkB at h
  simp only [Bool.and_eq_true] at h
  exact ⟨k, of_decide_eq_true h.1.1.1, of_decide_eq_true h.1.1.2, of_decide_eq_true h.1.2, of_decide_eq_true h.2⟩
def lDisp (ms : M (List D)) : M (List D) := bnd ms fun ds => if ds.length ≤ sizeLine then ret ds else fail
def eTupRg (m : M D) : M D := bnd (lRg1 m) fun ds => ret (.tup ds)
section
variable {X : Cx} {es : List Expr} {pos : Pos} {ms : M (List D)}
theorem pv {i : Nat} {x : Str} (hN : X.N[i]? = some x := by rfl) (hv : Vis X.env.scope x := by first | exact Or.inl rfl | exact Or.inr (Or.inl rfl) | exact Or.inr (Or.inr rfl)) (hd : (x == ("__debug__" : Str)) = false := by decide) (hcd : (x == ("__classdict__" : Str)) = false := by decide) : PE X (.Name x pos) (tVar i) := pe_var hN hv hd hcd
theorem s_v {i : Nat} {x : Str} (hN : X.N[i]? = some x := by rfl) (hv : Vis X.env.scope x := by first | exact Or.inl rfl | exact Or.inr (Or.inl rfl) | exact Or.inr (Or.inr rfl)) (hd : (x == ("__debug__" : Str)) = false := by decide) (hcd : (x == ("__classdict__" : Str)) = false := by decide) : SE X (.Name x pos) (eVar i) := s_var (pe_var hN hv hd hcd)
theorem g_n {i : Nat} {x : Str} (hN : X.N.Nodup) (hi : X.N[i]? = some x := by rfl) (hx : Loc X.env.scope x := by first | exact Or.inl rfl | exact Or.inr rfl) (hf : X.fn x = true ∨ X.env.scope.names.lookup x = some .local := by first | exact .inl rfl | exact .inr rfl | assumption) : SG X (.Name x pos) [i] (gN i) := g_name hN hi hx hf
theorem l_dsp (h : SA X es ms) : SL X (.List es pos) (lDisp ms) := l_disp h
end
theorem RG.u64 {k : Nat} {A : Around} (h : RG k A) : A.units + 64 < cLine := by have := h.r.un; omega
theorem RG.u65 {k : Nat} {A : Around} (h : RG k A) : A.units + 65 < cLine := by have := h.r.un; omega
theorem RG.u1 {k : Nat} {A : Around} (h : RG k A) : A.units + 1 < cLine := by have := h.r.un; omega
def mPick : M Out := sSeq (sIf (tst (eBin ltD (eVar 1) (eC (.int 2)))) (sRet (eC (.int 0))) sNx)
  (mDrain 0 2 (sSeq (sSet 3 (eFld 0 Src.left))
  (sSeq (sIf (tst (eBin gtD (eVar 3) (eC (.int 1)))) (sSeq (sFld 0 (fun s z => { s with left := z }) (eBin fdivD (eVar 3) (eVar 1))) (sRet (eBin modD (eCall intG (aCons (eVar 3) aNil)) (eVar 1)))) sNx)
  (sSeq (sFld 0 (fun s z => { s with turn := z }) (eBin addD (eFld 0 Src.turn) (eC (.int 1))))
  (sSeq (sSet 4 (eFld 0 Src.turn))
  (sSeq (sSet 5 (eBin modD (eCall intG (aCons (eBin addD (eFld 0 Src.mixed) (eBin mulD (eVar 4) (eC (.int 104729)))) aNil)) (eC (.int 998244353))))
  (sSeq (sSet 5 (eBin modD (eCall intG (aCons (eBin addD (eBin mulD (eVar 5) (eVar 5)) (eBin mulD (eVar 4) (eC (.int 17)))) aNil)) (eC (.int 2147483647))))
  (sRet (eBin modD (eCall intG (aCons (eBin fdivD (eVar 5) (eC (.int 16))) aNil)) (eVar 1))))))))))
def S_pick : FnSem := fnOf 6 mPick
end GH

namespace GH
open PySem PySem.Spec PyProof.Rows L2

theorem bndE {α β : Type} (m : M α) (f : α → M β) (s : S) : bnd m f s = (match m s with
  | some (a, s1) => f a s1
  | none => none) := rfl
theorem sz (n : Nat) (h : n ≤ 100000) : n ≤ sizeLine := Nat.le_trans h (by decide)
theorem seq_nx {m n : M Out} {s s1 : S} (h : m s = some (.nx, s1)) : sSeq m n s = n s1 := by unfold sSeq; rw [bndE, h]
theorem seq_ret {m n : M Out} {s s1 : S} {d : D} (h : m s = some (.ret d, s1)) : sSeq m n s = some (.ret d, s1) := by unfold sSeq; rw [bndE, h]; rfl
theorem if_tt {t : M Bool} {m n : M Out} {s s1 : S} (h : t s = some (true, s1)) : sIf t m n s = m s1 := by unfold sIf; rw [bndE, h]; rfl
theorem if_ff {t : M Bool} {m n : M Out} {s s1 : S} (h : t s = some (false, s1)) : sIf t m n s = n s1 := by unfold sIf; rw [bndE, h]; rfl
theorem for_eq {it : M (List D)} {g : D → M Unit} {b : M Out} {s s1 : S} {ds : List D} (h : it s = some (ds, s1)) : sFor it g b s = forM g b ds s1 := by unfold sFor; rw [bndE, h]
theorem for_nil {g : D → M Unit} {b : M Out} {s : S} : forM g b [] s = some (.nx, s) := rfl
theorem for_nx {g : D → M Unit} {b : M Out} {d : D} {r : List D} {s s1 s2 : S} (h : g d s = some ((), s1)) (h2 : b s1 = some (.nx, s2)) : forM g b (d :: r) s = forM g b r s2 := by
  show bnd (g d) _ s = _
  rw [bndE, h]
  show bnd b _ s1 = _
  rw [bndE, h2]
theorem for_ret {g : D → M Unit} {b : M Out} {d : D} {r : List D} {s s1 s2 : S} {v : D} (h : g d s = some ((), s1)) (h2 : b s1 = some (.ret v, s2)) : forM g b (d :: r) s = some (.ret v, s2) := by
  show bnd (g d) _ s = _
  rw [bndE, h]
  show bnd b _ s1 = _
  rw [bndE, h2]
  rfl
theorem fn_eq {g : FnSem} {ms : M (List D)} {s : S} {env : List (Option Sl)} {c0 : Src} {ds : List D} {d : D} {c : Src} (h : ms s = some (ds, ⟨env, c0⟩)) (h2 : g ds c0 = some (d, c)) : eFn g ms s = some (d, ⟨env, c⟩) := by
  unfold eFn
  exact (bnd_eq h).trans (by show (match g ds c0 with | some (d, c) => _ | none => none) = _; rw [h2])
theorem fnOf_ret {n : Nat} {m : M Out} {ds : List D} {c c' : Src} {d : D} {env : List (Option Sl)} (h : m ⟨ds.map (fun d => some (Sl.val d)) ++ List.replicate (n - ds.length) none, c⟩ = some (.ret d, ⟨env, c'⟩)) : fnOf n m ds c = some (d, c') := by
  unfold fnOf; rw [h]

def turnC (g : D → M Unit) (c : M Bool) (el : M D) (d : D) : M (Option D) := bnd (g d) fun _ => bnd c fun b => if b = true then bnd el fun y => ret (some y) else ret none
theorem cStep_eq {vs : List Nat} {g : D → M Unit} {c : M Bool} {el : M D} {d : D} {s : S} : cStep vs g c el d s = turnC g c el d ⟨wipeE s.env vs, s.src⟩ := rfl
def cleanE (env : List (Option Sl)) (vs : List Nat) : Prop := ∀ v ∈ vs, ∀ x, env[v]? = some (some x) → ∃ d, x = .val d
theorem wipeE_at {env : List (Option Sl)} {i : Nat} : ∀ {vs : List Nat}, i ∈ vs → (wipeE env vs)[i]? = env[i]?.map fun _ => none
  | [], h => by simp at h
  | v :: vs, h => by
    unfold wipeE
    by_cases e : v = i
    · subst e
      by_cases hv : v < env.length
      · rw [List.getElem?_set_self (by rw [wipeE_len]; exact hv), List.getElem?_eq_getElem hv]; rfl
      · rw [List.getElem?_eq_none (by rw [List.length_set, wipeE_len]; omega), List.getElem?_eq_none (by omega)]; rfl
    · rw [List.getElem?_set_ne e]
      exact wipeE_at (by
        rcases List.mem_cons.mp h with z | z
        · exact absurd z.symm e
        · exact z)
theorem restE_at {env0 env : List (Option Sl)} {i : Nat} : ∀ {vs : List Nat}, i ∈ vs → i < env.length → (restE env0 env vs)[i]? = some (match env0[i]? with
    | some (some (.val d)) => some (.val d)
    | _ => none)
  | [], h, _ => by simp at h
  | v :: vs, h, hl => by
    unfold restE
    by_cases e : v = i
    · subst e
      rw [List.getElem?_set_self (by rw [restE_len]; exact hl)]
      all_goals rfl
    · rw [List.getElem?_set_ne e]
      exact restE_at (by
        rcases List.mem_cons.mp h with z | z
        · exact absurd z.symm e
        · exact z) hl
theorem restE_off {env0 env : List (Option Sl)} {i : Nat} : ∀ {vs : List Nat}, i ∉ vs → (restE env0 env vs)[i]? = env[i]?
  | [], _ => rfl
  | v :: vs, h => by
    unfold restE
    rw [List.getElem?_set_ne (by rintro rfl; exact h List.mem_cons_self), restE_off fun z => h (List.mem_cons_of_mem _ z)]
theorem rest_clean {env env1 : List (Option Sl)} {vs : List Nat} (h : wipeE env1 vs = wipeE env vs) (cl : cleanE env vs) : restE env env1 vs = env := by
  have hlen : env1.length = env.length := by rw [← wipeE_len env1 vs, h, wipeE_len]
  refine List.ext_getElem? fun i => ?_
  by_cases hi : i ∈ vs
  · by_cases hl : i < env.length
    · rw [restE_at hi (by omega), List.getElem?_eq_getElem hl]
      cases q : env[i] with
      | none => rfl
      | some x =>
        obtain ⟨d, rfl⟩ := cl i hi x (by rw [List.getElem?_eq_getElem hl, q])
        rfl
    · rw [List.getElem?_eq_none (by rw [restE_len]; omega), List.getElem?_eq_none (by omega)]
  · rw [restE_off hi, ← wipeE_get (env := env1) hi, h, wipeE_get hi]
section
variable {vs : List Nat} {g : D → M Unit} {c : M Bool} {el : M D} {it : M (List D)} {env : List (Option Sl)}
theorem compF_rel {α : Type} {enc : α → Option D} {R : D → α → Prop} : ∀ {ds : List D} {env0 : List (Option Sl)} {src : Src}, wipeE env0 vs = wipeE env vs →
    (∀ d ∈ ds, ∀ s, ∃ y env1 s', turnC g c el d ⟨wipeE env vs, s⟩ = some (enc y, ⟨env1, s'⟩) ∧ wipeE env1 vs = wipeE env vs ∧ R d y) →
    ∃ (ys : List α) (env2 : List (Option Sl)) (s' : Src), ys.length = ds.length ∧ (∀ (i : Nat) (d : D) (y : α), ds[i]? = some d → ys[i]? = some y → R d y) ∧ compF vs g c el ds ⟨env0, src⟩ = some (ys.filterMap enc, ⟨env2, s'⟩) ∧ wipeE env2 vs = wipeE env vs
  | [], env0, src, h, _ => ⟨[], env0, src, rfl, fun i d y z => by simp at z, rfl, h⟩
  | d :: r, env0, src, h, step => by
    obtain ⟨y, env1, s1, e1, w1, hy⟩ := step d List.mem_cons_self src
    obtain ⟨ys, env2, s2, hl, hr, e2, w2⟩ := compF_rel (ds := r) (env0 := env1) (src := s1) w1 fun d hd => step d (List.mem_cons_of_mem _ hd)
    refine ⟨y :: ys, env2, s2, by simp [hl], fun i d' y' h1 h2 => ?_, ?_, w2⟩
    · cases i with
      | zero => simp at h1 h2; subst h1 h2; exact hy
      | succ i => simp at h1 h2; exact hr i d' y' h1 h2
    · show bnd (cStep vs g c el d) _ _ = _
      rw [bnd_eq (show cStep vs g c el d ⟨env0, src⟩ = some (enc y, ⟨env1, s1⟩) by rw [cStep_eq]; show turnC g c el d ⟨wipeE env0 vs, src⟩ = _; rw [h]; exact e1)]
      rw [bnd_eq e2]
      show some _ = _
      rw [List.filterMap_cons]
      cases enc y <;> rfl
theorem comp_rel {α : Type} {enc : α → Option D} {R : D → α → Prop} {ds : List D} {src src1 : Src} (hit : it ⟨env, src⟩ = some (ds, ⟨env, src1⟩)) (hl : ds.length ≤ 100000) (cl : cleanE env vs)
    (step : ∀ d ∈ ds, ∀ s, ∃ y env1 s', turnC g c el d ⟨wipeE env vs, s⟩ = some (enc y, ⟨env1, s'⟩) ∧ wipeE env1 vs = wipeE env vs ∧ R d y) :
    ∃ (ys : List α) (s' : Src), ys.length = ds.length ∧ (∀ (i : Nat) (d : D) (y : α), ds[i]? = some d → ys[i]? = some y → R d y) ∧ eComp vs g c el it ⟨env, src⟩ = some (ys.filterMap enc, ⟨env, s'⟩) := by
  obtain ⟨ys, env2, s', h1, h2, h3, h4⟩ := compF_rel (src := src1) rfl step
  refine ⟨ys, s', h1, h2, ?_⟩
  unfold eComp
  refine (bnd_eq hit).trans ?_
  show (if ds.length ≤ PySem.sizeLine then (match compF vs g c el ds ⟨env, src1⟩ with
    | some (ys, sn) => some (ys, { sn with env := restE env sn.env vs })
    | none => none) else none) = _
  rw [if_pos (sz _ hl), h3]
  show some (_, (⟨restE env env2 vs, s'⟩ : S)) = _
  rw [rest_clean h4 cl]
theorem compF_pure {α : Type} {enc : α → D} {f : α → Option D} {src : Src} : ∀ {xs : List α} {env0 : List (Option Sl)}, wipeE env0 vs = wipeE env vs →
    (∀ x ∈ xs, ∃ env1, turnC g c el (enc x) ⟨wipeE env vs, src⟩ = some (f x, ⟨env1, src⟩) ∧ wipeE env1 vs = wipeE env vs) →
    ∃ env2, compF vs g c el (xs.map enc) ⟨env0, src⟩ = some (xs.filterMap f, ⟨env2, src⟩) ∧ wipeE env2 vs = wipeE env vs
  | [], env0, h, _ => ⟨env0, rfl, h⟩
  | x :: r, env0, h, step => by
    obtain ⟨env1, e1, w1⟩ := step x List.mem_cons_self
    obtain ⟨env2, e2, w2⟩ := compF_pure (xs := r) (env0 := env1) w1 fun x hx => step x (List.mem_cons_of_mem _ hx)
    refine ⟨env2, ?_, w2⟩
    show bnd (cStep vs g c el (enc x)) _ _ = _
    rw [bnd_eq (show cStep vs g c el (enc x) ⟨env0, src⟩ = some (f x, ⟨env1, src⟩) by rw [cStep_eq]; show turnC g c el (enc x) ⟨wipeE env0 vs, src⟩ = _; rw [h]; exact e1)]
    rw [bnd_eq e2]
    show some _ = _
    rw [List.filterMap_cons]
    cases f x <;> rfl
theorem comp_pure {α : Type} {enc : α → D} {f : α → Option D} {xs : List α} {src src1 : Src} (hit : it ⟨env, src⟩ = some (xs.map enc, ⟨env, src1⟩)) (hl : xs.length ≤ 100000) (cl : cleanE env vs)
    (step : ∀ x ∈ xs, ∃ env1, turnC g c el (enc x) ⟨wipeE env vs, src1⟩ = some (f x, ⟨env1, src1⟩) ∧ wipeE env1 vs = wipeE env vs) :
    eComp vs g c el it ⟨env, src⟩ = some (xs.filterMap f, ⟨env, src1⟩) := by
  obtain ⟨env2, h3, h4⟩ := compF_pure rfl step
  unfold eComp
  refine (bnd_eq hit).trans ?_
  show (if (xs.map enc).length ≤ PySem.sizeLine then (match compF vs g c el (xs.map enc) ⟨env, src1⟩ with
    | some (ys, sn) => some (ys, { sn with env := restE env sn.env vs })
    | none => none) else none) = _
  rw [if_pos (sz _ (by simpa using hl)), h3]
  show some (_, (⟨restE env env2 vs, src1⟩ : S)) = _
  rw [rest_clean h4 cl]
/-- .. that keeps each -/
theorem comp_map {α : Type} {enc : α → D} {f : α → D} {xs : List α} {src src1 : Src} (hit : it ⟨env, src⟩ = some (xs.map enc, ⟨env, src1⟩)) (hl : xs.length ≤ 100000) (cl : cleanE env vs)
    (step : ∀ x ∈ xs, ∃ env1, turnC g c el (enc x) ⟨wipeE env vs, src1⟩ = some (some (f x), ⟨env1, src1⟩) ∧ wipeE env1 vs = wipeE env vs) :
    eComp vs g c el it ⟨env, src⟩ = some (xs.map f, ⟨env, src1⟩) := by
  have := comp_pure (f := fun x => some (f x)) hit hl cl step
  rw [this]
  congr 2
  induction xs with
  | nil => rfl
  | cons x r ih => rw [List.filterMap_cons, List.map_cons]; simp
/-- .. whose elements are drawn -/
theorem comp_draw {α : Type} {enc : α → D} {R : D → α → Prop} {ds : List D} {src src1 : Src} (hit : it ⟨env, src⟩ = some (ds, ⟨env, src1⟩)) (hl : ds.length ≤ 100000) (cl : cleanE env vs)
    (step : ∀ d ∈ ds, ∀ s, ∃ y env1 s', turnC g c el d ⟨wipeE env vs, s⟩ = some (some (enc y), ⟨env1, s'⟩) ∧ wipeE env1 vs = wipeE env vs ∧ R d y) :
    ∃ (ys : List α) (s' : Src), ys.length = ds.length ∧ (∀ (i : Nat) (d : D) (y : α), ds[i]? = some d → ys[i]? = some y → R d y) ∧ eComp vs g c el it ⟨env, src⟩ = some (ys.map enc, ⟨env, s'⟩) := by
  obtain ⟨ys, s', h1, h2, h3⟩ := comp_rel (enc := fun y => some (enc y)) hit hl cl step
  refine ⟨ys, s', h1, h2, ?_⟩
  rw [h3]
  congr 2
  clear h1 h2 h3
  induction ys with
  | nil => rfl
  | cons x r ih => rw [List.filterMap_cons, List.map_cons]; simp
theorem ret_eq {m : M D} {s s1 : S} {d : D} (h : m s = some (d, s1)) : sRet m s = some (.ret d, s1) := by unfold sRet; rw [bnd_eq h]; rfl
theorem set_eq {i : Nat} {m : M D} {s : S} {env : List (Option Sl)} {c : Src} {d : D} (h : m s = some (d, ⟨env, c⟩)) (hi : i < env.length) : sSet i m s = some (.nx, ⟨env.set i (some (.val d)), c⟩) := by
  unfold sSet sAsg
  rw [bnd_eq h]
  have : gN i d ⟨env, c⟩ = some ((), ⟨env.set i (some (.val d)), c⟩) := by unfold gN; rw [if_pos hi]
  rw [bnd_eq this]
  rfl
theorem own_eq {i : Nat} {m : M (List D)} {s : S} {env : List (Option Sl)} {c : Src} {d : List D} (h : m s = some (d, ⟨env, c⟩)) (hi : i < env.length) : sOwn i m s = some (.nx, ⟨env.set i (some (.own d)), c⟩) := by
  unfold sOwn
  rw [bnd_eq h]
  have : oN i d ⟨env, c⟩ = some ((), ⟨env.set i (some (.own d)), c⟩) := by unfold oN; rw [if_pos hi]
  rw [bnd_eq this]
  rfl
theorem fld_eq {i : Nat} {m : M D} {s : S} {env : List (Option Sl)} {c : Src} {z : Int} {g : Src → Int → Src} (h : m s = some (.int z, ⟨env, c⟩)) (hi : env[i]? = some (some (.val .src))) : sFld i g m s = some (.nx, ⟨env, g c z⟩) := by
  unfold sFld
  refine (bnd_eq h).trans ?_
  show (match (D.int z), env[i]? with
    | .int z, some (some (.val .src)) => some (Out.nx, (⟨env, g c z⟩ : S))
    | _, _ => none) = _
  rw [hi]
theorem call_eq {G : List D → Option D} {ms : M (List D)} {s s1 : S} {ds : List D} {d : D} (h : ms s = some (ds, s1)) (h2 : G ds = some d) : eCall G ms s = some (d, s1) := by
  unfold eCall; rw [bnd_eq h]; show lift (G ds) s1 = _; rw [h2]; rfl
theorem cons_eq {m : M D} {ms : M (List D)} {s s1 s2 : S} {d : D} {ds : List D} (h : m s = some (d, s1)) (h2 : ms s1 = some (ds, s2)) : aCons m ms s = some (d :: ds, s2) := by
  unfold aCons; rw [bnd_eq h, bnd_eq h2]; rfl
theorem one_eq {m : M D} {s s1 : S} {d : D} (h : m s = some (d, s1)) : aCons m aNil s = some ([d], s1) := cons_eq h rfl
theorem lst_eq {m : M (List D)} {s s1 : S} {ds : List D} (h : m s = some (ds, s1)) : eLst m s = some (.lst ds, s1) := by unfold eLst; rw [bnd_eq h]; rfl
theorem bin_eq {f : D → D → Option D} {ma mb : M D} {s s1 s2 : S} {x y z : D} (h : ma s = some (x, s1)) (h2 : mb s1 = some (y, s2)) (h3 : f x y = some z) : eBin f ma mb s = some (z, s2) := by
  unfold eBin; rw [bnd_eq h, bnd_eq h2, h3]; rfl
theorem tst_eq {m : M D} {s s1 : S} {b : Bool} (h : m s = some (.bl b, s1)) : tst m s = some (b, s1) := by unfold tst; rw [bnd_eq h]; rfl
theorem tru_eq {m : M D} {s s1 : S} {b : Bool} (h : m s = some (.bl b, s1)) : tru m s = some (b, s1) := by unfold tru; rw [bnd_eq h]; rfl
end
theorem rng_map (n : Nat) : rngL 0 (n : Int) = (List.range n).map fun i => .int ((i : Nat) : Int) := by
  unfold rngL; simp
/-- a loop whose body keeps a state's form -/
theorem for_keep {g : D → M Unit} {b : M Out} {I : S → Prop} : ∀ {ds : List D} {s : S}, I s → (∀ d ∈ ds, ∀ s, I s → ∃ s1 s2, g d s = some ((), s1) ∧ b s1 = some (.nx, s2) ∧ I s2) → ∃ s', forM g b ds s = some (.nx, s') ∧ I s'
  | [], s, h, _ => ⟨s, rfl, h⟩
  | d :: r, s, h, step => by
    obtain ⟨s1, s2, e1, e2, h2⟩ := step d List.mem_cons_self s h
    obtain ⟨s', e3, h3⟩ := for_keep (ds := r) h2 fun d hd => step d (List.mem_cons_of_mem _ hd)
    exact ⟨s', by rw [for_nx e1 e2]; exact e3, h3⟩
end GH

namespace GH

theorem pick_lt (most : Int) (c : Src) (h : most < 2) : S_pick [.src, .int most] c = some (.int 0, c) := by
  refine fnOf_ret (env := [some (.val .src), some (.val (.int most)), none, none, none, none]) ?_
  unfold mPick
  refine seq_ret ?_
  rw [if_tt (s1 := ⟨[some (.val .src), some (.val (.int most)), none, none, none, none], c⟩)]
  · rfl
  · exact tst_eq (bin_eq (f := ltD) (x := .int most) (y := .int 2) rfl rfl (by simp [ltD, h]))
theorem div_ok {a b : Int} (h1 : 2 ≤ b) (h2 : b ≤ 1000000) : fdivD (.int a) (.int b) = some (.int (a.fdiv b)) := by
  show (if L2.CDivN a b then some (D.int (a.fdiv b)) else if L2.CDivW a b then some (D.int (a / b)) else none) = _
  rw [if_pos ⟨by omega, by omega⟩]
theorem mod_ok {a b : Int} (h1 : b ≠ 0) : modD (.int a) (.int b) = some (.int (a.fmod b)) := by
  show (if b ≠ 0 then some (D.int (a.fmod b)) else none) = _
  rw [if_pos h1]
theorem pick_ok (most : Int) (c : Src) (h : 2 ≤ most) (h2 : most ≤ 1000000) : ∃ r c', S_pick [.src, .int most] c = some (.int r, c') ∧ 0 ≤ r ∧ r < most := by
  have h0 : most ≠ 0 := by omega
  have go : ∀ a : Int, 0 ≤ a.fmod most ∧ a.fmod most < most := fun a => ⟨Int.fmod_nonneg_of_pos a (by omega), Int.fmod_lt_of_pos a (by omega)⟩
  let e0 : List (Option Sl) := [some (.val .src), some (.val (.int most)), none, none, none, none]
  let s1 := drain c
  have start : ∀ {d c'} {env : List (Option Sl)}, (sSeq (sIf (tst (eBin gtD (eVar 3) (eC (.int 1)))) (sSeq (sFld 0 (fun s z => { s with left := z }) (eBin fdivD (eVar 3) (eVar 1))) (sRet (eBin modD (eCall intG (aCons (eVar 3) aNil)) (eVar 1)))) sNx)
      (sSeq (sFld 0 (fun s z => { s with turn := z }) (eBin addD (eFld 0 Src.turn) (eC (.int 1))))
      (sSeq (sSet 4 (eFld 0 Src.turn))
      (sSeq (sSet 5 (eBin modD (eCall intG (aCons (eBin addD (eFld 0 Src.mixed) (eBin mulD (eVar 4) (eC (.int 104729)))) aNil)) (eC (.int 998244353))))
      (sSeq (sSet 5 (eBin modD (eCall intG (aCons (eBin addD (eBin mulD (eVar 5) (eVar 5)) (eBin mulD (eVar 4) (eC (.int 17)))) aNil)) (eC (.int 2147483647))))
      (sRet (eBin modD (eCall intG (aCons (eBin fdivD (eVar 5) (eC (.int 16))) aNil)) (eVar 1)))))))) ⟨e0.set 3 (some (.val (.int s1.left))), s1⟩ = some (.ret d, ⟨env, c'⟩) → S_pick [.src, .int most] c = some (d, c') := fun {d c' env} hh => by
    refine fnOf_ret (env := env) ?_
    unfold mPick
    rw [seq_nx (s1 := ⟨e0, c⟩)]
    · show sSeq _ _ ⟨e0, s1⟩ = _
      rw [seq_nx (s1 := ⟨e0.set 3 (some (.val (.int s1.left))), s1⟩) rfl]
      exact hh
    · rw [if_ff (s1 := ⟨e0, c⟩)]
      · rfl
      · exact tst_eq (bin_eq (f := ltD) (x := .int most) (y := .int 2) (by rfl) (by rfl) (by simp [ltD]; omega))
  by_cases hl : 1 < s1.left
  · refine ⟨s1.left.fmod most, { s1 with left := s1.left.fdiv most }, start (env := e0.set 3 (some (.val (.int s1.left)))) ?_, go _⟩
    refine seq_ret ?_
    rw [if_tt (s1 := ⟨e0.set 3 (some (.val (.int s1.left))), s1⟩) (tst_eq (bin_eq (f := gtD) (x := .int s1.left) (y := .int 1) (by rfl) (by rfl) (by simp [gtD, hl])))]
    rw [seq_nx (s1 := ⟨e0.set 3 (some (.val (.int s1.left))), { s1 with left := s1.left.fdiv most }⟩)]
    · exact ret_eq (bin_eq (f := modD) (x := .int s1.left) (y := .int most) (by rfl) (by rfl) (mod_ok h0))
    · exact fld_eq (bin_eq (f := fdivD) (x := .int s1.left) (y := .int most) (by rfl) (by rfl) (div_ok h h2)) rfl
  · let t : Int := s1.turn + 1
    let c2 : Src := { s1 with turn := t }
    let a : Int := (s1.mixed + t * 104729).fmod 998244353
    let b : Int := (a * a + t * 17).fmod 2147483647
    have ha : 0 ≤ a ∧ a < 998244353 := ⟨Int.fmod_nonneg_of_pos _ (by decide), Int.fmod_lt_of_pos _ (by decide)⟩
    have m1 : ∀ x y : Int, -(2 ^ 64) < y → y < 2 ^ 64 → mulD (.int x) (.int y) = some (.int (x * y)) := fun x y h1 h2 => by
      show (if L2.CMul x y then some (D.int (x * y)) else if L2.CMulW x y then some (D.int (x * y)) else none) = _
      rw [if_pos (.inr ⟨h1, h2⟩)]
    refine ⟨(b.fdiv 16).fmod most, c2, start (env := ((e0.set 3 (some (.val (.int s1.left)))).set 4 (some (.val (.int t)))).set 5 (some (.val (.int b)))) ?_, go _⟩
    rw [seq_nx (s1 := ⟨e0.set 3 (some (.val (.int s1.left))), s1⟩)]
    · rw [seq_nx (s1 := ⟨e0.set 3 (some (.val (.int s1.left))), c2⟩) rfl]
      rw [seq_nx (s1 := ⟨(e0.set 3 (some (.val (.int s1.left)))).set 4 (some (.val (.int t))), c2⟩) rfl]
      rw [seq_nx (s1 := ⟨((e0.set 3 (some (.val (.int s1.left)))).set 4 (some (.val (.int t)))).set 5 (some (.val (.int a))), c2⟩)]
      · rw [seq_nx (s1 := ⟨((e0.set 3 (some (.val (.int s1.left)))).set 4 (some (.val (.int t)))).set 5 (some (.val (.int b))), c2⟩)]
        · refine ret_eq (bin_eq (f := modD) (x := .int (b.fdiv 16)) (y := .int most) (call_eq (ds := [.int (b.fdiv 16)]) (one_eq (bin_eq (f := fdivD) (x := .int b) (y := .int 16) (by rfl) (by rfl) (div_ok (by decide) (by decide)))) (by rfl)) (by rfl) (mod_ok h0))
        · refine (set_eq (c := c2) (env := ((e0.set 3 (some (.val (.int s1.left)))).set 4 (some (.val (.int t)))).set 5 (some (.val (.int a)))) (bin_eq (f := modD) (x := .int (a * a + t * 17)) (y := .int 2147483647) (call_eq (ds := [.int (a * a + t * 17)]) (one_eq (bin_eq (f := addD) (s1 := ⟨((e0.set 3 (some (.val (.int s1.left)))).set 4 (some (.val (.int t)))).set 5 (some (.val (.int a))), c2⟩) (x := .int (a * a)) (y := .int (t * 17)) ?_ ?_ (by rfl))) (by rfl)) (by rfl) (mod_ok (by decide))) (by show 5 < 6; decide)).trans (by rfl)
          · exact bin_eq (f := mulD) (x := .int a) (y := .int a) (by rfl) (by rfl) (m1 _ _ (by omega) (by omega))
          · exact bin_eq (f := mulD) (x := .int t) (y := .int 17) (by rfl) (by rfl) (m1 _ _ (by decide) (by decide))
      · refine set_eq (bin_eq (f := modD) (x := .int (s1.mixed + t * 104729)) (y := .int 998244353) (call_eq (ds := [.int (s1.mixed + t * 104729)]) (one_eq (bin_eq (f := addD) (x := .int s1.mixed) (y := .int (t * 104729)) (by rfl) ?_ (by rfl))) (by rfl)) (by rfl) (mod_ok (by decide))) (by show 5 < 6; decide)
        exact bin_eq (f := mulD) (x := .int t) (y := .int 104729) (by rfl) (by rfl) (m1 _ _ (by decide) (by decide))
    · rw [if_ff (s1 := ⟨e0.set 3 (some (.val (.int s1.left))), s1⟩) (tst_eq (bin_eq (f := gtD) (x := .int s1.left) (y := .int 1) (by rfl) (by rfl) (by simp [gtD]; omega)))]
      rfl
/-- a draw below most -/
theorem pick_any (most : Int) (c : Src) (h1 : 1 ≤ most) (h2 : most ≤ 1000000) : ∃ r c', S_pick [.src, .int most] c = some (.int r, c') ∧ 0 ≤ r ∧ r < most := by
  by_cases h : most < 2
  · exact ⟨0, c, pick_lt most c h, by omega, by omega⟩
  · exact pick_ok most c (by omega) h2
end GH

namespace GH
open PySem (PyData)

mutual
/-- ints, texts, None, and what is made of them -/
def D.nice : D → Bool
  | .non => true
  | .int _ => true
  | .str s => PyData.strOk s
  | .tup ds => D.niceAll ds
  | .lst ds => D.niceAll ds
  | _ => false
def D.niceAll : List D → Bool
  | [] => true
  | d :: ds => d.nice && D.niceAll ds
end
mutual
theorem D.nice_can : ∀ d : D, d.nice = true → d.py.canLay0 = true
  | .non, _ => by simp [D.py, PyData.canLay0]
  | .int _, _ => by simp [D.py, PyData.canLay0]
  | .str s, h => by simpa [D.nice, D.py, PyData.canLay0] using h
  | .tup ds, h => by
    simp only [D.py, PyData.canLay0]
    exact D.niceAll_can ds (by simpa [D.nice] using h)
  | .lst ds, h => by
    simp only [D.py, PyData.canLay0]
    exact D.niceAll_can ds (by simpa [D.nice] using h)
  | .bl _, h => by simp [D.nice] at h
  | .rng _ _, h => by simp [D.nice] at h
  | .src, h => by simp [D.nice] at h
  | .dct _ _, h => by simp [D.nice] at h
  | .dtt _ _, h => by simp [D.nice] at h
theorem D.niceAll_can : ∀ ds : List D, D.niceAll ds = true → PyData.canLayAll0 (D.pys ds) = true
  | [], _ => by simp [D.pys, PyData.canLayAll0]
  | d :: ds, h => by
    simp only [D.niceAll, Bool.and_eq_true] at h
    simp only [D.pys, PyData.canLayAll0, Bool.and_eq_true]
    exact ⟨D.nice_can d h.1, D.niceAll_can ds h.2⟩
end
mutual
theorem D.eqv_nice : ∀ a b : D, a.nice = true → b.nice = true → (PyData.eqv a.py b.py = true ↔ a = b)
  | .non, b, _, hb => by cases b <;> simp [D.nice] at hb <;> simp [D.py, PyData.eqv]
  | .int i, b, _, hb => by cases b <;> simp [D.nice] at hb <;> simp [D.py, PyData.eqv]
  | .str i, b, _, hb => by cases b <;> simp [D.nice] at hb <;> simp [D.py, PyData.eqv]
  | .tup ds, b, ha, hb => by
    cases b <;> simp only [D.nice] at hb <;> try (simp [D.py, PyData.eqv]; done)
    · simp only [D.py, PyData.eqv, D.tup.injEq]
      exact D.eqvAll_nice ds _ (by simpa [D.nice] using ha) hb
    all_goals cases hb
  | .lst ds, b, ha, hb => by
    cases b <;> simp only [D.nice] at hb <;> try (simp [D.py, PyData.eqv]; done)
    · simp only [D.py, PyData.eqv, D.lst.injEq]
      exact D.eqvAll_nice ds _ (by simpa [D.nice] using ha) hb
    all_goals cases hb
  | .bl _, _, h, _ => by simp [D.nice] at h
  | .rng _ _, _, h, _ => by simp [D.nice] at h
  | .src, _, h, _ => by simp [D.nice] at h
  | .dct _ _, _, h, _ => by simp [D.nice] at h
  | .dtt _ _, _, h, _ => by simp [D.nice] at h
theorem D.eqvAll_nice : ∀ a b : List D, D.niceAll a = true → D.niceAll b = true → (PyData.eqvAll (D.pys a) (D.pys b) = true ↔ a = b)
  | [], b, _, _ => by cases b <;> simp [D.pys, PyData.eqvAll]
  | x :: a, [], _, _ => by simp [D.pys, PyData.eqvAll]
  | x :: a, y :: b, ha, hb => by
    simp only [D.niceAll, Bool.and_eq_true] at ha hb
    simp only [D.pys, PyData.eqvAll, Bool.and_eq_true, List.cons.injEq]
    rw [D.eqv_nice x y ha.1 hb.1, D.eqvAll_nice a b ha.2 hb.2]
end
/-- a tree that == takes -/
def D.ok (d : D) : Prop := d.nice = true ∧ d.py.depth ≤ 64
theorem D.ok.shaped {d : D} (h : d.ok) : PySem.SeqAt.shaped d.py = true := by
  unfold PySem.SeqAt.shaped
  rw [Bool.and_eq_true]
  exact ⟨D.nice_can d h.1, decide_eq_true h.2⟩
theorem eqD_same {a : D} (h : a.ok) : eqD a a = some (.bl true) := by
  unfold eqD
  rw [if_pos ⟨h.shaped, h.shaped⟩, (D.eqv_nice a a h.1 h.1).mpr rfl]
theorem neD_same {a : D} (h : a.ok) : neD a a = some (.bl false) := by
  unfold neD
  rw [if_pos ⟨h.shaped, h.shaped⟩, (D.eqv_nice a a h.1 h.1).mpr rfl]
  rfl
theorem eqD_iff {a b : D} (h : a.ok) (h2 : b.ok) {p : Prop} [Decidable p] (hp : a = b ↔ p) : eqD a b = some (.bl (decide p)) := by
  unfold eqD
  rw [if_pos ⟨h.shaped, h2.shaped⟩]
  have := D.eqv_nice a b h.1 h2.1
  by_cases q : p
  · rw [this.mpr (hp.mpr q), decide_eq_true q]
  · rw [decide_eq_false q]
    cases e : PyData.eqv a.py b.py with
    | false => rfl
    | true => exact absurd (hp.mp (this.mp e)) q
theorem neD_iff {a b : D} (h : a.ok) (h2 : b.ok) {p : Prop} [Decidable p] (hp : a = b ↔ p) : neD a b = some (.bl (!decide p)) := by
  have := eqD_iff h h2 hp
  unfold eqD at this
  unfold neD
  rw [if_pos ⟨h.shaped, h2.shaped⟩] at this ⊢
  have e := Option.some.inj this
  have e : PyData.eqv a.py b.py = decide p := by injection e
  rw [e]
theorem D.ok_int (i : Int) : (D.int i).ok := ⟨rfl, by simp [D.py, PyData.depth]⟩
theorem D.ok_non : D.non.ok := ⟨rfl, by simp [D.py, PyData.depth]⟩
theorem niceAll_of : ∀ {ds : List D}, (∀ d ∈ ds, d.nice = true) → D.niceAll ds = true
  | [], _ => by simp [D.niceAll]
  | d :: ds, h => by
    simp only [D.niceAll, Bool.and_eq_true]
    exact ⟨h d List.mem_cons_self, niceAll_of fun x hx => h x (List.mem_cons_of_mem _ hx)⟩
theorem depthAll_of {n : Nat} : ∀ {ds : List D}, (∀ d ∈ ds, d.py.depth ≤ n) → PyData.depthAll (D.pys ds) ≤ n
  | [], _ => by simp [D.pys, PyData.depthAll]
  | d :: ds, h => by
    simp only [D.pys, PyData.depthAll]
    exact Nat.max_le.mpr ⟨h d List.mem_cons_self, depthAll_of fun x hx => h x (List.mem_cons_of_mem _ hx)⟩
/-- .. of a depth -/
def D.okN (n : Nat) (d : D) : Prop := d.nice = true ∧ d.py.depth ≤ n
theorem D.okN.ok {n : Nat} {d : D} (h : d.okN n) (hn : n ≤ 64 := by decide) : d.ok := ⟨h.1, Nat.le_trans h.2 hn⟩
theorem D.okN_int {n : Nat} (i : Int) : (D.int i).okN n := ⟨rfl, by simp [D.py, PyData.depth]⟩
theorem D.okN_tup {n : Nat} {ds : List D} (h : ∀ d ∈ ds, d.okN n) : (D.tup ds).okN (n + 1) :=
  ⟨by simp only [D.nice]; exact niceAll_of fun d hd => (h d hd).1, by simp only [D.py, PyData.depth]; exact Nat.succ_le_succ (depthAll_of fun d hd => (h d hd).2)⟩
theorem D.okN_lst {n : Nat} {ds : List D} (h : ∀ d ∈ ds, d.okN n) : (D.lst ds).okN (n + 1) :=
  ⟨by simp only [D.nice]; exact niceAll_of fun d hd => (h d hd).1, by simp only [D.py, PyData.depth]; exact Nat.succ_le_succ (depthAll_of fun d hd => (h d hd).2)⟩
theorem eqD_int (i j : Int) : eqD (.int i) (.int j) = some (.bl (decide (i = j))) := eqD_iff (D.ok_int i) (D.ok_int j) ⟨fun h => by injection h, fun h => by rw [h]⟩
theorem neD_int (i j : Int) : neD (.int i) (.int j) = some (.bl (!decide (i = j))) := neD_iff (D.ok_int i) (D.ok_int j) ⟨fun h => by injection h, fun h => by rw [h]⟩

theorem memD_ints (i : Int) : ∀ xs : List Int, memD (.int i) (xs.map D.int) = decide (i ∈ xs)
  | [] => by simp [memD, D.pys]
  | x :: xs => by
    have ih := memD_ints i xs
    unfold memD at ih ⊢
    rw [List.map_cons]
    simp only [D.pys, List.any_cons]
    rw [ih]
    simp only [D.py, PyData.eqv]
    by_cases h : i = x
    · subst h; simp
    · have : ¬ x = i := fun z => h z.symm
      simp [h, this]
theorem okIn_ints (i : Int) (xs : List Int) : okIn (.int i) (xs.map D.int) := by
  have h : (D.lst (xs.map D.int)).okN 1 := D.okN_lst (n := 0) fun d hd => by
    obtain ⟨x, _, rfl⟩ := List.mem_map.mp hd
    exact D.okN_int x
  refine ⟨(D.ok_int i).shaped, by simpa only [D.py] using h.ok.shaped, ?_⟩
  have := D.nice_can _ h.1
  simpa only [D.py, PyData.canLay0] using this

theorem perm_map_inv {α : Type} {f : α → D} : ∀ {l l' : List D}, l.Perm l' → ∀ xs : List α, l' = xs.map f → ∃ ys : List α, ys.Perm xs ∧ l = ys.map f := by
  intro l l' h
  induction h with
  | nil => intro xs e; exact ⟨xs, .refl _, e⟩
  | @cons a l1 l2 h ih =>
    intro xs e
    cases xs with
    | nil => cases e
    | cons x xs =>
      rw [List.map_cons] at e
      cases e
      obtain ⟨ys, p, e2⟩ := ih xs rfl
      exact ⟨x :: ys, p.cons x, by rw [e2, List.map_cons]⟩
  | swap a b l =>
    intro xs e
    match xs, e with
    | x :: y :: xs, e =>
      rw [List.map_cons, List.map_cons] at e
      injection e with e1 e2
      injection e2 with e2 e3
      exact ⟨y :: x :: xs, List.Perm.swap x y xs, by rw [List.map_cons, List.map_cons, ← e1, ← e2, ← e3]⟩
  | trans _ _ ih1 ih2 =>
    intro xs e
    obtain ⟨ys, p, e1⟩ := ih2 xs e
    obtain ⟨zs, p2, e2⟩ := ih1 ys e1
    exact ⟨zs, p2.trans p, e2⟩
/-- two tuples of ints, each not empty -/
theorem alike_ints (a b : List Int) : PySem.W.alike (D.tup (a.map D.int)).py (D.tup (b.map D.int)).py = true := by
  simp only [D.py, PySem.W.alike]
  induction a generalizing b with
  | nil => simp [D.pys, PySem.W.alikeAll]
  | cons x a ih =>
    cases b with
    | nil => simp [D.pys, PySem.W.alikeAll]
    | cons y b =>
      rw [List.map_cons, List.map_cons]
      simp only [D.pys, PySem.W.alikeAll, D.py, PySem.W.alike, Bool.true_and]
      exact ih b
theorem okSort_ints (vs : List (List Int)) (h : ∀ v ∈ vs, v ≠ []) : okSort (D.pys (vs.map fun v => D.tup (v.map D.int))) = true := by
  have mem : ∀ p ∈ D.pys (vs.map fun v => D.tup (v.map D.int)), ∃ v ∈ vs, p = (D.tup (v.map D.int)).py := fun p hp => by
    rw [pys_map, List.map_map] at hp
    obtain ⟨v, hv, rfl⟩ := List.mem_map.mp hp
    exact ⟨v, hv, rfl⟩
  have okt : ∀ v : List Int, (D.tup (v.map D.int)).okN 1 := fun v => D.okN_tup (n := 0) fun d hd => by
    obtain ⟨x, _, rfl⟩ := List.mem_map.mp hd
    exact D.okN_int x
  unfold okSort
  simp only [Bool.and_eq_true, Bool.or_eq_true]
  refine ⟨⟨⟨List.all_eq_true.mpr fun a ha => List.all_eq_true.mpr fun b hb => ?_, .inl (List.all_eq_true.mpr fun a ha => ?_)⟩, List.all_eq_true.mpr fun a ha => ?_⟩, ?_⟩
  · obtain ⟨v, _, rfl⟩ := mem a ha
    obtain ⟨u, _, rfl⟩ := mem b hb
    exact alike_ints v u
  · obtain ⟨v, hv, rfl⟩ := mem a ha
    cases v with
    | nil => exact absurd rfl (h _ hv)
    | cons x r => simp [D.py, D.pys]
  · obtain ⟨v, hv, rfl⟩ := mem a ha
    exact decide_eq_true (Nat.le_trans (okt v).2 (by decide))
  · exact D.niceAll_can _ (niceAll_of fun d hd => by
      obtain ⟨v, _, rfl⟩ := List.mem_map.mp hd
      exact (okt v).1)
theorem srt_ints (vs : List (List Int)) (h : ∀ v ∈ vs, v ≠ []) (hl : vs.length ≤ 100000) : ∃ us : List (List Int), us.Perm vs ∧ srtG [.lst (vs.map fun v => D.tup (v.map D.int))] = some (us.map fun v => D.tup (v.map D.int)) := by
  obtain ⟨us, p, e⟩ := perm_map_inv (List.mergeSort_perm (vs.map fun v => D.tup (v.map D.int)) (PySem.W.dataLe false D.py)) vs rfl
  refine ⟨us, p, ?_⟩
  show (if okSort (D.pys (vs.map fun v => D.tup (v.map D.int))) = true ∧ (vs.map fun v => D.tup (v.map D.int)).length ≤ PySem.sizeLine then some ((vs.map fun v => D.tup (v.map D.int)).mergeSort (PySem.W.dataLe false D.py)) else none) = _
  rw [if_pos ⟨okSort_ints vs h, sz _ (by simpa using hl)⟩, e]

theorem wipeE_sub {env : List (Option Sl)} {us vs : List Nat} (h : ∀ u ∈ us, u ∈ vs) : wipeE (wipeE env us) vs = wipeE env vs := by
  refine List.ext_getElem? fun i => ?_
  by_cases hi : i ∈ vs
  · rw [wipeE_at hi, wipeE_at hi]
    by_cases hu : i ∈ us
    · rw [wipeE_at hu]; cases env[i]? <;> rfl
    · rw [wipeE_get hu]
  · rw [wipeE_get hi, wipeE_get hi, wipeE_get fun z => hi (h i z)]
theorem outF_map {α β : Type} {vs vs1 : List Nat} {g g1 : D → M Unit} {c1 : M Bool} {el : M D} {it1 : M (List D)} {env : List (Option Sl)} {enc : α → D} {enc1 : β → D} {f : α → β → D} {ys : List β} {src : Src} (sub : ∀ i ∈ vs1, i ∈ vs) : ∀ {xs : List α} {env0 : List (Option Sl)}, wipeE env0 vs = wipeE env vs →
    (∀ x ∈ xs, ∃ env1, g (enc x) ⟨wipeE env vs, src⟩ = some ((), ⟨env1, src⟩) ∧ wipeE env1 vs = wipeE env vs ∧ it1 ⟨env1, src⟩ = some (ys.map enc1, ⟨env1, src⟩) ∧
      ∀ y ∈ ys, ∃ env2, turnC g1 c1 el (enc1 y) ⟨wipeE env1 vs1, src⟩ = some (some (f x y), ⟨env2, src⟩) ∧ wipeE env2 vs1 = wipeE env1 vs1) →
    ∃ env2, outF vs (cOut vs vs1 g (ret true) it1 g1 c1 el) (xs.map enc) ⟨env0, src⟩ = some (xs.flatMap fun x => ys.map (f x), ⟨env2, src⟩) ∧ wipeE env2 vs = wipeE env vs
  | [], env0, h, _ => ⟨env0, rfl, h⟩
  | x :: r, env0, h, step => by
    obtain ⟨env1, e1, w1, i1, t1⟩ := step x List.mem_cons_self
    obtain ⟨envE, eE, wE⟩ := compF_pure (vs := vs1) (g := g1) (c := c1) (el := el) (env := env1) (enc := enc1) (f := fun y => some (f x y)) (src := src) (xs := ys) (env0 := env1) rfl t1
    have eE2 : (ys.filterMap fun y => some (f x y)) = ys.map (f x) := by
      clear t1 i1 eE
      induction ys with
      | nil => rfl
      | cons y r ih => rw [List.filterMap_cons, List.map_cons]; simp
    rw [eE2] at eE
    have wE2 : wipeE envE vs = wipeE env vs := by rw [← wipeE_sub (env := envE) sub, wE, wipeE_sub sub, w1]
    obtain ⟨env2, e2, w2⟩ := outF_map sub (xs := r) (env0 := envE) wE2 fun x hx => step x (List.mem_cons_of_mem _ hx)
    refine ⟨env2, ?_, w2⟩
    have hc : cOut vs vs1 g (ret true) it1 g1 c1 el (enc x) ⟨env0, src⟩ = some (ys.map (f x), ⟨envE, src⟩) := by
      show bnd (g (enc x)) _ ⟨wipeE env0 vs, src⟩ = _
      rw [h, bnd_eq e1, bnd_eq (a := true) (s1 := ⟨env1, src⟩) rfl, if_pos rfl, bnd_eq i1]
      exact eE
    show bnd (cOut vs vs1 g (ret true) it1 g1 c1 el (enc x)) _ _ = _
    rw [bnd_eq hc, bnd_eq e2]
    rfl
theorem comp2_map {α β : Type} {vs vs1 : List Nat} {g g1 : D → M Unit} {c1 : M Bool} {el : M D} {it it1 : M (List D)} {env : List (Option Sl)} {enc : α → D} {enc1 : β → D} {f : α → β → D} {xs : List α} {ys : List β} {src src1 : Src} (sub : ∀ i ∈ vs1, i ∈ vs)
    (hit : it ⟨env, src⟩ = some (xs.map enc, ⟨env, src1⟩)) (hl : (xs.flatMap fun x => ys.map (f x)).length ≤ 100000) (cl : cleanE env vs)
    (step : ∀ x ∈ xs, ∃ env1, g (enc x) ⟨wipeE env vs, src1⟩ = some ((), ⟨env1, src1⟩) ∧ wipeE env1 vs = wipeE env vs ∧ it1 ⟨env1, src1⟩ = some (ys.map enc1, ⟨env1, src1⟩) ∧
      ∀ y ∈ ys, ∃ env2, turnC g1 c1 el (enc1 y) ⟨wipeE env1 vs1, src1⟩ = some (some (f x y), ⟨env2, src1⟩) ∧ wipeE env2 vs1 = wipeE env1 vs1) :
    eComp2 vs vs1 g (ret true) it1 g1 c1 el it ⟨env, src⟩ = some (xs.flatMap fun x => ys.map (f x), ⟨env, src1⟩) := by
  obtain ⟨env2, h3, h4⟩ := outF_map sub rfl step
  unfold eComp2
  refine (bnd_eq hit).trans ?_
  show (match outF vs (cOut vs vs1 g (ret true) it1 g1 c1 el) (xs.map enc) ⟨env, src1⟩ with
    | some (ys, sn) => if ys.length ≤ PySem.sizeLine then some (ys, { sn with env := restE env sn.env vs }) else none
    | none => none) = _
  rw [h3]
  show (if (xs.flatMap fun x => ys.map (f x)).length ≤ PySem.sizeLine then some (xs.flatMap fun x => ys.map (f x), (⟨restE env env2 vs, src1⟩ : S)) else none) = _
  rw [if_pos (sz _ hl), rest_clean h4 cl]
theorem enum_range (ds : List D) : enumF 0 ds = (List.range ds.length).map fun i => D.tup [.int ((i : Nat) : Int), ds.getD i .non] := by
  refine List.ext_getElem? fun i => ?_
  rw [enumF_get, List.getElem?_map]
  by_cases h : i < ds.length
  · rw [List.getElem?_range h, List.getElem?_eq_getElem h]
    simp [List.getD_eq_getElem?_getD, List.getElem?_eq_getElem h]
  · rw [List.getElem?_eq_none (by omega), List.getElem?_eq_none (by simpa using h)]
    rfl
end GH

namespace GH
open PySem PySem.Spec PyProof.Rows L2

/-- a mark that keeps rewriting out of what is marked -/
inductive Ph {α : Sort u} (a : α) : Type where
  | mk
def Wp {α : Type} (m : M α) (s : S) (Q : α → S → Prop) (_ : Ph (m, Q) := .mk) : Prop := ∃ a s', m s = some (a, s') ∧ Q a s'
def Sm {α : Type} (o : Option α) (P : α → Prop) (_ : Ph P := .mk) : Prop := ∃ a, o = some a ∧ P a
def Cl (g : FnSem) (ds : List D) (c : Src) (R : D → Src → Prop) (_ : Ph R := .mk) : Prop := ∃ d c', g ds c = some (d, c') ∧ R d c'
/-- what follows by a truth -/
def IfB (b : Bool) (P P' : Prop) (_ : Ph P := .mk) (_ : Ph P' := .mk) : Prop := (b = true → P) ∧ (b = false → P')
/-- what follows a statement: the next one, or the way out -/
def Nx (o : Out) (P : Prop) (R : Out → Prop) (_ : Ph P := .mk) (_ : Ph R := .mk) : Prop := match o with
  | .nx => P
  | o => R o
def VarAt (env : List (Option Sl)) (i : Nat) (P : D → Prop) (_ : Ph P := .mk) : Prop := ∃ d, env[i]? = some (some (.val d)) ∧ P d
def SlAt (env : List (Option Sl)) (i : Nat) (P : Sl → Prop) (_ : Ph P := .mk) : Prop := ∃ d, env[i]? = some (some d) ∧ P d
def OwnAt (env : List (Option Sl)) (i : Nat) (P : List D → Prop) (_ : Ph P := .mk) : Prop := ∃ d, env[i]? = some (some (.own d)) ∧ P d
def SetAt (env : List (Option Sl)) (i : Nat) (x : Option Sl) (P : List (Option Sl) → Prop) (_ : Ph P := .mk) (_ : Ph x := .mk) : Prop := i < env.length ∧ P (env.set i x)
/-- a slot read whole: an own one is own no more -/
def FrzAt (env : List (Option Sl)) (i : Nat) (P : D → List (Option Sl) → Prop) (_ : Ph P := .mk) : Prop := ∃ sl, env[i]? = some (some sl) ∧ P sl.bor (env.set i (some (.val sl.bor)))
def LenOk (ds : List D) (P : Prop) (_ : Ph P := .mk) : Prop := ds.length ≤ sizeLine ∧ P
def IsB (d : D) (P : Bool → Prop) (_ : Ph P := .mk) : Prop := ∃ b, d = .bl b ∧ P b
def IsI (d : D) (P : Int → Prop) (_ : Ph P := .mk) : Prop := ∃ b, d = .int b ∧ P b

section
variable {α β : Type} {s : S} {c : Src} {env : List (Option Sl)}

theorem Wp.mono {m : M α} {Q Q' : α → S → Prop} (h : Wp m s Q) (f : ∀ a s', Q a s' → Q' a s') : Wp m s Q' := by
  obtain ⟨a, s', e, q⟩ := h; exact ⟨a, s', e, f a s' q⟩
theorem Cl.mono {g : FnSem} {ds : List D} {R R' : D → Src → Prop} (h : Cl g ds c R) (f : ∀ a s', R a s' → R' a s') : Cl g ds c R' := by
  obtain ⟨a, s', e, q⟩ := h; exact ⟨a, s', e, f a s' q⟩
theorem Wp.eq {m : M α} {a : α} {s' : S} (h : Wp m s fun x t => x = a ∧ t = s') : m s = some (a, s') := by
  obtain ⟨x, t, e, rfl, rfl⟩ := h; exact e
theorem Wp.of {m : M α} {a : α} {s' : S} {Q : α → S → Prop} (h : m s = some (a, s')) (q : Q a s') : Wp m s Q := ⟨a, s', h, q⟩
theorem wp_cg {m : M α} {Q Q' : α → S → Prop} (h : ∀ a s', Q a s' ↔ Q' a s') : Wp m s Q ↔ Wp m s Q' := ⟨fun z => z.mono fun a s' => (h a s').mp, fun z => z.mono fun a s' => (h a s').mpr⟩
theorem sm_cg {o : Option α} {Q Q' : α → Prop} (h : ∀ a, Q a ↔ Q' a) : Sm o Q ↔ Sm o Q' := ⟨fun ⟨a, e, q⟩ => ⟨a, e, (h a).mp q⟩, fun ⟨a, e, q⟩ => ⟨a, e, (h a).mpr q⟩⟩
theorem ifB_cg {b : Bool} {P P' R R' : Prop} (h : P ↔ P') (h2 : R ↔ R') : IfB b P R ↔ IfB b P' R' := by unfold IfB; rw [h, h2]
theorem wp_eq {m : M α} {a : α} {s' : S} {Q : α → S → Prop} (h : m s = some (a, s')) : Wp m s Q ↔ Q a s' :=
  ⟨fun ⟨x, t, e, q⟩ => by rw [h] at e; cases e; exact q, fun q => ⟨a, s', h, q⟩⟩
theorem wp_bnd {m : M α} {f : α → M β} {Q : β → S → Prop} : Wp (bnd m f) s Q ↔ Wp m s fun a s1 => Wp (f a) s1 Q := by
  constructor
  · rintro ⟨b, s2, e, q⟩
    obtain ⟨a, s1, e1, e2⟩ := bnd_some e
    exact ⟨a, s1, e1, b, s2, e2, q⟩
  · rintro ⟨a, s1, e1, b, s2, e2, q⟩
    exact ⟨b, s2, by rw [bnd_eq e1]; exact e2, q⟩
theorem wp_ret {a : α} {Q : α → S → Prop} : Wp (ret a) s Q ↔ Q a s := wp_eq rfl
theorem wp_lift {o : Option α} {Q : α → S → Prop} : Wp (lift o) s Q ↔ Sm o fun a => Q a s := by
  constructor
  · rintro ⟨a, s1, e, q⟩
    obtain ⟨e1, rfl⟩ := lift_some e
    exact ⟨a, e1, q⟩
  · rintro ⟨a, rfl, q⟩
    exact ⟨a, s, rfl, q⟩
theorem wp_fail {Q : α → S → Prop} : Wp fail s Q ↔ False := ⟨fun ⟨_, _, e, _⟩ => (by cases e), False.elim⟩
theorem sm_some {a : α} {P : α → Prop} : Sm (some a) P ↔ P a := ⟨fun ⟨_, e, p⟩ => by cases e; exact p, fun p => ⟨a, rfl, p⟩⟩
theorem sm_none {P : α → Prop} : Sm (none : Option α) P ↔ False := ⟨fun ⟨_, e, _⟩ => (by cases e), False.elim⟩
theorem sm_eq {o : Option α} {a : α} {P : α → Prop} (h : o = some a) : Sm o P ↔ P a := by rw [h]; exact sm_some
theorem sm_ite {p : Prop} [Decidable p] {a : Option α} {P : α → Prop} : Sm (if p then a else none) P ↔ p ∧ Sm a P := by
  by_cases h : p
  · rw [if_pos h]; simp [h]
  · rw [if_neg h, sm_none]; simp [h]
theorem sm_map {o : Option α} {f : α → β} {P : β → Prop} : Sm (o.map f) P ↔ Sm o fun a => P (f a) := by
  constructor
  · rintro ⟨b, e, p⟩
    obtain ⟨a, e1, rfl⟩ := Option.map_eq_some_iff.mp e
    exact ⟨a, e1, p⟩
  · rintro ⟨a, rfl, p⟩; exact ⟨_, rfl, p⟩
theorem sm_bind {o : Option α} {f : α → Option β} {P : β → Prop} : Sm (o.bind f) P ↔ Sm o fun a => Sm (f a) P := by
  constructor
  · rintro ⟨b, e, p⟩
    obtain ⟨a, e1, e2⟩ := Option.bind_eq_some_iff.mp e
    exact ⟨a, e1, b, e2, p⟩
  · rintro ⟨a, rfl, b, e, p⟩; exact ⟨b, e, p⟩
theorem cl_eq {g : FnSem} {ds : List D} {c' : Src} {d : D} {R : D → Src → Prop} (h : g ds c = some (d, c')) : Cl g ds c R ↔ R d c' :=
  ⟨fun ⟨x, t, e, q⟩ => by rw [h] at e; cases e; exact q, fun q => ⟨d, c', h, q⟩⟩
theorem Cl.eq {g : FnSem} {ds : List D} {c' : Src} {d : D} (h : Cl g ds c fun x t => x = d ∧ t = c') : g ds c = some (d, c') := by
  obtain ⟨x, t, e, rfl, rfl⟩ := h; exact e

theorem ifB_tt {P P' : Prop} : IfB true P P' ↔ P := by simp [IfB]
theorem ifB_ff {P P' : Prop} : IfB false P P' ↔ P' := by simp [IfB]
theorem ifB_dec {p : Prop} [Decidable p] {P P' : Prop} : IfB (decide p) P P' ↔ (p → P) ∧ (¬ p → P') := by simp [IfB]
theorem ifB_not {b : Bool} {P P' : Prop} : IfB (!b) P P' ↔ IfB b P' P := by cases b <;> simp [IfB]
theorem ifB_var {b : Bool} {P P' : Prop} : IfB b P P' ↔ (b = true → P) ∧ (b = false → P') := Iff.rfl
theorem nx_nx {P : Prop} {R : Out → Prop} : Nx .nx P R ↔ P := Iff.rfl
theorem nx_ret {P : Prop} {d : D} {R : Out → Prop} : Nx (.ret d) P R ↔ R (.ret d) := Iff.rfl
theorem nx_brk {P : Prop} {R : Out → Prop} : Nx .brk P R ↔ R .brk := Iff.rfl
theorem nx_cnt {P : Prop} {R : Out → Prop} : Nx .cnt P R ↔ R .cnt := Iff.rfl
theorem ownAt_cg {i : Nat} {P P' : List D → Prop} (h : ∀ d, P d ↔ P' d) : OwnAt env i P ↔ OwnAt env i P' := ⟨fun ⟨d, e, p⟩ => ⟨d, e, (h d).mp p⟩, fun ⟨d, e, p⟩ => ⟨d, e, (h d).mpr p⟩⟩
theorem setAt_cg {i : Nat} {x : Option Sl} {P P' : List (Option Sl) → Prop} (h : ∀ d, P d ↔ P' d) : SetAt env i x P ↔ SetAt env i x P' := ⟨fun ⟨e, p⟩ => ⟨e, (h _).mp p⟩, fun ⟨e, p⟩ => ⟨e, (h _).mpr p⟩⟩
theorem varAt_z {d : D} {r : List (Option Sl)} {P : D → Prop} : VarAt (some (.val d) :: r) 0 P ↔ P d := ⟨fun ⟨_, e, p⟩ => by cases e; exact p, fun p => ⟨d, rfl, p⟩⟩
theorem varAt_s {x : Option Sl} {i : Nat} {r : List (Option Sl)} {P : D → Prop} : VarAt (x :: r) (i + 1) P ↔ VarAt r i P := by unfold VarAt; simp only [List.getElem?_cons_succ]
theorem slAt_z {d : Sl} {r : List (Option Sl)} {P : Sl → Prop} : SlAt (some d :: r) 0 P ↔ P d := ⟨fun ⟨_, e, p⟩ => by cases e; exact p, fun p => ⟨d, rfl, p⟩⟩
theorem slAt_s {x : Option Sl} {i : Nat} {r : List (Option Sl)} {P : Sl → Prop} : SlAt (x :: r) (i + 1) P ↔ SlAt r i P := by unfold SlAt; simp only [List.getElem?_cons_succ]
theorem ownAt_z {d : List D} {r : List (Option Sl)} {P : List D → Prop} : OwnAt (some (.own d) :: r) 0 P ↔ P d := ⟨fun ⟨_, e, p⟩ => by cases e; exact p, fun p => ⟨d, rfl, p⟩⟩
theorem ownAt_s {x : Option Sl} {i : Nat} {r : List (Option Sl)} {P : List D → Prop} : OwnAt (x :: r) (i + 1) P ↔ OwnAt r i P := by unfold OwnAt; simp only [List.getElem?_cons_succ]
theorem setAt_z {x y : Option Sl} {r : List (Option Sl)} {P : List (Option Sl) → Prop} : SetAt (y :: r) 0 x P ↔ P (x :: r) := by unfold SetAt; simp
theorem setAt_s {x y : Option Sl} {i : Nat} {r : List (Option Sl)} {P : List (Option Sl) → Prop} : SetAt (y :: r) (i + 1) x P ↔ SetAt r i x fun r' => P (y :: r') := by unfold SetAt; simp
theorem frzAt_z {sl : Sl} {r : List (Option Sl)} {P : D → List (Option Sl) → Prop} : FrzAt (some sl :: r) 0 P ↔ P sl.bor (some (.val sl.bor) :: r) := ⟨fun ⟨_, e, p⟩ => by cases e; exact p, fun p => ⟨sl, rfl, p⟩⟩
theorem frzAt_s {y : Option Sl} {i : Nat} {r : List (Option Sl)} {P : D → List (Option Sl) → Prop} : FrzAt (y :: r) (i + 1) P ↔ FrzAt r i fun d r' => P d (y :: r') := by unfold FrzAt; simp
theorem bor_val {d : D} : (Sl.val d).bor = d := rfl
theorem bor_own {d : List D} : (Sl.own d).bor = .lst d := rfl
theorem bor_ownK {ks : List Key} {d : List D} : (Sl.ownK ks d).bor = .dct ks d := rfl
theorem bor_ownT {ks : List (List Key)} {d : List D} : (Sl.ownT ks d).bor = .dtt ks d := rfl
theorem len_0 {P : Prop} : LenOk [] P ↔ P := by simp [LenOk]
theorem len_1 {a : D} {P : Prop} : LenOk [a] P ↔ P := by have := line63; simp [LenOk, sizeLine_eq]
theorem len_2 {a b : D} {P : Prop} : LenOk [a, b] P ↔ P := by simp [LenOk, sizeLine_eq]
theorem len_3 {a b c : D} {P : Prop} : LenOk [a, b, c] P ↔ P := by simp [LenOk, sizeLine_eq]
theorem len_4 {a b c d : D} {P : Prop} : LenOk [a, b, c, d] P ↔ P := by simp [LenOk, sizeLine_eq]
theorem len_5 {a b c d e : D} {P : Prop} : LenOk [a, b, c, d, e] P ↔ P := by simp [LenOk, sizeLine_eq]
theorem len_6 {a b c d e f : D} {P : Prop} : LenOk [a, b, c, d, e, f] P ↔ P := by simp [LenOk, sizeLine_eq]
theorem len_any {ds : List D} {P : Prop} : LenOk ds P ↔ ds.length ≤ 16777216 ∧ P := by simp only [LenOk, sizeLine_eq]
theorem isB_bl {b : Bool} {P : Bool → Prop} : IsB (.bl b) P ↔ P b := ⟨fun ⟨_, e, p⟩ => by cases e; exact p, fun p => ⟨b, rfl, p⟩⟩
theorem isI_int {b : Int} {P : Int → Prop} : IsI (.int b) P ↔ P b := ⟨fun ⟨_, e, p⟩ => by cases e; exact p, fun p => ⟨b, rfl, p⟩⟩

section
variable {Q : D → S → Prop} {ma mb mc m : M D} {ms : M (List D)} {f g : D → D → Option D}
theorem wp_var {i : Nat} : Wp (eVar i) ⟨env, c⟩ Q ↔ VarAt env i fun d => Q d ⟨env, c⟩ := by
  constructor
  · rintro ⟨a, s', e, q⟩
    unfold eVar at e
    split at e
    · rename_i d hd; cases e; exact ⟨_, hd, q⟩
    · cases e
  · rintro ⟨d, e, q⟩
    exact ⟨d, _, by unfold eVar; rw [e], q⟩
theorem wp_frz {i : Nat} : Wp (eFrz i) ⟨env, c⟩ Q ↔ FrzAt env i fun d env' => Q d ⟨env', c⟩ := by
  have hs : ∀ {sl : Sl}, env[i]? = some (some sl) → eFrz i ⟨env, c⟩ = some (sl.bor, ⟨env.set i (some (.val sl.bor)), c⟩) := fun {sl} h => by
    unfold eFrz
    rw [h]
    cases sl with
    | val d =>
      have : env.set i (some (.val d)) = env := by
        obtain ⟨hl, e⟩ := List.getElem?_eq_some_iff.mp h
        rw [← e]; exact List.set_getElem_self hl
      show some (d, (⟨env, c⟩ : S)) = some (d, ⟨env.set i (some (.val d)), c⟩)
      rw [this]
    | own ds => rfl
    | ownK ks ds => rfl
    | ownT ks ds => rfl
  constructor
  · rintro ⟨a, s', e, q⟩
    cases h : env[i]? with
    | none => unfold eFrz at e; rw [show (⟨env, c⟩ : S).env[i]? = none from h] at e; cases e
    | some x =>
      cases x with
      | none => unfold eFrz at e; rw [show (⟨env, c⟩ : S).env[i]? = some none from h] at e; cases e
      | some sl => rw [hs h] at e; cases e; exact ⟨sl, h, q⟩
  · rintro ⟨sl, e, q⟩
    exact ⟨_, _, hs e, q⟩
theorem wp_C {d : D} : Wp (eC d) s Q ↔ Q d s := wp_eq rfl
theorem wp_bin : Wp (eBin f ma mb) s Q ↔ Wp ma s fun x s1 => Wp mb s1 fun y s2 => Sm (f x y) fun d => Q d s2 := wp_bnd.trans (wp_cg fun _ _ => wp_bnd.trans (wp_cg fun _ _ => wp_lift))
theorem wp_un {f : D → Option D} : Wp (eUn f ma) s Q ↔ Wp ma s fun x s1 => Sm (f x) fun d => Q d s1 := wp_bnd.trans (wp_cg fun _ _ => wp_lift)
theorem wp_tst {Q : Bool → S → Prop} : Wp (tst m) s Q ↔ Wp m s fun d s1 => IsB d fun b => Q b s1 := by
  have go : ∀ (d : D) s1, Wp (match d with | .bl b => ret b | _ => (fail : M Bool)) s1 Q ↔ IsB d fun b => Q b s1 := fun d s1 => by
    constructor
    · rintro ⟨b, s2, e, q⟩
      cases d <;> first | (cases e; done) | (obtain ⟨rfl, rfl⟩ := ret_some e; exact ⟨_, rfl, q⟩)
    · rintro ⟨b, rfl, q⟩; exact ⟨b, s1, rfl, q⟩
  unfold tst; rw [wp_bnd]; exact ⟨fun h => h.mono fun d s1 => (go d s1).mp, fun h => h.mono fun d s1 => (go d s1).mpr⟩
theorem wp_tru {Q : Bool → S → Prop} : Wp (tru m) s Q ↔ Wp m s fun d s1 => Sm (truD d) fun b => Q b s1 := wp_bnd.trans (wp_cg fun _ _ => wp_lift)
theorem wp_iteB {b : Bool} {m n : M α} {Q : α → S → Prop} : Wp (if b = true then m else n) s Q ↔ IfB b (Wp m s Q) (Wp n s Q) := by
  cases b <;> simp [IfB]
theorem wp_and2 {m n : M Bool} {Q : Bool → S → Prop} : Wp (tAnd2 m n) s Q ↔ Wp m s fun b s1 => IfB b (Wp n s1 Q) (Q false s1) := wp_bnd.trans (wp_cg fun _ _ => wp_iteB.trans (ifB_cg Iff.rfl wp_ret))
theorem wp_or2 {m n : M Bool} {Q : Bool → S → Prop} : Wp (tOr2 m n) s Q ↔ Wp m s fun b s1 => IfB b (Q true s1) (Wp n s1 Q) := wp_bnd.trans (wp_cg fun _ _ => wp_iteB.trans (ifB_cg wp_ret Iff.rfl))
theorem wp_not1 {m : M Bool} {Q : Bool → S → Prop} : Wp (tNot1 m) s Q ↔ Wp m s fun b s1 => Q (!b) s1 := wp_bnd.trans (wp_cg fun _ _ => wp_ret)
theorem wp_eAnd : Wp (eAnd ma mb) s Q ↔ Wp ma s fun x s1 => Sm (truD x) fun b => IfB b (Wp mb s1 Q) (Q x s1) := wp_bnd.trans (wp_cg fun _ _ => wp_bnd.trans (wp_lift.trans (sm_cg fun _ => wp_iteB.trans (ifB_cg Iff.rfl wp_ret))))
theorem wp_eOr : Wp (eOr ma mb) s Q ↔ Wp ma s fun x s1 => Sm (truD x) fun b => IfB b (Q x s1) (Wp mb s1 Q) := wp_bnd.trans (wp_cg fun _ _ => wp_bnd.trans (wp_lift.trans (sm_cg fun _ => wp_iteB.trans (ifB_cg wp_ret Iff.rfl))))
theorem wp_eNot : Wp (eNot ma) s Q ↔ Wp ma s fun x s1 => Sm (truD x) fun b => Q (.bl (!b)) s1 := wp_bnd.trans (wp_cg fun _ _ => wp_bnd.trans (wp_lift.trans (sm_cg fun _ => wp_ret)))
theorem wp_eIf {t : M Bool} : Wp (eIf t ma mb) s Q ↔ Wp t s fun b s1 => IfB b (Wp ma s1 Q) (Wp mb s1 Q) := wp_bnd.trans (wp_cg fun _ _ => wp_iteB)
theorem wp_chain : Wp (eChain f g ma mb mc) s Q ↔ Wp ma s fun x s1 => Wp mb s1 fun y s2 => Sm (f x y) fun z => IsB z fun b => IfB b (Wp mc s2 fun w s3 => Sm (g y w) fun d => Q d s3) (Q (.bl false) s2) := by
  have go : ∀ (z y : D) s2, Wp (match z with | .bl true => bnd mc fun w => lift (g y w) | .bl false => ret (.bl false) | _ => (fail : M D)) s2 Q ↔ IsB z fun b => IfB b (Wp mc s2 fun w s3 => Sm (g y w) fun d => Q d s3) (Q (.bl false) s2) := fun z y s2 => by
    cases z with
    | bl b =>
      rw [isB_bl]
      cases b with
      | true => rw [ifB_tt]; exact wp_bnd.trans (wp_cg fun _ _ => wp_lift)
      | false => rw [ifB_ff]; exact wp_ret
    | _ => exact ⟨fun ⟨_, _, e, _⟩ => (by cases e), fun ⟨_, e, _⟩ => (by cases e)⟩
  unfold eChain
  rw [wp_bnd]
  refine ⟨fun h => h.mono fun x s1 h => ?_, fun h => h.mono fun x s1 h => ?_⟩
  · exact (wp_bnd.mp h).mono fun y s2 h => by
      obtain ⟨z, e, h⟩ := wp_lift.mp (show Wp (lift (f x y)) s2 _ from wp_bnd.mp h)
      exact ⟨z, e, (go z y s2).mp h⟩
  · exact wp_bnd.mpr (h.mono fun y s2 h => wp_bnd.mpr (wp_lift.mpr (by
      obtain ⟨z, e, h⟩ := h
      exact ⟨z, e, (go z y s2).mpr h⟩)))
theorem wp_aNil {Q : List D → S → Prop} : Wp aNil s Q ↔ Q [] s := wp_eq rfl
theorem wp_aCons {Q : List D → S → Prop} : Wp (aCons m ms) s Q ↔ Wp m s fun d s1 => Wp ms s1 fun ds s2 => Q (d :: ds) s2 := wp_bnd.trans (wp_cg fun _ _ => wp_bnd.trans (wp_cg fun _ _ => wp_ret))
theorem wp_aStar {Q : List D → S → Prop} : Wp (aStar m ms) s Q ↔ Wp m s fun d s1 => Sm (seqD d) fun xs => Wp ms s1 fun ds s2 => Q (xs ++ ds) s2 := wp_bnd.trans (wp_cg fun _ _ => wp_bnd.trans (wp_lift.trans (sm_cg fun _ => wp_bnd.trans (wp_cg fun _ _ => wp_ret))))
theorem wp_lenIf {ds : List D} {x : α} {Q : α → S → Prop} : Wp (if ds.length ≤ sizeLine then ret x else fail) s Q ↔ LenOk ds (Q x s) := by
  unfold LenOk
  by_cases h : ds.length ≤ sizeLine
  · rw [if_pos h, wp_ret]; simp [h]
  · rw [if_neg h, wp_fail]; simp [h]
theorem wp_tup : Wp (eTup ms) s Q ↔ Wp ms s fun ds s1 => LenOk ds (Q (.tup ds) s1) := wp_bnd.trans (wp_cg fun _ _ => wp_lenIf)
theorem wp_disp {Q : List D → S → Prop} : Wp (lDisp ms) s Q ↔ Wp ms s fun ds s1 => LenOk ds (Q ds s1) := wp_bnd.trans (wp_cg fun _ _ => wp_lenIf)
theorem wp_lst : Wp (eLst ms) s Q ↔ Wp ms s fun ds s1 => Q (.lst ds) s1 := wp_bnd.trans (wp_cg fun _ _ => wp_ret)
theorem wp_call {G : List D → Option D} : Wp (eCall G ms) s Q ↔ Wp ms s fun ds s1 => Sm (G ds) fun d => Q d s1 := wp_bnd.trans (wp_cg fun _ _ => wp_lift)
theorem wp_callL {G : List D → Option (List D)} {Q : List D → S → Prop} : Wp (eCallL G ms) s Q ↔ Wp ms s fun ds s1 => Sm (G ds) fun d => Q d s1 := wp_bnd.trans (wp_cg fun _ _ => wp_lift)
theorem wp_binL {f : D → D → Option (List D)} {Q : List D → S → Prop} : Wp (eBinL f ma mb) s Q ↔ Wp ma s fun x s1 => Wp mb s1 fun y s2 => Sm (f x y) fun d => Q d s2 := wp_bnd.trans (wp_cg fun _ _ => wp_bnd.trans (wp_cg fun _ _ => wp_lift))
theorem wp_fn {g : FnSem} : Wp (eFn g ms) s Q ↔ Wp ms s fun ds s1 => Cl g ds s1.src fun d c' => Q d ⟨s1.env, c'⟩ := by
  constructor
  · rintro ⟨d, s', e, q⟩
    obtain ⟨ds, s1, e1, e2⟩ := bnd_some e
    refine ⟨ds, s1, e1, ?_⟩
    split at e2
    · rename_i d' c' h; cases e2; exact ⟨_, _, h, q⟩
    · cases e2
  · rintro ⟨ds, s1, e1, d, c', e2, q⟩
    refine ⟨d, _, ?_, q⟩
    unfold eFn
    refine (bnd_eq e1).trans ?_
    show (match g ds s1.src with | some (d, c) => some (d, { s1 with src := c }) | none => none) = _
    rw [e2]
theorem wp_fld {i : Nat} {f : Src → Int} : Wp (eFld i f) ⟨env, c⟩ Q ↔ VarAt env i fun d => d = .src ∧ Q (.int (f c)) ⟨env, c⟩ := by
  constructor
  · rintro ⟨a, s', e, q⟩
    unfold eFld at e
    split at e
    · rename_i hd; cases e; exact ⟨_, hd, rfl, q⟩
    · cases e
  · rintro ⟨d, e, rfl, q⟩
    exact ⟨_, _, by unfold eFld; rw [e], q⟩
theorem wp_oNo {Q : Option Int → S → Prop} : Wp oNo s Q ↔ Q none s := wp_eq rfl
theorem wp_oAt {Q : Option Int → S → Prop} : Wp (oAt m) s Q ↔ Wp m s fun d s1 => IsI d fun i => Q (some i) s1 := by
  have go : ∀ (d : D) s1, Wp (match d with | .int i => ret (some i) | _ => (fail : M (Option Int))) s1 Q ↔ IsI d fun i => Q (some i) s1 := fun d s1 => by
    constructor
    · rintro ⟨b, s2, e, q⟩
      cases d <;> first | (cases e; done) | (obtain ⟨rfl, rfl⟩ := ret_some e; exact ⟨_, rfl, q⟩)
    · rintro ⟨b, rfl, q⟩; exact ⟨_, s1, rfl, q⟩
  unfold oAt; rw [wp_bnd]; exact ⟨fun h => h.mono fun d s1 => (go d s1).mp, fun h => h.mono fun d s1 => (go d s1).mpr⟩
theorem wp_sl {lo hi : M (Option Int)} : Wp (eSl m lo hi) s Q ↔ Wp m s fun d s1 => Wp lo s1 fun l s2 => Wp hi s2 fun h s3 => Sm (slD l h d) fun z => Q z s3 := wp_bnd.trans (wp_cg fun _ _ => wp_bnd.trans (wp_cg fun _ _ => wp_bnd.trans (wp_cg fun _ _ => wp_lift)))
theorem wp_ixO {i : Nat} : Wp (eIxO i mb) ⟨env, c⟩ Q ↔ SlAt env i fun _ => Wp mb ⟨env, c⟩ fun d s1 => SlAt s1.env i fun sl => Sm (ownIx sl d) fun y => Q y s1 := by
  constructor
  · rintro ⟨a, s', e, q⟩
    unfold eIxO at e
    split at e
    · rename_i sl0 h0
      refine ⟨sl0, h0, ?_⟩
      obtain ⟨d, s1, e1, e2⟩ := bnd_some e
      refine ⟨d, s1, e1, ?_⟩
      split at e2
      · rename_i sl h1
        split at e2
        · rename_i y hy; cases e2; exact ⟨sl, h1, _, hy, q⟩
        · cases e2
      · cases e2
    · cases e
  · rintro ⟨sl0, h0, d, s1, e1, sl, h1, y, hy, q⟩
    refine ⟨y, s1, ?_, q⟩
    unfold eIxO
    rw [show (⟨env, c⟩ : S).env[i]? = some (some sl0) from h0]
    refine (bnd_eq e1).trans ?_
    show (match s1.env[i]? with | some (some sl) => (match ownIx sl d with | some y => some (y, s1) | none => none) | _ => none) = _
    rw [h1]
    show (match ownIx sl d with | some y => some (y, s1) | none => none) = _
    rw [hy]
theorem wp_here {i : Nat} {Q : Unit → S → Prop} : Wp (ownHere i) ⟨env, c⟩ Q ↔ OwnAt env i fun _ => Q () ⟨env, c⟩ := by
  constructor
  · rintro ⟨a, s', e, q⟩
    obtain ⟨rfl, ds, h⟩ := own_here e
    exact ⟨ds, h, q⟩
  · rintro ⟨ds, e, q⟩
    exact ⟨(), _, by unfold ownHere; rw [e], q⟩
theorem wp_putL {i : Nat} {f : List D → Option (List D)} {Q : Unit → S → Prop} : Wp (putL i f) ⟨env, c⟩ Q ↔ OwnAt env i fun ds => Sm (f ds) fun ds' => SetAt env i (some (.own ds')) fun e => Q () ⟨e, c⟩ := by
  constructor
  · rintro ⟨a, s', e, q⟩
    obtain ⟨ds, ds', h1, h2, rfl⟩ := put_L e
    exact ⟨ds, h1, ds', h2, (List.getElem?_eq_some_iff.mp h1).1, q⟩
  · rintro ⟨ds, h1, ds', h2, _, q⟩
    exact ⟨(), _, by unfold putL; rw [show (⟨env, c⟩ : S).env[i]? = _ from h1]; show (match f ds with | some ds' => some ((), (⟨env.set i (some (.own ds')), c⟩ : S)) | none => none) = _; rw [h2], q⟩
theorem wp_app {i : Nat} : Wp (eApp i m) ⟨env, c⟩ Q ↔ OwnAt env i fun _ => Wp m ⟨env, c⟩ fun d s1 => Wp (putL i (appL d)) s1 fun _ s2 => Q .non s2 := by
  exact wp_bnd.trans (wp_here.trans (ownAt_cg fun _ => wp_bnd.trans (wp_cg fun _ _ => wp_bnd.trans (wp_cg fun _ _ => wp_ret))))
theorem sm_app {d : D} {ds : List D} {P : List D → Prop} : Sm (appL d ds) P ↔ ds.length < 16777216 ∧ P (ds ++ [d]) := by
  unfold appL; rw [sm_ite, sm_some, sizeLine_eq]
theorem wp_pop {i : Nat} : Wp (ePop i) ⟨env, c⟩ Q ↔ OwnAt env i fun ds => Sm (popL ds) fun p => SetAt env i (some (.own p.2)) fun e => Q p.1 ⟨e, c⟩ := by
  constructor
  · rintro ⟨a, s', e, q⟩
    unfold ePop at e
    split at e
    · rename_i ds h
      split at e
      · rename_i d ds' h2; cases e; exact ⟨ds, h, (a, ds'), h2, (List.getElem?_eq_some_iff.mp h).1, q⟩
      · cases e
    · cases e
  · rintro ⟨ds, h1, ⟨d, ds'⟩, h2, _, q⟩
    exact ⟨d, _, by unfold ePop; rw [show (⟨env, c⟩ : S).env[i]? = _ from h1]; show (match popL ds with | some (d, ds') => some (d, (⟨env.set i (some (.own ds')), c⟩ : S)) | none => none) = _; rw [h2], q⟩
theorem sm_popL {ds : List D} {P : D × List D → Prop} : Sm (popL ds) P ↔ Sm ds.getLast? fun d => P (d, ds.dropLast) := by unfold popL; exact sm_map
theorem wp_popAt {i : Nat} : Wp (ePopAt i m) ⟨env, c⟩ Q ↔ OwnAt env i fun _ => Wp m ⟨env, c⟩ fun d s1 => OwnAt s1.env i fun ds => Sm (popAtL d ds) fun p => SetAt s1.env i (some (.own p.2)) fun e => Q p.1 ⟨e, s1.src⟩ := by
  have go : ∀ (d : D) (s1 : S), Wp (fun s => match s.env[i]? with
    | some (some (.own ds)) => (match popAtL d ds with
      | some (d, ds') => some (d, (⟨s.env.set i (some (.own ds')), s.src⟩ : S))
      | none => none)
    | _ => none) s1 Q ↔ OwnAt s1.env i fun ds => Sm (popAtL d ds) fun p => SetAt s1.env i (some (.own p.2)) fun e => Q p.1 ⟨e, s1.src⟩ := fun d s1 => by
    constructor
    · rintro ⟨a, s', e, q⟩
      dsimp only at e
      split at e
      · rename_i ds h
        split at e
        · rename_i d ds' h2; cases e; exact ⟨ds, h, (a, ds'), h2, (List.getElem?_eq_some_iff.mp h).1, q⟩
        · cases e
      · cases e
    · rintro ⟨ds, h1, ⟨d', ds'⟩, h2, _, q⟩
      exact ⟨d', _, by dsimp only; rw [h1]; dsimp only; rw [h2], q⟩
  exact wp_bnd.trans (wp_here.trans (ownAt_cg fun _ => wp_bnd.trans (wp_cg go)))
def borF (is : List Nat) : Nat → List (Option Sl) → List (Option Sl)
  | _, [] => []
  | k, x :: r => borSl (is.contains k) x :: borF is (k + 1) r
theorem borE_F (is : List Nat) (env : List (Option Sl)) : borE is env = borF is 0 env := by
  have go : ∀ (env : List (Option Sl)) (k : Nat), env.mapIdx (fun j x => borSl (is.contains (j + k)) x) = borF is k env := fun env => by
    induction env with
    | nil => intro k; rfl
    | cons x r ih =>
      intro k
      rw [List.mapIdx_cons, borF, ← ih (k + 1), Nat.zero_add]
      congr 2
      funext j y
      rw [Nat.add_right_comm, Nat.add_assoc]
  exact go env 0
theorem bor_z {b : Bool} {d : D} : borSl b (some (.val d)) = some (.val d) := rfl
theorem bor_tt {sl : Sl} : borSl true (some sl) = some (.val sl.bor) := by cases sl <;> rfl
theorem bor_no {b : Bool} : borSl b none = none := rfl
theorem wp_bor {is : List Nat} : Wp (eBor is m) ⟨env, c⟩ Q ↔ Wp m ⟨borF is 0 env, c⟩ fun d s1 => d.isFlat = true ∧ Q d ⟨env, s1.src⟩ := by
  rw [← borE_F]
  constructor
  · rintro ⟨a, s', e, q⟩
    unfold eBor at e
    split at e
    · rename_i d s1 h
      split at e
      · rename_i hf; cases e; exact ⟨_, s1, h, hf, q⟩
      · cases e
    · cases e
  · rintro ⟨d, s1, e, hf, q⟩
    exact ⟨d, _, by unfold eBor; rw [show m ⟨borE is (⟨env, c⟩ : S).env, (⟨env, c⟩ : S).src⟩ = _ from e]; show (if d.isFlat = true then some (d, (⟨env, s1.src⟩ : S)) else none) = _; rw [if_pos hf], q⟩
theorem wp_tBor {is : List Nat} {m : M Bool} {Q : Bool → S → Prop} : Wp (tBor is m) ⟨env, c⟩ Q ↔ Wp m ⟨borF is 0 env, c⟩ fun d s1 => Q d ⟨env, s1.src⟩ := by
  rw [← borE_F]
  constructor
  · rintro ⟨a, s', e, q⟩
    unfold tBor at e
    split at e
    · rename_i d s1 h
      cases e; exact ⟨_, s1, h, q⟩
    · cases e
  · rintro ⟨d, s1, e, q⟩
    exact ⟨d, _, by unfold tBor; rw [show m ⟨borE is (⟨env, c⟩ : S).env, (⟨env, c⟩ : S).src⟩ = _ from e], q⟩
theorem isFlat_int {i : Int} : (D.int i).isFlat = true ↔ True := by simp [D.isFlat]
theorem isFlat_bl {i : Bool} : (D.bl i).isFlat = true ↔ True := by simp [D.isFlat]
theorem isFlat_non : (D.non).isFlat = true ↔ True := by simp [D.isFlat]
theorem isFlat_str {i : Str} : (D.str i).isFlat = true ↔ True := by simp [D.isFlat]
end

section
variable {Q : Out → S → Prop} {m : M D} {a b n : M Out}
theorem wp_seq : Wp (sSeq a b) s Q ↔ Wp a s fun o s1 => Nx o (Wp b s1 Q) (fun o => Q o s1) := by
  have go : ∀ (o : Out) s1, Wp (match o with | .nx => b | o => ret o) s1 Q ↔ Nx o (Wp b s1 Q) (fun o => Q o s1) := fun o s1 => by
    cases o with
    | nx => exact Iff.rfl
    | ret d => exact wp_ret
    | brk => exact wp_ret
    | cnt => exact wp_ret
  unfold sSeq; rw [wp_bnd]; exact ⟨fun h => h.mono fun d s1 => (go d s1).mp, fun h => h.mono fun d s1 => (go d s1).mpr⟩
theorem wp_nx : Wp sNx s Q ↔ Q .nx s := wp_eq rfl
theorem wp_sRet : Wp (sRet m) s Q ↔ Wp m s fun d s1 => Q (.ret d) s1 := wp_bnd.trans (wp_cg fun _ _ => wp_ret)
theorem wp_sIf {t : M Bool} : Wp (sIf t a b) s Q ↔ Wp t s fun x s1 => IfB x (Wp a s1 Q) (Wp b s1 Q) := wp_bnd.trans (wp_cg fun _ _ => wp_iteB)
theorem wp_sExpr : Wp (sExpr m) s Q ↔ Wp m s fun _ s1 => Q .nx s1 := wp_bnd.trans (wp_cg fun _ _ => wp_ret)
theorem wp_asg {g : D → M Unit} : Wp (sAsg m g) s Q ↔ Wp m s fun d s1 => Wp (g d) s1 fun _ s2 => Q .nx s2 := wp_bnd.trans (wp_cg fun _ _ => wp_bnd.trans (wp_cg fun _ _ => wp_ret))
theorem wp_gN {i : Nat} {d : D} {Q : Unit → S → Prop} : Wp (gN i d) s Q ↔ SetAt s.env i (some (.val d)) fun e => Q () ⟨e, s.src⟩ := by
  unfold SetAt
  by_cases h : i < s.env.length
  · rw [wp_eq (show gN i d s = some ((), ⟨s.env.set i (some (.val d)), s.src⟩) by unfold gN; rw [if_pos h])]; simp [h]
  · constructor
    · rintro ⟨_, _, e, _⟩; unfold gN at e; rw [if_neg h] at e; cases e
    · rintro ⟨z, _⟩; exact absurd z h
theorem wp_gT {gs : List D → M Unit} {ds : List D} {Q : Unit → S → Prop} : Wp (gT gs (.tup ds)) s Q ↔ Wp (gs ds) s Q := Iff.rfl
theorem wp_gCons {g : D → M Unit} {gs : List D → M Unit} {d : D} {ds : List D} {Q : Unit → S → Prop} : Wp (gCons g gs (d :: ds)) s Q ↔ Wp (g d) s fun _ s1 => Wp (gs ds) s1 Q := wp_bnd
theorem wp_gNil {Q : Unit → S → Prop} : Wp (gNil []) s Q ↔ Q () s := wp_eq rfl
theorem wp_set {i : Nat} : Wp (sSet i m) s Q ↔ Wp m s fun d s1 => SetAt s1.env i (some (.val d)) fun e => Q .nx ⟨e, s1.src⟩ := wp_asg.trans (wp_cg fun _ _ => wp_gN)
theorem wp_own {i : Nat} {ml : M (List D)} : Wp (sOwn i ml) s Q ↔ Wp ml s fun d s1 => SetAt s1.env i (some (.own d)) fun e => Q .nx ⟨e, s1.src⟩ := by
  have go : ∀ (d : List D) (s : S) (Q : Unit → S → Prop), Wp (oN i d) s Q ↔ SetAt s.env i (some (.own d)) fun e => Q () ⟨e, s.src⟩ := fun d s Q => by
    unfold SetAt
    by_cases h : i < s.env.length
    · rw [wp_eq (show oN i d s = some ((), ⟨s.env.set i (some (.own d)), s.src⟩) by unfold oN; rw [if_pos h])]; simp [h]
    · constructor
      · rintro ⟨_, _, e, _⟩; unfold oN at e; rw [if_neg h] at e; cases e
      · rintro ⟨z, _⟩; exact absurd z h
  exact wp_bnd.trans (wp_cg fun _ _ => wp_bnd.trans ((go _ _ _).trans (setAt_cg fun _ => wp_ret)))
theorem wp_aug {i : Nat} {f : Int → Int → Int} : Wp (sAug i f m) ⟨env, c⟩ Q ↔ VarAt env i fun x => Wp m ⟨env, c⟩ fun d s1 => Sm (augI f x d) fun z => SetAt s1.env i (some (.val z)) fun e => Q .nx ⟨e, s1.src⟩ := by
  have go : ∀ {x : D} {s : S} , Wp (bnd m fun d => bnd (lift (augI f x d)) fun z => bnd (gN i z) fun _ => (ret .nx : M Out)) s Q ↔ Wp m s fun d s1 => Sm (augI f x d) fun z => SetAt s1.env i (some (.val z)) fun e => Q .nx ⟨e, s1.src⟩ :=
    fun {x s} => wp_bnd.trans (wp_cg fun _ _ => wp_bnd.trans (wp_lift.trans (sm_cg fun _ => wp_bnd.trans (wp_gN.trans (setAt_cg fun _ => wp_ret)))))
  constructor
  · rintro ⟨a, s', e, q⟩
    unfold sAug at e
    split at e
    · rename_i x h
      refine ⟨x, h, ?_⟩
      have : Wp (bnd m fun d => bnd (lift (augI f x d)) fun z => bnd (gN i z) fun _ => ret .nx) ⟨env, c⟩ Q := ⟨_, _, e, q⟩
      exact go.mp this
    · cases e
  · rintro ⟨x, h, q⟩
    have : Wp (bnd m fun d => bnd (lift (augI f x d)) fun z => bnd (gN i z) fun _ => ret .nx) ⟨env, c⟩ Q := go.mpr q
    obtain ⟨a, s', e, q⟩ := this
    exact ⟨a, s', by unfold sAug; rw [show (⟨env, c⟩ : S).env[i]? = _ from h]; exact e, q⟩
theorem sm_aug {f : Int → Int → Int} {x y : Int} {P : D → Prop} : Sm (augI f (.int x) (.int y)) P ↔ P (.int (f x y)) := sm_some
theorem wp_setIx {i : Nat} {me mb : M D} : Wp (sSetIx i me mb) s Q ↔ Wp me s fun d s1 => Wp (ownHere i) s1 fun _ s2 => Wp mb s2 fun dy s3 => Wp (putL i (setL dy d)) s3 fun _ s4 => Q .nx s4 := wp_bnd.trans (wp_cg fun _ _ => wp_bnd.trans (wp_cg fun _ _ => wp_bnd.trans (wp_cg fun _ _ => wp_bnd.trans (wp_cg fun _ _ => wp_ret))))
theorem wp_ownGet {i : Nat} {dy : D} {Q : D → S → Prop} : Wp (ownGet i dy) ⟨env, c⟩ Q ↔ OwnAt env i fun ds => IsI dy fun j => Sm (atI ds j) fun y => Q y ⟨env, c⟩ := by
  constructor
  · rintro ⟨a, s', e, q⟩
    obtain ⟨rfl, ds, j, h1, rfl, h2⟩ := own_get e
    exact ⟨ds, h1, j, rfl, _, h2, q⟩
  · rintro ⟨ds, h1, j, rfl, y, h2, q⟩
    exact ⟨y, _, by unfold ownGet; rw [show (⟨env, c⟩ : S).env[i]? = _ from h1]; show (match atI ds j with | some y => some (y, (⟨env, c⟩ : S)) | none => none) = _; rw [h2], q⟩
theorem wp_augIx {i : Nat} {f : Int → Int → Int} {mb me : M D} : Wp (sAugIx i f mb me) s Q ↔ Wp (ownHere i) s fun _ s0 => Wp mb s0 fun dy s1 => Wp (ownGet i dy) s1 fun old s2 => Wp me s2 fun d s3 => Sm (augI f old d) fun z => Wp (putL i (setL dy z)) s3 fun _ s4 => Q .nx s4 := wp_bnd.trans (wp_cg fun _ _ => wp_bnd.trans (wp_cg fun _ _ => wp_bnd.trans (wp_cg fun _ _ => wp_bnd.trans (wp_cg fun _ _ => wp_bnd.trans (wp_lift.trans (sm_cg fun _ => wp_bnd.trans (wp_cg fun _ _ => wp_ret)))))))
theorem wp_sFor {it : M (List D)} {g : D → M Unit} : Wp (sFor it g b) s Q ↔ Wp it s fun ds s1 => Wp (forM g b ds) s1 Q := wp_bnd
theorem wp_pNil {Q : List Sl → S → Prop} : Wp pNil s Q ↔ Q [] s := wp_eq rfl
theorem wp_pVal {ms : M (List Sl)} {Q : List Sl → S → Prop} : Wp (pVal m ms) s Q ↔ Wp m s fun d s1 => Wp ms s1 fun r s2 => Q (.val d :: r) s2 := wp_bnd.trans (wp_cg fun _ _ => wp_bnd.trans (wp_cg fun _ _ => wp_ret))
theorem wp_pOwn {ml : M (List D)} {ms : M (List Sl)} {Q : List Sl → S → Prop} : Wp (pOwn ml ms) s Q ↔ Wp ml s fun d s1 => Wp ms s1 fun r s2 => Q (.own d :: r) s2 := wp_bnd.trans (wp_cg fun _ _ => wp_bnd.trans (wp_cg fun _ _ => wp_ret))
theorem wp_par {is : List Nat} {ms : M (List Sl)} : Wp (sPar is ms) s Q ↔ Wp ms s fun sls s1 => Sm (putAll is sls s1.env) fun e => Q .nx ⟨e, s1.src⟩ := by
  constructor
  · rintro ⟨o, s', e, q⟩
    obtain ⟨sls, s1, e1, e2⟩ := bnd_some e
    refine ⟨sls, s1, e1, ?_⟩
    split at e2
    · rename_i env h; cases e2; exact ⟨_, h, q⟩
    · cases e2
  · rintro ⟨sls, s1, e1, e', h, q⟩
    refine ⟨_, _, ?_, q⟩
    unfold sPar
    refine (bnd_eq e1).trans ?_
    show (match putAll is sls s1.env with | some env => some (Out.nx, (⟨env, s1.src⟩ : S)) | none => none) = _
    rw [h]
theorem sm_put0 {P : List (Option Sl) → Prop} : Sm (putAll [] [] env) P ↔ P env := sm_some
theorem sm_put {i : Nat} {is : List Nat} {sl : Sl} {r : List Sl} {P : List (Option Sl) → Prop} : Sm (putAll (i :: is) (sl :: r) env) P ↔ Sm (putAll is r env) fun e => SetAt e i (some sl) P := by
  show Sm (if i < env.length then (putAll is r env).map fun env' => env'.set i (some sl) else none) P ↔ _
  rw [sm_ite, sm_map]
  constructor
  · rintro ⟨h, e, h1, p⟩; exact ⟨e, h1, by rw [putAll_len h1]; exact h, p⟩
  · rintro ⟨e, h1, h, p⟩; exact ⟨by rw [← putAll_len h1]; exact h, e, h1, p⟩
end

section
variable {Q : List D → S → Prop} {m ma mb mc : M D}
theorem wp_iSeq : Wp (iSeq m) s Q ↔ Wp m s fun d s1 => Sm (seqD d) fun ds => Q ds s1 := wp_bnd.trans (wp_cg fun _ _ => wp_lift)
theorem rngL_map {lo hi : Int} : rngL lo hi = (List.range (hi - lo).toNat).map fun k => D.int (lo + ((k : Nat) : Int)) := rfl
theorem rngL0_map {n : Int} : rngL 0 n = (List.range n.toNat).map fun k => D.int ((k : Nat) : Int) := by unfold rngL; simp
theorem wp_rg1 : Wp (iRg1 m) s Q ↔ Wp m s fun d s1 => IsI d fun j => okR j ∧ Q ((List.range j.toNat).map fun k => D.int ((k : Nat) : Int)) s1 := by
  have go : ∀ (d : D) s1, Wp (match d with | .int j => if okR j then ret (rngL 0 j) else fail | _ => (fail : M (List D))) s1 Q ↔ IsI d fun j => okR j ∧ Q ((List.range j.toNat).map fun k => D.int ((k : Nat) : Int)) s1 := fun d s1 => by
    cases d with
    | int j =>
      rw [isI_int]
      show Wp (if okR j then ret (rngL 0 j) else fail) s1 Q ↔ _
      by_cases h : okR j
      · rw [if_pos h, wp_ret, rngL0_map]; simp [h]
      · rw [if_neg h, wp_fail]; simp [h]
    | _ => exact ⟨fun ⟨_, _, e, _⟩ => (by cases e), fun ⟨_, e, _⟩ => (by cases e)⟩
  unfold iRg1; rw [wp_bnd]; exact ⟨fun h => h.mono fun d s1 => (go d s1).mp, fun h => h.mono fun d s1 => (go d s1).mpr⟩
theorem wp_rg2 : Wp (iRg2 ma mb) s Q ↔ Wp ma s fun d s1 => Wp mb s1 fun e s2 => IsI d fun i => IsI e fun j => okR i ∧ okR j ∧ Q ((List.range (j - i).toNat).map fun k => D.int (i + ((k : Nat) : Int))) s2 := by
  have go : ∀ (d e : D) s1, Wp (match d, e with | .int i, .int j => if okR i ∧ okR j then ret (rngL i j) else fail | _, _ => (fail : M (List D))) s1 Q ↔ IsI d fun i => IsI e fun j => okR i ∧ okR j ∧ Q (rngL i j) s1 := fun d e s1 => by
    constructor
    · rintro ⟨x, s2, h, q⟩
      split at h
      · rename_i i j
        split at h
        · rename_i hh
          obtain ⟨rfl, rfl⟩ := ret_some h
          exact ⟨i, rfl, j, rfl, hh.1, hh.2, q⟩
        · cases h
      · cases h
    · rintro ⟨i, rfl, j, rfl, h1, h2, q⟩
      exact ⟨_, _, by show (if okR i ∧ okR j then ret (rngL i j) else fail) s1 = _; rw [if_pos ⟨h1, h2⟩]; rfl, q⟩
  unfold iRg2; rw [wp_bnd]
  refine ⟨fun h => h.mono fun x s1 h => (wp_bnd.mp h).mono fun y s2 h => (go x y s2).mp h, fun h => h.mono fun x s1 h => wp_bnd.mpr (h.mono fun y s2 h => (go x y s2).mpr h)⟩
theorem okR_of {i : Int} (h : -1000000 ≤ i) (h2 : i ≤ 1000000) : okR i := by unfold okR; omega
def EnumP (ds : List D) (P : List D → Prop) (_ : Ph P := .mk) : Prop := P (enumF 0 ds)
def Zip2P (as bs : List D) (P : List D → Prop) (_ : Ph P := .mk) : Prop := P (zipF2 as bs)
def Zip3P (as bs cs : List D) (P : List D → Prop) (_ : Ph P := .mk) : Prop := P (zipF3 as bs cs)
theorem wp_enum : Wp (iEnum m) s Q ↔ Wp m s fun d s1 => Sm (seqD d) fun ds => EnumP ds fun es => Q es s1 := wp_bnd.trans (wp_cg fun _ _ => wp_bnd.trans (wp_lift.trans (sm_cg fun _ => wp_ret)))
theorem wp_zip2 : Wp (iZip2 ma mb) s Q ↔ Wp ma s fun a s1 => Wp mb s1 fun b s2 => Sm (seqD a) fun as => Sm (seqD b) fun bs => Zip2P as bs fun es => Q es s2 := wp_bnd.trans (wp_cg fun _ _ => wp_bnd.trans (wp_cg fun _ _ => wp_bnd.trans (wp_lift.trans (sm_cg fun _ => wp_bnd.trans (wp_lift.trans (sm_cg fun _ => wp_ret))))))
theorem wp_zip3 : Wp (iZip3 ma mb mc) s Q ↔ Wp ma s fun a s1 => Wp mb s1 fun b s2 => Wp mc s2 fun c s3 => Sm (seqD a) fun as => Sm (seqD b) fun bs => Sm (seqD c) fun cs => Zip3P as bs cs fun es => Q es s3 := wp_bnd.trans (wp_cg fun _ _ => wp_bnd.trans (wp_cg fun _ _ => wp_bnd.trans (wp_cg fun _ _ => wp_bnd.trans (wp_lift.trans (sm_cg fun _ => wp_bnd.trans (wp_lift.trans (sm_cg fun _ => wp_bnd.trans (wp_lift.trans (sm_cg fun _ => wp_ret)))))))))
theorem wp_lRg1 : Wp (lRg1 m) s Q ↔ Wp m s fun d s1 => IsI d fun j => L2.RgOk 0 j ∧ Q ((List.range j.toNat).map fun k => D.int ((k : Nat) : Int)) s1 := by
  have go : ∀ (d : D) s1, Wp (match d with | .int j => if L2.RgOk 0 j then ret (rngL 0 j) else fail | _ => (fail : M (List D))) s1 Q ↔ IsI d fun j => L2.RgOk 0 j ∧ Q ((List.range j.toNat).map fun k => D.int ((k : Nat) : Int)) s1 := fun d s1 => by
    cases d with
    | int j =>
      rw [isI_int]
      show Wp (if L2.RgOk 0 j then ret (rngL 0 j) else fail) s1 Q ↔ _
      by_cases h : L2.RgOk 0 j
      · rw [if_pos h, wp_ret, rngL0_map]; simp [h]
      · rw [if_neg h, wp_fail]; simp [h]
    | _ => exact ⟨fun ⟨_, _, e, _⟩ => (by cases e), fun ⟨_, e, _⟩ => (by cases e)⟩
  unfold lRg1; rw [wp_bnd]; exact ⟨fun h => h.mono fun d s1 => (go d s1).mp, fun h => h.mono fun d s1 => (go d s1).mpr⟩
theorem wp_lRg2 : Wp (lRg2 ma mb) s Q ↔ Wp ma s fun d s1 => Wp mb s1 fun e s2 => IsI d fun i => IsI e fun j => L2.RgOk i j ∧ Q ((List.range (j - i).toNat).map fun k => D.int (i + ((k : Nat) : Int))) s2 := by
  have go : ∀ (d e : D) s1, Wp (match d, e with | .int i, .int j => if L2.RgOk i j then ret (rngL i j) else fail | _, _ => (fail : M (List D))) s1 Q ↔ IsI d fun i => IsI e fun j => L2.RgOk i j ∧ Q (rngL i j) s1 := fun d e s1 => by
    constructor
    · rintro ⟨x, s2, h, q⟩
      split at h
      · rename_i i j
        split at h
        · rename_i hh
          obtain ⟨rfl, rfl⟩ := ret_some h
          exact ⟨i, rfl, j, rfl, hh, q⟩
        · cases h
      · cases h
    · rintro ⟨i, rfl, j, rfl, hh, q⟩
      exact ⟨_, _, by show (if L2.RgOk i j then ret (rngL i j) else fail) s1 = _; rw [if_pos hh]; rfl, q⟩
  unfold lRg2; rw [wp_bnd]
  refine ⟨fun h => h.mono fun x s1 h => (wp_bnd.mp h).mono fun y s2 h => (go x y s2).mp h, fun h => h.mono fun x s1 h => wp_bnd.mpr (h.mono fun y s2 h => (go x y s2).mpr h)⟩
theorem wp_tupRg {Q : D → S → Prop} : Wp (eTupRg m) s Q ↔ Wp (lRg1 m) s fun ds s1 => Q (.tup ds) s1 := wp_bnd.trans (wp_cg fun _ _ => wp_ret)
end
end
end GH

namespace GH
open PySem PySem.Spec PyProof.Rows L2

section
variable {α β γ : Type} {P : D → Prop} {PL : List D → Prop}
theorem sm_addI {a b : Int} : Sm (addD (.int a) (.int b)) P ↔ P (.int (a + b)) := sm_some
theorem sm_addT {a b : List D} : Sm (addD (.tup a) (.tup b)) P ↔ a.length + b.length ≤ 16777216 ∧ P (.tup (a ++ b)) := by
  show Sm (if a.length + b.length ≤ sizeLine then some (.tup (a ++ b)) else none) P ↔ _
  rw [sm_ite, sm_some, sizeLine_eq]
theorem sm_addL {a b : List D} : Sm (addD (.lst a) (.lst b)) P ↔ a.length + b.length ≤ 16777216 ∧ P (.lst (a ++ b)) := by
  show Sm (if a.length + b.length ≤ sizeLine then some (.lst (a ++ b)) else none) P ↔ _
  rw [sm_ite, sm_some, sizeLine_eq]
theorem sm_addLD {a b : List D} : Sm (addLD (.lst a) (.lst b)) PL ↔ a.length + b.length ≤ 16777216 ∧ PL (a ++ b) := by
  show Sm (if a.length + b.length ≤ sizeLine then some (a ++ b) else none) PL ↔ _
  rw [sm_ite, sm_some, sizeLine_eq]
theorem sm_subI {a b : Int} : Sm (subD (.int a) (.int b)) P ↔ P (.int (a - b)) := sm_some
def MulOk (a b : Int) : Prop := CMul a b ∨ CMulW a b
theorem mulOk_l {a b : Int} (h : -(2 ^ 64) < a) (h2 : a < 2 ^ 64) : MulOk a b := .inl (.inl ⟨h, h2⟩)
theorem mulOk_r {a b : Int} (h : -(2 ^ 64) < b) (h2 : b < 2 ^ 64) : MulOk a b := .inl (.inr ⟨h, h2⟩)
theorem sm_mulI {a b : Int} : Sm (mulD (.int a) (.int b)) P ↔ MulOk a b ∧ P (.int (a * b)) := by
  show Sm (if CMul a b then some (D.int (a * b)) else if CMulW a b then some (.int (a * b)) else none) P ↔ _
  unfold MulOk
  by_cases h : CMul a b
  · rw [if_pos h, sm_some]; simp [h]
  · rw [if_neg h, sm_ite, sm_some]; simp [h]
def RepOk (n : Nat) (k : Int) : Prop := -(2 ^ 63) ≤ k ∧ k < 2 ^ 63 ∧ n * k.toNat ≤ 16777216
theorem sm_mulL {a : List D} {k : Int} : Sm (mulD (.lst a) (.int k)) P ↔ RepOk a.length k ∧ P (.lst (List.replicate k.toNat a).flatten) := by
  show Sm (if -(2 ^ 63) ≤ k ∧ k < 2 ^ 63 ∧ a.length * k.toNat ≤ sizeLine then some (D.lst (List.replicate k.toNat a).flatten) else none) P ↔ _
  rw [sm_ite, sm_some, sizeLine_eq]; rfl
theorem sm_mulLD {a : List D} {k : Int} : Sm (mulLD (.lst a) (.int k)) PL ↔ RepOk a.length k ∧ PL (List.replicate k.toNat a).flatten := by
  show Sm (if -(2 ^ 63) ≤ k ∧ k < 2 ^ 63 ∧ a.length * k.toNat ≤ sizeLine then some (List.replicate k.toNat a).flatten else none) PL ↔ _
  rw [sm_ite, sm_some, sizeLine_eq]; rfl
theorem sm_modI {a b : Int} : Sm (modD (.int a) (.int b)) P ↔ b ≠ 0 ∧ P (.int (a.fmod b)) := by
  show Sm (if b ≠ 0 then some (D.int (a.fmod b)) else none) P ↔ _
  rw [sm_ite, sm_some]
def DivOk (a b : Int) : Prop := CDivN a b ∨ CDivW a b
theorem divOk {a b : Int} (h : b ≠ 0) (h2 : -1073741824 < b) (h3 : b < 1073741824) : DivOk a b := .inl ⟨h, by omega⟩
theorem sm_fdivI {a b : Int} : Sm (fdivD (.int a) (.int b)) P ↔ DivOk a b ∧ P (.int (a.fdiv b)) := by
  show Sm (if CDivN a b then some (D.int (a.fdiv b)) else if CDivW a b then some (.int (a / b)) else none) P ↔ _
  unfold DivOk
  by_cases h : CDivN a b
  · rw [if_pos h, sm_some]; simp [h]
  · rw [if_neg h, sm_ite, sm_some]
    simp only [h, false_or]
    constructor
    · rintro ⟨h1, p⟩; exact ⟨h1, by rw [Int.fdiv_eq_ediv_of_nonneg _ (Int.le_of_lt h1.1)]; exact p⟩
    · rintro ⟨h1, p⟩; exact ⟨h1, by rw [Int.fdiv_eq_ediv_of_nonneg _ (Int.le_of_lt h1.1)] at p; exact p⟩
theorem sm_ltI {a b : Int} : Sm (ltD (.int a) (.int b)) P ↔ P (.bl (decide (a < b))) := sm_some
theorem sm_leI {a b : Int} : Sm (leD (.int a) (.int b)) P ↔ P (.bl (decide (a ≤ b))) := sm_some
theorem sm_gtI {a b : Int} : Sm (gtD (.int a) (.int b)) P ↔ P (.bl (decide (b < a))) := sm_some
theorem sm_geI {a b : Int} : Sm (geD (.int a) (.int b)) P ↔ P (.bl (decide (b ≤ a))) := sm_some
theorem sm_eqI {a b : Int} : Sm (eqD (.int a) (.int b)) P ↔ P (.bl (decide (a = b))) := sm_eq (eqD_int a b)
theorem sm_neI {a b : Int} : Sm (neD (.int a) (.int b)) P ↔ P (.bl (!decide (a = b))) := sm_eq (neD_int a b)
theorem sm_eqG {a b : D} (h : a.ok) (h2 : b.ok) {p : Prop} [Decidable p] (hp : a = b ↔ p) : Sm (eqD a b) P ↔ P (.bl (decide p)) := sm_eq (eqD_iff h h2 hp)
theorem sm_neG {a b : D} (h : a.ok) (h2 : b.ok) {p : Prop} [Decidable p] (hp : a = b ↔ p) : Sm (neD a b) P ↔ P (.bl (!decide p)) := sm_eq (neD_iff h h2 hp)
theorem sm_isN {d : D} : Sm (isND d .non) P ↔ P (.bl (match d with | .non => true | _ => false)) := by cases d <;> exact sm_some
theorem sm_notN {d : D} : Sm (notND d .non) P ↔ P (.bl (match d with | .non => false | _ => true)) := by cases d <;> exact sm_some
theorem sm_ixT {ds : List D} {j : Int} : Sm (ixD (.tup ds) (.int j)) P ↔ Sm (atI ds j) P := Iff.rfl
theorem sm_ixL {ds : List D} {j : Int} : Sm (ixD (.lst ds) (.int j)) P ↔ Sm (atI ds j) P := Iff.rfl
theorem sm_ownO {ds : List D} {j : Int} : Sm (ownIx (.own ds) (.int j)) P ↔ Sm (atI ds j) P := Iff.rfl
theorem sm_ownL {ds : List D} {j : Int} : Sm (ownIx (.val (.lst ds)) (.int j)) P ↔ Sm (atI ds j) P := Iff.rfl
theorem sm_ownT {ds : List D} {j : Int} : Sm (ownIx (.val (.tup ds)) (.int j)) P ↔ Sm (atI ds j) P := Iff.rfl
theorem atI_of {xs : List α} {j : Int} {x : α} (h : 0 ≤ j) (h2 : xs[j.toNat]? = some x) : atI xs j = some x := by
  have hl := (List.getElem?_eq_some_iff.mp h2).1
  unfold atI ixN
  rw [if_pos h, if_pos (by omega)]; exact h2
theorem atI_neg {xs : List α} {j : Int} {x : α} (h : j < 0) (h2 : -(xs.length : Int) ≤ j) (h3 : xs[(j + xs.length).toNat]? = some x) : atI xs j = some x := by
  unfold atI ixN
  rw [if_neg (by omega), if_pos h2]; exact h3
theorem at_0 {a : α} {r : List α} {P : α → Prop} : Sm (atI (a :: r) 0) P ↔ P a := sm_eq (atI_of (by decide) rfl)
theorem at_1 {a b : α} {r : List α} {P : α → Prop} : Sm (atI (a :: b :: r) 1) P ↔ P b := sm_eq (atI_of (by decide) rfl)
theorem at_2 {a b c : α} {r : List α} {P : α → Prop} : Sm (atI (a :: b :: c :: r) 2) P ↔ P c := sm_eq (atI_of (by decide) rfl)
theorem at_3 {a b c d : α} {r : List α} {P : α → Prop} : Sm (atI (a :: b :: c :: d :: r) 3) P ↔ P d := sm_eq (atI_of (by decide) rfl)
theorem at_4 {a b c d e : α} {r : List α} {P : α → Prop} : Sm (atI (a :: b :: c :: d :: e :: r) 4) P ↔ P e := sm_eq (atI_of (by decide) rfl)
theorem atI_map {f : α → β} {xs : List α} {j : Int} : atI (xs.map f) j = (atI xs j).map f := by
  unfold atI
  rw [List.length_map]
  cases ixN xs.length j with
  | none => rfl
  | some n => exact List.getElem?_map ..
theorem at_map {f : α → β} {xs : List α} {j : Int} {P : β → Prop} : Sm (atI (xs.map f) j) P ↔ Sm (atI xs j) fun x => P (f x) := by rw [atI_map, sm_map]
/-- the item at a place -/
def nth [Inhabited α] (xs : List α) (j : Int) : α := xs.getD j.toNat default
theorem nth_get [Inhabited α] {xs : List α} {j : Int} (h : 0 ≤ j) (h2 : j < xs.length) : xs[j.toNat]? = some (nth xs j) := by
  unfold nth
  have : j.toNat < xs.length := by omega
  rw [List.getD_eq_getElem?_getD, List.getElem?_eq_getElem this]; rfl
theorem nth_mem [Inhabited α] {xs : List α} {j : Int} (h : 0 ≤ j) (h2 : j < xs.length) : nth xs j ∈ xs := List.mem_of_getElem? (nth_get h h2)
theorem at_nth [Inhabited α] {xs : List α} {j : Int} {P : α → Prop} (h : 0 ≤ j) (h2 : j < xs.length) : Sm (atI xs j) P ↔ P (nth xs j) := sm_eq (atI_of h (nth_get h h2))
theorem at_last [Inhabited α] {xs : List α} {P : α → Prop} (h : xs ≠ []) : Sm (atI xs (-1)) P ↔ P (nth xs (xs.length - 1)) := by
  have hl : 0 < xs.length := List.length_pos_iff.mpr h
  refine sm_eq (atI_neg (by decide) (by omega) ?_)
  rw [show (-1 + (xs.length : Int)) = (xs.length : Int) - 1 by omega]
  exact nth_get (by omega) (by omega)
theorem sm_lenL {ds : List D} : Sm (lenG [.lst ds]) P ↔ P (.int ds.length) := sm_some
theorem sm_lenT {ds : List D} : Sm (lenG [.tup ds]) P ↔ P (.int ds.length) := sm_some
theorem sm_intI {i : Int} : Sm (intG [.int i]) P ↔ P (.int i) := sm_some
theorem sm_intB {b : Bool} : Sm (intG [.bl b]) P ↔ P (.int (if b then 1 else 0)) := sm_some
theorem sm_absI {i : Int} : Sm (absG [.int i]) P ↔ P (.int (if i < 0 then -i else i)) := sm_some
theorem sm_tupL {ds : List D} : Sm (tupG [.lst ds]) P ↔ P (.tup ds) := sm_some
theorem sm_tupT {ds : List D} : Sm (tupG [.tup ds]) P ↔ P (.tup ds) := sm_some
theorem sm_lstL {ds : List D} : Sm (lstG [.lst ds]) PL ↔ PL ds := sm_some
theorem sm_lstT {ds : List D} : Sm (lstG [.tup ds]) PL ↔ PL ds := sm_some
theorem toInts_mapF {f : α → Int} : ∀ xs : List α, toInts (xs.map fun x => D.int (f x)) = some (xs.map f)
  | [] => rfl
  | x :: r => by rw [List.map_cons, toInts, toInts_mapF r]; rfl
theorem toBls_mapF {f : α → Bool} : ∀ xs : List α, toBls (xs.map fun x => D.bl (f x)) = some (xs.map f)
  | [] => rfl
  | x :: r => by rw [List.map_cons, toBls, toBls_mapF r]; rfl
theorem sm_sumL {f : α → Int} {xs : List α} : Sm (sumG [.lst (xs.map fun x => .int (f x))]) P ↔ P (.int (xs.map f).sum) := by
  show Sm ((toInts _).map _) P ↔ _; rw [toInts_mapF]; exact sm_some
theorem sm_sumT {f : α → Int} {xs : List α} : Sm (sumG [.tup (xs.map fun x => .int (f x))]) P ↔ P (.int (xs.map f).sum) := by
  show Sm ((toInts _).map _) P ↔ _; rw [toInts_mapF]; exact sm_some
theorem sm_sumL1 {xs : List Int} : Sm (sumG [.lst (xs.map D.int)]) P ↔ P (.int xs.sum) := by
  show Sm ((toInts _).map _) P ↔ _; rw [toInts_map]; exact sm_some
theorem sm_sumT1 {xs : List Int} : Sm (sumG [.tup (xs.map D.int)]) P ↔ P (.int xs.sum) := by
  show Sm ((toInts _).map _) P ↔ _; rw [toInts_map]; exact sm_some
theorem sm_maxI {i j : Int} : Sm (maxG [.int i, .int j]) P ↔ P (.int (if j > i then j else i)) := sm_some
theorem sm_minI {i j : Int} : Sm (minG [.int i, .int j]) P ↔ P (.int (if j < i then j else i)) := sm_some
theorem sm_maxL {f : α → Int} {xs : List α} : Sm (maxG [.lst (xs.map fun x => .int (f x))]) P ↔ xs ≠ [] ∧ P (.int (maxL (xs.map f))) := by
  show Sm ((toInts _).bind _) P ↔ _; rw [toInts_mapF]; show Sm (if xs.map f ≠ [] then some (D.int (maxL (xs.map f))) else none) P ↔ _
  rw [sm_ite, sm_some]; simp
theorem sm_minL {f : α → Int} {xs : List α} : Sm (minG [.lst (xs.map fun x => .int (f x))]) P ↔ xs ≠ [] ∧ P (.int (minL (xs.map f))) := by
  show Sm ((toInts _).bind _) P ↔ _; rw [toInts_mapF]; show Sm (if xs.map f ≠ [] then some (D.int (minL (xs.map f))) else none) P ↔ _
  rw [sm_ite, sm_some]; simp
theorem sm_maxL1 {xs : List Int} : Sm (maxG [.lst (xs.map D.int)]) P ↔ xs ≠ [] ∧ P (.int (maxL xs)) := by
  have := sm_maxL (P := P) (f := id) (xs := xs); simpa using this
theorem sm_minL1 {xs : List Int} : Sm (minG [.lst (xs.map D.int)]) P ↔ xs ≠ [] ∧ P (.int (minL xs)) := by
  have := sm_minL (P := P) (f := id) (xs := xs); simpa using this
theorem sm_anyL {f : α → Bool} {xs : List α} : Sm (anyG [.lst (xs.map fun x => .bl (f x))]) P ↔ P (.bl (xs.any f)) := by
  show Sm ((toBls _).map _) P ↔ _; rw [toBls_mapF]
  show Sm (some (D.bl ((xs.map f).any id))) P ↔ _
  rw [sm_some, List.any_map]; rfl
theorem sm_allL {f : α → Bool} {xs : List α} : Sm (allG [.lst (xs.map fun x => .bl (f x))]) P ↔ P (.bl (xs.all f)) := by
  show Sm ((toBls _).map _) P ↔ _; rw [toBls_mapF]
  show Sm (some (D.bl ((xs.map f).all id))) P ↔ _
  rw [sm_some, List.all_map]; rfl
theorem sm_negI {i : Int} : Sm (negD (.int i)) P ↔ P (.int (-i)) := sm_some
theorem sm_revL {ds : List D} : Sm (revD (.lst ds)) P ↔ P (.lst ds.reverse) := sm_some
theorem sm_revT {ds : List D} : Sm (revD (.tup ds)) P ↔ P (.tup ds.reverse) := sm_some
theorem sm_seqL {ds : List D} : Sm (seqD (.lst ds)) PL ↔ PL ds := sm_some
theorem sm_seqT {ds : List D} : Sm (seqD (.tup ds)) PL ↔ PL ds := sm_some
theorem sm_slL {ds : List D} {l h : Option Int} : Sm (slD l h (.lst ds)) P ↔ P (.lst (cutL ds l h)) := sm_some
theorem sm_slT {ds : List D} {l h : Option Int} : Sm (slD l h (.tup ds)) P ↔ P (.tup (cutL ds l h)) := sm_some
section
variable {P : Bool → Prop}
theorem sm_truB {b : Bool} : Sm (truD (.bl b)) P ↔ P b := sm_some
theorem sm_truN : Sm (truD .non) P ↔ P false := sm_some
theorem sm_truI {i : Int} : Sm (truD (.int i)) P ↔ P (i != 0) := sm_some
theorem sm_truL {ds : List D} : Sm (truD (.lst ds)) P ↔ P (!ds.isEmpty) := sm_some
theorem sm_truT {ds : List D} : Sm (truD (.tup ds)) P ↔ P (!ds.isEmpty) := sm_some
end
theorem sm_inR {i lo hi : Int} : Sm (inD (.int i) (.rng lo hi)) P ↔ P (.bl (decide (lo ≤ i ∧ i < hi))) := sm_some
theorem sm_inT {i : Int} {xs : List Int} : Sm (inD (.int i) (.tup (xs.map D.int))) P ↔ P (.bl (decide (i ∈ xs))) := by
  show Sm (if okIn (.int i) (xs.map D.int) then some (D.bl (memD (.int i) (xs.map D.int))) else none) P ↔ _
  rw [if_pos (okIn_ints i xs), sm_some, memD_ints]
theorem sm_inL {i : Int} {xs : List Int} : Sm (inD (.int i) (.lst (xs.map D.int))) P ↔ P (.bl (decide (i ∈ xs))) := by
  show Sm (if okIn (.int i) (xs.map D.int) then some (D.bl (memD (.int i) (xs.map D.int))) else none) P ↔ _
  rw [if_pos (okIn_ints i xs), sm_some, memD_ints]
theorem sm_ninT {i : Int} {xs : List Int} : Sm (ninD (.int i) (.tup (xs.map D.int))) P ↔ P (.bl (!decide (i ∈ xs))) := by
  show Sm (if okIn (.int i) (xs.map D.int) then some (D.bl (!memD (.int i) (xs.map D.int))) else none) P ↔ _
  rw [if_pos (okIn_ints i xs), sm_some, memD_ints]
theorem sm_ninL {i : Int} {xs : List Int} : Sm (ninD (.int i) (.lst (xs.map D.int))) P ↔ P (.bl (!decide (i ∈ xs))) := by
  show Sm (if okIn (.int i) (xs.map D.int) then some (D.bl (!memD (.int i) (xs.map D.int))) else none) P ↔ _
  rw [if_pos (okIn_ints i xs), sm_some, memD_ints]
theorem sm_setL {d : D} {ds : List D} {j : Int} {P : List D → Prop} : Sm (setL (.int j) d ds) P ↔ Sm (ixN ds.length j) fun n => P (ds.set n d) := sm_map
theorem ix_ok {n : Nat} {j : Int} {P : Nat → Prop} (h : 0 ≤ j) (h2 : j < n) : Sm (ixN n j) P ↔ P j.toNat := sm_eq (by unfold ixN; rw [if_pos h, if_pos h2])
theorem enumF_map {f : α → D} : ∀ (xs : List α) (k : Nat), enumF k (xs.map f) = (xs.zipIdx k).map fun p => D.tup [.int (p.2 : Nat), f p.1]
  | [], _ => rfl
  | x :: r, k => by rw [List.map_cons, enumF, enumF_map r (k + 1), List.zipIdx_cons, List.map_cons]
theorem zipF2_map {f : α → D} {g : β → D} : ∀ (xs : List α) (ys : List β), zipF2 (xs.map f) (ys.map g) = (xs.zip ys).map fun p => D.tup [f p.1, g p.2]
  | [], _ => by simp [zipF2]
  | x :: r, [] => by simp [zipF2]
  | x :: r, y :: t => by rw [List.map_cons, List.map_cons, zipF2, zipF2_map r t]; rfl
theorem zipF3_map {f : α → D} {g : β → D} {h : γ → D} : ∀ (xs : List α) (ys : List β) (zs : List γ), zipF3 (xs.map f) (ys.map g) (zs.map h) = (xs.zip (ys.zip zs)).map fun p => D.tup [f p.1, g p.2.1, h p.2.2]
  | [], _, _ => by simp [zipF3]
  | x :: r, [], _ => by simp [zipF3]
  | x :: r, y :: t, [] => by simp [zipF3]
  | x :: r, y :: t, z :: u => by rw [List.map_cons, List.map_cons, List.map_cons, zipF3, zipF3_map r t u]; rfl
theorem enumP_map {f : α → D} {xs : List α} {P : List D → Prop} : EnumP (xs.map f) P ↔ P (xs.zipIdx.map fun p => D.tup [.int (p.2 : Nat), f p.1]) := by unfold EnumP; rw [enumF_map]
theorem zip2P_map {f : α → D} {g : β → D} {xs : List α} {ys : List β} {P : List D → Prop} : Zip2P (xs.map f) (ys.map g) P ↔ P ((xs.zip ys).map fun p => D.tup [f p.1, g p.2]) := by unfold Zip2P; rw [zipF2_map]
theorem zip3P_map {f : α → D} {g : β → D} {h : γ → D} {xs : List α} {ys : List β} {zs : List γ} {P : List D → Prop} : Zip3P (xs.map f) (ys.map g) (zs.map h) P ↔ P ((xs.zip (ys.zip zs)).map fun p => D.tup [f p.1, g p.2.1, h p.2.2]) := by unfold Zip3P; rw [zipF3_map]
theorem rngL_nat {n : Int} : rngL 0 n = (List.range n.toNat).map fun i => D.int ((i : Nat) : Int) := by unfold rngL; simp
theorem rngL_from {lo hi : Int} : rngL lo hi = (List.range (hi - lo).toNat).map fun i => D.int (lo + ((i : Nat) : Int)) := rfl
theorem cutL_to {xs : List α} {k : Int} (h : 0 ≤ k) : cutL xs none (some k) = xs.take k.toNat := by
  unfold cutL HT.sIx
  simp only []
  rw [if_neg (by omega)]
  rw [List.drop_zero, Nat.sub_zero]
  by_cases h2 : k.toNat ≤ xs.length
  · rw [Nat.min_eq_left h2]
  · rw [Nat.min_eq_right (by omega), List.take_length, List.take_of_length_le (by omega)]
theorem cutL_from {xs : List α} {k : Int} (h : 0 ≤ k) : cutL xs (some k) none = xs.drop k.toNat := by
  unfold cutL HT.sIx
  simp only []
  rw [if_neg (by omega)]
  by_cases h2 : k.toNat ≤ xs.length
  · rw [Nat.min_eq_left h2, List.take_of_length_le (by simp)]
  · rw [Nat.min_eq_right (by omega), List.drop_of_length_le (by omega), List.drop_of_length_le (by omega)]; simp
theorem cutL_both {xs : List α} {j k : Int} (h : 0 ≤ j) (h2 : 0 ≤ k) : cutL xs (some j) (some k) = (xs.take k.toNat).drop j.toNat := by
  unfold cutL HT.sIx
  simp only []
  rw [if_neg (by omega), if_neg (by omega)]
  rw [List.drop_take]
  by_cases h3 : j.toNat ≤ xs.length
  · rw [Nat.min_eq_left h3]
    by_cases h4 : k.toNat ≤ xs.length
    · rw [Nat.min_eq_left h4]
    · rw [Nat.min_eq_right (by omega), List.take_of_length_le (by simp), List.take_of_length_le (by simp; omega)]
  · have e1 : xs.drop (min j.toNat xs.length) = [] := List.drop_of_length_le (by omega)
    have e2 : xs.drop j.toNat = [] := List.drop_of_length_le (by omega)
    rw [e1, e2]; simp
theorem cutL_map {f : α → β} {xs : List α} {l h : Option Int} : cutL (xs.map f) l h = (cutL xs l h).map f := by
  unfold cutL; simp
end

section
variable {α : Type} {vs : List Nat} {g : D → M Unit} {c : M Bool} {el : M D} {it : M (List D)} {env : List (Option Sl)} {s : S} {src : Src}
def compE (vs : List Nat) (g : D → M Unit) (c : M Bool) (el : M D) (ds : List D) : M (List D) := fun s1 =>
  if ds.length ≤ sizeLine then (match compF vs g c el ds s1 with
    | some (ys, sn) => some (ys, { sn with env := restE s1.env sn.env vs })
    | none => none) else none
theorem wp_comp {Q : List D → S → Prop} : Wp (eComp vs g c el it) s Q ↔ Wp it s fun ds s1 => Wp (compE vs g c el ds) s1 Q := wp_bnd
theorem wp_turn {d : D} {Q : Option D → S → Prop} : Wp (turnC g c el d) s Q ↔ Wp (g d) s fun _ s1 => Wp c s1 fun b s2 => IfB b (Wp el s2 fun y s3 => Q (some y) s3) (Q none s2) :=
  wp_bnd.trans (wp_cg fun _ _ => wp_bnd.trans (wp_cg fun _ _ => wp_iteB.trans (ifB_cg (wp_bnd.trans (wp_cg fun _ _ => wp_ret)) wp_ret)))
/-- a loop's name slot: what it holds is no own list -/
def jv (x : Option D) : Option Sl := x.map Sl.val
theorem jv_some {d : D} : jv (some d) = some (.val d) := rfl
theorem jv_none : jv none = none := rfl
def CleanAt (env : List (Option Sl)) (v : Nat) : Prop := ∀ x, env[v]? = some (some x) → ∃ d, x = .val d
theorem clean_nil : cleanE env [] ↔ True := by simp [cleanE]
theorem clean_cons {v : Nat} {vs : List Nat} : cleanE env (v :: vs) ↔ CleanAt env v ∧ cleanE env vs := by
  unfold cleanE CleanAt; simp
theorem cleanAt_s {x : Option Sl} {r : List (Option Sl)} {n : Nat} : CleanAt (x :: r) (n + 1) ↔ CleanAt r n := by unfold CleanAt; simp
theorem cleanAt_n {r : List (Option Sl)} : CleanAt (none :: r) 0 ↔ True := by unfold CleanAt; simp
theorem cleanAt_v {d : D} {r : List (Option Sl)} : CleanAt (some (.val d) :: r) 0 ↔ True := by unfold CleanAt; simp
theorem cleanAt_j {d : Option D} {r : List (Option Sl)} : CleanAt (jv d :: r) 0 ↔ True := by
  cases d <;> simp [CleanAt, jv]
theorem wipe_nil : wipeE env [] = env := rfl
theorem wipe_cons {v : Nat} {vs : List Nat} : wipeE env (v :: vs) = (wipeE env vs).set v none := rfl
theorem compE_go {ds ys : List D} {env2 : List (Option Sl)} {s' : Src} (hl : ds.length ≤ 16777216) (h3 : compF vs g c el ds ⟨env, src⟩ = some (ys, ⟨env2, s'⟩)) (h4 : wipeE env2 vs = wipeE env vs) (cl : cleanE env vs) : compE vs g c el ds ⟨env, src⟩ = some (ys, ⟨env, s'⟩) := by
  unfold compE
  rw [if_pos (by rw [sizeLine_eq]; exact hl), h3]
  show some (ys, (⟨restE env env2 vs, s'⟩ : S)) = _
  rw [rest_clean h4 cl]
theorem wp_compP {enc : α → D} (f : α → Option D) {xs : List α} {Q : List D → S → Prop} (hl : xs.length ≤ 16777216) (cl : cleanE env vs)
    (step : ∀ x ∈ xs, Wp (turnC g c el (enc x)) ⟨wipeE env vs, src⟩ fun o s' => o = f x ∧ s'.src = src ∧ wipeE s'.env vs = wipeE env vs) (q : Q (xs.filterMap f) ⟨env, src⟩) : Wp (compE vs g c el (xs.map enc)) ⟨env, src⟩ Q := by
  obtain ⟨env2, h3, h4⟩ := compF_pure (vs := vs) (g := g) (c := c) (el := el) (enc := enc) (f := f) (src := src) (env := env) (env0 := env) (xs := xs) rfl fun x hx => by
    obtain ⟨o, ⟨e1, c1⟩, h1, rfl, h2, h5⟩ := step x hx
    simp only at h2 h5; subst h2
    exact ⟨e1, h1, h5⟩
  exact ⟨_, _, compE_go (by simpa using hl) h3 h4 cl, q⟩
theorem filterMap_some {α β : Type} (h : α → β) (xs : List α) : (xs.filterMap fun x => some (h x)) = xs.map h := by
  induction xs with
  | nil => rfl
  | cons x r ih => rw [List.filterMap_cons, List.map_cons, ih]
theorem filterMap_if {α β : Type} (p : α → Bool) (h : α → β) (xs : List α) : (xs.filterMap fun x => if p x = true then some (h x) else none) = (xs.filter p).map h := by
  induction xs with
  | nil => rfl
  | cons x r ih =>
    rw [List.filterMap_cons, List.filter_cons]
    by_cases z : p x = true
    · simp only [z, if_true, List.map_cons, ih]
    · simp only [z]; exact ih
/-- each is kept -/
theorem wp_compM {enc : α → D} (h : α → D) {xs : List α} {Q : List D → S → Prop} (hl : xs.length ≤ 16777216) (cl : cleanE env vs)
    (step : ∀ x ∈ xs, Wp (turnC g c el (enc x)) ⟨wipeE env vs, src⟩ fun o s' => o = some (h x) ∧ s'.src = src ∧ wipeE s'.env vs = wipeE env vs) (q : Q (xs.map h) ⟨env, src⟩) : Wp (compE vs g c el (xs.map enc)) ⟨env, src⟩ Q :=
  wp_compP (fun x => some (h x)) hl cl step (by rw [filterMap_some]; exact q)
/-- some are kept -/
theorem wp_compF {enc : α → D} (p : α → Bool) (h : α → D) {xs : List α} {Q : List D → S → Prop} (hl : xs.length ≤ 16777216) (cl : cleanE env vs)
    (step : ∀ x ∈ xs, Wp (turnC g c el (enc x)) ⟨wipeE env vs, src⟩ fun o s' => o = (if p x = true then some (h x) else none) ∧ s'.src = src ∧ wipeE s'.env vs = wipeE env vs) (q : Q ((xs.filter p).map h) ⟨env, src⟩) : Wp (compE vs g c el (xs.map enc)) ⟨env, src⟩ Q :=
  wp_compP (fun x => if p x = true then some (h x) else none) hl cl step (by rw [filterMap_if]; exact q)
/-- each is drawn -/
theorem wp_compD {β : Type} {enc : α → D} (out : β → D) (R : α → β → Prop) {xs : List α} {Q : List D → S → Prop} (hl : xs.length ≤ 16777216) (cl : cleanE env vs)
    (step : ∀ x ∈ xs, ∀ s0, Wp (turnC g c el (enc x)) ⟨wipeE env vs, s0⟩ fun o s' => ∃ y, o = some (out y) ∧ wipeE s'.env vs = wipeE env vs ∧ R x y)
    (q : ∀ (ys : List β) s', ys.length = xs.length → (∀ (i : Nat) (x : α) (y : β), xs[i]? = some x → ys[i]? = some y → R x y) → Q (ys.map out) ⟨env, s'⟩) : Wp (compE vs g c el (xs.map enc)) ⟨env, src⟩ Q := by
  obtain ⟨ys, env2, s', h1, h2, h3, h4⟩ := compF_rel (vs := vs) (g := g) (c := c) (el := el) (enc := fun y => some (out y)) (R := fun d y => ∀ x, x ∈ xs → enc x = d → R x y → R x y) (ds := xs.map enc) (src := src) (env := env) (env0 := env) rfl fun d hd s0 => by
    obtain ⟨x, hx, rfl⟩ := List.mem_map.mp hd
    obtain ⟨o, ⟨e1, c1⟩, g1, y, rfl, g2, g3⟩ := step x hx s0
    exact ⟨y, e1, c1, g1, g2, fun _ _ _ z => z⟩
  -- the relation place by place, once more along the list
  have main : ∀ (xs : List α) (env0 : List (Option Sl)) (s0 : Src), wipeE env0 vs = wipeE env vs → (∀ x ∈ xs, ∀ s0, Wp (turnC g c el (enc x)) ⟨wipeE env vs, s0⟩ fun o s' => ∃ y, o = some (out y) ∧ wipeE s'.env vs = wipeE env vs ∧ R x y) →
      ∃ (ys : List β) (env2 : List (Option Sl)) (s' : Src), ys.length = xs.length ∧ (∀ (i : Nat) (x : α) (y : β), xs[i]? = some x → ys[i]? = some y → R x y) ∧ compF vs g c el (xs.map enc) ⟨env0, s0⟩ = some (ys.map out, ⟨env2, s'⟩) ∧ wipeE env2 vs = wipeE env vs := fun xs => by
    induction xs with
    | nil => intro env0 s0 h _; exact ⟨[], env0, s0, rfl, fun i x y z => by simp at z, rfl, h⟩
    | cons x r ih =>
      intro env0 s0 h st
      obtain ⟨o, ⟨e1, c1⟩, g1, y, rfl, g2, g3⟩ := st x List.mem_cons_self s0
      obtain ⟨ys, env2, s', h1, h2, h3, h4⟩ := ih e1 c1 g2 fun x hx => st x (List.mem_cons_of_mem _ hx)
      refine ⟨y :: ys, env2, s', by simp [h1], fun i x' y' q1 q2 => ?_, ?_, h4⟩
      · cases i with
        | zero => simp at q1 q2; subst q1 q2; exact g3
        | succ i => simp at q1 q2; exact h2 i x' y' q1 q2
      · show bnd (cStep vs g c el (enc x)) _ _ = _
        rw [bnd_eq (show cStep vs g c el (enc x) ⟨env0, s0⟩ = some (some (out y), ⟨e1, c1⟩) by rw [cStep_eq]; show turnC g c el (enc x) ⟨wipeE env0 vs, s0⟩ = _; rw [h]; exact g1)]
        rw [bnd_eq h3]; rfl
  obtain ⟨ys, env2, s', h1, h2, h3, h4⟩ := main xs env src rfl step
  exact ⟨_, _, compE_go (by simpa using hl) h3 h4 cl, q ys s' h1 h2⟩
end

section
variable {α : Type} {g : D → M Unit} {b : M Out} {s : S}
def Lp (o : Out) (A B : Prop) (R : D → Prop) (_ : Ph A := .mk) (_ : Ph B := .mk) (_ : Ph R := .mk) : Prop := match o with
  | .nx => A
  | .cnt => A
  | .brk => B
  | .ret d => R d
theorem lp_nx {A B : Prop} {R : D → Prop} : Lp .nx A B R ↔ A := Iff.rfl
theorem lp_cnt {A B : Prop} {R : D → Prop} : Lp .cnt A B R ↔ A := Iff.rfl
theorem lp_brk {A B : Prop} {R : D → Prop} : Lp .brk A B R ↔ B := Iff.rfl
theorem lp_ret {A B : Prop} {d : D} {R : D → Prop} : Lp (.ret d) A B R ↔ R d := Iff.rfl
theorem wp_forc {d : D} {r : List D} {Q : Out → S → Prop} : Wp (forM g b (d :: r)) s Q ↔ Wp (g d) s fun _ s1 => Wp b s1 fun o s2 => Lp o (Wp (forM g b r) s2 Q) (Q .nx s2) (fun d => Q (.ret d) s2) := by
  have go : ∀ (o : Out) s2, Wp (match o with | .nx => forM g b r | .cnt => forM g b r | .brk => ret .nx | .ret d => ret (.ret d)) s2 Q ↔ Lp o (Wp (forM g b r) s2 Q) (Q .nx s2) (fun d => Q (.ret d) s2) := fun o s2 => by
    cases o with
    | nx => exact Iff.rfl
    | cnt => exact Iff.rfl
    | brk => exact wp_ret
    | ret d => exact wp_ret
  exact wp_bnd.trans (wp_cg fun _ _ => wp_bnd.trans (wp_cg go))
theorem wp_forn {Q : Out → S → Prop} : Wp (forM g b []) s Q ↔ Q .nx s := wp_eq rfl
theorem wp_for {enc : α → D} {xs : List α} {Q : Out → S → Prop} (I : List α → List α → S → Prop) (h0 : I [] xs s)
    (hs : ∀ done x rest s, xs = done ++ x :: rest → I done (x :: rest) s → Wp (g (enc x)) s fun _ s1 => Wp b s1 fun o s2 => Lp o (I (done ++ [x]) rest s2) (Q .nx s2) (fun d => Q (.ret d) s2))
    (hd : ∀ s, I xs [] s → Q .nx s) : Wp (forM g b (xs.map enc)) s Q := by
  have main : ∀ rest done s, xs = done ++ rest → I done rest s → Wp (forM g b (rest.map enc)) s Q := fun rest => by
    induction rest with
    | nil => intro done s e i; rw [List.append_nil] at e; subst e; exact wp_forn.mpr (hd s i)
    | cons x r ih =>
      intro done s e i
      rw [List.map_cons, wp_forc]
      refine (hs done x r s e i).mono fun _ s1 h => h.mono fun o s2 h => ?_
      cases o with
      | nx => exact ih (done ++ [x]) s2 (by rw [e]; simp) h
      | cnt => exact ih (done ++ [x]) s2 (by rw [e]; simp) h
      | brk => exact h
      | ret d => exact h
  exact main xs [] s rfl h0
/-- .. by a measure -/
theorem wp_while {c : M Bool} {Q : Out → S → Prop} (I : Nat → S → Prop) {n : Nat} (h0 : I n s)
    (hs : ∀ n s, I n s → Wp c s fun t s1 => IfB t (Wp b s1 fun o s2 => Lp o (∃ m, m < n ∧ I m s2) (Q .nx s2) (fun d => Q (.ret d) s2)) (Q .nx s1)) : Wp (sWhile c b) s Q := by
  have main : ∀ n s, I n s → ∃ k o s', whF c b k s = some (o, s') ∧ Q o s' := fun n => by
    induction n using Nat.strongRecOn with
    | ind n ih =>
      intro s i
      obtain ⟨t, s1, e1, h1, h2⟩ := hs n s i
      cases t with
      | false => exact ⟨1, .nx, s1, (bnd_eq e1).trans rfl, h2 rfl⟩
      | true =>
        obtain ⟨o, s2, e2, h3⟩ := h1 rfl
        cases o with
        | nx =>
          obtain ⟨m, hm, i2⟩ := h3
          obtain ⟨k, o, s', e3, q⟩ := ih m hm s2 i2
          exact ⟨k + 1, o, s', (bnd_eq e1).trans ((bnd_eq e2).trans e3), q⟩
        | cnt =>
          obtain ⟨m, hm, i2⟩ := h3
          obtain ⟨k, o, s', e3, q⟩ := ih m hm s2 i2
          exact ⟨k + 1, o, s', (bnd_eq e1).trans ((bnd_eq e2).trans e3), q⟩
        | brk => exact ⟨1, .nx, s2, (bnd_eq e1).trans ((bnd_eq e2).trans rfl), h3⟩
        | ret d => exact ⟨1, .ret d, s2, (bnd_eq e1).trans ((bnd_eq e2).trans rfl), h3⟩
  obtain ⟨k, o, s', e, q⟩ := main n s h0
  exact ⟨o, s', sWhile_of e, q⟩
end

def startE (n : Nat) (ds : List D) : List (Option Sl) := ds.map (fun d => some (Sl.val d)) ++ List.replicate (n - ds.length) none
theorem startE_z : startE 0 [] = [] := rfl
theorem startE_n {n : Nat} : startE (n + 1) [] = none :: startE n [] := rfl
theorem startE_s {n : Nat} {d : D} {r : List D} : startE (n + 1) (d :: r) = some (.val d) :: startE n r := by
  unfold startE; simp
def OutR (o : Out) (P : D → Prop) (_ : Ph P := .mk) : Prop := (∃ d, o = .ret d ∧ P d) ∨ (o = .nx ∧ P .non)
theorem outR_ret {d : D} {P : D → Prop} : OutR (.ret d) P ↔ P d := by unfold OutR; simp
theorem outR_nx {P : D → Prop} : OutR .nx P ↔ P .non := by unfold OutR; simp
theorem fn_cl {n : Nat} {m : M Out} {ds : List D} {c : Src} {R : D → Src → Prop} (h : Wp m ⟨startE n ds, c⟩ fun o s => OutR o fun d => R d s.src) : Cl (fnOf n m) ds c R := by
  obtain ⟨o, s', e, h⟩ := h
  rcases h with ⟨d, rfl, p⟩ | ⟨rfl, p⟩
  · exact ⟨d, s'.src, by unfold fnOf; rw [show m ⟨ds.map (fun d => some (Sl.val d)) ++ List.replicate (n - ds.length) none, c⟩ = _ from e], p⟩
  · exact ⟨.non, s'.src, by unfold fnOf; rw [show m ⟨ds.map (fun d => some (Sl.val d)) ++ List.replicate (n - ds.length) none, c⟩ = _ from e], p⟩
theorem fn_val {n : Nat} {m : M Out} {ds : List D} {c : Src} {v : D} (h : Wp m ⟨startE n ds, c⟩ fun o s => OutR o fun d => d = v ∧ s.src = c) : fnOf n m ds c = some (v, c) := Cl.eq (fn_cl h)
theorem cl_pick {most : Int} {c : Src} {R : D → Src → Prop} (h1 : 1 ≤ most) (h2 : most ≤ 1000000) (h : ∀ r c', 0 ≤ r → r < most → R (.int r) c') : Cl S_pick [.src, .int most] c R := by
  obtain ⟨r, c', e, h3, h4⟩ := pick_any most c h1 h2
  exact ⟨_, _, e, h r c' h3 h4⟩
end GH

namespace GH
open PySem PySem.Spec PyProof.Rows L2

def dKey : D → Option Key
  | .int i => some (.inl i)
  | .str s => some (.inr s)
  | _ => none
def keyD : Key → D
  | .inl i => .int i
  | .inr s => .str s
def dKeyL : List D → Option (List Key)
  | [] => some []
  | d :: r => (dKey d).bind fun k => (dKeyL r).map (k :: ·)
def dKeys : D → Option (List Key)
  | .tup ds => dKeyL ds
  | _ => none
theorem dKey_rp {d : D} {k : Key} {p : Addr} {W : AP} {H : Hp} {v : V} (h : dKey d = some k) (r : Rp p W H d v) : v = kV k := by
  cases d <;> simp only [dKey] at h <;> cases h
  · exact rp_int r
  · exact rp_str r
theorem keyD_rp {k : Key} {p : Addr} {W : AP} {H : Hp} : Rp p W H (keyD k) (kV k) := by
  cases k
  · exact .mkInt _
  · exact .mkStr _
theorem dKeyL_rp {p : Addr} {W : AP} {H : Hp} : ∀ {ds : List D} {ks : List Key} {vs : List V}, dKeyL ds = some ks → Rps p W H ds vs → vs = ks.map kV
  | [], _, _, h, r => by cases h; simp only [Rps] at r; rw [r]; rfl
  | d :: ds, ks, vs, h, r => by
    simp only [Rps] at r
    obtain ⟨v, t, rfl, r1, r2⟩ := r
    obtain ⟨k, h1, h2⟩ := Option.bind_eq_some_iff.mp h
    obtain ⟨ks', h3, rfl⟩ := Option.map_eq_some_iff.mp h2
    rw [dKey_rp h1 r1, dKeyL_rp h3 r2]; rfl
theorem dKeys_rp {d : D} {ks : List Key} {p : Addr} {W : AP} {H : Hp} {v : V} (h : dKeys d = some ks) (r : Rp p W H d v) : ∃ b, v = .ref b ∧ H b = some (.tup (ks.map kV)) := by
  cases d <;> simp only [dKeys] at h <;> try (cases h; done)
  obtain ⟨a, vs, rfl, _, ha, rs⟩ := rp_tup r
  exact ⟨a, rfl, by rw [ha, dKeyL_rp h rs]⟩
def keysD (ks : List Key) : D := .tup (ks.map keyD)
theorem keys_rps {p : Addr} {W : AP} {H : Hp} : ∀ {ks : List Key}, Rps p W H (ks.map keyD) (ks.map kV)
  | [] => .nil
  | _ :: _ => .cons keyD_rp keys_rps

section
variable {κ : Type} [DecidableEq κ]
def kGet : List κ → List D → κ → Option D
  | k :: ks, d :: ds, x => if k = x then some d else kGet ks ds x
  | _, _, _ => none
def kRep : List κ → List D → κ → D → List D
  | k :: ks, e :: ds, x, d => (if k = x then d else e) :: kRep ks ds x d
  | _, ds, _, _ => ds
def kPutK (ks : List κ) (x : κ) : List κ := if x ∈ ks then ks else ks ++ [x]
def kPutD (ks : List κ) (ds : List D) (x : κ) (d : D) : List D := if x ∈ ks then kRep ks ds x d else ds ++ [d]
theorem kGet_some {p : Addr} {W : AP} {H : Hp} {x : κ} {d : D} : ∀ {kvs : List (κ × V)} {ds : List D}, Rps p W H ds (kvs.map (·.2)) → kGet (kvs.map (·.1)) ds x = some d → ∃ v, valV kvs x = some v ∧ Rp p W H d v
  | [], _, _, h => by simp [kGet] at h
  | kv :: r, [], _, h => by simp [kGet] at h
  | kv :: r, e :: ds, rs, h => by
    rw [List.map_cons] at rs
    simp only [Rps] at rs
    obtain ⟨v, t, e1, r1, r2⟩ := rs
    cases e1
    rw [List.map_cons] at h
    unfold kGet at h
    by_cases hk : kv.1 = x
    · rw [if_pos hk] at h; cases h
      exact ⟨kv.2, valV_pos hk, r1⟩
    · rw [if_neg hk] at h
      rw [valV_neg hk]
      exact kGet_some r2 h
theorem kGet_none {p : Addr} {W : AP} {H : Hp} {x : κ} : ∀ {kvs : List (κ × V)} {ds : List D}, Rps p W H ds (kvs.map (·.2)) → kGet (kvs.map (·.1)) ds x = none → valV kvs x = none
  | [], _, _, _ => rfl
  | kv :: r, [], rs, _ => by simp [Rps] at rs
  | kv :: r, e :: ds, rs, h => by
    rw [List.map_cons] at rs
    simp only [Rps] at rs
    obtain ⟨v, t, e1, r1, r2⟩ := rs
    cases e1
    rw [List.map_cons] at h
    unfold kGet at h
    by_cases hk : kv.1 = x
    · rw [if_pos hk] at h; cases h
    · rw [if_neg hk] at h
      rw [valV_neg hk]
      exact kGet_none r2 h
theorem kGet_val {p : Addr} {W : AP} {H : Hp} {x : κ} {kvs : List (κ × V)} {ds : List D} (rs : Rps p W H ds (kvs.map (·.2))) : (valV kvs x).isSome = (kGet (kvs.map (·.1)) ds x).isSome := by
  cases h : kGet (kvs.map (·.1)) ds x with
  | none => rw [kGet_none rs h]; rfl
  | some d =>
    obtain ⟨v, e, _⟩ := kGet_some rs h
    rw [e]; rfl
theorem any_mem (kvs : List (κ × V)) (x : κ) : (kvs.any fun kv => decide (kv.1 = x)) = decide (x ∈ kvs.map (·.1)) := by
  induction kvs with
  | nil => simp
  | cons kv r ih =>
    rw [List.any_cons, ih, List.map_cons]
    by_cases h : kv.1 = x
    · simp [h]
    · have : ¬ x = kv.1 := fun z => h z.symm
      simp [h, this]
theorem kRep_rps {p : Addr} {W : AP} {H : Hp} {x : κ} {d : D} {v : V} (rd : Rp p W H d v) : ∀ {kvs : List (κ × V)} {ds : List D}, Rps p W H ds (kvs.map (·.2)) → Rps p W H (kRep (kvs.map (·.1)) ds x d) ((kvs.map fun kv => if kv.1 = x then (kv.1, v) else kv).map (·.2))
  | [], _, rs => by simpa [kRep] using rs
  | kv :: r, [], rs => by simp [Rps] at rs
  | kv :: r, e :: ds, rs => by
    rw [List.map_cons] at rs
    simp only [Rps] at rs
    obtain ⟨w, t, e1, r1, r2⟩ := rs
    cases e1
    rw [List.map_cons, List.map_cons, List.map_cons]
    unfold kRep
    refine .cons ?_ (kRep_rps rd r2)
    by_cases h : kv.1 = x
    · rw [if_pos h, if_pos h]; exact rd
    · rw [if_neg h, if_neg h]; exact r1
theorem putK_keys (kvs : List (κ × V)) (x : κ) (v : V) : (putK kvs x v).map (·.1) = kPutK (kvs.map (·.1)) x := by
  unfold putK kPutK
  rw [any_mem]
  by_cases h : x ∈ kvs.map (·.1)
  · simp only [h, decide_true, if_true, List.map_map]
    refine List.map_congr_left fun kv _ => ?_
    show (if kv.1 = x then (kv.1, v) else kv).1 = kv.1
    by_cases z : kv.1 = x
    · rw [if_pos z]
    · rw [if_neg z]
  · simp only [h, decide_false, Bool.false_eq_true, if_false, List.map_append]; rfl
theorem putK_rps {p : Addr} {W : AP} {H : Hp} {x : κ} {d : D} {v : V} {kvs : List (κ × V)} {ds : List D} (rs : Rps p W H ds (kvs.map (·.2))) (rd : Rp p W H d v) : Rps p W H (kPutD (kvs.map (·.1)) ds x d) ((putK kvs x v).map (·.2)) := by
  unfold putK kPutD
  rw [any_mem]
  by_cases h : x ∈ kvs.map (·.1)
  · simp only [h, decide_true, if_true]
    exact kRep_rps rd rs
  · simp only [h, decide_false, Bool.false_eq_true, if_false, List.map_append]
    exact rs.append (.cons rd .nil)
end

def dgD : D → D → Option D
  | .dct ks ds, k => (dKey k).bind (kGet ks ds)
  | .dtt ks ds, k => (dKeys k).bind (kGet ks ds)
  | _, _ => none
def dinD : D → D → Option D
  | k, .dct ks ds => (dKey k).map fun x => .bl (kGet ks ds x).isSome
  | k, .dtt ks ds => (dKeys k).map fun x => .bl (kGet ks ds x).isSome
  | _, _ => none
def dninD : D → D → Option D
  | k, .dct ks ds => (dKey k).map fun x => .bl (!(kGet ks ds x).isSome)
  | k, .dtt ks ds => (dKeys k).map fun x => .bl (!(kGet ks ds x).isSome)
  | _, _ => none
theorem dg_get {p : Addr} {W : AP} {H : Hp} {x k d : D} {v u : V} (h : dgD x k = some d) (r : Rp p W H x v) (rk : Rp p W H k u) : ∃ a w, v = .ref a ∧ DGet H a u (some w) ∧ Rp p W H d w := by
  cases x <;> simp only [dgD] at h <;> try (cases h; done)
  · obtain ⟨a, kvs, rfl, _, ha, rfl, rs⟩ := rp_dct r
    obtain ⟨y, h1, h2⟩ := Option.bind_eq_some_iff.mp h
    obtain ⟨w, h3, h4⟩ := kGet_some rs h2
    exact ⟨a, w, rfl, .inl ⟨kvs, y, ha, dKey_rp h1 rk, h3.symm⟩, h4⟩
  · obtain ⟨a, kvs, rfl, _, ha, rfl, rs⟩ := rp_dtt r
    obtain ⟨y, h1, h2⟩ := Option.bind_eq_some_iff.mp h
    obtain ⟨w, h3, h4⟩ := kGet_some rs h2
    obtain ⟨b, rfl, hb⟩ := dKeys_rp h1 rk
    exact ⟨a, w, rfl, .inr ⟨kvs, y, b, ha, rfl, hb, h3.symm⟩, h4⟩
/-- whether there, and what -/
theorem din_get {p : Addr} {W : AP} {H : Hp} {x k d : D} {v u : V} (h : dinD k x = some d) (r : Rp p W H x v) (rk : Rp p W H k u) : ∃ a o, v = .ref a ∧ DGet H a u o ∧ d = .bl o.isSome := by
  cases x <;> simp only [dinD] at h <;> try (cases h; done)
  · obtain ⟨a, kvs, rfl, _, ha, rfl, rs⟩ := rp_dct r
    obtain ⟨y, h1, rfl⟩ := Option.map_eq_some_iff.mp h
    exact ⟨a, _, rfl, .inl ⟨kvs, y, ha, dKey_rp h1 rk, rfl⟩, by rw [kGet_val rs]⟩
  · obtain ⟨a, kvs, rfl, _, ha, rfl, rs⟩ := rp_dtt r
    obtain ⟨y, h1, rfl⟩ := Option.map_eq_some_iff.mp h
    obtain ⟨b, rfl, hb⟩ := dKeys_rp h1 rk
    exact ⟨a, _, rfl, .inr ⟨kvs, y, b, ha, rfl, hb, rfl⟩, by rw [kGet_val rs]⟩
theorem dnin_get {p : Addr} {W : AP} {H : Hp} {x k d : D} {v u : V} (h : dninD k x = some d) (r : Rp p W H x v) (rk : Rp p W H k u) : ∃ a o, v = .ref a ∧ DGet H a u o ∧ d = .bl (!o.isSome) := by
  cases x <;> simp only [dninD] at h <;> try (cases h; done)
  · obtain ⟨a, kvs, rfl, _, ha, rfl, rs⟩ := rp_dct r
    obtain ⟨y, h1, rfl⟩ := Option.map_eq_some_iff.mp h
    exact ⟨a, _, rfl, .inl ⟨kvs, y, ha, dKey_rp h1 rk, rfl⟩, by rw [kGet_val rs]⟩
  · obtain ⟨a, kvs, rfl, _, ha, rfl, rs⟩ := rp_dtt r
    obtain ⟨y, h1, rfl⟩ := Option.map_eq_some_iff.mp h
    obtain ⟨b, rfl, hb⟩ := dKeys_rp h1 rk
    exact ⟨a, _, rfl, .inr ⟨kvs, y, b, ha, rfl, hb, rfl⟩, by rw [kGet_val rs]⟩
section
variable {X : Cx} {a b e : Expr} {pos p : Pos} {ma mb m : M D} {i : Nat} {x : Str}
theorem s_dg (hu : X.A.units + 1 < cLine) (ha : SE X a ma) (hb : SE X b mb) (hs : NoSl b := by exact fun _ _ => rfl) : SE X (.Subscript a b pos) (eBin dgD ma mb) :=
  ⟨fun B => PE.imp (pe_dget hu (ha.pe B) (hb.pe B) hs) fun σ H Q ⟨s, d, s', k, e, q⟩ => by
    refine tI.bind k e fun dx s1 x H1 h1 e1 k1 ev1 r1 => ?_
    refine tI.bind k1 e1 fun dy s2 y H2 h2 e2 k2 ev2 r2 => ?_
    obtain ⟨e3, rfl⟩ := lift_some e2
    obtain ⟨ad, w, rfl, g, rw'⟩ := dg_get e3 (r1.ev ev2) r2
    exact ⟨ad, w, rfl, g, q w H2 k2 (ev1.trans ev2) rw'⟩⟩
theorem s_din (hu : X.A.units + 1 < cLine) (ha : SE X a ma) (hb : SE X b mb) (hm : behindInMarks .In b = false := by rfl) : SE X (.Compare a [.In] [b] pos) (eBin dinD ma mb) :=
  ⟨fun B => PE.imp (pe_cmp (pc_din hu (ha.pe B) (hb.pe B)) hm) fun σ H Q ⟨s, d, s', k, e, q⟩ => by
    refine tI.bind k e fun dx s1 x H1 h1 e1 k1 ev1 r1 => ?_
    refine tI.bind k1 e1 fun dy s2 y H2 h2 e2 k2 ev2 r2 => ?_
    obtain ⟨e3, rfl⟩ := lift_some e2
    obtain ⟨ad, o, rfl, g, rfl⟩ := din_get e3 r2 (r1.ev ev2)
    exact ⟨ad, o, rfl, g, q _ H2 k2 (ev1.trans ev2) (.mkBl _)⟩⟩
theorem s_dnin (hu : X.A.units + 1 < cLine) (ha : SE X a ma) (hb : SE X b mb) (hm : behindInMarks .NotIn b = false := by rfl) : SE X (.Compare a [.NotIn] [b] pos) (eBin dninD ma mb) :=
  ⟨fun B => PE.imp (pe_cmp (pc_dnotin hu (ha.pe B) (hb.pe B)) hm) fun σ H Q ⟨s, d, s', k, e, q⟩ => by
    refine tI.bind k e fun dx s1 x H1 h1 e1 k1 ev1 r1 => ?_
    refine tI.bind k1 e1 fun dy s2 y H2 h2 e2 k2 ev2 r2 => ?_
    obtain ⟨e3, rfl⟩ := lift_some e2
    obtain ⟨ad, o, rfl, g, rfl⟩ := dnin_get e3 r2 (r1.ev ev2)
    exact ⟨ad, o, rfl, g, q _ H2 k2 (ev1.trans ev2) (.mkBl _)⟩⟩
/-- x[e] of an own dict -/
def eDgO (i : Nat) (mb : M D) : M D := fun s0 => match s0.env[i]? with
  | some (some _) => bnd mb (fun d s => match s.env[i]? with
    | some (some sl) => (match dgD sl.bor d with
      | some y => some (y, s)
      | none => none)
    | _ => none) s0
  | _ => none
theorem s_dgO (hu : X.A.units + 1 < cLine) (hx : PE X (.Name x p) (tVar i)) (hb : SE X b mb) (hs : NoSl b := by exact fun _ _ => rfl) : SE X (.Subscript (.Name x p) b pos) (eDgO i mb) := ⟨fun B => by
  refine PE.imp (pe_dget hu hx (hb.pe B) hs) fun σ H Q ⟨s, d, s', k, e, q⟩ => ?_
  unfold eDgO at e
  split at e
  · rename_i sl0 h0
    obtain ⟨v, hv⟩ := k.slot h0
    refine ⟨v, hv, ?_⟩
    refine tI.bind k e fun dy s1 u H1 h1 e1 k1 ev1 r1 => ?_
    split at e1
    · rename_i sl hsl
      split at e1
      · rename_i y hy
        cases e1
        cases sl with
        | val dx =>
          obtain ⟨v', q1, q2⟩ := k1.val i _ hsl
          rw [hv] at q1; cases q1
          obtain ⟨ad, w, rfl, g, rw'⟩ := dg_get hy q2 r1
          exact ⟨ad, w, rfl, g, q w H1 k1 ev1 rw'⟩
        | own ds => simp [Sl.bor, dgD] at hy
        | ownK ks ds =>
          obtain ⟨a', o, q1, q2, ⟨kvs, rfl, rfl, rs⟩, _⟩ := k1.own i _ hsl rfl
          rw [hv] at q1; cases q1
          obtain ⟨y', h2, h3⟩ := Option.bind_eq_some_iff.mp hy
          obtain ⟨w, h4, h5⟩ := kGet_some rs h3
          exact ⟨a', w, rfl, .inl ⟨kvs, y', .inl q2, dKey_rp h2 r1, h4.symm⟩, q w H1 k1 ev1 h5⟩
        | ownT ks ds =>
          obtain ⟨a', o, q1, q2, ⟨kvs, rfl, rfl, rs⟩, _⟩ := k1.own i _ hsl rfl
          rw [hv] at q1; cases q1
          obtain ⟨y', h2, h3⟩ := Option.bind_eq_some_iff.mp hy
          obtain ⟨w, h4, h5⟩ := kGet_some rs h3
          obtain ⟨b', rfl, hb'⟩ := dKeys_rp h2 r1
          exact ⟨a', w, rfl, .inr ⟨kvs, y', b', .inl q2, rfl, hb', h4.symm⟩, q w H1 k1 ev1 h5⟩
      · cases e1
    · cases e1
  · cases e⟩
/-- the own dict of slot i becomes what it is with a store -/
def putD (i : Nat) (k d : D) : M Unit := fun s => match s.env[i]? with
  | some (some (.ownK ks ds)) => (match dKey k with
    | some x => if ks.length < sizeLine then some ((), ⟨s.env.set i (some (.ownK (kPutK ks x) (kPutD ks ds x d))), s.src⟩) else none
    | none => none)
  | some (some (.ownT ks ds)) => (match dKeys k with
    | some x => if ks.length < sizeLine then some ((), ⟨s.env.set i (some (.ownT (kPutK ks x) (kPutD ks ds x d))), s.src⟩) else none
    | none => none)
  | _ => none
def ownHere2 (i : Nat) : M Unit := fun s => match s.env[i]? with
  | some (some (.ownK _ _)) => some ((), s)
  | some (some (.ownT _ _)) => some ((), s)
  | _ => none
theorem own_here2 {i : Nat} {s s' : S} {u : Unit} (h : ownHere2 i s = some (u, s')) : s' = s ∧ ∃ sl : Sl, s.env[i]? = some (some sl) ∧ sl.isOwn = true := by
  unfold ownHere2 at h
  split at h
  · rename_i hd; cases h; exact ⟨rfl, _, hd, rfl⟩
  · rename_i hd; cases h; exact ⟨rfl, _, hd, rfl⟩
  · cases h
def sPutD (i : Nat) (mv mk : M D) : M Out := bnd mv fun d => bnd (ownHere2 i) fun _ => bnd mk fun k => bnd (putD i k d) fun _ => ret .nx
theorem s_putD {me : M D} (hu : X.A.units + 1 < cLine) {tpos : Pos} (hx : PE X (.Name x p) (tVar i)) (hb : SE X b mb) (he : SE X e me) (hs : swapsWith e (some (.Subscript (.Name x p) b tpos)) pos.line X.env = pure false := by rfl) :
    SS X (.Assign [.Subscript (.Name x p) b tpos] e pos) (sPutD i me mb) := ⟨fun B => by
  refine PS.imp (ps_dput hu hx (hb.pe B) (he.pe B) hs) fun D σ H ⟨s, o, s', k, e, q⟩ => ?_
  refine tI.bind k e fun d s1 v H1 h1 e1 k1 ev1 r1 => ?_
  obtain ⟨_, s0, e0, e9⟩ := bnd_some e1
  obtain ⟨rfl, sl0, h0, ho0⟩ := own_here2 e0
  obtain ⟨a, o1, q1, _⟩ := k1.own i sl0 h0 ho0
  refine ⟨_, q1, ?_⟩
  refine tI.bind k1 e9 fun dy s2 u H2 h2 e2 k2 ev2 r2 => ?_
  obtain ⟨_, s3, e3, e4⟩ := bnd_some e2
  obtain ⟨rfl, rfl⟩ := ret_some e4
  unfold putD at e3
  split at e3
  · rename_i ks ds hsl
    split at e3
    · rename_i y hy
      split at e3
      · rename_i hl
        cases e3
        obtain ⟨a', o', p1, p2, ⟨kvs, rfl, rfl, rs⟩, _⟩ := k2.own i _ hsl rfl
        rw [q1] at p1; cases p1
        obtain ⟨k3, ev3⟩ := k2.wr (sl' := .ownK (kPutK (kvs.map (·.1)) y) (kPutD (kvs.map (·.1)) ds y d)) (o := .dK (putK kvs y v)) hsl rfl rfl q1 ⟨_, rfl, putK_keys .., putK_rps rs (r1.ev ev2)⟩
        exact ⟨a, _, rfl, .inl ⟨kvs, y, p2, dKey_rp hy r2, by simpa using hl, rfl⟩, q σ _ k3 (ev1.trans (ev2.trans ev3))⟩
      · cases e3
    · cases e3
  · rename_i ks ds hsl
    split at e3
    · rename_i y hy
      split at e3
      · rename_i hl
        cases e3
        obtain ⟨a', o', p1, p2, ⟨kvs, rfl, rfl, rs⟩, _⟩ := k2.own i _ hsl rfl
        rw [q1] at p1; cases p1
        obtain ⟨k3, ev3⟩ := k2.wr (sl' := .ownT (kPutK (kvs.map (·.1)) y) (kPutD (kvs.map (·.1)) ds y d)) (o := .dT (putK kvs y v)) hsl rfl rfl q1 ⟨_, rfl, putK_keys .., putK_rps rs (r1.ev ev2)⟩
        obtain ⟨b', rfl, hb'⟩ := dKeys_rp hy r2
        exact ⟨a, _, rfl, .inr ⟨kvs, y, b', p2, rfl, hb', by simpa using hl, rfl⟩, q σ _ k3 (ev1.trans (ev2.trans ev3))⟩
      · cases e3
    · cases e3
  · cases e3⟩
end

def tN (B : Bs) (m : M Sl) : TE := fun σ H Q => ∃ s sl s', StOk B σ H s ∧ m s = some (sl, s') ∧ sl.isOwn = true ∧
  ∀ a o H', StOk (B.plus a) σ H' s' → Ev (B.W s.env σ) H ((B.plus a).W s'.env σ) H' → B.H0 a = none → ¬ (B.W s'.env σ) a → H' a = some o → OwnR B.p ((B.plus a).W s'.env σ) H' sl o → Q (.ref a) H'
structure SN (X : Cx) (e : Expr) (m : M Sl) : Prop where
  pe : ∀ B, PE X e (tN B m)
section
variable {X : Cx} {e : Expr} {es : List Expr} {pos : Pos} {mn : M Sl} {ml : M (List D)} {ms : M (List Sl)}
theorem n_ofL (h : SL X e ml) : SN X e (bnd ml fun ds => ret (.own ds)) := ⟨fun B => PE.imp (h.pe B) fun σ H Q ⟨s, sl, s', k, e, ho, q⟩ => by
  obtain ⟨ds, s1, e1, e2⟩ := bnd_some e
  obtain ⟨rfl, rfl⟩ := ret_some e2
  exact ⟨s, ds, s', k, e1, fun a vs H' k' ev n nw ha r => q a _ H' k' ev n nw ha ⟨vs, rfl, r⟩⟩⟩
def eNew (mn : M Sl) : M D := bnd mn fun sl => ret sl.bor
theorem bor_rp {p : Addr} {W : AP} {H : Hp} {a : Addr} {o : HO} : ∀ {sl : Sl}, sl.isOwn = true → ¬ W a → H a = some o → OwnR p W H sl o → Rp p W H sl.bor (.ref a)
  | .val _, h, _, _, _ => by cases h
  | .own ds, _, n, ha, ⟨vs, e, r⟩ => by subst e; exact .mkLst n ha r
  | .ownK ks ds, _, n, ha, ⟨kvs, e, r1, r⟩ => by subst e; simp only [Sl.bor, Rp]; exact ⟨a, kvs, rfl, n, .inl ha, r1, r⟩
  | .ownT ks ds, _, n, ha, ⟨kvs, e, r1, r⟩ => by subst e; simp only [Sl.bor, Rp]; exact ⟨a, kvs, rfl, n, .inl ha, r1, r⟩
/-- the guard of a new object falls -/
theorem StOk.unplus {B : Bs} {σ : Sg} {H : Hp} {s : S} {a : Addr} (k : StOk (B.plus a) σ H s) (wp : B.Wc B.p) (wcc : B.Wc B.c) : StOk B σ H s ∧ Ev ((B.plus a).W s.env σ) H (B.W s.env σ) H := by
  have ev2 : Ev ((B.plus a).W s.env σ) H (B.W s.env σ) H := Ev.less fun b hb => hb.elim (fun z => .inl (.inl z)) fun z => .inr z
  refine ⟨⟨k.len, fun i d h => ?_, fun i sl h ho => ?_, k.sep, k.src, k.keep, fun b h => k.wc b (.inl h), wp, wcc⟩, ev2⟩
  · obtain ⟨v, h1, h2⟩ := k.val i d h
    exact ⟨v, h1, Rp.ev ev2 _ _ h2⟩
  · obtain ⟨b, o, h1, h2, h3, h4, h5⟩ := k.own i sl h ho
    exact ⟨b, o, h1, h2, OwnR.ev ev2 _ _ h3, h4, fun z => h5 (.inl z)⟩
theorem s_ofN (h : SN X e mn) : SE X e (eNew (bnd mn fun sl => if sl.isOwn = true then ret sl else fail)) := ⟨fun B => PE.imp (h.pe B) fun σ H Q ⟨s, d, s', k, e, q⟩ => by
  obtain ⟨sl, s1, e1, e2⟩ := bnd_some e
  obtain ⟨rfl, rfl⟩ := ret_some e2
  obtain ⟨sl', s2, e3, e4⟩ := bnd_some e1
  split at e4
  · rename_i ho
    obtain ⟨rfl, rfl⟩ := ret_some e4
    refine ⟨s, sl, s', k, e3, ho, fun a o H' k' ev n nw ha r => ?_⟩
    obtain ⟨k2, ev2⟩ := k'.unplus k.wp k.wcc
    exact q _ H' k2 (Ev.trans ev ev2) (bor_rp ho nw ha (OwnR.ev ev2 _ _ r))
  · cases e4⟩
def oNS (i : Nat) : Sl → M Unit := fun sl s => if i < s.env.length ∧ sl.isOwn = true then some ((), { s with env := s.env.set i (some sl) }) else none
def sOwnN (i : Nat) (mn : M Sl) : M Out := bnd mn fun sl => bnd (oNS i sl) fun _ => ret .nx
theorem s_ownN {i : Nat} {x : Str} {pos' : Pos} (hN : X.N.Nodup) (hi : X.N[i]? = some x) (hx : Loc X.env.scope x) (he : SN X e mn) (hs : swapsWith e (some (.Name x pos')) pos.line X.env = pure false := by rfl)
    (hf : X.fn x = true ∨ X.env.scope.names.lookup x = some .local := by first | exact .inl rfl | exact .inr rfl | assumption) : SS X (.Assign [.Name x pos'] e pos) (sOwnN i mn) :=
  ⟨fun B => PS.imp (ps_set hN hi hx (he.pe B) hs hf) fun D σ H ⟨s, o, s', k, e, q⟩ => by
    obtain ⟨sl, s1, e1, e2⟩ := bnd_some e
    obtain ⟨_, s2, e3, e4⟩ := bnd_some e2
    obtain ⟨rfl, rfl⟩ := ret_some e4
    unfold oNS at e3
    split at e3
    · rename_i hl
      cases e3
      refine ⟨s, sl, s1, k, e1, hl.2, fun a o H1 k1 ev1 n nc ha r => ?_⟩
      obtain ⟨k2, ev2⟩ := k1.putOwnS hl.1 hl.2 n nc k.wp k.wcc ha r
      exact q _ H1 k2 (Ev.trans ev1 ev2)
    · cases e3⟩
def pOwnN (mn : M Sl) (ms : M (List Sl)) : M (List Sl) := bnd mn fun sl => bnd (if sl.isOwn = true then ret () else fail) fun _ => bnd ms fun r => ret (sl :: r)
theorem pend_own {σ : Sg} {H : Hp} {s : S} {Bf B : Bs} {sl : Sl} {r : List Sl} {a : Addr} {o : HO} {t : List V} (ho : sl.isOwn = true) (n : B.H0 a = none) (nc : ¬ B.Wc a) (r1 : OwnR Bf.p (Bf.W s.env σ) H sl o) (h : PendR σ H s Bf (B.plusO a o) r t) : PendR σ H s Bf B (sl :: r) (.ref a :: t) := by
  cases sl with
  | val d => cases ho
  | own ds => exact ⟨a, o, t, rfl, n, nc, r1, h⟩
  | ownK ks ds => exact ⟨a, o, t, rfl, n, nc, r1, h⟩
  | ownT ks ds => exact ⟨a, o, t, rfl, n, nc, r1, h⟩
theorem p_ownN (ha : SN X e mn) (hr : SP X es ms) (hs : starEach (e :: es) X.env = (false, eval e X.env) :: starEach es X.env := by rfl) : SP X (e :: es) (pOwnN mn ms) :=
  ⟨fun B => ⟨fun pos pins sh σ H Q I h => by
    refine (pa_cons (t := fun σ H Q => ∃ B', tP B' ms σ H Q) (ha.pe B) ⟨fun pos pins sh σ H Q I ⟨B', h⟩ => (hr.pa B').run pos pins sh σ H Q I h⟩ hs).run pos pins sh σ H Q I ?_
    obtain ⟨s, d, s', k, e, q⟩ := h
    obtain ⟨sl, s1, e1, e6⟩ := bnd_some e
    obtain ⟨_, s1', e5, e2⟩ := bnd_some e6
    split at e5
    · rename_i ho
      obtain ⟨_, rfl⟩ := ret_some e5
      refine ⟨s, sl, _, k, e1, ho, fun a o H1 k1 ev1 n nw hA r1 => ?_⟩
      obtain ⟨r, s2, e3, e4⟩ := bnd_some e2
      obtain ⟨rfl, rfl⟩ := ret_some e4
      refine ⟨B.plusO a o, _, r, s', k1.pin hA, e3, fun us H' Bf k2 ev2 pr => q _ H' Bf k2 (Ev.trans ev1 ev2) (pend_own ho n (fun z => nw (.inl z)) ?_ pr)⟩
      rw [pr.base.1]
      exact OwnR.ev ev2 _ _ r1
    · cases e5⟩⟩
def nK0 : M Sl := ret (.ownK [] [])
def nT0 : M Sl := ret (.ownT [] [])
theorem n_dK : SN X (.Dict [] [] pos) nK0 := ⟨fun B => PE.imp pe_dnewK fun σ H Q ⟨s, sl, s', k, e, ho, q⟩ p np => by
  obtain ⟨rfl, rfl⟩ := ret_some e
  obtain ⟨kp, ev⟩ := k.plus (o := .dK []) np
  exact q p _ _ kp ev (k.new np) (k.wt.new np) upd_same ⟨[], rfl, rfl, .nil⟩⟩
theorem n_dT : SN X (.Dict [] [] pos) nT0 := ⟨fun B => PE.imp pe_dnewT fun σ H Q ⟨s, sl, s', k, e, ho, q⟩ p np => by
  obtain ⟨rfl, rfl⟩ := ret_some e
  obtain ⟨kp, ev⟩ := k.plus (o := .dT []) np
  exact q p _ _ kp ev (k.new np) (k.wt.new np) upd_same ⟨[], rfl, rfl, .nil⟩⟩
def dpNil : M (List (Key × D)) := ret []
def dpCons (mk mv : M D) (ms : M (List (Key × D))) : M (List (Key × D)) := bnd mk fun k => bnd (lift (dKey k)) fun x => bnd mv fun d => bnd ms fun r => ret ((x, d) :: r)
def mergeD : List (Key × D) → List Key → List D → List Key × List D
  | [], ks, ds => (ks, ds)
  | (x, d) :: r, ks, ds => mergeD r (kPutK ks x) (kPutD ks ds x d)
def nDisp (ms : M (List (Key × D))) : M Sl := bnd ms fun l => if l.length ≤ 15 then ret (.ownK (mergeD l [] []).1 (mergeD l [] []).2) else fail
/-- the pairs' values as they are reached -/
def PairsR (p : Addr) (W : AP) (H : Hp) : List (Key × D) → List (Key × V) → Prop
  | [], l => l = []
  | (x, d) :: r, l => ∃ v t, l = (x, v) :: t ∧ Rp p W H d v ∧ PairsR p W H r t
theorem PairsR.ev {p : Addr} {W W' : AP} {H H' : Hp} (e : Ev W H W' H') : ∀ {l : List (Key × D)} {k : List (Key × V)}, PairsR p W H l k → PairsR p W' H' l k
  | [], _, h => h
  | (x, d) :: r, _, ⟨v, t, e1, r1, h⟩ => ⟨v, t, e1, r1.ev e, PairsR.ev e h⟩
theorem PairsR.len {p : Addr} {W : AP} {H : Hp} : ∀ {l : List (Key × D)} {k : List (Key × V)}, PairsR p W H l k → k.length = l.length
  | [], _, h => by rw [h]; rfl
  | (x, d) :: r, _, ⟨v, t, e1, r1, h⟩ => by rw [e1]; simp [h.len]
theorem merge_R {p : Addr} {W : AP} {H : Hp} : ∀ {l : List (Key × D)} {k kvs : List (Key × V)} {ds : List D}, PairsR p W H l k → Rps p W H ds (kvs.map (·.2)) →
    (mergeK kvs k).map (·.1) = (mergeD l (kvs.map (·.1)) ds).1 ∧ Rps p W H (mergeD l (kvs.map (·.1)) ds).2 ((mergeK kvs k).map (·.2))
  | [], _, kvs, ds, h, r => by rw [h]; exact ⟨rfl, r⟩
  | (x, d) :: rest, _, kvs, ds, ⟨v, t, e1, r1, h⟩, r => by
    subst e1
    have := merge_R (kvs := putK kvs x v) (ds := kPutD (kvs.map (·.1)) ds x d) h (putK_rps r r1)
    rw [putK_keys] at this
    exact this
structure SD (X : Cx) (pos : Pos) (keys : List (Option Expr)) (values : List Expr) (m : M (List (Key × D))) : Prop where
  pp : ∃ trs, PPs X pos keys values trs ∧ ∀ B σ H Q, (∃ s l s', StOk B σ H s ∧ m s = some (l, s') ∧ ∀ kvs H', StOk B σ H' s' → Ev (B.W s.env σ) H (B.W s'.env σ) H' → PairsR B.p (B.W s'.env σ) H' l kvs → Q (kvs.map fun kv => (kV kv.1, kv.2)) H') → tPairs trs σ H Q
theorem d_nil : SD X pos [] [] dpNil := ⟨[], pps_nil, fun B σ H Q ⟨s, l, s', k, e, q⟩ => by
  obtain ⟨rfl, rfl⟩ := ret_some e
  exact q [] H k Ev.refl rfl⟩
theorem d_cons {k v : Expr} {ks : List (Option Expr)} {vs : List Expr} {mk mv : M D} {ms : M (List (Key × D))} (hk : SE X k mk) (hv : SE X v mv) (hr : SD X pos ks vs ms) : SD X pos (some k :: ks) (v :: vs) (dpCons mk mv ms) := ⟨by
  obtain ⟨trs, h1, h2⟩ := hr.pp
  refine ⟨(tIx mk, tIx mv) :: trs, pps_cons hk.px hv.px h1, fun B σ H Q ⟨s, l, s', st, e, q⟩ => ?_⟩
  refine ⟨B, tI.bind st e fun dk s1 u H1 _ e1 k1 ev1 r1 => ?_⟩
  obtain ⟨x, s1', e3, e1b⟩ := bnd_some e1
  obtain ⟨hx, rfl⟩ := lift_some e3
  refine ⟨B, tI.bind k1 e1b fun d s2 w H2 _ e2 k2 ev2 r2 => ?_⟩
  obtain ⟨rest, s3, e4, e5⟩ := bnd_some e2
  obtain ⟨rfl, rfl⟩ := ret_some e5
  refine h2 B _ _ _ ⟨s2, rest, s', k2, e4, fun kvs H' k3 ev3 pr => ?_⟩
  have := q ((x, w) :: kvs) H' k3 (ev1.trans (ev2.trans ev3)) ⟨w, kvs, rfl, r2.ev ev3, pr⟩
  rw [dKey_rp hx r1]
  exact this⟩
theorem n_disp {keys : List (Option Expr)} {values : List Expr} {ms : M (List (Key × D))} (h : SD X pos keys values ms) (hall : keys.all (·.isSome) = true := by rfl) (hl : keys.length = values.length := by rfl) (h0 : keys ≠ [] := by intro z; cases z)
    (h15 : keys.length ≤ 15 := by decide) : SN X (.Dict keys values pos) (nDisp ms) := ⟨fun B => by
  obtain ⟨trs, h1, h2⟩ := h.pp
  refine PE.imp (pe_disp h1 hall hl h0 h15) fun σ H Q ⟨s, sl, s', k, e, ho, q⟩ p np => ?_
  obtain ⟨l, s1, e1, e2⟩ := bnd_some e
  split at e2
  · rename_i hl15
    obtain ⟨rfl, rfl⟩ := ret_some e2
    obtain ⟨kb, evb⟩ := k.begin (o := .dK []) np
    have nW := k.wt.new np
    refine h2 (B.plusO p (.dK [])) _ _ _ ⟨s, l, s', kb, e1, fun kvs H' k' ev pr => ?_⟩
    have hp1 : p ≠ B.p := fun z => nW (.inl (z ▸ k.wp))
    have hp2 : p ≠ B.c := fun z => nW (.inl (z ▸ k.wcc))
    have hA : H' p = some (.dK []) := k'.keep p _ upd_same hp1 hp2
    refine ⟨hA, kvs, rfl, by rw [pr.len]; exact hl15, ?_⟩
    obtain ⟨kg, evg⟩ := k'.grow (o' := .dK (mergeK [] kvs)) hp1 hp2
    have kf := kg.finish (k.new np)
    refine q p _ _ kf ((Ev.trans evb (Ev.trans ev evg))) (k.new np) ?_ upd_same ?_
    · rintro (z | ⟨j, sl, h1, h2, h3⟩)
      · exact nW (.inl z)
      · obtain ⟨b, o, h5, _, _, _, h8⟩ := kf.own j sl h1 h2
        rw [h3] at h5; cases h5
        exact h8 (.inr rfl)
    · have m := merge_R (kvs := []) (ds := []) (PairsR.ev evg pr) .nil
      exact ⟨_, rfl, m.1, m.2⟩
  · cases e2⟩
end
end GH

namespace GH
open PySem PySem.Spec PyProof.Rows L2

def Bs.lock (B : Bs) (d : Addr) (o : Obj) (u : HO) : Bs := { B with H0 := upd B.H0 d (.frz o u) }
def DictO (u : HO) : Prop := (∃ kvs, u = .dK kvs) ∨ ∃ kvs, u = .dT kvs
section
variable {p : Addr} {W : AP} {H : Hp} {d : Addr} {o : Obj} {u : HO}
theorem Rd.lock {a : Addr} {x : HO} (h : H d = some u) (du : DictO u) (r : Rd H a x) : Rd (upd H d (.frz o u)) a x := by
  by_cases e : a = d
  · subst e
    rcases r with r | ⟨o', r⟩
    · rw [h] at r; cases r; exact .inr ⟨o, upd_same⟩
    · rw [h] at r; cases r
      rcases du with ⟨_, z⟩ | ⟨_, z⟩ <;> cases z
  · rcases r with r | ⟨o', r⟩
    · exact .inl (by rw [upd_ne e]; exact r)
    · exact .inr ⟨o', by rw [upd_ne e]; exact r⟩
theorem Rd.unlock {a : Addr} {x : HO} (h : H d = some (.frz o u)) (nx : ∀ o' y, x ≠ .frz o' y) (r : Rd H a x) : Rd (upd H d u) a x := by
  by_cases e : a = d
  · subst e
    rcases r with r | ⟨o', r⟩
    · rw [h] at r; cases r; exact absurd rfl (nx _ _)
    · rw [h] at r; cases r; exact .inl upd_same
  · rcases r with r | ⟨o', r⟩
    · exact .inl (by rw [upd_ne e]; exact r)
    · exact .inr ⟨o', by rw [upd_ne e]; exact r⟩
theorem lock_ne {a : Addr} {x : HO} (h : H d = some u) (du : DictO u) (hx : ¬ DictO x) (e : H a = some x) : (upd H d (.frz o u)) a = some x := by
  by_cases z : a = d
  · subst z; rw [h] at e; cases e; exact absurd du hx
  · rw [upd_ne z]; exact e
theorem unlock_ne {a : Addr} {x : HO} (h : H d = some (.frz o u)) (nx : ∀ o' y, x ≠ .frz o' y) (e : H a = some x) : (upd H d u) a = some x := by
  by_cases z : a = d
  · subst z; rw [h] at e; cases e; exact absurd rfl (nx _ _)
  · rw [upd_ne z]; exact e
theorem noDict_tup {xs : List V} : ¬ DictO (.tup xs) := by rintro (⟨_, z⟩ | ⟨_, z⟩) <;> cases z
theorem noDict_lst {xs : List V} : ¬ DictO (.lst xs) := by rintro (⟨_, z⟩ | ⟨_, z⟩) <;> cases z
theorem noDict_rng {lo hi : Int} : ¬ DictO (.rng lo hi) := by rintro (⟨_, z⟩ | ⟨_, z⟩) <;> cases z
mutual
theorem Rp.lock (h : H d = some u) (du : DictO u) : ∀ (x : D) (v : V), Rp p W H x v → Rp p W (upd H d (.frz o u)) x v
  | .non, _, r => r
  | .bl _, _, r => r
  | .int _, _, r => r
  | .str _, _, r => r
  | .src, _, r => r
  | .tup ds, _, ⟨a, vs, h1, h2, h3, h4⟩ => ⟨a, vs, h1, h2, lock_ne h du noDict_tup h3, Rps.lock h du ds vs h4⟩
  | .lst ds, _, ⟨a, vs, h1, h2, h3, h4⟩ => ⟨a, vs, h1, h2, lock_ne h du noDict_lst h3, Rps.lock h du ds vs h4⟩
  | .rng _ _, _, ⟨a, h1, h2, h3⟩ => ⟨a, h1, h2, lock_ne h du noDict_rng h3⟩
  | .dct _ ds, _, ⟨a, kvs, h1, h2, h3, h4, h5⟩ => ⟨a, kvs, h1, h2, Rd.lock h du h3, h4, Rps.lock h du ds _ h5⟩
  | .dtt _ ds, _, ⟨a, kvs, h1, h2, h3, h4, h5⟩ => ⟨a, kvs, h1, h2, Rd.lock h du h3, h4, Rps.lock h du ds _ h5⟩
theorem Rps.lock (h : H d = some u) (du : DictO u) : ∀ (x : List D) (v : List V), Rps p W H x v → Rps p W (upd H d (.frz o u)) x v
  | [], _, r => r
  | x :: ds, _, ⟨v, t, h1, h2, h3⟩ => ⟨v, t, h1, Rp.lock h du x v h2, Rps.lock h du ds t h3⟩
end
mutual
theorem Rp.unlock (h : H d = some (.frz o u)) : ∀ (x : D) (v : V), Rp p W H x v → Rp p W (upd H d u) x v
  | .non, _, r => r
  | .bl _, _, r => r
  | .int _, _, r => r
  | .str _, _, r => r
  | .src, _, r => r
  | .tup ds, _, ⟨a, vs, h1, h2, h3, h4⟩ => ⟨a, vs, h1, h2, unlock_ne h (fun _ _ z => by cases z) h3, Rps.unlock h ds vs h4⟩
  | .lst ds, _, ⟨a, vs, h1, h2, h3, h4⟩ => ⟨a, vs, h1, h2, unlock_ne h (fun _ _ z => by cases z) h3, Rps.unlock h ds vs h4⟩
  | .rng _ _, _, ⟨a, h1, h2, h3⟩ => ⟨a, h1, h2, unlock_ne h (fun _ _ z => by cases z) h3⟩
  | .dct _ ds, _, ⟨a, kvs, h1, h2, h3, h4, h5⟩ => ⟨a, kvs, h1, h2, Rd.unlock h (fun _ _ z => by cases z) h3, h4, Rps.unlock h ds _ h5⟩
  | .dtt _ ds, _, ⟨a, kvs, h1, h2, h3, h4, h5⟩ => ⟨a, kvs, h1, h2, Rd.unlock h (fun _ _ z => by cases z) h3, h4, Rps.unlock h ds _ h5⟩
theorem Rps.unlock (h : H d = some (.frz o u)) : ∀ (x : List D) (v : List V), Rps p W H x v → Rps p W (upd H d u) x v
  | [], _, r => r
  | x :: ds, _, ⟨v, t, h1, h2, h3⟩ => ⟨v, t, h1, Rp.unlock h x v h2, Rps.unlock h ds t h3⟩
end
theorem OwnR.lock (h : H d = some u) (du : DictO u) : ∀ {sl : Sl} {x : HO}, OwnR p W H sl x → OwnR p W (upd H d (.frz o u)) sl x
  | .val _, _, r => r
  | .own _, _, ⟨vs, h1, h2⟩ => ⟨vs, h1, Rps.lock h du _ _ h2⟩
  | .ownK _ _, _, ⟨kvs, h1, h2, h3⟩ => ⟨kvs, h1, h2, Rps.lock h du _ _ h3⟩
  | .ownT _ _, _, ⟨kvs, h1, h2, h3⟩ => ⟨kvs, h1, h2, Rps.lock h du _ _ h3⟩
theorem OwnR.unlock (h : H d = some (.frz o u)) : ∀ {sl : Sl} {x : HO}, OwnR p W H sl x → OwnR p W (upd H d u) sl x
  | .val _, _, r => r
  | .own _, _, ⟨vs, h1, h2⟩ => ⟨vs, h1, Rps.unlock h _ _ h2⟩
  | .ownK _ _, _, ⟨kvs, h1, h2, h3⟩ => ⟨kvs, h1, h2, Rps.unlock h _ _ h3⟩
  | .ownT _ _, _, ⟨kvs, h1, h2, h3⟩ => ⟨kvs, h1, h2, Rps.unlock h _ _ h3⟩
theorem StOk.lock {B : Bs} {σ : Sg} {s : S} (k : StOk B σ H s) (h : H d = some u) (du : DictO u) (nW : ¬ B.W s.env σ d) : StOk (B.lock d o u) σ (upd H d (.frz o u)) s := by
  have hp : d ≠ B.p := fun z => nW (.inl (z ▸ k.wp))
  have hc : d ≠ B.c := fun z => nW (.inl (z ▸ k.wcc))
  refine ⟨k.len, fun i x hx => ?_, fun i sl hi ho => ?_, k.sep, ⟨?_, ?_⟩, fun a x hx n1 n2 => ?_, fun a ha => ?_, k.wp, k.wcc⟩
  · obtain ⟨v, h1, h2⟩ := k.val i x hx
    exact ⟨v, h1, Rp.lock h du _ _ h2⟩
  · obtain ⟨a, x, h1, h2, h3, h4, h5⟩ := k.own i sl hi ho
    have ne : a ≠ d := fun z => nW (z ▸ .inr ⟨i, sl, hi, ho, h1⟩)
    exact ⟨a, x, h1, by rw [upd_ne ne]; exact h2, OwnR.lock h du h3, by show upd B.H0 d _ a = none; rw [upd_ne ne]; exact h4, h5⟩
  · show upd H d _ B.p = _
    rw [upd_ne (Ne.symm hp)]; exact k.src.d
  · show upd H d _ B.c = _
    rw [upd_ne (Ne.symm hc)]; exact k.src.l
  · have hx : upd B.H0 d (.frz o u) a = some x := hx
    by_cases z : a = d
    · subst z; rw [upd_same] at hx ⊢; exact hx
    · rw [upd_ne z] at hx ⊢; exact k.keep a x hx n1 n2
  · have ne : a ≠ d := fun z => nW (z ▸ .inl ha)
    rw [upd_ne ne]; exact k.wc a ha
theorem StOk.unlock {B : Bs} {σ : Sg} {s : S} (k : StOk (B.lock d o u) σ H s) (h : H d = some (.frz o u)) (hp : d ≠ B.p) (hc : d ≠ B.c) (nW : ¬ B.Wc d) (h0 : ∀ x, B.H0 d = some x → x = u) : StOk B σ (upd H d u) s := by
  refine ⟨k.len, fun i x hx => ?_, fun i sl hi ho => ?_, k.sep, ⟨?_, ?_⟩, fun a x hx n1 n2 => ?_, fun a ha => ?_, k.wp, k.wcc⟩
  · obtain ⟨v, h1, h2⟩ := k.val i x hx
    exact ⟨v, h1, Rp.unlock h _ _ h2⟩
  · obtain ⟨a, x, h1, h2, h3, h4, h5⟩ := k.own i sl hi ho
    have ne : a ≠ d := fun z => by
      subst z
      have h4 : upd B.H0 a (.frz o u) a = none := h4
      rw [upd_same] at h4; cases h4
    have h4 : upd B.H0 d (.frz o u) a = none := h4
    rw [upd_ne ne] at h4
    exact ⟨a, x, h1, by rw [upd_ne ne]; exact h2, OwnR.unlock h h3, h4, h5⟩
  · rw [upd_ne (Ne.symm hp)]; exact k.src.d
  · rw [upd_ne (Ne.symm hc)]; exact k.src.l
  · by_cases z : a = d
    · subst z; rw [upd_same, h0 x hx]
    · rw [upd_ne z]; exact k.keep a x (by show upd B.H0 d _ a = _; rw [upd_ne z]; exact hx) n1 n2
  · have ne : a ≠ d := fun z => nW (z ▸ ha)
    rw [upd_ne ne]; exact k.wc a ha
/-- what stays over a locked stretch -/
theorem Ev.unlock {W' : AP} {H' : Hp} (h : H d = some u) (nW : ¬ W d) (h' : H' d = some (.frz o u)) (e : Ev W (upd H d (.frz o u)) W' H') : Ev W H W' (upd H' d u) := fun a x hx n => by
  by_cases z : a = d
  · subst z
    rw [h] at hx; cases hx
    exact ⟨upd_same, (e a _ upd_same n).2⟩
  · obtain ⟨h1, h2⟩ := e a x (by rw [upd_ne z]; exact hx) n
    exact ⟨by rw [upd_ne z]; exact h1, h2⟩
end

def sForD (i : Nat) (g : D → M Unit) (b : M Out) : M Out := fun s => match s.env[i]? with
  | some (some (.val (.dct ks _))) => forM g b (ks.map keyD) s
  | some (some (.val (.dtt ks _))) => forM g b (ks.map keysD) s
  | _ => none
section
variable {X : Cx} {pos p : Pos} {i : Nat} {x : Str} {m : M Out}
theorem ps_or {st : Stmt} {t t' : TS} (h : PS X st t) (h' : PS X st t') : PS X st (fun D σ H => t D σ H ∨ t' D σ H) := ⟨fun pins s σ H D I q => q.elim (h.run pins s σ H D I) (h'.run pins s σ H D I)⟩
/-- a walk's loop, told by what it walks -/
theorem for_core {B : Bs} {Dn : Ends} {g : D → M Unit} {is : List Nat} {σ : Sg} {H1 : Hp} {J : It} {ds : List D} {s1 s' : S} {o : Out} (k1 : StOk B σ H1 s1) (wk : WalkD B.p (B.W s1.env σ) H1 J ds) (e2 : forM g m ds s1 = some (o, s')) (q : Post B Dn (B.W s1.env σ) H1 o s') :
    ∃ W : Nat → Nat → Sg → Hp → Prop, (∃ m, W 0 m σ H1) ∧ ∀ i m' σ H, W i m' σ H →
      (J.stop i H ∧ Dn.nx σ H) ∨ (J.go i H ∧ ∃ N : Sg → Hp → Prop, (∀ σ' H', N σ' H' → ∃ m'', m'' < m' ∧ W (i + 1) m'' σ' H') ∧ ∀ x H', J.yld i H x H' → tGx is g x σ H' fun σ2 H2 => tSx m { Dn with nx := N, ct := N, bk := Dn.nx } σ2 H2) := by
  refine ⟨fun i mm σi Hi => mm = ds.length - i ∧ i ≤ ds.length ∧ ∃ si, StOk B σi Hi si ∧ Ev (B.W s1.env σ) H1 (B.W si.env σi) Hi ∧ forM g m (ds.drop i) si = some (o, s'), ⟨ds.length, by simp, Nat.zero_le _, s1, k1, Ev.refl, e2⟩, ?_⟩
  rintro i mm σi Hi ⟨rfl, hi, si, ki, evi, eR⟩
  obtain ⟨w1, w2, w3⟩ := wk _ _ evi ki.wt
  by_cases hlt : i < ds.length
  · refine .inr ⟨w1 i hlt, _, fun σ' H' hN => ⟨ds.length - (i + 1), by omega, hN⟩, fun x H' y => ?_⟩
    obtain ⟨sm, rx⟩ := w3 i _ x H' (List.getElem?_eq_getElem hlt) y
    rw [List.drop_eq_getElem_cons hlt] at eR
    obtain ⟨_, s2, eg, eR⟩ := bnd_some eR
    obtain ⟨o2, s3, eb, eR⟩ := bnd_some eR
    refine ⟨B, si, ds[i], s2, ki.same sm, rx, eg, fun σ2 k2 ev2 _ => ⟨B, s2, o2, s3, k2, eb, ?_⟩⟩
    have evA : Ev (B.W s1.env σ) H1 (B.W s2.env σ2) H' := evi.trans ((Ev.same sm).trans ev2)
    cases o2 with
    | nx => exact fun σ' H'' k' ev' => ⟨rfl, hlt, s3, k', evA.trans ev', eR⟩
    | cnt => exact fun σ' H'' k' ev' => ⟨rfl, hlt, s3, k', evA.trans ev', eR⟩
    | brk => obtain ⟨rfl, rfl⟩ := ret_some eR; exact fun σ' H'' k' ev' => q σ' H'' k' (evA.trans ev')
    | ret d => obtain ⟨rfl, rfl⟩ := ret_some eR; exact fun v σ' H'' k' ev' r => q v σ' H'' k' (evA.trans ev') r
  · have hn : i = ds.length := by omega
    subst hn
    rw [List.drop_length] at eR
    obtain ⟨rfl, rfl⟩ := ret_some eR
    exact .inl ⟨w2, q σi Hi ki evi⟩
theorem walk_keys {p : Addr} {W : AP} {H : Hp} {d : Addr} {o : Obj} {kvs : List (Key × V)} (h : H d = some (.frz o (.dK kvs))) (n : ¬ W d) : WalkD p W H (Itk d o kvs) ((kvs.map (·.1)).map keyD) := fun W2 H2 ev wt => by
  have h2 := (ev d _ h n).1
  refine ⟨fun i hi => ⟨h2, by simpa using hi⟩, ⟨h2, by simp⟩, fun i x v H3 hx y => ?_⟩
  obtain ⟨rfl, k, v', hk, rfl⟩ := y
  refine ⟨Same.refl _, ?_⟩
  rw [List.getElem?_map, List.getElem?_map, hk] at hx
  cases hx
  exact keyD_rp
theorem walk_keysT {p : Addr} {W : AP} {H : Hp} {d : Addr} {o : Obj} {kvs : List (List Key × V)} (h : H d = some (.frz o (.dT kvs))) (n : ¬ W d) : WalkD p W H (Itkt d o kvs) ((kvs.map (·.1)).map keysD) := fun W2 H2 ev wt => by
  have h2 := (ev d _ h n).1
  refine ⟨fun i hi => ⟨h2, by simpa using hi⟩, ⟨h2, by simp⟩, fun i x v H3 hx y => ?_⟩
  obtain ⟨rfl, k, v', q, hk, rfl, hq⟩ := y
  refine ⟨Same.refl _, ?_⟩
  rw [List.getElem?_map, List.getElem?_map, hk] at hx
  cases hx
  exact .mkTup (wt.tup hq) hq keys_rps
theorem s_forD {tg : Expr} {body : List Stmt} {is : List Nat} {g : D → M Unit} (hp : PassesOwn (model X.prog X.w) X.A X.env X.xe) (hc : X.calm = true) (hx : PE X (.Name x p) (tVar i)) (hg : SG X tg is g) (hb : SSs X body m)
    (hs : ∀ y, foldedSetIterable (.Name x p) X.env y = pure y := by intro _; rfl) : SS X (.For tg (.Name x p) body [] pos) (sForD i g m) := ⟨fun B => PS.imp (ps_or (ps_lock (ps_for hp hc (pi_keys hx) hg.px hb.px hs)) (ps_for hp hc (pi_keys hx) hg.px hb.px hs)) fun Dn σ H ⟨s, o, s', k, e, q⟩ => by
  have go : ∀ (d : Addr) (u : HO) (ds : List D), σ[i]? = some (some (.ref d)) → H d = some u → DictO u → ¬ B.W s.env σ d → forM g m ds s = some (o, s') →
      ((∃ kvs : List (Key × V), u = .dK kvs ∧ ds = (kvs.map (·.1)).map keyD) ∨ (∃ kvs : List (List Key × V), u = .dT kvs ∧ ds = (kvs.map (·.1)).map keysD)) → tLock (tFor (iKeys (tVar i)) (tGx is g) (tSx m)) Dn σ H := fun d u ds h1 h2 du nW hf hk => by
    refine ⟨d, u, h2, by rcases du with ⟨_, rfl⟩ | ⟨_, rfl⟩ <;> exact True.intro, fun od => ?_⟩
    have hp1 : d ≠ B.p := fun z => nW (.inl (z ▸ k.wp))
    have hp2 : d ≠ B.c := fun z => nW (.inl (z ▸ k.wcc))
    have h0 : ∀ y, B.H0 d = some y → y = u := fun y hy => by
      have := k.keep d y hy hp1 hp2
      rw [h2] at this; cases this; rfl
    have kl := k.lock (o := od) h2 du nW
    have hlock : upd H d (.frz od u) d = some (.frz od u) := upd_same
    -- what follows, unlocked
    have un : ∀ {σ' : Sg} {H' : Hp}, StOk (B.lock d od u) σ' H' s' → Ev ((B.lock d od u).W s.env σ) (upd H d (.frz od u)) ((B.lock d od u).W s'.env σ') H' → H' d = some (.frz od u) ∧ StOk B σ' (upd H' d u) s' ∧ Ev (B.W s.env σ) H (B.W s'.env σ') (upd H' d u) := fun {σ' H'} k' ev' => by
      have hd : H' d = some (.frz od u) := k'.keep d _ upd_same hp1 hp2
      exact ⟨hd, k'.unlock hd hp1 hp2 (fun z => nW (.inl z)) h0, Ev.unlock (W := B.W s.env σ) h2 nW hd ev'⟩
    have post : Post (B.lock d od u) ⟨fun σ' H' => H' d = some (.frz od u) ∧ Dn.nx σ' (upd H' d u), fun v H' => H' d = some (.frz od u) ∧ Dn.rt v (upd H' d u), fun σ' H' => H' d = some (.frz od u) ∧ Dn.bk σ' (upd H' d u), fun σ' H' => H' d = some (.frz od u) ∧ Dn.ct σ' (upd H' d u)⟩ ((B.lock d od u).W s.env σ) (upd H d (.frz od u)) o s' := by
      cases o with
      | nx => exact fun σ' H' k' ev' => let ⟨z1, z2, z3⟩ := un k' ev'; ⟨z1, q σ' _ z2 z3⟩
      | brk => exact fun σ' H' k' ev' => let ⟨z1, z2, z3⟩ := un k' ev'; ⟨z1, q σ' _ z2 z3⟩
      | cnt => exact fun σ' H' k' ev' => let ⟨z1, z2, z3⟩ := un k' ev'; ⟨z1, q σ' _ z2 z3⟩
      | ret dv => exact fun v σ' H' k' ev' r => let ⟨z1, z2, z3⟩ := un k' ev'; ⟨z1, q v σ' _ z2 z3 (Rp.unlock z1 _ _ r)⟩
    refine ⟨_, h1, d, od, rfl, ?_⟩
    rcases hk with ⟨kvs, rfl, rfl⟩ | ⟨kvs, rfl, rfl⟩
    · exact .inl ⟨kvs, hlock, for_core kl (walk_keys hlock nW) hf post⟩
    · exact .inr ⟨kvs, hlock, for_core kl (walk_keysT hlock nW) hf post⟩
  unfold sForD at e
  split at e
  · rename_i ks ds hd
    obtain ⟨v, h1, h2⟩ := k.val i _ hd
    obtain ⟨a, kvs, rfl, nW, ha, rfl, rs⟩ := rp_dct h2
    rcases ha with ha | ⟨o', ha⟩
    · exact .inl (go a _ _ h1 ha (.inl ⟨_, rfl⟩) nW e (.inl ⟨kvs, rfl, rfl⟩))
    · exact .inr ⟨_, h1, a, o', rfl, .inl ⟨kvs, ha, for_core k (walk_keys ha nW) e q⟩⟩
  · rename_i ks ds hd
    obtain ⟨v, h1, h2⟩ := k.val i _ hd
    obtain ⟨a, kvs, rfl, nW, ha, rfl, rs⟩ := rp_dtt h2
    rcases ha with ha | ⟨o', ha⟩
    · exact .inl (go a _ _ h1 ha (.inr ⟨_, rfl⟩) nW e (.inr ⟨kvs, rfl, rfl⟩))
    · exact .inr ⟨_, h1, a, o', rfl, .inr ⟨kvs, ha, for_core k (walk_keysT ha nW) e q⟩⟩
  · cases e⟩
end
end GH

namespace GH
open PySem PySem.Spec PyProof.Rows L2

def eNw (mn : M Sl) : M D := eNew (bnd mn fun sl => if sl.isOwn = true then ret sl else fail)
theorem s_nw {X : Cx} {e : Expr} {mn : M Sl} (h : SN X e mn) : SE X e (eNw mn) := s_ofN h
section
variable {X : Cx} {a b : Expr} {pos : Pos} {ma mb : M D}
theorem t_din (hu : X.A.units + 1 < cLine) (ha : SE X a ma) (hb : SE X b mb) (hm : behindInMarks .In b = false := by rfl) : ST X (.Compare a [.In] [b] pos) (tst (eBin dinD ma mb)) :=
  ⟨fun B => PT.imp (pt_cmp (pc_din hu (ha.pe B) (hb.pe B)) hm) fun σ H Q ⟨s, b', s', k, e, q⟩ => by
    obtain ⟨d, s3, e0, e9⟩ := bnd_some e
    refine tI.bind k e0 fun dx s1 x H1 h1 e1 k1 ev1 r1 => ?_
    refine tI.bind k1 e1 fun dy s2 y H2 h2 e2 k2 ev2 r2 => ?_
    obtain ⟨e3, rfl⟩ := lift_some e2
    obtain ⟨ad, o, rfl, g, rfl⟩ := din_get e3 r2 (r1.ev ev2)
    obtain ⟨rfl, rfl⟩ := ret_some e9
    exact ⟨ad, o, rfl, g, _, rfl, q H2 k2 (ev1.trans ev2)⟩⟩
theorem t_dnin (hu : X.A.units + 1 < cLine) (ha : SE X a ma) (hb : SE X b mb) (hm : behindInMarks .NotIn b = false := by rfl) : ST X (.Compare a [.NotIn] [b] pos) (tst (eBin dninD ma mb)) :=
  ⟨fun B => PT.imp (pt_cmp (pc_dnotin hu (ha.pe B) (hb.pe B)) hm) fun σ H Q ⟨s, b', s', k, e, q⟩ => by
    obtain ⟨d, s3, e0, e9⟩ := bnd_some e
    refine tI.bind k e0 fun dx s1 x H1 h1 e1 k1 ev1 r1 => ?_
    refine tI.bind k1 e1 fun dy s2 y H2 h2 e2 k2 ev2 r2 => ?_
    obtain ⟨e3, rfl⟩ := lift_some e2
    obtain ⟨ad, o, rfl, g, rfl⟩ := dnin_get e3 r2 (r1.ev ev2)
    obtain ⟨rfl, rfl⟩ := ret_some e9
    exact ⟨ad, o, rfl, g, _, rfl, q H2 k2 (ev1.trans ev2)⟩⟩
end
def OwnB (sl : Sl) (P : Prop) (_ : Ph P := .mk) : Prop := sl.isOwn = true ∧ P
theorem ownB_L {ds : List D} {P : Prop} : OwnB (.own ds) P ↔ P := by simp [OwnB, Sl.isOwn]
theorem ownB_K {ks : List Key} {ds : List D} {P : Prop} : OwnB (.ownK ks ds) P ↔ P := by simp [OwnB, Sl.isOwn]
theorem ownB_T {ks : List (List Key)} {ds : List D} {P : Prop} : OwnB (.ownT ks ds) P ↔ P := by simp [OwnB, Sl.isOwn]
section
variable {s : S} {c : Src} {env : List (Option Sl)} {Q : D → S → Prop} {mb m : M D} {mn : M Sl}
theorem wp_ifOwn {α : Type} {sl : Sl} {x : α} {Q : α → S → Prop} : Wp (if sl.isOwn = true then ret x else fail) s Q ↔ OwnB sl (Q x s) := by
  unfold OwnB
  cases h : sl.isOwn
  · rw [if_neg (by simp), wp_fail]; simp
  · rw [if_pos rfl, wp_ret]; simp
theorem wp_nw : Wp (eNw mn) s Q ↔ Wp mn s fun sl s1 => OwnB sl (Q sl.bor s1) :=
  wp_bnd.trans (wp_bnd.trans (wp_cg fun _ _ => wp_ifOwn.trans ⟨fun ⟨h, q⟩ => ⟨h, wp_ret.mp q⟩, fun ⟨h, q⟩ => ⟨h, wp_ret.mpr q⟩⟩))
theorem wp_nK0 {Q : Sl → S → Prop} : Wp nK0 s Q ↔ Q (.ownK [] []) s := wp_eq rfl
theorem wp_nT0 {Q : Sl → S → Prop} : Wp nT0 s Q ↔ Q (.ownT [] []) s := wp_eq rfl
theorem wp_dpNil {Q : List (Key × D) → S → Prop} : Wp dpNil s Q ↔ Q [] s := wp_eq rfl
theorem wp_dpCons {mk mv : M D} {ms : M (List (Key × D))} {Q : List (Key × D) → S → Prop} : Wp (dpCons mk mv ms) s Q ↔ Wp mk s fun k s1 => Sm (dKey k) fun x => Wp mv s1 fun d s2 => Wp ms s2 fun r s3 => Q ((x, d) :: r) s3 :=
  wp_bnd.trans (wp_cg fun _ _ => wp_bnd.trans (wp_lift.trans (sm_cg fun _ => wp_bnd.trans (wp_cg fun _ _ => wp_bnd.trans (wp_cg fun _ _ => wp_ret)))))
theorem wp_nDisp {ms : M (List (Key × D))} {Q : Sl → S → Prop} : Wp (nDisp ms) s Q ↔ Wp ms s fun l s1 => l.length ≤ 15 ∧ Q (.ownK (mergeD l [] []).1 (mergeD l [] []).2) s1 := by
  refine wp_bnd.trans (wp_cg fun l s1 => ?_)
  by_cases h : l.length ≤ 15
  · rw [if_pos h, wp_ret]; simp [h]
  · rw [if_neg h, wp_fail]; simp [h]
theorem wp_ownN {i : Nat} {Q : Out → S → Prop} : Wp (sOwnN i mn) s Q ↔ Wp mn s fun sl s1 => OwnB sl (SetAt s1.env i (some sl) fun e => Q .nx ⟨e, s1.src⟩) := by
  refine wp_bnd.trans (wp_cg fun sl s1 => wp_bnd.trans ?_)
  unfold OwnB SetAt
  by_cases h : i < s1.env.length ∧ sl.isOwn = true
  · rw [wp_eq (show oNS i sl s1 = some ((), ⟨s1.env.set i (some sl), s1.src⟩) by unfold oNS; rw [if_pos h]), wp_ret]
    simp [h.1, h.2]
  · constructor
    · rintro ⟨_, _, e, _⟩; unfold oNS at e; rw [if_neg h] at e; cases e
    · rintro ⟨z1, z2, _⟩; exact absurd ⟨z2, z1⟩ h
theorem wp_pOwnN {ms : M (List Sl)} {Q : List Sl → S → Prop} : Wp (pOwnN mn ms) s Q ↔ Wp mn s fun sl s1 => OwnB sl (Wp ms s1 fun r s2 => Q (sl :: r) s2) := by
  refine wp_bnd.trans (wp_cg fun sl s1 => wp_bnd.trans ?_)
  exact wp_ifOwn.trans ⟨fun ⟨h, q⟩ => ⟨h, (wp_bnd.trans (wp_cg fun _ _ => wp_ret)).mp q⟩, fun ⟨h, q⟩ => ⟨h, (wp_bnd.trans (wp_cg fun _ _ => wp_ret)).mpr q⟩⟩
theorem wp_dgO {i : Nat} : Wp (eDgO i mb) ⟨env, c⟩ Q ↔ SlAt env i fun _ => Wp mb ⟨env, c⟩ fun d s1 => SlAt s1.env i fun sl => Sm (dgD sl.bor d) fun y => Q y s1 := by
  constructor
  · rintro ⟨a, s', e, q⟩
    unfold eDgO at e
    split at e
    · rename_i sl0 h0
      refine ⟨sl0, h0, ?_⟩
      obtain ⟨d, s1, e1, e2⟩ := bnd_some e
      refine ⟨d, s1, e1, ?_⟩
      split at e2
      · rename_i sl h1
        split at e2
        · rename_i y hy; cases e2; exact ⟨sl, h1, _, hy, q⟩
        · cases e2
      · cases e2
    · cases e
  · rintro ⟨sl0, h0, d, s1, e1, sl, h1, y, hy, q⟩
    refine ⟨y, s1, ?_, q⟩
    unfold eDgO
    rw [show (⟨env, c⟩ : S).env[i]? = some (some sl0) from h0]
    refine (bnd_eq e1).trans ?_
    show (match s1.env[i]? with | some (some sl) => (match dgD sl.bor d with | some y => some (y, s1) | none => none) | _ => none) = _
    rw [h1]
    show (match dgD sl.bor d with | some y => some (y, s1) | none => none) = _
    rw [hy]
/-- an own dict's slot -/
def Own2At (env : List (Option Sl)) (i : Nat) (P : Prop) (_ : Ph P := .mk) : Prop := (∃ sl : Sl, env[i]? = some (some sl) ∧ ((∃ ks ds, sl = .ownK ks ds) ∨ ∃ ks ds, sl = .ownT ks ds)) ∧ P
theorem own2_K {ks : List Key} {ds : List D} {r : List (Option Sl)} {P : Prop} : Own2At (some (.ownK ks ds) :: r) 0 P ↔ P := by simp [Own2At]
theorem own2_T {ks : List (List Key)} {ds : List D} {r : List (Option Sl)} {P : Prop} : Own2At (some (.ownT ks ds) :: r) 0 P ↔ P := by simp [Own2At]
theorem own2_s {x : Option Sl} {r : List (Option Sl)} {i : Nat} {P : Prop} : Own2At (x :: r) (i + 1) P ↔ Own2At r i P := by unfold Own2At; simp only [List.getElem?_cons_succ]
theorem wp_here2 {i : Nat} {Q : Unit → S → Prop} : Wp (ownHere2 i) ⟨env, c⟩ Q ↔ Own2At env i (Q () ⟨env, c⟩) := by
  constructor
  · rintro ⟨a, s', e, q⟩
    unfold ownHere2 at e
    split at e
    · rename_i hd; cases e; exact ⟨⟨_, hd, .inl ⟨_, _, rfl⟩⟩, q⟩
    · rename_i hd; cases e; exact ⟨⟨_, hd, .inr ⟨_, _, rfl⟩⟩, q⟩
    · cases e
  · rintro ⟨⟨sl, h, ⟨ks, ds, rfl⟩ | ⟨ks, ds, rfl⟩⟩, q⟩
    · exact ⟨(), _, by unfold ownHere2; rw [h], q⟩
    · exact ⟨(), _, by unfold ownHere2; rw [h], q⟩
/-- a store in an own dict -/
def PutAt (env : List (Option Sl)) (i : Nat) (k d : D) (P : List (Option Sl) → Prop) (_ : Ph P := .mk) : Prop :=
  (∃ ks ds x, env[i]? = some (some (.ownK ks ds)) ∧ dKey k = some x ∧ ks.length < 16777216 ∧ P (env.set i (some (.ownK (kPutK ks x) (kPutD ks ds x d))))) ∨
  (∃ ks ds x, env[i]? = some (some (.ownT ks ds)) ∧ dKeys k = some x ∧ ks.length < 16777216 ∧ P (env.set i (some (.ownT (kPutK ks x) (kPutD ks ds x d)))))
theorem wp_putD {i : Nat} {k d : D} {Q : Unit → S → Prop} : Wp (putD i k d) ⟨env, c⟩ Q ↔ PutAt env i k d fun e => Q () ⟨e, c⟩ := by
  have hsz : sizeLine = 16777216 := sizeLine_eq
  constructor
  · rintro ⟨a, s', e, q⟩
    unfold putD at e
    split at e
    · rename_i ks ds h
      split at e
      · rename_i x hx
        split at e
        · rename_i hl; cases e; exact .inl ⟨ks, ds, x, h, hx, by rw [← hsz]; exact hl, q⟩
        · cases e
      · cases e
    · rename_i ks ds h
      split at e
      · rename_i x hx
        split at e
        · rename_i hl; cases e; exact .inr ⟨ks, ds, x, h, hx, by rw [← hsz]; exact hl, q⟩
        · cases e
      · cases e
    · cases e
  · rintro (⟨ks, ds, x, h, hx, hl, q⟩ | ⟨ks, ds, x, h, hx, hl, q⟩)
    · refine ⟨(), _, ?_, q⟩
      unfold putD
      rw [h]
      show (match dKey k with | some x => if ks.length < sizeLine then some ((), (⟨env.set i (some (.ownK (kPutK ks x) (kPutD ks ds x d))), c⟩ : S)) else none | none => none) = _
      rw [hx]
      show (if ks.length < sizeLine then some ((), (⟨env.set i (some (.ownK (kPutK ks x) (kPutD ks ds x d))), c⟩ : S)) else none) = _
      rw [if_pos (by rw [hsz]; exact hl)]
    · refine ⟨(), _, ?_, q⟩
      unfold putD
      rw [h]
      show (match dKeys k with | some x => if ks.length < sizeLine then some ((), (⟨env.set i (some (.ownT (kPutK ks x) (kPutD ks ds x d))), c⟩ : S)) else none | none => none) = _
      rw [hx]
      show (if ks.length < sizeLine then some ((), (⟨env.set i (some (.ownT (kPutK ks x) (kPutD ks ds x d))), c⟩ : S)) else none) = _
      rw [if_pos (by rw [hsz]; exact hl)]
theorem putAt_s {x : Option Sl} {r : List (Option Sl)} {i : Nat} {k d : D} {P : List (Option Sl) → Prop} : PutAt (x :: r) (i + 1) k d P ↔ PutAt r i k d fun r' => P (x :: r') := by
  unfold PutAt; simp only [List.getElem?_cons_succ, List.set_cons_succ]
theorem putAt_K {ks : List Key} {ds : List D} {r : List (Option Sl)} {k d : D} {P : List (Option Sl) → Prop} : PutAt (some (.ownK ks ds) :: r) 0 k d P ↔ Sm (dKey k) fun x => ks.length < 16777216 ∧ P (some (.ownK (kPutK ks x) (kPutD ks ds x d)) :: r) := by
  constructor
  · rintro (⟨ks, ds, x, h, hx, hl, q⟩ | ⟨ks, ds, x, h, hx, hl, q⟩)
    · cases h; exact ⟨x, hx, hl, q⟩
    · cases h
  · rintro ⟨x, hx, hl, q⟩; exact .inl ⟨ks, ds, x, rfl, hx, hl, q⟩
theorem putAt_T {ks : List (List Key)} {ds : List D} {r : List (Option Sl)} {k d : D} {P : List (Option Sl) → Prop} : PutAt (some (.ownT ks ds) :: r) 0 k d P ↔ Sm (dKeys k) fun x => ks.length < 16777216 ∧ P (some (.ownT (kPutK ks x) (kPutD ks ds x d)) :: r) := by
  constructor
  · rintro (⟨ks, ds, x, h, hx, hl, q⟩ | ⟨ks, ds, x, h, hx, hl, q⟩)
    · cases h
    · cases h; exact ⟨x, hx, hl, q⟩
  · rintro ⟨x, hx, hl, q⟩; exact .inr ⟨ks, ds, x, rfl, hx, hl, q⟩
theorem wp_sPutD {i : Nat} {mv mk : M D} {Q : Out → S → Prop} : Wp (sPutD i mv mk) s Q ↔ Wp mv s fun d s1 => Wp (ownHere2 i) s1 fun _ s2 => Wp mk s2 fun k s3 => Wp (putD i k d) s3 fun _ s4 => Q .nx s4 :=
  wp_bnd.trans (wp_cg fun _ _ => wp_bnd.trans (wp_cg fun _ _ => wp_bnd.trans (wp_cg fun _ _ => wp_bnd.trans (wp_cg fun _ _ => wp_ret))))
theorem sm_keyI {i : Int} {P : Key → Prop} : Sm (dKey (.int i)) P ↔ P (.inl i) := sm_some
theorem sm_keyS {i : Str} {P : Key → Prop} : Sm (dKey (.str i)) P ↔ P (.inr i) := sm_some
theorem dKeyL_ints : ∀ xs : List Int, dKeyL (xs.map D.int) = some (xs.map Sum.inl)
  | [] => rfl
  | x :: r => by rw [List.map_cons, dKeyL, dKeyL_ints r]; rfl
theorem sm_keysT {xs : List Int} {P : List Key → Prop} : Sm (dKeys (.tup (xs.map D.int))) P ↔ P (xs.map Sum.inl) := sm_eq (dKeyL_ints xs)
theorem sm_dgK {ks : List Key} {ds : List D} {k : D} {P : D → Prop} : Sm (dgD (.dct ks ds) k) P ↔ Sm (dKey k) fun x => Sm (kGet ks ds x) P := sm_bind
theorem sm_dgT {ks : List (List Key)} {ds : List D} {k : D} {P : D → Prop} : Sm (dgD (.dtt ks ds) k) P ↔ Sm (dKeys k) fun x => Sm (kGet ks ds x) P := sm_bind
theorem sm_dinK {ks : List Key} {ds : List D} {k : D} {P : D → Prop} : Sm (dinD k (.dct ks ds)) P ↔ Sm (dKey k) fun x => P (.bl (kGet ks ds x).isSome) := sm_map
theorem sm_dinT {ks : List (List Key)} {ds : List D} {k : D} {P : D → Prop} : Sm (dinD k (.dtt ks ds)) P ↔ Sm (dKeys k) fun x => P (.bl (kGet ks ds x).isSome) := sm_map
theorem sm_dninK {ks : List Key} {ds : List D} {k : D} {P : D → Prop} : Sm (dninD k (.dct ks ds)) P ↔ Sm (dKey k) fun x => P (.bl (!(kGet ks ds x).isSome)) := sm_map
theorem sm_dninT {ks : List (List Key)} {ds : List D} {k : D} {P : D → Prop} : Sm (dninD k (.dtt ks ds)) P ↔ Sm (dKeys k) fun x => P (.bl (!(kGet ks ds x).isSome)) := sm_map
/-- for k in d -/
def DctAt (env : List (Option Sl)) (i : Nat) (P : List D → Prop) (_ : Ph P := .mk) : Prop := (∃ ks ds, env[i]? = some (some (.val (.dct ks ds))) ∧ P (ks.map keyD)) ∨ (∃ ks ds, env[i]? = some (some (.val (.dtt ks ds))) ∧ P (ks.map keysD))
theorem dctAt_K {ks : List Key} {ds : List D} {r : List (Option Sl)} {P : List D → Prop} : DctAt (some (.val (.dct ks ds)) :: r) 0 P ↔ P (ks.map keyD) := by
  constructor
  · rintro (⟨_, _, e, p⟩ | ⟨_, _, e, p⟩) <;> cases e; exact p
  · exact fun p => .inl ⟨ks, ds, rfl, p⟩
theorem dctAt_T {ks : List (List Key)} {ds : List D} {r : List (Option Sl)} {P : List D → Prop} : DctAt (some (.val (.dtt ks ds)) :: r) 0 P ↔ P (ks.map keysD) := by
  constructor
  · rintro (⟨_, _, e, p⟩ | ⟨_, _, e, p⟩) <;> cases e; exact p
  · exact fun p => .inr ⟨ks, ds, rfl, p⟩
theorem dctAt_s {x : Option Sl} {r : List (Option Sl)} {i : Nat} {P : List D → Prop} : DctAt (x :: r) (i + 1) P ↔ DctAt r i P := by unfold DctAt; simp only [List.getElem?_cons_succ]
theorem wp_forD {i : Nat} {g : D → M Unit} {b : M Out} {Q : Out → S → Prop} : Wp (sForD i g b) ⟨env, c⟩ Q ↔ DctAt env i fun ds => Wp (forM g b ds) ⟨env, c⟩ Q := by
  constructor
  · rintro ⟨o, s', e, q⟩
    unfold sForD at e
    split at e
    · rename_i h; exact .inl ⟨_, _, h, _, _, e, q⟩
    · rename_i h; exact .inr ⟨_, _, h, _, _, e, q⟩
    · cases e
  · rintro (⟨_, _, h, o, s', e, q⟩ | ⟨_, _, h, o, s', e, q⟩)
    · exact ⟨o, s', by unfold sForD; rw [h]; exact e, q⟩
    · exact ⟨o, s', by unfold sForD; rw [h]; exact e, q⟩
end
section
variable {α : Type}
/-- its keys, its values -/
def dks (l : List (Int × α)) : List Key := l.map fun p => .inl p.1
def dvs (f : α → D) (l : List (Int × α)) : List D := l.map fun p => f p.2
def lkp : List (Int × α) → Int → Option α
  | [], _ => none
  | p :: r, k => if p.1 = k then some p.2 else lkp r k
def stp : List (Int × α) → Int → α → List (Int × α)
  | [], k, v => [(k, v)]
  | p :: r, k, v => if p.1 = k then (k, v) :: r else p :: stp r k v
theorem by_contra' {p : Prop} (h : ¬ p → False) : p := Classical.byContradiction h
theorem kGet_lkp (f : α → D) (l : List (Int × α)) (k : Int) : kGet (dks l) (dvs f l) (.inl k) = (lkp l k).map f := by
  induction l with
  | nil => rfl
  | cons p r ih =>
    show (if (Sum.inl p.1 : Key) = Sum.inl k then some (f p.2) else kGet (dks r) (dvs f r) (.inl k)) = _
    unfold lkp
    by_cases h : p.1 = k
    · rw [if_pos (by rw [h]), if_pos h]; rfl
    · rw [if_neg (fun z => h (Sum.inl.inj z)), if_neg h]; exact ih
theorem lkp_none {l : List (Int × α)} {k : Int} : lkp l k = none ↔ k ∉ l.map (·.1) := by
  induction l with
  | nil => simp [lkp]
  | cons p r ih =>
    unfold lkp
    by_cases h : p.1 = k
    · simp [h]
    · have : ¬ k = p.1 := fun z => h z.symm
      simp [h, ih, this]
theorem mem_dks {l : List (Int × α)} {k : Int} : (.inl k : Key) ∈ dks l ↔ k ∈ l.map (·.1) := by
  unfold dks; simp
theorem stp_new {l : List (Int × α)} {k : Int} {v : α} (h : k ∉ l.map (·.1)) : stp l k v = l ++ [(k, v)] := by
  induction l with
  | nil => rfl
  | cons p r ih =>
    simp at h
    unfold stp
    rw [if_neg (fun z => h.1 z.symm), ih (by simpa using h.2)]; rfl
theorem put_new {l : List (Int × α)} {k : Int} {v : α} {f : α → D} (h : k ∉ l.map (·.1)) : kPutK (dks l) (.inl k) = dks (l ++ [(k, v)]) ∧ kPutD (dks l) (dvs f l) (.inl k) (f v) = dvs f (l ++ [(k, v)]) := by
  have : ¬ (.inl k : Key) ∈ dks l := fun z => h (mem_dks.mp z)
  unfold kPutK kPutD
  rw [if_neg this, if_neg this]
  simp [dks, dvs]
theorem dctAt_KI {l : List (Int × α)} {ds : List D} {r : List (Option Sl)} {P : List D → Prop} : DctAt (some (.val (.dct (dks l) ds)) :: r) 0 P ↔ P ((l.map (·.1)).map D.int) := by
  rw [dctAt_K]; unfold dks; rw [List.map_map, List.map_map]; rfl
theorem put_stp {l : List (Int × α)} {k : Int} {v : α} {f : α → D} (hn : (l.map (·.1)).Nodup) : kPutK (dks l) (.inl k) = dks (stp l k v) ∧ kPutD (dks l) (dvs f l) (.inl k) (f v) = dvs f (stp l k v) := by
  by_cases h : k ∈ l.map (·.1)
  · have hk : (.inl k : Key) ∈ dks l := mem_dks.mpr h
    unfold kPutK kPutD
    rw [if_pos hk, if_pos hk]
    clear hk
    induction l with
    | nil => simp at h
    | cons p r ih =>
      rw [List.map_cons, List.nodup_cons] at hn
      by_cases e : p.1 = k
      · subst e
        have : stp (p :: r) p.1 v = (p.1, v) :: r := by unfold stp; rw [if_pos rfl]
        rw [this]
        refine ⟨rfl, ?_⟩
        show (if (Sum.inl p.1 : Key) = Sum.inl p.1 then f v else f p.2) :: kRep (dks r) (dvs f r) (.inl p.1) (f v) = f v :: dvs f r
        rw [if_pos rfl]
        congr 1
        have nin : p.1 ∉ r.map (·.1) := hn.1
        clear ih h hn this
        induction r with
        | nil => rfl
        | cons q t ih =>
          simp at nin
          show (if (Sum.inl q.1 : Key) = Sum.inl p.1 then f v else f q.2) :: kRep (dks t) (dvs f t) (.inl p.1) (f v) = f q.2 :: dvs f t
          rw [if_neg (fun z => nin.1 (Sum.inl.inj z).symm), ih (by simpa using nin.2)]
      · have h' : k ∈ r.map (·.1) := by
          rw [List.map_cons] at h
          rcases List.mem_cons.mp h with z | z
          · exact absurd z.symm e
          · exact z
        have : stp (p :: r) k v = p :: stp r k v := by
          show (if p.1 = k then _ else _) = _
          rw [if_neg e]
        rw [this]
        obtain ⟨i1, i2⟩ := ih hn.2 h'
        refine ⟨by show Sum.inl p.1 :: dks r = Sum.inl p.1 :: dks (stp r k v); rw [← i1], ?_⟩
        show (if (Sum.inl p.1 : Key) = Sum.inl k then f v else f p.2) :: kRep (dks r) (dvs f r) (.inl k) (f v) = f p.2 :: dvs f (stp r k v)
        rw [if_neg (fun z => e (Sum.inl.inj z)), i2]
  · rw [stp_new h]; exact put_new h
theorem lkp_stp {l : List (Int × α)} {k j : Int} {v : α} : lkp (stp l k v) j = if j = k then some v else lkp l j := by
  induction l with
  | nil =>
    show (if k = j then some v else none) = _
    by_cases h : j = k
    · rw [if_pos h, if_pos h.symm]
    · rw [if_neg h, if_neg (fun z => h z.symm)]; rfl
  | cons p r ih =>
    unfold stp
    by_cases e : p.1 = k
    · rw [if_pos e]
      show (if k = j then some v else lkp r j) = _
      by_cases h : j = k
      · rw [if_pos h, if_pos h.symm]
      · rw [if_neg h, if_neg (fun z => h z.symm)]
        show _ = if p.1 = j then some p.2 else lkp r j
        rw [if_neg (fun z => h (z.symm.trans e))]
    · rw [if_neg e]
      show (if p.1 = j then some p.2 else lkp (stp r k v) j) = _
      rw [ih]
      show _ = if j = k then some v else if p.1 = j then some p.2 else lkp r j
      by_cases h : j = k
      · subst h; rw [if_neg e, if_pos rfl, if_pos rfl]
      · rw [if_neg h, if_neg h]
theorem stp_keys {l : List (Int × α)} {k j : Int} {v : α} : j ∈ (stp l k v).map (·.1) ↔ j = k ∨ j ∈ l.map (·.1) := by
  have h1 := lkp_none (l := stp l k v) (k := j)
  rw [lkp_stp] at h1
  by_cases h : j = k
  · rw [if_pos h] at h1
    constructor
    · exact fun _ => .inl h
    · intro _
      exact by_contra' fun z => by have := h1.mpr z; cases this
  · rw [if_neg h, lkp_none] at h1
    constructor
    · intro z
      exact .inr (by_contra' fun y => h1.mp y z)
    · rintro (z | z)
      · exact absurd z h
      · exact by_contra' fun y => h1.mpr y z
theorem stp_nodup {l : List (Int × α)} {k : Int} {v : α} (h : (l.map (·.1)).Nodup) : ((stp l k v).map (·.1)).Nodup := by
  induction l with
  | nil => simp [stp]
  | cons p r ih =>
    rw [List.map_cons, List.nodup_cons] at h
    unfold stp
    by_cases e : p.1 = k
    · rw [if_pos e, List.map_cons, List.nodup_cons]
      exact ⟨by rw [← e]; exact h.1, h.2⟩
    · rw [if_neg e, List.map_cons, List.nodup_cons]
      refine ⟨fun z => ?_, ih h.2⟩
      rcases stp_keys.mp z with y | y
      · exact e y
      · exact h.1 y
theorem lkp_of {l : List (Int × α)} {p : Int × α} (h : (l.map (·.1)).Nodup) (hp : p ∈ l) : lkp l p.1 = some p.2 := by
  induction l with
  | nil => simp at hp
  | cons q r ih =>
    rw [List.map_cons, List.nodup_cons] at h
    rcases List.mem_cons.mp hp with z | z
    · subst z; unfold lkp; rw [if_pos rfl]
    · unfold lkp
      rw [if_neg fun y => h.1 (List.mem_map.mpr ⟨p, z, y.symm⟩)]
      exact ih h.2 z
theorem lkp_isSome {l : List (Int × α)} {k : Int} : (lkp l k).isSome = decide (k ∈ l.map (·.1)) := by
  cases h : lkp l k with
  | none => rw [decide_eq_false (lkp_none.mp h)]; rfl
  | some v => rw [decide_eq_true (by_contra' fun z => by rw [lkp_none.mpr z] at h; cases h)]; rfl
theorem dks_len {l : List (Int × α)} : (dks l).length = l.length := by simp [dks]
theorem dks_keyD {l : List (Int × α)} : (dks l).map keyD = (l.map (·.1)).map D.int := by
  unfold dks; simp [keyD]
end
theorem okN_ints (xs : List Int) : (D.lst (xs.map D.int)).okN 1 := D.okN_lst (n := 0) fun d hd => by
  obtain ⟨x, _, rfl⟩ := List.mem_map.mp hd
  exact D.okN_int x
theorem okN_intsT (xs : List Int) : (D.tup (xs.map D.int)).okN 1 := D.okN_tup (n := 0) fun d hd => by
  obtain ⟨x, _, rfl⟩ := List.mem_map.mp hd
  exact D.okN_int x
theorem okN_mono {n k : Nat} {d : D} (h : d.okN n) (hk : n ≤ k) : d.okN k := ⟨h.1, Nat.le_trans h.2 hk⟩
theorem map_int_inj {a b : List Int} : a.map D.int = b.map D.int ↔ a = b := by
  constructor
  · intro h
    induction a generalizing b with
    | nil => cases b with
      | nil => rfl
      | cons y t => simp at h
    | cons x r ih => cases b with
      | nil => simp at h
      | cons y t =>
        rw [List.map_cons, List.map_cons] at h
        injection h with h1 h2
        injection h1 with h1
        rw [h1, ih h2]
  · exact fun h => by rw [h]
theorem sm_eqNilL {ds : List D} {P : D → Prop} (h : (D.lst ds).ok) : Sm (eqD (.lst ds) (.lst [])) P ↔ P (.bl (decide (ds = []))) := sm_eqG h (D.okN_lst (n := 0) (ds := []) (by simp)).ok (by simp)
theorem sm_neNilL {ds : List D} {P : D → Prop} (h : (D.lst ds).ok) : Sm (neD (.lst ds) (.lst [])) P ↔ P (.bl (!decide (ds = []))) := sm_neG h (D.okN_lst (n := 0) (ds := []) (by simp)).ok (by simp)
theorem sm_eqNilT {ds : List D} {P : D → Prop} (h : (D.tup ds).ok) : Sm (eqD (.tup ds) (.tup [])) P ↔ P (.bl (decide (ds = []))) := sm_eqG h (D.okN_tup (n := 0) (ds := []) (by simp)).ok (by simp)
theorem sm_neNilT {ds : List D} {P : D → Prop} (h : (D.tup ds).ok) : Sm (neD (.tup ds) (.tup [])) P ↔ P (.bl (!decide (ds = []))) := sm_neG h (D.okN_tup (n := 0) (ds := []) (by simp)).ok (by simp)
theorem sm_eqNilI {xs : List Int} {P : D → Prop} : Sm (eqD (.lst (xs.map D.int)) (.lst [])) P ↔ P (.bl (decide (xs = []))) := sm_eqG (okN_ints xs).ok (D.okN_lst (n := 0) (ds := []) (by simp)).ok (by simp)
theorem sm_neNilI {xs : List Int} {P : D → Prop} : Sm (neD (.lst (xs.map D.int)) (.lst [])) P ↔ P (.bl (!decide (xs = []))) := sm_neG (okN_ints xs).ok (D.okN_lst (n := 0) (ds := []) (by simp)).ok (by simp)
theorem sm_eqIL {xs ys : List Int} {P : D → Prop} : Sm (eqD (.lst (xs.map D.int)) (.lst (ys.map D.int))) P ↔ P (.bl (decide (xs = ys))) := sm_eqG (okN_ints xs).ok (okN_ints ys).ok (by rw [D.lst.injEq, map_int_inj])
theorem sm_neIL {xs ys : List Int} {P : D → Prop} : Sm (neD (.lst (xs.map D.int)) (.lst (ys.map D.int))) P ↔ P (.bl (!decide (xs = ys))) := sm_neG (okN_ints xs).ok (okN_ints ys).ok (by rw [D.lst.injEq, map_int_inj])
theorem sm_eqIT {xs ys : List Int} {P : D → Prop} : Sm (eqD (.tup (xs.map D.int)) (.tup (ys.map D.int))) P ↔ P (.bl (decide (xs = ys))) := sm_eqG (okN_intsT xs).ok (okN_intsT ys).ok (by rw [D.tup.injEq, map_int_inj])
theorem sm_neIT {xs ys : List Int} {P : D → Prop} : Sm (neD (.tup (xs.map D.int)) (.tup (ys.map D.int))) P ↔ P (.bl (!decide (xs = ys))) := sm_neG (okN_intsT xs).ok (okN_intsT ys).ok (by rw [D.tup.injEq, map_int_inj])
/-- equal things -/
theorem sm_eqS {d : D} {P : D → Prop} (h : d.ok) : Sm (eqD d d) P ↔ P (.bl true) := sm_eq (eqD_same h)
theorem sm_neS {d : D} {P : D → Prop} (h : d.ok) : Sm (neD d d) P ↔ P (.bl false) := sm_eq (neD_same h)
theorem sm_pop0 {d : D} {ds : List D} {P : D × List D → Prop} : Sm (popAtL (.int 0) (d :: ds)) P ↔ ds.length + 1 ≤ 16777216 ∧ P (d, ds) := by
  show Sm ((ixN (d :: ds).length 0).bind fun n => if (d :: ds).length ≤ sizeLine then (d :: ds)[n]?.map fun y => (y, (d :: ds).eraseIdx n) else none) P ↔ _
  have : ixN (d :: ds).length 0 = some 0 := by unfold ixN; rw [if_pos (by decide), if_pos (by simp <;> omega)]; rfl
  rw [this]
  show Sm (if (d :: ds).length ≤ sizeLine then some (d, ds) else none) P ↔ _
  rw [sm_ite, sm_some, sizeLine_eq]; rfl
/-- a place between two statements -/
theorem wp_mid {a b : M Out} {s : S} {Q : Out → S → Prop} (R : S → Prop) (h : Wp a s fun o s1 => o = .nx ∧ R s1) (h2 : ∀ s1, R s1 → Wp b s1 Q) : Wp (sSeq a b) s Q :=
  wp_seq.mpr (h.mono fun o s1 ⟨e, r⟩ => by subst e; exact h2 s1 r)
theorem nx_eq {p : Prop} : ((Out.nx = Out.nx) ∧ p) ↔ p := by simp
theorem out_nx : (Out.nx = Out.nx) ↔ True := by simp
end GH

namespace GH
open PySem PySem.Spec PyProof.Rows L2

theorem le_int (a b : Int) : PySem.W.dataLe false D.py (.int a) (.int b) = decide (a ≤ b) := by
  have e : PySem.W.dataLe false D.py (.int a) (.int b) = !(PyProof.Rows.lexLt PyProof.Rows.itemOrd [.inl b] [.inl a]) := by
    simp [PySem.W.dataLe, PySem.W.sortLe, D.py, PySem.W.keyToks]
  rw [e]
  have : PyProof.Rows.lexLt PyProof.Rows.itemOrd [.inl b] [.inl a] = (decide (b < a) || (!decide (a < b) && false)) := by
    rw [PyProof.Rows.lex_cons]; rfl
  rw [this]
  by_cases h : a ≤ b
  · have : ¬ b < a := by omega
    simp [h, this]
  · have : b < a := by omega
    simp [h, this]
def leI (a b : Int) : Bool := decide (a ≤ b)
def isort (xs : List Int) : List Int := xs.mergeSort leI
theorem isort_perm (xs : List Int) : (isort xs).Perm xs := List.mergeSort_perm ..
theorem isort_le (xs : List Int) : (isort xs).Pairwise (· ≤ ·) := by
  have := List.pairwise_mergeSort (le := leI) (fun a b c h1 h2 => by simp [leI] at *; omega) (fun a b => by simp [leI]; omega) xs
  exact this.imp fun h => by simpa [leI] using h
theorem isort_eq {xs ys : List Int} (h : ys.Perm xs) (p : ys.Pairwise (· ≤ ·)) : isort xs = ys :=
  List.Perm.eq_of_pairwise (fun a b _ _ h1 h2 => by omega) (isort_le xs) p ((isort_perm xs).trans h.symm)
theorem alike_int (a b : Int) : PySem.W.alike (.int a) (.int b) = true := by simp [PySem.W.alike]
theorem okSort_int (xs : List Int) : okSort (D.pys (xs.map D.int)) = true := by
  have mem : ∀ p ∈ D.pys (xs.map D.int), ∃ x : Int, p = .int x := fun p hp => by
    rw [pys_map, List.map_map] at hp
    obtain ⟨v, hv, rfl⟩ := List.mem_map.mp hp
    exact ⟨v, rfl⟩
  unfold okSort
  simp only [Bool.and_eq_true, Bool.or_eq_true]
  refine ⟨⟨⟨List.all_eq_true.mpr fun a ha => List.all_eq_true.mpr fun b hb => ?_, .inr (List.all_eq_true.mpr fun a ha => ?_)⟩, List.all_eq_true.mpr fun a ha => ?_⟩, ?_⟩
  · obtain ⟨v, rfl⟩ := mem a ha
    obtain ⟨u, rfl⟩ := mem b hb
    exact alike_int v u
  · obtain ⟨v, rfl⟩ := mem a ha; rfl
  · obtain ⟨v, rfl⟩ := mem a ha; simp [PyData.depth]
  · exact D.niceAll_can _ (niceAll_of fun d hd => by
      obtain ⟨x, _, rfl⟩ := List.mem_map.mp hd; rfl)
theorem sm_srtI {xs : List Int} {P : List D → Prop} : Sm (srtG [.lst (xs.map D.int)]) P ↔ xs.length ≤ 16777216 ∧ P ((isort xs).map D.int) := by
  show Sm (if okSort (D.pys (xs.map D.int)) = true ∧ (xs.map D.int).length ≤ sizeLine then some ((xs.map D.int).mergeSort (PySem.W.dataLe false D.py)) else none) P ↔ _
  rw [sm_ite, sm_some, sizeLine_eq, List.length_map]
  have : (xs.map D.int).mergeSort (PySem.W.dataLe false D.py) = (isort xs).map D.int :=
    (List.map_mergeSort fun a _ b _ => (le_int a b).symm).symm
  rw [this]
  simp [okSort_int]

def ltT : List Int → List Int → Bool
  | [], [] => false
  | [], _ :: _ => true
  | _ :: _, [] => false
  | x :: r, y :: t => decide (x < y) || (decide (x = y) && ltT r t)
theorem lex_ints : ∀ (a b : List Int), PyProof.Rows.lexLt PyProof.Rows.itemOrd (PySem.W.keyToksAll (D.pys (a.map D.int))) (PySem.W.keyToksAll (D.pys (b.map D.int))) = ltT a b
  | [], [] => by
    simp only [List.map_nil, D.pys, PySem.W.keyToksAll]
    exact PyProof.Rows.lex_irrefl _
  | [], y :: t => by
    simp only [List.map_nil, List.map_cons, D.pys, PySem.W.keyToksAll]
    rw [PyProof.Rows.lex_cons]; rfl
  | x :: r, [] => by
    simp only [List.map_nil, List.map_cons, D.pys, PySem.W.keyToksAll]
    rw [PyProof.Rows.lex_cons]; rfl
  | x :: r, y :: t => by
    simp only [List.map_cons, D.pys, PySem.W.keyToksAll, D.py, PySem.W.keyToks]
    rw [PyProof.Rows.lex_cons]
    show (false || (!false && PyProof.Rows.lexLt PyProof.Rows.itemOrd (Sum.inl x :: PySem.W.keyToksAll (D.pys (r.map D.int))) (Sum.inl y :: PySem.W.keyToksAll (D.pys (t.map D.int))))) = _
    rw [PyProof.Rows.lex_cons, lex_ints r t]
    show (false || (!false && (decide (x < y) || (!decide (y < x) && ltT r t)))) = (decide (x < y) || (decide (x = y) && ltT r t))
    by_cases h : x < y
    · simp [h]
    · by_cases h2 : x = y
      · subst h2; simp
      · have : y < x := by omega
        simp [h, h2, this]
def leT (a b : List Int) : Bool := !ltT b a
def eT (v : List Int) : D := .tup (v.map D.int)
theorem le_tup (a b : List Int) : PySem.W.dataLe false D.py (eT a) (eT b) = leT a b := by
  have e : PySem.W.dataLe false D.py (eT a) (eT b) = !(PyProof.Rows.lexLt PyProof.Rows.itemOrd (PySem.W.keyToksAll (D.pys (b.map D.int))) (PySem.W.keyToksAll (D.pys (a.map D.int)))) := by
    simp [PySem.W.dataLe, PySem.W.sortLe, D.py, PySem.W.keyToks, eT]
  rw [e, lex_ints]; rfl
theorem ltT_irr : ∀ a : List Int, ltT a a = false
  | [] => rfl
  | x :: r => by simp [ltT, ltT_irr r]
theorem ltT_tri : ∀ a b : List Int, ltT a b = false → ltT b a = false → a = b
  | [], [], _, _ => rfl
  | [], _ :: _, h, _ => by simp [ltT] at h
  | _ :: _, [], _, h => by simp [ltT] at h
  | x :: r, y :: t, h1, h2 => by
    simp [ltT] at h1 h2
    have : x = y := by omega
    subst this
    rw [ltT_tri r t (h1.2 rfl) (h2.2 rfl)]
theorem ltT_trans : ∀ a b c : List Int, ltT a b = true → ltT b c = true → ltT a c = true
  | [], [], _, h, _ => by simp [ltT] at h
  | [], _ :: _, [], _, h => by simp [ltT] at h
  | [], _ :: _, _ :: _, _, _ => rfl
  | _ :: _, [], _, h, _ => by simp [ltT] at h
  | _ :: _, _ :: _, [], _, h => by simp [ltT] at h
  | x :: r, y :: t, z :: u, h1, h2 => by
    simp [ltT] at h1 h2 ⊢
    rcases h1 with h1 | ⟨rfl, h1⟩
    · rcases h2 with h2 | ⟨rfl, h2⟩
      · exact .inl (by omega)
      · exact .inl h1
    · rcases h2 with h2 | ⟨rfl, h2⟩
      · exact .inl h2
      · exact .inr ⟨rfl, ltT_trans r t u h1 h2⟩
theorem ltT_total (a b : List Int) : ltT a b = true ∨ a = b ∨ ltT b a = true := by
  cases h : ltT a b with
  | true => exact .inl rfl
  | false =>
    cases h2 : ltT b a with
    | true => exact .inr (.inr rfl)
    | false => exact .inr (.inl (ltT_tri a b h h2))
theorem leT_trans (a b c : List Int) (h1 : leT a b = true) (h2 : leT b c = true) : leT a c = true := by
  simp only [leT, Bool.not_eq_true'] at *
  cases h : ltT c a with
  | false => rfl
  | true =>
    rcases ltT_total a b with z | z | z
    · have := ltT_trans c a b h z; rw [h2] at this; cases this
    · subst z; rw [h2] at h; cases h
    · rw [h1] at z; cases z
theorem leT_total (a b : List Int) : (leT a b || leT b a) = true := by
  simp only [leT]
  cases h : ltT b a with
  | false => rfl
  | true =>
    cases h2 : ltT a b with
    | false => rfl
    | true => have := ltT_trans a b a h2 h; rw [ltT_irr] at this; cases this
theorem leT_anti (a b : List Int) (h1 : leT a b = true) (h2 : leT b a = true) : a = b := by
  simp only [leT, Bool.not_eq_true'] at *
  exact ltT_tri a b h2 h1
def tsort (xs : List (List Int)) : List (List Int) := xs.mergeSort leT
theorem tsort_perm (xs : List (List Int)) : (tsort xs).Perm xs := List.mergeSort_perm ..
theorem tsort_le (xs : List (List Int)) : (tsort xs).Pairwise (fun a b => leT a b = true) := List.pairwise_mergeSort leT_trans leT_total xs
theorem tsort_eq {xs ys : List (List Int)} (h : ys.Perm xs) (p : ys.Pairwise (fun a b => leT a b = true)) : tsort xs = ys :=
  List.Perm.eq_of_pairwise (fun a b _ _ h1 h2 => leT_anti a b h1 h2) (tsort_le xs) p ((tsort_perm xs).trans h.symm)
theorem sm_srtT {xs : List (List Int)} {P : List D → Prop} (h : ∀ v ∈ xs, v ≠ []) : Sm (srtG [.lst (xs.map eT)]) P ↔ xs.length ≤ 16777216 ∧ P ((tsort xs).map eT) := by
  show Sm (if okSort (D.pys (xs.map eT)) = true ∧ (xs.map eT).length ≤ sizeLine then some ((xs.map eT).mergeSort (PySem.W.dataLe false D.py)) else none) P ↔ _
  rw [sm_ite, sm_some, sizeLine_eq, List.length_map]
  have : (xs.map eT).mergeSort (PySem.W.dataLe false D.py) = (tsort xs).map eT :=
    (List.map_mergeSort fun a _ b _ => (le_tup a b).symm).symm
  rw [this]
  have ok := okSort_ints xs h
  have : (xs.map eT) = xs.map fun v => D.tup (v.map D.int) := rfl
  rw [this, ok]
  simp
end GH

namespace GH
/-- a slot that holds a value or nothing -/
def IsV (x : Option Sl) : Prop := ∃ o, x = jv o
def AllV : List (Option Sl) → Prop
  | [] => True
  | x :: r => IsV x ∧ AllV r
theorem isV_none : IsV none ↔ True := ⟨fun _ => trivial, fun _ => ⟨none, rfl⟩⟩
theorem isV_val {d : D} : IsV (some (.val d)) ↔ True := ⟨fun _ => trivial, fun _ => ⟨some d, rfl⟩⟩
theorem isV_jv {d : Option D} : IsV (jv d) ↔ True := ⟨fun _ => trivial, fun _ => ⟨d, rfl⟩⟩
theorem allV_nil : AllV [] ↔ True := Iff.rfl
theorem allV_cons {x : Option Sl} {r : List (Option Sl)} : AllV (x :: r) ↔ IsV x ∧ AllV r := Iff.rfl
theorem AllV.open_ : ∀ {e : List (Option Sl)}, AllV e → ∃ xs : List (Option D), e = xs.map jv
  | [], _ => ⟨[], rfl⟩
  | x :: r, ⟨⟨o, h⟩, h2⟩ => by
    obtain ⟨xs, e⟩ := AllV.open_ h2
    exact ⟨o :: xs, by rw [h, e]; rfl⟩
/-- amid a law: the script's slot, the source's, so many others with values -/
def LawI (n : Nat) (s : S) : Prop := ∃ e, s.env = none :: some (.val .src) :: e ∧ e.length = n ∧ AllV e
theorem LawI.open_ {n : Nat} {s : S} (h : LawI n s) : ∃ (xs : List (Option D)) (c : Src), s = ⟨none :: some (.val .src) :: xs.map jv, c⟩ ∧ xs.length = n := by
  obtain ⟨e, h1, h2, h3⟩ := h
  obtain ⟨xs, rfl⟩ := h3.open_
  exact ⟨xs, s.src, by cases s; simp only at h1; rw [h1], by simpa using h2⟩
theorem LawI.of {n : Nat} {e : List (Option Sl)} {c : Src} (h : e.length = n) (h2 : AllV e) : LawI n ⟨none :: some (.val .src) :: e, c⟩ := ⟨e, rfl, h, h2⟩
theorem uncons {α : Type} {n : Nat} {xs : List α} (h : xs.length = n + 1) : ∃ a r, xs = a :: r ∧ r.length = n := by
  cases xs with
  | nil => simp at h
  | cons a r => exact ⟨a, r, rfl, by simpa using h⟩
theorem unnil {α : Type} {xs : List α} (h : xs.length = 0) : xs = [] := List.eq_nil_of_length_eq_zero h
theorem allV_nones : ∀ n, AllV (List.replicate n none)
  | 0 => trivial
  | n + 1 => ⟨⟨none, rfl⟩, allV_nones n⟩
theorem lawI_start (n : Nat) (c : Src) : LawI n ⟨lawEnv (n + 2) 1, c⟩ := by
  refine ⟨List.replicate n none, ?_, by simp, allV_nones n⟩
  unfold lawEnv
  rfl
/-- what a law wants -/
theorem law_ok {n : Nat} {m : M Out} {c : Src} (h : Wp m ⟨lawEnv n 1, c⟩ fun o _ => o = .ret (.bl true)) : ∃ s', m ⟨lawEnv n 1, c⟩ = some (.ret (.bl true), s') := by
  obtain ⟨o, s', e, rfl⟩ := h
  exact ⟨s', e⟩
theorem at_snoc {α : Type} {xs : List α} {x : α} {P : α → Prop} : Sm (L2.atI (xs ++ [x]) (-1)) P ↔ P x := by
  refine sm_eq (atI_neg (by decide) (by simp; omega) ?_)
  rw [show (-1 + ((xs ++ [x]).length : Int)).toNat = xs.length by simp <;> omega]
  simp
theorem ok_ints3 (a b c : Int) : (D.tup [.int a, .int b, .int c]).ok := (D.okN_tup (n := 0) fun d hd => by
  simp at hd
  rcases hd with rfl | rfl | rfl <;> exact D.okN_int _).ok
theorem ok_ints2 (a b : Int) : (D.tup [.int a, .int b]).ok := (D.okN_tup (n := 0) fun d hd => by
  simp at hd
  rcases hd with rfl | rfl <;> exact D.okN_int _).ok
theorem sm_ne3 {a b c : Int} {P : D → Prop} : Sm (neD (.tup [.int a, .int b, .int c]) (.tup [.int a, .int b, .int c])) P ↔ P (.bl false) := sm_neS (ok_ints3 a b c)
theorem sm_ne2 {a b : Int} {P : D → Prop} : Sm (neD (.tup [.int a, .int b]) (.tup [.int a, .int b])) P ↔ P (.bl false) := sm_neS (ok_ints2 a b)
theorem ok_nats (n : Nat) : (D.tup ((List.range n).map fun k => D.int ((k : Nat) : Int))).ok := (D.okN_tup (n := 0) fun d hd => by
  obtain ⟨k, _, rfl⟩ := List.mem_map.mp hd
  exact D.okN_int _).ok
theorem str_ok {s : PySem.Str} (h : PySem.PyData.strOk s = true) : (D.str s).ok := ⟨by simp only [D.nice]; exact h, by simp [D.py, PySem.PyData.depth]⟩
theorem sm_eqStr {a b : PySem.Str} {P : D → Prop} (h : PySem.PyData.strOk a = true) (h2 : PySem.PyData.strOk b = true) : Sm (eqD (.str a) (.str b)) P ↔ P (.bl (decide (a = b))) := sm_eqG (str_ok h) (str_ok h2) (by rw [D.str.injEq])
theorem sm_neStr {a b : PySem.Str} {P : D → Prop} (h : PySem.PyData.strOk a = true) (h2 : PySem.PyData.strOk b = true) : Sm (neD (.str a) (.str b)) P ↔ P (.bl (!decide (a = b))) := sm_neG (str_ok h) (str_ok h2) (by rw [D.str.injEq])
theorem tf_ok (b : Bool) : (D.str (if b = true then "True" else "False")).ok := by
  cases b
  · exact ⟨by simp only [D.nice]; decide +kernel, by simp [D.py, PySem.PyData.depth]⟩
  · exact ⟨by simp only [D.nice]; decide +kernel, by simp [D.py, PySem.PyData.depth]⟩
theorem rgOk_of {i j : Int} (h : -1000000 ≤ i) (h2 : i ≤ 1000000) (h3 : -1000000 ≤ j) (h4 : j ≤ 1000000) : L2.RgOk i j := by unfold L2.RgOk; omega
end GH

namespace GH
open PySem PySem.Spec PyProof.Rows L2

section
variable {X : Cx} {a e : Expr} {pos p : Pos} {ma m : M D}
def lSl (m : M D) (lo hi : M (Option Int)) : M (List D) := bnd m fun d => bnd lo fun l => bnd hi fun h => lift ((lstD d).map fun ds => cutL ds l h)
theorem l_slice {lo hi : Option Expr} {ml mh : M (Option Int)} {p2 : Pos} (ha : SE X a ma) (hl : SO X lo ml) (hh : SO X hi mh) : SL X (.Subscript a (.Slice lo hi none p2) pos) (lSl ma ml mh) :=
  ⟨fun B => PE.imp (pe_slice sl_list (ha.pe B) (hl.po B) (hh.po B)) fun σ H Q ⟨s, d, s', k, e, q⟩ => by
    refine tI.bind k e fun dx s1 v H1 h1 e1 k1 ev1 r1 => ?_
    obtain ⟨l, s2, e2, e3⟩ := bnd_some e1
    refine ⟨s1, l, s2, k1, e2, fun H2 k2 ev2 => ?_⟩
    obtain ⟨h, s3, e4, e5⟩ := bnd_some e3
    refine ⟨s2, h, s3, k2, e4, fun H3 k3 ev3 => ?_⟩
    obtain ⟨e6, rfl⟩ := lift_some e5
    obtain ⟨ds, e7, rfl⟩ := Option.map_eq_some_iff.mp e6
    cases dx <;> simp only [lstD] at e7 <;> cases e7
    obtain ⟨ad, vs, rfl, na, hA, rs⟩ := rp_lst (r1.ev (ev2.trans ev3))
    refine ⟨ad, vs, rfl, SqL.of hA, fun q' nq => ?_⟩
    obtain ⟨k4, ev4, r4⟩ := k3.newList (ds := cutL ds l h) (vs := cutV vs l h) (same_new nq) nq upd_same (by
      have hl' := rs.length
      unfold cutL cutV
      rw [hl']
      exact (rs.drop _).take _)
    exact q q' _ _ k4 ((ev1.trans (ev2.trans ev3)).trans ev4) (k3.new nq) (k3.wt.new nq) upd_same r4⟩
end

/-- the places of new lists, what they hold -/
def LotsAt (p : Addr) (W : AP) (H : Hp) : List Addr → List (List D) → Prop
  | [], ls => ls = []
  | b :: bs, ls => ∃ l r vs, ls = l :: r ∧ H b = some (.lst vs) ∧ Rps p W H l vs ∧ LotsAt p W H bs r
theorem LotsAt.ev {p : Addr} {W W' : AP} {H H' : Hp} (e : Ev W H W' H') : ∀ {bs : List Addr} {ls : List (List D)}, (∀ b ∈ bs, ∀ o, H b = some o → H' b = some o) → LotsAt p W H bs ls → LotsAt p W' H' bs ls
  | [], _, _, h => h
  | b :: bs, _, hb, ⟨l, r, vs, e1, h1, h2, h3⟩ => ⟨l, r, vs, e1, hb b List.mem_cons_self _ h1, Rps.ev e _ _ h2, LotsAt.ev e (fun c hc => hb c (List.mem_cons_of_mem _ hc)) h3⟩
theorem LotsAt.empty {p : Addr} {W : AP} {H : Hp} : ∀ {bs : List Addr}, (∀ b ∈ bs, H b = some (.lst [])) → LotsAt p W H bs (bs.map fun _ => [])
  | [], _ => rfl
  | b :: bs, h => ⟨[], _, [], rfl, h b List.mem_cons_self, .nil, LotsAt.empty fun c hc => h c (List.mem_cons_of_mem _ hc)⟩
theorem LotsAt.length {p : Addr} {W : AP} {H : Hp} : ∀ {bs : List Addr} {ls : List (List D)}, LotsAt p W H bs ls → ls.length = bs.length
  | [], _, h => by rw [h]; rfl
  | b :: bs, _, ⟨l, r, vs, e1, _, _, h3⟩ => by rw [e1]; simp [h3.length]
theorem LotsAt.get {p : Addr} {W : AP} {H : Hp} : ∀ {bs : List Addr} {ls : List (List D)} {j : Nat} {l : List D}, LotsAt p W H bs ls → ls[j]? = some l → ∃ b vs, bs[j]? = some b ∧ H b = some (.lst vs) ∧ Rps p W H l vs
  | [], _, j, l, h, e => by rw [h] at e; simp at e
  | b :: bs, _, 0, l, ⟨l', r, vs, e1, h1, h2, h3⟩, e => by rw [e1] at e; simp at e; subst e; exact ⟨b, vs, rfl, h1, h2⟩
  | b :: bs, _, j + 1, l, ⟨l', r, vs, e1, h1, h2, h3⟩, e => by
    rw [e1] at e
    obtain ⟨b', vs', q1, q2, q3⟩ := h3.get (j := j) (l := l) (by simpa using e)
    exact ⟨b', vs', by simpa using q1, q2, q3⟩
/-- one of them is written -/
theorem LotsAt.wr {p : Addr} {W : AP} {H : Hp} {b : Addr} {l' : List D} {vs' : List V} : ∀ {bs : List Addr} {ls : List (List D)} {j : Nat}, LotsAt p W H bs ls → bs.Nodup → bs[j]? = some b → (∀ c ∈ bs, W c) → Rps p W H l' vs' →
    Ev W H W (upd H b (.lst vs')) → LotsAt p W (upd H b (.lst vs')) bs (ls.set j l')
  | [], _, _, _, _, e, _, _, _ => by simp at e
  | c :: bs, _, 0, ⟨l, r, vs, e1, h1, h2, h3⟩, nd, e, hw, rl, ev => by
    simp at e; subst e; subst e1
    have nd' := List.nodup_cons.mp nd
    refine ⟨l', r, vs', rfl, upd_same, Rps.ev ev _ _ rl, h3.ev ev fun d hd o ho => ?_⟩
    rw [upd_ne (show d ≠ c from fun z => nd'.1 (z ▸ hd))]; exact ho
  | c :: bs, _, j + 1, ⟨l, r, vs, e1, h1, h2, h3⟩, nd, e, hw, rl, ev => by
    subst e1
    have nd' := List.nodup_cons.mp nd
    have hb : b ∈ bs := List.mem_of_getElem? (by simpa using e)
    refine ⟨l, r.set j l', vs, rfl, ?_, Rps.ev ev _ _ h2, LotsAt.wr h3 nd'.2 (by simpa using e) (fun d hd => hw d (List.mem_cons_of_mem _ hd)) rl ev⟩
    rw [upd_ne (show c ≠ b from fun z => nd'.1 (z ▸ hb))]; exact h1
/-- a base that guards more, and pins it -/
def Bs.pinL (B : Bs) (G : List Addr) (H : Hp) : Bs := { B with Wc := fun b => B.Wc b ∨ b ∈ G, H0 := fun b => if b ∈ G then H b else B.H0 b }
/-- the state under such a base: the guarded are new objects -/
theorem StOk.guard {B : Bs} {σ : Sg} {H : Hp} {s : S} {G : List Addr} (k : StOk B σ H s) (new : ∀ b ∈ G, B.H0 b = none ∧ (∃ o, H b = some o ∧ NoTup o))
    (val : ∀ (i : Nat) (d : D), s.env[i]? = some (some (.val d)) → ∃ v, σ[i]? = some (some v) ∧ Rp B.p ((B.pinL G H).W s.env σ) H d v)
    (own : ∀ (i : Nat) (sl : Sl), s.env[i]? = some (some sl) → sl.isOwn = true → ∃ a o, σ[i]? = some (some (.ref a)) ∧ H a = some o ∧ OwnR B.p ((B.pinL G H).W s.env σ) H sl o ∧ B.H0 a = none ∧ ¬ B.Wc a ∧ a ∉ G) : StOk (B.pinL G H) σ H s where
  len := k.len
  val := val
  own := fun i sl hi ho => by
    obtain ⟨a, o, h1, h2, h3, h4, h5, h6⟩ := own i sl hi ho
    refine ⟨a, o, h1, h2, h3, ?_, ?_⟩
    · show (if a ∈ G then H a else B.H0 a) = none
      rw [if_neg h6]; exact h4
    · rintro (z | z)
      · exact h5 z
      · exact h6 z
  sep := k.sep
  src := k.src
  keep := fun a o h n1 n2 => by
    have h : (if a ∈ G then H a else B.H0 a) = some o := h
    by_cases z : a ∈ G
    · rw [if_pos z] at h; exact h
    · rw [if_neg z] at h; exact k.keep a o h n1 n2
  wc := fun a h => by
    rcases h with z | z
    · exact k.wc a z
    · obtain ⟨_, o, h1, h2⟩ := new a z; exact ⟨o, h1, h2⟩
  wp := .inl k.wp
  wcc := .inl k.wcc
/-- amid the filling: the slot i holds the outer list's address, told apart from the state -/
structure LotS (B : Bs) (i : Nat) (σ : Sg) (H : Hp) (s : S) (ls : List (List D)) (a : Addr) (bs : List Addr) : Prop where
  k : StOk (B.pinL (a :: bs) H) σ H s
  slot : σ[i]? = some (some (.ref a))
  none_ : s.env[i]? = some none
  out : H a = some (.lst (bs.map V.ref))
  at_ : LotsAt B.p ((B.pinL (a :: bs) H).W s.env σ) H bs ls
  nd : (a :: bs).Nodup
  new : ∀ b ∈ a :: bs, B.H0 b = none ∧ ¬ B.Wc b
  wp : B.Wc B.p
  wcc : B.Wc B.c
def LW (B : Bs) (G : List Addr) (env : List (Option Sl)) (σ : Sg) : AP := fun b => (B.Wc b ∨ b ∈ G) ∨ OwnA env σ b
theorem LW_eq (B : Bs) (G : List Addr) (H : Hp) (env : List (Option Sl)) (σ : Sg) : (B.pinL G H).W env σ = LW B G env σ := rfl
theorem pinL_eq {B : Bs} {G : List Addr} {H H' : Hp} (h : ∀ b ∈ G, H b = H' b) : B.pinL G H = B.pinL G H' := by
  unfold Bs.pinL
  congr 1
  funext b
  by_cases z : b ∈ G
  · rw [if_pos z, if_pos z, h b z]
  · rw [if_neg z, if_neg z]
theorem LotS.obj {B : Bs} {i : Nat} {σ : Sg} {H : Hp} {s : S} {ls : List (List D)} {a : Addr} {bs : List Addr} (h : LotS B i σ H s ls a bs) : ∀ b ∈ a :: bs, ∃ o, H b = some o ∧ NoTup o := fun b hb => h.k.wc b (.inr hb)
/-- nothing of it is the source's -/
theorem LotS.neS {B : Bs} {i : Nat} {σ : Sg} {H : Hp} {s : S} {ls : List (List D)} {a : Addr} {bs : List Addr} (h : LotS B i σ H s ls a bs) : ∀ b ∈ a :: bs, b ≠ B.p ∧ b ≠ B.c := fun b hb =>
  ⟨fun z => (h.new b hb).2 (z ▸ h.wp), fun z => (h.new b hb).2 (z ▸ h.wcc)⟩
/-- an expression is reached amid it -/
theorem LotS.after {B : Bs} {i : Nat} {σ : Sg} {H H' : Hp} {s s' : S} {ls : List (List D)} {a : Addr} {bs : List Addr} (h : LotS B i σ H s ls a bs) (k' : StOk (B.pinL (a :: bs) H) σ H' s') (ev : Ev (LW B (a :: bs) s.env σ) H (LW B (a :: bs) s'.env σ) H') (hn : s'.env[i]? = some none) : LotS B i σ H' s' ls a bs := by
  have same : ∀ b ∈ a :: bs, ∀ o, H b = some o → H' b = some o := fun b hb o ho => k'.keep b o (by show (if b ∈ a :: bs then H b else B.H0 b) = _; rw [if_pos hb]; exact ho) (h.neS b hb).1 (h.neS b hb).2
  have same2 : ∀ b ∈ a :: bs, H b = H' b := fun b hb => by
    obtain ⟨o, ho, _⟩ := h.obj b hb
    rw [ho, same b hb o ho]
  refine ⟨by rw [← pinL_eq same2]; exact k', h.slot, hn, same a List.mem_cons_self _ h.out, ?_, h.nd, h.new, h.wp, h.wcc⟩
  exact LotsAt.ev (W := LW B (a :: bs) s.env σ) ev (fun b hb o ho => same b (List.mem_cons_of_mem _ hb) o ho) h.at_
/-- another name is given a value -/
theorem LotS.name {B : Bs} {i j : Nat} {σ : Sg} {H : Hp} {s : S} {ls : List (List D)} {a : Addr} {bs : List Addr} {d : D} {v : V} (h : LotS B i σ H s ls a bs) (hij : i ≠ j) (hj : j < s.env.length) (r : Rp B.p (LW B (a :: bs) s.env σ) H d v) :
    LotS B i (σ.set j (some v)) H { s with env := s.env.set j (some (.val d)) } ls a bs ∧ Ev (LW B (a :: bs) s.env σ) H (LW B (a :: bs) (s.env.set j (some (.val d))) (σ.set j (some v))) H := by
  obtain ⟨k2, ev2⟩ := h.k.set (d := d) (v := v) hj r
  refine ⟨⟨k2, by rw [List.getElem?_set_ne (Ne.symm hij)]; exact h.slot, by show (s.env.set j _)[i]? = _; rw [List.getElem?_set_ne (Ne.symm hij)]; exact h.none_, h.out, ?_, h.nd, h.new, h.wp, h.wcc⟩, ev2⟩
  exact LotsAt.ev ev2 (fun b hb o ho => ho) h.at_
/-- one lot grows -/
theorem LotS.grow {B : Bs} {i : Nat} {σ : Sg} {H : Hp} {s : S} {ls : List (List D)} {a b : Addr} {bs : List Addr} {z : Nat} {l : List D} {vs : List V} {d : D} {v : V} (h : LotS B i σ H s ls a bs) (hb : bs[z]? = some b) (hH : H b = some (.lst vs)) (rl : Rps B.p (LW B (a :: bs) s.env σ) H l vs) (r : Rp B.p (LW B (a :: bs) s.env σ) H d v) :
    LotS B i σ (upd H b (.lst (vs ++ [v]))) s (ls.set z (l ++ [d])) a bs ∧ Ev (LW B (a :: bs) s.env σ) H (LW B (a :: bs) s.env σ) (upd H b (.lst (vs ++ [v]))) := by
  have hbm : b ∈ bs := List.mem_of_getElem? hb
  have hbm2 : b ∈ a :: bs := List.mem_cons_of_mem _ hbm
  have ev : Ev (LW B (a :: bs) s.env σ) H (LW B (a :: bs) s.env σ) (upd H b (.lst (vs ++ [v]))) := fun c o ho n => by
    have : c ≠ b := fun z => n (z ▸ .inl (.inr hbm2))
    exact ⟨by rw [upd_ne this]; exact ho, n⟩
  have nd' := List.nodup_cons.mp h.nd
  have hab : a ≠ b := fun z => nd'.1 (z ▸ hbm)
  have ht : StOk (B.pinL (a :: bs) (upd H b (.lst (vs ++ [v])))) σ (upd H b (.lst (vs ++ [v]))) s := by
    refine ⟨h.k.len, fun i d h1 => ?_, fun i sl h1 ho => ?_, h.k.sep, ⟨?_, ?_⟩, fun c o hc n1 n2 => ?_, fun c hc => ?_, h.k.wp, h.k.wcc⟩
    · obtain ⟨u, q1, q2⟩ := h.k.val i d h1
      exact ⟨u, q1, Rp.ev ev _ _ q2⟩
    · obtain ⟨c, o, q1, q2, q3, q4, q5⟩ := h.k.own i sl h1 ho
      have hcb : c ≠ b := fun z => q5 (z ▸ .inr hbm2)
      have hcG : c ∉ a :: bs := fun z => q5 (.inr z)
      refine ⟨c, o, q1, by rw [upd_ne hcb]; exact q2, OwnR.ev ev _ _ q3, ?_, q5⟩
      have q4 : (if c ∈ a :: bs then H c else B.H0 c) = none := q4
      show (if c ∈ a :: bs then upd H b (.lst (vs ++ [v])) c else B.H0 c) = none
      rw [if_neg hcG] at q4 ⊢; exact q4
    · show upd H b _ B.p = _
      rw [upd_ne (Ne.symm (h.neS b hbm2).1)]; exact h.k.src.d
    · show upd H b _ B.c = _
      rw [upd_ne (Ne.symm (h.neS b hbm2).2)]; exact h.k.src.l
    · have hc : (if c ∈ a :: bs then upd H b (.lst (vs ++ [v])) c else B.H0 c) = some o := hc
      by_cases z : c ∈ a :: bs
      · rw [if_pos z] at hc; exact hc
      · rw [if_neg z] at hc
        have : c ≠ b := fun y => z (y ▸ hbm2)
        rw [upd_ne this]
        exact h.k.keep c o (by show (if c ∈ a :: bs then H c else B.H0 c) = _; rw [if_neg z]; exact hc) n1 n2
    · by_cases z : c = b
      · subst z; exact ⟨_, upd_same, fun _ y => by cases y⟩
      · rw [upd_ne z]; exact h.k.wc c hc
  refine ⟨⟨ht, h.slot, h.none_, by rw [upd_ne hab]; exact h.out, ?_, h.nd, h.new, h.wp, h.wcc⟩, ev⟩
  exact h.at_.wr nd'.2 hb (fun c hc => .inl (.inr (List.mem_cons_of_mem _ hc))) (rl.append (.cons r .nil)) ev
theorem lots_rps {p : Addr} {W : AP} {H : Hp} : ∀ {bs : List Addr} {ls : List (List D)}, (∀ b ∈ bs, ¬ W b) → LotsAt p W H bs ls → Rps p W H (ls.map D.lst) (bs.map V.ref)
  | [], _, _, h => by rw [h]; exact .nil
  | b :: bs, _, n, ⟨l, r, vs, e, h1, h2, h3⟩ => by
    subst e
    exact .cons (.mkLst (n b List.mem_cons_self) h1 h2) (lots_rps (fun c hc => n c (List.mem_cons_of_mem _ hc)) h3)
/-- from now on nobody changes them -/
theorem LotS.done {B : Bs} {i : Nat} {σ : Sg} {H : Hp} {s : S} {ls : List (List D)} {a : Addr} {bs : List Addr} (h : LotS B i σ H s ls a bs) :
    StOk B σ H { s with env := s.env.set i (some (.val (.lst (ls.map D.lst)))) } ∧ Ev (LW B (a :: bs) s.env σ) H (B.W (s.env.set i (some (.val (.lst (ls.map D.lst))))) σ) H := by
  have hi : i < s.env.length := (List.getElem?_eq_some_iff.mp h.none_).1
  have sub : ∀ b, B.W (s.env.set i (some (.val (.lst (ls.map D.lst))))) σ b → LW B (a :: bs) s.env σ b := fun b hb => by
    rcases hb with hb | ⟨j, sl, e1, e2, e3⟩
    · exact .inl (.inl hb)
    · by_cases hj : i = j
      · subst hj
        rw [List.getElem?_set_self hi] at e1
        cases e1; cases e2
      · rw [List.getElem?_set_ne hj] at e1
        exact .inr ⟨j, sl, e1, e2, e3⟩
  have ev : Ev (LW B (a :: bs) s.env σ) H (B.W (s.env.set i (some (.val (.lst (ls.map D.lst))))) σ) H := Ev.less sub
  have out : ∀ b ∈ a :: bs, ¬ B.W (s.env.set i (some (.val (.lst (ls.map D.lst))))) σ b := fun b hb hw => by
    rcases hw with z | ⟨j, sl, e1, e2, e3⟩
    · exact (h.new b hb).2 z
    · by_cases hj : i = j
      · subst hj
        rw [List.getElem?_set_self hi] at e1
        cases e1; cases e2
      · rw [List.getElem?_set_ne hj] at e1
        obtain ⟨c, o, q1, _, _, _, q5⟩ := h.k.own j sl e1 e2
        rw [e3] at q1; cases q1
        exact q5 (.inr hb)
  have r : Rp B.p (B.W (s.env.set i (some (.val (.lst (ls.map D.lst))))) σ) H (.lst (ls.map D.lst)) (.ref a) :=
    .mkLst (out a List.mem_cons_self) h.out (lots_rps (fun b hb => out b (List.mem_cons_of_mem _ hb)) (LotsAt.ev ev (fun _ _ _ z => z) h.at_))
  refine ⟨⟨by simpa using h.k.len, fun j d h1 => ?_, fun j sl h1 ho => ?_, fun j1 j2 sl1 sl2 b h1 o1 h2 o2 q1 q2 => ?_, h.k.src, fun c o hc n1 n2 => ?_, fun c hc => h.k.wc c (.inl hc), h.wp, h.wcc⟩, ev⟩
  · have h1 : (s.env.set i _)[j]? = _ := h1
    by_cases hj : i = j
    · subst hj
      rw [List.getElem?_set_self hi] at h1
      cases h1
      exact ⟨_, h.slot, r⟩
    · rw [List.getElem?_set_ne hj] at h1
      obtain ⟨v, q1, q2⟩ := h.k.val j d h1
      exact ⟨v, q1, Rp.ev ev _ _ q2⟩
  · have h1 : (s.env.set i _)[j]? = _ := h1
    by_cases hj : i = j
    · subst hj
      rw [List.getElem?_set_self hi] at h1
      cases h1; cases ho
    · rw [List.getElem?_set_ne hj] at h1
      obtain ⟨c, o, q1, q2, q3, q4, q5⟩ := h.k.own j sl h1 ho
      have hc : c ∉ a :: bs := fun z => q5 (.inr z)
      have q4 : (if c ∈ a :: bs then H c else B.H0 c) = none := q4
      rw [if_neg hc] at q4
      exact ⟨c, o, q1, q2, OwnR.ev ev _ _ q3, q4, fun z => q5 (.inl z)⟩
  · have g : ∀ (j : Nat) (x : Sl), (s.env.set i (some (.val (.lst (ls.map D.lst)))))[j]? = some (some x) → x.isOwn = true → s.env[j]? = some (some x) := fun j x hx ho => by
      by_cases hj : i = j
      · subst hj
        rw [List.getElem?_set_self hi] at hx
        cases hx; cases ho
      · rw [List.getElem?_set_ne hj] at hx; exact hx
    exact h.k.sep j1 j2 sl1 sl2 b (g j1 sl1 h1 o1) o1 (g j2 sl2 h2 o2) o2 q1 q2
  · by_cases z : c ∈ a :: bs
    · rw [(h.new c z).1] at hc; cases hc
    · exact h.k.keep c o (by show (if c ∈ a :: bs then H c else B.H0 c) = _; rw [if_neg z]; exact hc) n1 n2
/-- newly made -/
theorem LotS.make {B : Bs} {i : Nat} {σ : Sg} {H H' : Hp} {s : S} {a : Addr} {bs : List Addr} (k : StOk B σ H s) (hi : i < s.env.length) (sm : Same H H') (nd : (a :: bs).Nodup) (new : ∀ b ∈ a :: bs, H b = none) (out : H' a = some (.lst (bs.map V.ref))) (inn : ∀ b ∈ bs, H' b = some (.lst [])) :
    LotS B i (σ.set i (some (.ref a))) H' { s with env := s.env.set i none } (bs.map fun _ => []) a bs ∧ Ev (B.W s.env σ) H (LW B (a :: bs) (s.env.set i none) (σ.set i (some (.ref a)))) H' := by
  have hiσ : i < σ.length := by rw [← k.len]; exact hi
  have gone : ∀ (j : Nat) (x : Sl), (s.env.set i none)[j]? = some (some x) → i ≠ j ∧ s.env[j]? = some (some x) := fun j x hx => by
    by_cases hj : i = j
    · subst hj
      rw [List.getElem?_set_self hi] at hx; cases hx
    · rw [List.getElem?_set_ne hj] at hx; exact ⟨hj, hx⟩
  have ownW : ∀ b, OwnA (s.env.set i none) (σ.set i (some (.ref a))) b → OwnA s.env σ b := fun b ⟨j, sl, e1, e2, e3⟩ => by
    obtain ⟨hj, e1⟩ := gone j sl e1
    rw [List.getElem?_set_ne hj] at e3
    exact ⟨j, sl, e1, e2, e3⟩
  have ev : Ev (B.W s.env σ) H (LW B (a :: bs) (s.env.set i none) (σ.set i (some (.ref a)))) H' := fun c o hc n => ⟨sm c o hc, by
    rintro ((z | z) | z)
    · exact n (.inl z)
    · rw [new c z] at hc; cases hc
    · exact n (.inr (ownW c z))⟩
  have objs : ∀ b ∈ a :: bs, ∃ o, H' b = some o ∧ NoTup o := fun b hb => by
    rcases List.mem_cons.mp hb with z | z
    · subst z; exact ⟨_, out, fun _ y => by cases y⟩
    · exact ⟨_, inn b z, fun _ y => by cases y⟩
  refine ⟨⟨⟨by simpa using k.len, fun j d h1 => ?_, fun j sl h1 ho => ?_, fun j1 j2 sl1 sl2 b h1 o1 h2 o2 q1 q2 => ?_, k.src.same sm, fun c o hc n1 n2 => ?_, fun c hc => ?_, .inl k.wp, .inl k.wcc⟩, List.getElem?_set_self hiσ, List.getElem?_set_self hi, out, ?_, nd, fun b hb => ⟨k.new (new b hb), fun z => ?_⟩, k.wp, k.wcc⟩, ev⟩
  · obtain ⟨hj, h1⟩ := gone j _ h1
    obtain ⟨v, q1, q2⟩ := k.val j d h1
    exact ⟨v, by rw [List.getElem?_set_ne hj]; exact q1, Rp.ev ev _ _ q2⟩
  · obtain ⟨hj, h1⟩ := gone j _ h1
    obtain ⟨c, o, q1, q2, q3, q4, q5⟩ := k.own j sl h1 ho
    have hc : c ∉ a :: bs := fun z => by rw [new c z] at q2; cases q2
    refine ⟨c, o, by rw [List.getElem?_set_ne hj]; exact q1, sm c o q2, OwnR.ev ev _ _ q3, ?_, ?_⟩
    · show (if c ∈ a :: bs then H' c else B.H0 c) = none
      rw [if_neg hc]; exact q4
    · rintro (z | z)
      · exact q5 z
      · exact hc z
  · obtain ⟨g1, h1⟩ := gone j1 _ h1
    obtain ⟨g2, h2⟩ := gone j2 _ h2
    rw [List.getElem?_set_ne g1] at q1
    rw [List.getElem?_set_ne g2] at q2
    exact k.sep j1 j2 sl1 sl2 b h1 o1 h2 o2 q1 q2
  · have hc : (if c ∈ a :: bs then H' c else B.H0 c) = some o := hc
    by_cases z : c ∈ a :: bs
    · rw [if_pos z] at hc; exact hc
    · rw [if_neg z] at hc; exact sm c o (k.keep c o hc n1 n2)
  · rcases hc with z | z
    · obtain ⟨o, q1, q2⟩ := k.wc c z
      exact ⟨o, sm c o q1, q2⟩
    · exact objs c z
  · exact LotsAt.empty inn
  · obtain ⟨o, q1, _⟩ := k.wc b z
    rw [new b hb] at q1; cases q1

/-- a new own list amid it -/
theorem LotS.ownNew {B : Bs} {i l : Nat} {σ : Sg} {H : Hp} {s : S} {ls : List (List D)} {a c : Addr} {bs : List Addr} (h : LotS B i σ H s ls a bs) (hil : i ≠ l) (hl : l < s.env.length) (n : H c = none) :
    LotS B i (σ.set l (some (.ref c))) (upd H c (.lst [])) { s with env := s.env.set l (some (.own [])) } ls a bs ∧ Ev (LW B (a :: bs) s.env σ) H (LW B (a :: bs) (s.env.set l (some (.own []))) (σ.set l (some (.ref c)))) (upd H c (.lst [])) := by
  obtain ⟨k1, ev1, r1⟩ := h.k.newList (ds := []) (vs := []) (same_new n) n upd_same .nil
  obtain ⟨k2, ev2⟩ := k1.putOwn (i := l) (a := c) (vs := []) (ds := []) hl (h.k.new n) (h.k.wt.new n) h.k.wp h.k.wcc upd_same r1
  have cG : ∀ b ∈ a :: bs, H b = upd H c (.lst []) b := fun b hb => by
    have : b ≠ c := fun z => by
      obtain ⟨o, ho, _⟩ := h.obj b hb
      rw [z, n] at ho; cases ho
    rw [upd_ne this]
  have ev := Ev.trans ev1 ev2
  have cG2 : ∀ b ∈ a :: bs, ∀ o, H b = some o → upd H c (.lst []) b = some o := fun b hb o ho => by rw [← cG b hb]; exact ho
  refine ⟨⟨by rw [← pinL_eq cG]; exact k2, by rw [List.getElem?_set_ne (Ne.symm hil)]; exact h.slot, by show (s.env.set l _)[i]? = _; rw [List.getElem?_set_ne (Ne.symm hil)]; exact h.none_, cG2 a List.mem_cons_self _ h.out, ?_, h.nd, h.new, h.wp, h.wcc⟩, ev⟩
  exact LotsAt.ev ev (fun b hb o ho => cG2 b (List.mem_cons_of_mem _ hb) o ho) h.at_

def noneAt (i : Nat) : M Unit := fun s => match s.env[i]? with
  | some none => some ((), s)
  | _ => none
theorem none_at {i : Nat} {s s' : S} {u : Unit} (h : noneAt i s = some (u, s')) : s' = s ∧ s.env[i]? = some none := by
  unfold noneAt at h
  split at h
  · rename_i hd; cases h; exact ⟨rfl, hd⟩
  · cases h
abbrev ML := List (List D) → M Out
def lotAt (z : D) (ls : List (List D)) : Option (Nat × List D) := match z with
  | .int j => (ixN ls.length j).bind fun n => ls[n]?.map fun l => (n, l)
  | _ => none
def fillM (i j : Nat) (ix x : M D) : List D → List (List D) → M (List (List D))
  | [], ls => ret ls
  | d :: r, ls => bnd (gN j d) fun _ => bnd ix fun z => bnd (noneAt i) fun _ => bnd (lift (lotAt z ls)) fun p => bnd x fun v => bnd (noneAt i) fun _ => bnd (if p.2.length < sizeLine then ret () else fail) fun _ => fillM i j ix x r (ls.set p.1 (p.2 ++ [v]))
def mFillL (i j : Nat) (it : M (List D)) (ix x : M D) (n : M Out) : ML := fun ls => bnd it fun ds => bnd (noneAt i) fun _ => bnd (fillM i j ix x ds ls) fun ls2 => bnd (gN i (.lst (ls2.map D.lst))) fun _ => n
def mSetL (i j : Nat) (me : M D) (n : ML) : ML := fun ls => bnd me fun d => bnd (noneAt i) fun _ => bnd (gN j d) fun _ => n ls
def clrAt (i : Nat) : M Unit := fun s => if i < s.env.length then some ((), { s with env := s.env.set i none }) else none
def mNewL (i k : Nat) (n : ML) : M Out := bnd (clrAt i) fun _ => n (List.replicate k [])
/-- a, lots, c = e, [[], ..], [] -/
def mNewP (i j l k : Nat) (me : M D) (n : ML) : M Out := bnd me fun d => bnd (clrAt j) fun _ => bnd (oN l []) fun _ => bnd (gN i d) fun _ => n (List.replicate k [])
def tSL (B : Bs) (i : Nat) (m : ML) : TS := fun Dn σ H => ∃ s ls a bs o s', LotS B i σ H s ls a bs ∧ m ls s = some (o, s') ∧ Post B Dn (LW B (a :: bs) s.env σ) H o s'
structure SSsL (X : Cx) (i : Nat) (st : List Stmt) (m : ML) : Prop where
  ps : ∀ B, PSs X st (tSL B i m)
section
variable {X : Cx} {e ix : Expr} {rest : List Stmt} {pos p px : Pos} {me mi mx : M D} {n : ML} {i j : Nat} {x y : Str}
theorem ssl_set (hij : i ≠ j) (hN : X.N.Nodup) (hj : X.N[j]? = some x) (hx : Loc X.env.scope x) (he : SE X e me) (hr : SSsL X i rest n) (hs : swapsWith e (some (.Name x px)) pos.line X.env = pure false := by rfl)
    (hf : X.fn x = true ∨ X.env.scope.names.lookup x = some .local := by first | exact .inl rfl | exact .inr rfl | assumption) : SSsL X i (.Assign [.Name x px] e pos :: rest) (mSetL i j me n) :=
  ⟨fun B => PSs.imp (pss_cons (ps_set hN hj hx he.px hs hf) (hr.ps B)) fun Dn σ H ⟨s, ls, a, bs, o, s', h, e, q⟩ => by
    obtain ⟨d, s1, e1, e2⟩ := bnd_some e
    refine ⟨B.pinL (a :: bs) H, s, d, s1, h.k, e1, fun v H1 k1 ev1 r1 => ?_⟩
    obtain ⟨_, s1', e3, e4⟩ := bnd_some e2
    obtain ⟨rfl, hn⟩ := none_at e3
    obtain ⟨_, s2, e5, e6⟩ := bnd_some e4
    unfold gN at e5
    split at e5
    · rename_i hl
      cases e5
      have h1 := h.after k1 ev1 hn
      obtain ⟨h2, ev2⟩ := h1.name hij hl r1
      exact ⟨_, ls, a, bs, o, s', h2, e6, q.ev (Ev.trans ev1 ev2)⟩
    · cases e5⟩
theorem ssl_new {es : List Expr} {lpos : Pos} {k : Nat} (hN : X.N.Nodup) (hi : X.N[i]? = some x) (hx : Loc X.env.scope x)
    (he : PE X (.List es lpos) fun σ H Q => ∀ a bs H', bs.length = k → (a :: bs).Nodup → (∀ b ∈ a :: bs, H b = none) → Same H H' → H' a = some (.lst (bs.map V.ref)) → (∀ b ∈ bs, H' b = some (.lst [])) → Q (.ref a) H') (hr : SSsL X i rest n)
    (hs : swapsWith (.List es lpos) (some (.Name x px)) pos.line X.env = pure false := by rfl)
    (hf : X.fn x = true ∨ X.env.scope.names.lookup x = some .local := by first | exact .inl rfl | exact .inr rfl | assumption) : SSs X (.Assign [.Name x px] (.List es lpos) pos :: rest) (mNewL i k n) :=
  ⟨fun B => PSs.imp (pss_cons (ps_set hN hi hx he hs hf) (hr.ps B)) fun Dn σ H ⟨s, o, s', k0, e, q⟩ => by
    obtain ⟨_, s1, e1, e2⟩ := bnd_some e
    unfold clrAt at e1
    split at e1
    · rename_i hl
      cases e1
      intro a bs H' hlen nd new sm out inn
      obtain ⟨h, ev⟩ := LotS.make k0 hl sm nd new out inn
      have : (bs.map fun _ => ([] : List D)) = List.replicate k [] := by rw [← hlen]; exact List.map_const' ..
      rw [this] at h
      exact ⟨_, _, a, bs, o, s', h, e2, q.ev ev⟩
    · cases e1⟩
theorem ssl_newP {cp : Pos} {a0 : Expr} {z : Str} {es : List Expr} {lpos py pz pt : Pos} {kt k2 pt2} {l k : Nat} (hc : X.calm = true) (hN : X.N.Nodup) (hi : X.N[i]? = some x) (hj : X.N[j]? = some y) (hl : X.N[l]? = some z) (hij : i ≠ j) (hil : i ≠ l) (hjl : j ≠ l)
    (hx : X.env.scope.names.lookup x = some .local) (hy : X.env.scope.names.lookup y = some .local) (hz : X.env.scope.names.lookup z = some .local) (ha : SE X a0 me)
    (he : PE X (.List es lpos) fun σ H Q => ∀ a bs H', bs.length = k → (a :: bs).Nodup → (∀ b ∈ a :: bs, H b = none) → Same H H' → H' a = some (.lst (bs.map V.ref)) → (∀ b ∈ bs, H' b = some (.lst [])) → Q (.ref a) H') (hr : SSsL X j rest n)
    (hw : swappedStores [.Tuple [.Name x px, .Name y py, .Name z pz] kt pt] (.Tuple [a0, .List es lpos, .List [] cp] k2 pt2) X.env = pure (some [x, y, z]))
    (h1 : starEach [a0, .List es lpos, .List [] cp] X.env = (false, eval a0 X.env) :: starEach [.List es lpos, .List [] cp] X.env := by rfl)
    (h2 : starEach [.List es lpos, .List [] cp] X.env = (false, eval (.List es lpos) X.env) :: starEach [.List [] cp] X.env := by rfl)
    (h3 : starEach [.List [] cp] X.env = (false, eval (.List [] cp) X.env) :: starEach [] X.env := by rfl)
    (hs : swapsWithSole [.Tuple [.Name x px, .Name y py, .Name z pz] kt pt] (.Tuple [a0, .List es lpos, .List [] cp] k2 pt2) pos.line X.env = pure false := by rfl) :
    SSs X (.Assign [.Tuple [.Name x px, .Name y py, .Name z pz] kt pt] (.Tuple [a0, .List es lpos, .List [] cp] k2 pt2) pos :: rest) (mNewP i j l k me n) :=
  ⟨fun B => PSs.imp (pss_cons (ps_par3 hc hN hi hj hl hij hil hjl hx hy hz (pa_cons (ha.pe B) (pa_cons he (pa_cons (pe_lst pa_nil) pa_nil h3) h2) h1) hw hs) (hr.ps B)) fun Dn σ H ⟨s, o, s', k0, e, q⟩ => by
    refine tI.bind k0 e fun d s1 v H1 e0 e1 k1 ev1 r1 => ?_
    obtain ⟨_, s2, e2, e3⟩ := bnd_some e1
    obtain ⟨_, s3, e4, e5⟩ := bnd_some e3
    obtain ⟨_, s4, e6, e7⟩ := bnd_some e5
    unfold clrAt at e2
    split at e2
    · rename_i hl1
      cases e2
      unfold oN at e4
      split at e4
      · rename_i hl2
        cases e4
        unfold gN at e6
        split at e6
        · rename_i hl3
          cases e6
          intro a bs H2 hlen nd new sm out inn
          obtain ⟨g, ev2⟩ := LotS.make k1 hl1 sm nd new out inn
          have : (bs.map fun _ => ([] : List D)) = List.replicate k [] := by rw [← hlen]; exact List.map_const' ..
          rw [this] at g
          refine ⟨Nat.zero_le _, fun c nc => ?_⟩
          obtain ⟨g2, ev3⟩ := g.ownNew hjl hl2 nc
          obtain ⟨g3, ev4⟩ := g2.name (d := d) (v := v) (Ne.symm hij) hl3 (r1.ev (Ev.trans ev2 ev3))
          refine ⟨v, .ref a, .ref c, rfl, ?_⟩
          have es : ((σ.set i (some v)).set j (some (.ref a))).set l (some (.ref c)) = ((σ.set j (some (.ref a))).set l (some (.ref c))).set i (some v) := by
            rw [← List.set_comm (some v) (some (.ref c)) hil, ← List.set_comm (some v) (some (.ref a)) hij]
          show tSL B j n Dn (((σ.set i (some v)).set j (some (.ref a))).set l (some (.ref c))) (upd H2 c (.lst []))
          rw [es]
          exact ⟨_, _, a, bs, o, s', g3, e7, q.ev (Ev.trans ev1 (Ev.trans ev2 (Ev.trans ev3 ev4)))⟩
        · cases e6
      · cases e4
    · cases e2⟩

/-- the loop that fills them -/
theorem ssl_for {it : Expr} {apos cpos ipos epos : Pos} {mi : M (List D)} {mz mx : M D} {n : M Out} {fx : Expr} (hij : i ≠ j) (hp : PassesOwn (model X.prog X.w) X.A X.env X.xe) (hc : X.calm = true) (hN : X.N.Nodup) (hj : X.N[j]? = some y) (hy : Loc X.env.scope y) (hI : SI X (.Name y p) it mi)
    (hi : PE X (.Name x px) (tVar i)) (hz : SE X ix mz) (hx : SE X fx mx) (hr : SSs X rest n) (hpl0 : PlainIx ix := by exact fun _ _ => rfl)
    (hbase : attributeBase (.Subscript (.Name x px) ix ipos) "append" X.env (eval (.Subscript (.Name x px) ix ipos) X.env) = eval (.Subscript (.Name x px) ix ipos) X.env := by rfl)
    (hfew : ((backTo cpos (starEach [fx] X.env)).all (fun x => !x.1) && (backToKw cpos (keywordEach [] X.env)).all (fun x => x.1.isSome)
      && decide ([fx].length + ([] : List Keyword).length + (if ([] : List Keyword).isEmpty then 0 else 1) < 30)) = true := by rfl)
    (hline : (apos.endLine == cpos.line) = true := by rfl) (hs : starEach [fx] X.env = (false, eval fx X.env) :: starEach [] X.env := by rfl) (hpl : (backTo cpos (starEach [] X.env)).any (·.1) = false := by rfl)
    (hf : X.fn y = true ∨ X.env.scope.names.lookup y = some .local := by first | exact .inl rfl | exact .inr rfl | assumption)
    (hsw : swapsWith (.Call (.Attribute (.Subscript (.Name x px) ix ipos) "append" apos) [fx] [] cpos) none epos.line X.env = pure false := by rfl)
    (hfs : ∀ x, foldedSetIterable it X.env x = pure x := by intro _; rfl) :
    SSsL X i (.For (.Name y p) it [.Expr (.Call (.Attribute (.Subscript (.Name x px) ix ipos) "append" apos) [fx] [] cpos) epos] [] pos :: rest) (mFillL i j mi mz mx n) := by
  refine ⟨fun B => PSs.imp (pss_cons (ps_for hp hc (SI.px hI) (pg_name hN hj hy hf) (pss_one (ps_expr (pe_bm PySem.F.plainAttrs_list PySem.F.slot_list_append PySem.F.type_list_append mt_append (pe_ix ix_list hi hz.px hpl0) (pa_cons hx.px pa_nil hs) hbase hfew hline hs hpl) hsw)) hfs) (hr.ps B)) fun Dn σ H ⟨s, ls, a, bs, o, s', h, e, q⟩ => ?_⟩
  obtain ⟨ds, s1, e1, e2⟩ := bnd_some e
  obtain ⟨_, s1', e3, e4⟩ := bnd_some e2
  obtain ⟨rfl, hn⟩ := none_at e3
  obtain ⟨ls2, s3, e5, e6⟩ := bnd_some e4
  obtain ⟨_, s4, e7, e8⟩ := bnd_some e6
  refine ⟨B.pinL (a :: bs) H, s, ds, _, h.k, e1, fun J H1 k1 ev1 wk => ?_⟩
  have hh := h.after k1 ev1 hn
  refine ⟨fun idx mm σi Hi => mm = ds.length - idx ∧ idx ≤ ds.length ∧ ∃ si lsi, LotS B i σi Hi si lsi a bs ∧ Ev (LW B (a :: bs) s1'.env σ) H1 (LW B (a :: bs) si.env σi) Hi ∧ fillM i j mz mx (ds.drop idx) lsi si = some (ls2, s3),
    ⟨ds.length, by simp, Nat.zero_le _, s1', ls, hh, Ev.refl, e5⟩, ?_⟩
  rintro idx mm σi Hi ⟨rfl, hidx, si, lsi, gi, evi, eR⟩
  obtain ⟨w1, w2, w3⟩ := wk _ _ evi gi.k.wt
  by_cases hlt : idx < ds.length
  · refine .inr ⟨w1 idx hlt, _, fun σ' H' hN => ⟨ds.length - (idx + 1), by omega, hN⟩, fun xv H' y => ?_⟩
    obtain ⟨sm, rx⟩ := w3 idx _ xv H' (List.getElem?_eq_getElem hlt) y
    rw [List.drop_eq_getElem_cons hlt] at eR
    obtain ⟨_, t1, f1, eR1⟩ := bnd_some eR
    obtain ⟨z, t2, f2, eR2⟩ := bnd_some eR1
    obtain ⟨_, t3, f3, eR3⟩ := bnd_some eR2
    obtain ⟨rfl, hn2⟩ := none_at f3
    obtain ⟨⟨m, l⟩, t4, f4, eR4⟩ := bnd_some eR3
    obtain ⟨f4b, ht4⟩ := lift_some f4
    subst ht4
    obtain ⟨v, t5, f5, eR5⟩ := bnd_some eR4
    obtain ⟨_, t6, f6, eR6⟩ := bnd_some eR5
    obtain ⟨rfl, hn3⟩ := none_at f6
    obtain ⟨_, t7, f7, eR7⟩ := bnd_some eR6
    split at f7
    · rename_i hsz
      obtain ⟨_, rfl⟩ := ret_some f7
      have gs : LotS B i σi H' si lsi a bs := gi.after (gi.k.same sm) (Ev.same sm) gi.none_
      unfold gN at f1
      split at f1
      · rename_i hjl
        cases f1
        obtain ⟨g1, ev2⟩ := gs.name hij hjl rx
        show ∃ v, (σi.set j (some xv))[i]? = some (some v) ∧ _
        refine ⟨_, g1.slot, ?_⟩
        refine ⟨B.pinL (a :: bs) H', _, z, _, g1.k, f2, fun u H2 k2 ev3 r2 => ?_⟩
        have g2 := g1.after k2 ev3 hn2
        unfold lotAt at f4b
        split at f4b
        · rename_i zi
          obtain ⟨m', hm, hl'⟩ := Option.bind_eq_some_iff.mp f4b
          obtain ⟨l', hl', e9⟩ := Option.map_eq_some_iff.mp hl'
          cases e9
          obtain ⟨b, vs, hb, hHb, rl⟩ := g2.at_.get hl'
          have hat : atI (bs.map V.ref) zi = some (.ref b) := by
            unfold atI
            rw [List.length_map, ← g2.at_.length, hm]
            show (bs.map V.ref)[m]? = _
            rw [List.getElem?_map, hb]; rfl
          refine ⟨a, bs.map V.ref, zi, .ref b, rfl, rp_int r2, SqL.of g2.out, hat, .inl ⟨rfl, vs, SqL.of hHb⟩, ?_⟩
          refine ⟨B.pinL (a :: bs) H2, _, v, _, g2.k, f5, fun uv H3 k3 ev4 r3 => ?_⟩
          have g3 := g2.after k3 ev4 hn3
          obtain ⟨b', vs', hb', hHb', rl'⟩ := g3.at_.get hl'
          rw [hb] at hb'; cases hb'
          obtain ⟨g4, ev5⟩ := g3.grow hb hHb' rl' r3
          exact ⟨b, vs', uv, rfl, rfl, hHb', by rw [← rl'.length]; exact hsz, rfl, hlt, _, _, g4, Ev.trans evi (Ev.trans (Ev.same sm) (Ev.trans ev2 (Ev.trans ev3 (Ev.trans ev4 ev5)))), eR7⟩
        · cases f4b
      · cases f1
    · cases f7
  · have hn' : idx = ds.length := by omega
    subst hn'
    rw [List.drop_length] at eR
    obtain ⟨rfl, rfl⟩ := ret_some eR
    unfold gN at e7
    split at e7
    · cases e7
      obtain ⟨k5, ev5⟩ := gi.done
      exact .inl ⟨w2, _, o, s', k5, e8, q.ev (Ev.trans ev1 (Ev.trans evi ev5))⟩
    · cases e7
theorem pe_empty {p : Pos} : PE X (.List [] p) (tLst tNil) := pe_lst pa_nil
theorem pe_lots2 {p1 p2 lpos : Pos} (h1 : starEach [.List [] p1, .List [] p2] X.env = (false, eval (.List [] p1) X.env) :: starEach [.List [] p2] X.env := by rfl) (h2 : starEach [.List [] p2] X.env = (false, eval (.List [] p2) X.env) :: starEach [] X.env := by rfl) :
    PE X (.List [.List [] p1, .List [] p2] lpos) fun σ H Q => ∀ a bs H', bs.length = 2 → (a :: bs).Nodup → (∀ b ∈ a :: bs, H b = none) → Same H H' → H' a = some (.lst (bs.map V.ref)) → (∀ b ∈ bs, H' b = some (.lst [])) → Q (.ref a) H' :=
  PE.imp (pe_lst (pa_cons pe_empty (pa_cons pe_empty pa_nil h2) h1)) fun σ H Q h => by
    refine ⟨Nat.zero_le _, fun b1 n1 => ⟨Nat.zero_le _, fun b2 n2 => ⟨by show 2 ≤ sizeLine; decide, fun a n3 => ?_⟩⟩⟩
    have h21 : b2 ≠ b1 := fun z => by rw [z, upd_same] at n2; cases n2
    have h31 : a ≠ b1 := fun z => by rw [z, upd_ne (Ne.symm h21), upd_same] at n3; cases n3
    have h32 : a ≠ b2 := fun z => by rw [z, upd_same] at n3; cases n3
    rw [upd_ne h21] at n2
    rw [upd_ne h32, upd_ne h31] at n3
    refine h a [b1, b2] _ rfl (by simp [h31, h32, Ne.symm h21]) (fun b hb => ?_) (fun b o hb => ?_) upd_same fun b hb => ?_
    · simp at hb
      rcases hb with rfl | rfl | rfl
      · exact n3
      · exact n1
      · exact n2
    · have q1 : b ≠ b1 := ne_of_none hb n1
      have q2 : b ≠ b2 := ne_of_none hb n2
      have q3 : b ≠ a := ne_of_none hb n3
      rw [upd_ne q3, upd_ne q2, upd_ne q1]; exact hb
    · simp at hb
      rcases hb with rfl | rfl
      · rw [upd_ne (Ne.symm h31), upd_ne (Ne.symm h21), upd_same]
      · rw [upd_ne (Ne.symm h32), upd_same]
theorem pe_lots3 {p1 p2 p3 lpos : Pos} (h0 : starEach [.List [] p1, .List [] p2, .List [] p3] X.env = (false, eval (.List [] p1) X.env) :: starEach [.List [] p2, .List [] p3] X.env := by rfl) (h1 : starEach [.List [] p2, .List [] p3] X.env = (false, eval (.List [] p2) X.env) :: starEach [.List [] p3] X.env := by rfl) (h2 : starEach [.List [] p3] X.env = (false, eval (.List [] p3) X.env) :: starEach [] X.env := by rfl) :
    PE X (.List [.List [] p1, .List [] p2, .List [] p3] lpos) fun σ H Q => ∀ a bs H', bs.length = 3 → (a :: bs).Nodup → (∀ b ∈ a :: bs, H b = none) → Same H H' → H' a = some (.lst (bs.map V.ref)) → (∀ b ∈ bs, H' b = some (.lst [])) → Q (.ref a) H' :=
  PE.imp (pe_lst (pa_cons pe_empty (pa_cons pe_empty (pa_cons pe_empty pa_nil h2) h1) h0)) fun σ H Q h => by
    refine ⟨Nat.zero_le _, fun b1 n1 => ⟨Nat.zero_le _, fun b2 n2 => ⟨Nat.zero_le _, fun b3 n3 => ⟨by show 3 ≤ sizeLine; decide, fun a n4 => ?_⟩⟩⟩⟩
    have h21 : b2 ≠ b1 := fun z => by rw [z, upd_same] at n2; cases n2
    have h31 : b3 ≠ b1 := fun z => by rw [z, upd_ne (Ne.symm h21), upd_same] at n3; cases n3
    have h32 : b3 ≠ b2 := fun z => by rw [z, upd_same] at n3; cases n3
    have h43 : a ≠ b3 := fun z => by rw [z, upd_same] at n4; cases n4
    have h42 : a ≠ b2 := fun z => by rw [z, upd_ne (Ne.symm h32), upd_same] at n4; cases n4
    have h41 : a ≠ b1 := fun z => by rw [z, upd_ne (Ne.symm h31), upd_ne (Ne.symm h21), upd_same] at n4; cases n4
    rw [upd_ne h21] at n2
    rw [upd_ne h32, upd_ne h31] at n3
    rw [upd_ne h43, upd_ne h42, upd_ne h41] at n4
    refine h a [b1, b2, b3] _ rfl (by simp [h41, h42, h43, Ne.symm h21, Ne.symm h31, Ne.symm h32]) (fun b hb => ?_) (fun b o hb => ?_) upd_same fun b hb => ?_
    · simp at hb
      rcases hb with rfl | rfl | rfl | rfl
      · exact n4
      · exact n1
      · exact n2
      · exact n3
    · have q1 : b ≠ b1 := ne_of_none hb n1
      have q2 : b ≠ b2 := ne_of_none hb n2
      have q3 : b ≠ b3 := ne_of_none hb n3
      have q4 : b ≠ a := ne_of_none hb n4
      rw [upd_ne q4, upd_ne q3, upd_ne q2, upd_ne q1]; exact hb
    · simp at hb
      rcases hb with rfl | rfl | rfl
      · rw [upd_ne (Ne.symm h41), upd_ne (Ne.symm h31), upd_ne (Ne.symm h21), upd_same]
      · rw [upd_ne (Ne.symm h42), upd_ne (Ne.symm h32), upd_same]
      · rw [upd_ne (Ne.symm h43), upd_same]
end
end GH

namespace GH
open PySem PySem.Spec PyProof.Rows L2
section
variable {α : Type} {s : S} {c : Src} {env : List (Option Sl)}
def NoneAt (env : List (Option Sl)) (i : Nat) (P : Prop) (_ : Ph P := .mk) : Prop := env[i]? = some none ∧ P
theorem noneAt_z {r : List (Option Sl)} {P : Prop} : NoneAt (none :: r) 0 P ↔ P := by simp [NoneAt]
theorem noneAt_s {x : Option Sl} {r : List (Option Sl)} {i : Nat} {P : Prop} : NoneAt (x :: r) (i + 1) P ↔ NoneAt r i P := by simp [NoneAt]
theorem wp_noneAt {i : Nat} {Q : Unit → S → Prop} : Wp (noneAt i) ⟨env, c⟩ Q ↔ NoneAt env i (Q () ⟨env, c⟩) := by
  constructor
  · rintro ⟨a, s', e, q⟩
    obtain ⟨rfl, h⟩ := none_at e
    exact ⟨h, q⟩
  · rintro ⟨h, q⟩
    exact ⟨(), _, by unfold noneAt; rw [h], q⟩
theorem wp_clrAt {i : Nat} {Q : Unit → S → Prop} : Wp (clrAt i) s Q ↔ SetAt s.env i none fun e => Q () ⟨e, s.src⟩ := by
  unfold SetAt
  by_cases h : i < s.env.length
  · rw [wp_eq (show clrAt i s = some ((), ⟨s.env.set i none, s.src⟩) by unfold clrAt; rw [if_pos h])]; simp [h]
  · constructor
    · rintro ⟨_, _, e, _⟩; unfold clrAt at e; rw [if_neg h] at e; cases e
    · rintro ⟨z, _⟩; exact absurd z h
theorem wp_oN {i : Nat} {ds : List D} {Q : Unit → S → Prop} : Wp (oN i ds) s Q ↔ SetAt s.env i (some (.own ds)) fun e => Q () ⟨e, s.src⟩ := by
  unfold SetAt
  by_cases h : i < s.env.length
  · rw [wp_eq (show oN i ds s = some ((), ⟨s.env.set i (some (.own ds)), s.src⟩) by unfold oN; rw [if_pos h])]; simp [h]
  · constructor
    · rintro ⟨_, _, e, _⟩; unfold oN at e; rw [if_neg h] at e; cases e
    · rintro ⟨z, _⟩; exact absurd z h
theorem wp_newL {i k : Nat} {n : ML} {Q : Out → S → Prop} : Wp (mNewL i k n) s Q ↔ SetAt s.env i none fun e => Wp (n (List.replicate k [])) ⟨e, s.src⟩ Q := wp_bnd.trans wp_clrAt
theorem wp_newP {i j l k : Nat} {me : M D} {n : ML} {Q : Out → S → Prop} : Wp (mNewP i j l k me n) s Q ↔ Wp me s fun d s1 => SetAt s1.env j none fun e => SetAt e l (some (.own [])) fun e2 => SetAt e2 i (some (.val d)) fun e3 => Wp (n (List.replicate k [])) ⟨e3, s1.src⟩ Q :=
  wp_bnd.trans (wp_cg fun _ _ => wp_bnd.trans (wp_clrAt.trans (setAt_cg fun _ => wp_bnd.trans (wp_oN.trans (setAt_cg fun _ => wp_bnd.trans wp_gN)))))
theorem wp_setL {i j : Nat} {me : M D} {n : ML} {ls : List (List D)} {Q : Out → S → Prop} : Wp (mSetL i j me n ls) s Q ↔ Wp me s fun d s1 => Wp (noneAt i) s1 fun _ s2 => SetAt s2.env j (some (.val d)) fun e => Wp (n ls) ⟨e, s2.src⟩ Q :=
  wp_bnd.trans (wp_cg fun _ _ => wp_bnd.trans (wp_cg fun _ _ => wp_bnd.trans wp_gN))
theorem wp_fillL {i j : Nat} {it : M (List D)} {ix x : M D} {n : M Out} {ls : List (List D)} {Q : Out → S → Prop} : Wp (mFillL i j it ix x n ls) s Q ↔ Wp it s fun ds s1 => Wp (noneAt i) s1 fun _ s2 => Wp (fillM i j ix x ds ls) s2 fun ls2 s3 => SetAt s3.env i (some (.val (.lst (ls2.map D.lst)))) fun e => Wp n ⟨e, s3.src⟩ Q :=
  wp_bnd.trans (wp_cg fun _ _ => wp_bnd.trans (wp_cg fun _ _ => wp_bnd.trans (wp_cg fun _ _ => wp_bnd.trans wp_gN)))
theorem wp_fill {enc : α → D} {xs : List α} {i j : Nat} {ix x : M D} {ls : List (List D)} {Q : List (List D) → S → Prop} (I : List α → List (List D) → S → Prop) (h0 : I [] ls s)
    (hs : ∀ done y rest ls s, xs = done ++ y :: rest → I done ls s → Wp (gN j (enc y)) s fun _ s1 => Wp ix s1 fun z s2 => Wp (noneAt i) s2 fun _ s3 => Sm (lotAt z ls) fun p => Wp x s3 fun v s4 => Wp (noneAt i) s4 fun _ s5 => p.2.length < 16777216 ∧ I (done ++ [y]) (ls.set p.1 (p.2 ++ [v])) s5)
    (hd : ∀ ls s, I xs ls s → Q ls s) : Wp (fillM i j ix x (xs.map enc) ls) s Q := by
  have main : ∀ rest done ls s, xs = done ++ rest → I done ls s → Wp (fillM i j ix x (rest.map enc) ls) s Q := fun rest => by
    induction rest with
    | nil => intro done ls s e h; rw [List.append_nil] at e; subst e; exact wp_ret.mpr (hd ls s h)
    | cons y r ih =>
      intro done ls s e h
      rw [List.map_cons]
      refine wp_bnd.mpr ((hs done y r ls s e h).mono fun _ s1 h1 => wp_bnd.mpr (h1.mono fun z s2 h2 => wp_bnd.mpr (h2.mono fun _ s3 h3 => wp_bnd.mpr (wp_lift.mpr ?_))))
      obtain ⟨p, hp, h4⟩ := h3
      refine ⟨p, hp, wp_bnd.mpr (h4.mono fun v s4 h5 => wp_bnd.mpr (h5.mono fun _ s5 h6 => wp_bnd.mpr ?_))⟩
      rw [if_pos (by rw [sizeLine_eq]; exact h6.1)]
      exact wp_ret.mpr (ih (done ++ [y]) _ s5 (by rw [e]; simp) h6.2)
  exact main xs [] ls s rfl h0
theorem sm_lotAt {j : Int} {ls : List (List D)} {P : Nat × List D → Prop} (h : 0 ≤ j) (h2 : j < ls.length) : Sm (lotAt (.int j) ls) P ↔ P (j.toNat, ls.getD j.toNat []) := by
  refine sm_eq ?_
  show ((ixN ls.length j).bind fun n => ls[n]?.map fun l => (n, l)) = _
  have : ixN ls.length j = some j.toNat := by unfold ixN; rw [if_pos h, if_pos h2]
  rw [this]
  show (ls[j.toNat]?.map fun l => (j.toNat, l)) = _
  rw [List.getD_eq_getElem?_getD, List.getElem?_eq_getElem (by omega)]; rfl
theorem wp_lSl {m : M D} {lo hi : M (Option Int)} {Q : List D → S → Prop} : Wp (lSl m lo hi) s Q ↔ Wp m s fun d s1 => Wp lo s1 fun l s2 => Wp hi s2 fun h s3 => Sm (lstD d) fun ds => Q (cutL ds l h) s3 :=
  wp_bnd.trans (wp_cg fun _ _ => wp_bnd.trans (wp_cg fun _ _ => wp_bnd.trans (wp_cg fun _ _ => wp_lift.trans sm_map)))
theorem sm_lstD {ds : List D} {P : List D → Prop} : Sm (lstD (.lst ds)) P ↔ P ds := sm_some
end
end GH

namespace GH
open PySem PySem.Spec PyProof.Rows L2
/-- all signs are signs -/
def sgn (x : Str) : Prop := ∀ c ∈ x.cps.toList, c < 0x110000
theorem sgn_ok {x : Str} (h : sgn x) : PyData.strOk x = true := by
  unfold PyData.strOk
  refine Array.all_eq_true_iff_forall_mem.mpr fun c hc => ?_
  simpa using h c (Array.mem_toList_iff.mpr hc)
theorem sgn_of {s : String} : sgn (Str.ofString s) := by
  intro c hc
  rw [signs_ofString] at hc
  obtain ⟨z, _, rfl⟩ := List.mem_map.mp hc
  have h : z.val.toNat < 0xd800 ∨ (0xdfff < z.val.toNat ∧ z.val.toNat < 0x110000) := z.valid
  show z.val.toNat < _
  omega
theorem sgn_app {a b : Str} (h : sgn a) (h2 : sgn b) : sgn (a ++ b) := by
  intro c hc
  rcases mem_cps_append.mp hc with z | z
  · exact h c z
  · exact h2 c z
theorem sgn_join {sep : Str} (hs : sgn sep) {ts : List Str} (h : ∀ t ∈ ts, sgn t) : sgn (Str.join sep ts) := by
  intro c hc
  rcases (mem_join sep c ts).mp hc with ⟨t, ht, z⟩ | ⟨_, z⟩
  · exact h t ht c z
  · exact hs c z
theorem sgn_from : ∀ (ts : List Str) (k : Nat) (acc : Str), sgn acc → (∀ t ∈ ts, sgn t) → sgn (textFrom k acc ts)
  | [], _, _, h, _ => h
  | t :: r, k, acc, h, h2 => by
    unfold textFrom
    refine sgn_from r (k + 1) _ (sgn_app (sgn_app h ?_) (h2 t List.mem_cons_self)) fun t ht => h2 t (List.mem_cons_of_mem _ ht)
    split <;> exact sgn_of
theorem sgn_list {ts : List Str} (h : ∀ t ∈ ts, sgn t) : sgn (listText ts) := sgn_app (sgn_from ts 0 _ sgn_of h) sgn_of
theorem sgn_tuple {ts : List Str} (h : ∀ t ∈ ts, sgn t) : sgn (tupleText ts) := by
  unfold tupleText
  refine sgn_app (sgn_app sgn_of (sgn_join sgn_of h)) ?_
  split <;> exact sgn_of
/-- data that repr shows -/
structure Shw (n w : Nat) (d : D) : Prop where
  lay : d.py.canLay0 = true
  shw : d.py.showable = true
  dep : d.py.depth ≤ n
  wei : d.py.weight ≤ w
  shrt : d.py.intsShort 13 = true
  txt : sgn d.py.shown
theorem shw_non {n w : Nat} : Shw n w .non := ⟨rfl, rfl, by simp [D.py, PyData.depth], by simp [D.py, PyData.weight], rfl, sgn_of⟩
theorem shw_bl {n w : Nat} (b : Bool) : Shw n w (.bl b) := ⟨rfl, rfl, by simp [D.py, PyData.depth], by simp [D.py, PyData.weight], rfl, by
  cases b <;> exact sgn_of⟩
theorem shw_int {n : Nat} {i : Int} (h : i.natAbs < 1000000000000) : Shw n 40 (.int i) := by
  have hl : i.natAbs.log2 < 40 := by
    by_cases z : i.natAbs = 0
    · rw [z]; decide
    · exact (Nat.log2_lt z).mpr (by omega)
  refine ⟨rfl, ?_, by simp [D.py, PyData.depth], ?_, ?_, sgn_of⟩
  · simp only [D.py, PyData.showable, decide_eq_true_eq]; omega
  · simp only [D.py, PyData.weight]; split <;> omega
  · simp only [D.py, PyData.intsShort, decide_eq_true_eq]
    exact PyData.shown_int_le (by omega)
theorem Shw.up {n w n' w' : Nat} {d : D} (h : Shw n w d) (h1 : n ≤ n') (h2 : w ≤ w') : Shw n' w' d := ⟨h.lay, h.shw, by have := h.dep; omega, by have := h.wei; omega, h.shrt, h.txt⟩
theorem shwAll {n w : Nat} : ∀ {ds : List D}, (∀ d ∈ ds, Shw n w d) → PyData.canLayAll0 (D.pys ds) = true ∧ PyData.showableAll (D.pys ds) = true ∧ PyData.depthAll (D.pys ds) ≤ n ∧ PyData.weightAll (D.pys ds) ≤ ds.length * (w + 1) ∧ PyData.intsShortAll 13 (D.pys ds) = true ∧ ∀ t ∈ PyData.shownAll (D.pys ds), sgn t
  | [], _ => by simp [D.pys, PyData.canLayAll0, PyData.showableAll, PyData.depthAll, PyData.weightAll, PyData.intsShortAll, PyData.shownAll]
  | d :: r, h => by
    have hd := h d List.mem_cons_self
    obtain ⟨h1, h2, h3, h4, h5, h6⟩ := shwAll (ds := r) fun x hx => h x (List.mem_cons_of_mem _ hx)
    simp only [D.pys, PyData.canLayAll0, PyData.showableAll, PyData.depthAll, PyData.weightAll, PyData.intsShortAll, PyData.shownAll, Bool.and_eq_true, List.length_cons]
    refine ⟨⟨hd.lay, h1⟩, ⟨hd.shw, h2⟩, Nat.max_le.mpr ⟨hd.dep, h3⟩, ?_, ⟨hd.shrt, h5⟩, fun t ht => ?_⟩
    · have := hd.wei
      rw [Nat.succ_mul]; omega
    · rcases List.mem_cons.mp ht with e | e
      · subst e; exact hd.txt
      · exact h6 t e
theorem shw_tup {n w m : Nat} {ds : List D} (h : ∀ d ∈ ds, Shw n w d) (hm : ds.length ≤ m) : Shw (n + 1) (m * (w + 1)) (.tup ds) := by
  obtain ⟨h1, h2, h3, h4, h5, h6⟩ := shwAll h
  refine ⟨by simpa only [D.py, PyData.canLay0] using h1, by simpa only [D.py, PyData.showable] using h2, by simp only [D.py, PyData.depth]; omega, ?_, by simpa only [D.py, PyData.intsShort] using h5, by simp only [D.py, PyData.shown]; exact sgn_tuple h6⟩
  simp only [D.py, PyData.weight]
  exact Nat.le_trans h4 (Nat.mul_le_mul_right _ hm)
theorem shw_lst {n w m : Nat} {ds : List D} (h : ∀ d ∈ ds, Shw n w d) (hm : ds.length ≤ m) : Shw (n + 1) (m * (w + 1)) (.lst ds) := by
  obtain ⟨h1, h2, h3, h4, h5, h6⟩ := shwAll h
  refine ⟨by simpa only [D.py, PyData.canLay0] using h1, by simpa only [D.py, PyData.showable] using h2, by simp only [D.py, PyData.depth]; omega, ?_, by simpa only [D.py, PyData.intsShort] using h5, by simp only [D.py, PyData.shown]; exact sgn_list h6⟩
  simp only [D.py, PyData.weight]
  exact Nat.le_trans h4 (Nat.mul_le_mul_right _ hm)
theorem Shw.ok {n w : Nat} {d : D} (h : Shw n w d) (hn : n ≤ 60) (hw : w ≤ 1048576) : okRepr d := by
  refine ⟨h.lay, h.shw, PyData.hasDict_of_canLay _ h.lay, by have := h.dep; omega, PyData.shown_fits_of_layable0 (B := 13) (by omega) (by omega) ?_ h.shrt⟩
  have := h.dep
  have := h.wei
  unfold PyData.layable0
  simp only [Bool.and_eq_true, decide_eq_true_eq]
  exact ⟨⟨h.lay, by omega⟩, by omega⟩
/-- what repr says -/
def sR (d : D) : D := .str d.py.shown
def isStr : D → Bool
  | .str _ => true
  | _ => false
theorem repr_shw {n w : Nat} {d : D} (h : Shw n w d) (hn : n ≤ 60) (hw : w ≤ 1048576) (hs : isStr d = false := by rfl) : reprG [d] = some (sR d) := by
  have hk := h.ok hn hw
  cases d with
  | non => rfl
  | bl b => rfl
  | int i =>
    have := h.shw
    simp only [D.py, PyData.showable, decide_eq_true_eq] at this
    show (if i.natAbs.log2 < 1920 then _ else _) = _
    rw [if_pos this]; rfl
  | str s => cases hs
  | tup ds => show (if okRepr _ then _ else _) = _; rw [if_pos hk]; rfl
  | lst ds => show (if okRepr _ then _ else _) = _; rw [if_pos hk]; rfl
  | rng a b => have := h.lay; simp [D.py, PyData.canLay0] at this
  | src => have := h.lay; simp [D.py, PyData.canLay0] at this
  | dct a b => have := h.lay; simp [D.py, PyData.canLay0] at this
  | dtt a b => have := h.lay; simp [D.py, PyData.canLay0] at this
theorem sm_repr {n w : Nat} {d : D} {P : D → Prop} (h : Shw n w d) (hn : n ≤ 60) (hw : w ≤ 1048576) (hs : isStr d = false := by rfl) : Sm (reprG [d]) P ↔ P (sR d) := sm_eq (repr_shw h hn hw hs)
theorem Shw.str {n w : Nat} {d : D} (h : Shw n w d) : (sR d).ok := str_ok (sgn_ok h.txt)
theorem sm_neR {n w : Nat} {d : D} {P : D → Prop} (h : Shw n w d) : Sm (neD (sR d) (sR d)) P ↔ P (.bl false) := sm_neS h.str
end GH

namespace GH
open PySem PySem.Spec PyProof.Rows L2

section
variable {X : Cx}
def rng1G : List D → Option D
  | [.int j] => some (.rng 0 j)
  | _ => none
theorem cr_range1 : CallR X (.type "range") (fun vs H Q => ∃ j, vs = [V.int j] ∧ ∀ p, H p = none → Q (.ref p) (upd H p (.rng 0 j))) := by
  intro pins s σ H vs us Q I r h
  obtain ⟨j, rfl, q⟩ := h
  obtain ⟨u, rfl, rj⟩ := r.one
  obtain ⟨t, rfl⟩ := rj
  refine call_range_1 ⟨.ref s.heap.objs.size, upd H s.heap.objs.size (.rng 0 j), I.laid (t' := s.toks + 2) (fun b o e => Heap.get?_push_of_some _ e) (Nat.le_refl _) ?_, rfl, q _ (I.hok.fresh (Nat.le_refl _))⟩
  exact ⟨_, _, _, Heap.get?_push_size _ rfl⟩
theorem c_rng1 : CallD X (.type "range") rng1G := callD_cases fun ds d p W he => by
  unfold rng1G at he
  split at he
  · rename_i j
    cases he
    refine CallR.imp cr_range1 fun vs H Q ⟨hw, hx, hq⟩ => ?_
    obtain ⟨v, rfl, r⟩ := rps1 hx
    refine ⟨j, by rw [rp_int r], fun l hl => hq _ _ (same_new hl) ?_⟩
    exact ⟨l, rfl, hw.new hl, upd_same⟩
  · cases he
/-- a walk over a range that lies there -/
def iRgV (m : M D) : M (List D) := bnd m fun d => match d with
  | .rng lo hi => if okR lo ∧ okR hi then ret (rngL lo hi) else fail
  | _ => fail
theorem i_rgV {tg e : Expr} {m : M D} (h : SE X e m) : SI X tg e (iRgV m) := ⟨fun B => ⟨fun pins s0 σ H R I ⟨s, ds, s', k, ee, q⟩ => by
  refine thn ((h.pe B).run pins s0 σ H (fun v H1 => ∃ d s1 lo hi, StOk B σ H1 s1 ∧ Ev (B.W s.env σ) H (B.W s1.env σ) H1 ∧ Rp B.p (B.W s1.env σ) H1 d v ∧ d = .rng lo hi ∧ okR lo ∧ okR hi ∧ ds = rngL lo hi ∧ s' = s1) I ?_) fun u s1 ⟨v, H1, I1, r1, q1⟩ => ?_
  · refine tI.bind k ee fun d s1 v H1 h1 e1 k1 ev1 r1 => ?_
    cases d <;> simp only [fail] at e1 <;> try (cases e1; done)
    split at e1
    · rename_i lo hi hj
      obtain ⟨rfl, rfl⟩ := ret_some e1
      exact ⟨_, _, lo, hi, k1, ev1, r1, rfl, hj.1, hj.2, rfl, rfl⟩
    · cases e1
  · obtain ⟨d, sx, lo, hi, k1, ev1, rv, rfl, ⟨a1, a2⟩, ⟨b1, b2⟩, rfl, rfl⟩ := q1
    obtain ⟨a, rfl, na, ha⟩ := rp_rng rv
    cases r1
    obtain ⟨t1, t2, t3, ho⟩ := I1.hok a _ ha
    refine wpAny_pyIter_range ho (small_one a1 a2 b1 b2) ?_
    refine ⟨s1.heap.objs.size, [s1.heap.objs.size], _, _, H1, rfl, I1.kept (t' := s1.toks) fun b o e => Heap.get?_push_of_some _ e, turn_range _ lo (hi - lo).toNat, ?_, fun b hb => ?_, q _ H1 k1 ev1 walk_rng⟩
    · have e1 : lo + ((0 : Nat) : Int) * 1 = lo := by simp
      have e2 : (((hi - lo).toNat : Nat) : Int) - ((0 : Nat) : Int) = Builtin.Range.rangeSize lo hi 1 := by rw [rangeSize_one]; split <;> omega
      show IsRangeIter _ _ (lo + ((0 : Nat) : Int) * 1) ((((hi - lo).toNat : Nat) : Int) - ((0 : Nat) : Int)) 1
      rw [e1, e2]
      exact Heap.get?_push_size _ rfl
    · have e : b = s1.heap.objs.size := by simpa using hb
      subst e
      exact I1.fpOk (Nat.le_refl _) (I1.hok.fresh (Nat.le_refl _))⟩⟩
def extL (d : D) (ds : List D) : Option (List D) := match d with
  | .lst es => if ds.length + es.length ≤ sizeLine then some (ds ++ es) else none
  | _ => none
def eExt (i : Nat) (m : M D) : M D := bnd (ownHere i) fun _ => bnd m fun d => bnd (putL i (extL d)) fun _ => ret .non
theorem s_extend {i : Nat} {x : Str} {p apos cpos : Pos} {e : Expr} {m : M D} (hx : PE X (.Name x p) (tVar i)) (ha : SE X e m)
    (hbase : attributeBase (.Name x p) "extend" X.env (eval (.Name x p) X.env) = eval (.Name x p) X.env := by rfl)
    (hfew : ((backTo cpos (starEach [e] X.env)).all (fun x => !x.1) && (backToKw cpos (keywordEach [] X.env)).all (fun x => x.1.isSome)
      && decide ([e].length + ([] : List Keyword).length + (if ([] : List Keyword).isEmpty then 0 else 1) < 30)) = true := by rfl)
    (hline : (apos.endLine == cpos.line) = true := by rfl) (hs : starEach [e] X.env = (false, eval e X.env) :: starEach [] X.env := by rfl) (hpl : (backTo cpos (starEach [] X.env)).any (·.1) = false := by rfl) :
    SE X (.Call (.Attribute (.Name x p) "extend" apos) [e] [] cpos) (eExt i m) := ⟨fun B => by
  refine PE.imp (pe_bm PySem.F.plainAttrs_list PySem.F.slot_list_extend PySem.F.type_list_extend mt_extend hx (pa_cons (ha.pe B) pa_nil hs) hbase hfew hline hs hpl) fun σ H Q ⟨s, d, s', k, e, q⟩ => ?_
  obtain ⟨_, s0, e0, e9⟩ := bnd_some e
  obtain ⟨rfl, ds0, h0⟩ := own_here e0
  obtain ⟨a, vs, q1, q2, q3⟩ := k.ownL h0
  refine ⟨_, q1, .inl ⟨rfl, vs, SqL.of q2⟩, ?_⟩
  refine tI.bind k e9 fun dy s1 u H1 h1 e1 k1 ev1 r1 => ?_
  obtain ⟨_, s2, e2, e3⟩ := bnd_some e1
  obtain ⟨ds, ds', hsl, hf, rfl⟩ := put_L e2
  obtain ⟨rfl, rfl⟩ := ret_some e3
  unfold extL at hf
  split at hf
  · rename_i es
    split at hf
    · rename_i hz
      cases hf
      obtain ⟨a', us, p1, p2, p3⟩ := k1.ownL hsl
      rw [q1] at p1; cases p1
      obtain ⟨b, ws, rfl, nb, hb, rb⟩ := rp_lst r1
      obtain ⟨k2, ev2⟩ := k1.wr (sl' := .own (ds ++ es)) (o := .lst (us ++ ws)) hsl rfl rfl q1 ⟨_, rfl, p3.append rb⟩
      refine ⟨a, b, us, ws, rfl, rfl, p2, hb, by rw [← p3.length, ← rb.length]; exact hz, q _ _ k2 (ev1.trans ev2) .mkNon⟩
    · cases hf
  · cases hf⟩
def dPrs : List D → Option (List (Key × D))
  | [] => some []
  | .tup [k, v] :: r => (dKey k).bind fun x => (dPrs r).map ((x, v) :: ·)
  | _ => none
def dctG : List D → Option D
  | [.lst ds] => (dPrs ds).map fun l => .dct (mergeD l [] []).1 (mergeD l [] []).2
  | _ => none
theorem dPrs_rp {p : Addr} {W : AP} {H : Hp} : ∀ {ds : List D} {l : List (Key × D)} {vs : List V}, dPrs ds = some l → Rps p W H ds vs → ∃ (ps : List Addr) (kvs : List (Key × V)), vs = ps.map V.ref ∧ (∀ K, Paired (fun p kv => SqT K H p [kV kv.1, kv.2]) ps kvs) ∧ PairsR p W H l kvs
  | [], l, vs, h, r => by
    cases h
    simp only [Rps] at r
    exact ⟨[], [], r, fun _ => .nil, rfl⟩
  | d :: ds, l, vs, h, r => by
    unfold dPrs at h
    split at h
    · rename_i e; cases e
    · rename_i k v t e
      cases e
      obtain ⟨x, hx, h2⟩ := Option.bind_eq_some_iff.mp h
      obtain ⟨l', hl', rfl⟩ := Option.map_eq_some_iff.mp h2
      simp only [Rps] at r
      obtain ⟨u, us, rfl, r1, r2⟩ := r
      obtain ⟨a, ws, rfl, na, ha, rs⟩ := rp_tup r1
      simp only [Rps] at rs
      obtain ⟨u1, t1, rfl, q1, u2, t2, rfl, q2, rfl⟩ := rs
      obtain ⟨ps, kvs, rfl, e2, e3⟩ := dPrs_rp hl' r2
      rw [dKey_rp hx q1] at ha
      exact ⟨a :: ps, (x, u2) :: kvs, rfl, fun K => .cons (SqT.of ha) (e2 K), u2, kvs, rfl, q2, e3⟩
    · cases h
theorem c_dct (hc : X.calm = true) : CallD X (.type "dict") dctG := callD_cases fun ds d p W he => by
  unfold dctG at he
  split at he
  · rename_i es
    obtain ⟨l, hl, rfl⟩ := Option.map_eq_some_iff.mp he
    refine CallR.imp (call_dictP hc) fun vs H Q ⟨hw, hx, hq⟩ => ?_
    obtain ⟨v, rfl, r⟩ := rps1 hx
    obtain ⟨a, us, rfl, na, ha, rs⟩ := rp_lst r
    obtain ⟨ps, kvs, rfl, e2, e3⟩ := dPrs_rp hl rs
    refine ⟨a, ps, kvs, rfl, SqL.of ha, e2 _, fun b hb => hq _ _ (same_new hb) ?_⟩
    have m := merge_R (kvs := []) (ds := []) e3 .nil
    exact ⟨b, _, rfl, hw.new hb, .inl upd_same, m.1, Rps.ev (Ev.same (same_new hb)) _ _ m.2⟩
  · cases he
def keyI : List Key → Option (List Int)
  | [] => some []
  | .inl i :: r => (keyI r).map (i :: ·)
  | _ => none
theorem keyI_some : ∀ {ks : List Key} {l : List Int}, keyI ks = some l → ks = l.map Sum.inl
  | [], _, h => by cases h; rfl
  | .inl i :: r, _, h => by
    obtain ⟨l', h1, rfl⟩ := Option.map_eq_some_iff.mp h
    rw [keyI_some h1]; rfl
  | .inr _ :: _, _, h => by cases h
def srtDG : List D → Option (List D)
  | [.dct ks _] => (keyI ks).bind fun l => if l.length < 64 then some ((isort l).map D.int) else none
  | _ => none
theorem int_rps {p : Addr} {W : AP} {H : Hp} : ∀ {l : List Int}, Rps p W H (l.map D.int) (l.map V.int)
  | [] => .nil
  | _ :: _ => .cons (.mkInt _) int_rps
theorem c_srtD (hc : X.calm = true) : CallL X (.builtin "sorted") srtDG := by
  intro pins s σ H xs us Q I r ⟨p, W, ds, es, hw, hx, he, hq⟩
  unfold srtDG at he
  split at he
  · rename_i ks vs
    obtain ⟨l, hl, h2⟩ := Option.bind_eq_some_iff.mp he
    split at h2
    · rename_i h64
      cases h2
      obtain ⟨v, rfl, r'⟩ := rps1 hx
      simp only [Rp] at r'
      obtain ⟨a, kvs, rfl, na, ha, hk, rs⟩ := r'
      refine call_sortedDI hc pins s σ H _ us Q I r ⟨a, kvs, l, rfl, ha, by rw [hk, keyI_some hl], h64, fun ys b hp hs hb => ?_⟩
      rw [isort_eq hp hs] at hq
      exact hq b _ _ (same_new hb) hb upd_same int_rps
    · cases h2
  · cases he
end
section
variable {m : M D} {env : List (Option Sl)} {c : Src}
def IsR (d : D) (P : Int → Int → Prop) : Prop := ∃ a b, d = .rng a b ∧ P a b
theorem isR_rng {a b : Int} {P : Int → Int → Prop} : IsR (.rng a b) P ↔ P a b := ⟨fun ⟨_, _, e, p⟩ => by cases e; exact p, fun p => ⟨a, b, rfl, p⟩⟩
theorem wp_rgV {s : S} {Q : List D → S → Prop} : Wp (iRgV m) s Q ↔ Wp m s fun d s1 => IsR d fun lo hi => okR lo ∧ okR hi ∧ Q ((List.range (hi - lo).toNat).map fun k => D.int (lo + ((k : Nat) : Int))) s1 := by
  have go : ∀ (d : D) s1, Wp (match d with | .rng lo hi => if okR lo ∧ okR hi then ret (rngL lo hi) else fail | _ => (fail : M (List D))) s1 Q ↔ IsR d fun lo hi => okR lo ∧ okR hi ∧ Q ((List.range (hi - lo).toNat).map fun k => D.int (lo + ((k : Nat) : Int))) s1 := by
    intro d s1
    cases d with
    | rng lo hi =>
      rw [isR_rng]
      show Wp (if okR lo ∧ okR hi then ret (rngL lo hi) else fail) s1 Q ↔ _
      by_cases h : okR lo ∧ okR hi
      · rw [if_pos h, wp_ret, rngL_map]; simp [h]
      · rw [if_neg h]
        exact ⟨fun ⟨_, _, e, _⟩ => (by cases e), fun ⟨a, b, _⟩ => absurd ⟨a, b⟩ h⟩
    | _ => exact ⟨fun ⟨_, _, e, _⟩ => (by cases e), fun ⟨_, _, e, _⟩ => (by cases e)⟩
  exact wp_bnd.trans (wp_cg fun d s1 => go d s1)
theorem sm_rng1 {j : Int} {P : D → Prop} : Sm (rng1G [.int j]) P ↔ P (.rng 0 j) := sm_some
theorem wp_ext {i : Nat} {Q : D → S → Prop} : Wp (eExt i m) ⟨env, c⟩ Q ↔ OwnAt env i fun _ => Wp m ⟨env, c⟩ fun d s1 => Wp (putL i (extL d)) s1 fun _ s2 => Q .non s2 := by
  exact wp_bnd.trans (wp_here.trans (ownAt_cg fun _ => wp_bnd.trans (wp_cg fun _ _ => wp_bnd.trans (wp_cg fun _ _ => wp_ret))))
theorem sm_extL {es ds : List D} {P : List D → Prop} : Sm (extL (.lst es) ds) P ↔ ds.length + es.length ≤ 16777216 ∧ P (ds ++ es) := by
  show Sm (if ds.length + es.length ≤ sizeLine then some (ds ++ es) else none) P ↔ _
  rw [sm_ite, sm_some, sizeLine_eq]
/-- a dict of whole numbers: its keys in the order in which they came first -/
def nubI : List Int → List Int → List Int
  | [], acc => acc
  | x :: r, acc => nubI r (if x ∈ acc then acc else acc ++ [x])
def intPrs (l : List (Int × D)) : List D := l.map fun p => .tup [.int p.1, p.2]
theorem dPrs_ints : ∀ l : List (Int × D), dPrs (intPrs l) = some (l.map fun p => (Sum.inl p.1, p.2))
  | [] => rfl
  | p :: r => by
    show ((dKey (.int p.1)).bind fun x => (dPrs (intPrs r)).map ((x, p.2) :: ·)) = _
    rw [dPrs_ints r]; rfl
theorem mergeD_keys : ∀ (l : List (Int × D)) (acc : List Int) (ds : List D), (mergeD (l.map fun p => (Sum.inl p.1, p.2)) (acc.map Sum.inl) ds).1 = (nubI (l.map (·.1)) acc).map Sum.inl
  | [], _, _ => rfl
  | p :: r, acc, ds => by
    show (mergeD (r.map fun p => (Sum.inl p.1, p.2)) (kPutK (acc.map Sum.inl) (Sum.inl p.1)) _).1 = _
    have e : kPutK (acc.map Sum.inl) (Sum.inl p.1 : Key) = (if p.1 ∈ acc then acc else acc ++ [p.1]).map Sum.inl := by
      unfold kPutK
      by_cases h : p.1 ∈ acc
      · rw [if_pos h, if_pos (List.mem_map_of_mem h)]
      · rw [if_neg h, if_neg (fun z => by obtain ⟨y, hy, e⟩ := List.mem_map.mp z; cases e; exact h hy), List.map_append]; rfl
    rw [e, mergeD_keys r]
    rfl
theorem keyI_map : ∀ l : List Int, keyI (l.map Sum.inl) = some l
  | [] => rfl
  | x :: r => by show (keyI (r.map Sum.inl)).map (x :: ·) = _; rw [keyI_map r]; rfl
theorem sm_dct {l : List (Int × D)} {P : D → Prop} : Sm (dctG [.lst (intPrs l)]) P ↔ P (.dct ((nubI (l.map (·.1)) []).map Sum.inl) (mergeD (l.map fun p => (Sum.inl p.1, p.2)) [] []).2) := by
  show Sm ((dPrs (intPrs l)).map fun l => D.dct (mergeD l [] []).1 (mergeD l [] []).2) P ↔ _
  rw [dPrs_ints]
  have := mergeD_keys l [] []
  rw [List.map_nil] at this
  show Sm (some _) P ↔ _
  rw [sm_some, ← this]
theorem sm_srtD {ks : List Int} {ds : List D} {P : List D → Prop} : Sm (srtDG [.dct (ks.map Sum.inl) ds]) P ↔ ks.length < 64 ∧ P ((isort ks).map D.int) := by
  show Sm ((keyI (ks.map Sum.inl)).bind fun l => if l.length < 64 then some ((isort l).map D.int) else none) P ↔ _
  rw [keyI_map]
  show Sm (if ks.length < 64 then some ((isort ks).map D.int) else none) P ↔ _
  rw [sm_ite, sm_some]
end
end GH

namespace GH
open PySem PySem.Spec PyProof.Rows L2
section
variable {X : Cx} {x : Str} {p q pos : Pos} {i : Nat}
def eSrtO (i : Nat) : M D := fun s => match s.env[i]? with
  | some (some (.ownK ks _)) => ((keyI ks).bind fun l => if l.length < 64 then some (D.lst ((isort l).map D.int)) else none).map fun d => (d, s)
  | _ => none
theorem s_srtO (hc : X.calm = true) (hg : Gl X "sorted") (hm : X.mg "sorted" = none) (hx : PE X (.Name x p) (tVar i))
    (he : starEach [.Name x p] X.env = (false, eval (.Name x p) X.env) :: starEach [] X.env := by rfl) (hpl : (backTo pos (starEach [] X.env)).any (·.1) = false := by rfl) :
    SE X (.Call (.Name "sorted" q) [.Name x p] [] pos) (eSrtO i) := ⟨fun B => by
  refine PE.imp (pe_callB (call_sortedDI hc) hg hm boot_sorted (pa_cons hx pa_nil he) (by decide) (by decide) he hpl) fun σ H Q ⟨s, d, s', k, e, h⟩ => ?_
  unfold eSrtO at e
  split at e
  · rename_i ks ds hsl
    obtain ⟨d', h1, h2⟩ := Option.map_eq_some_iff.mp e
    obtain ⟨l, hl, h3⟩ := Option.bind_eq_some_iff.mp h1
    split at h3
    · rename_i h64
      cases h3
      cases h2
      obtain ⟨a, o, q1, q2, ⟨kvs, rfl, hk, rs⟩, _⟩ := k.own i _ hsl rfl
      refine ⟨_, q1, a, kvs, l, rfl, .inl q2, by rw [hk, keyI_some hl], h64, fun ys b hp hs hb => ?_⟩
      rw [isort_eq hp hs] at h
      refine h _ _ (k.same (same_new hb)) (Ev.same (same_new hb)) ?_
      exact .newLst k.wt hb int_rps
    · cases h3
  · cases e⟩
end
section
variable {c : Src} {Q : D → S → Prop}
theorem wp_srtO {i : Nat} {env : List (Option Sl)} {l : List Int} {ds : List D} (h : env[i]? = some (some (.ownK (l.map Sum.inl) ds))) : Wp (eSrtO i) ⟨env, c⟩ Q ↔ l.length < 64 ∧ Q (.lst ((isort l).map D.int)) ⟨env, c⟩ := by
  have e : eSrtO i ⟨env, c⟩ = (if l.length < 64 then some (D.lst ((isort l).map D.int)) else none).map fun d => (d, (⟨env, c⟩ : S)) := by
    unfold eSrtO
    show (match env[i]? with
      | some (some (.ownK ks _)) => ((keyI ks).bind fun l => if l.length < 64 then some (D.lst ((isort l).map D.int)) else none).map fun d => (d, (⟨env, c⟩ : S))
      | _ => none) = _
    rw [h]
    show ((keyI (l.map Sum.inl)).bind _).map _ = _
    rw [keyI_map]; rfl
  unfold Wp
  rw [e]
  by_cases z : l.length < 64
  · rw [if_pos z]
    exact ⟨fun ⟨a, t, e, r⟩ => (by cases e; exact ⟨z, r⟩), fun r => ⟨_, _, rfl, r.2⟩⟩
  · rw [if_neg z]
    exact ⟨fun ⟨a, t, e, r⟩ => (by cases e), fun r => absurd r.1 z⟩
end
end GH

namespace GH
open PySem PySem.Spec PyProof.Rows L2
section
variable {X : Cx}
def powD : D → D → Option D
  | .int i, .int j => if 0 ≤ j ∧ j ≤ 1000000 ∧ i.natAbs < 2 ^ 64 then some (.int (i ^ j.toNat)) else none
  | _, _ => none
theorem od_pow : OpD X (binaryOp .Pow) powD := opD_cases fun dx dy d p W he => by
  unfold powD at he
  split at he
  · split at he
    · cases he
      rename_i hc
      exact OpR.imp op_pow fun x y H Q ⟨hw, hx, hy, hq⟩ => ⟨_, _, rp_int hx, rp_int hy, hc, hq _ _ (Same.refl H) (.mkInt _)⟩
    · cases he
  · cases he
theorem sm_powI {i j : Int} {P : D → Prop} : Sm (powD (.int i) (.int j)) P ↔ (0 ≤ j ∧ j ≤ 1000000 ∧ i.natAbs < 2 ^ 64) ∧ P (.int (i ^ j.toNat)) := by
  show Sm (if 0 ≤ j ∧ j ≤ 1000000 ∧ i.natAbs < 2 ^ 64 then some (D.int (i ^ j.toNat)) else none) P ↔ _
  rw [sm_ite, sm_some]
def eLstO (i : Nat) : M D := fun s => match s.env[i]? with
  | some (some (.ownK ks _)) => some (.lst (ks.map keyD), s)
  | _ => none
theorem keys_rps' {p : Addr} {W : AP} {H : Hp} (kvs : List (Key × V)) : Rps p W H ((kvs.map (·.1)).map keyD) (kvs.map fun kv => kV kv.1) := by
  have := keys_rps (p := p) (W := W) (H := H) (ks := kvs.map (·.1))
  rwa [List.map_map (g := kV)] at this
theorem s_lstO {x : Str} {p q pos : Pos} {i : Nat} (hc : X.calm = true) (hg : Gl X "list") (hm : X.mg "list" = none) (hx : PE X (.Name x p) (tVar i))
    (he : starEach [.Name x p] X.env = (false, eval (.Name x p) X.env) :: starEach [] X.env := by rfl) (hpl : (backTo pos (starEach [] X.env)).any (·.1) = false := by rfl) :
    SE X (.Call (.Name "list" q) [.Name x p] [] pos) (eLstO i) := ⟨fun B => by
  refine PE.imp (pe_callTy (call_listD hc) hg hm (by decide +kernel) (pa_cons hx pa_nil he) (by decide) (by decide) he hpl) fun σ H Q ⟨s, d, s', k, e, h⟩ => ?_
  unfold eLstO at e
  split at e
  · rename_i ks ds hsl
    cases e
    obtain ⟨a, o, q1, q2, ⟨kvs, rfl, rfl, rs⟩, _⟩ := k.own i _ hsl rfl
    refine ⟨_, q1, a, kvs, rfl, .inl q2, fun b hb => ?_⟩
    refine h _ _ (k.same (same_new hb)) (Ev.same (same_new hb)) ?_
    exact .newLst k.wt hb (keys_rps' kvs)
  · cases e⟩
theorem wp_lstO {c : Src} {Q : D → S → Prop} {i : Nat} {env : List (Option Sl)} {l : List Int} {ds : List D} (h : env[i]? = some (some (.ownK (l.map Sum.inl) ds))) : Wp (eLstO i) ⟨env, c⟩ Q ↔ Q (.lst (l.map D.int)) ⟨env, c⟩ := by
  have e : eLstO i ⟨env, c⟩ = some (.lst (l.map D.int), ⟨env, c⟩) := by
    unfold eLstO
    show (match env[i]? with
      | some (some (.ownK ks _)) => some (D.lst (ks.map keyD), (⟨env, c⟩ : S))
      | _ => none) = _
    rw [h]
    show some (D.lst ((l.map Sum.inl).map keyD), _) = _
    rw [List.map_map]; rfl
  unfold Wp
  rw [e]
  exact ⟨fun ⟨a, t, e, r⟩ => (by cases e; exact r), fun r => ⟨_, _, rfl, r⟩⟩
def reprH : List D → Option D
  | [.str s] => if (reprText s).length ≤ sizeLine then some (.str (reprText s)) else none
  | [.dct [] []] => some (.str "{}")
  | ds => reprG ds
theorem c_reprH {k : Nat} (hr : RG k X.A) : CallD X (.builtin "repr") reprH := callD_cases fun ds d p W he => by
  unfold reprH at he
  split at he
  · rename_i x
    split at he
    · rename_i hz
      cases he
      intro pins s σ H xs us Q I r ⟨hw, hx, hq⟩
      obtain ⟨v, rfl, rv⟩ := rps1 hx
      rw [rp_str rv] at r
      obtain ⟨u, rfl, ru⟩ := r.one
      obtain ⟨t, rfl⟩ := ru
      exact P.repr_of_str (hsz := hz) ⟨.str _, H, I.tok _, ⟨_, rfl⟩, hq _ _ (Same.refl H) (.mkStr _)⟩
    · cases he
  · cases he
    intro pins s σ H xs us Q I r ⟨hw, hx, hq⟩
    obtain ⟨v, rfl, rv⟩ := rps1 hx
    simp only [Rp] at rv
    obtain ⟨a, kvs, rfl, na, ha, hk, rs⟩ := rv
    obtain ⟨u, rfl, ru⟩ := r.one
    cases ru
    have hnil : kvs = [] := List.map_eq_nil_iff.mp hk
    subst hnil
    obtain ⟨z, hm, vs, rel, o, es, ep, e1, e2, e3, e4, e5, e6⟩ := dk_rd I.hok ha
    have hvs : vs = [] := by
      have := rel.length
      exact List.length_eq_zero_iff.mp (by simpa using this.symm)
    have hes : es.toList = [] := by
      subst hvs
      exact List.length_eq_zero_iff.mp (by simpa using e5.length)
    have rr : Reads s.heap (.ref a) (.dict []) ([a] ++ []) := .dict e1 e2.1 e3 (by rw [hes]; exact .nil) (by rw [hes]; exact .nil)
    have hu := hr.r.units
    refine PySem.repr_of_reads' rr rfl (fun _ => ?_) hr.g (by simp [PyData.depth, PyData.depthKv]; omega) (fun _ _ z => z) (fun h' u tk hk => ?_) (by decide +kernel)
    · simpa using (beq_eq_false_iff_ne.mp hm).symm
    · exact ⟨.str _, H, I.kept (t' := tk) hk, ⟨_, rfl⟩, hq _ _ (Same.refl H) (.mkStr _)⟩
  · intro pins s σ H xs us Q I r ⟨hw, hx, hq⟩
    exact c_repr hr pins s σ H xs us Q I r ⟨p, W, _, d, hw, hx, he, hq⟩
end
/-- data that repr shows -/
structure Sh4 (n w : Nat) (d : D) : Prop where
  lay : d.py.canLay0 = true
  shw : d.py.showable = true
  dep : d.py.depth ≤ n
  wei : d.py.weight ≤ w
  shrt : d.py.intsShort 40 = true
  txt : sgn d.py.shown
theorem sh4_non {n w : Nat} : Sh4 n w .non := ⟨rfl, rfl, by simp [D.py, PyData.depth], by simp [D.py, PyData.weight], rfl, sgn_of⟩
theorem sh4_bl {n w : Nat} (b : Bool) : Sh4 n w (.bl b) := ⟨rfl, rfl, by simp [D.py, PyData.depth], by simp [D.py, PyData.weight], rfl, by
  cases b <;> exact sgn_of⟩
theorem sh4_int {n : Nat} {i : Int} (h : i.natAbs < 1000000000000000000000000000000000000000) : Sh4 n 130 (.int i) := by
  have hl : i.natAbs.log2 < 130 := by
    by_cases z : i.natAbs = 0
    · rw [z]; decide
    · exact (Nat.log2_lt z).mpr (by omega)
  refine ⟨rfl, ?_, by simp [D.py, PyData.depth], ?_, ?_, sgn_of⟩
  · simp only [D.py, PyData.showable, decide_eq_true_eq]; omega
  · simp only [D.py, PyData.weight]; split <;> omega
  · simp only [D.py, PyData.intsShort, decide_eq_true_eq]
    have e := int_text_length_le10 (k := 39) (a := i) (by decide) (by omega)
    show (Str.ofString (toString i)).length ≤ 40
    rw [PySem.ofString_length]; exact e
theorem Sh4.up {n w n' w' : Nat} {d : D} (h : Sh4 n w d) (h1 : n ≤ n') (h2 : w ≤ w') : Sh4 n' w' d := ⟨h.lay, h.shw, by have := h.dep; omega, by have := h.wei; omega, h.shrt, h.txt⟩
theorem sh4All {n w : Nat} : ∀ {ds : List D}, (∀ d ∈ ds, Sh4 n w d) → PyData.canLayAll0 (D.pys ds) = true ∧ PyData.showableAll (D.pys ds) = true ∧ PyData.depthAll (D.pys ds) ≤ n ∧ PyData.weightAll (D.pys ds) ≤ ds.length * (w + 1) ∧ PyData.intsShortAll 40 (D.pys ds) = true ∧ ∀ t ∈ PyData.shownAll (D.pys ds), sgn t
  | [], _ => by simp [D.pys, PyData.canLayAll0, PyData.showableAll, PyData.depthAll, PyData.weightAll, PyData.intsShortAll, PyData.shownAll]
  | d :: r, h => by
    have hd := h d List.mem_cons_self
    obtain ⟨h1, h2, h3, h4, h5, h6⟩ := sh4All (ds := r) fun x hx => h x (List.mem_cons_of_mem _ hx)
    simp only [D.pys, PyData.canLayAll0, PyData.showableAll, PyData.depthAll, PyData.weightAll, PyData.intsShortAll, PyData.shownAll, Bool.and_eq_true, List.length_cons]
    refine ⟨⟨hd.lay, h1⟩, ⟨hd.shw, h2⟩, Nat.max_le.mpr ⟨hd.dep, h3⟩, ?_, ⟨hd.shrt, h5⟩, fun t ht => ?_⟩
    · have := hd.wei
      rw [Nat.succ_mul]; omega
    · rcases List.mem_cons.mp ht with e | e
      · subst e; exact hd.txt
      · exact h6 t e
theorem sh4_tup {n w m : Nat} {ds : List D} (h : ∀ d ∈ ds, Sh4 n w d) (hm : ds.length ≤ m) : Sh4 (n + 1) (m * (w + 1)) (.tup ds) := by
  obtain ⟨h1, h2, h3, h4, h5, h6⟩ := sh4All h
  refine ⟨by simpa only [D.py, PyData.canLay0] using h1, by simpa only [D.py, PyData.showable] using h2, by simp only [D.py, PyData.depth]; omega, ?_, by simpa only [D.py, PyData.intsShort] using h5, by simp only [D.py, PyData.shown]; exact sgn_tuple h6⟩
  simp only [D.py, PyData.weight]
  exact Nat.le_trans h4 (Nat.mul_le_mul_right _ hm)
theorem sh4_lst {n w m : Nat} {ds : List D} (h : ∀ d ∈ ds, Sh4 n w d) (hm : ds.length ≤ m) : Sh4 (n + 1) (m * (w + 1)) (.lst ds) := by
  obtain ⟨h1, h2, h3, h4, h5, h6⟩ := sh4All h
  refine ⟨by simpa only [D.py, PyData.canLay0] using h1, by simpa only [D.py, PyData.showable] using h2, by simp only [D.py, PyData.depth]; omega, ?_, by simpa only [D.py, PyData.intsShort] using h5, by simp only [D.py, PyData.shown]; exact sgn_list h6⟩
  simp only [D.py, PyData.weight]
  exact Nat.le_trans h4 (Nat.mul_le_mul_right _ hm)
theorem Sh4.ok {n w : Nat} {d : D} (h : Sh4 n w d) (hn : n ≤ 60) (hw : w ≤ 300000) : okRepr d := by
  refine ⟨h.lay, h.shw, PyData.hasDict_of_canLay _ h.lay, by have := h.dep; omega, ?_⟩
  have h1 := PyData.shown_le 40 (by decide) d.py (PyData.leavesShort_of_canLay0 40 d.py h.lay h.shrt)
  have h2 := h.wei
  have h3 : (40 + 2) * d.py.weight ≤ 42 * 300000 := Nat.mul_le_mul (by decide) (by omega)
  rw [sizeLine_eq]
  omega

theorem repr_sh4 {n w : Nat} {d : D} (h : Sh4 n w d) (hn : n ≤ 60) (hw : w ≤ 300000) (hs : isStr d = false := by rfl) : reprH [d] = some (sR d) := by
  have hk := h.ok hn hw
  cases d with
  | non => rfl
  | bl b => rfl
  | int i =>
    have := h.shw
    simp only [D.py, PyData.showable, decide_eq_true_eq] at this
    show (if i.natAbs.log2 < 1920 then _ else _) = _
    rw [if_pos this]; rfl
  | str s => cases hs
  | tup ds => show (if okRepr _ then _ else _) = _; rw [if_pos hk]; rfl
  | lst ds => show (if okRepr _ then _ else _) = _; rw [if_pos hk]; rfl
  | rng a b => have := h.lay; simp [D.py, PyData.canLay0] at this
  | src => have := h.lay; simp [D.py, PyData.canLay0] at this
  | dct a b => have := h.lay; simp [D.py, PyData.canLay0] at this
  | dtt a b => have := h.lay; simp [D.py, PyData.canLay0] at this
theorem sm_repr4 {n w : Nat} {d : D} {P : D → Prop} (h : Sh4 n w d) (hn : n ≤ 60) (hw : w ≤ 300000) (hs : isStr d = false := by rfl) : Sm (reprH [d]) P ↔ P (sR d) := sm_eq (repr_sh4 h hn hw hs)
theorem sm_neR4 {n w : Nat} {d : D} {P : D → Prop} (h : Sh4 n w d) : Sm (neD (sR d) (sR d)) P ↔ P (.bl false) := sm_neS (str_ok (sgn_ok h.txt))
end GH

noncomputable section
namespace GW
open PySem PySem.Spec PyProof.Rows L2 GH

def top (i : Nat) : Stmt := PySem.Challenge.pw_greenheld_k05_plans_and_lamps.main.body.getD i (.Pass ⟨0, 0, 0, 0⟩)
abbrev FP (K : PySem.W.Frag) (x : Str) (st : Stmt) (f : Addr) (fd : FuncData) : Prop := FunD K x x (defArgs st) (defBody st) (defScope st) [] [] f fd
abbrev st_is_integer : Stmt := top 1
abbrev st_do_cross : Stmt := top 2
abbrev st_clearance : Stmt := top 3
abbrev st_free_sets : Stmt := top 5
abbrev st_is_full : Stmt := top 6
abbrev st_stages : Stmt := top 7
abbrev st_clear_ticks : Stmt := top 8
abbrev st_need_of : Stmt := top 10
abbrev st_is_pair : Stmt := top 11
abbrev st_judge_plan : Stmt := top 12
abbrev st_is_plan : Stmt := top 13
abbrev st_capacity_of : Stmt := top 14
abbrev st_is_above : Stmt := top 15
abbrev st_greens : Stmt := top 17
abbrev st_lamps_at : Stmt := top 18
abbrev st_lamp_rows : Stmt := top 19
abbrev st_first_crossed : Stmt := top 20
abbrev st_first_early : Stmt := top 21
abbrev st_judge_lamps : Stmt := top 22
abbrev st__law_open_cells : Stmt := top 24
abbrev st__law_pick : Stmt := top 25
abbrev st__law_any_order : Stmt := top 26
abbrev st__law_clearance : Stmt := top 27
abbrev st__law_stages : Stmt := top 28
abbrev st__law_crosses_one : Stmt := top 29
abbrev st__law_clearing : Stmt := top 30
abbrev st__law_capacity : Stmt := top 31
abbrev st__law_draw_crossing : Stmt := top 32
abbrev st__law_one_crossing : Stmt := top 33
abbrev st__law_need : Stmt := top 34
abbrev st__law_is_least : Stmt := top 35
abbrev st__law_loose_plan : Stmt := top 36
abbrev st__law_lamp_rows : Stmt := top 37
abbrev st__law_lamp_fault : Stmt := top 38
abbrev st__law_plan_fault : Stmt := top 39
abbrev st__law_near_plans : Stmt := top 40
abbrev st__law_bent_rows : Stmt := top 41
abbrev st__law_plan_right : Stmt := top 42
abbrev st_law : Stmt := top 43
theorem sc_is_integer : FnScope ["value"] ["value"] (defScope st_is_integer) := ⟨rfl, rfl, rfl, by decide +kernel, rfl, by decide +kernel, by decide +kernel⟩
def m_is_integer : M Out :=
 (sRet (eAnd (eUn (isiD "int") (eVar 0)) (eNot (eUn (isiD "bool") (eVar 0)))))
def S_is_integer : FnSem := fnOf 1 m_is_integer
theorem w_is_integer {P : Program} {w : World} {K : PySem.W.Frag} {mg : Str → Option Value} {base : Heap} {f : Addr} {fd : FuncData} (F : FP K "is_integer" st_is_integer f fd) (hm : mg "is_integer" = some (.ref f)) (h_bool : mg "bool" = none) (h_int : mg "int" = none) (h_isinstance : mg "isinstance" = none) : Fn P w K mg base 1 "is_integer" 1 S_is_integer := by
  have sc := sc_is_integer
  refine fn_body (k := 0) (N := ["value"]) (m := m_is_integer) F hm (F.bindsN (ps := ["value"]) fun _ _ _ _ _ _ us hl => match us, hl with | [_], _ => rfl) sc (by decide) fun cdv A outer s H hr => ?_
  have hu := hr.u64
  have hv := hr.u65
  have hv1 := hr.u1
  unfold m_is_integer
  exact (ss_one (s_ret (s_and (s_isi rfl h_isinstance s_v rfl h_int (by decide +kernel)) (s_one (s_not (s_isi rfl h_isinstance s_v rfl h_bool (by decide +kernel)))))))
theorem sc_do_cross : FnScope ["crossing", "i", "j", "four"] ["crossing", "i", "j"] (defScope st_do_cross) := ⟨rfl, rfl, rfl, by decide +kernel, rfl, by decide +kernel, by decide +kernel⟩
def m_do_cross : M Out :=
 (sRet (eCall anyG (aCons (eLst (eComp [3] (gN 3) (ret true) (eBin inD (eSl (eVar 3) oNo (oAt (eC (.int 2)))) (eTup (aCons (eTup (aCons (eVar 1) (aCons (eVar 2) aNil))) (aCons (eTup (aCons (eVar 2) (aCons (eVar 1) aNil))) aNil)))) (iSeq (eBin ixD (eVar 0) (eC (.int 1)))))) aNil)))
def S_do_cross : FnSem := fnOf 4 m_do_cross
theorem w_do_cross {P : Program} {w : World} {K : PySem.W.Frag} {mg : Str → Option Value} {base : Heap} {f : Addr} {fd : FuncData} (F : FP K "do_cross" st_do_cross f fd) (hm : mg "do_cross" = some (.ref f)) (h_any : mg "any" = none) : Fn P w K mg base 1 "do_cross" 3 S_do_cross := by
  have sc := sc_do_cross
  refine fn_body (k := 0) (N := ["crossing", "i", "j", "four"]) (m := m_do_cross) F hm (F.bindsN (ps := ["crossing", "i", "j"]) fun _ _ _ _ _ _ us hl => match us, hl with | [_, _, _], _ => rfl) sc (by decide) fun cdv A outer s H hr => ?_
  have hu := hr.u64
  have hv := hr.u65
  have hv1 := hr.u1
  unfold m_do_cross
  exact (ss_one (s_ret (s_callB (c_any rfl) rfl h_any (by decide +kernel) (a_cons (s_ofL (l_comp (own := [("four", 3)]) ⟨rfl, sc.nd, (blk_of rfl (by kernel_rfl)), by decide, fun _ _ _ _ _ => (g_n sc.nd), fun _ _ _ _ _ => f_nil, fun _ _ _ _ _ => (s_cmp (od_in hv) (s_slice s_v o_no (o_at s_int)) (s_tup (a_cons (s_tup (a_cons s_v (a_cons s_v a_nil))) (a_cons (s_tup (a_cons s_v (a_cons s_v a_nil))) a_nil))))⟩ (i_seq (s_ix s_v s_int)))) a_nil))))
theorem sc_clearance : FnScope ["crossing", "i", "j", "one", "other", "after", "back"] ["crossing", "i", "j"] (defScope st_clearance) := ⟨rfl, rfl, rfl, by decide +kernel, rfl, by decide +kernel, by decide +kernel⟩
def m_clearance : M Out :=
 (sSeq (sFor (iSeq (eBin ixD (eVar 0) (eC (.int 1)))) (gT (gCons (gN 3) (gCons (gN 4) (gCons (gN 5) (gCons (gN 6) gNil)))))
 (sSeq (sIf (tst (eBin eqD (eTup (aCons (eVar 3) (aCons (eVar 4) aNil))) (eTup (aCons (eVar 1) (aCons (eVar 2) aNil)))))
 (sRet (eVar 5))
 sNx)
 (sIf (tst (eBin eqD (eTup (aCons (eVar 4) (aCons (eVar 3) aNil))) (eTup (aCons (eVar 1) (aCons (eVar 2) aNil)))))
 (sRet (eVar 6))
 sNx)))
 (sRet (eC (.int 0))))
def S_clearance : FnSem := fnOf 7 m_clearance
theorem w_clearance {P : Program} {w : World} {K : PySem.W.Frag} {mg : Str → Option Value} {base : Heap} {f : Addr} {fd : FuncData} (F : FP K "clearance" st_clearance f fd) (hm : mg "clearance" = some (.ref f)) : Fn P w K mg base 1 "clearance" 3 S_clearance := by
  have sc := sc_clearance
  refine fn_body (k := 0) (N := ["crossing", "i", "j", "one", "other", "after", "back"]) (m := m_clearance) F hm (F.bindsN (ps := ["crossing", "i", "j"]) fun _ _ _ _ _ _ us hl => match us, hl with | [_, _, _], _ => rfl) sc (by decide) fun cdv A outer s H hr => ?_
  have hu := hr.u64
  have hv := hr.u65
  have hv1 := hr.u1
  unfold m_clearance
  exact (ss_cons (s_for PassesOwn.never rfl (i_seq (s_ix s_v s_int)) (g_tup rfl (gs_cons (g_n sc.nd) (gs_cons (g_n sc.nd) (gs_cons (g_n sc.nd) (gs_cons (g_n sc.nd) gs_nil)))) rfl rfl (gCons_len (gCons_len (gCons_len (gCons_len gNil_len)))))
 (ss_cons (s_ifS (t_cmp (od_eq hu) (s_tup (a_cons s_v (a_cons s_v a_nil))) (s_tup (a_cons s_v (a_cons s_v a_nil))))
 (ss_one (s_ret s_v))
 ss_nil)
 (ss_one (s_ifS (t_cmp (od_eq hu) (s_tup (a_cons s_v (a_cons s_v a_nil))) (s_tup (a_cons s_v (a_cons s_v a_nil))))
 (ss_one (s_ret s_v))
 ss_nil))))
 (ss_one (s_ret s_int)))
theorem sc_free_sets : FnScope ["crossing", "found", "i", "one", "j"] ["crossing"] (defScope st_free_sets) := ⟨rfl, rfl, rfl, by decide +kernel, rfl, by decide +kernel, by decide +kernel⟩
def m_free_sets : M Out :=
 (sSeq (sSet 1 (eLst (lDisp (aCons (eTup aNil) aNil))))
 (sSeq (sFor (iRg1 (eCall lenG (aCons (eBin ixD (eVar 0) (eC (.int 0))) aNil))) (gN 2)
 (sSet 1 (eBin addD (eVar 1) (eLst (eComp [3] (gN 3) (tNot1 (tru (eCall anyG (aCons (eLst (eComp [4] (gN 4) (ret true) (eFn S_do_cross (aCons (eVar 0) (aCons (eVar 2) (aCons (eVar 4) aNil)))) (iSeq (eVar 3)))) aNil)))) (eTup (aStar (eVar 3) (aCons (eVar 2) aNil))) (iSeq (eVar 1)))))))
 (sRet (eVar 1))))
def S_free_sets : FnSem := fnOf 5 m_free_sets
theorem w_free_sets {P : Program} {w : World} {K : PySem.W.Frag} {mg : Str → Option Value} {base : Heap} {f : Addr} {fd : FuncData} (F : FP K "free_sets" st_free_sets f fd) (hm : mg "free_sets" = some (.ref f)) (h_any : mg "any" = none) (h_len : mg "len" = none) (h_range : mg "range" = none) (F_do_cross : Fn P w K mg base 1 "do_cross" 3 S_do_cross) : Fn P w K mg base 2 "free_sets" 1 S_free_sets := by
  have sc := sc_free_sets
  refine fn_body (k := 1) (N := ["crossing", "found", "i", "one", "j"]) (m := m_free_sets) F hm (F.bindsN (ps := ["crossing"]) fun _ _ _ _ _ _ us hl => match us, hl with | [_], _ => rfl) sc (by decide) fun cdv A outer s H hr => ?_
  have hu := hr.u64
  have hv := hr.u65
  have hv1 := hr.u1
  unfold m_free_sets
  exact (ss_cons (s_set sc.nd rfl (by first | exact Or.inl rfl | exact Or.inr rfl) (s_ofL (l_dsp (a_cons (s_tup a_nil) a_nil))))
 (ss_cons (s_for PassesOwn.never rfl (i_rg1 rfl h_range (s_callB c_len rfl h_len (by decide +kernel) (a_cons (s_ix s_v s_int) a_nil))) (g_n sc.nd)
 (ss_one (s_set sc.nd rfl (by first | exact Or.inl rfl | exact Or.inr rfl) (s_bin od_add s_v (s_ofL (l_comp (own := [("one", 3)]) ⟨rfl, sc.nd, (blk_of rfl (by kernel_rfl)), by decide, fun _ _ _ _ _ => (g_n sc.nd), fun _ _ _ _ _ => (f_one (t_not (t_of (s_callB (c_any rfl) rfl h_any (by decide +kernel) (a_cons (s_ofL (l_comp (own := [("j", 4)]) ⟨rfl, sc.nd, (blk_of rfl (by kernel_rfl)), by decide, fun _ _ _ _ _ => (g_n sc.nd), fun _ _ _ _ _ => f_nil, fun _ _ _ _ _ => (s_fn (F_do_cross.mono (by decide)) hr rfl (a_cons s_v (a_cons s_v (a_cons s_v a_nil))) (aLen_cons (aLen_cons (aLen_cons aLen_nil))))⟩ (i_seq s_v))) a_nil))))), fun _ _ _ _ _ => (s_tup (a_star s_v (a_cons s_v a_nil)))⟩ (i_seq s_v)))))))
 (ss_one (s_ret s_v))))
theorem sc_is_full : FnScope ["crossing", "some", "others", "i", "j"] ["crossing", "some"] (defScope st_is_full) := ⟨rfl, rfl, rfl, by decide +kernel, rfl, by decide +kernel, by decide +kernel⟩
def m_is_full : M Out :=
 (sSeq (sSet 2 (eLst (eComp [3] (gN 3) (tst (eBin ninD (eVar 3) (eVar 1))) (eVar 3) (iRg1 (eCall lenG (aCons (eBin ixD (eVar 0) (eC (.int 0))) aNil))))))
 (sRet (eCall allG (aCons (eLst (eComp [3] (gN 3) (ret true) (eCall anyG (aCons (eLst (eComp [4] (gN 4) (ret true) (eFn S_do_cross (aCons (eVar 0) (aCons (eVar 3) (aCons (eVar 4) aNil)))) (iSeq (eVar 1)))) aNil)) (iSeq (eVar 2)))) aNil))))
def S_is_full : FnSem := fnOf 5 m_is_full
theorem w_is_full {P : Program} {w : World} {K : PySem.W.Frag} {mg : Str → Option Value} {base : Heap} {f : Addr} {fd : FuncData} (F : FP K "is_full" st_is_full f fd) (hm : mg "is_full" = some (.ref f)) (h_all : mg "all" = none) (h_any : mg "any" = none) (h_len : mg "len" = none) (h_range : mg "range" = none) (F_do_cross : Fn P w K mg base 1 "do_cross" 3 S_do_cross) : Fn P w K mg base 2 "is_full" 2 S_is_full := by
  have sc := sc_is_full
  refine fn_body (k := 1) (N := ["crossing", "some", "others", "i", "j"]) (m := m_is_full) F hm (F.bindsN (ps := ["crossing", "some"]) fun _ _ _ _ _ _ us hl => match us, hl with | [_, _], _ => rfl) sc (by decide) fun cdv A outer s H hr => ?_
  have hu := hr.u64
  have hv := hr.u65
  have hv1 := hr.u1
  unfold m_is_full
  exact (ss_cons (s_setLc (own := [("i", 3)])  rfl rfl rfl ⟨rfl, sc.nd, (blk_of rfl (by kernel_rfl)), by decide, fun _ _ _ _ _ => (g_n sc.nd), fun _ _ _ _ _ => (f_one (t_cmp (od_nin hv) s_v s_v)), fun _ _ _ _ _ => s_v⟩ (i_rg1 rfl h_range (s_callB c_len rfl h_len (by decide +kernel) (a_cons (s_ix s_v s_int) a_nil))))
 (ss_one (s_ret (s_callB (c_all rfl) rfl h_all (by decide +kernel) (a_cons (s_ofL (l_comp (own := [("i", 3)]) ⟨rfl, sc.nd, (blk_of rfl (by kernel_rfl)), by decide, fun _ _ _ _ _ => (g_n sc.nd), fun _ _ _ _ _ => f_nil, fun _ _ _ _ _ => (s_callB (c_any rfl) rfl h_any (by decide +kernel) (a_cons (s_ofL (l_comp (own := [("j", 4)]) ⟨rfl, sc.nd, (blk_of rfl (by kernel_rfl)), by decide, fun _ _ _ _ _ => (g_n sc.nd), fun _ _ _ _ _ => f_nil, fun _ _ _ _ _ => (s_fn (F_do_cross.mono (by decide)) hr rfl (a_cons s_v (a_cons s_v (a_cons s_v a_nil))) (aLen_cons (aLen_cons (aLen_cons aLen_nil))))⟩ (i_seq s_v))) a_nil))⟩ (i_seq s_v))) a_nil)))))
theorem sc_stages : FnScope ["crossing", "some"] ["crossing"] (defScope st_stages) := ⟨rfl, rfl, rfl, by decide +kernel, rfl, by decide +kernel, by decide +kernel⟩
def m_stages : M Out :=
 (sRet (eCall tupG (aCons (eLst (eCallL srtG (aCons (eLst (eComp [1] (gN 1) (tru (eFn S_is_full (aCons (eVar 0) (aCons (eVar 1) aNil)))) (eVar 1) (iSeq (eFn S_free_sets (aCons (eVar 0) aNil))))) aNil))) aNil)))
def S_stages : FnSem := fnOf 2 m_stages
theorem w_stages {P : Program} {w : World} {K : PySem.W.Frag} {mg : Str → Option Value} {base : Heap} {f : Addr} {fd : FuncData} (F : FP K "stages" st_stages f fd) (hm : mg "stages" = some (.ref f)) (h_sorted : mg "sorted" = none) (h_tuple : mg "tuple" = none) (F_free_sets : Fn P w K mg base 2 "free_sets" 1 S_free_sets) (F_is_full : Fn P w K mg base 2 "is_full" 2 S_is_full) : Fn P w K mg base 3 "stages" 1 S_stages := by
  have sc := sc_stages
  refine fn_body (k := 2) (N := ["crossing", "some"]) (m := m_stages) F hm (F.bindsN (ps := ["crossing"]) fun _ _ _ _ _ _ us hl => match us, hl with | [_], _ => rfl) sc (by decide) fun cdv A outer s H hr => ?_
  have hu := hr.u64
  have hv := hr.u65
  have hv1 := hr.u1
  unfold m_stages
  exact (ss_one (s_ret (s_callT c_tup rfl h_tuple (by decide +kernel) (a_cons (s_ofL (l_callB (c_srt hr) rfl h_sorted boot_sorted (a_cons (s_ofL (l_comp (own := [("some", 1)]) ⟨rfl, sc.nd, (blk_of rfl (by kernel_rfl)), by decide, fun _ _ _ _ _ => (g_n sc.nd), fun _ _ _ _ _ => (f_one (t_of (s_fn (F_is_full.mono (by decide)) hr rfl (a_cons s_v (a_cons s_v a_nil)) (aLen_cons (aLen_cons aLen_nil))))), fun _ _ _ _ _ => s_v⟩ (i_seq (s_fn (F_free_sets.mono (by decide)) hr rfl (a_cons s_v a_nil) (aLen_cons aLen_nil))))) a_nil))) a_nil))))
theorem sc_clear_ticks : FnScope ["crossing", "s", "many", "i", "j"] ["crossing", "s"] (defScope st_clear_ticks) := ⟨rfl, rfl, rfl, by decide +kernel, rfl, by decide +kernel, by decide +kernel⟩
def m_clear_ticks : M Out :=
 (sSeq (sSet 2 (eCall rng1G (aCons (eCall lenG (aCons (eBin ixD (eVar 0) (eC (.int 0))) aNil)) aNil)))
 (sRet (eCall maxG (aCons (eLst (eComp2 [3, 4] [4] (gN 3) (ret true) (iRgV (eVar 2)) (gN 4) (ret true) (eFn S_clearance (aCons (eVar 0) (aCons (eVar 3) (aCons (eVar 4) aNil)))) (iSeq (eBin ixD (eFn S_stages (aCons (eVar 0) aNil)) (eVar 1))))) aNil))))
def S_clear_ticks : FnSem := fnOf 5 m_clear_ticks
theorem w_clear_ticks {P : Program} {w : World} {K : PySem.W.Frag} {mg : Str → Option Value} {base : Heap} {f : Addr} {fd : FuncData} (F : FP K "clear_ticks" st_clear_ticks f fd) (hm : mg "clear_ticks" = some (.ref f)) (h_len : mg "len" = none) (h_max : mg "max" = none) (h_range : mg "range" = none) (F_clearance : Fn P w K mg base 1 "clearance" 3 S_clearance) (F_stages : Fn P w K mg base 3 "stages" 1 S_stages) : Fn P w K mg base 4 "clear_ticks" 2 S_clear_ticks := by
  have sc := sc_clear_ticks
  refine fn_body (k := 3) (N := ["crossing", "s", "many", "i", "j"]) (m := m_clear_ticks) F hm (F.bindsN (ps := ["crossing", "s"]) fun _ _ _ _ _ _ us hl => match us, hl with | [_, _], _ => rfl) sc (by decide) fun cdv A outer s H hr => ?_
  have hu := hr.u64
  have hv := hr.u65
  have hv1 := hr.u1
  unfold m_clear_ticks
  exact (ss_cons (s_set sc.nd rfl (by first | exact Or.inl rfl | exact Or.inr rfl) (s_callT c_rng1 rfl h_range (by decide +kernel) (a_cons (s_callB c_len rfl h_len (by decide +kernel) (a_cons (s_ix s_v s_int) a_nil)) a_nil)))
 (ss_one (s_ret (s_callB (c_max rfl hv1) rfl h_max (by decide +kernel) (a_cons (s_ofL (l_comp2 (own := [("i", 3), ("j", 4)]) (vs1 := [4]) ⟨rfl, sc.nd, (blk_of rfl (by kernel_rfl)), by decide, by decide, by decide, fun _ _ _ _ _ => (g_n sc.nd), fun _ _ _ _ _ => f_nil, fun _ _ _ _ _ => (i_rgV s_v), fun _ _ _ _ _ => (g_n sc.nd), fun _ _ _ _ _ => f_nil, fun _ _ _ _ _ => (s_fn (F_clearance.mono (by decide)) hr rfl (a_cons s_v (a_cons s_v (a_cons s_v a_nil))) (aLen_cons (aLen_cons (aLen_cons aLen_nil))))⟩ (i_seq (s_ix (s_fn (F_stages.mono (by decide)) hr rfl (a_cons s_v a_nil) (aLen_cons aLen_nil)) s_v)))) a_nil)))))
theorem sc_need_of : FnScope ["crossing", "plan", "s", "ticks"] ["crossing", "plan"] (defScope st_need_of) := ⟨rfl, rfl, rfl, by decide +kernel, rfl, by decide +kernel, by decide +kernel⟩
def m_need_of : M Out :=
 (sRet (eCall sumG (aCons (eLst (eComp [2, 3] (gT (gCons (gN 2) (gCons (gN 3) gNil))) (ret true) (eBin addD (eVar 3) (eFn S_clear_ticks (aCons (eVar 0) (aCons (eVar 2) aNil)))) (iSeq (eVar 1)))) aNil)))
def S_need_of : FnSem := fnOf 4 m_need_of
theorem w_need_of {P : Program} {w : World} {K : PySem.W.Frag} {mg : Str → Option Value} {base : Heap} {f : Addr} {fd : FuncData} (F : FP K "need_of" st_need_of f fd) (hm : mg "need_of" = some (.ref f)) (h_sum : mg "sum" = none) (F_clear_ticks : Fn P w K mg base 4 "clear_ticks" 2 S_clear_ticks) : Fn P w K mg base 5 "need_of" 2 S_need_of := by
  have sc := sc_need_of
  refine fn_body (k := 4) (N := ["crossing", "plan", "s", "ticks"]) (m := m_need_of) F hm (F.bindsN (ps := ["crossing", "plan"]) fun _ _ _ _ _ _ us hl => match us, hl with | [_, _], _ => rfl) sc (by decide) fun cdv A outer s H hr => ?_
  have hu := hr.u64
  have hv := hr.u65
  have hv1 := hr.u1
  unfold m_need_of
  exact (ss_one (s_ret (s_callB (c_sum rfl) rfl h_sum (by decide +kernel) (a_cons (s_ofL (l_comp (own := [("s", 2), ("ticks", 3)]) ⟨rfl, sc.nd, (blk_of rfl (by kernel_rfl)), by decide, fun _ _ _ _ _ => (g_tup rfl (gs_cons (g_n sc.nd) (gs_cons (g_n sc.nd) gs_nil)) rfl rfl (gCons_len (gCons_len gNil_len))), fun _ _ _ _ _ => f_nil, fun _ _ _ _ _ => (s_bin od_add s_v (s_fn (F_clear_ticks.mono (by decide)) hr rfl (a_cons s_v (a_cons s_v a_nil)) (aLen_cons (aLen_cons aLen_nil))))⟩ (i_seq s_v))) a_nil))))
theorem sc_is_pair : FnScope ["value", "many"] ["value", "many"] (defScope st_is_pair) := ⟨rfl, rfl, rfl, by decide +kernel, rfl, by decide +kernel, by decide +kernel⟩
def m_is_pair : M Out :=
 (sSeq (sIf (tOr2 (tNot1 (tru (eUn (isiD "tuple") (eVar 0)))) (tOr2 (tst (eBin neD (eCall lenG (aCons (eVar 0) aNil)) (eC (.int 2)))) (tOr2 (tNot1 (tru (eFn S_is_integer (aCons (eBin ixD (eVar 0) (eC (.int 0))) aNil)))) (tNot1 (tru (eFn S_is_integer (aCons (eBin ixD (eVar 0) (eC (.int 1))) aNil)))))))
 (sRet (eC (.bl false)))
 sNx)
 (sRet (eAnd (eChain leD ltD (eC (.int 0)) (eBin ixD (eVar 0) (eC (.int 0))) (eVar 1)) (eBin gtD (eBin ixD (eVar 0) (eC (.int 1))) (eC (.int 0))))))
def S_is_pair : FnSem := fnOf 2 m_is_pair
theorem w_is_pair {P : Program} {w : World} {K : PySem.W.Frag} {mg : Str → Option Value} {base : Heap} {f : Addr} {fd : FuncData} (F : FP K "is_pair" st_is_pair f fd) (hm : mg "is_pair" = some (.ref f)) (h_isinstance : mg "isinstance" = none) (h_len : mg "len" = none) (h_tuple : mg "tuple" = none) (F_is_integer : Fn P w K mg base 1 "is_integer" 1 S_is_integer) : Fn P w K mg base 2 "is_pair" 2 S_is_pair := by
  have sc := sc_is_pair
  refine fn_body (k := 1) (N := ["value", "many"]) (m := m_is_pair) F hm (F.bindsN (ps := ["value", "many"]) fun _ _ _ _ _ _ us hl => match us, hl with | [_, _], _ => rfl) sc (by decide) fun cdv A outer s H hr => ?_
  have hu := hr.u64
  have hv := hr.u65
  have hv1 := hr.u1
  unfold m_is_pair
  exact (ss_cons (s_ifS (SW.t (w_or (t_not (t_of (s_isi rfl h_isinstance s_v rfl h_tuple (by decide +kernel)))) (w_or (t_cmp (od_ne hu) (s_callB c_len rfl h_len (by decide +kernel) (a_cons s_v a_nil)) s_int) (w_or (t_not (t_of (s_fn (F_is_integer.mono (by decide)) hr rfl (a_cons (s_ix s_v s_int) a_nil) (aLen_cons aLen_nil)))) (w_or1 (t_not (t_of (s_fn (F_is_integer.mono (by decide)) hr rfl (a_cons (s_ix s_v s_int) a_nil) (aLen_cons aLen_nil)))))))))
 (ss_one (s_ret s_bl))
 ss_nil)
 (ss_one (s_ret (s_and (s_chain od_le od_lt s_int (s_ix s_v s_int) s_v) (s_one (s_cmp od_gt (s_ix s_v s_int) s_int))))))
theorem sc_judge_plan : FnScope ["crossing", "value", "many", "k", "need", "pair"] ["crossing", "value"] (defScope st_judge_plan) := ⟨rfl, rfl, rfl, by decide +kernel, rfl, by decide +kernel, by decide +kernel⟩
def m_judge_plan : M Out :=
 (sSeq (sSet 2 (eCall lenG (aCons (eFn S_stages (aCons (eVar 0) aNil)) aNil)))
 (sSeq (sIf (tOr2 (tNot1 (tru (eUn (isiD "tuple") (eVar 1)))) (tNot1 (tru (eCall allG (aCons (eLst (eComp [5] (gN 5) (ret true) (eFn S_is_pair (aCons (eVar 5) (aCons (eVar 2) aNil))) (iSeq (eVar 1)))) aNil)))))
 (sRet (eTup (aCons (eC (.str "form")) aNil)))
 sNx)
 (sSeq (sFor (iRg2 (eC (.int 1)) (eCall lenG (aCons (eVar 1) aNil))) (gN 3)
 (sIf (tst (eBin eqD (eBin ixD (eBin ixD (eVar 1) (eVar 3)) (eC (.int 0))) (eBin ixD (eBin ixD (eVar 1) (eBin subD (eVar 3) (eC (.int 1)))) (eC (.int 0)))))
 (sRet (eTup (aCons (eC (.str "twice")) (aCons (eVar 3) aNil))))
 sNx))
 (sSeq (sSet 4 (eFn S_need_of (aCons (eVar 0) (aCons (eVar 1) aNil))))
 (sRet (eIf (tst (eBin leD (eVar 4) (eBin ixD (eVar 0) (eC (.int 2))))) (eC .non) (eTup (aCons (eC (.str "long")) (aCons (eVar 4) aNil)))))))))
def S_judge_plan : FnSem := fnOf 6 m_judge_plan
theorem w_judge_plan {P : Program} {w : World} {K : PySem.W.Frag} {mg : Str → Option Value} {base : Heap} {f : Addr} {fd : FuncData} (F : FP K "judge_plan" st_judge_plan f fd) (hm : mg "judge_plan" = some (.ref f)) (h_all : mg "all" = none) (h_isinstance : mg "isinstance" = none) (h_len : mg "len" = none) (h_range : mg "range" = none) (h_tuple : mg "tuple" = none) (F_is_pair : Fn P w K mg base 2 "is_pair" 2 S_is_pair) (F_need_of : Fn P w K mg base 5 "need_of" 2 S_need_of) (F_stages : Fn P w K mg base 3 "stages" 1 S_stages) : Fn P w K mg base 6 "judge_plan" 2 S_judge_plan := by
  have sc := sc_judge_plan
  refine fn_body (k := 5) (N := ["crossing", "value", "many", "k", "need", "pair"]) (m := m_judge_plan) F hm (F.bindsN (ps := ["crossing", "value"]) fun _ _ _ _ _ _ us hl => match us, hl with | [_, _], _ => rfl) sc (by decide) fun cdv A outer s H hr => ?_
  have hu := hr.u64
  have hv := hr.u65
  have hv1 := hr.u1
  unfold m_judge_plan
  exact (ss_cons (s_set sc.nd rfl (by first | exact Or.inl rfl | exact Or.inr rfl) (s_callB c_len rfl h_len (by decide +kernel) (a_cons (s_fn (F_stages.mono (by decide)) hr rfl (a_cons s_v a_nil) (aLen_cons aLen_nil)) a_nil)))
 (ss_cons (s_ifS (SW.t (w_or (t_not (t_of (s_isi rfl h_isinstance s_v rfl h_tuple (by decide +kernel)))) (w_or1 (t_not (t_of (s_callB (c_all rfl) rfl h_all (by decide +kernel) (a_cons (s_ofL (l_comp (own := [("pair", 5)]) ⟨rfl, sc.nd, (blk_of rfl (by kernel_rfl)), by decide, fun _ _ _ _ _ => (g_n sc.nd), fun _ _ _ _ _ => f_nil, fun _ _ _ _ _ => (s_fn (F_is_pair.mono (by decide)) hr rfl (a_cons s_v (a_cons s_v a_nil)) (aLen_cons (aLen_cons aLen_nil)))⟩ (i_seq s_v))) a_nil)))))))
 (ss_one (s_ret (s_tup (a_cons s_str a_nil))))
 ss_nil)
 (ss_cons (s_for PassesOwn.never rfl (i_rg2 rfl h_range s_int (s_callB c_len rfl h_len (by decide +kernel) (a_cons s_v a_nil))) (g_n sc.nd)
 (ss_one (s_ifS (t_cmp (od_eq hu) (s_ix (s_ix s_v s_v) s_int) (s_ix (s_ix s_v (s_bin od_sub s_v s_int)) s_int))
 (ss_one (s_ret (s_tup (a_cons s_str (a_cons s_v a_nil)))))
 ss_nil)))
 (ss_cons (s_set sc.nd rfl (by first | exact Or.inl rfl | exact Or.inr rfl) (s_fn (F_need_of.mono (by decide)) hr rfl (a_cons s_v (a_cons s_v a_nil)) (aLen_cons (aLen_cons aLen_nil))))
 (ss_one (s_ret (s_if (t_cmp od_le s_v (s_ix s_v s_int)) s_non (s_tup (a_cons s_str (a_cons s_v a_nil))))))))))
theorem sc_is_plan : FnScope ["crossing", "value"] ["crossing", "value"] (defScope st_is_plan) := ⟨rfl, rfl, rfl, by decide +kernel, rfl, by decide +kernel, by decide +kernel⟩
def m_is_plan : M Out :=
 (sRet (eBin isND (eFn S_judge_plan (aCons (eVar 0) (aCons (eVar 1) aNil))) (eC .non)))
def S_is_plan : FnSem := fnOf 2 m_is_plan
theorem w_is_plan {P : Program} {w : World} {K : PySem.W.Frag} {mg : Str → Option Value} {base : Heap} {f : Addr} {fd : FuncData} (F : FP K "is_plan" st_is_plan f fd) (hm : mg "is_plan" = some (.ref f)) (F_judge_plan : Fn P w K mg base 6 "judge_plan" 2 S_judge_plan) : Fn P w K mg base 7 "is_plan" 2 S_is_plan := by
  have sc := sc_is_plan
  refine fn_body (k := 6) (N := ["crossing", "value"]) (m := m_is_plan) F hm (F.bindsN (ps := ["crossing", "value"]) fun _ _ _ _ _ _ us hl => match us, hl with | [_, _], _ => rfl) sc (by decide) fun cdv A outer s H hr => ?_
  have hu := hr.u64
  have hv := hr.u65
  have hv1 := hr.u1
  unfold m_is_plan
  exact (ss_one (s_ret (s_cmp od_isN (s_fn (F_judge_plan.mono (by decide)) hr rfl (a_cons s_v (a_cons s_v a_nil)) (aLen_cons (aLen_cons aLen_nil))) s_non)))
theorem sc_capacity_of : FnScope ["crossing", "plan", "every", "found", "s", "ticks", "i", "movement"] ["crossing", "plan"] (defScope st_capacity_of) := ⟨rfl, rfl, rfl, by decide +kernel, rfl, by decide +kernel, by decide +kernel⟩
def m_capacity_of : M Out :=
 (sSeq (sPar [2, 3] (pVal (eFn S_stages (aCons (eVar 0) aNil)) (pOwn (eComp [7] (gN 7) (ret true) (eC (.int 0)) (iSeq (eBin ixD (eVar 0) (eC (.int 0))))) pNil)))
 (sSeq (sFor (iSeq (eVar 1)) (gT (gCons (gN 4) (gCons (gN 5) gNil)))
 (sFor (iSeq (eBin ixD (eVar 2) (eVar 4))) (gN 6)
 (sAugIx 3 (fun i j => i + j) (eVar 6) (eBin subD (eVar 5) (eC (.int 1))))))
 (sRet (eCall tupG (aCons (eFrz 3) aNil)))))
def S_capacity_of : FnSem := fnOf 8 m_capacity_of
theorem w_capacity_of {P : Program} {w : World} {K : PySem.W.Frag} {mg : Str → Option Value} {base : Heap} {f : Addr} {fd : FuncData} (F : FP K "capacity_of" st_capacity_of f fd) (hm : mg "capacity_of" = some (.ref f)) (h_tuple : mg "tuple" = none) (F_stages : Fn P w K mg base 3 "stages" 1 S_stages) : Fn P w K mg base 4 "capacity_of" 2 S_capacity_of := by
  have sc := sc_capacity_of
  refine fn_body (k := 3) (N := ["crossing", "plan", "every", "found", "s", "ticks", "i", "movement"]) (m := m_capacity_of) F hm (F.bindsN (ps := ["crossing", "plan"]) fun _ _ _ _ _ _ us hl => match us, hl with | [_, _], _ => rfl) sc (by decide) fun cdv A outer s H hr => ?_
  have hu := hr.u64
  have hv := hr.u65
  have hv1 := hr.u1
  unfold m_capacity_of
  exact (ss_cons (s_par2 rfl sc.nd rfl rfl (by decide) rfl rfl (p_val (s_fn (F_stages.mono (by decide)) hr rfl (a_cons s_v a_nil) (aLen_cons aLen_nil)) (p_own (l_comp (own := [("movement", 7)]) ⟨rfl, sc.nd, (blk_of rfl (by kernel_rfl)), by decide, fun _ _ _ _ _ => (g_n sc.nd), fun _ _ _ _ _ => f_nil, fun _ _ _ _ _ => s_int⟩ (i_seq (s_ix s_v s_int))) p_nil)) rfl)
 (ss_cons (s_for PassesOwn.never rfl (i_seq s_v) (g_tup rfl (gs_cons (g_n sc.nd) (gs_cons (g_n sc.nd) gs_nil)) rfl rfl (gCons_len (gCons_len gNil_len)))
 (ss_one (s_for PassesOwn.never rfl (i_seq (s_ix s_v s_v)) (g_n sc.nd)
 (ss_one (s_augIx pv s_v (s_bin od_sub s_v s_int) ip_add)))))
 (ss_one (s_ret (s_callT c_tup rfl h_tuple (by decide +kernel) (a_cons (s_frz pv) a_nil))))))
theorem sc_is_above : FnScope ["one", "other", "x", "y"] ["one", "other"] (defScope st_is_above) := ⟨rfl, rfl, rfl, by decide +kernel, rfl, by decide +kernel, by decide +kernel⟩
def m_is_above : M Out :=
 (sRet (eAnd (eBin neD (eVar 0) (eVar 1)) (eCall allG (aCons (eLst (eComp [2, 3] (gT (gCons (gN 2) (gCons (gN 3) gNil))) (ret true) (eBin geD (eVar 2) (eVar 3)) (iZip2 (eVar 0) (eVar 1)))) aNil))))
def S_is_above : FnSem := fnOf 4 m_is_above
theorem w_is_above {P : Program} {w : World} {K : PySem.W.Frag} {mg : Str → Option Value} {base : Heap} {f : Addr} {fd : FuncData} (F : FP K "is_above" st_is_above f fd) (hm : mg "is_above" = some (.ref f)) (h_all : mg "all" = none) (h_zip : mg "zip" = none) : Fn P w K mg base 1 "is_above" 2 S_is_above := by
  have sc := sc_is_above
  refine fn_body (k := 0) (N := ["one", "other", "x", "y"]) (m := m_is_above) F hm (F.bindsN (ps := ["one", "other"]) fun _ _ _ _ _ _ us hl => match us, hl with | [_, _], _ => rfl) sc (by decide) fun cdv A outer s H hr => ?_
  have hu := hr.u64
  have hv := hr.u65
  have hv1 := hr.u1
  unfold m_is_above
  exact (ss_one (s_ret (s_and (s_cmp (od_ne hu) s_v s_v) (s_one (s_callB (c_all rfl) rfl h_all (by decide +kernel) (a_cons (s_ofL (l_comp (own := [("x", 2), ("y", 3)]) ⟨rfl, sc.nd, (blk_of rfl (by kernel_rfl)), by decide, fun _ _ _ _ _ => (g_tup rfl (gs_cons (g_n sc.nd) (gs_cons (g_n sc.nd) gs_nil)) rfl rfl (gCons_len (gCons_len gNil_len))), fun _ _ _ _ _ => f_nil, fun _ _ _ _ _ => (s_cmp od_ge s_v s_v)⟩ (i_zip2 rfl h_zip s_v s_v))) a_nil))))))
theorem sc_greens : FnScope ["crossing", "plan", "every", "found", "tick", "s", "ticks", "i"] ["crossing", "plan"] (defScope st_greens) := ⟨rfl, rfl, rfl, by decide +kernel, rfl, by decide +kernel, by decide +kernel⟩
def m_greens : M Out :=
 (sSeq (sPar [2, 3, 4] (pVal (eFn S_stages (aCons (eVar 0) aNil)) (pOwn (lDisp aNil) (pVal (eC (.int 0)) pNil))))
 (sSeq (sFor (iSeq (eVar 1)) (gT (gCons (gN 5) (gCons (gN 6) gNil)))
 (sSeq (sExpr (eExt 3 (eLst (eComp [7] (gN 7) (ret true) (eTup (aCons (eVar 7) (aCons (eVar 4) (aCons (eBin addD (eVar 4) (eVar 6)) aNil)))) (iSeq (eBin ixD (eVar 2) (eVar 5)))))))
 (sAug 4 (fun i j => i + j) (eBin addD (eVar 6) (eFn S_clear_ticks (aCons (eVar 0) (aCons (eVar 5) aNil)))))))
 (sRet (eCall tupG (aCons (eLst (eCallL srtG (aCons (eFrz 3) aNil))) aNil)))))
def S_greens : FnSem := fnOf 8 m_greens
theorem w_greens {P : Program} {w : World} {K : PySem.W.Frag} {mg : Str → Option Value} {base : Heap} {f : Addr} {fd : FuncData} (F : FP K "greens" st_greens f fd) (hm : mg "greens" = some (.ref f)) (h_sorted : mg "sorted" = none) (h_tuple : mg "tuple" = none) (F_clear_ticks : Fn P w K mg base 4 "clear_ticks" 2 S_clear_ticks) (F_stages : Fn P w K mg base 3 "stages" 1 S_stages) : Fn P w K mg base 5 "greens" 2 S_greens := by
  have sc := sc_greens
  refine fn_body (k := 4) (N := ["crossing", "plan", "every", "found", "tick", "s", "ticks", "i"]) (m := m_greens) F hm (F.bindsN (ps := ["crossing", "plan"]) fun _ _ _ _ _ _ us hl => match us, hl with | [_, _], _ => rfl) sc (by decide) fun cdv A outer s H hr => ?_
  have hu := hr.u64
  have hv := hr.u65
  have hv1 := hr.u1
  unfold m_greens
  exact (ss_cons (s_parT rfl (by decide) (pgs_name sc.nd rfl (by first | exact Or.inl rfl | exact Or.inr rfl) (pgs_name sc.nd rfl (by first | exact Or.inl rfl | exact Or.inr rfl) (pgs_name sc.nd rfl (by first | exact Or.inl rfl | exact Or.inr rfl) pgs_none))) (p_val (s_fn (F_stages.mono (by decide)) hr rfl (a_cons s_v a_nil) (aLen_cons aLen_nil)) (p_own (l_dsp a_nil) (p_val s_int p_nil))))
 (ss_cons (s_for PassesOwn.never rfl (i_seq s_v) (g_tup rfl (gs_cons (g_n sc.nd) (gs_cons (g_n sc.nd) gs_nil)) rfl rfl (gCons_len (gCons_len gNil_len)))
 (ss_cons (s_expr (s_extend pv (s_ofL (l_comp (own := [("i", 7)]) ⟨rfl, sc.nd, (blk_of rfl (by kernel_rfl)), by decide, fun _ _ _ _ _ => (g_n sc.nd), fun _ _ _ _ _ => f_nil, fun _ _ _ _ _ => (s_tup (a_cons s_v (a_cons s_v (a_cons (s_bin od_add s_v s_v) a_nil))))⟩ (i_seq (s_ix s_v s_v))))))
 (ss_one (s_aug sc.nd rfl (by first | exact Or.inl rfl | exact Or.inr rfl) (s_bin od_add s_v (s_fn (F_clear_ticks.mono (by decide)) hr rfl (a_cons s_v (a_cons s_v a_nil)) (aLen_cons (aLen_cons aLen_nil)))) ip_add))))
 (ss_one (s_ret (s_callT c_tup rfl h_tuple (by decide +kernel) (a_cons (s_ofL (l_callB (c_srt hr) rfl h_sorted boot_sorted (a_cons (s_frz pv) a_nil))) a_nil))))))
theorem sc_lamps_at : FnScope ["crossing", "plan", "tick", "i", "begin", "end"] ["crossing", "plan", "tick"] (defScope st_lamps_at) := ⟨rfl, rfl, rfl, by decide +kernel, rfl, by decide +kernel, by decide +kernel⟩
def m_lamps_at : M Out :=
 (sRet (eCall tupG (aCons (eLst (eComp [3, 4, 5] (gT (gCons (gN 3) (gCons (gN 4) (gCons (gN 5) gNil)))) (tst (eChain leD ltD (eVar 4) (eVar 2) (eVar 5))) (eVar 3) (iSeq (eFn S_greens (aCons (eVar 0) (aCons (eVar 1) aNil)))))) aNil)))
def S_lamps_at : FnSem := fnOf 6 m_lamps_at
theorem w_lamps_at {P : Program} {w : World} {K : PySem.W.Frag} {mg : Str → Option Value} {base : Heap} {f : Addr} {fd : FuncData} (F : FP K "lamps_at" st_lamps_at f fd) (hm : mg "lamps_at" = some (.ref f)) (h_tuple : mg "tuple" = none) (F_greens : Fn P w K mg base 5 "greens" 2 S_greens) : Fn P w K mg base 6 "lamps_at" 3 S_lamps_at := by
  have sc := sc_lamps_at
  refine fn_body (k := 5) (N := ["crossing", "plan", "tick", "i", "begin", "end"]) (m := m_lamps_at) F hm (F.bindsN (ps := ["crossing", "plan", "tick"]) fun _ _ _ _ _ _ us hl => match us, hl with | [_, _, _], _ => rfl) sc (by decide) fun cdv A outer s H hr => ?_
  have hu := hr.u64
  have hv := hr.u65
  have hv1 := hr.u1
  unfold m_lamps_at
  exact (ss_one (s_ret (s_callT c_tup rfl h_tuple (by decide +kernel) (a_cons (s_ofL (l_comp (own := [("i", 3), ("begin", 4), ("end", 5)]) ⟨rfl, sc.nd, (blk_of rfl (by kernel_rfl)), by decide, fun _ _ _ _ _ => (g_tup rfl (gs_cons (g_n sc.nd) (gs_cons (g_n sc.nd) (gs_cons (g_n sc.nd) gs_nil))) rfl rfl (gCons_len (gCons_len (gCons_len gNil_len)))), fun _ _ _ _ _ => (f_one (t_chain od_le od_lt s_v s_v s_v)), fun _ _ _ _ _ => s_v⟩ (i_seq (s_fn (F_greens.mono (by decide)) hr rfl (a_cons s_v (a_cons s_v a_nil)) (aLen_cons (aLen_cons aLen_nil)))))) a_nil))))
theorem sc_lamp_rows : FnScope ["crossing", "plans", "found", "plan", "tick"] ["crossing", "plans"] (defScope st_lamp_rows) := ⟨rfl, rfl, rfl, by decide +kernel, rfl, by decide +kernel, by decide +kernel⟩
def m_lamp_rows : M Out :=
 (sSeq (sOwn 2 (lDisp aNil))
 (sSeq (sFor (iSeq (eVar 1)) (gN 3)
 (sExpr (eExt 2 (eLst (eComp [4] (gN 4) (ret true) (eFn S_lamps_at (aCons (eVar 0) (aCons (eVar 3) (aCons (eVar 4) aNil)))) (iRg1 (eBin ixD (eVar 0) (eC (.int 2)))))))))
 (sRet (eFrz 2))))
def S_lamp_rows : FnSem := fnOf 5 m_lamp_rows
theorem w_lamp_rows {P : Program} {w : World} {K : PySem.W.Frag} {mg : Str → Option Value} {base : Heap} {f : Addr} {fd : FuncData} (F : FP K "lamp_rows" st_lamp_rows f fd) (hm : mg "lamp_rows" = some (.ref f)) (h_range : mg "range" = none) (F_lamps_at : Fn P w K mg base 6 "lamps_at" 3 S_lamps_at) : Fn P w K mg base 7 "lamp_rows" 2 S_lamp_rows := by
  have sc := sc_lamp_rows
  refine fn_body (k := 6) (N := ["crossing", "plans", "found", "plan", "tick"]) (m := m_lamp_rows) F hm (F.bindsN (ps := ["crossing", "plans"]) fun _ _ _ _ _ _ us hl => match us, hl with | [_, _], _ => rfl) sc (by decide) fun cdv A outer s H hr => ?_
  have hu := hr.u64
  have hv := hr.u65
  have hv1 := hr.u1
  unfold m_lamp_rows
  exact (ss_cons (s_own sc.nd rfl (by first | exact Or.inl rfl | exact Or.inr rfl) (l_dsp a_nil))
 (ss_cons (s_for PassesOwn.never rfl (i_seq s_v) (g_n sc.nd)
 (ss_one (s_expr (s_extend pv (s_ofL (l_comp (own := [("tick", 4)]) ⟨rfl, sc.nd, (blk_of rfl (by kernel_rfl)), by decide, fun _ _ _ _ _ => (g_n sc.nd), fun _ _ _ _ _ => f_nil, fun _ _ _ _ _ => (s_fn (F_lamps_at.mono (by decide)) hr rfl (a_cons s_v (a_cons s_v (a_cons s_v a_nil))) (aLen_cons (aLen_cons (aLen_cons aLen_nil))))⟩ (i_rg1 rfl h_range (s_ix s_v s_int))))))))
 (ss_one (s_ret (s_frz pv)))))
theorem sc_first_crossed : FnScope ["crossing", "rows", "tick", "row", "i", "j"] ["crossing", "rows"] (defScope st_first_crossed) := ⟨rfl, rfl, rfl, by decide +kernel, rfl, by decide +kernel, by decide +kernel⟩
def m_first_crossed : M Out :=
 (sSeq (sFor (iEnum (eVar 1)) (gT (gCons (gN 2) (gCons (gN 3) gNil)))
 (sFor (iSeq (eVar 3)) (gN 4)
 (sFor (iSeq (eVar 3)) (gN 5)
 (sIf (tAnd2 (tst (eBin ltD (eVar 4) (eVar 5))) (tru (eFn S_do_cross (aCons (eVar 0) (aCons (eVar 4) (aCons (eVar 5) aNil))))))
 (sRet (eTup (aCons (eC (.str "crossed")) (aCons (eVar 2) (aCons (eVar 4) (aCons (eVar 5) aNil))))))
 sNx))))
 (sRet (eC .non)))
def S_first_crossed : FnSem := fnOf 6 m_first_crossed
theorem w_first_crossed {P : Program} {w : World} {K : PySem.W.Frag} {mg : Str → Option Value} {base : Heap} {f : Addr} {fd : FuncData} (F : FP K "first_crossed" st_first_crossed f fd) (hm : mg "first_crossed" = some (.ref f)) (h_enumerate : mg "enumerate" = none) (F_do_cross : Fn P w K mg base 1 "do_cross" 3 S_do_cross) : Fn P w K mg base 2 "first_crossed" 2 S_first_crossed := by
  have sc := sc_first_crossed
  refine fn_body (k := 1) (N := ["crossing", "rows", "tick", "row", "i", "j"]) (m := m_first_crossed) F hm (F.bindsN (ps := ["crossing", "rows"]) fun _ _ _ _ _ _ us hl => match us, hl with | [_, _], _ => rfl) sc (by decide) fun cdv A outer s H hr => ?_
  have hu := hr.u64
  have hv := hr.u65
  have hv1 := hr.u1
  unfold m_first_crossed
  exact (ss_cons (s_for PassesOwn.never rfl (i_enum rfl h_enumerate s_v) (g_tup rfl (gs_cons (g_n sc.nd) (gs_cons (g_n sc.nd) gs_nil)) rfl rfl (gCons_len (gCons_len gNil_len)))
 (ss_one (s_for PassesOwn.never rfl (i_seq s_v) (g_n sc.nd)
 (ss_one (s_for PassesOwn.never rfl (i_seq s_v) (g_n sc.nd)
 (ss_one (s_ifS (SW.t (w_and (t_cmp od_lt s_v s_v) (w_and1 (t_of (s_fn (F_do_cross.mono (by decide)) hr rfl (a_cons s_v (a_cons s_v (a_cons s_v a_nil))) (aLen_cons (aLen_cons (aLen_cons aLen_nil))))))))
 (ss_one (s_ret (s_tup (a_cons s_str (a_cons s_v (a_cons s_v (a_cons s_v a_nil)))))))
 ss_nil)))))))
 (ss_one (s_ret s_non)))
theorem sc_first_early : FnScope ["crossing", "rows", "last", "tick", "row", "ahead", "i", "j"] ["crossing", "rows"] (defScope st_first_early) := ⟨rfl, rfl, rfl, by decide +kernel, rfl, by decide +kernel, by decide +kernel⟩
def m_first_early : M Out :=
 (sSeq (sOwnN 2 nK0)
 (sSeq (sFor (iEnum (eVar 1)) (gT (gCons (gN 3) (gCons (gN 4) gNil)))
 (sSeq (sSet 5 (eIf (tst (eBin gtD (eVar 3) (eC (.int 0)))) (eBin ixD (eVar 1) (eBin subD (eVar 3) (eC (.int 1)))) (eTup aNil)))
 (sSeq (sFor (iSeq (eSrtO 2)) (gN 6)
 (sFor (iSeq (eVar 4)) (gN 7)
 (sIf (tAnd2 (tst (eBin ninD (eVar 7) (eVar 5))) (tAnd2 (tru (eFn S_do_cross (aCons (eVar 0) (aCons (eVar 6) (aCons (eVar 7) aNil))))) (tst (eBin ltD (eBin subD (eBin subD (eVar 3) (eDgO 2 (eVar 6))) (eC (.int 1))) (eFn S_clearance (aCons (eVar 0) (aCons (eVar 6) (aCons (eVar 7) aNil))))))))
 (sRet (eTup (aCons (eC (.str "early")) (aCons (eVar 3) (aCons (eVar 6) (aCons (eVar 7) aNil))))))
 sNx)))
 (sFor (iSeq (eVar 4)) (gN 6)
 (sPutD 2 (eVar 3) (eVar 6))))))
 (sRet (eC .non))))
def S_first_early : FnSem := fnOf 8 m_first_early
theorem w_first_early {P : Program} {w : World} {K : PySem.W.Frag} {mg : Str → Option Value} {base : Heap} {f : Addr} {fd : FuncData} (F : FP K "first_early" st_first_early f fd) (hm : mg "first_early" = some (.ref f)) (h_enumerate : mg "enumerate" = none) (h_sorted : mg "sorted" = none) (F_clearance : Fn P w K mg base 1 "clearance" 3 S_clearance) (F_do_cross : Fn P w K mg base 1 "do_cross" 3 S_do_cross) : Fn P w K mg base 2 "first_early" 2 S_first_early := by
  have sc := sc_first_early
  refine fn_body (k := 1) (N := ["crossing", "rows", "last", "tick", "row", "ahead", "i", "j"]) (m := m_first_early) F hm (F.bindsN (ps := ["crossing", "rows"]) fun _ _ _ _ _ _ us hl => match us, hl with | [_, _], _ => rfl) sc (by decide) fun cdv A outer s H hr => ?_
  have hu := hr.u64
  have hv := hr.u65
  have hv1 := hr.u1
  unfold m_first_early
  exact (ss_cons (s_ownN sc.nd rfl (by first | exact Or.inl rfl | exact Or.inr rfl) n_dK)
 (ss_cons (s_for PassesOwn.never rfl (i_enum rfl h_enumerate s_v) (g_tup rfl (gs_cons (g_n sc.nd) (gs_cons (g_n sc.nd) gs_nil)) rfl rfl (gCons_len (gCons_len gNil_len)))
 (ss_cons (s_set sc.nd rfl (by first | exact Or.inl rfl | exact Or.inr rfl) (s_if (t_cmp od_gt s_v s_int) (s_ix s_v (s_bin od_sub s_v s_int)) (s_tup a_nil)))
 (ss_cons (s_for PassesOwn.never rfl (i_seq (s_srtO rfl rfl h_sorted pv)) (g_n sc.nd)
 (ss_one (s_for PassesOwn.never rfl (i_seq s_v) (g_n sc.nd)
 (ss_one (s_ifS (SW.t (w_and (t_cmp (od_nin hv) s_v s_v) (w_and (t_of (s_fn (F_do_cross.mono (by decide)) hr rfl (a_cons s_v (a_cons s_v (a_cons s_v a_nil))) (aLen_cons (aLen_cons (aLen_cons aLen_nil))))) (w_and1 (t_cmp od_lt (s_bin od_sub (s_bin od_sub s_v (s_dgO hv1 pv s_v)) s_int) (s_fn (F_clearance.mono (by decide)) hr rfl (a_cons s_v (a_cons s_v (a_cons s_v a_nil))) (aLen_cons (aLen_cons (aLen_cons aLen_nil)))))))))
 (ss_one (s_ret (s_tup (a_cons s_str (a_cons s_v (a_cons s_v (a_cons s_v a_nil)))))))
 ss_nil)))))
 (ss_one (s_for PassesOwn.never rfl (i_seq s_v) (g_n sc.nd)
 (ss_one (s_putD hv1 pv s_v s_v)))))))
 (ss_one (s_ret s_non))))
theorem sc_judge_lamps : FnScope ["crossing", "rows", "fault"] ["crossing", "rows"] (defScope st_judge_lamps) := ⟨rfl, rfl, rfl, by decide +kernel, rfl, by decide +kernel, by decide +kernel⟩
def m_judge_lamps : M Out :=
 (sSeq (sSet 2 (eFn S_first_crossed (aCons (eVar 0) (aCons (eVar 1) aNil))))
 (sRet (eIf (tst (eBin notND (eVar 2) (eC .non))) (eVar 2) (eFn S_first_early (aCons (eVar 0) (aCons (eVar 1) aNil))))))
def S_judge_lamps : FnSem := fnOf 3 m_judge_lamps
theorem w_judge_lamps {P : Program} {w : World} {K : PySem.W.Frag} {mg : Str → Option Value} {base : Heap} {f : Addr} {fd : FuncData} (F : FP K "judge_lamps" st_judge_lamps f fd) (hm : mg "judge_lamps" = some (.ref f)) (F_first_crossed : Fn P w K mg base 2 "first_crossed" 2 S_first_crossed) (F_first_early : Fn P w K mg base 2 "first_early" 2 S_first_early) : Fn P w K mg base 3 "judge_lamps" 2 S_judge_lamps := by
  have sc := sc_judge_lamps
  refine fn_body (k := 2) (N := ["crossing", "rows", "fault"]) (m := m_judge_lamps) F hm (F.bindsN (ps := ["crossing", "rows"]) fun _ _ _ _ _ _ us hl => match us, hl with | [_, _], _ => rfl) sc (by decide) fun cdv A outer s H hr => ?_
  have hu := hr.u64
  have hv := hr.u65
  have hv1 := hr.u1
  unfold m_judge_lamps
  exact (ss_cons (s_set sc.nd rfl (by first | exact Or.inl rfl | exact Or.inr rfl) (s_fn (F_first_crossed.mono (by decide)) hr rfl (a_cons s_v (a_cons s_v a_nil)) (aLen_cons (aLen_cons aLen_nil))))
 (ss_one (s_ret (s_if (t_cmp od_notN s_v s_non) s_v (s_fn (F_first_early.mono (by decide)) hr rfl (a_cons s_v (a_cons s_v a_nil)) (aLen_cons (aLen_cons aLen_nil)))))))
theorem sc__law_open_cells : FnScope ["script", "stirred", "cell", "cells"] ["script"] (defScope st__law_open_cells) := ⟨rfl, rfl, rfl, by decide +kernel, rfl, by decide +kernel, by decide +kernel⟩
theorem w__law_open_cells {k : Nat} {P : Program} {w : World} {K : PySem.W.Frag} {mg : Str → Option Value} {base : Heap} {f : Addr} {fd : FuncData} (F : FP K "_law_open_cells" st__law_open_cells f fd) (hm : mg "_law_open_cells" = some (.ref f)) (h_int : mg "int" = none) (h_abs : mg "abs" = none) : FnW P w K mg base (k + 1) "_law_open_cells" (spOpen K) := by
  have sc := sc__law_open_cells
  refine fn_raw F hm (F.bindsN (ps := ["script"]) fun _ _ _ _ _ _ us hl => match us, hl with | [_], _ => rfl) sc (fun vs H Q h => by obtain ⟨a, ns, rfl, _⟩ := h; rfl) (fun cdv A outer s H hr => ?_) open_pure
  exact pss_cons (ps_set sc.nd rfl (by first | exact Or.inl rfl | exact Or.inr rfl) pe_int)
    (pss_cons (ps_for PassesOwn.never rfl (pi_list pv) (pg_name sc.nd rfl (by first | exact Or.inl rfl | exact Or.inr rfl)) (pss_one (ps_set sc.nd rfl (by first | exact Or.inl rfl | exact Or.inr rfl)
      (pe_op op_modN (pe_callTy call_int1 rfl h_int (by decide +kernel) (pa_cons (pe_op op_add (pe_op op_add (pe_op op_mul pv pe_int) (pe_op op_mul pv pe_int)) pe_int) pa_nil)) pe_int))))
    (pss_cons (ps_setLc (own := [("cell", 2)]) rfl sc.nd rfl rfl rfl (pi_list pv) (blk_of rfl (by kernel_rfl)) (fun _ _ _ _ _ => pg_name sc.nd rfl (by first | exact Or.inl rfl | exact Or.inr rfl)) (fun _ _ _ _ _ => pts_nil) (fun _ _ _ _ _ => pe_callB call_abs rfl h_abs (by decide +kernel) (pa_cons pv pa_nil)))
    (pss_one (ps_ret (pe_disp (pps_cons pe_str (pe_revL pv) (pps_cons pe_str pe_int (pps_cons pe_str pv (pps_cons pe_str pe_int pps_nil)))) rfl rfl (by simp) (by decide))))))
theorem sc__law_pick : FnScope ["source", "most", "cells", "others", "lap", "stirred"] ["source", "most"] (defScope st__law_pick) := ⟨rfl, rfl, rfl, by decide +kernel, rfl, by decide +kernel, by decide +kernel⟩
def S__law_pick : FnSem := S_pick
theorem w__law_pick {P : Program} {w : World} {K : PySem.W.Frag} {mg : Str → Option Value} {base : Heap} {f : Addr} {fd : FuncData} (F : FP K "_law_pick" st__law_pick f fd) (hm : mg "_law_pick" = some (.ref f)) (h_int : mg "int" = none) (h_len : mg "len" = none) : Fn P w K mg base 1 "_law_pick" 2 S__law_pick := by
  have sc := sc__law_pick
  refine fn_body (N := ["source", "most", "cells", "others", "lap", "stirred"]) (m := mPick) F hm (F.bindsN (ps := ["source", "most"]) fun _ _ _ _ _ _ us hl => match us, hl with | [_, _], _ => rfl) sc (by decide) fun cdv A outer s H hr => ?_
  have hu := hr.u1
  have lo : ∀ i : Nat, True := fun _ => trivial
  unfold mPick
  refine ss_cons (s_ifS (t_cmp od_lt s_v s_int) (ss_one (s_ret s_int)) ss_nil) ?_
  refine s_drain (by decide) (ps_set sc.nd rfl (by first | exact Or.inl rfl | exact Or.inr rfl) (pe_dget hu pv pe_str (fun _ _ => rfl)))
    (ps_while PassesOwn.never (PW.pt (pw_and (pt_cmpR op_lt (pe_dget hu pv pe_str (fun _ _ => rfl)) pe_int rfl) (pw_and1 (pt_cmpR op_gt (pe_callB call_len rfl h_len (by decide +kernel) (pa_cons pv pa_nil)) pe_int rfl))))
      (pss_one (ps_dput hu pv pe_str (pe_bm0 PySem.F.plainAttrs_list PySem.F.slot_list_pop PySem.F.type_list_pop mt_pop pv) rfl))) ?_
  have fl : ∀ s c, valV (srcKvs c s) (.inr (Str.ofString "left")) = some (.int s.left) := fun _ _ => rfl
  have ft : ∀ s c, valV (srcKvs c s) (.inr (Str.ofString "turn")) = some (.int s.turn) := fun _ _ => rfl
  have fm : ∀ s c, valV (srcKvs c s) (.inr (Str.ofString "mixed")) = some (.int s.mixed) := fun _ _ => rfl
  have pl : ∀ (s : Src) (z : Int) (c : Addr), putK (srcKvs c s) (.inr (Str.ofString "left")) (.int z) = srcKvs c { s with left := z } := fun _ _ _ => rfl
  have pt : ∀ (s : Src) (z : Int) (c : Addr), putK (srcKvs c s) (.inr (Str.ofString "turn")) (.int z) = srcKvs c { s with turn := z } := fun _ _ _ => rfl
  refine ss_cons (s_set sc.nd rfl (by first | exact Or.inl rfl | exact Or.inr rfl) (s_fld (ky := "left") pv hu fl)) ?_
  refine ss_cons (s_ifS (t_cmp od_gt s_v s_int) (ss_cons (s_fldSet (ky := "left") pv hu (s_bin od_fdiv s_v s_v) pl (fun _ _ => rfl)) (ss_one (s_ret (s_bin od_mod (s_callT c_int rfl h_int (by decide +kernel) (a_cons s_v a_nil)) s_v)))) ss_nil) ?_
  refine ss_cons (s_fldSet (ky := "turn") pv hu (s_bin od_add (s_fld (ky := "turn") pv hu ft) s_int) pt (fun _ _ => rfl)) ?_
  refine ss_cons (s_set sc.nd rfl (by first | exact Or.inl rfl | exact Or.inr rfl) (s_fld (ky := "turn") pv hu ft)) ?_
  refine ss_cons (s_set sc.nd rfl (by first | exact Or.inl rfl | exact Or.inr rfl) (s_bin od_mod (s_callT c_int rfl h_int (by decide +kernel) (a_cons (s_bin od_add (s_fld (ky := "mixed") pv hu fm) (s_bin od_mul s_v s_int)) a_nil)) s_int)) ?_
  refine ss_cons (s_set sc.nd rfl (by first | exact Or.inl rfl | exact Or.inr rfl) (s_bin od_mod (s_callT c_int rfl h_int (by decide +kernel) (a_cons (s_bin od_add (s_bin od_mul s_v s_v) (s_bin od_mul s_v s_int)) a_nil)) s_int)) ?_
  exact ss_one (s_ret (s_bin od_mod (s_callT c_int rfl h_int (by decide +kernel) (a_cons (s_bin od_fdiv s_v s_int) a_nil)) s_v))
theorem sc__law_any_order : FnScope ["source", "things", "others", "lap"] ["source", "things"] (defScope st__law_any_order) := ⟨rfl, rfl, rfl, by decide +kernel, rfl, by decide +kernel, by decide +kernel⟩
def m__law_any_order : M Out :=
 (sSeq (sOwn 2 (eCallL lstG (aCons (eVar 1) aNil)))
 (sRet (eLst (eComp [3] (gN 3) (ret true) (ePopAt 2 (eFn S__law_pick (aCons (eVar 0) (aCons (eBor [2] (eCall lenG (aCons (eVar 2) aNil))) aNil)))) (iRg1 (eBor [2] (eCall lenG (aCons (eVar 2) aNil))))))))
def S__law_any_order : FnSem := fnOf 4 m__law_any_order
theorem w__law_any_order {P : Program} {w : World} {K : PySem.W.Frag} {mg : Str → Option Value} {base : Heap} {f : Addr} {fd : FuncData} (F : FP K "_law_any_order" st__law_any_order f fd) (hm : mg "_law_any_order" = some (.ref f)) (h_len : mg "len" = none) (h_list : mg "list" = none) (h_range : mg "range" = none) (F__law_pick : Fn P w K mg base 1 "_law_pick" 2 S__law_pick) : Fn P w K mg base 2 "_law_any_order" 2 S__law_any_order := by
  have sc := sc__law_any_order
  refine fn_body (k := 1) (N := ["source", "things", "others", "lap"]) (m := m__law_any_order) F hm (F.bindsN (ps := ["source", "things"]) fun _ _ _ _ _ _ us hl => match us, hl with | [_, _], _ => rfl) sc (by decide) fun cdv A outer s H hr => ?_
  have hu := hr.u64
  have hv := hr.u65
  have hv1 := hr.u1
  unfold m__law_any_order
  exact (ss_cons (s_own sc.nd rfl (by first | exact Or.inl rfl | exact Or.inr rfl) (l_callT c_lst rfl h_list boot_list (a_cons s_v a_nil)))
 (ss_one (s_ret (s_ofL (l_comp (own := [("lap", 3)]) ⟨rfl, sc.nd, (blk_of rfl (by kernel_rfl)), by decide, fun _ _ _ _ _ => (g_n sc.nd), fun _ _ _ _ _ => f_nil, fun _ _ _ _ _ => (s_popAt pv (s_fn (F__law_pick.mono (by decide)) hr rfl (a_cons s_v (a_cons (s_bor (s_callB c_len rfl h_len (by decide +kernel) (a_cons s_v a_nil))) a_nil)) (aLen_cons (aLen_cons aLen_nil))))⟩ (i_rg1 rfl h_range (s_bor (s_callB c_len rfl h_len (by decide +kernel) (a_cons s_v a_nil)))))))))
theorem sc__law_clearance : FnScope ["crossing", "i", "j", "a", "b", "late", "early"] ["crossing", "i", "j"] (defScope st__law_clearance) := ⟨rfl, rfl, rfl, by decide +kernel, rfl, by decide +kernel, by decide +kernel⟩
def m__law_clearance : M Out :=
 (sSeq (sFor (iSeq (eBin ixD (eVar 0) (eC (.int 1)))) (gT (gCons (gN 3) (gCons (gN 4) (gCons (gN 5) (gCons (gN 6) gNil)))))
 (sSeq (sIf (tst (eBin eqD (eTup (aCons (eVar 3) (aCons (eVar 4) aNil))) (eTup (aCons (eVar 1) (aCons (eVar 2) aNil)))))
 (sRet (eVar 5))
 sNx)
 (sIf (tst (eBin eqD (eTup (aCons (eVar 3) (aCons (eVar 4) aNil))) (eTup (aCons (eVar 2) (aCons (eVar 1) aNil)))))
 (sRet (eVar 6))
 sNx)))
 (sRet (eC .non)))
def S__law_clearance : FnSem := fnOf 7 m__law_clearance
theorem w__law_clearance {P : Program} {w : World} {K : PySem.W.Frag} {mg : Str → Option Value} {base : Heap} {f : Addr} {fd : FuncData} (F : FP K "_law_clearance" st__law_clearance f fd) (hm : mg "_law_clearance" = some (.ref f)) : Fn P w K mg base 1 "_law_clearance" 3 S__law_clearance := by
  have sc := sc__law_clearance
  refine fn_body (k := 0) (N := ["crossing", "i", "j", "a", "b", "late", "early"]) (m := m__law_clearance) F hm (F.bindsN (ps := ["crossing", "i", "j"]) fun _ _ _ _ _ _ us hl => match us, hl with | [_, _, _], _ => rfl) sc (by decide) fun cdv A outer s H hr => ?_
  have hu := hr.u64
  have hv := hr.u65
  have hv1 := hr.u1
  unfold m__law_clearance
  exact (ss_cons (s_for PassesOwn.never rfl (i_seq (s_ix s_v s_int)) (g_tup rfl (gs_cons (g_n sc.nd) (gs_cons (g_n sc.nd) (gs_cons (g_n sc.nd) (gs_cons (g_n sc.nd) gs_nil)))) rfl rfl (gCons_len (gCons_len (gCons_len (gCons_len gNil_len)))))
 (ss_cons (s_ifS (t_cmp (od_eq hu) (s_tup (a_cons s_v (a_cons s_v a_nil))) (s_tup (a_cons s_v (a_cons s_v a_nil))))
 (ss_one (s_ret s_v))
 ss_nil)
 (ss_one (s_ifS (t_cmp (od_eq hu) (s_tup (a_cons s_v (a_cons s_v a_nil))) (s_tup (a_cons s_v (a_cons s_v a_nil))))
 (ss_one (s_ret s_v))
 ss_nil))))
 (ss_one (s_ret s_non)))
theorem sc__law_crosses_one : FnScope ["crossing", "lot", "i", "j"] ["crossing", "lot", "i"] (defScope st__law_crosses_one) := ⟨rfl, rfl, rfl, by decide +kernel, rfl, by decide +kernel, by decide +kernel⟩
def m__law_crosses_one : M Out :=
 (sRet (eCall anyG (aCons (eLst (eComp [3] (gN 3) (tst (eBin neD (eVar 3) (eVar 2))) (eBin notND (eFn S__law_clearance (aCons (eVar 0) (aCons (eVar 2) (aCons (eVar 3) aNil)))) (eC .non)) (iSeq (eVar 1)))) aNil)))
def S__law_crosses_one : FnSem := fnOf 4 m__law_crosses_one
theorem w__law_crosses_one {P : Program} {w : World} {K : PySem.W.Frag} {mg : Str → Option Value} {base : Heap} {f : Addr} {fd : FuncData} (F : FP K "_law_crosses_one" st__law_crosses_one f fd) (hm : mg "_law_crosses_one" = some (.ref f)) (h_any : mg "any" = none) (F__law_clearance : Fn P w K mg base 1 "_law_clearance" 3 S__law_clearance) : Fn P w K mg base 2 "_law_crosses_one" 3 S__law_crosses_one := by
  have sc := sc__law_crosses_one
  refine fn_body (k := 1) (N := ["crossing", "lot", "i", "j"]) (m := m__law_crosses_one) F hm (F.bindsN (ps := ["crossing", "lot", "i"]) fun _ _ _ _ _ _ us hl => match us, hl with | [_, _, _], _ => rfl) sc (by decide) fun cdv A outer s H hr => ?_
  have hu := hr.u64
  have hv := hr.u65
  have hv1 := hr.u1
  unfold m__law_crosses_one
  exact (ss_one (s_ret (s_callB (c_any rfl) rfl h_any (by decide +kernel) (a_cons (s_ofL (l_comp (own := [("j", 3)]) ⟨rfl, sc.nd, (blk_of rfl (by kernel_rfl)), by decide, fun _ _ _ _ _ => (g_n sc.nd), fun _ _ _ _ _ => (f_one (t_cmp (od_ne hu) s_v s_v)), fun _ _ _ _ _ => (s_cmp od_notN (s_fn (F__law_clearance.mono (by decide)) hr rfl (a_cons s_v (a_cons s_v (a_cons s_v a_nil))) (aLen_cons (aLen_cons (aLen_cons aLen_nil)))) s_non)⟩ (i_seq s_v))) a_nil))))
theorem sc__law_stages : FnScope ["crossing", "many", "lots", "i", "found", "lot"] ["crossing"] (defScope st__law_stages) := ⟨rfl, rfl, rfl, by decide +kernel, rfl, by decide +kernel, by decide +kernel⟩
def m__law_stages : M Out :=
 (sSeq (sPar [1, 2] (pVal (eCall lenG (aCons (eBin ixD (eVar 0) (eC (.int 0))) aNil)) (pVal (eLst (lDisp (aCons (eLst (lDisp aNil)) aNil))) pNil)))
 (sSeq (sFor (iRg1 (eVar 1)) (gN 3)
 (sSet 2 (eBin addD (eVar 2) (eLst (eComp [5] (gN 5) (tNot1 (tru (eFn S__law_crosses_one (aCons (eVar 0) (aCons (eVar 5) (aCons (eVar 3) aNil)))))) (eBin addD (eVar 5) (eLst (lDisp (aCons (eVar 3) aNil)))) (iSeq (eVar 2)))))))
 (sSeq (sOwn 4 (lDisp aNil))
 (sSeq (sFor (iSeq (eVar 2)) (gN 5)
 (sIf (tru (eCall allG (aCons (eLst (eComp [3] (gN 3) (ret true) (eOr (eBin inD (eVar 3) (eVar 5)) (eFn S__law_crosses_one (aCons (eVar 0) (aCons (eVar 5) (aCons (eVar 3) aNil))))) (iRg1 (eVar 1)))) aNil)))
 (sExpr (eApp 4 (eCall tupG (aCons (eVar 5) aNil))))
 sNx))
 (sRet (eLst (eCallL srtG (aCons (eFrz 4) aNil))))))))
def S__law_stages : FnSem := fnOf 6 m__law_stages
theorem w__law_stages {P : Program} {w : World} {K : PySem.W.Frag} {mg : Str → Option Value} {base : Heap} {f : Addr} {fd : FuncData} (F : FP K "_law_stages" st__law_stages f fd) (hm : mg "_law_stages" = some (.ref f)) (h_all : mg "all" = none) (h_len : mg "len" = none) (h_range : mg "range" = none) (h_sorted : mg "sorted" = none) (h_tuple : mg "tuple" = none) (F__law_crosses_one : Fn P w K mg base 2 "_law_crosses_one" 3 S__law_crosses_one) : Fn P w K mg base 3 "_law_stages" 1 S__law_stages := by
  have sc := sc__law_stages
  refine fn_body (k := 2) (N := ["crossing", "many", "lots", "i", "found", "lot"]) (m := m__law_stages) F hm (F.bindsN (ps := ["crossing"]) fun _ _ _ _ _ _ us hl => match us, hl with | [_], _ => rfl) sc (by decide) fun cdv A outer s H hr => ?_
  have hu := hr.u64
  have hv := hr.u65
  have hv1 := hr.u1
  unfold m__law_stages
  exact (ss_cons (s_par2 rfl sc.nd rfl rfl (by decide) rfl rfl (p_val (s_callB c_len rfl h_len (by decide +kernel) (a_cons (s_ix s_v s_int) a_nil)) (p_val (s_ofL (l_dsp (a_cons (s_ofL (l_dsp a_nil)) a_nil))) p_nil)) rfl)
 (ss_cons (s_for PassesOwn.never rfl (i_rg1 rfl h_range s_v) (g_n sc.nd)
 (ss_one (s_set sc.nd rfl (by first | exact Or.inl rfl | exact Or.inr rfl) (s_bin od_add s_v (s_ofL (l_comp (own := [("lot", 5)]) ⟨rfl, sc.nd, (blk_of rfl (by kernel_rfl)), by decide, fun _ _ _ _ _ => (g_n sc.nd), fun _ _ _ _ _ => (f_one (t_not (t_of (s_fn (F__law_crosses_one.mono (by decide)) hr rfl (a_cons s_v (a_cons s_v (a_cons s_v a_nil))) (aLen_cons (aLen_cons (aLen_cons aLen_nil))))))), fun _ _ _ _ _ => (s_bin od_add s_v (s_ofL (l_dsp (a_cons s_v a_nil))))⟩ (i_seq s_v)))))))
 (ss_cons (s_own sc.nd rfl (by first | exact Or.inl rfl | exact Or.inr rfl) (l_dsp a_nil))
 (ss_cons (s_for PassesOwn.never rfl (i_seq s_v) (g_n sc.nd)
 (ss_one (s_ifS (t_of (s_callB (c_all rfl) rfl h_all (by decide +kernel) (a_cons (s_ofL (l_comp (own := [("i", 3)]) ⟨rfl, sc.nd, (blk_of rfl (by kernel_rfl)), by decide, fun _ _ _ _ _ => (g_n sc.nd), fun _ _ _ _ _ => f_nil, fun _ _ _ _ _ => (s_or (s_cmp (od_in hv) s_v s_v) (s_one (s_fn (F__law_crosses_one.mono (by decide)) hr rfl (a_cons s_v (a_cons s_v (a_cons s_v a_nil))) (aLen_cons (aLen_cons (aLen_cons aLen_nil))))))⟩ (i_rg1 rfl h_range s_v))) a_nil)))
 (ss_one (s_expr (s_append pv (s_callT c_tup rfl h_tuple (by decide +kernel) (a_cons s_v a_nil)))))
 ss_nil)))
 (ss_one (s_ret (s_ofL (l_callB (c_srt hr) rfl h_sorted boot_sorted (a_cons (s_frz pv) a_nil)))))))))
theorem sc__law_clearing : FnScope ["crossing", "stage", "found", "i", "j"] ["crossing", "stage"] (defScope st__law_clearing) := ⟨rfl, rfl, rfl, by decide +kernel, rfl, by decide +kernel, by decide +kernel⟩
def m__law_clearing : M Out :=
 (sSeq (sSet 2 (eC (.int 0)))
 (sSeq (sFor (iSeq (eVar 1)) (gN 3)
 (sFor (iRg1 (eCall lenG (aCons (eBin ixD (eVar 0) (eC (.int 0))) aNil))) (gN 4)
 (sIf (tAnd2 (tst (eBin neD (eVar 3) (eVar 4))) (tst (eBin notND (eFn S__law_clearance (aCons (eVar 0) (aCons (eVar 3) (aCons (eVar 4) aNil)))) (eC .non))))
 (sSet 2 (eCall maxG (aCons (eVar 2) (aCons (eFn S__law_clearance (aCons (eVar 0) (aCons (eVar 3) (aCons (eVar 4) aNil)))) aNil))))
 sNx)))
 (sRet (eVar 2))))
def S__law_clearing : FnSem := fnOf 5 m__law_clearing
theorem w__law_clearing {P : Program} {w : World} {K : PySem.W.Frag} {mg : Str → Option Value} {base : Heap} {f : Addr} {fd : FuncData} (F : FP K "_law_clearing" st__law_clearing f fd) (hm : mg "_law_clearing" = some (.ref f)) (h_len : mg "len" = none) (h_max : mg "max" = none) (h_range : mg "range" = none) (F__law_clearance : Fn P w K mg base 1 "_law_clearance" 3 S__law_clearance) : Fn P w K mg base 2 "_law_clearing" 2 S__law_clearing := by
  have sc := sc__law_clearing
  refine fn_body (k := 1) (N := ["crossing", "stage", "found", "i", "j"]) (m := m__law_clearing) F hm (F.bindsN (ps := ["crossing", "stage"]) fun _ _ _ _ _ _ us hl => match us, hl with | [_, _], _ => rfl) sc (by decide) fun cdv A outer s H hr => ?_
  have hu := hr.u64
  have hv := hr.u65
  have hv1 := hr.u1
  unfold m__law_clearing
  exact (ss_cons (s_set sc.nd rfl (by first | exact Or.inl rfl | exact Or.inr rfl) s_int)
 (ss_cons (s_for PassesOwn.never rfl (i_seq s_v) (g_n sc.nd)
 (ss_one (s_for PassesOwn.never rfl (i_rg1 rfl h_range (s_callB c_len rfl h_len (by decide +kernel) (a_cons (s_ix s_v s_int) a_nil))) (g_n sc.nd)
 (ss_one (s_ifS (SW.t (w_and (t_cmp (od_ne hu) s_v s_v) (w_and1 (t_cmp od_notN (s_fn (F__law_clearance.mono (by decide)) hr rfl (a_cons s_v (a_cons s_v (a_cons s_v a_nil))) (aLen_cons (aLen_cons (aLen_cons aLen_nil)))) s_non))))
 (ss_one (s_set sc.nd rfl (by first | exact Or.inl rfl | exact Or.inr rfl) (s_callB (c_max rfl hv1) rfl h_max (by decide +kernel) (a_cons s_v (a_cons (s_fn (F__law_clearance.mono (by decide)) hr rfl (a_cons s_v (a_cons s_v (a_cons s_v a_nil))) (aLen_cons (aLen_cons (aLen_cons aLen_nil)))) a_nil)))))
 ss_nil)))))
 (ss_one (s_ret s_v))))
theorem sc__law_capacity : FnScope ["crossing", "plan", "stages_v", "found", "s", "ticks", "i", "movement"] ["crossing", "plan"] (defScope st__law_capacity) := ⟨rfl, rfl, rfl, by decide +kernel, rfl, by decide +kernel, by decide +kernel⟩
def m__law_capacity : M Out :=
 (sSeq (sPar [2, 3] (pVal (eFn S__law_stages (aCons (eVar 0) aNil)) (pOwn (eComp [7] (gN 7) (ret true) (eC (.int 0)) (iSeq (eBin ixD (eVar 0) (eC (.int 0))))) pNil)))
 (sSeq (sFor (iSeq (eVar 1)) (gT (gCons (gN 4) (gCons (gN 5) gNil)))
 (sFor (iSeq (eBin ixD (eVar 2) (eVar 4))) (gN 6)
 (sSetIx 3 (eBin subD (eBin addD (eIxO 3 (eVar 6)) (eVar 5)) (eC (.int 1))) (eVar 6))))
 (sRet (eCall tupG (aCons (eFrz 3) aNil)))))
def S__law_capacity : FnSem := fnOf 8 m__law_capacity
theorem w__law_capacity {P : Program} {w : World} {K : PySem.W.Frag} {mg : Str → Option Value} {base : Heap} {f : Addr} {fd : FuncData} (F : FP K "_law_capacity" st__law_capacity f fd) (hm : mg "_law_capacity" = some (.ref f)) (h_tuple : mg "tuple" = none) (F__law_stages : Fn P w K mg base 3 "_law_stages" 1 S__law_stages) : Fn P w K mg base 4 "_law_capacity" 2 S__law_capacity := by
  have sc := sc__law_capacity
  refine fn_body (k := 3) (N := ["crossing", "plan", "stages_v", "found", "s", "ticks", "i", "movement"]) (m := m__law_capacity) F hm (F.bindsN (ps := ["crossing", "plan"]) fun _ _ _ _ _ _ us hl => match us, hl with | [_, _], _ => rfl) sc (by decide) fun cdv A outer s H hr => ?_
  have hu := hr.u64
  have hv := hr.u65
  have hv1 := hr.u1
  unfold m__law_capacity
  exact (ss_cons (s_par2 rfl sc.nd rfl rfl (by decide) rfl rfl (p_val (s_fn (F__law_stages.mono (by decide)) hr rfl (a_cons s_v a_nil) (aLen_cons aLen_nil)) (p_own (l_comp (own := [("movement", 7)]) ⟨rfl, sc.nd, (blk_of rfl (by kernel_rfl)), by decide, fun _ _ _ _ _ => (g_n sc.nd), fun _ _ _ _ _ => f_nil, fun _ _ _ _ _ => s_int⟩ (i_seq (s_ix s_v s_int))) p_nil)) rfl)
 (ss_cons (s_for PassesOwn.never rfl (i_seq s_v) (g_tup rfl (gs_cons (g_n sc.nd) (gs_cons (g_n sc.nd) gs_nil)) rfl rfl (gCons_len (gCons_len gNil_len)))
 (ss_one (s_for PassesOwn.never rfl (i_seq (s_ix s_v s_v)) (g_n sc.nd)
 (ss_one (s_setIx pv s_v (s_bin od_sub (s_bin od_add (s_ixO pv s_v) s_v) s_int))))))
 (ss_one (s_ret (s_callT c_tup rfl h_tuple (by decide +kernel) (a_cons (s_frz pv) a_nil))))))
theorem sc__law_draw_crossing : FnScope ["source", "n", "mine", "length", "movements", "q", "ways", "lap", "movement", "crossed", "i", "j", "one"] ["source", "n", "mine", "length"] (defScope st__law_draw_crossing) := ⟨rfl, rfl, rfl, by decide +kernel, rfl, by decide +kernel, by decide +kernel⟩
def m__law_draw_crossing : M Out :=
 (sSeq (sOwn 4 (lDisp aNil))
 (sSeq (sFor (iSeq (eVar 2)) (gN 5)
 (sSeq (sSet 6 (eBin addD (eLst (lDisp (aCons (eC .non) aNil))) (eLst (eComp [12] (gN 12) (tst (eBin neD (eVar 12) (eVar 5))) (eVar 12) (iRg1 (eVar 1))))))
 (sFor (iRg1 (eBin addD (eC (.int 1)) (eCall intG (aCons (eBin eqD (eFn S__law_pick (aCons (eVar 0) (aCons (eC (.int 3)) aNil))) (eC (.int 0))) aNil)))) (gN 7)
 (sSeq (sSet 8 (eTup (aCons (eVar 5) (aCons (eBin ixD (eVar 6) (eFn S__law_pick (aCons (eVar 0) (aCons (eCall lenG (aCons (eVar 6) aNil)) aNil)))) aNil))))
 (sIf (tBor [4] (tst (eBin ninD (eVar 8) (eVar 4))))
 (sExpr (eApp 4 (eVar 8)))
 sNx)))))
 (sSeq (sPar [4, 9] (pOwn (lSl (eFn S__law_any_order (aCons (eVar 0) (aCons (eFrz 4) aNil))) oNo (oAt (eC (.int 4)))) (pOwn (lDisp aNil) pNil)))
 (sSeq (sFor (iRg1 (eBor [4] (eCall lenG (aCons (eVar 4) aNil)))) (gN 10)
 (sFor (iRg2 (eBin addD (eVar 10) (eC (.int 1))) (eBor [4] (eCall lenG (aCons (eVar 4) aNil)))) (gN 11)
 (sIf (tst (eBin eqD (eFn S__law_pick (aCons (eVar 0) (aCons (eC (.int 2)) aNil))) (eC (.int 0))))
 (sExpr (eApp 9 (eTup (aCons (eVar 10) (aCons (eVar 11) (aCons (eFn S__law_pick (aCons (eVar 0) (aCons (eC (.int 3)) aNil))) (aCons (eFn S__law_pick (aCons (eVar 0) (aCons (eC (.int 3)) aNil))) aNil)))))))
 sNx)))
 (sRet (eTup (aCons (eCall tupG (aCons (eFrz 4) aNil)) (aCons (eCall tupG (aCons (eFrz 9) aNil)) (aCons (eVar 3) aNil)))))))))
def S__law_draw_crossing : FnSem := fnOf 13 m__law_draw_crossing
theorem w__law_draw_crossing {P : Program} {w : World} {K : PySem.W.Frag} {mg : Str → Option Value} {base : Heap} {f : Addr} {fd : FuncData} (F : FP K "_law_draw_crossing" st__law_draw_crossing f fd) (hm : mg "_law_draw_crossing" = some (.ref f)) (h_int : mg "int" = none) (h_len : mg "len" = none) (h_range : mg "range" = none) (h_tuple : mg "tuple" = none) (F__law_any_order : Fn P w K mg base 2 "_law_any_order" 2 S__law_any_order) (F__law_pick : Fn P w K mg base 1 "_law_pick" 2 S__law_pick) : Fn P w K mg base 3 "_law_draw_crossing" 4 S__law_draw_crossing := by
  have sc := sc__law_draw_crossing
  refine fn_body (k := 2) (N := ["source", "n", "mine", "length", "movements", "q", "ways", "lap", "movement", "crossed", "i", "j", "one"]) (m := m__law_draw_crossing) F hm (F.bindsN (ps := ["source", "n", "mine", "length"]) fun _ _ _ _ _ _ us hl => match us, hl with | [_, _, _, _], _ => rfl) sc (by decide) fun cdv A outer s H hr => ?_
  have hu := hr.u64
  have hv := hr.u65
  have hv1 := hr.u1
  unfold m__law_draw_crossing
  exact (ss_cons (s_own sc.nd rfl (by first | exact Or.inl rfl | exact Or.inr rfl) (l_dsp a_nil))
 (ss_cons (s_for PassesOwn.never rfl (i_seq s_v) (g_n sc.nd)
 (ss_cons (s_set sc.nd rfl (by first | exact Or.inl rfl | exact Or.inr rfl) (s_bin od_add (s_ofL (l_dsp (a_cons s_non a_nil))) (s_ofL (l_comp (own := [("one", 12)]) ⟨rfl, sc.nd, (blk_of rfl (by kernel_rfl)), by decide, fun _ _ _ _ _ => (g_n sc.nd), fun _ _ _ _ _ => (f_one (t_cmp (od_ne hu) s_v s_v)), fun _ _ _ _ _ => s_v⟩ (i_rg1 rfl h_range s_v)))))
 (ss_one (s_for PassesOwn.never rfl (i_rg1 rfl h_range (s_bin od_add s_int (s_callT c_int rfl h_int (by decide +kernel) (a_cons (s_cmp (od_eq hu) (s_fn (F__law_pick.mono (by decide)) hr rfl (a_cons s_v (a_cons s_int a_nil)) (aLen_cons (aLen_cons aLen_nil))) s_int) a_nil)))) (g_n sc.nd)
 (ss_cons (s_set sc.nd rfl (by first | exact Or.inl rfl | exact Or.inr rfl) (s_tup (a_cons s_v (a_cons (s_ix s_v (s_fn (F__law_pick.mono (by decide)) hr rfl (a_cons s_v (a_cons (s_callB c_len rfl h_len (by decide +kernel) (a_cons s_v a_nil)) a_nil)) (aLen_cons (aLen_cons aLen_nil)))) a_nil))))
 (ss_one (s_ifS (t_bor (t_cmp (od_nin hv) s_v s_v))
 (ss_one (s_expr (s_append pv s_v)))
 ss_nil)))))))
 (ss_cons (s_par2 rfl sc.nd rfl rfl (by decide) rfl rfl (p_own (l_slice (s_fn (F__law_any_order.mono (by decide)) hr rfl (a_cons s_v (a_cons (s_frz pv) a_nil)) (aLen_cons (aLen_cons aLen_nil))) o_no (o_at s_int)) (p_own (l_dsp a_nil) p_nil)) rfl)
 (ss_cons (s_for PassesOwn.never rfl (i_rg1 rfl h_range (s_bor (s_callB c_len rfl h_len (by decide +kernel) (a_cons s_v a_nil)))) (g_n sc.nd)
 (ss_one (s_for PassesOwn.never rfl (i_rg2 rfl h_range (s_bin od_add s_v s_int) (s_bor (s_callB c_len rfl h_len (by decide +kernel) (a_cons s_v a_nil)))) (g_n sc.nd)
 (ss_one (s_ifS (t_cmp (od_eq hu) (s_fn (F__law_pick.mono (by decide)) hr rfl (a_cons s_v (a_cons s_int a_nil)) (aLen_cons (aLen_cons aLen_nil))) s_int)
 (ss_one (s_expr (s_append pv (s_tup (a_cons s_v (a_cons s_v (a_cons (s_fn (F__law_pick.mono (by decide)) hr rfl (a_cons s_v (a_cons s_int a_nil)) (aLen_cons (aLen_cons aLen_nil))) (a_cons (s_fn (F__law_pick.mono (by decide)) hr rfl (a_cons s_v (a_cons s_int a_nil)) (aLen_cons (aLen_cons aLen_nil))) a_nil))))))))
 ss_nil)))))
 (ss_one (s_ret (s_tup (a_cons (s_callT c_tup rfl h_tuple (by decide +kernel) (a_cons (s_frz pv) a_nil)) (a_cons (s_callT c_tup rfl h_tuple (by decide +kernel) (a_cons (s_frz pv) a_nil)) (a_cons s_v a_nil))))))))))
theorem sc__law_one_crossing : FnScope ["source"] ["source"] (defScope st__law_one_crossing) := ⟨rfl, rfl, rfl, by decide +kernel, rfl, by decide +kernel, by decide +kernel⟩
def m__law_one_crossing : M Out :=
 (sRet (eFn S__law_draw_crossing (aCons (eVar 0) (aCons (eC (.int 4)) (aCons (eSl (eLst (lDisp (aCons (eC (.int 0)) (aCons (eC (.int 1)) (aCons (eC (.int 2)) aNil))))) oNo (oAt (eBin addD (eC (.int 1)) (eFn S__law_pick (aCons (eVar 0) (aCons (eC (.int 3)) aNil)))))) (aCons (eBin addD (eC (.int 3)) (eFn S__law_pick (aCons (eVar 0) (aCons (eC (.int 5)) aNil)))) aNil))))))
def S__law_one_crossing : FnSem := fnOf 1 m__law_one_crossing
theorem w__law_one_crossing {P : Program} {w : World} {K : PySem.W.Frag} {mg : Str → Option Value} {base : Heap} {f : Addr} {fd : FuncData} (F : FP K "_law_one_crossing" st__law_one_crossing f fd) (hm : mg "_law_one_crossing" = some (.ref f)) (F__law_draw_crossing : Fn P w K mg base 3 "_law_draw_crossing" 4 S__law_draw_crossing) (F__law_pick : Fn P w K mg base 1 "_law_pick" 2 S__law_pick) : Fn P w K mg base 4 "_law_one_crossing" 1 S__law_one_crossing := by
  have sc := sc__law_one_crossing
  refine fn_body (k := 3) (N := ["source"]) (m := m__law_one_crossing) F hm (F.bindsN (ps := ["source"]) fun _ _ _ _ _ _ us hl => match us, hl with | [_], _ => rfl) sc (by decide) fun cdv A outer s H hr => ?_
  have hu := hr.u64
  have hv := hr.u65
  have hv1 := hr.u1
  unfold m__law_one_crossing
  exact (ss_one (s_ret (s_fn (F__law_draw_crossing.mono (by decide)) hr rfl (a_cons s_v (a_cons s_int (a_cons (s_slice (s_ofL (l_dsp (a_cons s_int (a_cons s_int (a_cons s_int a_nil))))) o_no (o_at (s_bin od_add s_int (s_fn (F__law_pick.mono (by decide)) hr rfl (a_cons s_v (a_cons s_int a_nil)) (aLen_cons (aLen_cons aLen_nil)))))) (a_cons (s_bin od_add s_int (s_fn (F__law_pick.mono (by decide)) hr rfl (a_cons s_v (a_cons s_int a_nil)) (aLen_cons (aLen_cons aLen_nil)))) a_nil)))) (aLen_cons (aLen_cons (aLen_cons (aLen_cons aLen_nil)))))))
theorem sc__law_need : FnScope ["crossing", "plan", "every", "s", "ticks"] ["crossing", "plan"] (defScope st__law_need) := ⟨rfl, rfl, rfl, by decide +kernel, rfl, by decide +kernel, by decide +kernel⟩
def m__law_need : M Out :=
 (sSeq (sSet 2 (eFn S__law_stages (aCons (eVar 0) aNil)))
 (sRet (eCall sumG (aCons (eLst (eComp [3, 4] (gT (gCons (gN 3) (gCons (gN 4) gNil))) (ret true) (eBin addD (eVar 4) (eFn S__law_clearing (aCons (eVar 0) (aCons (eBin ixD (eVar 2) (eVar 3)) aNil)))) (iSeq (eVar 1)))) aNil))))
def S__law_need : FnSem := fnOf 5 m__law_need
theorem w__law_need {P : Program} {w : World} {K : PySem.W.Frag} {mg : Str → Option Value} {base : Heap} {f : Addr} {fd : FuncData} (F : FP K "_law_need" st__law_need f fd) (hm : mg "_law_need" = some (.ref f)) (h_sum : mg "sum" = none) (F__law_clearing : Fn P w K mg base 2 "_law_clearing" 2 S__law_clearing) (F__law_stages : Fn P w K mg base 3 "_law_stages" 1 S__law_stages) : Fn P w K mg base 4 "_law_need" 2 S__law_need := by
  have sc := sc__law_need
  refine fn_body (k := 3) (N := ["crossing", "plan", "every", "s", "ticks"]) (m := m__law_need) F hm (F.bindsN (ps := ["crossing", "plan"]) fun _ _ _ _ _ _ us hl => match us, hl with | [_, _], _ => rfl) sc (by decide) fun cdv A outer s H hr => ?_
  have hu := hr.u64
  have hv := hr.u65
  have hv1 := hr.u1
  unfold m__law_need
  exact (ss_cons (s_set sc.nd rfl (by first | exact Or.inl rfl | exact Or.inr rfl) (s_fn (F__law_stages.mono (by decide)) hr rfl (a_cons s_v a_nil) (aLen_cons aLen_nil)))
 (ss_one (s_ret (s_callB (c_sum rfl) rfl h_sum (by decide +kernel) (a_cons (s_ofL (l_comp (own := [("s", 3), ("ticks", 4)]) ⟨rfl, sc.nd, (blk_of rfl (by kernel_rfl)), by decide, fun _ _ _ _ _ => (g_tup rfl (gs_cons (g_n sc.nd) (gs_cons (g_n sc.nd) gs_nil)) rfl rfl (gCons_len (gCons_len gNil_len))), fun _ _ _ _ _ => f_nil, fun _ _ _ _ _ => (s_bin od_add s_v (s_fn (F__law_clearing.mono (by decide)) hr rfl (a_cons s_v (a_cons (s_ix s_v s_v) a_nil)) (aLen_cons (aLen_cons aLen_nil))))⟩ (i_seq s_v))) a_nil)))))
theorem sc__law_is_least : FnScope ["capacity", "wanted", "many", "due"] ["capacity", "wanted"] (defScope st__law_is_least) := ⟨rfl, rfl, rfl, by decide +kernel, rfl, by decide +kernel, by decide +kernel⟩
def m__law_is_least : M Out :=
 (sRet (eCall allG (aCons (eLst (eComp [2, 3] (gT (gCons (gN 2) (gCons (gN 3) gNil))) (ret true) (eBin geD (eVar 2) (eVar 3)) (iZip2 (eVar 0) (eVar 1)))) aNil)))
def S__law_is_least : FnSem := fnOf 4 m__law_is_least
theorem w__law_is_least {P : Program} {w : World} {K : PySem.W.Frag} {mg : Str → Option Value} {base : Heap} {f : Addr} {fd : FuncData} (F : FP K "_law_is_least" st__law_is_least f fd) (hm : mg "_law_is_least" = some (.ref f)) (h_all : mg "all" = none) (h_zip : mg "zip" = none) : Fn P w K mg base 1 "_law_is_least" 2 S__law_is_least := by
  have sc := sc__law_is_least
  refine fn_body (k := 0) (N := ["capacity", "wanted", "many", "due"]) (m := m__law_is_least) F hm (F.bindsN (ps := ["capacity", "wanted"]) fun _ _ _ _ _ _ us hl => match us, hl with | [_, _], _ => rfl) sc (by decide) fun cdv A outer s H hr => ?_
  have hu := hr.u64
  have hv := hr.u65
  have hv1 := hr.u1
  unfold m__law_is_least
  exact (ss_one (s_ret (s_callB (c_all rfl) rfl h_all (by decide +kernel) (a_cons (s_ofL (l_comp (own := [("many", 2), ("due", 3)]) ⟨rfl, sc.nd, (blk_of rfl (by kernel_rfl)), by decide, fun _ _ _ _ _ => (g_tup rfl (gs_cons (g_n sc.nd) (gs_cons (g_n sc.nd) gs_nil)) rfl rfl (gCons_len (gCons_len gNil_len))), fun _ _ _ _ _ => f_nil, fun _ _ _ _ _ => (s_cmp od_ge s_v s_v)⟩ (i_zip2 rfl h_zip s_v s_v))) a_nil))))
theorem sc__law_loose_plan : FnScope ["source", "crossing", "every", "plan", "rest", "lap", "s", "room", "ticks"] ["source", "crossing"] (defScope st__law_loose_plan) := ⟨rfl, rfl, rfl, by decide +kernel, rfl, by decide +kernel, by decide +kernel⟩
def m__law_loose_plan : M Out :=
 (sSeq (sPar [2, 3, 4] (pVal (eFn S__law_stages (aCons (eVar 1) aNil)) (pVal (eTup aNil) (pVal (eBin ixD (eVar 1) (eC (.int 2))) pNil))))
 (sSeq (sFor (iRg1 (eBin addD (eC (.int 1)) (eFn S__law_pick (aCons (eVar 0) (aCons (eC (.int 4)) aNil))))) (gN 5)
 (sSeq (sSet 6 (eFn S__law_pick (aCons (eVar 0) (aCons (eCall lenG (aCons (eVar 2) aNil)) aNil))))
 (sSeq (sSet 7 (eBin subD (eVar 4) (eFn S__law_clearing (aCons (eVar 1) (aCons (eBin ixD (eVar 2) (eVar 6)) aNil)))))
 (sIf (tAnd2 (tst (eBin gtD (eVar 7) (eC (.int 0)))) (tOr2 (tst (eBin eqD (eVar 3) (eTup aNil))) (tst (eBin neD (eBin ixD (eBin ixD (eVar 3) (eUn negD (eC (.int 1)))) (eC (.int 0))) (eVar 6)))))
 (sSeq (sSet 8 (eBin addD (eC (.int 1)) (eFn S__law_pick (aCons (eVar 0) (aCons (eVar 7) aNil)))))
 (sPar [3, 4] (pVal (eBin addD (eVar 3) (eTup (aCons (eTup (aCons (eVar 6) (aCons (eVar 8) aNil))) aNil))) (pVal (eBin subD (eVar 7) (eVar 8)) pNil))))
 sNx))))
 (sRet (eVar 3))))
def S__law_loose_plan : FnSem := fnOf 9 m__law_loose_plan
theorem w__law_loose_plan {P : Program} {w : World} {K : PySem.W.Frag} {mg : Str → Option Value} {base : Heap} {f : Addr} {fd : FuncData} (F : FP K "_law_loose_plan" st__law_loose_plan f fd) (hm : mg "_law_loose_plan" = some (.ref f)) (h_len : mg "len" = none) (h_range : mg "range" = none) (F__law_clearing : Fn P w K mg base 2 "_law_clearing" 2 S__law_clearing) (F__law_pick : Fn P w K mg base 1 "_law_pick" 2 S__law_pick) (F__law_stages : Fn P w K mg base 3 "_law_stages" 1 S__law_stages) : Fn P w K mg base 4 "_law_loose_plan" 2 S__law_loose_plan := by
  have sc := sc__law_loose_plan
  refine fn_body (k := 3) (N := ["source", "crossing", "every", "plan", "rest", "lap", "s", "room", "ticks"]) (m := m__law_loose_plan) F hm (F.bindsN (ps := ["source", "crossing"]) fun _ _ _ _ _ _ us hl => match us, hl with | [_, _], _ => rfl) sc (by decide) fun cdv A outer s H hr => ?_
  have hu := hr.u64
  have hv := hr.u65
  have hv1 := hr.u1
  unfold m__law_loose_plan
  exact (ss_cons (s_par3 rfl sc.nd rfl rfl rfl (by decide) (by decide) (by decide) rfl rfl rfl (p_val (s_fn (F__law_stages.mono (by decide)) hr rfl (a_cons s_v a_nil) (aLen_cons aLen_nil)) (p_val (s_tup a_nil) (p_val (s_ix s_v s_int) p_nil))) rfl)
 (ss_cons (s_for PassesOwn.never rfl (i_rg1 rfl h_range (s_bin od_add s_int (s_fn (F__law_pick.mono (by decide)) hr rfl (a_cons s_v (a_cons s_int a_nil)) (aLen_cons (aLen_cons aLen_nil))))) (g_n sc.nd)
 (ss_cons (s_set sc.nd rfl (by first | exact Or.inl rfl | exact Or.inr rfl) (s_fn (F__law_pick.mono (by decide)) hr rfl (a_cons s_v (a_cons (s_callB c_len rfl h_len (by decide +kernel) (a_cons s_v a_nil)) a_nil)) (aLen_cons (aLen_cons aLen_nil))))
 (ss_cons (s_set sc.nd rfl (by first | exact Or.inl rfl | exact Or.inr rfl) (s_bin od_sub s_v (s_fn (F__law_clearing.mono (by decide)) hr rfl (a_cons s_v (a_cons (s_ix s_v s_v) a_nil)) (aLen_cons (aLen_cons aLen_nil)))))
 (ss_one (s_ifS (SW.t (w_and (t_cmp od_gt s_v s_int) (w_and1 (SW.t (w_or (t_cmp (od_eq hu) s_v (s_tup a_nil)) (w_or1 (t_cmp (od_ne hu) (s_ix (s_ix s_v (s_neg s_int)) s_int) s_v)))))))
 (ss_cons (s_set sc.nd rfl (by first | exact Or.inl rfl | exact Or.inr rfl) (s_bin od_add s_int (s_fn (F__law_pick.mono (by decide)) hr rfl (a_cons s_v (a_cons s_v a_nil)) (aLen_cons (aLen_cons aLen_nil)))))
 (ss_one (s_par2 rfl sc.nd rfl rfl (by decide) rfl rfl (p_val (s_bin od_add s_v (s_tup (a_cons (s_tup (a_cons s_v (a_cons s_v a_nil))) a_nil))) (p_val (s_bin od_sub s_v s_v) p_nil)) rfl)))
 ss_nil)))))
 (ss_one (s_ret s_v))))
theorem sc__law_lamp_rows : FnScope ["crossing", "plans", "every", "found", "plan", "rows", "s", "ticks"] ["crossing", "plans"] (defScope st__law_lamp_rows) := ⟨rfl, rfl, rfl, by decide +kernel, rfl, by decide +kernel, by decide +kernel⟩
def m__law_lamp_rows : M Out :=
 (sSeq (sPar [2, 3] (pVal (eFn S__law_stages (aCons (eVar 0) aNil)) (pVal (eLst (lDisp aNil)) pNil)))
 (sSeq (sFor (iSeq (eVar 1)) (gN 4)
 (sSeq (sSet 5 (eLst (lDisp aNil)))
 (sSeq (sFor (iSeq (eVar 4)) (gT (gCons (gN 6) (gCons (gN 7) gNil)))
 (sSet 5 (eBin addD (eBin addD (eVar 5) (eBin mulD (eLst (lDisp (aCons (eBin ixD (eVar 2) (eVar 6)) aNil))) (eVar 7))) (eBin mulD (eLst (lDisp (aCons (eTup aNil) aNil))) (eFn S__law_clearing (aCons (eVar 0) (aCons (eBin ixD (eVar 2) (eVar 6)) aNil)))))))
 (sSet 3 (eBin addD (eBin addD (eVar 3) (eVar 5)) (eBin mulD (eLst (lDisp (aCons (eTup aNil) aNil))) (eBin subD (eBin ixD (eVar 0) (eC (.int 2))) (eCall lenG (aCons (eVar 5) aNil)))))))))
 (sRet (eVar 3))))
def S__law_lamp_rows : FnSem := fnOf 8 m__law_lamp_rows
theorem w__law_lamp_rows {P : Program} {w : World} {K : PySem.W.Frag} {mg : Str → Option Value} {base : Heap} {f : Addr} {fd : FuncData} (F : FP K "_law_lamp_rows" st__law_lamp_rows f fd) (hm : mg "_law_lamp_rows" = some (.ref f)) (h_len : mg "len" = none) (F__law_clearing : Fn P w K mg base 2 "_law_clearing" 2 S__law_clearing) (F__law_stages : Fn P w K mg base 3 "_law_stages" 1 S__law_stages) : Fn P w K mg base 4 "_law_lamp_rows" 2 S__law_lamp_rows := by
  have sc := sc__law_lamp_rows
  refine fn_body (k := 3) (N := ["crossing", "plans", "every", "found", "plan", "rows", "s", "ticks"]) (m := m__law_lamp_rows) F hm (F.bindsN (ps := ["crossing", "plans"]) fun _ _ _ _ _ _ us hl => match us, hl with | [_, _], _ => rfl) sc (by decide) fun cdv A outer s H hr => ?_
  have hu := hr.u64
  have hv := hr.u65
  have hv1 := hr.u1
  unfold m__law_lamp_rows
  exact (ss_cons (s_par2 rfl sc.nd rfl rfl (by decide) rfl rfl (p_val (s_fn (F__law_stages.mono (by decide)) hr rfl (a_cons s_v a_nil) (aLen_cons aLen_nil)) (p_val (s_ofL (l_dsp a_nil)) p_nil)) rfl)
 (ss_cons (s_for PassesOwn.never rfl (i_seq s_v) (g_n sc.nd)
 (ss_cons (s_set sc.nd rfl (by first | exact Or.inl rfl | exact Or.inr rfl) (s_ofL (l_dsp a_nil)))
 (ss_cons (s_for PassesOwn.never rfl (i_seq s_v) (g_tup rfl (gs_cons (g_n sc.nd) (gs_cons (g_n sc.nd) gs_nil)) rfl rfl (gCons_len (gCons_len gNil_len)))
 (ss_one (s_set sc.nd rfl (by first | exact Or.inl rfl | exact Or.inr rfl) (s_bin od_add (s_bin od_add s_v (s_bin od_mul (s_ofL (l_dsp (a_cons (s_ix s_v s_v) a_nil))) s_v)) (s_bin od_mul (s_ofL (l_dsp (a_cons (s_tup a_nil) a_nil))) (s_fn (F__law_clearing.mono (by decide)) hr rfl (a_cons s_v (a_cons (s_ix s_v s_v) a_nil)) (aLen_cons (aLen_cons aLen_nil))))))))
 (ss_one (s_set sc.nd rfl (by first | exact Or.inl rfl | exact Or.inr rfl) (s_bin od_add (s_bin od_add s_v s_v) (s_bin od_mul (s_ofL (l_dsp (a_cons (s_tup a_nil) a_nil))) (s_bin od_sub (s_ix s_v s_int) (s_callB c_len rfl h_len (by decide +kernel) (a_cons s_v a_nil))))))))))
 (ss_one (s_ret s_v))))
theorem sc__law_lamp_fault : FnScope ["crossing", "rows", "tick", "row", "i", "late", "last", "j", "wait", "is_new"] ["crossing", "rows"] (defScope st__law_lamp_fault) := ⟨rfl, rfl, rfl, by decide +kernel, rfl, by decide +kernel, by decide +kernel⟩
def m__law_lamp_fault : M Out :=
 (sSeq (sFor (iEnum (eVar 1)) (gT (gCons (gN 2) (gCons (gN 3) gNil)))
 (sFor (iSeq (eVar 3)) (gN 4)
 (sSeq (sSet 5 (eLst (eComp [7] (gN 7) (tAnd2 (tst (eBin ltD (eVar 4) (eVar 7))) (tst (eBin notND (eFn S__law_clearance (aCons (eVar 0) (aCons (eVar 4) (aCons (eVar 7) aNil)))) (eC .non)))) (eVar 7) (iSeq (eVar 3)))))
 (sIf (tst (eBin neD (eVar 5) (eLst (lDisp aNil))))
 (sRet (eTup (aCons (eC (.str "crossed")) (aCons (eVar 2) (aCons (eVar 4) (aCons (eBin ixD (eVar 5) (eC (.int 0))) aNil))))))
 sNx))))
 (sSeq (sOwnN 6 nK0)
 (sSeq (sFor (iEnum (eVar 1)) (gT (gCons (gN 2) (gCons (gN 3) gNil)))
 (sSeq (sFor (iSeq (eLst (eCallL srtG (aCons (eLstO 6) aNil)))) (gN 4)
 (sFor (iSeq (eVar 3)) (gN 7)
 (sSeq (sSet 8 (eIf (tst (eBin neD (eVar 4) (eVar 7))) (eFn S__law_clearance (aCons (eVar 0) (aCons (eVar 4) (aCons (eVar 7) aNil)))) (eC .non)))
 (sSeq (sSet 9 (eOr (eBin eqD (eVar 2) (eC (.int 0))) (eBin ninD (eVar 7) (eBin ixD (eVar 1) (eBin subD (eVar 2) (eC (.int 1)))))))
 (sIf (tAnd2 (tst (eBin notND (eVar 8) (eC .non))) (tAnd2 (tru (eVar 9)) (tst (eBin ltD (eBin subD (eBin subD (eVar 2) (eDgO 6 (eVar 4))) (eC (.int 1))) (eVar 8)))))
 (sRet (eTup (aCons (eC (.str "early")) (aCons (eVar 2) (aCons (eVar 4) (aCons (eVar 7) aNil))))))
 sNx)))))
 (sFor (iSeq (eVar 3)) (gN 4)
 (sPutD 6 (eVar 2) (eVar 4)))))
 (sRet (eC .non)))))
def S__law_lamp_fault : FnSem := fnOf 10 m__law_lamp_fault
theorem w__law_lamp_fault {P : Program} {w : World} {K : PySem.W.Frag} {mg : Str → Option Value} {base : Heap} {f : Addr} {fd : FuncData} (F : FP K "_law_lamp_fault" st__law_lamp_fault f fd) (hm : mg "_law_lamp_fault" = some (.ref f)) (h_enumerate : mg "enumerate" = none) (h_list : mg "list" = none) (h_sorted : mg "sorted" = none) (F__law_clearance : Fn P w K mg base 1 "_law_clearance" 3 S__law_clearance) : Fn P w K mg base 2 "_law_lamp_fault" 2 S__law_lamp_fault := by
  have sc := sc__law_lamp_fault
  refine fn_body (k := 1) (N := ["crossing", "rows", "tick", "row", "i", "late", "last", "j", "wait", "is_new"]) (m := m__law_lamp_fault) F hm (F.bindsN (ps := ["crossing", "rows"]) fun _ _ _ _ _ _ us hl => match us, hl with | [_, _], _ => rfl) sc (by decide) fun cdv A outer s H hr => ?_
  have hu := hr.u64
  have hv := hr.u65
  have hv1 := hr.u1
  unfold m__law_lamp_fault
  exact (ss_cons (s_for PassesOwn.never rfl (i_enum rfl h_enumerate s_v) (g_tup rfl (gs_cons (g_n sc.nd) (gs_cons (g_n sc.nd) gs_nil)) rfl rfl (gCons_len (gCons_len gNil_len)))
 (ss_one (s_for PassesOwn.never rfl (i_seq s_v) (g_n sc.nd)
 (ss_cons (s_setLc (own := [("j", 7)])  rfl rfl rfl ⟨rfl, sc.nd, (blk_of rfl (by kernel_rfl)), by decide, fun _ _ _ _ _ => (g_n sc.nd), fun _ _ _ _ _ => (f_one (SW.t (w_and (t_cmp od_lt s_v s_v) (w_and1 (t_cmp od_notN (s_fn (F__law_clearance.mono (by decide)) hr rfl (a_cons s_v (a_cons s_v (a_cons s_v a_nil))) (aLen_cons (aLen_cons (aLen_cons aLen_nil)))) s_non))))), fun _ _ _ _ _ => s_v⟩ (i_seq s_v))
 (ss_one (s_ifS (t_cmp (od_ne hu) s_v (s_ofL (l_dsp a_nil)))
 (ss_one (s_ret (s_tup (a_cons s_str (a_cons s_v (a_cons s_v (a_cons (s_ix s_v s_int) a_nil)))))))
 ss_nil))))))
 (ss_cons (s_ownN sc.nd rfl (by first | exact Or.inl rfl | exact Or.inr rfl) n_dK)
 (ss_cons (s_for PassesOwn.never rfl (i_enum rfl h_enumerate s_v) (g_tup rfl (gs_cons (g_n sc.nd) (gs_cons (g_n sc.nd) gs_nil)) rfl rfl (gCons_len (gCons_len gNil_len)))
 (ss_cons (s_for PassesOwn.never rfl (i_seq (s_ofL (l_callB (c_srt hr) rfl h_sorted boot_sorted (a_cons (s_lstO rfl rfl h_list pv) a_nil)))) (g_n sc.nd)
 (ss_one (s_for PassesOwn.never rfl (i_seq s_v) (g_n sc.nd)
 (ss_cons (s_set sc.nd rfl (by first | exact Or.inl rfl | exact Or.inr rfl) (s_if (t_cmp (od_ne hu) s_v s_v) (s_fn (F__law_clearance.mono (by decide)) hr rfl (a_cons s_v (a_cons s_v (a_cons s_v a_nil))) (aLen_cons (aLen_cons (aLen_cons aLen_nil)))) s_non))
 (ss_cons (s_set sc.nd rfl (by first | exact Or.inl rfl | exact Or.inr rfl) (s_or (s_cmp (od_eq hu) s_v s_int) (s_one (s_cmp (od_nin hv) s_v (s_ix s_v (s_bin od_sub s_v s_int))))))
 (ss_one (s_ifS (SW.t (w_and (t_cmp od_notN s_v s_non) (w_and (t_of s_v) (w_and1 (t_cmp od_lt (s_bin od_sub (s_bin od_sub s_v (s_dgO hv1 pv s_v)) s_int) s_v)))))
 (ss_one (s_ret (s_tup (a_cons s_str (a_cons s_v (a_cons s_v (a_cons s_v a_nil)))))))
 ss_nil)))))))
 (ss_one (s_for PassesOwn.never rfl (i_seq s_v) (g_n sc.nd)
 (ss_one (s_putD hv1 pv s_v s_v))))))
 (ss_one (s_ret s_non)))))
theorem sc__law_plan_fault : FnScope ["crossing", "value", "many", "pair", "k", "need", "part"] ["crossing", "value"] (defScope st__law_plan_fault) := ⟨rfl, rfl, rfl, by decide +kernel, rfl, by decide +kernel, by decide +kernel⟩
def m__law_plan_fault : M Out :=
 (sSeq (sSet 2 (eCall lenG (aCons (eFn S__law_stages (aCons (eVar 0) aNil)) aNil)))
 (sSeq (sIf (tNot1 (tru (eUn (isiD "tuple") (eVar 1))))
 (sRet (eTup (aCons (eC (.str "form")) aNil)))
 sNx)
 (sSeq (sFor (iSeq (eVar 1)) (gN 3)
 (sSeq (sIf (tOr2 (tNot1 (tru (eUn (isiD "tuple") (eVar 3)))) (tst (eBin neD (eCall lenG (aCons (eVar 3) aNil)) (eC (.int 2)))))
 (sRet (eTup (aCons (eC (.str "form")) aNil)))
 sNx)
 (sSeq (sIf (tNot1 (tru (eCall allG (aCons (eLst (eComp [6] (gN 6) (ret true) (eAnd (eUn (isiD "int") (eVar 6)) (eNot (eUn (isiD "bool") (eVar 6)))) (iSeq (eVar 3)))) aNil))))
 (sRet (eTup (aCons (eC (.str "form")) aNil)))
 sNx)
 (sIf (tOr2 (tNot1 (tst (eChain leD ltD (eC (.int 0)) (eBin ixD (eVar 3) (eC (.int 0))) (eVar 2)))) (tst (eBin ltD (eBin ixD (eVar 3) (eC (.int 1))) (eC (.int 1)))))
 (sRet (eTup (aCons (eC (.str "form")) aNil)))
 sNx))))
 (sSeq (sFor (iRg2 (eC (.int 1)) (eCall lenG (aCons (eVar 1) aNil))) (gN 4)
 (sIf (tst (eBin eqD (eBin ixD (eBin ixD (eVar 1) (eVar 4)) (eC (.int 0))) (eBin ixD (eBin ixD (eVar 1) (eBin subD (eVar 4) (eC (.int 1)))) (eC (.int 0)))))
 (sRet (eTup (aCons (eC (.str "twice")) (aCons (eVar 4) aNil))))
 sNx))
 (sSeq (sSet 5 (eFn S__law_need (aCons (eVar 0) (aCons (eVar 1) aNil))))
 (sRet (eIf (tst (eBin leD (eVar 5) (eBin ixD (eVar 0) (eC (.int 2))))) (eC .non) (eTup (aCons (eC (.str "long")) (aCons (eVar 5) aNil))))))))))
def S__law_plan_fault : FnSem := fnOf 7 m__law_plan_fault
theorem w__law_plan_fault {P : Program} {w : World} {K : PySem.W.Frag} {mg : Str → Option Value} {base : Heap} {f : Addr} {fd : FuncData} (F : FP K "_law_plan_fault" st__law_plan_fault f fd) (hm : mg "_law_plan_fault" = some (.ref f)) (h_all : mg "all" = none) (h_bool : mg "bool" = none) (h_int : mg "int" = none) (h_isinstance : mg "isinstance" = none) (h_len : mg "len" = none) (h_range : mg "range" = none) (h_tuple : mg "tuple" = none) (F__law_need : Fn P w K mg base 4 "_law_need" 2 S__law_need) (F__law_stages : Fn P w K mg base 3 "_law_stages" 1 S__law_stages) : Fn P w K mg base 5 "_law_plan_fault" 2 S__law_plan_fault := by
  have sc := sc__law_plan_fault
  refine fn_body (k := 4) (N := ["crossing", "value", "many", "pair", "k", "need", "part"]) (m := m__law_plan_fault) F hm (F.bindsN (ps := ["crossing", "value"]) fun _ _ _ _ _ _ us hl => match us, hl with | [_, _], _ => rfl) sc (by decide) fun cdv A outer s H hr => ?_
  have hu := hr.u64
  have hv := hr.u65
  have hv1 := hr.u1
  unfold m__law_plan_fault
  exact (ss_cons (s_set sc.nd rfl (by first | exact Or.inl rfl | exact Or.inr rfl) (s_callB c_len rfl h_len (by decide +kernel) (a_cons (s_fn (F__law_stages.mono (by decide)) hr rfl (a_cons s_v a_nil) (aLen_cons aLen_nil)) a_nil)))
 (ss_cons (s_ifS (t_not (t_of (s_isi rfl h_isinstance s_v rfl h_tuple (by decide +kernel))))
 (ss_one (s_ret (s_tup (a_cons s_str a_nil))))
 ss_nil)
 (ss_cons (s_for PassesOwn.never rfl (i_seq s_v) (g_n sc.nd)
 (ss_cons (s_ifS (SW.t (w_or (t_not (t_of (s_isi rfl h_isinstance s_v rfl h_tuple (by decide +kernel)))) (w_or1 (t_cmp (od_ne hu) (s_callB c_len rfl h_len (by decide +kernel) (a_cons s_v a_nil)) s_int))))
 (ss_one (s_ret (s_tup (a_cons s_str a_nil))))
 ss_nil)
 (ss_cons (s_ifS (t_not (t_of (s_callB (c_all rfl) rfl h_all (by decide +kernel) (a_cons (s_ofL (l_comp (own := [("part", 6)]) ⟨rfl, sc.nd, (blk_of rfl (by kernel_rfl)), by decide, fun _ _ _ _ _ => (g_n sc.nd), fun _ _ _ _ _ => f_nil, fun _ _ _ _ _ => (s_and (s_isi rfl h_isinstance s_v rfl h_int (by decide +kernel)) (s_one (s_not (s_isi rfl h_isinstance s_v rfl h_bool (by decide +kernel)))))⟩ (i_seq s_v))) a_nil))))
 (ss_one (s_ret (s_tup (a_cons s_str a_nil))))
 ss_nil)
 (ss_one (s_ifS (SW.t (w_or (t_not (t_chain od_le od_lt s_int (s_ix s_v s_int) s_v)) (w_or1 (t_cmp od_lt (s_ix s_v s_int) s_int))))
 (ss_one (s_ret (s_tup (a_cons s_str a_nil))))
 ss_nil)))))
 (ss_cons (s_for PassesOwn.never rfl (i_rg2 rfl h_range s_int (s_callB c_len rfl h_len (by decide +kernel) (a_cons s_v a_nil))) (g_n sc.nd)
 (ss_one (s_ifS (t_cmp (od_eq hu) (s_ix (s_ix s_v s_v) s_int) (s_ix (s_ix s_v (s_bin od_sub s_v s_int)) s_int))
 (ss_one (s_ret (s_tup (a_cons s_str (a_cons s_v a_nil)))))
 ss_nil)))
 (ss_cons (s_set sc.nd rfl (by first | exact Or.inl rfl | exact Or.inr rfl) (s_fn (F__law_need.mono (by decide)) hr rfl (a_cons s_v (a_cons s_v a_nil)) (aLen_cons (aLen_cons aLen_nil))))
 (ss_one (s_ret (s_if (t_cmp od_le s_v (s_ix s_v s_int)) s_non (s_tup (a_cons s_str (a_cons s_v a_nil)))))))))))
theorem sc__law_near_plans : FnScope ["source", "crossing", "plan", "many", "k", "s", "ticks", "found", "odd", "one"] ["source", "crossing", "plan"] (defScope st__law_near_plans) := ⟨rfl, rfl, rfl, by decide +kernel, rfl, by decide +kernel, by decide +kernel⟩
def m__law_near_plans : M Out :=
 (sSeq (sPar [3, 4] (pVal (eCall lenG (aCons (eFn S__law_stages (aCons (eVar 1) aNil)) aNil)) (pVal (eFn S__law_pick (aCons (eVar 0) (aCons (eBin addD (eCall lenG (aCons (eVar 2) aNil)) (eC (.int 1))) aNil))) pNil)))
 (sSeq (sPar [5, 6] (pVal (eFn S__law_pick (aCons (eVar 0) (aCons (eVar 3) aNil))) (pVal (eBin addD (eC (.int 1)) (eFn S__law_pick (aCons (eVar 0) (aCons (eC (.int 12)) aNil)))) pNil)))
 (sSeq (sSet 7 (eLst (lDisp (aCons (eVar 2) (aCons (eBin addD (eBin addD (eSl (eVar 2) oNo (oAt (eVar 4))) (eTup (aCons (eTup (aCons (eVar 5) (aCons (eVar 6) aNil))) aNil))) (eSl (eVar 2) (oAt (eVar 4)) oNo)) (aCons (eBin addD (eBin addD (eSl (eVar 2) oNo (oAt (eVar 4))) (eTup (aCons (eTup (aCons (eVar 5) (aCons (eVar 6) aNil))) aNil))) (eSl (eVar 2) (oAt (eBin addD (eVar 4) (eC (.int 1)))) oNo)) (aCons (eBin addD (eVar 2) (eSl (eVar 2) (oAt (eUn negD (eC (.int 1)))) oNo)) aNil)))))))
 (sSeq (sSet 8 (eLst (lDisp (aCons (eTup (aCons (eVar 3) (aCons (eC (.int 1)) aNil))) (aCons (eTup (aCons (eBin subD (eC (.int 0)) (eC (.int 1))) (aCons (eC (.int 1)) aNil))) (aCons (eTup (aCons (eC (.int 0)) (aCons (eC (.int 0)) aNil))) (aCons (eTup (aCons (eC (.int 0)) (aCons (eC (.bl true)) aNil))) (aCons (eTup (aCons (eC (.bl false)) (aCons (eC (.int 1)) aNil))) (aCons (eTup (aCons (eC (.int 0)) aNil)) (aCons (eTup (aCons (eC (.int 0)) (aCons (eC (.int 1)) (aCons (eC (.int 1)) aNil)))) (aCons (eLst (lDisp (aCons (eC (.int 0)) (aCons (eC (.int 1)) aNil)))) (aCons (eC .non) (aCons (eTup (aCons (eC (.str "0")) (aCons (eC (.int 1)) aNil))) aNil)))))))))))))
 (sSeq (sSet 8 (eBin addD (eVar 8) (eLst (lDisp (aCons (eTup (aCons (eLst (lDisp aNil)) (aCons (eC (.int 1)) aNil))) (aCons (eTup (aCons (eC (.int 0)) (aCons (eBin powD (eC (.int 10)) (eC (.int 30))) aNil))) (aCons (eTup (aCons (eC (.int 0)) (aCons (eC .non) aNil))) (aCons (eTup (aCons (eC (.int 0)) (aCons (eC (.str "1")) aNil))) (aCons (eTup (aCons (eC (.int 0)) (aCons (eLst (lDisp aNil)) aNil))) aNil)))))))))
 (sSeq (sSet 7 (eBin addD (eVar 7) (eLst (eComp [9] (gN 9) (ret true) (eBin addD (eBin addD (eSl (eVar 2) oNo (oAt (eVar 4))) (eTup (aCons (eVar 9) aNil))) (eSl (eVar 2) (oAt (eBin addD (eVar 4) (eC (.int 1)))) oNo)) (iSeq (eVar 8))))))
 (sSeq (sSet 7 (eBin addD (eVar 7) (eLst (eComp [9] (gN 9) (ret true) (eBin addD (eBin addD (eTup (aCons (eTup (aCons (eVar 5) (aCons (eC (.int 1)) aNil))) (aCons (eTup (aCons (eVar 5) (aCons (eC (.int 1)) aNil))) aNil))) (eVar 2)) (eTup (aCons (eVar 9) aNil))) (iSeq (eVar 8))))))
 (sRet (eBin addD (eVar 7) (eLst (lDisp (aCons (eLst (eCallL lstG (aCons (eVar 2) aNil))) (aCons (eC .non) (aCons (eNw nK0) (aCons (eC (.str "plan")) (aCons (eTup (aCons (eTup (aCons (eVar 5) (aCons (eVar 6) aNil))) (aCons (eTup (aCons (eVar 5) (aCons (eC (.int 1)) aNil))) aNil))) (aCons (eUn revD (eVar 2)) aNil)))))))))))))))))
def S__law_near_plans : FnSem := fnOf 10 m__law_near_plans
theorem w__law_near_plans {P : Program} {w : World} {K : PySem.W.Frag} {mg : Str → Option Value} {base : Heap} {f : Addr} {fd : FuncData} (F : FP K "_law_near_plans" st__law_near_plans f fd) (hm : mg "_law_near_plans" = some (.ref f)) (h_len : mg "len" = none) (h_list : mg "list" = none) (F__law_pick : Fn P w K mg base 1 "_law_pick" 2 S__law_pick) (F__law_stages : Fn P w K mg base 3 "_law_stages" 1 S__law_stages) : Fn P w K mg base 4 "_law_near_plans" 3 S__law_near_plans := by
  have sc := sc__law_near_plans
  refine fn_body (k := 3) (N := ["source", "crossing", "plan", "many", "k", "s", "ticks", "found", "odd", "one"]) (m := m__law_near_plans) F hm (F.bindsN (ps := ["source", "crossing", "plan"]) fun _ _ _ _ _ _ us hl => match us, hl with | [_, _, _], _ => rfl) sc (by decide) fun cdv A outer s H hr => ?_
  have hu := hr.u64
  have hv := hr.u65
  have hv1 := hr.u1
  unfold m__law_near_plans
  exact (ss_cons (s_parT rfl (by decide) (pgs_name sc.nd rfl (by first | exact Or.inl rfl | exact Or.inr rfl) (pgs_name sc.nd rfl (by first | exact Or.inl rfl | exact Or.inr rfl) pgs_none)) (p_val (s_callB c_len rfl h_len (by decide +kernel) (a_cons (s_fn (F__law_stages.mono (by decide)) hr rfl (a_cons s_v a_nil) (aLen_cons aLen_nil)) a_nil)) (p_val (s_fn (F__law_pick.mono (by decide)) hr rfl (a_cons s_v (a_cons (s_bin od_add (s_callB c_len rfl h_len (by decide +kernel) (a_cons s_v a_nil)) s_int) a_nil)) (aLen_cons (aLen_cons aLen_nil))) p_nil)))
 (ss_cons (s_parT rfl (by decide) (pgs_name sc.nd rfl (by first | exact Or.inl rfl | exact Or.inr rfl) (pgs_name sc.nd rfl (by first | exact Or.inl rfl | exact Or.inr rfl) pgs_none)) (p_val (s_fn (F__law_pick.mono (by decide)) hr rfl (a_cons s_v (a_cons s_v a_nil)) (aLen_cons (aLen_cons aLen_nil))) (p_val (s_bin od_add s_int (s_fn (F__law_pick.mono (by decide)) hr rfl (a_cons s_v (a_cons s_int a_nil)) (aLen_cons (aLen_cons aLen_nil)))) p_nil)))
 (ss_cons (s_set sc.nd rfl (by first | exact Or.inl rfl | exact Or.inr rfl) (s_ofL (l_dsp (a_cons s_v (a_cons (s_bin od_add (s_bin od_add (s_slice s_v o_no (o_at s_v)) (s_tup (a_cons (s_tup (a_cons s_v (a_cons s_v a_nil))) a_nil))) (s_slice s_v (o_at s_v) o_no)) (a_cons (s_bin od_add (s_bin od_add (s_slice s_v o_no (o_at s_v)) (s_tup (a_cons (s_tup (a_cons s_v (a_cons s_v a_nil))) a_nil))) (s_slice s_v (o_at (s_bin od_add s_v s_int)) o_no)) (a_cons (s_bin od_add s_v (s_slice s_v (o_at (s_neg s_int)) o_no)) a_nil)))))))
 (ss_cons (s_set sc.nd rfl (by first | exact Or.inl rfl | exact Or.inr rfl) (s_ofL (l_dsp (a_cons (s_tup (a_cons s_v (a_cons s_int a_nil))) (a_cons (s_tup (a_cons (s_bin od_sub s_int s_int) (a_cons s_int a_nil))) (a_cons (s_tup (a_cons s_int (a_cons s_int a_nil))) (a_cons (s_tup (a_cons s_int (a_cons s_bl a_nil))) (a_cons (s_tup (a_cons s_bl (a_cons s_int a_nil))) (a_cons (s_tup (a_cons s_int a_nil)) (a_cons (s_tup (a_cons s_int (a_cons s_int (a_cons s_int a_nil)))) (a_cons (s_ofL (l_dsp (a_cons s_int (a_cons s_int a_nil)))) (a_cons s_non (a_cons (s_tup (a_cons s_str (a_cons s_int a_nil))) a_nil)))))))))))))
 (ss_cons (s_set sc.nd rfl (by first | exact Or.inl rfl | exact Or.inr rfl) (s_bin od_add s_v (s_ofL (l_dsp (a_cons (s_tup (a_cons (s_ofL (l_dsp a_nil)) (a_cons s_int a_nil))) (a_cons (s_tup (a_cons s_int (a_cons (s_bin od_pow s_int s_int) a_nil))) (a_cons (s_tup (a_cons s_int (a_cons s_non a_nil))) (a_cons (s_tup (a_cons s_int (a_cons s_str a_nil))) (a_cons (s_tup (a_cons s_int (a_cons (s_ofL (l_dsp a_nil)) a_nil))) a_nil)))))))))
 (ss_cons (s_set sc.nd rfl (by first | exact Or.inl rfl | exact Or.inr rfl) (s_bin od_add s_v (s_ofL (l_comp (own := [("one", 9)]) ⟨rfl, sc.nd, (blk_of rfl (by kernel_rfl)), by decide, fun _ _ _ _ _ => (g_n sc.nd), fun _ _ _ _ _ => f_nil, fun _ _ _ _ _ => (s_bin od_add (s_bin od_add (s_slice s_v o_no (o_at s_v)) (s_tup (a_cons s_v a_nil))) (s_slice s_v (o_at (s_bin od_add s_v s_int)) o_no))⟩ (i_seq s_v)))))
 (ss_cons (s_set sc.nd rfl (by first | exact Or.inl rfl | exact Or.inr rfl) (s_bin od_add s_v (s_ofL (l_comp (own := [("one", 9)]) ⟨rfl, sc.nd, (blk_of rfl (by kernel_rfl)), by decide, fun _ _ _ _ _ => (g_n sc.nd), fun _ _ _ _ _ => f_nil, fun _ _ _ _ _ => (s_bin od_add (s_bin od_add (s_tup (a_cons (s_tup (a_cons s_v (a_cons s_int a_nil))) (a_cons (s_tup (a_cons s_v (a_cons s_int a_nil))) a_nil))) s_v) (s_tup (a_cons s_v a_nil)))⟩ (i_seq s_v)))))
 (ss_one (s_ret (s_bin od_add s_v (s_ofL (l_dsp (a_cons (s_ofL (l_callT c_lst rfl h_list boot_list (a_cons s_v a_nil))) (a_cons s_non (a_cons (s_nw n_dK) (a_cons s_str (a_cons (s_tup (a_cons (s_tup (a_cons s_v (a_cons s_v a_nil))) (a_cons (s_tup (a_cons s_v (a_cons s_int a_nil))) a_nil))) (a_cons (s_rev s_v) a_nil))))))))))))))))))
theorem sc__law_bent_rows : FnScope ["source", "crossing", "rows", "every", "late", "lap", "k", "stage", "whole"] ["source", "crossing", "rows"] (defScope st__law_bent_rows) := ⟨rfl, rfl, rfl, by decide +kernel, rfl, by decide +kernel, by decide +kernel⟩
def m__law_bent_rows : M Out :=
 (sSeq (sPar [3, 4] (pVal (eFn S__law_stages (aCons (eVar 1) aNil)) (pOwn (eCallL lstG (aCons (eVar 2) aNil)) pNil)))
 (sSeq (sFor (iRg1 (eBin addD (eC (.int 1)) (eFn S__law_pick (aCons (eVar 0) (aCons (eC (.int 3)) aNil))))) (gN 5)
 (sSeq (sSet 6 (eFn S__law_pick (aCons (eVar 0) (aCons (eBor [4] (eCall lenG (aCons (eVar 4) aNil))) aNil))))
 (sSeq (sSet 7 (eBin ixD (eVar 3) (eFn S__law_pick (aCons (eVar 0) (aCons (eCall lenG (aCons (eVar 3) aNil)) aNil)))))
 (sSeq (sSet 8 (eTupRg (eCall lenG (aCons (eBin ixD (eVar 1) (eC (.int 0))) aNil))))
 (sSetIx 4 (eBin ixD (eLst (lDisp (aCons (eTup aNil) (aCons (eVar 7) (aCons (eSl (eVar 7) oNo (oAt (eC (.int 1)))) (aCons (eVar 8) (aCons (eSl (eVar 7) (oAt (eUn negD (eC (.int 1)))) oNo) (aCons (eSl (eVar 8) oNo (oAt (eC (.int 2)))) aNil)))))))) (eFn S__law_pick (aCons (eVar 0) (aCons (eC (.int 6)) aNil)))) (eVar 6))))))
 (sRet (eFrz 4))))
def S__law_bent_rows : FnSem := fnOf 9 m__law_bent_rows
theorem w__law_bent_rows {P : Program} {w : World} {K : PySem.W.Frag} {mg : Str → Option Value} {base : Heap} {f : Addr} {fd : FuncData} (F : FP K "_law_bent_rows" st__law_bent_rows f fd) (hm : mg "_law_bent_rows" = some (.ref f)) (h_len : mg "len" = none) (h_list : mg "list" = none) (h_range : mg "range" = none) (h_tuple : mg "tuple" = none) (F__law_pick : Fn P w K mg base 1 "_law_pick" 2 S__law_pick) (F__law_stages : Fn P w K mg base 3 "_law_stages" 1 S__law_stages) : Fn P w K mg base 4 "_law_bent_rows" 3 S__law_bent_rows := by
  have sc := sc__law_bent_rows
  refine fn_body (k := 3) (N := ["source", "crossing", "rows", "every", "late", "lap", "k", "stage", "whole"]) (m := m__law_bent_rows) F hm (F.bindsN (ps := ["source", "crossing", "rows"]) fun _ _ _ _ _ _ us hl => match us, hl with | [_, _, _], _ => rfl) sc (by decide) fun cdv A outer s H hr => ?_
  have hu := hr.u64
  have hv := hr.u65
  have hv1 := hr.u1
  unfold m__law_bent_rows
  exact (ss_cons (s_par2 rfl sc.nd rfl rfl (by decide) rfl rfl (p_val (s_fn (F__law_stages.mono (by decide)) hr rfl (a_cons s_v a_nil) (aLen_cons aLen_nil)) (p_own (l_callT c_lst rfl h_list boot_list (a_cons s_v a_nil)) p_nil)) rfl)
 (ss_cons (s_for PassesOwn.never rfl (i_rg1 rfl h_range (s_bin od_add s_int (s_fn (F__law_pick.mono (by decide)) hr rfl (a_cons s_v (a_cons s_int a_nil)) (aLen_cons (aLen_cons aLen_nil))))) (g_n sc.nd)
 (ss_cons (s_set sc.nd rfl (by first | exact Or.inl rfl | exact Or.inr rfl) (s_fn (F__law_pick.mono (by decide)) hr rfl (a_cons s_v (a_cons (s_bor (s_callB c_len rfl h_len (by decide +kernel) (a_cons s_v a_nil))) a_nil)) (aLen_cons (aLen_cons aLen_nil))))
 (ss_cons (s_set sc.nd rfl (by first | exact Or.inl rfl | exact Or.inr rfl) (s_ix s_v (s_fn (F__law_pick.mono (by decide)) hr rfl (a_cons s_v (a_cons (s_callB c_len rfl h_len (by decide +kernel) (a_cons s_v a_nil)) a_nil)) (aLen_cons (aLen_cons aLen_nil)))))
 (ss_cons (s_set sc.nd rfl (by first | exact Or.inl rfl | exact Or.inr rfl) (s_tupRg1 rfl rfl h_tuple rfl h_range (s_callB c_len rfl h_len (by decide +kernel) (a_cons (s_ix s_v s_int) a_nil))))
 (ss_one (s_setIx pv s_v (s_ix (s_ofL (l_dsp (a_cons (s_tup a_nil) (a_cons s_v (a_cons (s_slice s_v o_no (o_at s_int)) (a_cons s_v (a_cons (s_slice s_v (o_at (s_neg s_int)) o_no) (a_cons (s_slice s_v o_no (o_at s_int)) a_nil)))))))) (s_fn (F__law_pick.mono (by decide)) hr rfl (a_cons s_v (a_cons s_int a_nil)) (aLen_cons (aLen_cons aLen_nil))))))))))
 (ss_one (s_ret (s_frz pv)))))
theorem sc__law_plan_right : FnScope ["source", "crossing", "plan", "every", "rows", "stretches", "tick", "s", "ticks", "told", "near", "value", "due", "held", "i"] ["source", "crossing", "plan"] (defScope st__law_plan_right) := ⟨rfl, rfl, rfl, by decide +kernel, rfl, by decide +kernel, by decide +kernel⟩
def m__law_plan_right : M Out :=
 (sSeq (sPar [3, 4] (pVal (eFn S__law_stages (aCons (eVar 1) aNil)) (pVal (eFn S__law_lamp_rows (aCons (eVar 1) (aCons (eLst (lDisp (aCons (eVar 2) aNil))) aNil))) pNil)))
 (sSeq (sPar [5, 6] (pVal (eLst (lDisp aNil)) (pVal (eC (.int 0)) pNil)))
 (sSeq (sFor (iSeq (eVar 2)) (gT (gCons (gN 7) (gCons (gN 8) gNil)))
 (sSeq (sSet 5 (eBin addD (eVar 5) (eLst (eComp [14] (gN 14) (ret true) (eTup (aCons (eVar 14) (aCons (eVar 6) (aCons (eBin addD (eVar 6) (eVar 8)) aNil)))) (iSeq (eBin ixD (eVar 3) (eVar 7)))))))
 (sSet 6 (eBin addD (eBin addD (eVar 6) (eVar 8)) (eFn S__law_clearing (aCons (eVar 1) (aCons (eBin ixD (eVar 3) (eVar 7)) aNil)))))))
 (sSeq (sSet 9 (eLst (lDisp (aCons (eFn S_need_of (aCons (eVar 1) (aCons (eVar 2) aNil))) (aCons (eFn S_capacity_of (aCons (eVar 1) (aCons (eVar 2) aNil))) (aCons (eFn S_greens (aCons (eVar 1) (aCons (eVar 2) aNil))) aNil))))))
 (sSeq (sIf (tst (eBin neD (eVar 9) (eLst (lDisp (aCons (eFn S__law_need (aCons (eVar 1) (aCons (eVar 2) aNil))) (aCons (eFn S__law_capacity (aCons (eVar 1) (aCons (eVar 2) aNil))) (aCons (eCall tupG (aCons (eLst (eCallL srtG (aCons (eVar 5) aNil))) aNil)) aNil)))))))
 (sRet (eC (.bl false)))
 sNx)
 (sSeq (sIf (tst (eBin neD (eLst (eComp [6] (gN 6) (ret true) (eFn S_lamps_at (aCons (eVar 1) (aCons (eVar 2) (aCons (eVar 6) aNil)))) (iRg1 (eBin ixD (eVar 1) (eC (.int 2)))))) (eVar 4)))
 (sRet (eC (.bl false)))
 sNx)
 (sSeq (sSet 10 (eFn S__law_near_plans (aCons (eVar 0) (aCons (eVar 1) (aCons (eVar 2) aNil)))))
 (sSeq (sFor (iSeq (eVar 10)) (gN 11)
 (sSeq (sSet 12 (eFn S__law_plan_fault (aCons (eVar 1) (aCons (eVar 11) aNil))))
 (sSeq (sPar [13, 9] (pVal (eCall reprH (aCons (eVar 11) aNil)) (pVal (eLst (lDisp (aCons (eFn S_judge_plan (aCons (eVar 1) (aCons (eVar 11) aNil))) (aCons (eFn S_is_plan (aCons (eVar 1) (aCons (eVar 11) aNil))) aNil)))) pNil)))
 (sIf (tOr2 (tst (eBin neD (eCall reprH (aCons (eVar 9) aNil)) (eCall reprH (aCons (eLst (lDisp (aCons (eVar 12) (aCons (eBin isND (eVar 12) (eC .non)) aNil)))) aNil)))) (tst (eBin neD (eCall reprH (aCons (eVar 11) aNil)) (eVar 13))))
 (sRet (eC (.bl false)))
 sNx))))
 (sRet (eC (.bl true)))))))))))
def S__law_plan_right : FnSem := fnOf 15 m__law_plan_right
theorem w__law_plan_right {P : Program} {w : World} {K : PySem.W.Frag} {mg : Str → Option Value} {base : Heap} {f : Addr} {fd : FuncData} (F : FP K "_law_plan_right" st__law_plan_right f fd) (hm : mg "_law_plan_right" = some (.ref f)) (h_range : mg "range" = none) (h_repr : mg "repr" = none) (h_sorted : mg "sorted" = none) (h_tuple : mg "tuple" = none) (F__law_capacity : Fn P w K mg base 4 "_law_capacity" 2 S__law_capacity) (F__law_clearing : Fn P w K mg base 2 "_law_clearing" 2 S__law_clearing) (F__law_lamp_rows : Fn P w K mg base 4 "_law_lamp_rows" 2 S__law_lamp_rows) (F__law_near_plans : Fn P w K mg base 4 "_law_near_plans" 3 S__law_near_plans) (F__law_need : Fn P w K mg base 4 "_law_need" 2 S__law_need) (F__law_plan_fault : Fn P w K mg base 5 "_law_plan_fault" 2 S__law_plan_fault) (F__law_stages : Fn P w K mg base 3 "_law_stages" 1 S__law_stages) (F_capacity_of : Fn P w K mg base 4 "capacity_of" 2 S_capacity_of) (F_greens : Fn P w K mg base 5 "greens" 2 S_greens) (F_is_plan : Fn P w K mg base 7 "is_plan" 2 S_is_plan) (F_judge_plan : Fn P w K mg base 6 "judge_plan" 2 S_judge_plan) (F_lamps_at : Fn P w K mg base 6 "lamps_at" 3 S_lamps_at) (F_need_of : Fn P w K mg base 5 "need_of" 2 S_need_of) : Fn P w K mg base 8 "_law_plan_right" 3 S__law_plan_right := by
  have sc := sc__law_plan_right
  refine fn_body (k := 7) (N := ["source", "crossing", "plan", "every", "rows", "stretches", "tick", "s", "ticks", "told", "near", "value", "due", "held", "i"]) (m := m__law_plan_right) F hm (F.bindsN (ps := ["source", "crossing", "plan"]) fun _ _ _ _ _ _ us hl => match us, hl with | [_, _, _], _ => rfl) sc (by decide) fun cdv A outer s H hr => ?_
  have hu := hr.u64
  have hv := hr.u65
  have hv1 := hr.u1
  unfold m__law_plan_right
  exact (ss_cons (s_par2 rfl sc.nd rfl rfl (by decide) rfl rfl (p_val (s_fn (F__law_stages.mono (by decide)) hr rfl (a_cons s_v a_nil) (aLen_cons aLen_nil)) (p_val (s_fn (F__law_lamp_rows.mono (by decide)) hr rfl (a_cons s_v (a_cons (s_ofL (l_dsp (a_cons s_v a_nil))) a_nil)) (aLen_cons (aLen_cons aLen_nil))) p_nil)) rfl)
 (ss_cons (s_parT rfl (by decide) (pgs_name sc.nd rfl (by first | exact Or.inl rfl | exact Or.inr rfl) (pgs_name sc.nd rfl (by first | exact Or.inl rfl | exact Or.inr rfl) pgs_none)) (p_val (s_ofL (l_dsp a_nil)) (p_val s_int p_nil)))
 (ss_cons (s_for PassesOwn.never rfl (i_seq s_v) (g_tup rfl (gs_cons (g_n sc.nd) (gs_cons (g_n sc.nd) gs_nil)) rfl rfl (gCons_len (gCons_len gNil_len)))
 (ss_cons (s_set sc.nd rfl (by first | exact Or.inl rfl | exact Or.inr rfl) (s_bin od_add s_v (s_ofL (l_comp (own := [("i", 14)]) ⟨rfl, sc.nd, (blk_of rfl (by kernel_rfl)), by decide, fun _ _ _ _ _ => (g_n sc.nd), fun _ _ _ _ _ => f_nil, fun _ _ _ _ _ => (s_tup (a_cons s_v (a_cons s_v (a_cons (s_bin od_add s_v s_v) a_nil))))⟩ (i_seq (s_ix s_v s_v))))))
 (ss_one (s_set sc.nd rfl (by first | exact Or.inl rfl | exact Or.inr rfl) (s_bin od_add (s_bin od_add s_v s_v) (s_fn (F__law_clearing.mono (by decide)) hr rfl (a_cons s_v (a_cons (s_ix s_v s_v) a_nil)) (aLen_cons (aLen_cons aLen_nil))))))))
 (ss_cons (s_set sc.nd rfl (by first | exact Or.inl rfl | exact Or.inr rfl) (s_ofL (l_dsp (a_cons (s_fn (F_need_of.mono (by decide)) hr rfl (a_cons s_v (a_cons s_v a_nil)) (aLen_cons (aLen_cons aLen_nil))) (a_cons (s_fn (F_capacity_of.mono (by decide)) hr rfl (a_cons s_v (a_cons s_v a_nil)) (aLen_cons (aLen_cons aLen_nil))) (a_cons (s_fn (F_greens.mono (by decide)) hr rfl (a_cons s_v (a_cons s_v a_nil)) (aLen_cons (aLen_cons aLen_nil))) a_nil))))))
 (ss_cons (s_ifS (t_cmp (od_ne hu) s_v (s_ofL (l_dsp (a_cons (s_fn (F__law_need.mono (by decide)) hr rfl (a_cons s_v (a_cons s_v a_nil)) (aLen_cons (aLen_cons aLen_nil))) (a_cons (s_fn (F__law_capacity.mono (by decide)) hr rfl (a_cons s_v (a_cons s_v a_nil)) (aLen_cons (aLen_cons aLen_nil))) (a_cons (s_callT c_tup rfl h_tuple (by decide +kernel) (a_cons (s_ofL (l_callB (c_srt hr) rfl h_sorted boot_sorted (a_cons s_v a_nil))) a_nil)) a_nil))))))
 (ss_one (s_ret s_bl))
 ss_nil)
 (ss_cons (s_ifS (t_cmp (od_ne hu) (s_ofL (l_comp (own := [("tick", 6)]) ⟨rfl, sc.nd, (blk_of rfl (by kernel_rfl)), by decide, fun _ _ _ _ _ => (g_n sc.nd), fun _ _ _ _ _ => f_nil, fun _ _ _ _ _ => (s_fn (F_lamps_at.mono (by decide)) hr rfl (a_cons s_v (a_cons s_v (a_cons s_v a_nil))) (aLen_cons (aLen_cons (aLen_cons aLen_nil))))⟩ (i_rg1 rfl h_range (s_ix s_v s_int)))) s_v)
 (ss_one (s_ret s_bl))
 ss_nil)
 (ss_cons (s_set sc.nd rfl (by first | exact Or.inl rfl | exact Or.inr rfl) (s_fn (F__law_near_plans.mono (by decide)) hr rfl (a_cons s_v (a_cons s_v (a_cons s_v a_nil))) (aLen_cons (aLen_cons (aLen_cons aLen_nil)))))
 (ss_cons (s_for PassesOwn.never rfl (i_seq s_v) (g_n sc.nd)
 (ss_cons (s_set sc.nd rfl (by first | exact Or.inl rfl | exact Or.inr rfl) (s_fn (F__law_plan_fault.mono (by decide)) hr rfl (a_cons s_v (a_cons s_v a_nil)) (aLen_cons (aLen_cons aLen_nil))))
 (ss_cons (s_par2 rfl sc.nd rfl rfl (by decide) rfl rfl (p_val (s_callB (c_reprH hr) rfl h_repr (by decide +kernel) (a_cons s_v a_nil)) (p_val (s_ofL (l_dsp (a_cons (s_fn (F_judge_plan.mono (by decide)) hr rfl (a_cons s_v (a_cons s_v a_nil)) (aLen_cons (aLen_cons aLen_nil))) (a_cons (s_fn (F_is_plan.mono (by decide)) hr rfl (a_cons s_v (a_cons s_v a_nil)) (aLen_cons (aLen_cons aLen_nil))) a_nil)))) p_nil)) rfl)
 (ss_one (s_ifS (SW.t (w_or (t_cmp (od_ne hu) (s_callB (c_reprH hr) rfl h_repr (by decide +kernel) (a_cons s_v a_nil)) (s_callB (c_reprH hr) rfl h_repr (by decide +kernel) (a_cons (s_ofL (l_dsp (a_cons s_v (a_cons (s_cmp od_isN s_v s_non) a_nil)))) a_nil))) (w_or1 (t_cmp (od_ne hu) (s_callB (c_reprH hr) rfl h_repr (by decide +kernel) (a_cons s_v a_nil)) s_v))))
 (ss_one (s_ret s_bl))
 ss_nil)))))
 (ss_one (s_ret s_bl))))))))))
theorem sc_law : FnScope ["script", "source", "lap", "crossing", "before", "plans", "rows", "turn", "bent", "held", "due", "some", "one", "other", "plan"] ["script"] (defScope st_law) := ⟨rfl, rfl, rfl, by decide +kernel, rfl, by decide +kernel, by decide +kernel⟩
def m_law : M Out :=
 (sSeq (sFor (iRg1 (eC (.int 3))) (gN 2)
 (sSeq (sSet 3 (eFn S__law_one_crossing (aCons (eVar 1) aNil)))
 (sSeq (sPar [4, 5] (pVal (eCall reprH (aCons (eVar 3) aNil)) (pVal (eLst (eComp [7] (gN 7) (ret true) (eFn S__law_loose_plan (aCons (eVar 1) (aCons (eVar 3) aNil))) (iRg1 (eC (.int 3))))) pNil)))
 (sSeq (sIf (tNot1 (tru (eCall allG (aCons (eLst (eComp [14] (gN 14) (ret true) (eFn S__law_plan_right (aCons (eVar 1) (aCons (eVar 3) (aCons (eVar 14) aNil)))) (iSeq (eBin addD (eVar 5) (eLst (lDisp (aCons (eTup aNil) aNil))))))) aNil))))
 (sRet (eC (.bl false)))
 sNx)
 (sSeq (sSet 6 (eFn S__law_lamp_rows (aCons (eVar 3) (aCons (eVar 5) aNil))))
 (sSeq (sIf (tOr2 (tst (eBin neD (eFn S_lamp_rows (aCons (eVar 3) (aCons (eVar 5) aNil))) (eVar 6))) (tst (eBin neD (eFn S_lamp_rows (aCons (eVar 3) (aCons (eLst (lDisp aNil)) aNil))) (eLst (lDisp aNil)))))
 (sRet (eC (.bl false)))
 sNx)
 (sSeq (sIf (tOr2 (tst (eBin notND (eFn S_judge_lamps (aCons (eVar 3) (aCons (eLst (eCallL lstG (aCons (eVar 6) aNil))) aNil))) (eC .non))) (tst (eBin notND (eFn S_judge_lamps (aCons (eVar 3) (aCons (eLst (lDisp aNil)) aNil))) (eC .non))))
 (sRet (eC (.bl false)))
 sNx)
 (sSeq (sFor (iRg1 (eC (.int 5))) (gN 7)
 (sSeq (sSet 8 (eFn S__law_bent_rows (aCons (eVar 1) (aCons (eVar 3) (aCons (eVar 6) aNil)))))
 (sSeq (sPar [9, 10] (pVal (eLst (eCallL lstG (aCons (eVar 8) aNil))) (pVal (eCall reprH (aCons (eFn S__law_lamp_fault (aCons (eVar 3) (aCons (eVar 8) aNil))) aNil)) pNil)))
 (sSeq (sIf (tOr2 (tst (eBin neD (eCall reprH (aCons (eFn S_judge_lamps (aCons (eVar 3) (aCons (eCall tupG (aCons (eVar 8) aNil)) aNil))) aNil)) (eVar 10))) (tst (eBin neD (eCall reprH (aCons (eFn S_judge_lamps (aCons (eVar 3) (aCons (eVar 8) aNil))) aNil)) (eVar 10))))
 (sRet (eC (.bl false)))
 sNx)
 (sIf (tst (eBin neD (eVar 8) (eVar 9)))
 (sRet (eC (.bl false)))
 sNx)))))
 (sSeq (sSet 11 (eLst (eComp [14] (gN 14) (ret true) (eFn S__law_capacity (aCons (eVar 3) (aCons (eVar 14) aNil))) (iSeq (eVar 5)))))
 (sSeq (sFor (iSeq (eVar 11)) (gN 12)
 (sFor (iSeq (eVar 11)) (gN 13)
 (sIf (tst (eBin neD (eCall reprH (aCons (eFn S_is_above (aCons (eVar 12) (aCons (eVar 13) aNil))) aNil)) (eCall reprH (aCons (eAnd (eBin neD (eVar 12) (eVar 13)) (eFn S__law_is_least (aCons (eVar 12) (aCons (eVar 13) aNil)))) aNil))))
 (sRet (eC (.bl false)))
 sNx)))
 (sIf (tst (eBin neD (eCall reprH (aCons (eVar 3) aNil)) (eVar 4)))
 (sRet (eC (.bl false)))
 sNx)))))))))))
 (sRet (eC (.bl true))))
theorem w_law {P : Program} {w : World} {K : PySem.W.Frag} {mg : Str → Option Value} {base : Heap} {f : Addr} {fd : FuncData} (F : FP K "law" st_law f fd) (hm : mg "law" = some (.ref f)) (h_all : mg "all" = none) (h_list : mg "list" = none) (h_range : mg "range" = none) (h_repr : mg "repr" = none) (h_tuple : mg "tuple" = none) (F__law_bent_rows : Fn P w K mg base 4 "_law_bent_rows" 3 S__law_bent_rows) (F__law_capacity : Fn P w K mg base 4 "_law_capacity" 2 S__law_capacity) (F__law_is_least : Fn P w K mg base 1 "_law_is_least" 2 S__law_is_least) (F__law_lamp_fault : Fn P w K mg base 2 "_law_lamp_fault" 2 S__law_lamp_fault) (F__law_lamp_rows : Fn P w K mg base 4 "_law_lamp_rows" 2 S__law_lamp_rows) (F__law_loose_plan : Fn P w K mg base 4 "_law_loose_plan" 2 S__law_loose_plan) (F__law_one_crossing : Fn P w K mg base 4 "_law_one_crossing" 1 S__law_one_crossing) (F__law_plan_right : Fn P w K mg base 8 "_law_plan_right" 3 S__law_plan_right) (F_is_above : Fn P w K mg base 1 "is_above" 2 S_is_above) (F_judge_lamps : Fn P w K mg base 3 "judge_lamps" 2 S_judge_lamps) (F_lamp_rows : Fn P w K mg base 7 "lamp_rows" 2 S_lamp_rows) (F_open : FnW P w K mg base 8 "_law_open_cells" (spOpen K)) (ok : ∀ src, ∃ s', m_law ⟨lawEnv 15 1, src⟩ = some (.ret (.bl true), s')) : FnW P w K mg base 9 "law" (spLaw K) := by
  have sc := sc_law
  refine law_fn (k := 8) (N := ["script", "source", "lap", "crossing", "before", "plans", "rows", "turn", "bent", "held", "due", "some", "one", "other", "plan"]) (m := m_law) (i := 1) (y := "script") F hm (F.bindsN (ps := ["script"]) fun _ _ _ _ _ _ us hl => match us, hl with | [_], _ => rfl) sc (by decide) (by decide) (fun cdv A outer s H hr => ⟨?_, ?_⟩) ok
  · exact ps_set sc.nd rfl (by first | exact Or.inl rfl | exact Or.inr rfl) (pe_raw F_open hr rfl (pa_cons pv pa_nil))
  · have hu := hr.u64
    have hv := hr.u65
    have hv1 := hr.u1
    unfold m_law
    exact (ss_cons (s_for PassesOwn.never rfl (i_rg1 rfl h_range s_int) (g_n sc.nd)
 (ss_cons (s_set sc.nd rfl (by first | exact Or.inl rfl | exact Or.inr rfl) (s_fn (F__law_one_crossing.mono (by decide)) hr rfl (a_cons s_v a_nil) (aLen_cons aLen_nil)))
 (ss_cons (s_par2 rfl sc.nd rfl rfl (by decide) rfl rfl (p_val (s_callB (c_reprH hr) rfl h_repr (by decide +kernel) (a_cons s_v a_nil)) (p_val (s_ofL (l_comp (own := [("turn", 7)]) ⟨rfl, sc.nd, (blk_of rfl (by kernel_rfl)), by decide, fun _ _ _ _ _ => (g_n sc.nd), fun _ _ _ _ _ => f_nil, fun _ _ _ _ _ => (s_fn (F__law_loose_plan.mono (by decide)) hr rfl (a_cons s_v (a_cons s_v a_nil)) (aLen_cons (aLen_cons aLen_nil)))⟩ (i_rg1 rfl h_range s_int))) p_nil)) rfl)
 (ss_cons (s_ifS (t_not (t_of (s_callB (c_all rfl) rfl h_all (by decide +kernel) (a_cons (s_ofL (l_comp (own := [("plan", 14)]) ⟨rfl, sc.nd, (blk_of rfl (by kernel_rfl)), by decide, fun _ _ _ _ _ => (g_n sc.nd), fun _ _ _ _ _ => f_nil, fun _ _ _ _ _ => (s_fn (F__law_plan_right.mono (by decide)) hr rfl (a_cons s_v (a_cons s_v (a_cons s_v a_nil))) (aLen_cons (aLen_cons (aLen_cons aLen_nil))))⟩ (i_seq (s_bin od_add s_v (s_ofL (l_dsp (a_cons (s_tup a_nil) a_nil))))))) a_nil))))
 (ss_one (s_ret s_bl))
 ss_nil)
 (ss_cons (s_set sc.nd rfl (by first | exact Or.inl rfl | exact Or.inr rfl) (s_fn (F__law_lamp_rows.mono (by decide)) hr rfl (a_cons s_v (a_cons s_v a_nil)) (aLen_cons (aLen_cons aLen_nil))))
 (ss_cons (s_ifS (SW.t (w_or (t_cmp (od_ne hu) (s_fn (F_lamp_rows.mono (by decide)) hr rfl (a_cons s_v (a_cons s_v a_nil)) (aLen_cons (aLen_cons aLen_nil))) s_v) (w_or1 (t_cmp (od_ne hu) (s_fn (F_lamp_rows.mono (by decide)) hr rfl (a_cons s_v (a_cons (s_ofL (l_dsp a_nil)) a_nil)) (aLen_cons (aLen_cons aLen_nil))) (s_ofL (l_dsp a_nil))))))
 (ss_one (s_ret s_bl))
 ss_nil)
 (ss_cons (s_ifS (SW.t (w_or (t_cmp od_notN (s_fn (F_judge_lamps.mono (by decide)) hr rfl (a_cons s_v (a_cons (s_ofL (l_callT c_lst rfl h_list boot_list (a_cons s_v a_nil))) a_nil)) (aLen_cons (aLen_cons aLen_nil))) s_non) (w_or1 (t_cmp od_notN (s_fn (F_judge_lamps.mono (by decide)) hr rfl (a_cons s_v (a_cons (s_ofL (l_dsp a_nil)) a_nil)) (aLen_cons (aLen_cons aLen_nil))) s_non))))
 (ss_one (s_ret s_bl))
 ss_nil)
 (ss_cons (s_for PassesOwn.never rfl (i_rg1 rfl h_range s_int) (g_n sc.nd)
 (ss_cons (s_set sc.nd rfl (by first | exact Or.inl rfl | exact Or.inr rfl) (s_fn (F__law_bent_rows.mono (by decide)) hr rfl (a_cons s_v (a_cons s_v (a_cons s_v a_nil))) (aLen_cons (aLen_cons (aLen_cons aLen_nil)))))
 (ss_cons (s_par2 rfl sc.nd rfl rfl (by decide) rfl rfl (p_val (s_ofL (l_callT c_lst rfl h_list boot_list (a_cons s_v a_nil))) (p_val (s_callB (c_reprH hr) rfl h_repr (by decide +kernel) (a_cons (s_fn (F__law_lamp_fault.mono (by decide)) hr rfl (a_cons s_v (a_cons s_v a_nil)) (aLen_cons (aLen_cons aLen_nil))) a_nil)) p_nil)) rfl)
 (ss_cons (s_ifS (SW.t (w_or (t_cmp (od_ne hu) (s_callB (c_reprH hr) rfl h_repr (by decide +kernel) (a_cons (s_fn (F_judge_lamps.mono (by decide)) hr rfl (a_cons s_v (a_cons (s_callT c_tup rfl h_tuple (by decide +kernel) (a_cons s_v a_nil)) a_nil)) (aLen_cons (aLen_cons aLen_nil))) a_nil)) s_v) (w_or1 (t_cmp (od_ne hu) (s_callB (c_reprH hr) rfl h_repr (by decide +kernel) (a_cons (s_fn (F_judge_lamps.mono (by decide)) hr rfl (a_cons s_v (a_cons s_v a_nil)) (aLen_cons (aLen_cons aLen_nil))) a_nil)) s_v))))
 (ss_one (s_ret s_bl))
 ss_nil)
 (ss_one (s_ifS (t_cmp (od_ne hu) s_v s_v)
 (ss_one (s_ret s_bl))
 ss_nil))))))
 (ss_cons (s_setLc (own := [("plan", 14)])  rfl rfl rfl ⟨rfl, sc.nd, (blk_of rfl (by kernel_rfl)), by decide, fun _ _ _ _ _ => (g_n sc.nd), fun _ _ _ _ _ => f_nil, fun _ _ _ _ _ => (s_fn (F__law_capacity.mono (by decide)) hr rfl (a_cons s_v (a_cons s_v a_nil)) (aLen_cons (aLen_cons aLen_nil)))⟩ (i_seq s_v))
 (ss_cons (s_for PassesOwn.never rfl (i_seq s_v) (g_n sc.nd)
 (ss_one (s_for PassesOwn.never rfl (i_seq s_v) (g_n sc.nd)
 (ss_one (s_ifS (t_cmp (od_ne hu) (s_callB (c_reprH hr) rfl h_repr (by decide +kernel) (a_cons (s_fn (F_is_above.mono (by decide)) hr rfl (a_cons s_v (a_cons s_v a_nil)) (aLen_cons (aLen_cons aLen_nil))) a_nil)) (s_callB (c_reprH hr) rfl h_repr (by decide +kernel) (a_cons (s_and (s_cmp (od_ne hu) s_v s_v) (s_one (s_fn (F__law_is_least.mono (by decide)) hr rfl (a_cons s_v (a_cons s_v a_nil)) (aLen_cons (aLen_cons aLen_nil))))) a_nil)))
 (ss_one (s_ret s_bl))
 ss_nil)))))
 (ss_one (s_ifS (t_cmp (od_ne hu) (s_callB (c_reprH hr) rfl h_repr (by decide +kernel) (a_cons s_v a_nil)) s_v)
 (ss_one (s_ret s_bl))
 ss_nil))))))))))))
 (ss_one (s_ret s_bl)))
end GW
end

local macro_rules | `(tactic| simp_arith [$ls,*]) => `(tactic| simp only [↓GH.wp_ret, ↓GH.wp_lift, ↓GH.sm_some, ↓GH.sm_map, ↓GH.sm_bind, ↓GH.ifB_tt, ↓GH.ifB_ff, ↓GH.ifB_dec, ↓GH.ifB_not, ↓GH.nx_nx, ↓GH.nx_ret, ↓GH.nx_brk, ↓GH.nx_cnt, ↓GH.varAt_z, ↓GH.varAt_s, ↓GH.slAt_z, ↓GH.slAt_s, ↓GH.ownAt_z, ↓GH.ownAt_s, ↓GH.setAt_z, ↓GH.setAt_s, ↓GH.frzAt_z, ↓GH.frzAt_s, ↓GH.bor_val, ↓GH.bor_own, ↓GH.bor_ownK, ↓GH.bor_ownT, ↓GH.len_0, ↓GH.len_1, ↓GH.len_2, ↓GH.len_3, ↓GH.len_4, ↓GH.len_5, ↓GH.len_6, ↓GH.isB_bl, ↓GH.isI_int, ↓GH.wp_var, ↓GH.wp_frz, ↓GH.wp_C, ↓GH.wp_bin, ↓GH.wp_un, ↓GH.wp_tst, ↓GH.wp_tru, ↓GH.wp_and2, ↓GH.wp_or2, ↓GH.wp_not1, ↓GH.wp_eAnd, ↓GH.wp_eOr, ↓GH.wp_eNot, ↓GH.wp_eIf, ↓GH.wp_chain, ↓GH.wp_aNil, ↓GH.wp_aCons, ↓GH.wp_aStar, ↓GH.wp_tup, ↓GH.wp_disp, ↓GH.wp_lst, ↓GH.wp_call, ↓GH.wp_callL, ↓GH.wp_binL, ↓GH.wp_fn, ↓GH.wp_fld, ↓GH.wp_oNo, ↓GH.wp_oAt, ↓GH.wp_sl, ↓GH.wp_ixO, ↓GH.wp_here, ↓GH.wp_putL, ↓GH.wp_app, ↓GH.sm_app, ↓GH.wp_pop, ↓GH.sm_popL, ↓GH.wp_popAt, ↓GH.wp_bor, ↓GH.wp_tBor, ↓GH.isFlat_int, ↓GH.isFlat_bl, ↓GH.isFlat_non, ↓GH.isFlat_str, ↓GH.wp_seq, ↓GH.wp_nx, ↓GH.wp_sRet, ↓GH.wp_sIf, ↓GH.wp_sExpr, ↓GH.wp_asg, ↓GH.wp_gN, ↓GH.wp_gT, ↓GH.wp_gCons, ↓GH.wp_gNil, ↓GH.wp_set, ↓GH.wp_own, ↓GH.wp_aug, ↓GH.sm_aug, ↓GH.wp_setIx, ↓GH.wp_ownGet, ↓GH.wp_augIx, ↓GH.wp_sFor, ↓GH.wp_pNil, ↓GH.wp_pVal, ↓GH.wp_pOwn, ↓GH.wp_par, ↓GH.sm_put0, ↓GH.sm_put, ↓GH.wp_iSeq, ↓GH.wp_rg1, ↓GH.wp_rg2, ↓GH.wp_enum, ↓GH.wp_zip2, ↓GH.wp_zip3, ↓GH.wp_lRg1, ↓GH.wp_lRg2, ↓GH.wp_tupRg, ↓GH.sm_addI, ↓GH.sm_addT, ↓GH.sm_addL, ↓GH.sm_addLD, ↓GH.sm_subI, ↓GH.sm_mulI, ↓GH.sm_mulL, ↓GH.sm_mulLD, ↓GH.sm_modI, ↓GH.sm_fdivI, ↓GH.sm_ltI, ↓GH.sm_leI, ↓GH.sm_gtI, ↓GH.sm_geI, ↓GH.sm_eqI, ↓GH.sm_neI, ↓GH.sm_isN, ↓GH.sm_notN, ↓GH.sm_ixT, ↓GH.sm_ixL, ↓GH.sm_ownO, ↓GH.sm_ownL, ↓GH.sm_ownT, ↓GH.at_0, ↓GH.at_1, ↓GH.at_2, ↓GH.at_3, ↓GH.at_4, ↓GH.at_map, ↓GH.sm_lenL, ↓GH.sm_lenT, ↓GH.sm_intI, ↓GH.sm_intB, ↓GH.sm_absI, ↓GH.sm_tupL, ↓GH.sm_tupT, ↓GH.sm_lstL, ↓GH.sm_lstT, ↓GH.sm_sumL1, ↓GH.sm_sumT1, ↓GH.sm_sumL, ↓GH.sm_sumT, ↓GH.sm_maxI, ↓GH.sm_minI, ↓GH.sm_maxL1, ↓GH.sm_minL1, ↓GH.sm_maxL, ↓GH.sm_minL, ↓GH.sm_anyL, ↓GH.sm_allL, ↓GH.sm_negI, ↓GH.sm_revL, ↓GH.sm_revT, ↓GH.sm_seqL, ↓GH.sm_seqT, ↓GH.sm_slL, ↓GH.sm_slT, ↓GH.sm_truB, ↓GH.sm_truN, ↓GH.sm_truI, ↓GH.sm_truL, ↓GH.sm_truT, ↓GH.sm_inR, ↓GH.sm_inT, ↓GH.sm_inL, ↓GH.sm_ninT, ↓GH.sm_ninL, ↓GH.sm_setL, ↓GH.wp_comp, ↓GH.wp_turn, ↓GH.lp_nx, ↓GH.lp_cnt, ↓GH.lp_brk, ↓GH.lp_ret, ↓GH.outR_ret, ↓GH.outR_nx, ↓GH.ownB_L, ↓GH.ownB_K, ↓GH.ownB_T, ↓GH.wp_nw, ↓GH.wp_nK0, ↓GH.wp_nT0, ↓GH.wp_dpNil, ↓GH.wp_dpCons, ↓GH.wp_nDisp, ↓GH.wp_ownN, ↓GH.wp_pOwnN, ↓GH.wp_dgO, ↓GH.own2_K, ↓GH.own2_T, ↓GH.own2_s, ↓GH.wp_here2, ↓GH.wp_putD, ↓GH.putAt_s, ↓GH.putAt_K, ↓GH.putAt_T, ↓GH.wp_sPutD, ↓GH.sm_keyI, ↓GH.sm_keyS, ↓GH.sm_keysT, ↓GH.sm_dgK, ↓GH.sm_dgT, ↓GH.sm_dinK, ↓GH.sm_dinT, ↓GH.sm_dninK, ↓GH.sm_dninT, ↓GH.dctAt_KI, ↓GH.dctAt_T, ↓GH.dctAt_s, ↓GH.wp_forD, ↓GH.noneAt_z, ↓GH.noneAt_s, ↓GH.wp_noneAt, ↓GH.wp_newL, ↓GH.wp_newP, ↓GH.wp_setL, ↓GH.wp_fillL, ↓GH.wp_lSl, ↓GH.sm_lstD, ↓GH.enumP_map, ↓GH.zip2P_map, ↓GH.zip3P_map, ↓GH.sm_eqNilI, ↓GH.sm_neNilI, ↓GH.sm_eqIL, ↓GH.sm_neIL, ↓GH.sm_eqIT, ↓GH.sm_neIT, ↓GH.at_snoc, ↓GH.sm_ne3, ↓GH.sm_ne2, ↓GH.sm_srtI, ↓GH.wp_rgV, ↓GH.isR_rng, ↓GH.sm_rng1, ↓GH.wp_ext, ↓GH.sm_extL, ↓GH.sm_srtD, GH.isV_none, GH.isV_val, GH.isV_jv, GH.allV_nil, GH.allV_cons, GH.jv_some, GH.jv_none, GH.out_nx, GH.kGet_lkp, GH.lkp_isSome, GH.borF, GH.bor_z, GH.bor_tt, GH.bor_no, GH.clean_nil, GH.clean_cons, GH.cleanAt_s, GH.cleanAt_n, GH.cleanAt_v, GH.cleanAt_j, GH.wipe_nil, GH.wipe_cons, GH.startE_z, GH.startE_n, GH.startE_s, eq_self, Option.isSome_map, List.set_cons_zero, List.set_cons_succ, List.cons_append, List.nil_append, and_true, true_and, and_self, true_implies, implies_true, not_false_eq_true, not_true_eq_false, false_implies, Option.some.injEq, List.contains_cons, List.contains_nil, Nat.reduceBEq, Bool.or_false, Bool.or_true, Bool.false_or, Bool.true_or, Nat.zero_add, Nat.reduceAdd, $ls,*])
local macro_rules | `(tactic| simp_all_arith [$ls,*]) => `(tactic| simp only [↓GH.wp_ret, ↓GH.wp_lift, ↓GH.sm_some, ↓GH.sm_map, ↓GH.sm_bind, ↓GH.ifB_tt, ↓GH.ifB_ff, ↓GH.ifB_dec, ↓GH.ifB_not, ↓GH.nx_nx, ↓GH.nx_ret, ↓GH.nx_brk, ↓GH.nx_cnt, ↓GH.varAt_z, ↓GH.varAt_s, ↓GH.slAt_z, ↓GH.slAt_s, ↓GH.ownAt_z, ↓GH.ownAt_s, ↓GH.setAt_z, ↓GH.setAt_s, ↓GH.frzAt_z, ↓GH.frzAt_s, ↓GH.bor_val, ↓GH.bor_own, ↓GH.bor_ownK, ↓GH.bor_ownT, ↓GH.len_0, ↓GH.len_1, ↓GH.len_2, ↓GH.len_3, ↓GH.len_4, ↓GH.len_5, ↓GH.len_6, ↓GH.isB_bl, ↓GH.isI_int, ↓GH.wp_var, ↓GH.wp_frz, ↓GH.wp_C, ↓GH.wp_bin, ↓GH.wp_un, ↓GH.wp_tst, ↓GH.wp_tru, ↓GH.wp_and2, ↓GH.wp_or2, ↓GH.wp_not1, ↓GH.wp_eAnd, ↓GH.wp_eOr, ↓GH.wp_eNot, ↓GH.wp_eIf, ↓GH.wp_chain, ↓GH.wp_aNil, ↓GH.wp_aCons, ↓GH.wp_aStar, ↓GH.wp_tup, ↓GH.wp_disp, ↓GH.wp_lst, ↓GH.wp_call, ↓GH.wp_callL, ↓GH.wp_binL, ↓GH.wp_fn, ↓GH.wp_fld, ↓GH.wp_oNo, ↓GH.wp_oAt, ↓GH.wp_sl, ↓GH.wp_ixO, ↓GH.wp_here, ↓GH.wp_putL, ↓GH.wp_app, ↓GH.sm_app, ↓GH.wp_pop, ↓GH.sm_popL, ↓GH.wp_popAt, ↓GH.wp_bor, ↓GH.wp_tBor, ↓GH.isFlat_int, ↓GH.isFlat_bl, ↓GH.isFlat_non, ↓GH.isFlat_str, ↓GH.wp_nx, ↓GH.wp_sRet, ↓GH.wp_sIf, ↓GH.wp_sExpr, ↓GH.wp_asg, ↓GH.wp_gN, ↓GH.wp_gT, ↓GH.wp_gCons, ↓GH.wp_gNil, ↓GH.wp_set, ↓GH.wp_own, ↓GH.wp_aug, ↓GH.sm_aug, ↓GH.wp_setIx, ↓GH.wp_ownGet, ↓GH.wp_augIx, ↓GH.wp_sFor, ↓GH.wp_pNil, ↓GH.wp_pVal, ↓GH.wp_pOwn, ↓GH.wp_par, ↓GH.sm_put0, ↓GH.sm_put, ↓GH.wp_iSeq, ↓GH.wp_rg1, ↓GH.wp_rg2, ↓GH.wp_enum, ↓GH.wp_zip2, ↓GH.wp_zip3, ↓GH.wp_lRg1, ↓GH.wp_lRg2, ↓GH.wp_tupRg, ↓GH.sm_addI, ↓GH.sm_addT, ↓GH.sm_addL, ↓GH.sm_addLD, ↓GH.sm_subI, ↓GH.sm_mulI, ↓GH.sm_mulL, ↓GH.sm_mulLD, ↓GH.sm_modI, ↓GH.sm_fdivI, ↓GH.sm_ltI, ↓GH.sm_leI, ↓GH.sm_gtI, ↓GH.sm_geI, ↓GH.sm_eqI, ↓GH.sm_neI, ↓GH.sm_isN, ↓GH.sm_notN, ↓GH.sm_ixT, ↓GH.sm_ixL, ↓GH.sm_ownO, ↓GH.sm_ownL, ↓GH.sm_ownT, ↓GH.at_0, ↓GH.at_1, ↓GH.at_2, ↓GH.at_3, ↓GH.at_4, ↓GH.at_map, ↓GH.sm_lenL, ↓GH.sm_lenT, ↓GH.sm_intI, ↓GH.sm_intB, ↓GH.sm_absI, ↓GH.sm_tupL, ↓GH.sm_tupT, ↓GH.sm_lstL, ↓GH.sm_lstT, ↓GH.sm_sumL1, ↓GH.sm_sumT1, ↓GH.sm_sumL, ↓GH.sm_sumT, ↓GH.sm_maxI, ↓GH.sm_minI, ↓GH.sm_maxL1, ↓GH.sm_minL1, ↓GH.sm_maxL, ↓GH.sm_minL, ↓GH.sm_anyL, ↓GH.sm_allL, ↓GH.sm_negI, ↓GH.sm_revL, ↓GH.sm_revT, ↓GH.sm_seqL, ↓GH.sm_seqT, ↓GH.sm_slL, ↓GH.sm_slT, ↓GH.sm_truB, ↓GH.sm_truN, ↓GH.sm_truI, ↓GH.sm_truL, ↓GH.sm_truT, ↓GH.sm_inR, ↓GH.sm_inT, ↓GH.sm_inL, ↓GH.sm_ninT, ↓GH.sm_ninL, ↓GH.sm_setL, ↓GH.wp_comp, ↓GH.wp_turn, ↓GH.lp_nx, ↓GH.lp_cnt, ↓GH.lp_brk, ↓GH.lp_ret, ↓GH.outR_ret, ↓GH.outR_nx, ↓GH.ownB_L, ↓GH.ownB_K, ↓GH.ownB_T, ↓GH.wp_nw, ↓GH.wp_nK0, ↓GH.wp_nT0, ↓GH.wp_dpNil, ↓GH.wp_dpCons, ↓GH.wp_nDisp, ↓GH.wp_ownN, ↓GH.wp_pOwnN, ↓GH.wp_dgO, ↓GH.own2_K, ↓GH.own2_T, ↓GH.own2_s, ↓GH.wp_here2, ↓GH.wp_putD, ↓GH.putAt_s, ↓GH.putAt_K, ↓GH.putAt_T, ↓GH.wp_sPutD, ↓GH.sm_keyI, ↓GH.sm_keyS, ↓GH.sm_keysT, ↓GH.sm_dgK, ↓GH.sm_dgT, ↓GH.sm_dinK, ↓GH.sm_dinT, ↓GH.sm_dninK, ↓GH.sm_dninT, ↓GH.dctAt_KI, ↓GH.dctAt_T, ↓GH.dctAt_s, ↓GH.wp_forD, ↓GH.noneAt_z, ↓GH.noneAt_s, ↓GH.wp_noneAt, ↓GH.wp_newL, ↓GH.wp_newP, ↓GH.wp_setL, ↓GH.wp_fillL, ↓GH.wp_lSl, ↓GH.sm_lstD, ↓GH.enumP_map, ↓GH.zip2P_map, ↓GH.zip3P_map, ↓GH.sm_eqNilI, ↓GH.sm_neNilI, ↓GH.sm_eqIL, ↓GH.sm_neIL, ↓GH.sm_eqIT, ↓GH.sm_neIT, ↓GH.at_snoc, ↓GH.sm_ne3, ↓GH.sm_ne2, ↓GH.sm_srtI, ↓GH.wp_rgV, ↓GH.isR_rng, ↓GH.sm_rng1, ↓GH.wp_ext, ↓GH.sm_extL, ↓GH.sm_srtD, GH.isV_none, GH.isV_val, GH.isV_jv, GH.allV_nil, GH.allV_cons, GH.jv_some, GH.jv_none, GH.out_nx, GH.kGet_lkp, GH.lkp_isSome, GH.borF, GH.bor_z, GH.bor_tt, GH.bor_no, GH.clean_nil, GH.clean_cons, GH.cleanAt_s, GH.cleanAt_n, GH.cleanAt_v, GH.cleanAt_j, GH.wipe_nil, GH.wipe_cons, GH.startE_z, GH.startE_n, GH.startE_s, eq_self, Option.isSome_map, List.set_cons_zero, List.set_cons_succ, List.cons_append, List.nil_append, and_true, true_and, and_self, true_implies, implies_true, not_false_eq_true, not_true_eq_false, false_implies, Option.some.injEq, List.contains_cons, List.contains_nil, Nat.reduceBEq, Bool.or_false, Bool.or_true, Bool.false_or, Bool.true_or, Nat.zero_add, Nat.reduceAdd, $ls,*])
local macro_rules | `(tactic| simp_all_arith) => `(tactic| simp_all_arith [and_true])
local macro_rules | `(tactic| simp_arith! [$ls,*]) => `(tactic| (refine GH.fn_val ?_; simp only [GH.startE_s, GH.startE_n, GH.startE_z, $ls,*]; simp_arith [$ls,*]))
local macro_rules | `(tactic| simp_arith) => `(tactic| simp_arith [and_true])
noncomputable section
namespace GW
open GH
theorem clean_nones {env : List (Option Sl)} {vs : List Nat} (h : ∀ v ∈ vs, env[v]? = some none ∨ env[v]? = none) : cleanE env vs := fun v hv x hx => by
  rcases h v hv with e | e <;> rw [e] at hx <;> simp at hx
theorem rngL0 (L : Int) : rngL 0 L = (List.range L.toNat).map fun i => D.int ((i : Nat) : Int) := by unfold rngL; simp
theorem ixN_of {n : Nat} {i : Int} (h : 0 ≤ i) (h2 : i < n) : L2.ixN n i = some i.toNat := by
  unfold L2.ixN; rw [if_pos h, if_pos h2]
theorem erase_perm {α : Type} : ∀ (l : List α) (i : Nat) (h : i < l.length), (l[i] :: l.eraseIdx i).Perm l
  | [], _, h => by simp at h
  | x :: l, 0, _ => by simp
  | x :: l, i + 1, h => by
    have h' : i < l.length := by simpa using h
    have := erase_perm l i h'
    simp only [List.getElem_cons_succ, List.eraseIdx_cons_succ]
    exact (List.Perm.swap x l[i] _).trans (this.cons x)
theorem order_loop (a1 : Option Sl) : ∀ (xs rem : List D) (x3 : Option Sl) (c : Src), xs.length = rem.length → rem.length ≤ 1000 → ∃ (ys : List D) (c' : Src) (y3 : Option Sl), ys.Perm rem ∧
    compF [3] (gN 3) (ret true) (ePopAt 2 (eFn S__law_pick (aCons (eVar 0) (aCons (eBor [2] (eCall lenG (aCons (eVar 2) aNil))) aNil)))) xs ⟨[some (.val .src), a1, some (.own rem), x3], c⟩
      = some (ys, ⟨[some (.val .src), a1, some (.own []), y3], c'⟩)
  | [], rem, x3, c, h, _ => by
    have : rem = [] := List.eq_nil_of_length_eq_zero (by simpa using h.symm)
    subst this
    exact ⟨[], c, x3, .refl _, rfl⟩
  | d :: xs, rem, x3, c, h, hl => by
    simp only [List.length_cons] at h
    let n := rem.length
    obtain ⟨r, c1, hp, h0, hr⟩ := pick_any (n : Int) c (by omega) (by omega)
    have hi : r.toNat < rem.length := by omega
    let y := rem[r.toNat]
    have herase : (rem.eraseIdx r.toNat).length = rem.length - 1 := List.length_eraseIdx_of_lt hi
    obtain ⟨ys, c', y3, hperm, e⟩ := order_loop a1 xs (rem.eraseIdx r.toNat) (some (.val d)) c1 (by rw [herase]; omega) (by omega)
    refine ⟨y :: ys, c', y3, (hperm.cons y).trans (erase_perm rem r.toNat hi), ?_⟩
    let env1 : List (Option Sl) := [some (.val .src), a1, some (.own rem), some (.val d)]
    have hpop : ePopAt 2 (eFn S__law_pick (aCons (eVar 0) (aCons (eBor [2] (eCall lenG (aCons (eVar 2) aNil))) aNil))) ⟨env1, c⟩ = some (y, ⟨[some (.val .src), a1, some (.own (rem.eraseIdx r.toNat)), some (.val d)], c1⟩) := by
      unfold ePopAt
      rw [bnd_eq (a := ()) (s1 := ⟨env1, c⟩) (by rfl)]
      refine (bnd_eq (fn_eq (env := env1) (c0 := c) (ds := [.src, .int (n : Int)]) (by rfl) hp)).trans ?_
      show (match popAtL (.int r) rem with
        | some (d, ds') => some (d, (⟨env1.set 2 (some (.own ds')), c1⟩ : S))
        | none => none) = _
      have hpa : popAtL (.int r) rem = some (y, rem.eraseIdx r.toNat) := by
        show ((L2.ixN rem.length r).bind fun n => if rem.length ≤ PySem.sizeLine then rem[n]?.map fun y => (y, rem.eraseIdx n) else none) = _
        rw [ixN_of h0 hr]
        show (if rem.length ≤ PySem.sizeLine then rem[r.toNat]?.map fun y => (y, rem.eraseIdx r.toNat) else none) = _
        rw [if_pos (sz _ (by omega)), List.getElem?_eq_getElem hi]
        rfl
      rw [hpa]
      rfl
    have hstep : cStep [3] (gN 3) (ret true) (ePopAt 2 (eFn S__law_pick (aCons (eVar 0) (aCons (eBor [2] (eCall lenG (aCons (eVar 2) aNil))) aNil)))) d ⟨[some (.val .src), a1, some (.own rem), x3], c⟩
        = some (some y, ⟨[some (.val .src), a1, some (.own (rem.eraseIdx r.toNat)), some (.val d)], c1⟩) := by
      rw [cStep_eq]
      unfold turnC
      refine (bnd_eq (a := ()) (s1 := ⟨env1, c⟩) (by rfl)).trans ?_
      rw [bnd_eq (a := true) (s1 := ⟨env1, c⟩) rfl, if_pos rfl, bnd_eq hpop]
      rfl
    show bnd (cStep _ _ _ _ d) _ _ = _
    rw [bnd_eq hstep, bnd_eq e]
    rfl
theorem order_eq (ds : List D) (c : Src) (hl : ds.length ≤ 1000) : ∃ (ys : List D) (c' : Src), ys.Perm ds ∧ S__law_any_order [.src, .lst ds] c = some (.lst ys, c') := by
  let xs := (List.range ds.length).map fun i : Nat => D.int (i : Int)
  obtain ⟨ys, c', y3, hperm, e⟩ := order_loop (some (.val (.lst ds))) xs ds none c (by simp [xs]) hl
  refine ⟨ys, c', hperm, ?_⟩
  let env0 : List (Option Sl) := [some (.val .src), some (.val (.lst ds)), some (.own ds), none]
  refine fnOf_ret (env := restE env0 [some (.val .src), some (.val (.lst ds)), some (.own []), y3] [3]) ?_
  unfold m__law_any_order
  rw [seq_nx (s1 := ⟨env0, c⟩) (by rfl)]
  refine ret_eq (lst_eq ?_)
  unfold eComp
  have hit : iRg1 (eBor [2] (eCall lenG (aCons (eVar 2) aNil))) ⟨env0, c⟩ = some (xs, ⟨env0, c⟩) := by
    show _ = some ((List.range ds.length).map (fun i : Nat => D.int (i : Int)), _)
    rw [show (List.range ds.length).map (fun i : Nat => D.int (i : Int)) = rngL 0 ((ds.length : Nat) : Int) by rw [rngL0]; rfl]
    unfold iRg1
    exact (bnd_eq (a := .int ((ds.length : Nat) : Int)) (s1 := ⟨env0, c⟩) (by rfl)).trans (by show (if okR ((ds.length : Nat) : Int) then ret (rngL 0 ((ds.length : Nat) : Int)) else fail) _ = _; rw [if_pos (okR_of (by omega) (by omega))]; rfl)
  refine (bnd_eq hit).trans ?_
  show (if xs.length ≤ PySem.sizeLine then (match compF [3] (gN 3) (ret true) (ePopAt 2 (eFn S__law_pick (aCons (eVar 0) (aCons (eBor [2] (eCall lenG (aCons (eVar 2) aNil))) aNil)))) xs ⟨env0, c⟩ with
    | some (ys, sn) => some (ys, { sn with env := restE env0 sn.env [3] })
    | none => none) else none) = _
  rw [if_pos (sz _ (by simp [xs]; omega)), e]
theorem wp_compX {α β : Type} {g : D → M Unit} {cc : M Bool} {el : M D} {vs : List Nat} {env : List (Option Sl)} {src : Src} {enc : α → D} (out : β → D) (R : α → β → Prop) {xs : List α} {Q : List D → S → Prop} (hl : xs.length ≤ 16777216) (cl : cleanE env vs)
    (step : ∀ x ∈ xs, ∀ s0, Wp (turnC g cc el (enc x)) ⟨wipeE env vs, s0⟩ fun o s' => (o = none ∨ ∃ y, o = some (out y) ∧ R x y) ∧ wipeE s'.env vs = wipeE env vs)
    (q : ∀ (ys : List β) s', ys.length ≤ xs.length → (∀ y ∈ ys, ∃ x ∈ xs, R x y) → Q (ys.map out) ⟨env, s'⟩) : Wp (compE vs g cc el (xs.map enc)) ⟨env, src⟩ Q := by
  have main : ∀ (xs : List α) (env0 : List (Option Sl)) (s0 : Src), wipeE env0 vs = wipeE env vs → (∀ x ∈ xs, ∀ s0, Wp (turnC g cc el (enc x)) ⟨wipeE env vs, s0⟩ fun o s' => (o = none ∨ ∃ y, o = some (out y) ∧ R x y) ∧ wipeE s'.env vs = wipeE env vs) →
      ∃ (ys : List β) (env2 : List (Option Sl)) (s' : Src), ys.length ≤ xs.length ∧ (∀ y ∈ ys, ∃ x ∈ xs, R x y) ∧ compF vs g cc el (xs.map enc) ⟨env0, s0⟩ = some (ys.map out, ⟨env2, s'⟩) ∧ wipeE env2 vs = wipeE env vs := fun xs => by
    induction xs with
    | nil => intro env0 s0 h _; exact ⟨[], env0, s0, Nat.le_refl _, fun y z => by simp at z, rfl, h⟩
    | cons x r ih =>
      intro env0 s0 h st
      obtain ⟨o, ⟨e1, c1⟩, g1, g2, g3⟩ := st x List.mem_cons_self s0
      obtain ⟨ys, env2, s', h1, h2, h3, h4⟩ := ih e1 c1 g3 fun x hx => st x (List.mem_cons_of_mem _ hx)
      have g1' : cStep vs g cc el (enc x) ⟨env0, s0⟩ = some (o, ⟨e1, c1⟩) := by rw [cStep_eq]; show turnC g cc el (enc x) ⟨wipeE env0 vs, s0⟩ = _; rw [h]; exact g1
      rcases g2 with rfl | ⟨y, rfl, g2⟩
      · refine ⟨ys, env2, s', by simp; omega, fun y hy => ?_, ?_, h4⟩
        · obtain ⟨x', hx, hr⟩ := h2 y hy; exact ⟨x', List.mem_cons_of_mem _ hx, hr⟩
        · show bnd (cStep vs g cc el (enc x)) _ _ = _
          rw [bnd_eq g1']
          first | exact h3 | (rw [bnd_eq h3]; rfl)
      · refine ⟨y :: ys, env2, s', by simp; omega, fun y' hy => ?_, ?_, h4⟩
        · rcases List.mem_cons.mp hy with rfl | hy
          · exact ⟨x, List.mem_cons_self, g2⟩
          · obtain ⟨x', hx, hr⟩ := h2 y' hy; exact ⟨x', List.mem_cons_of_mem _ hx, hr⟩
        · show bnd (cStep vs g cc el (enc x)) _ _ = _
          rw [bnd_eq g1', bnd_eq h3]; rfl
  obtain ⟨ys, env2, s', h1, h2, h3, h4⟩ := main xs env src rfl step
  exact ⟨_, _, compE_go (by simpa using hl) h3 h4 cl, q ys s' h1 h2⟩
theorem okR_of {L : Int} (h : 0 ≤ L) (h2 : L ≤ 100000) : okR L := ⟨by omega, by omega⟩
def eN (o : Option Int) : D := match o with | none => .non | some t => .int t
def eMv (m : Int × Option Int) : D := .tup [.int m.1, eN m.2]
def eCx (x : Int × Int × Int × Int) : D := .tup [.int x.1, .int x.2.1, .int x.2.2.1, .int x.2.2.2]
structure Cr where
  mv : List (Int × Option Int)
  cx : List (Int × Int × Int × Int)
  len : Int
def eCr (c : Cr) : D := .tup [.tup (c.mv.map eMv), .tup (c.cx.map eCx), .int c.len]
def MvOk (n : Int) (m : Int × Option Int) : Prop := 0 ≤ m.1 ∧ m.1 < n ∧ ∀ t, m.2 = some t → 0 ≤ t ∧ t < n ∧ t ≠ m.1
def CxOk (k : Int) (x : Int × Int × Int × Int) : Prop := 0 ≤ x.1 ∧ x.1 < x.2.1 ∧ x.2.1 < k ∧ 0 ≤ x.2.2.1 ∧ x.2.2.1 ≤ 2 ∧ 0 ≤ x.2.2.2 ∧ x.2.2.2 ≤ 2
structure CrOk (n : Int) (c : Cr) : Prop where
  mv : ∀ m ∈ c.mv, MvOk n m
  nd : c.mv.Nodup
  ne : c.mv ≠ []
  le : c.mv.length ≤ 4
  cx : ∀ x ∈ c.cx, CxOk c.mv.length x
  len : 3 ≤ c.len ∧ c.len ≤ 8
  cxl : c.cx.length ≤ 16
theorem eN_okN (o : Option Int) : (eN o).okN 0 := by
  cases o with
  | none => exact (⟨rfl, by simp [D.py, PySem.PyData.depth]⟩ : D.okN 0 .non)
  | some t => exact D.okN_int t
theorem eMv_okN (m : Int × Option Int) : (eMv m).okN 1 := D.okN_tup fun d hd => by
  simp at hd; rcases hd with rfl | rfl
  · exact D.okN_int _
  · exact eN_okN _
theorem eN_inj {a b : Option Int} : eN a = eN b ↔ a = b := by
  cases a <;> cases b <;> simp [eN]
theorem eMv_inj {a b : Int × Option Int} : eMv a = eMv b ↔ a = b := by
  obtain ⟨a1, a2⟩ := a; obtain ⟨b1, b2⟩ := b
  simp [eMv, eN_inj]
theorem memD_map {α : Type} [DecidableEq α] {enc : α → D} {k : Nat} (ho : ∀ x, (enc x).okN k) (hi : ∀ a b, enc a = enc b ↔ a = b) (x : α) : ∀ xs : List α, memD (enc x) (xs.map enc) = decide (x ∈ xs)
  | [] => by simp [memD, D.pys]
  | y :: xs => by
    have ih := memD_map ho hi x xs
    unfold memD at ih ⊢
    rw [List.map_cons]
    simp only [D.pys, List.any_cons]
    rw [ih]
    have h := D.eqv_nice (enc y) (enc x) (ho y).1 (ho x).1
    by_cases e : x = y
    · subst e; rw [h.mpr rfl]; simp
    · have : PySem.PyData.eqv (enc y).py (enc x).py = false := by
        cases q : PySem.PyData.eqv (enc y).py (enc x).py with
        | false => rfl
        | true => exact absurd ((hi y x).mp (h.mp q)).symm e
      rw [this]; simp [e]
theorem okIn_map {α : Type} {enc : α → D} {k : Nat} (hk : k + 1 ≤ 64) (ho : ∀ x, (enc x).okN k) (x : α) (xs : List α) : okIn (enc x) (xs.map enc) := by
  have h : (D.lst (xs.map enc)).okN (k + 1) := D.okN_lst fun d hd => by
    obtain ⟨x, _, rfl⟩ := List.mem_map.mp hd
    exact ho x
  refine ⟨((ho x).ok (by omega)).shaped, by simpa only [D.py] using (h.ok hk).shaped, ?_⟩
  have := D.nice_can _ h.1
  simpa only [D.py, PySem.PyData.canLay0] using this
theorem sm_ninG {α : Type} [DecidableEq α] {enc : α → D} {k : Nat} (hk : k + 1 ≤ 64) (ho : ∀ x, (enc x).okN k) (hi : ∀ a b, enc a = enc b ↔ a = b) {x : α} {xs : List α} [inst : Decidable (x ∈ xs)] {P : D → Prop} : Sm (ninD (enc x) (.lst (xs.map enc))) P ↔ P (.bl (!decide (x ∈ xs))) := by
  have e : ninD (enc x) (.lst (xs.map enc)) = if okIn (enc x) (xs.map enc) then some (D.bl (!memD (enc x) (xs.map enc))) else none := by
    unfold ninD; split <;> simp_all
  rw [e, if_pos (okIn_map hk ho x xs), sm_some, memD_map ho hi]
  have : ∀ (i1 i2 : Decidable (x ∈ xs)), @decide _ i1 = @decide _ i2 := fun i1 i2 => by rw [Subsingleton.elim i1 i2]
  rw [this _ inst]
theorem sm_ninMv {q : Int} {o : Option Int} {ms : List (Int × Option Int)} {P : D → Prop} : Sm (ninD (.tup [.int q, eN o]) (.lst (ms.map eMv))) P ↔ P (.bl (!decide ((q, o) ∈ ms))) := sm_ninG (enc := eMv) (x := (q, o)) (k := 1) (by decide) eMv_okN fun _ _ => eMv_inj

end GW
end

noncomputable section
namespace GW
open GH
theorem crossing_cl (n L : Int) (mine : List Int) (c : Src) (hn : 1 ≤ n) (hn2 : n ≤ 1000) (hm : mine ≠ []) (hm2 : mine.length ≤ 500) (hq : ∀ q ∈ mine, 0 ≤ q ∧ q < n) (hL : 3 ≤ L) (hL2 : L ≤ 8) :
    Cl S__law_draw_crossing [.src, .int n, .lst (mine.map D.int), .int L] c fun d _ => ∃ cr, CrOk n cr ∧ (∀ m ∈ cr.mv, m.1 ∈ mine) ∧ d = eCr cr := by
  refine fn_cl ?_
  simp only [startE_s, startE_n, startE_z, m__law_draw_crossing]
  simp_arith
  refine wp_for (fun done _ st => ∃ (ms : List (Int × Option Int)) (x5 x6 x7 x8 : Option D) (c : Src), st = ⟨[some (.val .src), some (.val (.int n)), some (.val (.lst (mine.map D.int))), some (.val (.int L)), some (.own (ms.map eMv)), jv x5, jv x6, jv x7, jv x8, none, none, none, none], c⟩
    ∧ (∀ m ∈ ms, m.1 ∈ mine ∧ MvOk n m) ∧ ms.Nodup ∧ ms.length ≤ 2 * done.length ∧ (done ≠ [] → ms ≠ [])) ⟨[], none, none, none, none, c, rfl, by simp, List.nodup_nil, by simp, by simp⟩ ?_ ?_
  · rintro done q rest _ hx ⟨ms, x5, x6, x7, x8, c, rfl, h1, h2, h3, h4⟩
    have hqm : q ∈ mine := by rw [hx]; simp
    have hq' := hq q hqm
    have hdl : done.length + 1 ≤ 500 := by have := congrArg List.length hx; simp at this; omega
    simp_arith
    refine ⟨okR_of (by omega) (by omega), ?_⟩
    refine wp_compF (fun i : Nat => !decide ((i : Int) = q)) (fun i : Nat => D.int (i : Int)) (by simp; omega) (by simp_arith) (fun x _ => by simp_arith; refine ⟨fun h => ?_, fun h => ?_⟩ <;> simp_all) ?_
    simp_arith
    refine ⟨by simp; have := List.length_filter_le (fun i : Nat => !decide ((i : Int) = q)) (List.range n.toNat); simp at this; omega, ?_⟩
    let ws : List (Option Int) := none :: ((List.range n.toNat).filter fun i : Nat => !decide ((i : Int) = q)).map fun i : Nat => some (i : Int)
    have hwl : 1 ≤ ws.length ∧ ws.length ≤ 1001 := by
      have := List.length_filter_le (fun i : Nat => !decide ((i : Int) = q)) (List.range n.toNat)
      simp only [List.length_range] at this
      simp only [ws, List.length_cons, List.length_map]; omega
    have hws : ∀ o ∈ ws, ∀ t, o = some t → 0 ≤ t ∧ t < n ∧ t ≠ q := by
      intro o ho t e
      subst e
      rcases List.mem_cons.mp ho with h | h
      · simp at h
      · obtain ⟨i, hi, e⟩ := List.mem_map.mp h
        obtain ⟨hi1, hi2⟩ := List.mem_filter.mp hi
        have := List.mem_range.mp hi1
        simp at hi2 e
        omega
    have ew : D.non :: List.map (fun i : Nat => D.int (i : Int)) (List.filter (fun i : Nat => !decide ((i : Int) = q)) (List.range n.toNat)) = ws.map eN := by
      simp only [ws, List.map_cons, List.map_map]; rfl
    rw [ew]
    refine cl_pick (by decide) (by decide) fun r c1 hr hr' => ?_
    simp_arith
    have hk : ∃ k : Nat, (1 + (if decide (r = 0) = true then (1 : Int) else 0)) = (k : Int) ∧ 1 ≤ k ∧ k ≤ 2 := by
      by_cases h : r = 0
      · exact ⟨2, by simp [h], by omega, by omega⟩
      · exact ⟨1, by simp [h], by omega, by omega⟩
    obtain ⟨k, hk, hk1, hk2⟩ := hk
    rw [hk]
    refine ⟨okR_of (by omega) (by omega), ?_⟩
    refine wp_for (fun done2 _ st => ∃ (ms : List (Int × Option Int)) (x7 x8 : Option D) (c : Src), st = ⟨[some (.val .src), some (.val (.int n)), some (.val (.lst (mine.map D.int))), some (.val (.int L)), some (.own (ms.map eMv)), some (.val (.int q)), some (.val (.lst (ws.map eN))), jv x7, jv x8, none, none, none, none], c⟩
      ∧ (∀ m ∈ ms, m.1 ∈ mine ∧ MvOk n m) ∧ ms.Nodup ∧ ms.length ≤ 2 * done.length + done2.length ∧ (done2 ≠ [] → ms ≠ [])) ⟨ms, x7, x8, c1, rfl, h1, h2, by simpa using h3, by simp⟩ ?_ ?_
    · rintro done2 z rest2 _ hx2 ⟨ms, x7, x8, c, rfl, h1, h2, h3, h4⟩
      have hdl2 : done2.length + 1 ≤ 2 := by have := congrArg List.length hx2; simp at this; omega
      simp_arith [List.length_map]
      refine cl_pick (by omega) (by omega) fun r2 c2 hr2 hr2' => ?_
      simp_arith [at_nth hr2 hr2', sm_ninMv]
      refine ⟨fun hi => ?_, fun hni => ⟨by simp; omega, ?_⟩⟩
      rotate_left
      · refine ⟨ms ++ [(q, nth ws r2)], some (.int z), some (.tup [.int q, eN (nth ws r2)]), c2, ?_, ?_, ?_, ?_, ?_⟩
        · simp only [List.map_append, List.map_cons, List.map_nil]; rfl
        · intro m hm'
          rcases List.mem_append.mp hm' with h | h
          · exact h1 m h
          · simp at h; subst h
            exact ⟨hqm, hq'.1, hq'.2, fun t e => hws _ (nth_mem hr2 hr2') t e⟩
        · rw [List.nodup_append]
          refine ⟨h2, by simp, fun a ha b hb => ?_⟩
          simp at hb; subst hb
          intro e; subst e
          simp [ha] at hni
        · simp; omega
        · simp
      · refine ⟨ms, some _, some _, _, rfl, h1, h2, by simp; omega, fun _ e => ?_⟩
        rw [e] at hi; simp at hi
    · rintro _ ⟨ms, x7, x8, c, rfl, h1, h2, h3, h4⟩
      simp only [List.length_range] at h3
      refine ⟨ms, some _, some _, x7, x8, c, rfl, h1, h2, by simp; omega, fun _ => h4 fun e => ?_⟩
      have := congrArg List.length e; simp at this; omega
  · rintro _ ⟨ms, x5, x6, x7, x8, c, rfl, h1, h2, h3, h4⟩
    obtain ⟨ys, c1, hperm, ho⟩ := order_eq (ms.map eMv) c (by simp; omega)
    obtain ⟨zs, hz, rfl⟩ := perm_map_inv (f := eMv) hperm ms rfl
    simp_arith [cl_eq ho, cutL_to (show (0 : Int) ≤ 4 by decide), List.length_map, ← List.map_take]
    let mv := zs.take 4
    have hmv : zs.take (4 : Int).toNat = mv := rfl
    rw [hmv]
    have hmv1 : mv.length ≤ 4 := by simp only [mv, List.length_take]; omega
    have hmv2 : ∀ m ∈ mv, m ∈ ms := fun m h => hz.mem_iff.mp (List.mem_of_mem_take h)
    have hmv3 : mv.Nodup := (hz.nodup_iff.mpr h2).sublist (List.take_sublist 4 zs)
    have hmv4 : mv ≠ [] := by
      intro e
      have h5 : ms.length = zs.length := hz.length_eq.symm
      have h6 : ms ≠ [] := h4 hm
      have h7 : 0 < ms.length := List.length_pos_iff.mpr h6
      have := congrArg List.length e
      simp only [mv, List.length_take, List.length_nil] at this
      omega
    refine ⟨okR_of (by omega) (by omega), ?_⟩
    rw [Int.toNat_natCast]
    refine wp_for (fun done _ st => ∃ (cx : List (Int × Int × Int × Int)) (x10 x11 : Option D) (c : Src), st = ⟨[some (.val .src), some (.val (.int n)), some (.val (.lst (mine.map D.int))), some (.val (.int L)), some (.own (mv.map eMv)), jv x5, jv x6, jv x7, jv x8, some (.own (cx.map eCx)), jv x10, jv x11, none], c⟩
      ∧ (∀ x ∈ cx, CxOk mv.length x) ∧ cx.length ≤ 4 * done.length) ⟨[], none, none, c1, rfl, by simp, by simp⟩ ?_ ?_
    · rintro done i rest _ hx ⟨cx, x10, x11, c, rfl, g1, g2⟩
      simp only [List.length_map] at hx
      have hi : i < mv.length := by
        have : i ∈ List.range mv.length := by rw [hx]; simp
        exact List.mem_range.mp this
      have hdl : done.length + 1 ≤ 4 := by have := congrArg List.length hx; simp at this; omega
      simp_arith [List.length_map]
      refine ⟨okR_of (by omega) (by omega), okR_of (by omega) (by omega), ?_⟩
      refine wp_for (fun done2 _ st => ∃ (cx : List (Int × Int × Int × Int)) (x11 : Option D) (c : Src), st = ⟨[some (.val .src), some (.val (.int n)), some (.val (.lst (mine.map D.int))), some (.val (.int L)), some (.own (mv.map eMv)), jv x5, jv x6, jv x7, jv x8, some (.own (cx.map eCx)), some (.val (.int i)), jv x11, none], c⟩
        ∧ (∀ x ∈ cx, CxOk mv.length x) ∧ cx.length ≤ 4 * done.length + done2.length) ⟨cx, x11, c, rfl, g1, by simpa using g2⟩ ?_ ?_
      · rintro done2 j rest2 _ hx2 ⟨cx, x11, c, rfl, g1, g2⟩
        simp only [List.length_map] at hx2
        have hj : j < ((mv.length : Int) - (i + 1)).toNat := by
          have : j ∈ List.range ((mv.length : Int) - (i + 1)).toNat := by rw [hx2]; simp
          exact List.mem_range.mp this
        have hdl2 : done2.length + 1 ≤ 4 := by have := congrArg List.length hx2; simp at this; omega
        simp_arith
        refine cl_pick (by decide) (by decide) fun r1 c1 hr1 hr1' => ?_
        simp_arith
        refine ⟨fun _ => cl_pick (by decide) (by decide) fun r2 c2 hr2 hr2' => ?_, fun _ => ?_⟩
        · simp_arith
          refine cl_pick (by decide) (by decide) fun r3 c3 hr3 hr3' => ?_
          simp_arith
          refine ⟨by simp; omega, cx ++ [((i : Int), (i : Int) + 1 + j, r2, r3)], some (.int ((i : Int) + 1 + j)), c3, ?_, ?_, ?_⟩
          · simp only [List.map_append, List.map_cons, List.map_nil]; rfl
          · intro x hx'
            rcases List.mem_append.mp hx' with h | h
            · exact g1 x h
            · simp at h; subst h
              unfold CxOk
              simp only
              omega
          · simp; omega
        · exact ⟨cx, some _, _, rfl, g1, by simp; omega⟩
      · rintro _ ⟨cx, x11, c, rfl, g1, g2⟩
        refine ⟨cx, some _, x11, c, rfl, g1, ?_⟩
        simp only [List.length_range, List.length_map] at g2
        simp; omega
    · rintro _ ⟨cx, x10, x11, c, rfl, g1, g2⟩
      simp_arith
      have hg : cx.length ≤ 16 := by simp only [List.length_range, List.length_map] at g2; omega
      exact ⟨⟨mv, cx, L⟩, ⟨fun m h => (h1 m (hmv2 m h)).2, hmv3, hmv4, hmv1, g1, ⟨hL, hL2⟩, hg⟩, fun m h => (h1 m (hmv2 m h)).1, rfl⟩
end GW
end

noncomputable section
namespace GW
open GH
def eL (l : List Int) : D := .lst (l.map D.int)
theorem wp_mid' {a b : M Out} {s : S} {Q : Out → S → Prop} (R : S → Prop) (h : Wp a s fun o s1 => (o = .nx ∧ R s1) ∨ ∃ d, o = .ret d ∧ Q (.ret d) s1) (h2 : ∀ s1, R s1 → Wp b s1 Q) : Wp (sSeq a b) s Q :=
  wp_seq.mpr (h.mono fun o s1 z => by
    rcases z with ⟨e, r⟩ | ⟨d, e, q⟩
    · subst e; exact h2 s1 r
    · subst e; exact q)
def eR (rows : List (List Int)) : D := .tup (rows.map eT)
theorem sm_lenE {l : List Int} {P : D → Prop} : Sm (lenG [eT l]) P ↔ P (.int l.length) := by unfold eT; rw [sm_lenT, List.length_map]
theorem sm_seqE {l : List Int} {P : List D → Prop} : Sm (seqD (eT l)) P ↔ P (l.map D.int) := sm_some
theorem sm_ixE {l : List Int} {j : Int} {P : D → Prop} : Sm (ixD (eT l) (.int j)) P ↔ Sm (L2.atI l j) fun x => P (.int x) := by unfold eT; rw [sm_ixT, at_map]
theorem sm_tupE {l : List Int} {P : D → Prop} : Sm (tupG [.lst (l.map D.int)]) P ↔ P (eT l) := sm_some
theorem sm_tupEE {l : List Int} {P : D → Prop} : Sm (tupG [eT l]) P ↔ P (eT l) := sm_some
theorem sm_slE {l : List Int} {a b : Option Int} {P : D → Prop} : Sm (slD a b (eT l)) P ↔ P (eT (cutL l a b)) := by unfold eT; rw [sm_slT, cutL_map]
theorem sm_addE {a b : List Int} {P : D → Prop} : Sm (addD (eT a) (eT b)) P ↔ a.length + b.length ≤ 16777216 ∧ P (eT (a ++ b)) := by unfold eT; rw [sm_addT, List.map_append, List.length_map, List.length_map]
theorem sm_lenR {l : List (List Int)} {P : D → Prop} : Sm (lenG [eR l]) P ↔ P (.int l.length) := by unfold eR; rw [sm_lenT, List.length_map]
theorem sm_seqR {l : List (List Int)} {P : List D → Prop} : Sm (seqD (eR l)) P ↔ P (l.map eT) := sm_some
theorem sm_ixR {l : List (List Int)} {j : Int} {P : D → Prop} : Sm (ixD (eR l) (.int j)) P ↔ Sm (L2.atI l j) fun x => P (eT x) := by unfold eR; rw [sm_ixT, at_map]
theorem sm_tupR {l : List (List Int)} {P : D → Prop} : Sm (tupG [.lst (l.map eT)]) P ↔ P (eR l) := sm_some
theorem sm_slR {l : List (List Int)} {a b : Option Int} {P : D → Prop} : Sm (slD a b (eR l)) P ↔ P (eR (cutL l a b)) := by unfold eR; rw [sm_slT, cutL_map]
theorem sm_addR {a b : List (List Int)} {P : D → Prop} : Sm (addD (eR a) (eR b)) P ↔ a.length + b.length ≤ 16777216 ∧ P (eR (a ++ b)) := by unfold eR; rw [sm_addT, List.map_append, List.length_map, List.length_map]
theorem sm_isiE {l : List Int} {P : D → Prop} : Sm (isiD "tuple" (eT l)) P ↔ P (.bl true) := sm_eq (by rfl)
theorem sm_isiR {l : List (List Int)} {P : D → Prop} : Sm (isiD "tuple" (eR l)) P ↔ P (.bl true) := sm_eq (by rfl)

def RepT (n : Nat) (k : Int) : Prop := -(2 ^ 63) ≤ k ∧ k ≤ 1000 ∧ n ≤ 1000
theorem sm_mulT {a : List D} {k : Int} {P : D → Prop} : Sm (mulD (.tup a) (.int k)) P ↔ RepT a.length k ∧ P (.tup (List.replicate k.toNat a).flatten) := by
  show Sm (if -(2 ^ 63) ≤ k ∧ k ≤ 1000 ∧ a.length ≤ 1000 then some (D.tup (List.replicate k.toNat a).flatten) else none) P ↔ _
  rw [sm_ite, sm_some]; rfl
theorem rep_one {α : Type} (x : α) : ∀ n, (List.replicate n [x]).flatten = List.replicate n x
  | 0 => rfl
  | n + 1 => by rw [List.replicate_succ, List.flatten_cons, rep_one x n, List.replicate_succ]; rfl

theorem repT_of {a : Nat} {k : Int} (h : 0 ≤ k) (h2 : k ≤ 1000) (h3 : a ≤ 1000) : RepT a k := ⟨by omega, h2, h3⟩
theorem sm_mulRow {r : List Int} {k : Int} {P : D → Prop} : Sm (mulD (.tup [eT r]) (.int k)) P ↔ RepT 1 k ∧ P (eR (List.replicate k.toNat r)) := by
  rw [sm_mulT, rep_one]
  unfold eR; rw [List.map_replicate]; rfl
theorem sm_mulI1 {i : Int} {k : Int} {P : D → Prop} : Sm (mulD (.tup [.int i]) (.int k)) P ↔ RepT 1 k ∧ P (eT (List.replicate k.toNat i)) := by
  rw [sm_mulT, rep_one]
  unfold eT; rw [List.map_replicate]; rfl
/-- a walk that looks for something -/
theorem wp_find {α : Type} {enc : α → D} {xs : List α} {g : D → M Unit} {b : M Out} {s : S} {Q : Out → S → Prop} (f : α → Option D) (I : List α → S → Prop) (E : S → Prop) (h0 : I [] s)
    (hs : ∀ done x rest s, xs = done ++ x :: rest → I done s → Wp (g (enc x)) s fun _ s1 => Wp b s1 fun o s2 => (o = .nx ∧ f x = none ∧ I (done ++ [x]) s2) ∨ (∃ d, o = .ret d ∧ f x = some d ∧ E s2))
    (hn : ∀ s, I xs s → xs.findSome? f = none → Q .nx s) (hr : ∀ d s, E s → xs.findSome? f = some d → Q (.ret d) s) : Wp (GH.forM g b (xs.map enc)) s Q := by
  refine wp_for (fun done _ st => I done st ∧ ∀ y ∈ done, f y = none) ⟨h0, by simp⟩ ?_ ?_
  · rintro done x rest s e ⟨hi, hd⟩
    refine (hs done x rest s e hi).mono fun _ s1 h1 => h1.mono fun o s2 h2 => ?_
    rcases h2 with ⟨rfl, h3, h4⟩ | ⟨d, rfl, h3, h4⟩
    · refine lp_nx.mpr ⟨h4, fun y hy => ?_⟩
      rcases List.mem_append.mp hy with z | z
      · exact hd y z
      · simp at z; subst z; exact h3
    · refine lp_ret.mpr (hr d s2 h4 ?_)
      rw [e, List.findSome?_append, List.findSome?_cons, h3]
      rw [List.findSome?_eq_none_iff.mpr hd]; rfl
  · rintro s ⟨hi, hd⟩
    exact hn s hi (List.findSome?_eq_none_iff.mpr hd)
end GW
end

local macro_rules | `(tactic| simp_arith [$ls,*]) => `(tactic| simp only [↓GW.sm_lenE, ↓GW.sm_seqE, ↓GW.sm_ixE, ↓GW.sm_tupE, ↓GW.sm_tupEE, ↓GW.sm_slE, ↓GW.sm_addE, ↓GW.sm_lenR, ↓GW.sm_seqR, ↓GW.sm_ixR, ↓GW.sm_tupR, ↓GW.sm_slR, ↓GW.sm_addR, ↓GW.sm_isiE, ↓GW.sm_isiR, ↓GH.wp_ret, ↓GH.wp_lift, ↓GH.sm_some, ↓GH.sm_map, ↓GH.sm_bind, ↓GH.ifB_tt, ↓GH.ifB_ff, ↓GH.ifB_dec, ↓GH.ifB_not, ↓GH.nx_nx, ↓GH.nx_ret, ↓GH.nx_brk, ↓GH.nx_cnt, ↓GH.varAt_z, ↓GH.varAt_s, ↓GH.slAt_z, ↓GH.slAt_s, ↓GH.ownAt_z, ↓GH.ownAt_s, ↓GH.setAt_z, ↓GH.setAt_s, ↓GH.frzAt_z, ↓GH.frzAt_s, ↓GH.bor_val, ↓GH.bor_own, ↓GH.bor_ownK, ↓GH.bor_ownT, ↓GH.len_0, ↓GH.len_1, ↓GH.len_2, ↓GH.len_3, ↓GH.len_4, ↓GH.len_5, ↓GH.len_6, ↓GH.isB_bl, ↓GH.isI_int, ↓GH.wp_var, ↓GH.wp_frz, ↓GH.wp_C, ↓GH.wp_bin, ↓GH.wp_un, ↓GH.wp_tst, ↓GH.wp_tru, ↓GH.wp_and2, ↓GH.wp_or2, ↓GH.wp_not1, ↓GH.wp_eAnd, ↓GH.wp_eOr, ↓GH.wp_eNot, ↓GH.wp_eIf, ↓GH.wp_chain, ↓GH.wp_aNil, ↓GH.wp_aCons, ↓GH.wp_aStar, ↓GH.wp_tup, ↓GH.wp_disp, ↓GH.wp_lst, ↓GH.wp_call, ↓GH.wp_callL, ↓GH.wp_binL, ↓GH.wp_fn, ↓GH.wp_fld, ↓GH.wp_oNo, ↓GH.wp_oAt, ↓GH.wp_sl, ↓GH.wp_ixO, ↓GH.wp_here, ↓GH.wp_putL, ↓GH.wp_app, ↓GH.sm_app, ↓GH.wp_pop, ↓GH.sm_popL, ↓GH.wp_popAt, ↓GH.wp_bor, ↓GH.wp_tBor, ↓GH.isFlat_int, ↓GH.isFlat_bl, ↓GH.isFlat_non, ↓GH.isFlat_str, ↓GH.wp_seq, ↓GH.wp_nx, ↓GH.wp_sRet, ↓GH.wp_sIf, ↓GH.wp_sExpr, ↓GH.wp_asg, ↓GH.wp_gN, ↓GH.wp_gT, ↓GH.wp_gCons, ↓GH.wp_gNil, ↓GH.wp_set, ↓GH.wp_own, ↓GH.wp_aug, ↓GH.sm_aug, ↓GH.wp_setIx, ↓GH.wp_ownGet, ↓GH.wp_augIx, ↓GH.wp_sFor, ↓GH.wp_pNil, ↓GH.wp_pVal, ↓GH.wp_pOwn, ↓GH.wp_par, ↓GH.sm_put0, ↓GH.sm_put, ↓GH.wp_iSeq, ↓GH.wp_rg1, ↓GH.wp_rg2, ↓GH.wp_enum, ↓GH.wp_zip2, ↓GH.wp_zip3, ↓GH.wp_lRg1, ↓GH.wp_lRg2, ↓GH.wp_tupRg, ↓GH.sm_addI, ↓GH.sm_addT, ↓GH.sm_addL, ↓GH.sm_addLD, ↓GH.sm_subI, ↓GH.sm_mulI, ↓GH.sm_mulL, ↓GH.sm_mulLD, ↓GH.sm_modI, ↓GH.sm_fdivI, ↓GH.sm_ltI, ↓GH.sm_leI, ↓GH.sm_gtI, ↓GH.sm_geI, ↓GH.sm_eqI, ↓GH.sm_neI, ↓GH.sm_isN, ↓GH.sm_notN, ↓GH.sm_ixT, ↓GH.sm_ixL, ↓GH.sm_ownO, ↓GH.sm_ownL, ↓GH.sm_ownT, ↓GH.at_0, ↓GH.at_1, ↓GH.at_2, ↓GH.at_3, ↓GH.at_4, ↓GH.at_map, ↓GH.sm_lenL, ↓GH.sm_lenT, ↓GH.sm_intI, ↓GH.sm_intB, ↓GH.sm_absI, ↓GH.sm_tupT, ↓GH.sm_lstL, ↓GH.sm_lstT, ↓GH.sm_sumL1, ↓GH.sm_sumT1, ↓GH.sm_sumL, ↓GH.sm_sumT, ↓GH.sm_maxI, ↓GH.sm_minI, ↓GH.sm_maxL1, ↓GH.sm_minL1, ↓GH.sm_maxL, ↓GH.sm_minL, ↓GH.sm_anyL, ↓GH.sm_allL, ↓GH.sm_negI, ↓GH.sm_revL, ↓GH.sm_revT, ↓GH.sm_seqL, ↓GH.sm_seqT, ↓GH.sm_slL, ↓GH.sm_slT, ↓GH.sm_truB, ↓GH.sm_truN, ↓GH.sm_truI, ↓GH.sm_truL, ↓GH.sm_truT, ↓GH.sm_inR, ↓GH.sm_inT, ↓GH.sm_inL, ↓GH.sm_ninT, ↓GH.sm_ninL, ↓GH.sm_setL, ↓GH.wp_comp, ↓GH.wp_turn, ↓GH.lp_nx, ↓GH.lp_cnt, ↓GH.lp_brk, ↓GH.lp_ret, ↓GH.outR_ret, ↓GH.outR_nx, ↓GH.ownB_L, ↓GH.ownB_K, ↓GH.ownB_T, ↓GH.wp_nw, ↓GH.wp_nK0, ↓GH.wp_nT0, ↓GH.wp_dpNil, ↓GH.wp_dpCons, ↓GH.wp_nDisp, ↓GH.wp_ownN, ↓GH.wp_pOwnN, ↓GH.wp_dgO, ↓GH.own2_K, ↓GH.own2_T, ↓GH.own2_s, ↓GH.wp_here2, ↓GH.wp_putD, ↓GH.putAt_s, ↓GH.putAt_K, ↓GH.putAt_T, ↓GH.wp_sPutD, ↓GH.sm_keyI, ↓GH.sm_keyS, ↓GH.sm_keysT, ↓GH.sm_dgK, ↓GH.sm_dgT, ↓GH.sm_dinK, ↓GH.sm_dinT, ↓GH.sm_dninK, ↓GH.sm_dninT, ↓GH.dctAt_KI, ↓GH.dctAt_T, ↓GH.dctAt_s, ↓GH.wp_forD, ↓GH.noneAt_z, ↓GH.noneAt_s, ↓GH.wp_noneAt, ↓GH.wp_newL, ↓GH.wp_newP, ↓GH.wp_setL, ↓GH.wp_fillL, ↓GH.wp_lSl, ↓GH.sm_lstD, ↓GH.enumP_map, ↓GH.zip2P_map, ↓GH.zip3P_map, ↓GH.sm_eqNilI, ↓GH.sm_neNilI, ↓GH.sm_eqIL, ↓GH.sm_neIL, ↓GH.sm_eqIT, ↓GH.sm_neIT, ↓GH.at_snoc, ↓GH.sm_ne3, ↓GH.sm_ne2, ↓GH.sm_srtI, ↓GH.wp_rgV, ↓GH.isR_rng, ↓GH.sm_rng1, ↓GH.wp_ext, ↓GH.sm_extL, ↓GH.sm_srtD, GH.isV_none, GH.isV_val, GH.isV_jv, GH.allV_nil, GH.allV_cons, GH.jv_some, GH.jv_none, GH.out_nx, GH.kGet_lkp, GH.lkp_isSome, GH.borF, GH.bor_z, GH.bor_tt, GH.bor_no, GH.clean_nil, GH.clean_cons, GH.cleanAt_s, GH.cleanAt_n, GH.cleanAt_v, GH.cleanAt_j, GH.wipe_nil, GH.wipe_cons, GH.startE_z, GH.startE_n, GH.startE_s, eq_self, Option.isSome_map, List.set_cons_zero, List.set_cons_succ, List.cons_append, List.nil_append, and_true, true_and, and_self, true_implies, implies_true, not_false_eq_true, not_true_eq_false, false_implies, Option.some.injEq, List.contains_cons, List.contains_nil, Nat.reduceBEq, Bool.or_false, Bool.or_true, Bool.false_or, Bool.true_or, Nat.zero_add, Nat.reduceAdd, $ls,*])
local macro_rules | `(tactic| simp_all_arith [$ls,*]) => `(tactic| simp only [↓GW.sm_lenE, ↓GW.sm_seqE, ↓GW.sm_ixE, ↓GW.sm_tupE, ↓GW.sm_tupEE, ↓GW.sm_slE, ↓GW.sm_addE, ↓GW.sm_lenR, ↓GW.sm_seqR, ↓GW.sm_ixR, ↓GW.sm_tupR, ↓GW.sm_slR, ↓GW.sm_addR, ↓GW.sm_isiE, ↓GW.sm_isiR, ↓GH.wp_ret, ↓GH.wp_lift, ↓GH.sm_some, ↓GH.sm_map, ↓GH.sm_bind, ↓GH.ifB_tt, ↓GH.ifB_ff, ↓GH.ifB_dec, ↓GH.ifB_not, ↓GH.nx_nx, ↓GH.nx_ret, ↓GH.nx_brk, ↓GH.nx_cnt, ↓GH.varAt_z, ↓GH.varAt_s, ↓GH.slAt_z, ↓GH.slAt_s, ↓GH.ownAt_z, ↓GH.ownAt_s, ↓GH.setAt_z, ↓GH.setAt_s, ↓GH.frzAt_z, ↓GH.frzAt_s, ↓GH.bor_val, ↓GH.bor_own, ↓GH.bor_ownK, ↓GH.bor_ownT, ↓GH.len_0, ↓GH.len_1, ↓GH.len_2, ↓GH.len_3, ↓GH.len_4, ↓GH.len_5, ↓GH.len_6, ↓GH.isB_bl, ↓GH.isI_int, ↓GH.wp_var, ↓GH.wp_frz, ↓GH.wp_C, ↓GH.wp_bin, ↓GH.wp_un, ↓GH.wp_tst, ↓GH.wp_tru, ↓GH.wp_and2, ↓GH.wp_or2, ↓GH.wp_not1, ↓GH.wp_eAnd, ↓GH.wp_eOr, ↓GH.wp_eNot, ↓GH.wp_eIf, ↓GH.wp_chain, ↓GH.wp_aNil, ↓GH.wp_aCons, ↓GH.wp_aStar, ↓GH.wp_tup, ↓GH.wp_disp, ↓GH.wp_lst, ↓GH.wp_call, ↓GH.wp_callL, ↓GH.wp_binL, ↓GH.wp_fn, ↓GH.wp_fld, ↓GH.wp_oNo, ↓GH.wp_oAt, ↓GH.wp_sl, ↓GH.wp_ixO, ↓GH.wp_here, ↓GH.wp_putL, ↓GH.wp_app, ↓GH.sm_app, ↓GH.wp_pop, ↓GH.sm_popL, ↓GH.wp_popAt, ↓GH.wp_bor, ↓GH.wp_tBor, ↓GH.isFlat_int, ↓GH.isFlat_bl, ↓GH.isFlat_non, ↓GH.isFlat_str, ↓GH.wp_nx, ↓GH.wp_sRet, ↓GH.wp_sIf, ↓GH.wp_sExpr, ↓GH.wp_asg, ↓GH.wp_gN, ↓GH.wp_gT, ↓GH.wp_gCons, ↓GH.wp_gNil, ↓GH.wp_set, ↓GH.wp_own, ↓GH.wp_aug, ↓GH.sm_aug, ↓GH.wp_setIx, ↓GH.wp_ownGet, ↓GH.wp_augIx, ↓GH.wp_sFor, ↓GH.wp_pNil, ↓GH.wp_pVal, ↓GH.wp_pOwn, ↓GH.wp_par, ↓GH.sm_put0, ↓GH.sm_put, ↓GH.wp_iSeq, ↓GH.wp_rg1, ↓GH.wp_rg2, ↓GH.wp_enum, ↓GH.wp_zip2, ↓GH.wp_zip3, ↓GH.wp_lRg1, ↓GH.wp_lRg2, ↓GH.wp_tupRg, ↓GH.sm_addI, ↓GH.sm_addT, ↓GH.sm_addL, ↓GH.sm_addLD, ↓GH.sm_subI, ↓GH.sm_mulI, ↓GH.sm_mulL, ↓GH.sm_mulLD, ↓GH.sm_modI, ↓GH.sm_fdivI, ↓GH.sm_ltI, ↓GH.sm_leI, ↓GH.sm_gtI, ↓GH.sm_geI, ↓GH.sm_eqI, ↓GH.sm_neI, ↓GH.sm_isN, ↓GH.sm_notN, ↓GH.sm_ixT, ↓GH.sm_ixL, ↓GH.sm_ownO, ↓GH.sm_ownL, ↓GH.sm_ownT, ↓GH.at_0, ↓GH.at_1, ↓GH.at_2, ↓GH.at_3, ↓GH.at_4, ↓GH.at_map, ↓GH.sm_lenL, ↓GH.sm_lenT, ↓GH.sm_intI, ↓GH.sm_intB, ↓GH.sm_absI, ↓GH.sm_tupT, ↓GH.sm_lstL, ↓GH.sm_lstT, ↓GH.sm_sumL1, ↓GH.sm_sumT1, ↓GH.sm_sumL, ↓GH.sm_sumT, ↓GH.sm_maxI, ↓GH.sm_minI, ↓GH.sm_maxL1, ↓GH.sm_minL1, ↓GH.sm_maxL, ↓GH.sm_minL, ↓GH.sm_anyL, ↓GH.sm_allL, ↓GH.sm_negI, ↓GH.sm_revL, ↓GH.sm_revT, ↓GH.sm_seqL, ↓GH.sm_seqT, ↓GH.sm_slL, ↓GH.sm_slT, ↓GH.sm_truB, ↓GH.sm_truN, ↓GH.sm_truI, ↓GH.sm_truL, ↓GH.sm_truT, ↓GH.sm_inR, ↓GH.sm_inT, ↓GH.sm_inL, ↓GH.sm_ninT, ↓GH.sm_ninL, ↓GH.sm_setL, ↓GH.wp_comp, ↓GH.wp_turn, ↓GH.lp_nx, ↓GH.lp_cnt, ↓GH.lp_brk, ↓GH.lp_ret, ↓GH.outR_ret, ↓GH.outR_nx, ↓GH.ownB_L, ↓GH.ownB_K, ↓GH.ownB_T, ↓GH.wp_nw, ↓GH.wp_nK0, ↓GH.wp_nT0, ↓GH.wp_dpNil, ↓GH.wp_dpCons, ↓GH.wp_nDisp, ↓GH.wp_ownN, ↓GH.wp_pOwnN, ↓GH.wp_dgO, ↓GH.own2_K, ↓GH.own2_T, ↓GH.own2_s, ↓GH.wp_here2, ↓GH.wp_putD, ↓GH.putAt_s, ↓GH.putAt_K, ↓GH.putAt_T, ↓GH.wp_sPutD, ↓GH.sm_keyI, ↓GH.sm_keyS, ↓GH.sm_keysT, ↓GH.sm_dgK, ↓GH.sm_dgT, ↓GH.sm_dinK, ↓GH.sm_dinT, ↓GH.sm_dninK, ↓GH.sm_dninT, ↓GH.dctAt_KI, ↓GH.dctAt_T, ↓GH.dctAt_s, ↓GH.wp_forD, ↓GH.noneAt_z, ↓GH.noneAt_s, ↓GH.wp_noneAt, ↓GH.wp_newL, ↓GH.wp_newP, ↓GH.wp_setL, ↓GH.wp_fillL, ↓GH.wp_lSl, ↓GH.sm_lstD, ↓GH.enumP_map, ↓GH.zip2P_map, ↓GH.zip3P_map, ↓GH.sm_eqNilI, ↓GH.sm_neNilI, ↓GH.sm_eqIL, ↓GH.sm_neIL, ↓GH.sm_eqIT, ↓GH.sm_neIT, ↓GH.at_snoc, ↓GH.sm_ne3, ↓GH.sm_ne2, ↓GH.sm_srtI, ↓GH.wp_rgV, ↓GH.isR_rng, ↓GH.sm_rng1, ↓GH.wp_ext, ↓GH.sm_extL, ↓GH.sm_srtD, GH.isV_none, GH.isV_val, GH.isV_jv, GH.allV_nil, GH.allV_cons, GH.jv_some, GH.jv_none, GH.out_nx, GH.kGet_lkp, GH.lkp_isSome, GH.borF, GH.bor_z, GH.bor_tt, GH.bor_no, GH.clean_nil, GH.clean_cons, GH.cleanAt_s, GH.cleanAt_n, GH.cleanAt_v, GH.cleanAt_j, GH.wipe_nil, GH.wipe_cons, GH.startE_z, GH.startE_n, GH.startE_s, eq_self, Option.isSome_map, List.set_cons_zero, List.set_cons_succ, List.cons_append, List.nil_append, and_true, true_and, and_self, true_implies, implies_true, not_false_eq_true, not_true_eq_false, false_implies, Option.some.injEq, List.contains_cons, List.contains_nil, Nat.reduceBEq, Bool.or_false, Bool.or_true, Bool.false_or, Bool.true_or, Nat.zero_add, Nat.reduceAdd, $ls,*])
local macro_rules | `(tactic| simp_all_arith) => `(tactic| simp_all_arith [and_true])
local macro_rules | `(tactic| simp_arith! [$ls,*]) => `(tactic| (refine GH.fn_val ?_; simp only [GH.startE_s, GH.startE_n, GH.startE_z, $ls,*]; simp_arith [$ls,*]))
local macro_rules | `(tactic| simp_arith) => `(tactic| simp_arith [and_true])
noncomputable section
namespace GW
open GH
abbrev Mv := Int × Option Int
def eMvs (ms : List Mv) : D := .tup (ms.map eMv)
def eCs (cs : List Cr) : D := .tup (cs.map eCr)

theorem sm_seqCs {cs : List Cr} {P : List D → Prop} : Sm (seqD (eCs cs)) P ↔ P (cs.map eCr) := sm_some
theorem sm_cr0 {c : Cr} {P : D → Prop} : Sm (ixD (eCr c) (.int 0)) P ↔ P (eMvs c.mv) := by unfold eCr; rw [sm_ixT, at_0]; rfl
theorem sm_cr2 {c : Cr} {P : D → Prop} : Sm (ixD (eCr c) (.int 2)) P ↔ P (.int c.len) := by unfold eCr; rw [sm_ixT, at_2]
theorem sm_seqMvs {ms : List Mv} {P : List D → Prop} : Sm (seqD (eMvs ms)) P ↔ P (ms.map eMv) := sm_some
theorem sm_lenMvs {ms : List Mv} {P : D → Prop} : Sm (lenG [eMvs ms]) P ↔ P (.int ms.length) := by unfold eMvs; rw [sm_lenT, List.length_map]
theorem sm_mv0 {m : Mv} {P : D → Prop} : Sm (ixD (eMv m) (.int 0)) P ↔ P (.int m.1) := by unfold eMv; rw [sm_ixT, at_0]
theorem sm_mv1 {m : Mv} {P : D → Prop} : Sm (ixD (eMv m) (.int 1)) P ↔ P (eN m.2) := by unfold eMv; rw [sm_ixT, at_1]
abbrev C4 := Int × Int × Int × Int
def clr : List C4 → Int → Int → Option Int
  | [], _, _ => none
  | x :: t, i, j => if x.1 = i ∧ x.2.1 = j then some x.2.2.1 else if x.1 = j ∧ x.2.1 = i then some x.2.2.2 else clr t i j
theorem sm_cr1 {c : Cr} {P : D → Prop} : Sm (ixD (eCr c) (.int 1)) P ↔ P (.tup (c.cx.map eCx)) := by unfold eCr; rw [sm_ixT, at_1]
theorem sm_eqPP {a b i j : Int} {P : D → Prop} : Sm (eqD (.tup [.int a, .int b]) (.tup [.int i, .int j])) P ↔ P (.bl (decide (a = i ∧ b = j))) := by
  refine sm_eqG (D.okN_tup (n := 0) ?_).ok (D.okN_tup (n := 0) ?_).ok (by simp) <;> intro d hd <;> simp at hd <;> rcases hd with rfl | rfl <;> exact D.okN_int _
def eP2 (p : Int × Int) : D := .tup [.int p.1, .int p.2]
theorem eP2_okN (p : Int × Int) : (eP2 p).okN 1 := D.okN_tup fun d hd => by
  simp at hd; rcases hd with rfl | rfl <;> exact D.okN_int _
theorem eP2_inj {a b : Int × Int} : eP2 a = eP2 b ↔ a = b := by
  obtain ⟨a1, a2⟩ := a; obtain ⟨b1, b2⟩ := b
  simp [eP2]
theorem sm_inGT {α : Type} [DecidableEq α] {enc : α → D} {k : Nat} (hk : k + 1 ≤ 64) (ho : ∀ x, (enc x).okN k) (hi : ∀ a b, enc a = enc b ↔ a = b) (hr : ∀ x ys, inD (enc x) (.tup ys) = if okIn (enc x) ys then some (D.bl (memD (enc x) ys)) else none) {x : α} {xs : List α} [inst : Decidable (x ∈ xs)] {P : D → Prop} : Sm (inD (enc x) (.tup (xs.map enc))) P ↔ P (.bl (decide (x ∈ xs))) := by
  rw [hr, if_pos (okIn_map hk ho x xs), sm_some, memD_map ho hi]
  have : ∀ (i1 i2 : Decidable (x ∈ xs)), @decide _ i1 = @decide _ i2 := fun i1 i2 => by rw [Subsingleton.elim i1 i2]
  rw [this _ inst]
theorem sm_inPP {x : C4} {i j : Int} {P : D → Prop} : Sm (inD (.tup [.int x.1, .int x.2.1]) (.tup [.tup [.int i, .int j], .tup [.int j, .int i]])) P ↔ P (.bl (decide ((x.1, x.2.1) ∈ [(i, j), (j, i)]))) :=
  sm_inGT (enc := eP2) (x := (x.1, x.2.1)) (xs := [(i, j), (j, i)]) (k := 1) (by decide) eP2_okN (fun _ _ => eP2_inj) (fun _ _ => rfl)
theorem sm_slCx {x : C4} {P : D → Prop} : Sm (slD none (some 2) (eCx x)) P ↔ P (.tup [.int x.1, .int x.2.1]) := by
  unfold eCx; rw [sm_slT, cutL_to (by decide)]; rfl
theorem clr_find {i j : Int} (f : C4 → Option D) (h : ∀ x, f x = if x.1 = i ∧ x.2.1 = j then some (.int x.2.2.1) else if x.1 = j ∧ x.2.1 = i then some (.int x.2.2.2) else none) : ∀ cx : List C4, cx.findSome? f = (clr cx i j).map D.int
  | [] => rfl
  | x :: t => by
    rw [List.findSome?_cons, h x]
    unfold clr
    split
    · rename_i d e
      by_cases h1 : x.1 = i ∧ x.2.1 = j
      · rw [if_pos h1] at e ⊢; cases e; rfl
      · rw [if_neg h1] at e ⊢
        by_cases h2 : x.1 = j ∧ x.2.1 = i
        · rw [if_pos h2] at e ⊢; cases e; rfl
        · rw [if_neg h2] at e; cases e
    · rename_i e
      by_cases h1 : x.1 = i ∧ x.2.1 = j
      · rw [if_pos h1] at e; cases e
      · rw [if_neg h1] at e ⊢
        by_cases h2 : x.1 = j ∧ x.2.1 = i
        · rw [if_pos h2] at e; cases e
        · rw [if_neg h2]; exact clr_find f h t
theorem law_clr_eq (cr : Cr) (i j : Int) (c : Src) : S__law_clearance [eCr cr, .int i, .int j] c = some (eN (clr cr.cx i j), c) := by
  simp_arith! [m__law_clearance, sm_cr1]
  refine wp_find (enc := eCx) (fun x : C4 => if x.1 = i ∧ x.2.1 = j then some (D.int x.2.2.1) else if x.1 = j ∧ x.2.1 = i then some (D.int x.2.2.2) else none) (fun _ s => ∃ x3 x4 x5 x6 : Option D, s = ⟨[some (.val (eCr cr)), some (.val (.int i)), some (.val (.int j)), jv x3, jv x4, jv x5, jv x6], c⟩) (fun s => s.src = c) ⟨none, none, none, none, rfl⟩ ?_ ?_ ?_
  · rintro done ⟨a, b, l, e⟩ rest _ hx ⟨x3, x4, x5, x6, rfl⟩
    simp_arith [eCx, sm_eqPP]
    refine ⟨fun h => .inr ⟨_, rfl, by rw [if_pos h]⟩, fun h => ⟨fun h2 => .inr ⟨_, rfl, by rw [if_neg h, if_pos h2]⟩, fun h2 => .inl ⟨by rw [if_neg h, if_neg h2], some _, some _, some _, some _, rfl⟩⟩⟩
  · rintro _ ⟨x3, x4, x5, x6, rfl⟩ hn
    rw [clr_find _ fun x => rfl, Option.map_eq_none_iff] at hn
    simp_arith [hn, eN]
  · intro d s hs hsome
    rw [clr_find _ fun x => rfl] at hsome
    obtain ⟨v, hv, e⟩ := Option.map_eq_some_iff.mp hsome
    subst e
    simp_arith [hv, eN]
    exact hs
theorem clr_eq (cr : Cr) (i j : Int) (c : Src) : S_clearance [eCr cr, .int i, .int j] c = some (.int ((clr cr.cx i j).getD 0), c) := by
  simp_arith! [m_clearance, sm_cr1]
  refine wp_find (enc := eCx) (fun x : C4 => if x.1 = i ∧ x.2.1 = j then some (D.int x.2.2.1) else if x.1 = j ∧ x.2.1 = i then some (D.int x.2.2.2) else none) (fun _ s => ∃ x3 x4 x5 x6 : Option D, s = ⟨[some (.val (eCr cr)), some (.val (.int i)), some (.val (.int j)), jv x3, jv x4, jv x5, jv x6], c⟩) (fun s => s.src = c) ⟨none, none, none, none, rfl⟩ ?_ ?_ ?_
  · rintro done ⟨a, b, l, e⟩ rest _ hx ⟨x3, x4, x5, x6, rfl⟩
    simp_arith [eCx, sm_eqPP]
    refine ⟨fun h => .inr ⟨_, rfl, by rw [if_pos h]⟩, fun h => ⟨fun h2 => .inr ⟨_, rfl, by rw [if_neg h, if_pos ⟨h2.2, h2.1⟩]⟩, fun h2 => .inl ⟨by rw [if_neg h, if_neg fun z => h2 ⟨z.2, z.1⟩], some _, some _, some _, some _, rfl⟩⟩⟩
  · rintro _ ⟨x3, x4, x5, x6, rfl⟩ hn
    rw [clr_find _ fun x => rfl, Option.map_eq_none_iff] at hn
    simp_arith [hn]
    rfl
  · intro d s hs hsome
    rw [clr_find _ fun x => rfl] at hsome
    obtain ⟨v, hv, e⟩ := Option.map_eq_some_iff.mp hsome
    subst e
    simp_arith [hv]
    exact ⟨rfl, hs⟩
theorem cross_any (i j : Int) : ∀ cx : List C4, (cx.any fun x => decide ((x.1, x.2.1) ∈ [(i, j), (j, i)])) = (clr cx i j).isSome
  | [] => rfl
  | x :: t => by
    rw [List.any_cons, cross_any i j t]
    rw [show clr (x :: t) i j = if x.1 = i ∧ x.2.1 = j then some x.2.2.1 else if x.1 = j ∧ x.2.1 = i then some x.2.2.2 else clr t i j from rfl]
    by_cases h1 : x.1 = i ∧ x.2.1 = j
    · rw [if_pos h1, decide_eq_true (by rw [h1.1, h1.2]; simp)]; rfl
    · rw [if_neg h1]
      by_cases h2 : x.1 = j ∧ x.2.1 = i
      · rw [if_pos h2, decide_eq_true (by rw [h2.1, h2.2]; simp)]; rfl
      · rw [if_neg h2, decide_eq_false (by simp only [List.mem_cons, Prod.mk.injEq, List.not_mem_nil, or_false]; rintro (z | z); exact h1 z; exact h2 z), Bool.false_or]
theorem do_cross_eq (cr : Cr) (i j : Int) (c : Src) (hl : cr.cx.length ≤ 1000) : S_do_cross [eCr cr, .int i, .int j] c = some (.bl (clr cr.cx i j).isSome, c) := by
  simp_arith! [m_do_cross, sm_cr1]
  refine wp_compM (fun x : C4 => D.bl (decide ((x.1, x.2.1) ∈ [(i, j), (j, i)]))) (by omega) (by simp_arith) (fun x _ => by
    simp_arith [sm_slCx]
    rw [sm_inPP]
    exact ⟨rfl, rfl, rfl⟩) ?_
  simp_arith
  rw [cross_any]
end GW
end

local macro_rules | `(tactic| simp_arith [$ls,*]) => `(tactic| simp only [↓GW.sm_lenE, ↓GW.sm_seqE, ↓GW.sm_ixE, ↓GW.sm_tupE, ↓GW.sm_tupEE, ↓GW.sm_slE, ↓GW.sm_addE, ↓GW.sm_lenR, ↓GW.sm_seqR, ↓GW.sm_ixR, ↓GW.sm_tupR, ↓GW.sm_slR, ↓GW.sm_addR, ↓GW.sm_isiE, ↓GW.sm_isiR, ↓GW.sm_seqCs, ↓GW.sm_cr0, ↓GW.sm_cr1, ↓GW.sm_cr2, ↓GW.sm_seqMvs, ↓GW.sm_lenMvs, ↓GW.sm_mv0, ↓GH.wp_ret, ↓GH.wp_lift, ↓GH.sm_some, ↓GH.sm_map, ↓GH.sm_bind, ↓GH.ifB_tt, ↓GH.ifB_ff, ↓GH.ifB_dec, ↓GH.ifB_not, ↓GH.nx_nx, ↓GH.nx_ret, ↓GH.nx_brk, ↓GH.nx_cnt, ↓GH.varAt_z, ↓GH.varAt_s, ↓GH.slAt_z, ↓GH.slAt_s, ↓GH.ownAt_z, ↓GH.ownAt_s, ↓GH.setAt_z, ↓GH.setAt_s, ↓GH.frzAt_z, ↓GH.frzAt_s, ↓GH.bor_val, ↓GH.bor_own, ↓GH.bor_ownK, ↓GH.bor_ownT, ↓GH.len_0, ↓GH.len_1, ↓GH.len_2, ↓GH.len_3, ↓GH.len_4, ↓GH.len_5, ↓GH.len_6, ↓GH.isB_bl, ↓GH.isI_int, ↓GH.wp_var, ↓GH.wp_frz, ↓GH.wp_C, ↓GH.wp_bin, ↓GH.wp_un, ↓GH.wp_tst, ↓GH.wp_tru, ↓GH.wp_and2, ↓GH.wp_or2, ↓GH.wp_not1, ↓GH.wp_eAnd, ↓GH.wp_eOr, ↓GH.wp_eNot, ↓GH.wp_eIf, ↓GH.wp_chain, ↓GH.wp_aNil, ↓GH.wp_aCons, ↓GH.wp_aStar, ↓GH.wp_tup, ↓GH.wp_disp, ↓GH.wp_lst, ↓GH.wp_call, ↓GH.wp_callL, ↓GH.wp_binL, ↓GH.wp_fn, ↓GH.wp_fld, ↓GH.wp_oNo, ↓GH.wp_oAt, ↓GH.wp_sl, ↓GH.wp_ixO, ↓GH.wp_here, ↓GH.wp_putL, ↓GH.wp_app, ↓GH.sm_app, ↓GH.wp_pop, ↓GH.sm_popL, ↓GH.wp_popAt, ↓GH.wp_bor, ↓GH.wp_tBor, ↓GH.isFlat_int, ↓GH.isFlat_bl, ↓GH.isFlat_non, ↓GH.isFlat_str, ↓GH.wp_seq, ↓GH.wp_nx, ↓GH.wp_sRet, ↓GH.wp_sIf, ↓GH.wp_sExpr, ↓GH.wp_asg, ↓GH.wp_gN, ↓GH.wp_gT, ↓GH.wp_gCons, ↓GH.wp_gNil, ↓GH.wp_set, ↓GH.wp_own, ↓GH.wp_aug, ↓GH.sm_aug, ↓GH.wp_setIx, ↓GH.wp_ownGet, ↓GH.wp_augIx, ↓GH.wp_sFor, ↓GH.wp_pNil, ↓GH.wp_pVal, ↓GH.wp_pOwn, ↓GH.wp_par, ↓GH.sm_put0, ↓GH.sm_put, ↓GH.wp_iSeq, ↓GH.wp_rg1, ↓GH.wp_rg2, ↓GH.wp_enum, ↓GH.wp_zip2, ↓GH.wp_zip3, ↓GH.wp_lRg1, ↓GH.wp_lRg2, ↓GH.wp_tupRg, ↓GH.sm_addI, ↓GH.sm_addT, ↓GH.sm_addL, ↓GH.sm_addLD, ↓GH.sm_subI, ↓GH.sm_mulI, ↓GH.sm_mulL, ↓GH.sm_mulLD, ↓GH.sm_modI, ↓GH.sm_fdivI, ↓GH.sm_ltI, ↓GH.sm_leI, ↓GH.sm_gtI, ↓GH.sm_geI, ↓GH.sm_eqI, ↓GH.sm_neI, ↓GH.sm_isN, ↓GH.sm_ixT, ↓GH.sm_ixL, ↓GH.sm_ownO, ↓GH.sm_ownL, ↓GH.sm_ownT, ↓GH.at_0, ↓GH.at_1, ↓GH.at_2, ↓GH.at_3, ↓GH.at_4, ↓GH.at_map, ↓GH.sm_lenL, ↓GH.sm_lenT, ↓GH.sm_intI, ↓GH.sm_intB, ↓GH.sm_absI, ↓GH.sm_tupT, ↓GH.sm_lstL, ↓GH.sm_lstT, ↓GH.sm_sumL1, ↓GH.sm_sumT1, ↓GH.sm_sumL, ↓GH.sm_sumT, ↓GH.sm_maxI, ↓GH.sm_minI, ↓GH.sm_maxL1, ↓GH.sm_minL1, ↓GH.sm_maxL, ↓GH.sm_minL, ↓GH.sm_anyL, ↓GH.sm_allL, ↓GH.sm_negI, ↓GH.sm_revL, ↓GH.sm_revT, ↓GH.sm_seqL, ↓GH.sm_seqT, ↓GH.sm_slL, ↓GH.sm_slT, ↓GH.sm_truB, ↓GH.sm_truN, ↓GH.sm_truI, ↓GH.sm_truL, ↓GH.sm_truT, ↓GH.sm_inR, ↓GH.sm_inT, ↓GH.sm_inL, ↓GH.sm_ninT, ↓GH.sm_ninL, ↓GH.sm_setL, ↓GH.wp_comp, ↓GH.wp_turn, ↓GH.lp_nx, ↓GH.lp_cnt, ↓GH.lp_brk, ↓GH.lp_ret, ↓GH.outR_ret, ↓GH.outR_nx, ↓GH.ownB_L, ↓GH.ownB_K, ↓GH.ownB_T, ↓GH.wp_nw, ↓GH.wp_nK0, ↓GH.wp_nT0, ↓GH.wp_dpNil, ↓GH.wp_dpCons, ↓GH.wp_nDisp, ↓GH.wp_ownN, ↓GH.wp_pOwnN, ↓GH.wp_dgO, ↓GH.own2_K, ↓GH.own2_T, ↓GH.own2_s, ↓GH.wp_here2, ↓GH.wp_putD, ↓GH.putAt_s, ↓GH.putAt_K, ↓GH.putAt_T, ↓GH.wp_sPutD, ↓GH.sm_keyI, ↓GH.sm_keyS, ↓GH.sm_keysT, ↓GH.sm_dgK, ↓GH.sm_dgT, ↓GH.sm_dinK, ↓GH.sm_dinT, ↓GH.sm_dninK, ↓GH.sm_dninT, ↓GH.dctAt_KI, ↓GH.dctAt_T, ↓GH.dctAt_s, ↓GH.wp_forD, ↓GH.noneAt_z, ↓GH.noneAt_s, ↓GH.wp_noneAt, ↓GH.wp_newL, ↓GH.wp_newP, ↓GH.wp_setL, ↓GH.wp_fillL, ↓GH.wp_lSl, ↓GH.sm_lstD, ↓GH.enumP_map, ↓GH.zip2P_map, ↓GH.zip3P_map, ↓GH.sm_eqNilI, ↓GH.sm_neNilI, ↓GH.sm_eqIL, ↓GH.sm_neIL, ↓GH.sm_eqIT, ↓GH.sm_neIT, ↓GH.at_snoc, ↓GH.sm_ne3, ↓GH.sm_ne2, ↓GH.sm_srtI, ↓GH.wp_rgV, ↓GH.isR_rng, ↓GH.sm_rng1, ↓GH.wp_ext, ↓GH.sm_extL, ↓GH.sm_srtD, GH.isV_none, GH.isV_val, GH.isV_jv, GH.allV_nil, GH.allV_cons, GH.jv_some, GH.jv_none, GH.out_nx, GH.kGet_lkp, GH.lkp_isSome, GH.borF, GH.bor_z, GH.bor_tt, GH.bor_no, GH.clean_nil, GH.clean_cons, GH.cleanAt_s, GH.cleanAt_n, GH.cleanAt_v, GH.cleanAt_j, GH.wipe_nil, GH.wipe_cons, GH.startE_z, GH.startE_n, GH.startE_s, eq_self, Option.isSome_map, List.set_cons_zero, List.set_cons_succ, List.cons_append, List.nil_append, and_true, true_and, and_self, true_implies, implies_true, not_false_eq_true, not_true_eq_false, false_implies, Option.some.injEq, List.contains_cons, List.contains_nil, Nat.reduceBEq, Bool.or_false, Bool.or_true, Bool.false_or, Bool.true_or, Nat.zero_add, Nat.reduceAdd, $ls,*])
local macro_rules | `(tactic| simp_all_arith [$ls,*]) => `(tactic| simp only [↓GW.sm_lenE, ↓GW.sm_seqE, ↓GW.sm_ixE, ↓GW.sm_tupE, ↓GW.sm_tupEE, ↓GW.sm_slE, ↓GW.sm_addE, ↓GW.sm_lenR, ↓GW.sm_seqR, ↓GW.sm_ixR, ↓GW.sm_tupR, ↓GW.sm_slR, ↓GW.sm_addR, ↓GW.sm_isiE, ↓GW.sm_isiR, ↓GW.sm_seqCs, ↓GW.sm_cr0, ↓GW.sm_cr1, ↓GW.sm_cr2, ↓GW.sm_seqMvs, ↓GW.sm_lenMvs, ↓GW.sm_mv0, ↓GH.wp_ret, ↓GH.wp_lift, ↓GH.sm_some, ↓GH.sm_map, ↓GH.sm_bind, ↓GH.ifB_tt, ↓GH.ifB_ff, ↓GH.ifB_dec, ↓GH.ifB_not, ↓GH.nx_nx, ↓GH.nx_ret, ↓GH.nx_brk, ↓GH.nx_cnt, ↓GH.varAt_z, ↓GH.varAt_s, ↓GH.slAt_z, ↓GH.slAt_s, ↓GH.ownAt_z, ↓GH.ownAt_s, ↓GH.setAt_z, ↓GH.setAt_s, ↓GH.frzAt_z, ↓GH.frzAt_s, ↓GH.bor_val, ↓GH.bor_own, ↓GH.bor_ownK, ↓GH.bor_ownT, ↓GH.len_0, ↓GH.len_1, ↓GH.len_2, ↓GH.len_3, ↓GH.len_4, ↓GH.len_5, ↓GH.len_6, ↓GH.isB_bl, ↓GH.isI_int, ↓GH.wp_var, ↓GH.wp_frz, ↓GH.wp_C, ↓GH.wp_bin, ↓GH.wp_un, ↓GH.wp_tst, ↓GH.wp_tru, ↓GH.wp_and2, ↓GH.wp_or2, ↓GH.wp_not1, ↓GH.wp_eAnd, ↓GH.wp_eOr, ↓GH.wp_eNot, ↓GH.wp_eIf, ↓GH.wp_chain, ↓GH.wp_aNil, ↓GH.wp_aCons, ↓GH.wp_aStar, ↓GH.wp_tup, ↓GH.wp_disp, ↓GH.wp_lst, ↓GH.wp_call, ↓GH.wp_callL, ↓GH.wp_binL, ↓GH.wp_fn, ↓GH.wp_fld, ↓GH.wp_oNo, ↓GH.wp_oAt, ↓GH.wp_sl, ↓GH.wp_ixO, ↓GH.wp_here, ↓GH.wp_putL, ↓GH.wp_app, ↓GH.sm_app, ↓GH.wp_pop, ↓GH.sm_popL, ↓GH.wp_popAt, ↓GH.wp_bor, ↓GH.wp_tBor, ↓GH.isFlat_int, ↓GH.isFlat_bl, ↓GH.isFlat_non, ↓GH.isFlat_str, ↓GH.wp_nx, ↓GH.wp_sRet, ↓GH.wp_sIf, ↓GH.wp_sExpr, ↓GH.wp_asg, ↓GH.wp_gN, ↓GH.wp_gT, ↓GH.wp_gCons, ↓GH.wp_gNil, ↓GH.wp_set, ↓GH.wp_own, ↓GH.wp_aug, ↓GH.sm_aug, ↓GH.wp_setIx, ↓GH.wp_ownGet, ↓GH.wp_augIx, ↓GH.wp_sFor, ↓GH.wp_pNil, ↓GH.wp_pVal, ↓GH.wp_pOwn, ↓GH.wp_par, ↓GH.sm_put0, ↓GH.sm_put, ↓GH.wp_iSeq, ↓GH.wp_rg1, ↓GH.wp_rg2, ↓GH.wp_enum, ↓GH.wp_zip2, ↓GH.wp_zip3, ↓GH.wp_lRg1, ↓GH.wp_lRg2, ↓GH.wp_tupRg, ↓GH.sm_addI, ↓GH.sm_addT, ↓GH.sm_addL, ↓GH.sm_addLD, ↓GH.sm_subI, ↓GH.sm_mulI, ↓GH.sm_mulL, ↓GH.sm_mulLD, ↓GH.sm_modI, ↓GH.sm_fdivI, ↓GH.sm_ltI, ↓GH.sm_leI, ↓GH.sm_gtI, ↓GH.sm_geI, ↓GH.sm_eqI, ↓GH.sm_neI, ↓GH.sm_isN, ↓GH.sm_ixT, ↓GH.sm_ixL, ↓GH.sm_ownO, ↓GH.sm_ownL, ↓GH.sm_ownT, ↓GH.at_0, ↓GH.at_1, ↓GH.at_2, ↓GH.at_3, ↓GH.at_4, ↓GH.at_map, ↓GH.sm_lenL, ↓GH.sm_lenT, ↓GH.sm_intI, ↓GH.sm_intB, ↓GH.sm_absI, ↓GH.sm_tupT, ↓GH.sm_lstL, ↓GH.sm_lstT, ↓GH.sm_sumL1, ↓GH.sm_sumT1, ↓GH.sm_sumL, ↓GH.sm_sumT, ↓GH.sm_maxI, ↓GH.sm_minI, ↓GH.sm_maxL1, ↓GH.sm_minL1, ↓GH.sm_maxL, ↓GH.sm_minL, ↓GH.sm_anyL, ↓GH.sm_allL, ↓GH.sm_negI, ↓GH.sm_revL, ↓GH.sm_revT, ↓GH.sm_seqL, ↓GH.sm_seqT, ↓GH.sm_slL, ↓GH.sm_slT, ↓GH.sm_truB, ↓GH.sm_truN, ↓GH.sm_truI, ↓GH.sm_truL, ↓GH.sm_truT, ↓GH.sm_inR, ↓GH.sm_inT, ↓GH.sm_inL, ↓GH.sm_ninT, ↓GH.sm_ninL, ↓GH.sm_setL, ↓GH.wp_comp, ↓GH.wp_turn, ↓GH.lp_nx, ↓GH.lp_cnt, ↓GH.lp_brk, ↓GH.lp_ret, ↓GH.outR_ret, ↓GH.outR_nx, ↓GH.ownB_L, ↓GH.ownB_K, ↓GH.ownB_T, ↓GH.wp_nw, ↓GH.wp_nK0, ↓GH.wp_nT0, ↓GH.wp_dpNil, ↓GH.wp_dpCons, ↓GH.wp_nDisp, ↓GH.wp_ownN, ↓GH.wp_pOwnN, ↓GH.wp_dgO, ↓GH.own2_K, ↓GH.own2_T, ↓GH.own2_s, ↓GH.wp_here2, ↓GH.wp_putD, ↓GH.putAt_s, ↓GH.putAt_K, ↓GH.putAt_T, ↓GH.wp_sPutD, ↓GH.sm_keyI, ↓GH.sm_keyS, ↓GH.sm_keysT, ↓GH.sm_dgK, ↓GH.sm_dgT, ↓GH.sm_dinK, ↓GH.sm_dinT, ↓GH.sm_dninK, ↓GH.sm_dninT, ↓GH.dctAt_KI, ↓GH.dctAt_T, ↓GH.dctAt_s, ↓GH.wp_forD, ↓GH.noneAt_z, ↓GH.noneAt_s, ↓GH.wp_noneAt, ↓GH.wp_newL, ↓GH.wp_newP, ↓GH.wp_setL, ↓GH.wp_fillL, ↓GH.wp_lSl, ↓GH.sm_lstD, ↓GH.enumP_map, ↓GH.zip2P_map, ↓GH.zip3P_map, ↓GH.sm_eqNilI, ↓GH.sm_neNilI, ↓GH.sm_eqIL, ↓GH.sm_neIL, ↓GH.sm_eqIT, ↓GH.sm_neIT, ↓GH.at_snoc, ↓GH.sm_ne3, ↓GH.sm_ne2, ↓GH.sm_srtI, ↓GH.wp_rgV, ↓GH.isR_rng, ↓GH.sm_rng1, ↓GH.wp_ext, ↓GH.sm_extL, ↓GH.sm_srtD, GH.isV_none, GH.isV_val, GH.isV_jv, GH.allV_nil, GH.allV_cons, GH.jv_some, GH.jv_none, GH.out_nx, GH.kGet_lkp, GH.lkp_isSome, GH.borF, GH.bor_z, GH.bor_tt, GH.bor_no, GH.clean_nil, GH.clean_cons, GH.cleanAt_s, GH.cleanAt_n, GH.cleanAt_v, GH.cleanAt_j, GH.wipe_nil, GH.wipe_cons, GH.startE_z, GH.startE_n, GH.startE_s, eq_self, Option.isSome_map, List.set_cons_zero, List.set_cons_succ, List.cons_append, List.nil_append, and_true, true_and, and_self, true_implies, implies_true, not_false_eq_true, not_true_eq_false, false_implies, Option.some.injEq, List.contains_cons, List.contains_nil, Nat.reduceBEq, Bool.or_false, Bool.or_true, Bool.false_or, Bool.true_or, Nat.zero_add, Nat.reduceAdd, $ls,*])
local macro_rules | `(tactic| simp_all_arith) => `(tactic| simp_all_arith [and_true])
local macro_rules | `(tactic| simp_arith! [$ls,*]) => `(tactic| (refine GH.fn_val ?_; simp only [GH.startE_s, GH.startE_n, GH.startE_z, $ls,*]; simp_arith [$ls,*]))
local macro_rules | `(tactic| simp_arith) => `(tactic| simp_arith [and_true])
noncomputable section
namespace GW
open GH
theorem sm_addLi {a : List Int} {i : Int} {P : D → Prop} : Sm (addD (eL a) (.lst [.int i])) P ↔ a.length + 1 ≤ 16777216 ∧ P (eL (a ++ [i])) := by
  unfold eL; rw [sm_addL, List.map_append, List.length_map]; rfl
theorem sm_tupEL {l : List Int} {P : D → Prop} : Sm (tupG [eL l]) P ↔ P (eT l) := sm_some
theorem sm_inEL {i : Int} {l : List Int} {P : D → Prop} : Sm (inD (.int i) (eL l)) P ↔ P (.bl (decide (i ∈ l))) := by unfold eL; rw [sm_inL]
theorem range_at' {n y : Nat} {done rest : List Nat} (hx : List.range n = done ++ y :: rest) : y = done.length ∧ y < n := by
  have h := congrArg (fun l => l[done.length]?) hx
  simp only [List.getElem?_append_right (Nat.le_refl _), Nat.sub_self, List.getElem?_cons_zero] at h
  obtain ⟨h0, h⟩ := List.getElem?_eq_some_iff.mp h
  have h : done.length = y := by simpa using h
  have h0 : done.length < n := by simpa using h0
  omega
def crs (cx : List C4) (l : List Int) (i : Int) : Bool := l.any fun j => (clr cx i j).isSome
def NoSelf (cx : List C4) : Prop := ∀ x ∈ cx, x.1 ≠ x.2.1
theorem clr_self {cx : List C4} (h : NoSelf cx) (i : Int) : clr cx i i = none := by
  induction cx with
  | nil => rfl
  | cons x t ih =>
    have hx := h x List.mem_cons_self
    unfold clr
    rw [if_neg (by rintro ⟨a, b⟩; exact hx (a.trans b.symm)), if_neg (by rintro ⟨a, b⟩; exact hx (a.trans b.symm))]
    exact ih fun y hy => h y (List.mem_cons_of_mem _ hy)
theorem clr_sym (cx : List C4) (i j : Int) : (clr cx i j).isSome = (clr cx j i).isSome := by
  induction cx with
  | nil => rfl
  | cons x t ih =>
    rw [show clr (x :: t) i j = if x.1 = i ∧ x.2.1 = j then some x.2.2.1 else if x.1 = j ∧ x.2.1 = i then some x.2.2.2 else clr t i j from rfl, show clr (x :: t) j i = if x.1 = j ∧ x.2.1 = i then some x.2.2.1 else if x.1 = i ∧ x.2.1 = j then some x.2.2.2 else clr t j i from rfl]
    by_cases h1 : x.1 = i ∧ x.2.1 = j <;> by_cases h2 : x.1 = j ∧ x.2.1 = i
    · rw [if_pos h1, if_pos h2]
    · rw [if_pos h1, if_neg h2, if_pos h1]
      show true = true
      rfl
    · rw [if_neg h1, if_pos h2, if_pos h2]
      show true = true
      rfl
    · rw [if_neg h1, if_neg h2, if_neg h2, if_neg h1]; exact ih
theorem sm_notO {o : Option Int} {P : D → Prop} : Sm (notND (eN o) .non) P ↔ P (.bl o.isSome) := by cases o <;> exact sm_some
theorem crosses_eq (cr : Cr) (lot : List Int) (i : Int) (c : Src) (hn : NoSelf cr.cx) (hl : lot.length ≤ 1000) : S__law_crosses_one [eCr cr, eL lot, .int i] c = some (.bl (crs cr.cx lot i), c) := by
  simp_arith! [m__law_crosses_one, eL]
  refine wp_compF (fun j : Int => !decide (j = i)) (fun j => D.bl (clr cr.cx i j).isSome) (by omega) (by simp_arith) (fun x _ => by
    simp_arith [cl_eq (law_clr_eq cr i x c), sm_notO]
    refine ⟨fun h => ?_, fun h => ?_⟩ <;> simp_all) ?_
  have : ((lot.filter fun j => !decide (j = i)).any fun j => (clr cr.cx i j).isSome) = crs cr.cx lot i := by
    unfold crs
    rw [List.any_filter]
    congr 1
    funext j
    by_cases h : j = i
    · subst h; rw [clr_self hn]; simp
    · simp [h]
  simp_arith [sm_anyL (f := fun j : Int => (clr cr.cx i j).isSome), this]
def xsub (cx : List C4) : Nat → List (List Int)
  | 0 => [[]]
  | i + 1 => xsub cx i ++ ((xsub cx i).filter fun l => !crs cx l i).map fun l => l ++ [(i : Int)]
theorem xsub_len (cx : List C4) : ∀ n, (xsub cx n).length ≤ 2 ^ n
  | 0 => by simp [xsub]
  | n + 1 => by
    have h := xsub_len cx n
    have hf := List.length_filter_le (fun l => !crs cx l n) (xsub cx n)
    simp only [xsub, List.length_append, List.length_map, Nat.pow_succ]
    omega
structure Lot (cx : List C4) (n : Nat) (l : List Int) : Prop where
  len : l.length ≤ n
  inn : ∀ x ∈ l, 0 ≤ x ∧ x < n
  asc : l.Pairwise (· < ·)
  free : ∀ i ∈ l, ∀ j ∈ l, clr cx i j = none
theorem xsub_ok {cx : List C4} (hn : NoSelf cx) : ∀ n, ∀ l ∈ xsub cx n, Lot cx n l
  | 0, l, h => by
    simp [xsub] at h; subst h
    exact ⟨by simp, by simp, List.Pairwise.nil, by simp⟩
  | n + 1, l, h => by
    rcases List.mem_append.mp h with z | z
    · have q := xsub_ok hn n l z
      exact ⟨by have := q.len; omega, fun x hx => by have := q.inn x hx; omega, q.asc, q.free⟩
    · obtain ⟨l', hl', rfl⟩ := List.mem_map.mp z
      obtain ⟨hl1, hl2⟩ := List.mem_filter.mp hl'
      have q := xsub_ok hn n l' hl1
      have hc : ∀ j ∈ l', clr cx n j = none := fun j hj => by
        have : crs cx l' n = false := by simpa using hl2
        have := List.any_eq_false.mp this j hj
        simpa using this
      have hc2 : ∀ j ∈ l', clr cx j n = none := fun j hj => by
        have := clr_sym cx j n
        rw [hc j hj] at this
        simpa using this
      refine ⟨by have := q.len; simp; omega, fun x hx => ?_, ?_, fun i hi j hj => ?_⟩
      · rcases List.mem_append.mp hx with y | y
        · have := q.inn x y; omega
        · simp at y; omega
      · rw [List.pairwise_append]
        exact ⟨q.asc, by simp, fun a ha b hb => by simp at hb; have := q.inn a ha; omega⟩
      · rcases List.mem_append.mp hi with y | y <;> rcases List.mem_append.mp hj with w | w
        · exact q.free i y j w
        · simp at w; subst w; exact hc2 i y
        · simp at y; subst y; exact hc j w
        · simp at y w; subst y w; exact clr_self hn _
def fullX (cx : List C4) (n : Nat) (l : List Int) : Bool := (List.range n).all fun i => decide ((i : Int) ∈ l) || crs cx l i
def stg (cx : List C4) (n : Nat) : List (List Int) := tsort ((xsub cx n).filter (fullX cx n))
theorem full_ne {cx : List C4} {n : Nat} (h1 : 1 ≤ n) : ∀ v ∈ (xsub cx n).filter (fullX cx n), v ≠ [] := fun v hv e => by
  obtain ⟨_, hf⟩ := List.mem_filter.mp hv
  rw [e] at hf
  have := List.all_eq_true.mp hf 0 (List.mem_range.mpr (by omega))
  simp [crs] at this
structure Sgs (cx : List C4) (n : Nat) (sts : List (List Int)) : Prop where
  len : sts.length ≤ 2 ^ n
  lot : ∀ st ∈ sts, st ≠ [] ∧ Lot cx n st
theorem stg_ok {cx : List C4} {n : Nat} (hn : NoSelf cx) (h1 : 1 ≤ n) : Sgs cx n (stg cx n) := by
  have hp := tsort_perm ((xsub cx n).filter (fullX cx n))
  have hfl := List.length_filter_le (fullX cx n) (xsub cx n)
  have := xsub_len cx n
  refine ⟨by unfold stg; rw [hp.length_eq]; omega, fun st hs => ?_⟩
  have hm := hp.mem_iff.mp hs
  exact ⟨full_ne h1 st hm, xsub_ok hn n st (List.mem_filter.mp hm).1⟩
theorem pow_6 {n : Nat} (h : n ≤ 6) : 2 ^ n ≤ 64 := Nat.pow_le_pow_right (n := 2) (by omega) h
theorem law_stages_eq (cr : Cr) (c : Src) (hn : NoSelf cr.cx) (h1 : 1 ≤ cr.mv.length) (h4 : cr.mv.length ≤ 6) : S__law_stages [eCr cr] c = some (.lst ((stg cr.cx cr.mv.length).map eT), c) := by
  simp_arith! [m__law_stages]
  refine ⟨okR_of (by omega) (by omega), ?_⟩
  rw [Int.toNat_natCast]
  have hp : ∀ i, i ≤ cr.mv.length → (xsub cr.cx i).length ≤ 64 := fun i hi => by
    have := xsub_len cr.cx i
    have := pow_6 (n := i) (by omega)
    omega
  refine wp_for (fun done _ s => ∃ x3 : Option D, s = ⟨[some (.val (eCr cr)), some (.val (.int cr.mv.length)), some (.val (.lst ((xsub cr.cx done.length).map eL))), jv x3, none, none], c⟩) ⟨none, rfl⟩ ?_ ?_
  · rintro done i rest _ hx ⟨x3, rfl⟩
    obtain ⟨rfl, hi⟩ := range_at' hx
    have hb := hp done.length (by omega)
    simp_arith
    refine wp_compF (enc := eL) (fun lot => !crs cr.cx lot done.length) (fun lot => eL (lot ++ [(done.length : Int)])) (by omega) (by simp_arith) (fun lot hlot => by
      have := (xsub_ok hn done.length lot hlot).len
      simp_arith [cl_eq (crosses_eq cr lot done.length c hn (by omega)), sm_addLi]
      refine ⟨fun h => ?_, fun h => ?_⟩
      · exact ⟨by rw [h]; rfl, rfl, rfl⟩
      · simp_arith [sm_addLi]
        refine ⟨by omega, ?_⟩
        rw [show crs cr.cx lot done.length = false from by simpa using h]
        rfl) ?_
    have e : ((xsub cr.cx done.length).filter fun lot => !crs cr.cx lot done.length).map (fun lot => eL (lot ++ [(done.length : Int)])) = (((xsub cr.cx done.length).filter fun lot => !crs cr.cx lot done.length).map fun lot => lot ++ [(done.length : Int)]).map eL := by
      rw [List.map_map]; rfl
    rw [e]
    simp_arith
    have hfl := List.length_filter_le (fun lot => !crs cr.cx lot done.length) (xsub cr.cx done.length)
    refine ⟨by simp; omega, some (.int done.length), ?_⟩
    have e2 : xsub cr.cx (done ++ [done.length]).length = xsub cr.cx done.length ++ ((xsub cr.cx done.length).filter fun lot => !crs cr.cx lot done.length).map fun lot => lot ++ [(done.length : Int)] := by
      rw [show (done ++ [done.length]).length = done.length + 1 by simp]; rfl
    rw [e2, List.map_append]
    rfl
  · rintro _ ⟨x3, rfl⟩
    rw [List.length_range]
    simp_arith
    have hb := hp cr.mv.length (by omega)
    refine wp_for (enc := eL) (fun done _ s => ∃ (x3 x5 : Option D), s = ⟨[some (.val (eCr cr)), some (.val (.int cr.mv.length)), some (.val (.lst ((xsub cr.cx cr.mv.length).map eL))), jv x3, some (.own ((done.filter (fullX cr.cx cr.mv.length)).map eT)), jv x5], c⟩) ⟨x3, none, rfl⟩ ?_ ?_
    · rintro done lot rest _ hx ⟨x3, x5, rfl⟩
      have hm : lot ∈ xsub cr.cx cr.mv.length := by rw [hx]; simp
      have hlot := (xsub_ok hn cr.mv.length lot hm).len
      have hdl : done.length ≤ 1000 := by have := congrArg List.length hx; simp at this; omega
      have hfl := List.length_filter_le (fullX cr.cx cr.mv.length) done
      simp_arith
      refine ⟨okR_of (by omega) (by omega), ?_⟩
      rw [Int.toNat_natCast]
      refine wp_compM (fun i : Nat => D.bl (decide ((i : Int) ∈ lot) || crs cr.cx lot i)) (by simp; omega) (by simp_arith) (fun i _ => by
        simp_arith [sm_inEL, cl_eq (crosses_eq cr lot i c hn (by omega))]
        refine ⟨fun h => ?_, fun h => ?_⟩
        · rw [decide_eq_true h]; rfl
        · rw [decide_eq_false h]; rfl) ?_
      simp_arith
      have ef : ((List.range cr.mv.length).all fun i : Nat => decide ((i : Int) ∈ lot) || crs cr.cx lot i) = fullX cr.cx cr.mv.length lot := rfl
      rw [ef]
      cases hf : fullX cr.cx cr.mv.length lot with
      | true =>
        simp_arith [sm_tupEL]
        refine ⟨by simp; omega, x3, some (eL lot), ?_⟩
        rw [List.filter_append, List.filter_cons, hf, List.map_append]; rfl
      | false =>
        simp_arith
        refine ⟨x3, some (eL lot), ?_⟩
        rw [show (done ++ [lot]).filter (fullX cr.cx cr.mv.length) = done.filter (fullX cr.cx cr.mv.length) by rw [List.filter_append]; simp [hf]]; rfl
    · rintro _ ⟨x3, x5, rfl⟩
      simp_arith
      have hfl := List.length_filter_le (fullX cr.cx cr.mv.length) (xsub cr.cx cr.mv.length)
      rw [sm_srtT (full_ne h1)]
      exact ⟨by omega, by simp_arith; rfl⟩
end GW
end

noncomputable section
namespace GW
open GH
theorem sm_ninE {i : Int} {l : List Int} {P : D → Prop} : Sm (ninD (.int i) (eT l)) P ↔ P (.bl (!decide (i ∈ l))) := by unfold eT; rw [sm_ninT]
theorem sm_inE {i : Int} {l : List Int} {P : D → Prop} : Sm (inD (.int i) (eT l)) P ↔ P (.bl (decide (i ∈ l))) := by unfold eT; rw [sm_inT]
theorem free_eq (cr : Cr) (c : Src) (hn : NoSelf cr.cx) (hc : cr.cx.length ≤ 1000) (h4 : cr.mv.length ≤ 6) : S_free_sets [eCr cr] c = some (.lst ((xsub cr.cx cr.mv.length).map eT), c) := by
  simp_arith! [m_free_sets]
  refine ⟨okR_of (by omega) (by omega), ?_⟩
  rw [Int.toNat_natCast]
  have hp : ∀ i, i ≤ cr.mv.length → (xsub cr.cx i).length ≤ 64 := fun i hi => by
    have := xsub_len cr.cx i
    have := pow_6 (n := i) (by omega)
    omega
  refine wp_for (fun done _ s => ∃ x2 : Option D, s = ⟨[some (.val (eCr cr)), some (.val (.lst ((xsub cr.cx done.length).map eT))), jv x2, none, none], c⟩) ⟨none, rfl⟩ ?_ ?_
  · rintro done i rest _ hx ⟨x2, rfl⟩
    obtain ⟨rfl, hi⟩ := range_at' hx
    have hb := hp done.length (by omega)
    simp_arith
    refine wp_compF (enc := eT) (fun lot => !crs cr.cx lot done.length) (fun lot => eT (lot ++ [(done.length : Int)])) (by omega) (by simp_arith) (fun lot hlot => by
      have hlen := (xsub_ok hn done.length lot hlot).len
      simp_arith
      refine wp_compM (fun j : Int => D.bl (clr cr.cx done.length j).isSome) (by omega) (by simp_arith) (fun j _ => by
        simp_arith [cl_eq (do_cross_eq cr done.length j c hc)]) ?_
      simp_arith [sm_anyL (f := fun j : Int => (clr cr.cx done.length j).isSome)]
      refine ⟨fun h => ?_, fun h => ?_⟩
      · rw [show crs cr.cx lot done.length = true from h]; first | rfl | exact ⟨rfl, rfl, rfl⟩
      · simp_arith
        rw [show crs cr.cx lot done.length = false from h]
        refine ⟨by simp [PySem.sizeLine]; omega, ?_, rfl, rfl⟩
        show some (D.tup (lot.map D.int ++ [.int done.length])) = some (eT (lot ++ [(done.length : Int)]))
        unfold eT
        rw [List.map_append]; rfl) ?_
    have e : ((xsub cr.cx done.length).filter fun lot => !crs cr.cx lot done.length).map (fun lot => eT (lot ++ [(done.length : Int)])) = (((xsub cr.cx done.length).filter fun lot => !crs cr.cx lot done.length).map fun lot => lot ++ [(done.length : Int)]).map eT := by
      rw [List.map_map]; rfl
    rw [e]
    simp_arith
    have hfl := List.length_filter_le (fun lot => !crs cr.cx lot done.length) (xsub cr.cx done.length)
    refine ⟨by simp; omega, some (.int done.length), ?_⟩
    have e2 : xsub cr.cx (done ++ [done.length]).length = xsub cr.cx done.length ++ ((xsub cr.cx done.length).filter fun lot => !crs cr.cx lot done.length).map fun lot => lot ++ [(done.length : Int)] := by
      rw [show (done ++ [done.length]).length = done.length + 1 by simp]; rfl
    rw [e2, List.map_append]
    rfl
  · rintro _ ⟨x2, rfl⟩
    rw [List.length_range]
    simp_arith
theorem full_eq (cr : Cr) (lot : List Int) (c : Src) (hc : cr.cx.length ≤ 1000) (h4 : cr.mv.length ≤ 6) (hl : lot.length ≤ 6) : S_is_full [eCr cr, eT lot] c = some (.bl (fullX cr.cx cr.mv.length lot), c) := by
  simp_arith! [m_is_full]
  refine ⟨okR_of (by omega) (by omega), ?_⟩
  rw [Int.toNat_natCast]
  refine wp_compF (fun i : Nat => !decide ((i : Int) ∈ lot)) (fun i : Nat => D.int (i : Int)) (by simp; omega) (by simp_arith) (fun i _ => by
    simp_arith [sm_ninE]
    refine ⟨fun h => ?_, fun h => ?_⟩ <;> simp_all) ?_
  simp_arith
  have hfl := List.length_filter_le (fun i : Nat => !decide ((i : Int) ∈ lot)) (List.range cr.mv.length)
  rw [List.length_range] at hfl
  refine wp_compM (enc := fun i : Nat => D.int (i : Int)) (fun i : Nat => D.bl (crs cr.cx lot i)) (by omega) (by simp_arith) (fun i _ => by
    simp_arith
    refine wp_compM (fun j : Int => D.bl (clr cr.cx i j).isSome) (by omega) (by simp_arith) (fun j _ => by
      simp_arith [cl_eq (do_cross_eq cr i j c hc)]) ?_
    simp_arith [sm_anyL (f := fun j : Int => (clr cr.cx i j).isSome)]
    rfl) ?_
  simp_arith [sm_allL (f := fun i : Nat => crs cr.cx lot i)]
  have e : (((List.range cr.mv.length).filter fun i : Nat => !decide ((i : Int) ∈ lot)).all fun i : Nat => crs cr.cx lot i) = fullX cr.cx cr.mv.length lot := by
    unfold fullX
    rw [List.all_filter]
    congr 1
    funext i
    by_cases h : (i : Int) ∈ lot <;> simp [h]
  rw [e]
theorem stages_eq (cr : Cr) (c : Src) (hn : NoSelf cr.cx) (hc : cr.cx.length ≤ 1000) (h1 : 1 ≤ cr.mv.length) (h4 : cr.mv.length ≤ 6) : S_stages [eCr cr] c = some (eR (stg cr.cx cr.mv.length), c) := by
  simp_arith! [m_stages, cl_eq (free_eq cr _ hn hc h4)]
  have hxl := xsub_len cr.cx cr.mv.length
  have h6 := pow_6 h4
  refine wp_compF (enc := eT) (fullX cr.cx cr.mv.length) eT (by omega) (by simp_arith) (fun lot hlot => by
    have hlen := (xsub_ok hn _ lot hlot).len
    simp_arith [cl_eq (full_eq cr lot c hc h4 (by omega))]
    cases hf : fullX cr.cx cr.mv.length lot <;> simp_arith <;> rfl) ?_
  simp_arith
  have hfl := List.length_filter_le (fullX cr.cx cr.mv.length) (xsub cr.cx cr.mv.length)
  rw [sm_srtT (full_ne h1)]
  exact ⟨by omega, by simp_arith; rfl⟩
end GW
end

local macro_rules | `(tactic| simp_arith [$ls,*]) => `(tactic| simp only [↓GW.sm_lenE, ↓GW.sm_seqE, ↓GW.sm_ixE, ↓GW.sm_tupE, ↓GW.sm_tupEE, ↓GW.sm_slE, ↓GW.sm_addE, ↓GW.sm_lenR, ↓GW.sm_seqR, ↓GW.sm_ixR, ↓GW.sm_tupR, ↓GW.sm_slR, ↓GW.sm_addR, ↓GW.sm_isiE, ↓GW.sm_isiR, ↓GW.sm_seqCs, ↓GW.sm_cr0, ↓GW.sm_cr1, ↓GW.sm_cr2, ↓GW.sm_seqMvs, ↓GW.sm_lenMvs, ↓GW.sm_mv0, ↓GH.wp_ret, ↓GH.wp_lift, ↓GH.sm_some, ↓GH.sm_map, ↓GH.sm_bind, ↓GH.ifB_tt, ↓GH.ifB_ff, ↓GH.ifB_dec, ↓GH.ifB_not, ↓GH.nx_nx, ↓GH.nx_ret, ↓GH.nx_brk, ↓GH.nx_cnt, ↓GH.varAt_z, ↓GH.varAt_s, ↓GH.slAt_z, ↓GH.slAt_s, ↓GH.ownAt_z, ↓GH.ownAt_s, ↓GH.setAt_z, ↓GH.setAt_s, ↓GH.frzAt_z, ↓GH.frzAt_s, ↓GH.bor_val, ↓GH.bor_own, ↓GH.bor_ownK, ↓GH.bor_ownT, ↓GH.len_0, ↓GH.len_1, ↓GH.len_2, ↓GH.len_3, ↓GH.len_4, ↓GH.len_5, ↓GH.len_6, ↓GH.isB_bl, ↓GH.isI_int, ↓GH.wp_var, ↓GH.wp_frz, ↓GH.wp_C, ↓GH.wp_bin, ↓GH.wp_un, ↓GH.wp_tst, ↓GH.wp_tru, ↓GH.wp_and2, ↓GH.wp_or2, ↓GH.wp_not1, ↓GH.wp_eAnd, ↓GH.wp_eOr, ↓GH.wp_eNot, ↓GH.wp_eIf, ↓GH.wp_chain, ↓GH.wp_aNil, ↓GH.wp_aCons, ↓GH.wp_aStar, ↓GH.wp_tup, ↓GH.wp_disp, ↓GH.wp_lst, ↓GH.wp_call, ↓GH.wp_callL, ↓GH.wp_binL, ↓GH.wp_fn, ↓GH.wp_fld, ↓GH.wp_oNo, ↓GH.wp_oAt, ↓GH.wp_sl, ↓GH.wp_ixO, ↓GH.wp_here, ↓GH.wp_putL, ↓GH.wp_app, ↓GH.sm_app, ↓GH.wp_pop, ↓GH.sm_popL, ↓GH.wp_popAt, ↓GH.wp_bor, ↓GH.wp_tBor, ↓GH.isFlat_int, ↓GH.isFlat_bl, ↓GH.isFlat_non, ↓GH.isFlat_str, ↓GH.wp_seq, ↓GH.wp_nx, ↓GH.wp_sRet, ↓GH.wp_sIf, ↓GH.wp_sExpr, ↓GH.wp_asg, ↓GH.wp_gN, ↓GH.wp_gT, ↓GH.wp_gCons, ↓GH.wp_gNil, ↓GH.wp_set, ↓GH.wp_own, ↓GH.wp_aug, ↓GH.sm_aug, ↓GH.wp_setIx, ↓GH.wp_ownGet, ↓GH.wp_augIx, ↓GH.wp_sFor, ↓GH.wp_pNil, ↓GH.wp_pVal, ↓GH.wp_pOwn, ↓GH.wp_par, ↓GH.sm_put0, ↓GH.sm_put, ↓GH.wp_iSeq, ↓GH.wp_rg1, ↓GH.wp_rg2, ↓GH.wp_enum, ↓GH.wp_zip2, ↓GH.wp_zip3, ↓GH.wp_lRg1, ↓GH.wp_lRg2, ↓GH.wp_tupRg, ↓GH.sm_addI, ↓GH.sm_addT, ↓GH.sm_addL, ↓GH.sm_addLD, ↓GH.sm_subI, ↓GH.sm_mulI, ↓GH.sm_mulL, ↓GH.sm_mulLD, ↓GH.sm_modI, ↓GH.sm_fdivI, ↓GH.sm_ltI, ↓GH.sm_leI, ↓GH.sm_gtI, ↓GH.sm_geI, ↓GH.sm_eqI, ↓GH.sm_neI, ↓GH.sm_isN, ↓GH.sm_notN, ↓GH.sm_ixT, ↓GH.sm_ixL, ↓GH.sm_ownO, ↓GH.sm_ownL, ↓GH.sm_ownT, ↓GH.at_0, ↓GH.at_1, ↓GH.at_2, ↓GH.at_3, ↓GH.at_4, ↓GH.at_map, ↓GH.sm_lenL, ↓GH.sm_lenT, ↓GH.sm_intI, ↓GH.sm_intB, ↓GH.sm_absI, ↓GH.sm_tupT, ↓GH.sm_lstL, ↓GH.sm_lstT, ↓GH.sm_sumL1, ↓GH.sm_sumT1, ↓GH.sm_sumL, ↓GH.sm_sumT, ↓GH.sm_maxI, ↓GH.sm_minI, ↓GH.sm_maxL1, ↓GH.sm_minL1, ↓GH.sm_maxL, ↓GH.sm_minL, ↓GH.sm_anyL, ↓GH.sm_allL, ↓GH.sm_negI, ↓GH.sm_revL, ↓GH.sm_revT, ↓GH.sm_seqL, ↓GH.sm_seqT, ↓GH.sm_slL, ↓GH.sm_slT, ↓GH.sm_truB, ↓GH.sm_truN, ↓GH.sm_truI, ↓GH.sm_truL, ↓GH.sm_truT, ↓GH.sm_inR, ↓GH.sm_inT, ↓GH.sm_inL, ↓GH.sm_ninT, ↓GH.sm_ninL, ↓GH.sm_setL, ↓GH.wp_comp, ↓GH.wp_turn, ↓GH.lp_nx, ↓GH.lp_cnt, ↓GH.lp_brk, ↓GH.lp_ret, ↓GH.outR_ret, ↓GH.outR_nx, ↓GH.ownB_L, ↓GH.ownB_K, ↓GH.ownB_T, ↓GH.wp_nw, ↓GH.wp_nK0, ↓GH.wp_nT0, ↓GH.wp_dpNil, ↓GH.wp_dpCons, ↓GH.wp_nDisp, ↓GH.wp_ownN, ↓GH.wp_pOwnN, ↓GH.wp_dgO, ↓GH.own2_K, ↓GH.own2_T, ↓GH.own2_s, ↓GH.wp_here2, ↓GH.wp_putD, ↓GH.putAt_s, ↓GH.putAt_K, ↓GH.putAt_T, ↓GH.wp_sPutD, ↓GH.sm_keyI, ↓GH.sm_keyS, ↓GH.sm_keysT, ↓GH.sm_dgK, ↓GH.sm_dgT, ↓GH.sm_dinK, ↓GH.sm_dinT, ↓GH.sm_dninK, ↓GH.sm_dninT, ↓GH.dctAt_KI, ↓GH.dctAt_T, ↓GH.dctAt_s, ↓GH.wp_forD, ↓GH.noneAt_z, ↓GH.noneAt_s, ↓GH.wp_noneAt, ↓GH.wp_newL, ↓GH.wp_newP, ↓GH.wp_setL, ↓GH.wp_fillL, ↓GH.wp_lSl, ↓GH.sm_lstD, ↓GH.enumP_map, ↓GH.zip2P_map, ↓GH.zip3P_map, ↓GH.sm_eqNilI, ↓GH.sm_neNilI, ↓GH.sm_eqIL, ↓GH.sm_neIL, ↓GH.sm_eqIT, ↓GH.sm_neIT, ↓GH.at_snoc, ↓GH.sm_ne3, ↓GH.sm_ne2, ↓GH.sm_srtI, ↓GH.wp_rgV, ↓GH.isR_rng, ↓GH.sm_rng1, ↓GH.wp_ext, ↓GH.sm_extL, ↓GH.sm_srtD, GH.isV_none, GH.isV_val, GH.isV_jv, GH.allV_nil, GH.allV_cons, GH.jv_some, GH.jv_none, GH.out_nx, GH.kGet_lkp, GH.lkp_isSome, GH.borF, GH.bor_z, GH.bor_tt, GH.bor_no, GH.clean_nil, GH.clean_cons, GH.cleanAt_s, GH.cleanAt_n, GH.cleanAt_v, GH.cleanAt_j, GH.wipe_nil, GH.wipe_cons, GH.startE_z, GH.startE_n, GH.startE_s, eq_self, Option.isSome_map, List.set_cons_zero, List.set_cons_succ, List.cons_append, List.nil_append, and_true, true_and, and_self, true_implies, implies_true, not_false_eq_true, not_true_eq_false, false_implies, Option.some.injEq, List.contains_cons, List.contains_nil, Nat.reduceBEq, Bool.or_false, Bool.or_true, Bool.false_or, Bool.true_or, Nat.zero_add, Nat.reduceAdd, $ls,*])
local macro_rules | `(tactic| simp_all_arith [$ls,*]) => `(tactic| simp only [↓GW.sm_lenE, ↓GW.sm_seqE, ↓GW.sm_ixE, ↓GW.sm_tupE, ↓GW.sm_tupEE, ↓GW.sm_slE, ↓GW.sm_addE, ↓GW.sm_lenR, ↓GW.sm_seqR, ↓GW.sm_ixR, ↓GW.sm_tupR, ↓GW.sm_slR, ↓GW.sm_addR, ↓GW.sm_isiE, ↓GW.sm_isiR, ↓GW.sm_seqCs, ↓GW.sm_cr0, ↓GW.sm_cr1, ↓GW.sm_cr2, ↓GW.sm_seqMvs, ↓GW.sm_lenMvs, ↓GW.sm_mv0, ↓GH.wp_ret, ↓GH.wp_lift, ↓GH.sm_some, ↓GH.sm_map, ↓GH.sm_bind, ↓GH.ifB_tt, ↓GH.ifB_ff, ↓GH.ifB_dec, ↓GH.ifB_not, ↓GH.nx_nx, ↓GH.nx_ret, ↓GH.nx_brk, ↓GH.nx_cnt, ↓GH.varAt_z, ↓GH.varAt_s, ↓GH.slAt_z, ↓GH.slAt_s, ↓GH.ownAt_z, ↓GH.ownAt_s, ↓GH.setAt_z, ↓GH.setAt_s, ↓GH.frzAt_z, ↓GH.frzAt_s, ↓GH.bor_val, ↓GH.bor_own, ↓GH.bor_ownK, ↓GH.bor_ownT, ↓GH.len_0, ↓GH.len_1, ↓GH.len_2, ↓GH.len_3, ↓GH.len_4, ↓GH.len_5, ↓GH.len_6, ↓GH.isB_bl, ↓GH.isI_int, ↓GH.wp_var, ↓GH.wp_frz, ↓GH.wp_C, ↓GH.wp_bin, ↓GH.wp_un, ↓GH.wp_tst, ↓GH.wp_tru, ↓GH.wp_and2, ↓GH.wp_or2, ↓GH.wp_not1, ↓GH.wp_eAnd, ↓GH.wp_eOr, ↓GH.wp_eNot, ↓GH.wp_eIf, ↓GH.wp_chain, ↓GH.wp_aNil, ↓GH.wp_aCons, ↓GH.wp_aStar, ↓GH.wp_tup, ↓GH.wp_disp, ↓GH.wp_lst, ↓GH.wp_call, ↓GH.wp_callL, ↓GH.wp_binL, ↓GH.wp_fn, ↓GH.wp_fld, ↓GH.wp_oNo, ↓GH.wp_oAt, ↓GH.wp_sl, ↓GH.wp_ixO, ↓GH.wp_here, ↓GH.wp_putL, ↓GH.wp_app, ↓GH.sm_app, ↓GH.wp_pop, ↓GH.sm_popL, ↓GH.wp_popAt, ↓GH.wp_bor, ↓GH.wp_tBor, ↓GH.isFlat_int, ↓GH.isFlat_bl, ↓GH.isFlat_non, ↓GH.isFlat_str, ↓GH.wp_nx, ↓GH.wp_sRet, ↓GH.wp_sIf, ↓GH.wp_sExpr, ↓GH.wp_asg, ↓GH.wp_gN, ↓GH.wp_gT, ↓GH.wp_gCons, ↓GH.wp_gNil, ↓GH.wp_set, ↓GH.wp_own, ↓GH.wp_aug, ↓GH.sm_aug, ↓GH.wp_setIx, ↓GH.wp_ownGet, ↓GH.wp_augIx, ↓GH.wp_sFor, ↓GH.wp_pNil, ↓GH.wp_pVal, ↓GH.wp_pOwn, ↓GH.wp_par, ↓GH.sm_put0, ↓GH.sm_put, ↓GH.wp_iSeq, ↓GH.wp_rg1, ↓GH.wp_rg2, ↓GH.wp_enum, ↓GH.wp_zip2, ↓GH.wp_zip3, ↓GH.wp_lRg1, ↓GH.wp_lRg2, ↓GH.wp_tupRg, ↓GH.sm_addI, ↓GH.sm_addT, ↓GH.sm_addL, ↓GH.sm_addLD, ↓GH.sm_subI, ↓GH.sm_mulI, ↓GH.sm_mulL, ↓GH.sm_mulLD, ↓GH.sm_modI, ↓GH.sm_fdivI, ↓GH.sm_ltI, ↓GH.sm_leI, ↓GH.sm_gtI, ↓GH.sm_geI, ↓GH.sm_eqI, ↓GH.sm_neI, ↓GH.sm_isN, ↓GH.sm_notN, ↓GH.sm_ixT, ↓GH.sm_ixL, ↓GH.sm_ownO, ↓GH.sm_ownL, ↓GH.sm_ownT, ↓GH.at_0, ↓GH.at_1, ↓GH.at_2, ↓GH.at_3, ↓GH.at_4, ↓GH.at_map, ↓GH.sm_lenL, ↓GH.sm_lenT, ↓GH.sm_intI, ↓GH.sm_intB, ↓GH.sm_absI, ↓GH.sm_tupT, ↓GH.sm_lstL, ↓GH.sm_lstT, ↓GH.sm_sumL1, ↓GH.sm_sumT1, ↓GH.sm_sumL, ↓GH.sm_sumT, ↓GH.sm_maxI, ↓GH.sm_minI, ↓GH.sm_maxL1, ↓GH.sm_minL1, ↓GH.sm_maxL, ↓GH.sm_minL, ↓GH.sm_anyL, ↓GH.sm_allL, ↓GH.sm_negI, ↓GH.sm_revL, ↓GH.sm_revT, ↓GH.sm_seqL, ↓GH.sm_seqT, ↓GH.sm_slL, ↓GH.sm_slT, ↓GH.sm_truB, ↓GH.sm_truN, ↓GH.sm_truI, ↓GH.sm_truL, ↓GH.sm_truT, ↓GH.sm_inR, ↓GH.sm_inT, ↓GH.sm_inL, ↓GH.sm_ninT, ↓GH.sm_ninL, ↓GH.sm_setL, ↓GH.wp_comp, ↓GH.wp_turn, ↓GH.lp_nx, ↓GH.lp_cnt, ↓GH.lp_brk, ↓GH.lp_ret, ↓GH.outR_ret, ↓GH.outR_nx, ↓GH.ownB_L, ↓GH.ownB_K, ↓GH.ownB_T, ↓GH.wp_nw, ↓GH.wp_nK0, ↓GH.wp_nT0, ↓GH.wp_dpNil, ↓GH.wp_dpCons, ↓GH.wp_nDisp, ↓GH.wp_ownN, ↓GH.wp_pOwnN, ↓GH.wp_dgO, ↓GH.own2_K, ↓GH.own2_T, ↓GH.own2_s, ↓GH.wp_here2, ↓GH.wp_putD, ↓GH.putAt_s, ↓GH.putAt_K, ↓GH.putAt_T, ↓GH.wp_sPutD, ↓GH.sm_keyI, ↓GH.sm_keyS, ↓GH.sm_keysT, ↓GH.sm_dgK, ↓GH.sm_dgT, ↓GH.sm_dinK, ↓GH.sm_dinT, ↓GH.sm_dninK, ↓GH.sm_dninT, ↓GH.dctAt_KI, ↓GH.dctAt_T, ↓GH.dctAt_s, ↓GH.wp_forD, ↓GH.noneAt_z, ↓GH.noneAt_s, ↓GH.wp_noneAt, ↓GH.wp_newL, ↓GH.wp_newP, ↓GH.wp_setL, ↓GH.wp_fillL, ↓GH.wp_lSl, ↓GH.sm_lstD, ↓GH.enumP_map, ↓GH.zip2P_map, ↓GH.zip3P_map, ↓GH.sm_eqNilI, ↓GH.sm_neNilI, ↓GH.sm_eqIL, ↓GH.sm_neIL, ↓GH.sm_eqIT, ↓GH.sm_neIT, ↓GH.at_snoc, ↓GH.sm_ne3, ↓GH.sm_ne2, ↓GH.sm_srtI, ↓GH.wp_rgV, ↓GH.isR_rng, ↓GH.sm_rng1, ↓GH.wp_ext, ↓GH.sm_extL, ↓GH.sm_srtD, GH.isV_none, GH.isV_val, GH.isV_jv, GH.allV_nil, GH.allV_cons, GH.jv_some, GH.jv_none, GH.out_nx, GH.kGet_lkp, GH.lkp_isSome, GH.borF, GH.bor_z, GH.bor_tt, GH.bor_no, GH.clean_nil, GH.clean_cons, GH.cleanAt_s, GH.cleanAt_n, GH.cleanAt_v, GH.cleanAt_j, GH.wipe_nil, GH.wipe_cons, GH.startE_z, GH.startE_n, GH.startE_s, eq_self, Option.isSome_map, List.set_cons_zero, List.set_cons_succ, List.cons_append, List.nil_append, and_true, true_and, and_self, true_implies, implies_true, not_false_eq_true, not_true_eq_false, false_implies, Option.some.injEq, List.contains_cons, List.contains_nil, Nat.reduceBEq, Bool.or_false, Bool.or_true, Bool.false_or, Bool.true_or, Nat.zero_add, Nat.reduceAdd, $ls,*])
local macro_rules | `(tactic| simp_all_arith) => `(tactic| simp_all_arith [and_true])
local macro_rules | `(tactic| simp_arith! [$ls,*]) => `(tactic| (refine GH.fn_val ?_; simp only [GH.startE_s, GH.startE_n, GH.startE_z, $ls,*]; simp_arith [$ls,*]))
local macro_rules | `(tactic| simp_arith) => `(tactic| simp_arith [and_true])
noncomputable section
namespace GW
open GH
def cell (cx : List C4) (i j : Int) : Int := (clr cx i j).getD 0
def clrL (cx : List C4) (n : Nat) (st : List Int) : List Int := st.flatMap fun i => (List.range n).map fun j => cell cx i (j : Nat)
def mx (a x : Int) : Int := if x > a then x else a
def clg (cx : List C4) (n : Nat) (st : List Int) : Int := (clrL cx n st).foldl mx 0
theorem mx_ge (a x : Int) : a ≤ mx a x ∧ x ≤ mx a x := by unfold mx; split <;> omega
theorem mx_0 {a : Int} (h : 0 ≤ a) : mx a 0 = a := by unfold mx; rw [if_neg (by omega)]
theorem fold_ge : ∀ (l : List Int) (a : Int), a ≤ l.foldl mx a ∧ ∀ x ∈ l, x ≤ l.foldl mx a
  | [], a => ⟨Int.le_refl _, by simp⟩
  | y :: t, a => by
    obtain ⟨h1, h2⟩ := fold_ge t (mx a y)
    have := mx_ge a y
    refine ⟨by simp only [List.foldl_cons]; omega, fun x hx => ?_⟩
    simp only [List.foldl_cons]
    rcases List.mem_cons.mp hx with rfl | h
    · omega
    · exact h2 x h
theorem fold_mem : ∀ (l : List Int) (a : Int), l.foldl mx a = a ∨ l.foldl mx a ∈ l
  | [], a => .inl rfl
  | y :: t, a => by
    simp only [List.foldl_cons]
    rcases fold_mem t (mx a y) with h | h
    · rw [h]
      unfold mx
      split
      · exact .inr List.mem_cons_self
      · exact .inl rfl
    · exact .inr (List.mem_cons_of_mem _ h)
/-- good numbers of what crosses -/
structure GoodX (cr : Cr) : Prop where
  ns : NoSelf cr.cx
  pos : ∀ i j w, clr cr.cx i j = some w → 0 ≤ w ∧ w ≤ 40
  ne : 1 ≤ cr.mv.length
  le : cr.mv.length ≤ 6
  cl : cr.cx.length ≤ 100
theorem clr_pos {cx : List C4} {B : Int} (h : ∀ x ∈ cx, 0 ≤ x.2.2.1 ∧ x.2.2.1 ≤ B ∧ 0 ≤ x.2.2.2 ∧ x.2.2.2 ≤ B) {i j w : Int} (e : clr cx i j = some w) : 0 ≤ w ∧ w ≤ B := by
  induction cx with
  | nil => cases e
  | cons x t ih =>
    have hx := h x List.mem_cons_self
    unfold clr at e
    split at e
    · injection e with e; omega
    · split at e
      · injection e with e; omega
      · exact ih (fun y hy => h y (List.mem_cons_of_mem _ hy)) e
theorem CrOk.good {n : Int} {cr : Cr} (h : CrOk n cr) : GoodX cr where
  ns := fun x hx => by have := h.cx x hx; unfold CxOk at this; omega
  pos := fun i j w e => by
    have := clr_pos (B := 2) (fun x hx => by have := h.cx x hx; unfold CxOk at this; omega) e
    omega
  ne := List.length_pos_iff.mpr h.ne
  le := by have := h.le; omega
  cl := by have := h.cxl; omega
theorem GoodX.cell {cr : Cr} (h : GoodX cr) (i j : Int) : 0 ≤ cell cr.cx i j ∧ cell cr.cx i j ≤ 40 := by
  unfold GW.cell
  cases e : clr cr.cx i j with
  | none => simp
  | some w => exact h.pos i j w e
theorem GoodX.clg {cr : Cr} (h : GoodX cr) (st : List Int) : 0 ≤ clg cr.cx cr.mv.length st ∧ clg cr.cx cr.mv.length st ≤ 40 := by
  refine ⟨(fold_ge _ 0).1, ?_⟩
  rcases fold_mem (clrL cr.cx cr.mv.length st) 0 with e | e
  · show (clrL cr.cx cr.mv.length st).foldl mx 0 ≤ 40
    rw [e]; decide
  · obtain ⟨i, _, hi⟩ := List.mem_flatMap.mp e
    obtain ⟨j, _, hj⟩ := List.mem_map.mp hi
    have := h.cell i (j : Nat)
    show (clrL cr.cx cr.mv.length st).foldl mx 0 ≤ 40
    rw [← hj]; exact this.2
theorem GoodX.sgs {cr : Cr} (h : GoodX cr) : Sgs cr.cx cr.mv.length (stg cr.cx cr.mv.length) := stg_ok h.ns h.ne
theorem GoodX.sgl {cr : Cr} (h : GoodX cr) : (stg cr.cx cr.mv.length).length ≤ 64 := by
  have := h.sgs.len
  have := pow_6 h.le
  omega
theorem law_clearing_eq (cr : Cr) (st : List Int) (c : Src) (hg : GoodX cr) (hs : st.length ≤ 1000) : S__law_clearing [eCr cr, eT st] c = some (.int (clg cr.cx cr.mv.length st), c) := by
  have h6 := hg.le
  simp_arith! [m__law_clearing]
  refine wp_for (fun done _ s => ∃ (x3 x4 : Option D), s = ⟨[some (.val (eCr cr)), some (.val (eT st)), some (.val (.int (clg cr.cx cr.mv.length done))), jv x3, jv x4], c⟩) ⟨none, none, rfl⟩ ?_ ?_
  · rintro done i rest _ hx ⟨x3, x4, rfl⟩
    simp_arith
    refine ⟨okR_of (by omega) (by omega), ?_⟩
    rw [Int.toNat_natCast]
    refine wp_for (fun done2 _ s => ∃ (x4 : Option D), s = ⟨[some (.val (eCr cr)), some (.val (eT st)), some (.val (.int ((clrL cr.cx cr.mv.length done ++ done2.map fun j : Nat => cell cr.cx i (j : Nat)).foldl mx 0))), some (.val (.int i)), jv x4], c⟩) ⟨x4, by rw [List.map_nil, List.append_nil]; rfl⟩ ?_ ?_
    · rintro done2 j rest2 _ hx2 ⟨x4, rfl⟩
      have hge := (fold_ge (clrL cr.cx cr.mv.length done ++ done2.map fun j : Nat => cell cr.cx i (j : Nat)) 0).1
      have e : (clrL cr.cx cr.mv.length done ++ (done2 ++ [j]).map fun j : Nat => cell cr.cx i (j : Nat)).foldl mx 0 = mx ((clrL cr.cx cr.mv.length done ++ done2.map fun j : Nat => cell cr.cx i (j : Nat)).foldl mx 0) (cell cr.cx i (j : Nat)) := by
        rw [List.map_append, ← List.append_assoc, List.foldl_append]; rfl
      have z : cell cr.cx i (j : Nat) = 0 → mx ((clrL cr.cx cr.mv.length done ++ done2.map fun j : Nat => cell cr.cx i (j : Nat)).foldl mx 0) (cell cr.cx i (j : Nat)) = (clrL cr.cx cr.mv.length done ++ done2.map fun j : Nat => cell cr.cx i (j : Nat)).foldl mx 0 := fun z => by
        rw [z, mx_0 hge]
      rw [e]
      cases hc : clr cr.cx i (j : Nat) with
      | none =>
        rw [z (by unfold cell; rw [hc]; rfl)]
        simp_arith [cl_eq (law_clr_eq cr i j c), hc, eN]
        exact ⟨fun _ => ⟨some _, rfl⟩, fun _ => ⟨some _, rfl⟩⟩
      | some w =>
        have hij : ¬ i = (j : Nat) := fun h => by rw [h, clr_self hg.ns] at hc; cases hc
        simp_arith [cl_eq (law_clr_eq cr i j c), hc, eN]
        refine ⟨fun h => absurd h hij, fun _ => ⟨some (.int (j : Nat)), ?_⟩⟩
        have : cell cr.cx i (j : Nat) = w := by unfold cell; rw [hc]; rfl
        rw [this]; rfl
    · rintro _ ⟨x4, rfl⟩
      refine ⟨some (.int i), x4, ?_⟩
      have e : clrL cr.cx cr.mv.length (done ++ [i]) = clrL cr.cx cr.mv.length done ++ (List.range cr.mv.length).map fun j : Nat => cell cr.cx i (j : Nat) := by
        unfold clrL; rw [List.flatMap_append]; simp
      have e2 : clg cr.cx cr.mv.length (done ++ [i]) = (clrL cr.cx cr.mv.length done ++ (List.range cr.mv.length).map fun j : Nat => cell cr.cx i (j : Nat)).foldl mx 0 := by
        unfold clg; rw [e]
      rw [e2]
      rfl
  · rintro _ ⟨x3, x4, rfl⟩
    simp_arith
end GW
end

local macro_rules | `(tactic| simp_arith [$ls,*]) => `(tactic| simp only [↓GW.sm_lenE, ↓GW.sm_seqE, ↓GW.sm_ixE, ↓GW.sm_tupE, ↓GW.sm_tupEE, ↓GW.sm_slE, ↓GW.sm_addE, ↓GW.sm_lenR, ↓GW.sm_seqR, ↓GW.sm_ixR, ↓GW.sm_tupR, ↓GW.sm_slR, ↓GW.sm_addR, ↓GW.sm_isiE, ↓GW.sm_isiR, ↓GW.sm_seqCs, ↓GW.sm_cr0, ↓GW.sm_cr1, ↓GW.sm_cr2, ↓GW.sm_seqMvs, ↓GW.sm_lenMvs, ↓GW.sm_mv0, ↓GH.wp_ret, ↓GH.wp_lift, ↓GH.sm_some, ↓GH.sm_map, ↓GH.sm_bind, ↓GH.ifB_tt, ↓GH.ifB_ff, ↓GH.ifB_dec, ↓GH.ifB_not, ↓GH.nx_nx, ↓GH.nx_ret, ↓GH.nx_brk, ↓GH.nx_cnt, ↓GH.varAt_z, ↓GH.varAt_s, ↓GH.slAt_z, ↓GH.slAt_s, ↓GH.ownAt_z, ↓GH.ownAt_s, ↓GH.setAt_z, ↓GH.setAt_s, ↓GH.frzAt_z, ↓GH.frzAt_s, ↓GH.bor_val, ↓GH.bor_own, ↓GH.bor_ownK, ↓GH.bor_ownT, ↓GH.len_0, ↓GH.len_1, ↓GH.len_2, ↓GH.len_3, ↓GH.len_4, ↓GH.len_5, ↓GH.len_6, ↓GH.isB_bl, ↓GH.isI_int, ↓GH.wp_var, ↓GH.wp_frz, ↓GH.wp_C, ↓GH.wp_bin, ↓GH.wp_un, ↓GH.wp_tst, ↓GH.wp_tru, ↓GH.wp_and2, ↓GH.wp_or2, ↓GH.wp_not1, ↓GH.wp_eAnd, ↓GH.wp_eOr, ↓GH.wp_eNot, ↓GH.wp_eIf, ↓GH.wp_chain, ↓GH.wp_aNil, ↓GH.wp_aCons, ↓GH.wp_aStar, ↓GH.wp_tup, ↓GH.wp_disp, ↓GH.wp_lst, ↓GH.wp_call, ↓GH.wp_callL, ↓GH.wp_binL, ↓GH.wp_fn, ↓GH.wp_fld, ↓GH.wp_oNo, ↓GH.wp_oAt, ↓GH.wp_sl, ↓GH.wp_ixO, ↓GH.wp_here, ↓GH.wp_putL, ↓GH.wp_app, ↓GH.sm_app, ↓GH.wp_pop, ↓GH.sm_popL, ↓GH.wp_popAt, ↓GH.wp_bor, ↓GH.wp_tBor, ↓GH.isFlat_int, ↓GH.isFlat_bl, ↓GH.isFlat_non, ↓GH.isFlat_str, ↓GH.wp_seq, ↓GH.wp_nx, ↓GH.wp_sRet, ↓GH.wp_sIf, ↓GH.wp_sExpr, ↓GH.wp_asg, ↓GH.wp_gN, ↓GH.wp_gT, ↓GH.wp_gCons, ↓GH.wp_gNil, ↓GH.wp_set, ↓GH.wp_own, ↓GH.wp_aug, ↓GH.sm_aug, ↓GH.wp_setIx, ↓GH.wp_ownGet, ↓GH.wp_augIx, ↓GH.wp_sFor, ↓GH.wp_pNil, ↓GH.wp_pVal, ↓GH.wp_pOwn, ↓GH.wp_par, ↓GH.sm_put0, ↓GH.sm_put, ↓GH.wp_iSeq, ↓GH.wp_rg1, ↓GH.wp_rg2, ↓GH.wp_enum, ↓GH.wp_zip2, ↓GH.wp_zip3, ↓GH.wp_lRg1, ↓GH.wp_lRg2, ↓GH.wp_tupRg, ↓GH.sm_addI, ↓GH.sm_addT, ↓GH.sm_addL, ↓GH.sm_addLD, ↓GH.sm_subI, ↓GH.sm_mulI, ↓GH.sm_mulL, ↓GH.sm_mulLD, ↓GH.sm_modI, ↓GH.sm_fdivI, ↓GH.sm_ltI, ↓GH.sm_leI, ↓GH.sm_gtI, ↓GH.sm_geI, ↓GH.sm_eqI, ↓GH.sm_neI, ↓GH.sm_isN, ↓GH.sm_ixT, ↓GH.sm_ixL, ↓GH.sm_ownO, ↓GH.sm_ownL, ↓GH.sm_ownT, ↓GH.at_0, ↓GH.at_1, ↓GH.at_2, ↓GH.at_3, ↓GH.at_4, ↓GH.at_map, ↓GH.sm_lenL, ↓GH.sm_lenT, ↓GH.sm_intI, ↓GH.sm_intB, ↓GH.sm_absI, ↓GH.sm_tupT, ↓GH.sm_lstL, ↓GH.sm_lstT, ↓GH.sm_sumL1, ↓GH.sm_sumT1, ↓GH.sm_sumL, ↓GH.sm_sumT, ↓GH.sm_maxI, ↓GH.sm_minI, ↓GH.sm_maxL1, ↓GH.sm_minL1, ↓GH.sm_maxL, ↓GH.sm_minL, ↓GH.sm_anyL, ↓GH.sm_allL, ↓GH.sm_negI, ↓GH.sm_revL, ↓GH.sm_revT, ↓GH.sm_seqL, ↓GH.sm_seqT, ↓GH.sm_slL, ↓GH.sm_slT, ↓GH.sm_truB, ↓GH.sm_truN, ↓GH.sm_truI, ↓GH.sm_truL, ↓GH.sm_truT, ↓GH.sm_inR, ↓GH.sm_inT, ↓GH.sm_inL, ↓GH.sm_ninT, ↓GH.sm_ninL, ↓GH.sm_setL, ↓GH.wp_comp, ↓GH.wp_turn, ↓GH.lp_nx, ↓GH.lp_cnt, ↓GH.lp_brk, ↓GH.lp_ret, ↓GH.outR_ret, ↓GH.outR_nx, ↓GH.ownB_L, ↓GH.ownB_K, ↓GH.ownB_T, ↓GH.wp_nw, ↓GH.wp_nK0, ↓GH.wp_nT0, ↓GH.wp_dpNil, ↓GH.wp_dpCons, ↓GH.wp_nDisp, ↓GH.wp_ownN, ↓GH.wp_pOwnN, ↓GH.wp_dgO, ↓GH.own2_K, ↓GH.own2_T, ↓GH.own2_s, ↓GH.wp_here2, ↓GH.wp_putD, ↓GH.putAt_s, ↓GH.putAt_K, ↓GH.putAt_T, ↓GH.wp_sPutD, ↓GH.sm_keyI, ↓GH.sm_keyS, ↓GH.sm_keysT, ↓GH.sm_dgK, ↓GH.sm_dgT, ↓GH.sm_dinK, ↓GH.sm_dinT, ↓GH.sm_dninK, ↓GH.sm_dninT, ↓GH.dctAt_KI, ↓GH.dctAt_T, ↓GH.dctAt_s, ↓GH.wp_forD, ↓GH.noneAt_z, ↓GH.noneAt_s, ↓GH.wp_noneAt, ↓GH.wp_newL, ↓GH.wp_newP, ↓GH.wp_setL, ↓GH.wp_fillL, ↓GH.wp_lSl, ↓GH.sm_lstD, ↓GH.enumP_map, ↓GH.zip2P_map, ↓GH.zip3P_map, ↓GH.sm_eqNilI, ↓GH.sm_neNilI, ↓GH.sm_eqIL, ↓GH.sm_neIL, ↓GH.sm_eqIT, ↓GH.sm_neIT, ↓GH.at_snoc, ↓GH.sm_ne3, ↓GH.sm_ne2, ↓GH.sm_srtI, ↓GH.wp_rgV, ↓GH.isR_rng, ↓GH.sm_rng1, ↓GH.wp_ext, ↓GH.sm_extL, ↓GH.sm_srtD, GH.isV_none, GH.isV_val, GH.isV_jv, GH.allV_nil, GH.allV_cons, GH.jv_some, GH.jv_none, GH.out_nx, GH.kGet_lkp, GH.lkp_isSome, GH.borF, GH.bor_z, GH.bor_tt, GH.bor_no, GH.clean_nil, GH.clean_cons, GH.cleanAt_s, GH.cleanAt_n, GH.cleanAt_v, GH.cleanAt_j, GH.wipe_nil, GH.wipe_cons, GH.startE_z, GH.startE_n, GH.startE_s, eq_self, Option.isSome_map, List.set_cons_zero, List.set_cons_succ, List.cons_append, List.nil_append, and_true, true_and, and_self, true_implies, implies_true, not_false_eq_true, not_true_eq_false, false_implies, Option.some.injEq, List.contains_cons, List.contains_nil, Nat.reduceBEq, Bool.or_false, Bool.or_true, Bool.false_or, Bool.true_or, Nat.zero_add, Nat.reduceAdd, $ls,*])
local macro_rules | `(tactic| simp_all_arith [$ls,*]) => `(tactic| simp only [↓GW.sm_lenE, ↓GW.sm_seqE, ↓GW.sm_ixE, ↓GW.sm_tupE, ↓GW.sm_tupEE, ↓GW.sm_slE, ↓GW.sm_addE, ↓GW.sm_lenR, ↓GW.sm_seqR, ↓GW.sm_ixR, ↓GW.sm_tupR, ↓GW.sm_slR, ↓GW.sm_addR, ↓GW.sm_isiE, ↓GW.sm_isiR, ↓GW.sm_seqCs, ↓GW.sm_cr0, ↓GW.sm_cr1, ↓GW.sm_cr2, ↓GW.sm_seqMvs, ↓GW.sm_lenMvs, ↓GW.sm_mv0, ↓GH.wp_ret, ↓GH.wp_lift, ↓GH.sm_some, ↓GH.sm_map, ↓GH.sm_bind, ↓GH.ifB_tt, ↓GH.ifB_ff, ↓GH.ifB_dec, ↓GH.ifB_not, ↓GH.nx_nx, ↓GH.nx_ret, ↓GH.nx_brk, ↓GH.nx_cnt, ↓GH.varAt_z, ↓GH.varAt_s, ↓GH.slAt_z, ↓GH.slAt_s, ↓GH.ownAt_z, ↓GH.ownAt_s, ↓GH.setAt_z, ↓GH.setAt_s, ↓GH.frzAt_z, ↓GH.frzAt_s, ↓GH.bor_val, ↓GH.bor_own, ↓GH.bor_ownK, ↓GH.bor_ownT, ↓GH.len_0, ↓GH.len_1, ↓GH.len_2, ↓GH.len_3, ↓GH.len_4, ↓GH.len_5, ↓GH.len_6, ↓GH.isB_bl, ↓GH.isI_int, ↓GH.wp_var, ↓GH.wp_frz, ↓GH.wp_C, ↓GH.wp_bin, ↓GH.wp_un, ↓GH.wp_tst, ↓GH.wp_tru, ↓GH.wp_and2, ↓GH.wp_or2, ↓GH.wp_not1, ↓GH.wp_eAnd, ↓GH.wp_eOr, ↓GH.wp_eNot, ↓GH.wp_eIf, ↓GH.wp_chain, ↓GH.wp_aNil, ↓GH.wp_aCons, ↓GH.wp_aStar, ↓GH.wp_tup, ↓GH.wp_disp, ↓GH.wp_lst, ↓GH.wp_call, ↓GH.wp_callL, ↓GH.wp_binL, ↓GH.wp_fn, ↓GH.wp_fld, ↓GH.wp_oNo, ↓GH.wp_oAt, ↓GH.wp_sl, ↓GH.wp_ixO, ↓GH.wp_here, ↓GH.wp_putL, ↓GH.wp_app, ↓GH.sm_app, ↓GH.wp_pop, ↓GH.sm_popL, ↓GH.wp_popAt, ↓GH.wp_bor, ↓GH.wp_tBor, ↓GH.isFlat_int, ↓GH.isFlat_bl, ↓GH.isFlat_non, ↓GH.isFlat_str, ↓GH.wp_nx, ↓GH.wp_sRet, ↓GH.wp_sIf, ↓GH.wp_sExpr, ↓GH.wp_asg, ↓GH.wp_gN, ↓GH.wp_gT, ↓GH.wp_gCons, ↓GH.wp_gNil, ↓GH.wp_set, ↓GH.wp_own, ↓GH.wp_aug, ↓GH.sm_aug, ↓GH.wp_setIx, ↓GH.wp_ownGet, ↓GH.wp_augIx, ↓GH.wp_sFor, ↓GH.wp_pNil, ↓GH.wp_pVal, ↓GH.wp_pOwn, ↓GH.wp_par, ↓GH.sm_put0, ↓GH.sm_put, ↓GH.wp_iSeq, ↓GH.wp_rg1, ↓GH.wp_rg2, ↓GH.wp_enum, ↓GH.wp_zip2, ↓GH.wp_zip3, ↓GH.wp_lRg1, ↓GH.wp_lRg2, ↓GH.wp_tupRg, ↓GH.sm_addI, ↓GH.sm_addT, ↓GH.sm_addL, ↓GH.sm_addLD, ↓GH.sm_subI, ↓GH.sm_mulI, ↓GH.sm_mulL, ↓GH.sm_mulLD, ↓GH.sm_modI, ↓GH.sm_fdivI, ↓GH.sm_ltI, ↓GH.sm_leI, ↓GH.sm_gtI, ↓GH.sm_geI, ↓GH.sm_eqI, ↓GH.sm_neI, ↓GH.sm_isN, ↓GH.sm_ixT, ↓GH.sm_ixL, ↓GH.sm_ownO, ↓GH.sm_ownL, ↓GH.sm_ownT, ↓GH.at_0, ↓GH.at_1, ↓GH.at_2, ↓GH.at_3, ↓GH.at_4, ↓GH.at_map, ↓GH.sm_lenL, ↓GH.sm_lenT, ↓GH.sm_intI, ↓GH.sm_intB, ↓GH.sm_absI, ↓GH.sm_tupT, ↓GH.sm_lstL, ↓GH.sm_lstT, ↓GH.sm_sumL1, ↓GH.sm_sumT1, ↓GH.sm_sumL, ↓GH.sm_sumT, ↓GH.sm_maxI, ↓GH.sm_minI, ↓GH.sm_maxL1, ↓GH.sm_minL1, ↓GH.sm_maxL, ↓GH.sm_minL, ↓GH.sm_anyL, ↓GH.sm_allL, ↓GH.sm_negI, ↓GH.sm_revL, ↓GH.sm_revT, ↓GH.sm_seqL, ↓GH.sm_seqT, ↓GH.sm_slL, ↓GH.sm_slT, ↓GH.sm_truB, ↓GH.sm_truN, ↓GH.sm_truI, ↓GH.sm_truL, ↓GH.sm_truT, ↓GH.sm_inR, ↓GH.sm_inT, ↓GH.sm_inL, ↓GH.sm_ninT, ↓GH.sm_ninL, ↓GH.sm_setL, ↓GH.wp_comp, ↓GH.wp_turn, ↓GH.lp_nx, ↓GH.lp_cnt, ↓GH.lp_brk, ↓GH.lp_ret, ↓GH.outR_ret, ↓GH.outR_nx, ↓GH.ownB_L, ↓GH.ownB_K, ↓GH.ownB_T, ↓GH.wp_nw, ↓GH.wp_nK0, ↓GH.wp_nT0, ↓GH.wp_dpNil, ↓GH.wp_dpCons, ↓GH.wp_nDisp, ↓GH.wp_ownN, ↓GH.wp_pOwnN, ↓GH.wp_dgO, ↓GH.own2_K, ↓GH.own2_T, ↓GH.own2_s, ↓GH.wp_here2, ↓GH.wp_putD, ↓GH.putAt_s, ↓GH.putAt_K, ↓GH.putAt_T, ↓GH.wp_sPutD, ↓GH.sm_keyI, ↓GH.sm_keyS, ↓GH.sm_keysT, ↓GH.sm_dgK, ↓GH.sm_dgT, ↓GH.sm_dinK, ↓GH.sm_dinT, ↓GH.sm_dninK, ↓GH.sm_dninT, ↓GH.dctAt_KI, ↓GH.dctAt_T, ↓GH.dctAt_s, ↓GH.wp_forD, ↓GH.noneAt_z, ↓GH.noneAt_s, ↓GH.wp_noneAt, ↓GH.wp_newL, ↓GH.wp_newP, ↓GH.wp_setL, ↓GH.wp_fillL, ↓GH.wp_lSl, ↓GH.sm_lstD, ↓GH.enumP_map, ↓GH.zip2P_map, ↓GH.zip3P_map, ↓GH.sm_eqNilI, ↓GH.sm_neNilI, ↓GH.sm_eqIL, ↓GH.sm_neIL, ↓GH.sm_eqIT, ↓GH.sm_neIT, ↓GH.at_snoc, ↓GH.sm_ne3, ↓GH.sm_ne2, ↓GH.sm_srtI, ↓GH.wp_rgV, ↓GH.isR_rng, ↓GH.sm_rng1, ↓GH.wp_ext, ↓GH.sm_extL, ↓GH.sm_srtD, GH.isV_none, GH.isV_val, GH.isV_jv, GH.allV_nil, GH.allV_cons, GH.jv_some, GH.jv_none, GH.out_nx, GH.kGet_lkp, GH.lkp_isSome, GH.borF, GH.bor_z, GH.bor_tt, GH.bor_no, GH.clean_nil, GH.clean_cons, GH.cleanAt_s, GH.cleanAt_n, GH.cleanAt_v, GH.cleanAt_j, GH.wipe_nil, GH.wipe_cons, GH.startE_z, GH.startE_n, GH.startE_s, eq_self, Option.isSome_map, List.set_cons_zero, List.set_cons_succ, List.cons_append, List.nil_append, and_true, true_and, and_self, true_implies, implies_true, not_false_eq_true, not_true_eq_false, false_implies, Option.some.injEq, List.contains_cons, List.contains_nil, Nat.reduceBEq, Bool.or_false, Bool.or_true, Bool.false_or, Bool.true_or, Nat.zero_add, Nat.reduceAdd, $ls,*])
local macro_rules | `(tactic| simp_all_arith) => `(tactic| simp_all_arith [and_true])
local macro_rules | `(tactic| simp_arith! [$ls,*]) => `(tactic| (refine GH.fn_val ?_; simp only [GH.startE_s, GH.startE_n, GH.startE_z, $ls,*]; simp_arith [$ls,*]))
local macro_rules | `(tactic| simp_arith) => `(tactic| simp_arith [and_true])
noncomputable section
namespace GW
open GH
section
variable {α β : Type} {vs vs1 : List Nat} {g g1 : D → M Unit} {c c1 : M Bool} {el : M D} {it it1 : M (List D)} {env : List (Option Sl)} {s : S} {src : Src}
def compE2 (vs vs1 : List Nat) (g : D → M Unit) (c : M Bool) (it1 : M (List D)) (g1 : D → M Unit) (c1 : M Bool) (el : M D) (ds : List D) : M (List D) := fun s1 =>
  match outF vs (cOut vs vs1 g c it1 g1 c1 el) ds s1 with
    | some (ys, sn) => if ys.length ≤ PySem.sizeLine then some (ys, { sn with env := restE s1.env sn.env vs }) else none
    | none => none
theorem wp_comp2 {Q : List D → S → Prop} : Wp (eComp2 vs vs1 g c it1 g1 c1 el it) s Q ↔ Wp it s fun ds s1 => Wp (compE2 vs vs1 g c it1 g1 c1 el ds) s1 Q := wp_bnd
theorem wp_comp2M {enc : α → D} {enc1 : β → D} (f : α → β → D) {xs : List α} {ys : List β} {Q : List D → S → Prop} (sub : ∀ i ∈ vs1, i ∈ vs) (hl : (xs.flatMap fun x => ys.map (f x)).length ≤ 100000) (cl : cleanE env vs)
    (step : ∀ x ∈ xs, Wp (g (enc x)) ⟨wipeE env vs, src⟩ fun _ s1 => s1.src = src ∧ wipeE s1.env vs = wipeE env vs ∧ Wp it1 s1 (fun ds s2 => ds = ys.map enc1 ∧ s2 = s1) ∧
      ∀ y ∈ ys, Wp (turnC g1 c1 el (enc1 y)) ⟨wipeE s1.env vs1, src⟩ fun o s2 => o = some (f x y) ∧ s2.src = src ∧ wipeE s2.env vs1 = wipeE s1.env vs1)
    (q : Q (xs.flatMap fun x => ys.map (f x)) ⟨env, src⟩) : Wp (compE2 vs vs1 g (ret true) it1 g1 c1 el (xs.map enc)) ⟨env, src⟩ Q := by
  obtain ⟨env2, h3, h4⟩ := outF_map (vs := vs) (vs1 := vs1) (g := g) (g1 := g1) (c1 := c1) (el := el) (it1 := it1) (env := env) (f := f) (ys := ys) (enc := enc) (enc1 := enc1) (xs := xs) (src := src) sub (env0 := env) rfl fun x hx => by
    obtain ⟨⟨⟩, ⟨env1, src1⟩, e1, h1, h2, ⟨ds, s2, e2, e3, e4⟩, h5⟩ := step x hx
    simp only at h1
    subst h1
    rw [e3, e4] at e2
    refine ⟨env1, e1, h2, e2, fun y hy => ?_⟩
    obtain ⟨o, ⟨env3, src3⟩, a1, a2, a3, a4⟩ := h5 y hy
    simp only at a3
    subst a3
    exact ⟨env3, by rw [a1, a2], a4⟩
  refine ⟨_, ⟨env, src⟩, ?_, q⟩
  show (match outF vs (cOut vs vs1 g (ret true) it1 g1 c1 el) (xs.map enc) ⟨env, src⟩ with
    | some (ys, sn) => if ys.length ≤ PySem.sizeLine then some (ys, { sn with env := restE env sn.env vs }) else none
    | none => none) = _
  rw [h3]
  show (if (xs.flatMap fun x => ys.map (f x)).length ≤ PySem.sizeLine then some (xs.flatMap fun x => ys.map (f x), (⟨restE env env2 vs, src⟩ : S)) else none) = _
  rw [if_pos (sz _ hl), rest_clean h4 cl]
end
theorem maxL_clg {cr : Cr} (hg : GoodX cr) {st : List Int} (h : clrL cr.cx cr.mv.length st ≠ []) : maxL (clrL cr.cx cr.mv.length st) = clg cr.cx cr.mv.length st := by
  obtain ⟨m1, m2⟩ := maxL_spec h
  have h1 := (fold_ge (clrL cr.cx cr.mv.length st) 0).2 _ m1
  have hp : 0 ≤ maxL (clrL cr.cx cr.mv.length st) := by
    obtain ⟨i, _, hi⟩ := List.mem_flatMap.mp m1
    obtain ⟨j, _, hj⟩ := List.mem_map.mp hi
    rw [← hj]; exact (hg.cell i (j : Nat)).1
  unfold clg
  rcases fold_mem (clrL cr.cx cr.mv.length st) 0 with e | e
  · omega
  · have := m2 _ e; omega
theorem clrL_ne {cx : List C4} {n : Nat} {st : List Int} (hn : 1 ≤ n) (h : st ≠ []) : clrL cx n st ≠ [] := by
  obtain ⟨i, t, rfl⟩ := List.exists_cons_of_ne_nil h
  unfold clrL
  rw [List.flatMap_cons]
  intro z
  have := congrArg List.length z
  simp at this
  omega
theorem clear_eq (cr : Cr) (s : Int) (c : Src) (hg : GoodX cr) (h0 : 0 ≤ s) (h1 : s < (stg cr.cx cr.mv.length).length) : S_clear_ticks [eCr cr, .int s] c = some (.int (clg cr.cx cr.mv.length (nth (stg cr.cx cr.mv.length) s)), c) := by
  have h6 := hg.le
  have hlot := hg.sgs.lot _ (nth_mem (xs := stg cr.cx cr.mv.length) h0 h1)
  have hlen := hlot.2.len
  simp_arith! [m_clear_ticks]
  rw [wp_comp2]
  simp_arith [cl_eq (stages_eq cr c hg.ns (by have := hg.cl; omega) hg.ne hg.le), at_nth (xs := stg cr.cx cr.mv.length) h0 h1]
  refine wp_comp2M (enc := D.int) (enc1 := fun k : Nat => D.int (0 + (k : Nat))) (xs := nth (stg cr.cx cr.mv.length) s) (ys := List.range cr.mv.length) (fun i k => D.int (cell cr.cx i (0 + (k : Nat)))) (by simp) ?_ (by simp_arith) (fun i _ => ?_) ?_
  · rw [List.length_flatMap]
    simp only [List.length_map, List.length_range]
    have : ∀ l : List Int, (l.map fun _ => cr.mv.length).sum = l.length * cr.mv.length := fun l => by
      induction l with
      | nil => simp
      | cons a t ih => rw [List.map_cons, List.sum_cons, ih, List.length_cons, Nat.add_mul]; omega
    rw [this]
    have := Nat.mul_le_mul hlen h6
    have := Nat.mul_le_mul h6 h6
    have : cr.mv.length * 6 ≤ 36 := by omega
    omega
  · simp_arith
    refine ⟨⟨okR_of (by omega) (by omega), okR_of (by omega) (by omega), ?_⟩, fun y _ => ?_⟩
    · rw [show ((cr.mv.length : Int) - 0).toNat = cr.mv.length by omega]
    · simp_arith [cl_eq (clr_eq cr i (0 + (y : Nat)) c)]
      rfl
  · have e : ((nth (stg cr.cx cr.mv.length) s).flatMap fun i => (List.range cr.mv.length).map fun k : Nat => D.int (cell cr.cx i (0 + (k : Nat)))) = (clrL cr.cx cr.mv.length (nth (stg cr.cx cr.mv.length) s)).map D.int := by
      unfold clrL
      rw [List.map_flatMap]
      congr 1
      funext i
      rw [List.map_map]
      congr 1
      funext k
      simp
    rw [e]
    simp_arith
    refine ⟨clrL_ne hg.ne hlot.1, ?_⟩
    rw [maxL_clg hg (clrL_ne hg.ne hlot.1)]
end GW
end

local macro_rules | `(tactic| simp_arith [$ls,*]) => `(tactic| simp only [↓GW.sm_lenE, ↓GW.sm_seqE, ↓GW.sm_ixE, ↓GW.sm_tupE, ↓GW.sm_tupEE, ↓GW.sm_slE, ↓GW.sm_addE, ↓GW.sm_lenR, ↓GW.sm_seqR, ↓GW.sm_ixR, ↓GW.sm_tupR, ↓GW.sm_slR, ↓GW.sm_addR, ↓GW.sm_isiE, ↓GW.sm_isiR, ↓GW.sm_seqCs, ↓GW.sm_cr0, ↓GW.sm_cr1, ↓GW.sm_cr2, ↓GW.sm_seqMvs, ↓GW.sm_lenMvs, ↓GW.sm_mv0, ↓GH.wp_ret, ↓GH.wp_lift, ↓GH.sm_some, ↓GH.sm_map, ↓GH.sm_bind, ↓GH.ifB_tt, ↓GH.ifB_ff, ↓GH.ifB_dec, ↓GH.ifB_not, ↓GH.nx_nx, ↓GH.nx_ret, ↓GH.nx_brk, ↓GH.nx_cnt, ↓GH.varAt_z, ↓GH.varAt_s, ↓GH.slAt_z, ↓GH.slAt_s, ↓GH.ownAt_z, ↓GH.ownAt_s, ↓GH.setAt_z, ↓GH.setAt_s, ↓GH.frzAt_z, ↓GH.frzAt_s, ↓GH.bor_val, ↓GH.bor_own, ↓GH.bor_ownK, ↓GH.bor_ownT, ↓GH.len_0, ↓GH.len_1, ↓GH.len_2, ↓GH.len_3, ↓GH.len_4, ↓GH.len_5, ↓GH.len_6, ↓GH.isB_bl, ↓GH.isI_int, ↓GH.wp_var, ↓GH.wp_frz, ↓GH.wp_C, ↓GH.wp_bin, ↓GH.wp_un, ↓GH.wp_tst, ↓GH.wp_tru, ↓GH.wp_and2, ↓GH.wp_or2, ↓GH.wp_not1, ↓GH.wp_eAnd, ↓GH.wp_eOr, ↓GH.wp_eNot, ↓GH.wp_eIf, ↓GH.wp_chain, ↓GH.wp_aNil, ↓GH.wp_aCons, ↓GH.wp_aStar, ↓GH.wp_tup, ↓GH.wp_disp, ↓GH.wp_lst, ↓GH.wp_call, ↓GH.wp_callL, ↓GH.wp_binL, ↓GH.wp_fn, ↓GH.wp_fld, ↓GH.wp_oNo, ↓GH.wp_oAt, ↓GH.wp_sl, ↓GH.wp_ixO, ↓GH.wp_here, ↓GH.wp_putL, ↓GH.wp_app, ↓GH.sm_app, ↓GH.wp_pop, ↓GH.sm_popL, ↓GH.wp_popAt, ↓GH.wp_bor, ↓GH.wp_tBor, ↓GH.isFlat_int, ↓GH.isFlat_bl, ↓GH.isFlat_non, ↓GH.isFlat_str, ↓GH.wp_seq, ↓GH.wp_nx, ↓GH.wp_sRet, ↓GH.wp_sIf, ↓GH.wp_sExpr, ↓GH.wp_asg, ↓GH.wp_gN, ↓GH.wp_gT, ↓GH.wp_gCons, ↓GH.wp_gNil, ↓GH.wp_set, ↓GH.wp_own, ↓GH.wp_aug, ↓GH.sm_aug, ↓GH.wp_setIx, ↓GH.wp_ownGet, ↓GH.wp_augIx, ↓GH.wp_sFor, ↓GH.wp_pNil, ↓GH.wp_pVal, ↓GH.wp_pOwn, ↓GH.wp_par, ↓GH.sm_put0, ↓GH.sm_put, ↓GH.wp_iSeq, ↓GH.wp_rg1, ↓GH.wp_rg2, ↓GH.wp_enum, ↓GH.wp_zip2, ↓GH.wp_zip3, ↓GH.wp_lRg1, ↓GH.wp_lRg2, ↓GH.wp_tupRg, ↓GH.sm_addI, ↓GH.sm_addT, ↓GH.sm_addL, ↓GH.sm_addLD, ↓GH.sm_subI, ↓GH.sm_mulI, ↓GH.sm_mulL, ↓GH.sm_mulLD, ↓GH.sm_modI, ↓GH.sm_fdivI, ↓GH.sm_ltI, ↓GH.sm_leI, ↓GH.sm_gtI, ↓GH.sm_geI, ↓GH.sm_eqI, ↓GH.sm_neI, ↓GH.sm_isN, ↓GH.sm_notN, ↓GH.sm_ixT, ↓GH.sm_ixL, ↓GH.sm_ownO, ↓GH.sm_ownL, ↓GH.sm_ownT, ↓GH.at_0, ↓GH.at_1, ↓GH.at_2, ↓GH.at_3, ↓GH.at_4, ↓GH.at_map, ↓GH.sm_lenL, ↓GH.sm_lenT, ↓GH.sm_intI, ↓GH.sm_intB, ↓GH.sm_absI, ↓GH.sm_tupT, ↓GH.sm_lstL, ↓GH.sm_lstT, ↓GH.sm_sumL1, ↓GH.sm_sumT1, ↓GH.sm_sumL, ↓GH.sm_sumT, ↓GH.sm_maxI, ↓GH.sm_minI, ↓GH.sm_maxL1, ↓GH.sm_minL1, ↓GH.sm_maxL, ↓GH.sm_minL, ↓GH.sm_anyL, ↓GH.sm_allL, ↓GH.sm_negI, ↓GH.sm_revL, ↓GH.sm_revT, ↓GH.sm_seqL, ↓GH.sm_seqT, ↓GH.sm_slL, ↓GH.sm_slT, ↓GH.sm_truB, ↓GH.sm_truN, ↓GH.sm_truI, ↓GH.sm_truL, ↓GH.sm_truT, ↓GH.sm_inR, ↓GH.sm_inT, ↓GH.sm_inL, ↓GH.sm_ninT, ↓GH.sm_ninL, ↓GH.sm_setL, ↓GH.wp_comp, ↓GH.wp_turn, ↓GH.lp_nx, ↓GH.lp_cnt, ↓GH.lp_brk, ↓GH.lp_ret, ↓GH.outR_ret, ↓GH.outR_nx, ↓GH.ownB_L, ↓GH.ownB_K, ↓GH.ownB_T, ↓GH.wp_nw, ↓GH.wp_nK0, ↓GH.wp_nT0, ↓GH.wp_dpNil, ↓GH.wp_dpCons, ↓GH.wp_nDisp, ↓GH.wp_ownN, ↓GH.wp_pOwnN, ↓GH.wp_dgO, ↓GH.own2_K, ↓GH.own2_T, ↓GH.own2_s, ↓GH.wp_here2, ↓GH.wp_putD, ↓GH.putAt_s, ↓GH.putAt_K, ↓GH.putAt_T, ↓GH.wp_sPutD, ↓GH.sm_keyI, ↓GH.sm_keyS, ↓GH.sm_keysT, ↓GH.sm_dgK, ↓GH.sm_dgT, ↓GH.sm_dinK, ↓GH.sm_dinT, ↓GH.sm_dninK, ↓GH.sm_dninT, ↓GH.dctAt_KI, ↓GH.dctAt_T, ↓GH.dctAt_s, ↓GH.wp_forD, ↓GH.noneAt_z, ↓GH.noneAt_s, ↓GH.wp_noneAt, ↓GH.wp_newL, ↓GH.wp_newP, ↓GH.wp_setL, ↓GH.wp_fillL, ↓GH.wp_lSl, ↓GH.sm_lstD, ↓GH.enumP_map, ↓GH.zip2P_map, ↓GH.zip3P_map, ↓GH.sm_eqNilI, ↓GH.sm_neNilI, ↓GH.sm_eqIL, ↓GH.sm_neIL, ↓GH.sm_eqIT, ↓GH.sm_neIT, ↓GH.at_snoc, ↓GH.sm_ne3, ↓GH.sm_ne2, ↓GH.sm_srtI, ↓GH.wp_rgV, ↓GH.isR_rng, ↓GH.sm_rng1, ↓GH.wp_ext, ↓GH.sm_extL, ↓GH.sm_srtD, GH.isV_none, GH.isV_val, GH.isV_jv, GH.allV_nil, GH.allV_cons, GH.jv_some, GH.jv_none, GH.out_nx, GH.kGet_lkp, GH.lkp_isSome, GH.borF, GH.bor_z, GH.bor_tt, GH.bor_no, GH.clean_nil, GH.clean_cons, GH.cleanAt_s, GH.cleanAt_n, GH.cleanAt_v, GH.cleanAt_j, GH.wipe_nil, GH.wipe_cons, GH.startE_z, GH.startE_n, GH.startE_s, eq_self, Option.isSome_map, List.set_cons_zero, List.set_cons_succ, List.cons_append, List.nil_append, and_true, true_and, and_self, true_implies, implies_true, not_false_eq_true, not_true_eq_false, false_implies, Option.some.injEq, List.contains_cons, List.contains_nil, Nat.reduceBEq, Bool.or_false, Bool.or_true, Bool.false_or, Bool.true_or, Nat.zero_add, Nat.reduceAdd, $ls,*])
local macro_rules | `(tactic| simp_all_arith [$ls,*]) => `(tactic| simp only [↓GW.sm_lenE, ↓GW.sm_seqE, ↓GW.sm_ixE, ↓GW.sm_tupE, ↓GW.sm_tupEE, ↓GW.sm_slE, ↓GW.sm_addE, ↓GW.sm_lenR, ↓GW.sm_seqR, ↓GW.sm_ixR, ↓GW.sm_tupR, ↓GW.sm_slR, ↓GW.sm_addR, ↓GW.sm_isiE, ↓GW.sm_isiR, ↓GW.sm_seqCs, ↓GW.sm_cr0, ↓GW.sm_cr1, ↓GW.sm_cr2, ↓GW.sm_seqMvs, ↓GW.sm_lenMvs, ↓GW.sm_mv0, ↓GH.wp_ret, ↓GH.wp_lift, ↓GH.sm_some, ↓GH.sm_map, ↓GH.sm_bind, ↓GH.ifB_tt, ↓GH.ifB_ff, ↓GH.ifB_dec, ↓GH.ifB_not, ↓GH.nx_nx, ↓GH.nx_ret, ↓GH.nx_brk, ↓GH.nx_cnt, ↓GH.varAt_z, ↓GH.varAt_s, ↓GH.slAt_z, ↓GH.slAt_s, ↓GH.ownAt_z, ↓GH.ownAt_s, ↓GH.setAt_z, ↓GH.setAt_s, ↓GH.frzAt_z, ↓GH.frzAt_s, ↓GH.bor_val, ↓GH.bor_own, ↓GH.bor_ownK, ↓GH.bor_ownT, ↓GH.len_0, ↓GH.len_1, ↓GH.len_2, ↓GH.len_3, ↓GH.len_4, ↓GH.len_5, ↓GH.len_6, ↓GH.isB_bl, ↓GH.isI_int, ↓GH.wp_var, ↓GH.wp_frz, ↓GH.wp_C, ↓GH.wp_bin, ↓GH.wp_un, ↓GH.wp_tst, ↓GH.wp_tru, ↓GH.wp_and2, ↓GH.wp_or2, ↓GH.wp_not1, ↓GH.wp_eAnd, ↓GH.wp_eOr, ↓GH.wp_eNot, ↓GH.wp_eIf, ↓GH.wp_chain, ↓GH.wp_aNil, ↓GH.wp_aCons, ↓GH.wp_aStar, ↓GH.wp_tup, ↓GH.wp_disp, ↓GH.wp_lst, ↓GH.wp_call, ↓GH.wp_callL, ↓GH.wp_binL, ↓GH.wp_fn, ↓GH.wp_fld, ↓GH.wp_oNo, ↓GH.wp_oAt, ↓GH.wp_sl, ↓GH.wp_ixO, ↓GH.wp_here, ↓GH.wp_putL, ↓GH.wp_app, ↓GH.sm_app, ↓GH.wp_pop, ↓GH.sm_popL, ↓GH.wp_popAt, ↓GH.wp_bor, ↓GH.wp_tBor, ↓GH.isFlat_int, ↓GH.isFlat_bl, ↓GH.isFlat_non, ↓GH.isFlat_str, ↓GH.wp_nx, ↓GH.wp_sRet, ↓GH.wp_sIf, ↓GH.wp_sExpr, ↓GH.wp_asg, ↓GH.wp_gN, ↓GH.wp_gT, ↓GH.wp_gCons, ↓GH.wp_gNil, ↓GH.wp_set, ↓GH.wp_own, ↓GH.wp_aug, ↓GH.sm_aug, ↓GH.wp_setIx, ↓GH.wp_ownGet, ↓GH.wp_augIx, ↓GH.wp_sFor, ↓GH.wp_pNil, ↓GH.wp_pVal, ↓GH.wp_pOwn, ↓GH.wp_par, ↓GH.sm_put0, ↓GH.sm_put, ↓GH.wp_iSeq, ↓GH.wp_rg1, ↓GH.wp_rg2, ↓GH.wp_enum, ↓GH.wp_zip2, ↓GH.wp_zip3, ↓GH.wp_lRg1, ↓GH.wp_lRg2, ↓GH.wp_tupRg, ↓GH.sm_addI, ↓GH.sm_addT, ↓GH.sm_addL, ↓GH.sm_addLD, ↓GH.sm_subI, ↓GH.sm_mulI, ↓GH.sm_mulL, ↓GH.sm_mulLD, ↓GH.sm_modI, ↓GH.sm_fdivI, ↓GH.sm_ltI, ↓GH.sm_leI, ↓GH.sm_gtI, ↓GH.sm_geI, ↓GH.sm_eqI, ↓GH.sm_neI, ↓GH.sm_isN, ↓GH.sm_notN, ↓GH.sm_ixT, ↓GH.sm_ixL, ↓GH.sm_ownO, ↓GH.sm_ownL, ↓GH.sm_ownT, ↓GH.at_0, ↓GH.at_1, ↓GH.at_2, ↓GH.at_3, ↓GH.at_4, ↓GH.at_map, ↓GH.sm_lenL, ↓GH.sm_lenT, ↓GH.sm_intI, ↓GH.sm_intB, ↓GH.sm_absI, ↓GH.sm_tupT, ↓GH.sm_lstL, ↓GH.sm_lstT, ↓GH.sm_sumL1, ↓GH.sm_sumT1, ↓GH.sm_sumL, ↓GH.sm_sumT, ↓GH.sm_maxI, ↓GH.sm_minI, ↓GH.sm_maxL1, ↓GH.sm_minL1, ↓GH.sm_maxL, ↓GH.sm_minL, ↓GH.sm_anyL, ↓GH.sm_allL, ↓GH.sm_negI, ↓GH.sm_revL, ↓GH.sm_revT, ↓GH.sm_seqL, ↓GH.sm_seqT, ↓GH.sm_slL, ↓GH.sm_slT, ↓GH.sm_truB, ↓GH.sm_truN, ↓GH.sm_truI, ↓GH.sm_truL, ↓GH.sm_truT, ↓GH.sm_inR, ↓GH.sm_inT, ↓GH.sm_inL, ↓GH.sm_ninT, ↓GH.sm_ninL, ↓GH.sm_setL, ↓GH.wp_comp, ↓GH.wp_turn, ↓GH.lp_nx, ↓GH.lp_cnt, ↓GH.lp_brk, ↓GH.lp_ret, ↓GH.outR_ret, ↓GH.outR_nx, ↓GH.ownB_L, ↓GH.ownB_K, ↓GH.ownB_T, ↓GH.wp_nw, ↓GH.wp_nK0, ↓GH.wp_nT0, ↓GH.wp_dpNil, ↓GH.wp_dpCons, ↓GH.wp_nDisp, ↓GH.wp_ownN, ↓GH.wp_pOwnN, ↓GH.wp_dgO, ↓GH.own2_K, ↓GH.own2_T, ↓GH.own2_s, ↓GH.wp_here2, ↓GH.wp_putD, ↓GH.putAt_s, ↓GH.putAt_K, ↓GH.putAt_T, ↓GH.wp_sPutD, ↓GH.sm_keyI, ↓GH.sm_keyS, ↓GH.sm_keysT, ↓GH.sm_dgK, ↓GH.sm_dgT, ↓GH.sm_dinK, ↓GH.sm_dinT, ↓GH.sm_dninK, ↓GH.sm_dninT, ↓GH.dctAt_KI, ↓GH.dctAt_T, ↓GH.dctAt_s, ↓GH.wp_forD, ↓GH.noneAt_z, ↓GH.noneAt_s, ↓GH.wp_noneAt, ↓GH.wp_newL, ↓GH.wp_newP, ↓GH.wp_setL, ↓GH.wp_fillL, ↓GH.wp_lSl, ↓GH.sm_lstD, ↓GH.enumP_map, ↓GH.zip2P_map, ↓GH.zip3P_map, ↓GH.sm_eqNilI, ↓GH.sm_neNilI, ↓GH.sm_eqIL, ↓GH.sm_neIL, ↓GH.sm_eqIT, ↓GH.sm_neIT, ↓GH.at_snoc, ↓GH.sm_ne3, ↓GH.sm_ne2, ↓GH.sm_srtI, ↓GH.wp_rgV, ↓GH.isR_rng, ↓GH.sm_rng1, ↓GH.wp_ext, ↓GH.sm_extL, ↓GH.sm_srtD, GH.isV_none, GH.isV_val, GH.isV_jv, GH.allV_nil, GH.allV_cons, GH.jv_some, GH.jv_none, GH.out_nx, GH.kGet_lkp, GH.lkp_isSome, GH.borF, GH.bor_z, GH.bor_tt, GH.bor_no, GH.clean_nil, GH.clean_cons, GH.cleanAt_s, GH.cleanAt_n, GH.cleanAt_v, GH.cleanAt_j, GH.wipe_nil, GH.wipe_cons, GH.startE_z, GH.startE_n, GH.startE_s, eq_self, Option.isSome_map, List.set_cons_zero, List.set_cons_succ, List.cons_append, List.nil_append, and_true, true_and, and_self, true_implies, implies_true, not_false_eq_true, not_true_eq_false, false_implies, Option.some.injEq, List.contains_cons, List.contains_nil, Nat.reduceBEq, Bool.or_false, Bool.or_true, Bool.false_or, Bool.true_or, Nat.zero_add, Nat.reduceAdd, $ls,*])
local macro_rules | `(tactic| simp_all_arith) => `(tactic| simp_all_arith [and_true])
local macro_rules | `(tactic| simp_arith! [$ls,*]) => `(tactic| (refine GH.fn_val ?_; simp only [GH.startE_s, GH.startE_n, GH.startE_z, $ls,*]; simp_arith [$ls,*]))
local macro_rules | `(tactic| simp_arith) => `(tactic| simp_arith [and_true])
noncomputable section
namespace GW
open GH
def stgS (cr : Cr) (s : Int) : List Int := nth (stg cr.cx cr.mv.length) s
def clgS (cr : Cr) (s : Int) : Int := clg cr.cx cr.mv.length (stgS cr s)
def need (cr : Cr) (plan : List (Int × Int)) : Int := (plan.map fun p => p.2 + clgS cr p.1).sum
structure PlanG (cr : Cr) (plan : List (Int × Int)) : Prop where
  len : plan.length ≤ 64
  inn : ∀ p ∈ plan, 0 ≤ p.1 ∧ p.1 < (stg cr.cx cr.mv.length).length ∧ 1 ≤ p.2
  fit : need cr plan ≤ cr.len
def ePl (pl : List (Int × Int)) : D := .tup (pl.map eP2)
theorem sm_addPl {pl : List (Int × Int)} {a b : Int} {P : D → Prop} : Sm (addD (ePl pl) (.tup [.tup [.int a, .int b]])) P ↔ pl.length + 1 ≤ 16777216 ∧ P (ePl (pl ++ [(a, b)])) := by
  unfold ePl; rw [sm_addT, List.map_append, List.length_map]; rfl
theorem GoodX.st {cr : Cr} (hg : GoodX cr) {s : Int} (h0 : 0 ≤ s) (h1 : s < (stg cr.cx cr.mv.length).length) : stgS cr s ≠ [] ∧ Lot cr.cx cr.mv.length (stgS cr s) := hg.sgs.lot _ (nth_mem (xs := stg cr.cx cr.mv.length) h0 h1)
theorem GoodX.clgS {cr : Cr} (hg : GoodX cr) (s : Int) : 0 ≤ clgS cr s ∧ clgS cr s ≤ 40 := hg.clg _
theorem ePl_ok (pl : List (Int × Int)) : (ePl pl).ok := (D.okN_tup (n := 1) fun d hd => by
  obtain ⟨p, _, rfl⟩ := List.mem_map.mp hd
  exact eP2_okN p).ok
theorem sm_eqPl0 {pl : List (Int × Int)} {P : D → Prop} : Sm (eqD (ePl pl) (.tup [])) P ↔ P (.bl (decide (pl = []))) := by
  refine (sm_eqNilT (ePl_ok pl)).trans ?_
  by_cases h : pl = []
  · subst h; exact Iff.rfl
  · rw [decide_eq_false h, decide_eq_false (by simpa using h)]
theorem sm_ixPl {pl : List (Int × Int)} {j : Int} {P : D → Prop} : Sm (ixD (ePl pl) (.int j)) P ↔ Sm (L2.atI pl j) fun p => P (eP2 p) := by unfold ePl; rw [sm_ixT, at_map]
theorem sm_p20 {p : Int × Int} {P : D → Prop} : Sm (ixD (eP2 p) (.int 0)) P ↔ P (.int p.1) := by unfold eP2; rw [sm_ixT, at_0]
theorem xsub_grow {cx : List C4} {l : List Int} : ∀ {m n : Nat}, m ≤ n → l ∈ xsub cx m → l ∈ xsub cx n := fun {m n} h hl => by
  induction h with
  | refl => exact hl
  | step _ ih => exact List.mem_append_left _ ih
/-- a lot put to as far as can be -/
theorem full_up {cx : List C4} (hn : NoSelf cx) : ∀ n, ∃ l ∈ xsub cx n, fullX cx n l = true
  | 0 => ⟨[], by simp [xsub], rfl⟩
  | n + 1 => by
    obtain ⟨l, hl, hf⟩ := full_up hn n
    have hfa : ∀ i, i < n → (decide ((i : Int) ∈ l) || crs cx l i) = true := fun i hi => List.all_eq_true.mp hf i (List.mem_range.mpr hi)
    cases hc : crs cx l n with
    | true =>
      refine ⟨l, List.mem_append_left _ hl, List.all_eq_true.mpr fun i hi => ?_⟩
      have hi := List.mem_range.mp hi
      by_cases h : i < n
      · exact hfa i h
      · have : i = n := by omega
        subst this; rw [hc]; simp
    | false =>
      refine ⟨l ++ [(n : Int)], List.mem_append_right _ (List.mem_map.mpr ⟨l, List.mem_filter.mpr ⟨hl, by rw [hc]; rfl⟩, rfl⟩), List.all_eq_true.mpr fun i hi => ?_⟩
      have hi := List.mem_range.mp hi
      by_cases h : i < n
      · have := hfa i h
        rw [Bool.or_eq_true] at this ⊢
        rcases this with z | z
        · exact .inl (by simpa using Or.inl (of_decide_eq_true z))
        · exact .inr (by unfold crs at z ⊢; rw [List.any_append, z]; rfl)
      · have : i = n := by omega
        subst this; simp
theorem stg_ne {cr : Cr} (hg : GoodX cr) : 1 ≤ (stg cr.cx cr.mv.length).length := by
  obtain ⟨l, hl, hf⟩ := full_up hg.ns cr.mv.length
  have hm : l ∈ stg cr.cx cr.mv.length := (tsort_perm _).mem_iff.mpr (List.mem_filter.mpr ⟨hl, hf⟩)
  exact List.length_pos_of_mem hm
theorem loose_cl (cr : Cr) (c : Src) (hg : GoodX cr) (hl : 0 ≤ cr.len) (hl8 : cr.len ≤ 30) : Cl S__law_loose_plan [.src, eCr cr] c fun d _ => ∃ plan, PlanG cr plan ∧ d = ePl plan ∧ plan.length ≤ 4 := by
  have hsl := hg.sgl
  have h6 := hg.le
  have hsn : 1 ≤ (stg cr.cx cr.mv.length).length := stg_ne hg
  refine fn_cl ?_
  simp only [startE_s, startE_n, startE_z, m__law_loose_plan]
  simp_arith [cl_eq (law_stages_eq cr c hg.ns hg.ne hg.le), List.length_map]
  refine cl_pick (by decide) (by decide) fun r c1 hr hr' => ?_
  simp_arith
  refine ⟨okR_of (by omega) (by omega), ?_⟩
  refine wp_for (fun done _ s => ∃ (plan : List (Int × Int)) (rest : Int) (x5 x6 x7 x8 : Option D) (c : Src), plan.length ≤ done.length ∧ (∀ p ∈ plan, 0 ≤ p.1 ∧ p.1 < (stg cr.cx cr.mv.length).length ∧ 1 ≤ p.2) ∧ rest + need cr plan = cr.len ∧ 0 ≤ rest ∧ rest ≤ cr.len ∧ s = ⟨[some (.val .src), some (.val (eCr cr)), some (.val (.lst ((stg cr.cx cr.mv.length).map eT))), some (.val (ePl plan)), some (.val (.int rest)), jv x5, jv x6, jv x7, jv x8], c⟩) ⟨[], cr.len, none, none, none, none, c1, by simp, by simp, by simp [need], hl, Int.le_refl _, rfl⟩ ?_ ?_
  · rintro done lap rst _ hx ⟨plan, rest, x5, x6, x7, x8, c, p1, p2, p4, p5, p6, rfl⟩
    have hdl : done.length + 1 ≤ 4 := by have := congrArg List.length hx; simp at this; omega
    simp_arith [List.length_map]
    refine cl_pick (by omega) (by omega) fun s c2 hs hs' => ?_
    have hst := hg.st (s := s) hs hs'
    have hstl := hst.2.len
    have hcg := hg.clgS s
    have hcl : ∀ c, S__law_clearing [eCr cr, eT (nth (stg cr.cx cr.mv.length) s)] c = some (.int (clgS cr s), c) := fun c => law_clearing_eq cr (stgS cr s) c hg (by omega)
    simp_arith [at_nth (xs := stg cr.cx cr.mv.length) hs hs']
    rw [cl_eq (hcl c2)]
    simp_arith [sm_eqPl0]
    have keep : ∃ (plan' : List (Int × Int)) (rest' : Int) (y5 y6 y7 y8 : Option D) (c' : Src), plan'.length ≤ (done ++ [lap]).length ∧ (∀ p ∈ plan', 0 ≤ p.1 ∧ p.1 < (stg cr.cx cr.mv.length).length ∧ 1 ≤ p.2) ∧ rest' + need cr plan' = cr.len ∧ 0 ≤ rest' ∧ rest' ≤ cr.len ∧ (⟨[some (.val .src), some (.val (eCr cr)), some (.val (.lst ((stg cr.cx cr.mv.length).map eT))), some (.val (ePl plan)), some (.val (.int rest)), some (.val (.int lap)), some (.val (.int s)), some (.val (.int (rest - clgS cr s))), jv x8], c2⟩ : S) = ⟨[some (.val .src), some (.val (eCr cr)), some (.val (.lst ((stg cr.cx cr.mv.length).map eT))), some (.val (ePl plan')), some (.val (.int rest')), jv y5, jv y6, jv y7, jv y8], c'⟩ :=
      ⟨plan, rest, some (.int lap), some (.int s), some (.int (rest - clgS cr s)), x8, c2, by simp; omega, p2, p4, p5, p6, rfl⟩
    refine ⟨fun hpos => ⟨fun hp0 => ?_, fun hp0 => ?_⟩, fun _ => keep⟩
    · refine cl_pick (by omega) (by omega) fun t c3 ht ht' => ?_
      simp_arith
      rw [sm_addPl]
      refine ⟨by omega, ?_⟩
      simp_arith
      refine ⟨plan ++ [(s, 1 + t)], rest - clgS cr s - (1 + t), some (.int lap), some (.int s), some (.int (rest - clgS cr s)), some (.int (1 + t)), c3, by simp; omega, fun p hp => ?_, ?_, by omega, by omega, rfl⟩
      · rcases List.mem_append.mp hp with h | h
        · exact p2 p h
        · simp at h; subst h; exact ⟨hs, hs', by simp only; omega⟩
      · have : need cr (plan ++ [(s, 1 + t)]) = need cr plan + ((1 + t) + clgS cr s) := by
          unfold need; rw [List.map_append, List.sum_append]; simp
        omega
    · rw [sm_ixPl]
      refine (at_last hp0).mpr ?_
      simp_arith [sm_p20]
      refine ⟨fun hne => keep, fun hne => ?_⟩
      · refine cl_pick (by omega) (by omega) fun t c3 ht ht' => ?_
        simp_arith
        rw [sm_addPl]
        refine ⟨by omega, ?_⟩
        simp_arith
        refine ⟨plan ++ [(s, 1 + t)], rest - clgS cr s - (1 + t), some (.int lap), some (.int s), some (.int (rest - clgS cr s)), some (.int (1 + t)), c3, by simp; omega, fun p hp => ?_, ?_, by omega, by omega, rfl⟩
        · rcases List.mem_append.mp hp with h | h
          · exact p2 p h
          · simp at h; subst h; exact ⟨hs, hs', by simp only; omega⟩
        · have : need cr (plan ++ [(s, 1 + t)]) = need cr plan + ((1 + t) + clgS cr s) := by
            unfold need; rw [List.map_append, List.sum_append]; simp
          omega
  · rintro _ ⟨plan, rest, x5, x6, x7, x8, c, p1, p2, p4, p5, p6, rfl⟩
    simp_arith
    simp only [List.length_range] at p1
    exact ⟨plan, ⟨by omega, p2, by omega⟩, rfl, by omega⟩
end GW
end

noncomputable section
namespace GW
open GH
theorem sm_seqPl {pl : List (Int × Int)} {P : List D → Prop} : Sm (seqD (ePl pl)) P ↔ P (pl.map eP2) := sm_some
def segR (cr : Cr) (p : Int × Int) : List (List Int) := List.replicate p.2.toNat (stgS cr p.1) ++ List.replicate (clgS cr p.1).toNat []
def someR (cr : Cr) (plan : List (Int × Int)) : List (List Int) := plan.flatMap (segR cr)
def frmR (cr : Cr) (plan : List (Int × Int)) : List (List Int) := someR cr plan ++ List.replicate (cr.len - (someR cr plan).length).toNat []
def lampsF (cr : Cr) (plans : List (List (Int × Int))) : List (List Int) := plans.flatMap (frmR cr)
theorem some_len {cr : Cr} (hg : GoodX cr) : ∀ {plan : List (Int × Int)}, (∀ p ∈ plan, 1 ≤ p.2) → ((someR cr plan).length : Int) = need cr plan
  | [], _ => rfl
  | p :: t, h => by
    have ih := some_len hg (plan := t) fun q hq => h q (List.mem_cons_of_mem _ hq)
    have h1 := h p List.mem_cons_self
    have h2 := hg.clgS p.1
    have e : someR cr (p :: t) = segR cr p ++ someR cr t := rfl
    have e2 : need cr (p :: t) = (p.2 + clgS cr p.1) + need cr t := rfl
    rw [e, e2, List.length_append]
    unfold segR
    rw [List.length_append, List.length_replicate, List.length_replicate]
    omega
theorem need_app (cr : Cr) (a b : List (Int × Int)) : need cr (a ++ b) = need cr a + need cr b := by unfold need; rw [List.map_append, List.sum_append]
theorem need_ge {cr : Cr} (hg : GoodX cr) : ∀ {plan : List (Int × Int)}, (∀ p ∈ plan, 1 ≤ p.2) → 0 ≤ need cr plan := fun {plan} h => by
  rw [← some_len hg h]; omega
theorem frm_len {cr : Cr} (hg : GoodX cr) {plan : List (Int × Int)} (hp : PlanG cr plan) : ((frmR cr plan).length : Int) = cr.len := by
  have h := some_len hg fun p h => (hp.inn p h).2.2
  have := hp.fit
  unfold frmR
  rw [List.length_append, List.length_replicate]
  omega
theorem lamps_len {cr : Cr} (hg : GoodX cr) : ∀ {plans : List (List (Int × Int))}, (∀ p ∈ plans, PlanG cr p) → ((lampsF cr plans).length : Int) = plans.length * cr.len
  | [], _ => by simp [lampsF]
  | p :: t, h => by
    have ih := lamps_len hg (plans := t) fun q hq => h q (List.mem_cons_of_mem _ hq)
    have h1 := frm_len hg (h p List.mem_cons_self)
    have e : lampsF cr (p :: t) = frmR cr p ++ lampsF cr t := rfl
    rw [e, List.length_append, List.length_cons]
    push_cast
    rw [Int.add_mul, Int.one_mul]
    omega
theorem rep_map {x : D} (n : Nat) : (List.replicate n [x]).flatten = List.replicate n x := rep_one x n
theorem law_lamps_eq (cr : Cr) (plans : List (List (Int × Int))) (c : Src) (hg : GoodX cr) (hl : 0 ≤ cr.len) (hl8 : cr.len ≤ 30) (hp : ∀ p ∈ plans, PlanG cr p) (hn : plans.length ≤ 100) :
    S__law_lamp_rows [eCr cr, .lst (plans.map ePl)] c = some (.lst ((lampsF cr plans).map eT), c) := by
  simp_arith! [m__law_lamp_rows]
  rw [cl_eq (law_stages_eq cr c hg.ns hg.ne hg.le)]
  simp_arith
  refine wp_for (fun done _ s => ∃ (x4 x5 x6 x7 : Option D), s = ⟨[some (.val (eCr cr)), some (.val (.lst (plans.map ePl))), some (.val (.lst ((stg cr.cx cr.mv.length).map eT))), some (.val (.lst ((lampsF cr done).map eT))), jv x4, jv x5, jv x6, jv x7], c⟩) ⟨none, none, none, none, rfl⟩ ?_ ?_
  · rintro done plan rest _ hx ⟨x4, x5, x6, x7, rfl⟩
    have hm : plan ∈ plans := by rw [hx]; simp
    have hpl := hp plan hm
    have hdl : done.length ≤ 100 := by have := congrArg List.length hx; simp at this; omega
    have hdn := lamps_len hg (plans := done) fun q hq => hp q (by rw [hx]; exact List.mem_append_left _ hq)
    have hdm : (done.length : Int) * cr.len ≤ 100 * 30 := Int.mul_le_mul (by omega) hl8 hl (by omega)
    have hfit := hpl.fit
    have hsl := some_len hg fun p h => (hpl.inn p h).2.2
    simp_arith [sm_seqPl]
    refine wp_for (fun done2 _ s => ∃ (x6 x7 : Option D), s = ⟨[some (.val (eCr cr)), some (.val (.lst (plans.map ePl))), some (.val (.lst ((stg cr.cx cr.mv.length).map eT))), some (.val (.lst ((lampsF cr done).map eT))), some (.val (ePl plan)), some (.val (.lst ((someR cr done2).map eT))), jv x6, jv x7], c⟩) ⟨x6, x7, rfl⟩ ?_ ?_
    · rintro done2 ⟨s, ticks⟩ rest2 _ hx2 ⟨x6, x7, rfl⟩
      obtain ⟨b1, b2, b3⟩ := hpl.inn (s, ticks) (by rw [hx2]; simp)
      simp only at b1 b2 b3
      have hst := hg.st b1 b2
      have hcg := hg.clgS s
      have hstl := hst.2.len
      have h6 := hg.le
      have hcl : S__law_clearing [eCr cr, eT (nth (stg cr.cx cr.mv.length) s)] c = some (.int (clgS cr s), c) := law_clearing_eq cr (stgS cr s) c hg (by omega)
      have hd2 := some_len hg (plan := done2) fun p h => (hpl.inn p (by rw [hx2]; exact List.mem_append_left _ h)).2.2
      have hr2 := need_ge hg (plan := rest2) fun p h => (hpl.inn p (by rw [hx2]; simp [h])).2.2
      have hnd := need_app cr done2 ((s, ticks) :: rest2)
      rw [← hx2] at hnd
      have hnc : need cr ((s, ticks) :: rest2) = (ticks + clgS cr s) + need cr rest2 := rfl
      have htk : ticks ≤ 30 := by omega
      simp_arith [eP2, at_nth (xs := stg cr.cx cr.mv.length) b1 b2]
      refine ⟨⟨by omega, by omega, by simp; omega⟩, ?_⟩
      rw [rep_map]
      simp_arith [List.length_map, List.length_replicate, at_nth (xs := stg cr.cx cr.mv.length) b1 b2]
      refine ⟨by omega, ?_⟩
      rw [cl_eq hcl]
      simp_arith
      refine ⟨⟨by omega, by omega, by simp; omega⟩, ?_⟩
      rw [rep_map]
      simp_arith [List.length_append, List.length_map, List.length_replicate]
      refine ⟨by omega, some (.int s), some (.int ticks), ?_⟩
      have e : someR cr (done2 ++ [(s, ticks)]) = someR cr done2 ++ segR cr (s, ticks) := by unfold someR; rw [List.flatMap_append]; simp
      rw [e]
      unfold segR
      rw [List.map_append, List.map_append, List.map_replicate, List.map_replicate, ← List.append_assoc]
      rfl
    · rintro _ ⟨x6, x7, rfl⟩
      simp_arith [List.length_map]
      refine ⟨by omega, ?_⟩
      refine ⟨⟨by omega, by omega, by simp; omega⟩, ?_⟩
      rw [rep_map]
      simp_arith [List.length_append, List.length_map, List.length_replicate]
      refine ⟨by omega, some (ePl plan), some (.lst ((someR cr plan).map eT)), x6, x7, ?_⟩
      have e : lampsF cr (done ++ [plan]) = lampsF cr done ++ frmR cr plan := by unfold lampsF; rw [List.flatMap_append]; simp
      rw [e]
      unfold frmR
      rw [List.map_append, List.map_append, List.map_replicate, ← List.append_assoc]
      rfl
  · rintro _ ⟨x4, x5, x6, x7, rfl⟩
    simp_arith
end GW
end

noncomputable section
namespace GW
open GH
def grn (cr : Cr) : Int → List (Int × Int) → List (List Int)
  | _, [] => []
  | t, p :: r => (stgS cr p.1).map (fun i => [i, t, t + p.2]) ++ grn cr (t + (p.2 + clgS cr p.1)) r
def greensF (cr : Cr) (plan : List (Int × Int)) : List (List Int) := tsort (grn cr 0 plan)
theorem grn_mem {cr : Cr} : ∀ {plan : List (Int × Int)} {t : Int} {v : List Int}, v ∈ grn cr t plan → ∃ i b e, v = [i, b, e]
  | [], _, _, h => by cases h
  | p :: r, t, v, h => by
    rcases List.mem_append.mp h with z | z
    · obtain ⟨i, _, rfl⟩ := List.mem_map.mp z; exact ⟨_, _, _, rfl⟩
    · exact grn_mem z
theorem greens_mem {cr : Cr} {plan : List (Int × Int)} {v : List Int} (h : v ∈ greensF cr plan) : ∃ i b e, v = [i, b, e] := grn_mem ((tsort_perm _).mem_iff.mp h)
theorem grn_len {cr : Cr} (hg : GoodX cr) : ∀ {plan : List (Int × Int)} {t : Int}, (∀ p ∈ plan, 0 ≤ p.1 ∧ p.1 < (stg cr.cx cr.mv.length).length) → (grn cr t plan).length ≤ 6 * plan.length
  | [], _, _ => by simp [grn]
  | p :: r, t, h => by
    have ih := grn_len hg (plan := r) (t := t + (p.2 + clgS cr p.1)) fun q hq => h q (List.mem_cons_of_mem _ hq)
    obtain ⟨b1, b2⟩ := h p List.mem_cons_self
    have := (hg.st b1 b2).2.len
    have := hg.le
    simp only [grn, List.length_append, List.length_map, List.length_cons]
    omega
theorem greens_eq (cr : Cr) (plan : List (Int × Int)) (c : Src) (hg : GoodX cr) (hp : PlanG cr plan) : S_greens [eCr cr, ePl plan] c = some (eR (greensF cr plan), c) := by
  have hsl := hg.sgl
  have hpl := hp.len
  simp_arith! [m_greens]
  rw [cl_eq (stages_eq cr c hg.ns (by have := hg.cl; omega) hg.ne hg.le)]
  simp_arith [sm_seqPl]
  refine wp_for (fun done rest s => ∃ (found : List (List Int)) (tick : Int) (x5 x6 : Option D), grn cr 0 plan = found ++ grn cr tick rest ∧ found.length ≤ 6 * done.length ∧ s = ⟨[some (.val (eCr cr)), some (.val (ePl plan)), some (.val (eR (stg cr.cx cr.mv.length))), some (.own (found.map eT)), some (.val (.int tick)), jv x5, jv x6, none], c⟩) ⟨[], 0, none, none, rfl, by simp, rfl⟩ ?_ ?_
  · rintro done ⟨s, ticks⟩ rest _ hx ⟨found, tick, x5, x6, h1, h2, rfl⟩
    obtain ⟨b1, b2, b3⟩ := hp.inn (s, ticks) (by rw [hx]; simp)
    simp only at b1 b2 b3
    have hdl : done.length ≤ 64 := by have := congrArg List.length hx; simp at this; omega
    have hst := (hg.st b1 b2).2.len
    have h6 := hg.le
    have hcl : S_clear_ticks [eCr cr, .int s] c = some (.int (clgS cr s), c) := clear_eq cr s c hg b1 b2
    simp_arith [eP2, at_nth (xs := stg cr.cx cr.mv.length) b1 b2]
    refine wp_compM (fun i : Int => eT [i, tick, tick + ticks]) (by unfold stgS at hst; omega) (by simp_arith) (fun i _ => by simp_arith; rfl) ?_
    have e : ((nth (stg cr.cx cr.mv.length) s).map fun i : Int => eT [i, tick, tick + ticks]) = ((stgS cr s).map fun i : Int => [i, tick, tick + ticks]).map eT := by rw [List.map_map]; rfl
    rw [e]
    simp_arith [List.length_map]
    refine ⟨by omega, ?_⟩
    rw [cl_eq hcl]
    simp_arith
    refine ⟨found ++ (stgS cr s).map fun i : Int => [i, tick, tick + ticks], tick + (ticks + clgS cr s), some (.int s), some (.int ticks), ?_, by simp; omega, by rw [List.map_append]; rfl⟩
    rw [h1, List.append_assoc]; rfl
  · rintro _ ⟨found, tick, x5, x6, h1, h2, rfl⟩
    have hf : found = grn cr 0 plan := by rw [h1]; simp [grn]
    simp_arith
    rw [sm_srtT (fun v hv => by rw [hf] at hv; obtain ⟨i, b, e, rfl⟩ := grn_mem hv; simp)]
    refine ⟨by omega, ?_⟩
    simp_arith
    rw [hf]; rfl
def pAt (k : Int) (x : List Int) : Bool := decide (x.getD 1 0 ≤ k) && decide (k < x.getD 2 0)
def atF (cr : Cr) (plan : List (Int × Int)) (k : Int) : List Int := ((greensF cr plan).filter (pAt k)).map fun x => x.getD 0 0
theorem lamps_at_eq (cr : Cr) (plan : List (Int × Int)) (k : Int) (c : Src) (hg : GoodX cr) (hp : PlanG cr plan) : S_lamps_at [eCr cr, ePl plan, .int k] c = some (eT (atF cr plan k), c) := by
  have hl := grn_len hg (plan := plan) (t := 0) fun p h => ⟨(hp.inn p h).1, (hp.inn p h).2.1⟩
  have hl2 : (greensF cr plan).length ≤ 384 := by
    have := hp.len
    unfold greensF; rw [(tsort_perm _).length_eq]; omega
  simp_arith! [m_lamps_at, cl_eq (greens_eq cr plan c hg hp)]
  refine wp_compF (enc := eT) (pAt k) (fun x => D.int (x.getD 0 0)) (by omega) (by simp_arith) (fun x hx => by
    obtain ⟨i, b, e, rfl⟩ := greens_mem hx
    rw [show eT [i, b, e] = D.tup [.int i, .int b, .int e] from rfl]
    simp_arith
    by_cases h1 : b ≤ k <;> by_cases h2 : k < e <;> simp [pAt, h1, h2]) ?_
  have e : ((greensF cr plan).filter (pAt k)).map (fun x => D.int (x.getD 0 0)) = (atF cr plan k).map D.int := by unfold atF; rw [List.map_map]; rfl
  rw [e]
  simp_arith
end GW
end

noncomputable section
namespace GW
open GH
theorem grn_later {cr : Cr} (hg : GoodX cr) : ∀ {plan : List (Int × Int)} {t k : Int}, (∀ p ∈ plan, 1 ≤ p.2) → k < t → (grn cr t plan).filter (pAt k) = []
  | [], _, _, _, _ => rfl
  | p :: r, t, k, h, hk => by
    have h1 := h p List.mem_cons_self
    have h2 := hg.clgS p.1
    simp only [grn, List.filter_append]
    rw [grn_later hg (fun q hq => h q (List.mem_cons_of_mem _ hq)) (by omega), List.append_nil, List.filter_eq_nil_iff]
    intro v hv
    obtain ⟨i, _, rfl⟩ := List.mem_map.mp hv
    simp [pAt]; omega
theorem getD_app {α : Type} (a b : List α) (k : Nat) (d : α) : (a ++ b).getD k d = if k < a.length then a.getD k d else b.getD (k - a.length) d := by
  rw [List.getD_eq_getElem?_getD, List.getD_eq_getElem?_getD, List.getD_eq_getElem?_getD]
  by_cases h : k < a.length
  · rw [if_pos h, List.getElem?_append_left h]
  · rw [if_neg h, List.getElem?_append_right (by omega)]
theorem getD_rep {α : Type} (x d : α) (n k : Nat) : (List.replicate n x).getD k d = if k < n then x else d := by
  rw [List.getD_eq_getElem?_getD, List.getElem?_replicate]
  split <;> rfl
theorem seg_get (cr : Cr) (p : Int × Int) (r : List (Int × Int)) (k : Nat) : (someR cr (p :: r)).getD k [] = if k < p.2.toNat then stgS cr p.1 else if k < p.2.toNat + (clgS cr p.1).toNat then [] else (someR cr r).getD (k - (p.2.toNat + (clgS cr p.1).toNat)) [] := by
  have e : someR cr (p :: r) = segR cr p ++ someR cr r := rfl
  have el : (segR cr p).length = p.2.toNat + (clgS cr p.1).toNat := by unfold segR; rw [List.length_append, List.length_replicate, List.length_replicate]
  rw [e, getD_app, el]
  by_cases h : k < p.2.toNat
  · rw [if_pos (by omega), if_pos h]
    unfold segR
    rw [getD_app, List.length_replicate, if_pos h, getD_rep, if_pos h]
  · rw [if_neg h]
    by_cases h2 : k < p.2.toNat + (clgS cr p.1).toNat
    · rw [if_pos h2, if_pos h2]
      unfold segR
      rw [getD_app, List.length_replicate, if_neg h, getD_rep]
      split <;> rfl
    · rw [if_neg h2, if_neg h2]
theorem grn_at {cr : Cr} (hg : GoodX cr) : ∀ {plan : List (Int × Int)} {t : Int} (k : Nat), (∀ p ∈ plan, 1 ≤ p.2) → ∃ b e, (grn cr t plan).filter (pAt (t + k)) = ((someR cr plan).getD k []).map fun i => [i, b, e]
  | [], _, k, _ => ⟨0, 0, by simp [grn, someR]⟩
  | p :: r, t, k, h => by
    have h1 := h p List.mem_cons_self
    have h2 := hg.clgS p.1
    have hr : ∀ q ∈ r, 1 ≤ q.2 := fun q hq => h q (List.mem_cons_of_mem _ hq)
    simp only [grn, List.filter_append]
    rw [seg_get]
    by_cases hk : k < p.2.toNat
    · rw [if_pos hk, grn_later hg hr (by omega), List.append_nil]
      refine ⟨t, t + p.2, List.filter_eq_self.mpr fun v hv => ?_⟩
      obtain ⟨i, _, rfl⟩ := List.mem_map.mp hv
      simp [pAt]; omega
    · rw [if_neg hk]
      have e0 : ((stgS cr p.1).map fun i => [i, t, t + p.2]).filter (pAt (t + k)) = [] := by
        rw [List.filter_eq_nil_iff]
        intro v hv
        obtain ⟨i, _, rfl⟩ := List.mem_map.mp hv
        simp [pAt]; omega
      rw [e0, List.nil_append]
      by_cases hk2 : k < p.2.toNat + (clgS cr p.1).toNat
      · rw [if_pos hk2]
        exact ⟨0, 0, grn_later hg hr (by omega)⟩
      · rw [if_neg hk2]
        obtain ⟨b, e, h3⟩ := grn_at hg (plan := r) (t := t + (p.2 + clgS cr p.1)) (k - (p.2.toNat + (clgS cr p.1).toNat)) hr
        refine ⟨b, e, ?_⟩
        rw [← h3]
        congr 2
        omega
theorem some_row {cr : Cr} (hg : GoodX cr) : ∀ {plan : List (Int × Int)}, (∀ p ∈ plan, 0 ≤ p.1 ∧ p.1 < (stg cr.cx cr.mv.length).length) → ∀ row ∈ someR cr plan, Lot cr.cx cr.mv.length row := by
  intro plan h row hr
  obtain ⟨p, hp, hm⟩ := List.mem_flatMap.mp hr
  obtain ⟨b1, b2⟩ := h p hp
  rcases List.mem_append.mp hm with z | z
  · rw [List.eq_of_mem_replicate z]; exact (hg.st b1 b2).2
  · rw [List.eq_of_mem_replicate z]; exact ⟨by simp, by simp, List.Pairwise.nil, by simp⟩
theorem lot_nil (cx : List C4) (n : Nat) : Lot cx n [] := ⟨by simp, by simp, List.Pairwise.nil, by simp⟩
theorem some_getD {cr : Cr} (hg : GoodX cr) {plan : List (Int × Int)} (hp : PlanG cr plan) (k : Nat) : Lot cr.cx cr.mv.length ((someR cr plan).getD k []) := by
  rw [List.getD_eq_getElem?_getD]
  cases h : (someR cr plan)[k]? with
  | none => exact lot_nil _ _
  | some row => exact some_row hg (fun p h => ⟨(hp.inn p h).1, (hp.inn p h).2.1⟩) row (List.mem_of_getElem? h)
theorem at_eq {cr : Cr} (hg : GoodX cr) {plan : List (Int × Int)} (hp : PlanG cr plan) (k : Nat) : atF cr plan k = (someR cr plan).getD k [] := by
  obtain ⟨b, e, h⟩ := grn_at hg (plan := plan) (t := 0) k fun p h => (hp.inn p h).2.2
  rw [Int.zero_add] at h
  have hlot := some_getD hg hp k
  have e1 : (greensF cr plan).filter (pAt k) = ((someR cr plan).getD k []).map fun i => [i, b, e] := by
    refine List.Perm.eq_of_pairwise (le := fun a b => leT a b = true) (fun a b _ _ h1 h2 => leT_anti a b h1 h2) ((tsort_le _).filter _) ?_ ?_
    · rw [List.pairwise_map]
      exact hlot.asc.imp fun {x y} hxy => by
        simp only [leT, ltT]
        have h1 : ¬ y < x := by omega
        have h2 : ¬ y = x := by omega
        simp [h1, h2]
    · rw [← h]
      exact (tsort_perm _).filter _
  unfold atF
  rw [e1, List.map_map]
  conv => rhs; rw [← List.map_id ((someR cr plan).getD k [])]
  rfl
theorem frm_at {cr : Cr} (hg : GoodX cr) {plan : List (Int × Int)} (hp : PlanG cr plan) : ((List.range cr.len.toNat).map fun k : Nat => atF cr plan k) = frmR cr plan := by
  have hl := frm_len hg hp
  refine List.ext_getElem? fun k => ?_
  rw [List.getElem?_map]
  by_cases h : k < cr.len.toNat
  · rw [List.getElem?_range h]
    show some (atF cr plan k) = _
    rw [at_eq hg hp]
    have hk : k < (frmR cr plan).length := by omega
    have : (frmR cr plan).getD k [] = (someR cr plan).getD k [] := by
      unfold frmR
      rw [getD_app, getD_rep]
      by_cases h2 : k < (someR cr plan).length
      · rw [if_pos h2]
      · rw [if_neg h2, ite_self, List.getD_eq_getElem?_getD, List.getElem?_eq_none (by omega)]; rfl
    rw [← this, List.getD_eq_getElem?_getD, List.getElem?_eq_getElem hk]; rfl
  · rw [List.getElem?_eq_none (by simp; omega), List.getElem?_eq_none (by omega)]; rfl
theorem lamp_rows_eq (cr : Cr) (plans : List (List (Int × Int))) (c : Src) (hg : GoodX cr) (hl : 0 ≤ cr.len) (hl8 : cr.len ≤ 30) (hp : ∀ p ∈ plans, PlanG cr p) (hn : plans.length ≤ 100) :
    S_lamp_rows [eCr cr, .lst (plans.map ePl)] c = some (.lst ((lampsF cr plans).map eT), c) := by
  simp_arith! [m_lamp_rows]
  refine wp_for (fun done _ s => ∃ (x3 : Option D), s = ⟨[some (.val (eCr cr)), some (.val (.lst (plans.map ePl))), some (.own ((lampsF cr done).map eT)), jv x3, none], c⟩) ⟨none, rfl⟩ ?_ ?_
  · rintro done plan rest _ hx ⟨x3, rfl⟩
    have hpl := hp plan (by rw [hx]; simp)
    have hdl : done.length ≤ 100 := by have := congrArg List.length hx; simp at this; omega
    have hdn := lamps_len hg (plans := done) fun q hq => hp q (by rw [hx]; exact List.mem_append_left _ hq)
    have hdm : (done.length : Int) * cr.len ≤ 100 * 30 := Int.mul_le_mul (by omega) hl8 hl (by omega)
    simp_arith
    refine ⟨okR_of hl (by omega), ?_⟩
    refine wp_compM (fun k : Nat => eT (atF cr plan k)) (by simp; omega) (by simp_arith) (fun k _ => by
      simp_arith [cl_eq (lamps_at_eq cr plan (k : Nat) c hg hpl)]) ?_
    have e : ((List.range cr.len.toNat).map fun k : Nat => eT (atF cr plan k)) = (frmR cr plan).map eT := by rw [← frm_at hg hpl, List.map_map]; rfl
    rw [e]
    have hf := frm_len hg hpl
    simp_arith [List.length_map]
    refine ⟨by omega, some (ePl plan), ?_⟩
    have e2 : lampsF cr (done ++ [plan]) = lampsF cr done ++ frmR cr plan := by unfold lampsF; rw [List.flatMap_append]; simp
    rw [e2, List.map_append]
    rfl
  · rintro _ ⟨x3, rfl⟩
    simp_arith
end GW
end

noncomputable section
namespace GW
open GH
def cr2 (cx : List C4) (row : List Int) (i : Int) : Option Int := row.find? fun j => decide (i < j) && (clr cx i j).isSome
def crossRow (cx : List C4) (row : List Int) : Option (Int × Int) := row.findSome? fun i => (cr2 cx row i).map fun j => (i, j)
def crossF (cx : List C4) (rows : List (List Int)) : Option (Nat × Int × Int) := rows.zipIdx.findSome? fun p => (crossRow cx p.1).map fun q => (p.2, q.1, q.2)
def eF (w : PySem.Str) (f : Nat × Int × Int) : D := .tup [.str w, .int (f.1 : Nat), .int f.2.1, .int f.2.2]
theorem find_ite {α β : Type} (p : α → Bool) (g : α → β) : ∀ l : List α, (l.findSome? fun x => if p x = true then some (g x) else none) = (l.find? p).map g
  | [] => rfl
  | x :: t => by
    rw [List.findSome?_cons, List.find?_cons]
    cases h : p x with
    | true => simp
    | false => simpa using find_ite p g t
structure RowsD (rd : D) (rows : List (List Int)) : Prop where
  sq : seqD rd = some (rows.map eT)
  ix : ∀ (j : Int) (P : D → Prop), Sm (ixD rd (.int j)) P ↔ Sm (L2.atI rows j) fun r => P (eT r)
theorem rowsD_lst (rows : List (List Int)) : RowsD (.lst (rows.map eT)) rows := ⟨rfl, fun j P => by rw [sm_ixL, at_map]⟩
theorem rowsD_tup (rows : List (List Int)) : RowsD (.tup (rows.map eT)) rows := ⟨rfl, fun j P => by rw [sm_ixT, at_map]⟩
theorem first_crossed_eq (cr : Cr) (rd : D) (rows : List (List Int)) (c : Src) (hg : GoodX cr) (hr : RowsD rd rows) : S_first_crossed [eCr cr, rd] c = some (((crossF cr.cx rows).map (eF "crossed")).getD .non, c) := by
  simp_arith! [m_first_crossed, sm_eq hr.sq]
  refine wp_find (enc := fun p : List Int × Nat => D.tup [.int (p.2 : Nat), eT p.1]) (fun p => (crossRow cr.cx p.1).map fun q => eF "crossed" (p.2, q.1, q.2)) (fun _ s => ∃ (x2 x3 x4 x5 : Option D), s = ⟨[some (.val (eCr cr)), some (.val rd), jv x2, jv x3, jv x4, jv x5], c⟩) (fun s => s.src = c) ⟨none, none, none, none, rfl⟩ ?_ ?_ ?_
  · rintro done ⟨row, t⟩ rest _ hx ⟨x2, x3, x4, x5, rfl⟩
    simp_arith
    refine wp_find (enc := D.int) (fun i => (cr2 cr.cx row i).map fun j => eF "crossed" (t, i, j)) (fun _ s => ∃ (x4 x5 : Option D), s = ⟨[some (.val (eCr cr)), some (.val rd), some (.val (.int (t : Nat))), some (.val (eT row)), jv x4, jv x5], c⟩) (fun s => s.src = c) ⟨x4, x5, rfl⟩ ?_ ?_ ?_
    · rintro done2 i rest2 _ hx2 ⟨x4, x5, rfl⟩
      simp_arith
      refine wp_find (enc := D.int) (fun j => if (decide (i < j) && (clr cr.cx i j).isSome) = true then some (eF "crossed" (t, i, j)) else none) (fun _ s => ∃ (x5 : Option D), s = ⟨[some (.val (eCr cr)), some (.val rd), some (.val (.int (t : Nat))), some (.val (eT row)), some (.val (.int i)), jv x5], c⟩) (fun s => s.src = c) ⟨x5, rfl⟩ ?_ ?_ ?_
      · rintro done3 j rest3 _ hx3 ⟨x5, rfl⟩
        simp_arith
        refine ⟨fun h => ?_, fun h => .inl ⟨by rw [decide_eq_false h]; rfl, some (.int j), rfl⟩⟩
        rw [cl_eq (do_cross_eq cr i j c (by have := hg.cl; omega))]
        cases hc : (clr cr.cx i j).isSome with
        | true =>
          simp_arith
          exact .inr ⟨_, rfl, by rw [decide_eq_true h]; rfl⟩
        | false =>
          simp_arith
          exact .inl ⟨by rw [decide_eq_true h]; rfl, some (.int j), rfl⟩
      · rintro _ ⟨x5, rfl⟩ hn
        rw [find_ite, Option.map_eq_none_iff] at hn
        refine .inl ⟨rfl, by unfold cr2; rw [hn]; rfl, some (.int i), x5, rfl⟩
      · intro d s hs hd
        rw [find_ite] at hd
        exact .inr ⟨d, rfl, hd, hs⟩
    · rintro _ ⟨x4, x5, rfl⟩ hn
      refine .inl ⟨rfl, ?_, some (.int (t : Nat)), some (eT row), x4, x5, rfl⟩
      have : (crossRow cr.cx row).map (fun q => eF "crossed" (t, q.1, q.2)) = row.findSome? fun i => (cr2 cr.cx row i).map fun j => eF "crossed" (t, i, j) := by
        unfold crossRow; rw [List.map_findSome?]; congr 1; funext i; simp [Function.comp_def, Option.map_map]
      show (crossRow cr.cx row).map (fun q => eF "crossed" (t, q.1, q.2)) = none
      rw [this, hn]
    · intro d s hs hd
      refine .inr ⟨d, rfl, ?_, hs⟩
      have : (crossRow cr.cx row).map (fun q => eF "crossed" (t, q.1, q.2)) = row.findSome? fun i => (cr2 cr.cx row i).map fun j => eF "crossed" (t, i, j) := by
        unfold crossRow; rw [List.map_findSome?]; congr 1; funext i; simp [Function.comp_def, Option.map_map]
      show (crossRow cr.cx row).map (fun q => eF "crossed" (t, q.1, q.2)) = some d
      rw [this, hd]
  · rintro _ ⟨x2, x3, x4, x5, rfl⟩ hn
    have : (crossF cr.cx rows).map (eF "crossed") = rows.zipIdx.findSome? fun p : List Int × Nat => (crossRow cr.cx p.1).map fun q => eF "crossed" (p.2, q.1, q.2) := by
      unfold crossF; rw [List.map_findSome?]; congr 1; funext i; simp [Function.comp_def, Option.map_map]
    rw [this, hn]
    simp_arith
    rfl
  · intro d s hs hd
    have : (crossF cr.cx rows).map (eF "crossed") = rows.zipIdx.findSome? fun p : List Int × Nat => (crossRow cr.cx p.1).map fun q => eF "crossed" (p.2, q.1, q.2) := by
      unfold crossF; rw [List.map_findSome?]; congr 1; funext i; simp [Function.comp_def, Option.map_map]
    rw [this, hd]
    simp_arith
    exact ⟨rfl, hs⟩
end GW
end

noncomputable section
namespace GW
open GH
def lastT (rows : List (List Int)) : Nat → Int → Option Nat
  | 0, _ => none
  | t + 1, i => if i ∈ rows.getD t [] then some t else lastT rows t i
def aheadT (rows : List (List Int)) : Nat → List Int
  | 0 => []
  | t + 1 => rows.getD t []
def tooE (cx : List C4) (t : Nat) (i j : Int) : Option Nat → Bool
  | none => false
  | some u => match clr cx i j with
    | none => false
    | some w => decide ((t : Int) - (u : Nat) - 1 < w)
def earlyJ (cx : List C4) (rows : List (List Int)) (t : Nat) (i j : Int) : Bool := !decide (j ∈ aheadT rows t) && tooE cx t i j (lastT rows t i)
def zIn (n : Nat) : List Int := (List.range n).map fun i : Nat => (i : Int)
def earlyR (cx : List C4) (n : Nat) (rows : List (List Int)) (t : Nat) (lot : List Int) : Option (Int × Int) := (zIn n).findSome? fun i => (lot.find? (earlyJ cx rows t i)).map fun j => (i, j)
def earlyF (cx : List C4) (n : Nat) (rows : List (List Int)) : Option (Nat × Int × Int) := rows.zipIdx.findSome? fun p => (earlyR cx n rows p.2 p.1).map fun q => (p.2, q.1, q.2)
theorem zIn_mem {n : Nat} {k : Int} : k ∈ zIn n ↔ 0 ≤ k ∧ k < n := by
  unfold zIn
  rw [List.mem_map]
  constructor
  · rintro ⟨i, hi, rfl⟩; have := List.mem_range.mp hi; omega
  · rintro ⟨h1, h2⟩; exact ⟨k.toNat, List.mem_range.mpr (by omega), by omega⟩
theorem zIn_asc (n : Nat) : (zIn n).Pairwise (· < ·) := by
  unfold zIn
  rw [List.pairwise_map]
  exact (List.pairwise_lt_range (n := n)).imp fun h => by omega
structure KeyT (n : Nat) (rows : List (List Int)) (t : Nat) (l : List (Int × Int)) : Prop where
  nd : (l.map (·.1)).Nodup
  lk : ∀ k, lkp l k = (lastT rows t k).map fun u : Nat => (u : Int)
  rg : ∀ k : Int, k ∈ l.map (·.1) → 0 ≤ k ∧ k < n
theorem KeyT.mem {n : Nat} {rows : List (List Int)} {t : Nat} {l : List (Int × Int)} (h : KeyT n rows t l) {k : Int} : k ∈ l.map (·.1) ↔ (lastT rows t k).isSome = true := by
  have h1 := lkp_none (l := l) (k := k)
  rw [h.lk k, Option.map_eq_none_iff] at h1
  cases e : lastT rows t k with
  | none => rw [e] at h1; simpa using h1.mp rfl
  | some u =>
    rw [e] at h1
    simp only [Option.isSome_some, iff_true]
    by_cases z : k ∈ l.map (·.1)
    · exact z
    · have := h1.mpr z; cases this
theorem nodup_lt {l : List Int} (h : l.Pairwise (· < ·)) : l.Nodup := h.imp fun {a b} h e => by subst e; exact Int.lt_irrefl _ h
theorem KeyT.srt {n : Nat} {rows : List (List Int)} {t : Nat} {l : List (Int × Int)} (h : KeyT n rows t l) : isort (l.map (·.1)) = (zIn n).filter fun i => (lastT rows t i).isSome := by
  refine isort_eq ?_ (((zIn_asc n).filter _).imp fun h => Int.le_of_lt h)
  rw [List.perm_ext_iff_of_nodup (nodup_lt ((zIn_asc n).filter _)) h.nd]
  intro a
  rw [List.mem_filter, h.mem]
  constructor
  · exact fun z => z.2
  · exact fun z => ⟨zIn_mem.mpr (h.rg a (h.mem.mpr z)), z⟩
theorem KeyT.len {n : Nat} {rows : List (List Int)} {t : Nat} {l : List (Int × Int)} (h : KeyT n rows t l) : l.length ≤ n := by
  have e := congrArg List.length h.srt
  rw [(isort_perm _).length_eq, List.length_map] at e
  have := List.length_filter_le (fun i => (lastT rows t i).isSome) (zIn n)
  have e2 : (zIn n).length = n := by simp [zIn]
  omega
theorem find_filter {α β : Type} (p : α → Bool) (f : α → Option β) : ∀ l : List α, (∀ x ∈ l, p x = false → f x = none) → (l.filter p).findSome? f = l.findSome? f
  | [], _ => rfl
  | x :: t, h => by
    have ih := find_filter p f t fun y hy => h y (List.mem_cons_of_mem _ hy)
    rw [List.filter_cons, List.findSome?_cons]
    cases e : p x with
    | true => rw [if_pos rfl, List.findSome?_cons, ih]
    | false => rw [if_neg (by simp), ih, h x List.mem_cons_self e]
theorem zip_at {rows : List (List Int)} {done rest : List (List Int × Nat)} {row : List Int} {t : Nat} (h : rows.zipIdx = done ++ (row, t) :: rest) : t = done.length ∧ rows[t]? = some row ∧ t < rows.length := by
  have e := congrArg (fun l => l[done.length]?) h
  simp only [List.getElem?_append_right (Nat.le_refl _), Nat.sub_self, List.getElem?_cons_zero, List.getElem?_zipIdx] at e
  obtain ⟨r, h1, h2⟩ := Option.map_eq_some_iff.mp e
  simp only [Prod.mk.injEq] at h2
  have ht : t = done.length := by omega
  subst ht
  rw [← h2.1]
  exact ⟨rfl, h1, (List.getElem?_eq_some_iff.mp h1).1⟩
theorem getD_of {rows : List (List Int)} {t : Nat} {row : List Int} (h : rows[t]? = some row) : rows.getD t [] = row := by rw [List.getD_eq_getElem?_getD, h]; rfl
theorem dks_keys (l : List (Int × Int)) : dks l = (l.map (·.1)).map Sum.inl := by unfold dks; rw [List.map_map]; rfl
/-- a row behind the others: last told anew -/
theorem KeyT.row {n : Nat} {rows : List (List Int)} {t : Nat} {row : List Int} (hr : rows[t]? = some row) {l l2 : List (Int × Int)} (h : KeyT n rows t l) (h2 : (l2.map (·.1)).Nodup) (h3 : ∀ k, lkp l2 k = if k ∈ row then some (t : Int) else lkp l k) (h4 : ∀ k : Int, k ∈ l2.map (·.1) → 0 ≤ k ∧ k < n) : KeyT n rows (t + 1) l2 := by
  refine ⟨h2, fun k => ?_, h4⟩
  rw [h3 k]
  unfold lastT
  rw [getD_of hr]
  split
  · rfl
  · exact h.lk k
theorem early_map (cx : List C4) (rows : List (List Int)) (t n : Nat) (lot : List Int) (w : PySem.Str) : (earlyR cx n rows t lot).map (fun q => eF w (t, q.1, q.2)) = (zIn n).findSome? fun i => (lot.find? (earlyJ cx rows t i)).map fun j => eF w (t, i, j) := by
  unfold earlyR; rw [List.map_findSome?]; congr 1; funext i; simp [Function.comp_def, Option.map_map]
theorem earlyF_map (cx : List C4) (rows : List (List Int)) (n : Nat) (w : PySem.Str) : (earlyF cx n rows).map (eF w) = rows.zipIdx.findSome? fun p : List Int × Nat => (earlyR cx n rows p.2 p.1).map fun q => eF w (p.2, q.1, q.2) := by
  unfold earlyF; rw [List.map_findSome?]; congr 1; funext i; simp [Function.comp_def, Option.map_map]
end GW
end

noncomputable section
namespace GW
open GH
theorem aheadT_pos {rows : List (List Int)} {t : Nat} (h : 0 < t) : aheadT rows t = nth rows ((t : Int) - 1) := by
  cases t with
  | zero => omega
  | succ k =>
    show rows.getD k [] = rows.getD ((k + 1 : Nat) - 1 : Int).toNat []
    congr 1
    omega
theorem first_early_eq (cr : Cr) (rd : D) (rows : List (List Int)) (c : Src) (hg : GoodX cr) (hr : RowsD rd rows) (hrg : ∀ row ∈ rows, ∀ i ∈ row, 0 ≤ i ∧ i < (cr.mv.length : Int)) : S_first_early [eCr cr, rd] c = some (((earlyF cr.cx cr.mv.length rows).map (eF "early")).getD .non, c) := by
  have h6 := hg.le
  have hcl : cr.cx.length ≤ 1000 := by have := hg.cl; omega
  simp_arith! [m_first_early, sm_eq hr.sq]
  refine wp_find (enc := fun p : List Int × Nat => D.tup [.int (p.2 : Nat), eT p.1]) (fun p => (earlyR cr.cx cr.mv.length rows p.2 p.1).map fun q => eF "early" (p.2, q.1, q.2)) (fun done s => ∃ (l : List (Int × Int)) (x3 x4 x5 x6 x7 : Option D), KeyT cr.mv.length rows done.length l ∧ s = ⟨[some (.val (eCr cr)), some (.val rd), some (.ownK (dks l) (dvs D.int l)), jv x3, jv x4, jv x5, jv x6, jv x7], c⟩) (fun s => s.src = c) ⟨[], none, none, none, none, none, ⟨by simp, fun k => rfl, by simp⟩, rfl⟩ ?_ ?_ ?_
  · rintro done ⟨row, t⟩ rest _ hx ⟨l, x3, x4, x5, x6, x7, hk, rfl⟩
    obtain ⟨rfl, hrow, htl⟩ := zip_at hx
    have hrr := hrg row (List.mem_of_getElem? hrow)
    simp_all_arith
    refine wp_mid' (fun s => s = ⟨[some (.val (eCr cr)), some (.val rd), some (.ownK (dks l) (dvs D.int l)), some (.val (.int (done.length : Nat))), some (.val (eT row)), some (.val (eT (aheadT rows done.length))), jv x6, jv x7], c⟩) ?_ ?_
    · simp_arith
      refine ⟨fun h => ?_, fun h => ?_⟩
      · rw [hr.ix]
        refine (at_nth (xs := rows) (by omega) (by omega)).mpr ?_
        simp_arith
        rw [aheadT_pos (by omega)]
        first | exact .inl ⟨trivial, rfl⟩ | exact .inl rfl | simp
      · have h0 : done.length = 0 := by omega
        simp only [h0]
        first | exact .inl ⟨trivial, rfl⟩ | exact .inl rfl | simp
    · rintro _ rfl
      simp_arith
      rw [wp_srtO (l := l.map (·.1)) (ds := dvs D.int l) (by rw [dks_keys]; rfl)]
      refine ⟨by rw [List.length_map]; have := hk.len; omega, ?_⟩
      simp_arith
      have e1 : isort (l.map (·.1)) = (zIn cr.mv.length).filter fun i => (lastT rows done.length i).isSome := hk.srt
      rw [e1]
      let f : Int → Option D := fun i => (row.find? (earlyJ cr.cx rows done.length i)).map fun j => eF "early" (done.length, i, j)
      have hf : ((zIn cr.mv.length).filter fun i => (lastT rows done.length i).isSome).findSome? f = (zIn cr.mv.length).findSome? f := find_filter _ _ _ fun i _ hi => by
        have : lastT rows done.length i = none := by simpa using hi
        show (row.find? (earlyJ cr.cx rows done.length i)).map _ = none
        rw [List.find?_eq_none.mpr fun j _ => by simp [earlyJ, this, tooE]]; rfl
      refine wp_find (enc := D.int) f (fun _ s => ∃ (x6 x7 : Option D), s = ⟨[some (.val (eCr cr)), some (.val rd), some (.ownK (dks l) (dvs D.int l)), some (.val (.int (done.length : Nat))), some (.val (eT row)), some (.val (eT (aheadT rows done.length))), jv x6, jv x7], c⟩) (fun s => s.src = c) ⟨x6, x7, rfl⟩ ?_ ?_ ?_
      · rintro done2 i rest2 _ hx2 ⟨x6, x7, rfl⟩
        have hi : (lastT rows done.length i).isSome = true := by
          have : i ∈ (zIn cr.mv.length).filter fun i => (lastT rows done.length i).isSome := by rw [hx2]; simp
          exact (List.mem_filter.mp this).2
        obtain ⟨u, hu⟩ := Option.isSome_iff_exists.mp hi
        have hlk : lkp l i = some (u : Int) := by rw [hk.lk, hu]; rfl
        simp_arith
        refine wp_find (enc := D.int) (fun j => if earlyJ cr.cx rows done.length i j = true then some (eF "early" (done.length, i, j)) else none) (fun _ s => ∃ (x7 : Option D), s = ⟨[some (.val (eCr cr)), some (.val rd), some (.ownK (dks l) (dvs D.int l)), some (.val (.int (done.length : Nat))), some (.val (eT row)), some (.val (eT (aheadT rows done.length))), some (.val (.int i)), jv x7], c⟩) (fun s => s.src = c) ⟨x7, rfl⟩ ?_ ?_ ?_
        · rintro done3 j rest3 _ hx3 ⟨x7, rfl⟩
          cases hc : clr cr.cx i j with
          | none =>
            have hE : earlyJ cr.cx rows done.length i j = false := by simp [earlyJ, hu, tooE, hc]
            simp_arith [sm_ninE, cl_eq (do_cross_eq cr i j c hcl), cl_eq (clr_eq cr i j c), hlk, hc, Option.isSome_none, hE]
            exact ⟨fun _ => .inl ⟨by simp, some (.int j), rfl⟩, fun _ => .inl ⟨by simp, some (.int j), rfl⟩⟩
          | some w =>
            have hE : earlyJ cr.cx rows done.length i j = (!decide (j ∈ aheadT rows done.length) && decide ((done.length : Int) - (u : Nat) - 1 < w)) := by simp [earlyJ, hu, tooE, hc]
            simp_arith [sm_ninE, cl_eq (do_cross_eq cr i j c hcl), cl_eq (clr_eq cr i j c), hlk, hc, Option.isSome_some, Option.getD_some, hE]
            refine ⟨fun h => .inl ⟨by rw [decide_eq_true h]; rfl, some (.int j), rfl⟩, fun h => ⟨fun h2 => .inr ⟨_, rfl, by rw [decide_eq_false h, decide_eq_true h2]; rfl⟩, fun h2 => .inl ⟨by rw [decide_eq_false h, decide_eq_false h2]; rfl, some (.int j), rfl⟩⟩⟩
        · rintro _ ⟨x7, rfl⟩ hn
          rw [find_ite, Option.map_eq_none_iff] at hn
          exact .inl ⟨rfl, by show (row.find? _).map _ = none; rw [hn]; rfl, some (.int i), x7, rfl⟩
        · intro d s hs hd
          rw [find_ite] at hd
          exact .inr ⟨d, rfl, hd, hs⟩
      · rintro _ ⟨x6, x7, rfl⟩ hn
        rw [hf] at hn
        simp_arith
        refine wp_for (enc := D.int) (fun done2 _ s => ∃ (l2 : List (Int × Int)) (x6 : Option D), (l2.map (·.1)).Nodup ∧ (∀ k, lkp l2 k = if k ∈ done2 then some (done.length : Int) else lkp l k) ∧ (∀ k : Int, k ∈ l2.map (·.1) → 0 ≤ k ∧ k < (cr.mv.length : Int)) ∧ s = ⟨[some (.val (eCr cr)), some (.val rd), some (.ownK (dks l2) (dvs D.int l2)), some (.val (.int (done.length : Nat))), some (.val (eT row)), some (.val (eT (aheadT rows done.length))), jv x6, jv x7], c⟩) ⟨l, x6, hk.nd, fun k => by simp, hk.rg, rfl⟩ ?_ ?_
        · rintro done2 i rest2 _ hx2 ⟨l2, x6, k1, k2, k3, rfl⟩
          have hi := hrr i (by rw [hx2]; simp)
          have hlen : l2.length ≤ 1000 := by
            have hsub : (l2.map (·.1)).Nodup := k1
            have := List.Nodup.length_le_of_subset (l₂ := zIn cr.mv.length) hsub fun k hk => zIn_mem.mpr (k3 k hk)
            have e2 : (zIn cr.mv.length).length = cr.mv.length := by simp [zIn]
            rw [List.length_map] at this
            omega
          obtain ⟨p1, p2⟩ := put_stp (l := l2) (k := i) (v := (done.length : Int)) (f := D.int) k1
          simp_arith
          refine ⟨by unfold dks; rw [List.length_map]; omega, stp l2 i done.length, some (.int i), stp_nodup k1, fun k => ?_, fun k hk => ?_, ?_⟩
          · rw [lkp_stp]
            by_cases hki : k = i
            · subst hki; simp
            · rw [if_neg hki, k2 k]
              have : k ∈ done2 ++ [i] ↔ k ∈ done2 := by simp [hki]
              simp only [this]
          · rcases stp_keys.mp hk with rfl | h
            · exact hi
            · exact k3 k h
          · rw [p1, p2]; rfl
        · rintro _ ⟨l2, x6, k1, k2, k3, rfl⟩
          refine .inl ⟨rfl, ?_, l2, some (.int (done.length : Nat)), some (eT row), some (eT (aheadT rows done.length)), x6, x7, ?_, rfl⟩
          · show (earlyR cr.cx cr.mv.length rows done.length row).map (fun q => eF "early" (done.length, q.1, q.2)) = none
            rw [early_map]; exact hn
          · rw [show (done ++ [(row, done.length)]).length = done.length + 1 by simp]
            exact hk.row hrow k1 k2 k3
      · intro d s hs hd
        rw [hf] at hd
        simp_arith
        refine .inr ⟨d, rfl, ?_, hs⟩
        show (earlyR cr.cx cr.mv.length rows done.length row).map (fun q => eF "early" (done.length, q.1, q.2)) = some d
        rw [early_map]; exact hd
  · rintro _ ⟨l, x3, x4, x5, x6, x7, hk, rfl⟩ hn
    rw [earlyF_map, hn]
    simp_arith
    rfl
  · intro d s hs hd
    rw [earlyF_map, hd]
    simp_arith
    exact ⟨rfl, hs⟩
def faultF (cx : List C4) (n : Nat) (rows : List (List Int)) : D := match crossF cx rows with
  | some f => eF "crossed" f
  | none => ((earlyF cx n rows).map (eF "early")).getD .non
theorem judge_lamps_eq (cr : Cr) (rd : D) (rows : List (List Int)) (c : Src) (hg : GoodX cr) (hr : RowsD rd rows) (hrg : ∀ row ∈ rows, ∀ i ∈ row, 0 ≤ i ∧ i < (cr.mv.length : Int)) : S_judge_lamps [eCr cr, rd] c = some (faultF cr.cx cr.mv.length rows, c) := by
  simp_arith! [m_judge_lamps]
  rw [cl_eq (first_crossed_eq cr rd rows c hg hr)]
  unfold faultF
  cases hc : crossF cr.cx rows with
  | some f =>
    simp_arith [hc, Option.map_some, Option.getD_some, eF]
  | none =>
    simp_arith [hc, Option.map_none, Option.getD_none]
    rw [cl_eq (first_early_eq cr rd rows c hg hr hrg)]
    simp_arith
end GW
end

noncomputable section
namespace GW
open GH
theorem law_fault_eq (cr : Cr) (rows : List (List Int)) (c : Src) (hg : GoodX cr) (hl : rows.length ≤ 10000) (hrl : ∀ row ∈ rows, row.length ≤ 1000) (hrg : ∀ row ∈ rows, ∀ i ∈ row, 0 ≤ i ∧ i < (cr.mv.length : Int)) : S__law_lamp_fault [eCr cr, .lst (rows.map eT)] c = some (faultF cr.cx cr.mv.length rows, c) := by
  have h6 := hg.le
  simp_arith! [m__law_lamp_fault]
  refine wp_find (enc := fun p : List Int × Nat => D.tup [.int (p.2 : Nat), eT p.1]) (fun p => (crossRow cr.cx p.1).map fun q => eF "crossed" (p.2, q.1, q.2)) (fun _ s => ∃ (x2 x3 x4 x5 : Option D), s = ⟨[some (.val (eCr cr)), some (.val (.lst (rows.map eT))), jv x2, jv x3, jv x4, jv x5, none, none, none, none], c⟩) (fun s => s.src = c) ⟨none, none, none, none, rfl⟩ ?_ ?_ ?_
  · rintro done ⟨row, t⟩ rest _ hx ⟨x2, x3, x4, x5, rfl⟩
    obtain ⟨rfl, hrow, htl⟩ := zip_at hx
    have hrr := hrl row (List.mem_of_getElem? hrow)
    simp_arith
    have hmap : (crossRow cr.cx row).map (fun q => eF "crossed" (done.length, q.1, q.2)) = row.findSome? fun i => (cr2 cr.cx row i).map fun j => eF "crossed" (done.length, i, j) := by
      unfold crossRow; rw [List.map_findSome?]; congr 1; funext i; simp [Function.comp_def, Option.map_map]
    refine wp_find (enc := D.int) (fun i => (cr2 cr.cx row i).map fun j => eF "crossed" (done.length, i, j)) (fun _ s => ∃ (x4 x5 : Option D), s = ⟨[some (.val (eCr cr)), some (.val (.lst (rows.map eT))), some (.val (.int (done.length : Nat))), some (.val (eT row)), jv x4, jv x5, none, none, none, none], c⟩) (fun s => s.src = c) ⟨x4, x5, rfl⟩ ?_ ?_ ?_
    · rintro done2 i rest2 _ hx2 ⟨x4, x5, rfl⟩
      simp_arith
      refine wp_compF (enc := D.int) (fun j => decide (i < j) && (clr cr.cx i j).isSome) D.int (by omega) (by simp_arith) (fun j _ => by
        cases hc : clr cr.cx i j with
        | none =>
          simp_arith [cl_eq (law_clr_eq cr i j c), hc, eN, Option.isSome_none]
          exact ⟨fun h => by simp, fun h => by simp⟩
        | some w =>
          simp_arith [cl_eq (law_clr_eq cr i j c), hc, eN, Option.isSome_some]
          exact ⟨fun h => by simp [h], fun h => by simp [h]⟩) ?_
      simp_arith
      have hh : cr2 cr.cx row i = (row.filter fun j => decide (i < j) && (clr cr.cx i j).isSome).head? := by unfold cr2; rw [List.head?_filter]
      cases hL : row.filter fun j => decide (i < j) && (clr cr.cx i j).isSome with
      | nil =>
        rw [hL] at hh
        simp_arith [List.map_nil]
        exact .inl ⟨by rw [hh]; rfl, some (.int i), some (.lst []), rfl⟩
      | cons j0 t0 =>
        rw [hL] at hh
        simp_arith [List.map_cons]
        refine ⟨fun h => (by cases h), fun _ => ?_⟩
        exact .inr ⟨_, rfl, by rw [hh]; rfl⟩
    · rintro _ ⟨x4, x5, rfl⟩ hn
      refine .inl ⟨rfl, ?_, some (.int (done.length : Nat)), some (eT row), x4, x5, rfl⟩
      show (crossRow cr.cx row).map (fun q => eF "crossed" (done.length, q.1, q.2)) = none
      rw [hmap, hn]
    · intro d s hs hd
      refine .inr ⟨d, rfl, ?_, hs⟩
      show (crossRow cr.cx row).map (fun q => eF "crossed" (done.length, q.1, q.2)) = some d
      rw [hmap, hd]
  · rintro _ ⟨x2, x3, x4, x5, rfl⟩ hn
    have hm : (crossF cr.cx rows).map (eF "crossed") = rows.zipIdx.findSome? fun p : List Int × Nat => (crossRow cr.cx p.1).map fun q => eF "crossed" (p.2, q.1, q.2) := by
      unfold crossF; rw [List.map_findSome?]; congr 1; funext i; simp [Function.comp_def, Option.map_map]
    rw [← hm, Option.map_eq_none_iff] at hn
    unfold faultF
    rw [hn]
    simp_arith
    refine wp_find (enc := fun p : List Int × Nat => D.tup [.int (p.2 : Nat), eT p.1]) (fun p => (earlyR cr.cx cr.mv.length rows p.2 p.1).map fun q => eF "early" (p.2, q.1, q.2)) (fun done s => ∃ (l : List (Int × Int)) (x2 x3 x4 x7 x8 x9 : Option D), KeyT cr.mv.length rows done.length l ∧ s = ⟨[some (.val (eCr cr)), some (.val (.lst (rows.map eT))), jv x2, jv x3, jv x4, jv x5, some (.ownK (dks l) (dvs D.int l)), jv x7, jv x8, jv x9], c⟩) (fun s => s.src = c) ⟨[], x2, x3, x4, none, none, none, ⟨by simp, fun k => rfl, by simp⟩, rfl⟩ ?_ ?_ ?_
    · rintro done ⟨row, t⟩ rest _ hx ⟨l, x2, x3, x4, x7, x8, x9, hk, rfl⟩
      obtain ⟨rfl, hrow, htl⟩ := zip_at hx
      have hrr := hrg row (List.mem_of_getElem? hrow)
      simp_arith
      rw [wp_lstO (l := l.map (·.1)) (ds := dvs D.int l) (by rw [dks_keys]; rfl)]
      simp_arith
      have hkl := hk.len
      refine ⟨by rw [List.length_map]; omega, ?_⟩
      have e1 : isort (l.map (·.1)) = (zIn cr.mv.length).filter fun i => (lastT rows done.length i).isSome := hk.srt
      rw [e1]
      let f : Int → Option D := fun i => (row.find? (earlyJ cr.cx rows done.length i)).map fun j => eF "early" (done.length, i, j)
      have hf : ((zIn cr.mv.length).filter fun i => (lastT rows done.length i).isSome).findSome? f = (zIn cr.mv.length).findSome? f := find_filter _ _ _ fun i _ hi => by
        have : lastT rows done.length i = none := by simpa using hi
        show (row.find? (earlyJ cr.cx rows done.length i)).map _ = none
        rw [List.find?_eq_none.mpr fun j _ => by simp [earlyJ, this, tooE]]; rfl
      refine wp_find (enc := D.int) f (fun _ s => ∃ (x4 x7 x8 x9 : Option D), s = ⟨[some (.val (eCr cr)), some (.val (.lst (rows.map eT))), some (.val (.int (done.length : Nat))), some (.val (eT row)), jv x4, jv x5, some (.ownK (dks l) (dvs D.int l)), jv x7, jv x8, jv x9], c⟩) (fun s => s.src = c) ⟨x4, x7, x8, x9, rfl⟩ ?_ ?_ ?_
      · rintro done2 i rest2 _ hx2 ⟨x4, x7, x8, x9, rfl⟩
        have hi : (lastT rows done.length i).isSome = true := by
          have : i ∈ (zIn cr.mv.length).filter fun i => (lastT rows done.length i).isSome := by rw [hx2]; simp
          exact (List.mem_filter.mp this).2
        obtain ⟨u, hu⟩ := Option.isSome_iff_exists.mp hi
        have hlk : lkp l i = some (u : Int) := by rw [hk.lk, hu]; rfl
        simp_arith
        refine wp_find (enc := D.int) (fun j => if earlyJ cr.cx rows done.length i j = true then some (eF "early" (done.length, i, j)) else none) (fun _ s => ∃ (x7 x8 x9 : Option D), s = ⟨[some (.val (eCr cr)), some (.val (.lst (rows.map eT))), some (.val (.int (done.length : Nat))), some (.val (eT row)), some (.val (.int i)), jv x5, some (.ownK (dks l) (dvs D.int l)), jv x7, jv x8, jv x9], c⟩) (fun s => s.src = c) ⟨x7, x8, x9, rfl⟩ ?_ ?_ ?_
        · rintro done3 j rest3 _ hx3 ⟨x7, x8, x9, rfl⟩
          simp_all_arith
          refine wp_mid' (fun s => s = ⟨[some (.val (eCr cr)), some (.val (.lst (rows.map eT))), some (.val (.int (done.length : Nat))), some (.val (eT row)), some (.val (.int i)), jv x5, some (.ownK (dks l) (dvs D.int l)), some (.val (.int j)), some (.val (eN (clr cr.cx i j))), jv x9], c⟩) ?_ ?_
          · have hII : clr cr.cx i i = none := clr_self hg.ns i
            simp_arith [cl_eq (law_clr_eq cr i j c)]
            refine ⟨fun hij => .inl ?_, fun _ => .inl trivial⟩
            rw [← hij, hII]; rfl
          · rintro _ rfl
            refine wp_mid' (fun s => s = ⟨[some (.val (eCr cr)), some (.val (.lst (rows.map eT))), some (.val (.int (done.length : Nat))), some (.val (eT row)), some (.val (.int i)), jv x5, some (.ownK (dks l) (dvs D.int l)), some (.val (.int j)), some (.val (eN (clr cr.cx i j))), some (.val (.bl (!decide (j ∈ aheadT rows done.length))))], c⟩) ?_ ?_
            · simp_arith
              refine ⟨fun h => ?_, fun h => ?_⟩
              · have h0 : done.length = 0 := by omega
                have e1 : decide ((done.length : Int) = 0) = !decide (j ∈ aheadT rows done.length) := by rw [h0]; simp [aheadT]
                rw [e1]
                exact .inl rfl
              · refine (at_nth (xs := rows) (by omega) (by omega)).mpr ?_
                simp_arith [sm_ninE]
                rw [← aheadT_pos (by omega)]
                exact .inl rfl
            · rintro _ rfl
              cases hc : clr cr.cx i j with
              | none =>
                have hE : earlyJ cr.cx rows done.length i j = false := by simp [earlyJ, hu, tooE, hc]
                simp_arith [eN, hE]
                exact .inl ⟨rfl, some (.int j), some .non, some (.bl (!decide (j ∈ aheadT rows done.length))), rfl⟩
              | some w =>
                have hE : earlyJ cr.cx rows done.length i j = (!decide (j ∈ aheadT rows done.length) && decide ((done.length : Int) - (u : Nat) - 1 < w)) := by simp [earlyJ, hu, tooE, hc]
                simp_arith [eN, hE, hlk]
                refine ⟨fun h => .inl ⟨by rw [decide_eq_true h]; rfl, some (.int j), some (.int w), some (.bl (!decide (j ∈ aheadT rows done.length))), rfl⟩, fun h => ⟨fun h2 => .inr ⟨_, rfl, by rw [decide_eq_false h, decide_eq_true h2]; rfl⟩, fun h2 => .inl ⟨by rw [decide_eq_false h, decide_eq_false h2]; rfl, some (.int j), some (.int w), some (.bl (!decide (j ∈ aheadT rows done.length))), rfl⟩⟩⟩
        · rintro _ ⟨x7, x8, x9, rfl⟩ hn
          rw [find_ite, Option.map_eq_none_iff] at hn
          exact .inl ⟨rfl, by show (row.find? _).map _ = none; rw [hn]; rfl, some (.int i), x7, x8, x9, rfl⟩
        · intro d s hs hd
          rw [find_ite] at hd
          exact .inr ⟨d, rfl, hd, hs⟩
      · rintro _ ⟨x4, x7, x8, x9, rfl⟩ hn
        rw [hf] at hn
        simp_arith
        refine wp_for (enc := D.int) (fun done2 _ s => ∃ (l2 : List (Int × Int)) (x4 : Option D), (l2.map (·.1)).Nodup ∧ (∀ k, lkp l2 k = if k ∈ done2 then some (done.length : Int) else lkp l k) ∧ (∀ k : Int, k ∈ l2.map (·.1) → 0 ≤ k ∧ k < (cr.mv.length : Int)) ∧ s = ⟨[some (.val (eCr cr)), some (.val (.lst (rows.map eT))), some (.val (.int (done.length : Nat))), some (.val (eT row)), jv x4, jv x5, some (.ownK (dks l2) (dvs D.int l2)), jv x7, jv x8, jv x9], c⟩) ⟨l, x4, hk.nd, fun k => by simp, hk.rg, rfl⟩ ?_ ?_
        · rintro done2 i rest2 _ hx2 ⟨l2, x4, k1, k2, k3, rfl⟩
          have hi := hrr i (by rw [hx2]; simp)
          have hlen : l2.length ≤ 1000 := by
            have hsub : (l2.map (·.1)).Nodup := k1
            have := List.Nodup.length_le_of_subset (l₂ := zIn cr.mv.length) hsub fun k hk => zIn_mem.mpr (k3 k hk)
            have e2 : (zIn cr.mv.length).length = cr.mv.length := by simp [zIn]
            rw [List.length_map] at this
            omega
          obtain ⟨p1, p2⟩ := put_stp (l := l2) (k := i) (v := (done.length : Int)) (f := D.int) k1
          simp_arith
          refine ⟨by unfold dks; rw [List.length_map]; omega, stp l2 i done.length, some (.int i), stp_nodup k1, fun k => ?_, fun k hk => ?_, ?_⟩
          · rw [lkp_stp]
            by_cases hki : k = i
            · subst hki; simp
            · rw [if_neg hki, k2 k]
              have : k ∈ done2 ++ [i] ↔ k ∈ done2 := by simp [hki]
              simp only [this]
          · rcases stp_keys.mp hk with rfl | h
            · exact hi
            · exact k3 k h
          · rw [p1, p2]; rfl
        · rintro _ ⟨l2, x4, k1, k2, k3, rfl⟩
          refine .inl ⟨rfl, ?_, l2, some (.int (done.length : Nat)), some (eT row), x4, x7, x8, x9, ?_, rfl⟩
          · show (earlyR cr.cx cr.mv.length rows done.length row).map (fun q => eF "early" (done.length, q.1, q.2)) = none
            rw [early_map]; exact hn
          · rw [show (done ++ [(row, done.length)]).length = done.length + 1 by simp]
            exact hk.row hrow k1 k2 k3
      · intro d s hs hd
        rw [hf] at hd
        simp_arith
        refine .inr ⟨d, rfl, ?_, hs⟩
        show (earlyR cr.cx cr.mv.length rows done.length row).map (fun q => eF "early" (done.length, q.1, q.2)) = some d
        rw [early_map]; exact hd
    · rintro _ ⟨l, x2, x3, x4, x7, x8, x9, hk, rfl⟩ hn2
      rw [earlyF_map, hn2]
      simp_arith
      rfl
    · intro d s hs hd
      rw [earlyF_map, hd]
      simp_arith
      exact ⟨rfl, hs⟩
  · intro d s hs hd
    have hm : (crossF cr.cx rows).map (eF "crossed") = rows.zipIdx.findSome? fun p : List Int × Nat => (crossRow cr.cx p.1).map fun q => eF "crossed" (p.2, q.1, q.2) := by
      unfold crossF; rw [List.map_findSome?]; congr 1; funext i; simp [Function.comp_def, Option.map_map]
    rw [← hm] at hd
    obtain ⟨f, hf, rfl⟩ := Option.map_eq_some_iff.mp hd
    unfold faultF
    rw [hf]
    simp_arith
    exact hs
end GW
end

noncomputable section
namespace GW
open GH
structure Safe (cx : List C4) (n : Nat) (rows : List (List Int)) : Prop where
  free : ∀ row ∈ rows, ∀ i ∈ row, ∀ j ∈ row, clr cx i j = none
  gap : ∀ u t : Nat, u < t → ∀ i ∈ rows.getD u [], ∀ j ∈ rows.getD t [], ∀ w, clr cx i j = some w → (u : Int) + 1 + w ≤ t
  tail : ∀ u : Nat, ∀ i ∈ rows.getD u [], ∀ j : Int, 0 ≤ j → j < n → ∀ w, clr cx i j = some w → (u : Int) + 1 + w ≤ rows.length
theorem safe_0 (cx : List C4) (n : Nat) : Safe cx n [] := ⟨by simp, by simp, by simp⟩
theorem Safe.seg {cx : List C4} {n : Nat} {rows : List (List Int)} (h : Safe cx n rows) {st : List Int} (hs : Lot cx n st) (ticks k : Nat) (hk : ∀ i ∈ st, ∀ j : Int, 0 ≤ j → j < n → ∀ w, clr cx i j = some w → w ≤ k) : Safe cx n (rows ++ (List.replicate ticks st ++ List.replicate k [])) := by
  have hget : ∀ u : Nat, (rows ++ (List.replicate ticks st ++ List.replicate k [])).getD u [] = if u < rows.length then rows.getD u [] else if u - rows.length < ticks then st else [] := fun u => by
    rw [getD_app, getD_app, List.length_replicate, getD_rep, getD_rep]
    by_cases h1 : u < rows.length
    · rw [if_pos h1, if_pos h1]
    · rw [if_neg h1, if_neg h1]
      by_cases h2 : u - rows.length < ticks
      · simp only [if_pos h2]
      · simp only [if_neg h2, ite_self]
  have hlen : (rows ++ (List.replicate ticks st ++ List.replicate k [])).length = rows.length + (ticks + k) := by simp
  refine ⟨fun row hr i hi j hj => ?_, fun u t hut i hi j hj w hw => ?_, fun u i hi j h0 h1 w hw => ?_⟩
  · rcases List.mem_append.mp hr with z | z
    · exact h.free row z i hi j hj
    · rcases List.mem_append.mp z with y | y
      · rw [List.eq_of_mem_replicate y] at hi hj
        exact hs.free i hi j hj
      · rw [List.eq_of_mem_replicate y] at hi; cases hi
  · rw [hget] at hi hj
    by_cases ht : t < rows.length
    · rw [if_pos (by omega)] at hi
      rw [if_pos ht] at hj
      exact h.gap u t hut i hi j hj w hw
    · rw [if_neg ht] at hj
      split at hj
      · have hjn := hs.inn j hj
        split at hi
        · have := h.tail u i hi j hjn.1 hjn.2 w hw
          omega
        · split at hi
          · rw [hs.free i hi j hj] at hw; cases hw
          · cases hi
      · cases hj
  · rw [hget] at hi
    rw [hlen]
    split at hi
    · have := h.tail u i hi j h0 h1 w hw
      omega
    · split at hi
      · have := hk i hi j h0 h1 w hw
        omega
      · cases hi
theorem clg_ge {cr : Cr} (hg : GoodX cr) {st : List Int} {i j w : Int} (hi : i ∈ st) (h0 : 0 ≤ j) (h1 : j < cr.mv.length) (hw : clr cr.cx i j = some w) : w ≤ clg cr.cx cr.mv.length st := by
  refine (fold_ge (clrL cr.cx cr.mv.length st) 0).2 w ?_
  refine List.mem_flatMap.mpr ⟨i, hi, List.mem_map.mpr ⟨j.toNat, List.mem_range.mpr (by omega), ?_⟩⟩
  unfold cell
  rw [show ((j.toNat : Nat) : Int) = j by omega, hw]; rfl
theorem Safe.plan {cr : Cr} (hg : GoodX cr) : ∀ {plan : List (Int × Int)} {rows : List (List Int)}, (∀ p ∈ plan, 0 ≤ p.1 ∧ p.1 < (stg cr.cx cr.mv.length).length) → Safe cr.cx cr.mv.length rows → Safe cr.cx cr.mv.length (rows ++ someR cr plan)
  | [], rows, _, h => by simpa [someR] using h
  | p :: r, rows, hp, h => by
    obtain ⟨b1, b2⟩ := hp p List.mem_cons_self
    have hc := hg.clgS p.1
    have := h.seg (hg.st b1 b2).2 p.2.toNat (clgS cr p.1).toNat fun i hi j h0 h1 w hw => by
      have := clg_ge hg hi h0 h1 hw
      have e : clgS cr p.1 = clg cr.cx cr.mv.length (stgS cr p.1) := rfl
      omega
    have h2 := Safe.plan hg (plan := r) (fun q hq => hp q (List.mem_cons_of_mem _ hq)) this
    have e : someR cr (p :: r) = segR cr p ++ someR cr r := rfl
    rw [e, ← List.append_assoc]
    exact h2
theorem Safe.lamps {cr : Cr} (hg : GoodX cr) : ∀ {plans : List (List (Int × Int))} {rows : List (List Int)}, (∀ p ∈ plans, PlanG cr p) → Safe cr.cx cr.mv.length rows → Safe cr.cx cr.mv.length (rows ++ lampsF cr plans)
  | [], rows, _, h => by simpa [lampsF] using h
  | p :: r, rows, hp, h => by
    have h1 := h.plan hg (plan := p) fun q hq => ⟨((hp p List.mem_cons_self).inn q hq).1, ((hp p List.mem_cons_self).inn q hq).2.1⟩
    have h2 := h1.seg (lot_nil cr.cx cr.mv.length) 0 (cr.len - (someR cr p).length).toNat (by simp)
    have h3 := Safe.lamps hg (plans := r) (fun q hq => hp q (List.mem_cons_of_mem _ hq)) h2
    have e : lampsF cr (p :: r) = frmR cr p ++ lampsF cr r := rfl
    rw [e]
    unfold frmR
    simpa using h3
theorem lastT_some {rows : List (List Int)} {i : Int} : ∀ {t u : Nat}, lastT rows t i = some u → u < t ∧ i ∈ rows.getD u []
  | 0, _, h => by cases h
  | t + 1, u, h => by
    unfold lastT at h
    split at h
    · rename_i hi
      cases h
      exact ⟨by omega, hi⟩
    · obtain ⟨a, b⟩ := lastT_some h
      exact ⟨by omega, b⟩
theorem Safe.fault {cx : List C4} {n : Nat} {rows : List (List Int)} (h : Safe cx n rows) : faultF cx n rows = .non := by
  have h1 : crossF cx rows = none := by
    unfold crossF
    rw [List.findSome?_eq_none_iff]
    rintro ⟨row, t⟩ hp
    have hr : row ∈ rows := by
      have := List.mem_zipIdx' hp
      exact this.2 ▸ List.getElem_mem _
    rw [Option.map_eq_none_iff]
    unfold crossRow
    rw [List.findSome?_eq_none_iff]
    intro i hi
    rw [Option.map_eq_none_iff]
    unfold cr2
    rw [List.find?_eq_none]
    intro j hj
    rw [h.free row hr i hi j hj]
    simp
  have h2 : earlyF cx n rows = none := by
    unfold earlyF
    rw [List.findSome?_eq_none_iff]
    rintro ⟨row, t⟩ hp
    have hr := List.mem_zipIdx' hp
    have hrow : rows.getD t [] = row := by
      rw [List.getD_eq_getElem?_getD, List.getElem?_eq_getElem hr.1]; exact hr.2.symm
    rw [Option.map_eq_none_iff]
    unfold earlyR
    rw [List.findSome?_eq_none_iff]
    intro i hi
    rw [Option.map_eq_none_iff, List.find?_eq_none]
    intro j hj z
    unfold earlyJ at z
    rw [Bool.and_eq_true] at z
    have z2 := z.2
    unfold tooE at z2
    cases e : lastT rows t i with
    | none => rw [e] at z2; cases z2
    | some u =>
      rw [e] at z2
      simp only at z2
      obtain ⟨hu, hiu⟩ := lastT_some e
      cases e2 : clr cx i j with
      | none => rw [e2] at z2; cases z2
      | some w =>
        rw [e2] at z2
        have := h.gap u t hu i hiu j (by rw [hrow]; exact hj) w e2
        have z3 := of_decide_eq_true z2
        omega
  unfold faultF
  rw [h1, h2]; rfl
theorem lamps_fault {cr : Cr} (hg : GoodX cr) {plans : List (List (Int × Int))} (hp : ∀ p ∈ plans, PlanG cr p) : faultF cr.cx cr.mv.length (lampsF cr plans) = .non := by
  have := Safe.lamps hg hp (safe_0 cr.cx cr.mv.length)
  rw [List.nil_append] at this
  exact this.fault
theorem perm_sum {a b : List Int} (h : a.Perm b) : a.sum = b.sum := by
  induction h with
  | nil => rfl
  | cons x _ ih => simp [ih]
  | swap x y l => simp; omega
  | trans _ _ h1 h2 => rw [h1, h2]
theorem rep_sum (x : Int) : ∀ n : Nat, (List.replicate n x).sum = n * x
  | 0 => by simp
  | n + 1 => by rw [List.replicate_succ, List.sum_cons, rep_sum x n]; push_cast; rw [Int.add_mul]; omega
theorem grn_sum {cr : Cr} : ∀ {plan : List (Int × Int)} {t : Int}, (∀ p ∈ plan, 1 ≤ p.2) → ((grn cr t plan).map fun x => x.getD 2 0 - x.getD 1 0).sum = ((someR cr plan).map fun r => (r.length : Int)).sum
  | [], _, _ => rfl
  | p :: r, t, h => by
    have h1 := h p List.mem_cons_self
    have ih := grn_sum (cr := cr) (plan := r) (t := t + (p.2 + clgS cr p.1)) fun q hq => h q (List.mem_cons_of_mem _ hq)
    have e : someR cr (p :: r) = segR cr p ++ someR cr r := rfl
    simp only [grn, List.map_append, List.sum_append]
    rw [ih, e, List.map_append, List.sum_append]
    congr 1
    unfold segR
    rw [List.map_append, List.sum_append, List.map_replicate, List.map_replicate, rep_sum, rep_sum, List.map_map]
    have : ∀ l : List Int, (l.map ((fun x : List Int => x.getD 2 0 - x.getD 1 0) ∘ fun i => [i, t, t + p.2])) = List.replicate l.length p.2 := fun l => by
      rw [List.eq_replicate_iff]
      refine ⟨by simp, fun b hb => ?_⟩
      obtain ⟨i, _, rfl⟩ := List.mem_map.mp hb
      simp; omega
    rw [this, rep_sum]
    rw [show ((p.2.toNat : Nat) : Int) = p.2 by omega, Int.mul_comm]
    simp
theorem greens_sum {cr : Cr} {plan : List (Int × Int)} (hp : PlanG cr plan) : ((greensF cr plan).map fun x => x.getD 2 0 - x.getD 1 0).sum = ((lampsF cr [plan]).map fun r => (r.length : Int)).sum := by
  have e : lampsF cr [plan] = frmR cr plan := by simp [lampsF]
  unfold greensF
  rw [perm_sum ((tsort_perm _).map _), grn_sum fun p h => (hp.inn p h).2.2, e]
  unfold frmR
  rw [List.map_append, List.sum_append, List.map_replicate, rep_sum]
  simp
end GW
end

noncomputable section
namespace GW
open GH
theorem shw_word {w : PySem.Str} (h : w = "crossed" ∨ w = "early") : Shw 0 40 (.str w) := by
  rcases h with rfl | rfl
  · exact ⟨by decide +kernel, rfl, by simp [D.py, PySem.PyData.depth], by simp only [D.py, PySem.PyData.weight]; decide +kernel, rfl, by unfold sgn; decide +kernel⟩
  · exact ⟨by decide +kernel, rfl, by simp [D.py, PySem.PyData.depth], by simp only [D.py, PySem.PyData.weight]; decide +kernel, rfl, by unfold sgn; decide +kernel⟩
theorem shw_eF {w : PySem.Str} (h : w = "crossed" ∨ w = "early") {t : Nat} {i j : Int} (ht : t ≤ 100000) (hi : 0 ≤ i ∧ i < 100) (hj : 0 ≤ j ∧ j < 100) : Shw 1 200 (eF w (t, i, j)) := by
  refine (shw_tup (n := 0) (w := 40) (m := 4) (fun d hd => ?_) (by simp)).up (by omega) (by omega)
  simp only [List.mem_cons, List.not_mem_nil, or_false] at hd
  rcases hd with rfl | rfl | rfl | rfl
  · exact shw_word h
  · exact shw_int (by omega)
  · exact shw_int (by omega)
  · exact shw_int (by omega)
theorem crossF_mem {cx : List C4} {rows : List (List Int)} {f : Nat × Int × Int} (h : crossF cx rows = some f) : f.1 < rows.length ∧ ∃ row ∈ rows, f.2.1 ∈ row ∧ f.2.2 ∈ row := by
  obtain ⟨⟨row, t⟩, hp, e⟩ := List.exists_of_findSome?_eq_some h
  have hr := List.mem_zipIdx' hp
  obtain ⟨q, hq, rfl⟩ := Option.map_eq_some_iff.mp e
  obtain ⟨i, hi, e2⟩ := List.exists_of_findSome?_eq_some hq
  obtain ⟨j, hj, rfl⟩ := Option.map_eq_some_iff.mp e2
  exact ⟨hr.1, row, hr.2 ▸ List.getElem_mem _, hi, List.mem_of_find?_eq_some hj⟩
theorem earlyF_mem {cx : List C4} {n : Nat} {rows : List (List Int)} {f : Nat × Int × Int} (h : earlyF cx n rows = some f) : f.1 < rows.length ∧ (0 ≤ f.2.1 ∧ f.2.1 < n) ∧ ∃ row ∈ rows, f.2.2 ∈ row := by
  obtain ⟨⟨row, t⟩, hp, e⟩ := List.exists_of_findSome?_eq_some h
  have hr := List.mem_zipIdx' hp
  obtain ⟨q, hq, rfl⟩ := Option.map_eq_some_iff.mp e
  obtain ⟨i, hi, e2⟩ := List.exists_of_findSome?_eq_some hq
  obtain ⟨j, hj, rfl⟩ := Option.map_eq_some_iff.mp e2
  exact ⟨hr.1, zIn_mem.mp hi, row, hr.2 ▸ List.getElem_mem _, List.mem_of_find?_eq_some hj⟩
theorem shw_fault {cx : List C4} {n : Nat} {rows : List (List Int)} (hn : n ≤ 100) (hl : rows.length ≤ 100000) (hr : ∀ row ∈ rows, ∀ i ∈ row, 0 ≤ i ∧ i < (n : Int)) : Shw 1 200 (faultF cx n rows) ∧ isStr (faultF cx n rows) = false := by
  unfold faultF
  cases h : crossF cx rows with
  | some f =>
    obtain ⟨t, i, j⟩ := f
    obtain ⟨h1, row, hrow, h2, h3⟩ := crossF_mem h
    simp only at h1 h2 h3
    have a := hr row hrow i h2
    have b := hr row hrow j h3
    exact ⟨shw_eF (.inl rfl) (by omega) (by omega) (by omega), rfl⟩
  | none =>
    cases h2 : earlyF cx n rows with
    | none => exact ⟨shw_non, rfl⟩
    | some f =>
      obtain ⟨t, i, j⟩ := f
      obtain ⟨h1, h3, row, hrow, h4⟩ := earlyF_mem h2
      simp only at h1 h3 h4
      have b := hr row hrow j h4
      exact ⟨shw_eF (.inr rfl) (by omega) (by omega) (by omega), rfl⟩
/-- numbers, each once, ascending -/
theorem nubI_mem : ∀ (l acc : List Int) (x : Int), x ∈ nubI l acc ↔ x ∈ acc ∨ x ∈ l
  | [], acc, x => by simp [nubI]
  | y :: r, acc, x => by
    unfold nubI
    rw [nubI_mem r]
    by_cases h : y ∈ acc
    · rw [if_pos h, List.mem_cons]
      constructor
      · rintro (z | z)
        · exact .inl z
        · exact .inr (.inr z)
      · rintro (z | rfl | z)
        · exact .inl z
        · exact .inl h
        · exact .inr z
    · rw [if_neg h]
      simp only [List.mem_append, List.mem_cons, List.not_mem_nil, or_false]
      constructor
      · rintro ((z | rfl) | z)
        · exact .inl z
        · exact .inr (.inl rfl)
        · exact .inr (.inr z)
      · rintro (z | rfl | z)
        · exact .inl (.inl z)
        · exact .inl (.inr rfl)
        · exact .inr z
theorem nubI_len : ∀ (l acc : List Int), (nubI l acc).length ≤ acc.length + l.length
  | [], acc => by simp [nubI]
  | y :: r, acc => by
    unfold nubI
    have := nubI_len r (if y ∈ acc then acc else acc ++ [y])
    have h2 : (if y ∈ acc then acc else acc ++ [y]).length ≤ acc.length + 1 := by split <;> simp
    simp only [List.length_cons]
    omega
/-- a lot with one more -/
def withI (row : List Int) (i : Int) : List Int := isort (nubI (row ++ [i]) [])
theorem withI_mem {row : List Int} {i x : Int} : x ∈ withI row i ↔ x ∈ row ∨ x = i := by
  unfold withI
  rw [(isort_perm _).mem_iff, nubI_mem]
  simp
end GW
end

noncomputable section
namespace GW
open GH
def Valid (cr : Cr) (plan : List (Int × Int)) : Prop := ∀ p ∈ plan, 0 ≤ p.1 ∧ p.1 < (stg cr.cx cr.mv.length).length
theorem PlanG.valid {cr : Cr} {plan : List (Int × Int)} (h : PlanG cr plan) : Valid cr plan := fun p hp => ⟨(h.inn p hp).1, (h.inn p hp).2.1⟩
theorem need_of_eq (cr : Cr) (plan : List (Int × Int)) (c : Src) (hg : GoodX cr) (hv : Valid cr plan) (hl : plan.length ≤ 1000) : S_need_of [eCr cr, ePl plan] c = some (.int (need cr plan), c) := by
  simp_arith! [m_need_of, sm_seqPl]
  refine wp_compM (enc := eP2) (fun p => D.int (p.2 + clgS cr p.1)) (by omega) (by simp_arith) (fun p hp => by
    obtain ⟨b1, b2⟩ := hv p hp
    have hcl : S_clear_ticks [eCr cr, .int p.1] c = some (.int (clgS cr p.1), c) := clear_eq cr p.1 c hg b1 b2
    rw [show eP2 p = D.tup [.int p.1, .int p.2] from rfl]
    simp_arith [cl_eq hcl]) ?_
  rw [show plan.map (fun p => D.int (p.2 + clgS cr p.1)) = (plan.map fun p => p.2 + clgS cr p.1).map D.int by rw [List.map_map]; rfl]
  simp_arith
  rfl
theorem law_need_eq (cr : Cr) (plan : List (Int × Int)) (c : Src) (hg : GoodX cr) (hv : Valid cr plan) (hl : plan.length ≤ 1000) : S__law_need [eCr cr, ePl plan] c = some (.int (need cr plan), c) := by
  have h6 := hg.le
  simp_arith! [m__law_need]
  rw [cl_eq (law_stages_eq cr c hg.ns hg.ne hg.le)]
  simp_arith [sm_seqPl]
  refine wp_compM (enc := eP2) (fun p => D.int (p.2 + clgS cr p.1)) (by omega) (by simp_arith) (fun p hp => by
    obtain ⟨b1, b2⟩ := hv p hp
    have hst := (hg.st b1 b2).2.len
    have hcl : S__law_clearing [eCr cr, eT (nth (stg cr.cx cr.mv.length) p.1)] c = some (.int (clgS cr p.1), c) := law_clearing_eq cr (stgS cr p.1) c hg (by omega)
    rw [show eP2 p = D.tup [.int p.1, .int p.2] from rfl]
    simp_arith [at_nth (xs := stg cr.cx cr.mv.length) b1 b2]
    rw [cl_eq hcl]
    simp_arith) ?_
  rw [show plan.map (fun p => D.int (p.2 + clgS cr p.1)) = (plan.map fun p => p.2 + clgS cr p.1).map D.int by rw [List.map_map]; rfl]
  simp_arith
  rfl
def capSt (t : Int) (a : List Int) (i : Int) : List Int := a.set i.toNat (nth a i + (t - 1))
def capP (cr : Cr) (a : List Int) (p : Int × Int) : List Int := (stgS cr p.1).foldl (capSt p.2) a
def capF (cr : Cr) (plan : List (Int × Int)) : List Int := plan.foldl (capP cr) (List.replicate cr.mv.length 0)
theorem capSt_len (t : Int) : ∀ (l : List Int) (a : List Int), (l.foldl (capSt t) a).length = a.length
  | [], _ => rfl
  | i :: r, a => by rw [List.foldl_cons, capSt_len t r]; simp [capSt]
theorem capP_len (cr : Cr) : ∀ (pl : List (Int × Int)) (a : List Int), (pl.foldl (capP cr) a).length = a.length
  | [], _ => rfl
  | p :: r, a => by rw [List.foldl_cons, capP_len cr r]; exact capSt_len _ _ _
theorem capF_len (cr : Cr) (plan : List (Int × Int)) : (capF cr plan).length = cr.mv.length := by unfold capF; rw [capP_len]; simp
theorem capacity_eq (cr : Cr) (plan : List (Int × Int)) (c : Src) (hg : GoodX cr) (hv : Valid cr plan) : S_capacity_of [eCr cr, ePl plan] c = some (eT (capF cr plan), c) := by
  have h6 := hg.le
  simp_arith! [m_capacity_of]
  rw [cl_eq (stages_eq cr c hg.ns (by have := hg.cl; omega) hg.ne hg.le)]
  simp_arith
  refine wp_compM (fun _ : Mv => D.int 0) (by omega) (by simp_arith) (fun x _ => by simp_arith) ?_
  have e0 : (cr.mv.map fun _ => D.int 0) = (List.replicate cr.mv.length (0 : Int)).map D.int := by rw [List.map_replicate, List.map_const']
  rw [e0]
  simp_arith [sm_seqPl]
  refine wp_for (enc := eP2) (fun done _ s => ∃ (x4 x5 x6 : Option D), s = ⟨[some (.val (eCr cr)), some (.val (ePl plan)), some (.val (eR (stg cr.cx cr.mv.length))), some (.own ((done.foldl (capP cr) (List.replicate cr.mv.length 0)).map D.int)), jv x4, jv x5, jv x6, none], c⟩) ⟨none, none, none, rfl⟩ ?_ ?_
  · rintro done ⟨s0, ticks⟩ rest _ hx ⟨x4, x5, x6, rfl⟩
    obtain ⟨b1, b2⟩ := hv (s0, ticks) (by rw [hx]; simp)
    simp only at b1 b2
    have hst := (hg.st b1 b2).2
    have hlen := capP_len cr done (List.replicate cr.mv.length 0)
    rw [List.length_replicate] at hlen
    simp_arith [eP2, at_nth (xs := stg cr.cx cr.mv.length) b1 b2]
    refine wp_for (fun done2 _ s => ∃ (x6 : Option D), s = ⟨[some (.val (eCr cr)), some (.val (ePl plan)), some (.val (eR (stg cr.cx cr.mv.length))), some (.own ((done2.foldl (capSt ticks) (done.foldl (capP cr) (List.replicate cr.mv.length 0))).map D.int)), some (.val (.int s0)), some (.val (.int ticks)), jv x6, none], c⟩) ⟨x6, rfl⟩ ?_ ?_
    · rintro done2 i rest2 _ hx2 ⟨x6, rfl⟩
      obtain ⟨i1, i2⟩ := hst.inn i (by show i ∈ nth (stg cr.cx cr.mv.length) s0; rw [hx2]; simp)
      have hl2 := capSt_len ticks done2 (done.foldl (capP cr) (List.replicate cr.mv.length 0))
      obtain ⟨a, ha⟩ : ∃ a, a = done2.foldl (capSt ticks) (done.foldl (capP cr) (List.replicate cr.mv.length 0)) := ⟨_, rfl⟩
      rw [← ha] at hl2 ⊢
      simp_arith [at_nth (xs := a) i1 (by omega), List.length_map]
      rw [ix_ok i1 (by omega)]
      simp_arith
      exact ⟨some (.int i), by rw [List.foldl_append, List.foldl_cons, List.foldl_nil, ← ha]; unfold capSt; rw [List.map_set]; rfl⟩
    · rintro _ ⟨x6, rfl⟩
      refine ⟨some (.int s0), some (.int ticks), x6, ?_⟩
      rw [List.foldl_append]
      rfl
  · rintro _ ⟨x4, x5, x6, rfl⟩
    simp_arith
    rfl
theorem law_capacity_eq (cr : Cr) (plan : List (Int × Int)) (c : Src) (hg : GoodX cr) (hv : Valid cr plan) : S__law_capacity [eCr cr, ePl plan] c = some (eT (capF cr plan), c) := by
  have h6 := hg.le
  simp_arith! [m__law_capacity]
  rw [cl_eq (law_stages_eq cr c hg.ns hg.ne hg.le)]
  simp_arith
  refine wp_compM (fun _ : Mv => D.int 0) (by omega) (by simp_arith) (fun x _ => by simp_arith) ?_
  have e0 : (cr.mv.map fun _ => D.int 0) = (List.replicate cr.mv.length (0 : Int)).map D.int := by rw [List.map_replicate, List.map_const']
  rw [e0]
  simp_arith [sm_seqPl]
  refine wp_for (enc := eP2) (fun done _ s => ∃ (x4 x5 x6 : Option D), s = ⟨[some (.val (eCr cr)), some (.val (ePl plan)), some (.val (.lst ((stg cr.cx cr.mv.length).map eT))), some (.own ((done.foldl (capP cr) (List.replicate cr.mv.length 0)).map D.int)), jv x4, jv x5, jv x6, none], c⟩) ⟨none, none, none, rfl⟩ ?_ ?_
  · rintro done ⟨s0, ticks⟩ rest _ hx ⟨x4, x5, x6, rfl⟩
    obtain ⟨b1, b2⟩ := hv (s0, ticks) (by rw [hx]; simp)
    simp only at b1 b2
    have hst := (hg.st b1 b2).2
    have hlen := capP_len cr done (List.replicate cr.mv.length 0)
    rw [List.length_replicate] at hlen
    simp_arith [eP2, at_nth (xs := stg cr.cx cr.mv.length) b1 b2]
    refine wp_for (fun done2 _ s => ∃ (x6 : Option D), s = ⟨[some (.val (eCr cr)), some (.val (ePl plan)), some (.val (.lst ((stg cr.cx cr.mv.length).map eT))), some (.own ((done2.foldl (capSt ticks) (done.foldl (capP cr) (List.replicate cr.mv.length 0))).map D.int)), some (.val (.int s0)), some (.val (.int ticks)), jv x6, none], c⟩) ⟨x6, rfl⟩ ?_ ?_
    · rintro done2 i rest2 _ hx2 ⟨x6, rfl⟩
      obtain ⟨i1, i2⟩ := hst.inn i (by show i ∈ nth (stg cr.cx cr.mv.length) s0; rw [hx2]; simp)
      have hl2 := capSt_len ticks done2 (done.foldl (capP cr) (List.replicate cr.mv.length 0))
      obtain ⟨a, ha⟩ : ∃ a, a = done2.foldl (capSt ticks) (done.foldl (capP cr) (List.replicate cr.mv.length 0)) := ⟨_, rfl⟩
      rw [← ha] at hl2 ⊢
      simp_arith [at_nth (xs := a) i1 (by omega), List.length_map]
      rw [ix_ok i1 (by omega)]
      simp_arith
      exact ⟨some (.int i), by rw [List.foldl_append, List.foldl_cons, List.foldl_nil, ← ha]; unfold capSt; rw [List.map_set, show nth a i + (ticks - 1) = nth a i + ticks - 1 by omega]; rfl⟩
    · rintro _ ⟨x6, rfl⟩
      refine ⟨some (.int s0), some (.int ticks), x6, ?_⟩
      rw [List.foldl_append]
      rfl
  · rintro _ ⟨x4, x5, x6, rfl⟩
    simp_arith
    rfl
def geAll (a b : List Int) : Bool := (a.zip b).all fun p => decide (p.1 ≥ p.2)
theorem sm_neTT {a b : List Int} {P : D → Prop} : Sm (neD (eT a) (eT b)) P ↔ P (.bl (!decide (a = b))) := by unfold eT; rw [sm_neIT]
theorem least_eq (a b : List Int) (c : Src) (h : a.length ≤ 1000) : S__law_is_least [eT a, eT b] c = some (.bl (geAll a b), c) := by
  simp_arith! [m__law_is_least]
  refine wp_compM (fun p : Int × Int => D.bl (decide (p.1 ≥ p.2))) (by simp; omega) (by simp_arith) (fun p _ => by simp_arith) ?_
  simp_arith
  rfl
theorem above_eq (a b : List Int) (c : Src) (h : a.length ≤ 1000) : S_is_above [eT a, eT b] c = some (.bl (!decide (a = b) && geAll a b), c) := by
  simp_arith! [m_is_above, sm_neTT]
  refine ⟨fun e => ?_, fun e => ?_⟩
  · rw [decide_eq_true e]; first | rfl | exact ⟨rfl, rfl⟩
  · refine wp_compM (fun p : Int × Int => D.bl (decide (p.1 ≥ p.2))) (by simp; omega) (by simp_arith) (fun p _ => by simp_arith) ?_
    simp_arith
    rw [decide_eq_false e]
    first | rfl | exact ⟨rfl, rfl⟩
theorem one_crossing_cl (c : Src) : Cl S__law_one_crossing [.src] c fun d _ => ∃ cr, CrOk 4 cr ∧ d = eCr cr := by
  refine fn_cl ?_
  simp only [startE_s, startE_n, startE_z, m__law_one_crossing]
  simp_arith
  refine cl_pick (by decide) (by decide) fun r c1 hr hr' => ?_
  simp_arith
  rw [show [D.int 0, D.int 1, D.int 2] = [(0 : Int), 1, 2].map D.int from rfl, cutL_map, cutL_to (by omega)]
  refine cl_pick (by decide) (by decide) fun r2 c2 hr2 hr2' => ?_
  simp_arith
  refine (crossing_cl 4 (3 + r2) (([(0 : Int), 1, 2]).take (1 + r).toNat) c2 (by decide) (by decide) ?_ ?_ ?_ (by omega) (by omega)).mono fun d c3 ⟨cr, h1, _, h3⟩ => ?_
  · intro e
    have := congrArg List.length e
    simp at this; omega
  · simp; omega
  · intro q hq
    have := List.mem_of_mem_take hq
    simp at this; omega
  · subst h3
    simp_arith
    exact ⟨cr, h1, rfl⟩
end GW
end

noncomputable section
namespace GW
open GH
def XOk : D → Prop
  | .rng _ _ => False
  | .src => False
  | .dtt _ _ => False
  | _ => True
def isInt : D → Bool
  | .int _ => true
  | _ => false
theorem is_integer_eq (x : D) (c : Src) (h : XOk x) : S_is_integer [x] c = some (.bl (isInt x), c) := by
  cases x <;> first | rfl | exact h.elim
def goodP (K : Int) : D → Bool
  | .tup [.int a, .int b] => (decide (0 ≤ a) && decide (a < K)) && decide (0 < b)
  | _ => false
def unP : D → Int × Int
  | .tup [.int a, .int b] => (a, b)
  | _ => (0, 0)
structure EOk (e : D) : Prop where
  x : XOk e
  t : ∀ es, e = .tup es → es.length ≤ 1000 ∧ ∀ x ∈ es, XOk x
structure VOk (v : D) : Prop where
  x : XOk v
  t : ∀ ds, v = .tup ds → ds.length ≤ 1000 ∧ ∀ e ∈ ds, EOk e
theorem goodP_2 (K : Int) (x y : D) (h : goodP K (.tup [x, y]) = true) : ∃ a b, x = .int a ∧ y = .int b ∧ 0 ≤ a ∧ a < K ∧ 0 < b := by
  cases x <;> cases y <;> simp [goodP] at h
  rename_i a b
  exact ⟨a, b, rfl, rfl, h.1.1, h.1.2, h.2⟩
theorem goodP_is {K : Int} {e : D} (h : goodP K e = true) : ∃ a b, e = .tup [.int a, .int b] ∧ 0 ≤ a ∧ a < K ∧ 0 < b := by
  unfold goodP at h
  split at h
  · rename_i a b
    simp at h
    exact ⟨a, b, rfl, h.1.1, h.1.2, h.2⟩
  · cases h
def isTup : D → Bool
  | .tup _ => true
  | _ => false
theorem isT {d : D} (h : XOk d) : isiD "tuple" d = some (.bl (isTup d)) := by
  cases d <;> first | rfl | exact h.elim
theorem is_pair_eq (e : D) (K : Int) (c : Src) (h : EOk e) : S_is_pair [e, .int K] c = some (.bl (goodP K e), c) := by
  simp_arith! [m_is_pair]
  rw [sm_eq (isT h.x)]
  cases e with
  | tup es =>
    obtain ⟨hl, hx⟩ := h.t es rfl
    simp_arith [isTup]
    refine ⟨fun h2 => ?_, fun h2 => ?_⟩
    · obtain ⟨x, y, rfl⟩ : ∃ x y, es = [x, y] := by
        match es, h2 with
        | [x, y], _ => exact ⟨x, y, rfl⟩
        | [], h => simp at h
        | [x], h => simp at h
        | x :: y :: z :: t, h => simp at h; omega
      have hX := hx x (by simp)
      have hY := hx y (by simp)
      simp_arith [cl_eq (is_integer_eq x c hX), cl_eq (is_integer_eq y c hY)]
      cases x with
      | int i =>
        simp_arith [isInt, cl_eq (is_integer_eq y c hY)]
        cases y with
        | int j =>
          simp_arith [isInt]
          refine ⟨fun h1 => ⟨fun h3 => ?_, fun h3 => ?_⟩, fun h1 => ?_⟩
          · simp only [goodP, decide_eq_true h1, decide_eq_true h3, Bool.true_and]
          · simp only [goodP, decide_eq_false h3, Bool.and_false, Bool.false_and]
          · simp only [goodP, decide_eq_false h1, Bool.false_and]
        | _ => first | exact hY.elim | (simp_arith [isInt]; rfl)
      | _ => first | exact hX.elim | (simp_arith [isInt]; rfl)
    · have : goodP K (.tup es) = false := by
        cases hg : goodP K (.tup es) with
        | false => rfl
        | true =>
          obtain ⟨a, b, e, _⟩ := goodP_is hg
          cases e
          exact absurd rfl h2
      rw [this]
  | _ => first | exact h.x.elim | (simp_arith [isTup]; rfl)
section
variable {g : D → M Unit} {cc : M Bool} {el : M D} {vs : List Nat} {env : List (Option Sl)} {src : Src}
theorem wp_compI (h : D → D) {ds : List D} {Q : List D → S → Prop} (hl : ds.length ≤ 16777216) (cl : cleanE env vs)
    (step : ∀ x ∈ ds, Wp (turnC g cc el x) ⟨wipeE env vs, src⟩ fun o s' => o = some (h x) ∧ s'.src = src ∧ wipeE s'.env vs = wipeE env vs) (q : Q (ds.map h) ⟨env, src⟩) : Wp (compE vs g cc el ds) ⟨env, src⟩ Q := by
  have := wp_compM (enc := fun x : D => x) h (xs := ds) hl cl step q
  rwa [show ds.map (fun x : D => x) = ds from List.map_id _] at this
end
def isBl : D → Bool
  | .bl _ => true
  | _ => false
theorem isI1 {z : D} (h : XOk z) : isiD "int" z = some (.bl (isInt z || isBl z)) := by cases z <;> first | rfl | exact h.elim
theorem isB1 {z : D} (h : XOk z) : isiD "bool" z = some (.bl (isBl z)) := by cases z <;> first | rfl | exact h.elim
theorem int_bl (z : D) : isInt z = true → isBl z = false := by cases z <;> simp [isInt, isBl]
theorem isInt_is {z : D} (h : isInt z = true) : ∃ i, z = .int i := by cases z <;> simp [isInt] at h; exact ⟨_, rfl⟩
theorem wp_findI {g : D → M Unit} {b : M Out} {xs : List D} {s : S} {Q : Out → S → Prop} (f : D → Option D) (I : List D → S → Prop) (E : S → Prop) (h0 : I [] s)
    (hs : ∀ done x rest s, xs = done ++ x :: rest → I done s → Wp (g x) s fun _ s1 => Wp b s1 fun o s2 => (o = .nx ∧ f x = none ∧ I (done ++ [x]) s2) ∨ (∃ d, o = .ret d ∧ f x = some d ∧ E s2))
    (hn : ∀ s, I xs s → xs.findSome? f = none → Q .nx s) (hr : ∀ d s, E s → xs.findSome? f = some d → Q (.ret d) s) : Wp (GH.forM g b xs) s Q := by
  have := wp_find (enc := fun x : D => x) (xs := xs) f I E h0 hs hn hr
  rwa [show xs.map (fun x : D => x) = xs from List.map_id _] at this
def formD : D := .tup [.str "form"]
def twiceP (plan : List (Int × Int)) (k : Nat) : Bool := decide ((nth plan ((1 : Int) + (k : Nat))).1 = (nth plan ((1 : Int) + (k : Nat) - 1)).1)
def twiceF (plan : List (Int × Int)) : Option Nat := (List.range (plan.length - 1)).find? (twiceP plan)
def pfP (cr : Cr) (plan : List (Int × Int)) : D := match twiceF plan with
  | some k => .tup [.str "twice", .int ((1 : Int) + (k : Nat))]
  | none => if need cr plan ≤ cr.len then .non else .tup [.str "long", .int (need cr plan)]
def pf (cr : Cr) : D → D
  | .tup ds => if ds.all (goodP (stg cr.cx cr.mv.length).length) = true then pfP cr (ds.map unP) else formD
  | _ => formD
theorem good_all {K : Int} : ∀ {ds : List D}, ds.all (goodP K) = true → ds = (ds.map unP).map eP2 ∧ ∀ p ∈ ds.map unP, 0 ≤ p.1 ∧ p.1 < K ∧ 0 < p.2
  | [], _ => ⟨rfl, by simp⟩
  | d :: r, h => by
    rw [List.all_cons, Bool.and_eq_true] at h
    obtain ⟨a, b, rfl, h1, h2, h3⟩ := goodP_is h.1
    obtain ⟨e, q⟩ := good_all h.2
    refine ⟨by rw [List.map_cons, List.map_cons, ← e]; rfl, fun p hp => ?_⟩
    rw [List.map_cons] at hp
    rcases List.mem_cons.mp hp with rfl | z
    · exact ⟨h1, h2, h3⟩
    · exact q p z
theorem good_pl {cr : Cr} {ds : List D} (h : ds.all (goodP (stg cr.cx cr.mv.length).length) = true) : D.tup ds = ePl (ds.map unP) ∧ Valid cr (ds.map unP) := by
  obtain ⟨e, q⟩ := good_all h
  refine ⟨(congrArg D.tup e).trans rfl, fun p hp => ⟨(q p hp).1, (q p hp).2.1⟩⟩
theorem sm_lenPl {pl : List (Int × Int)} {P : D → Prop} : Sm (lenG [ePl pl]) P ↔ P (.int pl.length) := by unfold ePl; rw [sm_lenT, List.length_map]
theorem judge_plan_eq (cr : Cr) (v : D) (c : Src) (hg : GoodX cr) (hv : VOk v) : S_judge_plan [eCr cr, v] c = some (pf cr v, c) := by
  have hsl := hg.sgl
  simp_arith! [m_judge_plan]
  rw [cl_eq (stages_eq cr c hg.ns (by have := hg.cl; omega) hg.ne hg.le)]
  simp_arith
  rw [sm_eq (isT hv.x)]
  cases v with
  | tup ds =>
    obtain ⟨hl, hx⟩ := hv.t ds rfl
    simp_arith [isTup]
    refine wp_compI (fun e => D.bl (goodP (stg cr.cx cr.mv.length).length e)) (by omega) (by simp_arith) (fun e he => by
      simp_arith [cl_eq (is_pair_eq e (stg cr.cx cr.mv.length).length c (hx e he))]) ?_
    simp_arith
    cases ha : ds.all (goodP (stg cr.cx cr.mv.length).length) with
    | false =>
      simp_arith [pf, ha]
      rfl
    | true =>
      obtain ⟨e1, e2⟩ := good_pl ha
      have e3 : pf cr (.tup ds) = pfP cr (ds.map unP) := by simp only [pf, ha, if_true]
      rw [e3]
      simp_arith [e1]
      have hpl : (ds.map unP).length = ds.length := List.length_map ..
      rw [← hpl] at hl ⊢
      generalize ds.map unP = plan at e2 hl ⊢
      refine ⟨okR_of (by omega) (by omega), okR_of (by omega) (by omega), ?_⟩
      rw [show ((plan.length : Int) - 1).toNat = plan.length - 1 by omega]
      refine wp_find (enc := fun k : Nat => D.int (1 + (k : Nat))) (fun k => if twiceP plan k = true then some (D.tup [.str "twice", .int ((1 : Int) + (k : Nat))]) else none) (fun _ s => ∃ x3 : Option D, s = ⟨[some (.val (eCr cr)), some (.val (ePl plan)), some (.val (.int (stg cr.cx cr.mv.length).length)), jv x3, none, none], c⟩) (fun s => s.src = c) ⟨none, rfl⟩ ?_ ?_ ?_
      · rintro done k rest _ hx ⟨x3, rfl⟩
        have hk : k < plan.length - 1 := by
          have : k ∈ List.range (plan.length - 1) := by rw [hx]; simp
          exact List.mem_range.mp this
        simp_arith [sm_ixPl, at_nth (xs := plan) (show 0 ≤ (1 : Int) + (k : Nat) by omega) (by omega), at_nth (xs := plan) (show 0 ≤ (1 : Int) + (k : Nat) - 1 by omega) (by omega), sm_p20]
        refine ⟨fun h => .inr ⟨_, rfl, by rw [if_pos (show twiceP plan k = true from decide_eq_true h)]⟩, fun h => .inl ⟨by rw [if_neg (by simpa [twiceP] using h)], some (.int (1 + (k : Nat))), rfl⟩⟩
      · rintro _ ⟨x3, rfl⟩ hn
        rw [find_ite, Option.map_eq_none_iff] at hn
        have ht : twiceF plan = none := hn
        simp_arith
        rw [cl_eq (need_of_eq cr plan c hg e2 hl)]
        simp_arith [pfP, ht]
        refine ⟨fun h => ?_, fun h => ?_⟩
        · rw [if_pos h]
        · rw [if_neg h]
      · intro d s hs hd
        rw [find_ite] at hd
        obtain ⟨k, hk, rfl⟩ := Option.map_eq_some_iff.mp hd
        have ht : twiceF plan = some k := hk
        simp_arith [pfP, ht]
        first | exact hs | exact ⟨rfl, hs⟩
  | _ => first | exact hv.x.elim | (simp_arith [isTup]; rfl)
def isN' : D → Bool
  | .non => true
  | _ => false
theorem is_plan_eq (cr : Cr) (v : D) (c : Src) (hg : GoodX cr) (hv : VOk v) : S_is_plan [eCr cr, v] c = some (.bl (isN' (pf cr v)), c) := by
  simp_arith! [m_is_plan]
  rw [cl_eq (judge_plan_eq cr v c hg hv)]
  simp_arith
  cases pf cr v <;> rfl
theorem law_plan_fault_eq (cr : Cr) (v : D) (c : Src) (hg : GoodX cr) (hv : VOk v) : S__law_plan_fault [eCr cr, v] c = some (pf cr v, c) := by
  have hsl := hg.sgl
  simp_arith! [m__law_plan_fault]
  rw [cl_eq (law_stages_eq cr c hg.ns hg.ne hg.le)]
  simp_arith
  rw [List.length_map, sm_eq (isT hv.x)]
  cases v with
  | tup ds =>
    obtain ⟨hl, hx⟩ := hv.t ds rfl
    simp_arith [isTup]
    refine wp_findI (fun e => if goodP (stg cr.cx cr.mv.length).length e = true then none else some formD) (fun _ s => ∃ x3 : Option D, s = ⟨[some (.val (eCr cr)), some (.val (.tup ds)), some (.val (.int (stg cr.cx cr.mv.length).length)), jv x3, none, none, none], c⟩) (fun s => s.src = c) ⟨none, rfl⟩ ?_ ?_ ?_
    · rintro done e rest _ hxx ⟨x3, rfl⟩
      have he := hx e (by rw [hxx]; simp)
      simp_arith
      rw [sm_eq (isT he.x)]
      cases e with
      | tup es =>
        obtain ⟨hl2, hx2⟩ := he.t es rfl
        simp_arith [isTup]
        refine ⟨fun h2 => ?_, fun h2 => ?_⟩
        · obtain ⟨x, y, rfl⟩ : ∃ x y, es = [x, y] := by
            match es, h2 with
            | [x, y], _ => exact ⟨x, y, rfl⟩
            | [], h => simp at h
            | [x], h => simp at h
            | x :: y :: z :: t, h => simp at h; omega
          have hX := hx2 x (by simp)
          have hY := hx2 y (by simp)
          refine wp_compI (fun x => D.bl (isInt x)) (by simp) (by simp_arith) (fun z hz => by
            have hZ := hx2 z hz
            have ho := int_bl z
            cases hi : isInt z <;> cases hb : isBl z <;> first | (rw [hi, hb] at ho; exact absurd (ho rfl) (by decide)) | (simp_arith [sm_eq (isI1 hZ), sm_eq (isB1 hZ), hi, hb]; done) | (simp_arith [sm_eq (isI1 hZ), sm_eq (isB1 hZ), hi, hb]; rfl)) ?_
          simp_arith
          rw [show [x, y].all isInt = (isInt x && isInt y) by simp only [List.all_cons, List.all_nil, Bool.and_true]]
          have hng : (isInt x && isInt y) = false → goodP (stg cr.cx cr.mv.length).length (.tup [x, y]) = false := fun hh => by
            cases hg : goodP (stg cr.cx cr.mv.length).length (.tup [x, y]) with
            | false => rfl
            | true =>
              obtain ⟨a, b, e, _⟩ := goodP_is hg
              cases e
              cases hh
          cases hi : (isInt x && isInt y) with
          | false =>
            simp_arith
            exact .inr ⟨formD, rfl, by rw [hng hi]; rfl⟩
          | true =>
            rw [Bool.and_eq_true] at hi
            obtain ⟨i, rfl⟩ := isInt_is hi.1
            obtain ⟨j, rfl⟩ := isInt_is hi.2
            have hg0 : ∀ b, ((decide (0 ≤ i) && decide (i < ((stg cr.cx cr.mv.length).length : Int))) && decide (0 < j)) = b → goodP (stg cr.cx cr.mv.length).length (.tup [.int i, .int j]) = b := fun b h => h
            simp_arith
            refine ⟨fun h1 => ⟨fun h2 => ⟨fun h3 => ?_, fun h3 => ?_⟩, fun h2 => ?_⟩, fun h1 => ?_⟩
            · exact .inr ⟨formD, rfl, by rw [hg0 false (by simp; omega)]; rfl⟩
            · exact .inl ⟨by rw [hg0 true (by simp; omega)]; rfl, some (.tup [.int i, .int j]), rfl⟩
            · exact .inr ⟨formD, rfl, by rw [hg0 false (by simp; omega)]; rfl⟩
            · exact .inr ⟨formD, rfl, by rw [hg0 false (by simp; omega)]; rfl⟩
        · have hb : goodP (stg cr.cx cr.mv.length).length (.tup es) = false := by
            cases hg : goodP (stg cr.cx cr.mv.length).length (.tup es) with
            | false => rfl
            | true =>
              obtain ⟨a, b, e, _⟩ := goodP_is hg
              cases e
              exact absurd rfl h2
          exact .inr ⟨formD, rfl, by rw [hb]; rfl⟩
      | _ => first | exact he.x.elim | (simp_arith [isTup]; exact .inr ⟨formD, rfl, rfl⟩)
    · rintro _ ⟨x3, rfl⟩ hn
      have ha : ds.all (goodP (stg cr.cx cr.mv.length).length) = true := by
        rw [List.findSome?_eq_none_iff] at hn
        exact List.all_eq_true.mpr fun e he => by
          have := hn e he
          by_cases hh : goodP (stg cr.cx cr.mv.length).length e = true
          · exact hh
          · rw [if_neg hh] at this; cases this
      obtain ⟨e1, e2⟩ := good_pl ha
      have e3 : pf cr (.tup ds) = pfP cr (ds.map unP) := by simp only [pf, ha, if_true]
      rw [e3]
      simp_arith [e1]
      have hpl : (ds.map unP).length = ds.length := List.length_map ..
      rw [← hpl] at hl ⊢
      generalize ds.map unP = plan at e2 hl ⊢
      refine ⟨okR_of (by omega) (by omega), okR_of (by omega) (by omega), ?_⟩
      rw [show ((plan.length : Int) - 1).toNat = plan.length - 1 by omega]
      refine wp_find (enc := fun k : Nat => D.int (1 + (k : Nat))) (fun k => if twiceP plan k = true then some (D.tup [.str "twice", .int ((1 : Int) + (k : Nat))]) else none) (fun _ s => ∃ x4 : Option D, s = ⟨[some (.val (eCr cr)), some (.val (ePl plan)), some (.val (.int (stg cr.cx cr.mv.length).length)), jv x3, jv x4, none, none], c⟩) (fun s => s.src = c) ⟨none, rfl⟩ ?_ ?_ ?_
      · rintro done k rest _ hx ⟨x4, rfl⟩
        have hk : k < plan.length - 1 := by
          have : k ∈ List.range (plan.length - 1) := by rw [hx]; simp
          exact List.mem_range.mp this
        simp_arith [sm_ixPl, at_nth (xs := plan) (show 0 ≤ (1 : Int) + (k : Nat) by omega) (by omega), at_nth (xs := plan) (show 0 ≤ (1 : Int) + (k : Nat) - 1 by omega) (by omega), sm_p20]
        refine ⟨fun h => .inr ⟨_, rfl, by rw [if_pos (show twiceP plan k = true from decide_eq_true h)]⟩, fun h => .inl ⟨by rw [if_neg (by simpa [twiceP] using h)], some (.int (1 + (k : Nat))), rfl⟩⟩
      · rintro _ ⟨x4, rfl⟩ hn
        rw [find_ite, Option.map_eq_none_iff] at hn
        have ht : twiceF plan = none := hn
        simp_arith
        rw [cl_eq (law_need_eq cr plan c hg e2 hl)]
        simp_arith [pfP, ht]
        refine ⟨fun h => ?_, fun h => ?_⟩
        · rw [if_pos h]
        · rw [if_neg h]
      · intro d s hs hd
        rw [find_ite] at hd
        obtain ⟨k, hk, rfl⟩ := Option.map_eq_some_iff.mp hd
        have ht : twiceF plan = some k := hk
        simp_arith [pfP, ht]
        first | exact hs | exact ⟨rfl, hs⟩
    · intro d s hs hd
      obtain ⟨e, he, h2⟩ := List.exists_of_findSome?_eq_some hd
      split at h2
      · cases h2
      · rename_i hb
        cases h2
        have ha : ds.all (goodP (stg cr.cx cr.mv.length).length) = false := by
          cases hh : ds.all (goodP (stg cr.cx cr.mv.length).length) with
          | false => rfl
          | true => exact absurd (List.all_eq_true.mp hh e he) hb
        simp_arith [pf, ha]
        first | exact hs | exact ⟨rfl, hs⟩
  | _ => first | exact hv.x.elim | (simp_arith [isTup]; rfl)
end GW
end

noncomputable section
namespace GW
open GH
def XV (x : D) : Prop := XOk x ∧ Sh4 1 130 x
structure EV (e : D) : Prop where
  ok : EOk e
  sh : Sh4 2 400 e
  tk : ∀ a b, e = .tup [.int a, .int b] → b ≤ 1000000000000000000000000000000
structure NV (v : D) : Prop where
  ok : VOk v
  rp : ∃ r, reprH [v] = some r ∧ neD r r = some (.bl false)
  tk : ∀ ds, v = .tup ds → ds.length ≤ 20 ∧ ∀ e ∈ ds, ∀ a b, e = .tup [.int a, .int b] → b ≤ 1000000000000000000000000000000
theorem xv_int {i : Int} (h : i.natAbs < 1000000000000000000000000000000000000000) : XV (.int i) := ⟨trivial, sh4_int h⟩
theorem xv_non : XV .non := ⟨trivial, (sh4_non (n := 0) (w := 0)).up (by omega) (by omega)⟩
theorem xv_bl (b : Bool) : XV (.bl b) := ⟨trivial, (sh4_bl (n := 0) (w := 0) b).up (by omega) (by omega)⟩
theorem xv_nil : XV (.lst []) := ⟨trivial, (sh4_lst (n := 0) (w := 130) (m := 0) (ds := []) (by simp) (by simp)).up (by omega) (by omega)⟩
theorem sh4_0 : Sh4 0 40 (.str "0") := ⟨by decide +kernel, rfl, by simp [D.py, PySem.PyData.depth], by simp only [D.py, PySem.PyData.weight]; decide +kernel, rfl, by unfold sgn; decide +kernel⟩
theorem sh4_1 : Sh4 0 40 (.str "1") := ⟨by decide +kernel, rfl, by simp [D.py, PySem.PyData.depth], by simp only [D.py, PySem.PyData.weight]; decide +kernel, rfl, by unfold sgn; decide +kernel⟩
theorem xv_0 : XV (.str "0") := ⟨trivial, sh4_0.up (by omega) (by omega)⟩
theorem xv_1 : XV (.str "1") := ⟨trivial, sh4_1.up (by omega) (by omega)⟩
theorem ev_tup {es : List D} (h : ∀ x ∈ es, XV x) (hl : es.length ≤ 3) (ht : ∀ a b, es = [.int a, .int b] → b ≤ 1000000000000000000000000000000) : EV (.tup es) :=
  ⟨⟨trivial, fun es' e => by cases e; exact ⟨by omega, fun x hx => (h x hx).1⟩⟩, (sh4_tup (n := 1) (w := 130) (m := 3) (fun x hx => (h x hx).2) hl).up (by omega) (by omega), fun a b e => by cases e; exact ht a b rfl⟩
theorem ev_2 {x y : D} (hx : XV x) (hy : XV y) (ht : ∀ b, y = .int b → b ≤ 1000000000000000000000000000000) : EV (.tup [x, y]) := ev_tup (fun z hz => by
  simp at hz; rcases hz with rfl | rfl <;> assumption) (by simp) fun a b e => by cases e; exact ht b rfl
theorem ev_lst {es : List D} (h : ∀ x ∈ es, XV x) (hl : es.length ≤ 3) : EV (.lst es) :=
  ⟨⟨trivial, fun es' e => by cases e⟩, (sh4_lst (n := 1) (w := 130) (m := 3) (fun x hx => (h x hx).2) hl).up (by omega) (by omega), fun a b e => by cases e⟩
theorem ev_non : EV .non := ⟨⟨trivial, fun es' e => by cases e⟩, (sh4_non (n := 0) (w := 0)).up (by omega) (by omega), fun a b e => by cases e⟩
theorem nv_sh {v : D} {n w : Nat} (hk : VOk v) (h : Sh4 n w v) (hn : n ≤ 60) (hw : w ≤ 300000) (hs : isStr v = false) (ht : ∀ ds, v = .tup ds → ds.length ≤ 20 ∧ ∀ e ∈ ds, ∀ a b, e = .tup [.int a, .int b] → b ≤ 1000000000000000000000000000000) : NV v :=
  ⟨hk, ⟨_, repr_sh4 h hn hw hs, neD_same (str_ok (sgn_ok h.txt))⟩, ht⟩
theorem nv_tup {ds : List D} (h : ∀ e ∈ ds, EV e) (hl : ds.length ≤ 20) : NV (.tup ds) :=
  nv_sh ⟨trivial, fun ds' e => by cases e; exact ⟨by omega, fun e he => (h e he).ok⟩⟩ (sh4_tup (n := 2) (w := 400) (m := 20) (fun e he => (h e he).sh) hl) (by omega) (by omega) rfl fun ds' e => by cases e; exact ⟨hl, fun e he => (h e he).tk⟩
theorem nv_lst {ds : List D} (h : ∀ e ∈ ds, EV e) (hl : ds.length ≤ 20) : NV (.lst ds) :=
  nv_sh ⟨trivial, fun ds' e => by cases e⟩ (sh4_lst (n := 2) (w := 400) (m := 20) (fun e he => (h e he).sh) hl) (by omega) (by omega) rfl fun ds' e => by cases e
theorem nv_non : NV .non := nv_sh ⟨trivial, fun ds' e => by cases e⟩ (sh4_non (n := 0) (w := 0)) (by omega) (by omega) rfl fun ds' e => by cases e
theorem nv_dct : NV (.dct [] []) := ⟨⟨trivial, fun ds' e => by cases e⟩, ⟨.str "{}", rfl, neD_same (str_ok (sgn_ok sgn_of))⟩, fun ds e => by cases e⟩
theorem nv_plan : NV (.str "plan") := ⟨⟨trivial, fun ds' e => by cases e⟩, ⟨.str (PySem.reprText "plan"), by
  show (if (PySem.reprText "plan").length ≤ PySem.sizeLine then some (D.str (PySem.reprText "plan")) else none) = _
  rw [if_pos (by decide +kernel)], neD_same (str_ok (by decide +kernel))⟩, fun ds e => by cases e⟩
theorem cutL_sub {α : Type} {xs : List α} {a b : Option Int} : (cutL xs a b).Sublist xs := by
  unfold cutL
  first
    | exact (List.drop_sublist _ _).trans (List.take_sublist _ _)
    | exact (List.take_sublist _ _).trans (List.drop_sublist _ _)
def oddL (K : Int) : List D := [.tup [.int K, .int 1], .tup [.int (0 - 1), .int 1], .tup [.int 0, .int 0], .tup [.int 0, .bl true], .tup [.bl false, .int 1], .tup [.int 0], .tup [.int 0, .int 1, .int 1], .lst [.int 0, .int 1], .non, .tup [.str "0", .int 1], .tup [.lst [], .int 1], .tup [.int 0, .int 1000000000000000000000000000000], .tup [.int 0, .non], .tup [.int 0, .str "1"], .tup [.int 0, .lst []]]
theorem odd_ok {K : Int} (h0 : 0 ≤ K) (h1 : K ≤ 64) : ∀ e ∈ oddL K, EV e := by
  have i : ∀ j : Int, -1 ≤ j → j ≤ 64 → XV (.int j) := fun j h1 h2 => xv_int (by omega)
  have t1 : ∀ b : Int, D.int 1 = .int b → b ≤ 1000000000000000000000000000000 := fun b e => by cases e; decide
  unfold oddL
  simp only [List.forall_mem_cons]
  refine ⟨ev_2 (i K (by omega) h1) (i 1 (by decide) (by decide)) t1, ev_2 (i _ (by decide) (by decide)) (i 1 (by decide) (by decide)) t1, ev_2 (i 0 (by decide) (by decide)) (i 0 (by decide) (by decide)) (fun b e => by cases e; decide), ev_2 (i 0 (by decide) (by decide)) (xv_bl _) (fun b e => by cases e), ev_2 (xv_bl _) (i 1 (by decide) (by decide)) t1, ev_tup (fun x hx => by simp at hx; subst hx; exact i 0 (by decide) (by decide)) (by simp) (fun a b e => by cases e), ev_tup (fun x hx => by simp at hx; rcases hx with rfl | rfl <;> exact i _ (by decide) (by decide)) (by simp) (fun a b e => by cases e), ev_lst (fun x hx => by simp at hx; rcases hx with rfl | rfl <;> exact i _ (by decide) (by decide)) (by simp), ev_non, ev_2 xv_0 (i 1 (by decide) (by decide)) t1, ev_2 xv_nil (i 1 (by decide) (by decide)) t1, ev_2 (i 0 (by decide) (by decide)) (xv_int (by decide)) (fun b e => by cases e; decide), ev_2 (i 0 (by decide) (by decide)) xv_non (fun b e => by cases e), ev_2 (i 0 (by decide) (by decide)) xv_1 (fun b e => by cases e), ev_2 (i 0 (by decide) (by decide)) xv_nil (fun b e => by cases e), by simp⟩
theorem near_cl (cr : Cr) (ps : List D) (c : Src) (hg : GoodX cr) (hps : ∀ e ∈ ps, EV e) (hl : ps.length ≤ 4) : Cl S__law_near_plans [.src, eCr cr, .tup ps] c fun d _ => ∃ vs, d = .lst vs ∧ vs.length ≤ 100 ∧ ∀ v ∈ vs, NV v := by
  have hsl := hg.sgl
  have hsn := stg_ne hg
  refine fn_cl ?_
  simp only [startE_s, startE_n, startE_z, m__law_near_plans]
  simp_arith
  rw [cl_eq (law_stages_eq cr c hg.ns hg.ne hg.le)]
  simp_arith
  refine cl_pick (by omega) (by omega) fun k c1 hk hk' => ?_
  simp_arith [List.length_map]
  refine cl_pick (by omega) (by omega) fun s c2 hs hs' => ?_
  simp_arith
  refine cl_pick (by decide) (by decide) fun t c3 ht ht' => ?_
  simp_arith
  have hA := (cutL_sub (xs := ps) (a := none) (b := some k)).length_le
  have hB := (cutL_sub (xs := ps) (a := some k) (b := none)).length_le
  have hC := (cutL_sub (xs := ps) (a := some (k + 1)) (b := none)).length_le
  have hD := (cutL_sub (xs := ps) (a := some (-1)) (b := none)).length_le
  have mA : ∀ e ∈ cutL ps none (some k), EV e := fun e he => hps e (cutL_sub.subset he)
  have mB : ∀ e ∈ cutL ps (some k) none, EV e := fun e he => hps e (cutL_sub.subset he)
  have mC : ∀ e ∈ cutL ps (some (k + 1)) none, EV e := fun e he => hps e (cutL_sub.subset he)
  have mD : ∀ e ∈ cutL ps (some (-1)) none, EV e := fun e he => hps e (cutL_sub.subset he)
  generalize eA : cutL ps none (some k) = A at hA mA ⊢
  generalize eB : cutL ps (some k) none = B at hB mB ⊢
  generalize eC : cutL ps (some (k + 1)) none = C at hC mC ⊢
  generalize eE : cutL ps (some (-1)) none = E at hD mD ⊢
  rw [List.length_map]
  refine ⟨by simp; omega, by simp; omega, by simp; omega, by simp; omega, by omega, by simp [PySem.sizeLine], ?_⟩
  simp_arith
  rw [sm_powI]
  refine ⟨⟨by decide, by decide, by decide⟩, ?_⟩
  rw [show (10 : Int) ^ Int.toNat 30 = 1000000000000000000000000000000 from by decide +kernel]
  simp_arith
  refine ⟨by simp, ?_⟩
  have hod := odd_ok (K := (stg cr.cx cr.mv.length).length) (by omega) (by omega)
  refine wp_compI (ds := oddL (stg cr.cx cr.mv.length).length) (fun one => D.tup (A ++ [one] ++ C)) (by simp [oddL]) (by simp_arith) (fun one _ => by
    simp_arith [eA, eC]
    exact ⟨by simp; omega, by simp; omega⟩) ?_
  simp_arith
  refine ⟨by simp [oddL], ?_⟩
  refine wp_compI (ds := oddL (stg cr.cx cr.mv.length).length) (fun one => D.tup ([D.tup [.int s, .int 1], D.tup [.int s, .int 1]] ++ ps ++ [one])) (by simp [oddL]) (by simp_arith) (fun one _ => by
    simp_arith
    exact ⟨by simp; omega, by simp; omega⟩) ?_
  simp_arith
  refine ⟨by simp [oddL], by simp [oddL], _, rfl, by simp [oddL], fun v hv => ?_⟩
  have hst : EV (.tup [.int s, .int (1 + t)]) := ev_2 (xv_int (by omega)) (xv_int (by omega)) (fun b e => by cases e; omega)
  have hs1 : EV (.tup [.int s, .int 1]) := ev_2 (xv_int (by omega)) (xv_int (by omega)) (fun b e => by cases e; omega)
  have app : ∀ {X Y : List D} {a b : Nat}, (∀ e ∈ X, EV e) → (∀ e ∈ Y, EV e) → ∀ e ∈ X ++ Y, EV e := fun hX hY e he => (List.mem_append.mp he).elim (hX e) (hY e)
  have one1 : ∀ {x : D}, EV x → ∀ e ∈ [x], EV e := fun hx e he => by rw [List.mem_singleton] at he; subst he; exact hx
  simp only [List.mem_append, List.mem_cons, List.mem_map, List.not_mem_nil, or_false] at hv
  rcases hv with (rfl | rfl | rfl | rfl | (⟨one, ho, rfl⟩ | ⟨one, ho, rfl⟩) | rfl | rfl | rfl | rfl | rfl | rfl)
  · exact nv_tup hps (by omega)
  · exact nv_tup (app (a := 0) (b := 0) (app (a := 0) (b := 0) mA (one1 hst)) mB) (by simp; omega)
  · exact nv_tup (app (a := 0) (b := 0) (app (a := 0) (b := 0) mA (one1 hst)) mC) (by simp; omega)
  · exact nv_tup (app (a := 0) (b := 0) hps mD) (by simp; omega)
  · exact nv_tup (app (a := 0) (b := 0) (app (a := 0) (b := 0) mA (one1 (hod one ho))) mC) (by simp; omega)
  · exact nv_tup (app (a := 0) (b := 0) (one1 hs1) (app (a := 0) (b := 0) (one1 hs1) (app (a := 0) (b := 0) hps (one1 (hod one ho))))) (by simp; omega)
  · exact nv_lst hps (by omega)
  · exact nv_non
  · exact nv_dct
  · exact nv_plan
  · exact nv_tup (app (a := 0) (b := 0) (one1 hst) (one1 hs1)) (by simp)
  · exact nv_tup (fun e he => hps e (List.mem_reverse.mp he)) (by simp; omega)
end GW
end

noncomputable section
namespace GW
open GH
theorem bent_cl (cr : Cr) (rows : List (List Int)) (c : Src) (hg : GoodX cr) (h1 : 1 ≤ rows.length) (h2 : rows.length ≤ 1000) (hr : ∀ row ∈ rows, row.length ≤ 6 ∧ ∀ i ∈ row, 0 ≤ i ∧ i < (cr.mv.length : Int)) :
    Cl S__law_bent_rows [.src, eCr cr, .lst (rows.map eT)] c fun d _ => ∃ rows' : List (List Int), d = .lst (rows'.map eT) ∧ rows'.length = rows.length ∧ ∀ row ∈ rows', row.length ≤ 6 ∧ ∀ i ∈ row, 0 ≤ i ∧ i < (cr.mv.length : Int) := by
  have hsl := hg.sgl
  have hsn := stg_ne hg
  have h6 := hg.le
  refine fn_cl ?_
  simp only [startE_s, startE_n, startE_z, m__law_bent_rows]
  simp_arith
  rw [cl_eq (law_stages_eq cr c hg.ns hg.ne hg.le)]
  simp_arith
  refine cl_pick (by decide) (by decide) fun r c1 hr1 hr1' => ?_
  simp_arith
  refine ⟨okR_of (by omega) (by omega), ?_⟩
  refine wp_for (fun _ _ s => ∃ (late : List (List Int)) (x5 x6 x7 x8 : Option D) (c : Src), late.length = rows.length ∧ (∀ row ∈ late, row.length ≤ 6 ∧ ∀ i ∈ row, 0 ≤ i ∧ i < (cr.mv.length : Int)) ∧ s = ⟨[some (.val .src), some (.val (eCr cr)), some (.val (.lst (rows.map eT))), some (.val (.lst ((stg cr.cx cr.mv.length).map eT))), some (.own (late.map eT)), jv x5, jv x6, jv x7, jv x8], c⟩) ⟨rows, none, none, none, none, c1, rfl, hr, rfl⟩ ?_ ?_
  · rintro done lap rest _ hx ⟨late, x5, x6, x7, x8, c, l1, l2, rfl⟩
    simp_arith [List.length_map]
    refine cl_pick (by omega) (by omega) fun k c2 hk hk' => ?_
    simp_arith [List.length_map]
    refine cl_pick (by omega) (by omega) fun s c3 hs hs' => ?_
    have hst := hg.st (s := s) hs hs'
    have hlot := hst.2
    simp_arith [at_nth (xs := stg cr.cx cr.mv.length) hs hs']
    refine ⟨rgOk_of (by omega) (by omega) (by omega) (by omega), cl_pick (by decide) (by decide) fun r c4 hr2 hr2' => ?_⟩
    rw [Int.toNat_natCast]
    have eL6 : ∀ (st : List Int), [D.tup [], eT st, eT (cutL st none (some 1)), D.tup ((List.range cr.mv.length).map fun k : Nat => D.int (k : Nat)), eT (cutL st (some (-1)) none), D.tup (cutL ((List.range cr.mv.length).map fun k : Nat => D.int (k : Nat)) none (some 2))] = [[], st, cutL st none (some 1), zIn cr.mv.length, cutL st (some (-1)) none, cutL (zIn cr.mv.length) none (some 2)].map eT := fun st => by
      have e1 : (List.range cr.mv.length).map (fun k : Nat => D.int (k : Nat)) = (zIn cr.mv.length).map D.int := by unfold zIn; rw [List.map_map]; rfl
      rw [e1, cutL_map]; rfl
    rw [eL6]
    have hgood : ∀ row ∈ [[], nth (stg cr.cx cr.mv.length) s, cutL (nth (stg cr.cx cr.mv.length) s) none (some 1), zIn cr.mv.length, cutL (nth (stg cr.cx cr.mv.length) s) (some (-1)) none, cutL (zIn cr.mv.length) none (some 2)], row.length ≤ 6 ∧ ∀ i ∈ row, 0 ≤ i ∧ i < (cr.mv.length : Int) := by
      have a : (nth (stg cr.cx cr.mv.length) s).length ≤ 6 ∧ ∀ i ∈ nth (stg cr.cx cr.mv.length) s, 0 ≤ i ∧ i < (cr.mv.length : Int) := ⟨by have := hlot.len; unfold stgS at this; omega, hlot.inn⟩
      have z : (zIn cr.mv.length).length ≤ 6 ∧ ∀ i ∈ zIn cr.mv.length, 0 ≤ i ∧ i < (cr.mv.length : Int) := ⟨by simp [zIn]; omega, fun i hi => zIn_mem.mp hi⟩
      have cut : ∀ {l : List Int} {a b : Option Int}, (l.length ≤ 6 ∧ ∀ i ∈ l, 0 ≤ i ∧ i < (cr.mv.length : Int)) → (cutL l a b).length ≤ 6 ∧ ∀ i ∈ cutL l a b, 0 ≤ i ∧ i < (cr.mv.length : Int) := fun {l a b} h => ⟨by have := (cutL_sub (xs := l) (a := a) (b := b)).length_le; omega, fun i hi => h.2 i (cutL_sub.subset hi)⟩
      intro row hrow
      simp only [List.mem_cons, List.not_mem_nil, or_false] at hrow
      rcases hrow with rfl | rfl | rfl | rfl | rfl | rfl
      · exact ⟨by simp, by simp⟩
      · exact a
      · exact cut a
      · exact z
      · exact cut a
      · exact cut z
    rw [sm_ixL, at_map]
    refine (at_nth (by omega) (by simp; omega)).mpr ?_
    have hw := hgood _ (nth_mem (xs := [[], nth (stg cr.cx cr.mv.length) s, cutL (nth (stg cr.cx cr.mv.length) s) none (some 1), zIn cr.mv.length, cutL (nth (stg cr.cx cr.mv.length) s) (some (-1)) none, cutL (zIn cr.mv.length) none (some 2)]) hr2 (by simp; omega))
    generalize nth [[], nth (stg cr.cx cr.mv.length) s, cutL (nth (stg cr.cx cr.mv.length) s) none (some 1), zIn cr.mv.length, cutL (nth (stg cr.cx cr.mv.length) s) (some (-1)) none, cutL (zIn cr.mv.length) none (some 2)] r = w at hw ⊢
    simp_arith [List.length_map]
    rw [ix_ok hk (by omega)]
    simp_arith
    refine ⟨late.set k.toNat w, some (.int lap), some (.int k), some (eT (nth (stg cr.cx cr.mv.length) s)), some (.tup ((List.range cr.mv.length).map fun k : Nat => D.int (k : Nat))), c4, by simp [l1], fun row hrow => ?_, by rw [List.map_set]; rfl⟩
    rcases List.mem_or_eq_of_mem_set hrow with h | h
    · exact l2 row h
    · rw [h]; exact hw
  · rintro _ ⟨late, x5, x6, x7, x8, c, l1, l2, rfl⟩
    simp_arith
    exact ⟨late, rfl, l1, l2⟩
end GW
end

noncomputable section
namespace GW
open GH
theorem need_ge1 {cr : Cr} (hg : GoodX cr) {plan : List (Int × Int)} (h : ∀ p ∈ plan, 1 ≤ p.2) : ∀ p ∈ plan, p.2 ≤ need cr plan := fun p hp => by
  obtain ⟨a, b, rfl⟩ := List.append_of_mem hp
  have h1 := need_ge hg (plan := a) fun q hq => h q (List.mem_append_left _ hq)
  have h2 := need_ge hg (plan := b) fun q hq => h q (List.mem_append_right _ (List.mem_cons_of_mem _ hq))
  have h3 := hg.clgS p.1
  have e : need cr (a ++ p :: b) = need cr a + ((p.2 + clgS cr p.1) + need cr b) := by rw [need_app]; rfl
  omega
theorem ev_plan {cr : Cr} (hg : GoodX cr) {plan : List (Int × Int)} (hp : PlanG cr plan) (hl8 : cr.len ≤ 30) : ∀ e ∈ plan.map eP2, EV e := fun e he => by
  obtain ⟨p, hpm, rfl⟩ := List.mem_map.mp he
  obtain ⟨a, b, d⟩ := hp.inn p hpm
  have := hg.sgl
  have := need_ge1 hg (fun q hq => (hp.inn q hq).2.2) p hpm
  have := hp.fit
  exact ev_2 (xv_int (by omega)) (xv_int (by omega)) (fun b e => by cases e; omega)
theorem sh4_word {w : PySem.Str} (h : w = "form" ∨ w = "twice" ∨ w = "long") : Sh4 0 40 (.str w) := by
  rcases h with rfl | rfl | rfl <;> exact ⟨by decide +kernel, rfl, by simp [D.py, PySem.PyData.depth], by simp only [D.py, PySem.PyData.weight]; decide +kernel, rfl, by unfold sgn; decide +kernel⟩
theorem need_le {cr : Cr} (hg : GoodX cr) {B : Int} (hB : 0 ≤ B) : ∀ {plan : List (Int × Int)}, (∀ p ∈ plan, 0 < p.2 ∧ p.2 ≤ B) → 0 ≤ need cr plan ∧ need cr plan ≤ plan.length * (B + 40)
  | [], _ => by simp [need]
  | p :: r, h => by
    have ih := need_le hg hB (plan := r) fun q hq => h q (List.mem_cons_of_mem _ hq)
    have h1 := h p List.mem_cons_self
    have h2 := hg.clgS p.1
    have e : need cr (p :: r) = (p.2 + clgS cr p.1) + need cr r := rfl
    rw [e, List.length_cons]
    push_cast
    rw [Int.add_mul]
    omega
theorem sh4_pf {cr : Cr} (hg : GoodX cr) {v : D} (hv : NV v) : Sh4 1 300 (pf cr v) ∧ isStr (pf cr v) = false := by
  have hform : Sh4 1 300 formD ∧ isStr formD = false := ⟨(sh4_tup (n := 0) (w := 40) (m := 1) (fun d hd => by simp at hd; subst hd; exact sh4_word (.inl rfl)) (by simp)).up (by omega) (by omega), rfl⟩
  cases v with
  | tup ds =>
    obtain ⟨hl, ht⟩ := hv.tk ds rfl
    cases ha : ds.all (goodP (stg cr.cx cr.mv.length).length) with
    | false => simp only [pf, ha]; exact hform
    | true =>
      obtain ⟨e1, q⟩ := good_all ha
      simp only [pf, ha, if_true]
      have hpl : (ds.map unP).length ≤ 20 := by rw [List.length_map]; exact hl
      have hb : ∀ p ∈ ds.map unP, 0 < p.2 ∧ p.2 ≤ 1000000000000000000000000000000 := fun p hp => by
        refine ⟨(q p hp).2.2, ?_⟩
        have hm : eP2 p ∈ ds := by rw [e1]; exact List.mem_map_of_mem hp
        exact ht _ hm p.1 p.2 rfl
      have hn := need_le hg (B := 1000000000000000000000000000000) (by decide) hb
      generalize ds.map unP = plan at hpl hn
      have hn2 : (plan.length : Int) * (1000000000000000000000000000000 + 40) ≤ 20 * (1000000000000000000000000000000 + 40) := Int.mul_le_mul_of_nonneg_right (by omega) (by decide)
      unfold pfP
      cases h2 : twiceF plan with
      | some k =>
        have hk : k < plan.length - 1 := by
          have := List.mem_of_find?_eq_some h2
          exact List.mem_range.mp this
        refine ⟨(sh4_tup (n := 0) (w := 130) (m := 2) (fun d hd => ?_) (by simp)).up (by omega) (by omega), rfl⟩
        simp only [List.mem_cons, List.not_mem_nil, or_false] at hd
        rcases hd with rfl | rfl
        · exact (sh4_word (.inr (.inl rfl))).up (by omega) (by omega)
        · exact sh4_int (by omega)
      | none =>
        simp only
        split
        · exact ⟨sh4_non, rfl⟩
        · refine ⟨(sh4_tup (n := 0) (w := 130) (m := 2) (fun d hd => ?_) (by simp)).up (by omega) (by omega), rfl⟩
          simp only [List.mem_cons, List.not_mem_nil, or_false] at hd
          rcases hd with rfl | rfl
          · exact (sh4_word (.inr (.inr rfl))).up (by omega) (by omega)
          · exact sh4_int (by omega)
  | _ => exact hform
theorem okN_rows (rows : List (List Int)) : (eR rows).okN 2 := D.okN_tup fun d hd => by
  obtain ⟨r, _, rfl⟩ := List.mem_map.mp hd
  exact okN_intsT r
theorem told_ok (n : Int) (cap : List Int) (rows : List (List Int)) : (D.lst [.int n, eT cap, eR rows]).ok := (D.okN_lst (n := 2) fun d hd => by
  simp only [List.mem_cons, List.not_mem_nil, or_false] at hd
  rcases hd with rfl | rfl | rfl
  · exact okN_mono (D.okN_int (n := 0) n) (by omega)
  · exact okN_mono (okN_intsT cap) (by omega)
  · exact okN_rows rows).ok
theorem ok_rows (rows : List (List Int)) : (D.lst (rows.map eT)).ok := (D.okN_lst (n := 1) fun d hd => by
  obtain ⟨r, _, rfl⟩ := List.mem_map.mp hd
  exact okN_intsT r).ok
theorem sm_neRows {rows : List (List Int)} {P : D → Prop} : Sm (neD (.lst (rows.map eT)) (.lst (rows.map eT))) P ↔ P (.bl false) := sm_eq (neD_same (ok_rows rows))
end GW
end

local macro_rules | `(tactic| simp_arith [$ls,*]) => `(tactic| simp only [↓GW.sm_lenE, ↓GW.sm_seqE, ↓GW.sm_ixE, ↓GW.sm_tupE, ↓GW.sm_tupEE, ↓GW.sm_slE, ↓GW.sm_addE, ↓GW.sm_lenR, ↓GW.sm_seqR, ↓GW.sm_ixR, ↓GW.sm_tupR, ↓GW.sm_slR, ↓GW.sm_addR, ↓GW.sm_isiE, ↓GW.sm_isiR, ↓GW.sm_seqCs, ↓GW.sm_cr0, ↓GW.sm_cr1, ↓GW.sm_cr2, ↓GW.sm_seqMvs, ↓GW.sm_lenMvs, ↓GW.sm_mv0, ↓GH.wp_ret, ↓GH.wp_lift, ↓GH.sm_some, ↓GH.sm_map, ↓GH.sm_bind, ↓GH.ifB_tt, ↓GH.ifB_ff, ↓GH.ifB_dec, ↓GH.ifB_not, ↓GH.nx_nx, ↓GH.nx_ret, ↓GH.nx_brk, ↓GH.nx_cnt, ↓GH.varAt_z, ↓GH.varAt_s, ↓GH.slAt_z, ↓GH.slAt_s, ↓GH.ownAt_z, ↓GH.ownAt_s, ↓GH.setAt_z, ↓GH.setAt_s, ↓GH.frzAt_z, ↓GH.frzAt_s, ↓GH.bor_val, ↓GH.bor_own, ↓GH.bor_ownK, ↓GH.bor_ownT, ↓GH.len_0, ↓GH.len_1, ↓GH.len_2, ↓GH.len_3, ↓GH.len_4, ↓GH.len_5, ↓GH.len_6, ↓GH.isB_bl, ↓GH.isI_int, ↓GH.wp_var, ↓GH.wp_frz, ↓GH.wp_C, ↓GH.wp_bin, ↓GH.wp_un, ↓GH.wp_tst, ↓GH.wp_tru, ↓GH.wp_and2, ↓GH.wp_or2, ↓GH.wp_not1, ↓GH.wp_eAnd, ↓GH.wp_eOr, ↓GH.wp_eNot, ↓GH.wp_eIf, ↓GH.wp_chain, ↓GH.wp_aNil, ↓GH.wp_aCons, ↓GH.wp_aStar, ↓GH.wp_tup, ↓GH.wp_disp, ↓GH.wp_lst, ↓GH.wp_call, ↓GH.wp_callL, ↓GH.wp_binL, ↓GH.wp_fn, ↓GH.wp_fld, ↓GH.wp_oNo, ↓GH.wp_oAt, ↓GH.wp_sl, ↓GH.wp_ixO, ↓GH.wp_here, ↓GH.wp_putL, ↓GH.wp_app, ↓GH.sm_app, ↓GH.wp_pop, ↓GH.sm_popL, ↓GH.wp_popAt, ↓GH.wp_bor, ↓GH.wp_tBor, ↓GH.isFlat_int, ↓GH.isFlat_bl, ↓GH.isFlat_non, ↓GH.isFlat_str, ↓GH.wp_seq, ↓GH.wp_nx, ↓GH.wp_sRet, ↓GH.wp_sIf, ↓GH.wp_sExpr, ↓GH.wp_asg, ↓GH.wp_gN, ↓GH.wp_gT, ↓GH.wp_gCons, ↓GH.wp_gNil, ↓GH.wp_set, ↓GH.wp_own, ↓GH.wp_aug, ↓GH.sm_aug, ↓GH.wp_setIx, ↓GH.wp_ownGet, ↓GH.wp_augIx, ↓GH.wp_sFor, ↓GH.wp_pNil, ↓GH.wp_pVal, ↓GH.wp_pOwn, ↓GH.wp_par, ↓GH.sm_put0, ↓GH.sm_put, ↓GH.wp_iSeq, ↓GH.wp_rg1, ↓GH.wp_rg2, ↓GH.wp_enum, ↓GH.wp_zip2, ↓GH.wp_zip3, ↓GH.wp_lRg1, ↓GH.wp_lRg2, ↓GH.wp_tupRg, ↓GH.sm_addI, ↓GH.sm_addT, ↓GH.sm_addL, ↓GH.sm_addLD, ↓GH.sm_subI, ↓GH.sm_mulI, ↓GH.sm_mulL, ↓GH.sm_mulLD, ↓GH.sm_modI, ↓GH.sm_fdivI, ↓GH.sm_ltI, ↓GH.sm_leI, ↓GH.sm_gtI, ↓GH.sm_geI, ↓GH.sm_eqI, ↓GH.sm_neI, ↓GH.sm_notN, ↓GH.sm_ixT, ↓GH.sm_ixL, ↓GH.sm_ownO, ↓GH.sm_ownL, ↓GH.sm_ownT, ↓GH.at_0, ↓GH.at_1, ↓GH.at_2, ↓GH.at_3, ↓GH.at_4, ↓GH.at_map, ↓GH.sm_lenL, ↓GH.sm_lenT, ↓GH.sm_intI, ↓GH.sm_intB, ↓GH.sm_absI, ↓GH.sm_tupT, ↓GH.sm_lstL, ↓GH.sm_lstT, ↓GH.sm_sumL1, ↓GH.sm_sumT1, ↓GH.sm_sumL, ↓GH.sm_sumT, ↓GH.sm_maxI, ↓GH.sm_minI, ↓GH.sm_maxL1, ↓GH.sm_minL1, ↓GH.sm_maxL, ↓GH.sm_minL, ↓GH.sm_anyL, ↓GH.sm_allL, ↓GH.sm_negI, ↓GH.sm_revL, ↓GH.sm_revT, ↓GH.sm_seqL, ↓GH.sm_seqT, ↓GH.sm_slL, ↓GH.sm_slT, ↓GH.sm_truB, ↓GH.sm_truN, ↓GH.sm_truI, ↓GH.sm_truL, ↓GH.sm_truT, ↓GH.sm_inR, ↓GH.sm_inT, ↓GH.sm_inL, ↓GH.sm_ninT, ↓GH.sm_ninL, ↓GH.sm_setL, ↓GH.wp_comp, ↓GH.wp_turn, ↓GH.lp_nx, ↓GH.lp_cnt, ↓GH.lp_brk, ↓GH.lp_ret, ↓GH.outR_ret, ↓GH.outR_nx, ↓GH.ownB_L, ↓GH.ownB_K, ↓GH.ownB_T, ↓GH.wp_nw, ↓GH.wp_nK0, ↓GH.wp_nT0, ↓GH.wp_dpNil, ↓GH.wp_dpCons, ↓GH.wp_nDisp, ↓GH.wp_ownN, ↓GH.wp_pOwnN, ↓GH.wp_dgO, ↓GH.own2_K, ↓GH.own2_T, ↓GH.own2_s, ↓GH.wp_here2, ↓GH.wp_putD, ↓GH.putAt_s, ↓GH.putAt_K, ↓GH.putAt_T, ↓GH.wp_sPutD, ↓GH.sm_keyI, ↓GH.sm_keyS, ↓GH.sm_keysT, ↓GH.sm_dgK, ↓GH.sm_dgT, ↓GH.sm_dinK, ↓GH.sm_dinT, ↓GH.sm_dninK, ↓GH.sm_dninT, ↓GH.dctAt_KI, ↓GH.dctAt_T, ↓GH.dctAt_s, ↓GH.wp_forD, ↓GH.noneAt_z, ↓GH.noneAt_s, ↓GH.wp_noneAt, ↓GH.wp_newL, ↓GH.wp_newP, ↓GH.wp_setL, ↓GH.wp_fillL, ↓GH.wp_lSl, ↓GH.sm_lstD, ↓GH.enumP_map, ↓GH.zip2P_map, ↓GH.zip3P_map, ↓GH.sm_eqNilI, ↓GH.sm_neNilI, ↓GH.sm_eqIL, ↓GH.sm_neIL, ↓GH.sm_eqIT, ↓GH.sm_neIT, ↓GH.at_snoc, ↓GH.sm_ne3, ↓GH.sm_ne2, ↓GH.sm_srtI, ↓GH.wp_rgV, ↓GH.isR_rng, ↓GH.sm_rng1, ↓GH.wp_ext, ↓GH.sm_extL, ↓GH.sm_srtD, GH.isV_none, GH.isV_val, GH.isV_jv, GH.allV_nil, GH.allV_cons, GH.jv_some, GH.jv_none, GH.out_nx, GH.kGet_lkp, GH.lkp_isSome, GH.borF, GH.bor_z, GH.bor_tt, GH.bor_no, GH.clean_nil, GH.clean_cons, GH.cleanAt_s, GH.cleanAt_n, GH.cleanAt_v, GH.cleanAt_j, GH.wipe_nil, GH.wipe_cons, GH.startE_z, GH.startE_n, GH.startE_s, eq_self, Option.isSome_map, List.set_cons_zero, List.set_cons_succ, List.cons_append, List.nil_append, and_true, true_and, and_self, true_implies, implies_true, not_false_eq_true, not_true_eq_false, false_implies, Option.some.injEq, List.contains_cons, List.contains_nil, Nat.reduceBEq, Bool.or_false, Bool.or_true, Bool.false_or, Bool.true_or, Nat.zero_add, Nat.reduceAdd, $ls,*])
local macro_rules | `(tactic| simp_all_arith [$ls,*]) => `(tactic| simp only [↓GW.sm_lenE, ↓GW.sm_seqE, ↓GW.sm_ixE, ↓GW.sm_tupE, ↓GW.sm_tupEE, ↓GW.sm_slE, ↓GW.sm_addE, ↓GW.sm_lenR, ↓GW.sm_seqR, ↓GW.sm_ixR, ↓GW.sm_tupR, ↓GW.sm_slR, ↓GW.sm_addR, ↓GW.sm_isiE, ↓GW.sm_isiR, ↓GW.sm_seqCs, ↓GW.sm_cr0, ↓GW.sm_cr1, ↓GW.sm_cr2, ↓GW.sm_seqMvs, ↓GW.sm_lenMvs, ↓GW.sm_mv0, ↓GH.wp_ret, ↓GH.wp_lift, ↓GH.sm_some, ↓GH.sm_map, ↓GH.sm_bind, ↓GH.ifB_tt, ↓GH.ifB_ff, ↓GH.ifB_dec, ↓GH.ifB_not, ↓GH.nx_nx, ↓GH.nx_ret, ↓GH.nx_brk, ↓GH.nx_cnt, ↓GH.varAt_z, ↓GH.varAt_s, ↓GH.slAt_z, ↓GH.slAt_s, ↓GH.ownAt_z, ↓GH.ownAt_s, ↓GH.setAt_z, ↓GH.setAt_s, ↓GH.frzAt_z, ↓GH.frzAt_s, ↓GH.bor_val, ↓GH.bor_own, ↓GH.bor_ownK, ↓GH.bor_ownT, ↓GH.len_0, ↓GH.len_1, ↓GH.len_2, ↓GH.len_3, ↓GH.len_4, ↓GH.len_5, ↓GH.len_6, ↓GH.isB_bl, ↓GH.isI_int, ↓GH.wp_var, ↓GH.wp_frz, ↓GH.wp_C, ↓GH.wp_bin, ↓GH.wp_un, ↓GH.wp_tst, ↓GH.wp_tru, ↓GH.wp_and2, ↓GH.wp_or2, ↓GH.wp_not1, ↓GH.wp_eAnd, ↓GH.wp_eOr, ↓GH.wp_eNot, ↓GH.wp_eIf, ↓GH.wp_chain, ↓GH.wp_aNil, ↓GH.wp_aCons, ↓GH.wp_aStar, ↓GH.wp_tup, ↓GH.wp_disp, ↓GH.wp_lst, ↓GH.wp_call, ↓GH.wp_callL, ↓GH.wp_binL, ↓GH.wp_fn, ↓GH.wp_fld, ↓GH.wp_oNo, ↓GH.wp_oAt, ↓GH.wp_sl, ↓GH.wp_ixO, ↓GH.wp_here, ↓GH.wp_putL, ↓GH.wp_app, ↓GH.sm_app, ↓GH.wp_pop, ↓GH.sm_popL, ↓GH.wp_popAt, ↓GH.wp_bor, ↓GH.wp_tBor, ↓GH.isFlat_int, ↓GH.isFlat_bl, ↓GH.isFlat_non, ↓GH.isFlat_str, ↓GH.wp_nx, ↓GH.wp_sRet, ↓GH.wp_sIf, ↓GH.wp_sExpr, ↓GH.wp_asg, ↓GH.wp_gN, ↓GH.wp_gT, ↓GH.wp_gCons, ↓GH.wp_gNil, ↓GH.wp_set, ↓GH.wp_own, ↓GH.wp_aug, ↓GH.sm_aug, ↓GH.wp_setIx, ↓GH.wp_ownGet, ↓GH.wp_augIx, ↓GH.wp_sFor, ↓GH.wp_pNil, ↓GH.wp_pVal, ↓GH.wp_pOwn, ↓GH.wp_par, ↓GH.sm_put0, ↓GH.sm_put, ↓GH.wp_iSeq, ↓GH.wp_rg1, ↓GH.wp_rg2, ↓GH.wp_enum, ↓GH.wp_zip2, ↓GH.wp_zip3, ↓GH.wp_lRg1, ↓GH.wp_lRg2, ↓GH.wp_tupRg, ↓GH.sm_addI, ↓GH.sm_addT, ↓GH.sm_addL, ↓GH.sm_addLD, ↓GH.sm_subI, ↓GH.sm_mulI, ↓GH.sm_mulL, ↓GH.sm_mulLD, ↓GH.sm_modI, ↓GH.sm_fdivI, ↓GH.sm_ltI, ↓GH.sm_leI, ↓GH.sm_gtI, ↓GH.sm_geI, ↓GH.sm_eqI, ↓GH.sm_neI, ↓GH.sm_notN, ↓GH.sm_ixT, ↓GH.sm_ixL, ↓GH.sm_ownO, ↓GH.sm_ownL, ↓GH.sm_ownT, ↓GH.at_0, ↓GH.at_1, ↓GH.at_2, ↓GH.at_3, ↓GH.at_4, ↓GH.at_map, ↓GH.sm_lenL, ↓GH.sm_lenT, ↓GH.sm_intI, ↓GH.sm_intB, ↓GH.sm_absI, ↓GH.sm_tupT, ↓GH.sm_lstL, ↓GH.sm_lstT, ↓GH.sm_sumL1, ↓GH.sm_sumT1, ↓GH.sm_sumL, ↓GH.sm_sumT, ↓GH.sm_maxI, ↓GH.sm_minI, ↓GH.sm_maxL1, ↓GH.sm_minL1, ↓GH.sm_maxL, ↓GH.sm_minL, ↓GH.sm_anyL, ↓GH.sm_allL, ↓GH.sm_negI, ↓GH.sm_revL, ↓GH.sm_revT, ↓GH.sm_seqL, ↓GH.sm_seqT, ↓GH.sm_slL, ↓GH.sm_slT, ↓GH.sm_truB, ↓GH.sm_truN, ↓GH.sm_truI, ↓GH.sm_truL, ↓GH.sm_truT, ↓GH.sm_inR, ↓GH.sm_inT, ↓GH.sm_inL, ↓GH.sm_ninT, ↓GH.sm_ninL, ↓GH.sm_setL, ↓GH.wp_comp, ↓GH.wp_turn, ↓GH.lp_nx, ↓GH.lp_cnt, ↓GH.lp_brk, ↓GH.lp_ret, ↓GH.outR_ret, ↓GH.outR_nx, ↓GH.ownB_L, ↓GH.ownB_K, ↓GH.ownB_T, ↓GH.wp_nw, ↓GH.wp_nK0, ↓GH.wp_nT0, ↓GH.wp_dpNil, ↓GH.wp_dpCons, ↓GH.wp_nDisp, ↓GH.wp_ownN, ↓GH.wp_pOwnN, ↓GH.wp_dgO, ↓GH.own2_K, ↓GH.own2_T, ↓GH.own2_s, ↓GH.wp_here2, ↓GH.wp_putD, ↓GH.putAt_s, ↓GH.putAt_K, ↓GH.putAt_T, ↓GH.wp_sPutD, ↓GH.sm_keyI, ↓GH.sm_keyS, ↓GH.sm_keysT, ↓GH.sm_dgK, ↓GH.sm_dgT, ↓GH.sm_dinK, ↓GH.sm_dinT, ↓GH.sm_dninK, ↓GH.sm_dninT, ↓GH.dctAt_KI, ↓GH.dctAt_T, ↓GH.dctAt_s, ↓GH.wp_forD, ↓GH.noneAt_z, ↓GH.noneAt_s, ↓GH.wp_noneAt, ↓GH.wp_newL, ↓GH.wp_newP, ↓GH.wp_setL, ↓GH.wp_fillL, ↓GH.wp_lSl, ↓GH.sm_lstD, ↓GH.enumP_map, ↓GH.zip2P_map, ↓GH.zip3P_map, ↓GH.sm_eqNilI, ↓GH.sm_neNilI, ↓GH.sm_eqIL, ↓GH.sm_neIL, ↓GH.sm_eqIT, ↓GH.sm_neIT, ↓GH.at_snoc, ↓GH.sm_ne3, ↓GH.sm_ne2, ↓GH.sm_srtI, ↓GH.wp_rgV, ↓GH.isR_rng, ↓GH.sm_rng1, ↓GH.wp_ext, ↓GH.sm_extL, ↓GH.sm_srtD, GH.isV_none, GH.isV_val, GH.isV_jv, GH.allV_nil, GH.allV_cons, GH.jv_some, GH.jv_none, GH.out_nx, GH.kGet_lkp, GH.lkp_isSome, GH.borF, GH.bor_z, GH.bor_tt, GH.bor_no, GH.clean_nil, GH.clean_cons, GH.cleanAt_s, GH.cleanAt_n, GH.cleanAt_v, GH.cleanAt_j, GH.wipe_nil, GH.wipe_cons, GH.startE_z, GH.startE_n, GH.startE_s, eq_self, Option.isSome_map, List.set_cons_zero, List.set_cons_succ, List.cons_append, List.nil_append, and_true, true_and, and_self, true_implies, implies_true, not_false_eq_true, not_true_eq_false, false_implies, Option.some.injEq, List.contains_cons, List.contains_nil, Nat.reduceBEq, Bool.or_false, Bool.or_true, Bool.false_or, Bool.true_or, Nat.zero_add, Nat.reduceAdd, $ls,*])
local macro_rules | `(tactic| simp_all_arith) => `(tactic| simp_all_arith [and_true])
local macro_rules | `(tactic| simp_arith! [$ls,*]) => `(tactic| (refine GH.fn_val ?_; simp only [GH.startE_s, GH.startE_n, GH.startE_z, $ls,*]; simp_arith [$ls,*]))
local macro_rules | `(tactic| simp_arith) => `(tactic| simp_arith [and_true])
noncomputable section
namespace GW
open GH
theorem wp_forI {g : D → M Unit} {b : M Out} {xs : List D} {s : S} {Q : Out → S → Prop} (I : List D → List D → S → Prop) (h0 : I [] xs s)
    (hs : ∀ done x rest s, xs = done ++ x :: rest → I done (x :: rest) s → Wp (g x) s fun _ s1 => Wp b s1 fun o s2 => Lp o (I (done ++ [x]) rest s2) (Q .nx s2) (fun d => Q (.ret d) s2))
    (hd : ∀ s, I xs [] s → Q .nx s) : Wp (GH.forM g b xs) s Q := by
  have := wp_for (enc := fun x : D => x) (xs := xs) I h0 hs hd
  rwa [show xs.map (fun x : D => x) = xs from List.map_id _] at this
theorem sm_isN'' {d : D} {P : D → Prop} : Sm (isND d .non) P ↔ P (.bl (isN' d)) := by cases d <;> exact sm_some
theorem plan_right_cl (cr : Cr) (plan : List (Int × Int)) (c : Src) (hg : GoodX cr) (hl : 3 ≤ cr.len) (hl8 : cr.len ≤ 30) (hp : PlanG cr plan) (h4 : plan.length ≤ 4) : Cl S__law_plan_right [.src, eCr cr, ePl plan] c fun d _ => d = .bl true := by
  have hsl := hg.sgl
  have h6 := hg.le
  refine fn_cl ?_
  simp only [startE_s, startE_n, startE_z, m__law_plan_right]
  simp_arith
  rw [cl_eq (law_stages_eq cr c hg.ns hg.ne hg.le)]
  simp_arith
  have jr := law_lamps_eq cr [plan] c hg (by omega) (by omega) (fun p h => by simp at h; subst h; exact hp) (by simp)
  rw [show D.lst [ePl plan] = .lst ([plan].map ePl) from rfl, cl_eq jr]
  simp_arith [sm_seqPl]
  refine wp_for (enc := eP2) (fun done rest s => ∃ (st : List (List Int)) (tick : Int) (x7 x8 x14 : Option D), grn cr 0 plan = st ++ grn cr tick rest ∧ st.length ≤ 6 * done.length ∧ s = ⟨[some (.val .src), some (.val (eCr cr)), some (.val (ePl plan)), some (.val (.lst ((stg cr.cx cr.mv.length).map eT))), some (.val (.lst ((lampsF cr [plan]).map eT))), some (.val (.lst (st.map eT))), some (.val (.int tick)), jv x7, jv x8, none, none, none, none, none, none], c⟩) ⟨[], 0, none, none, none, rfl, by simp, rfl⟩ ?_ ?_
  · rintro done ⟨s, ticks⟩ rest _ hx ⟨st, tick, x7, x8, x14, g1, g2, rfl⟩
    obtain ⟨b1, b2, b3⟩ := hp.inn (s, ticks) (by rw [hx]; simp)
    simp only at b1 b2 b3
    have hdl : done.length ≤ 64 := by have := congrArg List.length hx; simp at this; omega
    have hst := (hg.st b1 b2).2.len
    have hcl : S__law_clearing [eCr cr, eT (nth (stg cr.cx cr.mv.length) s)] c = some (.int (clgS cr s), c) := law_clearing_eq cr (stgS cr s) c hg (by omega)
    simp_arith [eP2, at_nth (xs := stg cr.cx cr.mv.length) b1 b2]
    refine wp_compM (fun i : Int => eT [i, tick, tick + ticks]) (by unfold stgS at hst; omega) (by simp_arith) (fun i _ => by simp_arith; rfl) ?_
    have e : ((nth (stg cr.cx cr.mv.length) s).map fun i : Int => eT [i, tick, tick + ticks]) = ((stgS cr s).map fun i : Int => [i, tick, tick + ticks]).map eT := by rw [List.map_map]; rfl
    rw [e]
    simp_arith [List.length_map, at_nth (xs := stg cr.cx cr.mv.length) b1 b2]
    refine ⟨by omega, ?_⟩
    rw [cl_eq hcl]
    simp_arith
    refine ⟨st ++ (stgS cr s).map fun i : Int => [i, tick, tick + ticks], tick + ticks + clgS cr s, some (.int s), some (.int ticks), none, ?_, by simp; omega, by rw [List.map_append]; rfl⟩
    rw [g1, List.append_assoc, show tick + ticks + clgS cr s = tick + (ticks + clgS cr s) by omega]; rfl
  · rintro _ ⟨st, tick, x7, x8, x14, g1, g2, rfl⟩
    have hst : st = grn cr 0 plan := by rw [g1]; simp [grn]
    have hsll : st.length ≤ 24 := by omega
    subst hst
    have hv := hp.valid
    have j1 := need_of_eq cr plan c hg hv (by omega)
    have j2 := capacity_eq cr plan c hg hv
    have j3 := greens_eq cr plan c hg hp
    have j4 := law_need_eq cr plan c hg hv (by omega)
    have j5 := law_capacity_eq cr plan c hg hv
    simp_arith
    rw [cl_eq j1]
    simp_arith
    rw [cl_eq j2]
    simp_arith
    rw [cl_eq j3]
    simp_arith
    rw [cl_eq j4]
    simp_arith
    rw [cl_eq j5]
    simp_arith
    rw [sm_srtT (fun v hv => by obtain ⟨i, b, e, rfl⟩ := grn_mem hv; simp)]
    refine ⟨by omega, ?_⟩
    simp_arith
    rw [show tsort (grn cr 0 plan) = greensF cr plan from rfl, sm_eq (neD_same (told_ok (need cr plan) (capF cr plan) (greensF cr plan)))]
    simp_arith
    refine ⟨okR_of (by omega) (by omega), ?_⟩
    refine wp_compM (fun t : Nat => eT (atF cr plan t)) (by simp; omega) (by simp_arith) (fun t _ => by
      simp_arith
      rw [cl_eq (lamps_at_eq cr plan (t : Nat) c hg hp)]
      simp_arith) ?_
    have e1 : ((List.range cr.len.toNat).map fun t : Nat => eT (atF cr plan t)) = (lampsF cr [plan]).map eT := by
      rw [show lampsF cr [plan] = frmR cr plan by simp [lampsF], ← frm_at hg hp, List.map_map]; rfl
    rw [e1]
    simp_arith [sm_neRows]
    refine (near_cl cr (plan.map eP2) c hg (ev_plan hg hp hl8) (by rw [List.length_map]; exact h4)).mono fun d c1 ⟨vs, e, hvl, hvs⟩ => ?_
    subst e
    simp_arith
    refine wp_forI (fun _ _ s => ∃ (x9 x11 x12 x13 : Option D), s = ⟨[some (.val .src), some (.val (eCr cr)), some (.val (ePl plan)), some (.val (.lst ((stg cr.cx cr.mv.length).map eT))), some (.val (.lst ((lampsF cr [plan]).map eT))), some (.val (.lst ((grn cr 0 plan).map eT))), some (.val (.int tick)), jv x7, jv x8, jv x9, some (.val (.lst vs)), jv x11, jv x12, jv x13, none], c1⟩) ⟨some (.lst [.int (need cr plan), eT (capF cr plan), eR (greensF cr plan)]), none, none, none, rfl⟩ ?_ ?_
    · rintro done v rest _ hx ⟨x9, x11, x12, x13, rfl⟩
      have hv := hvs v (by rw [hx]; simp)
      obtain ⟨r, hr1, hr2⟩ := hv.rp
      obtain ⟨hs1, hs2⟩ := sh4_pf hg hv
      have htold : Sh4 2 602 (.lst [pf cr v, .bl (isN' (pf cr v))]) := sh4_lst (n := 1) (w := 300) (m := 2) (fun d hd => by
        simp only [List.mem_cons, List.not_mem_nil, or_false] at hd
        rcases hd with rfl | rfl
        · exact hs1
        · exact (sh4_bl (n := 1) (w := 300) _)) (by simp)
      simp_arith
      rw [cl_eq (law_plan_fault_eq cr v c1 hg hv.ok)]
      simp_arith
      rw [sm_eq hr1]
      simp_arith
      rw [cl_eq (judge_plan_eq cr v c1 hg hv.ok)]
      simp_arith
      rw [cl_eq (is_plan_eq cr v c1 hg hv.ok)]
      simp_arith [sm_isN'']
      rw [sm_repr4 htold (by omega) (by omega)]
      simp_arith [sm_isN'']
      rw [sm_repr4 htold (by omega) (by omega), sm_neR4 htold]
      simp_arith
      rw [sm_eq hr1]
      simp_arith
      rw [sm_eq hr2]
      simp_arith
      exact ⟨some (.lst [pf cr v, .bl (isN' (pf cr v))]), some v, some (pf cr v), some r, rfl⟩
    · rintro _ ⟨x9, x11, x12, x13, rfl⟩
      simp_arith
end GW
end

local macro_rules | `(tactic| simp_arith [$ls,*]) => `(tactic| simp only [↓GW.sm_lenE, ↓GW.sm_seqE, ↓GW.sm_ixE, ↓GW.sm_tupE, ↓GW.sm_tupEE, ↓GW.sm_slE, ↓GW.sm_addE, ↓GW.sm_lenR, ↓GW.sm_seqR, ↓GW.sm_ixR, ↓GW.sm_tupR, ↓GW.sm_slR, ↓GW.sm_addR, ↓GW.sm_isiE, ↓GW.sm_isiR, ↓GW.sm_seqCs, ↓GW.sm_cr0, ↓GW.sm_cr1, ↓GW.sm_cr2, ↓GW.sm_seqMvs, ↓GW.sm_lenMvs, ↓GW.sm_mv0, ↓GH.wp_ret, ↓GH.wp_lift, ↓GH.sm_some, ↓GH.sm_map, ↓GH.sm_bind, ↓GH.ifB_tt, ↓GH.ifB_ff, ↓GH.ifB_dec, ↓GH.ifB_not, ↓GH.nx_nx, ↓GH.nx_ret, ↓GH.nx_brk, ↓GH.nx_cnt, ↓GH.varAt_z, ↓GH.varAt_s, ↓GH.slAt_z, ↓GH.slAt_s, ↓GH.ownAt_z, ↓GH.ownAt_s, ↓GH.setAt_z, ↓GH.setAt_s, ↓GH.frzAt_z, ↓GH.frzAt_s, ↓GH.bor_val, ↓GH.bor_own, ↓GH.bor_ownK, ↓GH.bor_ownT, ↓GH.len_0, ↓GH.len_1, ↓GH.len_2, ↓GH.len_3, ↓GH.len_4, ↓GH.len_5, ↓GH.len_6, ↓GH.isB_bl, ↓GH.isI_int, ↓GH.wp_var, ↓GH.wp_frz, ↓GH.wp_C, ↓GH.wp_bin, ↓GH.wp_un, ↓GH.wp_tst, ↓GH.wp_tru, ↓GH.wp_and2, ↓GH.wp_or2, ↓GH.wp_not1, ↓GH.wp_eAnd, ↓GH.wp_eOr, ↓GH.wp_eNot, ↓GH.wp_eIf, ↓GH.wp_chain, ↓GH.wp_aNil, ↓GH.wp_aCons, ↓GH.wp_aStar, ↓GH.wp_tup, ↓GH.wp_disp, ↓GH.wp_lst, ↓GH.wp_call, ↓GH.wp_callL, ↓GH.wp_binL, ↓GH.wp_fn, ↓GH.wp_fld, ↓GH.wp_oNo, ↓GH.wp_oAt, ↓GH.wp_sl, ↓GH.wp_ixO, ↓GH.wp_here, ↓GH.wp_putL, ↓GH.wp_app, ↓GH.sm_app, ↓GH.wp_pop, ↓GH.sm_popL, ↓GH.wp_popAt, ↓GH.wp_bor, ↓GH.wp_tBor, ↓GH.isFlat_int, ↓GH.isFlat_bl, ↓GH.isFlat_non, ↓GH.isFlat_str, ↓GH.wp_seq, ↓GH.wp_nx, ↓GH.wp_sRet, ↓GH.wp_sIf, ↓GH.wp_sExpr, ↓GH.wp_asg, ↓GH.wp_gN, ↓GH.wp_gT, ↓GH.wp_gCons, ↓GH.wp_gNil, ↓GH.wp_set, ↓GH.wp_own, ↓GH.wp_aug, ↓GH.sm_aug, ↓GH.wp_setIx, ↓GH.wp_ownGet, ↓GH.wp_augIx, ↓GH.wp_sFor, ↓GH.wp_pNil, ↓GH.wp_pVal, ↓GH.wp_pOwn, ↓GH.wp_par, ↓GH.sm_put0, ↓GH.sm_put, ↓GH.wp_iSeq, ↓GH.wp_rg1, ↓GH.wp_rg2, ↓GH.wp_enum, ↓GH.wp_zip2, ↓GH.wp_zip3, ↓GH.wp_lRg1, ↓GH.wp_lRg2, ↓GH.wp_tupRg, ↓GH.sm_addI, ↓GH.sm_addT, ↓GH.sm_addL, ↓GH.sm_addLD, ↓GH.sm_subI, ↓GH.sm_mulI, ↓GH.sm_mulL, ↓GH.sm_mulLD, ↓GH.sm_modI, ↓GH.sm_fdivI, ↓GH.sm_ltI, ↓GH.sm_leI, ↓GH.sm_gtI, ↓GH.sm_geI, ↓GH.sm_eqI, ↓GH.sm_neI, ↓GH.sm_isN, ↓GH.sm_notN, ↓GH.sm_ixT, ↓GH.sm_ixL, ↓GH.sm_ownO, ↓GH.sm_ownL, ↓GH.sm_ownT, ↓GH.at_0, ↓GH.at_1, ↓GH.at_2, ↓GH.at_3, ↓GH.at_4, ↓GH.at_map, ↓GH.sm_lenL, ↓GH.sm_lenT, ↓GH.sm_intI, ↓GH.sm_intB, ↓GH.sm_absI, ↓GH.sm_tupT, ↓GH.sm_lstL, ↓GH.sm_lstT, ↓GH.sm_sumL1, ↓GH.sm_sumT1, ↓GH.sm_sumL, ↓GH.sm_sumT, ↓GH.sm_maxI, ↓GH.sm_minI, ↓GH.sm_maxL1, ↓GH.sm_minL1, ↓GH.sm_maxL, ↓GH.sm_minL, ↓GH.sm_anyL, ↓GH.sm_allL, ↓GH.sm_negI, ↓GH.sm_revL, ↓GH.sm_revT, ↓GH.sm_seqL, ↓GH.sm_seqT, ↓GH.sm_slL, ↓GH.sm_slT, ↓GH.sm_truB, ↓GH.sm_truN, ↓GH.sm_truI, ↓GH.sm_truL, ↓GH.sm_truT, ↓GH.sm_inR, ↓GH.sm_inT, ↓GH.sm_inL, ↓GH.sm_ninT, ↓GH.sm_ninL, ↓GH.sm_setL, ↓GH.wp_comp, ↓GH.wp_turn, ↓GH.lp_nx, ↓GH.lp_cnt, ↓GH.lp_brk, ↓GH.lp_ret, ↓GH.outR_ret, ↓GH.outR_nx, ↓GH.ownB_L, ↓GH.ownB_K, ↓GH.ownB_T, ↓GH.wp_nw, ↓GH.wp_nK0, ↓GH.wp_nT0, ↓GH.wp_dpNil, ↓GH.wp_dpCons, ↓GH.wp_nDisp, ↓GH.wp_ownN, ↓GH.wp_pOwnN, ↓GH.wp_dgO, ↓GH.own2_K, ↓GH.own2_T, ↓GH.own2_s, ↓GH.wp_here2, ↓GH.wp_putD, ↓GH.putAt_s, ↓GH.putAt_K, ↓GH.putAt_T, ↓GH.wp_sPutD, ↓GH.sm_keyI, ↓GH.sm_keyS, ↓GH.sm_keysT, ↓GH.sm_dgK, ↓GH.sm_dgT, ↓GH.sm_dinK, ↓GH.sm_dinT, ↓GH.sm_dninK, ↓GH.sm_dninT, ↓GH.dctAt_KI, ↓GH.dctAt_T, ↓GH.dctAt_s, ↓GH.wp_forD, ↓GH.noneAt_z, ↓GH.noneAt_s, ↓GH.wp_noneAt, ↓GH.wp_newL, ↓GH.wp_newP, ↓GH.wp_setL, ↓GH.wp_fillL, ↓GH.wp_lSl, ↓GH.sm_lstD, ↓GH.enumP_map, ↓GH.zip2P_map, ↓GH.zip3P_map, ↓GH.sm_eqNilI, ↓GH.sm_neNilI, ↓GH.sm_eqIL, ↓GH.sm_neIL, ↓GH.sm_eqIT, ↓GH.sm_neIT, ↓GH.at_snoc, ↓GH.sm_ne3, ↓GH.sm_ne2, ↓GH.sm_srtI, ↓GH.wp_rgV, ↓GH.isR_rng, ↓GH.sm_rng1, ↓GH.wp_ext, ↓GH.sm_extL, ↓GH.sm_srtD, GH.isV_none, GH.isV_val, GH.isV_jv, GH.allV_nil, GH.allV_cons, GH.jv_some, GH.jv_none, GH.out_nx, GH.kGet_lkp, GH.lkp_isSome, GH.borF, GH.bor_z, GH.bor_tt, GH.bor_no, GH.clean_nil, GH.clean_cons, GH.cleanAt_s, GH.cleanAt_n, GH.cleanAt_v, GH.cleanAt_j, GH.wipe_nil, GH.wipe_cons, GH.startE_z, GH.startE_n, GH.startE_s, eq_self, Option.isSome_map, List.set_cons_zero, List.set_cons_succ, List.cons_append, List.nil_append, and_true, true_and, and_self, true_implies, implies_true, not_false_eq_true, not_true_eq_false, false_implies, Option.some.injEq, List.contains_cons, List.contains_nil, Nat.reduceBEq, Bool.or_false, Bool.or_true, Bool.false_or, Bool.true_or, Nat.zero_add, Nat.reduceAdd, $ls,*])
local macro_rules | `(tactic| simp_all_arith [$ls,*]) => `(tactic| simp only [↓GW.sm_lenE, ↓GW.sm_seqE, ↓GW.sm_ixE, ↓GW.sm_tupE, ↓GW.sm_tupEE, ↓GW.sm_slE, ↓GW.sm_addE, ↓GW.sm_lenR, ↓GW.sm_seqR, ↓GW.sm_ixR, ↓GW.sm_tupR, ↓GW.sm_slR, ↓GW.sm_addR, ↓GW.sm_isiE, ↓GW.sm_isiR, ↓GW.sm_seqCs, ↓GW.sm_cr0, ↓GW.sm_cr1, ↓GW.sm_cr2, ↓GW.sm_seqMvs, ↓GW.sm_lenMvs, ↓GW.sm_mv0, ↓GH.wp_ret, ↓GH.wp_lift, ↓GH.sm_some, ↓GH.sm_map, ↓GH.sm_bind, ↓GH.ifB_tt, ↓GH.ifB_ff, ↓GH.ifB_dec, ↓GH.ifB_not, ↓GH.nx_nx, ↓GH.nx_ret, ↓GH.nx_brk, ↓GH.nx_cnt, ↓GH.varAt_z, ↓GH.varAt_s, ↓GH.slAt_z, ↓GH.slAt_s, ↓GH.ownAt_z, ↓GH.ownAt_s, ↓GH.setAt_z, ↓GH.setAt_s, ↓GH.frzAt_z, ↓GH.frzAt_s, ↓GH.bor_val, ↓GH.bor_own, ↓GH.bor_ownK, ↓GH.bor_ownT, ↓GH.len_0, ↓GH.len_1, ↓GH.len_2, ↓GH.len_3, ↓GH.len_4, ↓GH.len_5, ↓GH.len_6, ↓GH.isB_bl, ↓GH.isI_int, ↓GH.wp_var, ↓GH.wp_frz, ↓GH.wp_C, ↓GH.wp_bin, ↓GH.wp_un, ↓GH.wp_tst, ↓GH.wp_tru, ↓GH.wp_and2, ↓GH.wp_or2, ↓GH.wp_not1, ↓GH.wp_eAnd, ↓GH.wp_eOr, ↓GH.wp_eNot, ↓GH.wp_eIf, ↓GH.wp_chain, ↓GH.wp_aNil, ↓GH.wp_aCons, ↓GH.wp_aStar, ↓GH.wp_tup, ↓GH.wp_disp, ↓GH.wp_lst, ↓GH.wp_call, ↓GH.wp_callL, ↓GH.wp_binL, ↓GH.wp_fn, ↓GH.wp_fld, ↓GH.wp_oNo, ↓GH.wp_oAt, ↓GH.wp_sl, ↓GH.wp_ixO, ↓GH.wp_here, ↓GH.wp_putL, ↓GH.wp_app, ↓GH.sm_app, ↓GH.wp_pop, ↓GH.sm_popL, ↓GH.wp_popAt, ↓GH.wp_bor, ↓GH.wp_tBor, ↓GH.isFlat_int, ↓GH.isFlat_bl, ↓GH.isFlat_non, ↓GH.isFlat_str, ↓GH.wp_nx, ↓GH.wp_sRet, ↓GH.wp_sIf, ↓GH.wp_sExpr, ↓GH.wp_asg, ↓GH.wp_gN, ↓GH.wp_gT, ↓GH.wp_gCons, ↓GH.wp_gNil, ↓GH.wp_set, ↓GH.wp_own, ↓GH.wp_aug, ↓GH.sm_aug, ↓GH.wp_setIx, ↓GH.wp_ownGet, ↓GH.wp_augIx, ↓GH.wp_sFor, ↓GH.wp_pNil, ↓GH.wp_pVal, ↓GH.wp_pOwn, ↓GH.wp_par, ↓GH.sm_put0, ↓GH.sm_put, ↓GH.wp_iSeq, ↓GH.wp_rg1, ↓GH.wp_rg2, ↓GH.wp_enum, ↓GH.wp_zip2, ↓GH.wp_zip3, ↓GH.wp_lRg1, ↓GH.wp_lRg2, ↓GH.wp_tupRg, ↓GH.sm_addI, ↓GH.sm_addT, ↓GH.sm_addL, ↓GH.sm_addLD, ↓GH.sm_subI, ↓GH.sm_mulI, ↓GH.sm_mulL, ↓GH.sm_mulLD, ↓GH.sm_modI, ↓GH.sm_fdivI, ↓GH.sm_ltI, ↓GH.sm_leI, ↓GH.sm_gtI, ↓GH.sm_geI, ↓GH.sm_eqI, ↓GH.sm_neI, ↓GH.sm_isN, ↓GH.sm_notN, ↓GH.sm_ixT, ↓GH.sm_ixL, ↓GH.sm_ownO, ↓GH.sm_ownL, ↓GH.sm_ownT, ↓GH.at_0, ↓GH.at_1, ↓GH.at_2, ↓GH.at_3, ↓GH.at_4, ↓GH.at_map, ↓GH.sm_lenL, ↓GH.sm_lenT, ↓GH.sm_intI, ↓GH.sm_intB, ↓GH.sm_absI, ↓GH.sm_tupT, ↓GH.sm_lstL, ↓GH.sm_lstT, ↓GH.sm_sumL1, ↓GH.sm_sumT1, ↓GH.sm_sumL, ↓GH.sm_sumT, ↓GH.sm_maxI, ↓GH.sm_minI, ↓GH.sm_maxL1, ↓GH.sm_minL1, ↓GH.sm_maxL, ↓GH.sm_minL, ↓GH.sm_anyL, ↓GH.sm_allL, ↓GH.sm_negI, ↓GH.sm_revL, ↓GH.sm_revT, ↓GH.sm_seqL, ↓GH.sm_seqT, ↓GH.sm_slL, ↓GH.sm_slT, ↓GH.sm_truB, ↓GH.sm_truN, ↓GH.sm_truI, ↓GH.sm_truL, ↓GH.sm_truT, ↓GH.sm_inR, ↓GH.sm_inT, ↓GH.sm_inL, ↓GH.sm_ninT, ↓GH.sm_ninL, ↓GH.sm_setL, ↓GH.wp_comp, ↓GH.wp_turn, ↓GH.lp_nx, ↓GH.lp_cnt, ↓GH.lp_brk, ↓GH.lp_ret, ↓GH.outR_ret, ↓GH.outR_nx, ↓GH.ownB_L, ↓GH.ownB_K, ↓GH.ownB_T, ↓GH.wp_nw, ↓GH.wp_nK0, ↓GH.wp_nT0, ↓GH.wp_dpNil, ↓GH.wp_dpCons, ↓GH.wp_nDisp, ↓GH.wp_ownN, ↓GH.wp_pOwnN, ↓GH.wp_dgO, ↓GH.own2_K, ↓GH.own2_T, ↓GH.own2_s, ↓GH.wp_here2, ↓GH.wp_putD, ↓GH.putAt_s, ↓GH.putAt_K, ↓GH.putAt_T, ↓GH.wp_sPutD, ↓GH.sm_keyI, ↓GH.sm_keyS, ↓GH.sm_keysT, ↓GH.sm_dgK, ↓GH.sm_dgT, ↓GH.sm_dinK, ↓GH.sm_dinT, ↓GH.sm_dninK, ↓GH.sm_dninT, ↓GH.dctAt_KI, ↓GH.dctAt_T, ↓GH.dctAt_s, ↓GH.wp_forD, ↓GH.noneAt_z, ↓GH.noneAt_s, ↓GH.wp_noneAt, ↓GH.wp_newL, ↓GH.wp_newP, ↓GH.wp_setL, ↓GH.wp_fillL, ↓GH.wp_lSl, ↓GH.sm_lstD, ↓GH.enumP_map, ↓GH.zip2P_map, ↓GH.zip3P_map, ↓GH.sm_eqNilI, ↓GH.sm_neNilI, ↓GH.sm_eqIL, ↓GH.sm_neIL, ↓GH.sm_eqIT, ↓GH.sm_neIT, ↓GH.at_snoc, ↓GH.sm_ne3, ↓GH.sm_ne2, ↓GH.sm_srtI, ↓GH.wp_rgV, ↓GH.isR_rng, ↓GH.sm_rng1, ↓GH.wp_ext, ↓GH.sm_extL, ↓GH.sm_srtD, GH.isV_none, GH.isV_val, GH.isV_jv, GH.allV_nil, GH.allV_cons, GH.jv_some, GH.jv_none, GH.out_nx, GH.kGet_lkp, GH.lkp_isSome, GH.borF, GH.bor_z, GH.bor_tt, GH.bor_no, GH.clean_nil, GH.clean_cons, GH.cleanAt_s, GH.cleanAt_n, GH.cleanAt_v, GH.cleanAt_j, GH.wipe_nil, GH.wipe_cons, GH.startE_z, GH.startE_n, GH.startE_s, eq_self, Option.isSome_map, List.set_cons_zero, List.set_cons_succ, List.cons_append, List.nil_append, and_true, true_and, and_self, true_implies, implies_true, not_false_eq_true, not_true_eq_false, false_implies, Option.some.injEq, List.contains_cons, List.contains_nil, Nat.reduceBEq, Bool.or_false, Bool.or_true, Bool.false_or, Bool.true_or, Nat.zero_add, Nat.reduceAdd, $ls,*])
local macro_rules | `(tactic| simp_all_arith) => `(tactic| simp_all_arith [and_true])
local macro_rules | `(tactic| simp_arith! [$ls,*]) => `(tactic| (refine GH.fn_val ?_; simp only [GH.startE_s, GH.startE_n, GH.startE_z, $ls,*]; simp_arith [$ls,*]))
local macro_rules | `(tactic| simp_arith) => `(tactic| simp_arith [and_true])
noncomputable section
namespace GW
open GH
theorem sh4_cr {n : Int} {cr : Cr} (h : CrOk n cr) (hn : n ≤ 100) : Sh4 3 40000 (eCr cr) := by
  have hmv : Sh4 2 (4 * (300 + 1)) (.tup (cr.mv.map eMv)) := sh4_tup (n := 1) (w := 300) (m := 4) (fun d hd => by
    obtain ⟨m, hm, rfl⟩ := List.mem_map.mp hd
    obtain ⟨a, b, d⟩ := h.mv m hm
    refine (sh4_tup (n := 0) (w := 130) (m := 2) (fun x hx => ?_) (by simp)).up (by omega) (by omega)
    simp only [List.mem_cons, List.not_mem_nil, or_false] at hx
    rcases hx with rfl | rfl
    · exact sh4_int (by omega)
    · cases e : m.2 with
      | none => exact sh4_non
      | some t => have := d t e; exact sh4_int (by omega)) (by rw [List.length_map]; exact h.le)
  have hcx : Sh4 2 (16 * (600 + 1)) (.tup (cr.cx.map eCx)) := sh4_tup (n := 1) (w := 600) (m := 16) (fun d hd => by
    obtain ⟨x, hx, rfl⟩ := List.mem_map.mp hd
    have q := h.cx x hx
    have := h.le
    unfold CxOk at q
    refine (sh4_tup (n := 0) (w := 130) (m := 4) (fun y hy => ?_) (by simp)).up (by omega) (by omega)
    simp only [List.mem_cons, List.not_mem_nil, or_false] at hy
    rcases hy with rfl | rfl | rfl | rfl <;> exact sh4_int (by omega)) (by rw [List.length_map]; exact h.cxl)
  refine (sh4_tup (n := 2) (w := 10000) (m := 3) (fun d hd => ?_) (by simp)).up (by omega) (by omega)
  simp only [List.mem_cons, List.not_mem_nil, or_false] at hd
  rcases hd with rfl | rfl | rfl
  · exact hmv.up (by omega) (by omega)
  · refine ⟨hcx.lay, hcx.shw, hcx.dep, ?_, hcx.shrt, hcx.txt⟩
    have := hcx.wei; omega
  · have := h.len; exact (sh4_int (n := 2) (by omega)).up (by omega) (by omega)
theorem sh4_fault {cx : List C4} {n : Nat} {rows : List (List Int)} (hn : n ≤ 100) (hl : rows.length ≤ 100000) (hr : ∀ row ∈ rows, ∀ i ∈ row, 0 ≤ i ∧ i < (n : Int)) : Sh4 1 600 (faultF cx n rows) ∧ isStr (faultF cx n rows) = false := by
  have hw : ∀ {w : PySem.Str} {t : Nat} {i j : Int}, (w = "crossed" ∨ w = "early") → t ≤ 100000 → (0 ≤ i ∧ i < 100) → (0 ≤ j ∧ j < 100) → Sh4 1 600 (eF w (t, i, j)) := fun {w t i j} h ht hi hj => by
    refine (sh4_tup (n := 0) (w := 130) (m := 4) (fun d hd => ?_) (by simp)).up (by omega) (by omega)
    simp only [List.mem_cons, List.not_mem_nil, or_false] at hd
    rcases hd with rfl | rfl | rfl | rfl
    · refine Sh4.up (n := 0) (w := 40) ?_ (by omega) (by omega)
      rcases h with rfl | rfl <;> exact ⟨by decide +kernel, rfl, by simp [D.py, PySem.PyData.depth], by simp only [D.py, PySem.PyData.weight]; decide +kernel, rfl, by unfold sgn; decide +kernel⟩
    · exact sh4_int (by omega)
    · exact sh4_int (by omega)
    · exact sh4_int (by omega)
  unfold faultF
  cases h : crossF cx rows with
  | some f =>
    obtain ⟨t, i, j⟩ := f
    obtain ⟨h1, row, hrow, h2, h3⟩ := crossF_mem h
    simp only at h1 h2 h3
    have a := hr row hrow i h2
    have b := hr row hrow j h3
    exact ⟨hw (.inl rfl) (by omega) (by omega) (by omega), rfl⟩
  | none =>
    cases h2 : earlyF cx n rows with
    | none => exact ⟨sh4_non, rfl⟩
    | some f =>
      obtain ⟨t, i, j⟩ := f
      obtain ⟨h1, h3, row, hrow, h4⟩ := earlyF_mem h2
      simp only at h1 h3 h4
      have b := hr row hrow j h4
      exact ⟨hw (.inr rfl) (by omega) (by omega) (by omega), rfl⟩
def lapB : M Out :=
 (sSeq (sSet 3 (eFn S__law_one_crossing (aCons (eVar 1) aNil)))
 (sSeq (sPar [4, 5] (pVal (eCall reprH (aCons (eVar 3) aNil)) (pVal (eLst (eComp [7] (gN 7) (ret true) (eFn S__law_loose_plan (aCons (eVar 1) (aCons (eVar 3) aNil))) (iRg1 (eC (.int 3))))) pNil)))
 (sSeq (sIf (tNot1 (tru (eCall allG (aCons (eLst (eComp [14] (gN 14) (ret true) (eFn S__law_plan_right (aCons (eVar 1) (aCons (eVar 3) (aCons (eVar 14) aNil)))) (iSeq (eBin addD (eVar 5) (eLst (lDisp (aCons (eTup aNil) aNil))))))) aNil))))
 (sRet (eC (.bl false)))
 sNx)
 (sSeq (sSet 6 (eFn S__law_lamp_rows (aCons (eVar 3) (aCons (eVar 5) aNil))))
 (sSeq (sIf (tOr2 (tst (eBin neD (eFn S_lamp_rows (aCons (eVar 3) (aCons (eVar 5) aNil))) (eVar 6))) (tst (eBin neD (eFn S_lamp_rows (aCons (eVar 3) (aCons (eLst (lDisp aNil)) aNil))) (eLst (lDisp aNil)))))
 (sRet (eC (.bl false)))
 sNx)
 (sSeq (sIf (tOr2 (tst (eBin notND (eFn S_judge_lamps (aCons (eVar 3) (aCons (eLst (eCallL lstG (aCons (eVar 6) aNil))) aNil))) (eC .non))) (tst (eBin notND (eFn S_judge_lamps (aCons (eVar 3) (aCons (eLst (lDisp aNil)) aNil))) (eC .non))))
 (sRet (eC (.bl false)))
 sNx)
 (sSeq (sFor (iRg1 (eC (.int 5))) (gN 7)
 (sSeq (sSet 8 (eFn S__law_bent_rows (aCons (eVar 1) (aCons (eVar 3) (aCons (eVar 6) aNil)))))
 (sSeq (sPar [9, 10] (pVal (eLst (eCallL lstG (aCons (eVar 8) aNil))) (pVal (eCall reprH (aCons (eFn S__law_lamp_fault (aCons (eVar 3) (aCons (eVar 8) aNil))) aNil)) pNil)))
 (sSeq (sIf (tOr2 (tst (eBin neD (eCall reprH (aCons (eFn S_judge_lamps (aCons (eVar 3) (aCons (eCall tupG (aCons (eVar 8) aNil)) aNil))) aNil)) (eVar 10))) (tst (eBin neD (eCall reprH (aCons (eFn S_judge_lamps (aCons (eVar 3) (aCons (eVar 8) aNil))) aNil)) (eVar 10))))
 (sRet (eC (.bl false)))
 sNx)
 (sIf (tst (eBin neD (eVar 8) (eVar 9)))
 (sRet (eC (.bl false)))
 sNx)))))
 (sSeq (sSet 11 (eLst (eComp [14] (gN 14) (ret true) (eFn S__law_capacity (aCons (eVar 3) (aCons (eVar 14) aNil))) (iSeq (eVar 5)))))
 (sSeq (sFor (iSeq (eVar 11)) (gN 12)
 (sFor (iSeq (eVar 11)) (gN 13)
 (sIf (tst (eBin neD (eCall reprH (aCons (eFn S_is_above (aCons (eVar 12) (aCons (eVar 13) aNil))) aNil)) (eCall reprH (aCons (eAnd (eBin neD (eVar 12) (eVar 13)) (eFn S__law_is_least (aCons (eVar 12) (aCons (eVar 13) aNil)))) aNil))))
 (sRet (eC (.bl false)))
 sNx)))
 (sIf (tst (eBin neD (eCall reprH (aCons (eVar 3) aNil)) (eVar 4)))
 (sRet (eC (.bl false)))
 sNx))))))))))
theorem m_law_is : m_law = sSeq (sFor (iRg1 (eC (.int 3))) (gN 2) lapB) (sRet (eC (.bl true))) := rfl
theorem lap_ok {s : S} (hI : LawI 13 s) : Wp lapB s fun o s' => o = .nx ∧ LawI 13 s' := by
  obtain ⟨ys1, c, rfl, hys1⟩ := hI.open_
  obtain ⟨x2, ys2, rfl, hys2⟩ := uncons hys1
  obtain ⟨x3, ys3, rfl, hys3⟩ := uncons hys2
  obtain ⟨x4, ys4, rfl, hys4⟩ := uncons hys3
  obtain ⟨x5, ys5, rfl, hys5⟩ := uncons hys4
  obtain ⟨x6, ys6, rfl, hys6⟩ := uncons hys5
  obtain ⟨x7, ys7, rfl, hys7⟩ := uncons hys6
  obtain ⟨x8, ys8, rfl, hys8⟩ := uncons hys7
  obtain ⟨x9, ys9, rfl, hys9⟩ := uncons hys8
  obtain ⟨x10, ys10, rfl, hys10⟩ := uncons hys9
  obtain ⟨x11, ys11, rfl, hys11⟩ := uncons hys10
  obtain ⟨x12, ys12, rfl, hys12⟩ := uncons hys11
  obtain ⟨x13, ys13, rfl, hys13⟩ := uncons hys12
  obtain ⟨x14, ys14, rfl, hys14⟩ := uncons hys13
  obtain rfl := unnil hys14
  simp only [List.map_cons, List.map_nil]
  clear hI hys1 hys2 hys3 hys4 hys5 hys6 hys7 hys8 hys9 hys10 hys11 hys12 hys13 hys14
  unfold lapB
  simp_arith
  refine (one_crossing_cl c).mono fun d c1 ⟨cr, hcr, e⟩ => ?_
  subst e
  have hg := hcr.good
  have hl := hcr.len
  have h6 := hg.le
  have hsl := hg.sgl
  have hsh := sh4_cr hcr (by decide)
  simp_arith
  rw [sm_repr4 hsh (by omega) (by omega)]
  simp_arith
  refine ⟨okR_of (by omega) (by omega), ?_⟩
  rw [show Int.toNat 3 = 3 from rfl]
  refine wp_compD ePl (fun _ p => PlanG cr p ∧ p.length ≤ 4) (by simp) (by simp_arith) (fun y _ s0 => ?_) fun plans c2 hpl hpr => ?_
  · simp_arith
    refine (loose_cl cr s0 hg (by omega) (by omega)).mono fun d c2 ⟨plan, hp, e, h4⟩ => ?_
    subst e
    simp_arith
    exact ⟨plan, rfl, hp, h4⟩
  · rw [List.length_range] at hpl
    have hp : ∀ p ∈ plans, PlanG cr p ∧ p.length ≤ 4 := fun p hp => by
      obtain ⟨k, hk, rfl⟩ := List.getElem_of_mem hp
      exact hpr k k _ (List.getElem?_range (by omega)) (List.getElem?_eq_getElem hk)
    clear hpr
    have hp' : ∀ p ∈ plans ++ [[]], PlanG cr p ∧ p.length ≤ 4 := fun p h => by
      rcases List.mem_append.mp h with z | z
      · exact hp p z
      · rw [List.mem_singleton] at z; subst z
        exact ⟨⟨by simp, by simp, by simp [need]; omega⟩, by simp⟩
    simp_arith [List.length_map]
    refine ⟨by simp; omega, ?_⟩
    rw [show plans.map ePl ++ [D.tup []] = (plans ++ [[]]).map ePl by rw [List.map_append]; rfl]
    refine wp_compD (fun _ : Unit => D.bl true) (fun _ _ => True) (by simp; omega) (by simp_arith) (fun p hpm s0 => ?_) fun ys c3 _ _ => ?_
    · obtain ⟨h1, h2⟩ := hp' p hpm
      simp_arith
      refine (plan_right_cl cr p s0 hg (by omega) (by omega) h1 h2).mono fun d c3 e => ?_
      subst e
      simp_arith
      exact ⟨(), trivial⟩
    · simp_arith [sm_allL (f := fun _ : Unit => true)]
      rw [show (ys.all fun _ => true) = true by simp]
      simp_arith
      have hpp : ∀ p ∈ plans, PlanG cr p := fun p h => (hp p h).1
      have hrl := lamps_len hg hpp
      rw [hpl] at hrl
      have hrow : ∀ row ∈ lampsF cr plans, Lot cr.cx cr.mv.length row := fun row hr => by
        obtain ⟨p, hpm, hm⟩ := List.mem_flatMap.mp hr
        have hq := hpp p hpm
        rcases List.mem_append.mp hm with z | z
        · exact some_row hg (fun q h => ⟨(hq.inn q h).1, (hq.inn q h).2.1⟩) row z
        · rw [List.eq_of_mem_replicate z]; exact lot_nil _ _
      have hrr : ∀ row ∈ lampsF cr plans, ∀ i ∈ row, 0 ≤ i ∧ i < (cr.mv.length : Int) := fun row h => (hrow row h).inn
      have j1 := law_lamps_eq cr plans c3 hg (by omega) (by omega) hpp (by omega)
      have j2 := lamp_rows_eq cr plans c3 hg (by omega) (by omega) hpp (by omega)
      have j3 := lamp_rows_eq cr [] c3 hg (by omega) (by omega) (by simp) (by simp)
      have j4 := judge_lamps_eq cr (.lst ((lampsF cr plans).map eT)) (lampsF cr plans) c3 hg (rowsD_lst _) hrr
      rw [lamps_fault hg hpp] at j4
      have j5 := judge_lamps_eq cr (.lst (([] : List (List Int)).map eT)) [] c3 hg (rowsD_lst _) (by simp)
      rw [(safe_0 cr.cx cr.mv.length).fault] at j5
      rw [cl_eq j1]
      simp_arith
      rw [cl_eq j2]
      simp_arith [sm_neRows]
      rw [show D.lst [] = .lst (([] : List (List (Int × Int))).map ePl) from rfl, cl_eq j3]
      simp_arith
      rw [show D.lst [] = .lst ((lampsF cr []).map eT) from rfl]
      simp_arith [sm_neRows]
      rw [cl_eq j4]
      simp_arith
      rw [show D.lst [] = .lst (([] : List (List Int)).map eT) from rfl, cl_eq j5]
      simp_arith
      refine ⟨okR_of (by omega) (by omega), ?_⟩
      refine wp_for (fun _ _ s => ∃ (x7 x8 x9 x10 : Option D) (c : Src), s = ⟨[none, some (.val .src), jv x2, some (.val (eCr cr)), some (.val (sR (eCr cr))), some (.val (.lst (plans.map ePl))), some (.val (.lst ((lampsF cr plans).map eT))), jv x7, jv x8, jv x9, jv x10, jv x11, jv x12, jv x13, jv x14], c⟩) ⟨x7, x8, x9, x10, c3, rfl⟩ ?_ ?_
      · clear j1 j2 j3 j4 j5
        rintro done turn rest _ _ ⟨y7, y8, y9, y10, c, rfl⟩
        simp_arith
        refine (bent_cl cr (lampsF cr plans) c hg (by omega) (by omega) fun row h => ⟨by have := (hrow row h).len; omega, (hrow row h).inn⟩).mono fun d c4 ⟨b, e, hb1, hb2⟩ => ?_
        subst e
        have hb3 : ∀ row ∈ b, ∀ i ∈ row, 0 ≤ i ∧ i < (cr.mv.length : Int) := fun row h => (hb2 row h).2
        obtain ⟨hf1, hf2⟩ := sh4_fault (cx := cr.cx) (n := cr.mv.length) (rows := b) (by omega) (by omega) hb3
        simp_arith
        rw [cl_eq (law_fault_eq cr b c4 hg (by omega) (fun row h => by have := (hb2 row h).1; omega) hb3)]
        simp_arith
        rw [sm_repr4 hf1 (by omega) (by omega) hf2]
        simp_arith
        rw [cl_eq (judge_lamps_eq cr (eR b) b c4 hg (rowsD_tup b) hb3)]
        simp_arith
        rw [sm_repr4 hf1 (by omega) (by omega) hf2]
        simp_arith
        rw [sm_neR4 hf1]
        simp_arith
        rw [cl_eq (judge_lamps_eq cr (.lst (b.map eT)) b c4 hg (rowsD_lst b) hb3)]
        simp_arith
        rw [sm_repr4 hf1 (by omega) (by omega) hf2]
        simp_arith
        rw [sm_neR4 hf1]
        simp_arith [sm_neRows]
        exact ⟨some (.int turn), some (.lst (b.map eT)), some (.lst (b.map eT)), some (sR (faultF cr.cx cr.mv.length b)), c4, rfl⟩
      · clear j1 j2 j3 j4 j5
        rintro _ ⟨y7, y8, y9, y10, c, rfl⟩
        simp_arith
        refine wp_compM (enc := ePl) (fun p => eT (capF cr p)) (by omega) (by simp_arith) (fun p hpm => by
          simp_arith
          rw [cl_eq (law_capacity_eq cr p c hg (hpp p hpm).valid)]
          simp_arith) ?_
        rw [show plans.map (fun p => eT (capF cr p)) = (plans.map (capF cr)).map eT by rw [List.map_map]; rfl]
        simp_arith
        have hcl : ∀ a ∈ plans.map (capF cr), a.length ≤ 1000 := fun a ha => by
          obtain ⟨p, _, rfl⟩ := List.mem_map.mp ha
          rw [capF_len]; omega
        generalize plans.map (capF cr) = caps at hcl ⊢
        refine wp_for (enc := eT) (fun _ _ s => ∃ (x12 x13 : Option D), s = ⟨[none, some (.val .src), jv x2, some (.val (eCr cr)), some (.val (sR (eCr cr))), some (.val (.lst (plans.map ePl))), some (.val (.lst ((lampsF cr plans).map eT))), jv y7, jv y8, jv y9, jv y10, some (.val (.lst (caps.map eT))), jv x12, jv x13, jv x14], c⟩) ⟨x12, x13, rfl⟩ ?_ ?_
        · rintro done one rest _ hx ⟨z12, z13, rfl⟩
          have ho := hcl one (by rw [hx]; simp)
          simp_arith
          refine wp_for (enc := eT) (fun _ _ s => ∃ (x13 : Option D), s = ⟨[none, some (.val .src), jv x2, some (.val (eCr cr)), some (.val (sR (eCr cr))), some (.val (.lst (plans.map ePl))), some (.val (.lst ((lampsF cr plans).map eT))), jv y7, jv y8, jv y9, jv y10, some (.val (.lst (caps.map eT))), some (.val (eT one)), jv x13, jv x14], c⟩) ⟨z13, rfl⟩ ?_ ?_
          · rintro done2 other rest2 _ hx2 ⟨w13, rfl⟩
            have hb : ∀ b : Bool, Sh4 0 0 (.bl b) := fun b => sh4_bl b
            simp_arith
            rw [cl_eq (above_eq one other c ho)]
            simp_arith
            rw [sm_repr4 (hb _) (by omega) (by omega)]
            simp_arith [sm_neTT]
            refine ⟨fun e => ?_, fun e => ?_⟩
            · rw [decide_eq_true e, sm_repr4 (hb _) (by omega) (by omega)]
              try simp_arith
              rw [show (!true && geAll one other) = false from rfl, show (!true) = false from rfl, sm_neR4 (hb _)]
              try simp_arith
              exact ⟨some (eT other), rfl⟩
            · rw [decide_eq_false e]
              try simp_arith
              rw [cl_eq (least_eq one other c ho)]
              try simp_arith
              rw [sm_repr4 (hb _) (by omega) (by omega)]
              try simp_arith
              rw [show (!false && geAll one other) = geAll one other from rfl, sm_neR4 (hb _)]
              try simp_arith
              exact ⟨some (eT other), rfl⟩
          · rintro _ ⟨w13, rfl⟩
            exact ⟨some (eT one), w13, rfl⟩
        · rintro _ ⟨z12, z13, rfl⟩
          simp_arith
          rw [sm_repr4 hsh (by omega) (by omega)]
          simp_arith
          rw [sm_neR4 hsh]
          simp_arith
          refine LawI.of rfl ?_
          simp_arith
end GW
end

noncomputable section
namespace GW
open GH
theorem plain_law : ∀ src, ∃ s', m_law ⟨lawEnv 15 1, src⟩ = some (.ret (.bl true), s') := fun src => by
  refine law_ok ?_
  rw [m_law_is]
  simp_arith
  refine ⟨okR_of (by omega) (by omega), ?_⟩
  refine wp_for (fun _ _ st => LawI 13 st) (lawI_start 13 src) (fun done x rest s _ hI => ?_) fun s hI => ?_
  · obtain ⟨xs, c, rfl, hxs⟩ := hI.open_
    obtain ⟨x2, xs, rfl, hxs⟩ := uncons hxs
    simp_arith [List.map_cons]
    refine (lap_ok (LawI.of (by simpa using hxs) ?_)).mono fun o s' ⟨h1, h2⟩ => by subst h1; exact h2
    simp_arith
    have : ∀ ys : List (Option D), AllV (ys.map jv) := fun ys => by
      induction ys with
      | nil => trivial
      | cons y t ih => exact ⟨⟨y, rfl⟩, ih⟩
    exact this xs
  · simp_arith
end GW
end

noncomputable section
namespace GW
open PySem PySem.Spec PyProof.Rows L2 GH
def d_is_integer : He.DefD := ⟨("is_integer", none), "is_integer", "is_integer", defArgs st_is_integer, defBody st_is_integer, defScope st_is_integer, [], []⟩
def d_do_cross : He.DefD := ⟨("do_cross", none), "do_cross", "do_cross", defArgs st_do_cross, defBody st_do_cross, defScope st_do_cross, [], []⟩
def d_clearance : He.DefD := ⟨("clearance", none), "clearance", "clearance", defArgs st_clearance, defBody st_clearance, defScope st_clearance, [], []⟩
def d_free_sets : He.DefD := ⟨("free_sets", none), "free_sets", "free_sets", defArgs st_free_sets, defBody st_free_sets, defScope st_free_sets, [], []⟩
def d_is_full : He.DefD := ⟨("is_full", none), "is_full", "is_full", defArgs st_is_full, defBody st_is_full, defScope st_is_full, [], []⟩
def d_stages : He.DefD := ⟨("stages", none), "stages", "stages", defArgs st_stages, defBody st_stages, defScope st_stages, [], []⟩
def d_clear_ticks : He.DefD := ⟨("clear_ticks", none), "clear_ticks", "clear_ticks", defArgs st_clear_ticks, defBody st_clear_ticks, defScope st_clear_ticks, [], []⟩
def d_need_of : He.DefD := ⟨("need_of", none), "need_of", "need_of", defArgs st_need_of, defBody st_need_of, defScope st_need_of, [], []⟩
def d_is_pair : He.DefD := ⟨("is_pair", none), "is_pair", "is_pair", defArgs st_is_pair, defBody st_is_pair, defScope st_is_pair, [], []⟩
def d_judge_plan : He.DefD := ⟨("judge_plan", none), "judge_plan", "judge_plan", defArgs st_judge_plan, defBody st_judge_plan, defScope st_judge_plan, [], []⟩
def d_is_plan : He.DefD := ⟨("is_plan", none), "is_plan", "is_plan", defArgs st_is_plan, defBody st_is_plan, defScope st_is_plan, [], []⟩
def d_capacity_of : He.DefD := ⟨("capacity_of", none), "capacity_of", "capacity_of", defArgs st_capacity_of, defBody st_capacity_of, defScope st_capacity_of, [], []⟩
def d_is_above : He.DefD := ⟨("is_above", none), "is_above", "is_above", defArgs st_is_above, defBody st_is_above, defScope st_is_above, [], []⟩
def d_greens : He.DefD := ⟨("greens", none), "greens", "greens", defArgs st_greens, defBody st_greens, defScope st_greens, [], []⟩
def d_lamps_at : He.DefD := ⟨("lamps_at", none), "lamps_at", "lamps_at", defArgs st_lamps_at, defBody st_lamps_at, defScope st_lamps_at, [], []⟩
def d_lamp_rows : He.DefD := ⟨("lamp_rows", none), "lamp_rows", "lamp_rows", defArgs st_lamp_rows, defBody st_lamp_rows, defScope st_lamp_rows, [], []⟩
def d_first_crossed : He.DefD := ⟨("first_crossed", none), "first_crossed", "first_crossed", defArgs st_first_crossed, defBody st_first_crossed, defScope st_first_crossed, [], []⟩
def d_first_early : He.DefD := ⟨("first_early", none), "first_early", "first_early", defArgs st_first_early, defBody st_first_early, defScope st_first_early, [], []⟩
def d_judge_lamps : He.DefD := ⟨("judge_lamps", none), "judge_lamps", "judge_lamps", defArgs st_judge_lamps, defBody st_judge_lamps, defScope st_judge_lamps, [], []⟩
def d__law_open_cells : He.DefD := ⟨("_law_open_cells", none), "_law_open_cells", "_law_open_cells", defArgs st__law_open_cells, defBody st__law_open_cells, defScope st__law_open_cells, [], []⟩
def d__law_pick : He.DefD := ⟨("_law_pick", none), "_law_pick", "_law_pick", defArgs st__law_pick, defBody st__law_pick, defScope st__law_pick, [], []⟩
def d__law_any_order : He.DefD := ⟨("_law_any_order", none), "_law_any_order", "_law_any_order", defArgs st__law_any_order, defBody st__law_any_order, defScope st__law_any_order, [], []⟩
def d__law_clearance : He.DefD := ⟨("_law_clearance", none), "_law_clearance", "_law_clearance", defArgs st__law_clearance, defBody st__law_clearance, defScope st__law_clearance, [], []⟩
def d__law_crosses_one : He.DefD := ⟨("_law_crosses_one", none), "_law_crosses_one", "_law_crosses_one", defArgs st__law_crosses_one, defBody st__law_crosses_one, defScope st__law_crosses_one, [], []⟩
def d__law_stages : He.DefD := ⟨("_law_stages", none), "_law_stages", "_law_stages", defArgs st__law_stages, defBody st__law_stages, defScope st__law_stages, [], []⟩
def d__law_clearing : He.DefD := ⟨("_law_clearing", none), "_law_clearing", "_law_clearing", defArgs st__law_clearing, defBody st__law_clearing, defScope st__law_clearing, [], []⟩
def d__law_capacity : He.DefD := ⟨("_law_capacity", none), "_law_capacity", "_law_capacity", defArgs st__law_capacity, defBody st__law_capacity, defScope st__law_capacity, [], []⟩
def d__law_draw_crossing : He.DefD := ⟨("_law_draw_crossing", none), "_law_draw_crossing", "_law_draw_crossing", defArgs st__law_draw_crossing, defBody st__law_draw_crossing, defScope st__law_draw_crossing, [], []⟩
def d__law_one_crossing : He.DefD := ⟨("_law_one_crossing", none), "_law_one_crossing", "_law_one_crossing", defArgs st__law_one_crossing, defBody st__law_one_crossing, defScope st__law_one_crossing, [], []⟩
def d__law_need : He.DefD := ⟨("_law_need", none), "_law_need", "_law_need", defArgs st__law_need, defBody st__law_need, defScope st__law_need, [], []⟩
def d__law_is_least : He.DefD := ⟨("_law_is_least", none), "_law_is_least", "_law_is_least", defArgs st__law_is_least, defBody st__law_is_least, defScope st__law_is_least, [], []⟩
def d__law_loose_plan : He.DefD := ⟨("_law_loose_plan", none), "_law_loose_plan", "_law_loose_plan", defArgs st__law_loose_plan, defBody st__law_loose_plan, defScope st__law_loose_plan, [], []⟩
def d__law_lamp_rows : He.DefD := ⟨("_law_lamp_rows", none), "_law_lamp_rows", "_law_lamp_rows", defArgs st__law_lamp_rows, defBody st__law_lamp_rows, defScope st__law_lamp_rows, [], []⟩
def d__law_lamp_fault : He.DefD := ⟨("_law_lamp_fault", none), "_law_lamp_fault", "_law_lamp_fault", defArgs st__law_lamp_fault, defBody st__law_lamp_fault, defScope st__law_lamp_fault, [], []⟩
def d__law_plan_fault : He.DefD := ⟨("_law_plan_fault", none), "_law_plan_fault", "_law_plan_fault", defArgs st__law_plan_fault, defBody st__law_plan_fault, defScope st__law_plan_fault, [], []⟩
def d__law_near_plans : He.DefD := ⟨("_law_near_plans", none), "_law_near_plans", "_law_near_plans", defArgs st__law_near_plans, defBody st__law_near_plans, defScope st__law_near_plans, [], []⟩
def d__law_bent_rows : He.DefD := ⟨("_law_bent_rows", none), "_law_bent_rows", "_law_bent_rows", defArgs st__law_bent_rows, defBody st__law_bent_rows, defScope st__law_bent_rows, [], []⟩
def d__law_plan_right : He.DefD := ⟨("_law_plan_right", none), "_law_plan_right", "_law_plan_right", defArgs st__law_plan_right, defBody st__law_plan_right, defScope st__law_plan_right, [], []⟩
def d_law : He.DefD := ⟨("law", none), "law", "law", defArgs st_law, defBody st_law, defScope st_law, [], []⟩
def dfs : List He.DefD := [d_is_integer, d_do_cross, d_clearance, d_free_sets, d_is_full, d_stages, d_clear_ticks, d_need_of, d_is_pair, d_judge_plan, d_is_plan, d_capacity_of, d_is_above, d_greens, d_lamps_at, d_lamp_rows, d_first_crossed, d_first_early, d_judge_lamps, d__law_open_cells, d__law_pick, d__law_any_order, d__law_clearance, d__law_crosses_one, d__law_stages, d__law_clearing, d__law_capacity, d__law_draw_crossing, d__law_one_crossing, d__law_need, d__law_is_least, d__law_loose_plan, d__law_lamp_rows, d__law_lamp_fault, d__law_plan_fault, d__law_near_plans, d__law_bent_rows, d__law_plan_right, d_law]
def fcs : List He.Fa := [.glo "is_integer", .glo "do_cross", .glo "clearance", .glo "free_sets", .glo "is_full", .glo "stages", .glo "clear_ticks", .glo "need_of", .glo "is_pair", .glo "judge_plan", .glo "is_plan", .glo "capacity_of", .glo "is_above", .glo "greens", .glo "lamps_at", .glo "lamp_rows", .glo "first_crossed", .glo "first_early", .glo "judge_lamps", .glo "_law_open_cells", .glo "_law_pick", .glo "_law_any_order", .glo "_law_clearance", .glo "_law_crosses_one", .glo "_law_stages", .glo "_law_clearing", .glo "_law_capacity", .glo "_law_draw_crossing", .glo "_law_one_crossing", .glo "_law_need", .glo "_law_is_least", .glo "_law_loose_plan", .glo "_law_lamp_rows", .glo "_law_lamp_fault", .glo "_law_plan_fault", .glo "_law_near_plans", .glo "_law_bent_rows", .glo "_law_plan_right", .glo "law", .free "abs", .free "all", .free "any", .free "bool", .free "enumerate", .free "int", .free "isinstance", .free "len", .free "list", .free "max", .free "range", .free "repr", .free "sorted", .free "sum", .free "tuple", .free "zip"]
abbrev Rr : PySem.W.OpenRow := PySem.W.OpenLaw.row PySem.Challenge.rw_greenheld_k05_plans_and_lamps
abbrev hk : PySem.W.Hook := He.hookD 4 fcs dfs
def ob (s : PySem.W.SharedT) : He.AlD := He.obsDG 4 fcs dfs (HandSHeadRun.getT s)
theorem ob_eq (s : PySem.W.SharedT) : ob s = hk.obs s.abs := He.obsDG_eq (HandSHeadRun.getT_eq s)
def loose : List Str := [("is_integer" : Str), ("do_cross" : Str), ("clearance" : Str), ("free_sets" : Str), ("is_full" : Str), ("stages" : Str), ("clear_ticks" : Str), ("need_of" : Str), ("is_pair" : Str), ("judge_plan" : Str), ("is_plan" : Str), ("capacity_of" : Str), ("is_above" : Str), ("greens" : Str), ("lamps_at" : Str), ("lamp_rows" : Str), ("first_crossed" : Str), ("first_early" : Str), ("judge_lamps" : Str), ("_law_open_cells" : Str), ("_law_pick" : Str), ("_law_any_order" : Str), ("_law_clearance" : Str), ("_law_stages" : Str), ("_law_crosses_one" : Str), ("_law_clearing" : Str), ("_law_capacity" : Str), ("_law_draw_crossing" : Str), ("_law_one_crossing" : Str), ("_law_need" : Str), ("_law_is_least" : Str), ("_law_loose_plan" : Str), ("_law_lamp_rows" : Str), ("_law_lamp_fault" : Str), ("_law_plan_fault" : Str), ("_law_near_plans" : Str), ("_law_bent_rows" : Str), ("_law_plan_right" : Str)]
theorem run (w : World) : HandSHeadRun.RunEq Rr (PySem.W.view Rr.prog [43]) hk ob 3040 loose w := by
  intro os
  kernel_rfl
theorem facts (ok : ∀ src, ∃ s', m_law ⟨lawEnv 15 1, src⟩ = some (.ret (.bl true), s')) {P : Program} {w : World} {K : PySem.W.Frag} {h : Heap} {mg : Str → Option Value} (X : K.In h) (G : h.Ns mainGlobals mg) (c : He.SaysD fcs dfs K) (base : Heap) : FnW P w K mg base 9 "law" (spLaw K) := by
  obtain ⟨fd_is_integer, D_is_integer⟩ := c.def_ 0 (d := d_is_integer) rfl
  obtain ⟨fd_do_cross, D_do_cross⟩ := c.def_ 1 (d := d_do_cross) rfl
  obtain ⟨fd_clearance, D_clearance⟩ := c.def_ 2 (d := d_clearance) rfl
  obtain ⟨fd_free_sets, D_free_sets⟩ := c.def_ 3 (d := d_free_sets) rfl
  obtain ⟨fd_is_full, D_is_full⟩ := c.def_ 4 (d := d_is_full) rfl
  obtain ⟨fd_stages, D_stages⟩ := c.def_ 5 (d := d_stages) rfl
  obtain ⟨fd_clear_ticks, D_clear_ticks⟩ := c.def_ 6 (d := d_clear_ticks) rfl
  obtain ⟨fd_need_of, D_need_of⟩ := c.def_ 7 (d := d_need_of) rfl
  obtain ⟨fd_is_pair, D_is_pair⟩ := c.def_ 8 (d := d_is_pair) rfl
  obtain ⟨fd_judge_plan, D_judge_plan⟩ := c.def_ 9 (d := d_judge_plan) rfl
  obtain ⟨fd_is_plan, D_is_plan⟩ := c.def_ 10 (d := d_is_plan) rfl
  obtain ⟨fd_capacity_of, D_capacity_of⟩ := c.def_ 11 (d := d_capacity_of) rfl
  obtain ⟨fd_is_above, D_is_above⟩ := c.def_ 12 (d := d_is_above) rfl
  obtain ⟨fd_greens, D_greens⟩ := c.def_ 13 (d := d_greens) rfl
  obtain ⟨fd_lamps_at, D_lamps_at⟩ := c.def_ 14 (d := d_lamps_at) rfl
  obtain ⟨fd_lamp_rows, D_lamp_rows⟩ := c.def_ 15 (d := d_lamp_rows) rfl
  obtain ⟨fd_first_crossed, D_first_crossed⟩ := c.def_ 16 (d := d_first_crossed) rfl
  obtain ⟨fd_first_early, D_first_early⟩ := c.def_ 17 (d := d_first_early) rfl
  obtain ⟨fd_judge_lamps, D_judge_lamps⟩ := c.def_ 18 (d := d_judge_lamps) rfl
  obtain ⟨fd__law_open_cells, D__law_open_cells⟩ := c.def_ 19 (d := d__law_open_cells) rfl
  obtain ⟨fd__law_pick, D__law_pick⟩ := c.def_ 20 (d := d__law_pick) rfl
  obtain ⟨fd__law_any_order, D__law_any_order⟩ := c.def_ 21 (d := d__law_any_order) rfl
  obtain ⟨fd__law_clearance, D__law_clearance⟩ := c.def_ 22 (d := d__law_clearance) rfl
  obtain ⟨fd__law_crosses_one, D__law_crosses_one⟩ := c.def_ 23 (d := d__law_crosses_one) rfl
  obtain ⟨fd__law_stages, D__law_stages⟩ := c.def_ 24 (d := d__law_stages) rfl
  obtain ⟨fd__law_clearing, D__law_clearing⟩ := c.def_ 25 (d := d__law_clearing) rfl
  obtain ⟨fd__law_capacity, D__law_capacity⟩ := c.def_ 26 (d := d__law_capacity) rfl
  obtain ⟨fd__law_draw_crossing, D__law_draw_crossing⟩ := c.def_ 27 (d := d__law_draw_crossing) rfl
  obtain ⟨fd__law_one_crossing, D__law_one_crossing⟩ := c.def_ 28 (d := d__law_one_crossing) rfl
  obtain ⟨fd__law_need, D__law_need⟩ := c.def_ 29 (d := d__law_need) rfl
  obtain ⟨fd__law_is_least, D__law_is_least⟩ := c.def_ 30 (d := d__law_is_least) rfl
  obtain ⟨fd__law_loose_plan, D__law_loose_plan⟩ := c.def_ 31 (d := d__law_loose_plan) rfl
  obtain ⟨fd__law_lamp_rows, D__law_lamp_rows⟩ := c.def_ 32 (d := d__law_lamp_rows) rfl
  obtain ⟨fd__law_lamp_fault, D__law_lamp_fault⟩ := c.def_ 33 (d := d__law_lamp_fault) rfl
  obtain ⟨fd__law_plan_fault, D__law_plan_fault⟩ := c.def_ 34 (d := d__law_plan_fault) rfl
  obtain ⟨fd__law_near_plans, D__law_near_plans⟩ := c.def_ 35 (d := d__law_near_plans) rfl
  obtain ⟨fd__law_bent_rows, D__law_bent_rows⟩ := c.def_ 36 (d := d__law_bent_rows) rfl
  obtain ⟨fd__law_plan_right, D__law_plan_right⟩ := c.def_ 37 (d := d__law_plan_right) rfl
  obtain ⟨fd_law, D_law⟩ := c.def_ 38 (d := d_law) rfl
  have g_is_integer := He.glo_ok X G (c.fact 0 (f := .glo "is_integer") rfl)
  have g_do_cross := He.glo_ok X G (c.fact 1 (f := .glo "do_cross") rfl)
  have g_clearance := He.glo_ok X G (c.fact 2 (f := .glo "clearance") rfl)
  have g_free_sets := He.glo_ok X G (c.fact 3 (f := .glo "free_sets") rfl)
  have g_is_full := He.glo_ok X G (c.fact 4 (f := .glo "is_full") rfl)
  have g_stages := He.glo_ok X G (c.fact 5 (f := .glo "stages") rfl)
  have g_clear_ticks := He.glo_ok X G (c.fact 6 (f := .glo "clear_ticks") rfl)
  have g_need_of := He.glo_ok X G (c.fact 7 (f := .glo "need_of") rfl)
  have g_is_pair := He.glo_ok X G (c.fact 8 (f := .glo "is_pair") rfl)
  have g_judge_plan := He.glo_ok X G (c.fact 9 (f := .glo "judge_plan") rfl)
  have g_is_plan := He.glo_ok X G (c.fact 10 (f := .glo "is_plan") rfl)
  have g_capacity_of := He.glo_ok X G (c.fact 11 (f := .glo "capacity_of") rfl)
  have g_is_above := He.glo_ok X G (c.fact 12 (f := .glo "is_above") rfl)
  have g_greens := He.glo_ok X G (c.fact 13 (f := .glo "greens") rfl)
  have g_lamps_at := He.glo_ok X G (c.fact 14 (f := .glo "lamps_at") rfl)
  have g_lamp_rows := He.glo_ok X G (c.fact 15 (f := .glo "lamp_rows") rfl)
  have g_first_crossed := He.glo_ok X G (c.fact 16 (f := .glo "first_crossed") rfl)
  have g_first_early := He.glo_ok X G (c.fact 17 (f := .glo "first_early") rfl)
  have g_judge_lamps := He.glo_ok X G (c.fact 18 (f := .glo "judge_lamps") rfl)
  have g__law_open_cells := He.glo_ok X G (c.fact 19 (f := .glo "_law_open_cells") rfl)
  have g__law_pick := He.glo_ok X G (c.fact 20 (f := .glo "_law_pick") rfl)
  have g__law_any_order := He.glo_ok X G (c.fact 21 (f := .glo "_law_any_order") rfl)
  have g__law_clearance := He.glo_ok X G (c.fact 22 (f := .glo "_law_clearance") rfl)
  have g__law_crosses_one := He.glo_ok X G (c.fact 23 (f := .glo "_law_crosses_one") rfl)
  have g__law_stages := He.glo_ok X G (c.fact 24 (f := .glo "_law_stages") rfl)
  have g__law_clearing := He.glo_ok X G (c.fact 25 (f := .glo "_law_clearing") rfl)
  have g__law_capacity := He.glo_ok X G (c.fact 26 (f := .glo "_law_capacity") rfl)
  have g__law_draw_crossing := He.glo_ok X G (c.fact 27 (f := .glo "_law_draw_crossing") rfl)
  have g__law_one_crossing := He.glo_ok X G (c.fact 28 (f := .glo "_law_one_crossing") rfl)
  have g__law_need := He.glo_ok X G (c.fact 29 (f := .glo "_law_need") rfl)
  have g__law_is_least := He.glo_ok X G (c.fact 30 (f := .glo "_law_is_least") rfl)
  have g__law_loose_plan := He.glo_ok X G (c.fact 31 (f := .glo "_law_loose_plan") rfl)
  have g__law_lamp_rows := He.glo_ok X G (c.fact 32 (f := .glo "_law_lamp_rows") rfl)
  have g__law_lamp_fault := He.glo_ok X G (c.fact 33 (f := .glo "_law_lamp_fault") rfl)
  have g__law_plan_fault := He.glo_ok X G (c.fact 34 (f := .glo "_law_plan_fault") rfl)
  have g__law_near_plans := He.glo_ok X G (c.fact 35 (f := .glo "_law_near_plans") rfl)
  have g__law_bent_rows := He.glo_ok X G (c.fact 36 (f := .glo "_law_bent_rows") rfl)
  have g__law_plan_right := He.glo_ok X G (c.fact 37 (f := .glo "_law_plan_right") rfl)
  have g_law := He.glo_ok X G (c.fact 38 (f := .glo "law") rfl)
  have h_abs := He.free_ok X G (c.fact 39 (f := .free "abs") rfl)
  have h_all := He.free_ok X G (c.fact 40 (f := .free "all") rfl)
  have h_any := He.free_ok X G (c.fact 41 (f := .free "any") rfl)
  have h_bool := He.free_ok X G (c.fact 42 (f := .free "bool") rfl)
  have h_enumerate := He.free_ok X G (c.fact 43 (f := .free "enumerate") rfl)
  have h_int := He.free_ok X G (c.fact 44 (f := .free "int") rfl)
  have h_isinstance := He.free_ok X G (c.fact 45 (f := .free "isinstance") rfl)
  have h_len := He.free_ok X G (c.fact 46 (f := .free "len") rfl)
  have h_list := He.free_ok X G (c.fact 47 (f := .free "list") rfl)
  have h_max := He.free_ok X G (c.fact 48 (f := .free "max") rfl)
  have h_range := He.free_ok X G (c.fact 49 (f := .free "range") rfl)
  have h_repr := He.free_ok X G (c.fact 50 (f := .free "repr") rfl)
  have h_sorted := He.free_ok X G (c.fact 51 (f := .free "sorted") rfl)
  have h_sum := He.free_ok X G (c.fact 52 (f := .free "sum") rfl)
  have h_tuple := He.free_ok X G (c.fact 53 (f := .free "tuple") rfl)
  have h_zip := He.free_ok X G (c.fact 54 (f := .free "zip") rfl)
  have F_is_integer : Fn P w K mg base 1 "is_integer" 1 S_is_integer := w_is_integer D_is_integer g_is_integer (h_bool := h_bool) (h_int := h_int) (h_isinstance := h_isinstance)
  have F_do_cross : Fn P w K mg base 1 "do_cross" 3 S_do_cross := w_do_cross D_do_cross g_do_cross (h_any := h_any)
  have F_clearance : Fn P w K mg base 1 "clearance" 3 S_clearance := w_clearance D_clearance g_clearance
  have F_free_sets : Fn P w K mg base 2 "free_sets" 1 S_free_sets := w_free_sets D_free_sets g_free_sets (h_any := h_any) (h_len := h_len) (h_range := h_range) (F_do_cross := F_do_cross)
  have F_is_full : Fn P w K mg base 2 "is_full" 2 S_is_full := w_is_full D_is_full g_is_full (h_all := h_all) (h_any := h_any) (h_len := h_len) (h_range := h_range) (F_do_cross := F_do_cross)
  have F_stages : Fn P w K mg base 3 "stages" 1 S_stages := w_stages D_stages g_stages (h_sorted := h_sorted) (h_tuple := h_tuple) (F_free_sets := F_free_sets) (F_is_full := F_is_full)
  have F_clear_ticks : Fn P w K mg base 4 "clear_ticks" 2 S_clear_ticks := w_clear_ticks D_clear_ticks g_clear_ticks (h_len := h_len) (h_max := h_max) (h_range := h_range) (F_clearance := F_clearance) (F_stages := F_stages)
  have F_need_of : Fn P w K mg base 5 "need_of" 2 S_need_of := w_need_of D_need_of g_need_of (h_sum := h_sum) (F_clear_ticks := F_clear_ticks)
  have F_is_pair : Fn P w K mg base 2 "is_pair" 2 S_is_pair := w_is_pair D_is_pair g_is_pair (h_isinstance := h_isinstance) (h_len := h_len) (h_tuple := h_tuple) (F_is_integer := F_is_integer)
  have F_judge_plan : Fn P w K mg base 6 "judge_plan" 2 S_judge_plan := w_judge_plan D_judge_plan g_judge_plan (h_all := h_all) (h_isinstance := h_isinstance) (h_len := h_len) (h_range := h_range) (h_tuple := h_tuple) (F_is_pair := F_is_pair) (F_need_of := F_need_of) (F_stages := F_stages)
  have F_is_plan : Fn P w K mg base 7 "is_plan" 2 S_is_plan := w_is_plan D_is_plan g_is_plan (F_judge_plan := F_judge_plan)
  have F_capacity_of : Fn P w K mg base 4 "capacity_of" 2 S_capacity_of := w_capacity_of D_capacity_of g_capacity_of (h_tuple := h_tuple) (F_stages := F_stages)
  have F_is_above : Fn P w K mg base 1 "is_above" 2 S_is_above := w_is_above D_is_above g_is_above (h_all := h_all) (h_zip := h_zip)
  have F_greens : Fn P w K mg base 5 "greens" 2 S_greens := w_greens D_greens g_greens (h_sorted := h_sorted) (h_tuple := h_tuple) (F_clear_ticks := F_clear_ticks) (F_stages := F_stages)
  have F_lamps_at : Fn P w K mg base 6 "lamps_at" 3 S_lamps_at := w_lamps_at D_lamps_at g_lamps_at (h_tuple := h_tuple) (F_greens := F_greens)
  have F_lamp_rows : Fn P w K mg base 7 "lamp_rows" 2 S_lamp_rows := w_lamp_rows D_lamp_rows g_lamp_rows (h_range := h_range) (F_lamps_at := F_lamps_at)
  have F_first_crossed : Fn P w K mg base 2 "first_crossed" 2 S_first_crossed := w_first_crossed D_first_crossed g_first_crossed (h_enumerate := h_enumerate) (F_do_cross := F_do_cross)
  have F_first_early : Fn P w K mg base 2 "first_early" 2 S_first_early := w_first_early D_first_early g_first_early (h_enumerate := h_enumerate) (h_sorted := h_sorted) (F_clearance := F_clearance) (F_do_cross := F_do_cross)
  have F_judge_lamps : Fn P w K mg base 3 "judge_lamps" 2 S_judge_lamps := w_judge_lamps D_judge_lamps g_judge_lamps (F_first_crossed := F_first_crossed) (F_first_early := F_first_early)
  have F_open : FnW P w K mg base 8 "_law_open_cells" (spOpen K) := w__law_open_cells (k := 7) D__law_open_cells g__law_open_cells (h_abs := h_abs) (h_int := h_int)
  have F__law_pick : Fn P w K mg base 1 "_law_pick" 2 S__law_pick := w__law_pick D__law_pick g__law_pick (h_int := h_int) (h_len := h_len)
  have F__law_any_order : Fn P w K mg base 2 "_law_any_order" 2 S__law_any_order := w__law_any_order D__law_any_order g__law_any_order (h_len := h_len) (h_list := h_list) (h_range := h_range) (F__law_pick := F__law_pick)
  have F__law_clearance : Fn P w K mg base 1 "_law_clearance" 3 S__law_clearance := w__law_clearance D__law_clearance g__law_clearance
  have F__law_crosses_one : Fn P w K mg base 2 "_law_crosses_one" 3 S__law_crosses_one := w__law_crosses_one D__law_crosses_one g__law_crosses_one (h_any := h_any) (F__law_clearance := F__law_clearance)
  have F__law_stages : Fn P w K mg base 3 "_law_stages" 1 S__law_stages := w__law_stages D__law_stages g__law_stages (h_all := h_all) (h_len := h_len) (h_range := h_range) (h_sorted := h_sorted) (h_tuple := h_tuple) (F__law_crosses_one := F__law_crosses_one)
  have F__law_clearing : Fn P w K mg base 2 "_law_clearing" 2 S__law_clearing := w__law_clearing D__law_clearing g__law_clearing (h_len := h_len) (h_max := h_max) (h_range := h_range) (F__law_clearance := F__law_clearance)
  have F__law_capacity : Fn P w K mg base 4 "_law_capacity" 2 S__law_capacity := w__law_capacity D__law_capacity g__law_capacity (h_tuple := h_tuple) (F__law_stages := F__law_stages)
  have F__law_draw_crossing : Fn P w K mg base 3 "_law_draw_crossing" 4 S__law_draw_crossing := w__law_draw_crossing D__law_draw_crossing g__law_draw_crossing (h_int := h_int) (h_len := h_len) (h_range := h_range) (h_tuple := h_tuple) (F__law_any_order := F__law_any_order) (F__law_pick := F__law_pick)
  have F__law_one_crossing : Fn P w K mg base 4 "_law_one_crossing" 1 S__law_one_crossing := w__law_one_crossing D__law_one_crossing g__law_one_crossing (F__law_draw_crossing := F__law_draw_crossing) (F__law_pick := F__law_pick)
  have F__law_need : Fn P w K mg base 4 "_law_need" 2 S__law_need := w__law_need D__law_need g__law_need (h_sum := h_sum) (F__law_clearing := F__law_clearing) (F__law_stages := F__law_stages)
  have F__law_is_least : Fn P w K mg base 1 "_law_is_least" 2 S__law_is_least := w__law_is_least D__law_is_least g__law_is_least (h_all := h_all) (h_zip := h_zip)
  have F__law_loose_plan : Fn P w K mg base 4 "_law_loose_plan" 2 S__law_loose_plan := w__law_loose_plan D__law_loose_plan g__law_loose_plan (h_len := h_len) (h_range := h_range) (F__law_clearing := F__law_clearing) (F__law_pick := F__law_pick) (F__law_stages := F__law_stages)
  have F__law_lamp_rows : Fn P w K mg base 4 "_law_lamp_rows" 2 S__law_lamp_rows := w__law_lamp_rows D__law_lamp_rows g__law_lamp_rows (h_len := h_len) (F__law_clearing := F__law_clearing) (F__law_stages := F__law_stages)
  have F__law_lamp_fault : Fn P w K mg base 2 "_law_lamp_fault" 2 S__law_lamp_fault := w__law_lamp_fault D__law_lamp_fault g__law_lamp_fault (h_enumerate := h_enumerate) (h_list := h_list) (h_sorted := h_sorted) (F__law_clearance := F__law_clearance)
  have F__law_plan_fault : Fn P w K mg base 5 "_law_plan_fault" 2 S__law_plan_fault := w__law_plan_fault D__law_plan_fault g__law_plan_fault (h_all := h_all) (h_bool := h_bool) (h_int := h_int) (h_isinstance := h_isinstance) (h_len := h_len) (h_range := h_range) (h_tuple := h_tuple) (F__law_need := F__law_need) (F__law_stages := F__law_stages)
  have F__law_near_plans : Fn P w K mg base 4 "_law_near_plans" 3 S__law_near_plans := w__law_near_plans D__law_near_plans g__law_near_plans (h_len := h_len) (h_list := h_list) (F__law_pick := F__law_pick) (F__law_stages := F__law_stages)
  have F__law_bent_rows : Fn P w K mg base 4 "_law_bent_rows" 3 S__law_bent_rows := w__law_bent_rows D__law_bent_rows g__law_bent_rows (h_len := h_len) (h_list := h_list) (h_range := h_range) (h_tuple := h_tuple) (F__law_pick := F__law_pick) (F__law_stages := F__law_stages)
  have F__law_plan_right : Fn P w K mg base 8 "_law_plan_right" 3 S__law_plan_right := w__law_plan_right D__law_plan_right g__law_plan_right (h_range := h_range) (h_repr := h_repr) (h_sorted := h_sorted) (h_tuple := h_tuple) (F__law_capacity := F__law_capacity) (F__law_clearing := F__law_clearing) (F__law_lamp_rows := F__law_lamp_rows) (F__law_near_plans := F__law_near_plans) (F__law_need := F__law_need) (F__law_plan_fault := F__law_plan_fault) (F__law_stages := F__law_stages) (F_capacity_of := F_capacity_of) (F_greens := F_greens) (F_is_plan := F_is_plan) (F_judge_plan := F_judge_plan) (F_lamps_at := F_lamps_at) (F_need_of := F_need_of)
  exact w_law D_law g_law (h_all := h_all) (h_list := h_list) (h_range := h_range) (h_repr := h_repr) (h_tuple := h_tuple) (F__law_bent_rows := F__law_bent_rows) (F__law_capacity := F__law_capacity) (F__law_is_least := F__law_is_least) (F__law_lamp_fault := F__law_lamp_fault) (F__law_lamp_rows := F__law_lamp_rows) (F__law_loose_plan := F__law_loose_plan) (F__law_one_crossing := F__law_one_crossing) (F__law_plan_right := F__law_plan_right) (F_is_above := F_is_above) (F_judge_lamps := F_judge_lamps) (F_lamp_rows := F_lamp_rows) (F_open := F_open) ok
end GW
open PySem PySem.W PySem.Calls PyProof.Rows
theorem PySem.Challenge.cw_greenheld_k05_plans_and_lamps_holds : PySem.Challenge.rw_greenheld_k05_plans_and_lamps.Holds := by
  w_on; o_law
  refine HandSHeadRun.head_any (r := OpenLaw.row PySem.Challenge.rw_greenheld_k05_plans_and_lamps) (q := view (OpenLaw.row PySem.Challenge.rw_greenheld_k05_plans_and_lamps).prog [43]) (H := GW.hk) (ob := GW.ob) (M := 3040) (loose := GW.loose) (d := HandSHeadRun.topDef (OpenLaw.row PySem.Challenge.rw_greenheld_k05_plans_and_lamps).prog 43) (kwd := []) GW.ob_eq
    (by kernel_rfl) (fun s => by kernel_rfl) GW.run (by kernel_rfl) (by kernel_rfl) (by kernel_rfl) (by rfl) (by first | assumption | decide +kernel) (by decide +kernel) ⟨rfl, rfl, rfl, rfl, rfl, by decide +kernel⟩ ?hw ?hc
  case hw => w_witness2
  case hc =>
    refine GH.walk_law (l := PySem.Challenge.rw_greenheld_k05_plans_and_lamps) (k := 9) rfl (by kernel_rfl) ⟨⟨rfl, by decide, by decide⟩, rfl⟩ ?F
    intro w mg h Y G
    obtain ⟨K, KX, c⟩ := Y
    refine ⟨K, KX, fun base _ _ => ?_⟩
    have e : (HandSHeadRun.topDef (OpenLaw.row PySem.Challenge.rw_greenheld_k05_plans_and_lamps).prog 43).name = ("law" : PySem.Str) := by kernel_rfl
    rw [e]
    exact GW.facts GW.plain_law KX G c base
end
