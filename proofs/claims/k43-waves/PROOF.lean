import PyProof.Rows.All
import Wide.All
import OpenK.AllK
import Wide.FinOn
import HandS.ForMost
import HandS.Walk
import HandS.Flow
import HandS.TupAny
import HandS.TupMul
import HandS.Wide
import HandS.Deep
import HandS.Conv
import HandS.Sort
import HandS.Star
import HandS.IsInst
import HandS.Style
import HandS.Defaults
import HandS.HeadEnd
import HandS.HeadHook1
import HandS.HeadHook2
import KE.SortData
import KE.KTupSum
import KE.GoesNew
import HandS.SetFor
import HandS.RaiseMore
import PyProof.P3In
import PyProof.ReprRoads
import KE.KRevSl
import KE.KStateDown
import HandS.Head0
import HandS.Head1
import HandS.Head2
import HandS.More
import HandS.DictComp
import PySem.Challenge.RW_greenheld_k43_whole_green_waves
set_option Elab.async false
set_option linter.all false
set_option maxRecDepth 100000
set_option maxHeartbeats 0
namespace GH
open PySem PySem.Spec PyProof.Rows L2

abbrev Sg := L2.St
/-- a value as a tree; src: the one object that a law's draws change -/
inductive D where
  | non | bl (b : Bool) | int (i : Int) | str (s : Str) | tup (ds : List D) | lst (ds : List D)
  | rng (lo hi : Int) | src | dct (ks : List Key) (ds : List D) | dtt (ks : List (List Key)) (ds : List D)

abbrev AP := Addr → Prop

mutual
/-- the tree d lies at the value v; it leans on no address of W -/
def Rp (p : Addr) (W : AP) (H : Hp) : D → V → Prop
  | .non, v => v = .non
  | .bl b, v => v = .bl b
  | .int i, v => v = .int i
  | .str s, v => v = .str s
  | .tup ds, v => ∃ a vs, v = .ref a ∧ ¬ W a ∧ H a = some (.tup vs) ∧ Rps p W H ds vs
  | .lst ds, v => ∃ a vs, v = .ref a ∧ ¬ W a ∧ H a = some (.lst vs) ∧ Rps p W H ds vs
  | .rng lo hi, v => ∃ a, v = .ref a ∧ ¬ W a ∧ H a = some (.rng lo hi)
  | .src, v => v = .ref p
  | .dct ks ds, v => ∃ a kvs, v = .ref a ∧ ¬ W a ∧ Rd H a (.dK kvs) ∧ kvs.map (·.1) = ks ∧ Rps p W H ds (kvs.map (·.2))
  | .dtt ks ds, v => ∃ a kvs, v = .ref a ∧ ¬ W a ∧ Rd H a (.dT kvs) ∧ kvs.map (·.1) = ks ∧ Rps p W H ds (kvs.map (·.2))
def Rps (p : Addr) (W : AP) (H : Hp) : List D → List V → Prop
  | [], vs => vs = []
  | d :: ds, vs => ∃ v r, vs = v :: r ∧ Rp p W H d v ∧ Rps p W H ds r
end

/-- what a tree may lean on stays -/
def Ev (W : AP) (H : Hp) (W' : AP) (H' : Hp) : Prop := ∀ a o, H a = some o → ¬ W a → H' a = some o ∧ ¬ W' a
theorem Ev.refl {W : AP} {H : Hp} : Ev W H W H := fun _ _ h n => ⟨h, n⟩
theorem Ev.rd {W W' : AP} {H H' : Hp} {a : Addr} {u : HO} (e : Ev W H W' H') (h : Rd H a u) (n : ¬ W a) : Rd H' a u ∧ ¬ W' a := by
  rcases h with h | ⟨o, h⟩
  · exact ⟨.inl (e a _ h n).1, (e a _ h n).2⟩
  · exact ⟨.inr ⟨o, (e a _ h n).1⟩, (e a _ h n).2⟩
theorem Ev.trans {W W1 W2 : AP} {H H1 H2 : Hp} (a : Ev W H W1 H1) (b : Ev W1 H1 W2 H2) : Ev W H W2 H2 := fun c o h n => b c o (a c o h n).1 (a c o h n).2
/-- every address of W is taken -/
def NoTup (o : HO) : Prop := ∀ xs, o ≠ .tup xs
def WT (W : AP) (H : Hp) : Prop := ∀ a, W a → ∃ o, H a = some o ∧ NoTup o
theorem WT.same {W : AP} {H H' : Hp} (w : WT W H) (s : Same H H') : WT W H' := fun a h => let ⟨o, e, n⟩ := w a h; ⟨o, s a o e, n⟩
theorem WT.tup {W : AP} {H : Hp} {a : Addr} {xs : List V} (w : WT W H) (h : H a = some (.tup xs)) : ¬ W a := fun z => by
  obtain ⟨o, e, n⟩ := w a z
  rw [h] at e; cases e; exact n _ rfl
theorem WT.new {W : AP} {H : Hp} {a : Addr} (w : WT W H) (n : H a = none) : ¬ W a := fun h => by
  obtain ⟨o, e, _⟩ := w a h
  rw [n] at e; cases e
theorem Ev.same {W : AP} {H H' : Hp} (s : Same H H') : Ev W H W H' := fun a o h n => ⟨s a o h, n⟩
theorem Ev.less {W W' : AP} {H : Hp} (h : ∀ a, W' a → W a) : Ev W H W' H := fun a o e n => ⟨e, fun z => n (h a z)⟩
theorem same_new {H : Hp} {p : Addr} {o : HO} (h : H p = none) : Same H (upd H p o) := fun b x e => by
  rw [upd_ne (ne_of_none e h)]; exact e

mutual
theorem Rp.ev {p : Addr} {W W' : AP} {H H' : Hp} (e : Ev W H W' H') : ∀ (d : D) (v : V), Rp p W H d v → Rp p W' H' d v
  | .non, _, h => h
  | .bl _, _, h => h
  | .int _, _, h => h
  | .str _, _, h => h
  | .src, _, h => h
  | .tup ds, _, ⟨a, vs, h1, h2, h3, h4⟩ => ⟨a, vs, h1, (e a _ h3 h2).2, (e a _ h3 h2).1, Rps.ev e ds vs h4⟩
  | .lst ds, _, ⟨a, vs, h1, h2, h3, h4⟩ => ⟨a, vs, h1, (e a _ h3 h2).2, (e a _ h3 h2).1, Rps.ev e ds vs h4⟩
  | .rng _ _, _, ⟨a, h1, h2, h3⟩ => ⟨a, h1, (e a _ h3 h2).2, (e a _ h3 h2).1⟩
  | .dct _ ds, _, ⟨a, kvs, h1, h2, h3, h4, h5⟩ => ⟨a, kvs, h1, (e.rd h3 h2).2, (e.rd h3 h2).1, h4, Rps.ev e ds _ h5⟩
  | .dtt _ ds, _, ⟨a, kvs, h1, h2, h3, h4, h5⟩ => ⟨a, kvs, h1, (e.rd h3 h2).2, (e.rd h3 h2).1, h4, Rps.ev e ds _ h5⟩
theorem Rps.ev {p : Addr} {W W' : AP} {H H' : Hp} (e : Ev W H W' H') : ∀ (ds : List D) (vs : List V), Rps p W H ds vs → Rps p W' H' ds vs
  | [], _, h => h
  | d :: ds, _, ⟨v, r, h1, h2, h3⟩ => ⟨v, r, h1, Rp.ev e d v h2, Rps.ev e ds r h3⟩
end

section
variable {p : Addr} {W : AP} {H H' : Hp}
theorem Rps.nil : Rps p W H [] [] := by unfold Rps; rfl
theorem Rps.cons {d : D} {v : V} {ds : List D} {vs : List V} (h : Rp p W H d v) (t : Rps p W H ds vs) : Rps p W H (d :: ds) (v :: vs) := by
  unfold Rps; exact ⟨v, vs, rfl, h, t⟩
theorem Rps.length : ∀ {ds : List D} {vs : List V}, Rps p W H ds vs → ds.length = vs.length
  | [], _, h => by unfold Rps at h; rw [h]; rfl
  | d :: ds, _, h => by
    unfold Rps at h
    obtain ⟨v, r, rfl, _, h3⟩ := h
    simp [Rps.length h3]
theorem Rps.get : ∀ {ds : List D} {vs : List V} {i : Nat} {d : D}, Rps p W H ds vs → ds[i]? = some d → ∃ v, vs[i]? = some v ∧ Rp p W H d v
  | [], _, _, _, _, e => by simp at e
  | d :: ds, _, 0, _, h, e => by
    unfold Rps at h
    obtain ⟨v, r, rfl, h2, h3⟩ := h
    simp at e; subst e
    exact ⟨v, rfl, h2⟩
  | d :: ds, _, i + 1, _, h, e => by
    unfold Rps at h
    obtain ⟨v, r, rfl, h2, h3⟩ := h
    obtain ⟨u, q1, q2⟩ := Rps.get (i := i) h3 (by simpa using e)
    exact ⟨u, by simpa using q1, q2⟩
theorem Rps.getV {ds : List D} {vs : List V} {i : Nat} {v : V} (h : Rps p W H ds vs) (e : vs[i]? = some v) : ∃ d, ds[i]? = some d ∧ Rp p W H d v := by
  have hl := h.length
  obtain ⟨hi, rfl⟩ := List.getElem?_eq_some_iff.mp e
  have hd : i < ds.length := by omega
  obtain ⟨u, q1, q2⟩ := h.get (List.getElem?_eq_getElem hd)
  rw [List.getElem?_eq_getElem hi] at q1
  cases q1
  exact ⟨_, List.getElem?_eq_getElem hd, q2⟩
theorem Rps.append : ∀ {ds es : List D} {vs us : List V}, Rps p W H ds vs → Rps p W H es us → Rps p W H (ds ++ es) (vs ++ us)
  | [], _, _, _, h, t => by unfold Rps at h; rw [h]; exact t
  | d :: ds, _, _, _, h, t => by
    unfold Rps at h
    obtain ⟨v, r, rfl, h2, h3⟩ := h
    exact .cons h2 (Rps.append h3 t)
theorem Rps.of_get : ∀ {ds : List D} {vs : List V}, ds.length = vs.length → (∀ (i : Nat) (d : D) (v : V), ds[i]? = some d → vs[i]? = some v → Rp p W H d v) → Rps p W H ds vs
  | [], [], _, _ => .nil
  | [], _ :: _, h, _ => by simp at h
  | _ :: _, [], h, _ => by simp at h
  | d :: ds, v :: vs, h, f => .cons (f 0 d v rfl rfl) (Rps.of_get (by simpa using h) fun i d v h1 h2 => f (i + 1) d v (by simpa using h1) (by simpa using h2))
theorem Rps.take {ds : List D} {vs : List V} (n : Nat) (h : Rps p W H ds vs) : Rps p W H (ds.take n) (vs.take n) := by
  refine Rps.of_get (by simp [h.length]) fun i d v h1 h2 => ?_
  rw [List.getElem?_take] at h1 h2
  split at h1
  · rename_i hi
    rw [if_pos hi] at h2
    obtain ⟨u, q1, q2⟩ := h.get h1
    rw [h2] at q1; cases q1; exact q2
  · cases h1
theorem Rps.drop {ds : List D} {vs : List V} (n : Nat) (h : Rps p W H ds vs) : Rps p W H (ds.drop n) (vs.drop n) := by
  refine Rps.of_get (by simp [h.length]) fun i d v h1 h2 => ?_
  rw [List.getElem?_drop] at h1 h2
  obtain ⟨u, q1, q2⟩ := h.get h1
  rw [h2] at q1; cases q1; exact q2
theorem Rps.set {ds : List D} {vs : List V} {d : D} {v : V} (n : Nat) (h : Rps p W H ds vs) (r : Rp p W H d v) : Rps p W H (ds.set n d) (vs.set n v) := by
  have hl := h.length
  refine Rps.of_get (by simp [hl]) fun i d' v' h1 h2 => ?_
  by_cases e : n = i
  · subst e
    by_cases hn : n < ds.length
    · rw [List.getElem?_set_self hn] at h1
      rw [List.getElem?_set_self (by omega)] at h2
      cases h1; cases h2; exact r
    · rw [List.getElem?_eq_none (by simpa using hn)] at h1; cases h1
  · rw [List.getElem?_set_ne e] at h1 h2
    obtain ⟨u, q1, q2⟩ := h.get h1
    rw [h2] at q1; cases q1; exact q2
end

structure Src where
  cells : List Int
  left : Int
  mixed : Int
  turn : Int
def kCells : Key := .inr "cells"
def kLeft : Key := .inr "left"
def kMixed : Key := .inr "mixed"
def kTurn : Key := .inr "turn"
structure SrcOk (p c : Addr) (H : Hp) (s : Src) : Prop where
  d : H p = some (.dK [(kCells, .ref c), (kLeft, .int s.left), (kMixed, .int s.mixed), (kTurn, .int s.turn)])
  l : H c = some (.lst (s.cells.map V.int))
theorem SrcOk.ne {p c : Addr} {H : Hp} {s : Src} (h : SrcOk p c H s) : p ≠ c := ne_of h.d h.l (by intro z; cases z)
theorem SrcOk.same {p c : Addr} {H H' : Hp} {s : Src} (h : SrcOk p c H s) (e : Same H H') : SrcOk p c H' s := ⟨e _ _ h.d, e _ _ h.l⟩

inductive Sl where
  | val (d : D) | own (ds : List D) | ownK (ks : List Key) (ds : List D) | ownT (ks : List (List Key)) (ds : List D)
def Sl.isOwn : Sl → Bool
  | .val _ => false
  | _ => true
structure S where
  env : List (Option Sl)
  src : Src
/-- what an own slot's object holds -/
def OwnR (p : Addr) (W : AP) (H : Hp) : Sl → HO → Prop
  | .val _, _ => False
  | .own ds, o => ∃ vs, o = .lst vs ∧ Rps p W H ds vs
  | .ownK ks ds, o => ∃ kvs, o = .dK kvs ∧ kvs.map (·.1) = ks ∧ Rps p W H ds (kvs.map (·.2))
  | .ownT ks ds, o => ∃ kvs, o = .dT kvs ∧ kvs.map (·.1) = ks ∧ Rps p W H ds (kvs.map (·.2))
theorem OwnR.noTup {p : Addr} {W : AP} {H : Hp} : ∀ {sl : Sl} {o : HO}, OwnR p W H sl o → NoTup o
  | .val _, _, h => False.elim h
  | .own _, _, ⟨_, h, _⟩ => fun _ z => by rw [h] at z; cases z
  | .ownK _ _, _, ⟨_, h, _⟩ => fun _ z => by rw [h] at z; cases z
  | .ownT _ _, _, ⟨_, h, _⟩ => fun _ z => by rw [h] at z; cases z
theorem OwnR.ev {p : Addr} {W W' : AP} {H H' : Hp} (e : Ev W H W' H') : ∀ (sl : Sl) (o : HO), OwnR p W H sl o → OwnR p W' H' sl o
  | .val _, _, h => h
  | .own _, _, ⟨vs, h1, h2⟩ => ⟨vs, h1, Rps.ev e _ _ h2⟩
  | .ownK _ _, _, ⟨kvs, h1, h2, h3⟩ => ⟨kvs, h1, h2, Rps.ev e _ _ h3⟩
  | .ownT _ _, _, ⟨kvs, h1, h2, h3⟩ => ⟨kvs, h1, h2, Rps.ev e _ _ h3⟩
/-- the addresses of the own slots -/
def OwnA (env : List (Option Sl)) (σ : Sg) : AP := fun a => ∃ (i : Nat) (sl : Sl), env[i]? = some (some sl) ∧ sl.isOwn = true ∧ σ[i]? = some (some (.ref a))
/-- what a def was entered with: the source's dict and list, the addresses that no tree may lean on, the heap -/
structure Bs where
  p : Addr
  c : Addr
  Wc : AP
  H0 : Hp
def Bs.W (B : Bs) (env : List (Option Sl)) (σ : Sg) : AP := fun a => B.Wc a ∨ OwnA env σ a
def Bs.plus (B : Bs) (a : Addr) : Bs := { B with Wc := fun b => B.Wc b ∨ b = a }
structure StOk (B : Bs) (σ : Sg) (H : Hp) (s : S) : Prop where
  len : s.env.length = σ.length
  val : ∀ (i : Nat) (d : D), s.env[i]? = some (some (.val d)) → ∃ v, σ[i]? = some (some v) ∧ Rp B.p (B.W s.env σ) H d v
  own : ∀ (i : Nat) (sl : Sl), s.env[i]? = some (some sl) → sl.isOwn = true → ∃ a o, σ[i]? = some (some (.ref a)) ∧ H a = some o ∧ OwnR B.p (B.W s.env σ) H sl o ∧ B.H0 a = none ∧ ¬ B.Wc a
  sep : ∀ (i j : Nat) (sl sl' : Sl) (a : Addr), s.env[i]? = some (some sl) → sl.isOwn = true → s.env[j]? = some (some sl') → sl'.isOwn = true → σ[i]? = some (some (.ref a)) → σ[j]? = some (some (.ref a)) → i = j
  src : SrcOk B.p B.c H s.src
  keep : ∀ a o, B.H0 a = some o → a ≠ B.p → a ≠ B.c → H a = some o
  wc : WT B.Wc H
  wp : B.Wc B.p
  wcc : B.Wc B.c
section
variable {B : Bs} {σ : Sg} {H H' : Hp} {s : S}
theorem StOk.wt (k : StOk B σ H s) : WT (B.W s.env σ) H := fun a h => by
  rcases h with h | ⟨i, sl, e1, e2, e3⟩
  · exact k.wc a h
  · obtain ⟨b, o, q1, q2, q3, _⟩ := k.own i sl e1 e2
    rw [e3] at q1; cases q1
    exact ⟨o, q2, q3.noTup⟩
theorem StOk.same (k : StOk B σ H s) (e : Same H H') : StOk B σ H' s where
  len := k.len
  val := fun i d h => let ⟨v, h1, h2⟩ := k.val i d h; ⟨v, h1, h2.ev (Ev.same e)⟩
  own := fun i sl h ho => let ⟨a, o, h1, h2, h3, h4⟩ := k.own i sl h ho; ⟨a, o, h1, e _ _ h2, h3.ev (Ev.same e), h4⟩
  sep := k.sep
  src := k.src.same e
  keep := fun a o h h1 h2 => e _ _ (k.keep a o h h1 h2)
  wc := k.wc.same e
  wp := k.wp
  wcc := k.wcc
theorem StOk.new (k : StOk B σ H s) {a : Addr} (h : H a = none) : B.H0 a = none := by
  cases q : B.H0 a with
  | none => rfl
  | some o =>
    by_cases e1 : a = B.p
    · subst e1; rw [k.src.d] at h; cases h
    · by_cases e2 : a = B.c
      · subst e2; rw [k.src.l] at h; cases h
      · rw [k.keep a o q e1 e2] at h; cases h
end

def M (α : Type) := S → Option (α × S)
def ret {α : Type} (a : α) : M α := fun s => some (a, s)
def fail {α : Type} : M α := fun _ => none
def bnd {α β : Type} (m : M α) (f : α → M β) : M β := fun s => match m s with
  | some (a, s1) => f a s1
  | none => none
def lift {α : Type} (o : Option α) : M α := fun s => match o with
  | some a => some (a, s)
  | none => none
theorem bnd_some {α β : Type} {m : M α} {f : α → M β} {s s2 : S} {b : β} (h : bnd m f s = some (b, s2)) : ∃ a s1, m s = some (a, s1) ∧ f a s1 = some (b, s2) := by
  unfold bnd at h
  split at h
  · rename_i a s1 e; exact ⟨a, s1, e, h⟩
  · cases h
theorem bnd_eq {α β : Type} {m : M α} {f : α → M β} {s s1 : S} {a : α} (h : m s = some (a, s1)) : bnd m f s = f a s1 := by unfold bnd; rw [h]
theorem lift_some {α : Type} {o : Option α} {s s2 : S} {b : α} (h : lift o s = some (b, s2)) : o = some b ∧ s2 = s := by
  unfold lift at h
  split at h
  · cases h; exact ⟨rfl, rfl⟩
  · cases h
theorem ret_some {α : Type} {a b : α} {s s2 : S} (h : ret a s = some (b, s2)) : b = a ∧ s2 = s := by
  unfold ret at h; cases h; exact ⟨rfl, rfl⟩

/-- an expression's reading by trees -/
def tI (B : Bs) (m : M D) : TE := fun σ H Q => ∃ s d s', StOk B σ H s ∧ m s = some (d, s') ∧
  ∀ v H', StOk B σ H' s' → Ev (B.W s.env σ) H (B.W s'.env σ) H' → Rp B.p (B.W s'.env σ) H' d v → Q v H'
def tA (B : Bs) (m : M (List D)) : TA := fun σ H Q => ∃ s ds s', StOk B σ H s ∧ m s = some (ds, s') ∧
  ∀ vs H', StOk B σ H' s' → Ev (B.W s.env σ) H (B.W s'.env σ) H' → Rps B.p (B.W s'.env σ) H' ds vs → Q vs H'
def tT (B : Bs) (m : M Bool) : TT := fun σ H Q => ∃ s b s', StOk B σ H s ∧ m s = some (b, s') ∧
  ∀ H', StOk B σ H' s' → Ev (B.W s.env σ) H (B.W s'.env σ) H' → Q b H'
/-- an expression that makes a new list -/
def tL (B : Bs) (m : M (List D)) : TE := fun σ H Q => ∃ s ds s', StOk B σ H s ∧ m s = some (ds, s') ∧
  ∀ a vs H', StOk (B.plus a) σ H' s' → Ev (B.W s.env σ) H ((B.plus a).W s'.env σ) H' → B.H0 a = none → ¬ (B.W s'.env σ) a → H' a = some (.lst vs) → Rps B.p ((B.plus a).W s'.env σ) H' ds vs → Q (.ref a) H'
structure SE (X : Cx) (e : Expr) (m : M D) : Prop where
  pe : ∀ B, PE X e (tI B m)
structure SA (X : Cx) (es : List Expr) (m : M (List D)) : Prop where
  pa : ∀ B, PA X es (tA B m)
structure ST (X : Cx) (e : Expr) (m : M Bool) : Prop where
  pt : ∀ B, PT X e (tT B m)
structure SL (X : Cx) (e : Expr) (m : M (List D)) : Prop where
  pe : ∀ B, PE X e (tL B m)

theorem PE.imp {X : Cx} {e : Expr} {t t' : TE} (h : PE X e t) (f : ∀ σ H Q, t' σ H Q → t σ H Q) : PE X e t' := ⟨fun pins s σ H Q I q => h.run pins s σ H Q I (f _ _ _ q)⟩
theorem PT.imp {X : Cx} {e : Expr} {t t' : TT} (h : PT X e t) (f : ∀ σ H Q, t' σ H Q → t σ H Q) : PT X e t' := ⟨fun pins s σ H Q I q => h.run pins s σ H Q I (f _ _ _ q)⟩
theorem PA.imp {X : Cx} {e : List Expr} {t t' : TA} (h : PA X e t) (f : ∀ σ H Q, t' σ H Q → t σ H Q) : PA X e t' := ⟨fun pos pins s σ H Q I q => h.run pos pins s σ H Q I (f _ _ _ q)⟩
theorem PS.imp {X : Cx} {e : Stmt} {t t' : TS} (h : PS X e t) (f : ∀ D σ H, t' D σ H → t D σ H) : PS X e t' := ⟨fun pins s σ H D I q => h.run pins s σ H D I (f _ _ _ q)⟩
theorem PSs.imp {X : Cx} {e : List Stmt} {t t' : TS} (h : PSs X e t) (f : ∀ D σ H, t' D σ H → t D σ H) : PSs X e t' := ⟨fun pins s σ H D I q => h.run pins s σ H D I (f _ _ _ q)⟩

/-- from a step's reading to the next one's -/
theorem tI.bind {B : Bs} {σ : Sg} {H : Hp} {β : Type} {m : M D} {f : D → M β} {s s2 : S} {b : β} {Q : VK} (k : StOk B σ H s) (h : bnd m f s = some (b, s2))
    (g : ∀ d s1 v H1, m s = some (d, s1) → f d s1 = some (b, s2) → StOk B σ H1 s1 → Ev (B.W s.env σ) H (B.W s1.env σ) H1 → Rp B.p (B.W s1.env σ) H1 d v → Q v H1) : tI B m σ H Q := by
  obtain ⟨d, s1, h1, h2⟩ := bnd_some h
  exact ⟨s, d, s1, k, h1, fun v H1 k1 e1 r1 => g d s1 v H1 h1 h2 k1 e1 r1⟩
theorem tA.bind {B : Bs} {σ : Sg} {H : Hp} {β : Type} {m : M (List D)} {f : List D → M β} {s s2 : S} {b : β} {Q : List V → Hp → Prop} (k : StOk B σ H s) (h : bnd m f s = some (b, s2))
    (g : ∀ ds s1 vs H1, m s = some (ds, s1) → f ds s1 = some (b, s2) → StOk B σ H1 s1 → Ev (B.W s.env σ) H (B.W s1.env σ) H1 → Rps B.p (B.W s1.env σ) H1 ds vs → Q vs H1) : tA B m σ H Q := by
  obtain ⟨d, s1, h1, h2⟩ := bnd_some h
  exact ⟨s, d, s1, k, h1, fun v H1 k1 e1 r1 => g d s1 v H1 h1 h2 k1 e1 r1⟩
theorem tT.bind {B : Bs} {σ : Sg} {H : Hp} {β : Type} {m : M Bool} {f : Bool → M β} {s s2 : S} {b : β} {Q : Bool → Hp → Prop} (k : StOk B σ H s) (h : bnd m f s = some (b, s2))
    (g : ∀ d s1 H1, m s = some (d, s1) → f d s1 = some (b, s2) → StOk B σ H1 s1 → Ev (B.W s.env σ) H (B.W s1.env σ) H1 → Q d H1) : tT B m σ H Q := by
  obtain ⟨d, s1, h1, h2⟩ := bnd_some h
  exact ⟨s, d, s1, k, h1, fun H1 k1 e1 => g d s1 H1 h1 h2 k1 e1⟩

def eVar (i : Nat) : M D := fun s => match s.env[i]? with
  | some (some (.val d)) => some (d, s)
  | _ => none
/-- an own list or dict is read: from now on nobody changes it -/
def eFrz (i : Nat) : M D := fun s => match s.env[i]? with
  | some (some (.val d)) => some (d, s)
  | some (some (.own ds)) => some (.lst ds, { s with env := s.env.set i (some (.val (.lst ds))) })
  | some (some (.ownK ks ds)) => some (.dct ks ds, { s with env := s.env.set i (some (.val (.dct ks ds))) })
  | some (some (.ownT ks ds)) => some (.dtt ks ds, { s with env := s.env.set i (some (.val (.dtt ks ds))) })
  | _ => none
section
variable {X : Cx}
theorem s_var {i : Nat} {x : Str} {pos : Pos} (h : PE X (.Name x pos) (tVar i)) : SE X (.Name x pos) (eVar i) := ⟨fun B => PE.imp h fun σ H Q ⟨s, d, s', k, e, q⟩ => by
  unfold eVar at e
  split at e
  · rename_i d' hd
    cases e
    obtain ⟨v, h1, h2⟩ := k.val i d hd
    exact ⟨v, h1, q v H k Ev.refl h2⟩
  · cases e⟩
/-- an own slot i is turned into a value at the state s -/
theorem StOk.freeze {B : Bs} {σ : Sg} {H : Hp} {s : S} {i : Nat} {sl : Sl} {d : D} {a : Addr} (k : StOk B σ H s) (hi : s.env[i]? = some (some sl)) (ho : sl.isOwn = true) (ha : σ[i]? = some (some (.ref a)))
    (r : Rp B.p (B.W (s.env.set i (some (.val d))) σ) H d (.ref a)) : StOk B σ H { s with env := s.env.set i (some (.val d)) } ∧ Ev (B.W s.env σ) H (B.W (s.env.set i (some (.val d))) σ) H := by
  have hlt : i < s.env.length := (List.getElem?_eq_some_iff.mp hi).1
  have sub : ∀ b, B.W (s.env.set i (some (.val d))) σ b → B.W s.env σ b := fun b hb => by
    rcases hb with hb | ⟨j, sl', e1, e2, e3⟩
    · exact .inl hb
    · by_cases hj : i = j
      · subst hj
        rw [List.getElem?_set_self hlt] at e1
        cases e1; cases e2
      · rw [List.getElem?_set_ne hj] at e1
        exact .inr ⟨j, sl', e1, e2, e3⟩
  have ev : Ev (B.W s.env σ) H (B.W (s.env.set i (some (.val d))) σ) H := Ev.less sub
  refine ⟨⟨by simpa using k.len, fun j d' h => ?_, fun j sl' h h' => ?_, fun j1 j2 sl1 sl2 b h1 o1 h2 o2 q1 q2 => ?_, k.src, k.keep, k.wc, k.wp, k.wcc⟩, ev⟩
  · by_cases hj : i = j
    · subst hj
      have h : (s.env.set i (some (.val d)))[i]? = _ := h
      rw [List.getElem?_set_self hlt] at h
      cases h
      exact ⟨_, ha, r⟩
    · have h : (s.env.set i (some (.val d)))[j]? = _ := h
      rw [List.getElem?_set_ne hj] at h
      obtain ⟨v, h1, h2⟩ := k.val j d' h
      exact ⟨v, h1, h2.ev ev⟩
  · have h : (s.env.set i (some (.val d)))[j]? = _ := h
    by_cases hj : i = j
    · subst hj
      rw [List.getElem?_set_self hlt] at h
      cases h; cases h'
    · rw [List.getElem?_set_ne hj] at h
      obtain ⟨b, o, h1, h2, h3, h4⟩ := k.own j sl' h h'
      exact ⟨b, o, h1, h2, h3.ev ev, h4⟩
  · have h1 : (s.env.set i (some (.val d)))[j1]? = _ := h1
    have h2 : (s.env.set i (some (.val d)))[j2]? = _ := h2
    by_cases e1 : i = j1
    · subst e1
      rw [List.getElem?_set_self hlt] at h1
      cases h1; cases o1
    · by_cases e2 : i = j2
      · subst e2
        rw [List.getElem?_set_self hlt] at h2
        cases h2; cases o2
      · rw [List.getElem?_set_ne e1] at h1
        rw [List.getElem?_set_ne e2] at h2
        exact k.sep j1 j2 sl1 sl2 b h1 o1 h2 o2 q1 q2
/-- the address of an own slot is no more guarded behind its freezing -/
theorem StOk.unguard {B : Bs} {σ : Sg} {H : Hp} {s : S} {i : Nat} {sl : Sl} {d : D} {a : Addr} (k : StOk B σ H s) (hi : s.env[i]? = some (some sl)) (ho : sl.isOwn = true) (ha : σ[i]? = some (some (.ref a))) (hc : ¬ B.Wc a) :
    ¬ B.W (s.env.set i (some (.val d))) σ a := by
  have hlt : i < s.env.length := (List.getElem?_eq_some_iff.mp hi).1
  rintro (h | ⟨j, sl', e1, e2, e3⟩)
  · exact hc h
  · by_cases hj : i = j
    · subst hj
      rw [List.getElem?_set_self hlt] at e1
      cases e1; cases e2
    · rw [List.getElem?_set_ne hj] at e1
      exact hj (k.sep i j sl sl' a hi ho e1 e2 ha e3)
theorem s_frz {i : Nat} {x : Str} {pos : Pos} (h : PE X (.Name x pos) (tVar i)) : SE X (.Name x pos) (eFrz i) := ⟨fun B => PE.imp h fun σ H Q ⟨s, d, s', k, e, q⟩ => by
  unfold eFrz at e
  split at e
  · rename_i d' hd
    cases e
    obtain ⟨v, h1, h2⟩ := k.val i d hd
    exact ⟨v, h1, q v H k Ev.refl h2⟩
  · rename_i ds hd
    cases e
    obtain ⟨a, o, h1, h2, ⟨vs, rfl, h3⟩, h4, h5⟩ := k.own i _ hd rfl
    have un := k.unguard (d := .lst ds) hd rfl h1 h5
    have r : Rp B.p (B.W (s.env.set i (some (.val (.lst ds)))) σ) H (.lst ds) (.ref a) := ⟨a, vs, rfl, un, h2, Rps.ev (Ev.less fun b hb => ?_) _ _ h3⟩
    · obtain ⟨k', ev⟩ := k.freeze hd rfl h1 r
      exact ⟨_, h1, q _ H k' ev r⟩
    · rcases hb with hb | ⟨j, sl', e1, e2, e3⟩
      · exact .inl hb
      · by_cases hj : i = j
        · subst hj
          rw [List.getElem?_set_self (List.getElem?_eq_some_iff.mp hd).1] at e1
          cases e1; cases e2
        · rw [List.getElem?_set_ne hj] at e1
          exact .inr ⟨j, sl', e1, e2, e3⟩
  · rename_i ks ds hd
    cases e
    obtain ⟨a, o, h1, h2, ⟨vs, rfl, h6, h3⟩, h4, h5⟩ := k.own i _ hd rfl
    have un := k.unguard (d := .dct ks ds) hd rfl h1 h5
    have r : Rp B.p (B.W (s.env.set i (some (.val (.dct ks ds)))) σ) H (.dct ks ds) (.ref a) := ⟨a, vs, rfl, un, .inl h2, h6, Rps.ev (Ev.less fun b hb => ?_) _ _ h3⟩
    · obtain ⟨k', ev⟩ := k.freeze hd rfl h1 r
      exact ⟨_, h1, q _ H k' ev r⟩
    · rcases hb with hb | ⟨j, sl', e1, e2, e3⟩
      · exact .inl hb
      · by_cases hj : i = j
        · subst hj
          rw [List.getElem?_set_self (List.getElem?_eq_some_iff.mp hd).1] at e1
          cases e1; cases e2
        · rw [List.getElem?_set_ne hj] at e1
          exact .inr ⟨j, sl', e1, e2, e3⟩
  · rename_i ks ds hd
    cases e
    obtain ⟨a, o, h1, h2, ⟨vs, rfl, h6, h3⟩, h4, h5⟩ := k.own i _ hd rfl
    have un := k.unguard (d := .dtt ks ds) hd rfl h1 h5
    have r : Rp B.p (B.W (s.env.set i (some (.val (.dtt ks ds)))) σ) H (.dtt ks ds) (.ref a) := ⟨a, vs, rfl, un, .inl h2, h6, Rps.ev (Ev.less fun b hb => ?_) _ _ h3⟩
    · obtain ⟨k', ev⟩ := k.freeze hd rfl h1 r
      exact ⟨_, h1, q _ H k' ev r⟩
    · rcases hb with hb | ⟨j, sl', e1, e2, e3⟩
      · exact .inl hb
      · by_cases hj : i = j
        · subst hj
          rw [List.getElem?_set_self (List.getElem?_eq_some_iff.mp hd).1] at e1
          cases e1; cases e2
        · rw [List.getElem?_set_ne hj] at e1
          exact .inr ⟨j, sl', e1, e2, e3⟩
  · cases e⟩
/-- what is no object -/
def D.flat : D → Option V
  | .non => some .non
  | .bl b => some (.bl b)
  | .int i => some (.int i)
  | .str s => some (.str s)
  | _ => none
theorem Rp.flat {p : Addr} {W : AP} {H : Hp} {d : D} {v : V} (h : d.flat = some v) : Rp p W H d v := by
  cases d <;> simp [D.flat] at h <;> subst h <;> simp [Rp]
theorem Rp.flat_eq {p : Addr} {W : AP} {H : Hp} {d : D} {v u : V} (h : d.flat = some v) (r : Rp p W H d u) : u = v := by
  cases d <;> simp [D.flat] at h <;> subst h <;> simpa [Rp] using r
def eC (d : D) : M D := ret d
theorem s_cst {e : Expr} {d : D} {v : V} (h : PE X e (tC v)) (hd : d.flat = some v := by rfl) : SE X e (eC d) := ⟨fun B => PE.imp h fun σ H Q ⟨s, d', s', k, e, q⟩ => by
  obtain ⟨rfl, rfl⟩ := ret_some e
  exact q v H k Ev.refl (Rp.flat hd)⟩
theorem s_int {i j pos} : SE X (.Constant (.int i) j pos) (eC (.int i)) := s_cst pe_int
theorem s_bl {b j pos} : SE X (.Constant (.bool b) j pos) (eC (.bl b)) := s_cst pe_bl
theorem s_non {j pos} : SE X (.Constant .none j pos) (eC .non) := s_cst pe_non
theorem s_str {x j pos} : SE X (.Constant (.str x) j pos) (eC (.str x)) := s_cst pe_str
end
end GH

namespace GH
open PySem PySem.Spec PyProof.Rows L2

/-- a two-place operation on trees -/
def rB (f : D → D → Option D) : R2 := fun x y H Q => ∃ p W dx dy d, WT W H ∧ Rp p W H dx x ∧ Rp p W H dy y ∧ f dx dy = some d ∧ ∀ v H', Same H H' → Rp p W H' d v → Q v H'
def rU1 (f : D → Option D) : V → Hp → VK → Prop := fun x H Q => ∃ p W dx d, WT W H ∧ Rp p W H dx x ∧ f dx = some d ∧ ∀ v H', Same H H' → Rp p W H' d v → Q v H'
/-- a call by values -/
def rC (g : List D → Option D) : List V → Hp → VK → Prop := fun vs H Q => ∃ p W ds d, WT W H ∧ Rps p W H ds vs ∧ g ds = some d ∧ ∀ v H', Same H H' → Rp p W H' d v → Q v H'
/-- a call that makes a new list of what was there -/
def rCL (g : List D → Option (List D)) : List V → Hp → VK → Prop := fun vs H Q => ∃ p W ds es, WT W H ∧ Rps p W H ds vs ∧ g ds = some es ∧
  ∀ a us H', Same H H' → H a = none → H' a = some (.lst us) → Rps p W H es us → Q (.ref a) H'

section
variable {p : Addr} {W : AP} {H : Hp}
theorem rps1 {d : D} {vs : List V} (h : Rps p W H [d] vs) : ∃ v, vs = [v] ∧ Rp p W H d v := by
  simp only [Rps] at h
  obtain ⟨v, r, rfl, h1, rfl⟩ := h
  exact ⟨v, rfl, h1⟩
theorem rps2 {d e : D} {vs : List V} (h : Rps p W H [d, e] vs) : ∃ v u, vs = [v, u] ∧ Rp p W H d v ∧ Rp p W H e u := by
  simp only [Rps] at h
  obtain ⟨v, r, rfl, h1, u, r', rfl, h2, rfl⟩ := h
  exact ⟨v, u, rfl, h1, h2⟩
theorem rp_int {i : Int} {v : V} (h : Rp p W H (.int i) v) : v = .int i := by simpa only [Rp] using h
theorem rp_bl {i : Bool} {v : V} (h : Rp p W H (.bl i) v) : v = .bl i := by simpa only [Rp] using h
theorem rp_str {i : Str} {v : V} (h : Rp p W H (.str i) v) : v = .str i := by simpa only [Rp] using h
theorem rp_non {v : V} (h : Rp p W H .non v) : v = .non := by simpa only [Rp] using h
theorem rp_lst {ds : List D} {v : V} (h : Rp p W H (.lst ds) v) : ∃ a vs, v = .ref a ∧ ¬ W a ∧ H a = some (.lst vs) ∧ Rps p W H ds vs := by simpa only [Rp] using h
theorem rp_tup {ds : List D} {v : V} (h : Rp p W H (.tup ds) v) : ∃ a vs, v = .ref a ∧ ¬ W a ∧ H a = some (.tup vs) ∧ Rps p W H ds vs := by simpa only [Rp] using h
theorem rp_rng {lo hi : Int} {v : V} (h : Rp p W H (.rng lo hi) v) : ∃ a, v = .ref a ∧ ¬ W a ∧ H a = some (.rng lo hi) := by simpa only [Rp] using h
theorem rp_dct {ks : List Key} {ds : List D} {v : V} (h : Rp p W H (.dct ks ds) v) : ∃ a kvs, v = .ref a ∧ ¬ W a ∧ Rd H a (.dK kvs) ∧ kvs.map (·.1) = ks ∧ Rps p W H ds (kvs.map (·.2)) := by simpa only [Rp] using h
theorem rp_dtt {ks : List (List Key)} {ds : List D} {v : V} (h : Rp p W H (.dtt ks ds) v) : ∃ a kvs, v = .ref a ∧ ¬ W a ∧ Rd H a (.dT kvs) ∧ kvs.map (·.1) = ks ∧ Rps p W H ds (kvs.map (·.2)) := by simpa only [Rp] using h
theorem Rp.mkInt (i : Int) : Rp p W H (.int i) (.int i) := by simp [Rp]
theorem Rp.mkBl (i : Bool) : Rp p W H (.bl i) (.bl i) := by simp [Rp]
theorem Rp.mkStr (i : Str) : Rp p W H (.str i) (.str i) := by simp [Rp]
theorem Rp.mkNon : Rp p W H .non .non := by simp [Rp]
theorem Rp.mkTup {ds : List D} {vs : List V} {a : Addr} (n : ¬ W a) (h : H a = some (.tup vs)) (r : Rps p W H ds vs) : Rp p W H (.tup ds) (.ref a) := by
  simp only [Rp]; exact ⟨a, vs, rfl, n, h, r⟩
theorem Rp.mkLst {ds : List D} {vs : List V} {a : Addr} (n : ¬ W a) (h : H a = some (.lst vs)) (r : Rps p W H ds vs) : Rp p W H (.lst ds) (.ref a) := by
  simp only [Rp]; exact ⟨a, vs, rfl, n, h, r⟩
/-- a new tuple of what was there -/
theorem Rp.newTup {ds : List D} {vs : List V} {a : Addr} (w : WT W H) (n : H a = none) (r : Rps p W H ds vs) : Rp p W (upd H a (.tup vs)) (.tup ds) (.ref a) :=
  .mkTup (w.new n) upd_same (r.ev (Ev.same (same_new n)))
theorem Rp.newLst {ds : List D} {vs : List V} {a : Addr} (w : WT W H) (n : H a = none) (r : Rps p W H ds vs) : Rp p W (upd H a (.lst vs)) (.lst ds) (.ref a) :=
  .mkLst (w.new n) upd_same (r.ev (Ev.same (same_new n)))
end

def toInts : List D → Option (List Int)
  | [] => some []
  | .int i :: r => (toInts r).map (i :: ·)
  | _ => none
def toBls : List D → Option (List Bool)
  | [] => some []
  | .bl i :: r => (toBls r).map (i :: ·)
  | _ => none
theorem toInts_eq : ∀ {ds : List D} {ns : List Int}, toInts ds = some ns → ds = ns.map D.int
  | [], _, h => by simp [toInts] at h; subst h; rfl
  | d :: r, ns, h => by
    cases d <;> simp [toInts] at h
    obtain ⟨ms, h1, rfl⟩ := h
    rw [toInts_eq h1]; rfl
theorem toBls_eq : ∀ {ds : List D} {ns : List Bool}, toBls ds = some ns → ds = ns.map D.bl
  | [], _, h => by simp [toBls] at h; subst h; rfl
  | d :: r, ns, h => by
    cases d <;> simp [toBls] at h
    obtain ⟨ms, h1, rfl⟩ := h
    rw [toBls_eq h1]; rfl
@[simp] theorem toInts_map (ns : List Int) : toInts (ns.map D.int) = some ns := by
  induction ns with
  | nil => rfl
  | cons n r ih => simp [toInts, ih]
@[simp] theorem toBls_map (ns : List Bool) : toBls (ns.map D.bl) = some ns := by
  induction ns with
  | nil => rfl
  | cons n r ih => simp [toBls, ih]
theorem rps_ints {p : Addr} {W : AP} {H : Hp} : ∀ {ns : List Int} {vs : List V}, Rps p W H (ns.map D.int) vs → vs = ns.map V.int
  | [], _, h => by simpa [Rps] using h
  | n :: r, _, h => by
    rw [List.map_cons] at h
    simp only [Rps] at h
    obtain ⟨v, t, rfl, h1, h2⟩ := h
    rw [h1, rps_ints h2]; rfl
theorem rps_bls {p : Addr} {W : AP} {H : Hp} : ∀ {ns : List Bool} {vs : List V}, Rps p W H (ns.map D.bl) vs → vs = ns.map V.bl
  | [], _, h => by simpa [Rps] using h
  | n :: r, _, h => by
    rw [List.map_cons] at h
    simp only [Rps] at h
    obtain ⟨v, t, rfl, h1, h2⟩ := h
    rw [h1, rps_bls h2]; rfl
theorem ints_rps {p : Addr} {W : AP} {H : Hp} : ∀ {ns : List Int}, Rps p W H (ns.map D.int) (ns.map V.int)
  | [] => .nil
  | n :: _ => .cons (.mkInt n) ints_rps

def addD : D → D → Option D
  | .int a, .int b => some (.int (a + b))
  | .str a, .str b => if a.length + b.length ≤ sizeLine then some (.str (a ++ b)) else none
  | .tup a, .tup b => if a.length + b.length ≤ sizeLine then some (.tup (a ++ b)) else none
  | .lst a, .lst b => if a.length + b.length ≤ sizeLine then some (.lst (a ++ b)) else none
  | _, _ => none
def subD : D → D → Option D
  | .int a, .int b => some (.int (a - b))
  | _, _ => none
instance (i j : Int) : Decidable (CDivN i j) := by unfold CDivN; infer_instance
instance (i j : Int) : Decidable (CMulW i j) := by unfold CMulW; infer_instance
instance (i j : Int) : Decidable (CMul i j) := by unfold CMul; infer_instance
instance (i j : Int) : Decidable (CDivW i j) := by unfold CDivW; infer_instance
def mulD : D → D → Option D
  | .int a, .int b => if CMul a b then some (.int (a * b)) else if CMulW a b then some (.int (a * b)) else none
  | .tup a, .int k => if a ≠ [] ∧ 2 ≤ k ∧ k ≤ 1000 ∧ a.length ≤ 1000 then some (.tup (List.replicate k.toNat a).flatten) else none
  | .lst a, .int k => if -(2 ^ 63) ≤ k ∧ k < 2 ^ 63 ∧ a.length * k.toNat ≤ sizeLine then some (.lst (List.replicate k.toNat a).flatten) else none
  | _, _ => none
def modD : D → D → Option D
  | .int a, .int b => if b ≠ 0 then some (.int (a.fmod b)) else none
  | _, _ => none
def fdivD : D → D → Option D
  | .int a, .int b => if CDivN a b then some (.int (a.fdiv b)) else if CDivW a b then some (.int (a / b)) else none
  | _, _ => none

section
variable {X : Cx}
abbrev OpD (X : Cx) (g : Value → Value → Sem Value) (f : D → D → Option D) : Prop := OpR X g (rB f)
theorem OpR.imp {g : Value → Value → Sem Value} {r r' : R2} (h : OpR X g r) (f : ∀ x y H Q, r' x y H Q → r x y H Q) : OpR X g r' := fun pins s σ H x y v u Q I rx ry q => h pins s σ H x y v u Q I rx ry (f _ _ _ _ q)
theorem CallR.imp {g : Value} {r r' : List V → Hp → VK → Prop} (h : CallR X g r) (f : ∀ vs H Q, r' vs H Q → r vs H Q) : CallR X g r' := fun pins s σ H xs us Q I rx q => h pins s σ H xs us Q I rx (f _ _ _ q)
/-- case by case -/
theorem opD_cases {g : Value → Value → Sem Value} {f : D → D → Option D} (h : ∀ dx dy d p W, f dx dy = some d → OpR X g (fun x y H Q => WT W H ∧ Rp p W H dx x ∧ Rp p W H dy y ∧ ∀ v H', Same H H' → Rp p W H' d v → Q v H')) : OpD X g f := by
  intro pins s σ H x y v u Q I rx ry ⟨p, W, dx, dy, d, hw, hx, hy, he, hq⟩
  exact h dx dy d p W he pins s σ H x y v u Q I rx ry ⟨hw, hx, hy, hq⟩
theorem od_add : OpD X (binaryOp .Add) addD := opD_cases fun dx dy d p W he => by
  unfold addD at he
  split at he
  · cases he
    refine OpR.imp op_add fun x y H Q ⟨hw, hx, hy, hq⟩ => ⟨_, _, rp_int hx, rp_int hy, hq _ _ (Same.refl H) (.mkInt _)⟩
  · split at he
    · cases he
      rename_i hl
      refine OpR.imp op_add_str fun x y H Q ⟨hw, hx, hy, hq⟩ => ⟨_, _, rp_str hx, rp_str hy, hl, hq _ _ (Same.refl H) (.mkStr _)⟩
    · cases he
  · split at he
    · cases he
      rename_i as bs hl
      refine OpR.imp op_catA fun x y H Q ⟨hw, hx, hy, hq⟩ => ?_
      obtain ⟨a, vs, rfl, na, ha, ra⟩ := rp_tup hx
      obtain ⟨b, us, rfl, nb, hb, rb⟩ := rp_tup hy
      refine ⟨a, b, vs, us, rfl, rfl, SqT.of ha, SqT.of hb, by rw [← ra.length, ← rb.length]; exact hl, fun e => ?_, fun e1 e2 => ?_, fun e1 e2 q nq => ?_⟩
      · subst e
        have : as = [] := List.eq_nil_of_length_eq_zero (by simpa using ra.length)
        subst this
        exact hq _ _ (Same.refl H) (.mkTup nb hb (by simpa using rb))
      · subst e2
        have : bs = [] := List.eq_nil_of_length_eq_zero (by simpa using rb.length)
        subst this
        exact hq _ _ (Same.refl H) (.mkTup na ha (by simpa using ra))
      · exact hq _ _ (same_new nq) (.newTup hw nq (ra.append rb))
    · cases he
  · split at he
    · cases he
      rename_i as bs hl
      refine OpR.imp op_cat fun x y H Q ⟨hw, hx, hy, hq⟩ => ?_
      obtain ⟨a, vs, rfl, na, ha, ra⟩ := rp_lst hx
      obtain ⟨b, us, rfl, nb, hb, rb⟩ := rp_lst hy
      exact ⟨a, b, vs, us, rfl, rfl, ha, hb, by rw [← ra.length, ← rb.length]; exact hl, fun q nq => hq _ _ (same_new nq) (.newLst hw nq (ra.append rb))⟩
    · cases he
  · cases he
theorem od_sub : OpD X (binaryOp .Sub) subD := opD_cases fun dx dy d p W he => by
  unfold subD at he
  split at he
  · cases he
    refine OpR.imp op_sub fun x y H Q ⟨hw, hx, hy, hq⟩ => ⟨_, _, rp_int hx, rp_int hy, hq _ _ (Same.refl H) (.mkInt _)⟩
  · cases he
theorem rps_rep {p : Addr} {W : AP} {H : Hp} {ds : List D} {vs : List V} (r : Rps p W H ds vs) : ∀ n, Rps p W H (List.replicate n ds).flatten (List.replicate n vs).flatten
  | 0 => by simpa using Rps.nil
  | n + 1 => by
    rw [List.replicate_succ, List.replicate_succ, List.flatten_cons, List.flatten_cons]
    exact r.append (rps_rep r n)
theorem od_mul : OpD X (binaryOp .Mult) mulD := opD_cases fun dx dy d p W he => by
  unfold mulD at he
  split at he
  · split at he
    · cases he
      rename_i hl
      refine OpR.imp op_mul fun x y H Q ⟨hw, hx, hy, hq⟩ => ⟨_, _, rp_int hx, rp_int hy, hl, hq _ _ (Same.refl H) (.mkInt _)⟩
    · split at he
      · cases he
        rename_i hl
        refine OpR.imp op_mulW fun x y H Q ⟨hw, hx, hy, hq⟩ => ⟨_, _, rp_int hx, rp_int hy, hl, hq _ _ (Same.refl H) (.mkInt _)⟩
      · cases he
  · split at he
    · cases he
      rename_i as k hl
      refine OpR.imp op_repT fun x y H Q ⟨hw, hx, hy, hq⟩ => ?_
      obtain ⟨a, vs, rfl, na, ha, ra⟩ := rp_tup hx
      refine ⟨a, k, vs, rfl, rp_int hy, SqT.of ha, fun e => hl.1 ?_, hl.2.1, hl.2.2.1, by rw [← ra.length]; exact hl.2.2.2, fun q nq => hq _ _ (same_new nq) (.newTup hw nq (rps_rep ra _))⟩
      subst e
      exact List.eq_nil_of_length_eq_zero (by simpa using ra.length)
    · cases he
  · split at he
    · cases he
      rename_i as k hl
      refine OpR.imp op_rep fun x y H Q ⟨hw, hx, hy, hq⟩ => ?_
      obtain ⟨a, vs, rfl, na, ha, ra⟩ := rp_lst hx
      refine ⟨a, k, vs, rfl, rp_int hy, ha, hl.1, hl.2.1, by rw [← ra.length]; exact hl.2.2, fun q nq => hq _ _ (same_new nq) (.newLst hw nq (rps_rep ra _))⟩
    · cases he
  · cases he
theorem od_mod : OpD X (binaryOp .Mod) modD := opD_cases fun dx dy d p W he => by
  unfold modD at he
  split at he
  · split at he
    · cases he
      rename_i hl
      refine OpR.imp op_modN fun x y H Q ⟨hw, hx, hy, hq⟩ => ⟨_, _, rp_int hx, rp_int hy, hl, hq _ _ (Same.refl H) (.mkInt _)⟩
    · cases he
  · cases he
theorem od_fdiv : OpD X (binaryOp .FloorDiv) fdivD := opD_cases fun dx dy d p W he => by
  unfold fdivD at he
  split at he
  · split at he
    · cases he
      rename_i hl
      refine OpR.imp op_fdivN fun x y H Q ⟨hw, hx, hy, hq⟩ => ⟨_, _, rp_int hx, rp_int hy, hl, hq _ _ (Same.refl H) (.mkInt _)⟩
    · split at he
      · cases he
        rename_i hl
        refine OpR.imp op_fdivW fun x y H Q ⟨hw, hx, hy, hq⟩ => ⟨_, _, rp_int hx, rp_int hy, hl, hq _ _ (Same.refl H) (.mkInt _)⟩
      · cases he
  · cases he

def ltD : D → D → Option D
  | .int a, .int b => some (.bl (decide (a < b)))
  | _, _ => none
def leD : D → D → Option D
  | .int a, .int b => some (.bl (decide (a ≤ b)))
  | _, _ => none
def gtD : D → D → Option D
  | .int a, .int b => some (.bl (decide (b < a)))
  | _, _ => none
def geD : D → D → Option D
  | .int a, .int b => some (.bl (decide (b ≤ a)))
  | _, _ => none
theorem od_lt : OpD X (compareOp .Lt) ltD := opD_cases fun dx dy d p W he => by
  unfold ltD at he
  split at he
  · cases he
    exact OpR.imp op_lt fun x y H Q ⟨hw, hx, hy, hq⟩ => ⟨_, _, rp_int hx, rp_int hy, hq _ _ (Same.refl H) (.mkBl _)⟩
  · cases he
theorem od_le : OpD X (compareOp .LtE) leD := opD_cases fun dx dy d p W he => by
  unfold leD at he
  split at he
  · cases he
    exact OpR.imp op_le fun x y H Q ⟨hw, hx, hy, hq⟩ => ⟨_, _, rp_int hx, rp_int hy, hq _ _ (Same.refl H) (.mkBl _)⟩
  · cases he
theorem od_gt : OpD X (compareOp .Gt) gtD := opD_cases fun dx dy d p W he => by
  unfold gtD at he
  split at he
  · cases he
    exact OpR.imp op_gt fun x y H Q ⟨hw, hx, hy, hq⟩ => ⟨_, _, rp_int hx, rp_int hy, hq _ _ (Same.refl H) (.mkBl _)⟩
  · cases he
theorem od_ge : OpD X (compareOp .GtE) geD := opD_cases fun dx dy d p W he => by
  unfold geD at he
  split at he
  · cases he
    exact OpR.imp op_ge fun x y H Q ⟨hw, hx, hy, hq⟩ => ⟨_, _, rp_int hx, rp_int hy, hq _ _ (Same.refl H) (.mkBl _)⟩
  · cases he

mutual
def D.py : D → PyData
  | .non => .none
  | .bl b => .bool b
  | .int i => .int i
  | .str s => .str s
  | .tup ds => .tuple (D.pys ds)
  | .lst ds => .list (D.pys ds)
  | .rng _ _ => .dict []
  | .src => .dict []
  | .dct _ _ => .dict []
  | .dtt _ _ => .dict []
def D.pys : List D → List PyData
  | [] => []
  | d :: ds => d.py :: D.pys ds
end
theorem pys_map : ∀ ds : List D, D.pys ds = ds.map D.py
  | [] => by simp [D.pys]
  | d :: ds => by simp [D.pys, pys_map ds]
mutual
theorem Rp.dp {p : Addr} {W : AP} {H : Hp} {K : PySem.W.Frag} : ∀ (d : D) (v : V), Rp p W H d v → d.py.canLay0 = true → Dp K H v d.py
  | .non, _, h, _ => by rw [rp_non h]; exact .non
  | .bl _, _, h, _ => by rw [rp_bl h]; exact .bl _
  | .int _, _, h, _ => by rw [rp_int h]; exact .int _
  | .str _, _, h, _ => by rw [rp_str h]; exact .str _
  | .tup ds, _, h, hc => by
    obtain ⟨a, vs, rfl, n, ha, r⟩ := rp_tup h
    simp only [D.py, PyData.canLay0] at hc ⊢
    exact .tup (SqT.of ha) (Rps.dp ds vs r hc)
  | .lst ds, _, h, hc => by
    obtain ⟨a, vs, rfl, n, ha, r⟩ := rp_lst h
    simp only [D.py, PyData.canLay0] at hc ⊢
    exact .lst (SqL.of ha) (Rps.dp ds vs r hc)
  | .rng _ _, _, _, hc => by simp [D.py, PyData.canLay0] at hc
  | .src, _, _, hc => by simp [D.py, PyData.canLay0] at hc
  | .dct _ _, _, _, hc => by simp [D.py, PyData.canLay0] at hc
  | .dtt _ _, _, _, hc => by simp [D.py, PyData.canLay0] at hc
theorem Rps.dp {p : Addr} {W : AP} {H : Hp} {K : PySem.W.Frag} : ∀ (ds : List D) (vs : List V), Rps p W H ds vs → PyData.canLayAll0 (D.pys ds) = true → DpAll K H vs (D.pys ds)
  | [], _, h, _ => by
    simp only [Rps] at h; subst h
    simp only [D.pys]; exact .nil
  | d :: ds, _, h, hc => by
    simp only [Rps] at h
    obtain ⟨v, r, rfl, h1, h2⟩ := h
    simp only [D.pys, PyData.canLayAll0, Bool.and_eq_true] at hc ⊢
    exact .cons (Rp.dp d v h1 hc.1) (Rps.dp ds r h2 hc.2)
end
def eqD (a b : D) : Option D := if SeqAt.shaped a.py = true ∧ SeqAt.shaped b.py = true then some (.bl (PyData.eqv a.py b.py)) else none
def neD (a b : D) : Option D := if SeqAt.shaped a.py = true ∧ SeqAt.shaped b.py = true then some (.bl (!PyData.eqv a.py b.py)) else none
theorem od_eq (hu : X.A.units + 64 < cLine) : OpD X (compareOp .Eq) eqD := opD_cases fun dx dy d p W he => by
  unfold eqD at he
  split at he
  · cases he
    rename_i hs
    exact OpR.imp (op_eqD hu) fun x y H Q ⟨hw, hx, hy, hq⟩ => ⟨_, _, hx.dp _ _ (SeqAt.canLay_of_shaped hs.1), hy.dp _ _ (SeqAt.canLay_of_shaped hs.2), hs.1, hs.2, hq _ _ (Same.refl H) (.mkBl _)⟩
  · cases he
theorem od_ne (hu : X.A.units + 64 < cLine) : OpD X (compareOp .NotEq) neD := opD_cases fun dx dy d p W he => by
  unfold neD at he
  split at he
  · cases he
    rename_i hs
    exact OpR.imp (op_neD hu) fun x y H Q ⟨hw, hx, hy, hq⟩ => ⟨_, _, hx.dp _ _ (SeqAt.canLay_of_shaped hs.1), hy.dp _ _ (SeqAt.canLay_of_shaped hs.2), hs.1, hs.2, hq _ _ (Same.refl H) (.mkBl _)⟩
  · cases he

def isND : D → D → Option D
  | .non, .non => some (.bl true)
  | _, .non => some (.bl false)
  | _, _ => none
def notND : D → D → Option D
  | .non, .non => some (.bl false)
  | _, .non => some (.bl true)
  | _, _ => none
theorem Rp.isNon {p : Addr} {W : AP} {H : Hp} {d : D} {v : V} (h : Rp p W H d v) : decide (v = .non) = (match d with | .non => true | _ => false) := by
  cases d <;> simp only [Rp] at h
  case non => subst h; rfl
  case bl => subst h; rfl
  case int => subst h; rfl
  case str => subst h; rfl
  case src => subst h; rfl
  all_goals
    obtain ⟨a, h⟩ := h
    first
      | (obtain ⟨rfl, _⟩ := h; rfl)
      | (obtain ⟨_, rfl, _⟩ := h; rfl)
theorem od_isN : OpD X (compareOp .Is) isND := opD_cases fun dx dy d p W he => by
  unfold isND at he
  split at he
  · cases he
    exact OpR.imp op_isN fun x y H Q ⟨hw, hx, hy, hq⟩ => ⟨rp_non hy, by rw [hx.isNon]; exact hq _ _ (Same.refl H) (.mkBl _)⟩
  · cases he
    rename_i hn
    refine OpR.imp op_isN fun x y H Q ⟨hw, hx, hy, hq⟩ => ⟨rp_non hy, ?_⟩
    rw [hx.isNon]
    cases dx <;> first | exact hq _ _ (Same.refl H) (.mkBl _) | exact absurd rfl (hn rfl) | exact absurd rfl hn | simp at hn
  · cases he
theorem od_notN : OpD X (compareOp .IsNot) notND := opD_cases fun dx dy d p W he => by
  unfold notND at he
  split at he
  · cases he
    exact OpR.imp op_notN fun x y H Q ⟨hw, hx, hy, hq⟩ => ⟨rp_non hy, by rw [hx.isNon]; exact hq _ _ (Same.refl H) (.mkBl _)⟩
  · cases he
    rename_i hn
    refine OpR.imp op_notN fun x y H Q ⟨hw, hx, hy, hq⟩ => ⟨rp_non hy, ?_⟩
    rw [hx.isNon]
    cases dx <;> first | exact hq _ _ (Same.refl H) (.mkBl _) | exact absurd rfl (hn rfl) | exact absurd rfl hn | simp at hn
  · cases he
end
end GH

namespace GH
open PySem PySem.Spec PyProof.Rows L2

section
variable {X : Cx} {a b c e : Expr} {es : List Expr} {pos : Pos} {ma mb mc m : M D} {ms : M (List D)}

def eBin (f : D → D → Option D) (ma mb : M D) : M D := bnd ma fun x => bnd mb fun y => lift (f x y)
theorem bin_go {B : Bs} {f : D → D → Option D} {σ : Sg} {H : Hp} {Q : VK} (h : tI B (eBin f ma mb) σ H Q) : tOp (rB f) (tI B ma) (tI B mb) σ H Q := by
  obtain ⟨s, d, s', k, e, q⟩ := h
  refine tI.bind k e fun dx s1 x H1 h1 e1 k1 ev1 r1 => ?_
  refine tI.bind k1 e1 fun dy s2 y H2 h2 e2 k2 ev2 r2 => ?_
  obtain ⟨e3, rfl⟩ := lift_some e2
  exact ⟨B.p, _, dx, dy, d, k2.wt, r1.ev ev2, r2, e3, fun v H' sm r => q v H' (k2.same sm) ((ev1.trans ev2).trans (Ev.same sm)) r⟩
theorem s_bin {op : Operator} {f : D → D → Option D} (ho : OpD X (binaryOp op) f) (ha : SE X a ma) (hb : SE X b mb) : SE X (.BinOp a op b pos) (eBin f ma mb) :=
  ⟨fun B => PE.imp (pe_op ho (ha.pe B) (hb.pe B)) fun σ H Q h => bin_go h⟩
theorem s_cmp {op : CmpOp} {f : D → D → Option D} (ho : OpD X (compareOp op) f) (ha : SE X a ma) (hb : SE X b mb) (hm : behindInMarks op b = false := by first | exact nobehind _ (by decide) (by decide) | rfl) : SE X (.Compare a [op] [b] pos) (eBin f ma mb) :=
  ⟨fun B => PE.imp (pe_cmpR ho (ha.pe B) (hb.pe B) hm) fun σ H Q h => bin_go h⟩
/-- a True or False as a test -/
def tst (m : M D) : M Bool := bnd m fun d => match d with
  | .bl b => ret b
  | _ => fail
theorem t_cmp {op : CmpOp} {f : D → D → Option D} (ho : OpD X (compareOp op) f) (ha : SE X a ma) (hb : SE X b mb) (hm : behindInMarks op b = false := by first | exact nobehind _ (by decide) (by decide) | rfl) : ST X (.Compare a [op] [b] pos) (tst (eBin f ma mb)) :=
  ⟨fun B => PT.imp (pt_cmpR ho (ha.pe B) (hb.pe B) hm) fun σ H Q ⟨s, b', s', k, e, q⟩ => by
    obtain ⟨d, s1, h1, h2⟩ := bnd_some e
    cases d <;> simp only [fail] at h2 <;> try (cases h2; done)
    obtain ⟨rfl, rfl⟩ := ret_some h2
    refine bin_go ⟨s, _, _, k, h1, fun v H' k' ev r => ⟨_, rp_bl r, q H' k' ev⟩⟩⟩
/-- a value's truth -/
def truD : D → Option Bool
  | .non => some false
  | .bl b => some b
  | .int i => some (i != 0)
  | .str y => if y.length ≤ sizeLine then some ((y.length : Int) != 0) else none
  | .lst ds => some (!ds.isEmpty)
  | .tup ds => some (!ds.isEmpty)
  | _ => none
theorem isEmpty_len {α β : Type} {l : List α} {l' : List β} (h : l.length = l'.length) : l.isEmpty = l'.isEmpty := by
  cases l <;> cases l' <;> simp at h ⊢
theorem Rp.tru {p : Addr} {W : AP} {H : Hp} {K : PySem.W.Frag} {d : D} {v : V} {k : Bool} (r : Rp p W H d v) (h : truD d = some k) : TruV K v H k := by
  cases d <;> simp only [truD] at h
  case non => cases h; rw [rp_non r]; rfl
  case bl => cases h; rw [rp_bl r]; rfl
  case int => cases h; rw [rp_int r]; rfl
  case str =>
    split at h
    · cases h; rename_i hl; rw [rp_str r]; exact ⟨hl, rfl⟩
    · cases h
  case tup =>
    cases h
    obtain ⟨a, vs, rfl, _, ha, rs⟩ := rp_tup r
    exact .inr (.inl ⟨vs, SqT.of ha, by rw [isEmpty_len rs.length]⟩)
  case lst =>
    cases h
    obtain ⟨a, vs, rfl, _, ha, rs⟩ := rp_lst r
    exact .inl ⟨vs, SqL.of ha, by rw [isEmpty_len rs.length]⟩
  all_goals cases h
def tru (m : M D) : M Bool := bnd m fun d => lift (truD d)
theorem t_of (ha : SE X a ma) (he : ∀ whole, isTrue a X.env whole = (do let v ← whole; standAt a.pos; holding [v] (truthy v)) := by intro _; rfl) : ST X a (tru ma) :=
  ⟨fun B => PT.imp (pt_truth (ha.pe B) he) fun σ H Q ⟨s, b', s', k, e, q⟩ => by
    refine tI.bind k e fun dx s1 x H1 h1 e1 k1 ev1 r1 => ?_
    obtain ⟨e3, rfl⟩ := lift_some e1
    exact ⟨b', r1.tru e3, q H1 k1 ev1⟩⟩
structure SW (X : Cx) (e : Expr) (m : M Bool) : Prop where
  pw : ∀ B, PW X e (tT B m)
theorem PW.imp {X : Cx} {e : Expr} {t t' : TT} (h : PW X e t) (f : ∀ σ H Q, t' σ H Q → t σ H Q) : PW X e t' := ⟨fun wh pins s σ H Q I q => h.run wh pins s σ H Q I (f _ _ _ q)⟩
theorem SW.t {e : Expr} {m : M Bool} (h : SW X e m) : ST X e m := ⟨fun B => (h.pw B).pt⟩
def tAnd2 (m n : M Bool) : M Bool := bnd m fun b => if b = true then n else ret false
def tOr2 (m n : M Bool) : M Bool := bnd m fun b => if b = true then ret true else n
def tNot1 (m : M Bool) : M Bool := bnd m fun b => ret (!b)
theorem w_and1 {m : M Bool} (h : ST X a m) : SW X (.BoolOp .And [a] pos) m := ⟨fun B => pw_and1 (h.pt B)⟩
theorem w_or1 {m : M Bool} (h : ST X a m) : SW X (.BoolOp .Or [a] pos) m := ⟨fun B => pw_or1 (h.pt B)⟩
theorem w_and {m n : M Bool} (ha : ST X a m) (hb : SW X (.BoolOp .And (b :: es) pos) n) : SW X (.BoolOp .And (a :: b :: es) pos) (tAnd2 m n) :=
  ⟨fun B => PW.imp (pw_and (ha.pt B) (hb.pw B)) fun σ H Q ⟨s, b', s', k, e, q⟩ => by
    refine tT.bind k e fun d s1 H1 h1 e1 k1 ev1 => ?_
    cases d with
    | true => exact ⟨s1, b', s', k1, e1, fun H2 k2 ev2 => q H2 k2 (ev1.trans ev2)⟩
    | false =>
      obtain ⟨rfl, rfl⟩ := ret_some e1
      exact q H1 k1 ev1⟩
theorem w_or {m n : M Bool} (ha : ST X a m) (hb : SW X (.BoolOp .Or (b :: es) pos) n) : SW X (.BoolOp .Or (a :: b :: es) pos) (tOr2 m n) :=
  ⟨fun B => PW.imp (pw_or (ha.pt B) (hb.pw B)) fun σ H Q ⟨s, b', s', k, e, q⟩ => by
    refine tT.bind k e fun d s1 H1 h1 e1 k1 ev1 => ?_
    cases d with
    | false => exact ⟨s1, b', s', k1, e1, fun H2 k2 ev2 => q H2 k2 (ev1.trans ev2)⟩
    | true =>
      obtain ⟨rfl, rfl⟩ := ret_some e1
      exact q H1 k1 ev1⟩
theorem t_not {m : M Bool} (ha : ST X a m) : ST X (.UnaryOp .Not a pos) (tNot1 m) :=
  ⟨fun B => PT.imp (pt_not (ha.pt B)) fun σ H Q ⟨s, b', s', k, e, q⟩ => by
    refine tT.bind k e fun d s1 H1 h1 e1 k1 ev1 => ?_
    obtain ⟨rfl, rfl⟩ := ret_some e1
    exact q H1 k1 ev1⟩
/-- .. as values -/
def eAnd (ma mb : M D) : M D := bnd ma fun x => bnd (lift (truD x)) fun b => if b = true then mb else ret x
def eOr (ma mb : M D) : M D := bnd ma fun x => bnd (lift (truD x)) fun b => if b = true then ret x else mb
def eNot (ma : M D) : M D := bnd ma fun x => bnd (lift (truD x)) fun b => ret (.bl (!b))
theorem s_one {op} (h : SE X a ma) : SE X (.BoolOp op [a] pos) ma := ⟨fun B => pe_one (h.pe B)⟩
theorem s_and (ha : SE X a ma) (hb : SE X (.BoolOp .And (b :: es) pos) mb) : SE X (.BoolOp .And (a :: b :: es) pos) (eAnd ma mb) :=
  ⟨fun B => PE.imp (pe_andT (ha.pe B) (hb.pe B)) fun σ H Q ⟨s, d, s', k, e, q⟩ => by
    refine tI.bind k e fun dx s1 x H1 h1 e1 k1 ev1 r1 => ?_
    obtain ⟨t, s2, e2, e3⟩ := bnd_some e1
    obtain ⟨e4, rfl⟩ := lift_some e2
    refine ⟨t, r1.tru e4, ?_⟩
    cases t with
    | true => exact ⟨s2, d, s', k1, e3, fun v H2 k2 ev2 r2 => q v H2 k2 (ev1.trans ev2) r2⟩
    | false =>
      obtain ⟨rfl, rfl⟩ := ret_some e3
      exact q x H1 k1 ev1 r1⟩
theorem s_or (ha : SE X a ma) (hb : SE X (.BoolOp .Or (b :: es) pos) mb) : SE X (.BoolOp .Or (a :: b :: es) pos) (eOr ma mb) :=
  ⟨fun B => PE.imp (pe_orT (ha.pe B) (hb.pe B)) fun σ H Q ⟨s, d, s', k, e, q⟩ => by
    refine tI.bind k e fun dx s1 x H1 h1 e1 k1 ev1 r1 => ?_
    obtain ⟨t, s2, e2, e3⟩ := bnd_some e1
    obtain ⟨e4, rfl⟩ := lift_some e2
    refine ⟨t, r1.tru e4, ?_⟩
    cases t with
    | false => exact ⟨s2, d, s', k1, e3, fun v H2 k2 ev2 r2 => q v H2 k2 (ev1.trans ev2) r2⟩
    | true =>
      obtain ⟨rfl, rfl⟩ := ret_some e3
      exact q x H1 k1 ev1 r1⟩
theorem s_not (ha : SE X a ma) : SE X (.UnaryOp .Not a pos) (eNot ma) :=
  ⟨fun B => PE.imp (pe_notT (ha.pe B)) fun σ H Q ⟨s, d, s', k, e, q⟩ => by
    refine tI.bind k e fun dx s1 x H1 h1 e1 k1 ev1 r1 => ?_
    obtain ⟨t, s2, e2, e3⟩ := bnd_some e1
    obtain ⟨e4, rfl⟩ := lift_some e2
    obtain ⟨rfl, rfl⟩ := ret_some e3
    exact ⟨t, r1.tru e4, q _ H1 k1 ev1 (.mkBl _)⟩⟩
def eIf (t : M Bool) (ma mb : M D) : M D := bnd t fun b => if b = true then ma else mb
theorem s_if {t : M Bool} (hc : ST X c t) (ha : SE X a ma) (hb : SE X b mb) : SE X (.IfExp c a b pos) (eIf t ma mb) :=
  ⟨fun B => PE.imp (pe_ifExp (hc.pt B) (ha.pe B) (hb.pe B)) fun σ H Q ⟨s, d, s', k, e, q⟩ => by
    refine tT.bind k e fun t s1 H1 h1 e1 k1 ev1 => ?_
    cases t with
    | true => exact ⟨s1, d, s', k1, e1, fun v H2 k2 ev2 r2 => q v H2 k2 (ev1.trans ev2) r2⟩
    | false => exact ⟨s1, d, s', k1, e1, fun v H2 k2 ev2 r2 => q v H2 k2 (ev1.trans ev2) r2⟩⟩
def negD : D → Option D
  | .int i => some (.int (-i))
  | _ => none
def eUn (f : D → Option D) (ma : M D) : M D := bnd ma fun x => lift (f x)
theorem s_neg (ha : SE X a ma) : SE X (.UnaryOp .USub a pos) (eUn negD ma) :=
  ⟨fun B => PE.imp (pe_un un_neg (ha.pe B)) fun σ H Q ⟨s, d, s', k, e, q⟩ => by
    refine tI.bind k e fun dx s1 x H1 h1 e1 k1 ev1 r1 => ?_
    obtain ⟨e3, rfl⟩ := lift_some e1
    cases dx <;> simp only [negD] at e3 <;> cases e3
    exact ⟨_, rp_int r1, q _ H1 k1 ev1 (.mkInt _)⟩⟩

def aNil : M (List D) := ret []
def aCons (m : M D) (ms : M (List D)) : M (List D) := bnd m fun d => bnd ms fun ds => ret (d :: ds)
def seqD : D → Option (List D)
  | .tup ds => some ds
  | .lst ds => some ds
  | _ => none
def aStar (m : M D) (ms : M (List D)) : M (List D) := bnd m fun d => bnd (lift (seqD d)) fun xs => bnd ms fun ds => ret (xs ++ ds)
theorem a_nil : SA X [] aNil := ⟨fun B => PA.imp pa_nil fun σ H Q ⟨s, d, s', k, e, q⟩ => by
  obtain ⟨rfl, rfl⟩ := ret_some e
  exact q [] H k Ev.refl .nil⟩
theorem a_cons (ha : SE X e m) (hr : SA X es ms) (hs : starEach (e :: es) X.env = (false, eval e X.env) :: starEach es X.env := by rfl) : SA X (e :: es) (aCons m ms) :=
  ⟨fun B => PA.imp (pa_cons (ha.pe B) (hr.pa B) hs) fun σ H Q ⟨s, d, s', k, e, q⟩ => by
    refine tI.bind k e fun dx s1 x H1 h1 e1 k1 ev1 r1 => ?_
    refine tA.bind k1 e1 fun ds s2 vs H2 h2 e2 k2 ev2 r2 => ?_
    obtain ⟨rfl, rfl⟩ := ret_some e2
    exact q _ H2 k2 (ev1.trans ev2) (.cons (r1.ev ev2) r2)⟩
theorem a_star {sp : Pos} (ha : SE X e m) (hr : SA X es ms) (hs : starEach (.Starred e sp :: es) X.env = (true, eval e X.env) :: starEach es X.env := by rfl) : SA X (.Starred e sp :: es) (aStar m ms) :=
  ⟨fun B => PA.imp (StX.pa_star (ha.pe B) (hr.pa B) hs) fun σ H Q ⟨s, d, s', k, e, q⟩ => by
    refine tI.bind k e fun dx s1 x H1 h1 e1 k1 ev1 r1 => ?_
    obtain ⟨xs, s2, e2, e3⟩ := bnd_some e1
    obtain ⟨e2, rfl⟩ := lift_some e2
    have go : ∀ a vs, x = .ref a → H1 a = some (.tup vs) ∨ H1 a = some (.lst vs) → Rps B.p (B.W s2.env σ) H1 xs vs → StX.tStar X.K (fun σ H Q => Q x H) (tA B ms) σ H1 Q := fun a vs ex ha r => by
      refine ⟨a, vs, ex, ha.elim (fun z => .inl (SqT.of z)) (fun z => .inr (SqL.of z)), ?_⟩
      refine tA.bind k1 e3 fun ds s3 us H3 h3 e4 k3 ev3 r3 => ?_
      obtain ⟨rfl, rfl⟩ := ret_some e4
      exact q _ H3 k3 (ev1.trans ev3) ((r.ev ev3).append r3)
    cases dx <;> simp only [seqD] at e2 <;> cases e2
    · obtain ⟨a, vs, rfl, _, ha, r⟩ := rp_tup r1
      exact go a vs rfl (.inl ha) r
    · obtain ⟨a, vs, rfl, _, ha, r⟩ := rp_lst r1
      exact go a vs rfl (.inr ha) r⟩

def eTup (ms : M (List D)) : M D := bnd ms fun ds => if ds.length ≤ sizeLine then ret (.tup ds) else fail
theorem s_tup {x1} (h : SA X es ms) : SE X (.Tuple es x1 pos) (eTup ms) :=
  ⟨fun B => PE.imp (pe_tup (h.pa B)) fun σ H Q ⟨s, d, s', k, e, q⟩ => by
    refine tA.bind k e fun ds s1 vs H1 h1 e1 k1 ev1 r1 => ?_
    split at e1
    · rename_i hl
      obtain ⟨rfl, rfl⟩ := ret_some e1
      exact ⟨by rw [← r1.length]; exact hl, fun p np => q _ _ (k1.same (same_new np)) (ev1.trans (Ev.same (same_new np))) (.newTup k1.wt np r1)⟩
    · cases e1⟩
/-- a new list's own address guarded too -/
theorem StOk.plus {B : Bs} {σ : Sg} {H : Hp} {s : S} {a : Addr} {o : HO} (k : StOk B σ H s) (n : H a = none) (nt : NoTup o := by intro _ z; cases z) : StOk (B.plus a) σ (upd H a o) s ∧ Ev (B.W s.env σ) H ((B.plus a).W s.env σ) (upd H a o) := by
  have sm : Same H (upd H a o) := same_new n
  have ne : ∀ b x, H b = some x → b ≠ a := fun b x h => ne_of_none h n
  have ev : Ev (B.W s.env σ) H ((B.plus a).W s.env σ) (upd H a o) := fun b x h hn => ⟨sm b x h, by
    rintro ((z | z) | z)
    · exact hn (.inl z)
    · exact ne b x h z
    · exact hn (.inr z)⟩
  refine ⟨⟨k.len, fun i d h => ?_, fun i sl h ho => ?_, k.sep, k.src.same sm, fun b x h h1 h2 => sm b x (k.keep b x h h1 h2), fun b h => ?_, .inl k.wp, .inl k.wcc⟩, ev⟩
  · obtain ⟨v, h1, h2⟩ := k.val i d h
    exact ⟨v, h1, h2.ev ev⟩
  · obtain ⟨b, x, h1, h2, h3, h4, h5⟩ := k.own i sl h ho
    refine ⟨b, x, h1, sm _ _ h2, h3.ev ev, h4, ?_⟩
    rintro (z | z)
    · exact h5 z
    · exact ne b x h2 z
  · rcases h with z | z
    · obtain ⟨x, h1, h2⟩ := k.wc b z
      exact ⟨x, sm _ _ h1, h2⟩
    · subst z
      exact ⟨o, upd_same, nt⟩
theorem l_disp (h : SA X es ms) : SL X (.List es pos) (bnd ms fun ds => if ds.length ≤ sizeLine then ret ds else fail) :=
  ⟨fun B => PE.imp (pe_lst (h.pa B)) fun σ H Q ⟨s, d, s', k, e, q⟩ => by
    refine tA.bind k e fun ds s1 vs H1 h1 e1 k1 ev1 r1 => ?_
    split at e1
    · rename_i hl
      obtain ⟨rfl, rfl⟩ := ret_some e1
      refine ⟨by rw [← r1.length]; exact hl, fun p np => ?_⟩
      obtain ⟨kp, ev⟩ := k1.plus (o := .lst vs) np
      exact q p vs _ kp (ev1.trans ev) (k1.new np) (k1.wt.new np) upd_same (r1.ev ev)
    · cases e1⟩
end
end GH

namespace GH
open PySem PySem.Spec PyProof.Rows L2

theorem StOk.set {B : Bs} {σ : Sg} {H : Hp} {s : S} {i : Nat} {d : D} {v : V} (k : StOk B σ H s) (hi : i < s.env.length) (r : Rp B.p (B.W s.env σ) H d v) :
    StOk B (σ.set i (some v)) H { s with env := s.env.set i (some (.val d)) } ∧ Ev (B.W s.env σ) H (B.W (s.env.set i (some (.val d))) (σ.set i (some v))) H := by
  have hiσ : i < σ.length := by rw [← k.len]; exact hi
  have sub : ∀ b, B.W (s.env.set i (some (.val d))) (σ.set i (some v)) b → B.W s.env σ b := fun b hb => by
    rcases hb with hb | ⟨j, sl', e1, e2, e3⟩
    · exact .inl hb
    · by_cases hj : i = j
      · subst hj
        rw [List.getElem?_set_self hi] at e1
        cases e1; cases e2
      · rw [List.getElem?_set_ne hj] at e1 e3
        exact .inr ⟨j, sl', e1, e2, e3⟩
  have ev : Ev (B.W s.env σ) H (B.W (s.env.set i (some (.val d))) (σ.set i (some v))) H := Ev.less sub
  refine ⟨⟨by simpa using k.len, fun j d' h => ?_, fun j sl' h h' => ?_, fun j1 j2 sl1 sl2 b h1 o1 h2 o2 q1 q2 => ?_, k.src, k.keep, k.wc, k.wp, k.wcc⟩, ev⟩
  · by_cases hj : i = j
    · subst hj
      have h : (s.env.set i (some (.val d)))[i]? = _ := h
      rw [List.getElem?_set_self hi] at h
      cases h
      exact ⟨v, List.getElem?_set_self hiσ, r.ev ev⟩
    · have h : (s.env.set i (some (.val d)))[j]? = _ := h
      rw [List.getElem?_set_ne hj] at h ⊢
      obtain ⟨v, h1, h2⟩ := k.val j d' h
      exact ⟨v, h1, h2.ev ev⟩
  · have h : (s.env.set i (some (.val d)))[j]? = _ := h
    by_cases hj : i = j
    · subst hj
      rw [List.getElem?_set_self hi] at h
      cases h; cases h'
    · rw [List.getElem?_set_ne hj] at h ⊢
      obtain ⟨b, o, h1, h2, h3, h4⟩ := k.own j sl' h h'
      exact ⟨b, o, h1, h2, h3.ev ev, h4⟩
  · have h1 : (s.env.set i (some (.val d)))[j1]? = _ := h1
    have h2 : (s.env.set i (some (.val d)))[j2]? = _ := h2
    by_cases e1 : i = j1
    · subst e1
      rw [List.getElem?_set_self hi] at h1
      cases h1; cases o1
    · by_cases e2 : i = j2
      · subst e2
        rw [List.getElem?_set_self hi] at h2
        cases h2; cases o2
      · rw [List.getElem?_set_ne e1] at h1 q1
        rw [List.getElem?_set_ne e2] at h2 q2
        exact k.sep j1 j2 sl1 sl2 b h1 o1 h2 o2 q1 q2

def tG (B : Bs) (is : List Nat) (g : D → M Unit) : TG := fun v σ H Q => ∃ s d s', StOk B σ H s ∧ Rp B.p (B.W s.env σ) H d v ∧ g d s = some ((), s') ∧
  ∀ σ', StOk B σ' H s' → Ev (B.W s.env σ) H (B.W s'.env σ') H → (∀ vs : List Nat, (∀ i ∈ is, i ∈ vs) → wipe σ' vs = wipe σ vs) → Q σ' H
def tGs (B : Bs) (is : List Nat) (g : List D → M Unit) : TGs := fun vs σ H Q => ∃ s ds s', StOk B σ H s ∧ Rps B.p (B.W s.env σ) H ds vs ∧ g ds s = some ((), s') ∧
  ∀ σ', StOk B σ' H s' → Ev (B.W s.env σ) H (B.W s'.env σ') H → (∀ vs : List Nat, (∀ i ∈ is, i ∈ vs) → wipe σ' vs = wipe σ vs) → Q σ' H
structure SG (X : Cx) (tg : Expr) (is : List Nat) (g : D → M Unit) : Prop where
  pg : ∀ B, PG X tg (tG B is g)
structure SGs (X : Cx) (tg : List Expr) (is : List Nat) (g : List D → M Unit) : Prop where
  pg : ∀ B, PGs X tg (tGs B is g)
theorem PG.imp {X : Cx} {e : Expr} {t t' : TG} (h : PG X e t) (f : ∀ v σ H Q, t' v σ H Q → t v σ H Q) : PG X e t' := ⟨fun pins s σ H v u Q I r q => h.run pins s σ H v u Q I r (f _ _ _ _ q)⟩
theorem PGs.imp {X : Cx} {e : List Expr} {t t' : TGs} (h : PGs X e t) (f : ∀ v σ H Q, t' v σ H Q → t v σ H Q) : PGs X e t' := ⟨fun pins s σ H v u Q I r q => h.run pins s σ H v u Q I r (f _ _ _ _ q)⟩
theorem wipe_set_mem {σ : Sg} {i : Nat} {v : Option V} : ∀ {vs : List Nat}, i ∈ vs → wipe (σ.set i v) vs = wipe σ vs
  | [], h => by simp at h
  | j :: vs, h => by
    unfold wipe
    by_cases e : i ∈ vs
    · rw [wipe_set_mem e]
    · have hj : i = j := by
        rcases List.mem_cons.mp h with h | h
        · exact h
        · exact absurd h e
      subst hj
      have : ∀ (vs : List Nat), i ∉ vs → (wipe (σ.set i v) vs).set i none = (wipe σ vs).set i none := fun vs => by
        induction vs with
        | nil => intro _; unfold wipe; rw [List.set_set]
        | cons w ws ih =>
          intro hn
          have h1 : i ≠ w := fun q => hn (q ▸ List.mem_cons_self)
          have h2 : i ∉ ws := fun q => hn (List.mem_cons_of_mem _ q)
          unfold wipe
          rw [List.set_comm _ _ (Ne.symm h1), ih h2, List.set_comm _ _ h1]
      exact this vs e
def gN (i : Nat) : D → M Unit := fun d s => if i < s.env.length then some ((), { s with env := s.env.set i (some (.val d)) }) else none
def gNil : List D → M Unit
  | [] => ret ()
  | _ => fail
def gCons (g : D → M Unit) (gs : List D → M Unit) : List D → M Unit
  | d :: r => bnd (g d) fun _ => gs r
  | [] => fail
def gT (gs : List D → M Unit) : D → M Unit
  | .tup ds => gs ds
  | _ => fail
section
variable {X : Cx} {e : Expr} {es : List Expr} {pos : Pos}
theorem g_name {i : Nat} {x : Str} (hN : X.N.Nodup) (hi : X.N[i]? = some x) (hx : Loc X.env.scope x) (hf : X.fn x = true ∨ X.env.scope.names.lookup x = some .local := by first | exact .inl rfl | exact .inr rfl | assumption) : SG X (.Name x pos) [i] (gN i) :=
  ⟨fun B => PG.imp (pg_name hN hi hx hf) fun v σ H Q ⟨s, d, s', k, r, e, q⟩ => by
    unfold gN at e
    split at e
    · rename_i hl
      cases e
      obtain ⟨k', ev⟩ := k.set hl r
      exact q _ k' ev fun vs h => wipe_set_mem (h i (by simp))
    · cases e⟩
theorem gs_nil : SGs X [] [] gNil := ⟨fun B => PGs.imp pgs_nil fun v σ H Q ⟨s, ds, s', k, r, e, q⟩ => by
  cases ds with
  | nil =>
    simp only [Rps] at r
    simp only [gNil, ret] at e
    cases e
    exact ⟨r, q σ k Ev.refl fun _ _ => rfl⟩
  | cons d ds => simp [gNil, fail] at e⟩
theorem gs_cons {is js : List Nat} {g : D → M Unit} {gs : List D → M Unit} (h1 : SG X e is g) (h2 : SGs X es js gs) (hs : (assignEach (e :: es) X.env).map (·.2) = assign e X.env :: (assignEach es X.env).map (·.2) := by rfl) : SGs X (e :: es) (is ++ js) (gCons g gs) :=
  ⟨fun B => PGs.imp (pgs_cons (h1.pg B) (h2.pg B) hs) fun vs σ H Q ⟨s, ds, s', k, r, e, q⟩ => by
    cases ds with
    | nil => simp [gCons, fail] at e
    | cons d ds =>
      simp only [Rps] at r
      obtain ⟨v, rest, rfl, r1, r2⟩ := r
      obtain ⟨_, s1, e1, e2⟩ := bnd_some e
      refine ⟨v, rest, rfl, s, d, s1, k, r1, e1, fun σ1 k1 ev1 w1 => ⟨s1, ds, s', k1, r2.ev ev1, e2, fun σ2 k2 ev2 w2 => q σ2 k2 (ev1.trans ev2) fun vs h => ?_⟩⟩
      rw [w2 vs fun i hi => h i (List.mem_append_right _ hi), w1 vs fun i hi => h i (List.mem_append_left _ hi)]⟩
theorem g_tup {is : List Nat} {k n : Nat} {gs : List D → M Unit} (hc : X.calm = true) (h : SGs X es is gs) (hn : (assignEach es X.env).length = n := by rfl) (hst : (assignEach es X.env).findIdx? (·.1) = none := by rfl)
    (hl : ∀ ds s, ds.length ≠ n → gs ds s = none) : SG X (.Tuple es k pos) is (gT gs) :=
  ⟨fun B => PG.imp (pg_tup (k := k) (pos := pos) hc (h.pg B) hn hst) fun v σ H Q ⟨s, d, s', k, r, e, q⟩ => by
    cases d <;> simp only [gT] at e <;> try (simp [fail] at e; done)
    rename_i ds
    obtain ⟨a, vs, rfl, _, ha, rs⟩ := rp_tup r
    have hlen : ds.length = n := by
      by_cases z : ds.length = n
      · exact z
      · rw [hl ds s z] at e; cases e
    exact ⟨a, vs, rfl, SqT.of ha, by rw [← rs.length]; exact hlen, s, ds, s', k, rs, e, q⟩⟩
end
theorem gNil_len : ∀ ds s, ds.length ≠ 0 → gNil ds s = none
  | [], _, h => absurd rfl h
  | _ :: _, _, _ => rfl
theorem gCons_len {g : D → M Unit} {gs : List D → M Unit} {n : Nat} (h : ∀ ds s, ds.length ≠ n → gs ds s = none) : ∀ ds s, ds.length ≠ n + 1 → gCons g gs ds s = none
  | [], _, _ => rfl
  | d :: ds, s, hn => by
    show bnd (g d) (fun _ => gs ds) s = none
    unfold bnd
    split
    · exact h ds _ (by simpa using hn)
    · rfl

/-- J walks ds, whatever happens to what may change -/
def WalkD (p : Addr) (W : AP) (H : Hp) (J : It) (ds : List D) : Prop := ∀ W2 H2, Ev W H W2 H2 → WT W2 H2 →
  (∀ i, i < ds.length → J.go i H2) ∧ J.stop ds.length H2 ∧ ∀ i d x H3, ds[i]? = some d → J.yld i H2 x H3 → Same H2 H3 ∧ Rp p W2 H3 d x
def tIt (B : Bs) (m : M (List D)) : TI := fun σ H R => ∃ s ds s', StOk B σ H s ∧ m s = some (ds, s') ∧
  ∀ J H', StOk B σ H' s' → Ev (B.W s.env σ) H (B.W s'.env σ) H' → WalkD B.p (B.W s'.env σ) H' J ds → R J H'
structure SI (X : Cx) (tg iter : Expr) (m : M (List D)) : Prop where
  pi : ∀ B, PI X tg iter (tIt B m)
theorem PI.imp {X : Cx} {tg e : Expr} {t t' : TI} (h : PI X tg e t) (f : ∀ σ H Q, t' σ H Q → t σ H Q) : PI X tg e t' := ⟨fun pins s σ H R I q => h.run pins s σ H R I (f _ _ _ q)⟩
theorem rp_get {p : Addr} {W : AP} {H : Hp} {ds : List D} {vs : List V} {i : Nat} {d : D} {x : V} (r : Rps p W H ds vs) (h : ds[i]? = some d) (hx : vs[i]? = some x) : Rp p W H d x := by
  obtain ⟨v, h1, h2⟩ := r.get h
  rw [hx] at h1; cases h1; exact h2
theorem walk_of {p : Addr} {W : AP} {H : Hp} {J : It} {vs : List V} {ds : List D} {G : Hp → Prop} (w : Walk J vs.length G (YAt vs)) (r : Rps p W H ds vs) (g : ∀ W2 H2, Ev W H W2 H2 → G H2) : WalkD p W H J ds := fun W2 H2 ev wt => by
  have hl := r.length
  refine ⟨fun i hi => w.goes i H2 (by omega) (g W2 H2 ev), by rw [hl]; exact w.stops H2 (g W2 H2 ev), fun i d x H3 hd y => ?_⟩
  obtain ⟨e, hx⟩ := w.yields i H2 x H3 (by have := (List.getElem?_eq_some_iff.mp hd).1; omega) (g W2 H2 ev) y
  subst e
  exact ⟨Same.refl _, rp_get (r.ev ev) hd hx⟩
/-- over a list or a tuple -/
def iSeq (m : M D) : M (List D) := bnd m fun d => lift (seqD d)
def lstD : D → Option (List D)
  | .lst ds => some ds
  | _ => none
def tupD : D → Option (List D)
  | .tup ds => some ds
  | _ => none
def iLst (m : M D) : M (List D) := bnd m fun d => lift (lstD d)
def iTup (m : M D) : M (List D) := bnd m fun d => lift (tupD d)
section
variable {X : Cx} {tg e a b : Expr} {m ma mb : M D}
theorem i_lst (h : SE X e m) : SI X tg e (iLst m) := ⟨fun B => PI.imp (pi_list (h.pe B)) fun σ H R ⟨s, ds, s', k, e, q⟩ => by
  refine tI.bind k e fun d s1 v H1 h1 e1 k1 ev1 r1 => ?_
  obtain ⟨e3, rfl⟩ := lift_some e1
  cases d <;> simp only [lstD] at e3 <;> cases e3
  obtain ⟨a, vs, rfl, na, ha, rs⟩ := rp_lst r1
  exact ⟨a, rfl, ⟨vs, SqL.of ha⟩, q _ H1 k1 ev1 (walk_of walk_list rs fun W2 H2 ev => SqL.of (ev a _ ha na).1)⟩⟩
theorem i_tup (h : SE X e m) : SI X tg e (iTup m) := ⟨fun B => PI.imp (pi_tup (h.pe B)) fun σ H R ⟨s, ds, s', k, e, q⟩ => by
  refine tI.bind k e fun d s1 v H1 h1 e1 k1 ev1 r1 => ?_
  obtain ⟨e3, rfl⟩ := lift_some e1
  cases d <;> simp only [tupD] at e3 <;> cases e3
  obtain ⟨a, vs, rfl, na, ha, rs⟩ := rp_tup r1
  exact ⟨a, rfl, ⟨vs, SqT.of ha⟩, q _ H1 k1 ev1 (walk_of walk_tup rs fun W2 H2 ev => SqT.of (ev a _ ha na).1)⟩⟩
/-- .. of either kind -/
def tOr (t u : TI) : TI := fun σ H R => t σ H R ∨ u σ H R
theorem pi_or {t u : TI} (h : PI X tg e t) (h' : PI X tg e u) : PI X tg e (tOr t u) := ⟨fun pins s σ H R I q => q.elim (h.run pins s σ H R I) (h'.run pins s σ H R I)⟩
theorem i_seq (h : SE X e m) : SI X tg e (iSeq m) := ⟨fun B => PI.imp (pi_or ((i_lst h).pi B) ((i_tup h).pi B)) fun σ H R ⟨s, ds, s', k, e, q⟩ => by
  obtain ⟨d, s1, h1, h2⟩ := bnd_some e
  obtain ⟨e3, rfl⟩ := lift_some h2
  cases d <;> simp only [seqD] at e3 <;> cases e3
  · exact .inr ⟨s, ds, s', k, by unfold iTup bnd; rw [h1]; rfl, q⟩
  · exact .inl ⟨s, ds, s', k, by unfold iLst bnd; rw [h1]; rfl, q⟩⟩
/-- range -/
def rngL (lo hi : Int) : List D := (List.range (hi - lo).toNat).map fun i => .int (lo + (i : Nat))
def okR (i : Int) : Prop := -(2 ^ 62) ≤ i ∧ i < 2 ^ 62
instance (i : Int) : Decidable (okR i) := by unfold okR; infer_instance
def iRg1 (m : M D) : M (List D) := bnd m fun d => match d with
  | .int j => if okR j then ret (rngL 0 j) else fail
  | _ => fail
def iRg2 (ma mb : M D) : M (List D) := bnd ma fun d => bnd mb fun e => match d, e with
  | .int i, .int j => if okR i ∧ okR j then ret (rngL i j) else fail
  | _, _ => fail
theorem walk_rng {p : Addr} {W : AP} {H : Hp} {lo hi : Int} : WalkD p W H (Itr lo (hi - lo).toNat) (rngL lo hi) := fun W2 H2 ev wt => by
  have hl : (rngL lo hi).length = (hi - lo).toNat := by simp [rngL]
  refine ⟨fun i h => walk_range.goes i H2 (by omega) trivial, by rw [hl]; exact walk_range.stops H2 trivial, fun i d x H3 hd y => ?_⟩
  obtain ⟨e, hx⟩ := walk_range.yields i H2 x H3 (by have := (List.getElem?_eq_some_iff.mp hd).1; omega) trivial y
  subst e
  subst hx
  refine ⟨Same.refl _, ?_⟩
  unfold rngL at hd
  rw [List.getElem?_map] at hd
  have hi' : i < (hi - lo).toNat := by
    have := (List.getElem?_eq_some_iff.mp (show ((List.range (hi - lo).toNat).map fun i => D.int (lo + (i : Nat)))[i]? = some d by rw [List.getElem?_map]; exact hd)).1
    simpa using this
  rw [List.getElem?_range hi'] at hd
  cases hd
  exact .mkInt _
theorem i_rg1 {p pos : Pos} (hg : Gl X "range") (hm : X.mg "range" = none) (ha : SE X a ma) (hn : starEach [a] X.env = (false, eval a X.env) :: starEach [] X.env := by rfl) (hs : starEach [a] X.env = [(false, eval a X.env)] := by rfl) : SI X tg (.Call (.Name "range" p) [a] [] pos) (iRg1 ma) :=
  ⟨fun B => PI.imp (pi_range1 hg hm (pa_cons (ha.pe B) pa_nil hn) hs) fun σ H R ⟨s, ds, s', k, e, q⟩ => by
    refine tI.bind k e fun d s1 v H1 h1 e1 k1 ev1 r1 => ?_
    cases d <;> simp only [fail] at e1 <;> try (cases e1; done)
    split at e1
    · rename_i j hj
      obtain ⟨rfl, rfl⟩ := ret_some e1
      refine ⟨j, by rw [rp_int r1], hj.1, hj.2, q _ H1 k1 ev1 ?_⟩
      have := walk_rng (p := B.p) (W := B.W s'.env σ) (H := H1) (lo := 0) (hi := j)
      simpa using this
    · cases e1⟩
theorem i_rg2 {p pos : Pos} (hg : Gl X "range") (hm : X.mg "range" = none) (ha : SE X a ma) (hb : SE X b mb) (hn : starEach [a, b] X.env = (false, eval a X.env) :: starEach [b] X.env := by rfl) (hn2 : starEach [b] X.env = (false, eval b X.env) :: starEach [] X.env := by rfl)
    (hs : starEach [a, b] X.env = [(false, eval a X.env), (false, eval b X.env)] := by rfl) (hs2 : starEach [b] X.env = [(false, eval b X.env)] := by rfl) : SI X tg (.Call (.Name "range" p) [a, b] [] pos) (iRg2 ma mb) :=
  ⟨fun B => PI.imp (pi_range2 hg hm (pa_cons (ha.pe B) (pa_cons (hb.pe B) pa_nil hn2) hn) hs hs2) fun σ H R ⟨s, ds, s', k, e, q⟩ => by
    refine tI.bind k e fun d s1 v H1 h1 e1 k1 ev1 r1 => ?_
    refine tI.bind k1 e1 fun d2 s2 v2 H2 h2 e2 k2 ev2 r2 => ?_
    cases d <;> cases d2 <;> (try simp only [fail] at e2) <;> try (cases e2; done)
    split at e2
    · rename_i i j hj
      obtain ⟨rfl, rfl⟩ := ret_some e2
      exact ⟨i, j, by rw [rp_int r1, rp_int r2], ⟨hj.1.1, hj.1.2, hj.2.1, hj.2.2⟩, q _ H2 k2 (ev1.trans ev2) walk_rng⟩
    · cases e2⟩
end

def wipeE (env : List (Option Sl)) : List Nat → List (Option Sl)
  | [] => env
  | v :: vs => (wipeE env vs).set v none
theorem wipeE_len (env : List (Option Sl)) : ∀ vs, (wipeE env vs).length = env.length
  | [] => rfl
  | v :: vs => by unfold wipeE; rw [List.length_set, wipeE_len env vs]
theorem wipeE_get {env : List (Option Sl)} {i : Nat} : ∀ {vs : List Nat}, i ∉ vs → (wipeE env vs)[i]? = env[i]?
  | [], _ => rfl
  | v :: vs, h => by
    unfold wipeE
    rw [List.getElem?_set_ne (by rintro rfl; exact h List.mem_cons_self), wipeE_get fun z => h (List.mem_cons_of_mem _ z)]
theorem wipe_get {σ : Sg} {i : Nat} : ∀ {vs : List Nat}, i ∉ vs → (wipe σ vs)[i]? = σ[i]?
  | [], _ => rfl
  | v :: vs, h => by
    unfold wipe
    rw [List.getElem?_set_ne (by rintro rfl; exact h List.mem_cons_self), wipe_get fun z => h (List.mem_cons_of_mem _ z)]
theorem wipeE_some {env : List (Option Sl)} {i : Nat} {x : Sl} : ∀ {vs : List Nat}, (wipeE env vs)[i]? = some (some x) → env[i]? = some (some x) ∧ i ∉ vs
  | [], h => ⟨h, by simp⟩
  | v :: vs, h => by
    unfold wipeE at h
    by_cases hi : v = i
    · subst hi
      by_cases hv : v < (wipeE env vs).length
      · rw [List.getElem?_set_self hv] at h; cases h
      · rw [List.getElem?_eq_none (by simpa using hv)] at h; cases h
    · rw [List.getElem?_set_ne hi] at h
      obtain ⟨h1, h2⟩ := wipeE_some h
      exact ⟨h1, by simp only [List.mem_cons, not_or]; exact ⟨fun e => hi e.symm, h2⟩⟩
theorem wipe_wipe (σ : Sg) (vs : List Nat) : wipe (wipe σ vs) vs = wipe σ vs := by
  have h : ∀ (us : List Nat), (∀ u ∈ us, u ∈ vs) → wipe (wipe σ vs) us = wipe σ vs := fun us => by
    induction us with
    | nil => intro _; rfl
    | cons u us ih =>
      intro hu
      show (wipe (wipe σ vs) us).set u none = wipe σ vs
      rw [ih fun w hw => hu w (List.mem_cons_of_mem _ hw)]
      have hm := hu u List.mem_cons_self
      have set0 : ∀ (ws : List Nat), u ∈ ws → (wipe σ ws).set u none = wipe σ ws := fun ws => by
        induction ws with
        | nil => intro z; simp at z
        | cons w ws ih2 =>
          intro z
          unfold wipe
          by_cases e : w = u
          · subst e; rw [List.set_set]
          · have : u ∈ ws := by
              rcases List.mem_cons.mp z with z | z
              · exact absurd z.symm e
              · exact z
            rw [List.set_comm _ _ e, ih2 this]
      exact set0 vs hm
  exact h vs fun _ z => z
theorem W_wipe {B : Bs} {env : List (Option Sl)} {σ : Sg} {vs : List Nat} : ∀ b, B.W (wipeE env vs) (wipe σ vs) b → B.W env σ b := fun b hb => by
  rcases hb with hb | ⟨j, sl', e1, e2, e3⟩
  · exact .inl hb
  · exact .inr ⟨j, sl', (wipeE_some e1).1, e2, (wipe_some e3).1⟩
theorem StOk.wipe {B : Bs} {σ : Sg} {H : Hp} {s : S} (k : StOk B σ H s) (vs : List Nat) : StOk B (wipe σ vs) H { s with env := wipeE s.env vs } where
  len := by rw [wipe_length]; exact (wipeE_len _ _).trans k.len
  val := fun i d h => by
    obtain ⟨h1, h2⟩ := wipeE_some h
    obtain ⟨v, h3, h4⟩ := k.val i d h1
    exact ⟨v, by rw [wipe_get h2]; exact h3, h4.ev (Ev.less W_wipe)⟩
  own := fun i sl h ho => by
    obtain ⟨h1, h2⟩ := wipeE_some h
    obtain ⟨a, o, h3, h4, h5, h6⟩ := k.own i sl h1 ho
    exact ⟨a, o, by rw [wipe_get h2]; exact h3, h4, h5.ev (Ev.less W_wipe), h6⟩
  sep := fun i j sl sl' a h1 o1 h2 o2 q1 q2 => k.sep i j sl sl' a (wipeE_some h1).1 o1 (wipeE_some h2).1 o2 (wipe_some q1).1 (wipe_some q2).1
  src := k.src
  keep := k.keep
  wc := k.wc
  wp := k.wp
  wcc := k.wcc
def Bs.plusO (B : Bs) (a : Addr) (o : HO) : Bs := { B with Wc := fun b => B.Wc b ∨ b = a, H0 := upd B.H0 a o }
/-- the guarded new object is written -/
theorem StOk.grow {B : Bs} {σ : Sg} {H : Hp} {s : S} {a : Addr} {o o' : HO} (k : StOk (B.plusO a o) σ H s) (h1 : a ≠ B.p) (h2 : a ≠ B.c) (nt : NoTup o' := by intro _ z; cases z) : StOk (B.plusO a o') σ (upd H a o') s ∧ Ev ((B.plus a).W s.env σ) H ((B.plus a).W s.env σ) (upd H a o') := by
  have ev : Ev ((B.plus a).W s.env σ) H ((B.plus a).W s.env σ) (upd H a o') := fun b x e n => by
    have : b ≠ a := fun z => n (.inl (.inr z))
    exact ⟨by rw [upd_ne this]; exact e, n⟩
  refine ⟨⟨k.len, fun i d h => ?_, fun i sl h ho => ?_, k.sep, ⟨?_, ?_⟩, fun b x e n1 n2 => ?_, fun b h => ?_, k.wp, k.wcc⟩, ev⟩
  · obtain ⟨v, q1, q2⟩ := k.val i d h
    exact ⟨v, q1, Rp.ev ev _ _ q2⟩
  · obtain ⟨b, x, q1, q2, q3, q4, q5⟩ := k.own i sl h ho
    have hb : b ≠ a := fun z => q5 (.inr z)
    refine ⟨b, x, q1, by rw [upd_ne hb]; exact q2, OwnR.ev ev _ _ q3, ?_, q5⟩
    have q4 : upd B.H0 a o b = none := q4
    show upd B.H0 a o' b = none
    rw [upd_ne hb] at q4 ⊢; exact q4
  · show upd H a o' B.p = _
    rw [upd_ne (Ne.symm h1)]; exact k.src.d
  · show upd H a o' B.c = _
    rw [upd_ne (Ne.symm h2)]; exact k.src.l
  · have e : upd B.H0 a o' b = some x := e
    by_cases z : b = a
    · subst z; rw [upd_same] at e ⊢; exact e
    · rw [upd_ne z] at e ⊢
      exact k.keep b x (by show upd B.H0 a o b = _; rw [upd_ne z]; exact e) n1 n2
  · by_cases z : b = a
    · subst z; exact ⟨o', upd_same, nt⟩
    · rw [upd_ne z]; exact k.wc b h
theorem StOk.begin {B : Bs} {σ : Sg} {H : Hp} {s : S} {a : Addr} {o : HO} (k : StOk B σ H s) (n : H a = none) (nt : NoTup o := by intro _ z; cases z) : StOk (B.plusO a o) σ (upd H a o) s ∧ Ev (B.W s.env σ) H ((B.plus a).W s.env σ) (upd H a o) := by
  obtain ⟨k', ev⟩ := k.plus (o := o) n nt
  refine ⟨⟨k'.len, k'.val, fun i sl h ho => ?_, k'.sep, k'.src, fun b x e n1 n2 => ?_, k'.wc, k'.wp, k'.wcc⟩, ev⟩
  · obtain ⟨b, x, q1, q2, q3, q4, q5⟩ := k'.own i sl h ho
    exact ⟨b, x, q1, q2, q3, by show upd B.H0 a o b = none; rw [upd_ne (fun z => q5 (.inr z))]; exact q4, q5⟩
  · have e : upd B.H0 a o b = some x := e
    by_cases z : b = a
    · subst z; rw [upd_same] at e ⊢; exact e
    · rw [upd_ne z] at e
      exact k'.keep b x e n1 n2
theorem StOk.finish {B : Bs} {σ : Sg} {H : Hp} {s : S} {a : Addr} {o : HO} (k : StOk (B.plusO a o) σ H s) (n : B.H0 a = none) : StOk (B.plus a) σ H s where
  len := k.len
  val := k.val
  own := fun i sl h ho => by
    obtain ⟨b, x, q1, q2, q3, q4, q5⟩ := k.own i sl h ho
    have q4 : upd B.H0 a o b = none := q4
    rw [upd_ne (fun z => q5 (.inr z))] at q4
    exact ⟨b, x, q1, q2, q3, q4, q5⟩
  sep := k.sep
  src := k.src
  keep := fun b x e n1 n2 => k.keep b x (by show upd B.H0 a o b = _; rw [upd_ne (ne_of_none e n)]; exact e) n1 n2
  wc := k.wc
  wp := k.wp
  wcc := k.wcc

/-- a turn: the target bound, the tests, the element -/
def cStep (vs : List Nat) (g : D → M Unit) (c : M Bool) (el : M D) (d : D) : M (Option D) := fun s =>
  (bnd (g d) fun _ => bnd c fun b => if b = true then bnd el fun y => ret (some y) else ret none) { s with env := wipeE s.env vs }
def compF (vs : List Nat) (g : D → M Unit) (c : M Bool) (el : M D) : List D → M (List D)
  | [] => ret []
  | d :: r => bnd (cStep vs g c el d) fun o => bnd (compF vs g c el r) fun ys => ret (o.toList ++ ys)
/-- the slots of the block's names as they were -/
def restE (env0 env : List (Option Sl)) : List Nat → List (Option Sl)
  | [] => env
  | v :: vs => (restE env0 env vs).set v (match env0[v]? with
    | some (some (.val d)) => some (.val d)
    | _ => none)
def eComp (vs : List Nat) (g : D → M Unit) (c : M Bool) (el : M D) (it : M (List D)) : M (List D) := bnd it fun ds s1 =>
  if ds.length ≤ sizeLine then (match compF vs g c el ds s1 with
    | some (ys, sn) => some (ys, { sn with env := restE s1.env sn.env vs })
    | none => none) else none
theorem restE_len (env0 env : List (Option Sl)) : ∀ vs, (restE env0 env vs).length = env.length
  | [] => rfl
  | v :: vs => by unfold restE; rw [List.length_set, restE_len env0 env vs]
theorem restE_get {env0 env : List (Option Sl)} {i : Nat} {x : Sl} : ∀ {vs : List Nat}, (restE env0 env vs)[i]? = some (some x) → (i ∉ vs ∧ env[i]? = some (some x)) ∨ (i ∈ vs ∧ env0[i]? = some (some x) ∧ ∃ d, x = .val d)
  | [], h => .inl ⟨by simp, h⟩
  | v :: vs, h => by
    unfold restE at h
    by_cases hi : v = i
    · subst hi
      by_cases hv : v < (restE env0 env vs).length
      · rw [List.getElem?_set_self hv] at h
        split at h
        · rename_i d hd
          cases h
          exact .inr ⟨List.mem_cons_self, hd, d, rfl⟩
        · cases h
      · rw [List.getElem?_eq_none (by simpa using hv)] at h; cases h
    · rw [List.getElem?_set_ne hi] at h
      rcases restE_get h with ⟨h1, h2⟩ | ⟨h1, h2⟩
      · exact .inl ⟨by simp only [List.mem_cons, not_or]; exact ⟨fun e => hi e.symm, h1⟩, h2⟩
      · exact .inr ⟨List.mem_cons_of_mem _ h1, h2⟩
def tIx (m : M D) : TE := fun σ H Q => ∃ B, tI B m σ H Q
def tTx (m : M Bool) : TT := fun σ H Q => ∃ B, tT B m σ H Q
def tGx (is : List Nat) (g : D → M Unit) : TG := fun v σ H Q => ∃ B, tG B is g v σ H Q
theorem SE.px {X : Cx} {e : Expr} {m : M D} (h : SE X e m) : PE X e (tIx m) := ⟨fun pins s σ H Q I ⟨B, q⟩ => (h.pe B).run pins s σ H Q I q⟩
theorem SG.px {X : Cx} {e : Expr} {is : List Nat} {g : D → M Unit} (h : SG X e is g) : PG X e (tGx is g) := ⟨fun pins s σ H v u Q I r ⟨B, q⟩ => (h.pg B).run pins s σ H v u Q I r q⟩
/-- the tests of a clause -/
structure SF (X : Cx) (ifs : List Expr) (m : M Bool) : Prop where
  pt : PTs X ifs (tTx m)
theorem f_nil {X : Cx} : SF X [] (ret true) := ⟨⟨fun pins s σ H Q I ⟨B, s0, b, s1, k, e, q⟩ => by
  obtain ⟨rfl, rfl⟩ := ret_some e
  exact pts_nil.run pins s σ H Q I (q H k Ev.refl)⟩⟩
theorem f_one {X : Cx} {c : Expr} {m : M Bool} (h : ST X c m) : SF X [c] m := ⟨⟨fun pins s σ H Q I ⟨B, q⟩ => (pts_one (h.pt B)).run pins s σ H Q I q⟩⟩

theorem lc_go {B : Bs} {vs is : List Nat} {g : D → M Unit} {c : M Bool} {el : M D} {it : M (List D)} {σ : Sg} {H : Hp} {Q : VK} (hin : ∀ i ∈ is, i ∈ vs) (h : tL B (eComp vs g c el it) σ H Q) :
    tLc (tIt B it) (tGx is g) (tTx c) (tIx el) vs σ H Q := by
  obtain ⟨s, out, sE, k, e, q⟩ := h
  obtain ⟨ds, s1, e1, e2⟩ := bnd_some e
  refine ⟨s, ds, s1, k, e1, fun J H1 k1 ev1 wk => ?_⟩
  split at e2
  case isFalse => cases e2
  rename_i hsz
  split at e2
  case h_2 => cases e2
  rename_i ys sn eF
  cases e2
  intro A nA
  have nA0 := k1.new nA
  have hAp : A ≠ B.p := fun z => by subst z; rw [k1.src.d] at nA; cases nA
  have hAc : A ≠ B.c := fun z => by subst z; rw [k1.src.l] at nA; cases nA
  obtain ⟨kb, evb⟩ := k1.begin (o := .lst []) nA
  have kw := kb.wipe vs
  have evw : Ev (B.W s1.env σ) H1 ((B.plus A).W (wipeE s1.env vs) (wipe σ vs)) (upd H1 A (.lst [])) := evb.trans (Ev.less (W_wipe (B := B.plus A)))
  refine ⟨fun i m Hh => m = ds.length - i ∧ i ≤ ds.length ∧ ∃ si acc zs rest, StOk (B.plusO A (.lst acc)) (wipe σ vs) Hh { si with env := wipeE si.env vs } ∧ Ev (B.W s1.env σ) H1 ((B.plus A).W (wipeE si.env vs) (wipe σ vs)) Hh ∧
    Hh A = some (.lst acc) ∧ Rps B.p ((B.plus A).W (wipeE si.env vs) (wipe σ vs)) Hh zs acc ∧ acc.length ≤ i ∧ compF vs g c el (ds.drop i) si = some (rest, sn) ∧ out = zs ++ rest,
    ⟨ds.length, by simp, Nat.zero_le _, s1, [], [], out, kw, evw, upd_same, .nil, Nat.le_refl _, eF, rfl⟩, ?_⟩
  rintro i m Hh ⟨rfl, hi, si, acc, zs, rest, ki, evi, hA, ri, hlen, eR, rfl⟩
  obtain ⟨w1, w2, w3⟩ := wk _ _ evi ki.wt
  by_cases hlt : i < ds.length
  · refine .inr ⟨w1 i hlt, _, fun H' hN => ⟨ds.length - (i + 1), by omega, hN⟩, fun x H' y => ?_⟩
    have hd : ds[i]? = some ds[i] := List.getElem?_eq_getElem hlt
    obtain ⟨sm, rx⟩ := w3 i _ x H' hd y
    rw [List.drop_eq_getElem_cons hlt] at eR
    obtain ⟨o, s2, eS, eR⟩ := bnd_some eR
    obtain ⟨rs, s3, eR2, e3⟩ := bnd_some eR
    obtain ⟨e4, rfl⟩ := ret_some e3
    obtain ⟨_, s4, eg, eS⟩ := bnd_some eS
    obtain ⟨b, s5, ec, eS⟩ := bnd_some eS
    have k1' := ki.same sm
    have ev' : Ev (B.W s1.env σ) H1 ((B.plus A).W (wipeE si.env vs) (wipe σ vs)) H' := evi.trans (Ev.same sm)
    refine ⟨B.plusO A (.lst acc), { si with env := wipeE si.env vs }, ds[i], s4, k1', rx, eg, fun σ2 k2 ev2 wp => ?_⟩
    have hw : wipe σ2 vs = wipe σ vs := by rw [wp vs hin, wipe_wipe]
    refine ⟨hw, B.plusO A (.lst acc), s4, b, s5, k2, ec, fun H3 k3 ev3 => ?_⟩
    have evA : Ev ((B.plus A).W (wipeE si.env vs) (wipe σ vs)) H' ((B.plus A).W s5.env σ2) H3 := Ev.trans ev2 ev3
    have smA : Ev ((B.plus A).W (wipeE si.env vs) (wipe σ vs)) Hh ((B.plus A).W (wipeE si.env vs) (wipe σ vs)) H' := Ev.same sm
    cases b with
    | true =>
      obtain ⟨y', s6, ee, eS⟩ := bnd_some eS
      obtain ⟨rfl, rfl⟩ := ret_some eS
      refine ⟨B.plusO A (.lst acc), s5, y', s2, k3, ee, fun v H4 k4 ev4 r4 => ?_⟩
      have hA4 : H4 A = some (.lst acc) := k4.keep A _ upd_same hAp hAc
      have kw4 := k4.wipe vs
      rw [hw] at kw4
      obtain ⟨kg, evg⟩ := kw4.grow (o' := .lst (acc ++ [v])) hAp hAc
      have wl : Ev ((B.plus A).W s2.env σ2) H4 ((B.plus A).W (wipeE s2.env vs) (wipe σ vs)) H4 := by
        rw [← hw]; exact Ev.less (W_wipe (B := B.plus A))
      have evT : Ev ((B.plus A).W (wipeE si.env vs) (wipe σ vs)) Hh ((B.plus A).W (wipeE s2.env vs) (wipe σ vs)) (upd H4 A (.lst (acc ++ [v]))) :=
        smA.trans (evA.trans (Ev.trans ev4 (wl.trans evg)))
      refine ⟨acc, hA4, by omega, rfl, hlt, s2, acc ++ [v], zs ++ [y'], rs, kg, evi.trans evT, upd_same, ?_, by simp; omega, eR2, by rw [e4]; simp⟩
      exact (ri.ev evT).append (.cons (Rp.ev (wl.trans evg) _ _ r4) .nil)
    | false =>
      obtain ⟨rfl, rfl⟩ := ret_some eS
      have kw3 := k3.wipe vs
      rw [hw] at kw3
      have wl : Ev ((B.plus A).W s2.env σ2) H3 ((B.plus A).W (wipeE s2.env vs) (wipe σ vs)) H3 := by
        rw [← hw]; exact Ev.less (W_wipe (B := B.plus A))
      have evT : Ev ((B.plus A).W (wipeE si.env vs) (wipe σ vs)) Hh ((B.plus A).W (wipeE s2.env vs) (wipe σ vs)) H3 := smA.trans (evA.trans wl)
      have hA3 : H3 A = some (.lst acc) := k3.keep A _ upd_same hAp hAc
      exact ⟨rfl, hlt, s2, acc, zs, rs, kw3, evi.trans evT, hA3, ri.ev evT, by omega, eR2, by rw [e4]; simp⟩
  · have hn : i = ds.length := by omega
    subst hn
    rw [List.drop_length] at eR
    obtain ⟨rfl, e5⟩ := ret_some eR
    subst e5
    refine .inl ⟨w2, ?_⟩
    have kf := ki.finish nA0
    have sub : ∀ b, (B.plus A).W (restE s1.env sn.env vs) σ b → (B.plus A).W (wipeE sn.env vs) (wipe σ vs) b := fun b hb => by
      rcases hb with hb | ⟨j, sl, h1, h2, h3⟩
      · exact .inl hb
      · rcases restE_get h1 with ⟨n1, h4⟩ | ⟨_, _, d, rfl⟩
        · exact .inr ⟨j, sl, by rw [wipeE_get n1]; exact h4, h2, by rw [wipe_get n1]; exact h3⟩
        · cases h2
    have evf : Ev ((B.plus A).W (wipeE sn.env vs) (wipe σ vs)) Hh ((B.plus A).W (restE s1.env sn.env vs) σ) Hh := Ev.less sub
    have kR : StOk (B.plus A) σ Hh { sn with env := restE s1.env sn.env vs } := by
      refine ⟨?_, fun j d h => ?_, fun j sl h ho => ?_, fun j1 j2 sl1 sl2 b h1 o1 h2 o2 q1 q2 => ?_, kf.src, kf.keep, kf.wc, kf.wp, kf.wcc⟩
      · have := kf.len
        rw [wipe_length] at this
        show (restE s1.env sn.env vs).length = _
        rw [restE_len, ← this]
        exact (wipeE_len _ _).symm
      · rcases restE_get h with ⟨n1, h4⟩ | ⟨n1, h4, _⟩
        · obtain ⟨v, h5, h6⟩ := kf.val j d (by show (wipeE sn.env vs)[j]? = _; rw [wipeE_get n1]; exact h4)
          rw [wipe_get n1] at h5
          exact ⟨v, h5, h6.ev evf⟩
        · obtain ⟨v, h5, h6⟩ := k1.val j d h4
          exact ⟨v, h5, Rp.ev (evi.trans evf) _ _ h6⟩
      · rcases restE_get h with ⟨n1, h4⟩ | ⟨_, _, d, rfl⟩
        · obtain ⟨b, o, h5, h6, h7, h8⟩ := kf.own j sl (by show (wipeE sn.env vs)[j]? = _; rw [wipeE_get n1]; exact h4) ho
          rw [wipe_get n1] at h5
          exact ⟨b, o, h5, h6, h7.ev evf, h8⟩
        · cases ho
      · rcases restE_get h1 with ⟨n1, h4⟩ | ⟨_, _, d, rfl⟩
        · rcases restE_get h2 with ⟨n2, h5⟩ | ⟨_, _, d, rfl⟩
          · exact kf.sep j1 j2 sl1 sl2 b (by show (wipeE sn.env vs)[j1]? = _; rw [wipeE_get n1]; exact h4) o1 (by show (wipeE sn.env vs)[j2]? = _; rw [wipeE_get n2]; exact h5) o2 (by rw [wipe_get n1]; exact q1) (by rw [wipe_get n2]; exact q2)
          · cases o2
        · cases o1
    refine q A acc Hh kR (ev1.trans (evi.trans evf)) nA0 ?_ hA (by simpa using ri.ev evf)
    rintro (z | ⟨j, sl, h1, h2, h3⟩)
    · obtain ⟨o, ho, _⟩ := k1.wc A z
      rw [nA] at ho; cases ho
    · obtain ⟨b, o, h5, _, _, _, h8⟩ := kR.own j sl h1 h2
      rw [h3] at h5; cases h5
      exact h8 (.inr rfl)
end GH

namespace GH
open PySem PySem.Spec PyProof.Rows L2

inductive Out where
  | nx | ret (d : D) | brk | cnt
def Post (B : Bs) (D : Ends) (W0 : AP) (H0 : Hp) : Out → S → Prop
  | .nx, s' => ∀ σ' H', StOk B σ' H' s' → Ev W0 H0 (B.W s'.env σ') H' → D.nx σ' H'
  | .brk, s' => ∀ σ' H', StOk B σ' H' s' → Ev W0 H0 (B.W s'.env σ') H' → D.bk σ' H'
  | .cnt, s' => ∀ σ' H', StOk B σ' H' s' → Ev W0 H0 (B.W s'.env σ') H' → D.ct σ' H'
  | .ret d, s' => ∀ v σ' H', StOk B σ' H' s' → Ev W0 H0 (B.W s'.env σ') H' → Rp B.p (B.W s'.env σ') H' d v → D.rt v H'
theorem Post.ev {B : Bs} {D : Ends} {W0 W1 : AP} {H0 H1 : Hp} {s' : S} (e : Ev W0 H0 W1 H1) : ∀ {o : Out}, Post B D W0 H0 o s' → Post B D W1 H1 o s'
  | .nx, h => fun σ' H' k e' => h σ' H' k (e.trans e')
  | .brk, h => fun σ' H' k e' => h σ' H' k (e.trans e')
  | .cnt, h => fun σ' H' k e' => h σ' H' k (e.trans e')
  | .ret _, h => fun v σ' H' k e' r => h v σ' H' k (e.trans e') r
def tS (B : Bs) (m : M Out) : TS := fun D σ H => ∃ s o s', StOk B σ H s ∧ m s = some (o, s') ∧ Post B D (B.W s.env σ) H o s'
structure SS (X : Cx) (st : Stmt) (m : M Out) : Prop where
  ps : ∀ B, PS X st (tS B m)
structure SSs (X : Cx) (st : List Stmt) (m : M Out) : Prop where
  ps : ∀ B, PSs X st (tS B m)

section
variable {X : Cx} {st : Stmt} {rest : List Stmt} {e c a b : Expr} {pos : Pos} {m n : M Out} {me ma mb : M D} {mt : M Bool}
def sNx : M Out := ret .nx
def sSeq (m n : M Out) : M Out := bnd m fun o => match o with
  | .nx => n
  | o => ret o
theorem ss_nil : SSs X [] sNx := ⟨fun B => PSs.imp pss_nil fun D σ H ⟨s, o, s', k, e, q⟩ => by
  obtain ⟨rfl, rfl⟩ := ret_some e
  exact q σ H k Ev.refl⟩
theorem ss_cons (h1 : SS X st m) (h2 : SSs X rest n) : SSs X (st :: rest) (sSeq m n) := ⟨fun B => PSs.imp (pss_cons (h1.ps B) (h2.ps B)) fun D σ H ⟨s, o, s', k, e, q⟩ => by
  obtain ⟨o1, s1, e1, e2⟩ := bnd_some e
  refine ⟨s, o1, s1, k, e1, ?_⟩
  cases o1 with
  | nx => exact fun σ' H' k' ev => ⟨s1, o, s', k', e2, q.ev ev⟩
  | ret d => obtain ⟨rfl, rfl⟩ := ret_some e2; exact q
  | brk => obtain ⟨rfl, rfl⟩ := ret_some e2; exact q
  | cnt => obtain ⟨rfl, rfl⟩ := ret_some e2; exact q⟩
theorem ss_one (h1 : SS X st m) : SSs X [st] m := ⟨fun B => pss_one (h1.ps B)⟩
def sRet (m : M D) : M Out := bnd m fun d => ret (.ret d)
theorem s_ret (h : SE X e me) : SS X (.Return (some e) pos) (sRet me) := ⟨fun B => PS.imp (ps_ret (h.pe B)) fun D σ H ⟨s, o, s', k, e, q⟩ => by
  refine tI.bind k e fun d s1 v H1 h1 e1 k1 ev1 r1 => ?_
  obtain ⟨rfl, rfl⟩ := ret_some e1
  exact q v σ H1 k1 ev1 r1⟩
theorem s_retN : SS X (.Return none pos) (ret (.ret .non)) := ⟨fun B => PS.imp ps_retN fun D σ H ⟨s, o, s', k, e, q⟩ => by
  obtain ⟨rfl, rfl⟩ := ret_some e
  exact q .non σ H k Ev.refl .mkNon⟩
theorem s_pass : SS X (.Pass pos) sNx := ⟨fun B => PS.imp ps_pass fun D σ H ⟨s, o, s', k, e, q⟩ => by
  obtain ⟨rfl, rfl⟩ := ret_some e
  exact q σ H k Ev.refl⟩
theorem s_break : SS X (.Break pos) (ret .brk) := ⟨fun B => PS.imp ps_break fun D σ H ⟨s, o, s', k, e, q⟩ => by
  obtain ⟨rfl, rfl⟩ := ret_some e
  exact q σ H k Ev.refl⟩
theorem s_continue : SS X (.Continue pos) (ret .cnt) := ⟨fun B => PS.imp ps_continue fun D σ H ⟨s, o, s', k, e, q⟩ => by
  obtain ⟨rfl, rfl⟩ := ret_some e
  exact q σ H k Ev.refl⟩
def sIf (t : M Bool) (m n : M Out) : M Out := bnd t fun b => if b = true then m else n
theorem s_ifS {p q : List Stmt} (hc : ST X c mt) (ha : SSs X p m) (hb : SSs X q n) : SS X (.If c p q pos) (sIf mt m n) := ⟨fun B => PS.imp (ps_if (hc.pt B) (ha.ps B) (hb.ps B)) fun D σ H ⟨s, o, s', k, e, q⟩ => by
  refine tT.bind k e fun t s1 H1 h1 e1 k1 ev1 => ?_
  cases t with
  | true => exact ⟨s1, o, s', k1, e1, q.ev ev1⟩
  | false => exact ⟨s1, o, s', k1, e1, q.ev ev1⟩⟩
def sExpr (m : M D) : M Out := bnd m fun _ => ret .nx
theorem s_expr (h : SE X e me) (hs : swapsWith e none pos.line X.env = pure false := by rfl) : SS X (.Expr e pos) (sExpr me) := ⟨fun B => PS.imp (ps_expr (h.pe B) hs) fun D σ H ⟨s, o, s', k, e, q⟩ => by
  refine tI.bind k e fun d s1 v H1 h1 e1 k1 ev1 r1 => ?_
  obtain ⟨rfl, rfl⟩ := ret_some e1
  exact q σ H1 k1 ev1⟩

def sAsg (m : M D) (g : D → M Unit) : M Out := bnd m fun d => bnd (g d) fun _ => ret .nx
theorem asg_go {B : Bs} {Dn : Ends} {σ : Sg} {H : Hp} {is : List Nat} {g : D → M Unit} {t : TE} {u : TG} (ht : ∀ σ H Q, tI B me σ H Q → t σ H Q) (hu : ∀ v σ H Q, tG B is g v σ H Q → u v σ H Q) (h : tS B (sAsg me g) Dn σ H) : tAsg t u Dn σ H := by
  obtain ⟨s, o, s', k, e, q⟩ := h
  obtain ⟨d, s1, e1, e2⟩ := bnd_some e
  refine ht _ _ _ ⟨s, d, s1, k, e1, fun v H1 k1 ev1 r1 => ?_⟩
  obtain ⟨_, s2, e3, e4⟩ := bnd_some e2
  obtain ⟨rfl, rfl⟩ := ret_some e4
  exact hu _ _ _ _ ⟨s1, d, s', k1, r1, e3, fun σ' k2 ev2 _ => q σ' H1 k2 (ev1.trans ev2)⟩
theorem s_asg {tg : Expr} {is : List Nat} {g : D → M Unit} (he : SE X e me) (hg : SG X tg is g) (hs : swapsWithSole [tg] e pos.line X.env = pure false := by rfl) (hw : swappedStores [tg] e X.env = pure none := by rfl)
    (h1 : (assignEach [tg] X.env).map (·.2) = [assign tg X.env] := by rfl) : SS X (.Assign [tg] e pos) (sAsg me g) := ⟨fun B => PS.imp (ps_asg (he.pe B) (hg.pg B) hs hw h1) fun D σ H h => asg_go (fun _ _ _ z => z) (fun _ _ _ _ z => z) h⟩
theorem tG_name {B : Bs} {i : Nat} : ∀ v σ H Q, tG B [i] (gN i) v σ H Q → gName i v σ H Q := fun v σ H Q ⟨s, d, s', k, r, e, q⟩ => by
  unfold gN at e
  split at e
  · rename_i hl
    cases e
    obtain ⟨k', ev⟩ := k.set hl r
    exact q _ k' ev fun vs h => wipe_set_mem (h i (by simp))
  · cases e
/-- name = e -/
def sSet (i : Nat) (m : M D) : M Out := sAsg m (gN i)
theorem s_set {i : Nat} {x : Str} {pos' : Pos} (hN : X.N.Nodup) (hi : X.N[i]? = some x) (hx : Loc X.env.scope x) (he : SE X e me) (hs : swapsWith e (some (.Name x pos')) pos.line X.env = pure false := by rfl)
    (hf : X.fn x = true ∨ X.env.scope.names.lookup x = some .local := by first | exact .inl rfl | exact .inr rfl | assumption) : SS X (.Assign [.Name x pos'] e pos) (sSet i me) :=
  ⟨fun B => PS.imp (ps_set hN hi hx (he.pe B) hs hf) fun D σ H h => asg_go (fun _ _ _ z => z) tG_name h⟩

def eLst (ml : M (List D)) : M D := bnd ml fun ds => ret (.lst ds)
theorem tL_tI {B : Bs} {ml : M (List D)} {σ : Sg} {H : Hp} {Q : VK} (h : tI B (eLst ml) σ H Q) : tL B ml σ H Q := by
  obtain ⟨s, d, s', k, e, q⟩ := h
  obtain ⟨ds, s1, e1, e2⟩ := bnd_some e
  obtain ⟨rfl, rfl⟩ := ret_some e2
  refine ⟨s, ds, s', k, e1, fun a vs H' k' ev n nw ha r => ?_⟩
  have ev2 : Ev ((B.plus a).W s'.env σ) H' (B.W s'.env σ) H' := Ev.less fun b hb => hb.elim (fun z => .inl (.inl z)) fun z => .inr z
  refine q _ H' ⟨k'.len, fun i d h => ?_, fun i sl h ho => ?_, k'.sep, k'.src, k'.keep, fun b h => k'.wc b (.inl h), ?_, ?_⟩ (ev.trans ev2) (.mkLst nw ha (r.ev ev2))
  · obtain ⟨v, h1, h2⟩ := k'.val i d h
    exact ⟨v, h1, Rp.ev ev2 _ _ h2⟩
  · obtain ⟨b, o, h1, h2, h3, h4, h5⟩ := k'.own i sl h ho
    exact ⟨b, o, h1, h2, OwnR.ev ev2 _ _ h3, h4, fun z => h5 (.inl z)⟩
  · exact k.wp
  · exact k.wcc
theorem s_ofL {ml : M (List D)} (h : SL X e ml) : SE X e (eLst ml) := ⟨fun B => PE.imp (h.pe B) fun σ H Q z => tL_tI z⟩
/-- the new list's address is put at slot i -/
theorem StOk.putOwnS {B : Bs} {σ : Sg} {H : Hp} {s : S} {i : Nat} {a : Addr} {o : HO} {sl : Sl} (k : StOk (B.plus a) σ H s) (hi : i < s.env.length) (hso : sl.isOwn = true) (n : B.H0 a = none) (nc : ¬ B.W s.env σ a) (wp : B.Wc B.p) (wcc : B.Wc B.c) (ha : H a = some o) (r : OwnR B.p ((B.plus a).W s.env σ) H sl o) :
    StOk B (σ.set i (some (.ref a))) H { s with env := s.env.set i (some sl) } ∧ Ev ((B.plus a).W s.env σ) H (B.W (s.env.set i (some sl)) (σ.set i (some (.ref a)))) H := by
  have hiσ : i < σ.length := by rw [← k.len]; exact hi
  have sub : ∀ b, B.W (s.env.set i (some sl)) (σ.set i (some (.ref a))) b → (B.plus a).W s.env σ b := fun b hb => by
    rcases hb with hb | ⟨j, sl', e1, e2, e3⟩
    · exact .inl (.inl hb)
    · by_cases hj : i = j
      · subst hj
        rw [List.getElem?_set_self hiσ] at e3
        cases e3
        exact .inl (.inr rfl)
      · rw [List.getElem?_set_ne hj] at e1 e3
        exact .inr ⟨j, sl', e1, e2, e3⟩
  have ev : Ev ((B.plus a).W s.env σ) H (B.W (s.env.set i (some sl)) (σ.set i (some (.ref a)))) H := Ev.less sub
  have other : ∀ j sl b, i ≠ j → s.env[j]? = some (some sl) → sl.isOwn = true → σ[j]? = some (some (.ref b)) → b ≠ a := fun j sl b _ h1 h2 h3 z => by
    obtain ⟨b', o, q1, _, _, _, q5⟩ := k.own j sl h1 h2
    rw [h3] at q1; cases q1
    exact q5 (.inr z)
  refine ⟨⟨by simpa using k.len, fun j d' h => ?_, fun j sl' h h' => ?_, fun j1 j2 sl1 sl2 b h1 o1 h2 o2 q1 q2 => ?_, k.src, k.keep, fun b h => k.wc b (.inl h), wp, wcc⟩, ev⟩
  · have h : (s.env.set i (some sl))[j]? = _ := h
    by_cases hj : i = j
    · subst hj
      rw [List.getElem?_set_self hi] at h
      cases h; cases hso
    · rw [List.getElem?_set_ne hj] at h ⊢
      obtain ⟨v, h1, h2⟩ := k.val j d' h
      exact ⟨v, h1, Rp.ev ev _ _ h2⟩
  · have h : (s.env.set i (some sl))[j]? = _ := h
    by_cases hj : i = j
    · subst hj
      rw [List.getElem?_set_self hi] at h
      cases h
      exact ⟨a, _, List.getElem?_set_self hiσ, ha, OwnR.ev ev _ _ r, n, fun z => nc (.inl z)⟩
    · rw [List.getElem?_set_ne hj] at h ⊢
      obtain ⟨b, o, h1, h2, h3, h4, h5⟩ := k.own j sl' h h'
      exact ⟨b, o, h1, h2, OwnR.ev ev _ _ h3, h4, fun z => h5 (.inl z)⟩
  · have h1 : (s.env.set i (some sl))[j1]? = _ := h1
    have h2 : (s.env.set i (some sl))[j2]? = _ := h2
    by_cases e1 : i = j1
    · subst e1
      by_cases e2 : i = j2
      · exact e2
      · rw [List.getElem?_set_self hiσ] at q1
        cases q1
        rw [List.getElem?_set_ne e2] at h2 q2
        exact absurd rfl (other j2 sl2 _ e2 h2 o2 q2)
    · by_cases e2 : i = j2
      · subst e2
        rw [List.getElem?_set_self hiσ] at q2
        cases q2
        rw [List.getElem?_set_ne e1] at h1 q1
        exact absurd rfl (other j1 sl1 _ e1 h1 o1 q1)
      · rw [List.getElem?_set_ne e1] at h1 q1
        rw [List.getElem?_set_ne e2] at h2 q2
        exact k.sep j1 j2 sl1 sl2 b h1 o1 h2 o2 q1 q2
theorem StOk.putOwn {B : Bs} {σ : Sg} {H : Hp} {s : S} {i : Nat} {a : Addr} {vs : List V} {ds : List D} (k : StOk (B.plus a) σ H s) (hi : i < s.env.length) (n : B.H0 a = none) (nc : ¬ B.W s.env σ a) (wp : B.Wc B.p) (wcc : B.Wc B.c) (ha : H a = some (.lst vs)) (r : Rps B.p ((B.plus a).W s.env σ) H ds vs) :
    StOk B (σ.set i (some (.ref a))) H { s with env := s.env.set i (some (.own ds)) } ∧ Ev ((B.plus a).W s.env σ) H (B.W (s.env.set i (some (.own ds))) (σ.set i (some (.ref a)))) H :=
  k.putOwnS (sl := .own ds) hi rfl n nc wp wcc ha ⟨vs, rfl, r⟩
def oN (i : Nat) : List D → M Unit := fun ds s => if i < s.env.length then some ((), { s with env := s.env.set i (some (.own ds)) }) else none
def sOwn (i : Nat) (ml : M (List D)) : M Out := bnd ml fun ds => bnd (oN i ds) fun _ => ret .nx
theorem own_go {B : Bs} {Dn : Ends} {σ : Sg} {H : Hp} {i : Nat} {ml : M (List D)} {t : TE} (ht : ∀ σ H Q, tL B ml σ H Q → t σ H Q) (h : tS B (sOwn i ml) Dn σ H) : tAsg t (gName i) Dn σ H := by
  obtain ⟨s, o, s', k, e, q⟩ := h
  obtain ⟨ds, s1, e1, e2⟩ := bnd_some e
  refine ht _ _ _ ⟨s, ds, s1, k, e1, fun a vs H1 k1 ev1 n nc ha r => ?_⟩
  obtain ⟨_, s2, e3, e4⟩ := bnd_some e2
  obtain ⟨rfl, rfl⟩ := ret_some e4
  unfold oN at e3
  split at e3
  · rename_i hl
    cases e3
    obtain ⟨k2, ev2⟩ := k1.putOwn hl n nc k.wp k.wcc ha r
    exact q _ H1 k2 (ev1.trans ev2)
  · cases e3
theorem s_own {i : Nat} {x : Str} {pos' : Pos} {ml : M (List D)} (hN : X.N.Nodup) (hi : X.N[i]? = some x) (hx : Loc X.env.scope x) (he : SL X e ml) (hs : swapsWith e (some (.Name x pos')) pos.line X.env = pure false := by rfl)
    (hf : X.fn x = true ∨ X.env.scope.names.lookup x = some .local := by first | exact .inl rfl | exact .inr rfl | assumption) : SS X (.Assign [.Name x pos'] e pos) (sOwn i ml) :=
  ⟨fun B => PS.imp (ps_set hN hi hx (he.pe B) hs hf) fun D σ H h => own_go (fun _ _ _ z => z) h⟩

section
variable {elt tg iter : Expr} {ifs : List Expr} {scope : Scope} {own : List (Str × Nat)} {g : D → M Unit} {mc : M Bool} {el : M D} {it : M (List D)} {is : List Nat}
/-- what a comprehension's parts are, in any block of it -/
structure CompOk (X : Cx) (elt tg : Expr) (ifs : List Expr) (scope : Scope) (own : List (Str × Nat)) (is : List Nat) (g : D → M Unit) (mc : M Bool) (el : M D) : Prop where
  calm : X.calm = true
  nd : X.N.Nodup
  ok : BlkOk X.N X.env.scope scope own
  sub : ∀ i ∈ is, i ∈ own.map (·.2)
  hg : ∀ (s : Shared) (H : Hp) (C : Addr) (cl : List (Str × Addr)) (fp : List Addr), SG (X.blk s H scope (compEnvC scope cl C X.env) fp) tg is g
  ht : ∀ (s : Shared) (H : Hp) (C : Addr) (cl : List (Str × Addr)) (fp : List Addr), SF (X.blk s H scope (compEnvC scope cl C X.env) fp) ifs mc
  he : ∀ (s : Shared) (H : Hp) (C : Addr) (cl : List (Str × Addr)) (fp : List Addr), SE (X.blk s H scope (compEnvC scope cl C X.env) fp) elt el
theorem l_comp (C : CompOk X elt tg ifs scope own is g mc el) (hi : SI X tg iter it) (hs : ∀ x, foldedSetIterable iter X.env x = pure x := by intro _; rfl) :
    SL X (.ListComp elt [⟨tg, iter, ifs, 0⟩] scope pos) (eComp (own.map (·.2)) g mc el it) :=
  ⟨fun B => PE.imp (pe_lc C.calm C.nd (hi.pi B) C.ok (fun s H c cl fp => (C.hg s H c cl fp).px) (fun s H c cl fp => (C.ht s H c cl fp).pt) (fun s H c cl fp => (C.he s H c cl fp).px) hs) fun σ H Q h => lc_go C.sub h⟩
/-- name = [..] on one line -/
theorem s_setLc {i : Nat} {y : Str} {py cpos : Pos} (hy : X.N[i]? = some y) (hyl : X.env.scope.names.lookup y = some .local) (hsw : swapsWith (.ListComp elt [⟨tg, iter, ifs, 0⟩] scope cpos) (some (.Name y py)) pos.line X.env = pure true)
    (C : CompOk X elt tg ifs scope own is g mc el) (hi : SI X tg iter it) (hs : ∀ x, foldedSetIterable iter X.env x = pure x := by intro _; rfl) :
    SS X (.Assign [.Name y py] (.ListComp elt [⟨tg, iter, ifs, 0⟩] scope cpos) pos) (sSet i (eLst (eComp (own.map (·.2)) g mc el it))) :=
  ⟨fun B => PS.imp (ps_setLc C.calm C.nd hy hyl hsw (hi.pi B) C.ok (fun s H c cl fp => (C.hg s H c cl fp).px) (fun s H c cl fp => (C.ht s H c cl fp).pt) (fun s H c cl fp => (C.he s H c cl fp).px) hs) fun D σ H h =>
    asg_go (fun _ _ _ z => lc_go C.sub (tL_tI z)) tG_name h⟩
theorem s_ownLc {i : Nat} {y : Str} {py cpos : Pos} (hy : X.N[i]? = some y) (hyl : X.env.scope.names.lookup y = some .local) (hsw : swapsWith (.ListComp elt [⟨tg, iter, ifs, 0⟩] scope cpos) (some (.Name y py)) pos.line X.env = pure true)
    (C : CompOk X elt tg ifs scope own is g mc el) (hi : SI X tg iter it) (hs : ∀ x, foldedSetIterable iter X.env x = pure x := by intro _; rfl) :
    SS X (.Assign [.Name y py] (.ListComp elt [⟨tg, iter, ifs, 0⟩] scope cpos) pos) (sOwn i (eComp (own.map (·.2)) g mc el it)) :=
  ⟨fun B => PS.imp (ps_setLc C.calm C.nd hy hyl hsw (hi.pi B) C.ok (fun s H c cl fp => (C.hg s H c cl fp).px) (fun s H c cl fp => (C.ht s H c cl fp).pt) (fun s H c cl fp => (C.he s H c cl fp).px) hs) fun D σ H h =>
    own_go (fun _ _ _ z => lc_go C.sub z) h⟩
end

def forM (g : D → M Unit) (b : M Out) : List D → M Out
  | [] => ret .nx
  | d :: r => bnd (g d) fun _ => bnd b fun o => match o with
    | .nx => forM g b r
    | .cnt => forM g b r
    | .brk => ret .nx
    | .ret d => ret (.ret d)
def sFor (it : M (List D)) (g : D → M Unit) (b : M Out) : M Out := bnd it fun ds => forM g b ds
theorem s_for {tg iter : Expr} {body : List Stmt} {it : M (List D)} {is : List Nat} {g : D → M Unit} (hp : PassesOwn (model X.prog X.w) X.A X.env X.xe) (hc : X.calm = true) (hi : SI X tg iter it) (hg : SG X tg is g) (hb : SSs X body m)
    (hs : ∀ x, foldedSetIterable iter X.env x = pure x := by intro _; rfl) : SS X (.For tg iter body [] pos) (sFor it g m) := ⟨fun B => PS.imp (ps_for hp hc (hi.pi B) (hg.pg B) (hb.ps B) hs) fun D σ H ⟨s, o, s', k, e, q⟩ => by
  obtain ⟨ds, s1, e1, e2⟩ := bnd_some e
  refine ⟨s, ds, s1, k, e1, fun J H1 k1 ev1 wk => ?_⟩
  refine ⟨fun i mm σi Hi => mm = ds.length - i ∧ i ≤ ds.length ∧ ∃ si, StOk B σi Hi si ∧ Ev (B.W s1.env σ) H1 (B.W si.env σi) Hi ∧ forM g m (ds.drop i) si = some (o, s'), ⟨ds.length, by simp, Nat.zero_le _, s1, k1, Ev.refl, e2⟩, ?_⟩
  rintro i mm σi Hi ⟨rfl, hi, si, ki, evi, eR⟩
  obtain ⟨w1, w2, w3⟩ := wk _ _ evi ki.wt
  by_cases hlt : i < ds.length
  · refine .inr ⟨w1 i hlt, _, fun σ' H' hN => ⟨ds.length - (i + 1), by omega, hN⟩, fun x H' y => ?_⟩
    obtain ⟨sm, rx⟩ := w3 i _ x H' (List.getElem?_eq_getElem hlt) y
    rw [List.drop_eq_getElem_cons hlt] at eR
    obtain ⟨_, s2, eg, eR⟩ := bnd_some eR
    obtain ⟨o2, s3, eb, eR⟩ := bnd_some eR
    refine ⟨si, ds[i], s2, ki.same sm, rx, eg, fun σ2 k2 ev2 _ => ⟨s2, o2, s3, k2, eb, ?_⟩⟩
    have evA : Ev (B.W s1.env σ) H1 (B.W s2.env σ2) H' := evi.trans ((Ev.same sm).trans ev2)
    cases o2 with
    | nx => exact fun σ' H'' k' ev' => ⟨rfl, hlt, s3, k', evA.trans ev', eR⟩
    | cnt => exact fun σ' H'' k' ev' => ⟨rfl, hlt, s3, k', evA.trans ev', eR⟩
    | brk => obtain ⟨rfl, rfl⟩ := ret_some eR; exact fun σ' H'' k' ev' => q σ' H'' k' (ev1.trans (evA.trans ev'))
    | ret d => obtain ⟨rfl, rfl⟩ := ret_some eR; exact fun v σ' H'' k' ev' r => q v σ' H'' k' (ev1.trans (evA.trans ev')) r
  · have hn : i = ds.length := by omega
    subst hn
    rw [List.drop_length] at eR
    obtain ⟨rfl, rfl⟩ := ret_some eR
    exact .inl ⟨w2, q σi Hi ki (ev1.trans evi)⟩⟩

def whF (c : M Bool) (b : M Out) : Nat → M Out
  | 0 => fail
  | n + 1 => bnd c fun t => if t = true then bnd b fun o => match o with
      | .nx => whF c b n
      | .cnt => whF c b n
      | .brk => ret .nx
      | .ret d => ret (.ret d)
    else ret .nx
open Classical in
noncomputable def sWhile (c : M Bool) (b : M Out) : M Out := fun s => if h : ∃ n r, whF c b n s = some r then some h.choose_spec.choose else none
theorem whF_mono {c : M Bool} {b : M Out} : ∀ {n k : Nat} {s : S} {r : Out × S}, whF c b n s = some r → whF c b (n + k) s = some r
  | 0, _, _, _, h => by simp [whF, fail] at h
  | n + 1, k, s, r, h => by
    rw [show n + 1 + k = (n + k) + 1 by omega]
    obtain ⟨o, s'⟩ := r
    obtain ⟨t, s1, hc, h⟩ := bnd_some h
    refine (bnd_eq hc).trans ?_
    cases t with
    | false => exact h
    | true =>
      obtain ⟨o2, s2, hb, h⟩ := bnd_some h
      refine (bnd_eq hb).trans ?_
      cases o2 with
      | nx => exact whF_mono (n := n) h
      | cnt => exact whF_mono (n := n) h
      | brk => exact h
      | ret d => exact h
theorem sWhile_of {c : M Bool} {b : M Out} {n : Nat} {s : S} {r : Out × S} (h : whF c b n s = some r) : sWhile c b s = some r := by
  have ex : ∃ n r, whF c b n s = some r := ⟨n, r, h⟩
  unfold sWhile
  rw [dif_pos ex]
  have h1 := whF_mono (k := n) ex.choose_spec.choose_spec
  have h2 := whF_mono (k := ex.choose) h
  rw [Nat.add_comm] at h2
  rw [h2] at h1
  exact h1.symm ▸ rfl
theorem sWhile_some {c : M Bool} {b : M Out} {s : S} {r : Out × S} (h : sWhile c b s = some r) : ∃ n, whF c b n s = some r := by
  unfold sWhile at h
  split at h
  · rename_i ex
    have e : ex.choose_spec.choose = r := Option.some.inj h
    rw [← e]
    exact ⟨ex.choose, ex.choose_spec.choose_spec⟩
  · cases h
theorem s_while {body : List Stmt} (hp : PassesOwn (model X.prog X.w) X.A X.env X.xe) (hc : ST X c mt) (hb : SSs X body m) : SS X (.While c body [] pos) (sWhile mt m) := ⟨fun B => PS.imp (ps_while hp (hc.pt B) (hb.ps B)) fun D σ H ⟨s, o, s', k, e, q⟩ => by
  obtain ⟨n, e⟩ := sWhile_some e
  refine ⟨fun j σi Hi => ∃ si, StOk B σi Hi si ∧ Ev (B.W s.env σ) H (B.W si.env σi) Hi ∧ whF mt m j si = some (o, s'), ⟨n, s, k, Ev.refl, e⟩, ?_⟩
  rintro j σi Hi ⟨si, ki, evi, eR⟩
  cases j with
  | zero => simp [whF, fail] at eR
  | succ j =>
    obtain ⟨t, s1, ec, eR⟩ := bnd_some eR
    refine ⟨si, t, s1, ki, ec, fun H1 k1 ev1 => ?_⟩
    cases t with
    | false =>
      obtain ⟨rfl, rfl⟩ := ret_some eR
      rw [if_neg (by decide)]
      exact q σi H1 k1 (evi.trans ev1)
    | true =>
      obtain ⟨o2, s2, eb, eR⟩ := bnd_some eR
      rw [if_pos rfl]
      refine ⟨_, fun σ' H' hN => ⟨j, Nat.lt_succ_self _, hN⟩, s1, o2, s2, k1, eb, ?_⟩
      have evA := evi.trans ev1
      cases o2 with
      | nx => exact fun σ' H'' k' ev' => ⟨s2, k', evA.trans ev', eR⟩
      | cnt => exact fun σ' H'' k' ev' => ⟨s2, k', evA.trans ev', eR⟩
      | brk => obtain ⟨rfl, rfl⟩ := ret_some eR; exact fun σ' H'' k' ev' => q σ' H'' k' (evA.trans ev')
      | ret d => obtain ⟨rfl, rfl⟩ := ret_some eR; exact fun v σ' H'' k' ev' r => q v σ' H'' k' (evA.trans ev') r⟩
end
end GH

namespace GH
open PySem PySem.Spec PyProof.Rows L2

/-- what a def does: its arguments, the source ahead, the answer, the source behind -/
abbrev FnSem := List D → Src → Option (D × Src)
/-- its promise -/
def spOf (n : Nat) (g : FnSem) : Sp := fun vs H Q _ => ∃ p c Wc ds s0 d s1, Wc p ∧ Wc c ∧ WT Wc H ∧ SrcOk p c H s0 ∧ Rps p Wc H ds vs ∧ ds.length = n ∧ g ds s0 = some (d, s1) ∧
  ∀ v H', (∀ a o, H a = some o → a ≠ p → a ≠ c → H' a = some o) → SrcOk p c H' s1 → Rp p Wc H' d v → Q v H'
/-- room for k calls, and no text of an object being made around -/
structure RG (k : Nat) (A : Around) : Prop where
  r : Room k A
  g : A.guards = some []
theorem RG.mono {j k : Nat} {A : Around} (h : RG k A) (l : j ≤ k) : RG j A := ⟨h.r.mono l, h.g⟩
theorem RG.deeper {k : Nat} {A : Around} (h : RG (k + 1) A) (env : Env) : RG k (A.deeper env) := ⟨h.r.deeper env, h.g⟩
/-- the def at f keeps the promise of g, its calls k deep -/
def FnG (P : Program) (w : World) (K : PySem.W.Frag) (mg : Str → Option Value) (base : Heap) (k : Nat) (f : Addr) (n : Nat) (g : FnSem) : Prop :=
  ∀ (A : Around) (outer : List Env) (s : Shared) (H : Hp) (us : List Value) (vs : List V) (Q : VK) (E : XK), RG k A → Env0 P w K mg base A outer s H → Vals vs us → spOf n g vs H Q E →
    codeAny (model P w) A (.call (.ref f) ⟨us, []⟩) (CR CX0 outer P w H s Q E) s
structure Fn (P : Program) (w : World) (K : PySem.W.Frag) (mg : Str → Option Value) (base : Heap) (k : Nat) (x : Str) (n : Nat) (g : FnSem) : Prop where
  ok : ∃ f : Addr, mg x = some (.ref f) ∧ PySem.W.keepIn K (.ref f) = true ∧ FnG P w K mg base k f n g
theorem spOf_imp {n : Nat} {g g' : FnSem} (h : ∀ ds s r, g' ds s = some r → g ds s = some r) {vs : List V} {H : Hp} {Q : VK} {E : XK} (q : spOf n g' vs H Q E) : spOf n g vs H Q E := by
  obtain ⟨p, c, Wc, ds, s0, d, s1, h1, h2, h3, h4, h5, h6, h7, h8⟩ := q
  exact ⟨p, c, Wc, ds, s0, d, s1, h1, h2, h3, h4, h5, h6, h _ _ _ h7, h8⟩
/-- a def's meaning told otherwise -/
theorem Fn.imp {P : Program} {w : World} {K : PySem.W.Frag} {mg : Str → Option Value} {base : Heap} {k n : Nat} {x : Str} {g g' : FnSem} (F : Fn P w K mg base k x n g) (h : ∀ ds s r, g' ds s = some r → g ds s = some r) : Fn P w K mg base k x n g' := by
  obtain ⟨f, h1, h2, h3⟩ := F.ok
  exact ⟨f, h1, h2, fun A outer s H us vs Q E hr he hv q => h3 A outer s H us vs Q E hr he hv (spOf_imp h q)⟩
theorem Fn.mono {P : Program} {w : World} {K : PySem.W.Frag} {mg : Str → Option Value} {base : Heap} {j k n : Nat} {x : Str} {g : FnSem} (F : Fn P w K mg base j x n g) (h : j ≤ k) : Fn P w K mg base k x n g := by
  obtain ⟨f, h1, h2, h3⟩ := F.ok
  exact ⟨f, h1, h2, fun A outer s H us vs Q E hr he hv q => h3 A outer s H us vs Q E (hr.mono h) he hv q⟩

/-- behind a call -/
theorem StOk.called {B : Bs} {σ : Sg} {H H' : Hp} {s : S} {c' : Src} (k : StOk B σ H s) (kp : ∀ a o, H a = some o → a ≠ B.p → a ≠ B.c → H' a = some o) (sk : SrcOk B.p B.c H' c') :
    StOk B σ H' { s with src := c' } ∧ Ev (B.W s.env σ) H (B.W s.env σ) H' := by
  have ev : Ev (B.W s.env σ) H (B.W s.env σ) H' := fun a o h n => ⟨kp a o h (fun z => n (.inl (z ▸ k.wp))) (fun z => n (.inl (z ▸ k.wcc))), n⟩
  refine ⟨⟨k.len, fun i d h => ?_, fun i sl h ho => ?_, k.sep, sk, fun a o h n1 n2 => kp a o (k.keep a o h n1 n2) n1 n2, fun a h => ?_, k.wp, k.wcc⟩, ev⟩
  · obtain ⟨v, h1, h2⟩ := k.val i d h
    exact ⟨v, h1, h2.ev ev⟩
  · obtain ⟨a, o, h1, h2, h3, h4, h5⟩ := k.own i sl h ho
    exact ⟨a, o, h1, kp a o h2 (fun z => h5 (z ▸ k.wp)) (fun z => h5 (z ▸ k.wcc)), h3.ev ev, h4, h5⟩
  · by_cases e1 : a = B.p
    · subst e1; exact ⟨_, sk.d, by intro _ z; cases z⟩
    · by_cases e2 : a = B.c
      · subst e2; exact ⟨_, sk.l, by intro _ z; cases z⟩
      · obtain ⟨o, ho, nt⟩ := k.wc a h
        exact ⟨o, kp a o ho e1 e2, nt⟩
def eFn (g : FnSem) (ms : M (List D)) : M D := bnd ms fun ds s => match g ds s.src with
  | some (d, c) => some (d, { s with src := c })
  | none => none
/-- so many arguments -/
def aLen (n : Nat) (ms : M (List D)) : Prop := ∀ s ds s', ms s = some (ds, s') → ds.length = n
theorem aLen_nil : aLen 0 aNil := fun s ds s' h => by obtain ⟨rfl, rfl⟩ := ret_some h; rfl
theorem aLen_cons {n : Nat} {m : M D} {ms : M (List D)} (h : aLen n ms) : aLen (n + 1) (aCons m ms) := fun s ds s' e => by
  obtain ⟨d, s1, h1, h2⟩ := bnd_some e
  obtain ⟨r, s2, h3, h4⟩ := bnd_some h2
  obtain ⟨rfl, rfl⟩ := ret_some h4
  simp [h _ _ _ h3]

section
variable {X : Cx} {e : Expr} {es : List Expr} {pos p : Pos} {ms : M (List D)}
theorem run_g {k n : Nat} {f : Addr} {g : FnSem} {pins : List (Addr × Obj)} {σ : Sg} {H : Hp} {s : Shared} {Q : VK} {us : List Value} {vs : List V} (F : FnG X.prog X.w X.K X.mg X.base k f n g) (hr : RG k X.A) (I : Inv X pins σ H s) (r : Vals vs us) (h : spOf n g vs H Q E0) :
    wpAny (model X.prog X.w) X.A (call (.ref f) us) (EP X pins σ Q) X.xe s := by
  refine wpAny_call (codeAny_mono (F X.A X.stack s H us vs Q E0 hr I.env0 r h) fun res s' hq => ?_)
  cases res with
  | error e => exact False.elim hq
  | ok fl =>
    cases fl with
    | ret u => exact I.after hq
    | next => exact False.elim hq
    | brk => exact False.elim hq
    | cont => exact False.elim hq
theorem s_fn {k n : Nat} {x : Str} {g : FnSem} (F : Fn X.prog X.w X.K X.mg X.base k x n g) (hr : RG k X.A) (hg : Gl X x) (ha : SA X (e :: es) ms) (hl : aLen n ms) (hdb : (x == ("__debug__" : Str)) = false := by decide)
    (he : starEach (e :: es) X.env = (false, eval e X.env) :: starEach es X.env := by rfl) (hpl : (backTo pos (starEach es X.env)).any (·.1) = false := by rfl) : SE X (.Call (.Name x p) (e :: es) [] pos) (eFn g ms) := ⟨fun B => by
  obtain ⟨f, h1, h2, h3⟩ := F.ok
  refine ⟨fun pins sh σ H Q I ⟨s, d, s', k, e, q⟩ => ?_⟩
  refine wpAny_Call_Name_kw (ld_glob I hg h1 ?_ hdb)
  have hw : tA B ms σ H (fun vs Ha => spOf n g vs Ha Q E0) := by
    refine tA.bind k e fun ds s1 vs Ha q1 e1 k1 ev1 r1 => ?_
    split at e1
    · rename_i d' c' eg
      cases e1
      refine ⟨B.p, B.c, B.W s1.env σ, ds, s1.src, d, c', .inl k1.wp, .inl k1.wcc, k1.wt, k1.src, r1, hl _ _ _ q1, eg, fun v H' kp sk r => ?_⟩
      obtain ⟨k2, ev2⟩ := k1.called kp sk
      exact q v H' k2 (ev1.trans ev2) r
    · cases e1
  exact PySem.W.callWith_K (h₀ := X.base) I.ok.mod.kin h2 (thn ((ha.pa B).run pos pins sh σ H _ I hw) fun us s1 ⟨vs, H1, I1, r, q⟩ => ⟨I1.kIn, run_g h3 hr I1 r q⟩) he hpl⟩
end
def fnOf (n : Nat) (m : M Out) : FnSem := fun ds c => match m ⟨ds.map (fun d => some (Sl.val d)) ++ List.replicate (n - ds.length) none, c⟩ with
  | some (.ret d, s) => some (d, s.src)
  | some (.nx, s) => some (.non, s.src)
  | _ => none
theorem start_ok {p c : Addr} {Wc : AP} {H : Hp} {ds : List D} {vs : List V} {N : List Str} {s0 : Src} (h1 : Wc p) (h2 : Wc c) (h3 : WT Wc H) (h4 : SrcOk p c H s0) (h5 : Rps p Wc H ds vs) (hl : vs.length ≤ N.length) :
    StOk ⟨p, c, Wc, H⟩ (L2.start N vs) H ⟨ds.map (fun d => some (Sl.val d)) ++ List.replicate (N.length - ds.length) none, s0⟩ := by
  have hlen := h5.length
  have get : ∀ (i : Nat) (sl : Sl), (ds.map (fun d => some (Sl.val d)) ++ List.replicate (N.length - ds.length) none)[i]? = some (some sl) → ∃ d, ds[i]? = some d ∧ sl = Sl.val d := fun i sl h => by
    by_cases hi : i < ds.length
    · rw [List.getElem?_append_left (by simpa using hi), List.getElem?_map, List.getElem?_eq_getElem hi] at h
      cases h
      exact ⟨_, List.getElem?_eq_getElem hi, rfl⟩
    · rw [List.getElem?_append_right (by simpa using Nat.le_of_not_lt hi), List.getElem?_replicate] at h
      split at h <;> cases h
  have noW : ∀ b, (⟨p, c, Wc, H⟩ : Bs).W (ds.map (fun d => some (Sl.val d)) ++ List.replicate (N.length - ds.length) none) (L2.start N vs) b → Wc b := fun b hb => by
    rcases hb with hb | ⟨i, sl, e1, e2, _⟩
    · exact hb
    · obtain ⟨d, _, rfl⟩ := get i sl e1
      cases e2
  refine ⟨?_, fun i d h => ?_, fun i sl h ho => ?_, fun i j sl sl' a h ho => ?_, h4, fun a o h _ _ => h, h3, h1, h2⟩
  · unfold L2.start
    simp only [List.length_append, List.length_map, List.length_replicate]
    omega
  · obtain ⟨d', hd, e⟩ := get i _ h
    cases e
    obtain ⟨v, q1, q2⟩ := h5.get hd
    refine ⟨v, ?_, q2.ev (Ev.less noW)⟩
    unfold L2.start
    rw [List.getElem?_append_left (by simpa using (List.getElem?_eq_some_iff.mp q1).1), List.getElem?_map, q1]
    rfl
  · obtain ⟨d, _, rfl⟩ := get i sl h
    cases ho
  · obtain ⟨d, _, rfl⟩ := get i sl h
    cases ho
/-- THE RULE for a def -/
theorem fn_body {P : Program} {w : World} {K : PySem.W.Frag} {mg : Str → Option Value} {base : Heap} {x : Str} {params : Arguments} {code : List Stmt} {scope : Scope} {f : Addr} {fd : FuncData} {N ps : List Str} {k : Nat} {m : M Out}
    (F : FunD K x x params code scope [] [] f fd) (hm : mg x = some (.ref f)) (hb : Binds K fd ps []) (S : FnScope N ps scope) (hN : ps.length ≤ N.length)
    (body : ∀ (cdv : Value) (A : Around) (outer : List Env) (s : Shared) (H : Hp), RG k (A.deeper (envOfC x scope s.heap.objs.size f cdv)) →
      SSs (cxOf CX0 P w K mg base N x scope f cdv A outer s H E0).nox code m) : Fn P w K mg base (k + 1) x ps.length (fnOf N.length m) := by
  obtain ⟨oc, od, dV, kV, doc, pm, an, cdv, ct, osl, efd, lk, hcd, _, _⟩ := F.ex
  subst efd
  refine ⟨f, hm, F.kp, fun A outer s H us vs Q E hr e0 r h => ?_⟩
  have hl : vs.length = ps.length := by
    obtain ⟨p, c, Wc, ds, s0, d, s1, _, _, _, _, h5, h6, _⟩ := h
    rw [← h6, h5.length]
  have KX : K.In s.heap := e0.mod.kin.keeps fun b o e => (e0.bs b o e).1
  refine StX.run_bnd (G := fun xs H2 => xs = vs ∧ H2 = H) (E := E) lk hcd S hr.r e0 (fun A' Ex Q' hq => ?_) fun s2 H2 xs ⟨ex, eH⟩ hr2 => ?_
  · have bb := hb s us KX (by rw [List.append_nil, ← r.length, hl])
    rw [List.append_nil] at bb
    exact bb _ _ _ _ (hq s H vs us e0 Un.refl rfl (fun _ _ z => z) r hl ⟨rfl, rfl⟩)
  · subst ex
    subst eH
    obtain ⟨p, c, Wc, ds, s0, d, s1, h1, h2, h3, h4, h5, h6, h7, h8⟩ := h
    refine ⟨_, PSs.nox ((body cdv A outer s2 H2 ⟨hr2, hr.g⟩).ps ⟨p, c, Wc, H2⟩), ?_⟩
    unfold fnOf at h7
    split at h7
    · rename_i d' s' em
      cases h7
      refine ⟨_, _, _, start_ok h1 h2 h3 h4 h5 (by rw [← h5.length, h6]; exact hN), em, fun v σ' H' k' ev r => ?_⟩
      exact h8 v H' (fun a o e n1 n2 => k'.keep a o e n1 n2) k'.src (r.ev (Ev.less fun b hb => .inl hb))
    · rename_i s' em
      cases h7
      refine ⟨_, _, _, start_ok h1 h2 h3 h4 h5 (by rw [← h5.length, h6]; exact hN), em, fun σ' H' k' ev => ?_⟩
      exact h8 .non H' (fun a o e n1 n2 => k'.keep a o e n1 n2) k'.src .mkNon
    · cases h7
end GH

namespace GH
open PySem PySem.Spec PyProof.Rows L2

def eCall (g : List D → Option D) (ms : M (List D)) : M D := bnd ms fun ds => lift (g ds)
def eCallL (g : List D → Option (List D)) (ms : M (List D)) : M (List D) := bnd ms fun ds => lift (g ds)
section
variable {X : Cx} {e a b : Expr} {es : List Expr} {pos p : Pos} {ms : M (List D)} {ma mb m : M D}
abbrev CallD (X : Cx) (f : Value) (g : List D → Option D) : Prop := CallR X f (rC g)
abbrev CallL (X : Cx) (f : Value) (g : List D → Option (List D)) : Prop := CallR X f (rCL g)
theorem call_go {B : Bs} {g : List D → Option D} {σ : Sg} {H : Hp} {Q : VK} (h : tI B (eCall g ms) σ H Q) : tCB (rC g) (tA B ms) σ H Q := by
  obtain ⟨s, d, s', k, e, q⟩ := h
  refine tA.bind k e fun ds s1 vs H1 h1 e1 k1 ev1 r1 => ?_
  obtain ⟨e3, rfl⟩ := lift_some e1
  exact ⟨B.p, _, ds, d, k1.wt, r1, e3, fun v H' sm r => q v H' (k1.same sm) (ev1.trans (Ev.same sm)) r⟩
theorem s_callB {id : String} {x : Str} {g : List D → Option D} (hc : CallD X (.builtin id) g) (hg : Gl X x) (hm : X.mg x = none) (hv : bootBuiltins x = some (.builtin id)) (ha : SA X (e :: es) ms) (hn : x ≠ "__name__" := by decide) (hdb : (x == ("__debug__" : Str)) = false := by decide)
    (he : starEach (e :: es) X.env = (false, eval e X.env) :: starEach es X.env := by rfl) (hpl : (backTo pos (starEach es X.env)).any (·.1) = false := by rfl) : SE X (.Call (.Name x p) (e :: es) [] pos) (eCall g ms) :=
  ⟨fun B => PE.imp (pe_callB hc hg hm hv (ha.pa B) hn hdb he hpl) fun σ H Q h => call_go h⟩
theorem s_callT {T : String} {x : Str} {g : List D → Option D} (hc : CallD X (.type T) g) (hg : Gl X x) (hm : X.mg x = none) (hv : bootBuiltins x = some (.type T)) (ha : SA X (e :: es) ms) (hn : x ≠ "__name__" := by decide) (hdb : (x == ("__debug__" : Str)) = false := by decide)
    (he : starEach (e :: es) X.env = (false, eval e X.env) :: starEach es X.env := by rfl) (hpl : (backTo pos (starEach es X.env)).any (·.1) = false := by rfl) : SE X (.Call (.Name x p) (e :: es) [] pos) (eCall g ms) :=
  ⟨fun B => PE.imp (pe_callTy hc hg hm hv (ha.pa B) hn hdb he hpl) fun σ H Q h => call_go h⟩
/-- any new list of what was there -/
theorem StOk.newList {B : Bs} {σ : Sg} {H H' : Hp} {s : S} {a : Addr} {vs : List V} {ds : List D} (k : StOk B σ H s) (sm : Same H H') (n : H a = none) (ha : H' a = some (.lst vs)) (r : Rps B.p (B.W s.env σ) H ds vs) :
    StOk (B.plus a) σ H' s ∧ Ev (B.W s.env σ) H ((B.plus a).W s.env σ) H' ∧ Rps B.p ((B.plus a).W s.env σ) H' ds vs := by
  have ev : Ev (B.W s.env σ) H ((B.plus a).W s.env σ) H' := fun b x h hn => ⟨sm b x h, by
    rintro ((z | z) | z)
    · exact hn (.inl z)
    · exact ne_of_none h n z
    · exact hn (.inr z)⟩
  refine ⟨⟨k.len, fun i d h => ?_, fun i sl h ho => ?_, k.sep, k.src.same sm, fun b x h h1 h2 => sm b x (k.keep b x h h1 h2), fun b h => ?_, .inl k.wp, .inl k.wcc⟩, ev, r.ev ev⟩
  · obtain ⟨v, h1, h2⟩ := k.val i d h
    exact ⟨v, h1, h2.ev ev⟩
  · obtain ⟨b, x, h1, h2, h3, h4, h5⟩ := k.own i sl h ho
    refine ⟨b, x, h1, sm _ _ h2, h3.ev ev, h4, ?_⟩
    rintro (z | z)
    · exact h5 z
    · exact ne_of_none h2 n z
  · rcases h with z | z
    · obtain ⟨x, h1, nt⟩ := k.wc b z
      exact ⟨x, sm _ _ h1, nt⟩
    · subst z
      exact ⟨_, ha, by intro _ z; cases z⟩
theorem callL_go {B : Bs} {g : List D → Option (List D)} {σ : Sg} {H : Hp} {Q : VK} (h : tL B (eCallL g ms) σ H Q) : tCB (rCL g) (tA B ms) σ H Q := by
  obtain ⟨s, d, s', k, e, q⟩ := h
  refine tA.bind k e fun ds s1 vs H1 h1 e1 k1 ev1 r1 => ?_
  obtain ⟨e3, rfl⟩ := lift_some e1
  refine ⟨B.p, _, ds, d, k1.wt, r1, e3, fun a us H' sm n ha r => ?_⟩
  obtain ⟨kp, ev2, r2⟩ := k1.newList sm n ha r
  exact q a us H' kp (ev1.trans ev2) (k1.new n) (k1.wt.new n) ha r2
theorem l_callB {id : String} {x : Str} {g : List D → Option (List D)} (hc : CallL X (.builtin id) g) (hg : Gl X x) (hm : X.mg x = none) (hv : bootBuiltins x = some (.builtin id)) (ha : SA X (e :: es) ms) (hn : x ≠ "__name__" := by decide) (hdb : (x == ("__debug__" : Str)) = false := by decide)
    (he : starEach (e :: es) X.env = (false, eval e X.env) :: starEach es X.env := by rfl) (hpl : (backTo pos (starEach es X.env)).any (·.1) = false := by rfl) : SL X (.Call (.Name x p) (e :: es) [] pos) (eCallL g ms) :=
  ⟨fun B => PE.imp (pe_callB hc hg hm hv (ha.pa B) hn hdb he hpl) fun σ H Q h => callL_go h⟩
theorem l_callT {T : String} {x : Str} {g : List D → Option (List D)} (hc : CallL X (.type T) g) (hg : Gl X x) (hm : X.mg x = none) (hv : bootBuiltins x = some (.type T)) (ha : SA X (e :: es) ms) (hn : x ≠ "__name__" := by decide) (hdb : (x == ("__debug__" : Str)) = false := by decide)
    (he : starEach (e :: es) X.env = (false, eval e X.env) :: starEach es X.env := by rfl) (hpl : (backTo pos (starEach es X.env)).any (·.1) = false := by rfl) : SL X (.Call (.Name x p) (e :: es) [] pos) (eCallL g ms) :=
  ⟨fun B => PE.imp (pe_callTy hc hg hm hv (ha.pa B) hn hdb he hpl) fun σ H Q h => callL_go h⟩

theorem callD_cases {f : Value} {g : List D → Option D} (h : ∀ ds d p W, g ds = some d → CallR X f (fun vs H Q => WT W H ∧ Rps p W H ds vs ∧ ∀ v H', Same H H' → Rp p W H' d v → Q v H')) : CallD X f g := by
  intro pins s σ H xs us Q I r ⟨p, W, ds, d, hw, hx, he, hq⟩
  exact h ds d p W he pins s σ H xs us Q I r ⟨hw, hx, hq⟩
def lenG : List D → Option D
  | [.lst ds] => some (.int ds.length)
  | [.tup ds] => some (.int ds.length)
  | [.str s] => if s.length ≤ sizeLine then some (.int s.length) else none
  | _ => none
theorem c_len : CallD X (.builtin "len") lenG := callD_cases fun ds d p W he => by
  unfold lenG at he
  split at he
  · cases he
    refine CallR.imp call_len fun vs H Q ⟨hw, hx, hq⟩ => ?_
    obtain ⟨v, rfl, r⟩ := rps1 hx
    obtain ⟨a, us, rfl, _, ha, rs⟩ := rp_lst r
    exact ⟨_, us.length, rfl, .inl ⟨us, SqL.of ha, rfl⟩, by rw [← rs.length]; exact hq _ _ (Same.refl H) (.mkInt _)⟩
  · cases he
    refine CallR.imp call_len fun vs H Q ⟨hw, hx, hq⟩ => ?_
    obtain ⟨v, rfl, r⟩ := rps1 hx
    obtain ⟨a, us, rfl, _, ha, rs⟩ := rp_tup r
    exact ⟨_, us.length, rfl, .inr ⟨us, SqT.of ha, rfl⟩, by rw [← rs.length]; exact hq _ _ (Same.refl H) (.mkInt _)⟩
  · split at he
    · rename_i hl
      cases he
      refine CallR.imp call_len fun vs H Q ⟨hw, hx, hq⟩ => ?_
      obtain ⟨v, rfl, r⟩ := rps1 hx
      rw [rp_str r]
      exact ⟨_, _, rfl, ⟨hl, rfl⟩, hq _ _ (Same.refl H) (.mkInt _)⟩
    · cases he
  · cases he
def intG : List D → Option D
  | [.int i] => some (.int i)
  | [.bl k] => some (.int (if k then 1 else 0))
  | _ => none
theorem c_int : CallD X (.type "int") intG := callD_cases fun ds d p W he => by
  unfold intG at he
  split at he
  · cases he
    refine CallR.imp call_int1 fun vs H Q ⟨hw, hx, hq⟩ => ?_
    obtain ⟨v, rfl, r⟩ := rps1 hx
    exact .inl ⟨_, by rw [rp_int r], hq _ _ (Same.refl H) (.mkInt _)⟩
  · cases he
    refine CallR.imp call_int1 fun vs H Q ⟨hw, hx, hq⟩ => ?_
    obtain ⟨v, rfl, r⟩ := rps1 hx
    exact .inr ⟨_, by rw [rp_bl r], hq _ _ (Same.refl H) (.mkInt _)⟩
  · cases he
def absG : List D → Option D
  | [.int i] => some (.int (if i < 0 then -i else i))
  | _ => none
theorem c_abs : CallD X (.builtin "abs") absG := callD_cases fun ds d p W he => by
  unfold absG at he
  split at he
  · cases he
    refine CallR.imp call_abs fun vs H Q ⟨hw, hx, hq⟩ => ?_
    obtain ⟨v, rfl, r⟩ := rps1 hx
    exact ⟨_, by rw [rp_int r], hq _ _ (Same.refl H) (.mkInt _)⟩
  · cases he
def tupG : List D → Option D
  | [.lst ds] => some (.tup ds)
  | [.tup ds] => some (.tup ds)
  | _ => none
theorem c_tup : CallD X (.type "tuple") tupG := callD_cases fun ds d p W he => by
  unfold tupG at he
  split at he
  · cases he
    refine CallR.imp call_tuple_of fun vs H Q ⟨hw, hx, hq⟩ => ?_
    obtain ⟨v, rfl, r⟩ := rps1 hx
    obtain ⟨a, us, rfl, _, ha, rs⟩ := rp_lst r
    exact ⟨a, us, rfl, .inl ⟨SqL.of ha, fun l hl => hq _ _ (same_new hl) (.newTup hw hl rs)⟩⟩
  · cases he
    refine CallR.imp call_tuple_of fun vs H Q ⟨hw, hx, hq⟩ => ?_
    obtain ⟨v, rfl, r⟩ := rps1 hx
    obtain ⟨a, us, rfl, na, ha, rs⟩ := rp_tup r
    exact ⟨a, us, rfl, .inr ⟨SqT.of ha, hq _ _ (Same.refl H) (.mkTup na ha rs)⟩⟩
  · cases he
def lstG : List D → Option (List D)
  | [.lst ds] => some ds
  | [.tup ds] => some ds
  | _ => none
theorem c_lst : CallL X (.type "list") lstG := by
  intro pins s σ H xs us Q I r ⟨p, W, ds, es, hw, hx, he, hq⟩
  unfold lstG at he
  split at he
  · cases he
    obtain ⟨v, rfl, r'⟩ := rps1 hx
    obtain ⟨a, ws, rfl, _, ha, rs⟩ := rp_lst r'
    exact call_list_of pins s σ H _ us Q I r ⟨a, ws, rfl, .inl (SqL.of ha), fun l hl => hq l ws _ (same_new hl) hl upd_same rs⟩
  · cases he
    obtain ⟨v, rfl, r'⟩ := rps1 hx
    obtain ⟨a, ws, rfl, _, ha, rs⟩ := rp_tup r'
    exact call_list_of pins s σ H _ us Q I r ⟨a, ws, rfl, .inr (SqT.of ha), fun l hl => hq l ws _ (same_new hl) hl upd_same rs⟩
  · cases he
def sumG : List D → Option D
  | [.lst ds] => (toInts ds).map fun ns => .int ns.sum
  | [.tup ds] => (toInts ds).map fun ns => .int ns.sum
  | _ => none
theorem sum_tup (hc : X.calm = true) : CallR X (.builtin "sum") (fun vs H Q => ∃ (a : Addr) (ns : List Int), vs = [V.ref a] ∧ SqT X.K H a (ns.map V.int) ∧ Q (.int ns.sum) H) := by
  intro pins s σ H vs us Q I r ⟨a, ns, e, hs, q⟩
  subst e
  obtain ⟨its, rv, hl, _⟩ := I.tuple hs
  rw [Vals.ref1 r]
  have hi := rv.ints
  obtain ⟨xs, hx⟩ := hi.allInts.items
  have hn := hi.numsOf
  have hl : s.heap.IsTuple a its.toArray := hl
  rw [show numsOf its = numsOf its.toArray.toList from rfl, hx] at hn
  rw [nums_intItems] at hn
  rw [hx] at hl
  refine PySem.W.ktm_sumG (I.ok.hd hc) hl fun h' tk t' hk => ?_
  rw [preSum_eq, List.take_of_length_le (by simp), hn]
  exact ⟨.int _, H, I.kept (t' := tk) hk, ⟨_, rfl⟩, q⟩
theorem c_sum (hc : X.calm = true) : CallD X (.builtin "sum") sumG := callD_cases fun ds d p W he => by
  unfold sumG at he
  split at he
  · rename_i es
    obtain ⟨ns, h1, rfl⟩ := Option.map_eq_some_iff.mp he
    have := toInts_eq h1
    subst this
    refine CallR.imp (cr_sum hc) fun vs H Q ⟨hw, hx, hq⟩ => ?_
    obtain ⟨v, rfl, r⟩ := rps1 hx
    obtain ⟨a, us, rfl, _, ha, rs⟩ := rp_lst r
    rw [rps_ints rs] at ha
    exact ⟨a, ns, rfl, SqL.of ha, hq _ _ (Same.refl H) (.mkInt _)⟩
  · rename_i es
    obtain ⟨ns, h1, rfl⟩ := Option.map_eq_some_iff.mp he
    have := toInts_eq h1
    subst this
    refine CallR.imp (sum_tup hc) fun vs H Q ⟨hw, hx, hq⟩ => ?_
    obtain ⟨v, rfl, r⟩ := rps1 hx
    obtain ⟨a, us, rfl, _, ha, rs⟩ := rp_tup r
    rw [rps_ints rs] at ha
    exact ⟨a, ns, rfl, SqT.of ha, hq _ _ (Same.refl H) (.mkInt _)⟩
  · cases he
/-- the greatest, the least of a row of ints -/
def maxL : List Int → Int
  | [] => 0
  | [x] => x
  | x :: r => if maxL r > x then maxL r else x
def minL : List Int → Int
  | [] => 0
  | [x] => x
  | x :: r => if minL r < x then minL r else x
theorem maxL_spec : ∀ {ns : List Int}, ns ≠ [] → maxL ns ∈ ns ∧ ∀ y ∈ ns, y ≤ maxL ns
  | [], h => absurd rfl h
  | [x], _ => ⟨by simp [maxL], by simp [maxL]⟩
  | x :: y :: r, _ => by
    obtain ⟨h1, h2⟩ := maxL_spec (ns := y :: r) (by simp)
    unfold maxL
    split
    · refine ⟨List.mem_cons_of_mem _ h1, fun z hz => ?_⟩
      rcases List.mem_cons.mp hz with rfl | hz
      · omega
      · exact h2 z hz
    · refine ⟨List.mem_cons_self, fun z hz => ?_⟩
      rcases List.mem_cons.mp hz with rfl | hz
      · exact Int.le_refl _
      · have := h2 z hz; omega
theorem minL_spec : ∀ {ns : List Int}, ns ≠ [] → minL ns ∈ ns ∧ ∀ y ∈ ns, minL ns ≤ y
  | [], h => absurd rfl h
  | [x], _ => ⟨by simp [minL], by simp [minL]⟩
  | x :: y :: r, _ => by
    obtain ⟨h1, h2⟩ := minL_spec (ns := y :: r) (by simp)
    unfold minL
    split
    · refine ⟨List.mem_cons_of_mem _ h1, fun z hz => ?_⟩
      rcases List.mem_cons.mp hz with rfl | hz
      · omega
      · exact h2 z hz
    · refine ⟨List.mem_cons_self, fun z hz => ?_⟩
      rcases List.mem_cons.mp hz with rfl | hz
      · exact Int.le_refl _
      · have := h2 z hz; omega
def maxG : List D → Option D
  | [.int i, .int j] => some (.int (if j > i then j else i))
  | [.lst ds] => (toInts ds).bind fun ns => if ns ≠ [] then some (.int (maxL ns)) else none
  | _ => none
def minG : List D → Option D
  | [.int i, .int j] => some (.int (if j < i then j else i))
  | [.lst ds] => (toInts ds).bind fun ns => if ns ≠ [] then some (.int (minL ns)) else none
  | _ => none
theorem c_max (hc : X.calm = true) : CallD X (.builtin "max") maxG := callD_cases fun ds d p W he => by
  unfold maxG at he
  split at he
  · cases he
    refine CallR.imp (call_max2 hc) fun vs H Q ⟨hw, hx, hq⟩ => ?_
    obtain ⟨v, u, rfl, r1, r2⟩ := rps2 hx
    exact ⟨_, _, by rw [rp_int r1, rp_int r2], hq _ _ (Same.refl H) (.mkInt _)⟩
  · obtain ⟨ns, h1, h2⟩ := Option.bind_eq_some_iff.mp he
    split at h2
    · rename_i hne
      cases h2
      have := toInts_eq h1
      subst this
      refine CallR.imp (cr_max hc) fun vs H Q ⟨hw, hx, hq⟩ => ?_
      obtain ⟨v, rfl, r⟩ := rps1 hx
      obtain ⟨a, us, rfl, _, ha, rs⟩ := rp_lst r
      rw [rps_ints rs] at ha
      refine ⟨a, ns, rfl, SqL.of ha, List.length_pos_iff.mpr hne, fun m hm1 hm2 => ?_⟩
      obtain ⟨q1, q2⟩ := maxL_spec hne
      have : m = maxL ns := Int.le_antisymm (q2 m hm1) (hm2 _ q1)
      subst this
      exact hq _ _ (Same.refl H) (.mkInt _)
    · cases h2
  · cases he
theorem c_min (hc : X.calm = true) : CallD X (.builtin "min") minG := callD_cases fun ds d p W he => by
  unfold minG at he
  split at he
  · cases he
    refine CallR.imp (call_min2 hc) fun vs H Q ⟨hw, hx, hq⟩ => ?_
    obtain ⟨v, u, rfl, r1, r2⟩ := rps2 hx
    exact ⟨_, _, by rw [rp_int r1, rp_int r2], hq _ _ (Same.refl H) (.mkInt _)⟩
  · obtain ⟨ns, h1, h2⟩ := Option.bind_eq_some_iff.mp he
    split at h2
    · rename_i hne
      cases h2
      have := toInts_eq h1
      subst this
      refine CallR.imp (cr_min hc) fun vs H Q ⟨hw, hx, hq⟩ => ?_
      obtain ⟨v, rfl, r⟩ := rps1 hx
      obtain ⟨a, us, rfl, _, ha, rs⟩ := rp_lst r
      rw [rps_ints rs] at ha
      refine ⟨a, ns, rfl, SqL.of ha, List.length_pos_iff.mpr hne, fun m hm1 hm2 => ?_⟩
      obtain ⟨q1, q2⟩ := minL_spec hne
      have : m = minL ns := Int.le_antisymm (hm2 _ q1) (q2 m hm1)
      subst this
      exact hq _ _ (Same.refl H) (.mkInt _)
    · cases h2
  · cases he
def anyG : List D → Option D
  | [.lst ds] => (toBls ds).map fun ns => .bl (ns.any id)
  | _ => none
def allG : List D → Option D
  | [.lst ds] => (toBls ds).map fun ns => .bl (ns.all id)
  | _ => none
theorem c_any (hc : X.calm = true) : CallD X (.builtin "any") anyG := callD_cases fun ds d p W he => by
  unfold anyG at he
  split at he
  · obtain ⟨ns, h1, rfl⟩ := Option.map_eq_some_iff.mp he
    have := toBls_eq h1
    subst this
    refine CallR.imp (cr_any hc) fun vs H Q ⟨hw, hx, hq⟩ => ?_
    obtain ⟨v, rfl, r⟩ := rps1 hx
    obtain ⟨a, us, rfl, _, ha, rs⟩ := rp_lst r
    rw [rps_bls rs] at ha
    exact ⟨a, ns, rfl, SqL.of ha, hq _ _ (Same.refl H) (.mkBl _)⟩
  · cases he
theorem c_all (hc : X.calm = true) : CallD X (.builtin "all") allG := callD_cases fun ds d p W he => by
  unfold allG at he
  split at he
  · obtain ⟨ns, h1, rfl⟩ := Option.map_eq_some_iff.mp he
    have := toBls_eq h1
    subst this
    refine CallR.imp (cr_all hc) fun vs H Q ⟨hw, hx, hq⟩ => ?_
    obtain ⟨v, rfl, r⟩ := rps1 hx
    obtain ⟨a, us, rfl, _, ha, rs⟩ := rp_lst r
    rw [rps_bls rs] at ha
    exact ⟨a, ns, rfl, SqL.of ha, hq _ _ (Same.refl H) (.mkBl _)⟩
  · cases he

instance (i j : Int) : Decidable (RgOk i j) := by unfold RgOk; infer_instance
def lRg1 (m : M D) : M (List D) := bnd m fun d => match d with
  | .int j => if RgOk 0 j then ret (rngL 0 j) else fail
  | _ => fail
def lRg2 (ma mb : M D) : M (List D) := bnd ma fun d => bnd mb fun e => match d, e with
  | .int i, .int j => if RgOk i j then ret (rngL i j) else fail
  | _, _ => fail
theorem rng_rps {p : Addr} {W : AP} {H : Hp} {lo hi : Int} : Rps p W H (rngL lo hi) (rgV lo hi) := by
  have e : rngL lo hi = ((List.range (hi - lo).toNat).map fun i => lo + ((i : Nat) : Int)).map D.int := by simp [rngL, List.map_map, Function.comp_def]
  have e2 : rgV lo hi = ((List.range (hi - lo).toNat).map fun i => lo + ((i : Nat) : Int)).map V.int := by simp [rgV, List.map_map, Function.comp_def]
  rw [e, e2]; exact ints_rps
theorem l_rg1 {p1 p2 pos2 : Pos} (hc : X.calm = true) (hl : Gl X "list") (hlm : X.mg "list" = none) (hg : Gl X "range") (hm : X.mg "range" = none) (ha : SE X a ma) (na : starEach [a] X.env = (false, eval a X.env) :: starEach [] X.env := by rfl)
    (nb : starEach [.Call (.Name "range" p2) [a] [] pos2] X.env = (false, eval (.Call (.Name "range" p2) [a] [] pos2) X.env) :: starEach [] X.env := by rfl) : SL X (.Call (.Name "list" p1) [.Call (.Name "range" p2) [a] [] pos2] [] pos) (lRg1 ma) :=
  ⟨fun B => PE.imp (pe_listRg hc hl hlm (prg_1 hg hm (ha.pe B) na) nb) fun σ H Q ⟨s, d, s', k, e, q⟩ => by
    refine tI.bind k e fun dx s1 v H1 h1 e1 k1 ev1 r1 => ?_
    cases dx <;> simp only [fail] at e1 <;> try (cases e1; done)
    split at e1
    · rename_i j hj
      obtain ⟨rfl, rfl⟩ := ret_some e1
      refine ⟨j, rp_int r1, hj, fun a n => ?_⟩
      obtain ⟨kp, ev2, r2⟩ := k1.newList (same_new n) n upd_same (rng_rps (lo := 0) (hi := j))
      exact q a _ _ kp (ev1.trans ev2) (k1.new n) (k1.wt.new n) upd_same r2
    · cases e1⟩
theorem l_rg2 {p1 p2 pos2 : Pos} (hc : X.calm = true) (hl : Gl X "list") (hlm : X.mg "list" = none) (hg : Gl X "range") (hm : X.mg "range" = none) (ha : SE X a ma) (hb : SE X b mb) (na : starEach [a, b] X.env = (false, eval a X.env) :: starEach [b] X.env := by rfl)
    (nb0 : starEach [b] X.env = (false, eval b X.env) :: starEach [] X.env := by rfl) (hp0 : (backTo pos (starEach [b] X.env)).any (·.1) = false := by rfl)
    (nb : starEach [.Call (.Name "range" p2) [a, b] [] pos2] X.env = (false, eval (.Call (.Name "range" p2) [a, b] [] pos2) X.env) :: starEach [] X.env := by rfl) (hp2 : (backTo pos2 (starEach [b] X.env)).any (·.1) = false := by rfl) : SL X (.Call (.Name "list" p1) [.Call (.Name "range" p2) [a, b] [] pos2] [] pos) (lRg2 ma mb) :=
  ⟨fun B => PE.imp (pe_listRg hc hl hlm (prg_2 hg hm (ha.pe B) (hb.pe B) na nb0 hp2) nb) fun σ H Q ⟨s, d, s', k, e, q⟩ => by
    refine tI.bind k e fun dx s1 v H1 h1 e1 k1 ev1 r1 => ?_
    refine tI.bind k1 e1 fun dy s2 v2 H2 h2 e2 k2 ev2 r2 => ?_
    cases dx <;> cases dy <;> (try simp only [fail] at e2) <;> try (cases e2; done)
    split at e2
    · rename_i i j hj
      obtain ⟨rfl, rfl⟩ := ret_some e2
      refine ⟨i, j, rp_int r1, rp_int r2, hj, fun a n => ?_⟩
      obtain ⟨kp, ev3, r3⟩ := k2.newList (same_new n) n upd_same (rng_rps (lo := i) (hi := j))
      exact q a _ _ kp ((ev1.trans ev2).trans ev3) (k2.new n) (k2.wt.new n) upd_same r3
    · cases e2⟩
theorem s_tupRg1 {p1 p2 pos2 : Pos} (hc : X.calm = true) (hl : Gl X "tuple") (hlm : X.mg "tuple" = none) (hg : Gl X "range") (hm : X.mg "range" = none) (ha : SE X a ma) (na : starEach [a] X.env = (false, eval a X.env) :: starEach [] X.env := by rfl)
    (nb : starEach [.Call (.Name "range" p2) [a] [] pos2] X.env = (false, eval (.Call (.Name "range" p2) [a] [] pos2) X.env) :: starEach [] X.env := by rfl) : SE X (.Call (.Name "tuple" p1) [.Call (.Name "range" p2) [a] [] pos2] [] pos) (bnd (lRg1 ma) fun ds => ret (.tup ds)) :=
  ⟨fun B => PE.imp (pe_tupRg hc hl hlm (prg_1 hg hm (ha.pe B) na) nb) fun σ H Q ⟨s, d, s', k, e, q⟩ => by
    obtain ⟨ds, s0, e, e0⟩ := bnd_some e
    obtain ⟨rfl, rfl⟩ := ret_some e0
    refine tI.bind k e fun dx s1 v H1 h1 e1 k1 ev1 r1 => ?_
    cases dx <;> simp only [fail] at e1 <;> try (cases e1; done)
    split at e1
    · rename_i j hj
      obtain ⟨rfl, rfl⟩ := ret_some e1
      exact ⟨j, rp_int r1, hj, fun a n => q _ _ (k1.same (same_new n)) (ev1.trans (Ev.same (same_new n))) (.newTup k1.wt n rng_rps)⟩
    · cases e1⟩

def okSort (ds : List PyData) : Bool := ds.all (fun a => ds.all fun b => PySem.W.alike a b) && ((ds.all fun a => match a with | .tuple (_ :: _) => true | _ => false) || ds.all fun a => match a with | .none => false | .tuple _ => false | _ => true) && (ds.all fun a => decide (a.depth ≤ 60)) && PyData.canLayAll0 ds
def srtG : List D → Option (List D)
  | [.lst ds] => if okSort (D.pys ds) = true ∧ ds.length ≤ sizeLine then some (ds.mergeSort (PySem.W.dataLe false D.py)) else none
  | [.tup ds] => if okSort (D.pys ds) = true ∧ ds.length ≤ sizeLine ∧ False then some ds else none
  | _ => none
theorem vals_zip : ∀ {vs : List V} {us : List Value} {ds : List D}, Vals vs us → ds.length = vs.length → PySem.W.EachIs (fun u (b : D × V) => RelV b.2 u) us (ds.zip vs)
  | _, _, [], .nil, _ => .nil
  | _, _, _ :: _, .nil, h => by simp at h
  | _, _, [], .cons _ _, h => by simp at h
  | _, _, d :: ds, .cons r t, h => .cons r (vals_zip t (by simpa using h))
theorem reads_zip {p : Addr} {W : AP} {pins : List (Addr × Obj)} {σ : Sg} {H : Hp} {s : Shared} (I : Inv X pins σ H s) : ∀ {vs : List V} {us : List Value} {ds : List D}, Vals vs us → Rps p W H ds vs → PyData.canLayAll0 (D.pys ds) = true →
    PySem.W.EachIs (fun u (b : D × V) => ∃ as, Reads s.heap u b.1.py as) us (ds.zip vs)
  | _, _, [], .nil, _, _ => .nil
  | _, _, _ :: _, .nil, h, _ => by simp [Rps] at h
  | _, _, [], .cons _ _, h, _ => by simp [Rps] at h
  | _, _, d :: ds, .cons r t, h, hc => by
    simp only [Rps] at h
    obtain ⟨v, r', e, h1, h2⟩ := h
    cases e
    simp only [D.pys, PyData.canLayAll0, Bool.and_eq_true] at hc
    exact .cons (Dp.reads I _ _ _ (h1.dp _ _ hc.1) r) (reads_zip I t h2 hc.2)
theorem vals_of_each : ∀ {bs : List (D × V)} {us : List Value}, PySem.W.EachIs (fun u (b : D × V) => RelV b.2 u) us bs → Vals (bs.map (·.2)) us
  | _, _, .nil => .nil
  | _, _, .cons r t => .cons r (vals_of_each t)
theorem zip_fst {α β : Type} : ∀ {xs : List α} {ys : List β}, xs.length = ys.length → (xs.zip ys).map (·.1) = xs
  | [], [], _ => rfl
  | _ :: _, [], h => by simp at h
  | [], _ :: _, _ => rfl
  | x :: xs, y :: ys, h => by simp [zip_fst (xs := xs) (ys := ys) (by simpa using h)]
theorem c_srt {k : Nat} (hr : RG k X.A) : CallL X (.builtin "sorted") srtG := by
  intro pins s σ H xs us Q I r ⟨p, W, ds, es, hw, hx, he, hq⟩
  unfold srtG at he
  split at he
  · rename_i ds
    split at he
    · rename_i hk
      cases he
      obtain ⟨hk, hsz⟩ := hk
      obtain ⟨v, rfl, r'⟩ := rps1 hx
      obtain ⟨a, ws, rfl, _, ha, rs⟩ := rp_lst r'
      obtain ⟨u0, rfl, r0⟩ := r.one
      cases r0
      obtain ⟨its, rv, pl, hz⟩ := I.list (SqL.of ha)
      unfold okSort at hk
      simp only [Bool.and_eq_true, Bool.or_eq_true] at hk
      obtain ⟨⟨⟨hal, hst⟩, hdp⟩, hcl⟩ := hk
      have hl := rs.length
      have AL : PySem.W.AllAlike (D.pys ds) := fun d hd d' hd' => List.all_eq_true.mp (List.all_eq_true.mp hal d hd) d' hd'
      have emap : (ds.zip ws).map (fun b => b.1.py) = D.pys ds := by
        rw [pys_map, ← zip_fst hl, List.map_map]
        · rw [zip_fst hl]; rfl
      have hS : PySem.W.Sortable (D.pys ds) := by
        rcases hst with z | z
        · refine .inl fun d hd => ?_
          have := List.all_eq_true.mp z d hd
          split at this
          · exact ⟨_, _, rfl⟩
          · cases this
        · refine .inr fun d hd => ?_
          have := List.all_eq_true.mp z d hd
          cases d <;> simp at this ⊢
      refine PySem.W.sorted_data (R := fun u (b : D × V) => RelV b.2 u) (enc := fun b => b.1.py) pl.isList (vals_zip rv hl) (reads_zip I rv rs hcl) (by rw [emap]; exact AL) (by rw [emap]; exact hS) ?_ (fun b hb => ?_) fun out ho eo => ?_
      · rw [List.length_zip, hl, Nat.min_self, ← hl]; exact hsz
      · have hd : b.1.py ∈ D.pys ds := by rw [← emap]; exact List.mem_map.mpr ⟨b, hb, rfl⟩
        have := of_decide_eq_true (List.all_eq_true.mp hdp _ hd)
        have := hr.r.units
        omega
      · have rv' := vals_of_each eo
        obtain ⟨ep, he'⟩ := PyProof.Rows.sortedAll_at s.heap its out.toArray
        have perm : ((ds.zip ws).mergeSort (PySem.W.dataLe false fun b => b.1.py)).Perm (ds.zip ws) := List.mergeSort_perm _ _
        have hlen : (((ds.zip ws).mergeSort (PySem.W.dataLe false fun b => b.1.py)).map (·.2)).length ≤ sizeLine := by
          rw [List.length_map, perm.length_eq, List.length_zip, hl, Nat.min_self, ← hl]; exact hsz
        have hn : H (s.heap.objs.size + 1) = none := I.hok.fresh (Nat.le_succ _)
        refine ⟨.ref (s.heap.objs.size + 1), upd H (s.heap.objs.size + 1) (.lst (((ds.zip ws).mergeSort (PySem.W.dataLe false fun b => b.1.py)).map (·.2))), I.laid (t' := s.toks) (fun _ _ => PyProof.Rows.sortedAll_old) (Nat.le_succ _) ⟨hlen, out, ep, rv', he'⟩, rfl, ?_⟩
        refine hq _ _ _ (same_new hn) hn upd_same ?_
        have e1 : ds.mergeSort (PySem.W.dataLe false D.py) = ((ds.zip ws).mergeSort (PySem.W.dataLe false fun b => b.1.py)).map (·.1) := by
          have q := List.map_mergeSort (f := fun b : D × V => b.1) (r := PySem.W.dataLe false fun b : D × V => b.1.py) (s := PySem.W.dataLe false D.py) (l := ds.zip ws) fun a _ b _ => rfl
          rw [zip_fst hl] at q
          exact q.symm
        rw [e1]
        have each : ∀ bs : List (D × V), (∀ b ∈ bs, Rp p W H b.1 b.2) → Rps p W H (bs.map (·.1)) (bs.map (·.2)) := fun bs => by
          induction bs with
          | nil => intro _; exact .nil
          | cons b bs ih => intro h; exact .cons (h b List.mem_cons_self) (ih fun x hx => h x (List.mem_cons_of_mem _ hx))
        refine each _ fun b hb => ?_
        have hb' := perm.mem_iff.mp hb
        obtain ⟨i, hi⟩ := List.mem_iff_getElem?.mp hb'
        rw [List.getElem?_zip_eq_some] at hi
        exact rp_get rs hi.1 hi.2
    · cases he
  · split at he
    · rename_i hk; exact absurd hk.2.2 id
    · cases he
  · cases he

def ixD : D → D → Option D
  | .lst ds, .int i => atI ds i
  | .tup ds, .int i => atI ds i
  | .str z, .int i => if z.length ≤ sizeLine then (atI z.cps.toList i).map fun c => .str ⟨#[c]⟩ else none
  | _, _ => none
theorem rps_atI {p : Addr} {W : AP} {H : Hp} {ds : List D} {vs : List V} {i : Int} {d : D} (r : Rps p W H ds vs) (h : atI ds i = some d) : ∃ v, atI vs i = some v ∧ Rp p W H d v := by
  unfold atI at h ⊢
  rw [r.length] at h
  obtain ⟨j, h1, h2⟩ := Option.bind_eq_some_iff.mp h
  obtain ⟨v, h3, h4⟩ := r.get h2
  exact ⟨v, by rw [h1]; exact h3, h4⟩
theorem ixr : IxR X (rB ixD) := by
  intro value slice pins s σ H x y v u Q I rx ry ⟨p, W, dx, dy, d, hw, hx, hy, he, hq⟩ hs
  unfold ixD at he
  split at he
  · obtain ⟨a, vs, rfl, _, ha, rs⟩ := rp_lst hx
    obtain ⟨w', h1, h2⟩ := rps_atI rs he
    exact ix_list value slice pins s σ H _ _ v u Q I rx ry ⟨a, vs, _, w', rfl, rp_int hy, SqL.of ha, h1, hq _ _ (Same.refl H) h2⟩ hs
  · obtain ⟨a, vs, rfl, _, ha, rs⟩ := rp_tup hx
    obtain ⟨w', h1, h2⟩ := rps_atI rs he
    exact ix_tup value slice pins s σ H _ _ v u Q I rx ry ⟨a, vs, _, w', rfl, rp_int hy, SqT.of ha, h1, hq _ _ (Same.refl H) h2⟩ hs
  · split at he
    · rename_i hl
      obtain ⟨c, h1, rfl⟩ := Option.map_eq_some_iff.mp he
      exact ix_str value slice pins s σ H _ _ v u Q I rx ry ⟨_, _, c, rp_str hx, rp_int hy, hl, h1, hq _ _ (Same.refl H) (.mkStr _)⟩ hs
    · cases he
  · cases he
theorem s_ix (ha : SE X a ma) (hb : SE X b mb) (hs : PlainIx b := by exact fun _ _ => rfl) : SE X (.Subscript a b pos) (eBin ixD ma mb) :=
  ⟨fun B => PE.imp (pe_ix ixr (ha.pe B) (hb.pe B) hs) fun σ H Q h => bin_go h⟩

def cutL {α : Type} (xs : List α) (lo hi : Option Int) : List α := (xs.drop (HT.sIx xs.length 0 lo)).take (HT.sIx xs.length xs.length hi - HT.sIx xs.length 0 lo)
theorem rps_cut {p : Addr} {W : AP} {H : Hp} {ds : List D} {vs : List V} (r : Rps p W H ds vs) (lo hi : Option Int) : Rps p W H (cutL ds lo hi) (cutV vs lo hi) := by
  unfold cutL cutV
  rw [r.length]
  exact (r.drop _).take _
def slD (lo hi : Option Int) : D → Option D
  | .lst ds => some (.lst (cutL ds lo hi))
  | .tup ds => some (.tup (cutL ds lo hi))
  | _ => none
def rSl : V → Option Int → Option Int → Hp → VK → Prop := fun x lo hi H Q => ∃ p W dx d, WT W H ∧ Rp p W H dx x ∧ slD lo hi dx = some d ∧ ∀ v H', Same H H' → Rp p W H' d v → Q v H'
theorem slr : L2.SlR X rSl := by
  intro pins s σ H x v vl vu lo hi sl Q I rx hs pl pu ⟨p, W, dx, d, hw, hx, he, hq⟩
  unfold slD at he
  split at he
  · cases he
    obtain ⟨a, vs, rfl, _, ha, rs⟩ := rp_lst hx
    exact sl_list pins s σ H _ v vl vu lo hi sl Q I rx hs pl pu ⟨a, vs, rfl, SqL.of ha, fun q nq => hq _ _ (same_new nq) (.newLst hw nq (rps_cut rs lo hi))⟩
  · cases he
    rename_i ds
    obtain ⟨a, vs, rfl, na, ha, rs⟩ := rp_tup hx
    refine sl_tupA pins s σ H _ v vl vu lo hi sl Q I rx hs pl pu ⟨a, vs, rfl, SqT.of ha, fun ⟨z1, z2⟩ => ?_, fun _ q nq => hq _ _ (same_new nq) (.newTup hw nq (rps_cut rs lo hi))⟩
    have e : cutL ds lo hi = ds := by
      unfold cutL
      rw [rs.length, z1, z2]
      simp only [Nat.sub_zero, List.drop_zero]
      rw [← rs.length, List.take_length]
    rw [e] at hq
    exact hq _ _ (Same.refl H) (.mkTup na ha rs)
  · cases he
def tO (B : Bs) (m : M (Option Int)) : TO := fun σ H Q => ∃ s d s', StOk B σ H s ∧ m s = some (d, s') ∧ ∀ H', StOk B σ H' s' → Ev (B.W s.env σ) H (B.W s'.env σ) H' → Q d H'
structure SO (X : Cx) (e : Option Expr) (m : M (Option Int)) : Prop where
  po : ∀ B, PO X e (tO B m)
theorem PO.imp {e : Option Expr} {t t' : TO} (h : PO X e t) (f : ∀ σ H Q, t' σ H Q → t σ H Q) : PO X e t' := ⟨fun pins s σ H Q I q => h.run pins s σ H Q I (f _ _ _ q)⟩
def oNo : M (Option Int) := ret none
def oAt (m : M D) : M (Option Int) := bnd m fun d => match d with
  | .int i => ret (some i)
  | _ => fail
theorem o_no : SO X none oNo := ⟨fun B => PO.imp po_none fun σ H Q ⟨s, d, s', k, e, q⟩ => by
  obtain ⟨rfl, rfl⟩ := ret_some e
  exact q H k Ev.refl⟩
theorem o_at (h : SE X e m) : SO X (some e) (oAt m) := ⟨fun B => PO.imp (po_some (h.pe B)) fun σ H Q ⟨s, d, s', k, e, q⟩ => by
  refine tI.bind k e fun dx s1 v H1 h1 e1 k1 ev1 r1 => ?_
  cases dx <;> simp only [fail] at e1 <;> try (cases e1; done)
  obtain ⟨rfl, rfl⟩ := ret_some e1
  exact ⟨_, rp_int r1, q H1 k1 ev1⟩⟩
def eSl (m : M D) (lo hi : M (Option Int)) : M D := bnd m fun d => bnd lo fun l => bnd hi fun h => lift (slD l h d)
theorem s_slice {lo hi : Option Expr} {ml mh : M (Option Int)} {p2 : Pos} (ha : SE X a ma) (hl : SO X lo ml) (hh : SO X hi mh) : SE X (.Subscript a (.Slice lo hi none p2) pos) (eSl ma ml mh) :=
  ⟨fun B => PE.imp (pe_slice slr (ha.pe B) (hl.po B) (hh.po B)) fun σ H Q ⟨s, d, s', k, e, q⟩ => by
    refine tI.bind k e fun dx s1 v H1 h1 e1 k1 ev1 r1 => ?_
    obtain ⟨l, s2, e2, e3⟩ := bnd_some e1
    refine ⟨s1, l, s2, k1, e2, fun H2 k2 ev2 => ?_⟩
    obtain ⟨h, s3, e4, e5⟩ := bnd_some e3
    refine ⟨s2, h, s3, k2, e4, fun H3 k3 ev3 => ?_⟩
    obtain ⟨e6, rfl⟩ := lift_some e5
    exact ⟨B.p, _, dx, d, k3.wt, r1.ev (ev2.trans ev3), e6, fun v H' sm r => q v H' (k3.same sm) ((ev1.trans (ev2.trans ev3)).trans (Ev.same sm)) r⟩⟩
end
end GH

namespace GH
open PySem PySem.Spec PyProof.Rows L2

/-- a list (true) or a tuple (false) that stands at a -/
def CN (k : Bool) (a : Addr) (items : Array Value) (h : Heap) : Prop := match k with
  | true => h.IsList a items
  | false => h.IsTuple a items
def ITr (k : Bool) (it a : Addr) (i : Nat) (h : Heap) : Prop := match k with
  | true => h.IsListIter it a i
  | false => h.IsTupleIter it a i
def itO (k : Bool) (a : Addr) : Obj := match k with
  | true => { cls := .type "list_iterator", data := .fields #[.ref a, .int 0 0] }
  | false => { cls := .type "tuple_iterator", data := .fields #[.ref a, .int 0 0] }
theorem beg (k : Bool) (a : Addr) (items : Array Value) : Begins (.ref a) (itO k a) (CN k a items) := by
  cases k with
  | true => exact begins_list a items
  | false => exact begins_tuple a items
theorem itO_at {k : Bool} {it a : Addr} {h : Heap} (e : h.get? it = some (itO k a)) : ITr k it a 0 h := by
  cases k with
  | true => exact ⟨_, e, rfl, rfl⟩
  | false => exact ⟨_, e, rfl, rfl⟩
theorem draws (prog : Program) (w : World) (A : Around) (hh : A.handled = none) (k : Bool) (it a : Addr) (hne : a ≠ it) (items : Array Value) :
    Draws prog w A it [it, a] items.size (fun i v => items[i]? = some v) (fun i h => ITr k it a i h ∧ CN k a items h) := by
  cases k with
  | true => exact Draws.list hh it a hne items
  | false => exact Draws.tuple hh it a hne items
theorem ITr.obj {k : Bool} {it a : Addr} {i : Nat} {h : Heap} (x : ITr k it a i h) : ∃ o, h.get? it = some o ∧ ∀ v, o.data ≠ .cell v := by
  cases k with
  | true =>
    obtain ⟨o, e, _, d⟩ := x
    exact ⟨o, e, fun v q => by rw [d] at q; cases q⟩
  | false =>
    obtain ⟨o, e, _, d⟩ := x
    exact ⟨o, e, fun v q => by rw [d] at q; cases q⟩
theorem ITr.keep {k : Bool} {it a : Addr} {i : Nat} {h h' : Heap} (x : ITr k it a i h) (kp : ∀ o, h.get? it = some o → h'.get? it = some o) : ITr k it a i h' := by
  cases k with
  | true => exact Heap.IsListIter.at x kp
  | false => exact Heap.IsTupleIter.at x kp
/-- what stands at a in the abstract heap -/
def SqA (K : PySem.W.Frag) (H : Hp) (k : Bool) (a : Addr) (xs : List V) : Prop := match k with
  | true => SqL K H a xs
  | false => SqT K H a xs
theorem SqA.cn {X : Cx} {pins : List (Addr × Obj)} {σ : Sg} {H : Hp} {s : Shared} {k : Bool} {a : Addr} {xs : List V} (I : Inv X pins σ H s) (h : SqA X.K H k a xs) : ∃ its : List Value, Vals xs its ∧ CN k a its.toArray s.heap ∧ xs.length ≤ sizeLine := by
  cases k with
  | true =>
    obtain ⟨its, r, p, z⟩ := I.list h
    exact ⟨its, r, p.isList, z⟩
  | false =>
    obtain ⟨its, r, p, z⟩ := I.tuple h
    exact ⟨its, r, p, z⟩
theorem CN.lt {k : Bool} {a : Addr} {items : Array Value} {h : Heap} (x : CN k a items h) : a < h.objs.size := by
  cases k with
  | true => obtain ⟨o, e, _⟩ := x; exact Heap.lt_size e
  | false => obtain ⟨o, e, _⟩ := x; exact Heap.lt_size e
/-- rows of new tuples: turn i gives row i, while C stands -/
def ItN (n : Nat) (C : Hp → Prop) (row : Nat → List V) : It :=
  ⟨fun i H => i < n ∧ C H, fun i H v H' => ∃ T, v = .ref T ∧ H T = none ∧ H' = upd H T (.tup (row i)), fun i H => n ≤ i ∧ C H⟩
theorem newTup_ok {X : Cx} {pins : List (Addr × Obj)} {σ : Sg} {H : Hp} {s : Shared} {fp : List Addr} {T : Addr} {row : List V} {us : List Value} {h' : Heap} {tk : Nat} (I : Inv X pins σ H s) (hf : ∀ b ∈ fp, FpOk X pins H b)
    (hk : ∀ b o, b ∉ fp → s.heap.get? b = some o → h'.get? b = some o) (hT : s.heap.objs.size ≤ T) (hI : h'.IsTuple T us.toArray) (hl : row.length ≤ sizeLine) (r : Vals row us) :
    Inv X pins σ (upd H T (.tup row)) { s with heap := h', toks := tk } :=
  I.turnedNew (t' := tk) (ch := fp) hk hf hT ⟨hl, us, r, hI⟩

theorem turn_en {P : Program} {w : World} {K : PySem.W.Frag} {elts : List Expr} {kk : Nat} {tpos : Pos} {k : Bool} {a e it : Addr} {xs : List V} (hei : e ≠ it) :
    Turn P w K (.Tuple elts kk tpos) (ItN xs.length (fun H => SqA K H k a xs) fun i => [.int ((i : Nat) : Int), (xs[i]?).getD .non]) [e, it] e (fun i h => (∃ old, IsEnum h e it ((0 : Int) + (i : Nat)) old) ∧ ITr k it a i h) where
  mem := by simp
  obj := fun i h st b hb => by
    obtain ⟨⟨old, he⟩, hi⟩ := st
    rcases List.mem_cons.mp hb with q | hb
    · subst q; exact ⟨_, he, fun v q => nomatch q⟩
    · obtain rfl : b = it := List.mem_singleton.mp hb
      exact hi.obj
  keep := fun i h h' st k' => ⟨let ⟨old, he⟩ := st.1; ⟨old, k' e (by simp) _ he⟩, st.2.keep fun o q => k' it (by simp) o q⟩
  item := by
    intro X hP hw hK hc i pins s σ H E I hf st hg
    subst hP hw hK
    obtain ⟨hlt, hA⟩ := hg
    obtain ⟨its, rv, cn, hz⟩ := hA.cn I
    have hsz : its.toArray.size = xs.length := by rw [List.size_toArray]; exact rv.length.symm
    have ha : a ≠ e := fun z => by
      have := (hf e (by simp)).1
      subst z
      cases k with
      | true =>
        rcases hA with (q | ⟨o, q⟩) | ⟨o, _, _, q, _⟩
        · rw [this] at q; cases q
        · rw [this] at q; cases q
        · obtain ⟨o', e', d⟩ := let ⟨⟨old, he⟩, _⟩ := st; (⟨_, he, rfl⟩ : ∃ o, s.heap.get? a = some o ∧ o.cls = Value.type "enumerate")
          obtain ⟨o2, e2, c2, _⟩ := cn
          rw [e'] at e2; cases e2
          rw [d] at c2; exact absurd c2 (by decide)
      | false =>
        rcases hA with (q | ⟨o, q⟩) | ⟨o, _, _, q, _⟩
        · rw [this] at q; cases q
        · rw [this] at q; cases q
        · obtain ⟨o', e', d⟩ := let ⟨⟨old, he⟩, _⟩ := st; (⟨_, he, rfl⟩ : ∃ o, s.heap.get? a = some o ∧ o.cls = Value.type "enumerate")
          obtain ⟨o2, e2, c2, _⟩ := cn
          rw [e'] at e2; cases e2
          rw [d] at c2; exact absurd c2 (by decide)
    have hai : a ≠ it := fun z => by
      subst z
      obtain ⟨o, e1, _⟩ := st.2.obj
      cases k with
      | true =>
        obtain ⟨o1, q1, c1, _⟩ := st.2
        obtain ⟨o2, q2, c2, _⟩ := cn
        rw [q1] at q2; cases q2
        rw [c1] at c2; exact absurd c2 (by decide)
      | false =>
        obtain ⟨o1, q1, c1, _⟩ := st.2
        obtain ⟨o2, q2, c2, _⟩ := cn
        rw [q1] at q2; cases q2
        rw [c1] at c2; exact absurd c2 (by decide)
    have D := draws X.prog X.w X.A.in1 (I.ok.hd hc) k it a hai its.toArray
    have W := GoesN.enumFrom (elts := elts) (x1 := kk) (pos := tpos) 0 D e hei (by simp [hei, Ne.symm ha]) (by simp)
    refine W.goes i s _ E (by rw [hsz]; exact hlt) ⟨st.1, st.2, cn⟩ fun v h' tk hY st' hk htk => ?_
    obtain ⟨T, t, x, rfl, hT, hx, hI⟩ := hY
    have hx' : its[i]? = some x := by simpa using hx
    obtain ⟨y, hy⟩ : ∃ y, xs[i]? = some y := ⟨_, List.getElem?_eq_getElem hlt⟩
    obtain ⟨u, hu, ru⟩ := rv.get hy
    rw [hx'] at hu; cases hu
    have I1 := newTup_ok (us := [.int (0 + (i : Int)) t, x]) (row := [V.int ((i : Nat) : Int), (xs[i]?).getD .non]) (tk := tk) I hf (fun b o hb q => hk b o hb q) hT hI (by show 2 ≤ sizeLine; decide)
      (.cons ⟨t, by rw [Int.zero_add]⟩ (.cons (by rw [hy]; exact ru) .nil))
    refine ⟨.ref T, _, I1, rfl, ⟨T, rfl, I.hok.fresh hT, rfl⟩, ⟨st'.1, st'.2.1⟩, fun b hb => ?_⟩
    have hbl : b < s.heap.objs.size := by
      rcases List.mem_cons.mp hb with q | hb
      · subst q; obtain ⟨⟨old, he⟩, _⟩ := st; exact Heap.lt_size he
      · obtain rfl : b = it := List.mem_singleton.mp hb
        obtain ⟨o, e1, _⟩ := st.2.obj; exact Heap.lt_size e1
    rw [upd_ne (Nat.ne_of_lt (Nat.lt_of_lt_of_le hbl hT))]
    exact (hf b hb).1
  done := by
    intro X hP hw hK hc i pins s σ H E I hf st hg
    subst hP hw hK
    obtain ⟨hlt, hA⟩ := hg
    obtain ⟨its, rv, cn, hz⟩ := hA.cn I
    have hsz : its.length = xs.length := rv.length.symm
    obtain ⟨⟨old, he⟩, hi⟩ := st
    cases k with
    | true =>
      refine wpAny_pyNext_enum_endD (n := i) (fp := [it, a]) (P := fun j v => its.toArray[j]? = some v ∧ j < i) (St := fun j h => j = i ∧ h.IsListIter it a j ∧ h.IsList a its.toArray) ⟨?_, ?_, ?_, ?_⟩ he ⟨rfl, hi, cn⟩ fun h' hx => ⟨rfl, I.turnedL (t' := s.toks) (ch := [e, it]) (fun b o hb q => hx b o (fun z => hb (by simp [z])) q) hf⟩
      · exact fun _ _ st => let ⟨o, ho, _⟩ := st.2.1; ⟨o, ho⟩
      · exact fun _ _ _ st hk => ⟨st.1, st.2.1.at fun o e => hk it (by simp) o e, st.2.2.at fun o e => hk a (by simp) o e⟩
      · exact fun j _ _ _ hj st => absurd st.1 (Nat.ne_of_lt hj)
      · exact fun s' Q E' st hE => wpAny_nextOf_list_end (I.ok.hd hc) st.2.1 st.2.2 (by simp; omega) hE
    | false =>
      refine wpAny_pyNext_enum_endD (n := i) (fp := [it, a]) (P := fun j v => its.toArray[j]? = some v ∧ j < i) (St := fun j h => j = i ∧ h.IsTupleIter it a j ∧ h.IsTuple a its.toArray) ⟨?_, ?_, ?_, ?_⟩ he ⟨rfl, hi, cn⟩ fun h' hx => ⟨rfl, I.turnedL (t' := s.toks) (ch := [e, it]) (fun b o hb q => hx b o (fun z => hb (by simp [z])) q) hf⟩
      · exact fun _ _ st => let ⟨o, ho, _⟩ := st.2.1; ⟨o, ho⟩
      · exact fun _ _ _ st hk => ⟨st.1, st.2.1.at fun o e => hk it (by simp) o e, st.2.2.at fun o e => hk a (by simp) o e⟩
      · exact fun j _ _ _ hj st => absurd st.1 (Nat.ne_of_lt hj)
      · exact fun s' Q E' st hE => wpAny_nextOf_tuple_end (I.ok.hd hc) st.2.1 st.2.2 (by simp; omega) hE
  self := fun A i s Q E st h => let ⟨⟨old, he⟩, _⟩ := st; wpAny_pyIter_enum he h
/-- as ItN, its end at n alone -/
def ItZ (n : Nat) (C : Hp → Prop) (row : Nat → List V) : It :=
  ⟨fun i H => i < n ∧ C H, fun i H v H' => ∃ T, v = .ref T ∧ H T = none ∧ H' = upd H T (.tup (row i)), fun i H => i = n ∧ C H⟩
theorem turn_z2 {P : Program} {w : World} {K : PySem.W.Frag} {elts : List Expr} {kk N : Nat} {tpos : Pos} {k1 k2 : Bool} {a1 a2 : Addr} {x1 x2 : List V} (h1 : a1 < N) (h2 : a2 < N) :
    Turn P w K (.Tuple elts kk tpos) (ItZ (min x1.length x2.length) (fun H => SqA K H k1 a1 x1 ∧ SqA K H k2 a2 x2) fun i => [(x1[i]?).getD .non, (x2[i]?).getD .non]) [N + 4, N + 2, N + 3, N, N + 1] (N + 4) (fun i h => IsZip h (N + 4) (N + 2) (N + 3) .none ∧ IsTupOf2 h (N + 2) (.ref N) (.ref (N + 1)) ∧ (∃ b1 b2, IsTupOf2 h (N + 3) b1 b2) ∧ ITr k1 N a1 i h ∧ ITr k2 (N + 1) a2 i h) where
  mem := by simp
  obj := fun i h st b hb => by
    obtain ⟨hz, hT, ⟨c1, c2, hO⟩, q1, q2⟩ := st
    simp only [List.mem_cons, List.not_mem_nil, or_false] at hb
    rcases hb with e | e | e | e | e
    · rw [e]; exact ⟨_, hz, fun v q => nomatch q⟩
    · rw [e]; exact ⟨_, hT, fun v q => nomatch q⟩
    · rw [e]; exact ⟨_, hO, fun v q => nomatch q⟩
    · rw [e]; exact q1.obj
    · rw [e]; exact q2.obj
  keep := fun i h h' st k' => by
    obtain ⟨hz, hT, ⟨c1, c2, hO⟩, q1, q2⟩ := st
    exact ⟨k' _ (by simp) _ hz, k' _ (by simp) _ hT, ⟨c1, c2, k' _ (by simp) _ hO⟩, q1.keep fun o q => k' _ (by simp) o q, q2.keep fun o q => k' _ (by simp) o q⟩
  item := by
    intro X hP hw hK hc i pins s σ H E I hf st hg
    subst hP hw hK
    obtain ⟨hlt, hA1, hA2⟩ := hg
    obtain ⟨its1, rv1, cn1, hz1⟩ := hA1.cn I
    have hs1 : its1.toArray.size = x1.length := by rw [List.size_toArray]; exact rv1.length.symm
    have D1 := draws X.prog X.w X.A.in1 (I.ok.hd hc) k1 N a1 (Nat.ne_of_lt h1) its1.toArray
    obtain ⟨its2, rv2, cn2, hz2⟩ := hA2.cn I
    have hs2 : its2.toArray.size = x2.length := by rw [List.size_toArray]; exact rv2.length.symm
    have D2 := draws X.prog X.w X.A.in1 (I.ok.hd hc) k2 (N + 1) a2 (Nat.ne_of_lt (Nat.lt_of_lt_of_le h2 (Nat.le_add_right N 1))) its2.toArray
    have sub : ∀ {b : Addr}, b ∈ ([N + 4, N + 3, N, N + 1] : List Addr) → b ∈ ([N + 4, N + 2, N + 3, N, N + 1] : List Addr) := fun {b} z => by
      simp only [List.mem_cons, List.not_mem_nil, or_false] at z
      rcases z with e | e | e | e <;> simp [e]
    have W := GoesN.zip2 (elts := elts) (x1 := kk) (pos := tpos) (zip_sep2 (N := N) (fp1 := [a1]) (fp2 := [a2]) (fun b hb => by obtain rfl := List.mem_singleton.mp hb; exact h1) (fun b hb => by obtain rfl := List.mem_singleton.mp hb; exact h2)) D1 D2
    refine W.goes i s _ E (by rw [hs1, hs2]; exact hlt) ⟨st.1, st.2.1, st.2.2.1, ⟨st.2.2.2.1, cn1⟩, ⟨st.2.2.2.2, cn2⟩⟩ fun v h' tk hY st' hk htk => ?_
    obtain ⟨T, u1, u2, rfl, hT, hx1, hx2, hI⟩ := hY
    have hx1' : its1[i]? = some u1 := by simpa using hx1
    obtain ⟨y1, hy1⟩ : ∃ y, x1[i]? = some y := ⟨_, List.getElem?_eq_getElem (show i < x1.length by omega)⟩
    obtain ⟨w1, hw1, ru1⟩ := rv1.get hy1
    rw [hx1'] at hw1; cases hw1
    have hx2' : its2[i]? = some u2 := by simpa using hx2
    obtain ⟨y2, hy2⟩ : ∃ y, x2[i]? = some y := ⟨_, List.getElem?_eq_getElem (show i < x2.length by omega)⟩
    obtain ⟨w2, hw2, ru2⟩ := rv2.get hy2
    rw [hx2'] at hw2; cases hw2
    have I1 := newTup_ok (us := [u1, u2]) (row := [(x1[i]?).getD V.non, (x2[i]?).getD V.non]) (tk := tk) I hf (fun b o hb q => hk b o (fun z => hb (sub z)) q) hT hI (by show 2 ≤ sizeLine; decide)
      (.cons (by rw [hy1]; exact ru1) (.cons (by rw [hy2]; exact ru2) .nil))
    refine ⟨.ref T, _, I1, rfl, ⟨T, rfl, I.hok.fresh hT, rfl⟩, ⟨st'.1, st'.2.1, st'.2.2.1, st'.2.2.2.1.1, st'.2.2.2.2.1⟩, fun b hb => ?_⟩
    have hbl : b < s.heap.objs.size := by
      obtain ⟨hz, hT, ⟨c1, c2, hO⟩, q1, q2⟩ := st
      simp only [List.mem_cons, List.not_mem_nil, or_false] at hb
      rcases hb with e | e | e | e | e
      · rw [e]; exact Heap.lt_size hz
      · rw [e]; exact Heap.lt_size hT
      · rw [e]; exact Heap.lt_size hO
      · rw [e]; obtain ⟨o, e1, _⟩ := q1.obj; exact Heap.lt_size e1
      · rw [e]; obtain ⟨o, e1, _⟩ := q2.obj; exact Heap.lt_size e1
    rw [upd_ne (Nat.ne_of_lt (Nat.lt_of_lt_of_le hbl hT))]
    exact (hf b hb).1
  done := by
    intro X hP hw hK hc i pins s σ H E I hf st hg
    subst hP hw hK
    obtain ⟨hlt, hA1, hA2⟩ := hg
    subst hlt
    obtain ⟨its1, rv1, cn1, hz1⟩ := hA1.cn I
    have hs1 : its1.toArray.size = x1.length := by rw [List.size_toArray]; exact rv1.length.symm
    have D1 := draws X.prog X.w X.A.in1 (I.ok.hd hc) k1 N a1 (Nat.ne_of_lt h1) its1.toArray
    obtain ⟨its2, rv2, cn2, hz2⟩ := hA2.cn I
    have hs2 : its2.toArray.size = x2.length := by rw [List.size_toArray]; exact rv2.length.symm
    have D2 := draws X.prog X.w X.A.in1 (I.ok.hd hc) k2 (N + 1) a2 (Nat.ne_of_lt (Nat.lt_of_lt_of_le h2 (Nat.le_add_right N 1))) its2.toArray
    have sub : ∀ {b : Addr}, b ∈ ([N + 4, N + 3, N, N + 1] : List Addr) → b ∈ ([N + 4, N + 2, N + 3, N, N + 1] : List Addr) := fun {b} z => by
      simp only [List.mem_cons, List.not_mem_nil, or_false] at z
      rcases z with e | e | e | e <;> simp [e]
    have W := GoesN.zip2 (elts := elts) (x1 := kk) (pos := tpos) (zip_sep2 (N := N) (fp1 := [a1]) (fp2 := [a2]) (fun b hb => by obtain rfl := List.mem_singleton.mp hb; exact h1) (fun b hb => by obtain rfl := List.mem_singleton.mp hb; exact h2)) D1 D2
    refine W.stops s _ E (by rw [hs1, hs2]; exact ⟨st.1, st.2.1, st.2.2.1, ⟨st.2.2.2.1, cn1⟩, ⟨st.2.2.2.2, cn2⟩⟩) fun h' tk hk htk => ?_
    exact I.turnedL (fun b o hb q => hk b o (fun z => hb (sub z)) q) hf
  self := fun A i s Q E st h => wpAny_pyIter_zip st.1 h
theorem turn_z3 {P : Program} {w : World} {K : PySem.W.Frag} {elts : List Expr} {kk N : Nat} {tpos : Pos} {k1 k2 k3 : Bool} {a1 a2 a3 : Addr} {x1 x2 x3 : List V} (h1 : a1 < N) (h2 : a2 < N) (h3 : a3 < N) :
    Turn P w K (.Tuple elts kk tpos) (ItZ (min (min x1.length x2.length) x3.length) (fun H => SqA K H k1 a1 x1 ∧ SqA K H k2 a2 x2 ∧ SqA K H k3 a3 x3) fun i => [(x1[i]?).getD .non, (x2[i]?).getD .non, (x3[i]?).getD .non]) [N + 5, N + 3, N + 4, N, N + 1, N + 2] (N + 5) (fun i h => IsZip h (N + 5) (N + 3) (N + 4) .none ∧ IsTupOf3 h (N + 3) (.ref N) (.ref (N + 1)) (.ref (N + 2)) ∧ (∃ b1 b2 b3, IsTupOf3 h (N + 4) b1 b2 b3) ∧ ITr k1 N a1 i h ∧ ITr k2 (N + 1) a2 i h ∧ ITr k3 (N + 2) a3 i h) where
  mem := by simp
  obj := fun i h st b hb => by
    obtain ⟨hz, hT, ⟨c1, c2, c3, hO⟩, q1, q2, q3⟩ := st
    simp only [List.mem_cons, List.not_mem_nil, or_false] at hb
    rcases hb with e | e | e | e | e | e
    · rw [e]; exact ⟨_, hz, fun v q => nomatch q⟩
    · rw [e]; exact ⟨_, hT, fun v q => nomatch q⟩
    · rw [e]; exact ⟨_, hO, fun v q => nomatch q⟩
    · rw [e]; exact q1.obj
    · rw [e]; exact q2.obj
    · rw [e]; exact q3.obj
  keep := fun i h h' st k' => by
    obtain ⟨hz, hT, ⟨c1, c2, c3, hO⟩, q1, q2, q3⟩ := st
    exact ⟨k' _ (by simp) _ hz, k' _ (by simp) _ hT, ⟨c1, c2, c3, k' _ (by simp) _ hO⟩, q1.keep fun o q => k' _ (by simp) o q, q2.keep fun o q => k' _ (by simp) o q, q3.keep fun o q => k' _ (by simp) o q⟩
  item := by
    intro X hP hw hK hc i pins s σ H E I hf st hg
    subst hP hw hK
    obtain ⟨hlt, hA1, hA2, hA3⟩ := hg
    obtain ⟨its1, rv1, cn1, hz1⟩ := hA1.cn I
    have hs1 : its1.toArray.size = x1.length := by rw [List.size_toArray]; exact rv1.length.symm
    have D1 := draws X.prog X.w X.A.in1 (I.ok.hd hc) k1 N a1 (Nat.ne_of_lt h1) its1.toArray
    obtain ⟨its2, rv2, cn2, hz2⟩ := hA2.cn I
    have hs2 : its2.toArray.size = x2.length := by rw [List.size_toArray]; exact rv2.length.symm
    have D2 := draws X.prog X.w X.A.in1 (I.ok.hd hc) k2 (N + 1) a2 (Nat.ne_of_lt (Nat.lt_of_lt_of_le h2 (Nat.le_add_right N 1))) its2.toArray
    obtain ⟨its3, rv3, cn3, hz3⟩ := hA3.cn I
    have hs3 : its3.toArray.size = x3.length := by rw [List.size_toArray]; exact rv3.length.symm
    have D3 := draws X.prog X.w X.A.in1 (I.ok.hd hc) k3 (N + 2) a3 (Nat.ne_of_lt (Nat.lt_of_lt_of_le h3 (Nat.le_add_right N 2))) its3.toArray
    have sub : ∀ {b : Addr}, b ∈ ([N + 5, N + 4, N, N + 1, N + 2] : List Addr) → b ∈ ([N + 5, N + 3, N + 4, N, N + 1, N + 2] : List Addr) := fun {b} z => by
      simp only [List.mem_cons, List.not_mem_nil, or_false] at z
      rcases z with e | e | e | e | e <;> simp [e]
    have W := GoesN.zip3 (elts := elts) (x1 := kk) (pos := tpos) (zip_sep3 (N := N) (fp1 := [a1]) (fp2 := [a2]) (fp3 := [a3]) (fun b hb => by obtain rfl := List.mem_singleton.mp hb; exact h1) (fun b hb => by obtain rfl := List.mem_singleton.mp hb; exact h2) (fun b hb => by obtain rfl := List.mem_singleton.mp hb; exact h3)) D1 D2 D3
    refine W.goes i s _ E (by rw [hs1, hs2, hs3]; exact hlt) ⟨st.1, st.2.1, st.2.2.1, ⟨st.2.2.2.1, cn1⟩, ⟨st.2.2.2.2.1, cn2⟩, ⟨st.2.2.2.2.2, cn3⟩⟩ fun v h' tk hY st' hk htk => ?_
    obtain ⟨T, u1, u2, u3, rfl, hT, hx1, hx2, hx3, hI⟩ := hY
    have hx1' : its1[i]? = some u1 := by simpa using hx1
    obtain ⟨y1, hy1⟩ : ∃ y, x1[i]? = some y := ⟨_, List.getElem?_eq_getElem (show i < x1.length by omega)⟩
    obtain ⟨w1, hw1, ru1⟩ := rv1.get hy1
    rw [hx1'] at hw1; cases hw1
    have hx2' : its2[i]? = some u2 := by simpa using hx2
    obtain ⟨y2, hy2⟩ : ∃ y, x2[i]? = some y := ⟨_, List.getElem?_eq_getElem (show i < x2.length by omega)⟩
    obtain ⟨w2, hw2, ru2⟩ := rv2.get hy2
    rw [hx2'] at hw2; cases hw2
    have hx3' : its3[i]? = some u3 := by simpa using hx3
    obtain ⟨y3, hy3⟩ : ∃ y, x3[i]? = some y := ⟨_, List.getElem?_eq_getElem (show i < x3.length by omega)⟩
    obtain ⟨w3, hw3, ru3⟩ := rv3.get hy3
    rw [hx3'] at hw3; cases hw3
    have I1 := newTup_ok (us := [u1, u2, u3]) (row := [(x1[i]?).getD V.non, (x2[i]?).getD V.non, (x3[i]?).getD V.non]) (tk := tk) I hf (fun b o hb q => hk b o (fun z => hb (sub z)) q) hT hI (by show 3 ≤ sizeLine; decide)
      (.cons (by rw [hy1]; exact ru1) (.cons (by rw [hy2]; exact ru2) (.cons (by rw [hy3]; exact ru3) .nil)))
    refine ⟨.ref T, _, I1, rfl, ⟨T, rfl, I.hok.fresh hT, rfl⟩, ⟨st'.1, st'.2.1, st'.2.2.1, st'.2.2.2.1.1, st'.2.2.2.2.1.1, st'.2.2.2.2.2.1⟩, fun b hb => ?_⟩
    have hbl : b < s.heap.objs.size := by
      obtain ⟨hz, hT, ⟨c1, c2, c3, hO⟩, q1, q2, q3⟩ := st
      simp only [List.mem_cons, List.not_mem_nil, or_false] at hb
      rcases hb with e | e | e | e | e | e
      · rw [e]; exact Heap.lt_size hz
      · rw [e]; exact Heap.lt_size hT
      · rw [e]; exact Heap.lt_size hO
      · rw [e]; obtain ⟨o, e1, _⟩ := q1.obj; exact Heap.lt_size e1
      · rw [e]; obtain ⟨o, e1, _⟩ := q2.obj; exact Heap.lt_size e1
      · rw [e]; obtain ⟨o, e1, _⟩ := q3.obj; exact Heap.lt_size e1
    rw [upd_ne (Nat.ne_of_lt (Nat.lt_of_lt_of_le hbl hT))]
    exact (hf b hb).1
  done := by
    intro X hP hw hK hc i pins s σ H E I hf st hg
    subst hP hw hK
    obtain ⟨hlt, hA1, hA2, hA3⟩ := hg
    subst hlt
    obtain ⟨its1, rv1, cn1, hz1⟩ := hA1.cn I
    have hs1 : its1.toArray.size = x1.length := by rw [List.size_toArray]; exact rv1.length.symm
    have D1 := draws X.prog X.w X.A.in1 (I.ok.hd hc) k1 N a1 (Nat.ne_of_lt h1) its1.toArray
    obtain ⟨its2, rv2, cn2, hz2⟩ := hA2.cn I
    have hs2 : its2.toArray.size = x2.length := by rw [List.size_toArray]; exact rv2.length.symm
    have D2 := draws X.prog X.w X.A.in1 (I.ok.hd hc) k2 (N + 1) a2 (Nat.ne_of_lt (Nat.lt_of_lt_of_le h2 (Nat.le_add_right N 1))) its2.toArray
    obtain ⟨its3, rv3, cn3, hz3⟩ := hA3.cn I
    have hs3 : its3.toArray.size = x3.length := by rw [List.size_toArray]; exact rv3.length.symm
    have D3 := draws X.prog X.w X.A.in1 (I.ok.hd hc) k3 (N + 2) a3 (Nat.ne_of_lt (Nat.lt_of_lt_of_le h3 (Nat.le_add_right N 2))) its3.toArray
    have sub : ∀ {b : Addr}, b ∈ ([N + 5, N + 4, N, N + 1, N + 2] : List Addr) → b ∈ ([N + 5, N + 3, N + 4, N, N + 1, N + 2] : List Addr) := fun {b} z => by
      simp only [List.mem_cons, List.not_mem_nil, or_false] at z
      rcases z with e | e | e | e | e <;> simp [e]
    have W := GoesN.zip3 (elts := elts) (x1 := kk) (pos := tpos) (zip_sep3 (N := N) (fp1 := [a1]) (fp2 := [a2]) (fp3 := [a3]) (fun b hb => by obtain rfl := List.mem_singleton.mp hb; exact h1) (fun b hb => by obtain rfl := List.mem_singleton.mp hb; exact h2) (fun b hb => by obtain rfl := List.mem_singleton.mp hb; exact h3)) D1 D2 D3
    refine W.stops s _ E (by rw [hs1, hs2, hs3]; exact ⟨st.1, st.2.1, st.2.2.1, ⟨st.2.2.2.1, cn1⟩, ⟨st.2.2.2.2.1, cn2⟩, ⟨st.2.2.2.2.2, cn3⟩⟩) fun h' tk hk htk => ?_
    exact I.turnedL (fun b o hb q => hk b o (fun z => hb (sub z)) q) hf
  self := fun A i s Q E st h => wpAny_pyIter_zip st.1 h
end GH

namespace GH
open PySem PySem.Spec PyProof.Rows L2

theorem meets_enum1 {v : Value} {o : Obj} {C : Heap → Prop} (B : Begins v o C) :
    Meets (Builtin.«enumerate.__new__» ⟨[.type "enumerate", v], []⟩) (fun _ R s => C s.heap ∧
      R (.ok (.ret (.ref (s.heap.push o).objs.size))) { s with heap := (s.heap.push o).push { cls := .type "enumerate", data := .fields #[.none, .bool false, .ref s.heap.objs.size, rawInt 0, .none, .none] } }) :=
  .of_wp fun prog w A R s h => by
    obtain ⟨hp, g, d, tk, os⟩ := s
    obtain ⟨h1, h⟩ := h
    have hsub := sub_enumerate
    have q1 : ∀ {A2 : Around} {E2 : Value → Shared → Prop} {Q2 : Value → Shared → Prop}, Q2 (.ref hp.objs.size) ⟨hp.push o, g, d, tk, os⟩ → wpAny (model prog w) A2 (pyIter v) Q2 E2 ⟨hp, g, d, tk, os⟩ :=
      fun q => B.iter prog w _ _ ⟨hp, g, d, tk, os⟩ _ h1 q
    wp_walk using q1
    refine wpAny_stack_any fun st => wpAny_pure ?_
    split
    · rename_i c _ _ _ _ _
      cases (c == Value.type "enumerate")
      · wp_walk using q1
        exact ⟨_, rfl, h⟩
      · wp_walk using q1
        exact ⟨_, rfl, h⟩
    · wp_walk using q1
      exact ⟨_, rfl, h⟩
theorem enum1_begins {prog : Program} {w : World} {A : Around} {E : Value → Shared → Prop} {s : Shared} {v : Value} {o : Obj} {C : Heap → Prop} {Q : Value → Shared → Prop} (B : Begins v o C) (h1 : C s.heap)
    (h : ∀ h', IsEnum h' (s.heap.objs.size + 1) s.heap.objs.size 0 .none → h'.get? s.heap.objs.size = some o → (∀ b o2, s.heap.get? b = some o2 → h'.get? b = some o2) → Q (.ref (s.heap.objs.size + 1)) { s with heap := h' }) :
    wpAny (model prog w) A (call (.type "enumerate") [v]) Q E s := by
  refine callType_new F.called_enumerate (by decide) (F.typeCall_enumerate_1 _) (F.newCall_enumerate_1 _) (fun obj => F.args_object_init_2 obj _) F.entry_enumerate_new (meets_enum1 B) ⟨h1, ?_⟩
  have hz : (s.heap.push o).objs.size = s.heap.objs.size + 1 := Heap.size_push ..
  show _ ∧ _
  rw [hz]
  have he : IsEnum ((s.heap.push o).push { cls := .type "enumerate", data := .fields #[.none, .bool false, .ref s.heap.objs.size, rawInt 0, .none, .none] }) (s.heap.objs.size + 1) s.heap.objs.size 0 .none := by
    have q := Heap.get?_push_size (s.heap.push o) (o := { cls := .type "enumerate", data := .fields #[.none, .bool false, .ref s.heap.objs.size, rawInt 0, .none, .none] }) rfl
    rw [hz] at q; exact q
  exact ⟨⟨_, he, rfl⟩, h _ he (Heap.get?_push_of_some _ (Heap.get?_push_size _ B.free)) fun b o2 x => Heap.get?_push_of_some _ (Heap.get?_push_of_some _ x)⟩

def enumF : Nat → List D → List D
  | _, [] => []
  | i, d :: r => .tup [.int (i : Nat), d] :: enumF (i + 1) r
theorem enumF_get : ∀ (ds : List D) (k i : Nat), (enumF k ds)[i]? = ds[i]?.map fun d => .tup [.int ((k + i : Nat) : Int), d]
  | [], _, _ => by simp [enumF]
  | d :: r, k, 0 => by simp [enumF]
  | d :: r, k, i + 1 => by
    simp only [enumF, List.getElem?_cons_succ]
    rw [enumF_get r (k + 1) i]
    rw [show k + 1 + i = k + (i + 1) by omega]
theorem enumF_len : ∀ (ds : List D) (k : Nat), (enumF k ds).length = ds.length
  | [], _ => rfl
  | _ :: r, k => by simp [enumF, enumF_len r]
def zipF2 : List D → List D → List D
  | a :: as, b :: bs => .tup [a, b] :: zipF2 as bs
  | _, _ => []
def zipF3 : List D → List D → List D → List D
  | a :: as, b :: bs, c :: cs => .tup [a, b, c] :: zipF3 as bs cs
  | _, _, _ => []
theorem zipF2_len : ∀ (as bs : List D), (zipF2 as bs).length = min as.length bs.length
  | [], _ => by simp [zipF2]
  | _ :: _, [] => by simp [zipF2]
  | a :: as, b :: bs => by simp [zipF2, zipF2_len as bs]
theorem zipF2_get : ∀ {as bs : List D} {i : Nat} {d : D}, (zipF2 as bs)[i]? = some d → ∃ a b, as[i]? = some a ∧ bs[i]? = some b ∧ d = .tup [a, b]
  | [], _, _, _, h => by simp [zipF2] at h
  | _ :: _, [], _, _, h => by simp [zipF2] at h
  | a :: as, b :: bs, 0, d, h => by simp [zipF2] at h; exact ⟨a, b, rfl, rfl, h.symm⟩
  | a :: as, b :: bs, i + 1, d, h => by
    simp only [zipF2, List.getElem?_cons_succ] at h
    obtain ⟨x, y, h1, h2, h3⟩ := zipF2_get h
    exact ⟨x, y, by simpa using h1, by simpa using h2, h3⟩
theorem zipF3_len : ∀ (as bs cs : List D), (zipF3 as bs cs).length = min (min as.length bs.length) cs.length
  | [], _, _ => by simp [zipF3]
  | _ :: _, [], _ => by simp [zipF3]
  | _ :: _, _ :: _, [] => by simp [zipF3]
  | a :: as, b :: bs, c :: cs => by simp only [zipF3, List.length_cons, zipF3_len as bs cs]; omega
theorem zipF3_get : ∀ {as bs cs : List D} {i : Nat} {d : D}, (zipF3 as bs cs)[i]? = some d → ∃ a b c, as[i]? = some a ∧ bs[i]? = some b ∧ cs[i]? = some c ∧ d = .tup [a, b, c]
  | [], _, _, _, _, h => by simp [zipF3] at h
  | _ :: _, [], _, _, _, h => by simp [zipF3] at h
  | _ :: _, _ :: _, [], _, _, h => by simp [zipF3] at h
  | a :: as, b :: bs, c :: cs, 0, d, h => by simp [zipF3] at h; exact ⟨a, b, c, rfl, rfl, rfl, h.symm⟩
  | a :: as, b :: bs, c :: cs, i + 1, d, h => by
    simp only [zipF3, List.getElem?_cons_succ] at h
    obtain ⟨x, y, z, h1, h2, h3, h4⟩ := zipF3_get h
    exact ⟨x, y, z, by simpa using h1, by simpa using h2, by simpa using h3, h4⟩
/-- a list or a tuple: where it lies -/
theorem rp_seq {p : Addr} {W : AP} {H : Hp} {d : D} {v : V} {ds : List D} (r : Rp p W H d v) (h : seqD d = some ds) : ∃ k a vs o, v = .ref a ∧ ¬ W a ∧ H a = some o ∧ Rps p W H ds vs ∧ ∀ (K : PySem.W.Frag) (H' : Hp), H' a = some o → SqA K H' k a vs := by
  cases d <;> simp only [seqD] at h <;> cases h
  · obtain ⟨a, vs, rfl, n, ha, rs⟩ := rp_tup r
    exact ⟨false, a, vs, _, rfl, n, ha, rs, fun K H' h => SqT.of h⟩
  · obtain ⟨a, vs, rfl, n, ha, rs⟩ := rp_lst r
    exact ⟨true, a, vs, _, rfl, n, ha, rs, fun K H' h => SqL.of h⟩
theorem getD_rp {p : Addr} {W : AP} {H : Hp} {ds : List D} {vs : List V} {i : Nat} {d : D} (r : Rps p W H ds vs) (h : ds[i]? = some d) : Rp p W H d ((vs[i]?).getD .non) := by
  obtain ⟨v, h1, h2⟩ := r.get h
  rw [h1]; exact h2

section
variable {X : Cx} {e a b c : Expr} {elts : List Expr} {kk : Nat} {tpos p pos : Pos} {m ma mb mc : M D}
def iEnum (m : M D) : M (List D) := bnd m fun d => bnd (lift (seqD d)) fun ds => ret (enumF 0 ds)
theorem i_enum (hg : Gl X "enumerate") (hm : X.mg "enumerate" = none) (ha : SE X e m) (hn : starEach [e] X.env = (false, eval e X.env) :: starEach [] X.env := by rfl) (hs : starEach [e] X.env = [(false, eval e X.env)] := by rfl) :
    SI X (.Tuple elts kk tpos) (.Call (.Name "enumerate" p) [e] [] pos) (iEnum m) := ⟨fun B => ⟨fun pins sh σ H R I ⟨s, ds, s', k, ee, q⟩ => by
  refine Call_ (ld_blt I hg hm boot_enumerate (PyProof.Rows.callWith_type1 (thn ((pa_cons (ha.pe B) pa_nil hn).run pos pins sh σ H (fun vs H1 => ∃ v, vs = [v] ∧ ∃ d s1 es, StOk B σ H1 s1 ∧ Ev (B.W s.env σ) H (B.W s1.env σ) H1 ∧ Rp B.p (B.W s1.env σ) H1 d v ∧ seqD d = some es ∧ ds = enumF 0 es ∧ s' = s1) I ?_) fun us s1 ⟨vs, H1, I1, r1, q1⟩ => ?_) hs rfl))
  · refine tI.bind k ee fun d s1 v H1 h1 e1 k1 ev1 r1 => ?_
    obtain ⟨es, s2, e2, e3⟩ := bnd_some e1
    obtain ⟨e4, rfl⟩ := lift_some e2
    obtain ⟨rfl, rfl⟩ := ret_some e3
    exact ⟨v, rfl, d, _, es, k1, ev1, r1, e4, rfl, rfl⟩
  · obtain ⟨v, rfl, d, sx, es, k1, ev1, rv, hd, rfl, rfl⟩ := q1
    obtain ⟨u, rfl, ru⟩ := r1.one
    obtain ⟨kd, ad, vs, o, rfl, nw, hH, rs, fs⟩ := rp_seq rv hd
    cases ru
    obtain ⟨its, rvs, cn, hz⟩ := (fs X.K H1 hH).cn I1
    refine enum1_begins (beg kd ad its.toArray) cn fun h' he hit hk => wpAny_pyIter_enum he ?_
    have I2 : Inv X pins σ H1 { s1 with heap := h' } := I1.kept (t' := s1.toks) hk
    refine ⟨s1.heap.objs.size + 1, [s1.heap.objs.size + 1, s1.heap.objs.size], _, _, H1, rfl, I2, turn_en (k := kd) (a := ad) (xs := vs) (Nat.succ_ne_self _), ⟨⟨.none, he⟩, itO_at hit⟩, fun b hb => ?_, ?_⟩
    · simp only [List.mem_cons, List.not_mem_nil, or_false] at hb
      have hle : s1.heap.objs.size ≤ b := by
        rcases hb with z | z
        · rw [z]; exact Nat.le_add_right _ _
        · rw [z]; exact Nat.le_refl _
      exact I1.fpOk hle (I1.hok.fresh hle)
    · refine q _ H1 k1 ev1 fun W2 H2 ev wt => ?_
      have hH2 := (ev ad o hH nw).1
      have hlen := rs.length
      refine ⟨fun i hi => ⟨by rw [enumF_len] at hi; omega, fs _ _ hH2⟩, ⟨by rw [enumF_len]; omega, fs _ _ hH2⟩, fun i d' x H3 hd' y => ?_⟩
      obtain ⟨T, rfl, nT, rfl⟩ := y
      rw [enumF_get] at hd'
      obtain ⟨d0, h0, rfl⟩ := Option.map_eq_some_iff.mp hd'
      refine ⟨same_new nT, .newTup wt nT (.cons (by simpa using Rp.mkInt _) (.cons (getD_rp (rs.ev ev) h0) .nil))⟩⟩⟩
def iZip2 (ma mb : M D) : M (List D) := bnd ma fun a => bnd mb fun b => bnd (lift (seqD a)) fun as => bnd (lift (seqD b)) fun bs => ret (zipF2 as bs)
def iZip3 (ma mb mc : M D) : M (List D) := bnd ma fun a => bnd mb fun b => bnd mc fun c => bnd (lift (seqD a)) fun as => bnd (lift (seqD b)) fun bs => bnd (lift (seqD c)) fun cs => ret (zipF3 as bs cs)
theorem i_zip2 (hg : Gl X "zip") (hm : X.mg "zip" = none) (ha : SE X a ma) (hb : SE X b mb) (hn : starEach [a, b] X.env = (false, eval a X.env) :: starEach [b] X.env := by rfl) (hn2 : starEach [b] X.env = (false, eval b X.env) :: starEach [] X.env := by rfl)
    (hpl : (backTo pos (starEach [b] X.env)).any (·.1) = false := by rfl) : SI X (.Tuple elts kk tpos) (.Call (.Name "zip" p) [a, b] [] pos) (iZip2 ma mb) := ⟨fun B => ⟨fun pins sh σ H R I ⟨s, ds, s', k, ee, q⟩ => by
  refine Call_ (ld_blt I hg hm PyProof.Rows.boot_zip (PyProof.Rows.callWith_type1 (thn ((pa_cons (ha.pe B) (pa_cons (hb.pe B) pa_nil hn2) hn).run pos pins sh σ H (fun vs H1 => ∃ v1 v2, vs = [v1, v2] ∧ ∃ d1 d2 s1 es1 es2, StOk B σ H1 s1 ∧ Ev (B.W s.env σ) H (B.W s1.env σ) H1 ∧ Rp B.p (B.W s1.env σ) H1 d1 v1 ∧ Rp B.p (B.W s1.env σ) H1 d2 v2 ∧ seqD d1 = some es1 ∧ seqD d2 = some es2 ∧ ds = zipF2 es1 es2 ∧ s' = s1) I ?_) fun us s1 ⟨vs, H1, I1, r1, q1⟩ => ?_) hn hpl))
  · refine tI.bind k ee fun d1 s1 v1 H1 h1 e1 k1 ev1 r1 => ?_
    refine tI.bind k1 e1 fun d2 s2 v2 H2 h2 e2 k2 ev2 r2 => ?_
    obtain ⟨es1, s3, e3, e4⟩ := bnd_some e2
    obtain ⟨e5, rfl⟩ := lift_some e3
    obtain ⟨es2, s4, e6, e7⟩ := bnd_some e4
    obtain ⟨e8, rfl⟩ := lift_some e6
    obtain ⟨rfl, rfl⟩ := ret_some e7
    exact ⟨v1, v2, rfl, d1, d2, _, es1, es2, k2, ev1.trans ev2, r1.ev ev2, r2, e5, e8, rfl, rfl⟩
  · obtain ⟨v1, v2, rfl, d1, d2, sx, es1, es2, k1, ev1, rv1, rv2, hd1, hd2, rfl, rfl⟩ := q1
    obtain ⟨u1, u2, rfl, ru1, ru2⟩ := r1.two
    obtain ⟨kd1, a1, vs1, o1, rfl, nw1, hH1, rs1, fs1⟩ := rp_seq rv1 hd1
    obtain ⟨kd2, a2, vs2, o2, rfl, nw2, hH2, rs2, fs2⟩ := rp_seq rv2 hd2
    cases ru1
    cases ru2
    obtain ⟨its1, rvs1, cn1, hz1⟩ := (fs1 X.K H1 hH1).cn I1
    obtain ⟨its2, rvs2, cn2, hz2⟩ := (fs2 X.K H1 hH2).cn I1
    refine zip_begins2 (beg kd1 a1 its1.toArray) (beg kd2 a2 its2.toArray) cn1 cn2 fun h' hz hT hO i1 i2 hsz hk => wpAny_pyIter_zip hz ?_
    have I2 : Inv X pins σ H1 { s1 with heap := h' } := I1.kept (t' := s1.toks) hk
    refine ⟨s1.heap.objs.size + 4, _, _, _, H1, rfl, I2, turn_z2 (k1 := kd1) (k2 := kd2) (a1 := a1) (a2 := a2) (x1 := vs1) (x2 := vs2) cn1.lt cn2.lt, ⟨hz, hT, ⟨_, _, hO⟩, itO_at i1, itO_at i2⟩, fun b hb => ?_, ?_⟩
    · simp only [List.mem_cons, List.not_mem_nil, or_false] at hb
      have hle : s1.heap.objs.size ≤ b := by
        rcases hb with z | z | z | z | z <;> rw [z] <;> first | exact Nat.le_add_right _ _ | exact Nat.le_refl _
      exact I1.fpOk hle (I1.hok.fresh hle)
    · refine q _ H1 k1 ev1 fun W2 H2 ev wt => ?_
      have g1 := (ev a1 o1 hH1 nw1).1
      have g2 := (ev a2 o2 hH2 nw2).1
      have l1 := rs1.length
      have l2 := rs2.length
      refine ⟨fun i hi => ⟨by rw [zipF2_len] at hi; omega, fs1 _ _ g1, fs2 _ _ g2⟩, ⟨by rw [zipF2_len]; omega, fs1 _ _ g1, fs2 _ _ g2⟩, fun i d' x H3 hd' y => ?_⟩
      obtain ⟨T, rfl, nT, rfl⟩ := y
      obtain ⟨x1, x2, h1, h2, rfl⟩ := zipF2_get hd'
      exact ⟨same_new nT, .newTup wt nT (.cons (getD_rp (rs1.ev ev) h1) (.cons (getD_rp (rs2.ev ev) h2) .nil))⟩⟩⟩
theorem i_zip3 (hg : Gl X "zip") (hm : X.mg "zip" = none) (ha : SE X a ma) (hb : SE X b mb) (hc : SE X c mc) (hn : starEach [a, b, c] X.env = (false, eval a X.env) :: starEach [b, c] X.env := by rfl) (hn2 : starEach [b, c] X.env = (false, eval b X.env) :: starEach [c] X.env := by rfl)
    (hn3 : starEach [c] X.env = (false, eval c X.env) :: starEach [] X.env := by rfl)
    (hpl : (backTo pos (starEach [b, c] X.env)).any (·.1) = false := by rfl) : SI X (.Tuple elts kk tpos) (.Call (.Name "zip" p) [a, b, c] [] pos) (iZip3 ma mb mc) := ⟨fun B => ⟨fun pins sh σ H R I ⟨s, ds, s', k, ee, q⟩ => by
  refine Call_ (ld_blt I hg hm PyProof.Rows.boot_zip (PyProof.Rows.callWith_type1 (thn ((pa_cons (ha.pe B) (pa_cons (hb.pe B) (pa_cons (hc.pe B) pa_nil hn3) hn2) hn).run pos pins sh σ H (fun vs H1 => ∃ v1 v2 v3, vs = [v1, v2, v3] ∧ ∃ d1 d2 d3 s1 es1 es2 es3, StOk B σ H1 s1 ∧ Ev (B.W s.env σ) H (B.W s1.env σ) H1 ∧ Rp B.p (B.W s1.env σ) H1 d1 v1 ∧ Rp B.p (B.W s1.env σ) H1 d2 v2 ∧ Rp B.p (B.W s1.env σ) H1 d3 v3 ∧ seqD d1 = some es1 ∧ seqD d2 = some es2 ∧ seqD d3 = some es3 ∧ ds = zipF3 es1 es2 es3 ∧ s' = s1) I ?_) fun us s1 ⟨vs, H1, I1, r1, q1⟩ => ?_) hn hpl))
  · refine tI.bind k ee fun d1 s1 v1 H1 h1 e1 k1 ev1 r1 => ?_
    refine tI.bind k1 e1 fun d2 s2 v2 H2 h2 e2 k2 ev2 r2 => ?_
    refine tI.bind k2 e2 fun d3 s3 v3 H3 h3 e3 k3 ev3 r3 => ?_
    obtain ⟨es1, s4, e4, e5⟩ := bnd_some e3
    obtain ⟨e6, rfl⟩ := lift_some e4
    obtain ⟨es2, s5, e7, e8⟩ := bnd_some e5
    obtain ⟨e9, rfl⟩ := lift_some e7
    obtain ⟨es3, s6, e10, e11⟩ := bnd_some e8
    obtain ⟨e12, rfl⟩ := lift_some e10
    obtain ⟨rfl, rfl⟩ := ret_some e11
    exact ⟨v1, v2, v3, rfl, d1, d2, d3, _, es1, es2, es3, k3, (ev1.trans ev2).trans ev3, r1.ev (ev2.trans ev3), r2.ev ev3, r3, e6, e9, e12, rfl, rfl⟩
  · obtain ⟨v1, v2, v3, rfl, d1, d2, d3, sx, es1, es2, es3, k1, ev1, rv1, rv2, rv3, hd1, hd2, hd3, rfl, rfl⟩ := q1
    obtain ⟨kd1, a1, vs1, o1, rfl, nw1, hH1, rs1, fs1⟩ := rp_seq rv1 hd1
    obtain ⟨kd2, a2, vs2, o2, rfl, nw2, hH2, rs2, fs2⟩ := rp_seq rv2 hd2
    obtain ⟨kd3, a3, vs3, o3, rfl, nw3, hH3, rs3, fs3⟩ := rp_seq rv3 hd3
    cases r1 with
    | cons ru1 r1 =>
      cases r1 with
      | cons ru2 r1 =>
        cases r1 with
        | cons ru3 r1 =>
          cases r1
          cases ru1
          cases ru2
          cases ru3
          obtain ⟨its1, rvs1, cn1, hz1⟩ := (fs1 X.K H1 hH1).cn I1
          obtain ⟨its2, rvs2, cn2, hz2⟩ := (fs2 X.K H1 hH2).cn I1
          obtain ⟨its3, rvs3, cn3, hz3⟩ := (fs3 X.K H1 hH3).cn I1
          refine zip_begins3 (beg kd1 a1 its1.toArray) (beg kd2 a2 its2.toArray) (beg kd3 a3 its3.toArray) cn1 cn2 cn3 fun h' hz hT hO i1 i2 i3 hsz hk => wpAny_pyIter_zip hz ?_
          have I2 : Inv X pins σ H1 { s1 with heap := h' } := I1.kept (t' := s1.toks) hk
          refine ⟨s1.heap.objs.size + 5, _, _, _, H1, rfl, I2, turn_z3 (k1 := kd1) (k2 := kd2) (k3 := kd3) (a1 := a1) (a2 := a2) (a3 := a3) (x1 := vs1) (x2 := vs2) (x3 := vs3) cn1.lt cn2.lt cn3.lt, ⟨hz, hT, ⟨_, _, _, hO⟩, itO_at i1, itO_at i2, itO_at i3⟩, fun b hb => ?_, ?_⟩
          · simp only [List.mem_cons, List.not_mem_nil, or_false] at hb
            have hle : s1.heap.objs.size ≤ b := by
              rcases hb with z | z | z | z | z | z <;> rw [z] <;> first | exact Nat.le_add_right _ _ | exact Nat.le_refl _
            exact I1.fpOk hle (I1.hok.fresh hle)
          · refine q _ H1 k1 ev1 fun W2 H2 ev wt => ?_
            have g1 := (ev a1 o1 hH1 nw1).1
            have g2 := (ev a2 o2 hH2 nw2).1
            have g3 := (ev a3 o3 hH3 nw3).1
            have l1 := rs1.length
            have l2 := rs2.length
            have l3 := rs3.length
            refine ⟨fun i hi => ⟨by rw [zipF3_len] at hi; omega, fs1 _ _ g1, fs2 _ _ g2, fs3 _ _ g3⟩, ⟨by rw [zipF3_len]; omega, fs1 _ _ g1, fs2 _ _ g2, fs3 _ _ g3⟩, fun i d' x H3 hd' y => ?_⟩
            obtain ⟨T, rfl, nT, rfl⟩ := y
            obtain ⟨x1, x2, x3, h1, h2, h3, rfl⟩ := zipF3_get hd'
            exact ⟨same_new nT, .newTup wt nT (.cons (getD_rp (rs1.ev ev) h1) (.cons (getD_rp (rs2.ev ev) h2) (.cons (getD_rp (rs3.ev ev) h3) .nil)))⟩⟩⟩
end
end GH

namespace GH
open PySem PySem.Spec PyProof.Rows L2

theorem W_own {B : Bs} {env : List (Option Sl)} {σ : Sg} {i : Nat} {sl sl' : Sl} (hi : env[i]? = some (some sl)) (ho : sl.isOwn = true) (ho' : sl'.isOwn = true) (b : Addr) : B.W (env.set i (some sl')) σ b ↔ B.W env σ b := by
  have hlt : i < env.length := (List.getElem?_eq_some_iff.mp hi).1
  constructor
  · rintro (h | ⟨j, x, e1, e2, e3⟩)
    · exact .inl h
    · by_cases hj : i = j
      · subst hj
        exact .inr ⟨i, sl, hi, ho, e3⟩
      · rw [List.getElem?_set_ne hj] at e1
        exact .inr ⟨j, x, e1, e2, e3⟩
  · rintro (h | ⟨j, x, e1, e2, e3⟩)
    · exact .inl h
    · by_cases hj : i = j
      · subst hj
        exact .inr ⟨i, sl', List.getElem?_set_self hlt, ho', e3⟩
      · exact .inr ⟨j, x, by rw [List.getElem?_set_ne hj]; exact e1, e2, e3⟩
theorem StOk.wr {B : Bs} {σ : Sg} {H : Hp} {s : S} {i : Nat} {sl sl' : Sl} {a : Addr} {o : HO} (k : StOk B σ H s) (hi : s.env[i]? = some (some sl)) (ho : sl.isOwn = true) (ho' : sl'.isOwn = true) (ha : σ[i]? = some (some (.ref a)))
    (r : OwnR B.p (B.W s.env σ) H sl' o) : StOk B σ (upd H a o) { s with env := s.env.set i (some sl') } ∧ Ev (B.W s.env σ) H (B.W (s.env.set i (some sl')) σ) (upd H a o) := by
  have hlt : i < s.env.length := (List.getElem?_eq_some_iff.mp hi).1
  have wa : B.W s.env σ a := .inr ⟨i, sl, hi, ho, ha⟩
  obtain ⟨a', o', q1, q2, q3, q4, q5⟩ := k.own i sl hi ho
  rw [ha] at q1; cases q1
  have hp : a ≠ B.p := fun z => q5 (z ▸ k.wp)
  have hc : a ≠ B.c := fun z => q5 (z ▸ k.wcc)
  have ev : Ev (B.W s.env σ) H (B.W (s.env.set i (some sl')) σ) (upd H a o) := fun b x h n => by
    have : b ≠ a := fun z => n (z ▸ wa)
    exact ⟨by rw [upd_ne this]; exact h, fun z => n ((W_own hi ho ho' b).mp z)⟩
  refine ⟨⟨by simpa using k.len, fun j d' h => ?_, fun j x h h' => ?_, fun j1 j2 sl1 sl2 b h1 o1 h2 o2 q1 q2 => ?_, ⟨by rw [upd_ne (Ne.symm hp)]; exact k.src.d, by rw [upd_ne (Ne.symm hc)]; exact k.src.l⟩, fun b x e n1 n2 => ?_, fun b h => ?_, k.wp, k.wcc⟩, ev⟩
  · have h : (s.env.set i (some sl'))[j]? = _ := h
    by_cases hj : i = j
    · subst hj
      rw [List.getElem?_set_self hlt] at h
      cases h; cases ho'
    · rw [List.getElem?_set_ne hj] at h
      obtain ⟨v, h1, h2⟩ := k.val j d' h
      exact ⟨v, h1, h2.ev ev⟩
  · have h : (s.env.set i (some sl'))[j]? = _ := h
    by_cases hj : i = j
    · subst hj
      rw [List.getElem?_set_self hlt] at h
      cases h
      exact ⟨a, o, ha, upd_same, r.ev ev, q4, q5⟩
    · rw [List.getElem?_set_ne hj] at h
      obtain ⟨b, x', h1, h2, h3, h4⟩ := k.own j x h h'
      have : b ≠ a := fun z => hj (k.sep i j sl x a hi ho h h' ha (z ▸ h1))
      exact ⟨b, x', h1, by rw [upd_ne this]; exact h2, h3.ev ev, h4⟩
  · have h1 : (s.env.set i (some sl'))[j1]? = _ := h1
    have h2 : (s.env.set i (some sl'))[j2]? = _ := h2
    have g : ∀ (j : Nat) (x : Sl), (s.env.set i (some sl'))[j]? = some (some x) → x.isOwn = true → ∃ y : Sl, s.env[j]? = some (some y) ∧ y.isOwn = true := fun j x h hx => by
      by_cases hj : i = j
      · subst hj; exact ⟨sl, hi, ho⟩
      · rw [List.getElem?_set_ne hj] at h; exact ⟨x, h, hx⟩
    obtain ⟨y1, e1, e2⟩ := g j1 sl1 h1 o1
    obtain ⟨y2, e3, e4⟩ := g j2 sl2 h2 o2
    exact k.sep j1 j2 y1 y2 b e1 e2 e3 e4 q1 q2
  · have : b ≠ a := fun z => by subst z; rw [q4] at e; cases e
    rw [upd_ne this]; exact k.keep b x e n1 n2
  · by_cases z : b = a
    · subst z; exact ⟨o, upd_same, r.noTup⟩
    · rw [upd_ne z]; exact k.wc b h
/-- an own list's place -/
theorem StOk.ownL {B : Bs} {σ : Sg} {H : Hp} {s : S} {i : Nat} {ds : List D} (k : StOk B σ H s) (hi : s.env[i]? = some (some (.own ds))) : ∃ a vs, σ[i]? = some (some (.ref a)) ∧ H a = some (.lst vs) ∧ Rps B.p (B.W s.env σ) H ds vs := by
  obtain ⟨a, o, h1, h2, ⟨vs, rfl, h3⟩, h4, h5⟩ := k.own i _ hi rfl
  exact ⟨a, vs, h1, h2, h3⟩

def D.isFlat : D → Bool
  | .non => true
  | .bl _ => true
  | .int _ => true
  | .str _ => true
  | _ => false
theorem D.isFlat_rp {d : D} (h : d.isFlat = true) {p : Addr} {W W' : AP} {H H' : Hp} {v : V} (r : Rp p W H d v) : Rp p W' H' d v := by
  cases d <;> simp [D.isFlat] at h <;> simpa [Rp] using r
def Sl.bor : Sl → D
  | .val d => d
  | .own ds => .lst ds
  | .ownK ks ds => .dct ks ds
  | .ownT ks ds => .dtt ks ds
def borSl (t : Bool) : Option Sl → Option Sl
  | some (.val d) => some (.val d)
  | some sl => if t = true then some (.val sl.bor) else none
  | none => none
/-- the slots of `is` as values, the other own ones away -/
def borE (is : List Nat) (env : List (Option Sl)) : List (Option Sl) := env.mapIdx fun j x => borSl (is.contains j) x
def eBor (is : List Nat) (m : M D) : M D := fun s => match m ⟨borE is s.env, s.src⟩ with
  | some (d, s') => if d.isFlat = true then some (d, ⟨s.env, s'.src⟩) else none
  | none => none
def tBor (is : List Nat) (m : M Bool) : M Bool := fun s => match m ⟨borE is s.env, s.src⟩ with
  | some (d, s') => some (d, ⟨s.env, s'.src⟩)
  | none => none
/-- the base of a borrowing -/
def Bs.bor (B : Bs) (is : List Nat) (env : List (Option Sl)) (σ : Sg) (H : Hp) : Bs :=
  { B with Wc := fun b => B.W env σ b ∧ ¬ ∃ i sl, i ∈ is ∧ env[i]? = some (some sl) ∧ sl.isOwn = true ∧ σ[i]? = some (some (.ref b)), H0 := H }
theorem borE_get {is : List Nat} {env : List (Option Sl)} {j : Nat} {x : Sl} (h : (borE is env)[j]? = some (some x)) : (∃ d, x = .val d ∧ env[j]? = some (some (.val d))) ∨ (∃ sl, env[j]? = some (some sl) ∧ sl.isOwn = true ∧ j ∈ is ∧ x = .val sl.bor) := by
  unfold borE at h
  rw [List.getElem?_mapIdx] at h
  obtain ⟨y, h1, h2⟩ := Option.map_eq_some_iff.mp h
  cases y with
  | none => simp [borSl] at h2
  | some sl =>
    by_cases hj : is.contains j = true
    · have hm : j ∈ is := by simpa using hj
      rw [hj] at h2
      cases sl <;> simp only [borSl, if_pos] at h2 <;> cases h2
      · exact .inl ⟨_, rfl, h1⟩
      · exact .inr ⟨_, h1, rfl, hm, rfl⟩
      · exact .inr ⟨_, h1, rfl, hm, rfl⟩
      · exact .inr ⟨_, h1, rfl, hm, rfl⟩
    · have hf : is.contains j = false := by simpa using hj
      rw [hf] at h2
      cases sl <;> simp only [borSl, Bool.false_eq_true, if_false] at h2 <;> cases h2
      · exact .inl ⟨_, rfl, h1⟩
theorem StOk.bor {B : Bs} {σ : Sg} {H : Hp} {s : S} (k : StOk B σ H s) (is : List Nat) : StOk (B.bor is s.env σ H) σ H ⟨borE is s.env, s.src⟩ := by
  have noOwn : ∀ b, ¬ OwnA (borE is s.env) σ b := fun b ⟨i, sl, h1, h2, _⟩ => by
    rcases borE_get h1 with ⟨d, rfl, _⟩ | ⟨_, _, _, _, rfl⟩ <;> cases h2
  have sub : ∀ b, (B.bor is s.env σ H).W (borE is s.env) σ b → B.W s.env σ b := fun b hb => by
    rcases hb with hb | hb
    · exact hb.1
    · exact absurd hb (noOwn b)
  have fresh : ∀ (i : Nat) (sl : Sl) (b : Addr), s.env[i]? = some (some sl) → sl.isOwn = true → σ[i]? = some (some (.ref b)) → ¬ B.Wc b := fun i sl b h1 h2 h3 => by
    obtain ⟨b', o, q1, _, _, _, q5⟩ := k.own i sl h1 h2
    rw [h3] at q1; cases q1; exact q5
  refine ⟨by show (borE is s.env).length = _; unfold borE; rw [List.length_mapIdx]; exact k.len, fun i d h => ?_, fun i sl h ho => ?_, fun i j sl sl' a h ho => ?_, k.src, fun a o h _ _ => h, fun a h => k.wt a h.1,
    ⟨.inl k.wp, fun ⟨i, sl, _, h1, h2, h3⟩ => fresh i sl _ h1 h2 h3 k.wp⟩, ⟨.inl k.wcc, fun ⟨i, sl, _, h1, h2, h3⟩ => fresh i sl _ h1 h2 h3 k.wcc⟩⟩
  · rcases borE_get h with ⟨d', e, h1⟩ | ⟨sl, h1, ho, hm, e⟩
    · cases e
      obtain ⟨v, q1, q2⟩ := k.val i d h1
      exact ⟨v, q1, q2.ev (Ev.less sub)⟩
    · cases e
      obtain ⟨a, o, q1, q2, q3, q4, q5⟩ := k.own i sl h1 ho
      have na : ¬ (B.bor is s.env σ H).W (borE is s.env) σ a := by
        rintro (z | z)
        · exact z.2 ⟨i, sl, hm, h1, ho, q1⟩
        · exact noOwn a z
      refine ⟨_, q1, ?_⟩
      have q3' := OwnR.ev (Ev.less (H := H) sub) sl o q3
      cases sl with
      | val d => cases ho
      | own ds => obtain ⟨vs, rfl, r⟩ := q3'; exact .mkLst na q2 r
      | ownK ks ds => obtain ⟨kvs, rfl, r1, r⟩ := q3'; simp only [Sl.bor, Rp]; exact ⟨a, kvs, rfl, na, .inl q2, r1, r⟩
      | ownT ks ds => obtain ⟨kvs, rfl, r1, r⟩ := q3'; simp only [Sl.bor, Rp]; exact ⟨a, kvs, rfl, na, .inl q2, r1, r⟩
  · rcases borE_get h with ⟨d', e, h1⟩ | ⟨_, _, _, _, e⟩ <;> cases e <;> cases ho
  · rcases borE_get h with ⟨d', e, h1⟩ | ⟨_, _, _, _, e⟩ <;> cases e <;> cases ho
theorem StOk.unbor {B : Bs} {σ : Sg} {H H' : Hp} {s s' : S} {is : List Nat} (k : StOk B σ H s) (k' : StOk (B.bor is s.env σ H) σ H' s') : StOk B σ H' ⟨s.env, s'.src⟩ ∧ Ev (B.W s.env σ) H (B.W s.env σ) H' :=
  k.called (fun a o h n1 n2 => k'.keep a o h n1 n2) k'.src
section
variable {X : Cx} {e : Expr} {m : M D} {mt : M Bool} {is : List Nat}
theorem s_bor (h : SE X e m) : SE X e (eBor is m) := ⟨fun B => ⟨fun pins sh σ H Q I ⟨s, d, s', k, e, q⟩ => by
  unfold eBor at e
  split at e
  · rename_i d1 s1 em
    split at e
    · rename_i hd
      cases e
      refine (h.pe (B.bor is s.env σ H)).run pins sh σ H Q I ⟨_, d, s1, k.bor is, em, fun v H' k' ev r => ?_⟩
      obtain ⟨k2, ev2⟩ := k.unbor k'
      exact q v H' k2 ev2 (D.isFlat_rp hd r)
    · cases e
  · cases e⟩⟩
theorem t_bor (h : ST X e mt) : ST X e (tBor is mt) := ⟨fun B => ⟨fun pins sh σ H Q I ⟨s, d, s', k, e, q⟩ => by
  unfold tBor at e
  split at e
  · rename_i d1 s1 em
    cases e
    refine (h.pt (B.bor is s.env σ H)).run pins sh σ H Q I ⟨_, d, s1, k.bor is, em, fun H' k' ev => ?_⟩
    obtain ⟨k2, ev2⟩ := k.unbor k'
    exact q H' k2 ev2
  · cases e⟩⟩
end

section
variable {X : Cx} {e b : Expr} {es : List Expr} {x : Str} {i : Nat} {pos p apos cpos : Pos} {m mb : M D}
def ownIx (sl : Sl) (d : D) : Option D := match sl, d with
  | .own ds, .int j => atI ds j
  | .val (.lst ds), .int j => atI ds j
  | .val (.tup ds), .int j => atI ds j
  | _, _ => none
def eIxO (i : Nat) (mb : M D) : M D := fun s0 => match s0.env[i]? with
  | some (some _) => bnd mb (fun d s => match s.env[i]? with
    | some (some sl) => (match ownIx sl d with
      | some y => some (y, s)
      | none => none)
    | _ => none) s0
  | _ => none
theorem StOk.slot {B : Bs} {σ : Sg} {H : Hp} {s : S} {i : Nat} {sl : Sl} (k : StOk B σ H s) (hi : s.env[i]? = some (some sl)) : ∃ v, σ[i]? = some (some v) := by
  by_cases ho : sl.isOwn = true
  · obtain ⟨a, _, h, _⟩ := k.own i sl hi ho; exact ⟨_, h⟩
  · cases sl with
    | val d => obtain ⟨v, h, _⟩ := k.val i d hi; exact ⟨v, h⟩
    | own _ => exact absurd rfl ho
    | ownK _ _ => exact absurd rfl ho
    | ownT _ _ => exact absurd rfl ho
theorem s_ixO (hx : PE X (.Name x p) (tVar i)) (hb : SE X b mb) (hs : PlainIx b := by exact fun _ _ => rfl) : SE X (.Subscript (.Name x p) b pos) (eIxO i mb) := ⟨fun B => by
  refine PE.imp (pe_ix ix_seq hx (hb.pe B) hs) fun σ H Q ⟨s, d, s', k, e, q⟩ => ?_
  unfold eIxO at e
  split at e
  · rename_i sl0 h0
    obtain ⟨v, hv⟩ := k.slot h0
    refine ⟨v, hv, ?_⟩
    refine tI.bind k e fun dy s1 u H1 h1 e1 k1 ev1 r1 => ?_
    split at e1
    · rename_i sl hsl
      split at e1
      · rename_i y hy
        cases e1
        unfold ownIx at hy
        split at hy
        · obtain ⟨a, vs, q1, q2, q3⟩ := k1.ownL hsl
          rw [hv] at q1; cases q1
          obtain ⟨w, h2, h3⟩ := rps_atI q3 hy
          exact .inl ⟨a, vs, _, w, rfl, rp_int r1, SqL.of q2, h2, q _ H1 k1 ev1 h3⟩
        · obtain ⟨v', q1, q2⟩ := k1.val i _ hsl
          rw [hv] at q1; cases q1
          obtain ⟨a, vs, rfl, _, q2, q3⟩ := rp_lst q2
          obtain ⟨w, h2, h3⟩ := rps_atI q3 hy
          exact .inl ⟨a, vs, _, w, rfl, rp_int r1, SqL.of q2, h2, q _ H1 k1 ev1 h3⟩
        · obtain ⟨v', q1, q2⟩ := k1.val i _ hsl
          rw [hv] at q1; cases q1
          obtain ⟨a, vs, rfl, _, q2, q3⟩ := rp_tup q2
          obtain ⟨w, h2, h3⟩ := rps_atI q3 hy
          exact .inr (.inl ⟨a, vs, _, w, rfl, rp_int r1, SqT.of q2, h2, q _ H1 k1 ev1 h3⟩)
        · cases hy
      · cases e1
    · cases e1
  · cases e⟩
/-- the own list of slot i becomes f of it -/
def putL (i : Nat) (f : List D → Option (List D)) : M Unit := fun s => match s.env[i]? with
  | some (some (.own ds)) => (match f ds with
    | some ds' => some ((), ⟨s.env.set i (some (.own ds')), s.src⟩)
    | none => none)
  | _ => none
def ownHere (i : Nat) : M Unit := fun s => match s.env[i]? with
  | some (some (.own _)) => some ((), s)
  | _ => none
def appL (d : D) (ds : List D) : Option (List D) := if ds.length < sizeLine then some (ds ++ [d]) else none
def eApp (i : Nat) (m : M D) : M D := bnd (ownHere i) fun _ => bnd m fun d => bnd (putL i (appL d)) fun _ => ret .non
theorem own_here {i : Nat} {s s' : S} {u : Unit} (h : ownHere i s = some (u, s')) : s' = s ∧ ∃ ds, s.env[i]? = some (some (.own ds)) := by
  unfold ownHere at h
  split at h
  · rename_i ds hd; cases h; exact ⟨rfl, ds, hd⟩
  · cases h
theorem put_L {i : Nat} {f : List D → Option (List D)} {s s' : S} {u : Unit} (h : putL i f s = some (u, s')) : ∃ ds ds', s.env[i]? = some (some (.own ds)) ∧ f ds = some ds' ∧ s' = ⟨s.env.set i (some (.own ds')), s.src⟩ := by
  unfold putL at h
  split at h
  · rename_i ds hd
    split at h
    · rename_i ds' hf; cases h; exact ⟨ds, ds', hd, hf, rfl⟩
    · cases h
  · cases h
theorem s_append (hx : PE X (.Name x p) (tVar i)) (ha : SE X e m)
    (hbase : attributeBase (.Name x p) "append" X.env (eval (.Name x p) X.env) = eval (.Name x p) X.env := by rfl)
    (hfew : ((backTo cpos (starEach [e] X.env)).all (fun x => !x.1) && (backToKw cpos (keywordEach [] X.env)).all (fun x => x.1.isSome)
      && decide ([e].length + ([] : List Keyword).length + (if ([] : List Keyword).isEmpty then 0 else 1) < 30)) = true := by rfl)
    (hline : (apos.endLine == cpos.line) = true := by rfl) (hs : starEach [e] X.env = (false, eval e X.env) :: starEach [] X.env := by rfl) (hpl : (backTo cpos (starEach [] X.env)).any (·.1) = false := by rfl) :
    SE X (.Call (.Attribute (.Name x p) "append" apos) [e] [] cpos) (eApp i m) := ⟨fun B => by
  refine PE.imp (pe_bm PySem.F.plainAttrs_list PySem.F.slot_list_append PySem.F.type_list_append mt_append hx (pa_cons (ha.pe B) pa_nil hs) hbase hfew hline hs hpl) fun σ H Q ⟨s, d, s', k, e, q⟩ => ?_
  obtain ⟨_, s0, e0, e9⟩ := bnd_some e
  obtain ⟨rfl, ds0, h0⟩ := own_here e0
  obtain ⟨a, vs, q1, q2, q3⟩ := k.ownL h0
  refine ⟨_, q1, .inl ⟨rfl, vs, SqL.of q2⟩, ?_⟩
  refine tI.bind k e9 fun dy s1 u H1 h1 e1 k1 ev1 r1 => ?_
  obtain ⟨_, s2, e2, e3⟩ := bnd_some e1
  obtain ⟨ds, ds', hsl, hf, rfl⟩ := put_L e2
  obtain ⟨rfl, rfl⟩ := ret_some e3
  unfold appL at hf
  split at hf
  · rename_i hz
    cases hf
    obtain ⟨a', us, p1, p2, p3⟩ := k1.ownL hsl
    rw [q1] at p1; cases p1
    obtain ⟨k2, ev2⟩ := k1.wr (sl' := .own (ds ++ [dy])) (o := .lst (us ++ [u])) hsl rfl rfl q1 ⟨_, rfl, p3.append (.cons r1 .nil)⟩
    refine ⟨a, us, u, rfl, rfl, p2, by rw [← p3.length]; exact hz, q _ _ k2 (ev1.trans ev2) .mkNon⟩
  · cases hf⟩

def popL : List D → Option (D × List D)
  | ds => ds.getLast?.map fun d => (d, ds.dropLast)
def ePop (i : Nat) : M D := fun s => match s.env[i]? with
  | some (some (.own ds)) => (match popL ds with
    | some (d, ds') => some (d, ⟨s.env.set i (some (.own ds')), s.src⟩)
    | none => none)
  | _ => none
theorem rps_dropLast {p : Addr} {W : AP} {H : Hp} {ds : List D} {vs : List V} (r : Rps p W H ds vs) : Rps p W H ds.dropLast vs.dropLast := by
  rw [List.dropLast_eq_take, List.dropLast_eq_take, r.length]; exact r.take _
theorem s_pop (hx : PE X (.Name x p) (tVar i)) (hbase : attributeBase (.Name x p) "pop" X.env (eval (.Name x p) X.env) = eval (.Name x p) X.env := by rfl) (hline : (apos.endLine == cpos.line) = true := by rfl) :
    SE X (.Call (.Attribute (.Name x p) "pop" apos) [] [] cpos) (ePop i) := ⟨fun B => by
  refine PE.imp (pe_bm0 PySem.F.plainAttrs_list PySem.F.slot_list_pop PySem.F.type_list_pop mt_pop hx hbase hline) fun σ H Q ⟨s, d, s', k, e, q⟩ => ?_
  unfold ePop at e
  split at e
  · rename_i ds hsl
    split at e
    · rename_i d' ds' hf
      cases e
      unfold popL at hf
      obtain ⟨y, h1, h2⟩ := Option.map_eq_some_iff.mp hf
      cases h2
      obtain ⟨a, vs, q1, q2, q3⟩ := k.ownL hsl
      have hl : ds[ds.length - 1]? = some d := by rw [← List.getLast?_eq_getElem?]; exact h1
      obtain ⟨v, h3, h4⟩ := q3.get hl
      obtain ⟨k2, ev2⟩ := k.wr (sl' := .own ds.dropLast) (o := .lst vs.dropLast) hsl rfl rfl q1 ⟨_, rfl, rps_dropLast q3⟩
      exact ⟨_, q1, .inl ⟨rfl, vs, SqL.of q2⟩, a, vs, v, rfl, rfl, q2, by rw [← q3.length]; exact h3, q _ _ k2 ev2 (h4.ev ev2)⟩
    · cases e
  · cases e⟩
/-- x.pop(j) -/
def popAtL (d : D) (ds : List D) : Option (D × List D) := match d with
  | .int j => (ixN ds.length j).bind fun n => if ds.length ≤ sizeLine then ds[n]?.map fun y => (y, ds.eraseIdx n) else none
  | _ => none
def ePopAt (i : Nat) (m : M D) : M D := bnd (ownHere i) fun _ => bnd m fun d s => match s.env[i]? with
  | some (some (.own ds)) => (match popAtL d ds with
    | some (d, ds') => some (d, ⟨s.env.set i (some (.own ds')), s.src⟩)
    | none => none)
  | _ => none
theorem Rps.erase {p : Addr} {W : AP} {H : Hp} : ∀ {ds : List D} {vs : List V} (n : Nat), Rps p W H ds vs → Rps p W H (ds.eraseIdx n) (vs.eraseIdx n)
  | [], _, _, h => by simp only [Rps] at h; subst h; exact .nil
  | d :: ds, _, 0, h => by
    simp only [Rps] at h
    obtain ⟨v, r, rfl, h1, h2⟩ := h
    exact h2
  | d :: ds, _, n + 1, h => by
    simp only [Rps] at h
    obtain ⟨v, r, rfl, h1, h2⟩ := h
    exact .cons h1 (h2.erase n)
theorem s_popAt (hx : PE X (.Name x p) (tVar i)) (ha : SE X e m)
    (hbase : attributeBase (.Name x p) "pop" X.env (eval (.Name x p) X.env) = eval (.Name x p) X.env := by rfl)
    (hfew : ((backTo cpos (starEach [e] X.env)).all (fun x => !x.1) && (backToKw cpos (keywordEach [] X.env)).all (fun x => x.1.isSome)
      && decide ([e].length + ([] : List Keyword).length + (if ([] : List Keyword).isEmpty then 0 else 1) < 30)) = true := by rfl)
    (hline : (apos.endLine == cpos.line) = true := by rfl) (hs : starEach [e] X.env = (false, eval e X.env) :: starEach [] X.env := by rfl) (hpl : (backTo cpos (starEach [] X.env)).any (·.1) = false := by rfl) :
    SE X (.Call (.Attribute (.Name x p) "pop" apos) [e] [] cpos) (ePopAt i m) := ⟨fun B => by
  refine PE.imp (pe_bm PySem.F.plainAttrs_list PySem.F.slot_list_pop PySem.F.type_list_pop mt_popAt hx (pa_cons (ha.pe B) pa_nil hs) hbase hfew hline hs hpl) fun σ H Q ⟨s, d, s', k, e, q⟩ => ?_
  obtain ⟨_, s0, e0, e9⟩ := bnd_some e
  obtain ⟨rfl, ds0, h0⟩ := own_here e0
  obtain ⟨a, vs, q1, q2, q3⟩ := k.ownL h0
  refine ⟨_, q1, .inl ⟨rfl, vs, SqL.of q2⟩, ?_⟩
  refine tI.bind k e9 fun dy s1 u H1 h1 e1 k1 ev1 r1 => ?_
  split at e1
  · rename_i ds hsl
    split at e1
    · rename_i d' ds' hf
      cases e1
      unfold popAtL at hf
      split at hf
      · rename_i j
        obtain ⟨n, hn, hf⟩ := Option.bind_eq_some_iff.mp hf
        split at hf
        · rename_i hz
          obtain ⟨y, hy, e2⟩ := Option.map_eq_some_iff.mp hf
          cases e2
          obtain ⟨a', us, p1, p2, p3⟩ := k1.ownL hsl
          rw [q1] at p1; cases p1
          obtain ⟨w, h3, h4⟩ := p3.get hy
          obtain ⟨k2, ev2⟩ := k1.wr (sl' := .own (ds.eraseIdx n)) (o := .lst (us.eraseIdx n)) hsl rfl rfl q1 ⟨_, rfl, p3.erase n⟩
          obtain ⟨z1, z2, z3, z4⟩ := ixN_seq hn
          have hs := line63
          exact ⟨a, us, j, n, w, rfl, by rw [rp_int r1], p2, by omega, by omega, by rw [← p3.length]; exact z1, h3, q _ _ k2 (ev1.trans ev2) (h4.ev ev2)⟩
        · cases hf
      · cases hf
    · cases e1
  · cases e1⟩
/-- x[j] = e -/
def setL (dy d : D) (ds : List D) : Option (List D) := match dy with
  | .int j => (ixN ds.length j).map fun n => ds.set n d
  | _ => none
def sSetIx (i : Nat) (me mb : M D) : M Out := bnd me fun d => bnd (ownHere i) fun _ => bnd mb fun dy => bnd (putL i (setL dy d)) fun _ => ret .nx
theorem s_setIx {tpos : Pos} {me : M D} (hx : PE X (.Name x p) (tVar i)) (hb : SE X b mb) (he : SE X e me) (hs : swapsWithSole [.Subscript (.Name x p) b tpos] e pos.line X.env = pure false := by rfl) (hw : swappedStores [.Subscript (.Name x p) b tpos] e X.env = pure none := by rfl)
    (h1 : (assignEach [.Subscript (.Name x p) b tpos] X.env).map (·.2) = [assign (.Subscript (.Name x p) b tpos) X.env] := by rfl)
    (ha : ∀ v, assign (.Subscript (.Name x p) b tpos) X.env v = (do
      let ov ← holding [v] (eval (.Name x p) X.env)
      let iv ← holding [v, ov] (eval b X.env)
      standAt tpos
      holding [v, ov, iv] (setItem ov iv v)
      release [v, ov, iv] []) := by intro _; rfl) : SS X (.Assign [.Subscript (.Name x p) b tpos] e pos) (sSetIx i me mb) := ⟨fun B => by
  refine PS.imp (ps_asg (he.pe B) (pg_sub hx (hb.pe B) set_list ha) hs hw h1) fun D σ H ⟨s, o, s', k, e, q⟩ => ?_
  refine tI.bind k e fun d s1 v H1 h1 e1 k1 ev1 r1 => ?_
  obtain ⟨_, s0, e0, e9⟩ := bnd_some e1
  obtain ⟨rfl, ds0, h0⟩ := own_here e0
  obtain ⟨a, vs, q1, q2, q3⟩ := k1.ownL h0
  refine ⟨_, q1, ?_⟩
  refine tI.bind k1 e9 fun dy s2 u H2 h2 e2 k2 ev2 r2 => ?_
  obtain ⟨_, s3, e3, e4⟩ := bnd_some e2
  obtain ⟨ds, ds', hsl, hf, rfl⟩ := put_L e3
  obtain ⟨rfl, rfl⟩ := ret_some e4
  unfold setL at hf
  split at hf
  · rename_i j
    obtain ⟨n, hn, rfl⟩ := Option.map_eq_some_iff.mp hf
    obtain ⟨a', us, p1, p2, p3⟩ := k2.ownL hsl
    rw [q1] at p1; cases p1
    obtain ⟨k3, ev3⟩ := k2.wr (sl' := .own (ds.set n d)) (o := .lst (us.set n v)) hsl rfl rfl q1 ⟨_, rfl, p3.set n (r1.ev ev2)⟩
    exact ⟨a, us, j, n, rfl, by rw [rp_int r2], p2, by rw [← p3.length]; exact hn, q σ _ k3 (ev1.trans (ev2.trans ev3))⟩
  · cases hf⟩
/-- x[j] op= e -/
def rGetL : V → V → Hp → VK → Prop := fun o i H Q => ∃ p xs k j v, o = .ref p ∧ i = .int k ∧ H p = some (.lst xs) ∧ ixN xs.length k = some j ∧ xs[j]? = some v ∧ Q v H
theorem get_list : PGet X rGetL := by
  intro pins s σ H o i ov iv Q I ro ri h
  obtain ⟨p, xs, k, j, z, rfl, rfl, hp, hj, hz, q⟩ := h
  cases ro
  obtain ⟨t, rfl⟩ := ri
  obtain ⟨its, n, r, ho, hsz⟩ := I.lst hp
  obtain ⟨h1, h2, h3, h4⟩ := ixN_seq hj
  obtain ⟨w, ew, rw'⟩ := r.get hz
  have hl := r.length
  have hn := line63
  have fin : EP X pins σ Q w s := ⟨z, H, I, rw', q⟩
  have hL : s.heap.IsList p its.toArray := ⟨_, ho, rfl, _, rfl⟩
  by_cases h0 : 0 ≤ k
  · have hk : k.toNat = j := by
      rw [seqIndex_of h0 h4] at h1
      exact Option.some.inj h1
    exact wpAny_getItem_list hL h0 (by omega) (by rw [hk]; simpa using ew) fin
  · have hk : (k + (its.toArray.size : Int)).toNat = j := by
      rw [seqIndex_neg (by omega) h3] at h1
      rw [List.size_toArray, ← hl]
      exact Option.some.inj h1
    exact wpAny_getItem_list_neg hL (by omega) (by rw [List.size_toArray] <;> omega) (by omega) (by rw [hk]; simpa using ew) fin
def ownGet (i : Nat) (dy : D) : M D := fun s => match s.env[i]? with
  | some (some (.own ds)) => (match dy with
    | .int j => (match atI ds j with
      | some y => some (y, s)
      | none => none)
    | _ => none)
  | _ => none
theorem own_get {i : Nat} {dy y : D} {s s' : S} (h : ownGet i dy s = some (y, s')) : s' = s ∧ ∃ ds j, s.env[i]? = some (some (.own ds)) ∧ dy = .int j ∧ atI ds j = some y := by
  unfold ownGet at h
  split at h
  · rename_i ds hd
    split at h
    · rename_i j
      split at h
      · rename_i z hz; cases h; exact ⟨rfl, ds, j, hd, rfl, hz⟩
      · cases h
    · cases h
  · cases h
def augI (f : Int → Int → Int) : D → D → Option D
  | .int x, .int y => some (.int (f x y))
  | _, _ => none
def sAugIx (i : Nat) (f : Int → Int → Int) (mb me : M D) : M Out := bnd (ownHere i) fun _ => bnd mb fun dy => bnd (ownGet i dy) fun old => bnd me fun d => bnd (lift (augI f old d)) fun z => bnd (putL i (setL dy z)) fun _ => ret .nx
theorem augI_some {f : Int → Int → Int} {x y z : D} (h : augI f x y = some z) : ∃ i j, x = .int i ∧ y = .int j ∧ z = .int (f i j) := by
  unfold augI at h
  split at h
  · cases h; exact ⟨_, _, rfl, rfl, rfl⟩
  · cases h
theorem s_augIx {op : Operator} {f : Int → Int → Int} {tpos : Pos} {me : M D} (hx : PE X (.Name x p) (tVar i)) (hb : SE X b mb) (he : SE X e me) (ho : PIp X op (ipI f))
    (ha : ∀ ov iv new, augStore b ov iv new = (do holding [new, ov, iv] (setItem ov iv new); release [new, ov, iv] []; pure .next) := by intros; rfl) : SS X (.AugAssign (.Subscript (.Name x p) b tpos) op e pos) (sAugIx i f mb me) := ⟨fun B => by
  refine PS.imp (ps_augS hx (hb.pe B) get_list (he.pe B) ho set_list ha) fun D σ H ⟨s, o, s', k, e, q⟩ => ?_
  obtain ⟨_, s0, e0, e9⟩ := bnd_some e
  obtain ⟨rfl, ds0, h0⟩ := own_here e0
  obtain ⟨a, vs, q1, q2, q3⟩ := k.ownL h0
  refine ⟨_, q1, ?_⟩
  refine tI.bind k e9 fun dy s1 u H1 h1 e1 k1 ev1 r1 => ?_
  obtain ⟨old, s2, e2, e3⟩ := bnd_some e1
  obtain ⟨rfl, ds, j, hsl, rfl, hy⟩ := own_get e2
  obtain ⟨a', us, p1, p2, p3⟩ := k1.ownL hsl
  rw [q1] at p1; cases p1
  unfold atI at hy
  obtain ⟨n, hn, hy⟩ := Option.bind_eq_some_iff.mp hy
  obtain ⟨w, h3, h4⟩ := p3.get hy
  refine ⟨a, us, j, n, w, rfl, rp_int r1, p2, by rw [← p3.length]; exact hn, h3, ?_⟩
  refine tI.bind k1 e3 fun d s3 v H3 h5 e5 k3 ev3 r3 => ?_
  obtain ⟨z, s4, e6, e7⟩ := bnd_some e5
  obtain ⟨e11, rfl⟩ := lift_some e6
  obtain ⟨xi, yi, rfl, rfl, rfl⟩ := augI_some e11
  obtain ⟨_, s5, e8, e10⟩ := bnd_some e7
  obtain ⟨ds3, ds', hsl3, hf, rfl⟩ := put_L e8
  obtain ⟨rfl, rfl⟩ := ret_some e10
  unfold setL at hf
  obtain ⟨n', hn', rfl⟩ := Option.map_eq_some_iff.mp hf
  obtain ⟨a', us3, g1, g2, g3⟩ := k3.ownL hsl3
  rw [q1] at g1; cases g1
  obtain ⟨k4, ev4⟩ := k3.wr (sl' := .own (ds3.set n' (.int (f xi yi)))) (o := .lst (us3.set n' (.int (f xi yi)))) hsl3 rfl rfl q1 ⟨_, rfl, g3.set n' (.mkInt _)⟩
  exact ⟨xi, yi, rp_int h4, rp_int r3, a, us3, j, n', rfl, rp_int r1, g2, by rw [← g3.length]; exact hn', q σ _ k4 (ev1.trans (ev3.trans ev4))⟩⟩
end
end GH

namespace GH
open PySem PySem.Spec PyProof.Rows L2

def PendR (σ : Sg) (H : Hp) (s : S) (Bf : Bs) : Bs → List Sl → List V → Prop
  | B, [], vs => vs = [] ∧ Bf = B
  | B, .val d :: r, vs => ∃ v t, vs = v :: t ∧ Rp Bf.p (Bf.W s.env σ) H d v ∧ PendR σ H s Bf B r t
  | B, sl :: r, vs => ∃ a o t, vs = .ref a :: t ∧ B.H0 a = none ∧ ¬ B.Wc a ∧ OwnR Bf.p (Bf.W s.env σ) H sl o ∧ PendR σ H s Bf (B.plusO a o) r t
/-- what each base under the new lists keeps -/
theorem PendR.base {σ : Sg} {H : Hp} {s : S} {Bf : Bs} : ∀ {l : List Sl} {B : Bs} {us : List V}, PendR σ H s Bf B l us → Bf.p = B.p ∧ Bf.c = B.c ∧ (∀ b o, B.H0 b = some o → Bf.H0 b = some o) ∧ (∀ b, B.Wc b → Bf.Wc b)
  | [], _, _, h => by rw [h.2]; exact ⟨rfl, rfl, fun _ _ z => z, fun _ z => z⟩
  | .val _ :: _, _, _, ⟨_, _, _, _, h⟩ => h.base
  | .own _ :: _, B, _, ⟨a, us, _, _, n, _, _, h⟩ => let ⟨h1, h2, h3, h4⟩ := h.base; ⟨h1, h2, fun b o z => h3 b o (by
      show upd B.H0 a _ b = _
      rw [upd_ne (ne_of_none z n)]; exact z), fun b z => h4 b (.inl z)⟩
  | .ownK _ _ :: _, B, _, ⟨a, us, _, _, n, _, _, h⟩ => let ⟨h1, h2, h3, h4⟩ := h.base; ⟨h1, h2, fun b o z => h3 b o (by
      show upd B.H0 a _ b = _
      rw [upd_ne (ne_of_none z n)]; exact z), fun b z => h4 b (.inl z)⟩
  | .ownT _ _ :: _, B, _, ⟨a, us, _, _, n, _, _, h⟩ => let ⟨h1, h2, h3, h4⟩ := h.base; ⟨h1, h2, fun b o z => h3 b o (by
      show upd B.H0 a _ b = _
      rw [upd_ne (ne_of_none z n)]; exact z), fun b z => h4 b (.inl z)⟩
theorem StOk.pin {B : Bs} {σ : Sg} {H : Hp} {s : S} {a : Addr} {o : HO} (k : StOk (B.plus a) σ H s) (h : H a = some o) : StOk (B.plusO a o) σ H s where
  len := k.len
  val := k.val
  own := fun i sl h ho => by
    obtain ⟨b, x, q1, q2, q3, q4, q5⟩ := k.own i sl h ho
    exact ⟨b, x, q1, q2, q3, by show upd B.H0 a o b = none; rw [upd_ne (fun z => q5 (.inr z))]; exact q4, q5⟩
  sep := k.sep
  src := k.src
  keep := fun b x e n1 n2 => by
    have e : upd B.H0 a o b = some x := e
    by_cases z : b = a
    · subst z; rw [upd_same] at e; cases e; exact h
    · rw [upd_ne z] at e; exact k.keep b x e n1 n2
  wc := k.wc
  wp := k.wp
  wcc := k.wcc
def tP (B : Bs) (m : M (List Sl)) : TA := fun σ H Q => ∃ s sls s', StOk B σ H s ∧ m s = some (sls, s') ∧
  ∀ vs H' Bf, StOk Bf σ H' s' → Ev (B.W s.env σ) H (Bf.W s'.env σ) H' → PendR σ H' s' Bf B sls vs → Q vs H'
structure SP (X : Cx) (es : List Expr) (m : M (List Sl)) : Prop where
  pa : ∀ B, PA X es (tP B m)
def pNil : M (List Sl) := ret []
def pVal (m : M D) (ms : M (List Sl)) : M (List Sl) := bnd m fun d => bnd ms fun r => ret (.val d :: r)
def pOwn (ml : M (List D)) (ms : M (List Sl)) : M (List Sl) := bnd ml fun ds => bnd ms fun r => ret (.own ds :: r)
section
variable {X : Cx} {e : Expr} {es : List Expr} {m : M D} {ml : M (List D)} {ms : M (List Sl)}
theorem p_nil : SP X [] pNil := ⟨fun B => PA.imp pa_nil fun σ H Q ⟨s, d, s', k, e, q⟩ => by
  obtain ⟨rfl, rfl⟩ := ret_some e
  exact q [] H B k Ev.refl ⟨rfl, rfl⟩⟩
theorem p_val (ha : SE X e m) (hr : SP X es ms) (hs : starEach (e :: es) X.env = (false, eval e X.env) :: starEach es X.env := by rfl) : SP X (e :: es) (pVal m ms) :=
  ⟨fun B => PA.imp (pa_cons (ha.pe B) (hr.pa B) hs) fun σ H Q ⟨s, d, s', k, e, q⟩ => by
    refine tI.bind k e fun dx s1 x H1 h1 e1 k1 ev1 r1 => ?_
    obtain ⟨r, s2, e2, e3⟩ := bnd_some e1
    obtain ⟨rfl, rfl⟩ := ret_some e3
    refine ⟨s1, r, s', k1, e2, fun vs H' Bf k2 ev2 pr => q _ H' Bf k2 (ev1.trans ev2) ⟨x, vs, rfl, ?_, pr⟩⟩
    rw [pr.base.1]
    exact r1.ev ev2⟩
theorem p_own (ha : SL X e ml) (hr : SP X es ms) (hs : starEach (e :: es) X.env = (false, eval e X.env) :: starEach es X.env := by rfl) : SP X (e :: es) (pOwn ml ms) :=
  ⟨fun B => ⟨fun pos pins sh σ H Q I h => by
    -- the base of what follows hangs on the new list's address
    refine (pa_cons (t := fun σ H Q => ∃ B', tP B' ms σ H Q) (ha.pe B) ⟨fun pos pins sh σ H Q I ⟨B', h⟩ => (hr.pa B').run pos pins sh σ H Q I h⟩ hs).run pos pins sh σ H Q I ?_
    obtain ⟨s, d, s', k, e, q⟩ := h
    obtain ⟨ds, s1, e1, e2⟩ := bnd_some e
    refine ⟨s, ds, s1, k, e1, fun a vs H1 k1 ev1 n nw hA r1 => ?_⟩
    obtain ⟨r, s2, e3, e4⟩ := bnd_some e2
    obtain ⟨rfl, rfl⟩ := ret_some e4
    refine ⟨B.plusO a (.lst vs), s1, r, s', k1.pin hA, e3, fun us H' Bf k2 ev2 pr => q _ H' Bf k2 (Ev.trans ev1 ev2) ⟨a, .lst vs, us, rfl, n, fun z => nw (.inl z), ⟨vs, rfl, ?_⟩, pr⟩⟩
    rw [pr.base.1]
    exact Rps.ev ev2 _ _ r1⟩⟩

def putAll : List Nat → List Sl → List (Option Sl) → Option (List (Option Sl))
  | [], [], env => some env
  | i :: is, sl :: r, env => if i < env.length then (putAll is r env).map fun env' => env'.set i (some sl) else none
  | _, _, _ => none
def setAll : List Nat → List V → Sg → Sg
  | i :: is, v :: vs, σ => (setAll is vs σ).set i (some v)
  | _, _, σ => σ
theorem putAll_len : ∀ {is : List Nat} {l : List Sl} {env env' : List (Option Sl)}, putAll is l env = some env' → env'.length = env.length
  | [], [], _, _, h => by cases h; rfl
  | i :: is, sl :: r, env, env', h => by
    unfold putAll at h
    split at h
    · obtain ⟨e1, h1, rfl⟩ := Option.map_eq_some_iff.mp h
      rw [List.length_set, putAll_len h1]
    · cases h
  | [], _ :: _, _, _, h => by simp [putAll] at h
  | _ :: _, [], _, _, h => by simp [putAll] at h
theorem put_all1 {σ : Sg} {H : Hp} {s : S} {Bf : Bs} (kf : StOk Bf σ H s) {is : List Nat} {r : List Sl} {B : Bs} {us t : List V} {env' : List (Option Sl)} {i : Nat} {sl : Sl} {a : Addr} {o : HO} (ho : sl.isOwn = true) (e0 : us = .ref a :: t) (n : B.H0 a = none) (nc : ¬ B.Wc a) (r1 : OwnR Bf.p (Bf.W s.env σ) H sl o)
    (ih : ∀ e1, putAll is r s.env = some e1 → StOk (B.plusO a o) (setAll is t σ) H ⟨e1, s.src⟩ ∧ Ev (Bf.W s.env σ) H ((B.plusO a o).W e1 (setAll is t σ)) H)
    (hb : Bf.p = (B.plusO a o).p ∧ Bf.c = (B.plusO a o).c ∧ (∀ b x, (B.plusO a o).H0 b = some x → Bf.H0 b = some x) ∧ (∀ b, (B.plusO a o).Wc b → Bf.Wc b)) (wp : B.Wc B.p) (wc : B.Wc B.c) (e : putAll (i :: is) (sl :: r) s.env = some env') :
    StOk B (setAll (i :: is) us σ) H ⟨env', s.src⟩ ∧ Ev (Bf.W s.env σ) H (B.W env' (setAll (i :: is) us σ)) H := by
  subst e0
  unfold putAll at e
  split at e
  · rename_i hl
    obtain ⟨e1, h1, rfl⟩ := Option.map_eq_some_iff.mp e
    obtain ⟨k, ev⟩ := ih e1 h1
    have hA : H a = some o := kf.keep a _ (hb.2.2.1 a _ upd_same) (by rw [hb.1]; exact fun z => nc (z ▸ wp)) (by rw [hb.2.1]; exact fun z => nc (z ▸ wc))
    have kk := k.finish n
    obtain ⟨k2, ev2⟩ := kk.putOwnS (i := i) (a := a) (o := o) (sl := sl) (by show i < e1.length; rw [putAll_len h1]; exact hl) ho n (by
      rintro (z | ⟨j, sl, z1, z2, z3⟩)
      · exact nc z
      · obtain ⟨b, o, y1, _, _, _, y5⟩ := kk.own j sl z1 z2
        rw [z3] at y1; cases y1
        exact y5 (.inr rfl)) wp wc hA (by
      have : Bf.p = B.p := hb.1
      rw [← this]; exact OwnR.ev ev _ _ r1)
    exact ⟨k2, Ev.trans ev ev2⟩
  · cases e
theorem put_all {σ : Sg} {H : Hp} {s : S} {Bf : Bs} (kf : StOk Bf σ H s) : ∀ {is : List Nat} {l : List Sl} {B : Bs} {us : List V} {env' : List (Option Sl)}, PendR σ H s Bf B l us → B.Wc B.p → B.Wc B.c → putAll is l s.env = some env' →
    StOk B (setAll is us σ) H ⟨env', s.src⟩ ∧ Ev (Bf.W s.env σ) H (B.W env' (setAll is us σ)) H
  | [], [], _, _, _, h, _, _, e => by
    obtain ⟨rfl, rfl⟩ := h
    cases e
    exact ⟨kf, Ev.refl⟩
  | i :: is, .val d :: r, B, _, env', ⟨v, t, e1, r1, h⟩, wp, wc, e => by
    subst e1
    unfold putAll at e
    split at e
    · rename_i hl
      obtain ⟨e1, h1, rfl⟩ := Option.map_eq_some_iff.mp e
      obtain ⟨k, ev⟩ := put_all kf h wp wc h1
      obtain ⟨k2, ev2⟩ := k.set (d := d) (v := v) (i := i) (by rw [putAll_len h1]; exact hl) (by rw [← h.base.1]; exact r1.ev ev)
      exact ⟨k2, ev.trans ev2⟩
    · cases e
  | i :: is, .own ds :: r, B, _, env', ⟨a, us, t, e1, n, nc, r1, h⟩, wp, wc, e => put_all1 kf rfl e1 n nc r1 (fun e1 h1 => put_all kf h (.inl wp) (.inl wc) h1) h.base wp wc e
  | i :: is, .ownK ks ds :: r, B, _, env', ⟨a, us, t, e1, n, nc, r1, h⟩, wp, wc, e => put_all1 kf rfl e1 n nc r1 (fun e1 h1 => put_all kf h (.inl wp) (.inl wc) h1) h.base wp wc e
  | i :: is, .ownT ks ds :: r, B, _, env', ⟨a, us, t, e1, n, nc, r1, h⟩, wp, wc, e => put_all1 kf rfl e1 n nc r1 (fun e1 h1 => put_all kf h (.inl wp) (.inl wc) h1) h.base wp wc e
  | [], _ :: _, _, _, _, _, _, _, e => by simp [putAll] at e
  | _ :: _, [], _, _, _, _, _, _, e => by simp [putAll] at e
theorem PendR.length {σ : Sg} {H : Hp} {s : S} {Bf : Bs} : ∀ {l : List Sl} {B : Bs} {us : List V}, PendR σ H s Bf B l us → us.length = l.length
  | [], _, _, h => by rw [h.1]; rfl
  | .val _ :: _, _, _, ⟨_, _, e, _, h⟩ => by rw [e]; simp [h.length]
  | .own _ :: _, _, _, ⟨_, _, _, e, _, _, _, h⟩ => by rw [e]; simp [h.length]
  | .ownK _ _ :: _, _, _, ⟨_, _, _, e, _, _, _, h⟩ => by rw [e]; simp [h.length]
  | .ownT _ _ :: _, _, _, ⟨_, _, _, e, _, _, _, h⟩ => by rw [e]; simp [h.length]
def sPar (is : List Nat) (ms : M (List Sl)) : M Out := bnd ms fun sls s => match putAll is sls s.env with
  | some env => some (.nx, ⟨env, s.src⟩)
  | none => none
theorem putAll_ilen : ∀ {is : List Nat} {l : List Sl} {env env' : List (Option Sl)}, putAll is l env = some env' → l.length = is.length
  | [], [], _, _, _ => rfl
  | i :: is, sl :: r, env, env', h => by
    unfold putAll at h
    split at h
    · obtain ⟨e1, h1, rfl⟩ := Option.map_eq_some_iff.mp h
      simp [putAll_ilen h1]
    · cases h
  | [], _ :: _, _, _, h => by simp [putAll] at h
  | _ :: _, [], _, _, h => by simp [putAll] at h
theorem par_go {B : Bs} {Dn : Ends} {σ : Sg} {H : Hp} {is : List Nat} (h : tS B (sPar is ms) Dn σ H) : tP B ms σ H fun vs H1 => vs.length = is.length ∧ ∀ H2, Same H1 H2 → Dn.nx (setAll is vs σ) H2 := by
  obtain ⟨s, o, s', k, e, q⟩ := h
  obtain ⟨sls, s1, e1, e2⟩ := bnd_some e
  split at e2
  · rename_i env he
    cases e2
    refine ⟨s, sls, s1, k, e1, fun vs H' Bf k1 ev1 pr => ⟨by rw [pr.length, putAll_ilen he], fun H2 sm => ?_⟩⟩
    obtain ⟨k2, ev2⟩ := put_all k1 pr k.wp k.wcc he
    exact q _ H2 (k2.same sm) (ev1.trans (ev2.trans (Ev.same sm)))
  · cases e2
theorem TP.imp {B : Bs} {σ : Sg} {H : Hp} {Q Q' : List V → Hp → Prop} (h : tP B ms σ H Q) (f : ∀ vs H', Q vs H' → Q' vs H') : tP B ms σ H Q' := by
  obtain ⟨s, sls, s', k, e, q⟩ := h
  exact ⟨s, sls, s', k, e, fun vs H' Bf k1 ev1 pr => f _ _ (q vs H' Bf k1 ev1 pr)⟩
theorem s_par2 {pos : Pos} {i j : Nat} {x y : Str} {a b : Expr} {px py pt : Pos} {kt k2 pt2} (hc : X.calm = true) (hN : X.N.Nodup) (hi : X.N[i]? = some x) (hj : X.N[j]? = some y) (hij : i ≠ j)
    (hx : X.env.scope.names.lookup x = some .local) (hy : X.env.scope.names.lookup y = some .local) (ha : SP X [a, b] ms)
    (hw : swappedStores [.Tuple [.Name x px, .Name y py] kt pt] (.Tuple [a, b] k2 pt2) X.env = pure (some [x, y]))
    (hs : swapsWithSole [.Tuple [.Name x px, .Name y py] kt pt] (.Tuple [a, b] k2 pt2) pos.line X.env = pure false := by rfl) :
    SS X (.Assign [.Tuple [.Name x px, .Name y py] kt pt] (.Tuple [a, b] k2 pt2) pos) (sPar [i, j] ms) := ⟨fun B => PS.imp (ps_par hc hN hi hj hij hx hy (ha.pa B) hw hs) fun D σ H h => by
  refine TP.imp (par_go h) fun vs H1 ⟨hl, q⟩ => ?_
  match vs, hl with
  | [v, w], _ =>
    refine ⟨v, w, rfl, ?_⟩
    have q := q H1 (Same.refl _)
    simp only [setAll] at q
    rw [List.set_comm _ _ (Ne.symm hij)] at q
    exact q⟩
theorem s_par3 {pos : Pos} {i j l : Nat} {x y z : Str} {a b c : Expr} {px py pz pt : Pos} {kt k2 pt2} (hc : X.calm = true) (hN : X.N.Nodup) (hi : X.N[i]? = some x) (hj : X.N[j]? = some y) (hl : X.N[l]? = some z) (hij : i ≠ j) (hil : i ≠ l) (hjl : j ≠ l)
    (hx : X.env.scope.names.lookup x = some .local) (hy : X.env.scope.names.lookup y = some .local) (hz : X.env.scope.names.lookup z = some .local) (ha : SP X [a, b, c] ms)
    (hw : swappedStores [.Tuple [.Name x px, .Name y py, .Name z pz] kt pt] (.Tuple [a, b, c] k2 pt2) X.env = pure (some [x, y, z]))
    (hs : swapsWithSole [.Tuple [.Name x px, .Name y py, .Name z pz] kt pt] (.Tuple [a, b, c] k2 pt2) pos.line X.env = pure false := by rfl) :
    SS X (.Assign [.Tuple [.Name x px, .Name y py, .Name z pz] kt pt] (.Tuple [a, b, c] k2 pt2) pos) (sPar [i, j, l] ms) := ⟨fun B => PS.imp (ps_par3 hc hN hi hj hl hij hil hjl hx hy hz (ha.pa B) hw hs) fun D σ H h => by
  refine TP.imp (par_go h) fun vs H1 ⟨hl, q⟩ => ?_
  match vs, hl with
  | [u, v, w], _ =>
    refine ⟨u, v, w, rfl, ?_⟩
    have q := q H1 (Same.refl _)
    simp only [setAll] at q
    rw [List.set_comm (some v) (some u) (Ne.symm hij), List.set_comm (some w) (some u) (Ne.symm hil), List.set_comm (some w) (some v) (Ne.symm hjl)] at q
    exact q⟩
/-- names, however many, by way of the tuple -/
def gNames : List Nat → TGs
  | [] => L2.gNil
  | i :: is => L2.gCons (gName i) (gNames is)
theorem gNames_of : ∀ {is : List Nat} {vs : List V} {σ : Sg} {H : Hp} {Q : Sg → Hp → Prop}, is.Nodup → vs.length = is.length → Q (setAll is vs σ) H → gNames is vs σ H Q
  | [], [], _, _, _, _, _, q => ⟨rfl, q⟩
  | i :: is, v :: vs, σ, H, Q, nd, hl, q => by
    refine ⟨v, vs, rfl, ?_⟩
    have nd' := List.nodup_cons.mp nd
    refine gNames_of nd'.2 (by simpa using hl) ?_
    have : ∀ (js : List Nat) (us : List V), i ∉ js → setAll js us (σ.set i (some v)) = (setAll js us σ).set i (some v) := fun js => by
      induction js with
      | nil => intro us _; cases us <;> rfl
      | cons j js ih =>
        intro us hn
        cases us with
        | nil => rfl
        | cons u us =>
          simp only [setAll]
          rw [ih us (fun z => hn (List.mem_cons_of_mem _ z)), List.set_comm _ _ (fun z : i = j => hn (by rw [z]; exact List.mem_cons_self))]
    rw [this is vs nd'.1]
    exact q
  | [], _ :: _, _, _, _, _, hl, _ => by simp at hl
  | _ :: _, [], _, _, _, _, hl, _ => by simp at hl
theorem s_parT {pos : Pos} {is : List Nat} {tgs es : List Expr} {pt : Pos} {kt k2 pt2} (hc : X.calm = true) (nd : is.Nodup) (ht : PGs X tgs (gNames is)) (ha : SP X es ms) (hn : (assignEach tgs X.env).length = is.length := by rfl) (hst : (assignEach tgs X.env).findIdx? (·.1) = none := by rfl) (hz : is.length ≤ 30 := by decide)
    (hs : swapsWithSole [.Tuple tgs kt pt] (.Tuple es k2 pt2) pos.line X.env = pure false := by rfl) (hw : swappedStores [.Tuple tgs kt pt] (.Tuple es k2 pt2) X.env = pure none := by rfl)
    (h1 : (assignEach [.Tuple tgs kt pt] X.env).map (·.2) = [assign (.Tuple tgs kt pt) X.env] := by rfl) :
    SS X (.Assign [.Tuple tgs kt pt] (.Tuple es k2 pt2) pos) (sPar is ms) := ⟨fun B => PS.imp (ps_asg (pe_tup (ha.pa B)) (pg_tup hc ht hn hst) hs hw h1) fun D σ H h => by
  refine TP.imp (par_go h) fun vs H1 ⟨hl, q⟩ => ⟨by have := line63; unfold sizeLine at *; omega, fun p np => ?_⟩
  refine ⟨p, vs, rfl, SqT.of upd_same, hl, gNames_of nd hl (q _ (same_new np))⟩⟩
theorem pgs_name {is : List Nat} {i : Nat} {x : Str} {tgs : List Expr} {p : Pos} (hN : X.N.Nodup) (hi : X.N[i]? = some x) (hx : Loc X.env.scope x) (h : PGs X tgs (gNames is)) (hs : (assignEach (.Name x p :: tgs) X.env).map (·.2) = assign (.Name x p) X.env :: (assignEach tgs X.env).map (·.2) := by rfl) (hf : X.fn x = true ∨ X.env.scope.names.lookup x = some .local := by first | exact .inl rfl | exact .inr rfl | assumption) : PGs X (.Name x p :: tgs) (gNames (i :: is)) :=
  pgs_cons (pg_name hN hi hx hf) h hs
theorem pgs_none : PGs X [] (gNames []) := L2.pgs_nil

def rBL (f : D → D → Option (List D)) : R2 := fun x y H Q => ∃ p W dx dy es, WT W H ∧ Rp p W H dx x ∧ Rp p W H dy y ∧ f dx dy = some es ∧
  ∀ a us H', Same H H' → H a = none → H' a = some (.lst us) → Rps p W H es us → Q (.ref a) H'
def eBinL (f : D → D → Option (List D)) (ma mb : M D) : M (List D) := bnd ma fun x => bnd mb fun y => lift (f x y)
theorem binL_go {B : Bs} {f : D → D → Option (List D)} {σ : Sg} {H : Hp} {Q : VK} {ma mb : M D} (h : tL B (eBinL f ma mb) σ H Q) : tOp (rBL f) (tI B ma) (tI B mb) σ H Q := by
  obtain ⟨s, d, s', k, e, q⟩ := h
  refine tI.bind k e fun dx s1 x H1 h1 e1 k1 ev1 r1 => ?_
  refine tI.bind k1 e1 fun dy s2 y H2 h2 e2 k2 ev2 r2 => ?_
  obtain ⟨e3, rfl⟩ := lift_some e2
  refine ⟨B.p, _, dx, dy, d, k2.wt, r1.ev ev2, r2, e3, fun a us H' sm n ha r => ?_⟩
  obtain ⟨kp, ev3, r3⟩ := k2.newList sm n ha r
  exact q a us H' kp ((ev1.trans ev2).trans ev3) (k2.new n) (k2.wt.new n) ha r3
theorem l_bin {op : Operator} {f : D → D → Option (List D)} {a b : Expr} {ma mb : M D} {pos : Pos} (ho : OpR X (binaryOp op) (rBL f)) (ha : SE X a ma) (hb : SE X b mb) : SL X (.BinOp a op b pos) (eBinL f ma mb) :=
  ⟨fun B => PE.imp (pe_op ho (ha.pe B) (hb.pe B)) fun σ H Q h => binL_go h⟩
def addLD : D → D → Option (List D)
  | .lst a, .lst b => if a.length + b.length ≤ sizeLine then some (a ++ b) else none
  | _, _ => none
def mulLD : D → D → Option (List D)
  | .lst a, .int k => if -(2 ^ 63) ≤ k ∧ k < 2 ^ 63 ∧ a.length * k.toNat ≤ sizeLine then some (List.replicate k.toNat a).flatten else none
  | _, _ => none
theorem opL_cases {g : Value → Value → Sem Value} {f : D → D → Option (List D)} (h : ∀ dx dy es p W, f dx dy = some es → OpR X g (fun x y H Q => WT W H ∧ Rp p W H dx x ∧ Rp p W H dy y ∧ ∀ a us H', Same H H' → H a = none → H' a = some (.lst us) → Rps p W H es us → Q (.ref a) H')) : OpR X g (rBL f) := by
  intro pins s σ H x y v u Q I rx ry ⟨p, W, dx, dy, d, hw, hx, hy, he, hq⟩
  exact h dx dy d p W he pins s σ H x y v u Q I rx ry ⟨hw, hx, hy, hq⟩
theorem ol_add : OpR X (binaryOp .Add) (rBL addLD) := opL_cases fun dx dy d p W he => by
  unfold addLD at he
  split at he
  · split at he
    · cases he
      rename_i as bs hl
      refine OpR.imp op_cat fun x y H Q ⟨hw, hx, hy, hq⟩ => ?_
      obtain ⟨a, vs, rfl, na, ha, ra⟩ := rp_lst hx
      obtain ⟨b, us, rfl, nb, hb, rb⟩ := rp_lst hy
      exact ⟨a, b, vs, us, rfl, rfl, ha, hb, by rw [← ra.length, ← rb.length]; exact hl, fun q nq => hq _ _ _ (same_new nq) nq upd_same (ra.append rb)⟩
    · cases he
  · cases he
theorem ol_mul : OpR X (binaryOp .Mult) (rBL mulLD) := opL_cases fun dx dy d p W he => by
  unfold mulLD at he
  split at he
  · split at he
    · cases he
      rename_i as k hl
      refine OpR.imp op_rep fun x y H Q ⟨hw, hx, hy, hq⟩ => ?_
      obtain ⟨a, vs, rfl, na, ha, ra⟩ := rp_lst hx
      exact ⟨a, k, vs, rfl, rp_int hy, ha, hl.1, hl.2.1, by rw [← ra.length]; exact hl.2.2, fun q nq => hq _ _ _ (same_new nq) nq upd_same (rps_rep ra _)⟩
    · cases he
  · cases he
end
end GH

namespace GH
open PySem PySem.Spec PyProof.Rows L2

section
variable {X : Cx}
def itemsD : D → Option (List D)
  | .lst ds => some ds
  | .tup ds => some ds
  | _ => none
def okIn (x : D) (ds : List D) : Prop := SeqAt.shaped x.py = true ∧ (SeqAt.shaped (PyData.list (D.pys ds)) = true ∧ PyData.canLayAll0 (D.pys ds) = true)
instance (x : D) (ds : List D) : Decidable (okIn x ds) := by unfold okIn; infer_instance
def memD (x : D) (ds : List D) : Bool := (D.pys ds).any fun z => PyData.eqv z x.py
def inD (x y : D) : Option D := match x, y with
  | .int i, .rng lo hi => some (.bl (decide (lo ≤ i ∧ i < hi)))
  | x, .lst ds => if okIn x ds then some (.bl (memD x ds)) else none
  | x, .tup ds => if okIn x ds then some (.bl (memD x ds)) else none
  | _, _ => none
def ninD (x y : D) : Option D := match x, y with
  | x, .lst ds => if okIn x ds then some (.bl (!memD x ds)) else none
  | x, .tup ds => if okIn x ds then some (.bl (!memD x ds)) else none
  | _, _ => none
theorem in_go {neg : Bool} {x : D} {ds : List D} {p : Addr} {W : AP} (hu : X.A.units + 65 < cLine) (h : okIn x ds) (tup : Bool) : OpR X (compareOp (if neg then .NotIn else .In)) (fun u v H Q => WT W H ∧ Rp p W H x u ∧ Rp p W H (if tup then .tup ds else .lst ds) v ∧ Q (.bl (if neg then !memD x ds else memD x ds)) H) := by
  intro pins s σ H u v uv vv Q I ru rv ⟨hw, hx, hy, q⟩
  obtain ⟨as, r1⟩ := Dp.reads I x.py u uv (hx.dp _ _ (SeqAt.canLay_of_shaped h.1)) ru
  cases tup with
  | false =>
    obtain ⟨bs, r2⟩ := Dp.reads I (.list (D.pys ds)) v vv (by
      have := hy.dp (K := X.K) (.lst ds) v (by simp only [D.py]; exact SeqAt.canLay_of_shaped h.2.1)
      simpa only [D.py] using this) rv
    cases neg with
    | false => exact SeqAt.in_list_reads r2 r1 h.2.2 (SeqAt.canLay_of_shaped h.1) (room_in_shaped h.1 hu) ⟨.bl _, H, I, rfl, q⟩
    | true => exact SeqAt.notIn_list_reads r2 r1 h.2.2 (SeqAt.canLay_of_shaped h.1) (room_in_shaped h.1 hu) ⟨.bl _, H, I, rfl, q⟩
  | true =>
    obtain ⟨bs, r2⟩ := Dp.reads I (.tuple (D.pys ds)) v vv (by
      have := hy.dp (K := X.K) (.tup ds) v (by simp only [D.py, PyData.canLay0]; exact h.2.2)
      simpa only [D.py] using this) rv
    cases neg with
    | false => exact SeqAt.in_tuple_reads r2 r1 h.2.2 (SeqAt.canLay_of_shaped h.1) (room_in_shaped h.1 hu) ⟨.bl _, H, I, rfl, q⟩
    | true => exact SeqAt.notIn_tuple_reads r2 r1 h.2.2 (SeqAt.canLay_of_shaped h.1) (room_in_shaped h.1 hu) ⟨.bl _, H, I, rfl, q⟩
theorem od_in (hu : X.A.units + 65 < cLine) : OpD X (compareOp .In) inD := opD_cases fun dx dy d p W he => by
  unfold inD at he
  split at he
  · cases he
    refine OpR.imp op_in_rng fun x y H Q ⟨hw, hx, hy, hq⟩ => ?_
    obtain ⟨a, rfl, _, ha⟩ := rp_rng hy
    exact ⟨_, a, _, _, rp_int hx, rfl, ha, hq _ _ (Same.refl H) (.mkBl _)⟩
  · split at he
    · cases he
      rename_i hk
      exact OpR.imp (in_go (neg := false) (p := p) (W := W) hu hk false) fun x y H Q ⟨hw, hx, hy, hq⟩ => ⟨hw, hx, hy, hq _ _ (Same.refl H) (.mkBl _)⟩
    · cases he
  · split at he
    · cases he
      rename_i hk
      exact OpR.imp (in_go (neg := false) (p := p) (W := W) hu hk true) fun x y H Q ⟨hw, hx, hy, hq⟩ => ⟨hw, hx, hy, hq _ _ (Same.refl H) (.mkBl _)⟩
    · cases he
  · cases he
theorem od_nin (hu : X.A.units + 65 < cLine) : OpD X (compareOp .NotIn) ninD := opD_cases fun dx dy d p W he => by
  unfold ninD at he
  split at he
  · split at he
    · cases he
      rename_i hk
      exact OpR.imp (in_go (neg := true) (p := p) (W := W) hu hk false) fun x y H Q ⟨hw, hx, hy, hq⟩ => ⟨hw, hx, hy, hq _ _ (Same.refl H) (.mkBl _)⟩
    · cases he
  · split at he
    · cases he
      rename_i hk
      exact OpR.imp (in_go (neg := true) (p := p) (W := W) hu hk true) fun x y H Q ⟨hw, hx, hy, hq⟩ => ⟨hw, hx, hy, hq _ _ (Same.refl H) (.mkBl _)⟩
    · cases he
  · cases he

variable {a b c e : Expr} {es : List Expr} {pos p : Pos} {ma mb mc m : M D} {ms : M (List D)}
def eChain (f g : D → D → Option D) (ma mb mc : M D) : M D := bnd ma fun x => bnd mb fun y => bnd (lift (f x y)) fun z => match z with
  | .bl true => bnd mc fun w => lift (g y w)
  | .bl false => ret (.bl false)
  | _ => fail
theorem chain_go {B : Bs} {f g : D → D → Option D} {σ : Sg} {H : Hp} {Q : VK} (h : tI B (eChain f g ma mb mc) σ H Q) : tChain (rB f) (rB g) (tI B ma) (tI B mb) (tI B mc) σ H Q := by
  obtain ⟨s, d, s', k, e, q⟩ := h
  refine tI.bind k e fun dx s1 x H1 h1 e1 k1 ev1 r1 => ?_
  refine tI.bind k1 e1 fun dy s2 y H2 h2 e2 k2 ev2 r2 => ?_
  obtain ⟨z, s3, e3, e4⟩ := bnd_some e2
  obtain ⟨e5, rfl⟩ := lift_some e3
  refine ⟨B.p, _, dx, dy, z, k2.wt, r1.ev ev2, r2, e5, fun v H3 sm r3 => ?_⟩
  have k3 := k2.same sm
  have ev3 := (ev1.trans ev2).trans (Ev.same (W := B.W s3.env σ) sm)
  split at e4
  · refine ⟨true, rp_bl r3, ?_⟩
    rw [if_pos rfl]
    refine tI.bind k3 e4 fun dw s4 w H4 h4 e6 k4 ev4 r4 => ?_
    obtain ⟨e7, rfl⟩ := lift_some e6
    exact ⟨B.p, _, dy, dw, d, k4.wt, (r2.ev (Ev.same sm)).ev ev4, r4, e7, fun v H' sm r => q v H' (k4.same sm) ((ev3.trans ev4).trans (Ev.same sm)) r⟩
  · refine ⟨false, rp_bl r3, ?_⟩
    rw [if_neg (by decide)]
    obtain ⟨rfl, rfl⟩ := ret_some e4
    exact q _ H3 k3 ev3 (.mkBl _)
  · cases e4
theorem s_chain {op op' : CmpOp} {f g : D → D → Option D} (ho : OpD X (compareOp op) f) (ho' : OpD X (compareOp op') g) (ha : SE X a ma) (hb : SE X b mb) (hc : SE X c mc) (hm : lastMarks [op, op'] [b, c] = false := by with_unfolding_all rfl) : SE X (.Compare a [op, op'] [b, c] pos) (eChain f g ma mb mc) :=
  ⟨fun B => PE.imp (pe_chain ho ho' (ha.pe B) (hb.pe B) (hc.pe B) hm) fun σ H Q h => chain_go h⟩
theorem t_chain {op op' : CmpOp} {f g : D → D → Option D} (ho : OpD X (compareOp op) f) (ho' : OpD X (compareOp op') g) (ha : SE X a ma) (hb : SE X b mb) (hc : SE X c mc) (hm : lastMarks [op, op'] [b, c] = false := by with_unfolding_all rfl) : ST X (.Compare a [op, op'] [b, c] pos) (tst (eChain f g ma mb mc)) :=
  ⟨fun B => PT.imp (pt_chain ho ho' (ha.pe B) (hb.pe B) (hc.pe B) hm) fun σ H Q ⟨s, b', s', k, e, q⟩ => by
    obtain ⟨d, s1, h1, h2⟩ := bnd_some e
    cases d <;> simp only [fail] at h2 <;> try (cases h2; done)
    obtain ⟨rfl, rfl⟩ := ret_some h2
    refine chain_go ⟨s, _, _, k, h1, fun v H' k' ev r => ⟨_, rp_bl r, q H' k' ev⟩⟩⟩

def tyD : D → Option String
  | .non => some "NoneType"
  | .bl _ => some "bool"
  | .int _ => some "int"
  | .str _ => some "str"
  | .tup _ => some "tuple"
  | .lst _ => some "list"
  | _ => none
def isiD (T : String) (d : D) : Option D := (tyD d).bind fun t => (kitB t T).map .bl
theorem Rp.ty {p : Addr} {W : AP} {H : Hp} {K : PySem.W.Frag} {d : D} {v : V} {t : String} (r : Rp p W H d v) (h : tyD d = some t) : TyX K H v (.type t) := by
  cases d <;> simp only [tyD] at h <;> cases h
  · rw [rp_non r]; exact .base .non
  · rw [rp_bl r]; exact .base (.bl _)
  · rw [rp_int r]; exact .base (.int _)
  · rw [rp_str r]; exact .base (.str _)
  · obtain ⟨a, vs, rfl, _, ha, _⟩ := rp_tup r; exact .base (.tup ha)
  · obtain ⟨a, vs, rfl, _, ha, _⟩ := rp_lst r; exact .base (.lst ha)
theorem s_isi {T : String} {x : Str} {p2 : Pos} (hg : Gl X "isinstance") (hm : X.mg "isinstance" = none) (ha : SE X e ma) (hg2 : Gl X x) (hm2 : X.mg x = none) (hv2 : bootBuiltins x = some (.type T)) (hn2 : x ≠ "__name__" := by decide) (hd2 : (x == ("__debug__" : Str)) = false := by decide)
    (na : starEach [e, .Name x p2] X.env = (false, eval e X.env) :: starEach [.Name x p2] X.env := by rfl) (nb : starEach [.Name x p2] X.env = (false, eval (.Name x p2) X.env) :: starEach [] X.env := by rfl)
    (hpl : (backTo pos (starEach [.Name x p2] X.env)).any (·.1) = false := by rfl) : SE X (.Call (.Name "isinstance" p) [e, .Name x p2] [] pos) (eUn (isiD T) ma) :=
  ⟨fun B => PE.imp (pe_callB call_isi hg hm boot_isinstance (pa_cons (ha.pe B) (pa_cons (pe_bltn (v := .ty T) hg2 hm2 hv2 rfl hn2 hd2) pa_nil nb) na) (by decide) (by decide) na hpl) fun σ H Q ⟨s, d, s', k, e, q⟩ => by
    refine tI.bind k e fun dx s1 u H1 h1 e1 k1 ev1 r1 => ?_
    obtain ⟨e3, rfl⟩ := lift_some e1
    unfold isiD at e3
    obtain ⟨t, ht, e4⟩ := Option.bind_eq_some_iff.mp e3
    obtain ⟨b, hb, rfl⟩ := Option.map_eq_some_iff.mp e4
    exact ⟨u, .ty T, .type t, .type T, b, rfl, .ty T, r1.ty ht, kit_ty hb, q _ H1 k1 ev1 (.mkBl _)⟩⟩

/-- data without dicts -/
def D.plain : D → Bool
  | .rng _ _ => false
  | .src => false
  | .dct _ _ => false
  | .dtt _ _ => false
  | _ => true
def okRepr (d : D) : Prop := d.py.canLay0 = true ∧ d.py.showable = true ∧ d.py.hasDict = false ∧ d.py.depth ≤ 60 ∧ d.py.shown.length ≤ sizeLine
instance (d : D) : Decidable (okRepr d) := by unfold okRepr; infer_instance
def reprG : List D → Option D
  | [.int i] => if i.natAbs.log2 < 1920 then some (.str (toString i : String)) else none
  | [.bl b] => some (.str (if b = true then "True" else "False"))
  | [.non] => some (.str "None")
  | [.tup ds] => if okRepr (.tup ds) then some (.str (D.tup ds).py.shown) else none
  | [.lst ds] => if okRepr (.lst ds) then some (.str (D.lst ds).py.shown) else none
  | _ => none
theorem repr_ref {k : Nat} (hr : RG k X.A) {p : Addr} {W : AP} (d : D) (hk : okRepr d) : CallR X (.builtin "repr") (fun vs H Q => ∃ a, vs = [.ref a] ∧ Rp p W H d (.ref a) ∧ Q (.str d.py.shown) H) := by
  intro pins s σ H xs us Q I r ⟨a, e, rd, q⟩
  subst e
  obtain ⟨u, rfl, ru⟩ := r.one
  cases ru
  obtain ⟨h1, h2, h3, h4, h5⟩ := hk
  obtain ⟨as, rr⟩ := Dp.reads I d.py (.ref a) (.ref a) (rd.dp _ _ h1) rfl
  have hu := hr.r.units
  refine PySem.repr_of_reads' rr h2 (fun z => by rw [h3] at z; cases z) hr.g (by omega) (fun _ _ z => z) (fun h' u tk hk => ?_) h5
  exact ⟨.str _, H, I.kept (t' := tk) hk, ⟨_, rfl⟩, q⟩
theorem c_repr {k : Nat} (hr : RG k X.A) : CallD X (.builtin "repr") reprG := callD_cases fun ds d p W he => by
  unfold reprG at he
  split at he
  · split at he
    · rename_i hz
      cases he
      refine CallR.imp SkE.call_repr_int fun vs H Q ⟨hw, hx, hq⟩ => ?_
      obtain ⟨v, rfl, r⟩ := rps1 hx
      exact ⟨_, by rw [rp_int r], hz, hq _ _ (Same.refl H) (.mkStr _)⟩
    · cases he
  · cases he
    intro pins s σ H xs us Q I r ⟨hw, hx, hq⟩
    obtain ⟨v, rfl, rv⟩ := rps1 hx
    rw [rp_bl rv] at r
    obtain ⟨u, rfl, ru⟩ := r.one
    cases ru
    exact P.repr_of_bool ⟨.str _, H, I.tok _, ⟨_, rfl⟩, hq _ _ (Same.refl H) (.mkStr _)⟩
  · cases he
    intro pins s σ H xs us Q I r ⟨hw, hx, hq⟩
    obtain ⟨v, rfl, rv⟩ := rps1 hx
    rw [rp_non rv] at r
    obtain ⟨u, rfl, ru⟩ := r.one
    cases ru
    exact P.repr_of_none ⟨.str _, H, I.tok _, ⟨_, rfl⟩, hq _ _ (Same.refl H) (.mkStr _)⟩
  · split at he
    · rename_i hz
      cases he
      refine CallR.imp (repr_ref (p := p) (W := W) hr _ hz) fun vs H Q ⟨hw, hx, hq⟩ => ?_
      obtain ⟨v, rfl, r⟩ := rps1 hx
      obtain ⟨a, us, rfl, _⟩ := rp_tup r
      exact ⟨a, rfl, r, hq _ _ (Same.refl H) (.mkStr _)⟩
    · cases he
  · split at he
    · rename_i hz
      cases he
      refine CallR.imp (repr_ref (p := p) (W := W) hr _ hz) fun vs H Q ⟨hw, hx, hq⟩ => ?_
      obtain ⟨v, rfl, r⟩ := rps1 hx
      obtain ⟨a, us, rfl, _⟩ := rp_lst r
      exact ⟨a, rfl, r, hq _ _ (Same.refl H) (.mkStr _)⟩
    · cases he
  · cases he

def sAug (i : Nat) (f : Int → Int → Int) (m : M D) : M Out := fun s0 => match s0.env[i]? with
  | some (some (.val x)) => bnd m (fun d => bnd (lift (augI f x d)) fun z => bnd (gN i z) fun _ => ret .nx) s0
  | _ => none
theorem s_aug {op : Operator} {f : Int → Int → Int} {i : Nat} {x : Str} {pos' : Pos} (hN : X.N.Nodup) (hi : X.N[i]? = some x) (hx : Loc X.env.scope x) (he : SE X e m) (ho : PIp X op (ipI f)) (hf : X.fn x = true ∨ X.env.scope.names.lookup x = some .local := by first | exact .inl rfl | exact .inr rfl | assumption) : SS X (.AugAssign (.Name x pos') op e pos) (sAug i f m) :=
  ⟨fun B => PS.imp (ps_aug hN hi hx (he.pe B) ho hf) fun D σ H ⟨s, o, s', k, e, q⟩ => by
    unfold sAug at e
    split at e
    · rename_i dx hd
      obtain ⟨v, h1, h2⟩ := k.val i dx hd
      refine ⟨v, h1, ?_⟩
      refine tI.bind k e fun d s1 u H1 h3 e1 k1 ev1 r1 => ?_
      obtain ⟨z, s2, e2, e3⟩ := bnd_some e1
      obtain ⟨e4, rfl⟩ := lift_some e2
      obtain ⟨xi, yi, rfl, rfl, rfl⟩ := augI_some e4
      refine ⟨xi, yi, rp_int h2, rp_int r1, ?_⟩
      obtain ⟨_, s3, e5, e6⟩ := bnd_some e3
      obtain ⟨rfl, rfl⟩ := ret_some e6
      unfold gN at e5
      split at e5
      · rename_i hl
        cases e5
        obtain ⟨k', ev⟩ := k1.set hl (.mkInt (f xi yi))
        exact q _ H1 k' (ev1.trans ev)
      · cases e5
    · cases e⟩

def rngDn (hi lo : Int) : List D := (List.range (hi - lo).toNat).map fun i => .int (hi - (i : Nat))
def iRgDn (ma mb mc : M D) : M (List D) := bnd ma fun d => bnd mb fun e => bnd mc fun f => match d, e, f with
  | .int i, .int j, .int c => if okR i ∧ okR j ∧ c = -1 then ret (rngDn i j) else fail
  | _, _, _ => fail
theorem walk_dn {p : Addr} {W : AP} {H : Hp} {hi lo : Int} : WalkD p W H (Itc hi (-1) (hi - lo).toNat) (rngDn hi lo) := fun W2 H2 ev wt => by
  have hl : (rngDn hi lo).length = (hi - lo).toNat := by simp [rngDn]
  refine ⟨fun i h => by show i < _; omega, by show _ ≤ _; omega, fun i d x H3 hd y => ?_⟩
  obtain ⟨e, hx⟩ := y
  subst e
  subst hx
  refine ⟨Same.refl _, ?_⟩
  have hi' : i < (hi - lo).toNat := by have := (List.getElem?_eq_some_iff.mp hd).1; omega
  unfold rngDn at hd
  rw [List.getElem?_map, List.getElem?_range hi'] at hd
  cases hd
  have e : hi + ((i : Nat) : Int) * -1 = hi - ((i : Nat) : Int) := by omega
  rw [e]
  exact .mkInt _
theorem i_rgDn {tg : Expr} (hg : Gl X "range") (hm : X.mg "range" = none) (ha : SE X a ma) (hb : SE X b mb) (hc : SE X c mc) (hs : starEach [a, b, c] X.env = (false, eval a X.env) :: starEach [b, c] X.env := by rfl) (hs2 : starEach [b, c] X.env = (false, eval b X.env) :: starEach [c] X.env := by rfl) (hs3 : starEach [c] X.env = (false, eval c X.env) :: starEach [] X.env := by rfl)
    (hpl : (backTo pos (starEach [b, c] X.env)).any (·.1) = false := by rfl) : SI X tg (.Call (.Name "range" p) [a, b, c] [] pos) (iRgDn ma mb mc) :=
  ⟨fun B => PI.imp (pi_range3 hg hm (pa_cons (ha.pe B) (pa_cons (hb.pe B) (pa_cons (hc.pe B) pa_nil hs3) hs2) hs) hs hpl) fun σ H R ⟨s, ds, s', k, e, q⟩ => by
    refine tI.bind k e fun d s1 v H1 h1 e1 k1 ev1 r1 => ?_
    refine tI.bind k1 e1 fun d2 s2 v2 H2 h2 e2 k2 ev2 r2 => ?_
    refine tI.bind k2 e2 fun d3 s3 v3 H3 h3 e3 k3 ev3 r3 => ?_
    split at e3
    · rename_i i j c
      split at e3
      · rename_i hk
        obtain ⟨h4, h5, rfl⟩ := hk
        obtain ⟨rfl, rfl⟩ := ret_some e3
        exact ⟨i, j, -1, _, by rw [rp_int r1, rp_int r2, rp_int r3], RgC.neg h4.1 h4.2 h5.1 h5.2, q _ H3 k3 (ev1.trans (ev2.trans ev3)) walk_dn⟩
      · cases e3
    · cases e3⟩
end
end GH

namespace GH
open PySem PySem.Spec PyProof.Rows L2

theorem fm_congr {α β : Type} {f g : α → Option β} : ∀ {l : List α}, (∀ x ∈ l, f x = g x) → l.filterMap f = l.filterMap g
  | [], _ => rfl
  | a :: l, h => by
    rw [List.filterMap_cons, List.filterMap_cons, h a List.mem_cons_self, fm_congr fun x hx => h x (List.mem_cons_of_mem _ hx)]
section
variable {prog : Program} {w : World} {A : Around} {E : Value → Shared → Prop} {s : Shared}
theorem back_places (n : Nat) : Builtin.Slice.slicePlaces ((n : Int) - 1) (-1) (-1) = n := by
  unfold Builtin.Slice.slicePlaces
  rw [if_neg (by decide)]
  by_cases h : (n : Int) - 1 > -1
  · rw [if_pos h]
    have : (-(-1) : Int) = 1 := by decide
    rw [this, Int.ediv_one]
    omega
  · rw [if_neg h]
    omega
theorem back_applied {sl : Addr} {vs : Value} {n : Nat} {Q : Int × Int × Nat → Shared → Prop} (hs : s.heap.IsSliceOf sl .none .none vs) (pv : IsPart vs (some (-1))) (h : Q ((n : Int) - 1, -1, n) s) :
    wpAny (model prog w) A (Builtin.Slice.sliceApplied (.ref sl) (pure (n : Int))) Q E s := by
  obtain ⟨os, hos, hcs, hds⟩ := id hs
  unfold Builtin.Slice.sliceApplied
  unfold Builtin.Slice.sliceFields
  refine wpAny_bind (wpAny_bind (wpAny_field hos hds (x := .none) rfl ?_))
  refine wpAny_bind (wpAny_field hos hds (x := .none) rfl ?_)
  refine wpAny_bind (wpAny_field hos hds (x := vs) rfl (wpAny_pure ?_))
  refine wpAny_bind (HT.slicePart_ pv ?_)
  show wpAny _ _ (if ((-1 : Int) == 0) = true then _ else _) _ _ s
  rw [if_neg (by decide)]
  refine wpAny_bind (HT.slicePart_ .none (wpAny_bind ?_))
  refine HT.slicePart_ .none ?_
  refine wpAny_bind (wpAny_pure ?_)
  have e : Builtin.Slice.sliceAdjust none none (-1) (n : Int) = ((n : Int) - 1, -1) := rfl
  show wpAny _ _ (match Builtin.Slice.sliceAdjust none none (-1) (n : Int) with | (lo, hi) => pure (lo, (-1 : Int), Builtin.Slice.slicePlaces lo hi (-1))) _ _ s
  rw [e]
  show wpAny _ _ (pure ((n : Int) - 1, (-1 : Int), Builtin.Slice.slicePlaces ((n : Int) - 1) (-1) (-1))) _ _ s
  rw [back_places]
  exact wpAny_pure h
theorem back_pick (xs : Array Value) : ((List.range xs.size).filterMap fun (m : Nat) => xs[((xs.size : Int) - 1 + (m : Int) * -1).toNat]?).toArray = xs.toList.reverse.toArray := by
  congr 1
  have key : ∀ l : List Value, ((List.range l.length).filterMap fun (m : Nat) => l[((l.length : Int) - 1 + (m : Int) * -1).toNat]?) = l.reverse := fun l => by
    have e1 : ((List.range l.length).filterMap fun (m : Nat) => l[((l.length : Int) - 1 + (m : Int) * -1).toNat]?) = (List.range l.length).filterMap fun m => l.reverse[m]? := by
      refine fm_congr fun m hm => ?_
      have hm := List.mem_range.mp hm
      rw [List.getElem?_reverse hm]
      congr 1
      omega
    rw [e1]
    have := PySem.W.krv_all l.reverse.toArray
    simpa using this
  have := key xs.toList
  simpa using this
theorem tup_back {t sl : Addr} {items : Array Value} {vs : Value} {Q : Value → Shared → Prop} (ht : IsTup s.heap t items) (hs : s.heap.IsSliceOf sl .none .none vs) (pv : IsPart vs (some (-1)))
    (h : Q (.ref s.heap.objs.size) { s with heap := s.heap.push { cls := .type "tuple", data := .seq items.toList.reverse.toArray } }) (hsz : items.size ≤ sizeLine) : wpAny (model prog w) A (getItem (.ref t) (.ref sl)) Q E s := by
  have hfit : sizeOk (.seq items.toList.reverse.toArray) := by
    show items.toList.reverse.toArray.size ≤ sizeLine
    simpa using hsz
  obtain ⟨os, hos, hcs, hds⟩ := id hs
  have hTs : s.TypeIs (.ref sl) "slice" := ⟨os, hos, hcs⟩
  unfold getItem
  try with_reducible refine wpAny_holding ?_
  first | refine wpAny_bind (wpAny_pure ?_) | skip
  refine wpAny_bind (wpAny_sequenceKey ht.typeIs (by decide) ?_)
  refine wpAny_bind (wpAny_callSpecial?_slot (name := Str.ofString "__getitem__") ht.typeIs slot_tuple_getitem ?_)
  refine wpAny_call_entry slot_tuple_getitem ht.typeIs entry_tuple_getitem ?_ (args_tuple_getitem _ _)
  show wpAny _ _ (Builtin.Tuple.tupleItemsOf (.ref t) >>= _) _ _ s
  refine wpAny_bind (tupleItemsOf_ ht ?_)
  refine wpAny_bind (wpAny_typeOf hTs ?_)
  rw [if_pos (by decide)]
  refine wpAny_bind (back_applied hs pv ?_)
  show wpAny _ _ (if (((items.size : Int) - 1 == 0 && (-1 : Int) == 1 && items.size == items.size) = true) then _ else _) _ _ s
  rw [if_neg (by simp), back_pick]
  first
    | exact wpAny_bind (m := Builtin.Tuple.tupleExact _) (wpAny_newObj_type (wpAny_pure ⟨_, rfl, wpAny_pure h⟩) hfit)
    | exact wpAny_bind (m := Builtin.Tuple.tupleExact _) (wpAny_newObj_type (wpAny_bind (wpAny_pure (wpAny_pure ⟨_, rfl, wpAny_pure h⟩))) hfit)
    | exact wpAny_bind (wpAny_bind (m := Builtin.Tuple.tupleExact _) (wpAny_newObj_type (wpAny_pure (wpAny_pure ⟨_, rfl, wpAny_pure h⟩)) hfit))
    | exact wpAny_bind (wpAny_bind (m := Builtin.Tuple.tupleExact _) (wpAny_newObj_type (wpAny_pure ⟨_, rfl, wpAny_pure h⟩) hfit))
end
section
variable {X : Cx} {e : Expr} {pos : Pos} {m : M D}
def tRevT (K : PySem.W.Frag) (te : TE) : TE := fun σ H Q => te σ H fun x H1 => ∃ a xs, x = .ref a ∧ SqT K H1 a xs ∧ ∀ p, H1 p = none → Q (.ref p) (upd H1 p (.tup xs.reverse))
theorem pe_revT {te : TE} {k : Nat} {p1 p2 p3 : Pos} (he : PE X e te) : PE X (.Subscript e (.Slice none none (some (.UnaryOp .USub (.Constant (.int 1) k p1) p2)) p3) pos) (tRevT X.K te) := by
  refine ⟨fun pins s σ H Q I h => Subscript_ (thn (he.run pins s σ H _ I h) fun v s1 ⟨x, H1, I1, r1, q1⟩ => ?_)⟩
  obtain ⟨a, xs, ex, hx, q⟩ := q1
  subst ex
  cases r1
  have hst : PO X (some (.UnaryOp .USub (.Constant (.int 1) k p1) p2)) (tPart (tUn (rU fun i => .int (-i)) (tC (.int 1)))) := po_some (pe_un un_neg pe_int)
  refine wpAny_Slice (thn (po_none.run pins s1 σ H1 (fun o H2 => o = none ∧ H2 = H1) I1 ⟨rfl, rfl⟩) fun vl s2 y2 => ?_)
  obtain ⟨l, H2, I2, pl, el, e2⟩ := y2
  subst el e2
  refine thn (po_none.run pins s2 σ H2 (fun o H3 => o = none ∧ H3 = H2) I2 ⟨rfl, rfl⟩) fun vu s3 y3 => ?_
  obtain ⟨u, H3, I3, pu, eu, e3⟩ := y3
  subst eu e3
  refine thn (hst.run pins s3 σ H3 (fun o H4 => o = some (-1) ∧ H4 = H3) I3 ⟨1, rfl, -1, rfl, rfl, rfl⟩) fun vs s4 y4 => ?_
  obtain ⟨o, H4, I4, ps, eo, e4⟩ := y4
  subst eo e4
  cases pl
  cases pu
  have I5 : Inv X pins σ H4 { s4 with heap := s4.heap.push { cls := .type "slice", data := .fields #[.none, .none, vs] } } := I4.kept (t' := s4.toks) fun b ob q => Heap.get?_push_of_some _ q
  obtain ⟨its, r, ht, hz⟩ := I5.tuple hx
  have hlen := r.length
  show wpAny (model X.prog X.w) X.A (subscriptTail e (.Slice none none (some (.UnaryOp .USub (.Constant (.int 1) k p1) p2)) p3) (.ref a) (.ref s4.heap.objs.size)) (EP X pins σ Q) X.xe _
  refine tail_any (ops := [.ref a, .ref s4.heap.objs.size]) ht.typeIs (slot_tuple_getitem.lookup) ?_ (by with_unfolding_all rfl)
  refine tup_back ht (Heap.IsSliceOf.new _ .none .none vs) ps ?_ (by rw [List.size_toArray]; omega)
  refine ⟨.ref _, _, I5.laid (t' := s4.toks) (o := .tup xs.reverse) (fun b ob q => Heap.get?_push_of_some _ q) (Nat.le_refl _) ?_, rfl, q _ (I5.hok.fresh (Nat.le_refl _))⟩
  exact ⟨by rw [List.length_reverse]; exact hz, _, r.reverse, IsTup.new _ _⟩
theorem peOr {t u : TE} (h : PE X e t) (h' : PE X e u) : PE X e (fun σ H Q => t σ H Q ∨ u σ H Q) := ⟨fun pins s σ H Q I q => q.elim (h.run pins s σ H Q I) (h'.run pins s σ H Q I)⟩
theorem Rps.rev {p : Addr} {W : AP} {H : Hp} : ∀ {ds : List D} {vs : List V}, Rps p W H ds vs → Rps p W H ds.reverse vs.reverse
  | [], _, h => by simp only [Rps] at h; subst h; exact .nil
  | d :: ds, _, h => by
    simp only [Rps] at h
    obtain ⟨v, r, rfl, h1, h2⟩ := h
    rw [List.reverse_cons, List.reverse_cons]
    exact (Rps.rev h2).append (.cons h1 .nil)
def revD : D → Option D
  | .lst ds => some (.lst ds.reverse)
  | .tup ds => some (.tup ds.reverse)
  | _ => none
theorem s_rev {k : Nat} {p1 p2 p3 : Pos} (he : SE X e m) : SE X (.Subscript e (.Slice none none (some (.UnaryOp .USub (.Constant (.int 1) k p1) p2)) p3) pos) (eUn revD m) :=
  ⟨fun B => PE.imp (peOr (pe_revL (he.pe B)) (pe_revT (he.pe B))) fun σ H Q ⟨s, d, s', k, e, q⟩ => by
    obtain ⟨dx, s1, h1, h2⟩ := bnd_some e
    obtain ⟨h3, rfl⟩ := lift_some h2
    cases dx <;> simp only [revD] at h3 <;> cases h3
    · refine .inr ⟨s, _, s', k, h1, fun v H1 k1 ev1 r1 => ?_⟩
      obtain ⟨a, vs, rfl, _, ha, rs⟩ := rp_tup r1
      exact ⟨a, vs, rfl, SqT.of ha, fun p np => q _ _ (k1.same (same_new np)) (ev1.trans (Ev.same (same_new np))) (.newTup k1.wt np rs.rev)⟩
    · refine .inl ⟨s, _, s', k, h1, fun v H1 k1 ev1 r1 => ?_⟩
      obtain ⟨a, vs, rfl, _, ha, rs⟩ := rp_lst r1
      exact ⟨a, vs, rfl, SqL.of ha, fun p np => q _ _ (k1.same (same_new np)) (ev1.trans (Ev.same (same_new np))) (.newLst k1.wt np rs.rev)⟩⟩

/-- a turn of the outer clause: the rows of the inner one -/
def cOut (vs vs1 : List Nat) (g : D → M Unit) (c : M Bool) (it1 : M (List D)) (g1 : D → M Unit) (c1 : M Bool) (el : M D) (d : D) : M (List D) := fun s =>
  (bnd (g d) fun _ => bnd c fun b => if b = true then bnd it1 (fun ds1 => compF vs1 g1 c1 el ds1) else ret []) { s with env := wipeE s.env vs }
def outF (vs : List Nat) (f : D → M (List D)) : List D → M (List D)
  | [] => ret []
  | d :: r => bnd (f d) fun ys => bnd (outF vs f r) fun zs => ret (ys ++ zs)
def eComp2 (vs vs1 : List Nat) (g : D → M Unit) (c : M Bool) (it1 : M (List D)) (g1 : D → M Unit) (c1 : M Bool) (el : M D) (it : M (List D)) : M (List D) := bnd it fun ds s1 =>
  match outF vs (cOut vs vs1 g c it1 g1 c1 el) ds s1 with
    | some (ys, sn) => if ys.length ≤ sizeLine then some (ys, { sn with env := restE s1.env sn.env vs }) else none
    | none => none
def tItx (m : M (List D)) : TI := fun σ H R => ∃ B, tIt B m σ H R
theorem SI.px {tg : Expr} {it : M (List D)} (h : SI X tg e it) : PI X tg e (tItx it) := ⟨fun pins s σ H Q I ⟨B, q⟩ => (h.pi B).run pins s σ H Q I q⟩
theorem lc2_go {B : Bs} {vs vs1 is is1 : List Nat} {g g1 : D → M Unit} {c c1 : M Bool} {el : M D} {it it1 : M (List D)} {σ : Sg} {H : Hp} {Q : VK} (hin : ∀ i ∈ is, i ∈ vs) (hin1 : ∀ i ∈ is1, i ∈ vs1) (hsub : ∀ i ∈ vs1, i ∈ vs) (h : tL B (eComp2 vs vs1 g c it1 g1 c1 el it) σ H Q) :
    tLc2 (tIt B it) (tGx is g) (tTx c) (tItx it1) (tGx is1 g1) (tTx c1) (tIx el) vs vs1 σ H Q := by
  obtain ⟨s, out, sE, k, e, q⟩ := h
  obtain ⟨ds, s1, e1, e2⟩ := bnd_some e
  refine ⟨s, ds, s1, k, e1, fun J H1 k1 ev1 wk => ?_⟩
  split at e2
  case h_2 => cases e2
  rename_i ys sn eF
  split at e2
  case isFalse => cases e2
  rename_i hsz
  cases e2
  intro A nA
  have nA0 := k1.new nA
  have hAp : A ≠ B.p := fun z => by subst z; rw [k1.src.d] at nA; cases nA
  have hAc : A ≠ B.c := fun z => by subst z; rw [k1.src.l] at nA; cases nA
  obtain ⟨kb, evb⟩ := k1.begin (o := .lst []) nA
  have kw := kb.wipe vs
  have evw : Ev (B.W s1.env σ) H1 ((B.plus A).W (wipeE s1.env vs) (wipe σ vs)) (upd H1 A (.lst [])) := evb.trans (Ev.less (W_wipe (B := B.plus A)))
  refine ⟨fun i m Hh => m = ds.length - i ∧ i ≤ ds.length ∧ ∃ si acc zs rest, StOk (B.plusO A (.lst acc)) (wipe σ vs) Hh { si with env := wipeE si.env vs } ∧ Ev (B.W s1.env σ) H1 ((B.plus A).W (wipeE si.env vs) (wipe σ vs)) Hh ∧
    Hh A = some (.lst acc) ∧ Rps B.p ((B.plus A).W (wipeE si.env vs) (wipe σ vs)) Hh zs acc ∧ outF vs (cOut vs vs1 g c it1 g1 c1 el) (ds.drop i) si = some (rest, sn) ∧ out = zs ++ rest,
    ⟨ds.length, by simp, Nat.zero_le _, s1, [], [], out, kw, evw, upd_same, .nil, eF, rfl⟩, ?_⟩
  rintro i m Hh ⟨rfl, hi, si, acc, zs, rest, ki, evi, hA, ri, eR, eOut⟩
  obtain ⟨w1, w2, w3⟩ := wk _ _ evi ki.wt
  by_cases hlt : i < ds.length
  · refine .inr ⟨w1 i hlt, _, fun H' hN => ⟨ds.length - (i + 1), by omega, hN⟩, fun x H' y => ?_⟩
    have hd : ds[i]? = some ds[i] := List.getElem?_eq_getElem hlt
    obtain ⟨sm, rx⟩ := w3 i _ x H' hd y
    rw [List.drop_eq_getElem_cons hlt] at eR
    obtain ⟨o, s2, eS, eR⟩ := bnd_some eR
    obtain ⟨rs, s3, eR2, e3⟩ := bnd_some eR
    obtain ⟨e4, rfl⟩ := ret_some e3
    obtain ⟨_, s4, eg, eS⟩ := bnd_some eS
    obtain ⟨b, s5, ec, eS⟩ := bnd_some eS
    have k1' := ki.same sm
    have ev' : Ev (B.W s1.env σ) H1 ((B.plus A).W (wipeE si.env vs) (wipe σ vs)) H' := evi.trans (Ev.same sm)
    refine ⟨B.plusO A (.lst acc), { si with env := wipeE si.env vs }, ds[i], s4, k1', rx, eg, fun σ2 k2 ev2 wp => ?_⟩
    have hw : wipe σ2 vs = wipe σ vs := by rw [wp vs hin, wipe_wipe]
    refine ⟨hw, B.plusO A (.lst acc), s4, b, s5, k2, ec, fun H3 k3 ev3 => ?_⟩
    have evA : Ev ((B.plus A).W (wipeE si.env vs) (wipe σ vs)) H' ((B.plus A).W s5.env σ2) H3 := Ev.trans ev2 ev3
    have smA : Ev ((B.plus A).W (wipeE si.env vs) (wipe σ vs)) Hh ((B.plus A).W (wipeE si.env vs) (wipe σ vs)) H' := Ev.same sm
    have evB : Ev ((B.plus A).W (wipeE si.env vs) (wipe σ vs)) Hh ((B.plus A).W s5.env σ2) H3 := smA.trans evA
    cases b with
    | true =>
      obtain ⟨ds1, s6, ei, eS⟩ := bnd_some eS
      refine ⟨B.plusO A (.lst acc), s5, ds1, s6, k3, ei, fun J1 H4 k4 ev4 wk1 => ?_⟩
      have evC : Ev ((B.plus A).W (wipeE si.env vs) (wipe σ vs)) Hh ((B.plus A).W s6.env σ2) H4 := evB.trans ev4
      have hA4 : H4 A = some (.lst acc) := k4.keep A _ upd_same hAp hAc
      have kw4 := k4.wipe vs1
      have evD : Ev ((B.plus A).W s6.env σ2) H4 ((B.plus A).W (wipeE s6.env vs1) (wipe σ2 vs1)) H4 := Ev.less (W_wipe (B := B.plus A))
      refine ⟨fun j m Hj => m = ds1.length - j ∧ j ≤ ds1.length ∧ ∃ sj accj zsj restj, StOk (B.plusO A (.lst accj)) (wipe σ2 vs1) Hj { sj with env := wipeE sj.env vs1 } ∧ Ev ((B.plus A).W s6.env σ2) H4 ((B.plus A).W (wipeE sj.env vs1) (wipe σ2 vs1)) Hj ∧
        Hj A = some (.lst accj) ∧ Rps B.p ((B.plus A).W (wipeE sj.env vs1) (wipe σ2 vs1)) Hj zsj accj ∧ compF vs1 g1 c1 el (ds1.drop j) sj = some (restj, s2) ∧ out = zsj ++ restj ++ rs,
        ⟨ds1.length, by simp, Nat.zero_le _, s6, acc, zs, o, kw4, evD, hA4, ri.ev (evC.trans evD), eS, by rw [eOut, e4, List.append_assoc]⟩, ?_⟩
      rintro j m Hj ⟨rfl, hj, sj, accj, zsj, restj, kj, evj, hAj, rj, eRj, eOutj⟩
      obtain ⟨u1, u2, u3⟩ := wk1 _ _ evj kj.wt
      by_cases hltj : j < ds1.length
      · refine .inr ⟨u1 j hltj, _, fun H' hN => ⟨ds1.length - (j + 1), by omega, hN⟩, fun x1 Hj' yj => ?_⟩
        have hdj : ds1[j]? = some ds1[j] := List.getElem?_eq_getElem hltj
        obtain ⟨smj, rxj⟩ := u3 j _ x1 Hj' hdj yj
        rw [List.drop_eq_getElem_cons hltj] at eRj
        obtain ⟨oj, s7, eSj, eRj⟩ := bnd_some eRj
        obtain ⟨rsj, s8, eRj2, e8⟩ := bnd_some eRj
        obtain ⟨e9, rfl⟩ := ret_some e8
        obtain ⟨_, s9, egj, eSj⟩ := bnd_some eSj
        obtain ⟨bj, s10, ecj, eSj⟩ := bnd_some eSj
        refine ⟨B.plusO A (.lst accj), { sj with env := wipeE sj.env vs1 }, ds1[j], s9, kj.same smj, rxj, egj, fun σ3 k9 ev9 wp9 => ?_⟩
        have hw1 : wipe σ3 vs1 = wipe σ2 vs1 := by rw [wp9 vs1 hin1, wipe_wipe]
        refine ⟨hw1, B.plusO A (.lst accj), s9, bj, s10, k9, ecj, fun H10 k10 ev10 => ?_⟩
        have evE : Ev ((B.plus A).W (wipeE sj.env vs1) (wipe σ2 vs1)) Hj ((B.plus A).W s10.env σ3) H10 := Ev.trans (Ev.same smj) (Ev.trans ev9 ev10)
        cases bj with
        | true =>
          obtain ⟨y', s11, eej, eSj⟩ := bnd_some eSj
          obtain ⟨rfl, rfl⟩ := ret_some eSj
          refine ⟨B.plusO A (.lst accj), s10, y', s7, k10, eej, fun v H11 k11 ev11 r11 => ?_⟩
          have hA11 : H11 A = some (.lst accj) := k11.keep A _ upd_same hAp hAc
          have kw11 := k11.wipe vs1
          rw [hw1] at kw11
          obtain ⟨kg, evg⟩ := kw11.grow (o' := .lst (accj ++ [v])) hAp hAc
          have wl : Ev ((B.plus A).W s7.env σ3) H11 ((B.plus A).W (wipeE s7.env vs1) (wipe σ2 vs1)) H11 := by
            rw [← hw1]; exact Ev.less (W_wipe (B := B.plus A))
          have evT : Ev ((B.plus A).W (wipeE sj.env vs1) (wipe σ2 vs1)) Hj ((B.plus A).W (wipeE s7.env vs1) (wipe σ2 vs1)) (upd H11 A (.lst (accj ++ [v]))) :=
            evE.trans (Ev.trans ev11 (wl.trans evg))
          have hlen := rj.length
          have hlt2 : accj.length < sizeLine := by
            have e5 : out.length = zsj.length + restj.length + rs.length := by rw [eOutj]; simp; omega
            have e6 : restj.length = rsj.length + 1 := by rw [e9]; simp
            omega
          refine ⟨accj, hA11, hlt2, rfl, hltj, s7, accj ++ [v], zsj ++ [y'], rsj, kg, evj.trans evT, upd_same, ?_, eRj2, by rw [eOutj, e9]; simp⟩
          exact (rj.ev evT).append (.cons (Rp.ev (wl.trans evg) _ _ r11) .nil)
        | false =>
          obtain ⟨rfl, rfl⟩ := ret_some eSj
          have kw10 := k10.wipe vs1
          rw [hw1] at kw10
          have wl : Ev ((B.plus A).W s7.env σ3) H10 ((B.plus A).W (wipeE s7.env vs1) (wipe σ2 vs1)) H10 := by
            rw [← hw1]; exact Ev.less (W_wipe (B := B.plus A))
          have evT : Ev ((B.plus A).W (wipeE sj.env vs1) (wipe σ2 vs1)) Hj ((B.plus A).W (wipeE s7.env vs1) (wipe σ2 vs1)) H10 := evE.trans wl
          have hA10 : H10 A = some (.lst accj) := k10.keep A _ upd_same hAp hAc
          exact ⟨rfl, hltj, s7, accj, zsj, rsj, kw10, evj.trans evT, hA10, rj.ev evT, eRj2, by rw [eOutj, e9]; simp⟩
      · have hn : j = ds1.length := by omega
        subst hn
        rw [List.drop_length] at eRj
        obtain ⟨rfl, e5⟩ := ret_some eRj
        refine .inl ⟨u2, ?_⟩
        have hee : wipe (wipe σ2 vs1) vs = wipe σ vs := by
          rw [← hw]
          have : ∀ us : List Nat, (∀ u ∈ us, u ∈ vs) → wipe (wipe σ2 us) vs = wipe σ2 vs := fun us => by
            induction us with
            | nil => intro _; rfl
            | cons u us ih =>
              intro hu
              show wipe ((wipe σ2 us).set u none) vs = _
              rw [wipe_set_mem (hu u List.mem_cons_self), ih fun z hz => hu z (List.mem_cons_of_mem _ hz)]
          exact this vs1 hsub
        have heE : wipeE (wipeE sj.env vs1) vs = wipeE sj.env vs := by
          have base : ∀ (env : List (Option Sl)) (ws us : List Nat) (u : Nat), u ∈ ws → wipeE (env.set u none) ws = wipeE env ws := fun env ws _ u => by
            induction ws with
            | nil => intro z; simp at z
            | cons w ws ih =>
              intro z
              unfold wipeE
              by_cases hm : u ∈ ws
              · rw [ih hm]
              · have e0 : u = w := by
                  rcases List.mem_cons.mp z with z | z
                  · exact z
                  · exact absurd z hm
                subst e0
                have out0 : ∀ ws : List Nat, u ∉ ws → (wipeE (env.set u none) ws).set u none = (wipeE env ws).set u none := fun ws => by
                  induction ws with
                  | nil => intro _; unfold wipeE; rw [List.set_set]
                  | cons a as ih2 =>
                    intro hn
                    have h1 : u ≠ a := fun z => hn (z ▸ List.mem_cons_self)
                    have h2 : u ∉ as := fun z => hn (List.mem_cons_of_mem _ z)
                    unfold wipeE
                    rw [List.set_comm _ _ (Ne.symm h1), ih2 h2, List.set_comm _ _ h1]
                exact out0 ws hm
          have : ∀ us : List Nat, (∀ u ∈ us, u ∈ vs) → wipeE (wipeE sj.env us) vs = wipeE sj.env vs := fun us => by
            induction us with
            | nil => intro _; rfl
            | cons u us ih =>
              intro hu
              show wipeE ((wipeE sj.env us).set u none) vs = _
              rw [base _ _ us u (hu u List.mem_cons_self), ih fun z hz => hu z (List.mem_cons_of_mem _ hz)]
          exact this vs1 hsub
        have kk := kj.wipe vs
        have kk : StOk (B.plusO A (.lst accj)) (wipe σ vs) Hj { sj with env := wipeE sj.env vs } := by
          rw [← hee]
          have : ({ sj with env := wipeE sj.env vs } : S) = { sj with env := wipeE (wipeE sj.env vs1) vs } := by rw [heE]
          rw [this]; exact kk
        have evF : Ev ((B.plus A).W (wipeE sj.env vs1) (wipe σ2 vs1)) Hj ((B.plus A).W (wipeE sj.env vs) (wipe σ vs)) Hj := by
          rw [← hee, ← heE]; exact Ev.less (W_wipe (B := B.plus A))
        subst e5
        exact ⟨rfl, hlt, s2, accj, zsj, rs, kk, evi.trans (evC.trans (evj.trans evF)), hAj, rj.ev evF, eR2, by rw [eOutj]; simp⟩
    | false =>
      obtain ⟨rfl, rfl⟩ := ret_some eS
      have kw3 := k3.wipe vs
      rw [hw] at kw3
      have wl : Ev ((B.plus A).W s2.env σ2) H3 ((B.plus A).W (wipeE s2.env vs) (wipe σ vs)) H3 := by
        rw [← hw]; exact Ev.less (W_wipe (B := B.plus A))
      have evT : Ev ((B.plus A).W (wipeE si.env vs) (wipe σ vs)) Hh ((B.plus A).W (wipeE s2.env vs) (wipe σ vs)) H3 := evB.trans wl
      have hA3 : H3 A = some (.lst acc) := k3.keep A _ upd_same hAp hAc
      exact ⟨rfl, hlt, s2, acc, zs, rs, kw3, evi.trans evT, hA3, ri.ev evT, eR2, by rw [eOut, e4]; simp⟩
  · have hn : i = ds.length := by omega
    subst hn
    rw [List.drop_length] at eR
    obtain ⟨rfl, e5⟩ := ret_some eR
    subst e5
    refine .inl ⟨w2, ?_⟩
    have kf := ki.finish nA0
    have sub : ∀ b, (B.plus A).W (restE s1.env sn.env vs) σ b → (B.plus A).W (wipeE sn.env vs) (wipe σ vs) b := fun b hb => by
      rcases hb with hb | ⟨j, sl, h1, h2, h3⟩
      · exact .inl hb
      · rcases restE_get h1 with ⟨n1, h4⟩ | ⟨_, _, d, rfl⟩
        · exact .inr ⟨j, sl, by rw [wipeE_get n1]; exact h4, h2, by rw [wipe_get n1]; exact h3⟩
        · cases h2
    have evf : Ev ((B.plus A).W (wipeE sn.env vs) (wipe σ vs)) Hh ((B.plus A).W (restE s1.env sn.env vs) σ) Hh := Ev.less sub
    have kR : StOk (B.plus A) σ Hh { sn with env := restE s1.env sn.env vs } := by
      refine ⟨?_, fun j d h => ?_, fun j sl h ho => ?_, fun j1 j2 sl1 sl2 b h1 o1 h2 o2 q1 q2 => ?_, kf.src, kf.keep, kf.wc, kf.wp, kf.wcc⟩
      · have := kf.len
        rw [wipe_length] at this
        show (restE s1.env sn.env vs).length = _
        rw [restE_len, ← this]
        exact (wipeE_len _ _).symm
      · rcases restE_get h with ⟨n1, h4⟩ | ⟨n1, h4, _⟩
        · obtain ⟨v, h5, h6⟩ := kf.val j d (by show (wipeE sn.env vs)[j]? = _; rw [wipeE_get n1]; exact h4)
          rw [wipe_get n1] at h5
          exact ⟨v, h5, h6.ev evf⟩
        · obtain ⟨v, h5, h6⟩ := k1.val j d h4
          exact ⟨v, h5, Rp.ev (evi.trans evf) _ _ h6⟩
      · rcases restE_get h with ⟨n1, h4⟩ | ⟨_, _, d, rfl⟩
        · obtain ⟨b, o, h5, h6, h7, h8⟩ := kf.own j sl (by show (wipeE sn.env vs)[j]? = _; rw [wipeE_get n1]; exact h4) ho
          rw [wipe_get n1] at h5
          exact ⟨b, o, h5, h6, h7.ev evf, h8⟩
        · cases ho
      · rcases restE_get h1 with ⟨n1, h4⟩ | ⟨_, _, d, rfl⟩
        · rcases restE_get h2 with ⟨n2, h5⟩ | ⟨_, _, d, rfl⟩
          · exact kf.sep j1 j2 sl1 sl2 b (by show (wipeE sn.env vs)[j1]? = _; rw [wipeE_get n1]; exact h4) o1 (by show (wipeE sn.env vs)[j2]? = _; rw [wipeE_get n2]; exact h5) o2 (by rw [wipe_get n1]; exact q1) (by rw [wipe_get n2]; exact q2)
          · cases o2
        · cases o1
    refine q A acc Hh kR (ev1.trans (evi.trans evf)) nA0 ?_ hA (by rw [eOut]; simpa using ri.ev evf)
    rintro (z | ⟨j, sl, h1, h2, h3⟩)
    · obtain ⟨o, ho, _⟩ := k1.wc A z
      rw [nA] at ho; cases ho
    · obtain ⟨b, o, h5, _, _, _, h8⟩ := kR.own j sl h1 h2
      rw [h3] at h5; cases h5
      exact h8 (.inr rfl)

section
variable {elt tg iter tg1 iter1 : Expr} {ifs ifs1 : List Expr} {scope : Scope} {own : List (Str × Nat)} {g g1 : D → M Unit} {mc mc1 : M Bool} {el : M D} {it it1 : M (List D)} {is is1 vs1 : List Nat}
/-- what the parts of a comprehension of two clauses are, in any block of it -/
structure CompOk2 (X : Cx) (elt tg : Expr) (ifs : List Expr) (tg1 iter1 : Expr) (ifs1 : List Expr) (scope : Scope) (own : List (Str × Nat)) (vs1 is is1 : List Nat) (g : D → M Unit) (mc : M Bool) (it1 : M (List D)) (g1 : D → M Unit) (mc1 : M Bool) (el : M D) : Prop where
  calm : X.calm = true
  nd : X.N.Nodup
  ok : BlkOk X.N X.env.scope scope own
  sub : ∀ i ∈ is, i ∈ own.map (·.2)
  sub1 : ∀ i ∈ is1, i ∈ vs1
  vs : ∀ i ∈ vs1, i ∈ own.map (·.2)
  hg : ∀ (s : Shared) (H : Hp) (C : Addr) (cl : List (Str × Addr)) (fp : List Addr), SG (X.blk s H scope (compEnvC scope cl C X.env) fp) tg is g
  ht : ∀ (s : Shared) (H : Hp) (C : Addr) (cl : List (Str × Addr)) (fp : List Addr), SF (X.blk s H scope (compEnvC scope cl C X.env) fp) ifs mc
  hi1 : ∀ (s : Shared) (H : Hp) (C : Addr) (cl : List (Str × Addr)) (fp : List Addr), SI (X.blk s H scope (compEnvC scope cl C X.env) fp) tg1 iter1 it1
  hg1 : ∀ (s : Shared) (H : Hp) (C : Addr) (cl : List (Str × Addr)) (fp : List Addr), SG (X.blk s H scope (compEnvC scope cl C X.env) fp) tg1 is1 g1
  ht1 : ∀ (s : Shared) (H : Hp) (C : Addr) (cl : List (Str × Addr)) (fp : List Addr), SF (X.blk s H scope (compEnvC scope cl C X.env) fp) ifs1 mc1
  he : ∀ (s : Shared) (H : Hp) (C : Addr) (cl : List (Str × Addr)) (fp : List Addr), SE (X.blk s H scope (compEnvC scope cl C X.env) fp) elt el
theorem l_comp2 (C : CompOk2 X elt tg ifs tg1 iter1 ifs1 scope own vs1 is is1 g mc it1 g1 mc1 el) (hi : SI X tg iter it) (hs : ∀ x, foldedSetIterable iter X.env x = pure x := by intro _; rfl) (hs1 : ∀ env x, foldedSetIterable iter1 env x = pure x := by intro _ _; rfl) :
    SL X (.ListComp elt [⟨tg, iter, ifs, 0⟩, ⟨tg1, iter1, ifs1, 0⟩] scope pos) (eComp2 (own.map (·.2)) vs1 g mc it1 g1 mc1 el it) :=
  ⟨fun B => PE.imp (pe_lc2 C.calm C.nd (hi.pi B) C.ok C.vs (fun s H c cl fp => (C.hg s H c cl fp).px) (fun s H c cl fp => (C.ht s H c cl fp).pt) (fun s H c cl fp => (C.hi1 s H c cl fp).px) (fun s H c cl fp => (C.hg1 s H c cl fp).px) (fun s H c cl fp => (C.ht1 s H c cl fp).pt) (fun s H c cl fp => (C.he s H c cl fp).px) hs hs1) fun σ H Q h => lc2_go C.sub C.sub1 C.vs h⟩
theorem s_setLc2 {i : Nat} {y : Str} {py cpos : Pos} (hy : X.N[i]? = some y) (hyl : X.env.scope.names.lookup y = some .local) (hsw : swapsWith (.ListComp elt [⟨tg, iter, ifs, 0⟩, ⟨tg1, iter1, ifs1, 0⟩] scope cpos) (some (.Name y py)) pos.line X.env = pure true)
    (C : CompOk2 X elt tg ifs tg1 iter1 ifs1 scope own vs1 is is1 g mc it1 g1 mc1 el) (hi : SI X tg iter it) (hs : ∀ x, foldedSetIterable iter X.env x = pure x := by intro _; rfl) (hs1 : ∀ env x, foldedSetIterable iter1 env x = pure x := by intro _ _; rfl) :
    SS X (.Assign [.Name y py] (.ListComp elt [⟨tg, iter, ifs, 0⟩, ⟨tg1, iter1, ifs1, 0⟩] scope cpos) pos) (sSet i (eLst (eComp2 (own.map (·.2)) vs1 g mc it1 g1 mc1 el it))) :=
  ⟨fun B => PS.imp (ps_setLc2 C.calm C.nd hy hyl hsw (hi.pi B) C.ok C.vs (fun s H c cl fp => (C.hg s H c cl fp).px) (fun s H c cl fp => (C.ht s H c cl fp).pt) (fun s H c cl fp => (C.hi1 s H c cl fp).px) (fun s H c cl fp => (C.hg1 s H c cl fp).px) (fun s H c cl fp => (C.ht1 s H c cl fp).pt) (fun s H c cl fp => (C.he s H c cl fp).px) hs hs1) fun D σ H h =>
    asg_go (fun _ _ _ z => lc2_go C.sub C.sub1 C.vs (tL_tI z)) tG_name h⟩
theorem s_ownLc2 {i : Nat} {y : Str} {py cpos : Pos} (hy : X.N[i]? = some y) (hyl : X.env.scope.names.lookup y = some .local) (hsw : swapsWith (.ListComp elt [⟨tg, iter, ifs, 0⟩, ⟨tg1, iter1, ifs1, 0⟩] scope cpos) (some (.Name y py)) pos.line X.env = pure true)
    (C : CompOk2 X elt tg ifs tg1 iter1 ifs1 scope own vs1 is is1 g mc it1 g1 mc1 el) (hi : SI X tg iter it) (hs : ∀ x, foldedSetIterable iter X.env x = pure x := by intro _; rfl) (hs1 : ∀ env x, foldedSetIterable iter1 env x = pure x := by intro _ _; rfl) :
    SS X (.Assign [.Name y py] (.ListComp elt [⟨tg, iter, ifs, 0⟩, ⟨tg1, iter1, ifs1, 0⟩] scope cpos) pos) (sOwn i (eComp2 (own.map (·.2)) vs1 g mc it1 g1 mc1 el it)) :=
  ⟨fun B => PS.imp (ps_setLc2 C.calm C.nd hy hyl hsw (hi.pi B) C.ok C.vs (fun s H c cl fp => (C.hg s H c cl fp).px) (fun s H c cl fp => (C.ht s H c cl fp).pt) (fun s H c cl fp => (C.hi1 s H c cl fp).px) (fun s H c cl fp => (C.hg1 s H c cl fp).px) (fun s H c cl fp => (C.ht1 s H c cl fp).pt) (fun s H c cl fp => (C.he s H c cl fp).px) hs hs1) fun D σ H h =>
    own_go (fun _ _ _ z => lc2_go C.sub C.sub1 C.vs z) h⟩
end
end
end GH

namespace GH
open PySem PySem.Spec PyProof.Rows L2

def srcKvs (c : Addr) (s : Src) : List (Key × V) := [(kCells, .ref c), (kLeft, .int s.left), (kMixed, .int s.mixed), (kTurn, .int s.turn)]
section
variable {X : Cx} {e : Expr} {x : Str} {i j n : Nat} {ky : String} {p p2 pos : Pos} {m : M D}
def eFld (i : Nat) (f : Src → Int) : M D := fun s => match s.env[i]? with
  | some (some (.val .src)) => some (.int (f s.src), s)
  | _ => none
theorem src_slot {B : Bs} {σ : Sg} {H : Hp} {s : S} (k : StOk B σ H s) (h : s.env[i]? = some (some (.val .src))) : σ[i]? = some (some (.ref B.p)) := by
  obtain ⟨v, h1, h2⟩ := k.val i _ h
  have h2 : v = .ref B.p := by simpa only [Rp] using h2
  rw [h1, h2]
theorem s_fld {f : Src → Int} (hx : PE X (.Name x p) (tVar i)) (hu : X.A.units + 1 < cLine) (hv : ∀ (s : Src) (c : Addr), valV (srcKvs c s) (.inr (Str.ofString ky)) = some (.int (f s))) : SE X (.Subscript (.Name x p) (.Constant (.str (Str.ofString ky)) n p2) pos) (eFld i f) :=
  ⟨fun B => PE.imp (pe_dget hu hx (pe_str (j := n) (pos := p2)) (fun _ _ => rfl)) fun σ H Q ⟨s, d, s', k, e, q⟩ => by
    unfold eFld at e
    split at e
    · rename_i hi
      cases e
      refine ⟨_, src_slot k hi, ?_⟩
      have g := DGet.k (k := .inr (Str.ofString ky)) k.src.d
      rw [show [(kCells, V.ref B.c), (kLeft, .int s.src.left), (kMixed, .int s.src.mixed), (kTurn, .int s.src.turn)] = srcKvs B.c s.src from rfl, hv] at g
      exact ⟨B.p, _, rfl, g, q _ H k Ev.refl (.mkInt _)⟩
    · cases e⟩
def sFld (i : Nat) (g : Src → Int → Src) (m : M D) : M Out := bnd m fun d s => match d, s.env[i]? with
  | .int z, some (some (.val .src)) => some (.nx, ⟨s.env, g s.src z⟩)
  | _, _ => none
theorem StOk.fld {B : Bs} {σ : Sg} {H : Hp} {s : S} {c' : Src} {o : HO} (k : StOk B σ H s) (ho : o = .dK (srcKvs B.c c')) (hc : c'.cells = s.src.cells) : StOk B σ (upd H B.p o) ⟨s.env, c'⟩ ∧ Ev (B.W s.env σ) H (B.W s.env σ) (upd H B.p o) :=
  k.called (fun a x h n1 _ => by rw [upd_ne n1]; exact h) ⟨by rw [upd_same, ho]; rfl, by rw [upd_ne (Ne.symm k.src.ne), hc]; exact k.src.l⟩
theorem s_fldSet {g : Src → Int → Src} (hx : PE X (.Name x p) (tVar i)) (hu : X.A.units + 1 < cLine) (he : SE X e m) (hg : ∀ (s : Src) (z : Int) (c : Addr), putK (srcKvs c s) (.inr (Str.ofString ky)) (.int z) = srcKvs c (g s z)) (hc : ∀ s z, (g s z).cells = s.cells) {p3 : Pos}
    (hs : swapsWith e (some (.Subscript (.Name x p) (.Constant (.str (Str.ofString ky)) n p2) p3)) pos.line X.env = pure false := by rfl) : SS X (.Assign [.Subscript (.Name x p) (.Constant (.str (Str.ofString ky)) n p2) p3] e pos) (sFld i g m) :=
  ⟨fun B => PS.imp (ps_dput hu hx pe_str (he.pe B) hs) fun D σ H ⟨s, o, s', k, e, q⟩ => by
    refine tI.bind k e fun d s1 v H1 h1 e1 k1 ev1 r1 => ?_
    split at e1
    · rename_i z hi
      cases e1
      have hv := rp_int r1
      subst hv
      refine ⟨_, src_slot k1 hi, B.p, _, rfl, DPut.k (k := .inr (Str.ofString ky)) k1.src.d (by show 4 < sizeLine; decide), ?_⟩
      obtain ⟨k2, ev2⟩ := k1.fld (c' := g s1.src z) (o := .dK (putK (srcKvs B.c s1.src) (.inr (Str.ofString ky)) (.int z))) (by rw [hg]) (hc _ _)
      exact q σ _ k2 (ev1.trans ev2)
    · cases e1⟩
/-- a slot whose name is bound, and of which nothing is told -/
theorem StOk.dead {B : Bs} {σ : Sg} {H : Hp} {s : S} {v : V} (k : StOk B σ H s) (h : s.env[j]? = some none) : StOk B (σ.set j (some v)) H s ∧ ∀ b, B.W s.env (σ.set j (some v)) b ↔ B.W s.env σ b := by
  have ne : ∀ (i : Nat) (x : Sl), s.env[i]? = some (some x) → j ≠ i := fun i x hi z => by subst z; rw [h] at hi; cases hi
  have w : ∀ b, B.W s.env (σ.set j (some v)) b ↔ B.W s.env σ b := fun b => by
    constructor
    · rintro (z | ⟨i, x, h1, h2, h3⟩)
      · exact .inl z
      · rw [List.getElem?_set_ne (ne i x h1)] at h3; exact .inr ⟨i, x, h1, h2, h3⟩
    · rintro (z | ⟨i, x, h1, h2, h3⟩)
      · exact .inl z
      · exact .inr ⟨i, x, h1, h2, by rw [List.getElem?_set_ne (ne i x h1)]; exact h3⟩
  have ev : Ev (B.W s.env σ) H (B.W s.env (σ.set j (some v))) H := Ev.less fun b hb => (w b).mp hb
  refine ⟨⟨by simpa using k.len, fun i d hi => ?_, fun i sl hi ho => ?_, fun i1 i2 sl1 sl2 a h1 o1 h2 o2 q1 q2 => ?_, k.src, k.keep, k.wc, k.wp, k.wcc⟩, w⟩
  · obtain ⟨u, h1, h2⟩ := k.val i d hi
    exact ⟨u, by rw [List.getElem?_set_ne (ne i _ hi)]; exact h1, h2.ev ev⟩
  · obtain ⟨a, o, h1, h2, h3, h4⟩ := k.own i sl hi ho
    exact ⟨a, o, by rw [List.getElem?_set_ne (ne i _ hi)]; exact h1, h2, h3.ev ev, h4⟩
  · rw [List.getElem?_set_ne (ne i1 _ h1)] at q1
    rw [List.getElem?_set_ne (ne i2 _ h2)] at q2
    exact k.sep i1 i2 sl1 sl2 a h1 o1 h2 o2 q1 q2
def drainN : Nat → Src → Src
  | 0, s => s
  | n + 1, s => if s.left < 2 ∧ s.cells ≠ [] then drainN n { s with cells := s.cells.dropLast, left := s.cells.getLastD 0 } else s
def drain (s : Src) : Src := drainN s.cells.length s
abbrev rLtI : R2 := rI0 fun i j => .bl (decide (i < j))
abbrev rGtI : R2 := rI0 fun i j => .bl (decide (j < i))
abbrev rLenX (K : PySem.W.Frag) : List V → Hp → VK → Prop := fun xs H Q => ∃ x n, xs = [x] ∧ LenV K x H n ∧ Q (.int n) H
def mDrain (i j : Nat) (mr : M Out) : M Out := fun s => match s.env[i]?, s.env[j]? with
  | some (some (.val .src)), some none => mr ⟨s.env, drain s.src⟩
  | _, _ => none
/-- cells = source['cells']; while source['left'] < 2 and len(cells) > 0: source['left'] = cells.pop() -/
theorem s_drain {st1 st2 : Stmt} {rest : List Stmt} {mr : M Out} (hij : i ≠ j) (h1 : PS X st1 (tAsg (tDGet (tVar i) (tC (.str "cells"))) (gName j)))
    (h2 : PS X st2 (tWhile (tAnd (tTest (tOp rLtI (tDGet (tVar i) (tC (.str "left"))) (tC (.int 2)))) (tTest (tOp rGtI (tCB (rLenX X.K) (tCons (tVar j) tNil)) (tC (.int 0))))) (sDPut (tVar i) (tC (.str "left")) (tBM0 X.K "list" rPop (tVar j)))))
    (hr : SSs X rest mr) : SSs X (st1 :: st2 :: rest) (mDrain i j mr) := ⟨fun B => PSs.imp (pss_cons h1 (pss_cons h2 (hr.ps B))) fun D σ H ⟨s, o, s', k, e, q⟩ => by
  unfold mDrain at e
  split at e
  · rename_i hi hj
    refine ⟨_, src_slot k hi, B.p, _, rfl, DGet.k (k := kCells) k.src.d, ?_⟩
    obtain ⟨k1, w1⟩ := k.dead (v := .ref B.c) hj
    have ev1 : Ev (B.W s.env σ) H (B.W s.env (σ.set j (some (.ref B.c)))) H := Ev.less fun b hb => (w1 b).mp hb
    have hjl : j < σ.length := by rw [← k.len]; exact (List.getElem?_eq_some_iff.mp hj).1
    have sj : (σ.set j (some (V.ref B.c)))[j]? = some (some (.ref B.c)) := List.getElem?_set_self hjl
    have si := src_slot k1 hi
    show tWhile _ _ _ (σ.set j (some (.ref B.c))) H
    refine ⟨fun n σi Hi => σi = σ.set j (some (.ref B.c)) ∧ ∃ c', c'.cells.length = n ∧ StOk B (σ.set j (some (.ref B.c))) Hi ⟨s.env, c'⟩ ∧ Ev (B.W s.env σ) H (B.W s.env (σ.set j (some (.ref B.c)))) Hi ∧ drainN n c' = drain s.src,
      ⟨s.src.cells.length, rfl, s.src, rfl, k1, ev1, rfl⟩, ?_⟩
    rintro n σi Hi ⟨rfl, c', hn, ki, evi, hd⟩
    refine ⟨_, si, B.p, _, rfl, DGet.k (k := kLeft) ki.src.d, c'.left, 2, rfl, rfl, _, rfl, ?_⟩
    have leave : (¬ (c'.left < 2 ∧ c'.cells ≠ [])) → tS B mr D (σ.set j (some (.ref B.c))) Hi := fun hno => by
      have e3 : drainN n c' = c' := by
        cases n with
        | zero => rfl
        | succ n => exact if_neg hno
      rw [e3] at hd
      refine ⟨⟨s.env, c'⟩, o, s', ki, by rw [hd]; exact e, q.ev evi⟩
    by_cases hl : c'.left < 2
    · show (if decide (c'.left < 2) = true then _ else _)
      rw [if_pos (decide_eq_true hl)]
      refine ⟨_, sj, _, (c'.cells.map V.int).length, rfl, .inl ⟨_, SqL.of ki.src.l, rfl⟩, _, 0, rfl, rfl, _, rfl, ?_⟩
      by_cases hc : c'.cells = []
      · have : ¬ (0 : Int) < (((c'.cells.map V.int).length : Nat) : Int) := by rw [hc]; simp
        show (if decide ((0 : Int) < (((c'.cells.map V.int).length : Nat) : Int)) = true then _ else _)
        rw [if_neg (by simpa using this)]
        exact leave fun z => z.2 hc
      · have hpos : 0 < c'.cells.length := List.length_pos_iff.mpr hc
        have : (0 : Int) < (((c'.cells.map V.int).length : Nat) : Int) := by rw [List.length_map]; omega
        show (if decide ((0 : Int) < (((c'.cells.map V.int).length : Nat) : Int)) = true then _ else _)
        rw [if_pos (by simpa using this)]
        cases n with
        | zero => omega
        | succ n =>
          have hlast : (c'.cells.map V.int)[(c'.cells.map V.int).length - 1]? = some (.int (c'.cells.getLastD 0)) := by
            rw [← List.getLast?_eq_getElem?, List.getLast?_map]
            cases hg : c'.cells.getLast? with
            | none => exact absurd (List.getLast?_eq_none_iff.mp hg) hc
            | some z => simp [List.getLastD_eq_getLast?, hg]
          refine ⟨_, fun σ' H' hN => ⟨n, Nat.lt_succ_self _, hN⟩, ?_⟩
          refine ⟨_, sj, .inl ⟨rfl, _, SqL.of ki.src.l⟩, B.c, _, _, rfl, rfl, ki.src.l, hlast, ?_⟩
          refine ⟨_, si, B.p, _, rfl, DPut.k (k := kLeft) (by rw [upd_ne ki.src.ne]; exact ki.src.d) (by show 4 < sizeLine; decide), ?_⟩
          have hd2 : drainN n { c' with cells := c'.cells.dropLast, left := c'.cells.getLastD 0 } = drain s.src := by
            rw [← hd]
            exact (if_pos (show c'.left < 2 ∧ c'.cells ≠ [] from ⟨hl, hc⟩)).symm
          obtain ⟨k2, ev2⟩ := ki.called (H' := upd (upd Hi B.c (.lst (c'.cells.map V.int).dropLast)) B.p (.dK (putK (srcKvs B.c c') kLeft (.int (c'.cells.getLastD 0))))) (c' := { c' with cells := c'.cells.dropLast, left := c'.cells.getLastD 0 })
            (fun a x h n1 n2 => by rw [upd_ne n1, upd_ne n2]; exact h) ⟨by rw [upd_same]; rfl, by rw [upd_ne (Ne.symm ki.src.ne), upd_same, List.map_dropLast]⟩
          exact ⟨rfl, _, by simp; omega, k2, evi.trans ev2, hd2⟩
    · have : ¬ decide (c'.left < 2) = true := by simpa using hl
      show (if decide (c'.left < 2) = true then _ else _)
      rw [if_neg this]
      exact leave fun z => hl z.1
  · cases e⟩
end
end GH

namespace GH
open PySem PySem.Spec PyProof.Rows L2

/-- the def at f keeps the promise sp, its calls k deep, where no text of an object is being made around -/
def FnR0 (P : Program) (w : World) (K : PySem.W.Frag) (mg : Str → Option Value) (base : Heap) (k : Nat) (f : Addr) (sp : Sp) : Prop :=
  ∀ (A : Around) (outer : List Env) (s : Shared) (H : Hp) (us : List Value) (vs : List V) (Q : VK), RG k A → Env0 P w K mg base A outer s H → Vals vs us → sp vs H Q E0 →
    codeAny (model P w) A (.call (.ref f) ⟨us, []⟩) (CR CX0 outer P w H s Q E0) s
structure FnW (P : Program) (w : World) (K : PySem.W.Frag) (mg : Str → Option Value) (base : Heap) (k : Nat) (x : Str) (sp : Sp) : Prop where
  ok : ∃ f : Addr, mg x = some (.ref f) ∧ PySem.W.keepIn K (.ref f) = true ∧ FnR0 P w K mg base k f sp
theorem fn_raw {P : Program} {w : World} {K : PySem.W.Frag} {mg : Str → Option Value} {base : Heap} {x : Str} {params : Arguments} {code : List Stmt} {scope : Scope} {f : Addr} {fd : FuncData} {N ps : List Str} {k : Nat} {sp : Sp} {t : TS}
    (F : FunD K x x params code scope [] [] f fd) (hm : mg x = some (.ref f)) (hb : Binds K fd ps []) (S : FnScope N ps scope) (hl : ∀ vs H Q, sp vs H Q E0 → vs.length = ps.length)
    (body : ∀ (cdv : Value) (A : Around) (outer : List Env) (s : Shared) (H : Hp), RG k (A.deeper (envOfC x scope s.heap.objs.size f cdv)) → PSs (cxOf CX0 P w K mg base N x scope f cdv A outer s H E0).nox code t)
    (pure : ∀ vs H Q, sp vs H Q E0 → t { nx := fun _ H' => Q .non H', rt := Q } (L2.start N vs) H) : FnW P w K mg base (k + 1) x sp := by
  obtain ⟨oc, od, dV, kV, doc, pm, an, cdv, ct, osl, efd, lk, hcd, _, _⟩ := F.ex
  subst efd
  refine ⟨f, hm, F.kp, fun A outer s H us vs Q hr e0 r h => ?_⟩
  have KX : K.In s.heap := e0.mod.kin.keeps fun b o e => (e0.bs b o e).1
  refine StX.run_bnd (G := fun xs H2 => xs = vs ∧ H2 = H) (E := E0) lk hcd S hr.r e0 (fun A' Ex Q' hq => ?_) fun s2 H2 xs ⟨ex, eH⟩ hr2 => ?_
  · have bb := hb s us KX (by rw [List.append_nil, ← r.length, hl vs H Q h])
    rw [List.append_nil] at bb
    exact bb _ _ _ _ (hq s H vs us e0 Un.refl rfl (fun _ _ z => z) r (hl vs H Q h) ⟨rfl, rfl⟩)
  · subst ex
    subst eH
    exact ⟨_, PSs.nox (body cdv A outer s2 H2 ⟨hr2, hr.g⟩), pure _ _ _ h⟩
section
variable {X : Cx} {e : Expr} {es : List Expr} {pos p : Pos} {ta : TA}
/-- a call of such a def -/
theorem pe_raw {k : Nat} {x : Str} {sp : Sp} (F : FnW X.prog X.w X.K X.mg X.base k x sp) (hr : RG k X.A) (hg : Gl X x) (ha : PA X (e :: es) ta) (hdb : (x == ("__debug__" : Str)) = false := by decide)
    (he : starEach (e :: es) X.env = (false, eval e X.env) :: starEach es X.env := by rfl) (hpl : (backTo pos (starEach es X.env)).any (·.1) = false := by rfl) : PE X (.Call (.Name x p) (e :: es) [] pos) (fun σ H Q => ta σ H fun vs H1 => sp vs H1 Q E0) := by
  obtain ⟨f, h1, h2, h3⟩ := F.ok
  refine ⟨fun pins sh σ H Q I h => ?_⟩
  refine wpAny_Call_Name_kw (ld_glob I hg h1 ?_ hdb)
  refine PySem.W.callWith_K (h₀ := X.base) I.ok.mod.kin h2 (thn (ha.run pos pins sh σ H _ I h) fun us s1 ⟨vs, H1, I1, r, q⟩ => ⟨I1.kIn, ?_⟩) he hpl
  refine wpAny_call (codeAny_mono (h3 X.A X.stack s1 H1 us vs Q hr I1.env0 r q) fun res s' hq => ?_)
  cases res with
  | error e => exact False.elim hq
  | ok fl =>
    cases fl with
    | ret u => exact I1.after hq
    | next => exact False.elim hq
    | brk => exact False.elim hq
    | cont => exact False.elim hq
end

theorem SqL.grow {K : PySem.W.Frag} {H H' : Hp} {a : Addr} {xs : List V} (h : SqL K H a xs) (s : Same H H') : SqL K H' a xs := by
  rcases h with (h | ⟨o, h⟩) | h
  · exact .inl (.inl (s _ _ h))
  · exact .inl (.inr ⟨o, s _ _ h⟩)
  · exact .inr h
def spOpen (K : PySem.W.Frag) : Sp := fun vs H Q _ => ∃ (a : Addr) (ns : List Int), vs = [.ref a] ∧ SqL K H a (ns.map V.int) ∧ ns.length < sizeLine ∧ ∀ (p c : Addr) (m : Int) (H' : Hp), Same H H' → H p = none → H c = none → SrcOk p c H' ⟨(ns.map fun i => if i < 0 then -i else i).reverse, 1, m, 0⟩ → Q (.ref p) H'
abbrev rMulI : R2 := rI CMul fun i j => .int (i * j)
abbrev rAddI : R2 := rI0 fun i j => .int (i + j)
abbrev rModI : R2 := rI (fun _ j => j ≠ 0) fun i j => .int (i.fmod j)
abbrev rIntC : List V → Hp → VK → Prop := fun xs H Q => (∃ i, xs = [.int i] ∧ Q (.int i) H) ∨ ∃ k, xs = [.bl k] ∧ Q (.int (if k then 1 else 0)) H
abbrev rAbsC : List V → Hp → VK → Prop := fun xs H Q => ∃ i, xs = [.int i] ∧ Q (.int (if i < 0 then -i else i)) H
def tOpenTurn : TS := tAsg (tOp rModI (tCB rIntC (tCons (tOp rAddI (tOp rAddI (tOp rMulI (tVar 1) (tC (.int 69069))) (tOp rMulI (tVar 2) (tC (.int 31)))) (tC (.int 5))) tNil)) (tC (.int 2147483629))) (gName 1)
def tOpen (K : PySem.W.Frag) : TS := tSeq (tAsg (tC (.int 11)) (gName 1)) (tSeq (tFor (iList K (tVar 0)) (gName 2) tOpenTurn)
  (tSeq (tAsg (tLc (iList K (tVar 0)) (gName 2) tYes (tCB rAbsC (tCons (tVar 2) tNil)) [2]) (gName 3))
    (tRet (tDisp [(tC (.str "cells"), tRevL K (tVar 3)), (tC (.str "left"), tC (.int 1)), (tC (.str "mixed"), tVar 1), (tC (.str "turn"), tC (.int 0))]))))
theorem xs_at {ns : List Int} (i : Nat) (x : V) (h : (ns.map V.int)[i]? = some x) : ∃ n, ns[i]? = some n ∧ x = .int n := by
  rw [List.getElem?_map] at h
  obtain ⟨n, h1, h2⟩ := Option.map_eq_some_iff.mp h
  exact ⟨n, h1, h2.symm⟩
theorem open_for {K : PySem.W.Frag} {a : Addr} {ns : List Int} {D : Ends} {H : Hp} (hs : SqL K H a (ns.map V.int)) (q : ∀ m o, D.nx [some (.ref a), some (.int m), o, none] H) : tFor (iList K (tVar 0)) (gName 2) tOpenTurn D [some (.ref a), some (.int 11), none, none] H := by
  refine ⟨_, rfl, a, rfl, ⟨_, hs⟩, ?_⟩
  refine for_list (xs := ns.map V.int) (D := D) (fun i σ H' => H' = H ∧ ∃ m o, σ = [some (.ref a), some (.int m), o, none]) ⟨rfl, 11, none, rfl⟩ (fun i σ H' _ ⟨e, _⟩ => e ▸ hs) (fun i x σ H' hx ⟨e, m, o, es⟩ => ?_) fun σ H' ⟨e, m, o, es⟩ => by subst e es; exact q m o
  subst e es
  obtain ⟨n, _, rfl⟩ := xs_at i x hx
  exact ⟨_, rfl, m, 69069, rfl, rfl, .inr (by decide), _, rfl, n, 31, rfl, rfl, .inr (by decide), _, _, rfl, rfl, _, _, rfl, rfl, .inl ⟨_, rfl, _, _, rfl, rfl, (by show (2147483629 : Int) ≠ 0; decide), rfl, _, _, rfl⟩⟩
def absF (i : Int) : Int := if i < 0 then -i else i
theorem open_lc {K : PySem.W.Frag} {a : Addr} {ns : List Int} {m : V} {o : Option V} {Q : VK} {H : Hp} (hs : SqL K H a (ns.map V.int)) (hlen : ns.length < sizeLine) (q : ∀ D, H D = none → Q (.ref D) (upd H D (.lst ((ns.map absF).map V.int)))) : tLc (iList K (tVar 0)) (gName 2) tYes (tCB rAbsC (tCons (tVar 2) tNil)) [2] [some (.ref a), some m, o, none] H Q := by
  refine ⟨_, rfl, a, rfl, ⟨_, hs⟩, fun D nD => ?_⟩
  have aD : ∀ (l : List V), Same H (upd H D (.lst l)) := fun l => same_new nD
  refine lc_list (xs := ns.map V.int) (fun i H2 => i ≤ ns.length ∧ H2 = upd H D (.lst (((ns.take i).map absF).map V.int))) ⟨Nat.zero_le _, by simp⟩ (fun i H2 _ ⟨_, e⟩ => e ▸ SqL.grow hs (aD _)) (fun i x H2 hx ⟨hi, e⟩ => ?_) fun H2 ⟨_, e⟩ => ?_
  · subst e
    obtain ⟨n, hn, rfl⟩ := xs_at i x hx
    have hlt : i < ns.length := (List.getElem?_eq_some_iff.mp hn).1
    refine ⟨by simp [wipe], ?_⟩
    refine ⟨_, rfl, n, rfl, _, upd_same, by simp; omega, hlt, ?_⟩
    rw [upd_upd, List.take_succ, hn]
    simp [absF]
  · subst e
    rw [List.length_map, List.take_length]
    exact q D nD
theorem open_ret {K : PySem.W.Frag} {a D : Addr} {ns : List Int} {m : Int} {o : Option V} {E : Ends} {H : Hp} (nD : H D = none) (q : ∀ p c H', Same H H' → H p = none → H c = none → SrcOk p c H' ⟨(ns.map absF).reverse, 1, m, 0⟩ → E.rt (.ref p) H') :
    tRet (tDisp [(tC (.str "cells"), tRevL K (tVar 3)), (tC (.str "left"), tC (.int 1)), (tC (.str "mixed"), tVar 1), (tC (.str "turn"), tC (.int 0))]) E [some (.ref a), some (.int m), o, some (.ref D)] (upd H D (.lst ((ns.map absF).map V.int))) := by
  intro p np
  have neD : D ≠ p := fun z => by subst z; rw [upd_same] at np; cases np
  refine ⟨_, rfl, D, _, rfl, SqL.of (by rw [upd_ne neD]; exact upd_same), fun c nc => ?_⟩
  have nec : c ≠ p := fun z => by subst z; rw [upd_same] at nc; cases nc
  rw [upd_ne nec] at nc
  have necD : c ≠ D := fun z => by subst z; rw [upd_same] at nc; cases nc
  refine ⟨_, rfl, ?_⟩
  refine ⟨by rw [upd_ne (Ne.symm nec)]; exact upd_same, srcKvs c ⟨(ns.map absF).reverse, 1, m, 0⟩, rfl, by show 4 ≤ 15; decide, ?_⟩
  have nH : H p = none := by rw [upd_ne (Ne.symm neD)] at np; exact np
  have nHc : H c = none := by rw [upd_ne necD] at nc; exact nc
  refine q p c _ (fun b o hb => ?_) nH nHc ⟨by rw [upd_same]; rfl, ?_⟩
  · have h1 : b ≠ p := ne_of_none hb nH
    have h2 : b ≠ c := ne_of_none hb nHc
    have h3 : b ≠ D := ne_of_none hb nD
    rw [upd_ne h1, upd_ne h2, upd_ne h1, upd_ne h3]; exact hb
  · rw [upd_ne nec, upd_same, List.map_reverse]
theorem open_pure {K : PySem.W.Frag} (vs : List V) (H : Hp) (Q : VK) (h : spOpen K vs H Q E0) : tOpen K { nx := fun _ H' => Q .non H', rt := Q } (L2.start ["script", "stirred", "cell", "cells"] vs) H := by
  obtain ⟨a, ns, rfl, hs, hlen, q⟩ := h
  rw [show L2.start ["script", "stirred", "cell", "cells"] [.ref a] = [some (.ref a), none, none, none] from rfl]
  dsimp only [tOpen, tSeq, tAsg, tC]
  refine open_for hs fun m o => ?_
  dsimp only [tSeq, tAsg]
  refine open_lc hs hlen fun D nD => ?_
  exact open_ret nD fun p c H' s n1 n2 k => q p c m H' s n1 n2 k

def spLaw (K : PySem.W.Frag) : Sp := fun vs H Q _ => ∃ (a : Addr) (ns : List Int), vs = [.ref a] ∧ ns.length ≤ 63 ∧ SqL K H a (ns.map V.int) ∧ ∀ H', Q (.bl true) H'
section
variable {P : Program} {w : World} {K : PySem.W.Frag} {mg mb : Str → Option Value} {k : Nat} {x : Str} {fa a : Addr} {s1 : Shared} {vs : List Value} {ns : List Int}
/-- the law's call from an abstract heap that tracks the script alone, or nothing -/
theorem end_core (H : Hp) (hok : HOk P w H s1.heap) (one : ∀ b, H b ≠ none → b = a) (frz : ∀ b u, H b = some u → ∃ o ys, u = .frz o (.lst ys)) (kA : H a ≠ none → K.lookup a = none) (hS : SqL K H a (ns.map V.int)) (hl : ns.length ≤ 63)
    (kin : K.In s1.heap) (hg : s1.heap.Ns mainGlobals mg) (hb : s1.heap.Ns builtinsNs mb) (hbb : ∀ x : Str, x ≠ "__name__" → mb x = bootBuiltins x) (lim : s1.heap.NoLimit) (gens : s1.gens = #[])
    (obj : ∃ c d n, s1.heap.get? a = some { cls := c, dict := d, data := .seq n }) (rg : RG k callerA) (hm : mg x = some (.ref fa))
    (F : ∀ base : Heap, K.In base → base.Ns mainGlobals mg → FnW P w K mg base k x (spLaw K)) :
    codeAny (model P w) callerA (.call (.ref fa) ⟨[.ref a], []⟩) (fun r s' => r = .ok (.ret (.bool true)) ∧ OldK s1.heap s'.heap ∧ s'.os = s1.os ∧ AllBare s'.gens) s1 := by
  obtain ⟨c, d, n, obj⟩ := obj
  have free : ∀ {b : Addr} {o : Obj} {es : Array DictEntry} {ep : Nat}, s1.heap.get? b = some o → o.data = .dict es ep → H b = none := fun {b o es ep} g e => by
    cases q : H b with
    | none => rfl
    | some u =>
      have z := one b (by rw [q]; simp)
      subst z
      rw [obj] at g
      cases g
      cases e
  have ns' : ∀ {b : Addr} {m : Str → Option Value}, s1.heap.Ns b m → (hidT s1.heap H).Ns b m := fun {b m} ⟨o, es, ep, g, e, r⟩ => ⟨o, es, ep, hidT_get g (free g e), e, r⟩
  have kin' : K.In (hidT s1.heap H) := fun b o g => hidT_get (kin b o g) (by
    cases q : H b with
    | none => rfl
    | some u =>
      have z := one b (by rw [q]; simp)
      subst z
      rw [kA (by rw [q]; simp)] at g
      cases g)
  obtain ⟨mc, l1, l2⟩ := lim
  have e0 : Env0 P w K mg (hidT s1.heap H) callerA [] s1 H :=
    ⟨rfl, ⟨kin', ns' hg, ⟨mb, ns' hb, hbb⟩, ⟨mc, ns' l1, l2⟩⟩, fun b o g => of_hidT g, Nat.le_of_eq (hidT_size _ _), trivial, (fun b hb => by cases hb), hok, .of_eq gens⟩
  obtain ⟨f, h1, h2, h3⟩ := (F _ kin' (ns' hg)).ok
  rw [hm] at h1
  cases h1
  refine codeAny_mono (h3 callerA [] s1 H [.ref a] [.ref a] (fun v _ => v = .bl true) rg e0 (.cons rfl .nil) ⟨a, ns, rfl, hl, hS, fun _ => rfl⟩) fun r s' h => ?_
  cases r with
  | error e => exact False.elim h
  | ok fl =>
    cases fl with
    | next => exact False.elim h
    | brk => exact False.elim h
    | cont => exact False.elim h
    | ret u =>
      obtain ⟨v, H', os, bare, un, hok', r', q⟩ := h
      have q' : v = .bl true := q
      subst q'
      obtain rfl : u = Value.bool true := r'
      refine ⟨rfl, OldK.of_keep fun b o g => ?_, os, bare⟩
      cases q : H b with
      | none => exact un.keep b o g q (fun z => by cases z) (by simp)
      | some u =>
        obtain ⟨ob, ys, rfl⟩ := frz b u q
        have z2 := un.frzs b ob _ q
        obtain ⟨y1, _⟩ := hok b _ q
        obtain ⟨y2, _⟩ := hok' b _ z2
        rw [g] at y1
        cases y1
        exact y2
theorem end_call (kin : K.In s1.heap) (hg : s1.heap.Ns mainGlobals mg) (hb : s1.heap.Ns builtinsNs mb) (hbb : ∀ x : Str, x ≠ "__name__" → mb x = bootBuiltins x) (lim : s1.heap.NoLimit) (gens : s1.gens = #[])
    (ha : s1.heap.get? a = some { cls := .type "list", data := .seq vs.toArray }) (hi : IntsAre vs ns) (hl : ns.length ≤ 63) (rg : RG k callerA) (hm : mg x = some (.ref fa))
    (F : ∀ base : Heap, K.In base → base.Ns mainGlobals mg → FnW P w K mg base k x (spLaw K)) :
    codeAny (model P w) callerA (.call (.ref fa) ⟨[.ref a], []⟩) (fun r s' => r = .ok (.ret (.bool true)) ∧ OldK s1.heap s'.heap ∧ s'.os = s1.os ∧ AllBare s'.gens) s1 := by
  have rv := vals_ints hi
  have lenV := hi.length
  have small : ns.length ≤ sizeLine := Nat.le_trans hl (by decide)
  cases hk : K.lookup a with
  | some o =>
    have g := kin a o hk
    rw [ha] at g
    cases g
    refine end_core (fun _ => none) (fun b u z => nomatch z) (fun b z => absurd rfl z) (fun b u z => nomatch z) (fun z => absurd rfl z) ?_ hl kin hg hb hbb lim gens ⟨_, _, _, ha⟩ rg hm F
    exact .inr ⟨_, vs.toArray, _, hk, rfl, rfl, rfl, by rw [List.size_toArray, lenV]; exact small, by simpa using rv⟩
  | none =>
    let H : Hp := fun b => if b = a then some (.frz { cls := .type "list", data := .seq vs.toArray } (.lst (ns.map V.int))) else none
    have at_ : H a = some (.frz { cls := .type "list", data := .seq vs.toArray } (.lst (ns.map V.int))) := if_pos rfl
    have off : ∀ b, b ≠ a → H b = none := fun b z => if_neg z
    refine end_core H (fun b u z => ?_) (fun b z => ?_) (fun b u z => ?_) (fun _ => hk) (.inl (.inr ⟨_, at_⟩)) hl kin hg hb hbb lim gens ⟨_, _, _, ha⟩ rg hm F
    · by_cases e : b = a
      · subst e
        rw [at_] at z
        cases z
        exact ⟨ha, by rw [List.length_map]; exact small, vs, _, rv, ha⟩
      · rw [off b e] at z
        cases z
    · by_cases e : b = a
      · exact e
      · exact absurd (off b e) z
    · by_cases e : b = a
      · subst e
        rw [at_] at z
        cases z
        exact ⟨_, _, rfl⟩
      · rw [off b e] at z
        cases z
end
/-- the walk of a law's row -/
theorem walk_law {l : PySem.W.OpenLaw} {k : Nat} {q : Program} {loose : List Str} {XP : (Str → Option Value) → Heap → Prop} {YP : World → Heap → Prop} {d : DefRec}
    (hn : l.most = some 63) (hdf : d.params.defaults = []) (rg : RG k callerA)
    (F : ∀ (w : World) (mg : Str → Option Value) (h : Heap), YP w h → h.Ns mainGlobals mg → ∃ K : PySem.W.Frag, K.In h ∧ ∀ base : Heap, K.In base → base.Ns mainGlobals mg → FnW l.prog w K mg base k d.name (spLaw K)) :
    PySem.W.WalkO q loose XP YP l.row.toRowW d [] (fun f vs => PySem.call f vs) := by
  refine Att.attach_call hn hdf fun w s₀ s1 mg mb fa o pm cd doc a vs ns G Y ho hd hcd hmg hobj hints hlen hg => ?_
  obtain ⟨K, kin, hF⟩ := F w mg _ Y G.T.g
  exact end_call kin G.T.g G.T.b G.T.builtins G.T.nolimit hg hobj hints hlen rg hmg hF

def tSx (m : M Out) : TS := fun D σ H => ∃ B, tS B m D σ H
theorem SSs.px {X : Cx} {st : List Stmt} {m : M Out} (h : SSs X st m) : PSs X st (tSx m) := ⟨fun pins s σ H D I ⟨B, q⟩ => (h.ps B).run pins s σ H D I q⟩
def tOpenCall (K : PySem.W.Frag) (i : Nat) : TS := tAsg (fun σ H Q => tCons (tVar 0) tNil σ H fun vs H1 => spOpen K vs H1 Q E0) (gName i)
def lawEnv (n i : Nat) : List (Option Sl) := (List.replicate n none).set i (some (.val .src))
theorem law_pure {K : PySem.W.Frag} {N : List Str} {i : Nat} {m : M Out} {vs : List V} {H : Hp} {Q : VK} (hi : 0 < i) (hN : i < N.length) (ok : ∀ src, ∃ s', m ⟨lawEnv N.length i, src⟩ = some (.ret (.bl true), s')) (h : spLaw K vs H Q E0) :
    tSeq (tOpenCall K i) (tSx m) { nx := fun _ H' => Q .non H', rt := Q } (L2.start N vs) H := by
  obtain ⟨a, ns, rfl, hl, hs, q⟩ := h
  have h0 : (L2.start N [V.ref a])[0]? = some (some (.ref a)) := rfl
  refine ⟨_, h0, a, ns, rfl, hs, Nat.lt_of_le_of_lt hl (by decide), fun p c mx H' sm np nc k => ?_⟩
  obtain ⟨s', e⟩ := ok ⟨(ns.map fun i => if i < 0 then -i else i).reverse, 1, mx, 0⟩
  have hlen : (L2.start N [V.ref a]).length = N.length := by
    unfold L2.start
    simp only [List.length_append, List.length_map, List.length_replicate, List.length_singleton]
    omega
  have slots : ∀ (j : Nat) (sl : Sl), (lawEnv N.length i)[j]? = some (some sl) → j = i ∧ sl = .val .src := fun j sl z => by
    unfold lawEnv at z
    by_cases e : i = j
    · subst e
      rw [List.getElem?_set_self (by simpa using hN)] at z
      cases z; exact ⟨rfl, rfl⟩
    · rw [List.getElem?_set_ne e, List.getElem?_replicate] at z
      split at z <;> cases z
  refine ⟨⟨p, c, fun b => b = p ∨ b = c, H'⟩, ⟨lawEnv N.length i, _⟩, _, s', ⟨?_, fun j d z => ?_, fun j sl z ho => ?_, fun j1 j2 sl1 sl2 b z1 o1 => ?_, k, fun b o z _ _ => z, fun b z => ?_, .inl rfl, .inr rfl⟩, e, ?_⟩
  · show (lawEnv N.length i).length = _
    rw [List.length_set, hlen]
    unfold lawEnv
    simp
  · obtain ⟨rfl, y1⟩ := slots j _ z
    cases y1
    exact ⟨.ref p, List.getElem?_set_self (by rw [hlen]; exact hN), by simp [Rp]⟩
  · obtain ⟨rfl, y1⟩ := slots j _ z
    subst y1
    cases ho
  · obtain ⟨rfl, y1⟩ := slots j1 _ z1
    subst y1
    cases o1
  · rcases z with rfl | rfl
    · exact ⟨_, k.d, by intro _ z; cases z⟩
    · exact ⟨_, k.l, by intro _ z; cases z⟩
  · intro v σ' H2 k2 ev r
    rw [rp_bl r]
    exact q H2
theorem law_fn {P : Program} {w : World} {K : PySem.W.Frag} {mg : Str → Option Value} {base : Heap} {x : Str} {params : Arguments} {st : Stmt} {rest : List Stmt} {scope : Scope} {f : Addr} {fd : FuncData} {N : List Str} {y : Str} {k i : Nat} {m : M Out}
    (F : FunD K x x params (st :: rest) scope [] [] f fd) (hm : mg x = some (.ref f)) (hb : Binds K fd [y] []) (S : FnScope N [y] scope) (hi : 0 < i) (hN : i < N.length)
    (body : ∀ (cdv : Value) (A : Around) (outer : List Env) (s : Shared) (H : Hp), RG k (A.deeper (envOfC x scope s.heap.objs.size f cdv)) →
      PS (cxOf CX0 P w K mg base N x scope f cdv A outer s H E0).nox st (tOpenCall K i) ∧ SSs (cxOf CX0 P w K mg base N x scope f cdv A outer s H E0).nox rest m)
    (ok : ∀ src, ∃ s', m ⟨lawEnv N.length i, src⟩ = some (.ret (.bl true), s')) : FnW P w K mg base (k + 1) x (spLaw K) :=
  fn_raw (t := tSeq (tOpenCall K i) (tSx m)) F hm hb S (fun vs H Q ⟨a, ns, e, _⟩ => by rw [e]; rfl) (fun cdv A outer s H hr => pss_cons (body cdv A outer s H hr).1 (body cdv A outer s H hr).2.px) fun vs H Q h => law_pure hi hN ok h
end GH

namespace GH
open PySem PySem.Spec PyProof.Rows L2

def blkB (N : List Str) (sc scope : Scope) (own : List (Str × Nat)) : Bool :=
  decide (∀ y ∈ scope.names, scope.names.lookup y.1 = some y.2) && decide (∀ p ∈ own, N[p.2]? = some p.1) &&
  decide (∀ y ∈ scope.names, y.2 = .free → sc.names.lookup y.1 = some .cell ∨ sc.names.lookup y.1 = some .free) &&
  decide (∀ y ∈ scope.names, y.2 = .local ∨ y.2 = .cell → y.1 ∈ own.map (·.1) ∨ y.1 ∉ N)
theorem blk_of {N : List Str} {sc scope : Scope} {own : List (Str × Nat)} (k : scope.kind = .function) (h : blkB N sc scope own = true) : BlkOk N sc scope own := by
  unfold blkB at h
  simp only [Bool.and_eq_true] at h
  exact ⟨k, of_decide_eq_true h.1.1.1, of_decide_eq_true h.1.1.2, of_decide_eq_true h.1.2, of_decide_eq_true h.2⟩
def lDisp (ms : M (List D)) : M (List D) := bnd ms fun ds => if ds.length ≤ sizeLine then ret ds else fail
def eTupRg (m : M D) : M D := bnd (lRg1 m) fun ds => ret (.tup ds)
section
variable {X : Cx} {es : List Expr} {pos : Pos} {ms : M (List D)}
theorem pv {i : Nat} {x : Str} (hN : X.N[i]? = some x := by rfl) (hv : Vis X.env.scope x := by first | exact Or.inl rfl | exact Or.inr (Or.inl rfl) | exact Or.inr (Or.inr rfl)) (hd : (x == ("__debug__" : Str)) = false := by decide) (hcd : (x == ("__classdict__" : Str)) = false := by decide) : PE X (.Name x pos) (tVar i) := pe_var hN hv hd hcd
theorem s_v {i : Nat} {x : Str} (hN : X.N[i]? = some x := by rfl) (hv : Vis X.env.scope x := by first | exact Or.inl rfl | exact Or.inr (Or.inl rfl) | exact Or.inr (Or.inr rfl)) (hd : (x == ("__debug__" : Str)) = false := by decide) (hcd : (x == ("__classdict__" : Str)) = false := by decide) : SE X (.Name x pos) (eVar i) := s_var (pe_var hN hv hd hcd)
theorem g_n {i : Nat} {x : Str} (hN : X.N.Nodup) (hi : X.N[i]? = some x := by rfl) (hx : Loc X.env.scope x := by first | exact Or.inl rfl | exact Or.inr rfl) (hf : X.fn x = true ∨ X.env.scope.names.lookup x = some .local := by first | exact .inl rfl | exact .inr rfl | assumption) : SG X (.Name x pos) [i] (gN i) := g_name hN hi hx hf
theorem l_dsp (h : SA X es ms) : SL X (.List es pos) (lDisp ms) := l_disp h
end
theorem RG.u64 {k : Nat} {A : Around} (h : RG k A) : A.units + 64 < cLine := by have := h.r.un; omega
theorem RG.u65 {k : Nat} {A : Around} (h : RG k A) : A.units + 65 < cLine := by have := h.r.un; omega
theorem RG.u1 {k : Nat} {A : Around} (h : RG k A) : A.units + 1 < cLine := by have := h.r.un; omega
def mPick : M Out := sSeq (sIf (tst (eBin ltD (eVar 1) (eC (.int 2)))) (sRet (eC (.int 0))) sNx)
  (mDrain 0 2 (sSeq (sSet 3 (eFld 0 Src.left))
  (sSeq (sIf (tst (eBin gtD (eVar 3) (eC (.int 1)))) (sSeq (sFld 0 (fun s z => { s with left := z }) (eBin fdivD (eVar 3) (eVar 1))) (sRet (eBin modD (eCall intG (aCons (eVar 3) aNil)) (eVar 1)))) sNx)
  (sSeq (sFld 0 (fun s z => { s with turn := z }) (eBin addD (eFld 0 Src.turn) (eC (.int 1))))
  (sSeq (sSet 4 (eFld 0 Src.turn))
  (sSeq (sSet 5 (eBin modD (eCall intG (aCons (eBin addD (eFld 0 Src.mixed) (eBin mulD (eVar 4) (eC (.int 104729)))) aNil)) (eC (.int 998244353))))
  (sSeq (sSet 5 (eBin modD (eCall intG (aCons (eBin addD (eBin mulD (eVar 5) (eVar 5)) (eBin mulD (eVar 4) (eC (.int 17)))) aNil)) (eC (.int 2147483647))))
  (sRet (eBin modD (eCall intG (aCons (eBin fdivD (eVar 5) (eC (.int 16))) aNil)) (eVar 1))))))))))
def S_pick : FnSem := fnOf 6 mPick
end GH

namespace GH
open PySem PySem.Spec PyProof.Rows L2

theorem bndE {α β : Type} (m : M α) (f : α → M β) (s : S) : bnd m f s = (match m s with
  | some (a, s1) => f a s1
  | none => none) := rfl
theorem sz (n : Nat) (h : n ≤ 100000) : n ≤ sizeLine := Nat.le_trans h (by decide)
theorem seq_nx {m n : M Out} {s s1 : S} (h : m s = some (.nx, s1)) : sSeq m n s = n s1 := by unfold sSeq; rw [bndE, h]
theorem seq_ret {m n : M Out} {s s1 : S} {d : D} (h : m s = some (.ret d, s1)) : sSeq m n s = some (.ret d, s1) := by unfold sSeq; rw [bndE, h]; rfl
theorem if_tt {t : M Bool} {m n : M Out} {s s1 : S} (h : t s = some (true, s1)) : sIf t m n s = m s1 := by unfold sIf; rw [bndE, h]; rfl
theorem if_ff {t : M Bool} {m n : M Out} {s s1 : S} (h : t s = some (false, s1)) : sIf t m n s = n s1 := by unfold sIf; rw [bndE, h]; rfl
theorem for_eq {it : M (List D)} {g : D → M Unit} {b : M Out} {s s1 : S} {ds : List D} (h : it s = some (ds, s1)) : sFor it g b s = forM g b ds s1 := by unfold sFor; rw [bndE, h]
theorem for_nil {g : D → M Unit} {b : M Out} {s : S} : forM g b [] s = some (.nx, s) := rfl
theorem for_nx {g : D → M Unit} {b : M Out} {d : D} {r : List D} {s s1 s2 : S} (h : g d s = some ((), s1)) (h2 : b s1 = some (.nx, s2)) : forM g b (d :: r) s = forM g b r s2 := by
  show bnd (g d) _ s = _
  rw [bndE, h]
  show bnd b _ s1 = _
  rw [bndE, h2]
theorem for_ret {g : D → M Unit} {b : M Out} {d : D} {r : List D} {s s1 s2 : S} {v : D} (h : g d s = some ((), s1)) (h2 : b s1 = some (.ret v, s2)) : forM g b (d :: r) s = some (.ret v, s2) := by
  show bnd (g d) _ s = _
  rw [bndE, h]
  show bnd b _ s1 = _
  rw [bndE, h2]
  rfl
theorem fn_eq {g : FnSem} {ms : M (List D)} {s : S} {env : List (Option Sl)} {c0 : Src} {ds : List D} {d : D} {c : Src} (h : ms s = some (ds, ⟨env, c0⟩)) (h2 : g ds c0 = some (d, c)) : eFn g ms s = some (d, ⟨env, c⟩) := by
  unfold eFn
  exact (bnd_eq h).trans (by show (match g ds c0 with | some (d, c) => _ | none => none) = _; rw [h2])
theorem fnOf_ret {n : Nat} {m : M Out} {ds : List D} {c c' : Src} {d : D} {env : List (Option Sl)} (h : m ⟨ds.map (fun d => some (Sl.val d)) ++ List.replicate (n - ds.length) none, c⟩ = some (.ret d, ⟨env, c'⟩)) : fnOf n m ds c = some (d, c') := by
  unfold fnOf; rw [h]

def turnC (g : D → M Unit) (c : M Bool) (el : M D) (d : D) : M (Option D) := bnd (g d) fun _ => bnd c fun b => if b = true then bnd el fun y => ret (some y) else ret none
theorem cStep_eq {vs : List Nat} {g : D → M Unit} {c : M Bool} {el : M D} {d : D} {s : S} : cStep vs g c el d s = turnC g c el d ⟨wipeE s.env vs, s.src⟩ := rfl
def cleanE (env : List (Option Sl)) (vs : List Nat) : Prop := ∀ v ∈ vs, ∀ x, env[v]? = some (some x) → ∃ d, x = .val d
theorem wipeE_at {env : List (Option Sl)} {i : Nat} : ∀ {vs : List Nat}, i ∈ vs → (wipeE env vs)[i]? = env[i]?.map fun _ => none
  | [], h => by simp at h
  | v :: vs, h => by
    unfold wipeE
    by_cases e : v = i
    · subst e
      by_cases hv : v < env.length
      · rw [List.getElem?_set_self (by rw [wipeE_len]; exact hv), List.getElem?_eq_getElem hv]; rfl
      · rw [List.getElem?_eq_none (by rw [List.length_set, wipeE_len]; omega), List.getElem?_eq_none (by omega)]; rfl
    · rw [List.getElem?_set_ne e]
      exact wipeE_at (by
        rcases List.mem_cons.mp h with z | z
        · exact absurd z.symm e
        · exact z)
theorem restE_at {env0 env : List (Option Sl)} {i : Nat} : ∀ {vs : List Nat}, i ∈ vs → i < env.length → (restE env0 env vs)[i]? = some (match env0[i]? with
    | some (some (.val d)) => some (.val d)
    | _ => none)
  | [], h, _ => by simp at h
  | v :: vs, h, hl => by
    unfold restE
    by_cases e : v = i
    · subst e
      rw [List.getElem?_set_self (by rw [restE_len]; exact hl)]
      all_goals rfl
    · rw [List.getElem?_set_ne e]
      exact restE_at (by
        rcases List.mem_cons.mp h with z | z
        · exact absurd z.symm e
        · exact z) hl
theorem restE_off {env0 env : List (Option Sl)} {i : Nat} : ∀ {vs : List Nat}, i ∉ vs → (restE env0 env vs)[i]? = env[i]?
  | [], _ => rfl
  | v :: vs, h => by
    unfold restE
    rw [List.getElem?_set_ne (by rintro rfl; exact h List.mem_cons_self), restE_off fun z => h (List.mem_cons_of_mem _ z)]
theorem rest_clean {env env1 : List (Option Sl)} {vs : List Nat} (h : wipeE env1 vs = wipeE env vs) (cl : cleanE env vs) : restE env env1 vs = env := by
  have hlen : env1.length = env.length := by rw [← wipeE_len env1 vs, h, wipeE_len]
  refine List.ext_getElem? fun i => ?_
  by_cases hi : i ∈ vs
  · by_cases hl : i < env.length
    · rw [restE_at hi (by omega), List.getElem?_eq_getElem hl]
      cases q : env[i] with
      | none => rfl
      | some x =>
        obtain ⟨d, rfl⟩ := cl i hi x (by rw [List.getElem?_eq_getElem hl, q])
        rfl
    · rw [List.getElem?_eq_none (by rw [restE_len]; omega), List.getElem?_eq_none (by omega)]
  · rw [restE_off hi, ← wipeE_get (env := env1) hi, h, wipeE_get hi]
section
variable {vs : List Nat} {g : D → M Unit} {c : M Bool} {el : M D} {it : M (List D)} {env : List (Option Sl)}
theorem compF_rel {α : Type} {enc : α → Option D} {R : D → α → Prop} : ∀ {ds : List D} {env0 : List (Option Sl)} {src : Src}, wipeE env0 vs = wipeE env vs →
    (∀ d ∈ ds, ∀ s, ∃ y env1 s', turnC g c el d ⟨wipeE env vs, s⟩ = some (enc y, ⟨env1, s'⟩) ∧ wipeE env1 vs = wipeE env vs ∧ R d y) →
    ∃ (ys : List α) (env2 : List (Option Sl)) (s' : Src), ys.length = ds.length ∧ (∀ (i : Nat) (d : D) (y : α), ds[i]? = some d → ys[i]? = some y → R d y) ∧ compF vs g c el ds ⟨env0, src⟩ = some (ys.filterMap enc, ⟨env2, s'⟩) ∧ wipeE env2 vs = wipeE env vs
  | [], env0, src, h, _ => ⟨[], env0, src, rfl, fun i d y z => by simp at z, rfl, h⟩
  | d :: r, env0, src, h, step => by
    obtain ⟨y, env1, s1, e1, w1, hy⟩ := step d List.mem_cons_self src
    obtain ⟨ys, env2, s2, hl, hr, e2, w2⟩ := compF_rel (ds := r) (env0 := env1) (src := s1) w1 fun d hd => step d (List.mem_cons_of_mem _ hd)
    refine ⟨y :: ys, env2, s2, by simp [hl], fun i d' y' h1 h2 => ?_, ?_, w2⟩
    · cases i with
      | zero => simp at h1 h2; subst h1 h2; exact hy
      | succ i => simp at h1 h2; exact hr i d' y' h1 h2
    · show bnd (cStep vs g c el d) _ _ = _
      rw [bnd_eq (show cStep vs g c el d ⟨env0, src⟩ = some (enc y, ⟨env1, s1⟩) by rw [cStep_eq]; show turnC g c el d ⟨wipeE env0 vs, src⟩ = _; rw [h]; exact e1)]
      rw [bnd_eq e2]
      show some _ = _
      rw [List.filterMap_cons]
      cases enc y <;> rfl
theorem comp_rel {α : Type} {enc : α → Option D} {R : D → α → Prop} {ds : List D} {src src1 : Src} (hit : it ⟨env, src⟩ = some (ds, ⟨env, src1⟩)) (hl : ds.length ≤ 100000) (cl : cleanE env vs)
    (step : ∀ d ∈ ds, ∀ s, ∃ y env1 s', turnC g c el d ⟨wipeE env vs, s⟩ = some (enc y, ⟨env1, s'⟩) ∧ wipeE env1 vs = wipeE env vs ∧ R d y) :
    ∃ (ys : List α) (s' : Src), ys.length = ds.length ∧ (∀ (i : Nat) (d : D) (y : α), ds[i]? = some d → ys[i]? = some y → R d y) ∧ eComp vs g c el it ⟨env, src⟩ = some (ys.filterMap enc, ⟨env, s'⟩) := by
  obtain ⟨ys, env2, s', h1, h2, h3, h4⟩ := compF_rel (src := src1) rfl step
  refine ⟨ys, s', h1, h2, ?_⟩
  unfold eComp
  refine (bnd_eq hit).trans ?_
  show (if ds.length ≤ PySem.sizeLine then (match compF vs g c el ds ⟨env, src1⟩ with
    | some (ys, sn) => some (ys, { sn with env := restE env sn.env vs })
    | none => none) else none) = _
  rw [if_pos (sz _ hl), h3]
  show some (_, (⟨restE env env2 vs, s'⟩ : S)) = _
  rw [rest_clean h4 cl]
theorem compF_pure {α : Type} {enc : α → D} {f : α → Option D} {src : Src} : ∀ {xs : List α} {env0 : List (Option Sl)}, wipeE env0 vs = wipeE env vs →
    (∀ x ∈ xs, ∃ env1, turnC g c el (enc x) ⟨wipeE env vs, src⟩ = some (f x, ⟨env1, src⟩) ∧ wipeE env1 vs = wipeE env vs) →
    ∃ env2, compF vs g c el (xs.map enc) ⟨env0, src⟩ = some (xs.filterMap f, ⟨env2, src⟩) ∧ wipeE env2 vs = wipeE env vs
  | [], env0, h, _ => ⟨env0, rfl, h⟩
  | x :: r, env0, h, step => by
    obtain ⟨env1, e1, w1⟩ := step x List.mem_cons_self
    obtain ⟨env2, e2, w2⟩ := compF_pure (xs := r) (env0 := env1) w1 fun x hx => step x (List.mem_cons_of_mem _ hx)
    refine ⟨env2, ?_, w2⟩
    show bnd (cStep vs g c el (enc x)) _ _ = _
    rw [bnd_eq (show cStep vs g c el (enc x) ⟨env0, src⟩ = some (f x, ⟨env1, src⟩) by rw [cStep_eq]; show turnC g c el (enc x) ⟨wipeE env0 vs, src⟩ = _; rw [h]; exact e1)]
    rw [bnd_eq e2]
    show some _ = _
    rw [List.filterMap_cons]
    cases f x <;> rfl
theorem comp_pure {α : Type} {enc : α → D} {f : α → Option D} {xs : List α} {src src1 : Src} (hit : it ⟨env, src⟩ = some (xs.map enc, ⟨env, src1⟩)) (hl : xs.length ≤ 100000) (cl : cleanE env vs)
    (step : ∀ x ∈ xs, ∃ env1, turnC g c el (enc x) ⟨wipeE env vs, src1⟩ = some (f x, ⟨env1, src1⟩) ∧ wipeE env1 vs = wipeE env vs) :
    eComp vs g c el it ⟨env, src⟩ = some (xs.filterMap f, ⟨env, src1⟩) := by
  obtain ⟨env2, h3, h4⟩ := compF_pure rfl step
  unfold eComp
  refine (bnd_eq hit).trans ?_
  show (if (xs.map enc).length ≤ PySem.sizeLine then (match compF vs g c el (xs.map enc) ⟨env, src1⟩ with
    | some (ys, sn) => some (ys, { sn with env := restE env sn.env vs })
    | none => none) else none) = _
  rw [if_pos (sz _ (by simpa using hl)), h3]
  show some (_, (⟨restE env env2 vs, src1⟩ : S)) = _
  rw [rest_clean h4 cl]
/-- .. that keeps each -/
theorem comp_map {α : Type} {enc : α → D} {f : α → D} {xs : List α} {src src1 : Src} (hit : it ⟨env, src⟩ = some (xs.map enc, ⟨env, src1⟩)) (hl : xs.length ≤ 100000) (cl : cleanE env vs)
    (step : ∀ x ∈ xs, ∃ env1, turnC g c el (enc x) ⟨wipeE env vs, src1⟩ = some (some (f x), ⟨env1, src1⟩) ∧ wipeE env1 vs = wipeE env vs) :
    eComp vs g c el it ⟨env, src⟩ = some (xs.map f, ⟨env, src1⟩) := by
  have := comp_pure (f := fun x => some (f x)) hit hl cl step
  rw [this]
  congr 2
  induction xs with
  | nil => rfl
  | cons x r ih => rw [List.filterMap_cons, List.map_cons]; simp
/-- .. whose elements are drawn -/
theorem comp_draw {α : Type} {enc : α → D} {R : D → α → Prop} {ds : List D} {src src1 : Src} (hit : it ⟨env, src⟩ = some (ds, ⟨env, src1⟩)) (hl : ds.length ≤ 100000) (cl : cleanE env vs)
    (step : ∀ d ∈ ds, ∀ s, ∃ y env1 s', turnC g c el d ⟨wipeE env vs, s⟩ = some (some (enc y), ⟨env1, s'⟩) ∧ wipeE env1 vs = wipeE env vs ∧ R d y) :
    ∃ (ys : List α) (s' : Src), ys.length = ds.length ∧ (∀ (i : Nat) (d : D) (y : α), ds[i]? = some d → ys[i]? = some y → R d y) ∧ eComp vs g c el it ⟨env, src⟩ = some (ys.map enc, ⟨env, s'⟩) := by
  obtain ⟨ys, s', h1, h2, h3⟩ := comp_rel (enc := fun y => some (enc y)) hit hl cl step
  refine ⟨ys, s', h1, h2, ?_⟩
  rw [h3]
  congr 2
  clear h1 h2 h3
  induction ys with
  | nil => rfl
  | cons x r ih => rw [List.filterMap_cons, List.map_cons]; simp
theorem ret_eq {m : M D} {s s1 : S} {d : D} (h : m s = some (d, s1)) : sRet m s = some (.ret d, s1) := by unfold sRet; rw [bnd_eq h]; rfl
theorem set_eq {i : Nat} {m : M D} {s : S} {env : List (Option Sl)} {c : Src} {d : D} (h : m s = some (d, ⟨env, c⟩)) (hi : i < env.length) : sSet i m s = some (.nx, ⟨env.set i (some (.val d)), c⟩) := by
  unfold sSet sAsg
  rw [bnd_eq h]
  have : gN i d ⟨env, c⟩ = some ((), ⟨env.set i (some (.val d)), c⟩) := by unfold gN; rw [if_pos hi]
  rw [bnd_eq this]
  rfl
theorem own_eq {i : Nat} {m : M (List D)} {s : S} {env : List (Option Sl)} {c : Src} {d : List D} (h : m s = some (d, ⟨env, c⟩)) (hi : i < env.length) : sOwn i m s = some (.nx, ⟨env.set i (some (.own d)), c⟩) := by
  unfold sOwn
  rw [bnd_eq h]
  have : oN i d ⟨env, c⟩ = some ((), ⟨env.set i (some (.own d)), c⟩) := by unfold oN; rw [if_pos hi]
  rw [bnd_eq this]
  rfl
theorem fld_eq {i : Nat} {m : M D} {s : S} {env : List (Option Sl)} {c : Src} {z : Int} {g : Src → Int → Src} (h : m s = some (.int z, ⟨env, c⟩)) (hi : env[i]? = some (some (.val .src))) : sFld i g m s = some (.nx, ⟨env, g c z⟩) := by
  unfold sFld
  refine (bnd_eq h).trans ?_
  show (match (D.int z), env[i]? with
    | .int z, some (some (.val .src)) => some (Out.nx, (⟨env, g c z⟩ : S))
    | _, _ => none) = _
  rw [hi]
theorem call_eq {G : List D → Option D} {ms : M (List D)} {s s1 : S} {ds : List D} {d : D} (h : ms s = some (ds, s1)) (h2 : G ds = some d) : eCall G ms s = some (d, s1) := by
  unfold eCall; rw [bnd_eq h]; show lift (G ds) s1 = _; rw [h2]; rfl
theorem cons_eq {m : M D} {ms : M (List D)} {s s1 s2 : S} {d : D} {ds : List D} (h : m s = some (d, s1)) (h2 : ms s1 = some (ds, s2)) : aCons m ms s = some (d :: ds, s2) := by
  unfold aCons; rw [bnd_eq h, bnd_eq h2]; rfl
theorem one_eq {m : M D} {s s1 : S} {d : D} (h : m s = some (d, s1)) : aCons m aNil s = some ([d], s1) := cons_eq h rfl
theorem lst_eq {m : M (List D)} {s s1 : S} {ds : List D} (h : m s = some (ds, s1)) : eLst m s = some (.lst ds, s1) := by unfold eLst; rw [bnd_eq h]; rfl
theorem bin_eq {f : D → D → Option D} {ma mb : M D} {s s1 s2 : S} {x y z : D} (h : ma s = some (x, s1)) (h2 : mb s1 = some (y, s2)) (h3 : f x y = some z) : eBin f ma mb s = some (z, s2) := by
  unfold eBin; rw [bnd_eq h, bnd_eq h2, h3]; rfl
theorem tst_eq {m : M D} {s s1 : S} {b : Bool} (h : m s = some (.bl b, s1)) : tst m s = some (b, s1) := by unfold tst; rw [bnd_eq h]; rfl
theorem tru_eq {m : M D} {s s1 : S} {b : Bool} (h : m s = some (.bl b, s1)) : tru m s = some (b, s1) := by unfold tru; rw [bnd_eq h]; rfl
end
theorem rng_map (n : Nat) : rngL 0 (n : Int) = (List.range n).map fun i => .int ((i : Nat) : Int) := by
  unfold rngL; simp
/-- a loop whose body keeps a state's form -/
theorem for_keep {g : D → M Unit} {b : M Out} {I : S → Prop} : ∀ {ds : List D} {s : S}, I s → (∀ d ∈ ds, ∀ s, I s → ∃ s1 s2, g d s = some ((), s1) ∧ b s1 = some (.nx, s2) ∧ I s2) → ∃ s', forM g b ds s = some (.nx, s') ∧ I s'
  | [], s, h, _ => ⟨s, rfl, h⟩
  | d :: r, s, h, step => by
    obtain ⟨s1, s2, e1, e2, h2⟩ := step d List.mem_cons_self s h
    obtain ⟨s', e3, h3⟩ := for_keep (ds := r) h2 fun d hd => step d (List.mem_cons_of_mem _ hd)
    exact ⟨s', by rw [for_nx e1 e2]; exact e3, h3⟩
end GH

namespace GH

theorem pick_lt (most : Int) (c : Src) (h : most < 2) : S_pick [.src, .int most] c = some (.int 0, c) := by
  refine fnOf_ret (env := [some (.val .src), some (.val (.int most)), none, none, none, none]) ?_
  unfold mPick
  refine seq_ret ?_
  rw [if_tt (s1 := ⟨[some (.val .src), some (.val (.int most)), none, none, none, none], c⟩)]
  · rfl
  · exact tst_eq (bin_eq (f := ltD) (x := .int most) (y := .int 2) rfl rfl (by simp [ltD, h]))
theorem div_ok {a b : Int} (h1 : 2 ≤ b) (h2 : b ≤ 1000000) : fdivD (.int a) (.int b) = some (.int (a.fdiv b)) := by
  show (if L2.CDivN a b then some (D.int (a.fdiv b)) else if L2.CDivW a b then some (D.int (a / b)) else none) = _
  rw [if_pos ⟨by omega, by omega⟩]
theorem mod_ok {a b : Int} (h1 : b ≠ 0) : modD (.int a) (.int b) = some (.int (a.fmod b)) := by
  show (if b ≠ 0 then some (D.int (a.fmod b)) else none) = _
  rw [if_pos h1]
theorem pick_ok (most : Int) (c : Src) (h : 2 ≤ most) (h2 : most ≤ 1000000) : ∃ r c', S_pick [.src, .int most] c = some (.int r, c') ∧ 0 ≤ r ∧ r < most := by
  have h0 : most ≠ 0 := by omega
  have go : ∀ a : Int, 0 ≤ a.fmod most ∧ a.fmod most < most := fun a => ⟨Int.fmod_nonneg_of_pos a (by omega), Int.fmod_lt_of_pos a (by omega)⟩
  let e0 : List (Option Sl) := [some (.val .src), some (.val (.int most)), none, none, none, none]
  let s1 := drain c
  have start : ∀ {d c'} {env : List (Option Sl)}, (sSeq (sIf (tst (eBin gtD (eVar 3) (eC (.int 1)))) (sSeq (sFld 0 (fun s z => { s with left := z }) (eBin fdivD (eVar 3) (eVar 1))) (sRet (eBin modD (eCall intG (aCons (eVar 3) aNil)) (eVar 1)))) sNx)
      (sSeq (sFld 0 (fun s z => { s with turn := z }) (eBin addD (eFld 0 Src.turn) (eC (.int 1))))
      (sSeq (sSet 4 (eFld 0 Src.turn))
      (sSeq (sSet 5 (eBin modD (eCall intG (aCons (eBin addD (eFld 0 Src.mixed) (eBin mulD (eVar 4) (eC (.int 104729)))) aNil)) (eC (.int 998244353))))
      (sSeq (sSet 5 (eBin modD (eCall intG (aCons (eBin addD (eBin mulD (eVar 5) (eVar 5)) (eBin mulD (eVar 4) (eC (.int 17)))) aNil)) (eC (.int 2147483647))))
      (sRet (eBin modD (eCall intG (aCons (eBin fdivD (eVar 5) (eC (.int 16))) aNil)) (eVar 1)))))))) ⟨e0.set 3 (some (.val (.int s1.left))), s1⟩ = some (.ret d, ⟨env, c'⟩) → S_pick [.src, .int most] c = some (d, c') := fun {d c' env} hh => by
    refine fnOf_ret (env := env) ?_
    unfold mPick
    rw [seq_nx (s1 := ⟨e0, c⟩)]
    · show sSeq _ _ ⟨e0, s1⟩ = _
      rw [seq_nx (s1 := ⟨e0.set 3 (some (.val (.int s1.left))), s1⟩) rfl]
      exact hh
    · rw [if_ff (s1 := ⟨e0, c⟩)]
      · rfl
      · exact tst_eq (bin_eq (f := ltD) (x := .int most) (y := .int 2) (by rfl) (by rfl) (by simp [ltD]; omega))
  by_cases hl : 1 < s1.left
  · refine ⟨s1.left.fmod most, { s1 with left := s1.left.fdiv most }, start (env := e0.set 3 (some (.val (.int s1.left)))) ?_, go _⟩
    refine seq_ret ?_
    rw [if_tt (s1 := ⟨e0.set 3 (some (.val (.int s1.left))), s1⟩) (tst_eq (bin_eq (f := gtD) (x := .int s1.left) (y := .int 1) (by rfl) (by rfl) (by simp [gtD, hl])))]
    rw [seq_nx (s1 := ⟨e0.set 3 (some (.val (.int s1.left))), { s1 with left := s1.left.fdiv most }⟩)]
    · exact ret_eq (bin_eq (f := modD) (x := .int s1.left) (y := .int most) (by rfl) (by rfl) (mod_ok h0))
    · exact fld_eq (bin_eq (f := fdivD) (x := .int s1.left) (y := .int most) (by rfl) (by rfl) (div_ok h h2)) rfl
  · let t : Int := s1.turn + 1
    let c2 : Src := { s1 with turn := t }
    let a : Int := (s1.mixed + t * 104729).fmod 998244353
    let b : Int := (a * a + t * 17).fmod 2147483647
    have ha : 0 ≤ a ∧ a < 998244353 := ⟨Int.fmod_nonneg_of_pos _ (by decide), Int.fmod_lt_of_pos _ (by decide)⟩
    have m1 : ∀ x y : Int, -(2 ^ 64) < y → y < 2 ^ 64 → mulD (.int x) (.int y) = some (.int (x * y)) := fun x y h1 h2 => by
      show (if L2.CMul x y then some (D.int (x * y)) else if L2.CMulW x y then some (D.int (x * y)) else none) = _
      rw [if_pos (.inr ⟨h1, h2⟩)]
    refine ⟨(b.fdiv 16).fmod most, c2, start (env := ((e0.set 3 (some (.val (.int s1.left)))).set 4 (some (.val (.int t)))).set 5 (some (.val (.int b)))) ?_, go _⟩
    rw [seq_nx (s1 := ⟨e0.set 3 (some (.val (.int s1.left))), s1⟩)]
    · rw [seq_nx (s1 := ⟨e0.set 3 (some (.val (.int s1.left))), c2⟩) rfl]
      rw [seq_nx (s1 := ⟨(e0.set 3 (some (.val (.int s1.left)))).set 4 (some (.val (.int t))), c2⟩) rfl]
      rw [seq_nx (s1 := ⟨((e0.set 3 (some (.val (.int s1.left)))).set 4 (some (.val (.int t)))).set 5 (some (.val (.int a))), c2⟩)]
      · rw [seq_nx (s1 := ⟨((e0.set 3 (some (.val (.int s1.left)))).set 4 (some (.val (.int t)))).set 5 (some (.val (.int b))), c2⟩)]
        · refine ret_eq (bin_eq (f := modD) (x := .int (b.fdiv 16)) (y := .int most) (call_eq (ds := [.int (b.fdiv 16)]) (one_eq (bin_eq (f := fdivD) (x := .int b) (y := .int 16) (by rfl) (by rfl) (div_ok (by decide) (by decide)))) (by rfl)) (by rfl) (mod_ok h0))
        · refine (set_eq (c := c2) (env := ((e0.set 3 (some (.val (.int s1.left)))).set 4 (some (.val (.int t)))).set 5 (some (.val (.int a)))) (bin_eq (f := modD) (x := .int (a * a + t * 17)) (y := .int 2147483647) (call_eq (ds := [.int (a * a + t * 17)]) (one_eq (bin_eq (f := addD) (s1 := ⟨((e0.set 3 (some (.val (.int s1.left)))).set 4 (some (.val (.int t)))).set 5 (some (.val (.int a))), c2⟩) (x := .int (a * a)) (y := .int (t * 17)) ?_ ?_ (by rfl))) (by rfl)) (by rfl) (mod_ok (by decide))) (by show 5 < 6; decide)).trans (by rfl)
          · exact bin_eq (f := mulD) (x := .int a) (y := .int a) (by rfl) (by rfl) (m1 _ _ (by omega) (by omega))
          · exact bin_eq (f := mulD) (x := .int t) (y := .int 17) (by rfl) (by rfl) (m1 _ _ (by decide) (by decide))
      · refine set_eq (bin_eq (f := modD) (x := .int (s1.mixed + t * 104729)) (y := .int 998244353) (call_eq (ds := [.int (s1.mixed + t * 104729)]) (one_eq (bin_eq (f := addD) (x := .int s1.mixed) (y := .int (t * 104729)) (by rfl) ?_ (by rfl))) (by rfl)) (by rfl) (mod_ok (by decide))) (by show 5 < 6; decide)
        exact bin_eq (f := mulD) (x := .int t) (y := .int 104729) (by rfl) (by rfl) (m1 _ _ (by decide) (by decide))
    · rw [if_ff (s1 := ⟨e0.set 3 (some (.val (.int s1.left))), s1⟩) (tst_eq (bin_eq (f := gtD) (x := .int s1.left) (y := .int 1) (by rfl) (by rfl) (by simp [gtD]; omega)))]
      rfl
/-- a draw below most -/
theorem pick_any (most : Int) (c : Src) (h1 : 1 ≤ most) (h2 : most ≤ 1000000) : ∃ r c', S_pick [.src, .int most] c = some (.int r, c') ∧ 0 ≤ r ∧ r < most := by
  by_cases h : most < 2
  · exact ⟨0, c, pick_lt most c h, by omega, by omega⟩
  · exact pick_ok most c (by omega) h2
end GH

namespace GH
open PySem (PyData)

mutual
/-- ints, texts, None, and what is made of them -/
def D.nice : D → Bool
  | .non => true
  | .int _ => true
  | .str s => PyData.strOk s
  | .tup ds => D.niceAll ds
  | .lst ds => D.niceAll ds
  | _ => false
def D.niceAll : List D → Bool
  | [] => true
  | d :: ds => d.nice && D.niceAll ds
end
mutual
theorem D.nice_can : ∀ d : D, d.nice = true → d.py.canLay0 = true
  | .non, _ => by simp [D.py, PyData.canLay0]
  | .int _, _ => by simp [D.py, PyData.canLay0]
  | .str s, h => by simpa [D.nice, D.py, PyData.canLay0] using h
  | .tup ds, h => by
    simp only [D.py, PyData.canLay0]
    exact D.niceAll_can ds (by simpa [D.nice] using h)
  | .lst ds, h => by
    simp only [D.py, PyData.canLay0]
    exact D.niceAll_can ds (by simpa [D.nice] using h)
  | .bl _, h => by simp [D.nice] at h
  | .rng _ _, h => by simp [D.nice] at h
  | .src, h => by simp [D.nice] at h
  | .dct _ _, h => by simp [D.nice] at h
  | .dtt _ _, h => by simp [D.nice] at h
theorem D.niceAll_can : ∀ ds : List D, D.niceAll ds = true → PyData.canLayAll0 (D.pys ds) = true
  | [], _ => by simp [D.pys, PyData.canLayAll0]
  | d :: ds, h => by
    simp only [D.niceAll, Bool.and_eq_true] at h
    simp only [D.pys, PyData.canLayAll0, Bool.and_eq_true]
    exact ⟨D.nice_can d h.1, D.niceAll_can ds h.2⟩
end
mutual
theorem D.eqv_nice : ∀ a b : D, a.nice = true → b.nice = true → (PyData.eqv a.py b.py = true ↔ a = b)
  | .non, b, _, hb => by cases b <;> simp [D.nice] at hb <;> simp [D.py, PyData.eqv]
  | .int i, b, _, hb => by cases b <;> simp [D.nice] at hb <;> simp [D.py, PyData.eqv]
  | .str i, b, _, hb => by cases b <;> simp [D.nice] at hb <;> simp [D.py, PyData.eqv]
  | .tup ds, b, ha, hb => by
    cases b <;> simp only [D.nice] at hb <;> try (simp [D.py, PyData.eqv]; done)
    · simp only [D.py, PyData.eqv, D.tup.injEq]
      exact D.eqvAll_nice ds _ (by simpa [D.nice] using ha) hb
    all_goals cases hb
  | .lst ds, b, ha, hb => by
    cases b <;> simp only [D.nice] at hb <;> try (simp [D.py, PyData.eqv]; done)
    · simp only [D.py, PyData.eqv, D.lst.injEq]
      exact D.eqvAll_nice ds _ (by simpa [D.nice] using ha) hb
    all_goals cases hb
  | .bl _, _, h, _ => by simp [D.nice] at h
  | .rng _ _, _, h, _ => by simp [D.nice] at h
  | .src, _, h, _ => by simp [D.nice] at h
  | .dct _ _, _, h, _ => by simp [D.nice] at h
  | .dtt _ _, _, h, _ => by simp [D.nice] at h
theorem D.eqvAll_nice : ∀ a b : List D, D.niceAll a = true → D.niceAll b = true → (PyData.eqvAll (D.pys a) (D.pys b) = true ↔ a = b)
  | [], b, _, _ => by cases b <;> simp [D.pys, PyData.eqvAll]
  | x :: a, [], _, _ => by simp [D.pys, PyData.eqvAll]
  | x :: a, y :: b, ha, hb => by
    simp only [D.niceAll, Bool.and_eq_true] at ha hb
    simp only [D.pys, PyData.eqvAll, Bool.and_eq_true, List.cons.injEq]
    rw [D.eqv_nice x y ha.1 hb.1, D.eqvAll_nice a b ha.2 hb.2]
end
/-- a tree that == takes -/
def D.ok (d : D) : Prop := d.nice = true ∧ d.py.depth ≤ 64
theorem D.ok.shaped {d : D} (h : d.ok) : PySem.SeqAt.shaped d.py = true := by
  unfold PySem.SeqAt.shaped
  rw [Bool.and_eq_true]
  exact ⟨D.nice_can d h.1, decide_eq_true h.2⟩
theorem eqD_same {a : D} (h : a.ok) : eqD a a = some (.bl true) := by
  unfold eqD
  rw [if_pos ⟨h.shaped, h.shaped⟩, (D.eqv_nice a a h.1 h.1).mpr rfl]
theorem neD_same {a : D} (h : a.ok) : neD a a = some (.bl false) := by
  unfold neD
  rw [if_pos ⟨h.shaped, h.shaped⟩, (D.eqv_nice a a h.1 h.1).mpr rfl]
  rfl
theorem eqD_iff {a b : D} (h : a.ok) (h2 : b.ok) {p : Prop} [Decidable p] (hp : a = b ↔ p) : eqD a b = some (.bl (decide p)) := by
  unfold eqD
  rw [if_pos ⟨h.shaped, h2.shaped⟩]
  have := D.eqv_nice a b h.1 h2.1
  by_cases q : p
  · rw [this.mpr (hp.mpr q), decide_eq_true q]
  · rw [decide_eq_false q]
    cases e : PyData.eqv a.py b.py with
    | false => rfl
    | true => exact absurd (hp.mp (this.mp e)) q
theorem neD_iff {a b : D} (h : a.ok) (h2 : b.ok) {p : Prop} [Decidable p] (hp : a = b ↔ p) : neD a b = some (.bl (!decide p)) := by
  have := eqD_iff h h2 hp
  unfold eqD at this
  unfold neD
  rw [if_pos ⟨h.shaped, h2.shaped⟩] at this ⊢
  have e := Option.some.inj this
  have e : PyData.eqv a.py b.py = decide p := by injection e
  rw [e]
theorem D.ok_int (i : Int) : (D.int i).ok := ⟨rfl, by simp [D.py, PyData.depth]⟩
theorem D.ok_non : D.non.ok := ⟨rfl, by simp [D.py, PyData.depth]⟩
theorem niceAll_of : ∀ {ds : List D}, (∀ d ∈ ds, d.nice = true) → D.niceAll ds = true
  | [], _ => by simp [D.niceAll]
  | d :: ds, h => by
    simp only [D.niceAll, Bool.and_eq_true]
    exact ⟨h d List.mem_cons_self, niceAll_of fun x hx => h x (List.mem_cons_of_mem _ hx)⟩
theorem depthAll_of {n : Nat} : ∀ {ds : List D}, (∀ d ∈ ds, d.py.depth ≤ n) → PyData.depthAll (D.pys ds) ≤ n
  | [], _ => by simp [D.pys, PyData.depthAll]
  | d :: ds, h => by
    simp only [D.pys, PyData.depthAll]
    exact Nat.max_le.mpr ⟨h d List.mem_cons_self, depthAll_of fun x hx => h x (List.mem_cons_of_mem _ hx)⟩
/-- .. of a depth -/
def D.okN (n : Nat) (d : D) : Prop := d.nice = true ∧ d.py.depth ≤ n
theorem D.okN.ok {n : Nat} {d : D} (h : d.okN n) (hn : n ≤ 64 := by decide) : d.ok := ⟨h.1, Nat.le_trans h.2 hn⟩
theorem D.okN_int {n : Nat} (i : Int) : (D.int i).okN n := ⟨rfl, by simp [D.py, PyData.depth]⟩
theorem D.okN_tup {n : Nat} {ds : List D} (h : ∀ d ∈ ds, d.okN n) : (D.tup ds).okN (n + 1) :=
  ⟨by simp only [D.nice]; exact niceAll_of fun d hd => (h d hd).1, by simp only [D.py, PyData.depth]; exact Nat.succ_le_succ (depthAll_of fun d hd => (h d hd).2)⟩
theorem D.okN_lst {n : Nat} {ds : List D} (h : ∀ d ∈ ds, d.okN n) : (D.lst ds).okN (n + 1) :=
  ⟨by simp only [D.nice]; exact niceAll_of fun d hd => (h d hd).1, by simp only [D.py, PyData.depth]; exact Nat.succ_le_succ (depthAll_of fun d hd => (h d hd).2)⟩
theorem eqD_int (i j : Int) : eqD (.int i) (.int j) = some (.bl (decide (i = j))) := eqD_iff (D.ok_int i) (D.ok_int j) ⟨fun h => by injection h, fun h => by rw [h]⟩
theorem neD_int (i j : Int) : neD (.int i) (.int j) = some (.bl (!decide (i = j))) := neD_iff (D.ok_int i) (D.ok_int j) ⟨fun h => by injection h, fun h => by rw [h]⟩

theorem memD_ints (i : Int) : ∀ xs : List Int, memD (.int i) (xs.map D.int) = decide (i ∈ xs)
  | [] => by simp [memD, D.pys]
  | x :: xs => by
    have ih := memD_ints i xs
    unfold memD at ih ⊢
    rw [List.map_cons]
    simp only [D.pys, List.any_cons]
    rw [ih]
    simp only [D.py, PyData.eqv]
    by_cases h : i = x
    · subst h; simp
    · have : ¬ x = i := fun z => h z.symm
      simp [h, this]
theorem okIn_ints (i : Int) (xs : List Int) : okIn (.int i) (xs.map D.int) := by
  have h : (D.lst (xs.map D.int)).okN 1 := D.okN_lst (n := 0) fun d hd => by
    obtain ⟨x, _, rfl⟩ := List.mem_map.mp hd
    exact D.okN_int x
  refine ⟨(D.ok_int i).shaped, by simpa only [D.py] using h.ok.shaped, ?_⟩
  have := D.nice_can _ h.1
  simpa only [D.py, PyData.canLay0] using this

theorem perm_map_inv {α : Type} {f : α → D} : ∀ {l l' : List D}, l.Perm l' → ∀ xs : List α, l' = xs.map f → ∃ ys : List α, ys.Perm xs ∧ l = ys.map f := by
  intro l l' h
  induction h with
  | nil => intro xs e; exact ⟨xs, .refl _, e⟩
  | @cons a l1 l2 h ih =>
    intro xs e
    cases xs with
    | nil => cases e
    | cons x xs =>
      rw [List.map_cons] at e
      cases e
      obtain ⟨ys, p, e2⟩ := ih xs rfl
      exact ⟨x :: ys, p.cons x, by rw [e2, List.map_cons]⟩
  | swap a b l =>
    intro xs e
    match xs, e with
    | x :: y :: xs, e =>
      rw [List.map_cons, List.map_cons] at e
      injection e with e1 e2
      injection e2 with e2 e3
      exact ⟨y :: x :: xs, List.Perm.swap x y xs, by rw [List.map_cons, List.map_cons, ← e1, ← e2, ← e3]⟩
  | trans _ _ ih1 ih2 =>
    intro xs e
    obtain ⟨ys, p, e1⟩ := ih2 xs e
    obtain ⟨zs, p2, e2⟩ := ih1 ys e1
    exact ⟨zs, p2.trans p, e2⟩
/-- two tuples of ints, each not empty -/
theorem alike_ints (a b : List Int) : PySem.W.alike (D.tup (a.map D.int)).py (D.tup (b.map D.int)).py = true := by
  simp only [D.py, PySem.W.alike]
  induction a generalizing b with
  | nil => simp [D.pys, PySem.W.alikeAll]
  | cons x a ih =>
    cases b with
    | nil => simp [D.pys, PySem.W.alikeAll]
    | cons y b =>
      rw [List.map_cons, List.map_cons]
      simp only [D.pys, PySem.W.alikeAll, D.py, PySem.W.alike, Bool.true_and]
      exact ih b
theorem okSort_ints (vs : List (List Int)) (h : ∀ v ∈ vs, v ≠ []) : okSort (D.pys (vs.map fun v => D.tup (v.map D.int))) = true := by
  have mem : ∀ p ∈ D.pys (vs.map fun v => D.tup (v.map D.int)), ∃ v ∈ vs, p = (D.tup (v.map D.int)).py := fun p hp => by
    rw [pys_map, List.map_map] at hp
    obtain ⟨v, hv, rfl⟩ := List.mem_map.mp hp
    exact ⟨v, hv, rfl⟩
  have okt : ∀ v : List Int, (D.tup (v.map D.int)).okN 1 := fun v => D.okN_tup (n := 0) fun d hd => by
    obtain ⟨x, _, rfl⟩ := List.mem_map.mp hd
    exact D.okN_int x
  unfold okSort
  simp only [Bool.and_eq_true, Bool.or_eq_true]
  refine ⟨⟨⟨List.all_eq_true.mpr fun a ha => List.all_eq_true.mpr fun b hb => ?_, .inl (List.all_eq_true.mpr fun a ha => ?_)⟩, List.all_eq_true.mpr fun a ha => ?_⟩, ?_⟩
  · obtain ⟨v, _, rfl⟩ := mem a ha
    obtain ⟨u, _, rfl⟩ := mem b hb
    exact alike_ints v u
  · obtain ⟨v, hv, rfl⟩ := mem a ha
    cases v with
    | nil => exact absurd rfl (h _ hv)
    | cons x r => simp [D.py, D.pys]
  · obtain ⟨v, hv, rfl⟩ := mem a ha
    exact decide_eq_true (Nat.le_trans (okt v).2 (by decide))
  · exact D.niceAll_can _ (niceAll_of fun d hd => by
      obtain ⟨v, _, rfl⟩ := List.mem_map.mp hd
      exact (okt v).1)
theorem srt_ints (vs : List (List Int)) (h : ∀ v ∈ vs, v ≠ []) (hl : vs.length ≤ 100000) : ∃ us : List (List Int), us.Perm vs ∧ srtG [.lst (vs.map fun v => D.tup (v.map D.int))] = some (us.map fun v => D.tup (v.map D.int)) := by
  obtain ⟨us, p, e⟩ := perm_map_inv (List.mergeSort_perm (vs.map fun v => D.tup (v.map D.int)) (PySem.W.dataLe false D.py)) vs rfl
  refine ⟨us, p, ?_⟩
  show (if okSort (D.pys (vs.map fun v => D.tup (v.map D.int))) = true ∧ (vs.map fun v => D.tup (v.map D.int)).length ≤ PySem.sizeLine then some ((vs.map fun v => D.tup (v.map D.int)).mergeSort (PySem.W.dataLe false D.py)) else none) = _
  rw [if_pos ⟨okSort_ints vs h, sz _ (by simpa using hl)⟩, e]

theorem wipeE_sub {env : List (Option Sl)} {us vs : List Nat} (h : ∀ u ∈ us, u ∈ vs) : wipeE (wipeE env us) vs = wipeE env vs := by
  refine List.ext_getElem? fun i => ?_
  by_cases hi : i ∈ vs
  · rw [wipeE_at hi, wipeE_at hi]
    by_cases hu : i ∈ us
    · rw [wipeE_at hu]; cases env[i]? <;> rfl
    · rw [wipeE_get hu]
  · rw [wipeE_get hi, wipeE_get hi, wipeE_get fun z => hi (h i z)]
theorem outF_map {α β : Type} {vs vs1 : List Nat} {g g1 : D → M Unit} {c1 : M Bool} {el : M D} {it1 : M (List D)} {env : List (Option Sl)} {enc : α → D} {enc1 : β → D} {f : α → β → D} {ys : List β} {src : Src} (sub : ∀ i ∈ vs1, i ∈ vs) : ∀ {xs : List α} {env0 : List (Option Sl)}, wipeE env0 vs = wipeE env vs →
    (∀ x ∈ xs, ∃ env1, g (enc x) ⟨wipeE env vs, src⟩ = some ((), ⟨env1, src⟩) ∧ wipeE env1 vs = wipeE env vs ∧ it1 ⟨env1, src⟩ = some (ys.map enc1, ⟨env1, src⟩) ∧
      ∀ y ∈ ys, ∃ env2, turnC g1 c1 el (enc1 y) ⟨wipeE env1 vs1, src⟩ = some (some (f x y), ⟨env2, src⟩) ∧ wipeE env2 vs1 = wipeE env1 vs1) →
    ∃ env2, outF vs (cOut vs vs1 g (ret true) it1 g1 c1 el) (xs.map enc) ⟨env0, src⟩ = some (xs.flatMap fun x => ys.map (f x), ⟨env2, src⟩) ∧ wipeE env2 vs = wipeE env vs
  | [], env0, h, _ => ⟨env0, rfl, h⟩
  | x :: r, env0, h, step => by
    obtain ⟨env1, e1, w1, i1, t1⟩ := step x List.mem_cons_self
    obtain ⟨envE, eE, wE⟩ := compF_pure (vs := vs1) (g := g1) (c := c1) (el := el) (env := env1) (enc := enc1) (f := fun y => some (f x y)) (src := src) (xs := ys) (env0 := env1) rfl t1
    have eE2 : (ys.filterMap fun y => some (f x y)) = ys.map (f x) := by
      clear t1 i1 eE
      induction ys with
      | nil => rfl
      | cons y r ih => rw [List.filterMap_cons, List.map_cons]; simp
    rw [eE2] at eE
    have wE2 : wipeE envE vs = wipeE env vs := by rw [← wipeE_sub (env := envE) sub, wE, wipeE_sub sub, w1]
    obtain ⟨env2, e2, w2⟩ := outF_map sub (xs := r) (env0 := envE) wE2 fun x hx => step x (List.mem_cons_of_mem _ hx)
    refine ⟨env2, ?_, w2⟩
    have hc : cOut vs vs1 g (ret true) it1 g1 c1 el (enc x) ⟨env0, src⟩ = some (ys.map (f x), ⟨envE, src⟩) := by
      show bnd (g (enc x)) _ ⟨wipeE env0 vs, src⟩ = _
      rw [h, bnd_eq e1, bnd_eq (a := true) (s1 := ⟨env1, src⟩) rfl, if_pos rfl, bnd_eq i1]
      exact eE
    show bnd (cOut vs vs1 g (ret true) it1 g1 c1 el (enc x)) _ _ = _
    rw [bnd_eq hc, bnd_eq e2]
    rfl
theorem comp2_map {α β : Type} {vs vs1 : List Nat} {g g1 : D → M Unit} {c1 : M Bool} {el : M D} {it it1 : M (List D)} {env : List (Option Sl)} {enc : α → D} {enc1 : β → D} {f : α → β → D} {xs : List α} {ys : List β} {src src1 : Src} (sub : ∀ i ∈ vs1, i ∈ vs)
    (hit : it ⟨env, src⟩ = some (xs.map enc, ⟨env, src1⟩)) (hl : (xs.flatMap fun x => ys.map (f x)).length ≤ 100000) (cl : cleanE env vs)
    (step : ∀ x ∈ xs, ∃ env1, g (enc x) ⟨wipeE env vs, src1⟩ = some ((), ⟨env1, src1⟩) ∧ wipeE env1 vs = wipeE env vs ∧ it1 ⟨env1, src1⟩ = some (ys.map enc1, ⟨env1, src1⟩) ∧
      ∀ y ∈ ys, ∃ env2, turnC g1 c1 el (enc1 y) ⟨wipeE env1 vs1, src1⟩ = some (some (f x y), ⟨env2, src1⟩) ∧ wipeE env2 vs1 = wipeE env1 vs1) :
    eComp2 vs vs1 g (ret true) it1 g1 c1 el it ⟨env, src⟩ = some (xs.flatMap fun x => ys.map (f x), ⟨env, src1⟩) := by
  obtain ⟨env2, h3, h4⟩ := outF_map sub rfl step
  unfold eComp2
  refine (bnd_eq hit).trans ?_
  show (match outF vs (cOut vs vs1 g (ret true) it1 g1 c1 el) (xs.map enc) ⟨env, src1⟩ with
    | some (ys, sn) => if ys.length ≤ PySem.sizeLine then some (ys, { sn with env := restE env sn.env vs }) else none
    | none => none) = _
  rw [h3]
  show (if (xs.flatMap fun x => ys.map (f x)).length ≤ PySem.sizeLine then some (xs.flatMap fun x => ys.map (f x), (⟨restE env env2 vs, src1⟩ : S)) else none) = _
  rw [if_pos (sz _ hl), rest_clean h4 cl]
theorem enum_range (ds : List D) : enumF 0 ds = (List.range ds.length).map fun i => D.tup [.int ((i : Nat) : Int), ds.getD i .non] := by
  refine List.ext_getElem? fun i => ?_
  rw [enumF_get, List.getElem?_map]
  by_cases h : i < ds.length
  · rw [List.getElem?_range h, List.getElem?_eq_getElem h]
    simp [List.getD_eq_getElem?_getD, List.getElem?_eq_getElem h]
  · rw [List.getElem?_eq_none (by omega), List.getElem?_eq_none (by simpa using h)]
    rfl
end GH

namespace GH
open PySem PySem.Spec PyProof.Rows L2

/-- a mark that keeps rewriting out of what is marked -/
inductive Ph {α : Sort u} (a : α) : Type where
  | mk
def Wp {α : Type} (m : M α) (s : S) (Q : α → S → Prop) (_ : Ph (m, Q) := .mk) : Prop := ∃ a s', m s = some (a, s') ∧ Q a s'
def Sm {α : Type} (o : Option α) (P : α → Prop) (_ : Ph P := .mk) : Prop := ∃ a, o = some a ∧ P a
def Cl (g : FnSem) (ds : List D) (c : Src) (R : D → Src → Prop) (_ : Ph R := .mk) : Prop := ∃ d c', g ds c = some (d, c') ∧ R d c'
/-- what follows by a truth -/
def IfB (b : Bool) (P P' : Prop) (_ : Ph P := .mk) (_ : Ph P' := .mk) : Prop := (b = true → P) ∧ (b = false → P')
/-- what follows a statement: the next one, or the way out -/
def Nx (o : Out) (P : Prop) (R : Out → Prop) (_ : Ph P := .mk) (_ : Ph R := .mk) : Prop := match o with
  | .nx => P
  | o => R o
def VarAt (env : List (Option Sl)) (i : Nat) (P : D → Prop) (_ : Ph P := .mk) : Prop := ∃ d, env[i]? = some (some (.val d)) ∧ P d
def SlAt (env : List (Option Sl)) (i : Nat) (P : Sl → Prop) (_ : Ph P := .mk) : Prop := ∃ d, env[i]? = some (some d) ∧ P d
def OwnAt (env : List (Option Sl)) (i : Nat) (P : List D → Prop) (_ : Ph P := .mk) : Prop := ∃ d, env[i]? = some (some (.own d)) ∧ P d
def SetAt (env : List (Option Sl)) (i : Nat) (x : Option Sl) (P : List (Option Sl) → Prop) (_ : Ph P := .mk) (_ : Ph x := .mk) : Prop := i < env.length ∧ P (env.set i x)
/-- a slot read whole: an own one is own no more -/
def FrzAt (env : List (Option Sl)) (i : Nat) (P : D → List (Option Sl) → Prop) (_ : Ph P := .mk) : Prop := ∃ sl, env[i]? = some (some sl) ∧ P sl.bor (env.set i (some (.val sl.bor)))
def LenOk (ds : List D) (P : Prop) (_ : Ph P := .mk) : Prop := ds.length ≤ sizeLine ∧ P
def IsB (d : D) (P : Bool → Prop) (_ : Ph P := .mk) : Prop := ∃ b, d = .bl b ∧ P b
def IsI (d : D) (P : Int → Prop) (_ : Ph P := .mk) : Prop := ∃ b, d = .int b ∧ P b

section
variable {α β : Type} {s : S} {c : Src} {env : List (Option Sl)}

theorem Wp.mono {m : M α} {Q Q' : α → S → Prop} (h : Wp m s Q) (f : ∀ a s', Q a s' → Q' a s') : Wp m s Q' := by
  obtain ⟨a, s', e, q⟩ := h; exact ⟨a, s', e, f a s' q⟩
theorem Cl.mono {g : FnSem} {ds : List D} {R R' : D → Src → Prop} (h : Cl g ds c R) (f : ∀ a s', R a s' → R' a s') : Cl g ds c R' := by
  obtain ⟨a, s', e, q⟩ := h; exact ⟨a, s', e, f a s' q⟩
theorem Wp.eq {m : M α} {a : α} {s' : S} (h : Wp m s fun x t => x = a ∧ t = s') : m s = some (a, s') := by
  obtain ⟨x, t, e, rfl, rfl⟩ := h; exact e
theorem Wp.of {m : M α} {a : α} {s' : S} {Q : α → S → Prop} (h : m s = some (a, s')) (q : Q a s') : Wp m s Q := ⟨a, s', h, q⟩
theorem wp_cg {m : M α} {Q Q' : α → S → Prop} (h : ∀ a s', Q a s' ↔ Q' a s') : Wp m s Q ↔ Wp m s Q' := ⟨fun z => z.mono fun a s' => (h a s').mp, fun z => z.mono fun a s' => (h a s').mpr⟩
theorem sm_cg {o : Option α} {Q Q' : α → Prop} (h : ∀ a, Q a ↔ Q' a) : Sm o Q ↔ Sm o Q' := ⟨fun ⟨a, e, q⟩ => ⟨a, e, (h a).mp q⟩, fun ⟨a, e, q⟩ => ⟨a, e, (h a).mpr q⟩⟩
theorem ifB_cg {b : Bool} {P P' R R' : Prop} (h : P ↔ P') (h2 : R ↔ R') : IfB b P R ↔ IfB b P' R' := by unfold IfB; rw [h, h2]
theorem wp_eq {m : M α} {a : α} {s' : S} {Q : α → S → Prop} (h : m s = some (a, s')) : Wp m s Q ↔ Q a s' :=
  ⟨fun ⟨x, t, e, q⟩ => by rw [h] at e; cases e; exact q, fun q => ⟨a, s', h, q⟩⟩
theorem wp_bnd {m : M α} {f : α → M β} {Q : β → S → Prop} : Wp (bnd m f) s Q ↔ Wp m s fun a s1 => Wp (f a) s1 Q := by
  constructor
  · rintro ⟨b, s2, e, q⟩
    obtain ⟨a, s1, e1, e2⟩ := bnd_some e
    exact ⟨a, s1, e1, b, s2, e2, q⟩
  · rintro ⟨a, s1, e1, b, s2, e2, q⟩
    exact ⟨b, s2, by rw [bnd_eq e1]; exact e2, q⟩
theorem wp_ret {a : α} {Q : α → S → Prop} : Wp (ret a) s Q ↔ Q a s := wp_eq rfl
theorem wp_lift {o : Option α} {Q : α → S → Prop} : Wp (lift o) s Q ↔ Sm o fun a => Q a s := by
  constructor
  · rintro ⟨a, s1, e, q⟩
    obtain ⟨e1, rfl⟩ := lift_some e
    exact ⟨a, e1, q⟩
  · rintro ⟨a, rfl, q⟩
    exact ⟨a, s, rfl, q⟩
theorem wp_fail {Q : α → S → Prop} : Wp fail s Q ↔ False := ⟨fun ⟨_, _, e, _⟩ => (by cases e), False.elim⟩
theorem sm_some {a : α} {P : α → Prop} : Sm (some a) P ↔ P a := ⟨fun ⟨_, e, p⟩ => by cases e; exact p, fun p => ⟨a, rfl, p⟩⟩
theorem sm_none {P : α → Prop} : Sm (none : Option α) P ↔ False := ⟨fun ⟨_, e, _⟩ => (by cases e), False.elim⟩
theorem sm_eq {o : Option α} {a : α} {P : α → Prop} (h : o = some a) : Sm o P ↔ P a := by rw [h]; exact sm_some
theorem sm_ite {p : Prop} [Decidable p] {a : Option α} {P : α → Prop} : Sm (if p then a else none) P ↔ p ∧ Sm a P := by
  by_cases h : p
  · rw [if_pos h]; simp [h]
  · rw [if_neg h, sm_none]; simp [h]
theorem sm_map {o : Option α} {f : α → β} {P : β → Prop} : Sm (o.map f) P ↔ Sm o fun a => P (f a) := by
  constructor
  · rintro ⟨b, e, p⟩
    obtain ⟨a, e1, rfl⟩ := Option.map_eq_some_iff.mp e
    exact ⟨a, e1, p⟩
  · rintro ⟨a, rfl, p⟩; exact ⟨_, rfl, p⟩
theorem sm_bind {o : Option α} {f : α → Option β} {P : β → Prop} : Sm (o.bind f) P ↔ Sm o fun a => Sm (f a) P := by
  constructor
  · rintro ⟨b, e, p⟩
    obtain ⟨a, e1, e2⟩ := Option.bind_eq_some_iff.mp e
    exact ⟨a, e1, b, e2, p⟩
  · rintro ⟨a, rfl, b, e, p⟩; exact ⟨b, e, p⟩
theorem cl_eq {g : FnSem} {ds : List D} {c' : Src} {d : D} {R : D → Src → Prop} (h : g ds c = some (d, c')) : Cl g ds c R ↔ R d c' :=
  ⟨fun ⟨x, t, e, q⟩ => by rw [h] at e; cases e; exact q, fun q => ⟨d, c', h, q⟩⟩
theorem Cl.eq {g : FnSem} {ds : List D} {c' : Src} {d : D} (h : Cl g ds c fun x t => x = d ∧ t = c') : g ds c = some (d, c') := by
  obtain ⟨x, t, e, rfl, rfl⟩ := h; exact e

theorem ifB_tt {P P' : Prop} : IfB true P P' ↔ P := by simp [IfB]
theorem ifB_ff {P P' : Prop} : IfB false P P' ↔ P' := by simp [IfB]
theorem ifB_dec {p : Prop} [Decidable p] {P P' : Prop} : IfB (decide p) P P' ↔ (p → P) ∧ (¬ p → P') := by simp [IfB]
theorem ifB_not {b : Bool} {P P' : Prop} : IfB (!b) P P' ↔ IfB b P' P := by cases b <;> simp [IfB]
theorem ifB_var {b : Bool} {P P' : Prop} : IfB b P P' ↔ (b = true → P) ∧ (b = false → P') := Iff.rfl
theorem nx_nx {P : Prop} {R : Out → Prop} : Nx .nx P R ↔ P := Iff.rfl
theorem nx_ret {P : Prop} {d : D} {R : Out → Prop} : Nx (.ret d) P R ↔ R (.ret d) := Iff.rfl
theorem nx_brk {P : Prop} {R : Out → Prop} : Nx .brk P R ↔ R .brk := Iff.rfl
theorem nx_cnt {P : Prop} {R : Out → Prop} : Nx .cnt P R ↔ R .cnt := Iff.rfl
theorem ownAt_cg {i : Nat} {P P' : List D → Prop} (h : ∀ d, P d ↔ P' d) : OwnAt env i P ↔ OwnAt env i P' := ⟨fun ⟨d, e, p⟩ => ⟨d, e, (h d).mp p⟩, fun ⟨d, e, p⟩ => ⟨d, e, (h d).mpr p⟩⟩
theorem setAt_cg {i : Nat} {x : Option Sl} {P P' : List (Option Sl) → Prop} (h : ∀ d, P d ↔ P' d) : SetAt env i x P ↔ SetAt env i x P' := ⟨fun ⟨e, p⟩ => ⟨e, (h _).mp p⟩, fun ⟨e, p⟩ => ⟨e, (h _).mpr p⟩⟩
theorem varAt_z {d : D} {r : List (Option Sl)} {P : D → Prop} : VarAt (some (.val d) :: r) 0 P ↔ P d := ⟨fun ⟨_, e, p⟩ => by cases e; exact p, fun p => ⟨d, rfl, p⟩⟩
theorem varAt_s {x : Option Sl} {i : Nat} {r : List (Option Sl)} {P : D → Prop} : VarAt (x :: r) (i + 1) P ↔ VarAt r i P := by unfold VarAt; simp only [List.getElem?_cons_succ]
theorem slAt_z {d : Sl} {r : List (Option Sl)} {P : Sl → Prop} : SlAt (some d :: r) 0 P ↔ P d := ⟨fun ⟨_, e, p⟩ => by cases e; exact p, fun p => ⟨d, rfl, p⟩⟩
theorem slAt_s {x : Option Sl} {i : Nat} {r : List (Option Sl)} {P : Sl → Prop} : SlAt (x :: r) (i + 1) P ↔ SlAt r i P := by unfold SlAt; simp only [List.getElem?_cons_succ]
theorem ownAt_z {d : List D} {r : List (Option Sl)} {P : List D → Prop} : OwnAt (some (.own d) :: r) 0 P ↔ P d := ⟨fun ⟨_, e, p⟩ => by cases e; exact p, fun p => ⟨d, rfl, p⟩⟩
theorem ownAt_s {x : Option Sl} {i : Nat} {r : List (Option Sl)} {P : List D → Prop} : OwnAt (x :: r) (i + 1) P ↔ OwnAt r i P := by unfold OwnAt; simp only [List.getElem?_cons_succ]
theorem setAt_z {x y : Option Sl} {r : List (Option Sl)} {P : List (Option Sl) → Prop} : SetAt (y :: r) 0 x P ↔ P (x :: r) := by unfold SetAt; simp
theorem setAt_s {x y : Option Sl} {i : Nat} {r : List (Option Sl)} {P : List (Option Sl) → Prop} : SetAt (y :: r) (i + 1) x P ↔ SetAt r i x fun r' => P (y :: r') := by unfold SetAt; simp
theorem frzAt_z {sl : Sl} {r : List (Option Sl)} {P : D → List (Option Sl) → Prop} : FrzAt (some sl :: r) 0 P ↔ P sl.bor (some (.val sl.bor) :: r) := ⟨fun ⟨_, e, p⟩ => by cases e; exact p, fun p => ⟨sl, rfl, p⟩⟩
theorem frzAt_s {y : Option Sl} {i : Nat} {r : List (Option Sl)} {P : D → List (Option Sl) → Prop} : FrzAt (y :: r) (i + 1) P ↔ FrzAt r i fun d r' => P d (y :: r') := by unfold FrzAt; simp
theorem bor_val {d : D} : (Sl.val d).bor = d := rfl
theorem bor_own {d : List D} : (Sl.own d).bor = .lst d := rfl
theorem bor_ownK {ks : List Key} {d : List D} : (Sl.ownK ks d).bor = .dct ks d := rfl
theorem bor_ownT {ks : List (List Key)} {d : List D} : (Sl.ownT ks d).bor = .dtt ks d := rfl
theorem len_0 {P : Prop} : LenOk [] P ↔ P := by simp [LenOk]
theorem len_1 {a : D} {P : Prop} : LenOk [a] P ↔ P := by have := line63; simp [LenOk, sizeLine_eq]
theorem len_2 {a b : D} {P : Prop} : LenOk [a, b] P ↔ P := by simp [LenOk, sizeLine_eq]
theorem len_3 {a b c : D} {P : Prop} : LenOk [a, b, c] P ↔ P := by simp [LenOk, sizeLine_eq]
theorem len_4 {a b c d : D} {P : Prop} : LenOk [a, b, c, d] P ↔ P := by simp [LenOk, sizeLine_eq]
theorem len_5 {a b c d e : D} {P : Prop} : LenOk [a, b, c, d, e] P ↔ P := by simp [LenOk, sizeLine_eq]
theorem len_6 {a b c d e f : D} {P : Prop} : LenOk [a, b, c, d, e, f] P ↔ P := by simp [LenOk, sizeLine_eq]
theorem len_any {ds : List D} {P : Prop} : LenOk ds P ↔ ds.length ≤ 16777216 ∧ P := by simp only [LenOk, sizeLine_eq]
theorem isB_bl {b : Bool} {P : Bool → Prop} : IsB (.bl b) P ↔ P b := ⟨fun ⟨_, e, p⟩ => by cases e; exact p, fun p => ⟨b, rfl, p⟩⟩
theorem isI_int {b : Int} {P : Int → Prop} : IsI (.int b) P ↔ P b := ⟨fun ⟨_, e, p⟩ => by cases e; exact p, fun p => ⟨b, rfl, p⟩⟩

section
variable {Q : D → S → Prop} {ma mb mc m : M D} {ms : M (List D)} {f g : D → D → Option D}
theorem wp_var {i : Nat} : Wp (eVar i) ⟨env, c⟩ Q ↔ VarAt env i fun d => Q d ⟨env, c⟩ := by
  constructor
  · rintro ⟨a, s', e, q⟩
    unfold eVar at e
    split at e
    · rename_i d hd; cases e; exact ⟨_, hd, q⟩
    · cases e
  · rintro ⟨d, e, q⟩
    exact ⟨d, _, by unfold eVar; rw [e], q⟩
theorem wp_frz {i : Nat} : Wp (eFrz i) ⟨env, c⟩ Q ↔ FrzAt env i fun d env' => Q d ⟨env', c⟩ := by
  have hs : ∀ {sl : Sl}, env[i]? = some (some sl) → eFrz i ⟨env, c⟩ = some (sl.bor, ⟨env.set i (some (.val sl.bor)), c⟩) := fun {sl} h => by
    unfold eFrz
    rw [h]
    cases sl with
    | val d =>
      have : env.set i (some (.val d)) = env := by
        obtain ⟨hl, e⟩ := List.getElem?_eq_some_iff.mp h
        rw [← e]; exact List.set_getElem_self hl
      show some (d, (⟨env, c⟩ : S)) = some (d, ⟨env.set i (some (.val d)), c⟩)
      rw [this]
    | own ds => rfl
    | ownK ks ds => rfl
    | ownT ks ds => rfl
  constructor
  · rintro ⟨a, s', e, q⟩
    cases h : env[i]? with
    | none => unfold eFrz at e; rw [show (⟨env, c⟩ : S).env[i]? = none from h] at e; cases e
    | some x =>
      cases x with
      | none => unfold eFrz at e; rw [show (⟨env, c⟩ : S).env[i]? = some none from h] at e; cases e
      | some sl => rw [hs h] at e; cases e; exact ⟨sl, h, q⟩
  · rintro ⟨sl, e, q⟩
    exact ⟨_, _, hs e, q⟩
theorem wp_C {d : D} : Wp (eC d) s Q ↔ Q d s := wp_eq rfl
theorem wp_bin : Wp (eBin f ma mb) s Q ↔ Wp ma s fun x s1 => Wp mb s1 fun y s2 => Sm (f x y) fun d => Q d s2 := wp_bnd.trans (wp_cg fun _ _ => wp_bnd.trans (wp_cg fun _ _ => wp_lift))
theorem wp_un {f : D → Option D} : Wp (eUn f ma) s Q ↔ Wp ma s fun x s1 => Sm (f x) fun d => Q d s1 := wp_bnd.trans (wp_cg fun _ _ => wp_lift)
theorem wp_tst {Q : Bool → S → Prop} : Wp (tst m) s Q ↔ Wp m s fun d s1 => IsB d fun b => Q b s1 := by
  have go : ∀ (d : D) s1, Wp (match d with | .bl b => ret b | _ => (fail : M Bool)) s1 Q ↔ IsB d fun b => Q b s1 := fun d s1 => by
    constructor
    · rintro ⟨b, s2, e, q⟩
      cases d <;> first | (cases e; done) | (obtain ⟨rfl, rfl⟩ := ret_some e; exact ⟨_, rfl, q⟩)
    · rintro ⟨b, rfl, q⟩; exact ⟨b, s1, rfl, q⟩
  unfold tst; rw [wp_bnd]; exact ⟨fun h => h.mono fun d s1 => (go d s1).mp, fun h => h.mono fun d s1 => (go d s1).mpr⟩
theorem wp_tru {Q : Bool → S → Prop} : Wp (tru m) s Q ↔ Wp m s fun d s1 => Sm (truD d) fun b => Q b s1 := wp_bnd.trans (wp_cg fun _ _ => wp_lift)
theorem wp_iteB {b : Bool} {m n : M α} {Q : α → S → Prop} : Wp (if b = true then m else n) s Q ↔ IfB b (Wp m s Q) (Wp n s Q) := by
  cases b <;> simp [IfB]
theorem wp_and2 {m n : M Bool} {Q : Bool → S → Prop} : Wp (tAnd2 m n) s Q ↔ Wp m s fun b s1 => IfB b (Wp n s1 Q) (Q false s1) := wp_bnd.trans (wp_cg fun _ _ => wp_iteB.trans (ifB_cg Iff.rfl wp_ret))
theorem wp_or2 {m n : M Bool} {Q : Bool → S → Prop} : Wp (tOr2 m n) s Q ↔ Wp m s fun b s1 => IfB b (Q true s1) (Wp n s1 Q) := wp_bnd.trans (wp_cg fun _ _ => wp_iteB.trans (ifB_cg wp_ret Iff.rfl))
theorem wp_not1 {m : M Bool} {Q : Bool → S → Prop} : Wp (tNot1 m) s Q ↔ Wp m s fun b s1 => Q (!b) s1 := wp_bnd.trans (wp_cg fun _ _ => wp_ret)
theorem wp_eAnd : Wp (eAnd ma mb) s Q ↔ Wp ma s fun x s1 => Sm (truD x) fun b => IfB b (Wp mb s1 Q) (Q x s1) := wp_bnd.trans (wp_cg fun _ _ => wp_bnd.trans (wp_lift.trans (sm_cg fun _ => wp_iteB.trans (ifB_cg Iff.rfl wp_ret))))
theorem wp_eOr : Wp (eOr ma mb) s Q ↔ Wp ma s fun x s1 => Sm (truD x) fun b => IfB b (Q x s1) (Wp mb s1 Q) := wp_bnd.trans (wp_cg fun _ _ => wp_bnd.trans (wp_lift.trans (sm_cg fun _ => wp_iteB.trans (ifB_cg wp_ret Iff.rfl))))
theorem wp_eNot : Wp (eNot ma) s Q ↔ Wp ma s fun x s1 => Sm (truD x) fun b => Q (.bl (!b)) s1 := wp_bnd.trans (wp_cg fun _ _ => wp_bnd.trans (wp_lift.trans (sm_cg fun _ => wp_ret)))
theorem wp_eIf {t : M Bool} : Wp (eIf t ma mb) s Q ↔ Wp t s fun b s1 => IfB b (Wp ma s1 Q) (Wp mb s1 Q) := wp_bnd.trans (wp_cg fun _ _ => wp_iteB)
theorem wp_chain : Wp (eChain f g ma mb mc) s Q ↔ Wp ma s fun x s1 => Wp mb s1 fun y s2 => Sm (f x y) fun z => IsB z fun b => IfB b (Wp mc s2 fun w s3 => Sm (g y w) fun d => Q d s3) (Q (.bl false) s2) := by
  have go : ∀ (z y : D) s2, Wp (match z with | .bl true => bnd mc fun w => lift (g y w) | .bl false => ret (.bl false) | _ => (fail : M D)) s2 Q ↔ IsB z fun b => IfB b (Wp mc s2 fun w s3 => Sm (g y w) fun d => Q d s3) (Q (.bl false) s2) := fun z y s2 => by
    cases z with
    | bl b =>
      rw [isB_bl]
      cases b with
      | true => rw [ifB_tt]; exact wp_bnd.trans (wp_cg fun _ _ => wp_lift)
      | false => rw [ifB_ff]; exact wp_ret
    | _ => exact ⟨fun ⟨_, _, e, _⟩ => (by cases e), fun ⟨_, e, _⟩ => (by cases e)⟩
  unfold eChain
  rw [wp_bnd]
  refine ⟨fun h => h.mono fun x s1 h => ?_, fun h => h.mono fun x s1 h => ?_⟩
  · exact (wp_bnd.mp h).mono fun y s2 h => by
      obtain ⟨z, e, h⟩ := wp_lift.mp (show Wp (lift (f x y)) s2 _ from wp_bnd.mp h)
      exact ⟨z, e, (go z y s2).mp h⟩
  · exact wp_bnd.mpr (h.mono fun y s2 h => wp_bnd.mpr (wp_lift.mpr (by
      obtain ⟨z, e, h⟩ := h
      exact ⟨z, e, (go z y s2).mpr h⟩)))
theorem wp_aNil {Q : List D → S → Prop} : Wp aNil s Q ↔ Q [] s := wp_eq rfl
theorem wp_aCons {Q : List D → S → Prop} : Wp (aCons m ms) s Q ↔ Wp m s fun d s1 => Wp ms s1 fun ds s2 => Q (d :: ds) s2 := wp_bnd.trans (wp_cg fun _ _ => wp_bnd.trans (wp_cg fun _ _ => wp_ret))
theorem wp_aStar {Q : List D → S → Prop} : Wp (aStar m ms) s Q ↔ Wp m s fun d s1 => Sm (seqD d) fun xs => Wp ms s1 fun ds s2 => Q (xs ++ ds) s2 := wp_bnd.trans (wp_cg fun _ _ => wp_bnd.trans (wp_lift.trans (sm_cg fun _ => wp_bnd.trans (wp_cg fun _ _ => wp_ret))))
theorem wp_lenIf {ds : List D} {x : α} {Q : α → S → Prop} : Wp (if ds.length ≤ sizeLine then ret x else fail) s Q ↔ LenOk ds (Q x s) := by
  unfold LenOk
  by_cases h : ds.length ≤ sizeLine
  · rw [if_pos h, wp_ret]; simp [h]
  · rw [if_neg h, wp_fail]; simp [h]
theorem wp_tup : Wp (eTup ms) s Q ↔ Wp ms s fun ds s1 => LenOk ds (Q (.tup ds) s1) := wp_bnd.trans (wp_cg fun _ _ => wp_lenIf)
theorem wp_disp {Q : List D → S → Prop} : Wp (lDisp ms) s Q ↔ Wp ms s fun ds s1 => LenOk ds (Q ds s1) := wp_bnd.trans (wp_cg fun _ _ => wp_lenIf)
theorem wp_lst : Wp (eLst ms) s Q ↔ Wp ms s fun ds s1 => Q (.lst ds) s1 := wp_bnd.trans (wp_cg fun _ _ => wp_ret)
theorem wp_call {G : List D → Option D} : Wp (eCall G ms) s Q ↔ Wp ms s fun ds s1 => Sm (G ds) fun d => Q d s1 := wp_bnd.trans (wp_cg fun _ _ => wp_lift)
theorem wp_callL {G : List D → Option (List D)} {Q : List D → S → Prop} : Wp (eCallL G ms) s Q ↔ Wp ms s fun ds s1 => Sm (G ds) fun d => Q d s1 := wp_bnd.trans (wp_cg fun _ _ => wp_lift)
theorem wp_binL {f : D → D → Option (List D)} {Q : List D → S → Prop} : Wp (eBinL f ma mb) s Q ↔ Wp ma s fun x s1 => Wp mb s1 fun y s2 => Sm (f x y) fun d => Q d s2 := wp_bnd.trans (wp_cg fun _ _ => wp_bnd.trans (wp_cg fun _ _ => wp_lift))
theorem wp_fn {g : FnSem} : Wp (eFn g ms) s Q ↔ Wp ms s fun ds s1 => Cl g ds s1.src fun d c' => Q d ⟨s1.env, c'⟩ := by
  constructor
  · rintro ⟨d, s', e, q⟩
    obtain ⟨ds, s1, e1, e2⟩ := bnd_some e
    refine ⟨ds, s1, e1, ?_⟩
    split at e2
    · rename_i d' c' h; cases e2; exact ⟨_, _, h, q⟩
    · cases e2
  · rintro ⟨ds, s1, e1, d, c', e2, q⟩
    refine ⟨d, _, ?_, q⟩
    unfold eFn
    refine (bnd_eq e1).trans ?_
    show (match g ds s1.src with | some (d, c) => some (d, { s1 with src := c }) | none => none) = _
    rw [e2]
theorem wp_fld {i : Nat} {f : Src → Int} : Wp (eFld i f) ⟨env, c⟩ Q ↔ VarAt env i fun d => d = .src ∧ Q (.int (f c)) ⟨env, c⟩ := by
  constructor
  · rintro ⟨a, s', e, q⟩
    unfold eFld at e
    split at e
    · rename_i hd; cases e; exact ⟨_, hd, rfl, q⟩
    · cases e
  · rintro ⟨d, e, rfl, q⟩
    exact ⟨_, _, by unfold eFld; rw [e], q⟩
theorem wp_oNo {Q : Option Int → S → Prop} : Wp oNo s Q ↔ Q none s := wp_eq rfl
theorem wp_oAt {Q : Option Int → S → Prop} : Wp (oAt m) s Q ↔ Wp m s fun d s1 => IsI d fun i => Q (some i) s1 := by
  have go : ∀ (d : D) s1, Wp (match d with | .int i => ret (some i) | _ => (fail : M (Option Int))) s1 Q ↔ IsI d fun i => Q (some i) s1 := fun d s1 => by
    constructor
    · rintro ⟨b, s2, e, q⟩
      cases d <;> first | (cases e; done) | (obtain ⟨rfl, rfl⟩ := ret_some e; exact ⟨_, rfl, q⟩)
    · rintro ⟨b, rfl, q⟩; exact ⟨_, s1, rfl, q⟩
  unfold oAt; rw [wp_bnd]; exact ⟨fun h => h.mono fun d s1 => (go d s1).mp, fun h => h.mono fun d s1 => (go d s1).mpr⟩
theorem wp_sl {lo hi : M (Option Int)} : Wp (eSl m lo hi) s Q ↔ Wp m s fun d s1 => Wp lo s1 fun l s2 => Wp hi s2 fun h s3 => Sm (slD l h d) fun z => Q z s3 := wp_bnd.trans (wp_cg fun _ _ => wp_bnd.trans (wp_cg fun _ _ => wp_bnd.trans (wp_cg fun _ _ => wp_lift)))
theorem wp_ixO {i : Nat} : Wp (eIxO i mb) ⟨env, c⟩ Q ↔ SlAt env i fun _ => Wp mb ⟨env, c⟩ fun d s1 => SlAt s1.env i fun sl => Sm (ownIx sl d) fun y => Q y s1 := by
  constructor
  · rintro ⟨a, s', e, q⟩
    unfold eIxO at e
    split at e
    · rename_i sl0 h0
      refine ⟨sl0, h0, ?_⟩
      obtain ⟨d, s1, e1, e2⟩ := bnd_some e
      refine ⟨d, s1, e1, ?_⟩
      split at e2
      · rename_i sl h1
        split at e2
        · rename_i y hy; cases e2; exact ⟨sl, h1, _, hy, q⟩
        · cases e2
      · cases e2
    · cases e
  · rintro ⟨sl0, h0, d, s1, e1, sl, h1, y, hy, q⟩
    refine ⟨y, s1, ?_, q⟩
    unfold eIxO
    rw [show (⟨env, c⟩ : S).env[i]? = some (some sl0) from h0]
    refine (bnd_eq e1).trans ?_
    show (match s1.env[i]? with | some (some sl) => (match ownIx sl d with | some y => some (y, s1) | none => none) | _ => none) = _
    rw [h1]
    show (match ownIx sl d with | some y => some (y, s1) | none => none) = _
    rw [hy]
theorem wp_here {i : Nat} {Q : Unit → S → Prop} : Wp (ownHere i) ⟨env, c⟩ Q ↔ OwnAt env i fun _ => Q () ⟨env, c⟩ := by
  constructor
  · rintro ⟨a, s', e, q⟩
    obtain ⟨rfl, ds, h⟩ := own_here e
    exact ⟨ds, h, q⟩
  · rintro ⟨ds, e, q⟩
    exact ⟨(), _, by unfold ownHere; rw [e], q⟩
theorem wp_putL {i : Nat} {f : List D → Option (List D)} {Q : Unit → S → Prop} : Wp (putL i f) ⟨env, c⟩ Q ↔ OwnAt env i fun ds => Sm (f ds) fun ds' => SetAt env i (some (.own ds')) fun e => Q () ⟨e, c⟩ := by
  constructor
  · rintro ⟨a, s', e, q⟩
    obtain ⟨ds, ds', h1, h2, rfl⟩ := put_L e
    exact ⟨ds, h1, ds', h2, (List.getElem?_eq_some_iff.mp h1).1, q⟩
  · rintro ⟨ds, h1, ds', h2, _, q⟩
    exact ⟨(), _, by unfold putL; rw [show (⟨env, c⟩ : S).env[i]? = _ from h1]; show (match f ds with | some ds' => some ((), (⟨env.set i (some (.own ds')), c⟩ : S)) | none => none) = _; rw [h2], q⟩
theorem wp_app {i : Nat} : Wp (eApp i m) ⟨env, c⟩ Q ↔ OwnAt env i fun _ => Wp m ⟨env, c⟩ fun d s1 => Wp (putL i (appL d)) s1 fun _ s2 => Q .non s2 := by
  exact wp_bnd.trans (wp_here.trans (ownAt_cg fun _ => wp_bnd.trans (wp_cg fun _ _ => wp_bnd.trans (wp_cg fun _ _ => wp_ret))))
theorem sm_app {d : D} {ds : List D} {P : List D → Prop} : Sm (appL d ds) P ↔ ds.length < 16777216 ∧ P (ds ++ [d]) := by
  unfold appL; rw [sm_ite, sm_some, sizeLine_eq]
theorem wp_pop {i : Nat} : Wp (ePop i) ⟨env, c⟩ Q ↔ OwnAt env i fun ds => Sm (popL ds) fun p => SetAt env i (some (.own p.2)) fun e => Q p.1 ⟨e, c⟩ := by
  constructor
  · rintro ⟨a, s', e, q⟩
    unfold ePop at e
    split at e
    · rename_i ds h
      split at e
      · rename_i d ds' h2; cases e; exact ⟨ds, h, (a, ds'), h2, (List.getElem?_eq_some_iff.mp h).1, q⟩
      · cases e
    · cases e
  · rintro ⟨ds, h1, ⟨d, ds'⟩, h2, _, q⟩
    exact ⟨d, _, by unfold ePop; rw [show (⟨env, c⟩ : S).env[i]? = _ from h1]; show (match popL ds with | some (d, ds') => some (d, (⟨env.set i (some (.own ds')), c⟩ : S)) | none => none) = _; rw [h2], q⟩
theorem sm_popL {ds : List D} {P : D × List D → Prop} : Sm (popL ds) P ↔ Sm ds.getLast? fun d => P (d, ds.dropLast) := by unfold popL; exact sm_map
theorem wp_popAt {i : Nat} : Wp (ePopAt i m) ⟨env, c⟩ Q ↔ OwnAt env i fun _ => Wp m ⟨env, c⟩ fun d s1 => OwnAt s1.env i fun ds => Sm (popAtL d ds) fun p => SetAt s1.env i (some (.own p.2)) fun e => Q p.1 ⟨e, s1.src⟩ := by
  have go : ∀ (d : D) (s1 : S), Wp (fun s => match s.env[i]? with
    | some (some (.own ds)) => (match popAtL d ds with
      | some (d, ds') => some (d, (⟨s.env.set i (some (.own ds')), s.src⟩ : S))
      | none => none)
    | _ => none) s1 Q ↔ OwnAt s1.env i fun ds => Sm (popAtL d ds) fun p => SetAt s1.env i (some (.own p.2)) fun e => Q p.1 ⟨e, s1.src⟩ := fun d s1 => by
    constructor
    · rintro ⟨a, s', e, q⟩
      dsimp only at e
      split at e
      · rename_i ds h
        split at e
        · rename_i d ds' h2; cases e; exact ⟨ds, h, (a, ds'), h2, (List.getElem?_eq_some_iff.mp h).1, q⟩
        · cases e
      · cases e
    · rintro ⟨ds, h1, ⟨d', ds'⟩, h2, _, q⟩
      exact ⟨d', _, by dsimp only; rw [h1]; dsimp only; rw [h2], q⟩
  exact wp_bnd.trans (wp_here.trans (ownAt_cg fun _ => wp_bnd.trans (wp_cg go)))
def borF (is : List Nat) : Nat → List (Option Sl) → List (Option Sl)
  | _, [] => []
  | k, x :: r => borSl (is.contains k) x :: borF is (k + 1) r
theorem borE_F (is : List Nat) (env : List (Option Sl)) : borE is env = borF is 0 env := by
  have go : ∀ (env : List (Option Sl)) (k : Nat), env.mapIdx (fun j x => borSl (is.contains (j + k)) x) = borF is k env := fun env => by
    induction env with
    | nil => intro k; rfl
    | cons x r ih =>
      intro k
      rw [List.mapIdx_cons, borF, ← ih (k + 1), Nat.zero_add]
      congr 2
      funext j y
      rw [Nat.add_right_comm, Nat.add_assoc]
  exact go env 0
theorem bor_z {b : Bool} {d : D} : borSl b (some (.val d)) = some (.val d) := rfl
theorem bor_tt {sl : Sl} : borSl true (some sl) = some (.val sl.bor) := by cases sl <;> rfl
theorem bor_no {b : Bool} : borSl b none = none := rfl
theorem wp_bor {is : List Nat} : Wp (eBor is m) ⟨env, c⟩ Q ↔ Wp m ⟨borF is 0 env, c⟩ fun d s1 => d.isFlat = true ∧ Q d ⟨env, s1.src⟩ := by
  rw [← borE_F]
  constructor
  · rintro ⟨a, s', e, q⟩
    unfold eBor at e
    split at e
    · rename_i d s1 h
      split at e
      · rename_i hf; cases e; exact ⟨_, s1, h, hf, q⟩
      · cases e
    · cases e
  · rintro ⟨d, s1, e, hf, q⟩
    exact ⟨d, _, by unfold eBor; rw [show m ⟨borE is (⟨env, c⟩ : S).env, (⟨env, c⟩ : S).src⟩ = _ from e]; show (if d.isFlat = true then some (d, (⟨env, s1.src⟩ : S)) else none) = _; rw [if_pos hf], q⟩
theorem wp_tBor {is : List Nat} {m : M Bool} {Q : Bool → S → Prop} : Wp (tBor is m) ⟨env, c⟩ Q ↔ Wp m ⟨borF is 0 env, c⟩ fun d s1 => Q d ⟨env, s1.src⟩ := by
  rw [← borE_F]
  constructor
  · rintro ⟨a, s', e, q⟩
    unfold tBor at e
    split at e
    · rename_i d s1 h
      cases e; exact ⟨_, s1, h, q⟩
    · cases e
  · rintro ⟨d, s1, e, q⟩
    exact ⟨d, _, by unfold tBor; rw [show m ⟨borE is (⟨env, c⟩ : S).env, (⟨env, c⟩ : S).src⟩ = _ from e], q⟩
theorem isFlat_int {i : Int} : (D.int i).isFlat = true ↔ True := by simp [D.isFlat]
theorem isFlat_bl {i : Bool} : (D.bl i).isFlat = true ↔ True := by simp [D.isFlat]
theorem isFlat_non : (D.non).isFlat = true ↔ True := by simp [D.isFlat]
theorem isFlat_str {i : Str} : (D.str i).isFlat = true ↔ True := by simp [D.isFlat]
end

section
variable {Q : Out → S → Prop} {m : M D} {a b n : M Out}
theorem wp_seq : Wp (sSeq a b) s Q ↔ Wp a s fun o s1 => Nx o (Wp b s1 Q) (fun o => Q o s1) := by
  have go : ∀ (o : Out) s1, Wp (match o with | .nx => b | o => ret o) s1 Q ↔ Nx o (Wp b s1 Q) (fun o => Q o s1) := fun o s1 => by
    cases o with
    | nx => exact Iff.rfl
    | ret d => exact wp_ret
    | brk => exact wp_ret
    | cnt => exact wp_ret
  unfold sSeq; rw [wp_bnd]; exact ⟨fun h => h.mono fun d s1 => (go d s1).mp, fun h => h.mono fun d s1 => (go d s1).mpr⟩
theorem wp_nx : Wp sNx s Q ↔ Q .nx s := wp_eq rfl
theorem wp_sRet : Wp (sRet m) s Q ↔ Wp m s fun d s1 => Q (.ret d) s1 := wp_bnd.trans (wp_cg fun _ _ => wp_ret)
theorem wp_sIf {t : M Bool} : Wp (sIf t a b) s Q ↔ Wp t s fun x s1 => IfB x (Wp a s1 Q) (Wp b s1 Q) := wp_bnd.trans (wp_cg fun _ _ => wp_iteB)
theorem wp_sExpr : Wp (sExpr m) s Q ↔ Wp m s fun _ s1 => Q .nx s1 := wp_bnd.trans (wp_cg fun _ _ => wp_ret)
theorem wp_asg {g : D → M Unit} : Wp (sAsg m g) s Q ↔ Wp m s fun d s1 => Wp (g d) s1 fun _ s2 => Q .nx s2 := wp_bnd.trans (wp_cg fun _ _ => wp_bnd.trans (wp_cg fun _ _ => wp_ret))
theorem wp_gN {i : Nat} {d : D} {Q : Unit → S → Prop} : Wp (gN i d) s Q ↔ SetAt s.env i (some (.val d)) fun e => Q () ⟨e, s.src⟩ := by
  unfold SetAt
  by_cases h : i < s.env.length
  · rw [wp_eq (show gN i d s = some ((), ⟨s.env.set i (some (.val d)), s.src⟩) by unfold gN; rw [if_pos h])]; simp [h]
  · constructor
    · rintro ⟨_, _, e, _⟩; unfold gN at e; rw [if_neg h] at e; cases e
    · rintro ⟨z, _⟩; exact absurd z h
theorem wp_gT {gs : List D → M Unit} {ds : List D} {Q : Unit → S → Prop} : Wp (gT gs (.tup ds)) s Q ↔ Wp (gs ds) s Q := Iff.rfl
theorem wp_gCons {g : D → M Unit} {gs : List D → M Unit} {d : D} {ds : List D} {Q : Unit → S → Prop} : Wp (gCons g gs (d :: ds)) s Q ↔ Wp (g d) s fun _ s1 => Wp (gs ds) s1 Q := wp_bnd
theorem wp_gNil {Q : Unit → S → Prop} : Wp (gNil []) s Q ↔ Q () s := wp_eq rfl
theorem wp_set {i : Nat} : Wp (sSet i m) s Q ↔ Wp m s fun d s1 => SetAt s1.env i (some (.val d)) fun e => Q .nx ⟨e, s1.src⟩ := wp_asg.trans (wp_cg fun _ _ => wp_gN)
theorem wp_own {i : Nat} {ml : M (List D)} : Wp (sOwn i ml) s Q ↔ Wp ml s fun d s1 => SetAt s1.env i (some (.own d)) fun e => Q .nx ⟨e, s1.src⟩ := by
  have go : ∀ (d : List D) (s : S) (Q : Unit → S → Prop), Wp (oN i d) s Q ↔ SetAt s.env i (some (.own d)) fun e => Q () ⟨e, s.src⟩ := fun d s Q => by
    unfold SetAt
    by_cases h : i < s.env.length
    · rw [wp_eq (show oN i d s = some ((), ⟨s.env.set i (some (.own d)), s.src⟩) by unfold oN; rw [if_pos h])]; simp [h]
    · constructor
      · rintro ⟨_, _, e, _⟩; unfold oN at e; rw [if_neg h] at e; cases e
      · rintro ⟨z, _⟩; exact absurd z h
  exact wp_bnd.trans (wp_cg fun _ _ => wp_bnd.trans ((go _ _ _).trans (setAt_cg fun _ => wp_ret)))
theorem wp_aug {i : Nat} {f : Int → Int → Int} : Wp (sAug i f m) ⟨env, c⟩ Q ↔ VarAt env i fun x => Wp m ⟨env, c⟩ fun d s1 => Sm (augI f x d) fun z => SetAt s1.env i (some (.val z)) fun e => Q .nx ⟨e, s1.src⟩ := by
  have go : ∀ {x : D} {s : S} , Wp (bnd m fun d => bnd (lift (augI f x d)) fun z => bnd (gN i z) fun _ => (ret .nx : M Out)) s Q ↔ Wp m s fun d s1 => Sm (augI f x d) fun z => SetAt s1.env i (some (.val z)) fun e => Q .nx ⟨e, s1.src⟩ :=
    fun {x s} => wp_bnd.trans (wp_cg fun _ _ => wp_bnd.trans (wp_lift.trans (sm_cg fun _ => wp_bnd.trans (wp_gN.trans (setAt_cg fun _ => wp_ret)))))
  constructor
  · rintro ⟨a, s', e, q⟩
    unfold sAug at e
    split at e
    · rename_i x h
      refine ⟨x, h, ?_⟩
      have : Wp (bnd m fun d => bnd (lift (augI f x d)) fun z => bnd (gN i z) fun _ => ret .nx) ⟨env, c⟩ Q := ⟨_, _, e, q⟩
      exact go.mp this
    · cases e
  · rintro ⟨x, h, q⟩
    have : Wp (bnd m fun d => bnd (lift (augI f x d)) fun z => bnd (gN i z) fun _ => ret .nx) ⟨env, c⟩ Q := go.mpr q
    obtain ⟨a, s', e, q⟩ := this
    exact ⟨a, s', by unfold sAug; rw [show (⟨env, c⟩ : S).env[i]? = _ from h]; exact e, q⟩
theorem sm_aug {f : Int → Int → Int} {x y : Int} {P : D → Prop} : Sm (augI f (.int x) (.int y)) P ↔ P (.int (f x y)) := sm_some
theorem wp_setIx {i : Nat} {me mb : M D} : Wp (sSetIx i me mb) s Q ↔ Wp me s fun d s1 => Wp (ownHere i) s1 fun _ s2 => Wp mb s2 fun dy s3 => Wp (putL i (setL dy d)) s3 fun _ s4 => Q .nx s4 := wp_bnd.trans (wp_cg fun _ _ => wp_bnd.trans (wp_cg fun _ _ => wp_bnd.trans (wp_cg fun _ _ => wp_bnd.trans (wp_cg fun _ _ => wp_ret))))
theorem wp_ownGet {i : Nat} {dy : D} {Q : D → S → Prop} : Wp (ownGet i dy) ⟨env, c⟩ Q ↔ OwnAt env i fun ds => IsI dy fun j => Sm (atI ds j) fun y => Q y ⟨env, c⟩ := by
  constructor
  · rintro ⟨a, s', e, q⟩
    obtain ⟨rfl, ds, j, h1, rfl, h2⟩ := own_get e
    exact ⟨ds, h1, j, rfl, _, h2, q⟩
  · rintro ⟨ds, h1, j, rfl, y, h2, q⟩
    exact ⟨y, _, by unfold ownGet; rw [show (⟨env, c⟩ : S).env[i]? = _ from h1]; show (match atI ds j with | some y => some (y, (⟨env, c⟩ : S)) | none => none) = _; rw [h2], q⟩
theorem wp_augIx {i : Nat} {f : Int → Int → Int} {mb me : M D} : Wp (sAugIx i f mb me) s Q ↔ Wp (ownHere i) s fun _ s0 => Wp mb s0 fun dy s1 => Wp (ownGet i dy) s1 fun old s2 => Wp me s2 fun d s3 => Sm (augI f old d) fun z => Wp (putL i (setL dy z)) s3 fun _ s4 => Q .nx s4 := wp_bnd.trans (wp_cg fun _ _ => wp_bnd.trans (wp_cg fun _ _ => wp_bnd.trans (wp_cg fun _ _ => wp_bnd.trans (wp_cg fun _ _ => wp_bnd.trans (wp_lift.trans (sm_cg fun _ => wp_bnd.trans (wp_cg fun _ _ => wp_ret)))))))
theorem wp_sFor {it : M (List D)} {g : D → M Unit} : Wp (sFor it g b) s Q ↔ Wp it s fun ds s1 => Wp (forM g b ds) s1 Q := wp_bnd
theorem wp_pNil {Q : List Sl → S → Prop} : Wp pNil s Q ↔ Q [] s := wp_eq rfl
theorem wp_pVal {ms : M (List Sl)} {Q : List Sl → S → Prop} : Wp (pVal m ms) s Q ↔ Wp m s fun d s1 => Wp ms s1 fun r s2 => Q (.val d :: r) s2 := wp_bnd.trans (wp_cg fun _ _ => wp_bnd.trans (wp_cg fun _ _ => wp_ret))
theorem wp_pOwn {ml : M (List D)} {ms : M (List Sl)} {Q : List Sl → S → Prop} : Wp (pOwn ml ms) s Q ↔ Wp ml s fun d s1 => Wp ms s1 fun r s2 => Q (.own d :: r) s2 := wp_bnd.trans (wp_cg fun _ _ => wp_bnd.trans (wp_cg fun _ _ => wp_ret))
theorem wp_par {is : List Nat} {ms : M (List Sl)} : Wp (sPar is ms) s Q ↔ Wp ms s fun sls s1 => Sm (putAll is sls s1.env) fun e => Q .nx ⟨e, s1.src⟩ := by
  constructor
  · rintro ⟨o, s', e, q⟩
    obtain ⟨sls, s1, e1, e2⟩ := bnd_some e
    refine ⟨sls, s1, e1, ?_⟩
    split at e2
    · rename_i env h; cases e2; exact ⟨_, h, q⟩
    · cases e2
  · rintro ⟨sls, s1, e1, e', h, q⟩
    refine ⟨_, _, ?_, q⟩
    unfold sPar
    refine (bnd_eq e1).trans ?_
    show (match putAll is sls s1.env with | some env => some (Out.nx, (⟨env, s1.src⟩ : S)) | none => none) = _
    rw [h]
theorem sm_put0 {P : List (Option Sl) → Prop} : Sm (putAll [] [] env) P ↔ P env := sm_some
theorem sm_put {i : Nat} {is : List Nat} {sl : Sl} {r : List Sl} {P : List (Option Sl) → Prop} : Sm (putAll (i :: is) (sl :: r) env) P ↔ Sm (putAll is r env) fun e => SetAt e i (some sl) P := by
  show Sm (if i < env.length then (putAll is r env).map fun env' => env'.set i (some sl) else none) P ↔ _
  rw [sm_ite, sm_map]
  constructor
  · rintro ⟨h, e, h1, p⟩; exact ⟨e, h1, by rw [putAll_len h1]; exact h, p⟩
  · rintro ⟨e, h1, h, p⟩; exact ⟨by rw [← putAll_len h1]; exact h, e, h1, p⟩
end

section
variable {Q : List D → S → Prop} {m ma mb mc : M D}
theorem wp_iSeq : Wp (iSeq m) s Q ↔ Wp m s fun d s1 => Sm (seqD d) fun ds => Q ds s1 := wp_bnd.trans (wp_cg fun _ _ => wp_lift)
theorem rngL_map {lo hi : Int} : rngL lo hi = (List.range (hi - lo).toNat).map fun k => D.int (lo + ((k : Nat) : Int)) := rfl
theorem rngL0_map {n : Int} : rngL 0 n = (List.range n.toNat).map fun k => D.int ((k : Nat) : Int) := by unfold rngL; simp
theorem wp_rg1 : Wp (iRg1 m) s Q ↔ Wp m s fun d s1 => IsI d fun j => okR j ∧ Q ((List.range j.toNat).map fun k => D.int ((k : Nat) : Int)) s1 := by
  have go : ∀ (d : D) s1, Wp (match d with | .int j => if okR j then ret (rngL 0 j) else fail | _ => (fail : M (List D))) s1 Q ↔ IsI d fun j => okR j ∧ Q ((List.range j.toNat).map fun k => D.int ((k : Nat) : Int)) s1 := fun d s1 => by
    cases d with
    | int j =>
      rw [isI_int]
      show Wp (if okR j then ret (rngL 0 j) else fail) s1 Q ↔ _
      by_cases h : okR j
      · rw [if_pos h, wp_ret, rngL0_map]; simp [h]
      · rw [if_neg h, wp_fail]; simp [h]
    | _ => exact ⟨fun ⟨_, _, e, _⟩ => (by cases e), fun ⟨_, e, _⟩ => (by cases e)⟩
  unfold iRg1; rw [wp_bnd]; exact ⟨fun h => h.mono fun d s1 => (go d s1).mp, fun h => h.mono fun d s1 => (go d s1).mpr⟩
theorem wp_rg2 : Wp (iRg2 ma mb) s Q ↔ Wp ma s fun d s1 => Wp mb s1 fun e s2 => IsI d fun i => IsI e fun j => okR i ∧ okR j ∧ Q ((List.range (j - i).toNat).map fun k => D.int (i + ((k : Nat) : Int))) s2 := by
  have go : ∀ (d e : D) s1, Wp (match d, e with | .int i, .int j => if okR i ∧ okR j then ret (rngL i j) else fail | _, _ => (fail : M (List D))) s1 Q ↔ IsI d fun i => IsI e fun j => okR i ∧ okR j ∧ Q (rngL i j) s1 := fun d e s1 => by
    constructor
    · rintro ⟨x, s2, h, q⟩
      split at h
      · rename_i i j
        split at h
        · rename_i hh
          obtain ⟨rfl, rfl⟩ := ret_some h
          exact ⟨i, rfl, j, rfl, hh.1, hh.2, q⟩
        · cases h
      · cases h
    · rintro ⟨i, rfl, j, rfl, h1, h2, q⟩
      exact ⟨_, _, by show (if okR i ∧ okR j then ret (rngL i j) else fail) s1 = _; rw [if_pos ⟨h1, h2⟩]; rfl, q⟩
  unfold iRg2; rw [wp_bnd]
  refine ⟨fun h => h.mono fun x s1 h => (wp_bnd.mp h).mono fun y s2 h => (go x y s2).mp h, fun h => h.mono fun x s1 h => wp_bnd.mpr (h.mono fun y s2 h => (go x y s2).mpr h)⟩
theorem okR_of {i : Int} (h : -1000000 ≤ i) (h2 : i ≤ 1000000) : okR i := by unfold okR; omega
def EnumP (ds : List D) (P : List D → Prop) (_ : Ph P := .mk) : Prop := P (enumF 0 ds)
def Zip2P (as bs : List D) (P : List D → Prop) (_ : Ph P := .mk) : Prop := P (zipF2 as bs)
def Zip3P (as bs cs : List D) (P : List D → Prop) (_ : Ph P := .mk) : Prop := P (zipF3 as bs cs)
theorem wp_enum : Wp (iEnum m) s Q ↔ Wp m s fun d s1 => Sm (seqD d) fun ds => EnumP ds fun es => Q es s1 := wp_bnd.trans (wp_cg fun _ _ => wp_bnd.trans (wp_lift.trans (sm_cg fun _ => wp_ret)))
theorem wp_zip2 : Wp (iZip2 ma mb) s Q ↔ Wp ma s fun a s1 => Wp mb s1 fun b s2 => Sm (seqD a) fun as => Sm (seqD b) fun bs => Zip2P as bs fun es => Q es s2 := wp_bnd.trans (wp_cg fun _ _ => wp_bnd.trans (wp_cg fun _ _ => wp_bnd.trans (wp_lift.trans (sm_cg fun _ => wp_bnd.trans (wp_lift.trans (sm_cg fun _ => wp_ret))))))
theorem wp_zip3 : Wp (iZip3 ma mb mc) s Q ↔ Wp ma s fun a s1 => Wp mb s1 fun b s2 => Wp mc s2 fun c s3 => Sm (seqD a) fun as => Sm (seqD b) fun bs => Sm (seqD c) fun cs => Zip3P as bs cs fun es => Q es s3 := wp_bnd.trans (wp_cg fun _ _ => wp_bnd.trans (wp_cg fun _ _ => wp_bnd.trans (wp_cg fun _ _ => wp_bnd.trans (wp_lift.trans (sm_cg fun _ => wp_bnd.trans (wp_lift.trans (sm_cg fun _ => wp_bnd.trans (wp_lift.trans (sm_cg fun _ => wp_ret)))))))))
theorem wp_lRg1 : Wp (lRg1 m) s Q ↔ Wp m s fun d s1 => IsI d fun j => L2.RgOk 0 j ∧ Q ((List.range j.toNat).map fun k => D.int ((k : Nat) : Int)) s1 := by
  have go : ∀ (d : D) s1, Wp (match d with | .int j => if L2.RgOk 0 j then ret (rngL 0 j) else fail | _ => (fail : M (List D))) s1 Q ↔ IsI d fun j => L2.RgOk 0 j ∧ Q ((List.range j.toNat).map fun k => D.int ((k : Nat) : Int)) s1 := fun d s1 => by
    cases d with
    | int j =>
      rw [isI_int]
      show Wp (if L2.RgOk 0 j then ret (rngL 0 j) else fail) s1 Q ↔ _
      by_cases h : L2.RgOk 0 j
      · rw [if_pos h, wp_ret, rngL0_map]; simp [h]
      · rw [if_neg h, wp_fail]; simp [h]
    | _ => exact ⟨fun ⟨_, _, e, _⟩ => (by cases e), fun ⟨_, e, _⟩ => (by cases e)⟩
  unfold lRg1; rw [wp_bnd]; exact ⟨fun h => h.mono fun d s1 => (go d s1).mp, fun h => h.mono fun d s1 => (go d s1).mpr⟩
theorem wp_lRg2 : Wp (lRg2 ma mb) s Q ↔ Wp ma s fun d s1 => Wp mb s1 fun e s2 => IsI d fun i => IsI e fun j => L2.RgOk i j ∧ Q ((List.range (j - i).toNat).map fun k => D.int (i + ((k : Nat) : Int))) s2 := by
  have go : ∀ (d e : D) s1, Wp (match d, e with | .int i, .int j => if L2.RgOk i j then ret (rngL i j) else fail | _, _ => (fail : M (List D))) s1 Q ↔ IsI d fun i => IsI e fun j => L2.RgOk i j ∧ Q (rngL i j) s1 := fun d e s1 => by
    constructor
    · rintro ⟨x, s2, h, q⟩
      split at h
      · rename_i i j
        split at h
        · rename_i hh
          obtain ⟨rfl, rfl⟩ := ret_some h
          exact ⟨i, rfl, j, rfl, hh, q⟩
        · cases h
      · cases h
    · rintro ⟨i, rfl, j, rfl, hh, q⟩
      exact ⟨_, _, by show (if L2.RgOk i j then ret (rngL i j) else fail) s1 = _; rw [if_pos hh]; rfl, q⟩
  unfold lRg2; rw [wp_bnd]
  refine ⟨fun h => h.mono fun x s1 h => (wp_bnd.mp h).mono fun y s2 h => (go x y s2).mp h, fun h => h.mono fun x s1 h => wp_bnd.mpr (h.mono fun y s2 h => (go x y s2).mpr h)⟩
theorem wp_tupRg {Q : D → S → Prop} : Wp (eTupRg m) s Q ↔ Wp (lRg1 m) s fun ds s1 => Q (.tup ds) s1 := wp_bnd.trans (wp_cg fun _ _ => wp_ret)
end
end
end GH

namespace GH
open PySem PySem.Spec PyProof.Rows L2

section
variable {α β γ : Type} {P : D → Prop} {PL : List D → Prop}
theorem sm_addI {a b : Int} : Sm (addD (.int a) (.int b)) P ↔ P (.int (a + b)) := sm_some
theorem sm_addT {a b : List D} : Sm (addD (.tup a) (.tup b)) P ↔ a.length + b.length ≤ 16777216 ∧ P (.tup (a ++ b)) := by
  show Sm (if a.length + b.length ≤ sizeLine then some (.tup (a ++ b)) else none) P ↔ _
  rw [sm_ite, sm_some, sizeLine_eq]
theorem sm_addL {a b : List D} : Sm (addD (.lst a) (.lst b)) P ↔ a.length + b.length ≤ 16777216 ∧ P (.lst (a ++ b)) := by
  show Sm (if a.length + b.length ≤ sizeLine then some (.lst (a ++ b)) else none) P ↔ _
  rw [sm_ite, sm_some, sizeLine_eq]
theorem sm_addLD {a b : List D} : Sm (addLD (.lst a) (.lst b)) PL ↔ a.length + b.length ≤ 16777216 ∧ PL (a ++ b) := by
  show Sm (if a.length + b.length ≤ sizeLine then some (a ++ b) else none) PL ↔ _
  rw [sm_ite, sm_some, sizeLine_eq]
theorem sm_subI {a b : Int} : Sm (subD (.int a) (.int b)) P ↔ P (.int (a - b)) := sm_some
def MulOk (a b : Int) : Prop := CMul a b ∨ CMulW a b
theorem mulOk_l {a b : Int} (h : -(2 ^ 64) < a) (h2 : a < 2 ^ 64) : MulOk a b := .inl (.inl ⟨h, h2⟩)
theorem mulOk_r {a b : Int} (h : -(2 ^ 64) < b) (h2 : b < 2 ^ 64) : MulOk a b := .inl (.inr ⟨h, h2⟩)
theorem sm_mulI {a b : Int} : Sm (mulD (.int a) (.int b)) P ↔ MulOk a b ∧ P (.int (a * b)) := by
  show Sm (if CMul a b then some (D.int (a * b)) else if CMulW a b then some (.int (a * b)) else none) P ↔ _
  unfold MulOk
  by_cases h : CMul a b
  · rw [if_pos h, sm_some]; simp [h]
  · rw [if_neg h, sm_ite, sm_some]; simp [h]
def RepOk (n : Nat) (k : Int) : Prop := -(2 ^ 63) ≤ k ∧ k < 2 ^ 63 ∧ n * k.toNat ≤ 16777216
theorem sm_mulL {a : List D} {k : Int} : Sm (mulD (.lst a) (.int k)) P ↔ RepOk a.length k ∧ P (.lst (List.replicate k.toNat a).flatten) := by
  show Sm (if -(2 ^ 63) ≤ k ∧ k < 2 ^ 63 ∧ a.length * k.toNat ≤ sizeLine then some (D.lst (List.replicate k.toNat a).flatten) else none) P ↔ _
  rw [sm_ite, sm_some, sizeLine_eq]; rfl
theorem sm_mulLD {a : List D} {k : Int} : Sm (mulLD (.lst a) (.int k)) PL ↔ RepOk a.length k ∧ PL (List.replicate k.toNat a).flatten := by
  show Sm (if -(2 ^ 63) ≤ k ∧ k < 2 ^ 63 ∧ a.length * k.toNat ≤ sizeLine then some (List.replicate k.toNat a).flatten else none) PL ↔ _
  rw [sm_ite, sm_some, sizeLine_eq]; rfl
theorem sm_modI {a b : Int} : Sm (modD (.int a) (.int b)) P ↔ b ≠ 0 ∧ P (.int (a.fmod b)) := by
  show Sm (if b ≠ 0 then some (D.int (a.fmod b)) else none) P ↔ _
  rw [sm_ite, sm_some]
def DivOk (a b : Int) : Prop := CDivN a b ∨ CDivW a b
theorem divOk {a b : Int} (h : b ≠ 0) (h2 : -1073741824 < b) (h3 : b < 1073741824) : DivOk a b := .inl ⟨h, by omega⟩
theorem sm_fdivI {a b : Int} : Sm (fdivD (.int a) (.int b)) P ↔ DivOk a b ∧ P (.int (a.fdiv b)) := by
  show Sm (if CDivN a b then some (D.int (a.fdiv b)) else if CDivW a b then some (.int (a / b)) else none) P ↔ _
  unfold DivOk
  by_cases h : CDivN a b
  · rw [if_pos h, sm_some]; simp [h]
  · rw [if_neg h, sm_ite, sm_some]
    simp only [h, false_or]
    constructor
    · rintro ⟨h1, p⟩; exact ⟨h1, by rw [Int.fdiv_eq_ediv_of_nonneg _ (Int.le_of_lt h1.1)]; exact p⟩
    · rintro ⟨h1, p⟩; exact ⟨h1, by rw [Int.fdiv_eq_ediv_of_nonneg _ (Int.le_of_lt h1.1)] at p; exact p⟩
theorem sm_ltI {a b : Int} : Sm (ltD (.int a) (.int b)) P ↔ P (.bl (decide (a < b))) := sm_some
theorem sm_leI {a b : Int} : Sm (leD (.int a) (.int b)) P ↔ P (.bl (decide (a ≤ b))) := sm_some
theorem sm_gtI {a b : Int} : Sm (gtD (.int a) (.int b)) P ↔ P (.bl (decide (b < a))) := sm_some
theorem sm_geI {a b : Int} : Sm (geD (.int a) (.int b)) P ↔ P (.bl (decide (b ≤ a))) := sm_some
theorem sm_eqI {a b : Int} : Sm (eqD (.int a) (.int b)) P ↔ P (.bl (decide (a = b))) := sm_eq (eqD_int a b)
theorem sm_neI {a b : Int} : Sm (neD (.int a) (.int b)) P ↔ P (.bl (!decide (a = b))) := sm_eq (neD_int a b)
theorem sm_eqG {a b : D} (h : a.ok) (h2 : b.ok) {p : Prop} [Decidable p] (hp : a = b ↔ p) : Sm (eqD a b) P ↔ P (.bl (decide p)) := sm_eq (eqD_iff h h2 hp)
theorem sm_neG {a b : D} (h : a.ok) (h2 : b.ok) {p : Prop} [Decidable p] (hp : a = b ↔ p) : Sm (neD a b) P ↔ P (.bl (!decide p)) := sm_eq (neD_iff h h2 hp)
theorem sm_isN {d : D} : Sm (isND d .non) P ↔ P (.bl (match d with | .non => true | _ => false)) := by cases d <;> exact sm_some
theorem sm_notN {d : D} : Sm (notND d .non) P ↔ P (.bl (match d with | .non => false | _ => true)) := by cases d <;> exact sm_some
theorem sm_ixT {ds : List D} {j : Int} : Sm (ixD (.tup ds) (.int j)) P ↔ Sm (atI ds j) P := Iff.rfl
theorem sm_ixL {ds : List D} {j : Int} : Sm (ixD (.lst ds) (.int j)) P ↔ Sm (atI ds j) P := Iff.rfl
theorem sm_ownO {ds : List D} {j : Int} : Sm (ownIx (.own ds) (.int j)) P ↔ Sm (atI ds j) P := Iff.rfl
theorem sm_ownL {ds : List D} {j : Int} : Sm (ownIx (.val (.lst ds)) (.int j)) P ↔ Sm (atI ds j) P := Iff.rfl
theorem sm_ownT {ds : List D} {j : Int} : Sm (ownIx (.val (.tup ds)) (.int j)) P ↔ Sm (atI ds j) P := Iff.rfl
theorem atI_of {xs : List α} {j : Int} {x : α} (h : 0 ≤ j) (h2 : xs[j.toNat]? = some x) : atI xs j = some x := by
  have hl := (List.getElem?_eq_some_iff.mp h2).1
  unfold atI ixN
  rw [if_pos h, if_pos (by omega)]; exact h2
theorem atI_neg {xs : List α} {j : Int} {x : α} (h : j < 0) (h2 : -(xs.length : Int) ≤ j) (h3 : xs[(j + xs.length).toNat]? = some x) : atI xs j = some x := by
  unfold atI ixN
  rw [if_neg (by omega), if_pos h2]; exact h3
theorem at_0 {a : α} {r : List α} {P : α → Prop} : Sm (atI (a :: r) 0) P ↔ P a := sm_eq (atI_of (by decide) rfl)
theorem at_1 {a b : α} {r : List α} {P : α → Prop} : Sm (atI (a :: b :: r) 1) P ↔ P b := sm_eq (atI_of (by decide) rfl)
theorem at_2 {a b c : α} {r : List α} {P : α → Prop} : Sm (atI (a :: b :: c :: r) 2) P ↔ P c := sm_eq (atI_of (by decide) rfl)
theorem at_3 {a b c d : α} {r : List α} {P : α → Prop} : Sm (atI (a :: b :: c :: d :: r) 3) P ↔ P d := sm_eq (atI_of (by decide) rfl)
theorem at_4 {a b c d e : α} {r : List α} {P : α → Prop} : Sm (atI (a :: b :: c :: d :: e :: r) 4) P ↔ P e := sm_eq (atI_of (by decide) rfl)
theorem atI_map {f : α → β} {xs : List α} {j : Int} : atI (xs.map f) j = (atI xs j).map f := by
  unfold atI
  rw [List.length_map]
  cases ixN xs.length j with
  | none => rfl
  | some n => exact List.getElem?_map ..
theorem at_map {f : α → β} {xs : List α} {j : Int} {P : β → Prop} : Sm (atI (xs.map f) j) P ↔ Sm (atI xs j) fun x => P (f x) := by rw [atI_map, sm_map]
/-- the item at a place -/
def nth [Inhabited α] (xs : List α) (j : Int) : α := xs.getD j.toNat default
theorem nth_get [Inhabited α] {xs : List α} {j : Int} (h : 0 ≤ j) (h2 : j < xs.length) : xs[j.toNat]? = some (nth xs j) := by
  unfold nth
  have : j.toNat < xs.length := by omega
  rw [List.getD_eq_getElem?_getD, List.getElem?_eq_getElem this]; rfl
theorem nth_mem [Inhabited α] {xs : List α} {j : Int} (h : 0 ≤ j) (h2 : j < xs.length) : nth xs j ∈ xs := List.mem_of_getElem? (nth_get h h2)
theorem at_nth [Inhabited α] {xs : List α} {j : Int} {P : α → Prop} (h : 0 ≤ j) (h2 : j < xs.length) : Sm (atI xs j) P ↔ P (nth xs j) := sm_eq (atI_of h (nth_get h h2))
theorem at_last [Inhabited α] {xs : List α} {P : α → Prop} (h : xs ≠ []) : Sm (atI xs (-1)) P ↔ P (nth xs (xs.length - 1)) := by
  have hl : 0 < xs.length := List.length_pos_iff.mpr h
  refine sm_eq (atI_neg (by decide) (by omega) ?_)
  rw [show (-1 + (xs.length : Int)) = (xs.length : Int) - 1 by omega]
  exact nth_get (by omega) (by omega)
theorem sm_lenL {ds : List D} : Sm (lenG [.lst ds]) P ↔ P (.int ds.length) := sm_some
theorem sm_lenT {ds : List D} : Sm (lenG [.tup ds]) P ↔ P (.int ds.length) := sm_some
theorem sm_intI {i : Int} : Sm (intG [.int i]) P ↔ P (.int i) := sm_some
theorem sm_intB {b : Bool} : Sm (intG [.bl b]) P ↔ P (.int (if b then 1 else 0)) := sm_some
theorem sm_absI {i : Int} : Sm (absG [.int i]) P ↔ P (.int (if i < 0 then -i else i)) := sm_some
theorem sm_tupL {ds : List D} : Sm (tupG [.lst ds]) P ↔ P (.tup ds) := sm_some
theorem sm_tupT {ds : List D} : Sm (tupG [.tup ds]) P ↔ P (.tup ds) := sm_some
theorem sm_lstL {ds : List D} : Sm (lstG [.lst ds]) PL ↔ PL ds := sm_some
theorem sm_lstT {ds : List D} : Sm (lstG [.tup ds]) PL ↔ PL ds := sm_some
theorem toInts_mapF {f : α → Int} : ∀ xs : List α, toInts (xs.map fun x => D.int (f x)) = some (xs.map f)
  | [] => rfl
  | x :: r => by rw [List.map_cons, toInts, toInts_mapF r]; rfl
theorem toBls_mapF {f : α → Bool} : ∀ xs : List α, toBls (xs.map fun x => D.bl (f x)) = some (xs.map f)
  | [] => rfl
  | x :: r => by rw [List.map_cons, toBls, toBls_mapF r]; rfl
theorem sm_sumL {f : α → Int} {xs : List α} : Sm (sumG [.lst (xs.map fun x => .int (f x))]) P ↔ P (.int (xs.map f).sum) := by
  show Sm ((toInts _).map _) P ↔ _; rw [toInts_mapF]; exact sm_some
theorem sm_sumT {f : α → Int} {xs : List α} : Sm (sumG [.tup (xs.map fun x => .int (f x))]) P ↔ P (.int (xs.map f).sum) := by
  show Sm ((toInts _).map _) P ↔ _; rw [toInts_mapF]; exact sm_some
theorem sm_sumL1 {xs : List Int} : Sm (sumG [.lst (xs.map D.int)]) P ↔ P (.int xs.sum) := by
  show Sm ((toInts _).map _) P ↔ _; rw [toInts_map]; exact sm_some
theorem sm_sumT1 {xs : List Int} : Sm (sumG [.tup (xs.map D.int)]) P ↔ P (.int xs.sum) := by
  show Sm ((toInts _).map _) P ↔ _; rw [toInts_map]; exact sm_some
theorem sm_maxI {i j : Int} : Sm (maxG [.int i, .int j]) P ↔ P (.int (if j > i then j else i)) := sm_some
theorem sm_minI {i j : Int} : Sm (minG [.int i, .int j]) P ↔ P (.int (if j < i then j else i)) := sm_some
theorem sm_maxL {f : α → Int} {xs : List α} : Sm (maxG [.lst (xs.map fun x => .int (f x))]) P ↔ xs ≠ [] ∧ P (.int (maxL (xs.map f))) := by
  show Sm ((toInts _).bind _) P ↔ _; rw [toInts_mapF]; show Sm (if xs.map f ≠ [] then some (D.int (maxL (xs.map f))) else none) P ↔ _
  rw [sm_ite, sm_some]; simp
theorem sm_minL {f : α → Int} {xs : List α} : Sm (minG [.lst (xs.map fun x => .int (f x))]) P ↔ xs ≠ [] ∧ P (.int (minL (xs.map f))) := by
  show Sm ((toInts _).bind _) P ↔ _; rw [toInts_mapF]; show Sm (if xs.map f ≠ [] then some (D.int (minL (xs.map f))) else none) P ↔ _
  rw [sm_ite, sm_some]; simp
theorem sm_maxL1 {xs : List Int} : Sm (maxG [.lst (xs.map D.int)]) P ↔ xs ≠ [] ∧ P (.int (maxL xs)) := by
  have := sm_maxL (P := P) (f := id) (xs := xs); simpa using this
theorem sm_minL1 {xs : List Int} : Sm (minG [.lst (xs.map D.int)]) P ↔ xs ≠ [] ∧ P (.int (minL xs)) := by
  have := sm_minL (P := P) (f := id) (xs := xs); simpa using this
theorem sm_anyL {f : α → Bool} {xs : List α} : Sm (anyG [.lst (xs.map fun x => .bl (f x))]) P ↔ P (.bl (xs.any f)) := by
  show Sm ((toBls _).map _) P ↔ _; rw [toBls_mapF]
  show Sm (some (D.bl ((xs.map f).any id))) P ↔ _
  rw [sm_some, List.any_map]; rfl
theorem sm_allL {f : α → Bool} {xs : List α} : Sm (allG [.lst (xs.map fun x => .bl (f x))]) P ↔ P (.bl (xs.all f)) := by
  show Sm ((toBls _).map _) P ↔ _; rw [toBls_mapF]
  show Sm (some (D.bl ((xs.map f).all id))) P ↔ _
  rw [sm_some, List.all_map]; rfl
theorem sm_negI {i : Int} : Sm (negD (.int i)) P ↔ P (.int (-i)) := sm_some
theorem sm_revL {ds : List D} : Sm (revD (.lst ds)) P ↔ P (.lst ds.reverse) := sm_some
theorem sm_revT {ds : List D} : Sm (revD (.tup ds)) P ↔ P (.tup ds.reverse) := sm_some
theorem sm_seqL {ds : List D} : Sm (seqD (.lst ds)) PL ↔ PL ds := sm_some
theorem sm_seqT {ds : List D} : Sm (seqD (.tup ds)) PL ↔ PL ds := sm_some
theorem sm_slL {ds : List D} {l h : Option Int} : Sm (slD l h (.lst ds)) P ↔ P (.lst (cutL ds l h)) := sm_some
theorem sm_slT {ds : List D} {l h : Option Int} : Sm (slD l h (.tup ds)) P ↔ P (.tup (cutL ds l h)) := sm_some
section
variable {P : Bool → Prop}
theorem sm_truB {b : Bool} : Sm (truD (.bl b)) P ↔ P b := sm_some
theorem sm_truN : Sm (truD .non) P ↔ P false := sm_some
theorem sm_truI {i : Int} : Sm (truD (.int i)) P ↔ P (i != 0) := sm_some
theorem sm_truL {ds : List D} : Sm (truD (.lst ds)) P ↔ P (!ds.isEmpty) := sm_some
theorem sm_truT {ds : List D} : Sm (truD (.tup ds)) P ↔ P (!ds.isEmpty) := sm_some
end
theorem sm_inR {i lo hi : Int} : Sm (inD (.int i) (.rng lo hi)) P ↔ P (.bl (decide (lo ≤ i ∧ i < hi))) := sm_some
theorem sm_inT {i : Int} {xs : List Int} : Sm (inD (.int i) (.tup (xs.map D.int))) P ↔ P (.bl (decide (i ∈ xs))) := by
  show Sm (if okIn (.int i) (xs.map D.int) then some (D.bl (memD (.int i) (xs.map D.int))) else none) P ↔ _
  rw [if_pos (okIn_ints i xs), sm_some, memD_ints]
theorem sm_inL {i : Int} {xs : List Int} : Sm (inD (.int i) (.lst (xs.map D.int))) P ↔ P (.bl (decide (i ∈ xs))) := by
  show Sm (if okIn (.int i) (xs.map D.int) then some (D.bl (memD (.int i) (xs.map D.int))) else none) P ↔ _
  rw [if_pos (okIn_ints i xs), sm_some, memD_ints]
theorem sm_ninT {i : Int} {xs : List Int} : Sm (ninD (.int i) (.tup (xs.map D.int))) P ↔ P (.bl (!decide (i ∈ xs))) := by
  show Sm (if okIn (.int i) (xs.map D.int) then some (D.bl (!memD (.int i) (xs.map D.int))) else none) P ↔ _
  rw [if_pos (okIn_ints i xs), sm_some, memD_ints]
theorem sm_ninL {i : Int} {xs : List Int} : Sm (ninD (.int i) (.lst (xs.map D.int))) P ↔ P (.bl (!decide (i ∈ xs))) := by
  show Sm (if okIn (.int i) (xs.map D.int) then some (D.bl (!memD (.int i) (xs.map D.int))) else none) P ↔ _
  rw [if_pos (okIn_ints i xs), sm_some, memD_ints]
theorem sm_setL {d : D} {ds : List D} {j : Int} {P : List D → Prop} : Sm (setL (.int j) d ds) P ↔ Sm (ixN ds.length j) fun n => P (ds.set n d) := sm_map
theorem ix_ok {n : Nat} {j : Int} {P : Nat → Prop} (h : 0 ≤ j) (h2 : j < n) : Sm (ixN n j) P ↔ P j.toNat := sm_eq (by unfold ixN; rw [if_pos h, if_pos h2])
theorem enumF_map {f : α → D} : ∀ (xs : List α) (k : Nat), enumF k (xs.map f) = (xs.zipIdx k).map fun p => D.tup [.int (p.2 : Nat), f p.1]
  | [], _ => rfl
  | x :: r, k => by rw [List.map_cons, enumF, enumF_map r (k + 1), List.zipIdx_cons, List.map_cons]
theorem zipF2_map {f : α → D} {g : β → D} : ∀ (xs : List α) (ys : List β), zipF2 (xs.map f) (ys.map g) = (xs.zip ys).map fun p => D.tup [f p.1, g p.2]
  | [], _ => by simp [zipF2]
  | x :: r, [] => by simp [zipF2]
  | x :: r, y :: t => by rw [List.map_cons, List.map_cons, zipF2, zipF2_map r t]; rfl
theorem zipF3_map {f : α → D} {g : β → D} {h : γ → D} : ∀ (xs : List α) (ys : List β) (zs : List γ), zipF3 (xs.map f) (ys.map g) (zs.map h) = (xs.zip (ys.zip zs)).map fun p => D.tup [f p.1, g p.2.1, h p.2.2]
  | [], _, _ => by simp [zipF3]
  | x :: r, [], _ => by simp [zipF3]
  | x :: r, y :: t, [] => by simp [zipF3]
  | x :: r, y :: t, z :: u => by rw [List.map_cons, List.map_cons, List.map_cons, zipF3, zipF3_map r t u]; rfl
theorem enumP_map {f : α → D} {xs : List α} {P : List D → Prop} : EnumP (xs.map f) P ↔ P (xs.zipIdx.map fun p => D.tup [.int (p.2 : Nat), f p.1]) := by unfold EnumP; rw [enumF_map]
theorem zip2P_map {f : α → D} {g : β → D} {xs : List α} {ys : List β} {P : List D → Prop} : Zip2P (xs.map f) (ys.map g) P ↔ P ((xs.zip ys).map fun p => D.tup [f p.1, g p.2]) := by unfold Zip2P; rw [zipF2_map]
theorem zip3P_map {f : α → D} {g : β → D} {h : γ → D} {xs : List α} {ys : List β} {zs : List γ} {P : List D → Prop} : Zip3P (xs.map f) (ys.map g) (zs.map h) P ↔ P ((xs.zip (ys.zip zs)).map fun p => D.tup [f p.1, g p.2.1, h p.2.2]) := by unfold Zip3P; rw [zipF3_map]
theorem rngL_nat {n : Int} : rngL 0 n = (List.range n.toNat).map fun i => D.int ((i : Nat) : Int) := by unfold rngL; simp
theorem rngL_from {lo hi : Int} : rngL lo hi = (List.range (hi - lo).toNat).map fun i => D.int (lo + ((i : Nat) : Int)) := rfl
theorem cutL_to {xs : List α} {k : Int} (h : 0 ≤ k) : cutL xs none (some k) = xs.take k.toNat := by
  unfold cutL HT.sIx
  simp only []
  rw [if_neg (by omega)]
  rw [List.drop_zero, Nat.sub_zero]
  by_cases h2 : k.toNat ≤ xs.length
  · rw [Nat.min_eq_left h2]
  · rw [Nat.min_eq_right (by omega), List.take_length, List.take_of_length_le (by omega)]
theorem cutL_from {xs : List α} {k : Int} (h : 0 ≤ k) : cutL xs (some k) none = xs.drop k.toNat := by
  unfold cutL HT.sIx
  simp only []
  rw [if_neg (by omega)]
  by_cases h2 : k.toNat ≤ xs.length
  · rw [Nat.min_eq_left h2, List.take_of_length_le (by simp)]
  · rw [Nat.min_eq_right (by omega), List.drop_of_length_le (by omega), List.drop_of_length_le (by omega)]; simp
theorem cutL_both {xs : List α} {j k : Int} (h : 0 ≤ j) (h2 : 0 ≤ k) : cutL xs (some j) (some k) = (xs.take k.toNat).drop j.toNat := by
  unfold cutL HT.sIx
  simp only []
  rw [if_neg (by omega), if_neg (by omega)]
  rw [List.drop_take]
  by_cases h3 : j.toNat ≤ xs.length
  · rw [Nat.min_eq_left h3]
    by_cases h4 : k.toNat ≤ xs.length
    · rw [Nat.min_eq_left h4]
    · rw [Nat.min_eq_right (by omega), List.take_of_length_le (by simp), List.take_of_length_le (by simp; omega)]
  · have e1 : xs.drop (min j.toNat xs.length) = [] := List.drop_of_length_le (by omega)
    have e2 : xs.drop j.toNat = [] := List.drop_of_length_le (by omega)
    rw [e1, e2]; simp
theorem cutL_map {f : α → β} {xs : List α} {l h : Option Int} : cutL (xs.map f) l h = (cutL xs l h).map f := by
  unfold cutL; simp
end

section
variable {α : Type} {vs : List Nat} {g : D → M Unit} {c : M Bool} {el : M D} {it : M (List D)} {env : List (Option Sl)} {s : S} {src : Src}
def compE (vs : List Nat) (g : D → M Unit) (c : M Bool) (el : M D) (ds : List D) : M (List D) := fun s1 =>
  if ds.length ≤ sizeLine then (match compF vs g c el ds s1 with
    | some (ys, sn) => some (ys, { sn with env := restE s1.env sn.env vs })
    | none => none) else none
theorem wp_comp {Q : List D → S → Prop} : Wp (eComp vs g c el it) s Q ↔ Wp it s fun ds s1 => Wp (compE vs g c el ds) s1 Q := wp_bnd
theorem wp_turn {d : D} {Q : Option D → S → Prop} : Wp (turnC g c el d) s Q ↔ Wp (g d) s fun _ s1 => Wp c s1 fun b s2 => IfB b (Wp el s2 fun y s3 => Q (some y) s3) (Q none s2) :=
  wp_bnd.trans (wp_cg fun _ _ => wp_bnd.trans (wp_cg fun _ _ => wp_iteB.trans (ifB_cg (wp_bnd.trans (wp_cg fun _ _ => wp_ret)) wp_ret)))
/-- a loop's name slot: what it holds is no own list -/
def jv (x : Option D) : Option Sl := x.map Sl.val
theorem jv_some {d : D} : jv (some d) = some (.val d) := rfl
theorem jv_none : jv none = none := rfl
def CleanAt (env : List (Option Sl)) (v : Nat) : Prop := ∀ x, env[v]? = some (some x) → ∃ d, x = .val d
theorem clean_nil : cleanE env [] ↔ True := by simp [cleanE]
theorem clean_cons {v : Nat} {vs : List Nat} : cleanE env (v :: vs) ↔ CleanAt env v ∧ cleanE env vs := by
  unfold cleanE CleanAt; simp
theorem cleanAt_s {x : Option Sl} {r : List (Option Sl)} {n : Nat} : CleanAt (x :: r) (n + 1) ↔ CleanAt r n := by unfold CleanAt; simp
theorem cleanAt_n {r : List (Option Sl)} : CleanAt (none :: r) 0 ↔ True := by unfold CleanAt; simp
theorem cleanAt_v {d : D} {r : List (Option Sl)} : CleanAt (some (.val d) :: r) 0 ↔ True := by unfold CleanAt; simp
theorem cleanAt_j {d : Option D} {r : List (Option Sl)} : CleanAt (jv d :: r) 0 ↔ True := by
  cases d <;> simp [CleanAt, jv]
theorem wipe_nil : wipeE env [] = env := rfl
theorem wipe_cons {v : Nat} {vs : List Nat} : wipeE env (v :: vs) = (wipeE env vs).set v none := rfl
theorem compE_go {ds ys : List D} {env2 : List (Option Sl)} {s' : Src} (hl : ds.length ≤ 16777216) (h3 : compF vs g c el ds ⟨env, src⟩ = some (ys, ⟨env2, s'⟩)) (h4 : wipeE env2 vs = wipeE env vs) (cl : cleanE env vs) : compE vs g c el ds ⟨env, src⟩ = some (ys, ⟨env, s'⟩) := by
  unfold compE
  rw [if_pos (by rw [sizeLine_eq]; exact hl), h3]
  show some (ys, (⟨restE env env2 vs, s'⟩ : S)) = _
  rw [rest_clean h4 cl]
theorem wp_compP {enc : α → D} (f : α → Option D) {xs : List α} {Q : List D → S → Prop} (hl : xs.length ≤ 16777216) (cl : cleanE env vs)
    (step : ∀ x ∈ xs, Wp (turnC g c el (enc x)) ⟨wipeE env vs, src⟩ fun o s' => o = f x ∧ s'.src = src ∧ wipeE s'.env vs = wipeE env vs) (q : Q (xs.filterMap f) ⟨env, src⟩) : Wp (compE vs g c el (xs.map enc)) ⟨env, src⟩ Q := by
  obtain ⟨env2, h3, h4⟩ := compF_pure (vs := vs) (g := g) (c := c) (el := el) (enc := enc) (f := f) (src := src) (env := env) (env0 := env) (xs := xs) rfl fun x hx => by
    obtain ⟨o, ⟨e1, c1⟩, h1, rfl, h2, h5⟩ := step x hx
    simp only at h2 h5; subst h2
    exact ⟨e1, h1, h5⟩
  exact ⟨_, _, compE_go (by simpa using hl) h3 h4 cl, q⟩
theorem filterMap_some {α β : Type} (h : α → β) (xs : List α) : (xs.filterMap fun x => some (h x)) = xs.map h := by
  induction xs with
  | nil => rfl
  | cons x r ih => rw [List.filterMap_cons, List.map_cons, ih]
theorem filterMap_if {α β : Type} (p : α → Bool) (h : α → β) (xs : List α) : (xs.filterMap fun x => if p x = true then some (h x) else none) = (xs.filter p).map h := by
  induction xs with
  | nil => rfl
  | cons x r ih =>
    rw [List.filterMap_cons, List.filter_cons]
    by_cases z : p x = true
    · simp only [z, if_true, List.map_cons, ih]
    · simp only [z]; exact ih
/-- each is kept -/
theorem wp_compM {enc : α → D} (h : α → D) {xs : List α} {Q : List D → S → Prop} (hl : xs.length ≤ 16777216) (cl : cleanE env vs)
    (step : ∀ x ∈ xs, Wp (turnC g c el (enc x)) ⟨wipeE env vs, src⟩ fun o s' => o = some (h x) ∧ s'.src = src ∧ wipeE s'.env vs = wipeE env vs) (q : Q (xs.map h) ⟨env, src⟩) : Wp (compE vs g c el (xs.map enc)) ⟨env, src⟩ Q :=
  wp_compP (fun x => some (h x)) hl cl step (by rw [filterMap_some]; exact q)
/-- some are kept -/
theorem wp_compF {enc : α → D} (p : α → Bool) (h : α → D) {xs : List α} {Q : List D → S → Prop} (hl : xs.length ≤ 16777216) (cl : cleanE env vs)
    (step : ∀ x ∈ xs, Wp (turnC g c el (enc x)) ⟨wipeE env vs, src⟩ fun o s' => o = (if p x = true then some (h x) else none) ∧ s'.src = src ∧ wipeE s'.env vs = wipeE env vs) (q : Q ((xs.filter p).map h) ⟨env, src⟩) : Wp (compE vs g c el (xs.map enc)) ⟨env, src⟩ Q :=
  wp_compP (fun x => if p x = true then some (h x) else none) hl cl step (by rw [filterMap_if]; exact q)
/-- each is drawn -/
theorem wp_compD {β : Type} {enc : α → D} (out : β → D) (R : α → β → Prop) {xs : List α} {Q : List D → S → Prop} (hl : xs.length ≤ 16777216) (cl : cleanE env vs)
    (step : ∀ x ∈ xs, ∀ s0, Wp (turnC g c el (enc x)) ⟨wipeE env vs, s0⟩ fun o s' => ∃ y, o = some (out y) ∧ wipeE s'.env vs = wipeE env vs ∧ R x y)
    (q : ∀ (ys : List β) s', ys.length = xs.length → (∀ (i : Nat) (x : α) (y : β), xs[i]? = some x → ys[i]? = some y → R x y) → Q (ys.map out) ⟨env, s'⟩) : Wp (compE vs g c el (xs.map enc)) ⟨env, src⟩ Q := by
  obtain ⟨ys, env2, s', h1, h2, h3, h4⟩ := compF_rel (vs := vs) (g := g) (c := c) (el := el) (enc := fun y => some (out y)) (R := fun d y => ∀ x, x ∈ xs → enc x = d → R x y → R x y) (ds := xs.map enc) (src := src) (env := env) (env0 := env) rfl fun d hd s0 => by
    obtain ⟨x, hx, rfl⟩ := List.mem_map.mp hd
    obtain ⟨o, ⟨e1, c1⟩, g1, y, rfl, g2, g3⟩ := step x hx s0
    exact ⟨y, e1, c1, g1, g2, fun _ _ _ z => z⟩
  -- the relation place by place, once more along the list
  have main : ∀ (xs : List α) (env0 : List (Option Sl)) (s0 : Src), wipeE env0 vs = wipeE env vs → (∀ x ∈ xs, ∀ s0, Wp (turnC g c el (enc x)) ⟨wipeE env vs, s0⟩ fun o s' => ∃ y, o = some (out y) ∧ wipeE s'.env vs = wipeE env vs ∧ R x y) →
      ∃ (ys : List β) (env2 : List (Option Sl)) (s' : Src), ys.length = xs.length ∧ (∀ (i : Nat) (x : α) (y : β), xs[i]? = some x → ys[i]? = some y → R x y) ∧ compF vs g c el (xs.map enc) ⟨env0, s0⟩ = some (ys.map out, ⟨env2, s'⟩) ∧ wipeE env2 vs = wipeE env vs := fun xs => by
    induction xs with
    | nil => intro env0 s0 h _; exact ⟨[], env0, s0, rfl, fun i x y z => by simp at z, rfl, h⟩
    | cons x r ih =>
      intro env0 s0 h st
      obtain ⟨o, ⟨e1, c1⟩, g1, y, rfl, g2, g3⟩ := st x List.mem_cons_self s0
      obtain ⟨ys, env2, s', h1, h2, h3, h4⟩ := ih e1 c1 g2 fun x hx => st x (List.mem_cons_of_mem _ hx)
      refine ⟨y :: ys, env2, s', by simp [h1], fun i x' y' q1 q2 => ?_, ?_, h4⟩
      · cases i with
        | zero => simp at q1 q2; subst q1 q2; exact g3
        | succ i => simp at q1 q2; exact h2 i x' y' q1 q2
      · show bnd (cStep vs g c el (enc x)) _ _ = _
        rw [bnd_eq (show cStep vs g c el (enc x) ⟨env0, s0⟩ = some (some (out y), ⟨e1, c1⟩) by rw [cStep_eq]; show turnC g c el (enc x) ⟨wipeE env0 vs, s0⟩ = _; rw [h]; exact g1)]
        rw [bnd_eq h3]; rfl
  obtain ⟨ys, env2, s', h1, h2, h3, h4⟩ := main xs env src rfl step
  exact ⟨_, _, compE_go (by simpa using hl) h3 h4 cl, q ys s' h1 h2⟩
end

section
variable {α : Type} {g : D → M Unit} {b : M Out} {s : S}
def Lp (o : Out) (A B : Prop) (R : D → Prop) (_ : Ph A := .mk) (_ : Ph B := .mk) (_ : Ph R := .mk) : Prop := match o with
  | .nx => A
  | .cnt => A
  | .brk => B
  | .ret d => R d
theorem lp_nx {A B : Prop} {R : D → Prop} : Lp .nx A B R ↔ A := Iff.rfl
theorem lp_cnt {A B : Prop} {R : D → Prop} : Lp .cnt A B R ↔ A := Iff.rfl
theorem lp_brk {A B : Prop} {R : D → Prop} : Lp .brk A B R ↔ B := Iff.rfl
theorem lp_ret {A B : Prop} {d : D} {R : D → Prop} : Lp (.ret d) A B R ↔ R d := Iff.rfl
theorem wp_forc {d : D} {r : List D} {Q : Out → S → Prop} : Wp (forM g b (d :: r)) s Q ↔ Wp (g d) s fun _ s1 => Wp b s1 fun o s2 => Lp o (Wp (forM g b r) s2 Q) (Q .nx s2) (fun d => Q (.ret d) s2) := by
  have go : ∀ (o : Out) s2, Wp (match o with | .nx => forM g b r | .cnt => forM g b r | .brk => ret .nx | .ret d => ret (.ret d)) s2 Q ↔ Lp o (Wp (forM g b r) s2 Q) (Q .nx s2) (fun d => Q (.ret d) s2) := fun o s2 => by
    cases o with
    | nx => exact Iff.rfl
    | cnt => exact Iff.rfl
    | brk => exact wp_ret
    | ret d => exact wp_ret
  exact wp_bnd.trans (wp_cg fun _ _ => wp_bnd.trans (wp_cg go))
theorem wp_forn {Q : Out → S → Prop} : Wp (forM g b []) s Q ↔ Q .nx s := wp_eq rfl
theorem wp_for {enc : α → D} {xs : List α} {Q : Out → S → Prop} (I : List α → List α → S → Prop) (h0 : I [] xs s)
    (hs : ∀ done x rest s, xs = done ++ x :: rest → I done (x :: rest) s → Wp (g (enc x)) s fun _ s1 => Wp b s1 fun o s2 => Lp o (I (done ++ [x]) rest s2) (Q .nx s2) (fun d => Q (.ret d) s2))
    (hd : ∀ s, I xs [] s → Q .nx s) : Wp (forM g b (xs.map enc)) s Q := by
  have main : ∀ rest done s, xs = done ++ rest → I done rest s → Wp (forM g b (rest.map enc)) s Q := fun rest => by
    induction rest with
    | nil => intro done s e i; rw [List.append_nil] at e; subst e; exact wp_forn.mpr (hd s i)
    | cons x r ih =>
      intro done s e i
      rw [List.map_cons, wp_forc]
      refine (hs done x r s e i).mono fun _ s1 h => h.mono fun o s2 h => ?_
      cases o with
      | nx => exact ih (done ++ [x]) s2 (by rw [e]; simp) h
      | cnt => exact ih (done ++ [x]) s2 (by rw [e]; simp) h
      | brk => exact h
      | ret d => exact h
  exact main xs [] s rfl h0
/-- .. by a measure -/
theorem wp_while {c : M Bool} {Q : Out → S → Prop} (I : Nat → S → Prop) {n : Nat} (h0 : I n s)
    (hs : ∀ n s, I n s → Wp c s fun t s1 => IfB t (Wp b s1 fun o s2 => Lp o (∃ m, m < n ∧ I m s2) (Q .nx s2) (fun d => Q (.ret d) s2)) (Q .nx s1)) : Wp (sWhile c b) s Q := by
  have main : ∀ n s, I n s → ∃ k o s', whF c b k s = some (o, s') ∧ Q o s' := fun n => by
    induction n using Nat.strongRecOn with
    | ind n ih =>
      intro s i
      obtain ⟨t, s1, e1, h1, h2⟩ := hs n s i
      cases t with
      | false => exact ⟨1, .nx, s1, (bnd_eq e1).trans rfl, h2 rfl⟩
      | true =>
        obtain ⟨o, s2, e2, h3⟩ := h1 rfl
        cases o with
        | nx =>
          obtain ⟨m, hm, i2⟩ := h3
          obtain ⟨k, o, s', e3, q⟩ := ih m hm s2 i2
          exact ⟨k + 1, o, s', (bnd_eq e1).trans ((bnd_eq e2).trans e3), q⟩
        | cnt =>
          obtain ⟨m, hm, i2⟩ := h3
          obtain ⟨k, o, s', e3, q⟩ := ih m hm s2 i2
          exact ⟨k + 1, o, s', (bnd_eq e1).trans ((bnd_eq e2).trans e3), q⟩
        | brk => exact ⟨1, .nx, s2, (bnd_eq e1).trans ((bnd_eq e2).trans rfl), h3⟩
        | ret d => exact ⟨1, .ret d, s2, (bnd_eq e1).trans ((bnd_eq e2).trans rfl), h3⟩
  obtain ⟨k, o, s', e, q⟩ := main n s h0
  exact ⟨o, s', sWhile_of e, q⟩
end

def startE (n : Nat) (ds : List D) : List (Option Sl) := ds.map (fun d => some (Sl.val d)) ++ List.replicate (n - ds.length) none
theorem startE_z : startE 0 [] = [] := rfl
theorem startE_n {n : Nat} : startE (n + 1) [] = none :: startE n [] := rfl
theorem startE_s {n : Nat} {d : D} {r : List D} : startE (n + 1) (d :: r) = some (.val d) :: startE n r := by
  unfold startE; simp
def OutR (o : Out) (P : D → Prop) (_ : Ph P := .mk) : Prop := (∃ d, o = .ret d ∧ P d) ∨ (o = .nx ∧ P .non)
theorem outR_ret {d : D} {P : D → Prop} : OutR (.ret d) P ↔ P d := by unfold OutR; simp
theorem outR_nx {P : D → Prop} : OutR .nx P ↔ P .non := by unfold OutR; simp
theorem fn_cl {n : Nat} {m : M Out} {ds : List D} {c : Src} {R : D → Src → Prop} (h : Wp m ⟨startE n ds, c⟩ fun o s => OutR o fun d => R d s.src) : Cl (fnOf n m) ds c R := by
  obtain ⟨o, s', e, h⟩ := h
  rcases h with ⟨d, rfl, p⟩ | ⟨rfl, p⟩
  · exact ⟨d, s'.src, by unfold fnOf; rw [show m ⟨ds.map (fun d => some (Sl.val d)) ++ List.replicate (n - ds.length) none, c⟩ = _ from e], p⟩
  · exact ⟨.non, s'.src, by unfold fnOf; rw [show m ⟨ds.map (fun d => some (Sl.val d)) ++ List.replicate (n - ds.length) none, c⟩ = _ from e], p⟩
theorem fn_val {n : Nat} {m : M Out} {ds : List D} {c : Src} {v : D} (h : Wp m ⟨startE n ds, c⟩ fun o s => OutR o fun d => d = v ∧ s.src = c) : fnOf n m ds c = some (v, c) := Cl.eq (fn_cl h)
theorem cl_pick {most : Int} {c : Src} {R : D → Src → Prop} (h1 : 1 ≤ most) (h2 : most ≤ 1000000) (h : ∀ r c', 0 ≤ r → r < most → R (.int r) c') : Cl S_pick [.src, .int most] c R := by
  obtain ⟨r, c', e, h3, h4⟩ := pick_any most c h1 h2
  exact ⟨_, _, e, h r c' h3 h4⟩
end GH

namespace GH
open PySem PySem.Spec PyProof.Rows L2

def dKey : D → Option Key
  | .int i => some (.inl i)
  | .str s => some (.inr s)
  | _ => none
def keyD : Key → D
  | .inl i => .int i
  | .inr s => .str s
def dKeyL : List D → Option (List Key)
  | [] => some []
  | d :: r => (dKey d).bind fun k => (dKeyL r).map (k :: ·)
def dKeys : D → Option (List Key)
  | .tup ds => dKeyL ds
  | _ => none
theorem dKey_rp {d : D} {k : Key} {p : Addr} {W : AP} {H : Hp} {v : V} (h : dKey d = some k) (r : Rp p W H d v) : v = kV k := by
  cases d <;> simp only [dKey] at h <;> cases h
  · exact rp_int r
  · exact rp_str r
theorem keyD_rp {k : Key} {p : Addr} {W : AP} {H : Hp} : Rp p W H (keyD k) (kV k) := by
  cases k
  · exact .mkInt _
  · exact .mkStr _
theorem dKeyL_rp {p : Addr} {W : AP} {H : Hp} : ∀ {ds : List D} {ks : List Key} {vs : List V}, dKeyL ds = some ks → Rps p W H ds vs → vs = ks.map kV
  | [], _, _, h, r => by cases h; simp only [Rps] at r; rw [r]; rfl
  | d :: ds, ks, vs, h, r => by
    simp only [Rps] at r
    obtain ⟨v, t, rfl, r1, r2⟩ := r
    obtain ⟨k, h1, h2⟩ := Option.bind_eq_some_iff.mp h
    obtain ⟨ks', h3, rfl⟩ := Option.map_eq_some_iff.mp h2
    rw [dKey_rp h1 r1, dKeyL_rp h3 r2]; rfl
theorem dKeys_rp {d : D} {ks : List Key} {p : Addr} {W : AP} {H : Hp} {v : V} (h : dKeys d = some ks) (r : Rp p W H d v) : ∃ b, v = .ref b ∧ H b = some (.tup (ks.map kV)) := by
  cases d <;> simp only [dKeys] at h <;> try (cases h; done)
  obtain ⟨a, vs, rfl, _, ha, rs⟩ := rp_tup r
  exact ⟨a, rfl, by rw [ha, dKeyL_rp h rs]⟩
def keysD (ks : List Key) : D := .tup (ks.map keyD)
theorem keys_rps {p : Addr} {W : AP} {H : Hp} : ∀ {ks : List Key}, Rps p W H (ks.map keyD) (ks.map kV)
  | [] => .nil
  | _ :: _ => .cons keyD_rp keys_rps

section
variable {κ : Type} [DecidableEq κ]
def kGet : List κ → List D → κ → Option D
  | k :: ks, d :: ds, x => if k = x then some d else kGet ks ds x
  | _, _, _ => none
def kRep : List κ → List D → κ → D → List D
  | k :: ks, e :: ds, x, d => (if k = x then d else e) :: kRep ks ds x d
  | _, ds, _, _ => ds
def kPutK (ks : List κ) (x : κ) : List κ := if x ∈ ks then ks else ks ++ [x]
def kPutD (ks : List κ) (ds : List D) (x : κ) (d : D) : List D := if x ∈ ks then kRep ks ds x d else ds ++ [d]
theorem kGet_some {p : Addr} {W : AP} {H : Hp} {x : κ} {d : D} : ∀ {kvs : List (κ × V)} {ds : List D}, Rps p W H ds (kvs.map (·.2)) → kGet (kvs.map (·.1)) ds x = some d → ∃ v, valV kvs x = some v ∧ Rp p W H d v
  | [], _, _, h => by simp [kGet] at h
  | kv :: r, [], _, h => by simp [kGet] at h
  | kv :: r, e :: ds, rs, h => by
    rw [List.map_cons] at rs
    simp only [Rps] at rs
    obtain ⟨v, t, e1, r1, r2⟩ := rs
    cases e1
    rw [List.map_cons] at h
    unfold kGet at h
    by_cases hk : kv.1 = x
    · rw [if_pos hk] at h; cases h
      exact ⟨kv.2, valV_pos hk, r1⟩
    · rw [if_neg hk] at h
      rw [valV_neg hk]
      exact kGet_some r2 h
theorem kGet_none {p : Addr} {W : AP} {H : Hp} {x : κ} : ∀ {kvs : List (κ × V)} {ds : List D}, Rps p W H ds (kvs.map (·.2)) → kGet (kvs.map (·.1)) ds x = none → valV kvs x = none
  | [], _, _, _ => rfl
  | kv :: r, [], rs, _ => by simp [Rps] at rs
  | kv :: r, e :: ds, rs, h => by
    rw [List.map_cons] at rs
    simp only [Rps] at rs
    obtain ⟨v, t, e1, r1, r2⟩ := rs
    cases e1
    rw [List.map_cons] at h
    unfold kGet at h
    by_cases hk : kv.1 = x
    · rw [if_pos hk] at h; cases h
    · rw [if_neg hk] at h
      rw [valV_neg hk]
      exact kGet_none r2 h
theorem kGet_val {p : Addr} {W : AP} {H : Hp} {x : κ} {kvs : List (κ × V)} {ds : List D} (rs : Rps p W H ds (kvs.map (·.2))) : (valV kvs x).isSome = (kGet (kvs.map (·.1)) ds x).isSome := by
  cases h : kGet (kvs.map (·.1)) ds x with
  | none => rw [kGet_none rs h]; rfl
  | some d =>
    obtain ⟨v, e, _⟩ := kGet_some rs h
    rw [e]; rfl
theorem any_mem (kvs : List (κ × V)) (x : κ) : (kvs.any fun kv => decide (kv.1 = x)) = decide (x ∈ kvs.map (·.1)) := by
  induction kvs with
  | nil => simp
  | cons kv r ih =>
    rw [List.any_cons, ih, List.map_cons]
    by_cases h : kv.1 = x
    · simp [h]
    · have : ¬ x = kv.1 := fun z => h z.symm
      simp [h, this]
theorem kRep_rps {p : Addr} {W : AP} {H : Hp} {x : κ} {d : D} {v : V} (rd : Rp p W H d v) : ∀ {kvs : List (κ × V)} {ds : List D}, Rps p W H ds (kvs.map (·.2)) → Rps p W H (kRep (kvs.map (·.1)) ds x d) ((kvs.map fun kv => if kv.1 = x then (kv.1, v) else kv).map (·.2))
  | [], _, rs => by simpa [kRep] using rs
  | kv :: r, [], rs => by simp [Rps] at rs
  | kv :: r, e :: ds, rs => by
    rw [List.map_cons] at rs
    simp only [Rps] at rs
    obtain ⟨w, t, e1, r1, r2⟩ := rs
    cases e1
    rw [List.map_cons, List.map_cons, List.map_cons]
    unfold kRep
    refine .cons ?_ (kRep_rps rd r2)
    by_cases h : kv.1 = x
    · rw [if_pos h, if_pos h]; exact rd
    · rw [if_neg h, if_neg h]; exact r1
theorem putK_keys (kvs : List (κ × V)) (x : κ) (v : V) : (putK kvs x v).map (·.1) = kPutK (kvs.map (·.1)) x := by
  unfold putK kPutK
  rw [any_mem]
  by_cases h : x ∈ kvs.map (·.1)
  · simp only [h, decide_true, if_true, List.map_map]
    refine List.map_congr_left fun kv _ => ?_
    show (if kv.1 = x then (kv.1, v) else kv).1 = kv.1
    by_cases z : kv.1 = x
    · rw [if_pos z]
    · rw [if_neg z]
  · simp only [h, decide_false, Bool.false_eq_true, if_false, List.map_append]; rfl
theorem putK_rps {p : Addr} {W : AP} {H : Hp} {x : κ} {d : D} {v : V} {kvs : List (κ × V)} {ds : List D} (rs : Rps p W H ds (kvs.map (·.2))) (rd : Rp p W H d v) : Rps p W H (kPutD (kvs.map (·.1)) ds x d) ((putK kvs x v).map (·.2)) := by
  unfold putK kPutD
  rw [any_mem]
  by_cases h : x ∈ kvs.map (·.1)
  · simp only [h, decide_true, if_true]
    exact kRep_rps rd rs
  · simp only [h, decide_false, Bool.false_eq_true, if_false, List.map_append]
    exact rs.append (.cons rd .nil)
end

def dgD : D → D → Option D
  | .dct ks ds, k => (dKey k).bind (kGet ks ds)
  | .dtt ks ds, k => (dKeys k).bind (kGet ks ds)
  | _, _ => none
def dinD : D → D → Option D
  | k, .dct ks ds => (dKey k).map fun x => .bl (kGet ks ds x).isSome
  | k, .dtt ks ds => (dKeys k).map fun x => .bl (kGet ks ds x).isSome
  | _, _ => none
def dninD : D → D → Option D
  | k, .dct ks ds => (dKey k).map fun x => .bl (!(kGet ks ds x).isSome)
  | k, .dtt ks ds => (dKeys k).map fun x => .bl (!(kGet ks ds x).isSome)
  | _, _ => none
theorem dg_get {p : Addr} {W : AP} {H : Hp} {x k d : D} {v u : V} (h : dgD x k = some d) (r : Rp p W H x v) (rk : Rp p W H k u) : ∃ a w, v = .ref a ∧ DGet H a u (some w) ∧ Rp p W H d w := by
  cases x <;> simp only [dgD] at h <;> try (cases h; done)
  · obtain ⟨a, kvs, rfl, _, ha, rfl, rs⟩ := rp_dct r
    obtain ⟨y, h1, h2⟩ := Option.bind_eq_some_iff.mp h
    obtain ⟨w, h3, h4⟩ := kGet_some rs h2
    exact ⟨a, w, rfl, .inl ⟨kvs, y, ha, dKey_rp h1 rk, h3.symm⟩, h4⟩
  · obtain ⟨a, kvs, rfl, _, ha, rfl, rs⟩ := rp_dtt r
    obtain ⟨y, h1, h2⟩ := Option.bind_eq_some_iff.mp h
    obtain ⟨w, h3, h4⟩ := kGet_some rs h2
    obtain ⟨b, rfl, hb⟩ := dKeys_rp h1 rk
    exact ⟨a, w, rfl, .inr ⟨kvs, y, b, ha, rfl, hb, h3.symm⟩, h4⟩
/-- whether there, and what -/
theorem din_get {p : Addr} {W : AP} {H : Hp} {x k d : D} {v u : V} (h : dinD k x = some d) (r : Rp p W H x v) (rk : Rp p W H k u) : ∃ a o, v = .ref a ∧ DGet H a u o ∧ d = .bl o.isSome := by
  cases x <;> simp only [dinD] at h <;> try (cases h; done)
  · obtain ⟨a, kvs, rfl, _, ha, rfl, rs⟩ := rp_dct r
    obtain ⟨y, h1, rfl⟩ := Option.map_eq_some_iff.mp h
    exact ⟨a, _, rfl, .inl ⟨kvs, y, ha, dKey_rp h1 rk, rfl⟩, by rw [kGet_val rs]⟩
  · obtain ⟨a, kvs, rfl, _, ha, rfl, rs⟩ := rp_dtt r
    obtain ⟨y, h1, rfl⟩ := Option.map_eq_some_iff.mp h
    obtain ⟨b, rfl, hb⟩ := dKeys_rp h1 rk
    exact ⟨a, _, rfl, .inr ⟨kvs, y, b, ha, rfl, hb, rfl⟩, by rw [kGet_val rs]⟩
theorem dnin_get {p : Addr} {W : AP} {H : Hp} {x k d : D} {v u : V} (h : dninD k x = some d) (r : Rp p W H x v) (rk : Rp p W H k u) : ∃ a o, v = .ref a ∧ DGet H a u o ∧ d = .bl (!o.isSome) := by
  cases x <;> simp only [dninD] at h <;> try (cases h; done)
  · obtain ⟨a, kvs, rfl, _, ha, rfl, rs⟩ := rp_dct r
    obtain ⟨y, h1, rfl⟩ := Option.map_eq_some_iff.mp h
    exact ⟨a, _, rfl, .inl ⟨kvs, y, ha, dKey_rp h1 rk, rfl⟩, by rw [kGet_val rs]⟩
  · obtain ⟨a, kvs, rfl, _, ha, rfl, rs⟩ := rp_dtt r
    obtain ⟨y, h1, rfl⟩ := Option.map_eq_some_iff.mp h
    obtain ⟨b, rfl, hb⟩ := dKeys_rp h1 rk
    exact ⟨a, _, rfl, .inr ⟨kvs, y, b, ha, rfl, hb, rfl⟩, by rw [kGet_val rs]⟩
section
variable {X : Cx} {a b e : Expr} {pos p : Pos} {ma mb m : M D} {i : Nat} {x : Str}
theorem s_dg (hu : X.A.units + 1 < cLine) (ha : SE X a ma) (hb : SE X b mb) (hs : NoSl b := by exact fun _ _ => rfl) : SE X (.Subscript a b pos) (eBin dgD ma mb) :=
  ⟨fun B => PE.imp (pe_dget hu (ha.pe B) (hb.pe B) hs) fun σ H Q ⟨s, d, s', k, e, q⟩ => by
    refine tI.bind k e fun dx s1 x H1 h1 e1 k1 ev1 r1 => ?_
    refine tI.bind k1 e1 fun dy s2 y H2 h2 e2 k2 ev2 r2 => ?_
    obtain ⟨e3, rfl⟩ := lift_some e2
    obtain ⟨ad, w, rfl, g, rw'⟩ := dg_get e3 (r1.ev ev2) r2
    exact ⟨ad, w, rfl, g, q w H2 k2 (ev1.trans ev2) rw'⟩⟩
theorem s_din (hu : X.A.units + 1 < cLine) (ha : SE X a ma) (hb : SE X b mb) (hm : behindInMarks .In b = false := by rfl) : SE X (.Compare a [.In] [b] pos) (eBin dinD ma mb) :=
  ⟨fun B => PE.imp (pe_cmp (pc_din hu (ha.pe B) (hb.pe B)) hm) fun σ H Q ⟨s, d, s', k, e, q⟩ => by
    refine tI.bind k e fun dx s1 x H1 h1 e1 k1 ev1 r1 => ?_
    refine tI.bind k1 e1 fun dy s2 y H2 h2 e2 k2 ev2 r2 => ?_
    obtain ⟨e3, rfl⟩ := lift_some e2
    obtain ⟨ad, o, rfl, g, rfl⟩ := din_get e3 r2 (r1.ev ev2)
    exact ⟨ad, o, rfl, g, q _ H2 k2 (ev1.trans ev2) (.mkBl _)⟩⟩
theorem s_dnin (hu : X.A.units + 1 < cLine) (ha : SE X a ma) (hb : SE X b mb) (hm : behindInMarks .NotIn b = false := by rfl) : SE X (.Compare a [.NotIn] [b] pos) (eBin dninD ma mb) :=
  ⟨fun B => PE.imp (pe_cmp (pc_dnotin hu (ha.pe B) (hb.pe B)) hm) fun σ H Q ⟨s, d, s', k, e, q⟩ => by
    refine tI.bind k e fun dx s1 x H1 h1 e1 k1 ev1 r1 => ?_
    refine tI.bind k1 e1 fun dy s2 y H2 h2 e2 k2 ev2 r2 => ?_
    obtain ⟨e3, rfl⟩ := lift_some e2
    obtain ⟨ad, o, rfl, g, rfl⟩ := dnin_get e3 r2 (r1.ev ev2)
    exact ⟨ad, o, rfl, g, q _ H2 k2 (ev1.trans ev2) (.mkBl _)⟩⟩
/-- x[e] of an own dict -/
def eDgO (i : Nat) (mb : M D) : M D := fun s0 => match s0.env[i]? with
  | some (some _) => bnd mb (fun d s => match s.env[i]? with
    | some (some sl) => (match dgD sl.bor d with
      | some y => some (y, s)
      | none => none)
    | _ => none) s0
  | _ => none
theorem s_dgO (hu : X.A.units + 1 < cLine) (hx : PE X (.Name x p) (tVar i)) (hb : SE X b mb) (hs : NoSl b := by exact fun _ _ => rfl) : SE X (.Subscript (.Name x p) b pos) (eDgO i mb) := ⟨fun B => by
  refine PE.imp (pe_dget hu hx (hb.pe B) hs) fun σ H Q ⟨s, d, s', k, e, q⟩ => ?_
  unfold eDgO at e
  split at e
  · rename_i sl0 h0
    obtain ⟨v, hv⟩ := k.slot h0
    refine ⟨v, hv, ?_⟩
    refine tI.bind k e fun dy s1 u H1 h1 e1 k1 ev1 r1 => ?_
    split at e1
    · rename_i sl hsl
      split at e1
      · rename_i y hy
        cases e1
        cases sl with
        | val dx =>
          obtain ⟨v', q1, q2⟩ := k1.val i _ hsl
          rw [hv] at q1; cases q1
          obtain ⟨ad, w, rfl, g, rw'⟩ := dg_get hy q2 r1
          exact ⟨ad, w, rfl, g, q w H1 k1 ev1 rw'⟩
        | own ds => simp [Sl.bor, dgD] at hy
        | ownK ks ds =>
          obtain ⟨a', o, q1, q2, ⟨kvs, rfl, rfl, rs⟩, _⟩ := k1.own i _ hsl rfl
          rw [hv] at q1; cases q1
          obtain ⟨y', h2, h3⟩ := Option.bind_eq_some_iff.mp hy
          obtain ⟨w, h4, h5⟩ := kGet_some rs h3
          exact ⟨a', w, rfl, .inl ⟨kvs, y', .inl q2, dKey_rp h2 r1, h4.symm⟩, q w H1 k1 ev1 h5⟩
        | ownT ks ds =>
          obtain ⟨a', o, q1, q2, ⟨kvs, rfl, rfl, rs⟩, _⟩ := k1.own i _ hsl rfl
          rw [hv] at q1; cases q1
          obtain ⟨y', h2, h3⟩ := Option.bind_eq_some_iff.mp hy
          obtain ⟨w, h4, h5⟩ := kGet_some rs h3
          obtain ⟨b', rfl, hb'⟩ := dKeys_rp h2 r1
          exact ⟨a', w, rfl, .inr ⟨kvs, y', b', .inl q2, rfl, hb', h4.symm⟩, q w H1 k1 ev1 h5⟩
      · cases e1
    · cases e1
  · cases e⟩
/-- the own dict of slot i becomes what it is with a store -/
def putD (i : Nat) (k d : D) : M Unit := fun s => match s.env[i]? with
  | some (some (.ownK ks ds)) => (match dKey k with
    | some x => if ks.length < sizeLine then some ((), ⟨s.env.set i (some (.ownK (kPutK ks x) (kPutD ks ds x d))), s.src⟩) else none
    | none => none)
  | some (some (.ownT ks ds)) => (match dKeys k with
    | some x => if ks.length < sizeLine then some ((), ⟨s.env.set i (some (.ownT (kPutK ks x) (kPutD ks ds x d))), s.src⟩) else none
    | none => none)
  | _ => none
def ownHere2 (i : Nat) : M Unit := fun s => match s.env[i]? with
  | some (some (.ownK _ _)) => some ((), s)
  | some (some (.ownT _ _)) => some ((), s)
  | _ => none
theorem own_here2 {i : Nat} {s s' : S} {u : Unit} (h : ownHere2 i s = some (u, s')) : s' = s ∧ ∃ sl : Sl, s.env[i]? = some (some sl) ∧ sl.isOwn = true := by
  unfold ownHere2 at h
  split at h
  · rename_i hd; cases h; exact ⟨rfl, _, hd, rfl⟩
  · rename_i hd; cases h; exact ⟨rfl, _, hd, rfl⟩
  · cases h
def sPutD (i : Nat) (mv mk : M D) : M Out := bnd mv fun d => bnd (ownHere2 i) fun _ => bnd mk fun k => bnd (putD i k d) fun _ => ret .nx
theorem s_putD {me : M D} (hu : X.A.units + 1 < cLine) {tpos : Pos} (hx : PE X (.Name x p) (tVar i)) (hb : SE X b mb) (he : SE X e me) (hs : swapsWith e (some (.Subscript (.Name x p) b tpos)) pos.line X.env = pure false := by rfl) :
    SS X (.Assign [.Subscript (.Name x p) b tpos] e pos) (sPutD i me mb) := ⟨fun B => by
  refine PS.imp (ps_dput hu hx (hb.pe B) (he.pe B) hs) fun D σ H ⟨s, o, s', k, e, q⟩ => ?_
  refine tI.bind k e fun d s1 v H1 h1 e1 k1 ev1 r1 => ?_
  obtain ⟨_, s0, e0, e9⟩ := bnd_some e1
  obtain ⟨rfl, sl0, h0, ho0⟩ := own_here2 e0
  obtain ⟨a, o1, q1, _⟩ := k1.own i sl0 h0 ho0
  refine ⟨_, q1, ?_⟩
  refine tI.bind k1 e9 fun dy s2 u H2 h2 e2 k2 ev2 r2 => ?_
  obtain ⟨_, s3, e3, e4⟩ := bnd_some e2
  obtain ⟨rfl, rfl⟩ := ret_some e4
  unfold putD at e3
  split at e3
  · rename_i ks ds hsl
    split at e3
    · rename_i y hy
      split at e3
      · rename_i hl
        cases e3
        obtain ⟨a', o', p1, p2, ⟨kvs, rfl, rfl, rs⟩, _⟩ := k2.own i _ hsl rfl
        rw [q1] at p1; cases p1
        obtain ⟨k3, ev3⟩ := k2.wr (sl' := .ownK (kPutK (kvs.map (·.1)) y) (kPutD (kvs.map (·.1)) ds y d)) (o := .dK (putK kvs y v)) hsl rfl rfl q1 ⟨_, rfl, putK_keys .., putK_rps rs (r1.ev ev2)⟩
        exact ⟨a, _, rfl, .inl ⟨kvs, y, p2, dKey_rp hy r2, by simpa using hl, rfl⟩, q σ _ k3 (ev1.trans (ev2.trans ev3))⟩
      · cases e3
    · cases e3
  · rename_i ks ds hsl
    split at e3
    · rename_i y hy
      split at e3
      · rename_i hl
        cases e3
        obtain ⟨a', o', p1, p2, ⟨kvs, rfl, rfl, rs⟩, _⟩ := k2.own i _ hsl rfl
        rw [q1] at p1; cases p1
        obtain ⟨k3, ev3⟩ := k2.wr (sl' := .ownT (kPutK (kvs.map (·.1)) y) (kPutD (kvs.map (·.1)) ds y d)) (o := .dT (putK kvs y v)) hsl rfl rfl q1 ⟨_, rfl, putK_keys .., putK_rps rs (r1.ev ev2)⟩
        obtain ⟨b', rfl, hb'⟩ := dKeys_rp hy r2
        exact ⟨a, _, rfl, .inr ⟨kvs, y, b', p2, rfl, hb', by simpa using hl, rfl⟩, q σ _ k3 (ev1.trans (ev2.trans ev3))⟩
      · cases e3
    · cases e3
  · cases e3⟩
end

def tN (B : Bs) (m : M Sl) : TE := fun σ H Q => ∃ s sl s', StOk B σ H s ∧ m s = some (sl, s') ∧ sl.isOwn = true ∧
  ∀ a o H', StOk (B.plus a) σ H' s' → Ev (B.W s.env σ) H ((B.plus a).W s'.env σ) H' → B.H0 a = none → ¬ (B.W s'.env σ) a → H' a = some o → OwnR B.p ((B.plus a).W s'.env σ) H' sl o → Q (.ref a) H'
structure SN (X : Cx) (e : Expr) (m : M Sl) : Prop where
  pe : ∀ B, PE X e (tN B m)
section
variable {X : Cx} {e : Expr} {es : List Expr} {pos : Pos} {mn : M Sl} {ml : M (List D)} {ms : M (List Sl)}
theorem n_ofL (h : SL X e ml) : SN X e (bnd ml fun ds => ret (.own ds)) := ⟨fun B => PE.imp (h.pe B) fun σ H Q ⟨s, sl, s', k, e, ho, q⟩ => by
  obtain ⟨ds, s1, e1, e2⟩ := bnd_some e
  obtain ⟨rfl, rfl⟩ := ret_some e2
  exact ⟨s, ds, s', k, e1, fun a vs H' k' ev n nw ha r => q a _ H' k' ev n nw ha ⟨vs, rfl, r⟩⟩⟩
def eNew (mn : M Sl) : M D := bnd mn fun sl => ret sl.bor
theorem bor_rp {p : Addr} {W : AP} {H : Hp} {a : Addr} {o : HO} : ∀ {sl : Sl}, sl.isOwn = true → ¬ W a → H a = some o → OwnR p W H sl o → Rp p W H sl.bor (.ref a)
  | .val _, h, _, _, _ => by cases h
  | .own ds, _, n, ha, ⟨vs, e, r⟩ => by subst e; exact .mkLst n ha r
  | .ownK ks ds, _, n, ha, ⟨kvs, e, r1, r⟩ => by subst e; simp only [Sl.bor, Rp]; exact ⟨a, kvs, rfl, n, .inl ha, r1, r⟩
  | .ownT ks ds, _, n, ha, ⟨kvs, e, r1, r⟩ => by subst e; simp only [Sl.bor, Rp]; exact ⟨a, kvs, rfl, n, .inl ha, r1, r⟩
/-- the guard of a new object falls -/
theorem StOk.unplus {B : Bs} {σ : Sg} {H : Hp} {s : S} {a : Addr} (k : StOk (B.plus a) σ H s) (wp : B.Wc B.p) (wcc : B.Wc B.c) : StOk B σ H s ∧ Ev ((B.plus a).W s.env σ) H (B.W s.env σ) H := by
  have ev2 : Ev ((B.plus a).W s.env σ) H (B.W s.env σ) H := Ev.less fun b hb => hb.elim (fun z => .inl (.inl z)) fun z => .inr z
  refine ⟨⟨k.len, fun i d h => ?_, fun i sl h ho => ?_, k.sep, k.src, k.keep, fun b h => k.wc b (.inl h), wp, wcc⟩, ev2⟩
  · obtain ⟨v, h1, h2⟩ := k.val i d h
    exact ⟨v, h1, Rp.ev ev2 _ _ h2⟩
  · obtain ⟨b, o, h1, h2, h3, h4, h5⟩ := k.own i sl h ho
    exact ⟨b, o, h1, h2, OwnR.ev ev2 _ _ h3, h4, fun z => h5 (.inl z)⟩
theorem s_ofN (h : SN X e mn) : SE X e (eNew (bnd mn fun sl => if sl.isOwn = true then ret sl else fail)) := ⟨fun B => PE.imp (h.pe B) fun σ H Q ⟨s, d, s', k, e, q⟩ => by
  obtain ⟨sl, s1, e1, e2⟩ := bnd_some e
  obtain ⟨rfl, rfl⟩ := ret_some e2
  obtain ⟨sl', s2, e3, e4⟩ := bnd_some e1
  split at e4
  · rename_i ho
    obtain ⟨rfl, rfl⟩ := ret_some e4
    refine ⟨s, sl, s', k, e3, ho, fun a o H' k' ev n nw ha r => ?_⟩
    obtain ⟨k2, ev2⟩ := k'.unplus k.wp k.wcc
    exact q _ H' k2 (Ev.trans ev ev2) (bor_rp ho nw ha (OwnR.ev ev2 _ _ r))
  · cases e4⟩
def oNS (i : Nat) : Sl → M Unit := fun sl s => if i < s.env.length ∧ sl.isOwn = true then some ((), { s with env := s.env.set i (some sl) }) else none
def sOwnN (i : Nat) (mn : M Sl) : M Out := bnd mn fun sl => bnd (oNS i sl) fun _ => ret .nx
theorem s_ownN {i : Nat} {x : Str} {pos' : Pos} (hN : X.N.Nodup) (hi : X.N[i]? = some x) (hx : Loc X.env.scope x) (he : SN X e mn) (hs : swapsWith e (some (.Name x pos')) pos.line X.env = pure false := by rfl)
    (hf : X.fn x = true ∨ X.env.scope.names.lookup x = some .local := by first | exact .inl rfl | exact .inr rfl | assumption) : SS X (.Assign [.Name x pos'] e pos) (sOwnN i mn) :=
  ⟨fun B => PS.imp (ps_set hN hi hx (he.pe B) hs hf) fun D σ H ⟨s, o, s', k, e, q⟩ => by
    obtain ⟨sl, s1, e1, e2⟩ := bnd_some e
    obtain ⟨_, s2, e3, e4⟩ := bnd_some e2
    obtain ⟨rfl, rfl⟩ := ret_some e4
    unfold oNS at e3
    split at e3
    · rename_i hl
      cases e3
      refine ⟨s, sl, s1, k, e1, hl.2, fun a o H1 k1 ev1 n nc ha r => ?_⟩
      obtain ⟨k2, ev2⟩ := k1.putOwnS hl.1 hl.2 n nc k.wp k.wcc ha r
      exact q _ H1 k2 (Ev.trans ev1 ev2)
    · cases e3⟩
def pOwnN (mn : M Sl) (ms : M (List Sl)) : M (List Sl) := bnd mn fun sl => bnd (if sl.isOwn = true then ret () else fail) fun _ => bnd ms fun r => ret (sl :: r)
theorem pend_own {σ : Sg} {H : Hp} {s : S} {Bf B : Bs} {sl : Sl} {r : List Sl} {a : Addr} {o : HO} {t : List V} (ho : sl.isOwn = true) (n : B.H0 a = none) (nc : ¬ B.Wc a) (r1 : OwnR Bf.p (Bf.W s.env σ) H sl o) (h : PendR σ H s Bf (B.plusO a o) r t) : PendR σ H s Bf B (sl :: r) (.ref a :: t) := by
  cases sl with
  | val d => cases ho
  | own ds => exact ⟨a, o, t, rfl, n, nc, r1, h⟩
  | ownK ks ds => exact ⟨a, o, t, rfl, n, nc, r1, h⟩
  | ownT ks ds => exact ⟨a, o, t, rfl, n, nc, r1, h⟩
theorem p_ownN (ha : SN X e mn) (hr : SP X es ms) (hs : starEach (e :: es) X.env = (false, eval e X.env) :: starEach es X.env := by rfl) : SP X (e :: es) (pOwnN mn ms) :=
  ⟨fun B => ⟨fun pos pins sh σ H Q I h => by
    refine (pa_cons (t := fun σ H Q => ∃ B', tP B' ms σ H Q) (ha.pe B) ⟨fun pos pins sh σ H Q I ⟨B', h⟩ => (hr.pa B').run pos pins sh σ H Q I h⟩ hs).run pos pins sh σ H Q I ?_
    obtain ⟨s, d, s', k, e, q⟩ := h
    obtain ⟨sl, s1, e1, e6⟩ := bnd_some e
    obtain ⟨_, s1', e5, e2⟩ := bnd_some e6
    split at e5
    · rename_i ho
      obtain ⟨_, rfl⟩ := ret_some e5
      refine ⟨s, sl, _, k, e1, ho, fun a o H1 k1 ev1 n nw hA r1 => ?_⟩
      obtain ⟨r, s2, e3, e4⟩ := bnd_some e2
      obtain ⟨rfl, rfl⟩ := ret_some e4
      refine ⟨B.plusO a o, _, r, s', k1.pin hA, e3, fun us H' Bf k2 ev2 pr => q _ H' Bf k2 (Ev.trans ev1 ev2) (pend_own ho n (fun z => nw (.inl z)) ?_ pr)⟩
      rw [pr.base.1]
      exact OwnR.ev ev2 _ _ r1
    · cases e5⟩⟩
def nK0 : M Sl := ret (.ownK [] [])
def nT0 : M Sl := ret (.ownT [] [])
theorem n_dK : SN X (.Dict [] [] pos) nK0 := ⟨fun B => PE.imp pe_dnewK fun σ H Q ⟨s, sl, s', k, e, ho, q⟩ p np => by
  obtain ⟨rfl, rfl⟩ := ret_some e
  obtain ⟨kp, ev⟩ := k.plus (o := .dK []) np
  exact q p _ _ kp ev (k.new np) (k.wt.new np) upd_same ⟨[], rfl, rfl, .nil⟩⟩
theorem n_dT : SN X (.Dict [] [] pos) nT0 := ⟨fun B => PE.imp pe_dnewT fun σ H Q ⟨s, sl, s', k, e, ho, q⟩ p np => by
  obtain ⟨rfl, rfl⟩ := ret_some e
  obtain ⟨kp, ev⟩ := k.plus (o := .dT []) np
  exact q p _ _ kp ev (k.new np) (k.wt.new np) upd_same ⟨[], rfl, rfl, .nil⟩⟩
def dpNil : M (List (Key × D)) := ret []
def dpCons (mk mv : M D) (ms : M (List (Key × D))) : M (List (Key × D)) := bnd mk fun k => bnd (lift (dKey k)) fun x => bnd mv fun d => bnd ms fun r => ret ((x, d) :: r)
def mergeD : List (Key × D) → List Key → List D → List Key × List D
  | [], ks, ds => (ks, ds)
  | (x, d) :: r, ks, ds => mergeD r (kPutK ks x) (kPutD ks ds x d)
def nDisp (ms : M (List (Key × D))) : M Sl := bnd ms fun l => if l.length ≤ 15 then ret (.ownK (mergeD l [] []).1 (mergeD l [] []).2) else fail
/-- the pairs' values as they are reached -/
def PairsR (p : Addr) (W : AP) (H : Hp) : List (Key × D) → List (Key × V) → Prop
  | [], l => l = []
  | (x, d) :: r, l => ∃ v t, l = (x, v) :: t ∧ Rp p W H d v ∧ PairsR p W H r t
theorem PairsR.ev {p : Addr} {W W' : AP} {H H' : Hp} (e : Ev W H W' H') : ∀ {l : List (Key × D)} {k : List (Key × V)}, PairsR p W H l k → PairsR p W' H' l k
  | [], _, h => h
  | (x, d) :: r, _, ⟨v, t, e1, r1, h⟩ => ⟨v, t, e1, r1.ev e, PairsR.ev e h⟩
theorem PairsR.len {p : Addr} {W : AP} {H : Hp} : ∀ {l : List (Key × D)} {k : List (Key × V)}, PairsR p W H l k → k.length = l.length
  | [], _, h => by rw [h]; rfl
  | (x, d) :: r, _, ⟨v, t, e1, r1, h⟩ => by rw [e1]; simp [h.len]
theorem merge_R {p : Addr} {W : AP} {H : Hp} : ∀ {l : List (Key × D)} {k kvs : List (Key × V)} {ds : List D}, PairsR p W H l k → Rps p W H ds (kvs.map (·.2)) →
    (mergeK kvs k).map (·.1) = (mergeD l (kvs.map (·.1)) ds).1 ∧ Rps p W H (mergeD l (kvs.map (·.1)) ds).2 ((mergeK kvs k).map (·.2))
  | [], _, kvs, ds, h, r => by rw [h]; exact ⟨rfl, r⟩
  | (x, d) :: rest, _, kvs, ds, ⟨v, t, e1, r1, h⟩, r => by
    subst e1
    have := merge_R (kvs := putK kvs x v) (ds := kPutD (kvs.map (·.1)) ds x d) h (putK_rps r r1)
    rw [putK_keys] at this
    exact this
structure SD (X : Cx) (pos : Pos) (keys : List (Option Expr)) (values : List Expr) (m : M (List (Key × D))) : Prop where
  pp : ∃ trs, PPs X pos keys values trs ∧ ∀ B σ H Q, (∃ s l s', StOk B σ H s ∧ m s = some (l, s') ∧ ∀ kvs H', StOk B σ H' s' → Ev (B.W s.env σ) H (B.W s'.env σ) H' → PairsR B.p (B.W s'.env σ) H' l kvs → Q (kvs.map fun kv => (kV kv.1, kv.2)) H') → tPairs trs σ H Q
theorem d_nil : SD X pos [] [] dpNil := ⟨[], pps_nil, fun B σ H Q ⟨s, l, s', k, e, q⟩ => by
  obtain ⟨rfl, rfl⟩ := ret_some e
  exact q [] H k Ev.refl rfl⟩
theorem d_cons {k v : Expr} {ks : List (Option Expr)} {vs : List Expr} {mk mv : M D} {ms : M (List (Key × D))} (hk : SE X k mk) (hv : SE X v mv) (hr : SD X pos ks vs ms) : SD X pos (some k :: ks) (v :: vs) (dpCons mk mv ms) := ⟨by
  obtain ⟨trs, h1, h2⟩ := hr.pp
  refine ⟨(tIx mk, tIx mv) :: trs, pps_cons hk.px hv.px h1, fun B σ H Q ⟨s, l, s', st, e, q⟩ => ?_⟩
  refine ⟨B, tI.bind st e fun dk s1 u H1 _ e1 k1 ev1 r1 => ?_⟩
  obtain ⟨x, s1', e3, e1b⟩ := bnd_some e1
  obtain ⟨hx, rfl⟩ := lift_some e3
  refine ⟨B, tI.bind k1 e1b fun d s2 w H2 _ e2 k2 ev2 r2 => ?_⟩
  obtain ⟨rest, s3, e4, e5⟩ := bnd_some e2
  obtain ⟨rfl, rfl⟩ := ret_some e5
  refine h2 B _ _ _ ⟨s2, rest, s', k2, e4, fun kvs H' k3 ev3 pr => ?_⟩
  have := q ((x, w) :: kvs) H' k3 (ev1.trans (ev2.trans ev3)) ⟨w, kvs, rfl, r2.ev ev3, pr⟩
  rw [dKey_rp hx r1]
  exact this⟩
theorem n_disp {keys : List (Option Expr)} {values : List Expr} {ms : M (List (Key × D))} (h : SD X pos keys values ms) (hall : keys.all (·.isSome) = true := by rfl) (hl : keys.length = values.length := by rfl) (h0 : keys ≠ [] := by intro z; cases z)
    (h15 : keys.length ≤ 15 := by decide) : SN X (.Dict keys values pos) (nDisp ms) := ⟨fun B => by
  obtain ⟨trs, h1, h2⟩ := h.pp
  refine PE.imp (pe_disp h1 hall hl h0 h15) fun σ H Q ⟨s, sl, s', k, e, ho, q⟩ p np => ?_
  obtain ⟨l, s1, e1, e2⟩ := bnd_some e
  split at e2
  · rename_i hl15
    obtain ⟨rfl, rfl⟩ := ret_some e2
    obtain ⟨kb, evb⟩ := k.begin (o := .dK []) np
    have nW := k.wt.new np
    refine h2 (B.plusO p (.dK [])) _ _ _ ⟨s, l, s', kb, e1, fun kvs H' k' ev pr => ?_⟩
    have hp1 : p ≠ B.p := fun z => nW (.inl (z ▸ k.wp))
    have hp2 : p ≠ B.c := fun z => nW (.inl (z ▸ k.wcc))
    have hA : H' p = some (.dK []) := k'.keep p _ upd_same hp1 hp2
    refine ⟨hA, kvs, rfl, by rw [pr.len]; exact hl15, ?_⟩
    obtain ⟨kg, evg⟩ := k'.grow (o' := .dK (mergeK [] kvs)) hp1 hp2
    have kf := kg.finish (k.new np)
    refine q p _ _ kf ((Ev.trans evb (Ev.trans ev evg))) (k.new np) ?_ upd_same ?_
    · rintro (z | ⟨j, sl, h1, h2, h3⟩)
      · exact nW (.inl z)
      · obtain ⟨b, o, h5, _, _, _, h8⟩ := kf.own j sl h1 h2
        rw [h3] at h5; cases h5
        exact h8 (.inr rfl)
    · have m := merge_R (kvs := []) (ds := []) (PairsR.ev evg pr) .nil
      exact ⟨_, rfl, m.1, m.2⟩
  · cases e2⟩
end
end GH

namespace GH
open PySem PySem.Spec PyProof.Rows L2

def Bs.lock (B : Bs) (d : Addr) (o : Obj) (u : HO) : Bs := { B with H0 := upd B.H0 d (.frz o u) }
def DictO (u : HO) : Prop := (∃ kvs, u = .dK kvs) ∨ ∃ kvs, u = .dT kvs
section
variable {p : Addr} {W : AP} {H : Hp} {d : Addr} {o : Obj} {u : HO}
theorem Rd.lock {a : Addr} {x : HO} (h : H d = some u) (du : DictO u) (r : Rd H a x) : Rd (upd H d (.frz o u)) a x := by
  by_cases e : a = d
  · subst e
    rcases r with r | ⟨o', r⟩
    · rw [h] at r; cases r; exact .inr ⟨o, upd_same⟩
    · rw [h] at r; cases r
      rcases du with ⟨_, z⟩ | ⟨_, z⟩ <;> cases z
  · rcases r with r | ⟨o', r⟩
    · exact .inl (by rw [upd_ne e]; exact r)
    · exact .inr ⟨o', by rw [upd_ne e]; exact r⟩
theorem Rd.unlock {a : Addr} {x : HO} (h : H d = some (.frz o u)) (nx : ∀ o' y, x ≠ .frz o' y) (r : Rd H a x) : Rd (upd H d u) a x := by
  by_cases e : a = d
  · subst e
    rcases r with r | ⟨o', r⟩
    · rw [h] at r; cases r; exact absurd rfl (nx _ _)
    · rw [h] at r; cases r; exact .inl upd_same
  · rcases r with r | ⟨o', r⟩
    · exact .inl (by rw [upd_ne e]; exact r)
    · exact .inr ⟨o', by rw [upd_ne e]; exact r⟩
theorem lock_ne {a : Addr} {x : HO} (h : H d = some u) (du : DictO u) (hx : ¬ DictO x) (e : H a = some x) : (upd H d (.frz o u)) a = some x := by
  by_cases z : a = d
  · subst z; rw [h] at e; cases e; exact absurd du hx
  · rw [upd_ne z]; exact e
theorem unlock_ne {a : Addr} {x : HO} (h : H d = some (.frz o u)) (nx : ∀ o' y, x ≠ .frz o' y) (e : H a = some x) : (upd H d u) a = some x := by
  by_cases z : a = d
  · subst z; rw [h] at e; cases e; exact absurd rfl (nx _ _)
  · rw [upd_ne z]; exact e
theorem noDict_tup {xs : List V} : ¬ DictO (.tup xs) := by rintro (⟨_, z⟩ | ⟨_, z⟩) <;> cases z
theorem noDict_lst {xs : List V} : ¬ DictO (.lst xs) := by rintro (⟨_, z⟩ | ⟨_, z⟩) <;> cases z
theorem noDict_rng {lo hi : Int} : ¬ DictO (.rng lo hi) := by rintro (⟨_, z⟩ | ⟨_, z⟩) <;> cases z
mutual
theorem Rp.lock (h : H d = some u) (du : DictO u) : ∀ (x : D) (v : V), Rp p W H x v → Rp p W (upd H d (.frz o u)) x v
  | .non, _, r => r
  | .bl _, _, r => r
  | .int _, _, r => r
  | .str _, _, r => r
  | .src, _, r => r
  | .tup ds, _, ⟨a, vs, h1, h2, h3, h4⟩ => ⟨a, vs, h1, h2, lock_ne h du noDict_tup h3, Rps.lock h du ds vs h4⟩
  | .lst ds, _, ⟨a, vs, h1, h2, h3, h4⟩ => ⟨a, vs, h1, h2, lock_ne h du noDict_lst h3, Rps.lock h du ds vs h4⟩
  | .rng _ _, _, ⟨a, h1, h2, h3⟩ => ⟨a, h1, h2, lock_ne h du noDict_rng h3⟩
  | .dct _ ds, _, ⟨a, kvs, h1, h2, h3, h4, h5⟩ => ⟨a, kvs, h1, h2, Rd.lock h du h3, h4, Rps.lock h du ds _ h5⟩
  | .dtt _ ds, _, ⟨a, kvs, h1, h2, h3, h4, h5⟩ => ⟨a, kvs, h1, h2, Rd.lock h du h3, h4, Rps.lock h du ds _ h5⟩
theorem Rps.lock (h : H d = some u) (du : DictO u) : ∀ (x : List D) (v : List V), Rps p W H x v → Rps p W (upd H d (.frz o u)) x v
  | [], _, r => r
  | x :: ds, _, ⟨v, t, h1, h2, h3⟩ => ⟨v, t, h1, Rp.lock h du x v h2, Rps.lock h du ds t h3⟩
end
mutual
theorem Rp.unlock (h : H d = some (.frz o u)) : ∀ (x : D) (v : V), Rp p W H x v → Rp p W (upd H d u) x v
  | .non, _, r => r
  | .bl _, _, r => r
  | .int _, _, r => r
  | .str _, _, r => r
  | .src, _, r => r
  | .tup ds, _, ⟨a, vs, h1, h2, h3, h4⟩ => ⟨a, vs, h1, h2, unlock_ne h (fun _ _ z => by cases z) h3, Rps.unlock h ds vs h4⟩
  | .lst ds, _, ⟨a, vs, h1, h2, h3, h4⟩ => ⟨a, vs, h1, h2, unlock_ne h (fun _ _ z => by cases z) h3, Rps.unlock h ds vs h4⟩
  | .rng _ _, _, ⟨a, h1, h2, h3⟩ => ⟨a, h1, h2, unlock_ne h (fun _ _ z => by cases z) h3⟩
  | .dct _ ds, _, ⟨a, kvs, h1, h2, h3, h4, h5⟩ => ⟨a, kvs, h1, h2, Rd.unlock h (fun _ _ z => by cases z) h3, h4, Rps.unlock h ds _ h5⟩
  | .dtt _ ds, _, ⟨a, kvs, h1, h2, h3, h4, h5⟩ => ⟨a, kvs, h1, h2, Rd.unlock h (fun _ _ z => by cases z) h3, h4, Rps.unlock h ds _ h5⟩
theorem Rps.unlock (h : H d = some (.frz o u)) : ∀ (x : List D) (v : List V), Rps p W H x v → Rps p W (upd H d u) x v
  | [], _, r => r
  | x :: ds, _, ⟨v, t, h1, h2, h3⟩ => ⟨v, t, h1, Rp.unlock h x v h2, Rps.unlock h ds t h3⟩
end
theorem OwnR.lock (h : H d = some u) (du : DictO u) : ∀ {sl : Sl} {x : HO}, OwnR p W H sl x → OwnR p W (upd H d (.frz o u)) sl x
  | .val _, _, r => r
  | .own _, _, ⟨vs, h1, h2⟩ => ⟨vs, h1, Rps.lock h du _ _ h2⟩
  | .ownK _ _, _, ⟨kvs, h1, h2, h3⟩ => ⟨kvs, h1, h2, Rps.lock h du _ _ h3⟩
  | .ownT _ _, _, ⟨kvs, h1, h2, h3⟩ => ⟨kvs, h1, h2, Rps.lock h du _ _ h3⟩
theorem OwnR.unlock (h : H d = some (.frz o u)) : ∀ {sl : Sl} {x : HO}, OwnR p W H sl x → OwnR p W (upd H d u) sl x
  | .val _, _, r => r
  | .own _, _, ⟨vs, h1, h2⟩ => ⟨vs, h1, Rps.unlock h _ _ h2⟩
  | .ownK _ _, _, ⟨kvs, h1, h2, h3⟩ => ⟨kvs, h1, h2, Rps.unlock h _ _ h3⟩
  | .ownT _ _, _, ⟨kvs, h1, h2, h3⟩ => ⟨kvs, h1, h2, Rps.unlock h _ _ h3⟩
theorem StOk.lock {B : Bs} {σ : Sg} {s : S} (k : StOk B σ H s) (h : H d = some u) (du : DictO u) (nW : ¬ B.W s.env σ d) : StOk (B.lock d o u) σ (upd H d (.frz o u)) s := by
  have hp : d ≠ B.p := fun z => nW (.inl (z ▸ k.wp))
  have hc : d ≠ B.c := fun z => nW (.inl (z ▸ k.wcc))
  refine ⟨k.len, fun i x hx => ?_, fun i sl hi ho => ?_, k.sep, ⟨?_, ?_⟩, fun a x hx n1 n2 => ?_, fun a ha => ?_, k.wp, k.wcc⟩
  · obtain ⟨v, h1, h2⟩ := k.val i x hx
    exact ⟨v, h1, Rp.lock h du _ _ h2⟩
  · obtain ⟨a, x, h1, h2, h3, h4, h5⟩ := k.own i sl hi ho
    have ne : a ≠ d := fun z => nW (z ▸ .inr ⟨i, sl, hi, ho, h1⟩)
    exact ⟨a, x, h1, by rw [upd_ne ne]; exact h2, OwnR.lock h du h3, by show upd B.H0 d _ a = none; rw [upd_ne ne]; exact h4, h5⟩
  · show upd H d _ B.p = _
    rw [upd_ne (Ne.symm hp)]; exact k.src.d
  · show upd H d _ B.c = _
    rw [upd_ne (Ne.symm hc)]; exact k.src.l
  · have hx : upd B.H0 d (.frz o u) a = some x := hx
    by_cases z : a = d
    · subst z; rw [upd_same] at hx ⊢; exact hx
    · rw [upd_ne z] at hx ⊢; exact k.keep a x hx n1 n2
  · have ne : a ≠ d := fun z => nW (z ▸ .inl ha)
    rw [upd_ne ne]; exact k.wc a ha
theorem StOk.unlock {B : Bs} {σ : Sg} {s : S} (k : StOk (B.lock d o u) σ H s) (h : H d = some (.frz o u)) (hp : d ≠ B.p) (hc : d ≠ B.c) (nW : ¬ B.Wc d) (h0 : ∀ x, B.H0 d = some x → x = u) : StOk B σ (upd H d u) s := by
  refine ⟨k.len, fun i x hx => ?_, fun i sl hi ho => ?_, k.sep, ⟨?_, ?_⟩, fun a x hx n1 n2 => ?_, fun a ha => ?_, k.wp, k.wcc⟩
  · obtain ⟨v, h1, h2⟩ := k.val i x hx
    exact ⟨v, h1, Rp.unlock h _ _ h2⟩
  · obtain ⟨a, x, h1, h2, h3, h4, h5⟩ := k.own i sl hi ho
    have ne : a ≠ d := fun z => by
      subst z
      have h4 : upd B.H0 a (.frz o u) a = none := h4
      rw [upd_same] at h4; cases h4
    have h4 : upd B.H0 d (.frz o u) a = none := h4
    rw [upd_ne ne] at h4
    exact ⟨a, x, h1, by rw [upd_ne ne]; exact h2, OwnR.unlock h h3, h4, h5⟩
  · rw [upd_ne (Ne.symm hp)]; exact k.src.d
  · rw [upd_ne (Ne.symm hc)]; exact k.src.l
  · by_cases z : a = d
    · subst z; rw [upd_same, h0 x hx]
    · rw [upd_ne z]; exact k.keep a x (by show upd B.H0 d _ a = _; rw [upd_ne z]; exact hx) n1 n2
  · have ne : a ≠ d := fun z => nW (z ▸ ha)
    rw [upd_ne ne]; exact k.wc a ha
/-- what stays over a locked stretch -/
theorem Ev.unlock {W' : AP} {H' : Hp} (h : H d = some u) (nW : ¬ W d) (h' : H' d = some (.frz o u)) (e : Ev W (upd H d (.frz o u)) W' H') : Ev W H W' (upd H' d u) := fun a x hx n => by
  by_cases z : a = d
  · subst z
    rw [h] at hx; cases hx
    exact ⟨upd_same, (e a _ upd_same n).2⟩
  · obtain ⟨h1, h2⟩ := e a x (by rw [upd_ne z]; exact hx) n
    exact ⟨by rw [upd_ne z]; exact h1, h2⟩
end

def sForD (i : Nat) (g : D → M Unit) (b : M Out) : M Out := fun s => match s.env[i]? with
  | some (some (.val (.dct ks _))) => forM g b (ks.map keyD) s
  | some (some (.val (.dtt ks _))) => forM g b (ks.map keysD) s
  | _ => none
section
variable {X : Cx} {pos p : Pos} {i : Nat} {x : Str} {m : M Out}
theorem ps_or {st : Stmt} {t t' : TS} (h : PS X st t) (h' : PS X st t') : PS X st (fun D σ H => t D σ H ∨ t' D σ H) := ⟨fun pins s σ H D I q => q.elim (h.run pins s σ H D I) (h'.run pins s σ H D I)⟩
/-- a walk's loop, told by what it walks -/
theorem for_core {B : Bs} {Dn : Ends} {g : D → M Unit} {is : List Nat} {σ : Sg} {H1 : Hp} {J : It} {ds : List D} {s1 s' : S} {o : Out} (k1 : StOk B σ H1 s1) (wk : WalkD B.p (B.W s1.env σ) H1 J ds) (e2 : forM g m ds s1 = some (o, s')) (q : Post B Dn (B.W s1.env σ) H1 o s') :
    ∃ W : Nat → Nat → Sg → Hp → Prop, (∃ m, W 0 m σ H1) ∧ ∀ i m' σ H, W i m' σ H →
      (J.stop i H ∧ Dn.nx σ H) ∨ (J.go i H ∧ ∃ N : Sg → Hp → Prop, (∀ σ' H', N σ' H' → ∃ m'', m'' < m' ∧ W (i + 1) m'' σ' H') ∧ ∀ x H', J.yld i H x H' → tGx is g x σ H' fun σ2 H2 => tSx m { Dn with nx := N, ct := N, bk := Dn.nx } σ2 H2) := by
  refine ⟨fun i mm σi Hi => mm = ds.length - i ∧ i ≤ ds.length ∧ ∃ si, StOk B σi Hi si ∧ Ev (B.W s1.env σ) H1 (B.W si.env σi) Hi ∧ forM g m (ds.drop i) si = some (o, s'), ⟨ds.length, by simp, Nat.zero_le _, s1, k1, Ev.refl, e2⟩, ?_⟩
  rintro i mm σi Hi ⟨rfl, hi, si, ki, evi, eR⟩
  obtain ⟨w1, w2, w3⟩ := wk _ _ evi ki.wt
  by_cases hlt : i < ds.length
  · refine .inr ⟨w1 i hlt, _, fun σ' H' hN => ⟨ds.length - (i + 1), by omega, hN⟩, fun x H' y => ?_⟩
    obtain ⟨sm, rx⟩ := w3 i _ x H' (List.getElem?_eq_getElem hlt) y
    rw [List.drop_eq_getElem_cons hlt] at eR
    obtain ⟨_, s2, eg, eR⟩ := bnd_some eR
    obtain ⟨o2, s3, eb, eR⟩ := bnd_some eR
    refine ⟨B, si, ds[i], s2, ki.same sm, rx, eg, fun σ2 k2 ev2 _ => ⟨B, s2, o2, s3, k2, eb, ?_⟩⟩
    have evA : Ev (B.W s1.env σ) H1 (B.W s2.env σ2) H' := evi.trans ((Ev.same sm).trans ev2)
    cases o2 with
    | nx => exact fun σ' H'' k' ev' => ⟨rfl, hlt, s3, k', evA.trans ev', eR⟩
    | cnt => exact fun σ' H'' k' ev' => ⟨rfl, hlt, s3, k', evA.trans ev', eR⟩
    | brk => obtain ⟨rfl, rfl⟩ := ret_some eR; exact fun σ' H'' k' ev' => q σ' H'' k' (evA.trans ev')
    | ret d => obtain ⟨rfl, rfl⟩ := ret_some eR; exact fun v σ' H'' k' ev' r => q v σ' H'' k' (evA.trans ev') r
  · have hn : i = ds.length := by omega
    subst hn
    rw [List.drop_length] at eR
    obtain ⟨rfl, rfl⟩ := ret_some eR
    exact .inl ⟨w2, q σi Hi ki evi⟩
theorem walk_keys {p : Addr} {W : AP} {H : Hp} {d : Addr} {o : Obj} {kvs : List (Key × V)} (h : H d = some (.frz o (.dK kvs))) (n : ¬ W d) : WalkD p W H (Itk d o kvs) ((kvs.map (·.1)).map keyD) := fun W2 H2 ev wt => by
  have h2 := (ev d _ h n).1
  refine ⟨fun i hi => ⟨h2, by simpa using hi⟩, ⟨h2, by simp⟩, fun i x v H3 hx y => ?_⟩
  obtain ⟨rfl, k, v', hk, rfl⟩ := y
  refine ⟨Same.refl _, ?_⟩
  rw [List.getElem?_map, List.getElem?_map, hk] at hx
  cases hx
  exact keyD_rp
theorem walk_keysT {p : Addr} {W : AP} {H : Hp} {d : Addr} {o : Obj} {kvs : List (List Key × V)} (h : H d = some (.frz o (.dT kvs))) (n : ¬ W d) : WalkD p W H (Itkt d o kvs) ((kvs.map (·.1)).map keysD) := fun W2 H2 ev wt => by
  have h2 := (ev d _ h n).1
  refine ⟨fun i hi => ⟨h2, by simpa using hi⟩, ⟨h2, by simp⟩, fun i x v H3 hx y => ?_⟩
  obtain ⟨rfl, k, v', q, hk, rfl, hq⟩ := y
  refine ⟨Same.refl _, ?_⟩
  rw [List.getElem?_map, List.getElem?_map, hk] at hx
  cases hx
  exact .mkTup (wt.tup hq) hq keys_rps
theorem s_forD {tg : Expr} {body : List Stmt} {is : List Nat} {g : D → M Unit} (hp : PassesOwn (model X.prog X.w) X.A X.env X.xe) (hc : X.calm = true) (hx : PE X (.Name x p) (tVar i)) (hg : SG X tg is g) (hb : SSs X body m)
    (hs : ∀ y, foldedSetIterable (.Name x p) X.env y = pure y := by intro _; rfl) : SS X (.For tg (.Name x p) body [] pos) (sForD i g m) := ⟨fun B => PS.imp (ps_or (ps_lock (ps_for hp hc (pi_keys hx) hg.px hb.px hs)) (ps_for hp hc (pi_keys hx) hg.px hb.px hs)) fun Dn σ H ⟨s, o, s', k, e, q⟩ => by
  have go : ∀ (d : Addr) (u : HO) (ds : List D), σ[i]? = some (some (.ref d)) → H d = some u → DictO u → ¬ B.W s.env σ d → forM g m ds s = some (o, s') →
      ((∃ kvs : List (Key × V), u = .dK kvs ∧ ds = (kvs.map (·.1)).map keyD) ∨ (∃ kvs : List (List Key × V), u = .dT kvs ∧ ds = (kvs.map (·.1)).map keysD)) → tLock (tFor (iKeys (tVar i)) (tGx is g) (tSx m)) Dn σ H := fun d u ds h1 h2 du nW hf hk => by
    refine ⟨d, u, h2, by rcases du with ⟨_, rfl⟩ | ⟨_, rfl⟩ <;> exact True.intro, fun od => ?_⟩
    have hp1 : d ≠ B.p := fun z => nW (.inl (z ▸ k.wp))
    have hp2 : d ≠ B.c := fun z => nW (.inl (z ▸ k.wcc))
    have h0 : ∀ y, B.H0 d = some y → y = u := fun y hy => by
      have := k.keep d y hy hp1 hp2
      rw [h2] at this; cases this; rfl
    have kl := k.lock (o := od) h2 du nW
    have hlock : upd H d (.frz od u) d = some (.frz od u) := upd_same
    -- what follows, unlocked
    have un : ∀ {σ' : Sg} {H' : Hp}, StOk (B.lock d od u) σ' H' s' → Ev ((B.lock d od u).W s.env σ) (upd H d (.frz od u)) ((B.lock d od u).W s'.env σ') H' → H' d = some (.frz od u) ∧ StOk B σ' (upd H' d u) s' ∧ Ev (B.W s.env σ) H (B.W s'.env σ') (upd H' d u) := fun {σ' H'} k' ev' => by
      have hd : H' d = some (.frz od u) := k'.keep d _ upd_same hp1 hp2
      exact ⟨hd, k'.unlock hd hp1 hp2 (fun z => nW (.inl z)) h0, Ev.unlock (W := B.W s.env σ) h2 nW hd ev'⟩
    have post : Post (B.lock d od u) ⟨fun σ' H' => H' d = some (.frz od u) ∧ Dn.nx σ' (upd H' d u), fun v H' => H' d = some (.frz od u) ∧ Dn.rt v (upd H' d u), fun σ' H' => H' d = some (.frz od u) ∧ Dn.bk σ' (upd H' d u), fun σ' H' => H' d = some (.frz od u) ∧ Dn.ct σ' (upd H' d u)⟩ ((B.lock d od u).W s.env σ) (upd H d (.frz od u)) o s' := by
      cases o with
      | nx => exact fun σ' H' k' ev' => let ⟨z1, z2, z3⟩ := un k' ev'; ⟨z1, q σ' _ z2 z3⟩
      | brk => exact fun σ' H' k' ev' => let ⟨z1, z2, z3⟩ := un k' ev'; ⟨z1, q σ' _ z2 z3⟩
      | cnt => exact fun σ' H' k' ev' => let ⟨z1, z2, z3⟩ := un k' ev'; ⟨z1, q σ' _ z2 z3⟩
      | ret dv => exact fun v σ' H' k' ev' r => let ⟨z1, z2, z3⟩ := un k' ev'; ⟨z1, q v σ' _ z2 z3 (Rp.unlock z1 _ _ r)⟩
    refine ⟨_, h1, d, od, rfl, ?_⟩
    rcases hk with ⟨kvs, rfl, rfl⟩ | ⟨kvs, rfl, rfl⟩
    · exact .inl ⟨kvs, hlock, for_core kl (walk_keys hlock nW) hf post⟩
    · exact .inr ⟨kvs, hlock, for_core kl (walk_keysT hlock nW) hf post⟩
  unfold sForD at e
  split at e
  · rename_i ks ds hd
    obtain ⟨v, h1, h2⟩ := k.val i _ hd
    obtain ⟨a, kvs, rfl, nW, ha, rfl, rs⟩ := rp_dct h2
    rcases ha with ha | ⟨o', ha⟩
    · exact .inl (go a _ _ h1 ha (.inl ⟨_, rfl⟩) nW e (.inl ⟨kvs, rfl, rfl⟩))
    · exact .inr ⟨_, h1, a, o', rfl, .inl ⟨kvs, ha, for_core k (walk_keys ha nW) e q⟩⟩
  · rename_i ks ds hd
    obtain ⟨v, h1, h2⟩ := k.val i _ hd
    obtain ⟨a, kvs, rfl, nW, ha, rfl, rs⟩ := rp_dtt h2
    rcases ha with ha | ⟨o', ha⟩
    · exact .inl (go a _ _ h1 ha (.inr ⟨_, rfl⟩) nW e (.inr ⟨kvs, rfl, rfl⟩))
    · exact .inr ⟨_, h1, a, o', rfl, .inr ⟨kvs, ha, for_core k (walk_keysT ha nW) e q⟩⟩
  · cases e⟩
end
end GH

namespace GH
open PySem PySem.Spec PyProof.Rows L2

def eNw (mn : M Sl) : M D := eNew (bnd mn fun sl => if sl.isOwn = true then ret sl else fail)
theorem s_nw {X : Cx} {e : Expr} {mn : M Sl} (h : SN X e mn) : SE X e (eNw mn) := s_ofN h
section
variable {X : Cx} {a b : Expr} {pos : Pos} {ma mb : M D}
theorem t_din (hu : X.A.units + 1 < cLine) (ha : SE X a ma) (hb : SE X b mb) (hm : behindInMarks .In b = false := by rfl) : ST X (.Compare a [.In] [b] pos) (tst (eBin dinD ma mb)) :=
  ⟨fun B => PT.imp (pt_cmp (pc_din hu (ha.pe B) (hb.pe B)) hm) fun σ H Q ⟨s, b', s', k, e, q⟩ => by
    obtain ⟨d, s3, e0, e9⟩ := bnd_some e
    refine tI.bind k e0 fun dx s1 x H1 h1 e1 k1 ev1 r1 => ?_
    refine tI.bind k1 e1 fun dy s2 y H2 h2 e2 k2 ev2 r2 => ?_
    obtain ⟨e3, rfl⟩ := lift_some e2
    obtain ⟨ad, o, rfl, g, rfl⟩ := din_get e3 r2 (r1.ev ev2)
    obtain ⟨rfl, rfl⟩ := ret_some e9
    exact ⟨ad, o, rfl, g, _, rfl, q H2 k2 (ev1.trans ev2)⟩⟩
theorem t_dnin (hu : X.A.units + 1 < cLine) (ha : SE X a ma) (hb : SE X b mb) (hm : behindInMarks .NotIn b = false := by rfl) : ST X (.Compare a [.NotIn] [b] pos) (tst (eBin dninD ma mb)) :=
  ⟨fun B => PT.imp (pt_cmp (pc_dnotin hu (ha.pe B) (hb.pe B)) hm) fun σ H Q ⟨s, b', s', k, e, q⟩ => by
    obtain ⟨d, s3, e0, e9⟩ := bnd_some e
    refine tI.bind k e0 fun dx s1 x H1 h1 e1 k1 ev1 r1 => ?_
    refine tI.bind k1 e1 fun dy s2 y H2 h2 e2 k2 ev2 r2 => ?_
    obtain ⟨e3, rfl⟩ := lift_some e2
    obtain ⟨ad, o, rfl, g, rfl⟩ := dnin_get e3 r2 (r1.ev ev2)
    obtain ⟨rfl, rfl⟩ := ret_some e9
    exact ⟨ad, o, rfl, g, _, rfl, q H2 k2 (ev1.trans ev2)⟩⟩
end
def OwnB (sl : Sl) (P : Prop) (_ : Ph P := .mk) : Prop := sl.isOwn = true ∧ P
theorem ownB_L {ds : List D} {P : Prop} : OwnB (.own ds) P ↔ P := by simp [OwnB, Sl.isOwn]
theorem ownB_K {ks : List Key} {ds : List D} {P : Prop} : OwnB (.ownK ks ds) P ↔ P := by simp [OwnB, Sl.isOwn]
theorem ownB_T {ks : List (List Key)} {ds : List D} {P : Prop} : OwnB (.ownT ks ds) P ↔ P := by simp [OwnB, Sl.isOwn]
section
variable {s : S} {c : Src} {env : List (Option Sl)} {Q : D → S → Prop} {mb m : M D} {mn : M Sl}
theorem wp_ifOwn {α : Type} {sl : Sl} {x : α} {Q : α → S → Prop} : Wp (if sl.isOwn = true then ret x else fail) s Q ↔ OwnB sl (Q x s) := by
  unfold OwnB
  cases h : sl.isOwn
  · rw [if_neg (by simp), wp_fail]; simp
  · rw [if_pos rfl, wp_ret]; simp
theorem wp_nw : Wp (eNw mn) s Q ↔ Wp mn s fun sl s1 => OwnB sl (Q sl.bor s1) :=
  wp_bnd.trans (wp_bnd.trans (wp_cg fun _ _ => wp_ifOwn.trans ⟨fun ⟨h, q⟩ => ⟨h, wp_ret.mp q⟩, fun ⟨h, q⟩ => ⟨h, wp_ret.mpr q⟩⟩))
theorem wp_nK0 {Q : Sl → S → Prop} : Wp nK0 s Q ↔ Q (.ownK [] []) s := wp_eq rfl
theorem wp_nT0 {Q : Sl → S → Prop} : Wp nT0 s Q ↔ Q (.ownT [] []) s := wp_eq rfl
theorem wp_dpNil {Q : List (Key × D) → S → Prop} : Wp dpNil s Q ↔ Q [] s := wp_eq rfl
theorem wp_dpCons {mk mv : M D} {ms : M (List (Key × D))} {Q : List (Key × D) → S → Prop} : Wp (dpCons mk mv ms) s Q ↔ Wp mk s fun k s1 => Sm (dKey k) fun x => Wp mv s1 fun d s2 => Wp ms s2 fun r s3 => Q ((x, d) :: r) s3 :=
  wp_bnd.trans (wp_cg fun _ _ => wp_bnd.trans (wp_lift.trans (sm_cg fun _ => wp_bnd.trans (wp_cg fun _ _ => wp_bnd.trans (wp_cg fun _ _ => wp_ret)))))
theorem wp_nDisp {ms : M (List (Key × D))} {Q : Sl → S → Prop} : Wp (nDisp ms) s Q ↔ Wp ms s fun l s1 => l.length ≤ 15 ∧ Q (.ownK (mergeD l [] []).1 (mergeD l [] []).2) s1 := by
  refine wp_bnd.trans (wp_cg fun l s1 => ?_)
  by_cases h : l.length ≤ 15
  · rw [if_pos h, wp_ret]; simp [h]
  · rw [if_neg h, wp_fail]; simp [h]
theorem wp_ownN {i : Nat} {Q : Out → S → Prop} : Wp (sOwnN i mn) s Q ↔ Wp mn s fun sl s1 => OwnB sl (SetAt s1.env i (some sl) fun e => Q .nx ⟨e, s1.src⟩) := by
  refine wp_bnd.trans (wp_cg fun sl s1 => wp_bnd.trans ?_)
  unfold OwnB SetAt
  by_cases h : i < s1.env.length ∧ sl.isOwn = true
  · rw [wp_eq (show oNS i sl s1 = some ((), ⟨s1.env.set i (some sl), s1.src⟩) by unfold oNS; rw [if_pos h]), wp_ret]
    simp [h.1, h.2]
  · constructor
    · rintro ⟨_, _, e, _⟩; unfold oNS at e; rw [if_neg h] at e; cases e
    · rintro ⟨z1, z2, _⟩; exact absurd ⟨z2, z1⟩ h
theorem wp_pOwnN {ms : M (List Sl)} {Q : List Sl → S → Prop} : Wp (pOwnN mn ms) s Q ↔ Wp mn s fun sl s1 => OwnB sl (Wp ms s1 fun r s2 => Q (sl :: r) s2) := by
  refine wp_bnd.trans (wp_cg fun sl s1 => wp_bnd.trans ?_)
  exact wp_ifOwn.trans ⟨fun ⟨h, q⟩ => ⟨h, (wp_bnd.trans (wp_cg fun _ _ => wp_ret)).mp q⟩, fun ⟨h, q⟩ => ⟨h, (wp_bnd.trans (wp_cg fun _ _ => wp_ret)).mpr q⟩⟩
theorem wp_dgO {i : Nat} : Wp (eDgO i mb) ⟨env, c⟩ Q ↔ SlAt env i fun _ => Wp mb ⟨env, c⟩ fun d s1 => SlAt s1.env i fun sl => Sm (dgD sl.bor d) fun y => Q y s1 := by
  constructor
  · rintro ⟨a, s', e, q⟩
    unfold eDgO at e
    split at e
    · rename_i sl0 h0
      refine ⟨sl0, h0, ?_⟩
      obtain ⟨d, s1, e1, e2⟩ := bnd_some e
      refine ⟨d, s1, e1, ?_⟩
      split at e2
      · rename_i sl h1
        split at e2
        · rename_i y hy; cases e2; exact ⟨sl, h1, _, hy, q⟩
        · cases e2
      · cases e2
    · cases e
  · rintro ⟨sl0, h0, d, s1, e1, sl, h1, y, hy, q⟩
    refine ⟨y, s1, ?_, q⟩
    unfold eDgO
    rw [show (⟨env, c⟩ : S).env[i]? = some (some sl0) from h0]
    refine (bnd_eq e1).trans ?_
    show (match s1.env[i]? with | some (some sl) => (match dgD sl.bor d with | some y => some (y, s1) | none => none) | _ => none) = _
    rw [h1]
    show (match dgD sl.bor d with | some y => some (y, s1) | none => none) = _
    rw [hy]
/-- an own dict's slot -/
def Own2At (env : List (Option Sl)) (i : Nat) (P : Prop) (_ : Ph P := .mk) : Prop := (∃ sl : Sl, env[i]? = some (some sl) ∧ ((∃ ks ds, sl = .ownK ks ds) ∨ ∃ ks ds, sl = .ownT ks ds)) ∧ P
theorem own2_K {ks : List Key} {ds : List D} {r : List (Option Sl)} {P : Prop} : Own2At (some (.ownK ks ds) :: r) 0 P ↔ P := by simp [Own2At]
theorem own2_T {ks : List (List Key)} {ds : List D} {r : List (Option Sl)} {P : Prop} : Own2At (some (.ownT ks ds) :: r) 0 P ↔ P := by simp [Own2At]
theorem own2_s {x : Option Sl} {r : List (Option Sl)} {i : Nat} {P : Prop} : Own2At (x :: r) (i + 1) P ↔ Own2At r i P := by unfold Own2At; simp only [List.getElem?_cons_succ]
theorem wp_here2 {i : Nat} {Q : Unit → S → Prop} : Wp (ownHere2 i) ⟨env, c⟩ Q ↔ Own2At env i (Q () ⟨env, c⟩) := by
  constructor
  · rintro ⟨a, s', e, q⟩
    unfold ownHere2 at e
    split at e
    · rename_i hd; cases e; exact ⟨⟨_, hd, .inl ⟨_, _, rfl⟩⟩, q⟩
    · rename_i hd; cases e; exact ⟨⟨_, hd, .inr ⟨_, _, rfl⟩⟩, q⟩
    · cases e
  · rintro ⟨⟨sl, h, ⟨ks, ds, rfl⟩ | ⟨ks, ds, rfl⟩⟩, q⟩
    · exact ⟨(), _, by unfold ownHere2; rw [h], q⟩
    · exact ⟨(), _, by unfold ownHere2; rw [h], q⟩
/-- a store in an own dict -/
def PutAt (env : List (Option Sl)) (i : Nat) (k d : D) (P : List (Option Sl) → Prop) (_ : Ph P := .mk) : Prop :=
  (∃ ks ds x, env[i]? = some (some (.ownK ks ds)) ∧ dKey k = some x ∧ ks.length < 16777216 ∧ P (env.set i (some (.ownK (kPutK ks x) (kPutD ks ds x d))))) ∨
  (∃ ks ds x, env[i]? = some (some (.ownT ks ds)) ∧ dKeys k = some x ∧ ks.length < 16777216 ∧ P (env.set i (some (.ownT (kPutK ks x) (kPutD ks ds x d)))))
theorem wp_putD {i : Nat} {k d : D} {Q : Unit → S → Prop} : Wp (putD i k d) ⟨env, c⟩ Q ↔ PutAt env i k d fun e => Q () ⟨e, c⟩ := by
  have hsz : sizeLine = 16777216 := sizeLine_eq
  constructor
  · rintro ⟨a, s', e, q⟩
    unfold putD at e
    split at e
    · rename_i ks ds h
      split at e
      · rename_i x hx
        split at e
        · rename_i hl; cases e; exact .inl ⟨ks, ds, x, h, hx, by rw [← hsz]; exact hl, q⟩
        · cases e
      · cases e
    · rename_i ks ds h
      split at e
      · rename_i x hx
        split at e
        · rename_i hl; cases e; exact .inr ⟨ks, ds, x, h, hx, by rw [← hsz]; exact hl, q⟩
        · cases e
      · cases e
    · cases e
  · rintro (⟨ks, ds, x, h, hx, hl, q⟩ | ⟨ks, ds, x, h, hx, hl, q⟩)
    · refine ⟨(), _, ?_, q⟩
      unfold putD
      rw [h]
      show (match dKey k with | some x => if ks.length < sizeLine then some ((), (⟨env.set i (some (.ownK (kPutK ks x) (kPutD ks ds x d))), c⟩ : S)) else none | none => none) = _
      rw [hx]
      show (if ks.length < sizeLine then some ((), (⟨env.set i (some (.ownK (kPutK ks x) (kPutD ks ds x d))), c⟩ : S)) else none) = _
      rw [if_pos (by rw [hsz]; exact hl)]
    · refine ⟨(), _, ?_, q⟩
      unfold putD
      rw [h]
      show (match dKeys k with | some x => if ks.length < sizeLine then some ((), (⟨env.set i (some (.ownT (kPutK ks x) (kPutD ks ds x d))), c⟩ : S)) else none | none => none) = _
      rw [hx]
      show (if ks.length < sizeLine then some ((), (⟨env.set i (some (.ownT (kPutK ks x) (kPutD ks ds x d))), c⟩ : S)) else none) = _
      rw [if_pos (by rw [hsz]; exact hl)]
theorem putAt_s {x : Option Sl} {r : List (Option Sl)} {i : Nat} {k d : D} {P : List (Option Sl) → Prop} : PutAt (x :: r) (i + 1) k d P ↔ PutAt r i k d fun r' => P (x :: r') := by
  unfold PutAt; simp only [List.getElem?_cons_succ, List.set_cons_succ]
theorem putAt_K {ks : List Key} {ds : List D} {r : List (Option Sl)} {k d : D} {P : List (Option Sl) → Prop} : PutAt (some (.ownK ks ds) :: r) 0 k d P ↔ Sm (dKey k) fun x => ks.length < 16777216 ∧ P (some (.ownK (kPutK ks x) (kPutD ks ds x d)) :: r) := by
  constructor
  · rintro (⟨ks, ds, x, h, hx, hl, q⟩ | ⟨ks, ds, x, h, hx, hl, q⟩)
    · cases h; exact ⟨x, hx, hl, q⟩
    · cases h
  · rintro ⟨x, hx, hl, q⟩; exact .inl ⟨ks, ds, x, rfl, hx, hl, q⟩
theorem putAt_T {ks : List (List Key)} {ds : List D} {r : List (Option Sl)} {k d : D} {P : List (Option Sl) → Prop} : PutAt (some (.ownT ks ds) :: r) 0 k d P ↔ Sm (dKeys k) fun x => ks.length < 16777216 ∧ P (some (.ownT (kPutK ks x) (kPutD ks ds x d)) :: r) := by
  constructor
  · rintro (⟨ks, ds, x, h, hx, hl, q⟩ | ⟨ks, ds, x, h, hx, hl, q⟩)
    · cases h
    · cases h; exact ⟨x, hx, hl, q⟩
  · rintro ⟨x, hx, hl, q⟩; exact .inr ⟨ks, ds, x, rfl, hx, hl, q⟩
theorem wp_sPutD {i : Nat} {mv mk : M D} {Q : Out → S → Prop} : Wp (sPutD i mv mk) s Q ↔ Wp mv s fun d s1 => Wp (ownHere2 i) s1 fun _ s2 => Wp mk s2 fun k s3 => Wp (putD i k d) s3 fun _ s4 => Q .nx s4 :=
  wp_bnd.trans (wp_cg fun _ _ => wp_bnd.trans (wp_cg fun _ _ => wp_bnd.trans (wp_cg fun _ _ => wp_bnd.trans (wp_cg fun _ _ => wp_ret))))
theorem sm_keyI {i : Int} {P : Key → Prop} : Sm (dKey (.int i)) P ↔ P (.inl i) := sm_some
theorem sm_keyS {i : Str} {P : Key → Prop} : Sm (dKey (.str i)) P ↔ P (.inr i) := sm_some
theorem dKeyL_ints : ∀ xs : List Int, dKeyL (xs.map D.int) = some (xs.map Sum.inl)
  | [] => rfl
  | x :: r => by rw [List.map_cons, dKeyL, dKeyL_ints r]; rfl
theorem sm_keysT {xs : List Int} {P : List Key → Prop} : Sm (dKeys (.tup (xs.map D.int))) P ↔ P (xs.map Sum.inl) := sm_eq (dKeyL_ints xs)
theorem sm_dgK {ks : List Key} {ds : List D} {k : D} {P : D → Prop} : Sm (dgD (.dct ks ds) k) P ↔ Sm (dKey k) fun x => Sm (kGet ks ds x) P := sm_bind
theorem sm_dgT {ks : List (List Key)} {ds : List D} {k : D} {P : D → Prop} : Sm (dgD (.dtt ks ds) k) P ↔ Sm (dKeys k) fun x => Sm (kGet ks ds x) P := sm_bind
theorem sm_dinK {ks : List Key} {ds : List D} {k : D} {P : D → Prop} : Sm (dinD k (.dct ks ds)) P ↔ Sm (dKey k) fun x => P (.bl (kGet ks ds x).isSome) := sm_map
theorem sm_dinT {ks : List (List Key)} {ds : List D} {k : D} {P : D → Prop} : Sm (dinD k (.dtt ks ds)) P ↔ Sm (dKeys k) fun x => P (.bl (kGet ks ds x).isSome) := sm_map
theorem sm_dninK {ks : List Key} {ds : List D} {k : D} {P : D → Prop} : Sm (dninD k (.dct ks ds)) P ↔ Sm (dKey k) fun x => P (.bl (!(kGet ks ds x).isSome)) := sm_map
theorem sm_dninT {ks : List (List Key)} {ds : List D} {k : D} {P : D → Prop} : Sm (dninD k (.dtt ks ds)) P ↔ Sm (dKeys k) fun x => P (.bl (!(kGet ks ds x).isSome)) := sm_map
/-- for k in d -/
def DctAt (env : List (Option Sl)) (i : Nat) (P : List D → Prop) (_ : Ph P := .mk) : Prop := (∃ ks ds, env[i]? = some (some (.val (.dct ks ds))) ∧ P (ks.map keyD)) ∨ (∃ ks ds, env[i]? = some (some (.val (.dtt ks ds))) ∧ P (ks.map keysD))
theorem dctAt_K {ks : List Key} {ds : List D} {r : List (Option Sl)} {P : List D → Prop} : DctAt (some (.val (.dct ks ds)) :: r) 0 P ↔ P (ks.map keyD) := by
  constructor
  · rintro (⟨_, _, e, p⟩ | ⟨_, _, e, p⟩) <;> cases e; exact p
  · exact fun p => .inl ⟨ks, ds, rfl, p⟩
theorem dctAt_T {ks : List (List Key)} {ds : List D} {r : List (Option Sl)} {P : List D → Prop} : DctAt (some (.val (.dtt ks ds)) :: r) 0 P ↔ P (ks.map keysD) := by
  constructor
  · rintro (⟨_, _, e, p⟩ | ⟨_, _, e, p⟩) <;> cases e; exact p
  · exact fun p => .inr ⟨ks, ds, rfl, p⟩
theorem dctAt_s {x : Option Sl} {r : List (Option Sl)} {i : Nat} {P : List D → Prop} : DctAt (x :: r) (i + 1) P ↔ DctAt r i P := by unfold DctAt; simp only [List.getElem?_cons_succ]
theorem wp_forD {i : Nat} {g : D → M Unit} {b : M Out} {Q : Out → S → Prop} : Wp (sForD i g b) ⟨env, c⟩ Q ↔ DctAt env i fun ds => Wp (forM g b ds) ⟨env, c⟩ Q := by
  constructor
  · rintro ⟨o, s', e, q⟩
    unfold sForD at e
    split at e
    · rename_i h; exact .inl ⟨_, _, h, _, _, e, q⟩
    · rename_i h; exact .inr ⟨_, _, h, _, _, e, q⟩
    · cases e
  · rintro (⟨_, _, h, o, s', e, q⟩ | ⟨_, _, h, o, s', e, q⟩)
    · exact ⟨o, s', by unfold sForD; rw [h]; exact e, q⟩
    · exact ⟨o, s', by unfold sForD; rw [h]; exact e, q⟩
end
section
variable {α : Type}
/-- its keys, its values -/
def dks (l : List (Int × α)) : List Key := l.map fun p => .inl p.1
def dvs (f : α → D) (l : List (Int × α)) : List D := l.map fun p => f p.2
def lkp : List (Int × α) → Int → Option α
  | [], _ => none
  | p :: r, k => if p.1 = k then some p.2 else lkp r k
def stp : List (Int × α) → Int → α → List (Int × α)
  | [], k, v => [(k, v)]
  | p :: r, k, v => if p.1 = k then (k, v) :: r else p :: stp r k v
theorem by_contra' {p : Prop} (h : ¬ p → False) : p := Classical.byContradiction h
theorem kGet_lkp (f : α → D) (l : List (Int × α)) (k : Int) : kGet (dks l) (dvs f l) (.inl k) = (lkp l k).map f := by
  induction l with
  | nil => rfl
  | cons p r ih =>
    show (if (Sum.inl p.1 : Key) = Sum.inl k then some (f p.2) else kGet (dks r) (dvs f r) (.inl k)) = _
    unfold lkp
    by_cases h : p.1 = k
    · rw [if_pos (by rw [h]), if_pos h]; rfl
    · rw [if_neg (fun z => h (Sum.inl.inj z)), if_neg h]; exact ih
theorem lkp_none {l : List (Int × α)} {k : Int} : lkp l k = none ↔ k ∉ l.map (·.1) := by
  induction l with
  | nil => simp [lkp]
  | cons p r ih =>
    unfold lkp
    by_cases h : p.1 = k
    · simp [h]
    · have : ¬ k = p.1 := fun z => h z.symm
      simp [h, ih, this]
theorem mem_dks {l : List (Int × α)} {k : Int} : (.inl k : Key) ∈ dks l ↔ k ∈ l.map (·.1) := by
  unfold dks; simp
theorem stp_new {l : List (Int × α)} {k : Int} {v : α} (h : k ∉ l.map (·.1)) : stp l k v = l ++ [(k, v)] := by
  induction l with
  | nil => rfl
  | cons p r ih =>
    simp at h
    unfold stp
    rw [if_neg (fun z => h.1 z.symm), ih (by simpa using h.2)]; rfl
theorem put_new {l : List (Int × α)} {k : Int} {v : α} {f : α → D} (h : k ∉ l.map (·.1)) : kPutK (dks l) (.inl k) = dks (l ++ [(k, v)]) ∧ kPutD (dks l) (dvs f l) (.inl k) (f v) = dvs f (l ++ [(k, v)]) := by
  have : ¬ (.inl k : Key) ∈ dks l := fun z => h (mem_dks.mp z)
  unfold kPutK kPutD
  rw [if_neg this, if_neg this]
  simp [dks, dvs]
theorem dctAt_KI {l : List (Int × α)} {ds : List D} {r : List (Option Sl)} {P : List D → Prop} : DctAt (some (.val (.dct (dks l) ds)) :: r) 0 P ↔ P ((l.map (·.1)).map D.int) := by
  rw [dctAt_K]; unfold dks; rw [List.map_map, List.map_map]; rfl
theorem put_stp {l : List (Int × α)} {k : Int} {v : α} {f : α → D} (hn : (l.map (·.1)).Nodup) : kPutK (dks l) (.inl k) = dks (stp l k v) ∧ kPutD (dks l) (dvs f l) (.inl k) (f v) = dvs f (stp l k v) := by
  by_cases h : k ∈ l.map (·.1)
  · have hk : (.inl k : Key) ∈ dks l := mem_dks.mpr h
    unfold kPutK kPutD
    rw [if_pos hk, if_pos hk]
    clear hk
    induction l with
    | nil => simp at h
    | cons p r ih =>
      rw [List.map_cons, List.nodup_cons] at hn
      by_cases e : p.1 = k
      · subst e
        have : stp (p :: r) p.1 v = (p.1, v) :: r := by unfold stp; rw [if_pos rfl]
        rw [this]
        refine ⟨rfl, ?_⟩
        show (if (Sum.inl p.1 : Key) = Sum.inl p.1 then f v else f p.2) :: kRep (dks r) (dvs f r) (.inl p.1) (f v) = f v :: dvs f r
        rw [if_pos rfl]
        congr 1
        have nin : p.1 ∉ r.map (·.1) := hn.1
        clear ih h hn this
        induction r with
        | nil => rfl
        | cons q t ih =>
          simp at nin
          show (if (Sum.inl q.1 : Key) = Sum.inl p.1 then f v else f q.2) :: kRep (dks t) (dvs f t) (.inl p.1) (f v) = f q.2 :: dvs f t
          rw [if_neg (fun z => nin.1 (Sum.inl.inj z).symm), ih (by simpa using nin.2)]
      · have h' : k ∈ r.map (·.1) := by
          rw [List.map_cons] at h
          rcases List.mem_cons.mp h with z | z
          · exact absurd z.symm e
          · exact z
        have : stp (p :: r) k v = p :: stp r k v := by
          show (if p.1 = k then _ else _) = _
          rw [if_neg e]
        rw [this]
        obtain ⟨i1, i2⟩ := ih hn.2 h'
        refine ⟨by show Sum.inl p.1 :: dks r = Sum.inl p.1 :: dks (stp r k v); rw [← i1], ?_⟩
        show (if (Sum.inl p.1 : Key) = Sum.inl k then f v else f p.2) :: kRep (dks r) (dvs f r) (.inl k) (f v) = f p.2 :: dvs f (stp r k v)
        rw [if_neg (fun z => e (Sum.inl.inj z)), i2]
  · rw [stp_new h]; exact put_new h
theorem lkp_stp {l : List (Int × α)} {k j : Int} {v : α} : lkp (stp l k v) j = if j = k then some v else lkp l j := by
  induction l with
  | nil =>
    show (if k = j then some v else none) = _
    by_cases h : j = k
    · rw [if_pos h, if_pos h.symm]
    · rw [if_neg h, if_neg (fun z => h z.symm)]; rfl
  | cons p r ih =>
    unfold stp
    by_cases e : p.1 = k
    · rw [if_pos e]
      show (if k = j then some v else lkp r j) = _
      by_cases h : j = k
      · rw [if_pos h, if_pos h.symm]
      · rw [if_neg h, if_neg (fun z => h z.symm)]
        show _ = if p.1 = j then some p.2 else lkp r j
        rw [if_neg (fun z => h (z.symm.trans e))]
    · rw [if_neg e]
      show (if p.1 = j then some p.2 else lkp (stp r k v) j) = _
      rw [ih]
      show _ = if j = k then some v else if p.1 = j then some p.2 else lkp r j
      by_cases h : j = k
      · subst h; rw [if_neg e, if_pos rfl, if_pos rfl]
      · rw [if_neg h, if_neg h]
theorem stp_keys {l : List (Int × α)} {k j : Int} {v : α} : j ∈ (stp l k v).map (·.1) ↔ j = k ∨ j ∈ l.map (·.1) := by
  have h1 := lkp_none (l := stp l k v) (k := j)
  rw [lkp_stp] at h1
  by_cases h : j = k
  · rw [if_pos h] at h1
    constructor
    · exact fun _ => .inl h
    · intro _
      exact by_contra' fun z => by have := h1.mpr z; cases this
  · rw [if_neg h, lkp_none] at h1
    constructor
    · intro z
      exact .inr (by_contra' fun y => h1.mp y z)
    · rintro (z | z)
      · exact absurd z h
      · exact by_contra' fun y => h1.mpr y z
theorem stp_nodup {l : List (Int × α)} {k : Int} {v : α} (h : (l.map (·.1)).Nodup) : ((stp l k v).map (·.1)).Nodup := by
  induction l with
  | nil => simp [stp]
  | cons p r ih =>
    rw [List.map_cons, List.nodup_cons] at h
    unfold stp
    by_cases e : p.1 = k
    · rw [if_pos e, List.map_cons, List.nodup_cons]
      exact ⟨by rw [← e]; exact h.1, h.2⟩
    · rw [if_neg e, List.map_cons, List.nodup_cons]
      refine ⟨fun z => ?_, ih h.2⟩
      rcases stp_keys.mp z with y | y
      · exact e y
      · exact h.1 y
theorem lkp_of {l : List (Int × α)} {p : Int × α} (h : (l.map (·.1)).Nodup) (hp : p ∈ l) : lkp l p.1 = some p.2 := by
  induction l with
  | nil => simp at hp
  | cons q r ih =>
    rw [List.map_cons, List.nodup_cons] at h
    rcases List.mem_cons.mp hp with z | z
    · subst z; unfold lkp; rw [if_pos rfl]
    · unfold lkp
      rw [if_neg fun y => h.1 (List.mem_map.mpr ⟨p, z, y.symm⟩)]
      exact ih h.2 z
theorem lkp_isSome {l : List (Int × α)} {k : Int} : (lkp l k).isSome = decide (k ∈ l.map (·.1)) := by
  cases h : lkp l k with
  | none => rw [decide_eq_false (lkp_none.mp h)]; rfl
  | some v => rw [decide_eq_true (by_contra' fun z => by rw [lkp_none.mpr z] at h; cases h)]; rfl
theorem dks_len {l : List (Int × α)} : (dks l).length = l.length := by simp [dks]
theorem dks_keyD {l : List (Int × α)} : (dks l).map keyD = (l.map (·.1)).map D.int := by
  unfold dks; simp [keyD]
end
theorem okN_ints (xs : List Int) : (D.lst (xs.map D.int)).okN 1 := D.okN_lst (n := 0) fun d hd => by
  obtain ⟨x, _, rfl⟩ := List.mem_map.mp hd
  exact D.okN_int x
theorem okN_intsT (xs : List Int) : (D.tup (xs.map D.int)).okN 1 := D.okN_tup (n := 0) fun d hd => by
  obtain ⟨x, _, rfl⟩ := List.mem_map.mp hd
  exact D.okN_int x
theorem okN_mono {n k : Nat} {d : D} (h : d.okN n) (hk : n ≤ k) : d.okN k := ⟨h.1, Nat.le_trans h.2 hk⟩
theorem map_int_inj {a b : List Int} : a.map D.int = b.map D.int ↔ a = b := by
  constructor
  · intro h
    induction a generalizing b with
    | nil => cases b with
      | nil => rfl
      | cons y t => simp at h
    | cons x r ih => cases b with
      | nil => simp at h
      | cons y t =>
        rw [List.map_cons, List.map_cons] at h
        injection h with h1 h2
        injection h1 with h1
        rw [h1, ih h2]
  · exact fun h => by rw [h]
theorem sm_eqNilL {ds : List D} {P : D → Prop} (h : (D.lst ds).ok) : Sm (eqD (.lst ds) (.lst [])) P ↔ P (.bl (decide (ds = []))) := sm_eqG h (D.okN_lst (n := 0) (ds := []) (by simp)).ok (by simp)
theorem sm_neNilL {ds : List D} {P : D → Prop} (h : (D.lst ds).ok) : Sm (neD (.lst ds) (.lst [])) P ↔ P (.bl (!decide (ds = []))) := sm_neG h (D.okN_lst (n := 0) (ds := []) (by simp)).ok (by simp)
theorem sm_eqNilT {ds : List D} {P : D → Prop} (h : (D.tup ds).ok) : Sm (eqD (.tup ds) (.tup [])) P ↔ P (.bl (decide (ds = []))) := sm_eqG h (D.okN_tup (n := 0) (ds := []) (by simp)).ok (by simp)
theorem sm_neNilT {ds : List D} {P : D → Prop} (h : (D.tup ds).ok) : Sm (neD (.tup ds) (.tup [])) P ↔ P (.bl (!decide (ds = []))) := sm_neG h (D.okN_tup (n := 0) (ds := []) (by simp)).ok (by simp)
theorem sm_eqNilI {xs : List Int} {P : D → Prop} : Sm (eqD (.lst (xs.map D.int)) (.lst [])) P ↔ P (.bl (decide (xs = []))) := sm_eqG (okN_ints xs).ok (D.okN_lst (n := 0) (ds := []) (by simp)).ok (by simp)
theorem sm_neNilI {xs : List Int} {P : D → Prop} : Sm (neD (.lst (xs.map D.int)) (.lst [])) P ↔ P (.bl (!decide (xs = []))) := sm_neG (okN_ints xs).ok (D.okN_lst (n := 0) (ds := []) (by simp)).ok (by simp)
theorem sm_eqIL {xs ys : List Int} {P : D → Prop} : Sm (eqD (.lst (xs.map D.int)) (.lst (ys.map D.int))) P ↔ P (.bl (decide (xs = ys))) := sm_eqG (okN_ints xs).ok (okN_ints ys).ok (by rw [D.lst.injEq, map_int_inj])
theorem sm_neIL {xs ys : List Int} {P : D → Prop} : Sm (neD (.lst (xs.map D.int)) (.lst (ys.map D.int))) P ↔ P (.bl (!decide (xs = ys))) := sm_neG (okN_ints xs).ok (okN_ints ys).ok (by rw [D.lst.injEq, map_int_inj])
theorem sm_eqIT {xs ys : List Int} {P : D → Prop} : Sm (eqD (.tup (xs.map D.int)) (.tup (ys.map D.int))) P ↔ P (.bl (decide (xs = ys))) := sm_eqG (okN_intsT xs).ok (okN_intsT ys).ok (by rw [D.tup.injEq, map_int_inj])
theorem sm_neIT {xs ys : List Int} {P : D → Prop} : Sm (neD (.tup (xs.map D.int)) (.tup (ys.map D.int))) P ↔ P (.bl (!decide (xs = ys))) := sm_neG (okN_intsT xs).ok (okN_intsT ys).ok (by rw [D.tup.injEq, map_int_inj])
/-- equal things -/
theorem sm_eqS {d : D} {P : D → Prop} (h : d.ok) : Sm (eqD d d) P ↔ P (.bl true) := sm_eq (eqD_same h)
theorem sm_neS {d : D} {P : D → Prop} (h : d.ok) : Sm (neD d d) P ↔ P (.bl false) := sm_eq (neD_same h)
theorem sm_pop0 {d : D} {ds : List D} {P : D × List D → Prop} : Sm (popAtL (.int 0) (d :: ds)) P ↔ ds.length + 1 ≤ 16777216 ∧ P (d, ds) := by
  show Sm ((ixN (d :: ds).length 0).bind fun n => if (d :: ds).length ≤ sizeLine then (d :: ds)[n]?.map fun y => (y, (d :: ds).eraseIdx n) else none) P ↔ _
  have : ixN (d :: ds).length 0 = some 0 := by unfold ixN; rw [if_pos (by decide), if_pos (by simp <;> omega)]; rfl
  rw [this]
  show Sm (if (d :: ds).length ≤ sizeLine then some (d, ds) else none) P ↔ _
  rw [sm_ite, sm_some, sizeLine_eq]; rfl
/-- a place between two statements -/
theorem wp_mid {a b : M Out} {s : S} {Q : Out → S → Prop} (R : S → Prop) (h : Wp a s fun o s1 => o = .nx ∧ R s1) (h2 : ∀ s1, R s1 → Wp b s1 Q) : Wp (sSeq a b) s Q :=
  wp_seq.mpr (h.mono fun o s1 ⟨e, r⟩ => by subst e; exact h2 s1 r)
theorem nx_eq {p : Prop} : ((Out.nx = Out.nx) ∧ p) ↔ p := by simp
theorem out_nx : (Out.nx = Out.nx) ↔ True := by simp
end GH

namespace GH
open PySem PySem.Spec PyProof.Rows L2

theorem le_int (a b : Int) : PySem.W.dataLe false D.py (.int a) (.int b) = decide (a ≤ b) := by
  have e : PySem.W.dataLe false D.py (.int a) (.int b) = !(PyProof.Rows.lexLt PyProof.Rows.itemOrd [.inl b] [.inl a]) := by
    simp [PySem.W.dataLe, PySem.W.sortLe, D.py, PySem.W.keyToks]
  rw [e]
  have : PyProof.Rows.lexLt PyProof.Rows.itemOrd [.inl b] [.inl a] = (decide (b < a) || (!decide (a < b) && false)) := by
    rw [PyProof.Rows.lex_cons]; rfl
  rw [this]
  by_cases h : a ≤ b
  · have : ¬ b < a := by omega
    simp [h, this]
  · have : b < a := by omega
    simp [h, this]
def leI (a b : Int) : Bool := decide (a ≤ b)
def isort (xs : List Int) : List Int := xs.mergeSort leI
theorem isort_perm (xs : List Int) : (isort xs).Perm xs := List.mergeSort_perm ..
theorem isort_le (xs : List Int) : (isort xs).Pairwise (· ≤ ·) := by
  have := List.pairwise_mergeSort (le := leI) (fun a b c h1 h2 => by simp [leI] at *; omega) (fun a b => by simp [leI]; omega) xs
  exact this.imp fun h => by simpa [leI] using h
theorem isort_eq {xs ys : List Int} (h : ys.Perm xs) (p : ys.Pairwise (· ≤ ·)) : isort xs = ys :=
  List.Perm.eq_of_pairwise (fun a b _ _ h1 h2 => by omega) (isort_le xs) p ((isort_perm xs).trans h.symm)
theorem alike_int (a b : Int) : PySem.W.alike (.int a) (.int b) = true := by simp [PySem.W.alike]
theorem okSort_int (xs : List Int) : okSort (D.pys (xs.map D.int)) = true := by
  have mem : ∀ p ∈ D.pys (xs.map D.int), ∃ x : Int, p = .int x := fun p hp => by
    rw [pys_map, List.map_map] at hp
    obtain ⟨v, hv, rfl⟩ := List.mem_map.mp hp
    exact ⟨v, rfl⟩
  unfold okSort
  simp only [Bool.and_eq_true, Bool.or_eq_true]
  refine ⟨⟨⟨List.all_eq_true.mpr fun a ha => List.all_eq_true.mpr fun b hb => ?_, .inr (List.all_eq_true.mpr fun a ha => ?_)⟩, List.all_eq_true.mpr fun a ha => ?_⟩, ?_⟩
  · obtain ⟨v, rfl⟩ := mem a ha
    obtain ⟨u, rfl⟩ := mem b hb
    exact alike_int v u
  · obtain ⟨v, rfl⟩ := mem a ha; rfl
  · obtain ⟨v, rfl⟩ := mem a ha; simp [PyData.depth]
  · exact D.niceAll_can _ (niceAll_of fun d hd => by
      obtain ⟨x, _, rfl⟩ := List.mem_map.mp hd; rfl)
theorem sm_srtI {xs : List Int} {P : List D → Prop} : Sm (srtG [.lst (xs.map D.int)]) P ↔ xs.length ≤ 16777216 ∧ P ((isort xs).map D.int) := by
  show Sm (if okSort (D.pys (xs.map D.int)) = true ∧ (xs.map D.int).length ≤ sizeLine then some ((xs.map D.int).mergeSort (PySem.W.dataLe false D.py)) else none) P ↔ _
  rw [sm_ite, sm_some, sizeLine_eq, List.length_map]
  have : (xs.map D.int).mergeSort (PySem.W.dataLe false D.py) = (isort xs).map D.int :=
    (List.map_mergeSort fun a _ b _ => (le_int a b).symm).symm
  rw [this]
  simp [okSort_int]

def ltT : List Int → List Int → Bool
  | [], [] => false
  | [], _ :: _ => true
  | _ :: _, [] => false
  | x :: r, y :: t => decide (x < y) || (decide (x = y) && ltT r t)
theorem lex_ints : ∀ (a b : List Int), PyProof.Rows.lexLt PyProof.Rows.itemOrd (PySem.W.keyToksAll (D.pys (a.map D.int))) (PySem.W.keyToksAll (D.pys (b.map D.int))) = ltT a b
  | [], [] => by
    simp only [List.map_nil, D.pys, PySem.W.keyToksAll]
    exact PyProof.Rows.lex_irrefl _
  | [], y :: t => by
    simp only [List.map_nil, List.map_cons, D.pys, PySem.W.keyToksAll]
    rw [PyProof.Rows.lex_cons]; rfl
  | x :: r, [] => by
    simp only [List.map_nil, List.map_cons, D.pys, PySem.W.keyToksAll]
    rw [PyProof.Rows.lex_cons]; rfl
  | x :: r, y :: t => by
    simp only [List.map_cons, D.pys, PySem.W.keyToksAll, D.py, PySem.W.keyToks]
    rw [PyProof.Rows.lex_cons]
    show (false || (!false && PyProof.Rows.lexLt PyProof.Rows.itemOrd (Sum.inl x :: PySem.W.keyToksAll (D.pys (r.map D.int))) (Sum.inl y :: PySem.W.keyToksAll (D.pys (t.map D.int))))) = _
    rw [PyProof.Rows.lex_cons, lex_ints r t]
    show (false || (!false && (decide (x < y) || (!decide (y < x) && ltT r t)))) = (decide (x < y) || (decide (x = y) && ltT r t))
    by_cases h : x < y
    · simp [h]
    · by_cases h2 : x = y
      · subst h2; simp
      · have : y < x := by omega
        simp [h, h2, this]
def leT (a b : List Int) : Bool := !ltT b a
def eT (v : List Int) : D := .tup (v.map D.int)
theorem le_tup (a b : List Int) : PySem.W.dataLe false D.py (eT a) (eT b) = leT a b := by
  have e : PySem.W.dataLe false D.py (eT a) (eT b) = !(PyProof.Rows.lexLt PyProof.Rows.itemOrd (PySem.W.keyToksAll (D.pys (b.map D.int))) (PySem.W.keyToksAll (D.pys (a.map D.int)))) := by
    simp [PySem.W.dataLe, PySem.W.sortLe, D.py, PySem.W.keyToks, eT]
  rw [e, lex_ints]; rfl
theorem ltT_irr : ∀ a : List Int, ltT a a = false
  | [] => rfl
  | x :: r => by simp [ltT, ltT_irr r]
theorem ltT_tri : ∀ a b : List Int, ltT a b = false → ltT b a = false → a = b
  | [], [], _, _ => rfl
  | [], _ :: _, h, _ => by simp [ltT] at h
  | _ :: _, [], _, h => by simp [ltT] at h
  | x :: r, y :: t, h1, h2 => by
    simp [ltT] at h1 h2
    have : x = y := by omega
    subst this
    rw [ltT_tri r t (h1.2 rfl) (h2.2 rfl)]
theorem ltT_trans : ∀ a b c : List Int, ltT a b = true → ltT b c = true → ltT a c = true
  | [], [], _, h, _ => by simp [ltT] at h
  | [], _ :: _, [], _, h => by simp [ltT] at h
  | [], _ :: _, _ :: _, _, _ => rfl
  | _ :: _, [], _, h, _ => by simp [ltT] at h
  | _ :: _, _ :: _, [], _, h => by simp [ltT] at h
  | x :: r, y :: t, z :: u, h1, h2 => by
    simp [ltT] at h1 h2 ⊢
    rcases h1 with h1 | ⟨rfl, h1⟩
    · rcases h2 with h2 | ⟨rfl, h2⟩
      · exact .inl (by omega)
      · exact .inl h1
    · rcases h2 with h2 | ⟨rfl, h2⟩
      · exact .inl h2
      · exact .inr ⟨rfl, ltT_trans r t u h1 h2⟩
theorem ltT_total (a b : List Int) : ltT a b = true ∨ a = b ∨ ltT b a = true := by
  cases h : ltT a b with
  | true => exact .inl rfl
  | false =>
    cases h2 : ltT b a with
    | true => exact .inr (.inr rfl)
    | false => exact .inr (.inl (ltT_tri a b h h2))
theorem leT_trans (a b c : List Int) (h1 : leT a b = true) (h2 : leT b c = true) : leT a c = true := by
  simp only [leT, Bool.not_eq_true'] at *
  cases h : ltT c a with
  | false => rfl
  | true =>
    rcases ltT_total a b with z | z | z
    · have := ltT_trans c a b h z; rw [h2] at this; cases this
    · subst z; rw [h2] at h; cases h
    · rw [h1] at z; cases z
theorem leT_total (a b : List Int) : (leT a b || leT b a) = true := by
  simp only [leT]
  cases h : ltT b a with
  | false => rfl
  | true =>
    cases h2 : ltT a b with
    | false => rfl
    | true => have := ltT_trans a b a h2 h; rw [ltT_irr] at this; cases this
theorem leT_anti (a b : List Int) (h1 : leT a b = true) (h2 : leT b a = true) : a = b := by
  simp only [leT, Bool.not_eq_true'] at *
  exact ltT_tri a b h2 h1
def tsort (xs : List (List Int)) : List (List Int) := xs.mergeSort leT
theorem tsort_perm (xs : List (List Int)) : (tsort xs).Perm xs := List.mergeSort_perm ..
theorem tsort_le (xs : List (List Int)) : (tsort xs).Pairwise (fun a b => leT a b = true) := List.pairwise_mergeSort leT_trans leT_total xs
theorem tsort_eq {xs ys : List (List Int)} (h : ys.Perm xs) (p : ys.Pairwise (fun a b => leT a b = true)) : tsort xs = ys :=
  List.Perm.eq_of_pairwise (fun a b _ _ h1 h2 => leT_anti a b h1 h2) (tsort_le xs) p ((tsort_perm xs).trans h.symm)
theorem sm_srtT {xs : List (List Int)} {P : List D → Prop} (h : ∀ v ∈ xs, v ≠ []) : Sm (srtG [.lst (xs.map eT)]) P ↔ xs.length ≤ 16777216 ∧ P ((tsort xs).map eT) := by
  show Sm (if okSort (D.pys (xs.map eT)) = true ∧ (xs.map eT).length ≤ sizeLine then some ((xs.map eT).mergeSort (PySem.W.dataLe false D.py)) else none) P ↔ _
  rw [sm_ite, sm_some, sizeLine_eq, List.length_map]
  have : (xs.map eT).mergeSort (PySem.W.dataLe false D.py) = (tsort xs).map eT :=
    (List.map_mergeSort fun a _ b _ => (le_tup a b).symm).symm
  rw [this]
  have ok := okSort_ints xs h
  have : (xs.map eT) = xs.map fun v => D.tup (v.map D.int) := rfl
  rw [this, ok]
  simp
end GH

namespace GH
/-- a slot that holds a value or nothing -/
def IsV (x : Option Sl) : Prop := ∃ o, x = jv o
def AllV : List (Option Sl) → Prop
  | [] => True
  | x :: r => IsV x ∧ AllV r
theorem isV_none : IsV none ↔ True := ⟨fun _ => trivial, fun _ => ⟨none, rfl⟩⟩
theorem isV_val {d : D} : IsV (some (.val d)) ↔ True := ⟨fun _ => trivial, fun _ => ⟨some d, rfl⟩⟩
theorem isV_jv {d : Option D} : IsV (jv d) ↔ True := ⟨fun _ => trivial, fun _ => ⟨d, rfl⟩⟩
theorem allV_nil : AllV [] ↔ True := Iff.rfl
theorem allV_cons {x : Option Sl} {r : List (Option Sl)} : AllV (x :: r) ↔ IsV x ∧ AllV r := Iff.rfl
theorem AllV.open_ : ∀ {e : List (Option Sl)}, AllV e → ∃ xs : List (Option D), e = xs.map jv
  | [], _ => ⟨[], rfl⟩
  | x :: r, ⟨⟨o, h⟩, h2⟩ => by
    obtain ⟨xs, e⟩ := AllV.open_ h2
    exact ⟨o :: xs, by rw [h, e]; rfl⟩
/-- amid a law: the script's slot, the source's, so many others with values -/
def LawI (n : Nat) (s : S) : Prop := ∃ e, s.env = none :: some (.val .src) :: e ∧ e.length = n ∧ AllV e
theorem LawI.open_ {n : Nat} {s : S} (h : LawI n s) : ∃ (xs : List (Option D)) (c : Src), s = ⟨none :: some (.val .src) :: xs.map jv, c⟩ ∧ xs.length = n := by
  obtain ⟨e, h1, h2, h3⟩ := h
  obtain ⟨xs, rfl⟩ := h3.open_
  exact ⟨xs, s.src, by cases s; simp only at h1; rw [h1], by simpa using h2⟩
theorem LawI.of {n : Nat} {e : List (Option Sl)} {c : Src} (h : e.length = n) (h2 : AllV e) : LawI n ⟨none :: some (.val .src) :: e, c⟩ := ⟨e, rfl, h, h2⟩
theorem uncons {α : Type} {n : Nat} {xs : List α} (h : xs.length = n + 1) : ∃ a r, xs = a :: r ∧ r.length = n := by
  cases xs with
  | nil => simp at h
  | cons a r => exact ⟨a, r, rfl, by simpa using h⟩
theorem unnil {α : Type} {xs : List α} (h : xs.length = 0) : xs = [] := List.eq_nil_of_length_eq_zero h
theorem allV_nones : ∀ n, AllV (List.replicate n none)
  | 0 => trivial
  | n + 1 => ⟨⟨none, rfl⟩, allV_nones n⟩
theorem lawI_start (n : Nat) (c : Src) : LawI n ⟨lawEnv (n + 2) 1, c⟩ := by
  refine ⟨List.replicate n none, ?_, by simp, allV_nones n⟩
  unfold lawEnv
  rfl
/-- what a law wants -/
theorem law_ok {n : Nat} {m : M Out} {c : Src} (h : Wp m ⟨lawEnv n 1, c⟩ fun o _ => o = .ret (.bl true)) : ∃ s', m ⟨lawEnv n 1, c⟩ = some (.ret (.bl true), s') := by
  obtain ⟨o, s', e, rfl⟩ := h
  exact ⟨s', e⟩
theorem at_snoc {α : Type} {xs : List α} {x : α} {P : α → Prop} : Sm (L2.atI (xs ++ [x]) (-1)) P ↔ P x := by
  refine sm_eq (atI_neg (by decide) (by simp; omega) ?_)
  rw [show (-1 + ((xs ++ [x]).length : Int)).toNat = xs.length by simp <;> omega]
  simp
theorem ok_ints3 (a b c : Int) : (D.tup [.int a, .int b, .int c]).ok := (D.okN_tup (n := 0) fun d hd => by
  simp at hd
  rcases hd with rfl | rfl | rfl <;> exact D.okN_int _).ok
theorem ok_ints2 (a b : Int) : (D.tup [.int a, .int b]).ok := (D.okN_tup (n := 0) fun d hd => by
  simp at hd
  rcases hd with rfl | rfl <;> exact D.okN_int _).ok
theorem sm_ne3 {a b c : Int} {P : D → Prop} : Sm (neD (.tup [.int a, .int b, .int c]) (.tup [.int a, .int b, .int c])) P ↔ P (.bl false) := sm_neS (ok_ints3 a b c)
theorem sm_ne2 {a b : Int} {P : D → Prop} : Sm (neD (.tup [.int a, .int b]) (.tup [.int a, .int b])) P ↔ P (.bl false) := sm_neS (ok_ints2 a b)
theorem ok_nats (n : Nat) : (D.tup ((List.range n).map fun k => D.int ((k : Nat) : Int))).ok := (D.okN_tup (n := 0) fun d hd => by
  obtain ⟨k, _, rfl⟩ := List.mem_map.mp hd
  exact D.okN_int _).ok
theorem str_ok {s : PySem.Str} (h : PySem.PyData.strOk s = true) : (D.str s).ok := ⟨by simp only [D.nice]; exact h, by simp [D.py, PySem.PyData.depth]⟩
theorem sm_eqStr {a b : PySem.Str} {P : D → Prop} (h : PySem.PyData.strOk a = true) (h2 : PySem.PyData.strOk b = true) : Sm (eqD (.str a) (.str b)) P ↔ P (.bl (decide (a = b))) := sm_eqG (str_ok h) (str_ok h2) (by rw [D.str.injEq])
theorem sm_neStr {a b : PySem.Str} {P : D → Prop} (h : PySem.PyData.strOk a = true) (h2 : PySem.PyData.strOk b = true) : Sm (neD (.str a) (.str b)) P ↔ P (.bl (!decide (a = b))) := sm_neG (str_ok h) (str_ok h2) (by rw [D.str.injEq])
theorem tf_ok (b : Bool) : (D.str (if b = true then "True" else "False")).ok := by
  cases b
  · exact ⟨by simp only [D.nice]; decide +kernel, by simp [D.py, PySem.PyData.depth]⟩
  · exact ⟨by simp only [D.nice]; decide +kernel, by simp [D.py, PySem.PyData.depth]⟩
theorem rgOk_of {i j : Int} (h : -1000000 ≤ i) (h2 : i ≤ 1000000) (h3 : -1000000 ≤ j) (h4 : j ≤ 1000000) : L2.RgOk i j := by unfold L2.RgOk; omega
end GH

noncomputable section
namespace GW
open PySem PySem.Spec PyProof.Rows L2 GH

def top (i : Nat) : Stmt := PySem.Challenge.pw_greenheld_k43_whole_green_waves.main.body.getD i (.Pass ⟨0, 0, 0, 0⟩)
abbrev FP (K : PySem.W.Frag) (x : Str) (st : Stmt) (f : Addr) (fd : FuncData) : Prop := FunD K x x (defArgs st) (defBody st) (defScope st) [] [] f fd
abbrev st_wish_of : Stmt := top 1
abbrev st_is_kept : Stmt := top 2
abbrev st_kept : Stmt := top 3
abbrev st_tied_to : Stmt := top 4
abbrev st_ring_by : Stmt := top 5
abbrev st_offsets_for : Stmt := top 6
abbrev st_turned_offsets : Stmt := top 7
abbrev st_arrivals : Stmt := top 9
abbrev st_passes : Stmt := top 10
abbrev st_band : Stmt := top 11
abbrev st_band_bound : Stmt := top 12
abbrev st_offsets_of_line : Stmt := top 13
abbrev st__law_open_cells : Stmt := top 15
abbrev st__law_pick : Stmt := top 16
abbrev st__law_any_order : Stmt := top 17
abbrev st__law_rest : Stmt := top 18
abbrev st__law_line_ticks : Stmt := top 19
abbrev st__law_band : Stmt := top 20
abbrev st__law_draw_line : Stmt := top 21
abbrev st__law_draw_greens : Stmt := top 22
abbrev st_law : Stmt := top 23
theorem sc_wish_of : FnScope ["one", "begin", "other", "late", "time"] ["one", "begin", "other", "late", "time"] (defScope st_wish_of) := ⟨rfl, rfl, rfl, by decide +kernel, rfl, by decide +kernel, by decide +kernel⟩
def m_wish_of : M Out :=
 (sRet (eTup (aCons (eVar 0) (aCons (eVar 2) (aCons (eBin subD (eBin addD (eVar 1) (eVar 4)) (eVar 3)) aNil)))))
def S_wish_of : FnSem := fnOf 5 m_wish_of
theorem w_wish_of {P : Program} {w : World} {K : PySem.W.Frag} {mg : Str → Option Value} {base : Heap} {f : Addr} {fd : FuncData} (F : FP K "wish_of" st_wish_of f fd) (hm : mg "wish_of" = some (.ref f)) : Fn P w K mg base 1 "wish_of" 5 S_wish_of := by
  have sc := sc_wish_of
  refine fn_body (k := 0) (N := ["one", "begin", "other", "late", "time"]) (m := m_wish_of) F hm (F.bindsN (ps := ["one", "begin", "other", "late", "time"]) fun _ _ _ _ _ _ us hl => match us, hl with | [_, _, _, _, _], _ => rfl) sc (by decide) fun cdv A outer s H hr => ?_
  have hu := hr.u64
  have hv := hr.u65
  have hv1 := hr.u1
  unfold m_wish_of
  exact (ss_one (s_ret (s_tup (a_cons s_v (a_cons s_v (a_cons (s_bin od_sub (s_bin od_add s_v s_v) s_v) a_nil))))))
theorem sc_is_kept : FnScope ["wish", "L", "offsets"] ["wish", "L", "offsets"] (defScope st_is_kept) := ⟨rfl, rfl, rfl, by decide +kernel, rfl, by decide +kernel, by decide +kernel⟩
def m_is_kept : M Out :=
 (sRet (eBin eqD (eBin modD (eBin subD (eBin subD (eBin ixD (eVar 2) (eBin ixD (eVar 0) (eC (.int 1)))) (eBin ixD (eVar 2) (eBin ixD (eVar 0) (eC (.int 0))))) (eBin ixD (eVar 0) (eC (.int 2)))) (eVar 1)) (eC (.int 0))))
def S_is_kept : FnSem := fnOf 3 m_is_kept
theorem w_is_kept {P : Program} {w : World} {K : PySem.W.Frag} {mg : Str → Option Value} {base : Heap} {f : Addr} {fd : FuncData} (F : FP K "is_kept" st_is_kept f fd) (hm : mg "is_kept" = some (.ref f)) : Fn P w K mg base 1 "is_kept" 3 S_is_kept := by
  have sc := sc_is_kept
  refine fn_body (k := 0) (N := ["wish", "L", "offsets"]) (m := m_is_kept) F hm (F.bindsN (ps := ["wish", "L", "offsets"]) fun _ _ _ _ _ _ us hl => match us, hl with | [_, _, _], _ => rfl) sc (by decide) fun cdv A outer s H hr => ?_
  have hu := hr.u64
  have hv := hr.u65
  have hv1 := hr.u1
  unfold m_is_kept
  exact (ss_one (s_ret (s_cmp (od_eq hu) (s_bin od_mod (s_bin od_sub (s_bin od_sub (s_ix s_v (s_ix s_v s_int)) (s_ix s_v (s_ix s_v s_int))) (s_ix s_v s_int)) s_v) s_int)))
theorem sc_kept : FnScope ["wishes", "L", "offsets", "w", "wish"] ["wishes", "L", "offsets"] (defScope st_kept) := ⟨rfl, rfl, rfl, by decide +kernel, rfl, by decide +kernel, by decide +kernel⟩
def m_kept : M Out :=
 (sRet (eCall tupG (aCons (eLst (eComp [3, 4] (gT (gCons (gN 3) (gCons (gN 4) gNil))) (tru (eFn S_is_kept (aCons (eVar 4) (aCons (eVar 1) (aCons (eVar 2) aNil))))) (eVar 3) (iEnum (eVar 0)))) aNil)))
def S_kept : FnSem := fnOf 5 m_kept
theorem w_kept {P : Program} {w : World} {K : PySem.W.Frag} {mg : Str → Option Value} {base : Heap} {f : Addr} {fd : FuncData} (F : FP K "kept" st_kept f fd) (hm : mg "kept" = some (.ref f)) (h_enumerate : mg "enumerate" = none) (h_tuple : mg "tuple" = none) (F_is_kept : Fn P w K mg base 1 "is_kept" 3 S_is_kept) : Fn P w K mg base 2 "kept" 3 S_kept := by
  have sc := sc_kept
  refine fn_body (k := 1) (N := ["wishes", "L", "offsets", "w", "wish"]) (m := m_kept) F hm (F.bindsN (ps := ["wishes", "L", "offsets"]) fun _ _ _ _ _ _ us hl => match us, hl with | [_, _, _], _ => rfl) sc (by decide) fun cdv A outer s H hr => ?_
  have hu := hr.u64
  have hv := hr.u65
  have hv1 := hr.u1
  unfold m_kept
  exact (ss_one (s_ret (s_callT c_tup rfl h_tuple (by decide +kernel) (a_cons (s_ofL (l_comp (own := [("w", 3), ("wish", 4)]) ⟨rfl, sc.nd, (blk_of rfl (by kernel_rfl)), by decide, fun _ _ _ _ _ => (g_tup rfl (gs_cons (g_n sc.nd) (gs_cons (g_n sc.nd) gs_nil)) rfl rfl (gCons_len (gCons_len gNil_len))), fun _ _ _ _ _ => (f_one (t_of (s_fn (F_is_kept.mono (by decide)) hr rfl (a_cons s_v (a_cons s_v (a_cons s_v a_nil))) (aLen_cons (aLen_cons (aLen_cons aLen_nil)))))), fun _ _ _ _ _ => s_v⟩ (i_enum rfl h_enumerate s_v))) a_nil))))
theorem sc_tied_to : FnScope ["m", "wishes", "c", "found", "waiting", "here", "way", "ticks", "w", "one", "other", "more"] ["m", "wishes", "c"] (defScope st_tied_to) := ⟨rfl, rfl, rfl, by decide +kernel, rfl, by decide +kernel, by decide +kernel⟩
def m_tied_to : M Out :=
 (sSeq (sPar [3, 4] (pOwnN (nDisp (dpCons (eVar 2) (eTup (aCons (eTup aNil) (aCons (eC (.int 0)) aNil))) dpNil)) (pOwn (lDisp (aCons (eVar 2) aNil)) pNil)))
 (sSeq (sWhile (tBor [4] (tst (eBin neD (eVar 4) (eLst (lDisp aNil)))))
 (sSeq (sSet 5 (ePopAt 4 (eC (.int 0))))
 (sSeq (sAsg (eDgO 3 (eVar 5)) (gT (gCons (gN 6) (gCons (gN 7) gNil))))
 (sFor (iEnum (eVar 1)) (gT (gCons (gN 8) (gCons (gT (gCons (gN 9) (gCons (gN 10) (gCons (gN 11) gNil)))) gNil)))
 (sSeq (sIf (tAnd2 (tst (eBin eqD (eVar 9) (eVar 5))) (tBor [3] (tst (eBin dninD (eVar 10) (eVar 3)))))
 (sSeq (sPutD 3 (eTup (aCons (eBin addD (eVar 6) (eTup (aCons (eTup (aCons (eVar 8) (aCons (eC (.int 1)) aNil))) aNil))) (aCons (eBin addD (eVar 7) (eVar 11)) aNil))) (eVar 10))
 (sExpr (eApp 4 (eVar 10))))
 sNx)
 (sIf (tAnd2 (tst (eBin eqD (eVar 10) (eVar 5))) (tBor [3] (tst (eBin dninD (eVar 9) (eVar 3)))))
 (sSeq (sPutD 3 (eTup (aCons (eBin addD (eVar 6) (eTup (aCons (eTup (aCons (eVar 8) (aCons (eUn negD (eC (.int 1))) aNil))) aNil))) (aCons (eBin subD (eVar 7) (eVar 11)) aNil))) (eVar 9))
 (sExpr (eApp 4 (eVar 9))))
 sNx))))))
 (sRet (eFrz 3))))
def S_tied_to : FnSem := fnOf 12 m_tied_to
theorem w_tied_to {P : Program} {w : World} {K : PySem.W.Frag} {mg : Str → Option Value} {base : Heap} {f : Addr} {fd : FuncData} (F : FP K "tied_to" st_tied_to f fd) (hm : mg "tied_to" = some (.ref f)) (h_enumerate : mg "enumerate" = none) : Fn P w K mg base 1 "tied_to" 3 S_tied_to := by
  have sc := sc_tied_to
  refine fn_body (k := 0) (N := ["m", "wishes", "c", "found", "waiting", "here", "way", "ticks", "w", "one", "other", "more"]) (m := m_tied_to) F hm (F.bindsN (ps := ["m", "wishes", "c"]) fun _ _ _ _ _ _ us hl => match us, hl with | [_, _, _], _ => rfl) sc (by decide) fun cdv A outer s H hr => ?_
  have hu := hr.u64
  have hv := hr.u65
  have hv1 := hr.u1
  unfold m_tied_to
  exact (ss_cons (s_par2 rfl sc.nd rfl rfl (by decide) rfl rfl (p_ownN (n_disp (d_cons s_v (s_tup (a_cons (s_tup a_nil) (a_cons s_int a_nil))) d_nil)) (p_own (l_dsp (a_cons s_v a_nil)) p_nil)) rfl)
 (ss_cons (s_while PassesOwn.never (t_bor (t_cmp (od_ne hu) s_v (s_ofL (l_dsp a_nil))))
 (ss_cons (s_set sc.nd rfl (by first | exact Or.inl rfl | exact Or.inr rfl) (s_popAt pv s_int))
 (ss_cons (s_asg (s_dgO hv1 pv s_v) (g_tup rfl (gs_cons (g_n sc.nd) (gs_cons (g_n sc.nd) gs_nil)) rfl rfl (gCons_len (gCons_len gNil_len))))
 (ss_one (s_for PassesOwn.never rfl (i_enum rfl h_enumerate s_v) (g_tup rfl (gs_cons (g_n sc.nd) (gs_cons (g_tup rfl (gs_cons (g_n sc.nd) (gs_cons (g_n sc.nd) (gs_cons (g_n sc.nd) gs_nil))) rfl rfl (gCons_len (gCons_len (gCons_len gNil_len)))) gs_nil)) rfl rfl (gCons_len (gCons_len gNil_len)))
 (ss_cons (s_ifS (SW.t (w_and (t_cmp (od_eq hu) s_v s_v) (w_and1 (t_bor (t_dnin hv1 s_v s_v)))))
 (ss_cons (s_putD hv1 pv s_v (s_tup (a_cons (s_bin od_add s_v (s_tup (a_cons (s_tup (a_cons s_v (a_cons s_int a_nil))) a_nil))) (a_cons (s_bin od_add s_v s_v) a_nil))))
 (ss_one (s_expr (s_append pv s_v))))
 ss_nil)
 (ss_one (s_ifS (SW.t (w_and (t_cmp (od_eq hu) s_v s_v) (w_and1 (t_bor (t_dnin hv1 s_v s_v)))))
 (ss_cons (s_putD hv1 pv s_v (s_tup (a_cons (s_bin od_add s_v (s_tup (a_cons (s_tup (a_cons s_v (a_cons (s_neg s_int) a_nil))) a_nil))) (a_cons (s_bin od_sub s_v s_v) a_nil))))
 (ss_one (s_expr (s_append pv s_v))))
 ss_nil))))))))
 (ss_one (s_ret (s_frz pv)))))
theorem sc_ring_by : FnScope ["ways", "w", "wish", "there", "back", "v", "sign"] ["ways", "w", "wish"] (defScope st_ring_by) := ⟨rfl, rfl, rfl, by decide +kernel, rfl, by decide +kernel, by decide +kernel⟩
def m_ring_by : M Out :=
 (sSeq (sPar [3, 4] (pVal (eBin ixD (eBin dgD (eVar 0) (eBin ixD (eVar 2) (eC (.int 0)))) (eC (.int 0))) (pVal (eBin ixD (eBin dgD (eVar 0) (eBin ixD (eVar 2) (eC (.int 1)))) (eC (.int 0))) pNil)))
 (sSeq (sWhile (tAnd2 (tst (eBin neD (eVar 3) (eTup aNil))) (tAnd2 (tst (eBin neD (eVar 4) (eTup aNil))) (tst (eBin eqD (eBin ixD (eVar 3) (eC (.int 0))) (eBin ixD (eVar 4) (eC (.int 0)))))))
 (sPar [3, 4] (pVal (eSl (eVar 3) (oAt (eC (.int 1))) oNo) (pVal (eSl (eVar 4) (oAt (eC (.int 1))) oNo) pNil))))
 (sRet (eBin addD (eBin addD (eVar 3) (eTup (aCons (eTup (aCons (eVar 1) (aCons (eC (.int 1)) aNil))) aNil))) (eCall tupG (aCons (eLst (eComp [5, 6] (gT (gCons (gN 5) (gCons (gN 6) gNil))) (ret true) (eTup (aCons (eVar 5) (aCons (eUn negD (eVar 6)) aNil))) (iSeq (eUn revD (eVar 4))))) aNil))))))
def S_ring_by : FnSem := fnOf 7 m_ring_by
theorem w_ring_by {P : Program} {w : World} {K : PySem.W.Frag} {mg : Str → Option Value} {base : Heap} {f : Addr} {fd : FuncData} (F : FP K "ring_by" st_ring_by f fd) (hm : mg "ring_by" = some (.ref f)) (h_tuple : mg "tuple" = none) : Fn P w K mg base 1 "ring_by" 3 S_ring_by := by
  have sc := sc_ring_by
  refine fn_body (k := 0) (N := ["ways", "w", "wish", "there", "back", "v", "sign"]) (m := m_ring_by) F hm (F.bindsN (ps := ["ways", "w", "wish"]) fun _ _ _ _ _ _ us hl => match us, hl with | [_, _, _], _ => rfl) sc (by decide) fun cdv A outer s H hr => ?_
  have hu := hr.u64
  have hv := hr.u65
  have hv1 := hr.u1
  unfold m_ring_by
  exact (ss_cons (s_par2 rfl sc.nd rfl rfl (by decide) rfl rfl (p_val (s_ix (s_dg hv1 s_v (s_ix s_v s_int)) s_int) (p_val (s_ix (s_dg hv1 s_v (s_ix s_v s_int)) s_int) p_nil)) rfl)
 (ss_cons (s_while PassesOwn.never (SW.t (w_and (t_cmp (od_ne hu) s_v (s_tup a_nil)) (w_and (t_cmp (od_ne hu) s_v (s_tup a_nil)) (w_and1 (t_cmp (od_eq hu) (s_ix s_v s_int) (s_ix s_v s_int))))))
 (ss_one (s_par2 rfl sc.nd rfl rfl (by decide) rfl rfl (p_val (s_slice s_v (o_at s_int) o_no) (p_val (s_slice s_v (o_at s_int) o_no) p_nil)) rfl)))
 (ss_one (s_ret (s_bin od_add (s_bin od_add s_v (s_tup (a_cons (s_tup (a_cons s_v (a_cons s_int a_nil))) a_nil))) (s_callT c_tup rfl h_tuple (by decide +kernel) (a_cons (s_ofL (l_comp (own := [("v", 5), ("sign", 6)]) ⟨rfl, sc.nd, (blk_of rfl (by kernel_rfl)), by decide, fun _ _ _ _ _ => (g_tup rfl (gs_cons (g_n sc.nd) (gs_cons (g_n sc.nd) gs_nil)) rfl rfl (gCons_len (gCons_len gNil_len))), fun _ _ _ _ _ => f_nil, fun _ _ _ _ _ => (s_tup (a_cons s_v (a_cons (s_neg s_v) a_nil)))⟩ (i_seq (s_rev s_v)))) a_nil)))))))
theorem sc_offsets_for : FnScope ["m", "wishes", "L", "found", "c", "ways", "w", "wish", "other"] ["m", "wishes", "L"] (defScope st_offsets_for) := ⟨rfl, rfl, rfl, by decide +kernel, rfl, by decide +kernel, by decide +kernel⟩
def m_offsets_for : M Out :=
 (sSeq (sOwnN 3 nK0)
 (sSeq (sFor (iRg1 (eVar 0)) (gN 4)
 (sIf (tBor [3] (tst (eBin dninD (eVar 4) (eVar 3))))
 (sSeq (sSet 5 (eFn S_tied_to (aCons (eVar 0) (aCons (eVar 1) (aCons (eVar 4) aNil)))))
 (sSeq (sFor (iEnum (eVar 1)) (gT (gCons (gN 6) (gCons (gN 7) gNil)))
 (sIf (tAnd2 (tst (eBin dinD (eBin ixD (eVar 7) (eC (.int 0))) (eVar 5))) (tst (eBin neD (eBin modD (eBin subD (eBin subD (eBin ixD (eBin dgD (eVar 5) (eBin ixD (eVar 7) (eC (.int 1)))) (eC (.int 1))) (eBin ixD (eBin dgD (eVar 5) (eBin ixD (eVar 7) (eC (.int 0)))) (eC (.int 1)))) (eBin ixD (eVar 7) (eC (.int 2)))) (eVar 2)) (eC (.int 0)))))
 (sRet (eTup (aCons (eC (.str "ring")) (aCons (eFn S_ring_by (aCons (eVar 5) (aCons (eVar 6) (aCons (eVar 7) aNil)))) aNil))))
 sNx))
 (sForD 5 (gN 8)
 (sPutD 3 (eBin modD (eBin ixD (eBin dgD (eVar 5) (eVar 8)) (eC (.int 1))) (eVar 2)) (eVar 8)))))
 sNx))
 (sRet (eTup (aCons (eC (.str "offsets")) (aCons (eCall tupG (aCons (eLst (eComp [4] (gN 4) (ret true) (eDgO 3 (eVar 4)) (iRg1 (eVar 0)))) aNil)) aNil))))))
def S_offsets_for : FnSem := fnOf 9 m_offsets_for
theorem w_offsets_for {P : Program} {w : World} {K : PySem.W.Frag} {mg : Str → Option Value} {base : Heap} {f : Addr} {fd : FuncData} (F : FP K "offsets_for" st_offsets_for f fd) (hm : mg "offsets_for" = some (.ref f)) (h_enumerate : mg "enumerate" = none) (h_range : mg "range" = none) (h_tuple : mg "tuple" = none) (F_ring_by : Fn P w K mg base 1 "ring_by" 3 S_ring_by) (F_tied_to : Fn P w K mg base 1 "tied_to" 3 S_tied_to) : Fn P w K mg base 2 "offsets_for" 3 S_offsets_for := by
  have sc := sc_offsets_for
  refine fn_body (k := 1) (N := ["m", "wishes", "L", "found", "c", "ways", "w", "wish", "other"]) (m := m_offsets_for) F hm (F.bindsN (ps := ["m", "wishes", "L"]) fun _ _ _ _ _ _ us hl => match us, hl with | [_, _, _], _ => rfl) sc (by decide) fun cdv A outer s H hr => ?_
  have hu := hr.u64
  have hv := hr.u65
  have hv1 := hr.u1
  unfold m_offsets_for
  exact (ss_cons (s_ownN sc.nd rfl (by first | exact Or.inl rfl | exact Or.inr rfl) n_dK)
 (ss_cons (s_for PassesOwn.never rfl (i_rg1 rfl h_range s_v) (g_n sc.nd)
 (ss_one (s_ifS (t_bor (t_dnin hv1 s_v s_v))
 (ss_cons (s_set sc.nd rfl (by first | exact Or.inl rfl | exact Or.inr rfl) (s_fn (F_tied_to.mono (by decide)) hr rfl (a_cons s_v (a_cons s_v (a_cons s_v a_nil))) (aLen_cons (aLen_cons (aLen_cons aLen_nil)))))
 (ss_cons (s_for PassesOwn.never rfl (i_enum rfl h_enumerate s_v) (g_tup rfl (gs_cons (g_n sc.nd) (gs_cons (g_n sc.nd) gs_nil)) rfl rfl (gCons_len (gCons_len gNil_len)))
 (ss_one (s_ifS (SW.t (w_and (t_din hv1 (s_ix s_v s_int) s_v) (w_and1 (t_cmp (od_ne hu) (s_bin od_mod (s_bin od_sub (s_bin od_sub (s_ix (s_dg hv1 s_v (s_ix s_v s_int)) s_int) (s_ix (s_dg hv1 s_v (s_ix s_v s_int)) s_int)) (s_ix s_v s_int)) s_v) s_int))))
 (ss_one (s_ret (s_tup (a_cons s_str (a_cons (s_fn (F_ring_by.mono (by decide)) hr rfl (a_cons s_v (a_cons s_v (a_cons s_v a_nil))) (aLen_cons (aLen_cons (aLen_cons aLen_nil)))) a_nil)))))
 ss_nil)))
 (ss_one (s_forD PassesOwn.never rfl pv (g_n sc.nd)
 (ss_one (s_putD hv1 pv s_v (s_bin od_mod (s_ix (s_dg hv1 s_v s_v) s_int) s_v)))))))
 ss_nil)))
 (ss_one (s_ret (s_tup (a_cons s_str (a_cons (s_callT c_tup rfl h_tuple (by decide +kernel) (a_cons (s_ofL (l_comp (own := [("c", 4)]) ⟨rfl, sc.nd, (blk_of rfl (by kernel_rfl)), by decide, fun _ _ _ _ _ => (g_n sc.nd), fun _ _ _ _ _ => f_nil, fun _ _ _ _ _ => (s_dgO hv1 pv s_v)⟩ (i_rg1 rfl h_range s_v))) a_nil)) a_nil)))))))
theorem sc_turned_offsets : FnScope ["offsets", "L", "ticks", "offset"] ["offsets", "L", "ticks"] (defScope st_turned_offsets) := ⟨rfl, rfl, rfl, by decide +kernel, rfl, by decide +kernel, by decide +kernel⟩
def m_turned_offsets : M Out :=
 (sRet (eCall tupG (aCons (eLst (eComp [3] (gN 3) (ret true) (eBin modD (eBin addD (eVar 3) (eVar 2)) (eVar 1)) (iSeq (eVar 0)))) aNil)))
def S_turned_offsets : FnSem := fnOf 4 m_turned_offsets
theorem w_turned_offsets {P : Program} {w : World} {K : PySem.W.Frag} {mg : Str → Option Value} {base : Heap} {f : Addr} {fd : FuncData} (F : FP K "turned_offsets" st_turned_offsets f fd) (hm : mg "turned_offsets" = some (.ref f)) (h_tuple : mg "tuple" = none) : Fn P w K mg base 1 "turned_offsets" 3 S_turned_offsets := by
  have sc := sc_turned_offsets
  refine fn_body (k := 0) (N := ["offsets", "L", "ticks", "offset"]) (m := m_turned_offsets) F hm (F.bindsN (ps := ["offsets", "L", "ticks"]) fun _ _ _ _ _ _ us hl => match us, hl with | [_, _, _], _ => rfl) sc (by decide) fun cdv A outer s H hr => ?_
  have hu := hr.u64
  have hv := hr.u65
  have hv1 := hr.u1
  unfold m_turned_offsets
  exact (ss_one (s_ret (s_callT c_tup rfl h_tuple (by decide +kernel) (a_cons (s_ofL (l_comp (own := [("offset", 3)]) ⟨rfl, sc.nd, (blk_of rfl (by kernel_rfl)), by decide, fun _ _ _ _ _ => (g_n sc.nd), fun _ _ _ _ _ => f_nil, fun _ _ _ _ _ => (s_bin od_mod (s_bin od_add s_v s_v) s_v)⟩ (i_seq s_v))) a_nil))))
theorem sc_arrivals : FnScope ["line", "start", "found", "tick", "crossing", "time"] ["line", "start"] (defScope st_arrivals) := ⟨rfl, rfl, rfl, by decide +kernel, rfl, by decide +kernel, by decide +kernel⟩
def m_arrivals : M Out :=
 (sSeq (sPar [2, 3] (pOwn (lDisp aNil) (pVal (eVar 1) pNil)))
 (sSeq (sFor (iSeq (eVar 0)) (gT (gCons (gN 4) (gCons (gN 5) gNil)))
 (sSeq (sAug 3 (fun i j => i + j) (eVar 5))
 (sExpr (eApp 2 (eVar 3)))))
 (sRet (eCall tupG (aCons (eFrz 2) aNil)))))
def S_arrivals : FnSem := fnOf 6 m_arrivals
theorem w_arrivals {P : Program} {w : World} {K : PySem.W.Frag} {mg : Str → Option Value} {base : Heap} {f : Addr} {fd : FuncData} (F : FP K "arrivals" st_arrivals f fd) (hm : mg "arrivals" = some (.ref f)) (h_tuple : mg "tuple" = none) : Fn P w K mg base 1 "arrivals" 2 S_arrivals := by
  have sc := sc_arrivals
  refine fn_body (k := 0) (N := ["line", "start", "found", "tick", "crossing", "time"]) (m := m_arrivals) F hm (F.bindsN (ps := ["line", "start"]) fun _ _ _ _ _ _ us hl => match us, hl with | [_, _], _ => rfl) sc (by decide) fun cdv A outer s H hr => ?_
  have hu := hr.u64
  have hv := hr.u65
  have hv1 := hr.u1
  unfold m_arrivals
  exact (ss_cons (s_par2 rfl sc.nd rfl rfl (by decide) rfl rfl (p_own (l_dsp a_nil) (p_val s_v p_nil)) rfl)
 (ss_cons (s_for PassesOwn.never rfl (i_seq s_v) (g_tup rfl (gs_cons (g_n sc.nd) (gs_cons (g_n sc.nd) gs_nil)) rfl rfl (gCons_len (gCons_len gNil_len)))
 (ss_cons (s_aug sc.nd rfl (by first | exact Or.inl rfl | exact Or.inr rfl) s_v ip_add)
 (ss_one (s_expr (s_append pv s_v)))))
 (ss_one (s_ret (s_callT c_tup rfl h_tuple (by decide +kernel) (a_cons (s_frz pv) a_nil))))))
theorem sc_passes : FnScope ["line", "greens", "L", "offsets", "start", "crossing", "time", "begin", "length", "tick"] ["line", "greens", "L", "offsets", "start"] (defScope st_passes) := ⟨rfl, rfl, rfl, by decide +kernel, rfl, by decide +kernel, by decide +kernel⟩
def m_passes : M Out :=
 (sSeq (sFor (iZip3 (eVar 0) (eVar 1) (eFn S_arrivals (aCons (eVar 0) (aCons (eVar 4) aNil)))) (gT (gCons (gT (gCons (gN 5) (gCons (gN 6) gNil))) (gCons (gT (gCons (gN 7) (gCons (gN 8) gNil))) (gCons (gN 9) gNil))))
 (sIf (tst (eBin geD (eBin modD (eBin subD (eBin subD (eVar 9) (eBin ixD (eVar 3) (eVar 5))) (eVar 7)) (eVar 2)) (eVar 8)))
 (sRet (eC (.bl false)))
 sNx))
 (sRet (eC (.bl true))))
def S_passes : FnSem := fnOf 10 m_passes
theorem w_passes {P : Program} {w : World} {K : PySem.W.Frag} {mg : Str → Option Value} {base : Heap} {f : Addr} {fd : FuncData} (F : FP K "passes" st_passes f fd) (hm : mg "passes" = some (.ref f)) (h_zip : mg "zip" = none) (F_arrivals : Fn P w K mg base 1 "arrivals" 2 S_arrivals) : Fn P w K mg base 2 "passes" 5 S_passes := by
  have sc := sc_passes
  refine fn_body (k := 1) (N := ["line", "greens", "L", "offsets", "start", "crossing", "time", "begin", "length", "tick"]) (m := m_passes) F hm (F.bindsN (ps := ["line", "greens", "L", "offsets", "start"]) fun _ _ _ _ _ _ us hl => match us, hl with | [_, _, _, _, _], _ => rfl) sc (by decide) fun cdv A outer s H hr => ?_
  have hu := hr.u64
  have hv := hr.u65
  have hv1 := hr.u1
  unfold m_passes
  exact (ss_cons (s_for PassesOwn.never rfl (i_zip3 rfl h_zip s_v s_v (s_fn (F_arrivals.mono (by decide)) hr rfl (a_cons s_v (a_cons s_v a_nil)) (aLen_cons (aLen_cons aLen_nil)))) (g_tup rfl (gs_cons (g_tup rfl (gs_cons (g_n sc.nd) (gs_cons (g_n sc.nd) gs_nil)) rfl rfl (gCons_len (gCons_len gNil_len))) (gs_cons (g_tup rfl (gs_cons (g_n sc.nd) (gs_cons (g_n sc.nd) gs_nil)) rfl rfl (gCons_len (gCons_len gNil_len))) (gs_cons (g_n sc.nd) gs_nil))) rfl rfl (gCons_len (gCons_len (gCons_len gNil_len))))
 (ss_one (s_ifS (t_cmp od_ge (s_bin od_mod (s_bin od_sub (s_bin od_sub s_v (s_ix s_v s_v)) s_v) s_v) s_v)
 (ss_one (s_ret s_bl))
 ss_nil)))
 (ss_one (s_ret s_bl)))
theorem sc_band : FnScope ["line", "greens", "L", "offsets", "start"] ["line", "greens", "L", "offsets"] (defScope st_band) := ⟨rfl, rfl, rfl, by decide +kernel, rfl, by decide +kernel, by decide +kernel⟩
def m_band : M Out :=
 (sRet (eCall tupG (aCons (eLst (eComp [4] (gN 4) (tru (eFn S_passes (aCons (eVar 0) (aCons (eVar 1) (aCons (eVar 2) (aCons (eVar 3) (aCons (eVar 4) aNil))))))) (eVar 4) (iRg1 (eVar 2)))) aNil)))
def S_band : FnSem := fnOf 5 m_band
theorem w_band {P : Program} {w : World} {K : PySem.W.Frag} {mg : Str → Option Value} {base : Heap} {f : Addr} {fd : FuncData} (F : FP K "band" st_band f fd) (hm : mg "band" = some (.ref f)) (h_range : mg "range" = none) (h_tuple : mg "tuple" = none) (F_passes : Fn P w K mg base 2 "passes" 5 S_passes) : Fn P w K mg base 3 "band" 4 S_band := by
  have sc := sc_band
  refine fn_body (k := 2) (N := ["line", "greens", "L", "offsets", "start"]) (m := m_band) F hm (F.bindsN (ps := ["line", "greens", "L", "offsets"]) fun _ _ _ _ _ _ us hl => match us, hl with | [_, _, _, _], _ => rfl) sc (by decide) fun cdv A outer s H hr => ?_
  have hu := hr.u64
  have hv := hr.u65
  have hv1 := hr.u1
  unfold m_band
  exact (ss_one (s_ret (s_callT c_tup rfl h_tuple (by decide +kernel) (a_cons (s_ofL (l_comp (own := [("start", 4)]) ⟨rfl, sc.nd, (blk_of rfl (by kernel_rfl)), by decide, fun _ _ _ _ _ => (g_n sc.nd), fun _ _ _ _ _ => (f_one (t_of (s_fn (F_passes.mono (by decide)) hr rfl (a_cons s_v (a_cons s_v (a_cons s_v (a_cons s_v (a_cons s_v a_nil))))) (aLen_cons (aLen_cons (aLen_cons (aLen_cons (aLen_cons aLen_nil)))))))), fun _ _ _ _ _ => s_v⟩ (i_rg1 rfl h_range s_v))) a_nil))))
theorem sc_band_bound : FnScope ["greens", "begin", "length"] ["greens"] (defScope st_band_bound) := ⟨rfl, rfl, rfl, by decide +kernel, rfl, by decide +kernel, by decide +kernel⟩
def m_band_bound : M Out :=
 (sRet (eCall minG (aCons (eLst (eComp [1, 2] (gT (gCons (gN 1) (gCons (gN 2) gNil))) (ret true) (eVar 2) (iSeq (eVar 0)))) aNil)))
def S_band_bound : FnSem := fnOf 3 m_band_bound
theorem w_band_bound {P : Program} {w : World} {K : PySem.W.Frag} {mg : Str → Option Value} {base : Heap} {f : Addr} {fd : FuncData} (F : FP K "band_bound" st_band_bound f fd) (hm : mg "band_bound" = some (.ref f)) (h_min : mg "min" = none) : Fn P w K mg base 1 "band_bound" 1 S_band_bound := by
  have sc := sc_band_bound
  refine fn_body (k := 0) (N := ["greens", "begin", "length"]) (m := m_band_bound) F hm (F.bindsN (ps := ["greens"]) fun _ _ _ _ _ _ us hl => match us, hl with | [_], _ => rfl) sc (by decide) fun cdv A outer s H hr => ?_
  have hu := hr.u64
  have hv := hr.u65
  have hv1 := hr.u1
  unfold m_band_bound
  exact (ss_one (s_ret (s_callB (c_min rfl) rfl h_min (by decide +kernel) (a_cons (s_ofL (l_comp (own := [("begin", 1), ("length", 2)]) ⟨rfl, sc.nd, (blk_of rfl (by kernel_rfl)), by decide, fun _ _ _ _ _ => (g_tup rfl (gs_cons (g_n sc.nd) (gs_cons (g_n sc.nd) gs_nil)) rfl rfl (gCons_len (gCons_len gNil_len))), fun _ _ _ _ _ => f_nil, fun _ _ _ _ _ => s_v⟩ (i_seq s_v))) a_nil))))
theorem sc_offsets_of_line : FnScope ["m", "line", "greens", "L", "found", "crossing", "time", "begin", "length", "tick"] ["m", "line", "greens", "L"] (defScope st_offsets_of_line) := ⟨rfl, rfl, rfl, by decide +kernel, rfl, by decide +kernel, by decide +kernel⟩
def m_offsets_of_line : M Out :=
 (sSeq (sOwn 4 (eComp [5] (gN 5) (ret true) (eC (.int 0)) (iRg1 (eVar 0))))
 (sSeq (sFor (iZip3 (eVar 1) (eVar 2) (eFn S_arrivals (aCons (eVar 1) (aCons (eC (.int 0)) aNil)))) (gT (gCons (gT (gCons (gN 5) (gCons (gN 6) gNil))) (gCons (gT (gCons (gN 7) (gCons (gN 8) gNil))) (gCons (gN 9) gNil))))
 (sSetIx 4 (eBin modD (eBin subD (eBin addD (eBin ixD (eBin ixD (eVar 2) (eC (.int 0))) (eC (.int 0))) (eVar 9)) (eVar 7)) (eVar 3)) (eVar 5)))
 (sRet (eCall tupG (aCons (eFrz 4) aNil)))))
def S_offsets_of_line : FnSem := fnOf 10 m_offsets_of_line
theorem w_offsets_of_line {P : Program} {w : World} {K : PySem.W.Frag} {mg : Str → Option Value} {base : Heap} {f : Addr} {fd : FuncData} (F : FP K "offsets_of_line" st_offsets_of_line f fd) (hm : mg "offsets_of_line" = some (.ref f)) (h_range : mg "range" = none) (h_tuple : mg "tuple" = none) (h_zip : mg "zip" = none) (F_arrivals : Fn P w K mg base 1 "arrivals" 2 S_arrivals) : Fn P w K mg base 2 "offsets_of_line" 4 S_offsets_of_line := by
  have sc := sc_offsets_of_line
  refine fn_body (k := 1) (N := ["m", "line", "greens", "L", "found", "crossing", "time", "begin", "length", "tick"]) (m := m_offsets_of_line) F hm (F.bindsN (ps := ["m", "line", "greens", "L"]) fun _ _ _ _ _ _ us hl => match us, hl with | [_, _, _, _], _ => rfl) sc (by decide) fun cdv A outer s H hr => ?_
  have hu := hr.u64
  have hv := hr.u65
  have hv1 := hr.u1
  unfold m_offsets_of_line
  exact (ss_cons (s_ownLc (own := [("crossing", 5)])  rfl rfl rfl ⟨rfl, sc.nd, (blk_of rfl (by kernel_rfl)), by decide, fun _ _ _ _ _ => (g_n sc.nd), fun _ _ _ _ _ => f_nil, fun _ _ _ _ _ => s_int⟩ (i_rg1 rfl h_range s_v))
 (ss_cons (s_for PassesOwn.never rfl (i_zip3 rfl h_zip s_v s_v (s_fn (F_arrivals.mono (by decide)) hr rfl (a_cons s_v (a_cons s_int a_nil)) (aLen_cons (aLen_cons aLen_nil)))) (g_tup rfl (gs_cons (g_tup rfl (gs_cons (g_n sc.nd) (gs_cons (g_n sc.nd) gs_nil)) rfl rfl (gCons_len (gCons_len gNil_len))) (gs_cons (g_tup rfl (gs_cons (g_n sc.nd) (gs_cons (g_n sc.nd) gs_nil)) rfl rfl (gCons_len (gCons_len gNil_len))) (gs_cons (g_n sc.nd) gs_nil))) rfl rfl (gCons_len (gCons_len (gCons_len gNil_len))))
 (ss_one (s_setIx pv s_v (s_bin od_mod (s_bin od_sub (s_bin od_add (s_ix (s_ix s_v s_int) s_int) s_v) s_v) s_v))))
 (ss_one (s_ret (s_callT c_tup rfl h_tuple (by decide +kernel) (a_cons (s_frz pv) a_nil))))))
theorem sc__law_open_cells : FnScope ["script", "stirred", "cell", "cells"] ["script"] (defScope st__law_open_cells) := ⟨rfl, rfl, rfl, by decide +kernel, rfl, by decide +kernel, by decide +kernel⟩
theorem w__law_open_cells {k : Nat} {P : Program} {w : World} {K : PySem.W.Frag} {mg : Str → Option Value} {base : Heap} {f : Addr} {fd : FuncData} (F : FP K "_law_open_cells" st__law_open_cells f fd) (hm : mg "_law_open_cells" = some (.ref f)) (h_int : mg "int" = none) (h_abs : mg "abs" = none) : FnW P w K mg base (k + 1) "_law_open_cells" (spOpen K) := by
  have sc := sc__law_open_cells
  refine fn_raw F hm (F.bindsN (ps := ["script"]) fun _ _ _ _ _ _ us hl => match us, hl with | [_], _ => rfl) sc (fun vs H Q h => by obtain ⟨a, ns, rfl, _⟩ := h; rfl) (fun cdv A outer s H hr => ?_) open_pure
  exact pss_cons (ps_set sc.nd rfl (by first | exact Or.inl rfl | exact Or.inr rfl) pe_int)
    (pss_cons (ps_for PassesOwn.never rfl (pi_list pv) (pg_name sc.nd rfl (by first | exact Or.inl rfl | exact Or.inr rfl)) (pss_one (ps_set sc.nd rfl (by first | exact Or.inl rfl | exact Or.inr rfl)
      (pe_op op_modN (pe_callTy call_int1 rfl h_int (by decide +kernel) (pa_cons (pe_op op_add (pe_op op_add (pe_op op_mul pv pe_int) (pe_op op_mul pv pe_int)) pe_int) pa_nil)) pe_int))))
    (pss_cons (ps_setLc (own := [("cell", 2)]) rfl sc.nd rfl rfl rfl (pi_list pv) (blk_of rfl (by kernel_rfl)) (fun _ _ _ _ _ => pg_name sc.nd rfl (by first | exact Or.inl rfl | exact Or.inr rfl)) (fun _ _ _ _ _ => pts_nil) (fun _ _ _ _ _ => pe_callB call_abs rfl h_abs (by decide +kernel) (pa_cons pv pa_nil)))
    (pss_one (ps_ret (pe_disp (pps_cons pe_str (pe_revL pv) (pps_cons pe_str pe_int (pps_cons pe_str pv (pps_cons pe_str pe_int pps_nil)))) rfl rfl (by simp) (by decide))))))
theorem sc__law_pick : FnScope ["source", "most", "cells", "others", "lap", "stirred"] ["source", "most"] (defScope st__law_pick) := ⟨rfl, rfl, rfl, by decide +kernel, rfl, by decide +kernel, by decide +kernel⟩
def S__law_pick : FnSem := S_pick
theorem w__law_pick {P : Program} {w : World} {K : PySem.W.Frag} {mg : Str → Option Value} {base : Heap} {f : Addr} {fd : FuncData} (F : FP K "_law_pick" st__law_pick f fd) (hm : mg "_law_pick" = some (.ref f)) (h_int : mg "int" = none) (h_len : mg "len" = none) : Fn P w K mg base 1 "_law_pick" 2 S__law_pick := by
  have sc := sc__law_pick
  refine fn_body (N := ["source", "most", "cells", "others", "lap", "stirred"]) (m := mPick) F hm (F.bindsN (ps := ["source", "most"]) fun _ _ _ _ _ _ us hl => match us, hl with | [_, _], _ => rfl) sc (by decide) fun cdv A outer s H hr => ?_
  have hu := hr.u1
  have lo : ∀ i : Nat, True := fun _ => trivial
  unfold mPick
  refine ss_cons (s_ifS (t_cmp od_lt s_v s_int) (ss_one (s_ret s_int)) ss_nil) ?_
  refine s_drain (by decide) (ps_set sc.nd rfl (by first | exact Or.inl rfl | exact Or.inr rfl) (pe_dget hu pv pe_str (fun _ _ => rfl)))
    (ps_while PassesOwn.never (PW.pt (pw_and (pt_cmpR op_lt (pe_dget hu pv pe_str (fun _ _ => rfl)) pe_int rfl) (pw_and1 (pt_cmpR op_gt (pe_callB call_len rfl h_len (by decide +kernel) (pa_cons pv pa_nil)) pe_int rfl))))
      (pss_one (ps_dput hu pv pe_str (pe_bm0 PySem.F.plainAttrs_list PySem.F.slot_list_pop PySem.F.type_list_pop mt_pop pv) rfl))) ?_
  have fl : ∀ s c, valV (srcKvs c s) (.inr (Str.ofString "left")) = some (.int s.left) := fun _ _ => rfl
  have ft : ∀ s c, valV (srcKvs c s) (.inr (Str.ofString "turn")) = some (.int s.turn) := fun _ _ => rfl
  have fm : ∀ s c, valV (srcKvs c s) (.inr (Str.ofString "mixed")) = some (.int s.mixed) := fun _ _ => rfl
  have pl : ∀ (s : Src) (z : Int) (c : Addr), putK (srcKvs c s) (.inr (Str.ofString "left")) (.int z) = srcKvs c { s with left := z } := fun _ _ _ => rfl
  have pt : ∀ (s : Src) (z : Int) (c : Addr), putK (srcKvs c s) (.inr (Str.ofString "turn")) (.int z) = srcKvs c { s with turn := z } := fun _ _ _ => rfl
  refine ss_cons (s_set sc.nd rfl (by first | exact Or.inl rfl | exact Or.inr rfl) (s_fld (ky := "left") pv hu fl)) ?_
  refine ss_cons (s_ifS (t_cmp od_gt s_v s_int) (ss_cons (s_fldSet (ky := "left") pv hu (s_bin od_fdiv s_v s_v) pl (fun _ _ => rfl)) (ss_one (s_ret (s_bin od_mod (s_callT c_int rfl h_int (by decide +kernel) (a_cons s_v a_nil)) s_v)))) ss_nil) ?_
  refine ss_cons (s_fldSet (ky := "turn") pv hu (s_bin od_add (s_fld (ky := "turn") pv hu ft) s_int) pt (fun _ _ => rfl)) ?_
  refine ss_cons (s_set sc.nd rfl (by first | exact Or.inl rfl | exact Or.inr rfl) (s_fld (ky := "turn") pv hu ft)) ?_
  refine ss_cons (s_set sc.nd rfl (by first | exact Or.inl rfl | exact Or.inr rfl) (s_bin od_mod (s_callT c_int rfl h_int (by decide +kernel) (a_cons (s_bin od_add (s_fld (ky := "mixed") pv hu fm) (s_bin od_mul s_v s_int)) a_nil)) s_int)) ?_
  refine ss_cons (s_set sc.nd rfl (by first | exact Or.inl rfl | exact Or.inr rfl) (s_bin od_mod (s_callT c_int rfl h_int (by decide +kernel) (a_cons (s_bin od_add (s_bin od_mul s_v s_v) (s_bin od_mul s_v s_int)) a_nil)) s_int)) ?_
  exact ss_one (s_ret (s_bin od_mod (s_callT c_int rfl h_int (by decide +kernel) (a_cons (s_bin od_fdiv s_v s_int) a_nil)) s_v))
theorem sc__law_any_order : FnScope ["source", "things", "others", "lap"] ["source", "things"] (defScope st__law_any_order) := ⟨rfl, rfl, rfl, by decide +kernel, rfl, by decide +kernel, by decide +kernel⟩
def m__law_any_order : M Out :=
 (sSeq (sOwn 2 (eCallL lstG (aCons (eVar 1) aNil)))
 (sRet (eLst (eComp [3] (gN 3) (ret true) (ePopAt 2 (eFn S__law_pick (aCons (eVar 0) (aCons (eBor [2] (eCall lenG (aCons (eVar 2) aNil))) aNil)))) (iRg1 (eBor [2] (eCall lenG (aCons (eVar 2) aNil))))))))
def S__law_any_order : FnSem := fnOf 4 m__law_any_order
theorem w__law_any_order {P : Program} {w : World} {K : PySem.W.Frag} {mg : Str → Option Value} {base : Heap} {f : Addr} {fd : FuncData} (F : FP K "_law_any_order" st__law_any_order f fd) (hm : mg "_law_any_order" = some (.ref f)) (h_len : mg "len" = none) (h_list : mg "list" = none) (h_range : mg "range" = none) (F__law_pick : Fn P w K mg base 1 "_law_pick" 2 S__law_pick) : Fn P w K mg base 2 "_law_any_order" 2 S__law_any_order := by
  have sc := sc__law_any_order
  refine fn_body (k := 1) (N := ["source", "things", "others", "lap"]) (m := m__law_any_order) F hm (F.bindsN (ps := ["source", "things"]) fun _ _ _ _ _ _ us hl => match us, hl with | [_, _], _ => rfl) sc (by decide) fun cdv A outer s H hr => ?_
  have hu := hr.u64
  have hv := hr.u65
  have hv1 := hr.u1
  unfold m__law_any_order
  exact (ss_cons (s_own sc.nd rfl (by first | exact Or.inl rfl | exact Or.inr rfl) (l_callT c_lst rfl h_list boot_list (a_cons s_v a_nil)))
 (ss_one (s_ret (s_ofL (l_comp (own := [("lap", 3)]) ⟨rfl, sc.nd, (blk_of rfl (by kernel_rfl)), by decide, fun _ _ _ _ _ => (g_n sc.nd), fun _ _ _ _ _ => f_nil, fun _ _ _ _ _ => (s_popAt pv (s_fn (F__law_pick.mono (by decide)) hr rfl (a_cons s_v (a_cons (s_bor (s_callB c_len rfl h_len (by decide +kernel) (a_cons s_v a_nil))) a_nil)) (aLen_cons (aLen_cons aLen_nil))))⟩ (i_rg1 rfl h_range (s_bor (s_callB c_len rfl h_len (by decide +kernel) (a_cons s_v a_nil)))))))))
theorem sc__law_rest : FnScope ["number", "L"] ["number", "L"] (defScope st__law_rest) := ⟨rfl, rfl, rfl, by decide +kernel, rfl, by decide +kernel, by decide +kernel⟩
def m__law_rest : M Out :=
 (sRet (eBin modD (eCall intG (aCons (eVar 0) aNil)) (eVar 1)))
def S__law_rest : FnSem := fnOf 2 m__law_rest
theorem w__law_rest {P : Program} {w : World} {K : PySem.W.Frag} {mg : Str → Option Value} {base : Heap} {f : Addr} {fd : FuncData} (F : FP K "_law_rest" st__law_rest f fd) (hm : mg "_law_rest" = some (.ref f)) (h_int : mg "int" = none) : Fn P w K mg base 1 "_law_rest" 2 S__law_rest := by
  have sc := sc__law_rest
  refine fn_body (k := 0) (N := ["number", "L"]) (m := m__law_rest) F hm (F.bindsN (ps := ["number", "L"]) fun _ _ _ _ _ _ us hl => match us, hl with | [_, _], _ => rfl) sc (by decide) fun cdv A outer s H hr => ?_
  have hu := hr.u64
  have hv := hr.u65
  have hv1 := hr.u1
  unfold m__law_rest
  exact (ss_one (s_ret (s_bin od_mod (s_callT c_int rfl h_int (by decide +kernel) (a_cons s_v a_nil)) s_v)))
theorem sc__law_line_ticks : FnScope ["line", "start", "found", "tick", "crossing", "time"] ["line", "start"] (defScope st__law_line_ticks) := ⟨rfl, rfl, rfl, by decide +kernel, rfl, by decide +kernel, by decide +kernel⟩
def m__law_line_ticks : M Out :=
 (sSeq (sPar [2, 3] (pOwn (lDisp aNil) (pVal (eVar 1) pNil)))
 (sSeq (sFor (iSeq (eVar 0)) (gT (gCons (gN 4) (gCons (gN 5) gNil)))
 (sSeq (sSet 3 (eBin addD (eVar 3) (eVar 5)))
 (sExpr (eApp 2 (eVar 3)))))
 (sRet (eFrz 2))))
def S__law_line_ticks : FnSem := fnOf 6 m__law_line_ticks
theorem w__law_line_ticks {P : Program} {w : World} {K : PySem.W.Frag} {mg : Str → Option Value} {base : Heap} {f : Addr} {fd : FuncData} (F : FP K "_law_line_ticks" st__law_line_ticks f fd) (hm : mg "_law_line_ticks" = some (.ref f)) : Fn P w K mg base 1 "_law_line_ticks" 2 S__law_line_ticks := by
  have sc := sc__law_line_ticks
  refine fn_body (k := 0) (N := ["line", "start", "found", "tick", "crossing", "time"]) (m := m__law_line_ticks) F hm (F.bindsN (ps := ["line", "start"]) fun _ _ _ _ _ _ us hl => match us, hl with | [_, _], _ => rfl) sc (by decide) fun cdv A outer s H hr => ?_
  have hu := hr.u64
  have hv := hr.u65
  have hv1 := hr.u1
  unfold m__law_line_ticks
  exact (ss_cons (s_par2 rfl sc.nd rfl rfl (by decide) rfl rfl (p_own (l_dsp a_nil) (p_val s_v p_nil)) rfl)
 (ss_cons (s_for PassesOwn.never rfl (i_seq s_v) (g_tup rfl (gs_cons (g_n sc.nd) (gs_cons (g_n sc.nd) gs_nil)) rfl rfl (gCons_len (gCons_len gNil_len)))
 (ss_cons (s_set sc.nd rfl (by first | exact Or.inl rfl | exact Or.inr rfl) (s_bin od_add s_v s_v))
 (ss_one (s_expr (s_append pv s_v)))))
 (ss_one (s_ret (s_frz pv)))))
theorem sc__law_band : FnScope ["line", "greens", "L", "offsets", "found", "start", "is_on", "one", "green", "tick"] ["line", "greens", "L", "offsets"] (defScope st__law_band) := ⟨rfl, rfl, rfl, by decide +kernel, rfl, by decide +kernel, by decide +kernel⟩
def m__law_band : M Out :=
 (sSeq (sSet 4 (eLst (lDisp aNil)))
 (sSeq (sFor (iRg1 (eVar 2)) (gN 5)
 (sSeq (sSet 6 (eC (.bl true)))
 (sSeq (sFor (iZip3 (eVar 0) (eVar 1) (eFn S__law_line_ticks (aCons (eVar 0) (aCons (eVar 5) aNil)))) (gT (gCons (gN 7) (gCons (gN 8) (gCons (gN 9) gNil))))
 (sSet 6 (eAnd (eVar 6) (eBin ltD (eFn S__law_rest (aCons (eBin subD (eBin subD (eVar 9) (eBin ixD (eVar 3) (eBin ixD (eVar 7) (eC (.int 0))))) (eBin ixD (eVar 8) (eC (.int 0)))) (aCons (eVar 2) aNil))) (eBin ixD (eVar 8) (eC (.int 1)))))))
 (sSet 4 (eBin addD (eVar 4) (eBin mulD (eLst (lDisp (aCons (eVar 5) aNil))) (eCall intG (aCons (eVar 6) aNil))))))))
 (sRet (eCall tupG (aCons (eVar 4) aNil)))))
def S__law_band : FnSem := fnOf 10 m__law_band
theorem w__law_band {P : Program} {w : World} {K : PySem.W.Frag} {mg : Str → Option Value} {base : Heap} {f : Addr} {fd : FuncData} (F : FP K "_law_band" st__law_band f fd) (hm : mg "_law_band" = some (.ref f)) (h_int : mg "int" = none) (h_range : mg "range" = none) (h_tuple : mg "tuple" = none) (h_zip : mg "zip" = none) (F__law_line_ticks : Fn P w K mg base 1 "_law_line_ticks" 2 S__law_line_ticks) (F__law_rest : Fn P w K mg base 1 "_law_rest" 2 S__law_rest) : Fn P w K mg base 2 "_law_band" 4 S__law_band := by
  have sc := sc__law_band
  refine fn_body (k := 1) (N := ["line", "greens", "L", "offsets", "found", "start", "is_on", "one", "green", "tick"]) (m := m__law_band) F hm (F.bindsN (ps := ["line", "greens", "L", "offsets"]) fun _ _ _ _ _ _ us hl => match us, hl with | [_, _, _, _], _ => rfl) sc (by decide) fun cdv A outer s H hr => ?_
  have hu := hr.u64
  have hv := hr.u65
  have hv1 := hr.u1
  unfold m__law_band
  exact (ss_cons (s_set sc.nd rfl (by first | exact Or.inl rfl | exact Or.inr rfl) (s_ofL (l_dsp a_nil)))
 (ss_cons (s_for PassesOwn.never rfl (i_rg1 rfl h_range s_v) (g_n sc.nd)
 (ss_cons (s_set sc.nd rfl (by first | exact Or.inl rfl | exact Or.inr rfl) s_bl)
 (ss_cons (s_for PassesOwn.never rfl (i_zip3 rfl h_zip s_v s_v (s_fn (F__law_line_ticks.mono (by decide)) hr rfl (a_cons s_v (a_cons s_v a_nil)) (aLen_cons (aLen_cons aLen_nil)))) (g_tup rfl (gs_cons (g_n sc.nd) (gs_cons (g_n sc.nd) (gs_cons (g_n sc.nd) gs_nil))) rfl rfl (gCons_len (gCons_len (gCons_len gNil_len))))
 (ss_one (s_set sc.nd rfl (by first | exact Or.inl rfl | exact Or.inr rfl) (s_and s_v (s_one (s_cmp od_lt (s_fn (F__law_rest.mono (by decide)) hr rfl (a_cons (s_bin od_sub (s_bin od_sub s_v (s_ix s_v (s_ix s_v s_int))) (s_ix s_v s_int)) (a_cons s_v a_nil)) (aLen_cons (aLen_cons aLen_nil))) (s_ix s_v s_int)))))))
 (ss_one (s_set sc.nd rfl (by first | exact Or.inl rfl | exact Or.inr rfl) (s_bin od_add s_v (s_bin od_mul (s_ofL (l_dsp (a_cons s_v a_nil))) (s_callT c_int rfl h_int (by decide +kernel) (a_cons s_v a_nil)))))))))
 (ss_one (s_ret (s_callT c_tup rfl h_tuple (by decide +kernel) (a_cons s_v a_nil))))))
theorem sc__law_draw_line : FnScope ["source", "m", "cells", "k", "cell"] ["source", "m"] (defScope st__law_draw_line) := ⟨rfl, rfl, rfl, by decide +kernel, rfl, by decide +kernel, by decide +kernel⟩
def m__law_draw_line : M Out :=
 (sSeq (sSet 2 (eSl (eFn S__law_any_order (aCons (eVar 0) (aCons (eLst (lRg1 (eVar 1))) aNil))) oNo (oAt (eBin addD (eC (.int 1)) (eFn S__law_pick (aCons (eVar 0) (aCons (eVar 1) aNil)))))))
 (sRet (eCall tupG (aCons (eLst (eComp [3, 4] (gT (gCons (gN 3) (gCons (gN 4) gNil))) (ret true) (eTup (aCons (eVar 4) (aCons (eIf (tst (eBin eqD (eVar 3) (eC (.int 0)))) (eC (.int 0)) (eFn S__law_pick (aCons (eVar 0) (aCons (eC (.int 30)) aNil)))) aNil))) (iEnum (eVar 2)))) aNil))))
def S__law_draw_line : FnSem := fnOf 5 m__law_draw_line
theorem w__law_draw_line {P : Program} {w : World} {K : PySem.W.Frag} {mg : Str → Option Value} {base : Heap} {f : Addr} {fd : FuncData} (F : FP K "_law_draw_line" st__law_draw_line f fd) (hm : mg "_law_draw_line" = some (.ref f)) (h_enumerate : mg "enumerate" = none) (h_list : mg "list" = none) (h_range : mg "range" = none) (h_tuple : mg "tuple" = none) (F__law_any_order : Fn P w K mg base 2 "_law_any_order" 2 S__law_any_order) (F__law_pick : Fn P w K mg base 1 "_law_pick" 2 S__law_pick) : Fn P w K mg base 3 "_law_draw_line" 2 S__law_draw_line := by
  have sc := sc__law_draw_line
  refine fn_body (k := 2) (N := ["source", "m", "cells", "k", "cell"]) (m := m__law_draw_line) F hm (F.bindsN (ps := ["source", "m"]) fun _ _ _ _ _ _ us hl => match us, hl with | [_, _], _ => rfl) sc (by decide) fun cdv A outer s H hr => ?_
  have hu := hr.u64
  have hv := hr.u65
  have hv1 := hr.u1
  unfold m__law_draw_line
  exact (ss_cons (s_set sc.nd rfl (by first | exact Or.inl rfl | exact Or.inr rfl) (s_slice (s_fn (F__law_any_order.mono (by decide)) hr rfl (a_cons s_v (a_cons (s_ofL (l_rg1 rfl rfl h_list rfl h_range s_v)) a_nil)) (aLen_cons (aLen_cons aLen_nil))) o_no (o_at (s_bin od_add s_int (s_fn (F__law_pick.mono (by decide)) hr rfl (a_cons s_v (a_cons s_v a_nil)) (aLen_cons (aLen_cons aLen_nil)))))))
 (ss_one (s_ret (s_callT c_tup rfl h_tuple (by decide +kernel) (a_cons (s_ofL (l_comp (own := [("k", 3), ("cell", 4)]) ⟨rfl, sc.nd, (blk_of rfl (by kernel_rfl)), by decide, fun _ _ _ _ _ => (g_tup rfl (gs_cons (g_n sc.nd) (gs_cons (g_n sc.nd) gs_nil)) rfl rfl (gCons_len (gCons_len gNil_len))), fun _ _ _ _ _ => f_nil, fun _ _ _ _ _ => (s_tup (a_cons s_v (a_cons (s_if (t_cmp (od_eq hu) s_v s_int) s_int (s_fn (F__law_pick.mono (by decide)) hr rfl (a_cons s_v (a_cons s_int a_nil)) (aLen_cons (aLen_cons aLen_nil)))) a_nil)))⟩ (i_enum rfl h_enumerate s_v))) a_nil)))))
theorem sc__law_draw_greens : FnScope ["source", "many", "L", "lap"] ["source", "many", "L"] (defScope st__law_draw_greens) := ⟨rfl, rfl, rfl, by decide +kernel, rfl, by decide +kernel, by decide +kernel⟩
def m__law_draw_greens : M Out :=
 (sRet (eCall tupG (aCons (eLst (eComp [3] (gN 3) (ret true) (eTup (aCons (eBin subD (eFn S__law_pick (aCons (eVar 0) (aCons (eBin mulD (eC (.int 4)) (eVar 2)) aNil))) (eBin mulD (eC (.int 2)) (eVar 2))) (aCons (eFn S__law_pick (aCons (eVar 0) (aCons (eBin addD (eVar 2) (eC (.int 1))) aNil))) aNil))) (iRg1 (eVar 1)))) aNil)))
def S__law_draw_greens : FnSem := fnOf 4 m__law_draw_greens
theorem w__law_draw_greens {P : Program} {w : World} {K : PySem.W.Frag} {mg : Str → Option Value} {base : Heap} {f : Addr} {fd : FuncData} (F : FP K "_law_draw_greens" st__law_draw_greens f fd) (hm : mg "_law_draw_greens" = some (.ref f)) (h_range : mg "range" = none) (h_tuple : mg "tuple" = none) (F__law_pick : Fn P w K mg base 1 "_law_pick" 2 S__law_pick) : Fn P w K mg base 2 "_law_draw_greens" 3 S__law_draw_greens := by
  have sc := sc__law_draw_greens
  refine fn_body (k := 1) (N := ["source", "many", "L", "lap"]) (m := m__law_draw_greens) F hm (F.bindsN (ps := ["source", "many", "L"]) fun _ _ _ _ _ _ us hl => match us, hl with | [_, _, _], _ => rfl) sc (by decide) fun cdv A outer s H hr => ?_
  have hu := hr.u64
  have hv := hr.u65
  have hv1 := hr.u1
  unfold m__law_draw_greens
  exact (ss_one (s_ret (s_callT c_tup rfl h_tuple (by decide +kernel) (a_cons (s_ofL (l_comp (own := [("lap", 3)]) ⟨rfl, sc.nd, (blk_of rfl (by kernel_rfl)), by decide, fun _ _ _ _ _ => (g_n sc.nd), fun _ _ _ _ _ => f_nil, fun _ _ _ _ _ => (s_tup (a_cons (s_bin od_sub (s_fn (F__law_pick.mono (by decide)) hr rfl (a_cons s_v (a_cons (s_bin od_mul s_int s_v) a_nil)) (aLen_cons (aLen_cons aLen_nil))) (s_bin od_mul s_int s_v)) (a_cons (s_fn (F__law_pick.mono (by decide)) hr rfl (a_cons s_v (a_cons (s_bin od_add s_v s_int) a_nil)) (aLen_cons (aLen_cons aLen_nil))) a_nil)))⟩ (i_rg1 rfl h_range s_v))) a_nil))))
theorem sc_law : FnScope ["script", "source", "lap", "m", "L", "line", "greens", "least", "ticks", "told", "wishes", "k", "one", "other", "word", "late", "turn", "there", "go", "offsets", "due", "start", "green", "c"] ["script"] (defScope st_law) := ⟨rfl, rfl, rfl, by decide +kernel, rfl, by decide +kernel, by decide +kernel⟩
def m_law : M Out :=
 (sSeq (sFor (iRg1 (eC (.int 4))) (gN 2)
 (sSeq (sPar [3, 4] (pVal (eBin addD (eC (.int 2)) (eFn S__law_pick (aCons (eVar 1) (aCons (eC (.int 4)) aNil)))) (pVal (eBin addD (eC (.int 2)) (eFn S__law_pick (aCons (eVar 1) (aCons (eC (.int 9)) aNil)))) pNil)))
 (sSeq (sSet 5 (eFn S__law_draw_line (aCons (eVar 1) (aCons (eVar 3) aNil))))
 (sSeq (sSet 6 (eFn S__law_draw_greens (aCons (eVar 1) (aCons (eCall lenG (aCons (eVar 5) aNil)) (aCons (eVar 4) aNil)))))
 (sSeq (sPar [7, 8] (pVal (eCall minG (aCons (eLst (eComp [22] (gN 22) (ret true) (eBin ixD (eVar 22) (eC (.int 1))) (iSeq (eVar 6)))) aNil)) (pVal (eFn S__law_line_ticks (aCons (eVar 5) (aCons (eC (.int 0)) aNil))) pNil)))
 (sSeq (sSet 9 (eFn S_offsets_of_line (aCons (eVar 3) (aCons (eVar 5) (aCons (eVar 6) (aCons (eVar 4) aNil))))))
 (sSeq (sIf (tOr2 (tst (eBin neD (eFn S_band_bound (aCons (eVar 6) aNil)) (eVar 7))) (tst (eBin neD (eFn S_arrivals (aCons (eVar 5) (aCons (eC (.int 0)) aNil))) (eCall tupG (aCons (eVar 8) aNil)))))
 (sRet (eC (.bl false)))
 sNx)
 (sSeq (sIf (tst (eBin neD (eFn S_band (aCons (eVar 5) (aCons (eVar 6) (aCons (eVar 4) (aCons (eVar 9) aNil))))) (eFn S__law_band (aCons (eVar 5) (aCons (eVar 6) (aCons (eVar 4) (aCons (eVar 9) aNil)))))))
 (sRet (eC (.bl false)))
 sNx)
 (sSeq (sIf (tst (eBin neD (eCall lenG (aCons (eFn S__law_band (aCons (eVar 5) (aCons (eVar 6) (aCons (eVar 4) (aCons (eVar 9) aNil))))) aNil)) (eVar 7)))
 (sRet (eC (.bl false)))
 sNx)
 (sSeq (sOwn 10 (lDisp aNil))
 (sSeq (sFor (iRg2 (eC (.int 1)) (eCall lenG (aCons (eVar 5) aNil))) (gN 11)
 (sSeq (sPar [12, 13] (pVal (eBin ixD (eBin ixD (eVar 5) (eBin subD (eVar 11) (eC (.int 1)))) (eC (.int 0))) (pVal (eBin ixD (eBin ixD (eVar 5) (eVar 11)) (eC (.int 0))) pNil)))
 (sSeq (sExpr (eApp 10 (eFn S_wish_of (aCons (eVar 12) (aCons (eBin ixD (eBin ixD (eVar 6) (eBin subD (eVar 11) (eC (.int 1)))) (eC (.int 0))) (aCons (eVar 13) (aCons (eBin ixD (eBin ixD (eVar 6) (eVar 11)) (eC (.int 0))) (aCons (eBin ixD (eBin ixD (eVar 5) (eVar 11)) (eC (.int 1))) aNil))))))))
 (sIf (tst (eBin neD (eIxO 10 (eUn negD (eC (.int 1)))) (eTup (aCons (eVar 12) (aCons (eVar 13) (aCons (eBin subD (eBin addD (eBin ixD (eBin ixD (eVar 6) (eBin subD (eVar 11) (eC (.int 1)))) (eC (.int 0))) (eBin ixD (eBin ixD (eVar 5) (eVar 11)) (eC (.int 1)))) (eBin ixD (eBin ixD (eVar 6) (eVar 11)) (eC (.int 0)))) aNil))))))
 (sRet (eC (.bl false)))
 sNx))))
 (sSeq (sAsg (eFn S_offsets_for (aCons (eVar 3) (aCons (eCall tupG (aCons (eFrz 10) aNil)) (aCons (eVar 4) aNil)))) (gT (gCons (gN 14) (gCons (gN 15) gNil))))
 (sSeq (sIf (tOr2 (tst (eBin neD (eVar 14) (eC (.str "offsets")))) (tst (eBin neD (eFn S_kept (aCons (eCall tupG (aCons (eFrz 10) aNil)) (aCons (eVar 4) (aCons (eVar 9) aNil)))) (eTupRg (eBor [10] (eCall lenG (aCons (eVar 10) aNil)))))))
 (sRet (eC (.bl false)))
 sNx)
 (sSeq (sIf (tOr2 (tst (eBin neD (eCall lenG (aCons (eFn S_band (aCons (eVar 5) (aCons (eVar 6) (aCons (eVar 4) (aCons (eVar 15) aNil))))) aNil)) (eVar 7))) (tst (eBin neD (eCall lenG (aCons (eFn S__law_band (aCons (eVar 5) (aCons (eVar 6) (aCons (eVar 4) (aCons (eVar 15) aNil))))) aNil)) (eVar 7))))
 (sRet (eC (.bl false)))
 sNx)
 (sSeq (sSet 16 (eBin subD (eFn S__law_pick (aCons (eVar 1) (aCons (eC (.int 60)) aNil))) (eC (.int 30))))
 (sSeq (sSet 17 (eFn S_band (aCons (eVar 5) (aCons (eVar 6) (aCons (eVar 4) (aCons (eFn S_turned_offsets (aCons (eVar 9) (aCons (eVar 4) (aCons (eVar 16) aNil)))) aNil))))))
 (sSeq (sIf (tst (eBin neD (eVar 17) (eCall tupG (aCons (eLst (eCallL srtG (aCons (eLst (eComp [21] (gN 21) (ret true) (eFn S__law_rest (aCons (eBin addD (eVar 21) (eVar 16)) (aCons (eVar 4) aNil))) (iSeq (eFn S__law_band (aCons (eVar 5) (aCons (eVar 6) (aCons (eVar 4) (aCons (eVar 9) aNil)))))))) aNil))) aNil))))
 (sRet (eC (.bl false)))
 sNx)
 (sFor (iRg1 (eC (.int 4))) (gN 18)
 (sSeq (sSet 19 (eCall tupG (aCons (eLst (eComp [23] (gN 23) (ret true) (eFn S__law_pick (aCons (eVar 1) (aCons (eVar 4) aNil))) (iRg1 (eVar 3)))) aNil)))
 (sSeq (sSet 20 (eFn S__law_band (aCons (eVar 5) (aCons (eVar 6) (aCons (eVar 4) (aCons (eVar 19) aNil))))))
 (sSeq (sIf (tOr2 (tst (eBin neD (eFn S_band (aCons (eVar 5) (aCons (eVar 6) (aCons (eVar 4) (aCons (eVar 19) aNil))))) (eVar 20))) (tst (eBin gtD (eCall lenG (aCons (eVar 20) aNil)) (eVar 7))))
 (sRet (eC (.bl false)))
 sNx)
 (sSeq (sSet 21 (eFn S__law_pick (aCons (eVar 1) (aCons (eBin mulD (eC (.int 3)) (eVar 4)) aNil))))
 (sIf (tst (eBin neD (eCall reprG (aCons (eFn S_passes (aCons (eVar 5) (aCons (eVar 6) (aCons (eVar 4) (aCons (eVar 19) (aCons (eVar 21) aNil)))))) aNil)) (eCall reprG (aCons (eBin inD (eFn S__law_rest (aCons (eVar 21) (aCons (eVar 4) aNil))) (eVar 20)) aNil))))
 (sRet (eC (.bl false)))
 sNx)))))))))))))))))))))))
 (sRet (eC (.bl true))))
theorem w_law {P : Program} {w : World} {K : PySem.W.Frag} {mg : Str → Option Value} {base : Heap} {f : Addr} {fd : FuncData} (F : FP K "law" st_law f fd) (hm : mg "law" = some (.ref f)) (h_len : mg "len" = none) (h_min : mg "min" = none) (h_range : mg "range" = none) (h_repr : mg "repr" = none) (h_sorted : mg "sorted" = none) (h_tuple : mg "tuple" = none) (F__law_band : Fn P w K mg base 2 "_law_band" 4 S__law_band) (F__law_draw_greens : Fn P w K mg base 2 "_law_draw_greens" 3 S__law_draw_greens) (F__law_draw_line : Fn P w K mg base 3 "_law_draw_line" 2 S__law_draw_line) (F__law_line_ticks : Fn P w K mg base 1 "_law_line_ticks" 2 S__law_line_ticks) (F__law_pick : Fn P w K mg base 1 "_law_pick" 2 S__law_pick) (F__law_rest : Fn P w K mg base 1 "_law_rest" 2 S__law_rest) (F_arrivals : Fn P w K mg base 1 "arrivals" 2 S_arrivals) (F_band : Fn P w K mg base 3 "band" 4 S_band) (F_band_bound : Fn P w K mg base 1 "band_bound" 1 S_band_bound) (F_kept : Fn P w K mg base 2 "kept" 3 S_kept) (F_offsets_for : Fn P w K mg base 2 "offsets_for" 3 S_offsets_for) (F_offsets_of_line : Fn P w K mg base 2 "offsets_of_line" 4 S_offsets_of_line) (F_passes : Fn P w K mg base 2 "passes" 5 S_passes) (F_turned_offsets : Fn P w K mg base 1 "turned_offsets" 3 S_turned_offsets) (F_wish_of : Fn P w K mg base 1 "wish_of" 5 S_wish_of) (F_open : FnW P w K mg base 3 "_law_open_cells" (spOpen K)) (ok : ∀ src, ∃ s', m_law ⟨lawEnv 24 1, src⟩ = some (.ret (.bl true), s')) : FnW P w K mg base 4 "law" (spLaw K) := by
  have sc := sc_law
  refine law_fn (k := 3) (N := ["script", "source", "lap", "m", "L", "line", "greens", "least", "ticks", "told", "wishes", "k", "one", "other", "word", "late", "turn", "there", "go", "offsets", "due", "start", "green", "c"]) (m := m_law) (i := 1) (y := "script") F hm (F.bindsN (ps := ["script"]) fun _ _ _ _ _ _ us hl => match us, hl with | [_], _ => rfl) sc (by decide) (by decide) (fun cdv A outer s H hr => ⟨?_, ?_⟩) ok
  · exact ps_set sc.nd rfl (by first | exact Or.inl rfl | exact Or.inr rfl) (pe_raw F_open hr rfl (pa_cons pv pa_nil))
  · have hu := hr.u64
    have hv := hr.u65
    have hv1 := hr.u1
    unfold m_law
    exact (ss_cons (s_for PassesOwn.never rfl (i_rg1 rfl h_range s_int) (g_n sc.nd)
 (ss_cons (s_parT rfl (by decide) (pgs_name sc.nd rfl (by first | exact Or.inl rfl | exact Or.inr rfl) (pgs_name sc.nd rfl (by first | exact Or.inl rfl | exact Or.inr rfl) pgs_none)) (p_val (s_bin od_add s_int (s_fn (F__law_pick.mono (by decide)) hr rfl (a_cons s_v (a_cons s_int a_nil)) (aLen_cons (aLen_cons aLen_nil)))) (p_val (s_bin od_add s_int (s_fn (F__law_pick.mono (by decide)) hr rfl (a_cons s_v (a_cons s_int a_nil)) (aLen_cons (aLen_cons aLen_nil)))) p_nil)))
 (ss_cons (s_set sc.nd rfl (by first | exact Or.inl rfl | exact Or.inr rfl) (s_fn (F__law_draw_line.mono (by decide)) hr rfl (a_cons s_v (a_cons s_v a_nil)) (aLen_cons (aLen_cons aLen_nil))))
 (ss_cons (s_set sc.nd rfl (by first | exact Or.inl rfl | exact Or.inr rfl) (s_fn (F__law_draw_greens.mono (by decide)) hr rfl (a_cons s_v (a_cons (s_callB c_len rfl h_len (by decide +kernel) (a_cons s_v a_nil)) (a_cons s_v a_nil))) (aLen_cons (aLen_cons (aLen_cons aLen_nil)))))
 (ss_cons (s_par2 rfl sc.nd rfl rfl (by decide) rfl rfl (p_val (s_callB (c_min rfl) rfl h_min (by decide +kernel) (a_cons (s_ofL (l_comp (own := [("green", 22)]) ⟨rfl, sc.nd, (blk_of rfl (by kernel_rfl)), by decide, fun _ _ _ _ _ => (g_n sc.nd), fun _ _ _ _ _ => f_nil, fun _ _ _ _ _ => (s_ix s_v s_int)⟩ (i_seq s_v))) a_nil)) (p_val (s_fn (F__law_line_ticks.mono (by decide)) hr rfl (a_cons s_v (a_cons s_int a_nil)) (aLen_cons (aLen_cons aLen_nil))) p_nil)) rfl)
 (ss_cons (s_set sc.nd rfl (by first | exact Or.inl rfl | exact Or.inr rfl) (s_fn (F_offsets_of_line.mono (by decide)) hr rfl (a_cons s_v (a_cons s_v (a_cons s_v (a_cons s_v a_nil)))) (aLen_cons (aLen_cons (aLen_cons (aLen_cons aLen_nil))))))
 (ss_cons (s_ifS (SW.t (w_or (t_cmp (od_ne hu) (s_fn (F_band_bound.mono (by decide)) hr rfl (a_cons s_v a_nil) (aLen_cons aLen_nil)) s_v) (w_or1 (t_cmp (od_ne hu) (s_fn (F_arrivals.mono (by decide)) hr rfl (a_cons s_v (a_cons s_int a_nil)) (aLen_cons (aLen_cons aLen_nil))) (s_callT c_tup rfl h_tuple (by decide +kernel) (a_cons s_v a_nil))))))
 (ss_one (s_ret s_bl))
 ss_nil)
 (ss_cons (s_ifS (t_cmp (od_ne hu) (s_fn (F_band.mono (by decide)) hr rfl (a_cons s_v (a_cons s_v (a_cons s_v (a_cons s_v a_nil)))) (aLen_cons (aLen_cons (aLen_cons (aLen_cons aLen_nil))))) (s_fn (F__law_band.mono (by decide)) hr rfl (a_cons s_v (a_cons s_v (a_cons s_v (a_cons s_v a_nil)))) (aLen_cons (aLen_cons (aLen_cons (aLen_cons aLen_nil))))))
 (ss_one (s_ret s_bl))
 ss_nil)
 (ss_cons (s_ifS (t_cmp (od_ne hu) (s_callB c_len rfl h_len (by decide +kernel) (a_cons (s_fn (F__law_band.mono (by decide)) hr rfl (a_cons s_v (a_cons s_v (a_cons s_v (a_cons s_v a_nil)))) (aLen_cons (aLen_cons (aLen_cons (aLen_cons aLen_nil))))) a_nil)) s_v)
 (ss_one (s_ret s_bl))
 ss_nil)
 (ss_cons (s_own sc.nd rfl (by first | exact Or.inl rfl | exact Or.inr rfl) (l_dsp a_nil))
 (ss_cons (s_for PassesOwn.never rfl (i_rg2 rfl h_range s_int (s_callB c_len rfl h_len (by decide +kernel) (a_cons s_v a_nil))) (g_n sc.nd)
 (ss_cons (s_par2 rfl sc.nd rfl rfl (by decide) rfl rfl (p_val (s_ix (s_ix s_v (s_bin od_sub s_v s_int)) s_int) (p_val (s_ix (s_ix s_v s_v) s_int) p_nil)) rfl)
 (ss_cons (s_expr (s_append pv (s_fn (F_wish_of.mono (by decide)) hr rfl (a_cons s_v (a_cons (s_ix (s_ix s_v (s_bin od_sub s_v s_int)) s_int) (a_cons s_v (a_cons (s_ix (s_ix s_v s_v) s_int) (a_cons (s_ix (s_ix s_v s_v) s_int) a_nil))))) (aLen_cons (aLen_cons (aLen_cons (aLen_cons (aLen_cons aLen_nil))))))))
 (ss_one (s_ifS (t_cmp (od_ne hu) (s_ixO pv (s_neg s_int)) (s_tup (a_cons s_v (a_cons s_v (a_cons (s_bin od_sub (s_bin od_add (s_ix (s_ix s_v (s_bin od_sub s_v s_int)) s_int) (s_ix (s_ix s_v s_v) s_int)) (s_ix (s_ix s_v s_v) s_int)) a_nil)))))
 (ss_one (s_ret s_bl))
 ss_nil)))))
 (ss_cons (s_asg (s_fn (F_offsets_for.mono (by decide)) hr rfl (a_cons s_v (a_cons (s_callT c_tup rfl h_tuple (by decide +kernel) (a_cons (s_frz pv) a_nil)) (a_cons s_v a_nil))) (aLen_cons (aLen_cons (aLen_cons aLen_nil)))) (g_tup rfl (gs_cons (g_n sc.nd) (gs_cons (g_n sc.nd) gs_nil)) rfl rfl (gCons_len (gCons_len gNil_len))))
 (ss_cons (s_ifS (SW.t (w_or (t_cmp (od_ne hu) s_v s_str) (w_or1 (t_cmp (od_ne hu) (s_fn (F_kept.mono (by decide)) hr rfl (a_cons (s_callT c_tup rfl h_tuple (by decide +kernel) (a_cons (s_frz pv) a_nil)) (a_cons s_v (a_cons s_v a_nil))) (aLen_cons (aLen_cons (aLen_cons aLen_nil)))) (s_tupRg1 rfl rfl h_tuple rfl h_range (s_bor (s_callB c_len rfl h_len (by decide +kernel) (a_cons s_v a_nil))))))))
 (ss_one (s_ret s_bl))
 ss_nil)
 (ss_cons (s_ifS (SW.t (w_or (t_cmp (od_ne hu) (s_callB c_len rfl h_len (by decide +kernel) (a_cons (s_fn (F_band.mono (by decide)) hr rfl (a_cons s_v (a_cons s_v (a_cons s_v (a_cons s_v a_nil)))) (aLen_cons (aLen_cons (aLen_cons (aLen_cons aLen_nil))))) a_nil)) s_v) (w_or1 (t_cmp (od_ne hu) (s_callB c_len rfl h_len (by decide +kernel) (a_cons (s_fn (F__law_band.mono (by decide)) hr rfl (a_cons s_v (a_cons s_v (a_cons s_v (a_cons s_v a_nil)))) (aLen_cons (aLen_cons (aLen_cons (aLen_cons aLen_nil))))) a_nil)) s_v))))
 (ss_one (s_ret s_bl))
 ss_nil)
 (ss_cons (s_set sc.nd rfl (by first | exact Or.inl rfl | exact Or.inr rfl) (s_bin od_sub (s_fn (F__law_pick.mono (by decide)) hr rfl (a_cons s_v (a_cons s_int a_nil)) (aLen_cons (aLen_cons aLen_nil))) s_int))
 (ss_cons (s_set sc.nd rfl (by first | exact Or.inl rfl | exact Or.inr rfl) (s_fn (F_band.mono (by decide)) hr rfl (a_cons s_v (a_cons s_v (a_cons s_v (a_cons (s_fn (F_turned_offsets.mono (by decide)) hr rfl (a_cons s_v (a_cons s_v (a_cons s_v a_nil))) (aLen_cons (aLen_cons (aLen_cons aLen_nil)))) a_nil)))) (aLen_cons (aLen_cons (aLen_cons (aLen_cons aLen_nil))))))
 (ss_cons (s_ifS (t_cmp (od_ne hu) s_v (s_callT c_tup rfl h_tuple (by decide +kernel) (a_cons (s_ofL (l_callB (c_srt hr) rfl h_sorted boot_sorted (a_cons (s_ofL (l_comp (own := [("start", 21)]) ⟨rfl, sc.nd, (blk_of rfl (by kernel_rfl)), by decide, fun _ _ _ _ _ => (g_n sc.nd), fun _ _ _ _ _ => f_nil, fun _ _ _ _ _ => (s_fn (F__law_rest.mono (by decide)) hr rfl (a_cons (s_bin od_add s_v s_v) (a_cons s_v a_nil)) (aLen_cons (aLen_cons aLen_nil)))⟩ (i_seq (s_fn (F__law_band.mono (by decide)) hr rfl (a_cons s_v (a_cons s_v (a_cons s_v (a_cons s_v a_nil)))) (aLen_cons (aLen_cons (aLen_cons (aLen_cons aLen_nil)))))))) a_nil))) a_nil)))
 (ss_one (s_ret s_bl))
 ss_nil)
 (ss_one (s_for PassesOwn.never rfl (i_rg1 rfl h_range s_int) (g_n sc.nd)
 (ss_cons (s_set sc.nd rfl (by first | exact Or.inl rfl | exact Or.inr rfl) (s_callT c_tup rfl h_tuple (by decide +kernel) (a_cons (s_ofL (l_comp (own := [("c", 23)]) ⟨rfl, sc.nd, (blk_of rfl (by kernel_rfl)), by decide, fun _ _ _ _ _ => (g_n sc.nd), fun _ _ _ _ _ => f_nil, fun _ _ _ _ _ => (s_fn (F__law_pick.mono (by decide)) hr rfl (a_cons s_v (a_cons s_v a_nil)) (aLen_cons (aLen_cons aLen_nil)))⟩ (i_rg1 rfl h_range s_v))) a_nil)))
 (ss_cons (s_set sc.nd rfl (by first | exact Or.inl rfl | exact Or.inr rfl) (s_fn (F__law_band.mono (by decide)) hr rfl (a_cons s_v (a_cons s_v (a_cons s_v (a_cons s_v a_nil)))) (aLen_cons (aLen_cons (aLen_cons (aLen_cons aLen_nil))))))
 (ss_cons (s_ifS (SW.t (w_or (t_cmp (od_ne hu) (s_fn (F_band.mono (by decide)) hr rfl (a_cons s_v (a_cons s_v (a_cons s_v (a_cons s_v a_nil)))) (aLen_cons (aLen_cons (aLen_cons (aLen_cons aLen_nil))))) s_v) (w_or1 (t_cmp od_gt (s_callB c_len rfl h_len (by decide +kernel) (a_cons s_v a_nil)) s_v))))
 (ss_one (s_ret s_bl))
 ss_nil)
 (ss_cons (s_set sc.nd rfl (by first | exact Or.inl rfl | exact Or.inr rfl) (s_fn (F__law_pick.mono (by decide)) hr rfl (a_cons s_v (a_cons (s_bin od_mul s_int s_v) a_nil)) (aLen_cons (aLen_cons aLen_nil))))
 (ss_one (s_ifS (t_cmp (od_ne hu) (s_callB (c_repr hr) rfl h_repr (by decide +kernel) (a_cons (s_fn (F_passes.mono (by decide)) hr rfl (a_cons s_v (a_cons s_v (a_cons s_v (a_cons s_v (a_cons s_v a_nil))))) (aLen_cons (aLen_cons (aLen_cons (aLen_cons (aLen_cons aLen_nil)))))) a_nil)) (s_callB (c_repr hr) rfl h_repr (by decide +kernel) (a_cons (s_cmp (od_in hv) (s_fn (F__law_rest.mono (by decide)) hr rfl (a_cons s_v (a_cons s_v a_nil)) (aLen_cons (aLen_cons aLen_nil))) s_v) a_nil)))
 (ss_one (s_ret s_bl))
 ss_nil)))))))))))))))))))))))))
 (ss_one (s_ret s_bl)))
end GW
end

noncomputable section
namespace GW
open GH
def eP (p : Int × Int) : D := .tup [.int p.1, .int p.2]
def ePs (l : List (Int × Int)) : D := .tup (l.map eP)
def eIs (l : List Int) : D := .tup (l.map D.int)
def arr : List (Int × Int) → Int → List Int
  | [], _ => []
  | p :: r, t => (t + p.2) :: arr r (t + p.2)
theorem arr_len : ∀ l t, (arr l t).length = l.length
  | [], _ => rfl
  | p :: r, t => by simp [arr, arr_len r]
theorem arr_loop (a0 a1 : Option Sl) (c : Src) : ∀ (l : List (Int × Int)) (t : Int) (acc : List D) (x4 x5 : Option Sl), acc.length + l.length ≤ 100000 → ∃ t' y4 y5,
    forM (gT (gCons (gN 4) (gCons (gN 5) gNil))) (sSeq (sAug 3 (fun i j => i + j) (eVar 5)) (sExpr (eApp 2 (eVar 3)))) (l.map eP) ⟨[a0, a1, some (.own acc), some (.val (.int t)), x4, x5], c⟩
      = some (.nx, ⟨[a0, a1, some (.own (acc ++ (arr l t).map D.int)), t', y4, y5], c⟩)
  | [], t, acc, x4, x5, _ => ⟨some (.val (.int t)), x4, x5, by simp [for_nil, arr]⟩
  | p :: r, t, acc, x4, x5, h => by
    simp only [List.length_cons] at h
    obtain ⟨t', y4, y5, e⟩ := arr_loop a0 a1 c r (t + p.2) (acc ++ [.int (t + p.2)]) (some (.val (.int p.1))) (some (.val (.int p.2))) (by simp; omega)
    refine ⟨t', y4, y5, ?_⟩
    rw [List.map_cons, for_nx (s1 := ⟨[a0, a1, some (.own acc), some (.val (.int t)), some (.val (.int p.1)), some (.val (.int p.2))], c⟩) (s2 := ⟨[a0, a1, some (.own (acc ++ [.int (t + p.2)])), some (.val (.int (t + p.2))), some (.val (.int p.1)), some (.val (.int p.2))], c⟩) rfl ?_, e]
    · simp [arr]
    · have hl : acc.length < PySem.sizeLine := Nat.lt_of_lt_of_le (by omega) (sz 100000 (by omega))
      rw [seq_nx (s1 := ⟨[a0, a1, some (.own acc), some (.val (.int (t + p.2))), some (.val (.int p.1)), some (.val (.int p.2))], c⟩) rfl]
      simp [sExpr, eApp, bndE, ownHere, eVar, putL, appL, hl, ret]
theorem S_arrivals_eq (l : List (Int × Int)) (t : Int) (c : Src) (h : l.length ≤ 100000) : S_arrivals [ePs l, .int t] c = some (eIs (arr l t), c) := by
  obtain ⟨t', y4, y5, e⟩ := arr_loop (some (.val (ePs l))) (some (.val (.int t))) c l t [] none none (by simpa using h)
  refine fnOf_ret (env := ?_) ?_
  rotate_left
  · unfold m_arrivals
    rw [seq_nx (s1 := ⟨[some (.val (ePs l)), some (.val (.int t)), some (.own []), some (.val (.int t)), none, none], c⟩) (by rfl), seq_nx (m := sFor _ _ _) (by rw [for_eq (ds := l.map eP) (s1 := _) (by rfl)]; exact e)]
    rfl

def offAt (off : List Int) (c : Int) : Int := off.getD c.toNat 0
theorem ix_ints (off : List Int) (c : Int) (h : 0 ≤ c) (h2 : c < off.length) : L2.atI (off.map D.int) c = some (.int (offAt off c)) := by
  unfold L2.atI L2.ixN
  rw [List.length_map, if_pos h, if_pos h2]
  show (off.map D.int)[c.toNat]? = _
  rw [List.getElem?_map]
  unfold offAt
  have : c.toNat < off.length := by omega
  rw [List.getD_eq_getElem?_getD, List.getElem?_eq_getElem this]
  rfl
def passG (L : Int) (off : List Int) : List (Int × Int) → List (Int × Int) → List Int → Bool
  | p :: l, g :: gs, t :: ts => decide ((t - offAt off p.1 - g.1).fmod L < g.2) && passG L off l gs ts
  | _, _, _ => true
def inOff (off : List Int) (l : List (Int × Int)) : Prop := ∀ p ∈ l, 0 ≤ p.1 ∧ p.1 < off.length
theorem pass_loop (a0 a1 a4 : Option Sl) (c : Src) (L : Int) (off : List Int) (hL : L ≠ 0) : ∀ (l gs : List (Int × Int)) (ts : List Int) (x5 x6 x7 x8 x9 : Option Sl), inOff off l → ∃ env',
    forM (gT (gCons (gT (gCons (gN 5) (gCons (gN 6) gNil))) (gCons (gT (gCons (gN 7) (gCons (gN 8) gNil))) (gCons (gN 9) gNil))))
      (sIf (tst (eBin geD (eBin modD (eBin subD (eBin subD (eVar 9) (eBin ixD (eVar 3) (eVar 5))) (eVar 7)) (eVar 2)) (eVar 8))) (sRet (eC (.bl false))) sNx)
      (zipF3 (l.map eP) (gs.map eP) (ts.map D.int)) ⟨[a0, a1, some (.val (.int L)), some (.val (eIs off)), a4, x5, x6, x7, x8, x9], c⟩
      = some (if passG L off l gs ts = true then .nx else .ret (.bl false), ⟨env', c⟩)
  | [], gs, ts, x5, x6, x7, x8, x9, _ => ⟨_, by simp [zipF3, for_nil, passG]; rfl⟩
  | p :: l, [], ts, x5, x6, x7, x8, x9, _ => ⟨_, by simp [zipF3, for_nil, passG]; rfl⟩
  | p :: l, g :: gs, [], x5, x6, x7, x8, x9, _ => ⟨_, by simp [zipF3, for_nil, passG]; rfl⟩
  | p :: l, g :: gs, t :: ts, x5, x6, x7, x8, x9, h => by
    have hp := h p List.mem_cons_self
    have hi := ix_ints off p.1 hp.1 hp.2
    let env1 : List (Option Sl) := [a0, a1, some (.val (.int L)), some (.val (eIs off)), a4, some (.val (.int p.1)), some (.val (.int p.2)), some (.val (.int g.1)), some (.val (.int g.2)), some (.val (.int t))]
    have ev : tst (eBin geD (eBin modD (eBin subD (eBin subD (eVar 9) (eBin ixD (eVar 3) (eVar 5))) (eVar 7)) (eVar 2)) (eVar 8)) ⟨env1, c⟩ = some (decide (g.2 ≤ (t - offAt off p.1 - g.1).fmod L), ⟨env1, c⟩) := by
      refine tst_eq (bin_eq (f := geD) (s1 := ⟨env1, c⟩) (x := .int ((t - offAt off p.1 - g.1).fmod L)) (y := .int g.2) ?_ (by rfl) rfl)
      refine bin_eq (f := modD) (s1 := ⟨env1, c⟩) (x := .int (t - offAt off p.1 - g.1)) (y := .int L) ?_ (by rfl) (mod_ok hL)
      refine bin_eq (f := subD) (s1 := ⟨env1, c⟩) (x := .int (t - offAt off p.1)) (y := .int g.1) ?_ (by rfl) rfl
      refine bin_eq (f := subD) (s1 := ⟨env1, c⟩) (x := .int t) (y := .int (offAt off p.1)) (by rfl) ?_ rfl
      exact bin_eq (f := ixD) (s1 := ⟨env1, c⟩) (x := eIs off) (y := .int p.1) (by rfl) (by rfl) hi
    by_cases hk : (t - offAt off p.1 - g.1).fmod L < g.2
    · obtain ⟨env', e⟩ := pass_loop a0 a1 a4 c L off hL l gs ts (some (.val (.int p.1))) (some (.val (.int p.2))) (some (.val (.int g.1))) (some (.val (.int g.2))) (some (.val (.int t))) fun q hq => h q (List.mem_cons_of_mem _ hq)
      refine ⟨env', ?_⟩
      rw [List.map_cons, List.map_cons, List.map_cons, zipF3, for_nx (s1 := ⟨env1, c⟩) (s2 := ⟨env1, c⟩) (by rfl) (by rw [if_ff (s1 := ⟨env1, c⟩) (by rw [ev]; simp; omega)]; rfl), e]
      simp [passG, hk]
    · refine ⟨env1, ?_⟩
      rw [List.map_cons, List.map_cons, List.map_cons, zipF3, for_ret (s1 := ⟨env1, c⟩) (s2 := ⟨env1, c⟩) (v := .bl false) (by rfl) (by rw [if_tt (s1 := ⟨env1, c⟩) (by rw [ev]; simp; omega)]; rfl)]
      simp [passG, hk]
theorem S_passes_eq (l gs : List (Int × Int)) (L : Int) (off : List Int) (t : Int) (c : Src) (hL : L ≠ 0) (h : inOff off l) (hl : l.length ≤ 100000) :
    S_passes [ePs l, ePs gs, .int L, eIs off, .int t] c = some (.bl (passG L off l gs (arr l t)), c) := by
  obtain ⟨env', e⟩ := pass_loop (some (.val (ePs l))) (some (.val (ePs gs))) (some (.val (.int t))) c L off hL l gs (arr l t) none none none none none h
  have hit : sFor (iZip3 (eVar 0) (eVar 1) (eFn S_arrivals (aCons (eVar 0) (aCons (eVar 4) aNil)))) (gT (gCons (gT (gCons (gN 5) (gCons (gN 6) gNil))) (gCons (gT (gCons (gN 7) (gCons (gN 8) gNil))) (gCons (gN 9) gNil))))
      (sIf (tst (eBin geD (eBin modD (eBin subD (eBin subD (eVar 9) (eBin ixD (eVar 3) (eVar 5))) (eVar 7)) (eVar 2)) (eVar 8))) (sRet (eC (.bl false))) sNx)
      ⟨[some (.val (ePs l)), some (.val (ePs gs)), some (.val (.int L)), some (.val (eIs off)), some (.val (.int t)), none, none, none, none, none], c⟩ = some (if passG L off l gs (arr l t) = true then .nx else .ret (.bl false), ⟨env', c⟩) := by
    rw [for_eq (ds := zipF3 (l.map eP) (gs.map eP) ((arr l t).map D.int)) (s1 := ⟨[some (.val (ePs l)), some (.val (ePs gs)), some (.val (.int L)), some (.val (eIs off)), some (.val (.int t)), none, none, none, none, none], c⟩)]
    · exact e
    · unfold iZip3
      rw [bnd_eq (a := ePs l) (s1 := ⟨_, c⟩) (by rfl), bnd_eq (a := ePs gs) (s1 := ⟨_, c⟩) (by rfl), bnd_eq (a := eIs (arr l t)) (fn_eq (ds := [ePs l, .int t]) (by rfl) (S_arrivals_eq l t c hl))]
      rfl
  cases hp : passG L off l gs (arr l t) with
  | true =>
    rw [hp] at hit
    refine fnOf_ret (env := env') ?_
    unfold m_passes
    exact (seq_nx hit).trans (by rfl)
  | false =>
    rw [hp] at hit
    refine fnOf_ret (env := env') ?_
    unfold m_passes
    exact seq_ret hit
end GW
end

noncomputable section
namespace GW
open GH
def bandL (L : Int) (off : List Int) (l gs : List (Int × Int)) : List Int := ((List.range L.toNat).map fun i => ((i : Nat) : Int)).filter fun s => passG L off l gs (arr l s)
theorem rngL0 (L : Int) : rngL 0 L = (List.range L.toNat).map fun i => D.int ((i : Nat) : Int) := by unfold rngL; simp
theorem okR_of {L : Int} (h : 0 ≤ L) (h2 : L ≤ 100000) : okR L := ⟨by omega, by omega⟩
theorem filterMap_int (p : Int → Bool) (xs : List Nat) : (xs.filterMap fun i => if p ((i : Nat) : Int) = true then some (D.int ((i : Nat) : Int)) else none) = (((xs.map fun i => ((i : Nat) : Int)).filter p).map D.int) := by
  induction xs with
  | nil => rfl
  | cons x r ih =>
    rw [List.filterMap_cons, List.map_cons, List.filter_cons]
    by_cases h : p ((x : Nat) : Int) = true
    · simp only [h, if_true]; rw [ih]; rfl
    · simp only [h]; rw [ih]; rfl
theorem S_band_eq (l gs : List (Int × Int)) (L : Int) (off : List Int) (c : Src) (hL : 0 < L) (hL2 : L ≤ 100000) (h : inOff off l) (hl : l.length ≤ 100000) :
    S_band [ePs l, ePs gs, .int L, eIs off] c = some (eIs (bandL L off l gs), c) := by
  let env : List (Option Sl) := [some (.val (ePs l)), some (.val (ePs gs)), some (.val (.int L)), some (.val (eIs off)), none]
  refine fnOf_ret (env := env) ?_
  unfold m_band
  refine ret_eq (call_eq (ds := [.lst ((bandL L off l gs).map D.int)]) (one_eq (lst_eq ?_)) (by rfl))
  unfold bandL
  rw [← filterMap_int]
  refine comp_pure (enc := fun i : Nat => D.int (i : Int)) (src1 := c) ?_ (by simp; omega) ?_ fun i hi => ?_
  · rw [← rngL0]
    unfold iRg1
    exact (bnd_eq (a := .int L) (s1 := ⟨env, c⟩) (by rfl)).trans (by show (if okR L then ret (rngL 0 L) else fail) _ = _; rw [if_pos (okR_of (by omega) hL2)]; rfl)
  · intro v hv x hx
    simp at hv
    subst hv
    cases hx
  · let env1 : List (Option Sl) := [some (.val (ePs l)), some (.val (ePs gs)), some (.val (.int L)), some (.val (eIs off)), some (.val (.int (i : Int)))]
    refine ⟨env1, ?_, by rfl⟩
    have e1 : tru (eFn S_passes (aCons (eVar 0) (aCons (eVar 1) (aCons (eVar 2) (aCons (eVar 3) (aCons (eVar 4) aNil)))))) ⟨env1, c⟩ = some (passG L off l gs (arr l i), ⟨env1, c⟩) :=
      tru_eq (fn_eq (ds := [ePs l, ePs gs, .int L, eIs off, .int (i : Int)]) (by rfl) (S_passes_eq l gs L off i c (by omega) h hl))
    unfold turnC
    rw [bnd_eq (a := ()) (s1 := ⟨env1, c⟩) (by rfl), bnd_eq e1]
    cases passG L off l gs (arr l i) <;> rfl
theorem rest_eq (a L : Int) (c : Src) (hL : L ≠ 0) : S__law_rest [.int a, .int L] c = some (.int (a.fmod L), c) := by
  refine fnOf_ret (env := [some (.val (.int a)), some (.val (.int L))]) ?_
  unfold m__law_rest
  exact ret_eq (bin_eq (f := modD) (x := .int a) (y := .int L) (by rfl) (by rfl) (mod_ok hL))
theorem ticks_loop (a0 a1 : Option Sl) (c : Src) : ∀ (l : List (Int × Int)) (t : Int) (acc : List D) (x4 x5 : Option Sl), acc.length + l.length ≤ 100000 → ∃ t' y4 y5,
    forM (gT (gCons (gN 4) (gCons (gN 5) gNil))) (sSeq (sSet 3 (eBin addD (eVar 3) (eVar 5))) (sExpr (eApp 2 (eVar 3)))) (l.map eP) ⟨[a0, a1, some (.own acc), some (.val (.int t)), x4, x5], c⟩
      = some (.nx, ⟨[a0, a1, some (.own (acc ++ (arr l t).map D.int)), t', y4, y5], c⟩)
  | [], t, acc, x4, x5, _ => ⟨some (.val (.int t)), x4, x5, by simp [for_nil, arr]⟩
  | p :: r, t, acc, x4, x5, h => by
    simp only [List.length_cons] at h
    obtain ⟨t', y4, y5, e⟩ := ticks_loop a0 a1 c r (t + p.2) (acc ++ [.int (t + p.2)]) (some (.val (.int p.1))) (some (.val (.int p.2))) (by simp; omega)
    refine ⟨t', y4, y5, ?_⟩
    rw [List.map_cons, for_nx (s1 := ⟨[a0, a1, some (.own acc), some (.val (.int t)), some (.val (.int p.1)), some (.val (.int p.2))], c⟩) (s2 := ⟨[a0, a1, some (.own (acc ++ [.int (t + p.2)])), some (.val (.int (t + p.2))), some (.val (.int p.1)), some (.val (.int p.2))], c⟩) rfl ?_, e]
    · simp [arr]
    · have hl : acc.length < PySem.sizeLine := Nat.lt_of_lt_of_le (by omega) (sz 100000 (by omega))
      rw [seq_nx (s1 := ⟨[a0, a1, some (.own acc), some (.val (.int (t + p.2))), some (.val (.int p.1)), some (.val (.int p.2))], c⟩) rfl]
      simp [sExpr, eApp, bndE, ownHere, eVar, putL, appL, hl, ret]
theorem ticks_eq (l : List (Int × Int)) (t : Int) (c : Src) (h : l.length ≤ 100000) : S__law_line_ticks [ePs l, .int t] c = some (.lst ((arr l t).map D.int), c) := by
  obtain ⟨t', y4, y5, e⟩ := ticks_loop (some (.val (ePs l))) (some (.val (.int t))) c l t [] none none (by simpa using h)
  refine fnOf_ret (env := ?_) ?_
  rotate_left
  · unfold m__law_line_ticks
    rw [seq_nx (s1 := ⟨[some (.val (ePs l)), some (.val (.int t)), some (.own []), some (.val (.int t)), none, none], c⟩) (by rfl), seq_nx (m := sFor _ _ _) (by rw [for_eq (ds := l.map eP) (s1 := _) (by rfl)]; exact e)]
    rfl
/-- the inner loop of the law's own band -/
theorem on_loop (a0 a1 a4 a5 : Option Sl) (c : Src) (L : Int) (off : List Int) (hL : L ≠ 0) : ∀ (l gs : List (Int × Int)) (ts : List Int) (b : Bool) (x7 x8 x9 : Option Sl), inOff off l → ∃ y7 y8 y9,
    forM (gT (gCons (gN 7) (gCons (gN 8) (gCons (gN 9) gNil))))
      (sSet 6 (eAnd (eVar 6) (eBin ltD (eFn S__law_rest (aCons (eBin subD (eBin subD (eVar 9) (eBin ixD (eVar 3) (eBin ixD (eVar 7) (eC (.int 0))))) (eBin ixD (eVar 8) (eC (.int 0)))) (aCons (eVar 2) aNil))) (eBin ixD (eVar 8) (eC (.int 1))))))
      (zipF3 (l.map eP) (gs.map eP) (ts.map D.int)) ⟨[a0, a1, some (.val (.int L)), some (.val (eIs off)), a4, a5, some (.val (.bl b)), x7, x8, x9], c⟩
      = some (.nx, ⟨[a0, a1, some (.val (.int L)), some (.val (eIs off)), a4, a5, some (.val (.bl (b && passG L off l gs ts))), y7, y8, y9], c⟩)
  | [], gs, ts, b, x7, x8, x9, _ => ⟨x7, x8, x9, by simp [zipF3, for_nil, passG]⟩
  | p :: l, [], ts, b, x7, x8, x9, _ => ⟨x7, x8, x9, by simp [zipF3, for_nil, passG]⟩
  | p :: l, g :: gs, [], b, x7, x8, x9, _ => ⟨x7, x8, x9, by simp [zipF3, for_nil, passG]⟩
  | p :: l, g :: gs, t :: ts, b, x7, x8, x9, h => by
    have hp := h p List.mem_cons_self
    have hi := ix_ints off p.1 hp.1 hp.2
    let env1 : Bool → List (Option Sl) := fun b => [a0, a1, some (.val (.int L)), some (.val (eIs off)), a4, a5, some (.val (.bl b)), some (.val (eP p)), some (.val (eP g)), some (.val (.int t))]
    have ev : eBin ltD (eFn S__law_rest (aCons (eBin subD (eBin subD (eVar 9) (eBin ixD (eVar 3) (eBin ixD (eVar 7) (eC (.int 0))))) (eBin ixD (eVar 8) (eC (.int 0)))) (aCons (eVar 2) aNil))) (eBin ixD (eVar 8) (eC (.int 1))) ⟨env1 b, c⟩
        = some (.bl (decide ((t - offAt off p.1 - g.1).fmod L < g.2)), ⟨env1 b, c⟩) := by
      refine bin_eq (f := ltD) (s1 := ⟨env1 b, c⟩) (x := .int ((t - offAt off p.1 - g.1).fmod L)) (y := .int g.2) ?_ (by rfl) rfl
      refine fn_eq (env := env1 b) (c0 := c) (ds := [.int (t - offAt off p.1 - g.1), .int L]) ?_ (rest_eq _ L c hL)
      refine cons_eq (s1 := ⟨env1 b, c⟩) ?_ (by rfl)
      refine bin_eq (f := subD) (s1 := ⟨env1 b, c⟩) (x := .int (t - offAt off p.1)) (y := .int g.1) ?_ (by rfl) rfl
      refine bin_eq (f := subD) (s1 := ⟨env1 b, c⟩) (x := .int t) (y := .int (offAt off p.1)) (by rfl) ?_ rfl
      exact bin_eq (f := ixD) (s1 := ⟨env1 b, c⟩) (x := eIs off) (y := .int p.1) (by rfl) (by rfl) hi
    have ev2 : eAnd (eVar 6) (eBin ltD (eFn S__law_rest (aCons (eBin subD (eBin subD (eVar 9) (eBin ixD (eVar 3) (eBin ixD (eVar 7) (eC (.int 0))))) (eBin ixD (eVar 8) (eC (.int 0)))) (aCons (eVar 2) aNil))) (eBin ixD (eVar 8) (eC (.int 1)))) ⟨env1 b, c⟩
        = some (.bl (b && decide ((t - offAt off p.1 - g.1).fmod L < g.2)), ⟨env1 b, c⟩) := by
      unfold eAnd
      rw [bnd_eq (a := .bl b) (s1 := ⟨env1 b, c⟩) (by rfl), bnd_eq (a := b) (s1 := ⟨env1 b, c⟩) (by rfl)]
      cases b with
      | true => rw [if_pos rfl, ev]; simp
      | false => rw [if_neg (by decide)]; rfl
    obtain ⟨y7, y8, y9, e⟩ := on_loop a0 a1 a4 a5 c L off hL l gs ts (b && decide ((t - offAt off p.1 - g.1).fmod L < g.2)) (some (.val (eP p))) (some (.val (eP g))) (some (.val (.int t))) fun q hq => h q (List.mem_cons_of_mem _ hq)
    refine ⟨y7, y8, y9, ?_⟩
    rw [List.map_cons, List.map_cons, List.map_cons, zipF3, for_nx (s1 := ⟨env1 b, c⟩) (s2 := ⟨env1 (b && decide ((t - offAt off p.1 - g.1).fmod L < g.2)), c⟩) (by rfl) (set_eq ev2 (by show 6 < 10; decide)), e]
    simp [passG, Bool.and_assoc]
theorem band_loop (l gs : List (Int × Int)) (L : Int) (off : List Int) (c : Src) (hL : L ≠ 0) (h : inOff off l) (hl : l.length ≤ 100000) : ∀ (xs : List Nat) (acc : List Int) (x5 x6 x7 x8 x9 : Option Sl), acc.length + xs.length ≤ 100000 → ∃ y5 y6 y7 y8 y9,
    forM (gN 5) (sSeq (sSet 6 (eC (.bl true)))
      (sSeq (sFor (iZip3 (eVar 0) (eVar 1) (eFn S__law_line_ticks (aCons (eVar 0) (aCons (eVar 5) aNil)))) (gT (gCons (gN 7) (gCons (gN 8) (gCons (gN 9) gNil))))
        (sSet 6 (eAnd (eVar 6) (eBin ltD (eFn S__law_rest (aCons (eBin subD (eBin subD (eVar 9) (eBin ixD (eVar 3) (eBin ixD (eVar 7) (eC (.int 0))))) (eBin ixD (eVar 8) (eC (.int 0)))) (aCons (eVar 2) aNil))) (eBin ixD (eVar 8) (eC (.int 1)))))))
      (sSet 4 (eBin addD (eVar 4) (eBin mulD (eLst (lDisp (aCons (eVar 5) aNil))) (eCall intG (aCons (eVar 6) aNil)))))))
      (xs.map fun i => D.int ((i : Nat) : Int)) ⟨[some (.val (ePs l)), some (.val (ePs gs)), some (.val (.int L)), some (.val (eIs off)), some (.val (.lst (acc.map D.int))), x5, x6, x7, x8, x9], c⟩
      = some (.nx, ⟨[some (.val (ePs l)), some (.val (ePs gs)), some (.val (.int L)), some (.val (eIs off)), some (.val (.lst ((acc ++ (xs.map fun i => ((i : Nat) : Int)).filter fun s => passG L off l gs (arr l s)).map D.int))), y5, y6, y7, y8, y9], c⟩)
  | [], acc, x5, x6, x7, x8, x9, _ => ⟨x5, x6, x7, x8, x9, by simp [for_nil]⟩
  | i :: xs, acc, x5, x6, x7, x8, x9, hlen => by
    simp only [List.length_cons] at hlen
    let fr := some (Sl.val (.lst (acc.map D.int)))
    let b := passG L off l gs (arr l i)
    obtain ⟨z7, z8, z9, e1⟩ := on_loop (some (.val (ePs l))) (some (.val (ePs gs))) fr (some (.val (.int (i : Int)))) c L off hL l gs (arr l i) true x7 x8 x9 h
    let add : List Int := if b = true then [(i : Int)] else []
    have hadd : add.length ≤ 1 := by show (if b = true then [(i : Int)] else []).length ≤ 1; split <;> simp
    have hsum : acc ++ add ++ ((xs.map fun i => ((i : Nat) : Int)).filter fun s => passG L off l gs (arr l s)) = acc ++ (((i :: xs).map fun i => ((i : Nat) : Int)).filter fun s => passG L off l gs (arr l s)) := by
      rw [List.map_cons, List.filter_cons, List.append_assoc]
      show acc ++ ((if b = true then [(i : Int)] else []) ++ _) = acc ++ (if b = true then _ else _)
      cases b <;> rfl
    obtain ⟨y5, y6, y7, y8, y9, e⟩ := band_loop l gs L off c hL h hl xs (acc ++ add) (some (.val (.int (i : Int)))) (some (.val (.bl (true && b)))) z7 z8 z9 (by simp only [List.length_append]; omega)
    refine ⟨y5, y6, y7, y8, y9, ?_⟩
    rw [List.map_cons, for_nx (s1 := ⟨[some (.val (ePs l)), some (.val (ePs gs)), some (.val (.int L)), some (.val (eIs off)), fr, some (.val (.int (i : Int))), x6, x7, x8, x9], c⟩)
      (s2 := ⟨[some (.val (ePs l)), some (.val (ePs gs)), some (.val (.int L)), some (.val (eIs off)), some (.val (.lst ((acc ++ add).map D.int))), some (.val (.int (i : Int))), some (.val (.bl (true && b))), z7, z8, z9], c⟩) (by rfl) ?_, e]
    · rw [hsum]
    · rw [seq_nx (s1 := ⟨[some (.val (ePs l)), some (.val (ePs gs)), some (.val (.int L)), some (.val (eIs off)), fr, some (.val (.int (i : Int))), some (.val (.bl true)), x7, x8, x9], c⟩) (by rfl)]
      rw [seq_nx (m := sFor _ _ _) (by
        rw [for_eq (ds := zipF3 (l.map eP) (gs.map eP) ((arr l i).map D.int)) (s1 := ⟨[some (.val (ePs l)), some (.val (ePs gs)), some (.val (.int L)), some (.val (eIs off)), fr, some (.val (.int (i : Int))), some (.val (.bl true)), x7, x8, x9], c⟩)]
        · exact e1
        · unfold iZip3
          rw [bnd_eq (a := ePs l) (s1 := ⟨_, c⟩) (by rfl), bnd_eq (a := ePs gs) (s1 := ⟨_, c⟩) (by rfl), bnd_eq (a := .lst ((arr l i).map D.int)) (fn_eq (ds := [ePs l, .int (i : Int)]) (by rfl) (ticks_eq l i c hl))]
          rfl)]
      refine set_eq (env := [some (.val (ePs l)), some (.val (ePs gs)), some (.val (.int L)), some (.val (eIs off)), fr, some (.val (.int (i : Int))), some (.val (.bl (true && b))), z7, z8, z9]) ?_ (by show 4 < 10; decide)
      refine bin_eq (f := addD) (s1 := ⟨[some (.val (ePs l)), some (.val (ePs gs)), some (.val (.int L)), some (.val (eIs off)), fr, some (.val (.int (i : Int))), some (.val (.bl (true && b))), z7, z8, z9], c⟩) (x := .lst (acc.map D.int)) (y := .lst (add.map D.int)) (by rfl) ?_ ?_
      · refine bin_eq (f := mulD) (s1 := ⟨[some (.val (ePs l)), some (.val (ePs gs)), some (.val (.int L)), some (.val (eIs off)), fr, some (.val (.int (i : Int))), some (.val (.bl (true && b))), z7, z8, z9], c⟩) (x := .lst [.int (i : Int)]) (y := .int (if (true && b) = true then 1 else 0)) (by rfl) (by rfl) ?_
        show (if -(2 ^ 63) ≤ (if (true && b) = true then (1 : Int) else 0) ∧ (if (true && b) = true then (1 : Int) else 0) < 2 ^ 63 ∧ ([D.int (i : Int)] : List D).length * (if (true && b) = true then (1 : Int) else 0).toNat ≤ PySem.sizeLine then some (D.lst (List.replicate (if (true && b) = true then (1 : Int) else 0).toNat [D.int (i : Int)]).flatten) else none) = _
        show _ = some (D.lst ((if b = true then [(i : Int)] else []).map D.int))
        cases b <;> rfl
      · show (if (acc.map D.int).length + (add.map D.int).length ≤ PySem.sizeLine then some (D.lst (acc.map D.int ++ add.map D.int)) else none) = _
        rw [if_pos (sz _ (by simp only [List.length_map]; omega))]
        simp
theorem law_band_eq (l gs : List (Int × Int)) (L : Int) (off : List Int) (c : Src) (hL : 0 < L) (hL2 : L ≤ 100000) (h : inOff off l) (hl : l.length ≤ 100000) :
    S__law_band [ePs l, ePs gs, .int L, eIs off] c = some (eIs (bandL L off l gs), c) := by
  obtain ⟨y5, y6, y7, y8, y9, e⟩ := band_loop l gs L off c (by omega) h hl (List.range L.toNat) [] none none none none none (by simp; omega)
  refine fnOf_ret (env := ?_) ?_
  rotate_left
  · unfold m__law_band
    rw [seq_nx (s1 := ⟨[some (.val (ePs l)), some (.val (ePs gs)), some (.val (.int L)), some (.val (eIs off)), some (.val (.lst [])), none, none, none, none, none], c⟩) (by rfl)]
    rw [seq_nx (m := sFor _ _ _) (by
      rw [for_eq (ds := (List.range L.toNat).map fun i => D.int ((i : Nat) : Int)) (s1 := ⟨[some (.val (ePs l)), some (.val (ePs gs)), some (.val (.int L)), some (.val (eIs off)), some (.val (.lst [])), none, none, none, none, none], c⟩)]
      · exact e
      · rw [← rngL0]
        unfold iRg1
        exact (bnd_eq (a := .int L) (s1 := ⟨_, c⟩) (by rfl)).trans (by show (if okR L then ret (rngL 0 L) else fail) _ = _; rw [if_pos (okR_of (by omega) hL2)]; rfl))]
    rfl
end GW
end

noncomputable section
namespace GW
open GH
theorem clean_nones {env : List (Option Sl)} {vs : List Nat} (h : ∀ v ∈ vs, env[v]? = some none ∨ env[v]? = none) : cleanE env vs := fun v hv x hx => by
  rcases h v hv with z | z <;> rw [z] at hx <;> cases hx
/-- the least length -/
def least (gs : List (Int × Int)) : Int := minL (gs.map (·.2))
theorem min_ints (ns : List Int) (h : ns ≠ []) : minG [.lst (ns.map D.int)] = some (.int (minL ns)) := by
  show ((toInts (ns.map D.int)).bind fun ns => if ns ≠ [] then some (D.int (minL ns)) else none) = _
  rw [toInts_map]
  show (if ns ≠ [] then some (D.int (minL ns)) else none) = _
  rw [if_pos h]
theorem max_ints (ns : List Int) (h : ns ≠ []) : maxG [.lst (ns.map D.int)] = some (.int (maxL ns)) := by
  show ((toInts (ns.map D.int)).bind fun ns => if ns ≠ [] then some (D.int (maxL ns)) else none) = _
  rw [toInts_map]
  show (if ns ≠ [] then some (D.int (maxL ns)) else none) = _
  rw [if_pos h]
theorem band_bound_eq (gs : List (Int × Int)) (c : Src) (h : gs ≠ []) (hl : gs.length ≤ 100000) : S_band_bound [ePs gs] c = some (.int (least gs), c) := by
  let env : List (Option Sl) := [some (.val (ePs gs)), none, none]
  refine fnOf_ret (env := env) ?_
  unfold m_band_bound
  refine ret_eq (call_eq (ds := [.lst ((gs.map (·.2)).map D.int)]) (one_eq (lst_eq ?_)) (min_ints _ (by simpa using h)))
  rw [List.map_map]
  refine comp_map (enc := eP) (f := D.int ∘ fun x => x.2) (src1 := c) (by rfl) hl (clean_nones fun v hv => by simp at hv; rcases hv with rfl | rfl <;> exact .inl rfl) fun g hg => ?_
  exact ⟨[some (.val (ePs gs)), some (.val (.int g.1)), some (.val (.int g.2))], by rfl, by rfl⟩

def tellF (g0 L : Int) : List Int → List (Int × Int) → List (Int × Int) → List Int → List Int
  | off, p :: l, g :: gs, t :: ts => tellF g0 L (off.set p.1.toNat ((g0 + t - g.1).fmod L)) l gs ts
  | off, _, _, _ => off
def told (m : Nat) (l gs : List (Int × Int)) (L : Int) : List Int := tellF (gs.headD (0, 0)).1 L (List.replicate m 0) l gs (arr l 0)
theorem ixN_of {n : Nat} {i : Int} (h : 0 ≤ i) (h2 : i < n) : L2.ixN n i = some i.toNat := by
  unfold L2.ixN; rw [if_pos h, if_pos h2]
theorem set_ints (off : List Int) (c v : Int) (h : 0 ≤ c) (h2 : c < off.length) : setL (.int c) (.int v) (off.map D.int) = some ((off.set c.toNat v).map D.int) := by
  show ((L2.ixN (off.map D.int).length c).map fun n => (off.map D.int).set n (.int v)) = _
  rw [ixN_of h (by simpa using h2)]
  simp [List.map_set]
theorem tell_loop (a0 a1 : Option Sl) (c : Src) (gall : List (Int × Int)) (g0 L : Int) (hg0 : gall.headD (0, 0) = (g0, (gall.headD (0, 0)).2)) (hne : gall ≠ []) (hL : L ≠ 0) : ∀ (l gs : List (Int × Int)) (ts : List Int) (off : List Int) (x5 x6 x7 x8 x9 : Option Sl), inOff off l → ∃ y5 y6 y7 y8 y9,
    forM (gT (gCons (gT (gCons (gN 5) (gCons (gN 6) gNil))) (gCons (gT (gCons (gN 7) (gCons (gN 8) gNil))) (gCons (gN 9) gNil))))
      (sSetIx 4 (eBin modD (eBin subD (eBin addD (eBin ixD (eBin ixD (eVar 2) (eC (.int 0))) (eC (.int 0))) (eVar 9)) (eVar 7)) (eVar 3)) (eVar 5))
      (zipF3 (l.map eP) (gs.map eP) (ts.map D.int)) ⟨[a0, a1, some (.val (ePs gall)), some (.val (.int L)), some (.own (off.map D.int)), x5, x6, x7, x8, x9], c⟩
      = some (.nx, ⟨[a0, a1, some (.val (ePs gall)), some (.val (.int L)), some (.own ((tellF g0 L off l gs ts).map D.int)), y5, y6, y7, y8, y9], c⟩)
  | [], gs, ts, off, x5, x6, x7, x8, x9, _ => ⟨x5, x6, x7, x8, x9, by simp [zipF3, for_nil, tellF]⟩
  | p :: l, [], ts, off, x5, x6, x7, x8, x9, _ => ⟨x5, x6, x7, x8, x9, by simp [zipF3, for_nil, tellF]⟩
  | p :: l, g :: gs, [], off, x5, x6, x7, x8, x9, _ => ⟨x5, x6, x7, x8, x9, by simp [zipF3, for_nil, tellF]⟩
  | p :: l, g :: gs, t :: ts, off, x5, x6, x7, x8, x9, h => by
    have hp := h p List.mem_cons_self
    let v : Int := (g0 + t - g.1).fmod L
    let env1 : List Int → List (Option Sl) := fun off => [a0, a1, some (.val (ePs gall)), some (.val (.int L)), some (.own (off.map D.int)), some (.val (.int p.1)), some (.val (.int p.2)), some (.val (.int g.1)), some (.val (.int g.2)), some (.val (.int t))]
    obtain ⟨y5, y6, y7, y8, y9, e⟩ := tell_loop a0 a1 c gall g0 L hg0 hne hL l gs ts (off.set p.1.toNat v) (some (.val (.int p.1))) (some (.val (.int p.2))) (some (.val (.int g.1))) (some (.val (.int g.2))) (some (.val (.int t))) fun q hq => by
      have := h q (List.mem_cons_of_mem _ hq)
      rw [List.length_set]; exact this
    refine ⟨y5, y6, y7, y8, y9, ?_⟩
    rw [List.map_cons, List.map_cons, List.map_cons, zipF3, for_nx (s1 := ⟨env1 off, c⟩) (s2 := ⟨env1 (off.set p.1.toNat v), c⟩) (by rfl) ?_, e]
    · rfl
    · have hix : eBin ixD (eBin ixD (eVar 2) (eC (.int 0))) (eC (.int 0)) ⟨env1 off, c⟩ = some (.int g0, ⟨env1 off, c⟩) := by
        cases gall with
        | nil => exact absurd rfl hne
        | cons q r =>
          have e0 : q.1 = g0 := congrArg Prod.fst hg0
          rw [← e0]
          refine bin_eq (f := ixD) (s1 := ⟨env1 off, c⟩) (x := eP q) (y := .int 0) (bin_eq (f := ixD) (s1 := ⟨env1 off, c⟩) (x := ePs (q :: r)) (y := .int 0) (by rfl) (by rfl) ?_) (by rfl) rfl
          show L2.atI ((q :: r).map eP) 0 = _
          unfold L2.atI L2.ixN
          simp
      have hv : eBin modD (eBin subD (eBin addD (eBin ixD (eBin ixD (eVar 2) (eC (.int 0))) (eC (.int 0))) (eVar 9)) (eVar 7)) (eVar 3) ⟨env1 off, c⟩ = some (.int v, ⟨env1 off, c⟩) := by
        refine bin_eq (f := modD) (s1 := ⟨env1 off, c⟩) (x := .int (g0 + t - g.1)) (y := .int L) ?_ (by rfl) (mod_ok hL)
        refine bin_eq (f := subD) (s1 := ⟨env1 off, c⟩) (x := .int (g0 + t)) (y := .int g.1) ?_ (by rfl) rfl
        exact bin_eq (f := addD) (s1 := ⟨env1 off, c⟩) (x := .int g0) (y := .int t) hix (by rfl) rfl
      unfold sSetIx
      rw [bnd_eq hv, bnd_eq (a := ()) (s1 := ⟨env1 off, c⟩) (by rfl), bnd_eq (a := .int p.1) (s1 := ⟨env1 off, c⟩) (by rfl)]
      have hput : putL 4 (setL (.int p.1) (.int v)) ⟨env1 off, c⟩ = some ((), ⟨env1 (off.set p.1.toNat v), c⟩) := by
        show (match setL (.int p.1) (.int v) (off.map D.int) with
          | some ds' => some ((), (⟨(env1 off).set 4 (some (.own ds')), c⟩ : S))
          | none => none) = _
        rw [set_ints off p.1 v hp.1 hp.2]
        rfl
      rw [bnd_eq hput]
      rfl
theorem zeros_map (m : Nat) : (List.range m).map (fun _ => D.int 0) = (List.replicate m 0).map D.int := by
  rw [List.map_replicate]
  refine List.ext_getElem (by simp) fun i h1 h2 => by simp
theorem told_eq (m : Nat) (l gs : List (Int × Int)) (L : Int) (c : Src) (hm : m ≤ 1000) (hL : L ≠ 0) (hne : gs ≠ []) (h : ∀ p ∈ l, 0 ≤ p.1 ∧ p.1 < m) (hl : l.length ≤ 100000) :
    S_offsets_of_line [.int m, ePs l, ePs gs, .int L] c = some (eIs (told m l gs L), c) := by
  let g0 := (gs.headD (0, 0)).1
  obtain ⟨y5, y6, y7, y8, y9, e⟩ := tell_loop (some (.val (.int m))) (some (.val (ePs l))) c gs g0 L rfl hne hL l gs (arr l 0) (List.replicate m 0) none none none none none (fun p hp => by simpa using h p hp)
  let env0 : List (Option Sl) := [some (.val (.int m)), some (.val (ePs l)), some (.val (ePs gs)), some (.val (.int L)), none, none, none, none, none, none]
  refine fnOf_ret (env := ?_) ?_
  rotate_left
  · unfold m_offsets_of_line
    rw [seq_nx (s1 := ⟨env0.set 4 (some (.own ((List.replicate m (0 : Int)).map D.int))), c⟩) (own_eq (env := env0) (by
      rw [← zeros_map]
      refine comp_map (env := env0) (enc := fun i : Nat => D.int (i : Int)) (src1 := c) ?_ (by simp; omega) (clean_nones fun v hv => by simp at hv; subst hv; exact .inl rfl) fun x hx => ⟨env0.set 5 (some (.val (.int (x : Int)))), by rfl, by rfl⟩
      rw [show (List.range m).map (fun i : Nat => D.int (i : Int)) = rngL 0 (m : Int) by rw [rngL0]; rfl]
      unfold iRg1
      exact (bnd_eq (a := .int (m : Int)) (s1 := ⟨env0, c⟩) (by rfl)).trans (by show (if okR (m : Int) then ret (rngL 0 (m : Int)) else fail) _ = _; rw [if_pos (okR_of (by omega) (by omega))]; rfl)) (by show 4 < 10; decide))]
    rw [seq_nx (m := sFor _ _ _) (by
      rw [for_eq (ds := zipF3 (l.map eP) (gs.map eP) ((arr l 0).map D.int)) (s1 := ⟨env0.set 4 (some (.own ((List.replicate m (0 : Int)).map D.int))), c⟩)]
      · exact e
      · unfold iZip3
        rw [bnd_eq (a := ePs l) (s1 := ⟨_, c⟩) (by rfl), bnd_eq (a := ePs gs) (s1 := ⟨_, c⟩) (by rfl), bnd_eq (a := eIs (arr l 0)) (fn_eq (ds := [ePs l, .int 0]) (by rfl) (S_arrivals_eq l 0 c hl))]
        rfl)]
    rfl
end GW
end

noncomputable section
namespace GW
open GH
def at0 (l : List (Int × Int)) (i : Nat) : Int × Int := l.getD i (0, 0)
def freeOf (l : List (Int × Int)) : List Int := (l.drop 1).map (·.1)
theorem okP (p : Int × Int) : (eP p).okN 1 := D.okN_tup (n := 0) fun d hd => by
  simp [eP] at hd
  rcases hd with rfl | rfl <;> exact D.okN_int _
end GW
end

noncomputable section
namespace GW
open GH
theorem mul_ok (x y : Int) (h1 : -(2 ^ 64) < y) (h2 : y < 2 ^ 64) : mulD (.int x) (.int y) = some (.int (x * y)) := by
  simp only [mulD]
  rw [if_pos (.inr ⟨h1, h2⟩)]
theorem erase_perm {α : Type} : ∀ (l : List α) (i : Nat) (h : i < l.length), (l[i] :: l.eraseIdx i).Perm l
  | [], _, h => by simp at h
  | x :: l, 0, _ => by simp
  | x :: l, i + 1, h => by
    have h' : i < l.length := by simpa using h
    have := erase_perm l i h'
    simp only [List.getElem_cons_succ, List.eraseIdx_cons_succ]
    exact (List.Perm.swap x l[i] _).trans (this.cons x)
theorem order_loop (a1 : Option Sl) : ∀ (xs rem : List D) (x3 : Option Sl) (c : Src), xs.length = rem.length → rem.length ≤ 1000 → ∃ (ys : List D) (c' : Src) (y3 : Option Sl), ys.Perm rem ∧
    compF [3] (gN 3) (ret true) (ePopAt 2 (eFn S__law_pick (aCons (eVar 0) (aCons (eBor [2] (eCall lenG (aCons (eVar 2) aNil))) aNil)))) xs ⟨[some (.val .src), a1, some (.own rem), x3], c⟩
      = some (ys, ⟨[some (.val .src), a1, some (.own []), y3], c'⟩)
  | [], rem, x3, c, h, _ => by
    have : rem = [] := List.eq_nil_of_length_eq_zero (by simpa using h.symm)
    subst this
    exact ⟨[], c, x3, .refl _, rfl⟩
  | d :: xs, rem, x3, c, h, hl => by
    simp only [List.length_cons] at h
    let n := rem.length
    obtain ⟨r, c1, hp, h0, hr⟩ := pick_any (n : Int) c (by omega) (by omega)
    have hi : r.toNat < rem.length := by omega
    let y := rem[r.toNat]
    have herase : (rem.eraseIdx r.toNat).length = rem.length - 1 := List.length_eraseIdx_of_lt hi
    obtain ⟨ys, c', y3, hperm, e⟩ := order_loop a1 xs (rem.eraseIdx r.toNat) (some (.val d)) c1 (by rw [herase]; omega) (by omega)
    refine ⟨y :: ys, c', y3, (hperm.cons y).trans (erase_perm rem r.toNat hi), ?_⟩
    let env1 : List (Option Sl) := [some (.val .src), a1, some (.own rem), some (.val d)]
    have hpop : ePopAt 2 (eFn S__law_pick (aCons (eVar 0) (aCons (eBor [2] (eCall lenG (aCons (eVar 2) aNil))) aNil))) ⟨env1, c⟩ = some (y, ⟨[some (.val .src), a1, some (.own (rem.eraseIdx r.toNat)), some (.val d)], c1⟩) := by
      unfold ePopAt
      rw [bnd_eq (a := ()) (s1 := ⟨env1, c⟩) (by rfl)]
      refine (bnd_eq (fn_eq (env := env1) (c0 := c) (ds := [.src, .int (n : Int)]) (by rfl) hp)).trans ?_
      show (match popAtL (.int r) rem with
        | some (d, ds') => some (d, (⟨env1.set 2 (some (.own ds')), c1⟩ : S))
        | none => none) = _
      have hpa : popAtL (.int r) rem = some (y, rem.eraseIdx r.toNat) := by
        show ((L2.ixN rem.length r).bind fun n => if rem.length ≤ PySem.sizeLine then rem[n]?.map fun y => (y, rem.eraseIdx n) else none) = _
        rw [ixN_of h0 hr]
        show (if rem.length ≤ PySem.sizeLine then rem[r.toNat]?.map fun y => (y, rem.eraseIdx r.toNat) else none) = _
        rw [if_pos (sz _ (by omega)), List.getElem?_eq_getElem hi]
        rfl
      rw [hpa]
      rfl
    have hstep : cStep [3] (gN 3) (ret true) (ePopAt 2 (eFn S__law_pick (aCons (eVar 0) (aCons (eBor [2] (eCall lenG (aCons (eVar 2) aNil))) aNil)))) d ⟨[some (.val .src), a1, some (.own rem), x3], c⟩
        = some (some y, ⟨[some (.val .src), a1, some (.own (rem.eraseIdx r.toNat)), some (.val d)], c1⟩) := by
      rw [cStep_eq]
      unfold turnC
      refine (bnd_eq (a := ()) (s1 := ⟨env1, c⟩) (by rfl)).trans ?_
      rw [bnd_eq (a := true) (s1 := ⟨env1, c⟩) rfl, if_pos rfl, bnd_eq hpop]
      rfl
    show bnd (cStep _ _ _ _ d) _ _ = _
    rw [bnd_eq hstep, bnd_eq e]
    rfl
theorem order_eq (ds : List D) (c : Src) (hl : ds.length ≤ 1000) : ∃ (ys : List D) (c' : Src), ys.Perm ds ∧ S__law_any_order [.src, .lst ds] c = some (.lst ys, c') := by
  let xs := (List.range ds.length).map fun i : Nat => D.int (i : Int)
  obtain ⟨ys, c', y3, hperm, e⟩ := order_loop (some (.val (.lst ds))) xs ds none c (by simp [xs]) hl
  refine ⟨ys, c', hperm, ?_⟩
  let env0 : List (Option Sl) := [some (.val .src), some (.val (.lst ds)), some (.own ds), none]
  refine fnOf_ret (env := restE env0 [some (.val .src), some (.val (.lst ds)), some (.own []), y3] [3]) ?_
  unfold m__law_any_order
  rw [seq_nx (s1 := ⟨env0, c⟩) (by rfl)]
  refine ret_eq (lst_eq ?_)
  unfold eComp
  have hit : iRg1 (eBor [2] (eCall lenG (aCons (eVar 2) aNil))) ⟨env0, c⟩ = some (xs, ⟨env0, c⟩) := by
    show _ = some ((List.range ds.length).map (fun i : Nat => D.int (i : Int)), _)
    rw [show (List.range ds.length).map (fun i : Nat => D.int (i : Int)) = rngL 0 ((ds.length : Nat) : Int) by rw [rngL0]; rfl]
    unfold iRg1
    exact (bnd_eq (a := .int ((ds.length : Nat) : Int)) (s1 := ⟨env0, c⟩) (by rfl)).trans (by show (if okR ((ds.length : Nat) : Int) then ret (rngL 0 ((ds.length : Nat) : Int)) else fail) _ = _; rw [if_pos (okR_of (by omega) (by omega))]; rfl)
  refine (bnd_eq hit).trans ?_
  show (if xs.length ≤ PySem.sizeLine then (match compF [3] (gN 3) (ret true) (ePopAt 2 (eFn S__law_pick (aCons (eVar 0) (aCons (eBor [2] (eCall lenG (aCons (eVar 2) aNil))) aNil)))) xs ⟨env0, c⟩ with
    | some (ys, sn) => some (ys, { sn with env := restE env0 sn.env [3] })
    | none => none) else none) = _
  rw [if_pos (sz _ (by simp [xs]; omega)), e]
structure LineOk (m : Nat) (l : List (Int × Int)) : Prop where
  ne : l ≠ []
  len : l.length ≤ m
  inn : ∀ p ∈ l, 0 ≤ p.1 ∧ p.1 < m
  nd : (l.map (·.1)).Nodup
  first : (at0 l 0).2 = 0
theorem cut_head {α : Type} (xs : List α) (k : Nat) : cutL xs none (some (k : Int)) = xs.take k := by
  unfold cutL
  rw [HT.sIx_none, HT.sIx_nat, List.drop_zero, Nat.sub_zero]
  by_cases h : k ≤ xs.length
  · rw [Nat.min_eq_left h]
  · rw [Nat.min_eq_right (by omega), List.take_length, List.take_of_length_le (by omega)]
theorem draw_line_eq (m : Nat) (c : Src) (hm : 1 ≤ m) (hm2 : m ≤ 1000) : ∃ l c', LineOk m l ∧ S__law_draw_line [.src, .int m] c = some (ePs l, c') := by
  obtain ⟨ys, c1, hperm, ho⟩ := order_eq ((List.range m).map fun i : Nat => D.int (i : Int)) c (by simpa using hm2)
  obtain ⟨zs, hz, rfl⟩ := perm_map_inv (f := fun i : Nat => D.int (i : Int)) hperm (List.range m) rfl
  obtain ⟨r, c2, hp, h0, hr⟩ := pick_any (m : Int) c1 (by omega) (by omega)
  let k : Nat := (1 + r).toNat
  have hk : ((k : Nat) : Int) = 1 + r := by omega
  let cs := zs.take k
  have hzl : zs.length = m := by rw [hz.length_eq, List.length_range]
  have hcl : cs.length = k := by show (zs.take k).length = k; rw [List.length_take, hzl]; omega
  have hcm : ∀ z ∈ cs, z < m := fun z hz' => List.mem_range.mp (hz.mem_iff.mp (List.mem_of_mem_take hz'))
  have hcn : cs.Nodup := (hz.nodup_iff.mpr List.nodup_range).sublist (List.take_sublist k zs)
  let cells : List D := cs.map fun i : Nat => D.int (i : Int)
  let env0 : List (Option Sl) := [some (.val .src), some (.val (.int (m : Int))), none, none, none]
  let env1 : List (Option Sl) := [some (.val .src), some (.val (.int (m : Int))), some (.val (.lst cells)), none, none]
  let R : D → (Int × Int) → Prop := fun d y => ∀ i cell, d = .tup [.int i, .int cell] → y.1 = cell ∧ (i = 0 → y.2 = 0)
  obtain ⟨l, c3, hll, hR, hc⟩ := comp_draw (vs := [3, 4]) (g := gT (gCons (gN 3) (gCons (gN 4) gNil))) (c := ret true) (el := eTup (aCons (eVar 4) (aCons (eIf (tst (eBin eqD (eVar 3) (eC (.int 0)))) (eC (.int 0)) (eFn S__law_pick (aCons (eVar 0) (aCons (eC (.int 30)) aNil)))) aNil)))
    (it := iEnum (eVar 2)) (env := env1) (enc := eP) (R := R) (ds := enumF 0 cells) (src := c2) (src1 := c2) (by rfl) (by rw [enumF_len]; simp only [cells, List.length_map, hcl]; omega) (clean_nones fun v hv => by simp at hv; rcases hv with rfl | rfl <;> exact .inl rfl) (fun d hd s => by
      rw [enum_range] at hd
      obtain ⟨i, hi, rfl⟩ := List.mem_map.mp hd
      have hi : i < cs.length := by simpa [cells] using List.mem_range.mp hi
      have hd' : cells.getD i .non = .int ((cs[i] : Nat) : Int) := by
        rw [List.getD_eq_getElem?_getD]
        show ((cs.map fun i : Nat => D.int (i : Int))[i]?).getD _ = _
        rw [List.getElem?_map, List.getElem?_eq_getElem hi]
        rfl
      rw [hd']
      let env2 : List (Option Sl) := [some (.val .src), some (.val (.int (m : Int))), some (.val (.lst cells)), some (.val (.int (i : Int))), some (.val (.int ((cs[i] : Nat) : Int)))]
      have go : ∀ (t : Int) (s' : Src), eIf (tst (eBin eqD (eVar 3) (eC (.int 0)))) (eC (.int 0)) (eFn S__law_pick (aCons (eVar 0) (aCons (eC (.int 30)) aNil))) ⟨env2, s⟩ = some (.int t, ⟨env2, s'⟩) → ((i : Int) = 0 → t = 0) →
          ∃ y e1 s', turnC (gT (gCons (gN 3) (gCons (gN 4) gNil))) (ret true) (eTup (aCons (eVar 4) (aCons (eIf (tst (eBin eqD (eVar 3) (eC (.int 0)))) (eC (.int 0)) (eFn S__law_pick (aCons (eVar 0) (aCons (eC (.int 30)) aNil)))) aNil))) (.tup [.int (i : Int), .int ((cs[i] : Nat) : Int)]) ⟨wipeE env1 [3, 4], s⟩ = some (some (eP y), ⟨e1, s'⟩) ∧ wipeE e1 [3, 4] = wipeE env1 [3, 4] ∧ R (.tup [.int (i : Int), .int ((cs[i] : Nat) : Int)]) y := fun t s' ht h0 => by
        refine ⟨(((cs[i] : Nat) : Int), t), env2, s', ?_, by rfl, fun i' cell e => ?_⟩
        · unfold turnC
          rw [bnd_eq (a := ()) (s1 := ⟨env2, s⟩) (by rfl), bnd_eq (a := true) (s1 := ⟨env2, s⟩) rfl, if_pos rfl]
          have he : eTup (aCons (eVar 4) (aCons (eIf (tst (eBin eqD (eVar 3) (eC (.int 0)))) (eC (.int 0)) (eFn S__law_pick (aCons (eVar 0) (aCons (eC (.int 30)) aNil)))) aNil)) ⟨env2, s⟩ = some (eP (((cs[i] : Nat) : Int), t), ⟨env2, s'⟩) := by
            unfold eTup
            rw [bnd_eq (cons_eq (d := .int ((cs[i] : Nat) : Int)) (s1 := ⟨env2, s⟩) (by rfl) (one_eq ht))]
            rfl
          rw [bnd_eq he]
          rfl
        · injection e with e
          injection e with e1 e2
          injection e2 with e2 _
          injection e1 with e1
          injection e2 with e2
          exact ⟨e2, fun z => h0 (e1.trans z)⟩
      by_cases hz0 : i = 0
      · refine go 0 s ?_ fun _ => rfl
        unfold eIf
        rw [bnd_eq (tst_eq (b := true) (bin_eq (f := eqD) (s1 := ⟨env2, s⟩) (x := .int (i : Int)) (y := .int 0) (by rfl) (by rfl) (by rw [eqD_int, hz0]; rfl))), if_pos rfl]
        rfl
      · obtain ⟨t, s', ht, _, _⟩ := pick_any 30 s (by decide) (by decide)
        refine go t s' ?_ fun z => absurd (by omega) hz0
        unfold eIf
        rw [bnd_eq (tst_eq (b := false) (bin_eq (f := eqD) (s1 := ⟨env2, s⟩) (x := .int (i : Int)) (y := .int 0) (by rfl) (by rfl) (by rw [eqD_int, decide_eq_false (by omega)]))), if_neg (by decide)]
        exact fn_eq (env := env2) (c0 := s) (ds := [.src, .int 30]) (by rfl) ht)
  have hlen : l.length = k := by rw [hll, enumF_len]; simp only [cells, List.length_map, hcl]
  have hat : ∀ (i : Nat) (h : i < l.length), l[i].1 = ((cs[i]'(by omega) : Nat) : Int) ∧ (i = 0 → l[i].2 = 0) := fun i h => by
    have h2 : i < cs.length := by omega
    have hen : (enumF 0 cells)[i]? = some (.tup [.int (i : Int), .int ((cs[i] : Nat) : Int)]) := by
      rw [enumF_get]
      show Option.map _ ((cs.map fun i : Nat => D.int (i : Int))[i]?) = _
      rw [List.getElem?_map, List.getElem?_eq_getElem h2]
      simp
    have := hR i _ _ hen (List.getElem?_eq_getElem h) (i : Int) _ rfl
    exact ⟨this.1, fun z => this.2 (by omega)⟩
  have hmap : l.map (·.1) = cs.map fun i : Nat => (i : Int) := by
    refine List.ext_getElem (by simp; omega) fun i h1 h2 => ?_
    rw [List.getElem_map, List.getElem_map]
    exact (hat i (by simpa using h1)).1
  refine ⟨l, c3, ⟨fun z => ?_, by omega, fun p hp => ?_, ?_, ?_⟩, ?_⟩
  · rw [z] at hlen; simp at hlen; omega
  · have : p.1 ∈ l.map (·.1) := List.mem_map.mpr ⟨p, hp, rfl⟩
    rw [hmap] at this
    obtain ⟨z, hz', e⟩ := List.mem_map.mp this
    have := hcm z hz'
    omega
  · rw [hmap]
    exact List.Pairwise.map _ (fun a b h z => h (by omega)) hcn
  · unfold at0
    have : 0 < l.length := by omega
    rw [List.getD_eq_getElem?_getD, List.getElem?_eq_getElem this]
    exact (hat 0 this).2 rfl
  · refine fnOf_ret (env := env1) ?_
    unfold m__law_draw_line
    rw [seq_nx (s1 := ⟨env1, c2⟩)]
    · exact ret_eq (call_eq (ds := [.lst (l.map eP)]) (one_eq (lst_eq hc)) (by rfl))
    · refine set_eq (env := env0) ?_ (by show 2 < 5; decide)
      unfold eSl
      have h1 : eFn S__law_any_order (aCons (eVar 0) (aCons (eLst (lRg1 (eVar 1))) aNil)) ⟨env0, c⟩ = some (.lst (zs.map fun i : Nat => D.int (i : Int)), ⟨env0, c1⟩) := by
        refine fn_eq (env := env0) (c0 := c) (ds := [.src, .lst ((List.range m).map fun i : Nat => D.int (i : Int))]) ?_ ho
        refine cons_eq (s1 := ⟨env0, c⟩) (by rfl) (one_eq (lst_eq ?_))
        unfold lRg1
        refine (bnd_eq (a := .int (m : Int)) (s1 := ⟨env0, c⟩) (by rfl)).trans ?_
        show (if L2.RgOk 0 (m : Int) then ret (rngL 0 (m : Int)) else fail) _ = _
        rw [if_pos (by unfold L2.RgOk; omega), rngL0]
        rfl
      have h2 : oAt (eBin addD (eC (.int 1)) (eFn S__law_pick (aCons (eVar 0) (aCons (eVar 1) aNil)))) ⟨env0, c1⟩ = some (some (k : Int), ⟨env0, c2⟩) := by
        unfold oAt
        have hp' : S__law_pick [.src, .int (m : Int)] c1 = some (.int r, c2) := hp
        have h3 : eBin addD (eC (.int 1)) (eFn S__law_pick (aCons (eVar 0) (aCons (eVar 1) aNil))) ⟨env0, c1⟩ = some (.int (k : Int), ⟨env0, c2⟩) := by
          rw [hk]
          exact bin_eq (f := addD) (s1 := ⟨env0, c1⟩) (x := .int 1) (y := .int r) (by rfl) (fn_eq (env := env0) (c0 := c1) (ds := [.src, .int (m : Int)]) (by rfl) hp') (by rfl)
        rw [bnd_eq h3]
        rfl
      refine (bnd_eq h1).trans ?_
      refine (bnd_eq (a := none) (s1 := ⟨env0, c1⟩) (by rfl)).trans ?_
      refine (bnd_eq h2).trans ?_
      show some (D.lst (cutL (zs.map fun i : Nat => D.int (i : Int)) none (some (k : Int))), _) = _
      rw [cut_head, ← List.map_take]
end GW
end

noncomputable section
namespace GW
open GH
structure GreensOk (n : Nat) (L : Int) (gs : List (Int × Int)) : Prop where
  len : gs.length = n
  rng : ∀ g ∈ gs, 0 ≤ g.2 ∧ g.2 ≤ L
theorem cnt_lt (k : Nat) : ∀ n : Nat, (List.range n).countP (fun s => decide (s < k)) = min k n
  | 0 => by simp
  | n + 1 => by
    rw [List.range_succ, List.countP_append, cnt_lt k n]
    by_cases h : n < k
    · simp [h]; omega
    · simp [h]; omega
theorem rot_range (n c : Nat) (hc : c < n) : (List.range n).map (fun s => (s + c) % n) = List.range' c (n - c) ++ List.range c := by
  refine List.ext_getElem (by simp; omega) fun i h1 h2 => ?_
  have hi : i < n := by simpa using h1
  rw [List.getElem_map, List.getElem_range]
  by_cases h : i < n - c
  · rw [List.getElem_append_left (by simpa using h), List.getElem_range', Nat.mod_eq_of_lt (by omega)]
    omega
  · rw [List.getElem_append_right (by simpa using h), List.getElem_range]
    have e : i + c = (i - (n - c)) + n := by omega
    rw [e, Nat.add_mod_right, Nat.mod_eq_of_lt (by omega)]
    simp
theorem cnt_rot (n c k : Nat) (hn : 0 < n) : (List.range n).countP (fun s => decide ((s + c) % n < k)) = min k n := by
  have h0 : (fun s => decide ((s + c) % n < k)) = fun s => decide ((s + c % n) % n < k) := by
    funext s
    rw [Nat.add_mod, Nat.add_mod s (c % n), Nat.mod_mod]
  rw [h0]
  have hc := Nat.mod_lt c hn
  have e : (List.range n).countP (fun s => decide ((s + c % n) % n < k)) = ((List.range n).map (fun s => (s + c % n) % n)).countP (fun s => decide (s < k)) := by
    rw [List.countP_map]; rfl
  rw [e, rot_range n (c % n) hc, List.countP_append, Nat.add_comm, ← List.countP_append]
  have e2 : List.range (c % n) ++ List.range' (c % n) (n - c % n) = List.range n := by
    rw [List.range_eq_range', List.range_eq_range']
    have := List.range'_append (s := 0) (m := c % n) (n := n - c % n) (step := 1)
    simp only [Nat.zero_add, Nat.one_mul] at this
    rw [this]
    congr 1
    omega
  rw [e2, cnt_lt]
/-- the places of [0, L) whose turn by X lies below k -/
theorem cnt_int (L X k : Int) (hL : 0 < L) (hk : 0 ≤ k) (hk2 : k ≤ L) : ((List.range L.toNat).countP fun s => decide ((((s : Nat) : Int) + X).fmod L < k)) = k.toNat := by
  have e : (fun s : Nat => decide ((((s : Nat) : Int) + X).fmod L < k)) = fun s : Nat => decide ((s + (X % L).toNat) % L.toNat < k.toNat) := by
    funext s
    have h1 : (((s : Nat) : Int) + X).fmod L = (((s + (X % L).toNat) % L.toNat : Nat) : Int) := by
      rw [Int.fmod_eq_emod_of_nonneg _ (by omega)]
      have h2 : 0 ≤ X % L := Int.emod_nonneg X (by omega)
      rw [Int.natCast_emod, Int.natCast_add, Int.toNat_of_nonneg h2, Int.toNat_of_nonneg (by omega : 0 ≤ L)]
      rw [Int.add_emod, Int.add_emod ((s : Nat) : Int) (X % L), Int.emod_emod_of_dvd X (Int.dvd_refl L)]
    rw [h1]
    by_cases h : (s + (X % L).toNat) % L.toNat < k.toNat
    · rw [decide_eq_true h, decide_eq_true (by omega)]
    · rw [decide_eq_false h, decide_eq_false (by omega)]
  rw [e, cnt_rot _ _ _ (by omega)]
  omega

theorem arr_at : ∀ (l : List (Int × Int)) (t : Int) (i : Nat), (arr l t)[i]? = (arr l 0)[i]?.map fun x => x + t
  | [], _, _ => rfl
  | p :: r, t, 0 => by simp [arr]; omega
  | p :: r, t, i + 1 => by
    show (arr r (t + p.2))[i]? = (arr r (0 + p.2))[i]?.map _
    rw [arr_at r (t + p.2) i, arr_at r (0 + p.2) i]
    cases (arr r 0)[i]? with
    | none => rfl
    | some x => simp; omega
def tk (l : List (Int × Int)) (i : Nat) : Int := (arr l 0).getD i 0
theorem pass_iff (L : Int) (off : List Int) : ∀ (l gs : List (Int × Int)) (ts : List Int), l.length = gs.length → l.length = ts.length →
    (passG L off l gs ts = true ↔ ∀ i, i < l.length → (ts.getD i 0 - offAt off (at0 l i).1 - (at0 gs i).1).fmod L < (at0 gs i).2)
  | [], gs, ts, _, _ => by simp [passG]
  | p :: l, [], ts, h, _ => by simp at h
  | p :: l, g :: gs, [], _, h => by simp at h
  | p :: l, g :: gs, t :: ts, h1, h2 => by
    simp only [List.length_cons] at h1 h2
    have ih := pass_iff L off l gs ts (by omega) (by omega)
    show (decide _ && passG L off l gs ts) = true ↔ _
    rw [Bool.and_eq_true, ih, decide_eq_true_iff]
    constructor
    · rintro ⟨a, b⟩ i hi
      cases i with
      | zero => exact a
      | succ i => exact b i (by simpa using hi)
    · intro h
      exact ⟨h 0 (by simp), fun i hi => h (i + 1) (by simpa using hi)⟩
theorem pass_at (L : Int) (off : List Int) (l gs : List (Int × Int)) (s : Int) (h : l.length = gs.length) :
    passG L off l gs (arr l s) = true ↔ ∀ i, i < l.length → (s + (tk l i - offAt off (at0 l i).1 - (at0 gs i).1)).fmod L < (at0 gs i).2 := by
  rw [pass_iff L off l gs (arr l s) h (arr_len l s).symm]
  have key : ∀ i, i < l.length → (arr l s).getD i 0 = tk l i + s := fun i hi => by
    unfold tk
    have hl : i < (arr l 0).length := by rw [arr_len]; exact hi
    rw [List.getD_eq_getElem?_getD, List.getD_eq_getElem?_getD, arr_at, List.getElem?_eq_getElem hl]
    rfl
  constructor
  · intro hh i hi
    have := hh i hi
    rw [key i hi] at this
    rw [show s + (tk l i - offAt off (at0 l i).1 - (at0 gs i).1) = tk l i + s - offAt off (at0 l i).1 - (at0 gs i).1 by omega]
    exact this
  · intro hh i hi
    have := hh i hi
    rw [key i hi]
    rw [show s + (tk l i - offAt off (at0 l i).1 - (at0 gs i).1) = tk l i + s - offAt off (at0 l i).1 - (at0 gs i).1 by omega] at this
    exact this
theorem at0_mem {l : List (Int × Int)} {i : Nat} (h : i < l.length) : at0 l i ∈ l := by
  unfold at0
  rw [List.getD_eq_getElem?_getD, List.getElem?_eq_getElem h]
  exact List.getElem_mem h
theorem band_len (L : Int) (off : List Int) (l gs : List (Int × Int)) : (bandL L off l gs).length = (List.range L.toNat).countP fun s => passG L off l gs (arr l (s : Nat)) := by
  unfold bandL
  rw [← List.countP_eq_length_filter, List.countP_map]
  rfl
theorem least_spec {gs : List (Int × Int)} (h : gs ≠ []) : (∃ i, i < gs.length ∧ least gs = (at0 gs i).2) ∧ ∀ i, i < gs.length → least gs ≤ (at0 gs i).2 := by
  obtain ⟨h1, h2⟩ := minL_spec (ns := gs.map (·.2)) (by simpa using h)
  refine ⟨?_, fun i hi => h2 _ (List.mem_map.mpr ⟨_, at0_mem hi, rfl⟩)⟩
  obtain ⟨g, hg, e⟩ := List.mem_map.mp h1
  obtain ⟨i, hi⟩ := List.mem_iff_getElem?.mp hg
  have hlt := (List.getElem?_eq_some_iff.mp hi).1
  refine ⟨i, hlt, ?_⟩
  unfold at0
  rw [List.getD_eq_getElem?_getD, hi]
  exact e.symm
/-- no band is wider than the least green -/
theorem band_le (L : Int) (off : List Int) (l gs : List (Int × Int)) (hL : 0 < L) (h : l.length = gs.length) (h0 : gs ≠ []) (hg : ∀ g ∈ gs, 0 ≤ g.2 ∧ g.2 ≤ L) : ((bandL L off l gs).length : Int) ≤ least gs := by
  obtain ⟨⟨i, hi, e⟩, _⟩ := least_spec h0
  have hr := hg _ (at0_mem hi)
  rw [e, band_len]
  have hle := List.countP_mono_left (l := List.range L.toNat) (p := fun s => passG L off l gs (arr l (s : Nat))) (q := fun s => decide ((((s : Nat) : Int) + (tk l i - offAt off (at0 l i).1 - (at0 gs i).1)).fmod L < (at0 gs i).2)) fun s _ hp => by
    have := (pass_at L off l gs (s : Nat) h).mp hp i (by omega)
    exact decide_eq_true this
  rw [cnt_int L _ _ hL hr.1 hr.2] at hle
  omega

theorem tell_len (g0 L : Int) : ∀ (l gs : List (Int × Int)) (ts off : List Int), (tellF g0 L off l gs ts).length = off.length
  | [], _, _, _ => by simp [tellF]
  | _ :: _, [], _, _ => by simp [tellF]
  | _ :: _, _ :: _, [], _ => by simp [tellF]
  | p :: l, g :: gs, t :: ts, off => by
    show (tellF g0 L (off.set _ _) l gs ts).length = _
    rw [tell_len, List.length_set]
theorem tell_off (g0 L : Int) (k : Int) (hk : 0 ≤ k) : ∀ (l gs : List (Int × Int)) (ts off : List Int), (∀ p ∈ l, 0 ≤ p.1) → k ∉ l.map (·.1) → offAt (tellF g0 L off l gs ts) k = offAt off k
  | [], _, _, _, _, _ => by simp [tellF]
  | _ :: _, [], _, _, _, _ => by simp [tellF]
  | _ :: _, _ :: _, [], _, _, _ => by simp [tellF]
  | p :: l, g :: gs, t :: ts, off, hp, hn => by
    rw [List.map_cons, List.mem_cons, not_or] at hn
    show offAt (tellF g0 L (off.set p.1.toNat _) l gs ts) k = _
    rw [tell_off g0 L k hk l gs ts _ (fun q hq => hp q (List.mem_cons_of_mem _ hq)) hn.2]
    have h0 := hp p List.mem_cons_self
    unfold offAt
    rw [List.getD_eq_getElem?_getD, List.getD_eq_getElem?_getD, List.getElem?_set_ne (by omega)]
theorem tell_at (g0 L : Int) : ∀ (l gs : List (Int × Int)) (ts off : List Int) (i : Nat), l.length = gs.length → l.length = ts.length → (∀ p ∈ l, 0 ≤ p.1 ∧ p.1 < off.length) → (l.map (·.1)).Nodup → i < l.length →
    offAt (tellF g0 L off l gs ts) (at0 l i).1 = (g0 + ts.getD i 0 - (at0 gs i).1).fmod L
  | [], _, _, _, i, _, _, _, _, h => by simp at h
  | _ :: _, [], _, _, _, h, _, _, _, _ => by simp at h
  | _ :: _, _ :: _, [], _, _, _, h, _, _, _ => by simp at h
  | p :: l, g :: gs, t :: ts, off, i, h1, h2, hp, hn, hi => by
    rw [List.map_cons, List.nodup_cons] at hn
    have h0 := hp p List.mem_cons_self
    simp only [List.length_cons] at h1 h2 hi
    cases i with
    | zero =>
      show offAt (tellF g0 L (off.set p.1.toNat _) l gs ts) p.1 = _
      rw [tell_off g0 L p.1 h0.1 l gs ts _ (fun q hq => (hp q (List.mem_cons_of_mem _ hq)).1) hn.1]
      unfold offAt
      rw [List.getD_eq_getElem?_getD, List.getElem?_set_self (by omega)]
      rfl
    | succ i =>
      exact tell_at g0 L l gs ts (off.set p.1.toNat ((g0 + t - g.1).fmod L)) i (by omega) (by omega) (fun q hq => by rw [List.length_set]; exact hp q (List.mem_cons_of_mem _ hq)) hn.2 (by omega)
theorem fmod_shift (a b L : Int) (hL : 0 < L) : (a - b.fmod L).fmod L = (a - b).fmod L := by
  rw [Int.fmod_eq_emod_of_nonneg _ (by omega), Int.fmod_eq_emod_of_nonneg _ (by omega), Int.fmod_eq_emod_of_nonneg _ (by omega)]
  rw [Int.sub_emod a (b % L), Int.emod_emod_of_dvd b (Int.dvd_refl L), ← Int.sub_emod]
end GW
end

noncomputable section
namespace GW
open GH
theorem fmod_add (a b L : Int) (hL : 0 < L) : (a.fmod L + b).fmod L = (a + b).fmod L := by
  rw [Int.fmod_eq_emod_of_nonneg _ (by omega), Int.fmod_eq_emod_of_nonneg _ (by omega), Int.fmod_eq_emod_of_nonneg _ (by omega)]
  rw [Int.add_emod (a % L), Int.emod_emod_of_dvd a (Int.dvd_refl L), ← Int.add_emod]
theorem told_len (m : Nat) (l gs : List (Int × Int)) (L : Int) : (told m l gs L).length = m := by unfold told; rw [tell_len]; simp
theorem told_in {m : Nat} {l gs : List (Int × Int)} {L : Int} (h : LineOk m l) : inOff (told m l gs L) l := fun p hp => by
  rw [told_len]; exact h.inn p hp
theorem lt_all {n : Nat} {gs : List (Int × Int)} {x : Int} (h0 : gs ≠ []) (hl : n = gs.length) : (∀ i, i < n → x < (at0 gs i).2) ↔ x < least gs := by
  obtain ⟨⟨j, hj, e⟩, hle⟩ := least_spec h0
  constructor
  · intro h; rw [e]; exact h j (by omega)
  · intro h i hi
    have := hle i (by omega)
    omega
theorem told_band (m : Nat) (l gs : List (Int × Int)) (L : Int) (hl : LineOk m l) (hL : 0 < L) (hg : GreensOk l.length L gs) : ((bandL L (told m l gs L) l gs).length : Int) = least gs := by
  have hne : gs ≠ [] := fun z => by
    have := hg.len
    rw [z] at this
    have h2 := List.length_pos_iff.mpr hl.ne
    simp at this
    omega
  obtain ⟨⟨j, hj, e⟩, _⟩ := least_spec hne
  have hr := hg.rng _ (at0_mem hj)
  let g0 := (gs.headD (0, 0)).1
  have key : ∀ s : Nat, passG L (told m l gs L) l gs (arr l (s : Int)) = decide ((((s : Nat) : Int) + -g0).fmod L < least gs) := fun s => by
    rw [Bool.eq_iff_iff, pass_at L _ l gs _ hg.len.symm, decide_eq_true_iff, ← lt_all (n := l.length) hne hg.len.symm]
    constructor
    · intro h i hi
      have := h i hi
      have ht : offAt (told m l gs L) (at0 l i).1 = (g0 + tk l i - (at0 gs i).1).fmod L := tell_at g0 L l gs (arr l 0) _ i hg.len.symm (arr_len l 0).symm (fun p hp => by simpa using hl.inn p hp) hl.nd hi
      rw [ht, show ((s : Nat) : Int) + (tk l i - (g0 + tk l i - (at0 gs i).1).fmod L - (at0 gs i).1) = ((s : Nat) : Int) + tk l i - (at0 gs i).1 - (g0 + tk l i - (at0 gs i).1).fmod L by omega, fmod_shift _ _ _ hL] at this
      rw [show ((s : Nat) : Int) + tk l i - (at0 gs i).1 - (g0 + tk l i - (at0 gs i).1) = ((s : Nat) : Int) + -g0 by omega] at this
      exact this
    · intro h i hi
      have := h i hi
      have ht : offAt (told m l gs L) (at0 l i).1 = (g0 + tk l i - (at0 gs i).1).fmod L := tell_at g0 L l gs (arr l 0) _ i hg.len.symm (arr_len l 0).symm (fun p hp => by simpa using hl.inn p hp) hl.nd hi
      rw [ht, show ((s : Nat) : Int) + (tk l i - (g0 + tk l i - (at0 gs i).1).fmod L - (at0 gs i).1) = ((s : Nat) : Int) + tk l i - (at0 gs i).1 - (g0 + tk l i - (at0 gs i).1).fmod L by omega, fmod_shift _ _ _ hL]
      rw [show ((s : Nat) : Int) + tk l i - (at0 gs i).1 - (g0 + tk l i - (at0 gs i).1) = ((s : Nat) : Int) + -g0 by omega]
      exact this
  rw [band_len]
  have : (List.range L.toNat).countP (fun s => passG L (told m l gs L) l gs (arr l (s : Nat))) = (List.range L.toNat).countP fun s => decide ((((s : Nat) : Int) + -g0).fmod L < least gs) := by
    congr 1
    funext s
    exact key s
  rw [this, cnt_int L (-g0) _ hL (by omega) (by omega)]
  omega
theorem pass_mem (L : Int) (off : List Int) (l gs : List (Int × Int)) (s : Int) (hL : 0 < L) (h : l.length = gs.length) : decide (s.fmod L ∈ bandL L off l gs) = passG L off l gs (arr l s) := by
  rw [Bool.eq_iff_iff, decide_eq_true_iff]
  have h0 : 0 ≤ s.fmod L := Int.fmod_nonneg_of_pos s hL
  have h1 : s.fmod L < L := Int.fmod_lt_of_pos s hL
  have per : passG L off l gs (arr l (s.fmod L)) = true ↔ passG L off l gs (arr l s) = true := by
    rw [pass_at L off l gs _ h, pass_at L off l gs _ h]
    constructor
    · intro hh i hi
      have := hh i hi
      rw [fmod_add _ _ _ hL] at this
      exact this
    · intro hh i hi
      rw [fmod_add _ _ _ hL]
      exact hh i hi
  unfold bandL
  rw [List.mem_filter, per]
  constructor
  · exact fun z => z.2
  · intro z
    exact ⟨List.mem_map.mpr ⟨(s.fmod L).toNat, List.mem_range.mpr (by omega), by omega⟩, z⟩
theorem told_first (m : Nat) (l gs : List (Int × Int)) (L : Int) (hl : LineOk m l) (hL : 0 < L) (hg : l.length = gs.length) : offAt (told m l gs L) (at0 l 0).1 = 0 := by
  have hpos : 0 < l.length := List.length_pos_iff.mpr hl.ne
  have ht : offAt (told m l gs L) (at0 l 0).1 = ((gs.headD (0, 0)).1 + tk l 0 - (at0 gs 0).1).fmod L := tell_at _ L l gs (arr l 0) _ 0 hg (arr_len l 0).symm (fun p hp => by simpa using hl.inn p hp) hl.nd hpos
  rw [ht]
  have h1 : tk l 0 = 0 := by
    have hf := hl.first
    unfold tk
    cases l with
    | nil => simp at hpos
    | cons p r =>
      have hf : p.2 = 0 := hf
      simp [arr, hf]
  have h2 : (gs.headD (0, 0)).1 = (at0 gs 0).1 := by cases gs <;> rfl
  rw [h1, h2, show (at0 gs 0).1 + 0 - (at0 gs 0).1 = 0 by omega]
  simp
theorem told_zero (m : Nat) (l gs : List (Int × Int)) (L : Int) (hl : LineOk m l) (hL : 0 < L) (hg : l.length = gs.length) (k : Int) (hk : 0 ≤ k) (hk2 : k < m) (hn : k ∉ freeOf l) : offAt (told m l gs L) k = 0 := by
  by_cases h : k = (at0 l 0).1
  · rw [h]; exact told_first m l gs L hl hL hg
  · have : k ∉ l.map (·.1) := fun z => by
      cases l with
      | nil => simp at z
      | cons p r =>
        rw [List.map_cons, List.mem_cons] at z
        rcases z with z | z
        · exact h z
        · exact hn z
    unfold told
    rw [tell_off _ L k hk l gs _ _ (fun p hp => (hl.inn p hp).1) this]
    unfold offAt
    rw [List.getD_eq_getElem?_getD, List.getElem?_replicate]
    split <;> rfl
theorem told_rng (m : Nat) (l gs : List (Int × Int)) (L : Int) (hL : 0 < L) : ∀ x ∈ told m l gs L, 0 ≤ x ∧ x < L := by
  have key : ∀ (l gs : List (Int × Int)) (ts off : List Int), (∀ x ∈ off, 0 ≤ x ∧ x < L) → ∀ x ∈ tellF (gs.headD (0, 0)).1 L off l gs ts, 0 ≤ x ∧ x < L := fun l gs => by
    suffices h : ∀ (g0 : Int) (l gs : List (Int × Int)) (ts off : List Int), (∀ x ∈ off, 0 ≤ x ∧ x < L) → ∀ x ∈ tellF g0 L off l gs ts, 0 ≤ x ∧ x < L from h _ l gs
    intro g0 l
    induction l with
    | nil => intro gs ts off h x hx; simp [tellF] at hx; exact h x hx
    | cons p l ih =>
      intro gs ts off h x hx
      cases gs with
      | nil => simp [tellF] at hx; exact h x hx
      | cons g gs =>
        cases ts with
        | nil => simp [tellF] at hx; exact h x hx
        | cons t ts =>
          refine ih gs ts (off.set p.1.toNat ((g0 + t - g.1).fmod L)) (fun y hy => ?_) x hx
          rcases List.mem_or_eq_of_mem_set hy with z | z
          · exact h y z
          · rw [z]; exact ⟨Int.fmod_nonneg_of_pos _ hL, Int.fmod_lt_of_pos _ hL⟩
  exact key l gs _ _ fun x hx => by
    have := List.eq_of_mem_replicate hx
    subst this
    exact ⟨by omega, hL⟩
/-- so many draws below L -/
theorem draws_comp {v : Nat} {it : M (List D)} {env : List (Option Sl)} {as : M (List D)} (n : Nat) (L : Int) (c : Src) (hn : n ≤ 1000) (hL : 1 ≤ L) (hL2 : L ≤ 1000) (hit : it ⟨env, c⟩ = some (rngL 0 (n : Int), ⟨env, c⟩)) (cl : cleanE env [v])
    (step : ∀ (i : Nat) (s : Src), ∃ env2, gN v (.int (i : Int)) ⟨wipeE env [v], s⟩ = some ((), ⟨env2, s⟩) ∧ as ⟨env2, s⟩ = some ([.src, .int L], ⟨env2, s⟩) ∧ wipeE env2 [v] = wipeE env [v]) :
    ∃ (os : List Int) (c' : Src), os.length = n ∧ (∀ o ∈ os, 0 ≤ o ∧ o < L) ∧ eComp [v] (gN v) (ret true) (eFn S__law_pick as) it ⟨env, c⟩ = some (os.map D.int, ⟨env, c'⟩) := by
  obtain ⟨os, c', hl, hR, hc⟩ := comp_draw (vs := [v]) (g := gN v) (c := ret true) (el := eFn S__law_pick as) (it := it) (env := env) (enc := D.int) (R := fun _ y => 0 ≤ y ∧ y < L) (ds := rngL 0 (n : Int)) (src := c) (src1 := c) hit (by rw [rngL0]; simp; omega) cl (fun d hd s => by
    rw [rngL0] at hd
    obtain ⟨i, _, rfl⟩ := List.mem_map.mp hd
    obtain ⟨env2, h1, h2, h3⟩ := step i s
    obtain ⟨r, s', hp, h0, h4⟩ := pick_any L s hL (by omega)
    refine ⟨r, env2, s', ?_, h3, h0, h4⟩
    unfold turnC
    have hp' : S__law_pick [.src, .int L] s = some (.int r, s') := hp
    rw [bnd_eq h1, bnd_eq (a := true) (s1 := ⟨env2, s⟩) rfl, if_pos rfl, bnd_eq (fn_eq (env := env2) (c0 := s) h2 hp')]
    rfl)
  refine ⟨os, c', by rw [hl, rngL0]; simp, fun o ho => ?_, hc⟩
  obtain ⟨i, hi⟩ := List.mem_iff_getElem?.mp ho
  have hlt : i < (rngL 0 (n : Int)).length := by rw [← hl]; exact (List.getElem?_eq_some_iff.mp hi).1
  exact hR i _ o (List.getElem?_eq_getElem hlt) hi
theorem rg1_of {env : List (Option Sl)} {c : Src} {m : M D} {L : Int} (h : m ⟨env, c⟩ = some (.int L, ⟨env, c⟩)) (h0 : 0 ≤ L) (h2 : L ≤ 100000) : iRg1 m ⟨env, c⟩ = some (rngL 0 L, ⟨env, c⟩) := by
  unfold iRg1
  exact (bnd_eq h).trans (by show (if okR L then ret (rngL 0 L) else fail) _ = _; rw [if_pos (okR_of h0 h2)]; rfl)
theorem ok_Is (xs : List Int) : (eIs xs).okN 1 := D.okN_tup (n := 0) fun d hd => by
  obtain ⟨x, _, rfl⟩ := List.mem_map.mp hd
  exact D.okN_int x
theorem ok_Ps (xs : List (Int × Int)) : (ePs xs).okN 2 := D.okN_tup (n := 1) fun d hd => by
  obtain ⟨x, _, rfl⟩ := List.mem_map.mp hd
  exact okP x
theorem or2_ff {t u : M Bool} {s s1 s2 : S} (h : t s = some (false, s1)) (h2 : u s1 = some (false, s2)) : tOr2 t u s = some (false, s2) := by
  unfold tOr2; rw [bnd_eq h, if_neg (by decide), h2]
theorem skip_if {t : M Bool} {m n : M Out} {s s1 : S} (h : t s = some (false, s1)) : sSeq (sIf t m sNx) n s = n s1 := seq_nx ((if_ff h).trans (by rfl))
theorem repr_bl (b : Bool) : reprG [.bl b] = some (.str (if b = true then "True" else "False")) := rfl
theorem str_ok (b : Bool) : (D.str (if b = true then "True" else "False")).ok := by
  cases b
  · exact ⟨by simp only [D.nice]; decide +kernel, by simp [D.py, PySem.PyData.depth]⟩
  · exact ⟨by simp only [D.nice]; decide +kernel, by simp [D.py, PySem.PyData.depth]⟩
theorem fields_comp {v : Nat} {it : M (List D)} {env : List (Option Sl)} {k : Int} (f : Int × Int → Int) (ps : List (Int × Int)) (c : Src) (hl : ps.length ≤ 1000) (hit : it ⟨env, c⟩ = some (ps.map eP, ⟨env, c⟩)) (cl : cleanE env [v])
    (step : ∀ p : Int × Int, ∃ env2, gN v (eP p) ⟨wipeE env [v], c⟩ = some ((), ⟨env2, c⟩) ∧ eBin ixD (eVar v) (eC (.int k)) ⟨env2, c⟩ = some (.int (f p), ⟨env2, c⟩) ∧ wipeE env2 [v] = wipeE env [v]) :
    eComp [v] (gN v) (ret true) (eBin ixD (eVar v) (eC (.int k))) it ⟨env, c⟩ = some ((ps.map f).map D.int, ⟨env, c⟩) := by
  rw [List.map_map]
  refine comp_map (enc := eP) (f := D.int ∘ f) (src1 := c) hit (by omega) cl fun p _ => ?_
  obtain ⟨env2, h1, h2, h3⟩ := step p
  refine ⟨env2, ?_, h3⟩
  unfold turnC
  rw [bnd_eq h1, bnd_eq (a := true) (s1 := ⟨env2, c⟩) rfl, if_pos rfl, bnd_eq h2]
  rfl
theorem nones_nil {α : Type} (xs : List α) : (xs.filterMap fun _ => (none : Option D)) = [] := by
  induction xs with
  | nil => rfl
  | cons x r ih => rw [List.filterMap_cons]; exact ih
theorem trues_all (xs : List Int) : ((xs.map fun _ => true).all id) = true := by
  rw [List.all_map]
  exact List.all_eq_true.mpr fun _ _ => rfl
theorem repr_call {m : M D} {s s1 : S} {b : Bool} (h : m s = some (.bl b, s1)) : eCall reprG (aCons m aNil) s = some (.str (if b = true then "True" else "False"), s1) := call_eq (one_eq h) (repr_bl b)
theorem len_call {m : M D} {s s1 : S} {xs : List D} (h : m s = some (.tup xs, s1)) : eCall lenG (aCons m aNil) s = some (.int (xs.length : Nat), s1) := call_eq (one_eq h) (by rfl)
theorem ne_same {ma mb : M D} {s s1 s2 : S} {d : D} (h : ma s = some (d, s1)) (h2 : mb s1 = some (d, s2)) (ok : d.ok) : tst (eBin neD ma mb) s = some (false, s2) := tst_eq (bin_eq (f := neD) h h2 (neD_same ok))
theorem par2 {i j : Nat} {ma mb : M D} {env : List (Option Sl)} {c c1 c2 : Src} {x y : D} (h1 : ma ⟨env, c⟩ = some (x, ⟨env, c1⟩)) (h2 : mb ⟨env, c1⟩ = some (y, ⟨env, c2⟩)) (hi : i < env.length) (hj : j < env.length) :
    sPar [i, j] (pVal ma (pVal mb pNil)) ⟨env, c⟩ = some (.nx, ⟨(env.set j (some (.val y))).set i (some (.val x)), c2⟩) := by
  have hq : pVal mb pNil ⟨env, c1⟩ = some ([.val y], ⟨env, c2⟩) := by
    unfold pVal; rw [bnd_eq h2]; rfl
  have hp : pVal ma (pVal mb pNil) ⟨env, c⟩ = some ([.val x, .val y], ⟨env, c2⟩) := by
    unfold pVal at hq ⊢; rw [bnd_eq h1, bnd_eq hq]; rfl
  unfold sPar
  refine (bnd_eq hp).trans ?_
  show (match putAll [i, j] [.val x, .val y] env with
    | some env => some (Out.nx, (⟨env, c2⟩ : S))
    | none => none) = _
  simp [putAll, hi, hj]
theorem plus_pick {env : List (Option Sl)} {c : Src} {k : Int} (hk : 1 ≤ k) (hk2 : k ≤ 1000) (as : M (List D)) (has : ∀ s, as ⟨env, s⟩ = some ([.src, .int k], ⟨env, s⟩)) :
    ∃ (n : Nat) (c' : Src), 1 ≤ n ∧ ((n : Nat) : Int) ≤ k ∧ eBin addD (eC (.int 1)) (eFn S__law_pick as) ⟨env, c⟩ = some (.int (n : Int), ⟨env, c'⟩) := by
  obtain ⟨r, c', e, h0, h1⟩ := pick_any k c hk (by omega)
  have e' : S__law_pick [.src, .int k] c = some (.int r, c') := e
  refine ⟨(1 + r).toNat, c', by omega, by omega, ?_⟩
  rw [show (((1 + r).toNat : Nat) : Int) = 1 + r by omega]
  exact bin_eq (f := addD) (s1 := ⟨env, c⟩) (x := .int 1) (y := .int r) (by rfl) (fn_eq (env := env) (c0 := c) (has c) e') (by rfl)
theorem max_in {l : List (Int × Int)} {m : Nat} (h : LineOk m l) : 0 ≤ maxL (l.map (·.1)) ∧ maxL (l.map (·.1)) < m ∧ ∀ p ∈ l, p.1 ≤ maxL (l.map (·.1)) := by
  obtain ⟨h1, h2⟩ := maxL_spec (ns := l.map (·.1)) (by simpa using h.ne)
  obtain ⟨p, hp, e⟩ := List.mem_map.mp h1
  have := h.inn p hp
  refine ⟨by rw [← e]; exact this.1, by rw [← e]; exact this.2, fun q hq => h2 _ (List.mem_map.mpr ⟨q, hq, rfl⟩)⟩
theorem pow_small {L k : Nat} (h : L ≤ 6) (hk : k ≤ 2) : L ^ k ≤ 50000 := by
  have h1 : L ^ k ≤ 6 ^ k := Nat.pow_le_pow_left h k
  have h2 : 6 ^ k ≤ 6 ^ 2 := Nat.pow_le_pow_right (by decide) hk
  exact Nat.le_trans h1 (Nat.le_trans h2 (by decide))
end GW
end

local macro_rules | `(tactic| simp_arith [$ls,*]) => `(tactic| simp only [↓GH.wp_ret, ↓GH.wp_lift, ↓GH.sm_some, ↓GH.sm_map, ↓GH.sm_bind, ↓GH.ifB_tt, ↓GH.ifB_ff, ↓GH.ifB_dec, ↓GH.ifB_not, ↓GH.nx_nx, ↓GH.nx_ret, ↓GH.nx_brk, ↓GH.nx_cnt, ↓GH.varAt_z, ↓GH.varAt_s, ↓GH.slAt_z, ↓GH.slAt_s, ↓GH.ownAt_z, ↓GH.ownAt_s, ↓GH.setAt_z, ↓GH.setAt_s, ↓GH.frzAt_z, ↓GH.frzAt_s, ↓GH.bor_val, ↓GH.bor_own, ↓GH.bor_ownK, ↓GH.bor_ownT, ↓GH.len_0, ↓GH.len_1, ↓GH.len_2, ↓GH.len_3, ↓GH.len_4, ↓GH.len_5, ↓GH.len_6, ↓GH.isB_bl, ↓GH.isI_int, ↓GH.wp_var, ↓GH.wp_frz, ↓GH.wp_C, ↓GH.wp_bin, ↓GH.wp_un, ↓GH.wp_tst, ↓GH.wp_tru, ↓GH.wp_and2, ↓GH.wp_or2, ↓GH.wp_not1, ↓GH.wp_eAnd, ↓GH.wp_eOr, ↓GH.wp_eNot, ↓GH.wp_eIf, ↓GH.wp_chain, ↓GH.wp_aNil, ↓GH.wp_aCons, ↓GH.wp_aStar, ↓GH.wp_tup, ↓GH.wp_disp, ↓GH.wp_lst, ↓GH.wp_call, ↓GH.wp_callL, ↓GH.wp_binL, ↓GH.wp_fn, ↓GH.wp_fld, ↓GH.wp_oNo, ↓GH.wp_oAt, ↓GH.wp_sl, ↓GH.wp_ixO, ↓GH.wp_here, ↓GH.wp_putL, ↓GH.wp_app, ↓GH.sm_app, ↓GH.wp_pop, ↓GH.sm_popL, ↓GH.wp_popAt, ↓GH.wp_bor, ↓GH.wp_tBor, ↓GH.isFlat_int, ↓GH.isFlat_bl, ↓GH.isFlat_non, ↓GH.isFlat_str, ↓GH.wp_seq, ↓GH.wp_nx, ↓GH.wp_sRet, ↓GH.wp_sIf, ↓GH.wp_sExpr, ↓GH.wp_asg, ↓GH.wp_gN, ↓GH.wp_gT, ↓GH.wp_gCons, ↓GH.wp_gNil, ↓GH.wp_set, ↓GH.wp_own, ↓GH.wp_aug, ↓GH.sm_aug, ↓GH.wp_setIx, ↓GH.wp_ownGet, ↓GH.wp_augIx, ↓GH.wp_sFor, ↓GH.wp_pNil, ↓GH.wp_pVal, ↓GH.wp_pOwn, ↓GH.wp_par, ↓GH.sm_put0, ↓GH.sm_put, ↓GH.wp_iSeq, ↓GH.wp_rg1, ↓GH.wp_rg2, ↓GH.wp_enum, ↓GH.wp_zip2, ↓GH.wp_zip3, ↓GH.wp_lRg1, ↓GH.wp_lRg2, ↓GH.wp_tupRg, ↓GH.sm_addI, ↓GH.sm_addT, ↓GH.sm_addL, ↓GH.sm_addLD, ↓GH.sm_subI, ↓GH.sm_mulI, ↓GH.sm_mulL, ↓GH.sm_mulLD, ↓GH.sm_modI, ↓GH.sm_fdivI, ↓GH.sm_ltI, ↓GH.sm_leI, ↓GH.sm_gtI, ↓GH.sm_geI, ↓GH.sm_eqI, ↓GH.sm_neI, ↓GH.sm_isN, ↓GH.sm_notN, ↓GH.sm_ixT, ↓GH.sm_ixL, ↓GH.sm_ownO, ↓GH.sm_ownL, ↓GH.sm_ownT, ↓GH.at_0, ↓GH.at_1, ↓GH.at_2, ↓GH.at_3, ↓GH.at_4, ↓GH.at_map, ↓GH.sm_lenL, ↓GH.sm_lenT, ↓GH.sm_intI, ↓GH.sm_intB, ↓GH.sm_absI, ↓GH.sm_tupL, ↓GH.sm_tupT, ↓GH.sm_lstL, ↓GH.sm_lstT, ↓GH.sm_sumL1, ↓GH.sm_sumT1, ↓GH.sm_sumL, ↓GH.sm_sumT, ↓GH.sm_maxI, ↓GH.sm_minI, ↓GH.sm_maxL1, ↓GH.sm_minL1, ↓GH.sm_maxL, ↓GH.sm_minL, ↓GH.sm_anyL, ↓GH.sm_allL, ↓GH.sm_negI, ↓GH.sm_revL, ↓GH.sm_revT, ↓GH.sm_seqL, ↓GH.sm_seqT, ↓GH.sm_slL, ↓GH.sm_slT, ↓GH.sm_truB, ↓GH.sm_truN, ↓GH.sm_truI, ↓GH.sm_truL, ↓GH.sm_truT, ↓GH.sm_inR, ↓GH.sm_inT, ↓GH.sm_inL, ↓GH.sm_ninT, ↓GH.sm_ninL, ↓GH.sm_setL, ↓GH.wp_comp, ↓GH.wp_turn, ↓GH.lp_nx, ↓GH.lp_cnt, ↓GH.lp_brk, ↓GH.lp_ret, ↓GH.outR_ret, ↓GH.outR_nx, ↓GH.ownB_L, ↓GH.ownB_K, ↓GH.ownB_T, ↓GH.wp_nw, ↓GH.wp_nK0, ↓GH.wp_nT0, ↓GH.wp_dpNil, ↓GH.wp_dpCons, ↓GH.wp_nDisp, ↓GH.wp_ownN, ↓GH.wp_pOwnN, ↓GH.wp_dgO, ↓GH.own2_K, ↓GH.own2_T, ↓GH.own2_s, ↓GH.wp_here2, ↓GH.wp_putD, ↓GH.putAt_s, ↓GH.putAt_K, ↓GH.putAt_T, ↓GH.wp_sPutD, ↓GH.sm_keyI, ↓GH.sm_keyS, ↓GH.sm_keysT, ↓GH.sm_dgK, ↓GH.sm_dgT, ↓GH.sm_dinK, ↓GH.sm_dinT, ↓GH.sm_dninK, ↓GH.sm_dninT, ↓GH.dctAt_KI, ↓GH.dctAt_T, ↓GH.dctAt_s, ↓GH.wp_forD, ↓GH.enumP_map, ↓GH.zip2P_map, ↓GH.zip3P_map, ↓GH.sm_eqNilI, ↓GH.sm_neNilI, ↓GH.sm_eqIL, ↓GH.sm_neIL, ↓GH.sm_eqIT, ↓GH.sm_neIT, ↓GH.sm_srtI, GH.jv_some, GH.jv_none, GH.out_nx, GH.kGet_lkp, GH.lkp_isSome, GH.borF, GH.bor_z, GH.bor_tt, GH.bor_no, GH.clean_nil, GH.clean_cons, GH.cleanAt_s, GH.cleanAt_n, GH.cleanAt_v, GH.cleanAt_j, GH.wipe_nil, GH.wipe_cons, GH.startE_z, GH.startE_n, GH.startE_s, Option.isSome_map, List.set_cons_zero, List.set_cons_succ, List.cons_append, List.nil_append, and_true, true_and, and_self, true_implies, implies_true, not_false_eq_true, not_true_eq_false, false_implies, Option.some.injEq, List.contains_cons, List.contains_nil, Nat.reduceBEq, Bool.or_false, Bool.or_true, Bool.false_or, Bool.true_or, Nat.zero_add, Nat.reduceAdd, $ls,*])
local macro_rules | `(tactic| simp_all_arith [$ls,*]) => `(tactic| simp only [↓GH.wp_ret, ↓GH.wp_lift, ↓GH.sm_some, ↓GH.sm_map, ↓GH.sm_bind, ↓GH.ifB_tt, ↓GH.ifB_ff, ↓GH.ifB_dec, ↓GH.ifB_not, ↓GH.nx_nx, ↓GH.nx_ret, ↓GH.nx_brk, ↓GH.nx_cnt, ↓GH.varAt_z, ↓GH.varAt_s, ↓GH.slAt_z, ↓GH.slAt_s, ↓GH.ownAt_z, ↓GH.ownAt_s, ↓GH.setAt_z, ↓GH.setAt_s, ↓GH.frzAt_z, ↓GH.frzAt_s, ↓GH.bor_val, ↓GH.bor_own, ↓GH.bor_ownK, ↓GH.bor_ownT, ↓GH.len_0, ↓GH.len_1, ↓GH.len_2, ↓GH.len_3, ↓GH.len_4, ↓GH.len_5, ↓GH.len_6, ↓GH.isB_bl, ↓GH.isI_int, ↓GH.wp_var, ↓GH.wp_frz, ↓GH.wp_C, ↓GH.wp_bin, ↓GH.wp_un, ↓GH.wp_tst, ↓GH.wp_tru, ↓GH.wp_and2, ↓GH.wp_or2, ↓GH.wp_not1, ↓GH.wp_eAnd, ↓GH.wp_eOr, ↓GH.wp_eNot, ↓GH.wp_eIf, ↓GH.wp_chain, ↓GH.wp_aNil, ↓GH.wp_aCons, ↓GH.wp_aStar, ↓GH.wp_tup, ↓GH.wp_disp, ↓GH.wp_lst, ↓GH.wp_call, ↓GH.wp_callL, ↓GH.wp_binL, ↓GH.wp_fn, ↓GH.wp_fld, ↓GH.wp_oNo, ↓GH.wp_oAt, ↓GH.wp_sl, ↓GH.wp_ixO, ↓GH.wp_here, ↓GH.wp_putL, ↓GH.wp_app, ↓GH.sm_app, ↓GH.wp_pop, ↓GH.sm_popL, ↓GH.wp_popAt, ↓GH.wp_bor, ↓GH.wp_tBor, ↓GH.isFlat_int, ↓GH.isFlat_bl, ↓GH.isFlat_non, ↓GH.isFlat_str, ↓GH.wp_nx, ↓GH.wp_sRet, ↓GH.wp_sIf, ↓GH.wp_sExpr, ↓GH.wp_asg, ↓GH.wp_gN, ↓GH.wp_gT, ↓GH.wp_gCons, ↓GH.wp_gNil, ↓GH.wp_set, ↓GH.wp_own, ↓GH.wp_aug, ↓GH.sm_aug, ↓GH.wp_setIx, ↓GH.wp_ownGet, ↓GH.wp_augIx, ↓GH.wp_sFor, ↓GH.wp_pNil, ↓GH.wp_pVal, ↓GH.wp_pOwn, ↓GH.wp_par, ↓GH.sm_put0, ↓GH.sm_put, ↓GH.wp_iSeq, ↓GH.wp_rg1, ↓GH.wp_rg2, ↓GH.wp_enum, ↓GH.wp_zip2, ↓GH.wp_zip3, ↓GH.wp_lRg1, ↓GH.wp_lRg2, ↓GH.wp_tupRg, ↓GH.sm_addI, ↓GH.sm_addT, ↓GH.sm_addL, ↓GH.sm_addLD, ↓GH.sm_subI, ↓GH.sm_mulI, ↓GH.sm_mulL, ↓GH.sm_mulLD, ↓GH.sm_modI, ↓GH.sm_fdivI, ↓GH.sm_ltI, ↓GH.sm_leI, ↓GH.sm_gtI, ↓GH.sm_geI, ↓GH.sm_eqI, ↓GH.sm_neI, ↓GH.sm_isN, ↓GH.sm_notN, ↓GH.sm_ixT, ↓GH.sm_ixL, ↓GH.sm_ownO, ↓GH.sm_ownL, ↓GH.sm_ownT, ↓GH.at_0, ↓GH.at_1, ↓GH.at_2, ↓GH.at_3, ↓GH.at_4, ↓GH.at_map, ↓GH.sm_lenL, ↓GH.sm_lenT, ↓GH.sm_intI, ↓GH.sm_intB, ↓GH.sm_absI, ↓GH.sm_tupL, ↓GH.sm_tupT, ↓GH.sm_lstL, ↓GH.sm_lstT, ↓GH.sm_sumL1, ↓GH.sm_sumT1, ↓GH.sm_sumL, ↓GH.sm_sumT, ↓GH.sm_maxI, ↓GH.sm_minI, ↓GH.sm_maxL1, ↓GH.sm_minL1, ↓GH.sm_maxL, ↓GH.sm_minL, ↓GH.sm_anyL, ↓GH.sm_allL, ↓GH.sm_negI, ↓GH.sm_revL, ↓GH.sm_revT, ↓GH.sm_seqL, ↓GH.sm_seqT, ↓GH.sm_slL, ↓GH.sm_slT, ↓GH.sm_truB, ↓GH.sm_truN, ↓GH.sm_truI, ↓GH.sm_truL, ↓GH.sm_truT, ↓GH.sm_inR, ↓GH.sm_inT, ↓GH.sm_inL, ↓GH.sm_ninT, ↓GH.sm_ninL, ↓GH.sm_setL, ↓GH.wp_comp, ↓GH.wp_turn, ↓GH.lp_nx, ↓GH.lp_cnt, ↓GH.lp_brk, ↓GH.lp_ret, ↓GH.outR_ret, ↓GH.outR_nx, ↓GH.ownB_L, ↓GH.ownB_K, ↓GH.ownB_T, ↓GH.wp_nw, ↓GH.wp_nK0, ↓GH.wp_nT0, ↓GH.wp_dpNil, ↓GH.wp_dpCons, ↓GH.wp_nDisp, ↓GH.wp_ownN, ↓GH.wp_pOwnN, ↓GH.wp_dgO, ↓GH.own2_K, ↓GH.own2_T, ↓GH.own2_s, ↓GH.wp_here2, ↓GH.wp_putD, ↓GH.putAt_s, ↓GH.putAt_K, ↓GH.putAt_T, ↓GH.wp_sPutD, ↓GH.sm_keyI, ↓GH.sm_keyS, ↓GH.sm_keysT, ↓GH.sm_dgK, ↓GH.sm_dgT, ↓GH.sm_dinK, ↓GH.sm_dinT, ↓GH.sm_dninK, ↓GH.sm_dninT, ↓GH.dctAt_KI, ↓GH.dctAt_T, ↓GH.dctAt_s, ↓GH.wp_forD, ↓GH.enumP_map, ↓GH.zip2P_map, ↓GH.zip3P_map, ↓GH.sm_eqNilI, ↓GH.sm_neNilI, ↓GH.sm_eqIL, ↓GH.sm_neIL, ↓GH.sm_eqIT, ↓GH.sm_neIT, ↓GH.sm_srtI, GH.jv_some, GH.jv_none, GH.out_nx, GH.kGet_lkp, GH.lkp_isSome, GH.borF, GH.bor_z, GH.bor_tt, GH.bor_no, GH.clean_nil, GH.clean_cons, GH.cleanAt_s, GH.cleanAt_n, GH.cleanAt_v, GH.cleanAt_j, GH.wipe_nil, GH.wipe_cons, GH.startE_z, GH.startE_n, GH.startE_s, Option.isSome_map, List.set_cons_zero, List.set_cons_succ, List.cons_append, List.nil_append, and_true, true_and, and_self, true_implies, implies_true, not_false_eq_true, not_true_eq_false, false_implies, Option.some.injEq, List.contains_cons, List.contains_nil, Nat.reduceBEq, Bool.or_false, Bool.or_true, Bool.false_or, Bool.true_or, Nat.zero_add, Nat.reduceAdd, $ls,*])
local macro_rules | `(tactic| simp_all_arith) => `(tactic| simp_all_arith [and_true])
local macro_rules | `(tactic| simp_arith! [$ls,*]) => `(tactic| (refine GH.fn_val ?_; simp only [GH.startE_s, GH.startE_n, GH.startE_z, $ls,*]; simp_arith [$ls,*]))
local macro_rules | `(tactic| simp_arith) => `(tactic| simp_arith [and_true])
noncomputable section
namespace GW
open GH
def eW (w : Int × Int × Int) : D := .tup [.int w.1, .int w.2.1, .int w.2.2]
def eWs (ws : List (Int × Int × Int)) : D := .tup (ws.map eW)
theorem wish_of_eq (a b c d e : Int) (s : Src) : S_wish_of [.int a, .int b, .int c, .int d, .int e] s = some (eW (a, c, b + e - d), s) := by
  simp_arith! [m_wish_of, eW]
/-- whether offsets keep a wish -/
def keepsW (L : Int) (off : List Int) (w : Int × Int × Int) : Bool := decide ((nth off w.2.1 - nth off w.1 - w.2.2).fmod L = 0)
def WOk (m : Nat) (ws : List (Int × Int × Int)) : Prop := ∀ w ∈ ws, (0 ≤ w.1 ∧ w.1 < m) ∧ 0 ≤ w.2.1 ∧ w.2.1 < m
theorem is_kept_eq (w : Int × Int × Int) (L : Int) (off : List Int) (s : Src) (hL : L ≠ 0) (h : (0 ≤ w.1 ∧ w.1 < off.length) ∧ 0 ≤ w.2.1 ∧ w.2.1 < off.length) :
    S_is_kept [eW w, .int L, eIs off] s = some (.bl (keepsW L off w), s) := by
  simp_arith! [m_is_kept, eW, eIs, at_nth h.2.1 h.2.2, at_nth h.1.1 h.1.2]
  exact ⟨hL, rfl⟩
theorem kept_eq (ws : List (Int × Int × Int)) (L : Int) (off : List Int) (s : Src) (hL : L ≠ 0) (h : WOk off.length ws) (hl : ws.length ≤ 1000) :
    S_kept [eWs ws, .int L, eIs off] s = some (.tup ((ws.zipIdx.filter fun p => keepsW L off p.1).map fun p => .int (p.2 : Nat)), s) := by
  simp_arith! [m_kept, eWs]
  refine wp_compF (fun p => keepsW L off p.1) (fun p => .int (p.2 : Nat)) (by simp; omega) (by simp_arith) (fun p hp => ?_) ?_
  · obtain ⟨w, i⟩ := p
    have hw := h w (List.fst_mem_of_mem_zipIdx hp)
    simp_arith [cl_eq (is_kept_eq w L off s hL hw)]
    cases keepsW L off w <;> simp_arith
    · simp
    · simp
  · simp_arith
theorem turned_eq (off : List Int) (L t : Int) (s : Src) (hL : L ≠ 0) (hl : off.length ≤ 100000) : S_turned_offsets [eIs off, .int L, .int t] s = some (eIs (off.map fun o => (o + t).fmod L), s) := by
  simp_arith! [m_turned_offsets, eIs]
  refine wp_compM (fun o => .int ((o + t).fmod L)) (by omega) (by simp_arith) (fun o ho => ?_) ?_
  · simp_arith
    exact hL
  · simp_arith
    simp
end GW
end

noncomputable section
namespace GW
open GH
inductive WayTo (ws : List (Int × Int × Int)) (c : Int) : List (Int × Int) → Int → Int → Prop
  | nil : WayTo ws c [] c 0
  | fwd {way : List (Int × Int)} {v t : Int} {k : Nat} {o m : Int} : WayTo ws c way v t → ws[k]? = some (v, o, m) → WayTo ws c (way ++ [((k : Int), 1)]) o (t + m)
  | bwd {way : List (Int × Int)} {v t : Int} {k : Nat} {o m : Int} : WayTo ws c way v t → ws[k]? = some (o, v, m) → WayTo ws c (way ++ [((k : Int), -1)]) o (t - m)
abbrev Ent := List (Int × Int) × Int
def eEnt (e : Ent) : D := .tup [ePs e.1, .int e.2]
abbrev Tie := List (Int × Ent)
structure TieOk (m : Nat) (ws : List (Int × Int × Int)) (c : Int) (l : Tie) : Prop where
  nd : (l.map (·.1)).Nodup
  rng : ∀ v : Int, v ∈ l.map (·.1) → 0 ≤ v ∧ v < m
  root : lkp l c = some ([], 0)
  way : ∀ e ∈ l, WayTo ws c e.2.1 e.1 e.2.2 ∧ e.2.1.length ≤ l.length
theorem nodup_le : ∀ {m : Nat} {l : List Int}, l.Nodup → (∀ v ∈ l, 0 ≤ v ∧ v < (m : Int)) → l.length ≤ m
  | 0, l, _, r => by
    cases l with
    | nil => simp
    | cons x t => have := r x List.mem_cons_self; omega
  | m + 1, l, h, r => by
    by_cases hm : (m : Int) ∈ l
    · have h1 : (l.erase (m : Int)).Nodup := h.erase _
      have := nodup_le (m := m) h1 fun v hv => by
        have h2 := (List.Nodup.mem_erase_iff h).mp hv
        have := r v h2.2
        omega
      rw [List.length_erase_of_mem hm] at this
      omega
    · have := nodup_le (m := m) h fun v hv => by
        have h2 := r v hv
        have : v ≠ m := fun z => hm (z ▸ hv)
        omega
      omega
theorem TieOk.len {m : Nat} {ws : List (Int × Int × Int)} {c : Int} {l : Tie} (h : TieOk m ws c l) : l.length ≤ m := by
  have := nodup_le h.nd h.rng
  simpa using this
theorem lkp_mem {α : Type} {l : List (Int × α)} {k : Int} {v : α} (h : lkp l k = some v) : (k, v) ∈ l := by
  induction l with
  | nil => simp [lkp] at h
  | cons p r ih =>
    unfold lkp at h
    by_cases e : p.1 = k
    · rw [if_pos e] at h; cases h; subst e; exact List.mem_cons_self
    · rw [if_neg e] at h; exact List.mem_cons_of_mem _ (ih h)
theorem lkp_some {α : Type} {l : List (Int × α)} {k : Int} (h : k ∈ l.map (·.1)) : ∃ v, lkp l k = some v := by
  cases q : lkp l k with
  | some v => exact ⟨v, rfl⟩
  | none => exact absurd h (lkp_none.mp q)
theorem lkp_key {α : Type} {l : List (Int × α)} {k : Int} {v : α} (h : lkp l k = some v) : k ∈ l.map (·.1) := List.mem_map.mpr ⟨_, lkp_mem h, rfl⟩
theorem lkp_app {α : Type} {l : List (Int × α)} {k j : Int} {v w : α} (h : lkp l k = some v) : lkp (l ++ [(j, w)]) k = some v := by
  induction l with
  | nil => simp [lkp] at h
  | cons p r ih =>
    rw [List.cons_append]
    unfold lkp at h ⊢
    by_cases e : p.1 = k
    · rw [if_pos e] at h ⊢; exact h
    · rw [if_neg e] at h ⊢; exact ih h
theorem TieOk.add {m : Nat} {ws : List (Int × Int × Int)} {c : Int} {l : Tie} (h : TieOk m ws c l) {v t : Int} {way : List (Int × Int)} (hn : v ∉ l.map (·.1)) (h0 : 0 ≤ v) (h1 : v < m) (hw : WayTo ws c way v t) (hl : way.length ≤ l.length + 1) : TieOk m ws c (l ++ [(v, (way, t))]) where
  nd := by
    rw [List.map_append, List.map_cons, List.map_nil]
    exact L2.nd_snoc h.nd hn
  rng := fun u hu => by
    rw [List.map_append, List.mem_append] at hu
    rcases hu with hu | hu
    · exact h.rng u hu
    · simp at hu; subst hu; exact ⟨h0, h1⟩
  root := lkp_app h.root
  way := fun e he => by
    rw [List.length_append]
    rcases List.mem_append.mp he with z | z
    · have := h.way e z
      exact ⟨this.1, by simp; omega⟩
    · simp at z; subst z
      exact ⟨hw, by simpa using hl⟩
/-- from v on all wishes lead to what is found -/
def Cl2 (w : Int × Int × Int) (ks : List Int) (v : Int) : Prop := (w.1 = v → w.2.1 ∈ ks) ∧ (w.2.1 = v → w.1 ∈ ks)
theorem Cl2.mono {w : Int × Int × Int} {ks js : List Int} {v : Int} (h : Cl2 w ks v) (s : ∀ x ∈ ks, x ∈ js) : Cl2 w js v := ⟨fun z => s _ (h.1 z), fun z => s _ (h.2 z)⟩
def sizeT (m : Nat) (l : Tie) (waiting : List Int) : Nat := 2 * (m - l.length) + waiting.length
/-- amid the wishes looked at from v -/
structure TieS (m : Nat) (ws : List (Int × Int × Int)) (c : Int) (v : Int) (e : Ent) (done : List ((Int × Int × Int) × Nat)) (n : Nat) (l : Tie) (wt : List Int) : Prop where
  ok : TieOk m ws c l
  at_ : lkp l v = some e
  sub : ∀ u ∈ wt, u ∈ l.map (·.1)
  cl : ∀ u ∈ l.map (·.1), u ∉ wt → u ≠ v → ∀ w ∈ ws, Cl2 w (l.map (·.1)) u
  dn : ∀ p ∈ done, Cl2 p.1 (l.map (·.1)) v
  size : sizeT m l wt + 1 ≤ n
theorem TieS.more {m : Nat} {ws : List (Int × Int × Int)} {c v : Int} {e : Ent} {done : List ((Int × Int × Int) × Nat)} {n : Nat} {l : Tie} {wt : List Int} (g : TieS m ws c v e done n l wt) {u : Int} {way : List (Int × Int)} {t : Int}
    (n1 : u ∉ l.map (·.1)) (n2 : 0 ≤ u) (n3 : u < m) (n4 : WayTo ws c way u t) (n5 : way.length ≤ l.length + 1) : TieS m ws c v e done n (l ++ [(u, (way, t))]) (wt ++ [u]) := by
  have ga := g.ok.add n1 n2 n3 n4 n5
  have sub : ∀ z ∈ l.map (·.1), z ∈ (l ++ [(u, (way, t))]).map (·.1) := fun z hz => by rw [List.map_append]; exact List.mem_append_left _ hz
  refine ⟨ga, lkp_app g.at_, fun z hz => ?_, fun z hz h1 h2 w hw => ?_, fun p hp => (g.dn p hp).mono sub, ?_⟩
  · rcases List.mem_append.mp hz with y | y
    · exact sub z (g.sub z y)
    · simp at y; subst y; simp
  · rw [List.map_append, List.mem_append] at hz
    rcases hz with y | y
    · exact (g.cl z y (fun q => h1 (List.mem_append_left _ q)) h2 w hw).mono sub
    · simp at y; subst y; simp at h1
  · have := ga.len
    have := g.size
    unfold sizeT at this ⊢
    simp at *
    omega
theorem tied_eq (m : Nat) (ws : List (Int × Int × Int)) (c : Int) (s : Src) (hm : m ≤ 1000) (hw : WOk m ws) (hl : ws.length ≤ 1000) (h0 : 0 ≤ c) (h1 : c < m) :
    ∃ l : Tie, TieOk m ws c l ∧ (∀ v ∈ l.map (·.1), ∀ w ∈ ws, Cl2 w (l.map (·.1)) v) ∧ S_tied_to [.int m, eWs ws, .int c] s = some (.dct (dks l) (dvs eEnt l), s) := by
  suffices h : Cl S_tied_to [.int m, eWs ws, .int c] s fun d c' => ∃ l : Tie, TieOk m ws c l ∧ (∀ v ∈ l.map (·.1), ∀ w ∈ ws, Cl2 w (l.map (·.1)) v) ∧ d = .dct (dks l) (dvs eEnt l) ∧ c' = s by
    obtain ⟨d, c', e, l, g1, g2, rfl, rfl⟩ := h
    exact ⟨l, g1, g2, e⟩
  refine fn_cl ?_
  simp only [startE_s, startE_n, startE_z, m_tied_to]
  simp_arith [eWs]
  refine ⟨by simp, ?_⟩
  have init : (mergeD [((Sum.inl c : L2.Key), D.tup [D.tup [], D.int 0])] [] []) = (dks [(c, (([], 0) : Ent))], dvs eEnt [(c, (([], 0) : Ent))]) := rfl
  refine wp_while (fun n st => ∃ (l : Tie) (wt : List Int) (x5 x6 x7 x8 x9 x10 x11 : Option D), st = ⟨[some (.val (.int m)), some (.val (.tup (ws.map eW))), some (.val (.int c)), some (.ownK (dks l) (dvs eEnt l)), some (.own (wt.map D.int)), jv x5, jv x6, jv x7, jv x8, jv x9, jv x10, jv x11], s⟩ ∧
    TieOk m ws c l ∧ (∀ v ∈ wt, v ∈ l.map (·.1)) ∧ (∀ v ∈ l.map (·.1), v ∉ wt → ∀ w ∈ ws, Cl2 w (l.map (·.1)) v) ∧ sizeT m l wt ≤ n ∧ n ≤ 2 * m) (n := 2 * m)
    ⟨[(c, ([], 0))], [c], none, none, none, none, none, none, none, by rfl, ⟨by simp, by simp; omega, by simp [lkp], by simp; exact .nil⟩, by simp, by simp, by simp [sizeT]; omega, by omega⟩ ?_
  rintro n _ ⟨l, wt, x5, x6, x7, x8, x9, x10, x11, rfl, hok, hin, hcl, hn, hn2⟩
  simp_arith
  have hlm := hok.len
  refine ⟨fun he => ?_, fun hne => ?_⟩
  · subst he
    exact ⟨l, hok, fun v hv => hcl v hv (by simp), rfl⟩
  · cases wt with
    | nil => exact absurd rfl hne
    | cons v rest =>
      obtain ⟨e, he⟩ := lkp_some (hin v List.mem_cons_self)
      have hwe := hok.way _ (lkp_mem he)
      have hnl : rest.length + 1 ≤ n := by unfold sizeT at hn; simp at hn; omega
      simp_arith [List.map_cons, sm_pop0, sm_eq he, eEnt]
      refine ⟨by simp; omega, ?_⟩
      have hwt := hwe.1
      let E (l1 : Tie) (wt1 : List Int) (x8 x9 x10 x11 : Option D) : S := ⟨[some (.val (.int m)), some (.val (.tup (ws.map eW))), some (.val (.int c)), some (.ownK (dks l1) (dvs eEnt l1)), some (.own (wt1.map D.int)), some (.val (.int v)), some (.val (ePs e.1)), some (.val (.int e.2)), jv x8, jv x9, jv x10, jv x11], s⟩
      refine wp_for (fun done rem st => ∃ (l' : Tie) (wt : List Int) (x8 x9 x10 x11 : Option D), st = E l' wt x8 x9 x10 x11 ∧ TieS m ws c v e done n l' wt)
        ⟨l, rest, x8, x9, x10, x11, rfl, hok, he, fun u hu => hin u (List.mem_cons_of_mem _ hu), fun u hu h1 h2 => hcl u hu (by simp [h1, h2]), by simp, by unfold sizeT at *; simp at hn; omega⟩ ?_ ?_
      · rintro done ⟨w, k⟩ rem _ hx ⟨l', wt, x8, x9, x10, x11, rfl, g⟩
        have hk : ws[k]? = some w := by
          have : (w, k) ∈ ws.zipIdx := by rw [hx]; simp
          simpa using List.mem_zipIdx_iff_getElem?.mp this
        have hwk := hw w (List.mem_of_getElem? hk)
        have hlm' := g.ok.len
        have hel : e.1.length ≤ l'.length := (g.ok.way _ (lkp_mem g.at_)).2
        have hwl : wt.length ≤ 2 * m := by have := g.size; unfold sizeT at this; omega
        simp only [E]
        simp_all_arith [eW]
        refine wp_mid (fun st => ∃ (l1 : Tie) (wt1 : List Int), st = E l1 wt1 (some (.int k)) (some (.int w.1)) (some (.int w.2.1)) (some (.int w.2.2)) ∧ TieS m ws c v e done n l1 wt1 ∧ (w.1 = v → w.2.1 ∈ l1.map (·.1))) ?_ ?_
        · simp_arith [ePs, eP]
          refine ⟨fun h => ⟨fun h2 => ⟨l', wt, rfl, g, fun _ => h2⟩, fun h2 => ?_⟩, fun h => ⟨l', wt, rfl, g, fun z => absurd z h⟩⟩
          refine ⟨by simp; omega, by rw [dks_len]; omega, by simp; omega, ?_⟩
          have hp := put_new (f := eEnt) (v := (e.1 ++ [((k : Int), (1 : Int))], e.2 + w.2.2)) h2
          refine ⟨l' ++ [(w.2.1, (e.1 ++ [((k : Int), 1)], e.2 + w.2.2))], wt ++ [w.2.1], ?_, g.more h2 hwk.2.1 hwk.2.2 (.fwd hwt (by rw [hk, ← h])) (by simp; omega), fun _ => by simp⟩
          rw [hp.1]
          simp only [E, ← hp.2]
          simp [jv, eEnt, ePs, eP]
        · rintro _ ⟨l1, wt1, rfl, g1, hv⟩
          have hel : e.1.length ≤ l1.length := (g1.ok.way _ (lkp_mem g1.at_)).2
          have hlm' := g1.ok.len
          have hwl : wt1.length ≤ 2 * m := by have := g1.size; unfold sizeT at this; omega
          have fin : ∀ {l2 : Tie} {wt2 : List Int}, TieS m ws c v e done n l2 wt2 → (∀ x ∈ l1.map (·.1), x ∈ l2.map (·.1)) → (w.2.1 = v → w.1 ∈ l2.map (·.1)) → TieS m ws c v e (done ++ [(w, k)]) n l2 wt2 := fun g2 h2 h3 => ⟨g2.ok, g2.at_, g2.sub, g2.cl, fun p hp => by
            rcases List.mem_append.mp hp with z | z
            · exact g2.dn p z
            · simp at z; subst z; exact ⟨fun z => h2 _ (hv z), h3⟩, g2.size⟩
          simp only [E]
          simp_arith [ePs, eP]
          refine ⟨fun h => ⟨fun h2 => ⟨l1, wt1, some _, some _, some _, some _, rfl, fin g1 (fun _ z => z) fun _ => h2⟩, fun h2 => ?_⟩, fun h => ⟨l1, wt1, some _, some _, some _, some _, rfl, fin g1 (fun _ z => z) fun z => absurd z h⟩⟩
          refine ⟨by simp; omega, by rw [dks_len]; omega, by simp; omega, ?_⟩
          have hp := put_new (f := eEnt) (v := (e.1 ++ [((k : Int), (-1 : Int))], e.2 - w.2.2)) h2
          refine ⟨l1 ++ [(w.1, (e.1 ++ [((k : Int), -1)], e.2 - w.2.2))], wt1 ++ [w.1], some (.int k), some (.int w.1), some (.int w.2.1), some (.int w.2.2), ?_, fin (g1.more h2 hwk.1.1 hwk.1.2 (.bwd hwt (by rw [hk, ← h])) (by simp; omega)) (fun x hx => by simp at hx ⊢; exact .inl hx) fun _ => by simp⟩
          rw [hp.1]
          simp only [E, ← hp.2]
          simp [jv, eEnt, ePs, eP]
      · rintro _ ⟨l', wt, x8, x9, x10, x11, rfl, g⟩
        simp_arith
        refine ⟨n - 1, by omega, l', wt, some (.int v), some (ePs e.1), some (.int e.2), x8, x9, x10, x11, rfl, g.ok, g.sub, fun u hu h1 w hw' => ?_, by have := g.size; omega, by omega⟩
        by_cases h : u = v
        · subst h
          obtain ⟨i, hi⟩ := List.mem_iff_getElem?.mp hw'
          exact g.dn (w, i) (List.mem_zipIdx_iff_getElem?.mpr hi)
        · exact g.cl u hu h1 h w hw'
end GW
end

noncomputable section
namespace GW
open GH
theorem WayTo.pot {ws : List (Int × Int × Int)} {c : Int} {way : List (Int × Int)} {v t : Int} (h : WayTo ws c way v t) (pot : Int → Int) (hp : ∀ w ∈ ws, pot w.2.1 - pot w.1 = w.2.2) : t = pot v - pot c := by
  induction h with
  | nil => omega
  | fwd _ hk ih => have := hp _ (List.mem_of_getElem? hk); simp at this; omega
  | bwd _ hk ih => have := hp _ (List.mem_of_getElem? hk); simp at this; omega
/-- offsets so far -/
structure FndOk (m : Nat) (ws : List (Int × Int × Int)) (L : Int) (l : List (Int × Int)) : Prop where
  nd : (l.map (·.1)).Nodup
  rng : ∀ v : Int, v ∈ l.map (·.1) → 0 ≤ v ∧ v < m
  val : ∀ v x, lkp l v = some x → 0 ≤ x ∧ x < L
  kp : ∀ w ∈ ws, ∀ x, lkp l w.1 = some x → ∃ y, lkp l w.2.1 = some y ∧ (y - x - w.2.2).fmod L = 0
  kp2 : ∀ w ∈ ws, w.2.1 ∈ l.map (·.1) → w.1 ∈ l.map (·.1)
theorem fmod_two (a b k L : Int) (hL : 0 < L) (h : (a - b - k).fmod L = 0) : (a.fmod L - b.fmod L - k).fmod L = 0 := by
  rw [Int.fmod_eq_emod_of_nonneg _ (by omega)] at h ⊢
  rw [Int.fmod_eq_emod_of_nonneg _ (by omega), Int.fmod_eq_emod_of_nonneg _ (by omega)]
  have h1 := Int.emod_add_mul_ediv a L
  have h2 := Int.emod_add_mul_ediv b L
  obtain ⟨q, hq⟩ := Int.dvd_of_emod_eq_zero h
  refine Int.emod_eq_zero_of_dvd ⟨q - a / L + b / L, ?_⟩
  rw [Int.mul_add, Int.mul_sub]
  omega
theorem offsets_pot (m : Nat) (ws : List (Int × Int × Int)) (L : Int) (s : Src) (hm : m ≤ 1000) (hw : WOk m ws) (hl : ws.length ≤ 1000) (hL : 0 < L) (pot : Int → Int) (hp : ∀ w ∈ ws, pot w.2.1 - pot w.1 = w.2.2) :
    ∃ offs : List Int, offs.length = m ∧ (∀ x ∈ offs, 0 ≤ x ∧ x < L) ∧ (∀ w ∈ ws, (nth offs w.2.1 - nth offs w.1 - w.2.2).fmod L = 0) ∧ S_offsets_for [.int m, eWs ws, .int L] s = some (.tup [.str "offsets", eIs offs], s) := by
  suffices h : Cl S_offsets_for [.int m, eWs ws, .int L] s fun d c' => ∃ offs : List Int, offs.length = m ∧ (∀ x ∈ offs, 0 ≤ x ∧ x < L) ∧ (∀ w ∈ ws, (nth offs w.2.1 - nth offs w.1 - w.2.2).fmod L = 0) ∧ d = .tup [.str "offsets", eIs offs] ∧ c' = s by
    obtain ⟨d, c', e, offs, g1, g2, g3, rfl, rfl⟩ := h
    exact ⟨offs, g1, g2, g3, e⟩
  refine fn_cl ?_
  simp only [startE_s, startE_n, startE_z, m_offsets_for]
  simp_arith
  refine ⟨okR_of (by omega) (by omega), ?_⟩
  refine wp_for (fun done rem st => ∃ (l : List (Int × Int)) (x4 x5 x6 x7 x8 : Option D), st = ⟨[some (.val (.int m)), some (.val (eWs ws)), some (.val (.int L)), some (.ownK (dks l) (dvs D.int l)), jv x4, jv x5, jv x6, jv x7, jv x8], s⟩ ∧
    FndOk m ws L l ∧ ∀ c ∈ done, ((c : Nat) : Int) ∈ l.map (·.1)) ⟨[], none, none, none, none, none, rfl, ⟨by simp, by simp, by simp [lkp], by simp [lkp], by simp⟩, by simp⟩ ?_ ?_
  · rintro done c rem _ hx ⟨l, x4, x5, x6, x7, x8, rfl, g, hd⟩
    have hc : c < m := by
      have : c ∈ List.range ((m : Nat) : Int).toNat := by rw [hx]; simp
      simpa using this
    have app : ∀ {k : List (Int × Int)}, (c : Int) ∈ k.map (·.1) → (∀ v ∈ l.map (·.1), v ∈ k.map (·.1)) → ∀ z ∈ done ++ [c], ((z : Nat) : Int) ∈ k.map (·.1) := fun h1 h2 z hz => by
      rcases List.mem_append.mp hz with y | y
      · exact h2 _ (hd z y)
      · simp at y; subst y; exact h1
    simp_arith
    refine ⟨fun h => ⟨l, some (.int c), x5, x6, x7, x8, rfl, g, app h fun _ z => z⟩, fun h => ?_⟩
    obtain ⟨lt, t1, t2, t3⟩ := tied_eq m ws (c : Int) s hm hw hl (by omega) (by omega)
    rw [cl_eq t3]
    have tl := t1.len
    simp_all_arith [eWs]
    refine wp_mid (fun st => ∃ (x6 x7 : Option D), st = ⟨[some (.val (.int m)), some (.val (eWs ws)), some (.val (.int L)), some (.ownK (dks l) (dvs D.int l)), some (.val (.int c)), some (.val (.dct (dks lt) (dvs eEnt lt))), jv x6, jv x7, jv x8], s⟩) ?_ ?_
    · simp_arith
      refine wp_for (fun done rem st => ∃ (x6 x7 : Option D), st = ⟨[some (.val (.int m)), some (.val (eWs ws)), some (.val (.int L)), some (.ownK (dks l) (dvs D.int l)), some (.val (.int c)), some (.val (.dct (dks lt) (dvs eEnt lt))), jv x6, jv x7, jv x8], s⟩) ⟨x6, x7, rfl⟩ ?_ ?_
      · rintro done1 ⟨w, k⟩ rem1 _ hx1 ⟨x6, x7, rfl⟩
        have hw1 : w ∈ ws := by
          have : (w, k) ∈ ws.zipIdx := by rw [hx1]; simp
          exact List.fst_mem_of_mem_zipIdx this
        simp_arith [eW]
        refine ⟨fun hin => ?_, fun _ => ⟨some _, some _, rfl⟩⟩
        obtain ⟨e1, q1⟩ := lkp_some hin
        obtain ⟨e2, q2⟩ := lkp_some ((t2 _ hin w hw1).1 rfl)
        simp_arith [sm_eq q1, sm_eq q2, eEnt]
        have p1 := (t1.way _ (lkp_mem q1)).1.pot pot hp
        have p2 := (t1.way _ (lkp_mem q2)).1.pot pot hp
        have p3 := hp w hw1
        have z : e2.2 - e1.2 - w.2.2 = 0 := by simp only at p1 p2; omega
        refine ⟨by omega, fun _ => ⟨some _, some _, rfl⟩, fun hne => ?_⟩
        rw [z] at hne
        simp at hne
      · rintro _ ⟨x6, x7, rfl⟩
        exact ⟨rfl, x6, x7, rfl⟩
    · rintro _ ⟨x6, x7, rfl⟩
      simp_arith
      refine wp_for (fun done rem st => ∃ (k : List (Int × Int)) (x8 : Option D), st = ⟨[some (.val (.int m)), some (.val (eWs ws)), some (.val (.int L)), some (.ownK (dks k) (dvs D.int k)), some (.val (.int c)), some (.val (.dct (dks lt) (dvs eEnt lt))), jv x6, jv x7, jv x8], s⟩ ∧
        (k.map (·.1)).Nodup ∧ (∀ v : Int, v ∈ k.map (·.1) → 0 ≤ v ∧ v < m) ∧ (∀ v, lkp k v = if v ∈ done then (lkp lt v).map (fun e => e.2.fmod L) else lkp l v)) ⟨l, x8, rfl, g.nd, g.rng, by simp⟩ ?_ ?_
      · rintro done1 v rem1 _ hx1 ⟨k, x8, rfl, k1, k2, k3⟩
        have hv : v ∈ lt.map (·.1) := by rw [hx1]; simp
        obtain ⟨e, q⟩ := lkp_some hv
        simp_arith [sm_eq q, eEnt]
        have kl : k.length ≤ m := by have := nodup_le k1 k2; simpa using this
        refine ⟨by omega, by rw [dks_len]; omega, stp k v (e.2.fmod L), some (.int v), ?_, stp_nodup k1, fun u hu => ?_, fun u => ?_⟩
        · have hs := put_stp (f := D.int) (k := v) (v := e.2.fmod L) k1
          rw [hs.1]
          simp only [← hs.2]
          rfl
        · rcases stp_keys.mp hu with z | z
          · subst z; exact t1.rng _ hv
          · exact k2 u z
        · rw [lkp_stp, k3]
          by_cases h1 : u = v
          · subst h1; simp [q]
          · simp [h1]
      · rintro _ ⟨k, x8, rfl, k1, k2, k3⟩
        refine ⟨k, some _, some _, x6, x7, x8, rfl, ⟨k1, k2, fun v x hx => ?_, fun w hw1 x hx => ?_, fun w hw1 hin => ?_⟩, app ?_ fun v hv => ?_⟩
        · rw [k3] at hx
          split at hx
          · obtain ⟨e, _, rfl⟩ := Option.map_eq_some_iff.mp hx
            exact ⟨Int.fmod_nonneg_of_pos _ hL, Int.fmod_lt_of_pos _ hL⟩
          · exact g.val v x hx
        · rw [k3] at hx ⊢
          split at hx
          · rename_i h1
            have h2 := (t2 _ h1 w hw1).1 rfl
            rw [if_pos h2]
            obtain ⟨e1, q1, rfl⟩ := Option.map_eq_some_iff.mp hx
            obtain ⟨e2, q2⟩ := lkp_some h2
            rw [q2]
            refine ⟨_, rfl, fmod_two _ _ _ _ hL ?_⟩
            have p1 := (t1.way _ (lkp_mem q1)).1.pot pot hp
            have p2 := (t1.way _ (lkp_mem q2)).1.pot pot hp
            have p3 := hp w hw1
            have z : e2.2 - e1.2 - w.2.2 = 0 := by simp only at p1 p2; omega
            rw [z]; simp
          · rename_i h1
            have h2 : w.2.1 ∉ lt.map (·.1) := fun z => h1 ((t2 _ z w hw1).2 rfl)
            rw [if_neg h2]
            exact g.kp w hw1 x hx
        · obtain ⟨y, hy⟩ := lkp_some hin
          rw [k3] at hy
          have key : ∀ x, lkp k w.1 = some x → w.1 ∈ k.map (·.1) := fun x hx => lkp_key hx
          split at hy
          · rename_i h1
            have h2 := (t2 _ h1 w hw1).2 rfl
            obtain ⟨e1, q1⟩ := lkp_some h2
            exact key _ (by rw [k3, if_pos h2, q1]; rfl)
          · have h3 := g.kp2 w hw1 (lkp_key hy)
            obtain ⟨x, hx⟩ := lkp_some h3
            by_cases h4 : w.1 ∈ lt.map (·.1)
            · obtain ⟨e1, q1⟩ := lkp_some h4
              exact key _ (by rw [k3, if_pos h4, q1]; rfl)
            · exact key _ (by rw [k3, if_neg h4, hx])
        · have h2 := lkp_key t1.root
          exact lkp_key (v := (0 : Int).fmod L) (by rw [k3, if_pos h2, t1.root]; rfl)
        · obtain ⟨x, hx⟩ := lkp_some hv
          by_cases h4 : v ∈ lt.map (·.1)
          · obtain ⟨e1, q1⟩ := lkp_some h4
            exact lkp_key (v := e1.2.fmod L) (by rw [k3, if_pos h4, q1]; rfl)
          · exact lkp_key (v := x) (by rw [k3, if_neg h4, hx])
  · rintro _ ⟨l, x4, x5, x6, x7, x8, rfl, g, hd⟩
    simp_arith
    refine ⟨okR_of (by omega) (by omega), ?_⟩
    have all : ∀ c ∈ List.range ((m : Nat) : Int).toNat, ∃ x, lkp l ((c : Nat) : Int) = some x := fun c hc => lkp_some (hd c hc)
    refine wp_compM (fun c => .int ((lkp l ((c : Nat) : Int)).getD 0)) (by simp; omega) (by simp_arith) (fun c hc => ?_) ?_
    · obtain ⟨x, hx⟩ := all c hc
      simp_arith [sm_eq hx]
      simp [hx]
    · simp_arith
      refine ⟨(List.range m).map fun c => (lkp l ((c : Nat) : Int)).getD 0, by simp, fun x hx => ?_, fun w hw1 => ?_, ?_⟩
      · obtain ⟨c, hc, rfl⟩ := List.mem_map.mp hx
        obtain ⟨x, hx⟩ := all c (by simpa using hc)
        rw [hx]; exact g.val _ _ hx
      · have wk := hw w hw1
        have nn : ∀ v : Int, 0 ≤ v → v < m → ∃ x, lkp l v = some x ∧ nth ((List.range m).map fun c => (lkp l ((c : Nat) : Int)).getD 0) v = x := fun v h1 h2 => by
          obtain ⟨x, hx⟩ := all v.toNat (by simp; omega)
          rw [show ((v.toNat : Nat) : Int) = v by omega] at hx
          refine ⟨x, hx, ?_⟩
          unfold nth
          rw [List.getD_eq_getElem?_getD, List.getElem?_map, List.getElem?_range (by omega)]
          simp only [Option.map_some, Option.getD_some, show ((v.toNat : Nat) : Int) = v by omega, hx]
        obtain ⟨x, a1, a2⟩ := nn w.1 wk.1.1 wk.1.2
        obtain ⟨y, b1, b2⟩ := nn w.2.1 wk.2.1 wk.2.2
        obtain ⟨y', c1, c2⟩ := g.kp w hw1 x a1
        rw [b1] at c1; cases c1
        rw [a2, b2]; exact c2
      · simp [eIs]
end GW
end

noncomputable section
namespace GW
open GH
theorem off_nth (off : List Int) (c : Int) : offAt off c = nth off c := rfl
theorem band_nd (L : Int) (off : List Int) (l gs : List (Int × Int)) : (bandL L off l gs).Pairwise (· < ·) := by
  unfold bandL
  refine List.Pairwise.filter _ ?_
  exact List.Pairwise.map _ (fun a b h => by omega) List.pairwise_lt_range
theorem band_mem (L : Int) (off : List Int) (l gs : List (Int × Int)) (s : Int) (hL : 0 < L) : s ∈ bandL L off l gs ↔ (0 ≤ s ∧ s < L) ∧ passG L off l gs (arr l s) = true := by
  unfold bandL
  rw [List.mem_filter, List.mem_map]
  constructor
  · rintro ⟨⟨i, hi, rfl⟩, h⟩
    have := List.mem_range.mp hi
    exact ⟨by omega, h⟩
  · rintro ⟨h, h2⟩
    exact ⟨⟨s.toNat, List.mem_range.mpr (by omega), by omega⟩, h2⟩
theorem emod_shift (a b L : Int) (hL : 0 < L) (h : (a - b).fmod L = 0) : a.fmod L = b.fmod L := by
  rw [Int.fmod_eq_emod_of_nonneg _ (by omega)] at *
  rw [Int.fmod_eq_emod_of_nonneg _ (by omega)]
  exact Int.emod_eq_emod_iff_emod_sub_eq_zero.mpr h
theorem pass_turn (L t : Int) (off : List Int) (l gs : List (Int × Int)) (s : Int) (hL : 0 < L) (h : l.length = gs.length) (hin : inOff off l) :
    passG L (off.map fun o => (o + t).fmod L) l gs (arr l s) = passG L off l gs (arr l (s - t)) := by
  rw [Bool.eq_iff_iff, pass_at _ _ _ _ _ h, pass_at _ _ _ _ _ h]
  have key : ∀ i, i < l.length → (s + (tk l i - offAt (off.map fun o => (o + t).fmod L) (at0 l i).1 - (at0 gs i).1)).fmod L = (s - t + (tk l i - offAt off (at0 l i).1 - (at0 gs i).1)).fmod L := fun i hi => by
    have hp := hin _ (at0_mem hi)
    have e : offAt (off.map fun o => (o + t).fmod L) (at0 l i).1 = (offAt off (at0 l i).1 + t).fmod L := by
      unfold offAt
      rw [List.getD_eq_getElem?_getD, List.getElem?_map, List.getD_eq_getElem?_getD, List.getElem?_eq_getElem (by omega)]
      rfl
    rw [e, show s + (tk l i - (offAt off (at0 l i).1 + t).fmod L - (at0 gs i).1) = s + tk l i - (at0 gs i).1 - (offAt off (at0 l i).1 + t).fmod L by omega, fmod_shift _ _ _ hL]
    congr 1
    omega
  constructor
  · intro hh i hi; rw [← key i hi]; exact hh i hi
  · intro hh i hi; rw [key i hi]; exact hh i hi
theorem pass_per (L : Int) (off : List Int) (l gs : List (Int × Int)) (s t : Int) (hL : 0 < L) (h : l.length = gs.length) (hst : s.fmod L = t.fmod L) : passG L off l gs (arr l s) = passG L off l gs (arr l t) := by
  rw [← pass_mem L off l gs s hL h, ← pass_mem L off l gs t hL h, hst]
theorem turned_band (L t : Int) (off : List Int) (l gs : List (Int × Int)) (hL : 0 < L) (h : l.length = gs.length) (hin : inOff off l) :
    isort ((bandL L off l gs).map fun s => (s + t).fmod L) = bandL L (off.map fun o => (o + t).fmod L) l gs := by
  refine isort_eq ?_ ((band_nd _ _ _ _).imp fun h => by omega)
  have hne : ∀ xs : List Int, xs.Pairwise (· < ·) → xs.Nodup := fun xs hx => hx.imp fun h => by omega
  refine (List.perm_ext_iff_of_nodup (hne _ (band_nd ..)) ?_).mpr fun s => ?_
  · refine List.Pairwise.map _ (S := fun a b => a ≠ b) (R := fun a b => (0 ≤ a ∧ a < L) ∧ (0 ≤ b ∧ b < L) ∧ a ≠ b) (fun a b hab z => ?_) ?_
    · have h1 := Int.fmod_eq_emod_of_nonneg (a + t) (b := L) (by omega)
      have h2 := Int.fmod_eq_emod_of_nonneg (b + t) (b := L) (by omega)
      rw [h1, h2] at z
      have h3 := Int.emod_add_mul_ediv (a + t) L
      have h4 := Int.emod_add_mul_ediv (b + t) L
      have : a - b = L * ((a + t) / L - (b + t) / L) := by rw [Int.mul_sub]; omega
      have hq : (a + t) / L - (b + t) / L = 0 := by
        rcases Int.lt_trichotomy ((a + t) / L - (b + t) / L) 0 with q | q | q
        · have := Int.mul_le_mul_of_nonneg_left (show (a + t) / L - (b + t) / L ≤ -1 by omega) (show 0 ≤ L by omega)
          omega
        · exact q
        · have := Int.mul_le_mul_of_nonneg_left (show 1 ≤ (a + t) / L - (b + t) / L by omega) (show 0 ≤ L by omega)
          omega
      rw [hq] at this
      omega
    · have nd := hne _ (band_nd L off l gs)
      refine (List.pairwise_iff_forall_sublist.mpr fun {a b} sub => ?_)
      have ha := (band_mem L off l gs a hL).mp (sub.subset (by simp))
      have hb := (band_mem L off l gs b hL).mp (sub.subset (by simp))
      have := List.pairwise_iff_forall_sublist.mp nd sub
      exact ⟨ha.1, hb.1, this⟩
  · rw [band_mem _ _ _ _ _ hL, pass_turn L t off l gs s hL h hin, List.mem_map]
    constructor
    · rintro ⟨h1, h2⟩
      refine ⟨(s - t).fmod L, (band_mem _ _ _ _ _ hL).mpr ⟨⟨Int.fmod_nonneg_of_pos _ hL, Int.fmod_lt_of_pos _ hL⟩, ?_⟩, ?_⟩
      · rw [pass_per L off l gs _ (s - t) hL h (by rw [show (s - t).fmod L = ((s - t).fmod L + 0) by omega, fmod_add _ _ _ hL]; simp)]
        exact h2
      · rw [fmod_add _ _ _ hL, show s - t + t = s by omega, Int.fmod_eq_emod_of_nonneg _ (by omega), Int.emod_eq_of_lt h1.1 h1.2]
    · rintro ⟨u, hu, rfl⟩
      have hu := (band_mem _ _ _ _ _ hL).mp hu
      refine ⟨⟨Int.fmod_nonneg_of_pos _ hL, Int.fmod_lt_of_pos _ hL⟩, ?_⟩
      rw [pass_per L off l gs _ u hL h]
      · exact hu.2
      · rw [show (u + t).fmod L - t = (u + t).fmod L + -t by omega, fmod_add _ _ _ hL]
        congr 1
        omega
/-- offsets by which all greens lie alike -/
theorem flat_band (L C : Int) (off : List Int) (l gs : List (Int × Int)) (hL : 0 < L) (h : l.length = gs.length) (hne : gs ≠ []) (hg : ∀ g ∈ gs, 0 ≤ g.2 ∧ g.2 ≤ L)
    (hc : ∀ i, i < l.length → (tk l i - offAt off (at0 l i).1 - (at0 gs i).1 - C).fmod L = 0) : ((bandL L off l gs).length : Int) = least gs := by
  obtain ⟨⟨j, hj, e⟩, _⟩ := least_spec hne
  have hr := hg _ (at0_mem hj)
  have key : ∀ s : Nat, passG L off l gs (arr l (s : Int)) = decide ((((s : Nat) : Int) + C).fmod L < least gs) := fun s => by
    rw [Bool.eq_iff_iff, pass_at L _ l gs _ h, decide_eq_true_iff, ← lt_all (n := l.length) hne h]
    have k2 : ∀ i, i < l.length → (((s : Nat) : Int) + (tk l i - offAt off (at0 l i).1 - (at0 gs i).1)).fmod L = (((s : Nat) : Int) + C).fmod L := fun i hi => by
      refine emod_shift _ _ L hL ?_
      rw [show ((s : Nat) : Int) + (tk l i - offAt off (at0 l i).1 - (at0 gs i).1) - (((s : Nat) : Int) + C) = tk l i - offAt off (at0 l i).1 - (at0 gs i).1 - C by omega]
      exact hc i hi
    constructor
    · intro hh i hi; rw [← k2 i hi]; exact hh i hi
    · intro hh i hi; rw [k2 i hi]; exact hh i hi
  rw [band_len]
  have : (List.range L.toNat).countP (fun s => passG L off l gs (arr l (s : Nat))) = (List.range L.toNat).countP fun s => decide ((((s : Nat) : Int) + C).fmod L < least gs) := by
    congr 1
    funext s
    exact key s
  rw [this, cnt_int L C _ hL (by omega) (by omega)]
  omega
theorem tk_succ (l : List (Int × Int)) (i : Nat) (h : i + 1 < l.length) : tk l (i + 1) = tk l i + (at0 l (i + 1)).2 := by
  have go : ∀ (l : List (Int × Int)) (t : Int) (i : Nat), i + 1 < l.length → (arr l t).getD (i + 1) 0 = (arr l t).getD i 0 + (at0 l (i + 1)).2 := fun l => by
    induction l with
    | nil => intro t i h; simp at h
    | cons p r ih =>
      intro t i h
      cases i with
      | zero =>
        cases r with
        | nil => simp at h
        | cons q u => rfl
      | succ i => exact ih (t + p.2) i (by simpa using h)
  exact go l 0 i h
/-- the wish of two crossings behind one another -/
def lineW (l gs : List (Int × Int)) (j : Nat) : Int × Int × Int := ((at0 l j).1, (at0 l (j + 1)).1, (at0 gs j).1 + (at0 l (j + 1)).2 - (at0 gs (j + 1)).1)
def lineWs (l gs : List (Int × Int)) : List (Int × Int × Int) := (List.range (l.length - 1)).map (lineW l gs)
def linePot (l gs : List (Int × Int)) (v : Int) : Int := (lkp (l.zipIdx.map fun p => (p.1.1, tk l p.2 - (at0 gs p.2).1)) v).getD 0
theorem pot_at {m : Nat} {l gs : List (Int × Int)} (h : LineOk m l) (i : Nat) (hi : i < l.length) : linePot l gs (at0 l i).1 = tk l i - (at0 gs i).1 := by
  unfold linePot
  have nd : ((l.zipIdx.map fun p => (p.1.1, tk l p.2 - (at0 gs p.2).1)).map (·.1)).Nodup := by
    rw [List.map_map]
    have : ((fun x : Int × Int => x.1) ∘ fun p : (Int × Int) × Nat => (p.1.1, tk l p.2 - (at0 gs p.2).1)) = (fun x : Int × Int => x.1) ∘ Prod.fst := rfl
    rw [this, ← List.map_map, List.zipIdx_map_fst]
    exact h.nd
  have hm : ((at0 l i).1, tk l i - (at0 gs i).1) ∈ l.zipIdx.map fun p => (p.1.1, tk l p.2 - (at0 gs p.2).1) := by
    refine List.mem_map.mpr ⟨(at0 l i, i), ?_, rfl⟩
    refine List.mem_zipIdx_iff_getElem?.mpr ?_
    unfold at0
    rw [List.getD_eq_getElem?_getD, List.getElem?_eq_getElem hi]; rfl
  have := lkp_of nd hm
  simp only at this
  rw [this]; rfl
theorem line_wok {m : Nat} {l gs : List (Int × Int)} (h : LineOk m l) : WOk m (lineWs l gs) := fun w hw => by
  obtain ⟨j, hj, rfl⟩ := List.mem_map.mp hw
  have hj := List.mem_range.mp hj
  exact ⟨h.inn (at0 l j) (at0_mem (by omega)), h.inn (at0 l (j + 1)) (at0_mem (by omega))⟩
theorem line_pot {m : Nat} {l gs : List (Int × Int)} (h : LineOk m l) : ∀ w ∈ lineWs l gs, linePot l gs w.2.1 - linePot l gs w.1 = w.2.2 := fun w hw => by
  obtain ⟨j, hj, rfl⟩ := List.mem_map.mp hw
  have hj := List.mem_range.mp hj
  show linePot l gs (at0 l (j + 1)).1 - linePot l gs (at0 l j).1 = (at0 gs j).1 + (at0 l (j + 1)).2 - (at0 gs (j + 1)).1
  rw [pot_at h (j + 1) (by omega), pot_at h j (by omega), tk_succ l j (by omega)]
  omega
/-- offsets that keep a line's wishes have the whole band -/
theorem kept_band {m : Nat} {l gs : List (Int × Int)} {L : Int} {off : List Int} (h : LineOk m l) (hL : 0 < L) (hg : GreensOk l.length L gs) (hk : ∀ w ∈ lineWs l gs, (nth off w.2.1 - nth off w.1 - w.2.2).fmod L = 0) : ((bandL L off l gs).length : Int) = least gs := by
  have hlp : 0 < l.length := List.length_pos_iff.mpr h.ne
  have hne : gs ≠ [] := fun z => by have := hg.len; rw [z] at this; simp at this; omega
  refine flat_band L (tk l 0 - offAt off (at0 l 0).1 - (at0 gs 0).1) off l gs hL hg.len.symm hne hg.rng fun i hi => ?_
  induction i with
  | zero => rw [Int.sub_self]; simp
  | succ i ih =>
    have h1 := ih (by omega)
    have h2 := hk (lineW l gs i) (List.mem_map.mpr ⟨i, List.mem_range.mpr (by omega), rfl⟩)
    simp only [lineW, ← off_nth] at h2
    rw [tk_succ l i hi]
    rw [Int.fmod_eq_emod_of_nonneg _ (by omega)] at *
    obtain ⟨a, ha⟩ := Int.dvd_of_emod_eq_zero h1
    obtain ⟨b, hb⟩ := Int.dvd_of_emod_eq_zero h2
    refine Int.emod_eq_zero_of_dvd ⟨a - b, ?_⟩
    rw [Int.mul_sub]
    omega
/-- the told offsets keep them all -/
theorem told_keeps {m : Nat} {l gs : List (Int × Int)} {L : Int} (h : LineOk m l) (hL : 0 < L) (hg : l.length = gs.length) : ∀ w ∈ lineWs l gs, keepsW L (told m l gs L) w = true := fun w hw => by
  obtain ⟨j, hj, rfl⟩ := List.mem_map.mp hw
  have hj := List.mem_range.mp hj
  have ht : ∀ i, i < l.length → nth (told m l gs L) (at0 l i).1 = ((gs.headD (0, 0)).1 + tk l i - (at0 gs i).1).fmod L := fun i hi => tell_at _ L l gs (arr l 0) _ i hg (arr_len l 0).symm (fun p hp => by simpa using h.inn p hp) h.nd hi
  unfold keepsW
  refine decide_eq_true ?_
  show (nth (told m l gs L) (at0 l (j + 1)).1 - nth (told m l gs L) (at0 l j).1 - ((at0 gs j).1 + (at0 l (j + 1)).2 - (at0 gs (j + 1)).1)).fmod L = 0
  rw [ht (j + 1) (by omega), ht j (by omega)]
  refine fmod_two _ _ _ L hL ?_
  rw [tk_succ l j (by omega)]
  rw [show (gs.headD (0, 0)).1 + (tk l j + (at0 l (j + 1)).2) - (at0 gs (j + 1)).1 - ((gs.headD (0, 0)).1 + tk l j - (at0 gs j).1) - ((at0 gs j).1 + (at0 l (j + 1)).2 - (at0 gs (j + 1)).1) = 0 by omega]
  simp
end GW
end

local macro_rules | `(tactic| simp_arith [$ls,*]) => `(tactic| simp only [↓GH.wp_ret, ↓GH.wp_lift, ↓GH.sm_some, ↓GH.sm_map, ↓GH.sm_bind, ↓GH.ifB_tt, ↓GH.ifB_ff, ↓GH.ifB_dec, ↓GH.ifB_not, ↓GH.nx_nx, ↓GH.nx_ret, ↓GH.nx_brk, ↓GH.nx_cnt, ↓GH.varAt_z, ↓GH.varAt_s, ↓GH.slAt_z, ↓GH.slAt_s, ↓GH.ownAt_z, ↓GH.ownAt_s, ↓GH.setAt_z, ↓GH.setAt_s, ↓GH.frzAt_z, ↓GH.frzAt_s, ↓GH.bor_val, ↓GH.bor_own, ↓GH.bor_ownK, ↓GH.bor_ownT, ↓GH.len_0, ↓GH.len_1, ↓GH.len_2, ↓GH.len_3, ↓GH.len_4, ↓GH.len_5, ↓GH.len_6, ↓GH.isB_bl, ↓GH.isI_int, ↓GH.wp_var, ↓GH.wp_frz, ↓GH.wp_C, ↓GH.wp_bin, ↓GH.wp_un, ↓GH.wp_tst, ↓GH.wp_tru, ↓GH.wp_and2, ↓GH.wp_or2, ↓GH.wp_not1, ↓GH.wp_eAnd, ↓GH.wp_eOr, ↓GH.wp_eNot, ↓GH.wp_eIf, ↓GH.wp_chain, ↓GH.wp_aNil, ↓GH.wp_aCons, ↓GH.wp_aStar, ↓GH.wp_tup, ↓GH.wp_disp, ↓GH.wp_lst, ↓GH.wp_call, ↓GH.wp_callL, ↓GH.wp_binL, ↓GH.wp_fn, ↓GH.wp_fld, ↓GH.wp_oNo, ↓GH.wp_oAt, ↓GH.wp_sl, ↓GH.wp_ixO, ↓GH.wp_here, ↓GH.wp_putL, ↓GH.wp_app, ↓GH.sm_app, ↓GH.wp_pop, ↓GH.sm_popL, ↓GH.wp_popAt, ↓GH.wp_bor, ↓GH.wp_tBor, ↓GH.isFlat_int, ↓GH.isFlat_bl, ↓GH.isFlat_non, ↓GH.isFlat_str, ↓GH.wp_seq, ↓GH.wp_nx, ↓GH.wp_sRet, ↓GH.wp_sIf, ↓GH.wp_sExpr, ↓GH.wp_asg, ↓GH.wp_gN, ↓GH.wp_gT, ↓GH.wp_gCons, ↓GH.wp_gNil, ↓GH.wp_set, ↓GH.wp_own, ↓GH.wp_aug, ↓GH.sm_aug, ↓GH.wp_setIx, ↓GH.wp_ownGet, ↓GH.wp_augIx, ↓GH.wp_sFor, ↓GH.wp_pNil, ↓GH.wp_pVal, ↓GH.wp_pOwn, ↓GH.wp_par, ↓GH.sm_put0, ↓GH.sm_put, ↓GH.wp_iSeq, ↓GH.wp_rg1, ↓GH.wp_rg2, ↓GH.wp_enum, ↓GH.wp_zip2, ↓GH.wp_zip3, ↓GH.wp_lRg1, ↓GH.wp_lRg2, ↓GH.wp_tupRg, ↓GH.sm_addI, ↓GH.sm_addT, ↓GH.sm_addL, ↓GH.sm_addLD, ↓GH.sm_subI, ↓GH.sm_mulI, ↓GH.sm_mulL, ↓GH.sm_mulLD, ↓GH.sm_modI, ↓GH.sm_fdivI, ↓GH.sm_ltI, ↓GH.sm_leI, ↓GH.sm_gtI, ↓GH.sm_geI, ↓GH.sm_eqI, ↓GH.sm_neI, ↓GH.sm_isN, ↓GH.sm_notN, ↓GH.sm_ixT, ↓GH.sm_ixL, ↓GH.sm_ownO, ↓GH.sm_ownL, ↓GH.sm_ownT, ↓GH.at_0, ↓GH.at_1, ↓GH.at_2, ↓GH.at_3, ↓GH.at_4, ↓GH.at_map, ↓GH.sm_lenL, ↓GH.sm_lenT, ↓GH.sm_intI, ↓GH.sm_intB, ↓GH.sm_absI, ↓GH.sm_tupL, ↓GH.sm_tupT, ↓GH.sm_lstL, ↓GH.sm_lstT, ↓GH.sm_sumL1, ↓GH.sm_sumT1, ↓GH.sm_sumL, ↓GH.sm_sumT, ↓GH.sm_maxI, ↓GH.sm_minI, ↓GH.sm_maxL1, ↓GH.sm_minL1, ↓GH.sm_maxL, ↓GH.sm_minL, ↓GH.sm_anyL, ↓GH.sm_allL, ↓GH.sm_negI, ↓GH.sm_revL, ↓GH.sm_revT, ↓GH.sm_seqL, ↓GH.sm_seqT, ↓GH.sm_slL, ↓GH.sm_slT, ↓GH.sm_truB, ↓GH.sm_truN, ↓GH.sm_truI, ↓GH.sm_truL, ↓GH.sm_truT, ↓GH.sm_inR, ↓GH.sm_inT, ↓GH.sm_inL, ↓GH.sm_ninT, ↓GH.sm_ninL, ↓GH.sm_setL, ↓GH.wp_comp, ↓GH.wp_turn, ↓GH.lp_nx, ↓GH.lp_cnt, ↓GH.lp_brk, ↓GH.lp_ret, ↓GH.outR_ret, ↓GH.outR_nx, ↓GH.ownB_L, ↓GH.ownB_K, ↓GH.ownB_T, ↓GH.wp_nw, ↓GH.wp_nK0, ↓GH.wp_nT0, ↓GH.wp_dpNil, ↓GH.wp_dpCons, ↓GH.wp_nDisp, ↓GH.wp_ownN, ↓GH.wp_pOwnN, ↓GH.wp_dgO, ↓GH.own2_K, ↓GH.own2_T, ↓GH.own2_s, ↓GH.wp_here2, ↓GH.wp_putD, ↓GH.putAt_s, ↓GH.putAt_K, ↓GH.putAt_T, ↓GH.wp_sPutD, ↓GH.sm_keyI, ↓GH.sm_keyS, ↓GH.sm_keysT, ↓GH.sm_dgK, ↓GH.sm_dgT, ↓GH.sm_dinK, ↓GH.sm_dinT, ↓GH.sm_dninK, ↓GH.sm_dninT, ↓GH.dctAt_KI, ↓GH.dctAt_T, ↓GH.dctAt_s, ↓GH.wp_forD, ↓GH.enumP_map, ↓GH.zip2P_map, ↓GH.zip3P_map, ↓GH.sm_eqNilI, ↓GH.sm_neNilI, ↓GH.sm_eqIL, ↓GH.sm_neIL, ↓GH.sm_eqIT, ↓GH.sm_neIT, ↓GH.sm_srtI, GH.isV_none, GH.isV_val, GH.isV_jv, GH.allV_nil, GH.allV_cons, GH.jv_some, GH.jv_none, GH.out_nx, GH.kGet_lkp, GH.lkp_isSome, GH.borF, GH.bor_z, GH.bor_tt, GH.bor_no, GH.clean_nil, GH.clean_cons, GH.cleanAt_s, GH.cleanAt_n, GH.cleanAt_v, GH.cleanAt_j, GH.wipe_nil, GH.wipe_cons, GH.startE_z, GH.startE_n, GH.startE_s, eq_self, Option.isSome_map, List.set_cons_zero, List.set_cons_succ, List.cons_append, List.nil_append, and_true, true_and, and_self, true_implies, implies_true, not_false_eq_true, not_true_eq_false, false_implies, Option.some.injEq, List.contains_cons, List.contains_nil, Nat.reduceBEq, Bool.or_false, Bool.or_true, Bool.false_or, Bool.true_or, Nat.zero_add, Nat.reduceAdd, $ls,*])
local macro_rules | `(tactic| simp_all_arith [$ls,*]) => `(tactic| simp only [↓GH.wp_ret, ↓GH.wp_lift, ↓GH.sm_some, ↓GH.sm_map, ↓GH.sm_bind, ↓GH.ifB_tt, ↓GH.ifB_ff, ↓GH.ifB_dec, ↓GH.ifB_not, ↓GH.nx_nx, ↓GH.nx_ret, ↓GH.nx_brk, ↓GH.nx_cnt, ↓GH.varAt_z, ↓GH.varAt_s, ↓GH.slAt_z, ↓GH.slAt_s, ↓GH.ownAt_z, ↓GH.ownAt_s, ↓GH.setAt_z, ↓GH.setAt_s, ↓GH.frzAt_z, ↓GH.frzAt_s, ↓GH.bor_val, ↓GH.bor_own, ↓GH.bor_ownK, ↓GH.bor_ownT, ↓GH.len_0, ↓GH.len_1, ↓GH.len_2, ↓GH.len_3, ↓GH.len_4, ↓GH.len_5, ↓GH.len_6, ↓GH.isB_bl, ↓GH.isI_int, ↓GH.wp_var, ↓GH.wp_frz, ↓GH.wp_C, ↓GH.wp_bin, ↓GH.wp_un, ↓GH.wp_tst, ↓GH.wp_tru, ↓GH.wp_and2, ↓GH.wp_or2, ↓GH.wp_not1, ↓GH.wp_eAnd, ↓GH.wp_eOr, ↓GH.wp_eNot, ↓GH.wp_eIf, ↓GH.wp_chain, ↓GH.wp_aNil, ↓GH.wp_aCons, ↓GH.wp_aStar, ↓GH.wp_tup, ↓GH.wp_disp, ↓GH.wp_lst, ↓GH.wp_call, ↓GH.wp_callL, ↓GH.wp_binL, ↓GH.wp_fn, ↓GH.wp_fld, ↓GH.wp_oNo, ↓GH.wp_oAt, ↓GH.wp_sl, ↓GH.wp_ixO, ↓GH.wp_here, ↓GH.wp_putL, ↓GH.wp_app, ↓GH.sm_app, ↓GH.wp_pop, ↓GH.sm_popL, ↓GH.wp_popAt, ↓GH.wp_bor, ↓GH.wp_tBor, ↓GH.isFlat_int, ↓GH.isFlat_bl, ↓GH.isFlat_non, ↓GH.isFlat_str, ↓GH.wp_nx, ↓GH.wp_sRet, ↓GH.wp_sIf, ↓GH.wp_sExpr, ↓GH.wp_asg, ↓GH.wp_gN, ↓GH.wp_gT, ↓GH.wp_gCons, ↓GH.wp_gNil, ↓GH.wp_set, ↓GH.wp_own, ↓GH.wp_aug, ↓GH.sm_aug, ↓GH.wp_setIx, ↓GH.wp_ownGet, ↓GH.wp_augIx, ↓GH.wp_sFor, ↓GH.wp_pNil, ↓GH.wp_pVal, ↓GH.wp_pOwn, ↓GH.wp_par, ↓GH.sm_put0, ↓GH.sm_put, ↓GH.wp_iSeq, ↓GH.wp_rg1, ↓GH.wp_rg2, ↓GH.wp_enum, ↓GH.wp_zip2, ↓GH.wp_zip3, ↓GH.wp_lRg1, ↓GH.wp_lRg2, ↓GH.wp_tupRg, ↓GH.sm_addI, ↓GH.sm_addT, ↓GH.sm_addL, ↓GH.sm_addLD, ↓GH.sm_subI, ↓GH.sm_mulI, ↓GH.sm_mulL, ↓GH.sm_mulLD, ↓GH.sm_modI, ↓GH.sm_fdivI, ↓GH.sm_ltI, ↓GH.sm_leI, ↓GH.sm_gtI, ↓GH.sm_geI, ↓GH.sm_eqI, ↓GH.sm_neI, ↓GH.sm_isN, ↓GH.sm_notN, ↓GH.sm_ixT, ↓GH.sm_ixL, ↓GH.sm_ownO, ↓GH.sm_ownL, ↓GH.sm_ownT, ↓GH.at_0, ↓GH.at_1, ↓GH.at_2, ↓GH.at_3, ↓GH.at_4, ↓GH.at_map, ↓GH.sm_lenL, ↓GH.sm_lenT, ↓GH.sm_intI, ↓GH.sm_intB, ↓GH.sm_absI, ↓GH.sm_tupL, ↓GH.sm_tupT, ↓GH.sm_lstL, ↓GH.sm_lstT, ↓GH.sm_sumL1, ↓GH.sm_sumT1, ↓GH.sm_sumL, ↓GH.sm_sumT, ↓GH.sm_maxI, ↓GH.sm_minI, ↓GH.sm_maxL1, ↓GH.sm_minL1, ↓GH.sm_maxL, ↓GH.sm_minL, ↓GH.sm_anyL, ↓GH.sm_allL, ↓GH.sm_negI, ↓GH.sm_revL, ↓GH.sm_revT, ↓GH.sm_seqL, ↓GH.sm_seqT, ↓GH.sm_slL, ↓GH.sm_slT, ↓GH.sm_truB, ↓GH.sm_truN, ↓GH.sm_truI, ↓GH.sm_truL, ↓GH.sm_truT, ↓GH.sm_inR, ↓GH.sm_inT, ↓GH.sm_inL, ↓GH.sm_ninT, ↓GH.sm_ninL, ↓GH.sm_setL, ↓GH.wp_comp, ↓GH.wp_turn, ↓GH.lp_nx, ↓GH.lp_cnt, ↓GH.lp_brk, ↓GH.lp_ret, ↓GH.outR_ret, ↓GH.outR_nx, ↓GH.ownB_L, ↓GH.ownB_K, ↓GH.ownB_T, ↓GH.wp_nw, ↓GH.wp_nK0, ↓GH.wp_nT0, ↓GH.wp_dpNil, ↓GH.wp_dpCons, ↓GH.wp_nDisp, ↓GH.wp_ownN, ↓GH.wp_pOwnN, ↓GH.wp_dgO, ↓GH.own2_K, ↓GH.own2_T, ↓GH.own2_s, ↓GH.wp_here2, ↓GH.wp_putD, ↓GH.putAt_s, ↓GH.putAt_K, ↓GH.putAt_T, ↓GH.wp_sPutD, ↓GH.sm_keyI, ↓GH.sm_keyS, ↓GH.sm_keysT, ↓GH.sm_dgK, ↓GH.sm_dgT, ↓GH.sm_dinK, ↓GH.sm_dinT, ↓GH.sm_dninK, ↓GH.sm_dninT, ↓GH.dctAt_KI, ↓GH.dctAt_T, ↓GH.dctAt_s, ↓GH.wp_forD, ↓GH.enumP_map, ↓GH.zip2P_map, ↓GH.zip3P_map, ↓GH.sm_eqNilI, ↓GH.sm_neNilI, ↓GH.sm_eqIL, ↓GH.sm_neIL, ↓GH.sm_eqIT, ↓GH.sm_neIT, ↓GH.sm_srtI, GH.isV_none, GH.isV_val, GH.isV_jv, GH.allV_nil, GH.allV_cons, GH.jv_some, GH.jv_none, GH.out_nx, GH.kGet_lkp, GH.lkp_isSome, GH.borF, GH.bor_z, GH.bor_tt, GH.bor_no, GH.clean_nil, GH.clean_cons, GH.cleanAt_s, GH.cleanAt_n, GH.cleanAt_v, GH.cleanAt_j, GH.wipe_nil, GH.wipe_cons, GH.startE_z, GH.startE_n, GH.startE_s, eq_self, Option.isSome_map, List.set_cons_zero, List.set_cons_succ, List.cons_append, List.nil_append, and_true, true_and, and_self, true_implies, implies_true, not_false_eq_true, not_true_eq_false, false_implies, Option.some.injEq, List.contains_cons, List.contains_nil, Nat.reduceBEq, Bool.or_false, Bool.or_true, Bool.false_or, Bool.true_or, Nat.zero_add, Nat.reduceAdd, $ls,*])
noncomputable section
namespace GW
open GH
theorem sm_lenPs {l : List (Int × Int)} {P : D → Prop} : Sm (lenG [ePs l]) P ↔ P (.int l.length) := by unfold ePs; rw [sm_lenT, List.length_map]
theorem sm_seqPs {l : List (Int × Int)} {P : List D → Prop} : Sm (seqD (ePs l)) P ↔ P (l.map eP) := sm_some
theorem sm_ixPs {l : List (Int × Int)} {j : Int} {P : D → Prop} : Sm (ixD (ePs l) (.int j)) P ↔ Sm (L2.atI l j) fun p => P (eP p) := by unfold ePs; rw [sm_ixT, at_map]
theorem sm_ixP0 {p : Int × Int} {P : D → Prop} : Sm (ixD (eP p) (.int 0)) P ↔ P (.int p.1) := by unfold eP; rw [sm_ixT, at_0]
theorem sm_ixP1 {p : Int × Int} {P : D → Prop} : Sm (ixD (eP p) (.int 1)) P ↔ P (.int p.2) := by unfold eP; rw [sm_ixT, at_1]
theorem sm_lenIs {l : List Int} {P : D → Prop} : Sm (lenG [eIs l]) P ↔ P (.int l.length) := by unfold eIs; rw [sm_lenT, List.length_map]
theorem sm_seqIs {l : List Int} {P : List D → Prop} : Sm (seqD (eIs l)) P ↔ P (l.map D.int) := sm_some
theorem sm_neIs {a b : List Int} {P : D → Prop} : Sm (neD (eIs a) (eIs b)) P ↔ P (.bl (!decide (a = b))) := sm_neIT
theorem sm_neIs2 {a b : List Int} {P : D → Prop} : Sm (neD (eIs a) (.tup (b.map D.int))) P ↔ P (.bl (!decide (a = b))) := sm_neIT
theorem sm_neIs3 {a b : List Int} {P : D → Prop} : Sm (neD (.tup (a.map D.int)) (eIs b)) P ↔ P (.bl (!decide (a = b))) := sm_neIT
theorem sm_inIs {i : Int} {xs : List Int} {P : D → Prop} : Sm (inD (.int i) (eIs xs)) P ↔ P (.bl (decide (i ∈ xs))) := sm_inT
theorem sm_reprB {b : Bool} {P : D → Prop} : Sm (reprG [.bl b]) P ↔ P (.str (if b = true then "True" else "False")) := sm_some
theorem sm_tupII {xs : List Int} {P : D → Prop} : Sm (tupG [.lst (xs.map D.int)]) P ↔ P (eIs xs) := sm_some
end GW
end

local macro_rules | `(tactic| simp_arith [$ls,*]) => `(tactic| simp only [↓GW.sm_lenPs, ↓GW.sm_seqPs, ↓GW.sm_ixPs, ↓GW.sm_ixP0, ↓GW.sm_ixP1, ↓GW.sm_lenIs, ↓GW.sm_seqIs, ↓GW.sm_neIs, ↓GW.sm_neIs2, ↓GW.sm_neIs3, ↓GW.sm_inIs, ↓GW.sm_reprB, ↓GW.sm_tupII, ↓GH.wp_ret, ↓GH.wp_lift, ↓GH.sm_some, ↓GH.sm_map, ↓GH.sm_bind, ↓GH.ifB_tt, ↓GH.ifB_ff, ↓GH.ifB_dec, ↓GH.ifB_not, ↓GH.nx_nx, ↓GH.nx_ret, ↓GH.nx_brk, ↓GH.nx_cnt, ↓GH.varAt_z, ↓GH.varAt_s, ↓GH.slAt_z, ↓GH.slAt_s, ↓GH.ownAt_z, ↓GH.ownAt_s, ↓GH.setAt_z, ↓GH.setAt_s, ↓GH.frzAt_z, ↓GH.frzAt_s, ↓GH.bor_val, ↓GH.bor_own, ↓GH.bor_ownK, ↓GH.bor_ownT, ↓GH.len_0, ↓GH.len_1, ↓GH.len_2, ↓GH.len_3, ↓GH.len_4, ↓GH.len_5, ↓GH.len_6, ↓GH.isB_bl, ↓GH.isI_int, ↓GH.wp_var, ↓GH.wp_frz, ↓GH.wp_C, ↓GH.wp_bin, ↓GH.wp_un, ↓GH.wp_tst, ↓GH.wp_tru, ↓GH.wp_and2, ↓GH.wp_or2, ↓GH.wp_not1, ↓GH.wp_eAnd, ↓GH.wp_eOr, ↓GH.wp_eNot, ↓GH.wp_eIf, ↓GH.wp_chain, ↓GH.wp_aNil, ↓GH.wp_aCons, ↓GH.wp_aStar, ↓GH.wp_tup, ↓GH.wp_disp, ↓GH.wp_lst, ↓GH.wp_call, ↓GH.wp_callL, ↓GH.wp_binL, ↓GH.wp_fn, ↓GH.wp_fld, ↓GH.wp_oNo, ↓GH.wp_oAt, ↓GH.wp_sl, ↓GH.wp_ixO, ↓GH.wp_here, ↓GH.wp_putL, ↓GH.wp_app, ↓GH.sm_app, ↓GH.wp_pop, ↓GH.sm_popL, ↓GH.wp_popAt, ↓GH.wp_bor, ↓GH.wp_tBor, ↓GH.isFlat_int, ↓GH.isFlat_bl, ↓GH.isFlat_non, ↓GH.isFlat_str, ↓GH.wp_seq, ↓GH.wp_nx, ↓GH.wp_sRet, ↓GH.wp_sIf, ↓GH.wp_sExpr, ↓GH.wp_asg, ↓GH.wp_gN, ↓GH.wp_gT, ↓GH.wp_gCons, ↓GH.wp_gNil, ↓GH.wp_set, ↓GH.wp_own, ↓GH.wp_aug, ↓GH.sm_aug, ↓GH.wp_setIx, ↓GH.wp_ownGet, ↓GH.wp_augIx, ↓GH.wp_sFor, ↓GH.wp_pNil, ↓GH.wp_pVal, ↓GH.wp_pOwn, ↓GH.wp_par, ↓GH.sm_put0, ↓GH.sm_put, ↓GH.wp_iSeq, ↓GH.wp_rg1, ↓GH.wp_rg2, ↓GH.wp_enum, ↓GH.wp_zip2, ↓GH.wp_zip3, ↓GH.wp_lRg1, ↓GH.wp_lRg2, ↓GH.wp_tupRg, ↓GH.sm_addI, ↓GH.sm_addT, ↓GH.sm_addL, ↓GH.sm_addLD, ↓GH.sm_subI, ↓GH.sm_mulI, ↓GH.sm_mulL, ↓GH.sm_mulLD, ↓GH.sm_modI, ↓GH.sm_fdivI, ↓GH.sm_ltI, ↓GH.sm_leI, ↓GH.sm_gtI, ↓GH.sm_geI, ↓GH.sm_eqI, ↓GH.sm_neI, ↓GH.sm_isN, ↓GH.sm_notN, ↓GH.sm_ixT, ↓GH.sm_ixL, ↓GH.sm_ownO, ↓GH.sm_ownL, ↓GH.sm_ownT, ↓GH.at_0, ↓GH.at_1, ↓GH.at_2, ↓GH.at_3, ↓GH.at_4, ↓GH.at_map, ↓GH.sm_lenL, ↓GH.sm_lenT, ↓GH.sm_intI, ↓GH.sm_intB, ↓GH.sm_absI, ↓GH.sm_tupL, ↓GH.sm_tupT, ↓GH.sm_lstL, ↓GH.sm_lstT, ↓GH.sm_sumL1, ↓GH.sm_sumT1, ↓GH.sm_sumL, ↓GH.sm_sumT, ↓GH.sm_maxI, ↓GH.sm_minI, ↓GH.sm_maxL1, ↓GH.sm_minL1, ↓GH.sm_maxL, ↓GH.sm_minL, ↓GH.sm_anyL, ↓GH.sm_allL, ↓GH.sm_negI, ↓GH.sm_revL, ↓GH.sm_revT, ↓GH.sm_seqL, ↓GH.sm_seqT, ↓GH.sm_slL, ↓GH.sm_slT, ↓GH.sm_truB, ↓GH.sm_truN, ↓GH.sm_truI, ↓GH.sm_truL, ↓GH.sm_truT, ↓GH.sm_inR, ↓GH.sm_inT, ↓GH.sm_inL, ↓GH.sm_ninT, ↓GH.sm_ninL, ↓GH.sm_setL, ↓GH.wp_comp, ↓GH.wp_turn, ↓GH.lp_nx, ↓GH.lp_cnt, ↓GH.lp_brk, ↓GH.lp_ret, ↓GH.outR_ret, ↓GH.outR_nx, ↓GH.ownB_L, ↓GH.ownB_K, ↓GH.ownB_T, ↓GH.wp_nw, ↓GH.wp_nK0, ↓GH.wp_nT0, ↓GH.wp_dpNil, ↓GH.wp_dpCons, ↓GH.wp_nDisp, ↓GH.wp_ownN, ↓GH.wp_pOwnN, ↓GH.wp_dgO, ↓GH.own2_K, ↓GH.own2_T, ↓GH.own2_s, ↓GH.wp_here2, ↓GH.wp_putD, ↓GH.putAt_s, ↓GH.putAt_K, ↓GH.putAt_T, ↓GH.wp_sPutD, ↓GH.sm_keyI, ↓GH.sm_keyS, ↓GH.sm_keysT, ↓GH.sm_dgK, ↓GH.sm_dgT, ↓GH.sm_dinK, ↓GH.sm_dinT, ↓GH.sm_dninK, ↓GH.sm_dninT, ↓GH.dctAt_KI, ↓GH.dctAt_T, ↓GH.dctAt_s, ↓GH.wp_forD, ↓GH.enumP_map, ↓GH.zip2P_map, ↓GH.zip3P_map, ↓GH.sm_eqNilI, ↓GH.sm_neNilI, ↓GH.sm_eqIL, ↓GH.sm_neIL, ↓GH.sm_eqIT, ↓GH.sm_neIT, ↓GH.at_snoc, ↓GH.sm_ne3, ↓GH.sm_ne2, ↓GH.sm_srtI, GH.isV_none, GH.isV_val, GH.isV_jv, GH.allV_nil, GH.allV_cons, GH.jv_some, GH.jv_none, GH.out_nx, GH.kGet_lkp, GH.lkp_isSome, GH.borF, GH.bor_z, GH.bor_tt, GH.bor_no, GH.clean_nil, GH.clean_cons, GH.cleanAt_s, GH.cleanAt_n, GH.cleanAt_v, GH.cleanAt_j, GH.wipe_nil, GH.wipe_cons, GH.startE_z, GH.startE_n, GH.startE_s, eq_self, Option.isSome_map, List.set_cons_zero, List.set_cons_succ, List.cons_append, List.nil_append, and_true, true_and, and_self, true_implies, implies_true, not_false_eq_true, not_true_eq_false, false_implies, Option.some.injEq, List.contains_cons, List.contains_nil, Nat.reduceBEq, Bool.or_false, Bool.or_true, Bool.false_or, Bool.true_or, Nat.zero_add, Nat.reduceAdd, $ls,*])
local macro_rules | `(tactic| simp_all_arith [$ls,*]) => `(tactic| simp only [↓GW.sm_lenPs, ↓GW.sm_seqPs, ↓GW.sm_ixPs, ↓GW.sm_ixP0, ↓GW.sm_ixP1, ↓GW.sm_lenIs, ↓GW.sm_seqIs, ↓GW.sm_neIs, ↓GW.sm_neIs2, ↓GW.sm_neIs3, ↓GW.sm_inIs, ↓GW.sm_reprB, ↓GW.sm_tupII, ↓GH.wp_ret, ↓GH.wp_lift, ↓GH.sm_some, ↓GH.sm_map, ↓GH.sm_bind, ↓GH.ifB_tt, ↓GH.ifB_ff, ↓GH.ifB_dec, ↓GH.ifB_not, ↓GH.nx_nx, ↓GH.nx_ret, ↓GH.nx_brk, ↓GH.nx_cnt, ↓GH.varAt_z, ↓GH.varAt_s, ↓GH.slAt_z, ↓GH.slAt_s, ↓GH.ownAt_z, ↓GH.ownAt_s, ↓GH.setAt_z, ↓GH.setAt_s, ↓GH.frzAt_z, ↓GH.frzAt_s, ↓GH.bor_val, ↓GH.bor_own, ↓GH.bor_ownK, ↓GH.bor_ownT, ↓GH.len_0, ↓GH.len_1, ↓GH.len_2, ↓GH.len_3, ↓GH.len_4, ↓GH.len_5, ↓GH.len_6, ↓GH.isB_bl, ↓GH.isI_int, ↓GH.wp_var, ↓GH.wp_frz, ↓GH.wp_C, ↓GH.wp_bin, ↓GH.wp_un, ↓GH.wp_tst, ↓GH.wp_tru, ↓GH.wp_and2, ↓GH.wp_or2, ↓GH.wp_not1, ↓GH.wp_eAnd, ↓GH.wp_eOr, ↓GH.wp_eNot, ↓GH.wp_eIf, ↓GH.wp_chain, ↓GH.wp_aNil, ↓GH.wp_aCons, ↓GH.wp_aStar, ↓GH.wp_tup, ↓GH.wp_disp, ↓GH.wp_lst, ↓GH.wp_call, ↓GH.wp_callL, ↓GH.wp_binL, ↓GH.wp_fn, ↓GH.wp_fld, ↓GH.wp_oNo, ↓GH.wp_oAt, ↓GH.wp_sl, ↓GH.wp_ixO, ↓GH.wp_here, ↓GH.wp_putL, ↓GH.wp_app, ↓GH.sm_app, ↓GH.wp_pop, ↓GH.sm_popL, ↓GH.wp_popAt, ↓GH.wp_bor, ↓GH.wp_tBor, ↓GH.isFlat_int, ↓GH.isFlat_bl, ↓GH.isFlat_non, ↓GH.isFlat_str, ↓GH.wp_nx, ↓GH.wp_sRet, ↓GH.wp_sIf, ↓GH.wp_sExpr, ↓GH.wp_asg, ↓GH.wp_gN, ↓GH.wp_gT, ↓GH.wp_gCons, ↓GH.wp_gNil, ↓GH.wp_set, ↓GH.wp_own, ↓GH.wp_aug, ↓GH.sm_aug, ↓GH.wp_setIx, ↓GH.wp_ownGet, ↓GH.wp_augIx, ↓GH.wp_sFor, ↓GH.wp_pNil, ↓GH.wp_pVal, ↓GH.wp_pOwn, ↓GH.wp_par, ↓GH.sm_put0, ↓GH.sm_put, ↓GH.wp_iSeq, ↓GH.wp_rg1, ↓GH.wp_rg2, ↓GH.wp_enum, ↓GH.wp_zip2, ↓GH.wp_zip3, ↓GH.wp_lRg1, ↓GH.wp_lRg2, ↓GH.wp_tupRg, ↓GH.sm_addI, ↓GH.sm_addT, ↓GH.sm_addL, ↓GH.sm_addLD, ↓GH.sm_subI, ↓GH.sm_mulI, ↓GH.sm_mulL, ↓GH.sm_mulLD, ↓GH.sm_modI, ↓GH.sm_fdivI, ↓GH.sm_ltI, ↓GH.sm_leI, ↓GH.sm_gtI, ↓GH.sm_geI, ↓GH.sm_eqI, ↓GH.sm_neI, ↓GH.sm_isN, ↓GH.sm_notN, ↓GH.sm_ixT, ↓GH.sm_ixL, ↓GH.sm_ownO, ↓GH.sm_ownL, ↓GH.sm_ownT, ↓GH.at_0, ↓GH.at_1, ↓GH.at_2, ↓GH.at_3, ↓GH.at_4, ↓GH.at_map, ↓GH.sm_lenL, ↓GH.sm_lenT, ↓GH.sm_intI, ↓GH.sm_intB, ↓GH.sm_absI, ↓GH.sm_tupL, ↓GH.sm_tupT, ↓GH.sm_lstL, ↓GH.sm_lstT, ↓GH.sm_sumL1, ↓GH.sm_sumT1, ↓GH.sm_sumL, ↓GH.sm_sumT, ↓GH.sm_maxI, ↓GH.sm_minI, ↓GH.sm_maxL1, ↓GH.sm_minL1, ↓GH.sm_maxL, ↓GH.sm_minL, ↓GH.sm_anyL, ↓GH.sm_allL, ↓GH.sm_negI, ↓GH.sm_revL, ↓GH.sm_revT, ↓GH.sm_seqL, ↓GH.sm_seqT, ↓GH.sm_slL, ↓GH.sm_slT, ↓GH.sm_truB, ↓GH.sm_truN, ↓GH.sm_truI, ↓GH.sm_truL, ↓GH.sm_truT, ↓GH.sm_inR, ↓GH.sm_inT, ↓GH.sm_inL, ↓GH.sm_ninT, ↓GH.sm_ninL, ↓GH.sm_setL, ↓GH.wp_comp, ↓GH.wp_turn, ↓GH.lp_nx, ↓GH.lp_cnt, ↓GH.lp_brk, ↓GH.lp_ret, ↓GH.outR_ret, ↓GH.outR_nx, ↓GH.ownB_L, ↓GH.ownB_K, ↓GH.ownB_T, ↓GH.wp_nw, ↓GH.wp_nK0, ↓GH.wp_nT0, ↓GH.wp_dpNil, ↓GH.wp_dpCons, ↓GH.wp_nDisp, ↓GH.wp_ownN, ↓GH.wp_pOwnN, ↓GH.wp_dgO, ↓GH.own2_K, ↓GH.own2_T, ↓GH.own2_s, ↓GH.wp_here2, ↓GH.wp_putD, ↓GH.putAt_s, ↓GH.putAt_K, ↓GH.putAt_T, ↓GH.wp_sPutD, ↓GH.sm_keyI, ↓GH.sm_keyS, ↓GH.sm_keysT, ↓GH.sm_dgK, ↓GH.sm_dgT, ↓GH.sm_dinK, ↓GH.sm_dinT, ↓GH.sm_dninK, ↓GH.sm_dninT, ↓GH.dctAt_KI, ↓GH.dctAt_T, ↓GH.dctAt_s, ↓GH.wp_forD, ↓GH.enumP_map, ↓GH.zip2P_map, ↓GH.zip3P_map, ↓GH.sm_eqNilI, ↓GH.sm_neNilI, ↓GH.sm_eqIL, ↓GH.sm_neIL, ↓GH.sm_eqIT, ↓GH.sm_neIT, ↓GH.at_snoc, ↓GH.sm_ne3, ↓GH.sm_ne2, ↓GH.sm_srtI, GH.isV_none, GH.isV_val, GH.isV_jv, GH.allV_nil, GH.allV_cons, GH.jv_some, GH.jv_none, GH.out_nx, GH.kGet_lkp, GH.lkp_isSome, GH.borF, GH.bor_z, GH.bor_tt, GH.bor_no, GH.clean_nil, GH.clean_cons, GH.cleanAt_s, GH.cleanAt_n, GH.cleanAt_v, GH.cleanAt_j, GH.wipe_nil, GH.wipe_cons, GH.startE_z, GH.startE_n, GH.startE_s, eq_self, Option.isSome_map, List.set_cons_zero, List.set_cons_succ, List.cons_append, List.nil_append, and_true, true_and, and_self, true_implies, implies_true, not_false_eq_true, not_true_eq_false, false_implies, Option.some.injEq, List.contains_cons, List.contains_nil, Nat.reduceBEq, Bool.or_false, Bool.or_true, Bool.false_or, Bool.true_or, Nat.zero_add, Nat.reduceAdd, $ls,*])
noncomputable section
namespace GW
open GH
theorem draw_greens_eq (n : Nat) (L : Int) (c : Src) (hn : n ≤ 1000) (hL : 1 ≤ L) (hL2 : L ≤ 1000) : ∃ gs c', GreensOk n L gs ∧ S__law_draw_greens [.src, .int n, .int L] c = some (ePs gs, c') := by
  suffices h : Cl S__law_draw_greens [.src, .int n, .int L] c fun d c' => ∃ gs, GreensOk n L gs ∧ d = ePs gs by
    obtain ⟨d, c', e, gs, g1, rfl⟩ := h
    exact ⟨gs, c', g1, e⟩
  refine fn_cl ?_
  simp only [startE_s, startE_n, startE_z, m__law_draw_greens]
  simp_arith
  refine ⟨okR_of (by omega) (by omega), ?_⟩
  refine wp_compD eP (fun _ g => 0 ≤ g.2 ∧ g.2 ≤ L) (by simp; omega) (by simp_arith) (fun x hx s0 => ?_) fun ys s' hl hr => ?_
  · simp_arith
    refine ⟨mulOk_l (by omega) (by omega), cl_pick (by omega) (by omega) fun r c1 h1 h2 => ?_⟩
    simp_arith
    refine ⟨mulOk_l (by omega) (by omega), cl_pick (by omega) (by omega) fun r2 c2 h3 h4 => ?_⟩
    simp_arith
    exact ⟨(r - 2 * L, r2), rfl, h3, by omega⟩
  · simp_arith
    refine ⟨ys, ⟨by simpa using hl, fun g hg => ?_⟩, rfl⟩
    obtain ⟨i, hi⟩ := List.mem_iff_getElem?.mp hg
    have hlt := (List.getElem?_eq_some_iff.mp hi).1
    exact hr i _ g (List.getElem?_eq_getElem (by omega)) hi
def lapB : M Out :=
 (sSeq (sPar [3, 4] (pVal (eBin addD (eC (.int 2)) (eFn S__law_pick (aCons (eVar 1) (aCons (eC (.int 4)) aNil)))) (pVal (eBin addD (eC (.int 2)) (eFn S__law_pick (aCons (eVar 1) (aCons (eC (.int 9)) aNil)))) pNil)))
 (sSeq (sSet 5 (eFn S__law_draw_line (aCons (eVar 1) (aCons (eVar 3) aNil))))
 (sSeq (sSet 6 (eFn S__law_draw_greens (aCons (eVar 1) (aCons (eCall lenG (aCons (eVar 5) aNil)) (aCons (eVar 4) aNil)))))
 (sSeq (sPar [7, 8] (pVal (eCall minG (aCons (eLst (eComp [22] (gN 22) (ret true) (eBin ixD (eVar 22) (eC (.int 1))) (iSeq (eVar 6)))) aNil)) (pVal (eFn S__law_line_ticks (aCons (eVar 5) (aCons (eC (.int 0)) aNil))) pNil)))
 (sSeq (sSet 9 (eFn S_offsets_of_line (aCons (eVar 3) (aCons (eVar 5) (aCons (eVar 6) (aCons (eVar 4) aNil))))))
 (sSeq (sIf (tOr2 (tst (eBin neD (eFn S_band_bound (aCons (eVar 6) aNil)) (eVar 7))) (tst (eBin neD (eFn S_arrivals (aCons (eVar 5) (aCons (eC (.int 0)) aNil))) (eCall tupG (aCons (eVar 8) aNil)))))
 (sRet (eC (.bl false)))
 sNx)
 (sSeq (sIf (tst (eBin neD (eFn S_band (aCons (eVar 5) (aCons (eVar 6) (aCons (eVar 4) (aCons (eVar 9) aNil))))) (eFn S__law_band (aCons (eVar 5) (aCons (eVar 6) (aCons (eVar 4) (aCons (eVar 9) aNil)))))))
 (sRet (eC (.bl false)))
 sNx)
 (sSeq (sIf (tst (eBin neD (eCall lenG (aCons (eFn S__law_band (aCons (eVar 5) (aCons (eVar 6) (aCons (eVar 4) (aCons (eVar 9) aNil))))) aNil)) (eVar 7)))
 (sRet (eC (.bl false)))
 sNx)
 (sSeq (sOwn 10 (lDisp aNil))
 (sSeq (sFor (iRg2 (eC (.int 1)) (eCall lenG (aCons (eVar 5) aNil))) (gN 11)
 (sSeq (sPar [12, 13] (pVal (eBin ixD (eBin ixD (eVar 5) (eBin subD (eVar 11) (eC (.int 1)))) (eC (.int 0))) (pVal (eBin ixD (eBin ixD (eVar 5) (eVar 11)) (eC (.int 0))) pNil)))
 (sSeq (sExpr (eApp 10 (eFn S_wish_of (aCons (eVar 12) (aCons (eBin ixD (eBin ixD (eVar 6) (eBin subD (eVar 11) (eC (.int 1)))) (eC (.int 0))) (aCons (eVar 13) (aCons (eBin ixD (eBin ixD (eVar 6) (eVar 11)) (eC (.int 0))) (aCons (eBin ixD (eBin ixD (eVar 5) (eVar 11)) (eC (.int 1))) aNil))))))))
 (sIf (tst (eBin neD (eIxO 10 (eUn negD (eC (.int 1)))) (eTup (aCons (eVar 12) (aCons (eVar 13) (aCons (eBin subD (eBin addD (eBin ixD (eBin ixD (eVar 6) (eBin subD (eVar 11) (eC (.int 1)))) (eC (.int 0))) (eBin ixD (eBin ixD (eVar 5) (eVar 11)) (eC (.int 1)))) (eBin ixD (eBin ixD (eVar 6) (eVar 11)) (eC (.int 0)))) aNil))))))
 (sRet (eC (.bl false)))
 sNx))))
 (sSeq (sAsg (eFn S_offsets_for (aCons (eVar 3) (aCons (eCall tupG (aCons (eFrz 10) aNil)) (aCons (eVar 4) aNil)))) (gT (gCons (gN 14) (gCons (gN 15) gNil))))
 (sSeq (sIf (tOr2 (tst (eBin neD (eVar 14) (eC (.str "offsets")))) (tst (eBin neD (eFn S_kept (aCons (eCall tupG (aCons (eFrz 10) aNil)) (aCons (eVar 4) (aCons (eVar 9) aNil)))) (eTupRg (eBor [10] (eCall lenG (aCons (eVar 10) aNil)))))))
 (sRet (eC (.bl false)))
 sNx)
 (sSeq (sIf (tOr2 (tst (eBin neD (eCall lenG (aCons (eFn S_band (aCons (eVar 5) (aCons (eVar 6) (aCons (eVar 4) (aCons (eVar 15) aNil))))) aNil)) (eVar 7))) (tst (eBin neD (eCall lenG (aCons (eFn S__law_band (aCons (eVar 5) (aCons (eVar 6) (aCons (eVar 4) (aCons (eVar 15) aNil))))) aNil)) (eVar 7))))
 (sRet (eC (.bl false)))
 sNx)
 (sSeq (sSet 16 (eBin subD (eFn S__law_pick (aCons (eVar 1) (aCons (eC (.int 60)) aNil))) (eC (.int 30))))
 (sSeq (sSet 17 (eFn S_band (aCons (eVar 5) (aCons (eVar 6) (aCons (eVar 4) (aCons (eFn S_turned_offsets (aCons (eVar 9) (aCons (eVar 4) (aCons (eVar 16) aNil)))) aNil))))))
 (sSeq (sIf (tst (eBin neD (eVar 17) (eCall tupG (aCons (eLst (eCallL srtG (aCons (eLst (eComp [21] (gN 21) (ret true) (eFn S__law_rest (aCons (eBin addD (eVar 21) (eVar 16)) (aCons (eVar 4) aNil))) (iSeq (eFn S__law_band (aCons (eVar 5) (aCons (eVar 6) (aCons (eVar 4) (aCons (eVar 9) aNil)))))))) aNil))) aNil))))
 (sRet (eC (.bl false)))
 sNx)
 (sFor (iRg1 (eC (.int 4))) (gN 18)
 (sSeq (sSet 19 (eCall tupG (aCons (eLst (eComp [23] (gN 23) (ret true) (eFn S__law_pick (aCons (eVar 1) (aCons (eVar 4) aNil))) (iRg1 (eVar 3)))) aNil)))
 (sSeq (sSet 20 (eFn S__law_band (aCons (eVar 5) (aCons (eVar 6) (aCons (eVar 4) (aCons (eVar 19) aNil))))))
 (sSeq (sIf (tOr2 (tst (eBin neD (eFn S_band (aCons (eVar 5) (aCons (eVar 6) (aCons (eVar 4) (aCons (eVar 19) aNil))))) (eVar 20))) (tst (eBin gtD (eCall lenG (aCons (eVar 20) aNil)) (eVar 7))))
 (sRet (eC (.bl false)))
 sNx)
 (sSeq (sSet 21 (eFn S__law_pick (aCons (eVar 1) (aCons (eBin mulD (eC (.int 3)) (eVar 4)) aNil))))
 (sIf (tst (eBin neD (eCall reprG (aCons (eFn S_passes (aCons (eVar 5) (aCons (eVar 6) (aCons (eVar 4) (aCons (eVar 19) (aCons (eVar 21) aNil)))))) aNil)) (eCall reprG (aCons (eBin inD (eFn S__law_rest (aCons (eVar 21) (aCons (eVar 4) aNil))) (eVar 20)) aNil))))
 (sRet (eC (.bl false)))
 sNx))))))))))))))))))))))
theorem m_law_is : m_law = sSeq (sFor (iRg1 (eC (.int 4))) (gN 2) lapB) (sRet (eC (.bl true))) := rfl
theorem lap_ok {s : S} (hI : LawI 22 s) : Wp lapB s fun o s' => o = .nx ∧ LawI 22 s' := by
  obtain ⟨ys1, c, rfl, hys1⟩ := hI.open_
  obtain ⟨x2, ys2, rfl, hys2⟩ := uncons hys1
  obtain ⟨x3, ys3, rfl, hys3⟩ := uncons hys2
  obtain ⟨x4, ys4, rfl, hys4⟩ := uncons hys3
  obtain ⟨x5, ys5, rfl, hys5⟩ := uncons hys4
  obtain ⟨x6, ys6, rfl, hys6⟩ := uncons hys5
  obtain ⟨x7, ys7, rfl, hys7⟩ := uncons hys6
  obtain ⟨x8, ys8, rfl, hys8⟩ := uncons hys7
  obtain ⟨x9, ys9, rfl, hys9⟩ := uncons hys8
  obtain ⟨x10, ys10, rfl, hys10⟩ := uncons hys9
  obtain ⟨x11, ys11, rfl, hys11⟩ := uncons hys10
  obtain ⟨x12, ys12, rfl, hys12⟩ := uncons hys11
  obtain ⟨x13, ys13, rfl, hys13⟩ := uncons hys12
  obtain ⟨x14, ys14, rfl, hys14⟩ := uncons hys13
  obtain ⟨x15, ys15, rfl, hys15⟩ := uncons hys14
  obtain ⟨x16, ys16, rfl, hys16⟩ := uncons hys15
  obtain ⟨x17, ys17, rfl, hys17⟩ := uncons hys16
  obtain ⟨x18, ys18, rfl, hys18⟩ := uncons hys17
  obtain ⟨x19, ys19, rfl, hys19⟩ := uncons hys18
  obtain ⟨x20, ys20, rfl, hys20⟩ := uncons hys19
  obtain ⟨x21, ys21, rfl, hys21⟩ := uncons hys20
  obtain ⟨x22, ys22, rfl, hys22⟩ := uncons hys21
  obtain ⟨x23, ys23, rfl, hys23⟩ := uncons hys22
  obtain rfl := unnil hys23
  simp only [List.map_cons, List.map_nil]
  clear hI hys1 hys2 hys3 hys4 hys5 hys6 hys7 hys8 hys9 hys10 hys11 hys12 hys13 hys14 hys15 hys16 hys17 hys18 hys19 hys20 hys21 hys22 hys23
  unfold lapB
  simp_arith
  refine cl_pick (by omega) (by omega) fun r1 c1 h1 h1' => ?_
  simp_arith
  refine cl_pick (by omega) (by omega) fun r2 c2 h2 h2' => ?_
  simp_arith
  obtain ⟨m, hm⟩ := Int.eq_ofNat_of_zero_le (show 0 ≤ 2 + r1 by omega)
  generalize hL : 2 + r2 = L
  rw [hm]
  obtain ⟨l, c3, hl, e3⟩ := draw_line_eq m c2 (by omega) (by omega)
  have hll : l.length ≤ m := hl.len
  simp_arith [cl_eq e3, sm_lenPs]
  obtain ⟨gs, c4, hg, e4⟩ := draw_greens_eq l.length L c3 (by omega) (by omega) (by omega)
  simp_arith [cl_eq e4, sm_seqPs]
  have hlp : 0 < l.length := List.length_pos_iff.mpr hl.ne
  have hgl := hg.len
  have hne : gs ≠ [] := fun z => by rw [z] at hgl; simp at hgl; omega
  have hL0 : L ≠ 0 := by omega
  refine wp_compM (fun g => .int g.2) (by omega) (by simp_arith) (fun g _ => by simp_arith [sm_ixP1]) ?_
  simp_arith [cl_eq (ticks_eq l 0 c4 (by omega))]
  refine ⟨hne, ?_⟩
  rw [cl_eq (told_eq m l gs L c4 (by omega) hL0 hne hl.inn (by omega))]
  simp_arith [cl_eq (band_bound_eq gs c4 hne (by omega))]
  have hlst : minL (gs.map fun x => x.2) = least gs := rfl
  rw [hlst]
  have hin := told_in (gs := gs) (L := L) hl
  have htb := told_band m l gs L hl (by omega) hg
  simp_arith [cl_eq (S_arrivals_eq l 0 c4 (by omega)), cl_eq (S_band_eq l gs L (told m l gs L) c4 (by omega) (by omega) hin (by omega)), cl_eq (law_band_eq l gs L (told m l gs L) c4 (by omega) (by omega) hin (by omega)), htb]
  refine ⟨okR_of (by omega) (by omega), okR_of (by omega) (by omega), ?_⟩
  refine wp_for (fun done rem st => ∃ (x11 x12 x13 : Option D), st = ⟨[none, some (.val .src), jv x2, some (.val (.int m)), some (.val (.int L)), some (.val (ePs l)), some (.val (ePs gs)), some (.val (.int (least gs))), some (.val (.lst ((arr l 0).map D.int))), some (.val (eIs (told m l gs L))),
    some (.own (done.map fun j : Nat => eW (lineW l gs j))), jv x11, jv x12, jv x13, jv x14, jv x15, jv x16, jv x17, jv x18, jv x19, jv x20, jv x21, jv x22, jv x23], c4⟩) ⟨x11, x12, x13, rfl⟩ ?_ ?_
  · rintro done k rest _ hx ⟨x11, x12, x13, rfl⟩
    have hk : k + 1 < l.length := by
      have : k ∈ List.range (((l.length : Nat) : Int) - 1).toNat := by rw [hx]; simp
      have := List.mem_range.mp this
      omega
    have hdl : done.length ≤ 1000 := by
      have := congrArg List.length hx
      simp at this
      omega
    have e1 : ∀ xs : List (Int × Int), nth xs (1 + ((k : Nat) : Int) - 1) = at0 xs k := fun xs => by rw [show 1 + ((k : Nat) : Int) - 1 = ((k : Nat) : Int) by omega]; rfl
    have e2 : ∀ xs : List (Int × Int), nth xs (1 + ((k : Nat) : Int)) = at0 xs (k + 1) := fun xs => by rw [show 1 + ((k : Nat) : Int) = ((k + 1 : Nat) : Int) by omega]; rfl
    simp_arith [at_nth (xs := l) (show 0 ≤ 1 + ((k : Nat) : Int) - 1 by omega) (by omega), at_nth (xs := l) (show 0 ≤ 1 + ((k : Nat) : Int) by omega) (by omega), at_nth (xs := gs) (show 0 ≤ 1 + ((k : Nat) : Int) - 1 by omega) (by omega), at_nth (xs := gs) (show 0 ≤ 1 + ((k : Nat) : Int) by omega) (by omega), e1, e2, cl_eq (wish_of_eq _ _ _ _ _ _)]
    refine ⟨by simp; omega, ?_⟩
    simp_arith [at_nth (xs := l) (show 0 ≤ 1 + ((k : Nat) : Int) - 1 by omega) (by omega), at_nth (xs := l) (show 0 ≤ 1 + ((k : Nat) : Int) by omega) (by omega), at_nth (xs := gs) (show 0 ≤ 1 + ((k : Nat) : Int) - 1 by omega) (by omega), at_nth (xs := gs) (show 0 ≤ 1 + ((k : Nat) : Int) by omega) (by omega), e1, e2, eW]
    refine ⟨some (.int (1 + k)), some (.int (at0 l k).1), some (.int (at0 l (k + 1)).1), ?_⟩
    simp only [List.map_append, List.map_cons, List.map_nil, lineW, eW]
    rfl
  · rintro _ ⟨x11, x12, x13, rfl⟩
    have hws : (List.range (((l.length : Nat) : Int) - 1).toNat).map (fun j : Nat => eW (lineW l gs j)) = (lineWs l gs).map eW := by
      unfold lineWs
      rw [List.map_map, show (((l.length : Nat) : Int) - 1).toNat = l.length - 1 by omega]; rfl
    rw [hws]
    obtain ⟨offs, o1, o2, o3, o4⟩ := offsets_pot m (lineWs l gs) L c4 (by omega) (line_wok hl) (by simp [lineWs]; omega) (by omega) (linePot l gs) (line_pot hl)
    have o4' : S_offsets_for [.int m, .tup ((lineWs l gs).map eW), .int L] c4 = some (.tup [.str "offsets", eIs offs], c4) := o4
    have hkp : S_kept [.tup ((lineWs l gs).map eW), .int L, eIs (told m l gs L)] c4 = some (.tup ((List.range (lineWs l gs).length).map fun k => D.int ((k : Nat) : Int)), c4) := by
      have := kept_eq (lineWs l gs) L (told m l gs L) c4 hL0 (by rw [told_len]; exact line_wok hl) (by simp [lineWs]; omega)
      have hk := told_keeps (gs := gs) hl (show 0 < L by omega) hgl.symm
      have e : ((lineWs l gs).zipIdx.filter fun p => keepsW L (told m l gs L) p.1) = (lineWs l gs).zipIdx := List.filter_eq_self.mpr fun p hp => hk p.1 (List.fst_mem_of_mem_zipIdx hp)
      rw [e] at this
      have e2 : ((lineWs l gs).zipIdx.map fun p => D.int ((p.2 : Nat) : Int)) = (List.range (lineWs l gs).length).map fun k => D.int ((k : Nat) : Int) := by
        rw [List.range_eq_range', ← List.zipIdx_map_snd, List.map_map]; rfl
      rw [e2] at this
      exact this
    have hof : (D.str "offsets").ok := GH.str_ok (by decide +kernel)
    have hoin : inOff offs l := fun p hp => by rw [o1]; exact hl.inn p hp
    have hkb := kept_band hl (show 0 < L by omega) hg o3
    simp_arith [cl_eq o4', cl_eq hkp, sm_neS hof, List.length_map]
    refine ⟨rgOk_of (by omega) (by omega) (by omega) (by simp [lineWs]; omega), ?_⟩
    rw [Int.toNat_natCast]
    simp_arith [sm_neS (ok_nats _), cl_eq (S_band_eq l gs L offs c4 (by omega) (by omega) hoin (by omega)), cl_eq (law_band_eq l gs L offs c4 (by omega) (by omega) hoin (by omega)), hkb]
    refine cl_pick (by omega) (by omega) fun r3 c5 h3 h3' => ?_
    have htin : inOff ((told m l gs L).map fun o => (o + (r3 - 30)).fmod L) l := fun p hp => by
      have := hin p hp
      rw [List.length_map]; exact this
    simp_arith [cl_eq (turned_eq (told m l gs L) L (r3 - 30) c5 hL0 (by rw [told_len]; omega)), cl_eq (S_band_eq l gs L _ c5 (by omega) (by omega) htin (by omega)), cl_eq (law_band_eq l gs L (told m l gs L) c5 (by omega) (by omega) hin (by omega))]
    have hbl : (bandL L (told m l gs L) l gs).length ≤ 1000 := by
      have h1 := hg.rng
      obtain ⟨⟨i, hi, e⟩, _⟩ := least_spec hne
      have := h1 _ (at0_mem hi)
      omega
    refine wp_compM (fun s => .int ((s + (r3 - 30)).fmod L)) (by omega) (by simp_arith) (fun s _ => by simp_arith [cl_eq (rest_eq (s + (r3 - 30)) L c5 hL0)]) ?_
    have hmm : (bandL L (told m l gs L) l gs).map (fun s => D.int ((s + (r3 - 30)).fmod L)) = ((bandL L (told m l gs L) l gs).map fun s => (s + (r3 - 30)).fmod L).map D.int := by rw [List.map_map]; rfl
    rw [hmm]
    simp_arith [turned_band L (r3 - 30) (told m l gs L) l gs (by omega) hgl.symm hin]
    refine ⟨by simp; omega, okR_of (by omega) (by omega), ?_⟩
    refine wp_for (fun _ _ st => ∃ (x18 x19 x20 x21 x23 : Option D) (c : Src), st = ⟨[none, some (.val .src), jv x2, some (.val (.int m)), some (.val (.int L)), some (.val (ePs l)), some (.val (ePs gs)), some (.val (.int (least gs))), some (.val (.lst ((arr l 0).map D.int))), some (.val (eIs (told m l gs L))),
      some (.val (.lst ((lineWs l gs).map eW))), jv x11, jv x12, jv x13, some (.val (.str "offsets")), some (.val (eIs offs)), some (.val (.int (r3 - 30))), some (.val (eIs (bandL L ((told m l gs L).map fun o => (o + (r3 - 30)).fmod L) l gs))), jv x18, jv x19, jv x20, jv x21, jv x22, jv x23], c⟩) ⟨x18, x19, x20, x21, x23, c5, rfl⟩ ?_ ?_
    · rintro done k rest _ hx ⟨x18, x19, x20, x21, x23, c, rfl⟩
      simp_arith
      refine ⟨okR_of (by omega) (by omega), ?_⟩
      refine wp_compD D.int (fun _ o => 0 ≤ o ∧ o < L) (by simp; omega) (by simp_arith) (fun x _ s0 => ?_) fun os c6 hos hor => ?_
      · simp_arith
        refine cl_pick (by omega) (by omega) fun o c7 h4 h5 => ?_
        simp_arith
        exact ⟨o, rfl, h4, h5⟩
      · have hosl : os.length = m := by rw [hos]; simp
        have hosin : inOff os l := fun p hp => by rw [hosl]; exact hl.inn p hp
        have hle := band_le L os l gs (by omega) hgl.symm hne hg.rng
        have b1 : S_band [ePs l, ePs gs, .int L, .tup (os.map D.int)] c6 = _ := S_band_eq l gs L os c6 (by omega) (by omega) hosin (by omega)
        have b2 : S__law_band [ePs l, ePs gs, .int L, .tup (os.map D.int)] c6 = _ := law_band_eq l gs L os c6 (by omega) (by omega) hosin (by omega)
        have b3 : ∀ st c7, S_passes [ePs l, ePs gs, .int L, .tup (os.map D.int), .int st] c7 = _ := fun st c7 => S_passes_eq l gs L os st c7 hL0 hosin (by omega)
        simp_arith [cl_eq b1, cl_eq b2]
        refine ⟨fun h => absurd h (by omega), fun _ => ⟨mulOk_l (by omega) (by omega), cl_pick (by omega) (by omega) fun st c7 h6 h7 => ?_⟩⟩
        simp_arith [cl_eq (b3 st c7), cl_eq (rest_eq st L c7 hL0), pass_mem L os l gs st (by omega) hgl.symm, sm_neS (tf_ok _)]
        exact ⟨some _, some _, some _, some _, _, _, rfl⟩
    · rintro _ ⟨x18, x19, x20, x21, x23, c, rfl⟩
      refine ⟨rfl, LawI.of rfl ?_⟩
      simp_arith
theorem plain_law : ∀ src, ∃ s', m_law ⟨lawEnv 24 1, src⟩ = some (.ret (.bl true), s') := fun src => by
  refine law_ok ?_
  rw [m_law_is]
  simp_arith
  refine ⟨okR_of (by omega) (by omega), ?_⟩
  refine wp_for (fun _ _ st => LawI 22 st) (lawI_start 22 src) (fun done x rest s _ hI => ?_) fun s hI => ?_
  · obtain ⟨xs, c, rfl, hxs⟩ := hI.open_
    obtain ⟨x2, xs, rfl, hxs⟩ := uncons hxs
    simp_arith [List.map_cons]
    refine (lap_ok (LawI.of (by simpa using hxs) ?_)).mono fun o s' ⟨h1, h2⟩ => by subst h1; exact h2
    simp_arith
    have : ∀ ys : List (Option D), AllV (ys.map jv) := fun ys => by
      induction ys with
      | nil => trivial
      | cons y t ih => exact ⟨⟨y, rfl⟩, ih⟩
    exact this xs
  · simp_arith
end GW
end

noncomputable section
namespace GW
open PySem PySem.Spec PyProof.Rows L2 GH
def d_wish_of : He.DefD := ⟨("wish_of", none), "wish_of", "wish_of", defArgs st_wish_of, defBody st_wish_of, defScope st_wish_of, [], []⟩
def d_is_kept : He.DefD := ⟨("is_kept", none), "is_kept", "is_kept", defArgs st_is_kept, defBody st_is_kept, defScope st_is_kept, [], []⟩
def d_kept : He.DefD := ⟨("kept", none), "kept", "kept", defArgs st_kept, defBody st_kept, defScope st_kept, [], []⟩
def d_tied_to : He.DefD := ⟨("tied_to", none), "tied_to", "tied_to", defArgs st_tied_to, defBody st_tied_to, defScope st_tied_to, [], []⟩
def d_ring_by : He.DefD := ⟨("ring_by", none), "ring_by", "ring_by", defArgs st_ring_by, defBody st_ring_by, defScope st_ring_by, [], []⟩
def d_offsets_for : He.DefD := ⟨("offsets_for", none), "offsets_for", "offsets_for", defArgs st_offsets_for, defBody st_offsets_for, defScope st_offsets_for, [], []⟩
def d_turned_offsets : He.DefD := ⟨("turned_offsets", none), "turned_offsets", "turned_offsets", defArgs st_turned_offsets, defBody st_turned_offsets, defScope st_turned_offsets, [], []⟩
def d_arrivals : He.DefD := ⟨("arrivals", none), "arrivals", "arrivals", defArgs st_arrivals, defBody st_arrivals, defScope st_arrivals, [], []⟩
def d_passes : He.DefD := ⟨("passes", none), "passes", "passes", defArgs st_passes, defBody st_passes, defScope st_passes, [], []⟩
def d_band : He.DefD := ⟨("band", none), "band", "band", defArgs st_band, defBody st_band, defScope st_band, [], []⟩
def d_band_bound : He.DefD := ⟨("band_bound", none), "band_bound", "band_bound", defArgs st_band_bound, defBody st_band_bound, defScope st_band_bound, [], []⟩
def d_offsets_of_line : He.DefD := ⟨("offsets_of_line", none), "offsets_of_line", "offsets_of_line", defArgs st_offsets_of_line, defBody st_offsets_of_line, defScope st_offsets_of_line, [], []⟩
def d__law_open_cells : He.DefD := ⟨("_law_open_cells", none), "_law_open_cells", "_law_open_cells", defArgs st__law_open_cells, defBody st__law_open_cells, defScope st__law_open_cells, [], []⟩
def d__law_pick : He.DefD := ⟨("_law_pick", none), "_law_pick", "_law_pick", defArgs st__law_pick, defBody st__law_pick, defScope st__law_pick, [], []⟩
def d__law_any_order : He.DefD := ⟨("_law_any_order", none), "_law_any_order", "_law_any_order", defArgs st__law_any_order, defBody st__law_any_order, defScope st__law_any_order, [], []⟩
def d__law_rest : He.DefD := ⟨("_law_rest", none), "_law_rest", "_law_rest", defArgs st__law_rest, defBody st__law_rest, defScope st__law_rest, [], []⟩
def d__law_line_ticks : He.DefD := ⟨("_law_line_ticks", none), "_law_line_ticks", "_law_line_ticks", defArgs st__law_line_ticks, defBody st__law_line_ticks, defScope st__law_line_ticks, [], []⟩
def d__law_band : He.DefD := ⟨("_law_band", none), "_law_band", "_law_band", defArgs st__law_band, defBody st__law_band, defScope st__law_band, [], []⟩
def d__law_draw_line : He.DefD := ⟨("_law_draw_line", none), "_law_draw_line", "_law_draw_line", defArgs st__law_draw_line, defBody st__law_draw_line, defScope st__law_draw_line, [], []⟩
def d__law_draw_greens : He.DefD := ⟨("_law_draw_greens", none), "_law_draw_greens", "_law_draw_greens", defArgs st__law_draw_greens, defBody st__law_draw_greens, defScope st__law_draw_greens, [], []⟩
def d_law : He.DefD := ⟨("law", none), "law", "law", defArgs st_law, defBody st_law, defScope st_law, [], []⟩
def dfs : List He.DefD := [d_wish_of, d_is_kept, d_kept, d_tied_to, d_ring_by, d_offsets_for, d_turned_offsets, d_arrivals, d_passes, d_band, d_band_bound, d_offsets_of_line, d__law_open_cells, d__law_pick, d__law_any_order, d__law_rest, d__law_line_ticks, d__law_band, d__law_draw_line, d__law_draw_greens, d_law]
def fcs : List He.Fa := [.glo "wish_of", .glo "is_kept", .glo "kept", .glo "tied_to", .glo "ring_by", .glo "offsets_for", .glo "turned_offsets", .glo "arrivals", .glo "passes", .glo "band", .glo "band_bound", .glo "offsets_of_line", .glo "_law_open_cells", .glo "_law_pick", .glo "_law_any_order", .glo "_law_rest", .glo "_law_line_ticks", .glo "_law_band", .glo "_law_draw_line", .glo "_law_draw_greens", .glo "law", .free "abs", .free "enumerate", .free "int", .free "len", .free "list", .free "min", .free "range", .free "repr", .free "sorted", .free "tuple", .free "zip"]
abbrev Rr : PySem.W.OpenRow := PySem.W.OpenLaw.row PySem.Challenge.rw_greenheld_k43_whole_green_waves
abbrev hk : PySem.W.Hook := He.hookD 4 fcs dfs
def ob (s : PySem.W.SharedT) : He.AlD := He.obsDG 4 fcs dfs (HandSHeadRun.getT s)
theorem ob_eq (s : PySem.W.SharedT) : ob s = hk.obs s.abs := He.obsDG_eq (HandSHeadRun.getT_eq s)
def loose : List Str := ["wish_of", "is_kept", "kept", "tied_to", "ring_by", "offsets_for", "turned_offsets", "arrivals", "passes", "band", "band_bound", "offsets_of_line", "_law_open_cells", "_law_pick", "_law_any_order", "_law_rest", "_law_line_ticks", "_law_band", "_law_draw_line", "_law_draw_greens"]
theorem run (w : World) : HandSHeadRun.RunEq Rr (PySem.W.view Rr.prog [23]) hk ob 1840 loose w := by
  intro os
  kernel_rfl
theorem facts (ok : ∀ src, ∃ s', m_law ⟨lawEnv 24 1, src⟩ = some (.ret (.bl true), s')) {P : Program} {w : World} {K : PySem.W.Frag} {h : Heap} {mg : Str → Option Value} (X : K.In h) (G : h.Ns mainGlobals mg) (c : He.SaysD fcs dfs K) (base : Heap) : FnW P w K mg base 4 "law" (spLaw K) := by
  obtain ⟨fd_wish_of, D_wish_of⟩ := c.def_ 0 (d := d_wish_of) rfl
  obtain ⟨fd_is_kept, D_is_kept⟩ := c.def_ 1 (d := d_is_kept) rfl
  obtain ⟨fd_kept, D_kept⟩ := c.def_ 2 (d := d_kept) rfl
  obtain ⟨fd_tied_to, D_tied_to⟩ := c.def_ 3 (d := d_tied_to) rfl
  obtain ⟨fd_ring_by, D_ring_by⟩ := c.def_ 4 (d := d_ring_by) rfl
  obtain ⟨fd_offsets_for, D_offsets_for⟩ := c.def_ 5 (d := d_offsets_for) rfl
  obtain ⟨fd_turned_offsets, D_turned_offsets⟩ := c.def_ 6 (d := d_turned_offsets) rfl
  obtain ⟨fd_arrivals, D_arrivals⟩ := c.def_ 7 (d := d_arrivals) rfl
  obtain ⟨fd_passes, D_passes⟩ := c.def_ 8 (d := d_passes) rfl
  obtain ⟨fd_band, D_band⟩ := c.def_ 9 (d := d_band) rfl
  obtain ⟨fd_band_bound, D_band_bound⟩ := c.def_ 10 (d := d_band_bound) rfl
  obtain ⟨fd_offsets_of_line, D_offsets_of_line⟩ := c.def_ 11 (d := d_offsets_of_line) rfl
  obtain ⟨fd__law_open_cells, D__law_open_cells⟩ := c.def_ 12 (d := d__law_open_cells) rfl
  obtain ⟨fd__law_pick, D__law_pick⟩ := c.def_ 13 (d := d__law_pick) rfl
  obtain ⟨fd__law_any_order, D__law_any_order⟩ := c.def_ 14 (d := d__law_any_order) rfl
  obtain ⟨fd__law_rest, D__law_rest⟩ := c.def_ 15 (d := d__law_rest) rfl
  obtain ⟨fd__law_line_ticks, D__law_line_ticks⟩ := c.def_ 16 (d := d__law_line_ticks) rfl
  obtain ⟨fd__law_band, D__law_band⟩ := c.def_ 17 (d := d__law_band) rfl
  obtain ⟨fd__law_draw_line, D__law_draw_line⟩ := c.def_ 18 (d := d__law_draw_line) rfl
  obtain ⟨fd__law_draw_greens, D__law_draw_greens⟩ := c.def_ 19 (d := d__law_draw_greens) rfl
  obtain ⟨fd_law, D_law⟩ := c.def_ 20 (d := d_law) rfl
  have g_wish_of := He.glo_ok X G (c.fact 0 (f := .glo "wish_of") rfl)
  have g_is_kept := He.glo_ok X G (c.fact 1 (f := .glo "is_kept") rfl)
  have g_kept := He.glo_ok X G (c.fact 2 (f := .glo "kept") rfl)
  have g_tied_to := He.glo_ok X G (c.fact 3 (f := .glo "tied_to") rfl)
  have g_ring_by := He.glo_ok X G (c.fact 4 (f := .glo "ring_by") rfl)
  have g_offsets_for := He.glo_ok X G (c.fact 5 (f := .glo "offsets_for") rfl)
  have g_turned_offsets := He.glo_ok X G (c.fact 6 (f := .glo "turned_offsets") rfl)
  have g_arrivals := He.glo_ok X G (c.fact 7 (f := .glo "arrivals") rfl)
  have g_passes := He.glo_ok X G (c.fact 8 (f := .glo "passes") rfl)
  have g_band := He.glo_ok X G (c.fact 9 (f := .glo "band") rfl)
  have g_band_bound := He.glo_ok X G (c.fact 10 (f := .glo "band_bound") rfl)
  have g_offsets_of_line := He.glo_ok X G (c.fact 11 (f := .glo "offsets_of_line") rfl)
  have g__law_open_cells := He.glo_ok X G (c.fact 12 (f := .glo "_law_open_cells") rfl)
  have g__law_pick := He.glo_ok X G (c.fact 13 (f := .glo "_law_pick") rfl)
  have g__law_any_order := He.glo_ok X G (c.fact 14 (f := .glo "_law_any_order") rfl)
  have g__law_rest := He.glo_ok X G (c.fact 15 (f := .glo "_law_rest") rfl)
  have g__law_line_ticks := He.glo_ok X G (c.fact 16 (f := .glo "_law_line_ticks") rfl)
  have g__law_band := He.glo_ok X G (c.fact 17 (f := .glo "_law_band") rfl)
  have g__law_draw_line := He.glo_ok X G (c.fact 18 (f := .glo "_law_draw_line") rfl)
  have g__law_draw_greens := He.glo_ok X G (c.fact 19 (f := .glo "_law_draw_greens") rfl)
  have g_law := He.glo_ok X G (c.fact 20 (f := .glo "law") rfl)
  have h_abs := He.free_ok X G (c.fact 21 (f := .free "abs") rfl)
  have h_enumerate := He.free_ok X G (c.fact 22 (f := .free "enumerate") rfl)
  have h_int := He.free_ok X G (c.fact 23 (f := .free "int") rfl)
  have h_len := He.free_ok X G (c.fact 24 (f := .free "len") rfl)
  have h_list := He.free_ok X G (c.fact 25 (f := .free "list") rfl)
  have h_min := He.free_ok X G (c.fact 26 (f := .free "min") rfl)
  have h_range := He.free_ok X G (c.fact 27 (f := .free "range") rfl)
  have h_repr := He.free_ok X G (c.fact 28 (f := .free "repr") rfl)
  have h_sorted := He.free_ok X G (c.fact 29 (f := .free "sorted") rfl)
  have h_tuple := He.free_ok X G (c.fact 30 (f := .free "tuple") rfl)
  have h_zip := He.free_ok X G (c.fact 31 (f := .free "zip") rfl)
  have F_wish_of : Fn P w K mg base 1 "wish_of" 5 S_wish_of := w_wish_of D_wish_of g_wish_of
  have F_is_kept : Fn P w K mg base 1 "is_kept" 3 S_is_kept := w_is_kept D_is_kept g_is_kept
  have F_kept : Fn P w K mg base 2 "kept" 3 S_kept := w_kept D_kept g_kept (h_enumerate := h_enumerate) (h_tuple := h_tuple) (F_is_kept := F_is_kept)
  have F_tied_to : Fn P w K mg base 1 "tied_to" 3 S_tied_to := w_tied_to D_tied_to g_tied_to (h_enumerate := h_enumerate)
  have F_ring_by : Fn P w K mg base 1 "ring_by" 3 S_ring_by := w_ring_by D_ring_by g_ring_by (h_tuple := h_tuple)
  have F_offsets_for : Fn P w K mg base 2 "offsets_for" 3 S_offsets_for := w_offsets_for D_offsets_for g_offsets_for (h_enumerate := h_enumerate) (h_range := h_range) (h_tuple := h_tuple) (F_ring_by := F_ring_by) (F_tied_to := F_tied_to)
  have F_turned_offsets : Fn P w K mg base 1 "turned_offsets" 3 S_turned_offsets := w_turned_offsets D_turned_offsets g_turned_offsets (h_tuple := h_tuple)
  have F_arrivals : Fn P w K mg base 1 "arrivals" 2 S_arrivals := w_arrivals D_arrivals g_arrivals (h_tuple := h_tuple)
  have F_passes : Fn P w K mg base 2 "passes" 5 S_passes := w_passes D_passes g_passes (h_zip := h_zip) (F_arrivals := F_arrivals)
  have F_band : Fn P w K mg base 3 "band" 4 S_band := w_band D_band g_band (h_range := h_range) (h_tuple := h_tuple) (F_passes := F_passes)
  have F_band_bound : Fn P w K mg base 1 "band_bound" 1 S_band_bound := w_band_bound D_band_bound g_band_bound (h_min := h_min)
  have F_offsets_of_line : Fn P w K mg base 2 "offsets_of_line" 4 S_offsets_of_line := w_offsets_of_line D_offsets_of_line g_offsets_of_line (h_range := h_range) (h_tuple := h_tuple) (h_zip := h_zip) (F_arrivals := F_arrivals)
  have F_open : FnW P w K mg base 3 "_law_open_cells" (spOpen K) := w__law_open_cells (k := 2) D__law_open_cells g__law_open_cells (h_abs := h_abs) (h_int := h_int)
  have F__law_pick : Fn P w K mg base 1 "_law_pick" 2 S__law_pick := w__law_pick D__law_pick g__law_pick (h_int := h_int) (h_len := h_len)
  have F__law_any_order : Fn P w K mg base 2 "_law_any_order" 2 S__law_any_order := w__law_any_order D__law_any_order g__law_any_order (h_len := h_len) (h_list := h_list) (h_range := h_range) (F__law_pick := F__law_pick)
  have F__law_rest : Fn P w K mg base 1 "_law_rest" 2 S__law_rest := w__law_rest D__law_rest g__law_rest (h_int := h_int)
  have F__law_line_ticks : Fn P w K mg base 1 "_law_line_ticks" 2 S__law_line_ticks := w__law_line_ticks D__law_line_ticks g__law_line_ticks
  have F__law_band : Fn P w K mg base 2 "_law_band" 4 S__law_band := w__law_band D__law_band g__law_band (h_int := h_int) (h_range := h_range) (h_tuple := h_tuple) (h_zip := h_zip) (F__law_line_ticks := F__law_line_ticks) (F__law_rest := F__law_rest)
  have F__law_draw_line : Fn P w K mg base 3 "_law_draw_line" 2 S__law_draw_line := w__law_draw_line D__law_draw_line g__law_draw_line (h_enumerate := h_enumerate) (h_list := h_list) (h_range := h_range) (h_tuple := h_tuple) (F__law_any_order := F__law_any_order) (F__law_pick := F__law_pick)
  have F__law_draw_greens : Fn P w K mg base 2 "_law_draw_greens" 3 S__law_draw_greens := w__law_draw_greens D__law_draw_greens g__law_draw_greens (h_range := h_range) (h_tuple := h_tuple) (F__law_pick := F__law_pick)
  exact w_law D_law g_law (h_len := h_len) (h_min := h_min) (h_range := h_range) (h_repr := h_repr) (h_sorted := h_sorted) (h_tuple := h_tuple) (F__law_band := F__law_band) (F__law_draw_greens := F__law_draw_greens) (F__law_draw_line := F__law_draw_line) (F__law_line_ticks := F__law_line_ticks) (F__law_pick := F__law_pick) (F__law_rest := F__law_rest) (F_arrivals := F_arrivals) (F_band := F_band) (F_band_bound := F_band_bound) (F_kept := F_kept) (F_offsets_for := F_offsets_for) (F_offsets_of_line := F_offsets_of_line) (F_passes := F_passes) (F_turned_offsets := F_turned_offsets) (F_wish_of := F_wish_of) (F_open := F_open) ok
end GW
open PySem PySem.W PySem.Calls PyProof.Rows
theorem PySem.Challenge.cw_greenheld_k43_whole_green_waves_holds : PySem.Challenge.rw_greenheld_k43_whole_green_waves.Holds := by
  w_on; o_law
  refine HandSHeadRun.head_any (r := OpenLaw.row PySem.Challenge.rw_greenheld_k43_whole_green_waves) (q := view (OpenLaw.row PySem.Challenge.rw_greenheld_k43_whole_green_waves).prog [23]) (H := GW.hk) (ob := GW.ob) (M := 1840) (loose := GW.loose) (d := HandSHeadRun.topDef (OpenLaw.row PySem.Challenge.rw_greenheld_k43_whole_green_waves).prog 23) (kwd := []) GW.ob_eq
    (by kernel_rfl) (fun s => by kernel_rfl) GW.run (by kernel_rfl) (by kernel_rfl) (by kernel_rfl) (by rfl) (by first | assumption | decide +kernel) (by decide +kernel) ⟨rfl, rfl, rfl, rfl, rfl, by decide +kernel⟩ ?hw ?hc
  case hw => w_witness2
  case hc =>
    refine GH.walk_law (l := PySem.Challenge.rw_greenheld_k43_whole_green_waves) (k := 4) rfl (by kernel_rfl) ⟨⟨rfl, by decide, by decide⟩, rfl⟩ ?F
    intro w mg h Y G
    obtain ⟨K, KX, c⟩ := Y
    refine ⟨K, KX, fun base _ _ => ?_⟩
    have e : (HandSHeadRun.topDef (OpenLaw.row PySem.Challenge.rw_greenheld_k43_whole_green_waves).prog 23).name = ("law" : PySem.Str) := by kernel_rfl
    rw [e]
    exact GW.facts GW.plain_law KX G c base
end
