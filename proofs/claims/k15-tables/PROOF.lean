import PyProof.Rows.All
import Wide.All
import OpenK.AllK
import Wide.FinOn
import HandS.ForMost
import HandS.Exc
import HandS.TryOnly
import HandS.ExcOwn
import HandS.CallSlots
import HandS.WordsExc
import HandS.IsInst
import HandS.TupAny
import HandS.TupMul
import HandS.Flow
import HandS.Rev
import HandS.Zip
import HandS.Style
import HandS.Wide
import HandS.Text
import HandS.Deep
import PyProof.MaxThree
import PySem.Challenge.RW_foldwarrant_k15_tables
set_option Elab.async false
set_option linter.all false
set_option maxRecDepth 100000
set_option maxHeartbeats 2000000
/-! Fw A: plain data D, slots, the state of a def as plain data, readings by a plain run. -/
namespace Fw
open PySem L2

/-! ### data -/
inductive D where
  | non | bl (b : Bool) | int (i : Int) | str (x : Str) | adr (a : Addr) | ty (n : String)
  | tup (ds : List D) | lst (ds : List D) | dct (t : Bool) (ks vs : List D)
  /-- a tuple of the written part -/
  | ktp (ds : List D)
  /-- a list of the written part -/
  | kls (ds : List D)

def kD : Key → D
  | .inl i => .int i
  | .inr x => .str x
def ktD (l : List Key) : D := .tup (l.map kD)

/-- a frozen list -/
def SqZ (H : Hp) (a : Addr) (xs : List V) : Prop := ∃ o, H a = some (.frz o (.lst xs))
theorem SqZ.seq {K : PySem.W.Frag} {H : Hp} {a : Addr} {xs : List V} (h : SqZ H a xs) : SqL K H a xs := by
  obtain ⟨o, h⟩ := h
  exact .inl (.inr ⟨o, h⟩)
/-- a list of the written part -/
def KLi (K : PySem.W.Frag) (a : Addr) (xs : List V) : Prop := ∃ (o : Obj) (its : Array Value) (n : Nat), K.lookup a = some o ∧ o.cls = .type "list" ∧ o.dict = none ∧ o.data = .seq its n ∧ its.size ≤ sizeLine ∧ Vals xs its.toList
theorem KLi.seq {K : PySem.W.Frag} {H : Hp} {a : Addr} {xs : List V} (h : KLi K a xs) : SqL K H a xs := .inr h
/-- a tuple of the written part -/
def KTu (K : PySem.W.Frag) (a : Addr) (xs : List V) : Prop := ∃ (o : Obj) (its : Array Value) (n : Nat), K.lookup a = some o ∧ o.cls = .type "tuple" ∧ o.data = .seq its n ∧ its.size ≤ sizeLine ∧ Vals xs its.toList
theorem KTu.seq {K : PySem.W.Frag} {H : Hp} {a : Addr} {xs : List V} (h : KTu K a xs) : SqT K H a xs := .inr h
/-- a dict's object with these keys and values -/
def DiO (u : HO) (ks : List D) (xs : List V) : Bool → Prop
  | false => ∃ kvs : List (Key × V), u = .dK kvs ∧ ks = kvs.map (fun p => kD p.1) ∧ xs = kvs.map (·.2)
  | true => ∃ kvs : List (List Key × V), u = .dT kvs ∧ ks = kvs.map (fun p => ktD p.1) ∧ xs = kvs.map (·.2)

mutual
def Rep (K : PySem.W.Frag) (H : Hp) : D → V → Prop
  | .non, v => v = .non
  | .bl b, v => v = .bl b
  | .int i, v => v = .int i
  | .str x, v => v = .str x
  | .adr a, v => v = .ref a
  | .ty n, v => v = .ty n
  | .tup ds, v => ∃ a xs, v = .ref a ∧ H a = some (.tup xs) ∧ Reps K H ds xs
  | .ktp ds, v => ∃ a xs, v = .ref a ∧ KTu K a xs ∧ Reps K H ds xs
  | .lst ds, v => ∃ a xs, v = .ref a ∧ SqZ H a xs ∧ Reps K H ds xs
  | .kls ds, v => ∃ a xs, v = .ref a ∧ KLi K a xs ∧ Reps K H ds xs
  | .dct t ks vs, v => ∃ a o u xs, v = .ref a ∧ H a = some (.frz o u) ∧ DiO u ks xs t ∧ Reps K H vs xs
def Reps (K : PySem.W.Frag) (H : Hp) : List D → List V → Prop
  | [], xs => xs = []
  | d :: ds, xs => ∃ x r, xs = x :: r ∧ Rep K H d x ∧ Reps K H ds r
end
theorem reps_iff {K : PySem.W.Frag} {H : Hp} : ∀ {ds : List D} {xs : List V}, Reps K H ds xs ↔ Paired (Rep K H) ds xs
  | [], xs => by
    constructor
    · intro h
      have e : xs = [] := by simpa [Reps] using h
      subst e
      exact .nil
    · intro h
      cases h
      simp [Reps]
  | d :: ds, xs => by
    constructor
    · intro h
      rw [Reps] at h
      obtain ⟨x, r, rfl, h1, h2⟩ := h
      exact .cons h1 (reps_iff.mp h2)
    · intro h
      cases h with
      | cons h1 h2 =>
        rw [Reps]
        exact ⟨_, _, rfl, h1, reps_iff.mpr h2⟩

/-- all that does not change stays -/
structure Kept (H H' : Hp) : Prop where
  tup : ∀ b xs, H b = some (.tup xs) → H' b = some (.tup xs)
  frz : ∀ b o u, H b = some (.frz o u) → H' b = some (.frz o u)
theorem Kept.refl (H : Hp) : Kept H H := ⟨fun _ _ h => h, fun _ _ _ h => h⟩
theorem Kept.trans {H H1 H2 : Hp} (a : Kept H H1) (b : Kept H1 H2) : Kept H H2 := ⟨fun c x h => b.tup c x (a.tup c x h), fun c o u h => b.frz c o u (a.frz c o u h)⟩
theorem Kept.same {H H' : Hp} (s : Same H H') : Kept H H' := ⟨fun _ _ h => s _ _ h, fun _ _ _ h => s _ _ h⟩
theorem Kept.sqT {K : PySem.W.Frag} {H H' : Hp} (k : Kept H H') {a : Addr} {xs : List V} (h : SqT K H a xs) : SqT K H' a xs := by
  rcases h with (h | ⟨o, h⟩) | h
  · exact .inl (.inl (k.tup _ _ h))
  · exact .inl (.inr ⟨o, k.frz _ _ _ h⟩)
  · exact .inr h
theorem Kept.sqZ {H H' : Hp} (k : Kept H H') {a : Addr} {xs : List V} (h : SqZ H a xs) : SqZ H' a xs := by
  obtain ⟨o, h⟩ := h
  exact ⟨o, k.frz _ _ _ h⟩
mutual
theorem Rep.mono {K : PySem.W.Frag} {H H' : Hp} (k : Kept H H') : ∀ (d : D) (v : V), Rep K H d v → Rep K H' d v
  | .non, _, h => by simpa [Rep] using h
  | .bl _, _, h => by simpa [Rep] using h
  | .int _, _, h => by simpa [Rep] using h
  | .str _, _, h => by simpa [Rep] using h
  | .adr _, _, h => by simpa [Rep] using h
  | .ty _, _, h => by simpa [Rep] using h
  | .tup ds, v, h => by
    rw [Rep] at h ⊢
    obtain ⟨a, xs, e, h1, h2⟩ := h
    exact ⟨a, xs, e, k.tup _ _ h1, Reps.mono k ds xs h2⟩
  | .ktp ds, v, h => by
    rw [Rep] at h ⊢
    obtain ⟨a, xs, e, h1, h2⟩ := h
    exact ⟨a, xs, e, h1, Reps.mono k ds xs h2⟩
  | .kls ds, v, h => by
    rw [Rep] at h ⊢
    obtain ⟨a, xs, e, h1, h2⟩ := h
    exact ⟨a, xs, e, h1, Reps.mono k ds xs h2⟩
  | .lst ds, v, h => by
    rw [Rep] at h ⊢
    obtain ⟨a, xs, e, h1, h2⟩ := h
    exact ⟨a, xs, e, k.sqZ h1, Reps.mono k ds xs h2⟩
  | .dct t ks vs, v, h => by
    rw [Rep] at h ⊢
    obtain ⟨a, o, u, xs, e, h1, h2, h3⟩ := h
    exact ⟨a, o, u, xs, e, k.frz _ _ _ h1, h2, Reps.mono k vs xs h3⟩
theorem Reps.mono {K : PySem.W.Frag} {H H' : Hp} (k : Kept H H') : ∀ (ds : List D) (xs : List V), Reps K H ds xs → Reps K H' ds xs
  | [], _, h => by simpa [Reps] using h
  | d :: ds, xs, h => by
    rw [Reps] at h ⊢
    obtain ⟨x, r, e, h1, h2⟩ := h
    exact ⟨x, r, e, Rep.mono k d x h1, Reps.mono k ds r h2⟩
end

/-! ### owned objects, slots -/
inductive OV where
  | lst (ds : List D) | dic (t : Bool) (ks vs : List D)
def OV.d : OV → D
  | .lst ds => .lst ds
  | .dic t ks vs => .dct t ks vs
def OwnAt (K : PySem.W.Frag) (H : Hp) (a : Addr) : OV → Prop
  | .lst ds => ∃ xs, H a = some (.lst xs) ∧ Reps K H ds xs
  | .dic t ks vs => ∃ u xs, H a = some u ∧ DiO u ks xs t ∧ Reps K H vs xs
/-- an object that may be changed -/
def Chg : HO → Prop
  | .lst _ => True
  | .dK _ => True
  | .dT _ => True
  | _ => False
theorem DiO.chg {u : HO} {ks : List D} {xs : List V} {t : Bool} (h : DiO u ks xs t) : Chg u := by
  cases t <;> (obtain ⟨_, rfl, _⟩ := h; trivial)
theorem OwnAt.chg {K : PySem.W.Frag} {H : Hp} {a : Addr} {o : OV} (h : OwnAt K H a o) : ∃ u, H a = some u ∧ Chg u := by
  cases o with
  | lst ds => obtain ⟨xs, e, _⟩ := h; exact ⟨_, e, trivial⟩
  | dic t ks vs => obtain ⟨u, xs, e, d, _⟩ := h; exact ⟨u, e, d.chg⟩
theorem OwnAt.mono {K : PySem.W.Frag} {H H' : Hp} {a : Addr} (k : Kept H H') : ∀ {o : OV}, (∀ u, H a = some u → H' a = some u) → OwnAt K H a o → OwnAt K H' a o
  | .lst ds, e, h => by obtain ⟨xs, h1, h2⟩ := h; exact ⟨xs, e _ h1, Reps.mono k _ _ h2⟩
  | .dic t ks vs, e, h => by obtain ⟨u, xs, h1, h2, h3⟩ := h; exact ⟨u, xs, e _ h1, h2, Reps.mono k _ _ h3⟩

inductive SV where
  | unk | val (d : D) | own (lent : Bool) (o : OV)
abbrev MS := List SV
def Ow (ms : MS) (σ : St) (a : Addr) : Prop := ∃ (i : Nat) (l : Bool) (o : OV), ms[i]? = some (SV.own l o) ∧ σ[i]? = some (some (.ref a))
structure Good (K : PySem.W.Frag) (ms : MS) (σ : St) (H : Hp) : Prop where
  len : ms.length = σ.length
  val : ∀ (i : Nat) (d : D), ms[i]? = some (.val d) → ∃ v, σ[i]? = some (some v) ∧ Rep K H d v
  own : ∀ (i : Nat) (l : Bool) (o : OV), ms[i]? = some (.own l o) → ∃ a : Addr, σ[i]? = some (some (.ref a)) ∧ OwnAt K H a o
  inj : ∀ (i j : Nat) (l l' : Bool) (o o' : OV) (a : Addr), ms[i]? = some (.own l o) → ms[j]? = some (.own l' o') → σ[i]? = some (some (.ref a)) → σ[j]? = some (some (.ref a)) → i = j
theorem Good.chg {K : PySem.W.Frag} {ms : MS} {σ : St} {H : Hp} (g : Good K ms σ H) {a : Addr} (h : Ow ms σ a) : ∃ u, H a = some u ∧ Chg u := by
  obtain ⟨i, l, o, h1, h2⟩ := h
  obtain ⟨a', e, h3⟩ := g.own i l o h1
  rw [h2] at e
  cases e
  exact h3.chg

/-! ### behind an expression -/
structure PostE (K : PySem.W.Frag) (ms : MS) (σ : St) (H : Hp) (ms' : MS) (H' : Hp) : Prop where
  good : Good K ms' σ H'
  keep : ∀ b o, H b = some o → ¬ Ow ms σ b → H' b = some o
  live : ∀ b, H b ≠ none → H' b ≠ none
  ow : ∀ b, Ow ms' σ b → Ow ms σ b
  lent : ∀ (i : Nat) (o : OV), ms[i]? = some (.own true o) → ∃ o', ms'[i]? = some (.own true o')
theorem PostE.refl {K : PySem.W.Frag} {ms : MS} {σ : St} {H : Hp} (g : Good K ms σ H) : PostE K ms σ H ms H := ⟨g, fun _ _ h _ => h, fun _ h => h, fun _ h => h, fun _ o h => ⟨o, h⟩⟩
theorem PostE.trans {K : PySem.W.Frag} {ms ms1 ms2 : MS} {σ : St} {H H1 H2 : Hp} (a : PostE K ms σ H ms1 H1) (b : PostE K ms1 σ H1 ms2 H2) : PostE K ms σ H ms2 H2 :=
  ⟨b.good, fun c o h n => b.keep c o (a.keep c o h n) fun z => n (a.ow c z), fun c h => b.live c (a.live c h), fun c h => a.ow c (b.ow c h), fun i o h => let ⟨o', h'⟩ := a.lent i o h; b.lent i o' h'⟩
theorem PostE.kept {K : PySem.W.Frag} {ms ms' : MS} {σ : St} {H H' : Hp} (g : Good K ms σ H) (p : PostE K ms σ H ms' H') : Kept H H' := by
  refine ⟨fun b xs h => p.keep b _ h fun z => ?_, fun b o u h => p.keep b _ h fun z => ?_⟩
  · obtain ⟨u, e, c⟩ := g.chg z
    rw [h] at e; cases e; exact c
  · obtain ⟨u, e, c⟩ := g.chg z
    rw [h] at e; cases e; exact c
theorem Good.same {K : PySem.W.Frag} {ms : MS} {σ : St} {H H' : Hp} (g : Good K ms σ H) (s : Same H H') : Good K ms σ H' :=
  ⟨g.len, fun i d h => let ⟨v, e, r⟩ := g.val i d h; ⟨v, e, Rep.mono (.same s) _ _ r⟩, fun i l o h => let ⟨a, e, r⟩ := g.own i l o h; ⟨a, e, r.mono (.same s) (s a)⟩, g.inj⟩
theorem PostE.same {K : PySem.W.Frag} {ms : MS} {σ : St} {H H' : Hp} (g : Good K ms σ H) (s : Same H H') : PostE K ms σ H ms H' :=
  ⟨g.same s, fun b o h _ => s b o h, (fun b h z => (by
    cases e : H b with
    | none => exact h e
    | some o => rw [s b o e] at z; cases z)), fun _ h => h, fun _ o h => ⟨o, h⟩⟩

/-! ### values in flight -/
inductive EV where
  | val (d : D) | new (o : OV) | bor (i : Nat)
/-- H0: the heap ahead of the evaluation -/
def EVOk (K : PySem.W.Frag) (ms : MS) (σ : St) (H0 H : Hp) (v : V) : EV → Prop
  | .val d => Rep K H d v
  | .new o => ∃ a, v = .ref a ∧ H0 a = none ∧ OwnAt K H a o ∧ ¬ Ow ms σ a
  | .bor i => σ[i]? = some (some v)
theorem EVOk.mono {K : PySem.W.Frag} {ms ms' : MS} {σ : St} {H0 H H' : Hp} {v : V} (g : Good K ms σ H) (p : PostE K ms σ H ms' H') : ∀ {e : EV}, EVOk K ms σ H0 H v e → EVOk K ms' σ H0 H' v e
  | .val d, h => Rep.mono (p.kept g) _ _ h
  | .new o, h => by
    obtain ⟨a, e, f, h1, h2⟩ := h
    exact ⟨a, e, f, h1.mono (p.kept g) (fun u hu => p.keep a u hu h2), fun z => h2 (p.ow a z)⟩
  | .bor i, h => h
/-- .. where the evaluation began earlier -/
theorem EVOk.early {K : PySem.W.Frag} {ms : MS} {σ : St} {H0 H1 H : Hp} {v : V} (l : ∀ b, H0 b ≠ none → H1 b ≠ none) : ∀ {e : EV}, EVOk K ms σ H1 H v e → EVOk K ms σ H0 H v e
  | .val d, h => h
  | .new o, h => by
    obtain ⟨a, e, f, h1⟩ := h
    refine ⟨a, e, ?_, h1⟩
    cases q : H0 a with
    | none => rfl
    | some u => exact absurd f (l a (by rw [q]; exact fun z => nomatch z))
  | .bor i, h => h
/-- what is read of it -/
def SV.rd : SV → Option D
  | .unk => none
  | .val d => some d
  | .own _ o => some o.d
def rd (ms : MS) : EV → Option D
  | .val d => some d
  | .new o => some o.d
  | .bor i => match ms[i]? with
    | some s => s.rd
    | none => none
/-- readable as d -/
def RdAt (K : PySem.W.Frag) (H : Hp) (d : D) (v : V) : Prop := match d with
  | .lst ds => ∃ a xs, v = .ref a ∧ Rd H a (.lst xs) ∧ Reps K H ds xs
  | .dct t ks vs => ∃ a u xs, v = .ref a ∧ Rd H a u ∧ DiO u ks xs t ∧ Reps K H vs xs
  | d => Rep K H d v
theorem RdAt.of {K : PySem.W.Frag} {H : Hp} {d : D} {v : V} (h : Rep K H d v) : RdAt K H d v := by
  cases d with
  | lst ds => rw [Rep] at h; obtain ⟨a, xs, e, ⟨o, h1⟩, h2⟩ := h; exact ⟨a, xs, e, .inr ⟨o, h1⟩, h2⟩
  | dct t ks vs => rw [Rep] at h; obtain ⟨a, o, u, xs, e, h1, h2, h3⟩ := h; exact ⟨a, u, xs, e, .inr ⟨o, h1⟩, h2, h3⟩
  | _ => exact h
theorem RdAt.own {K : PySem.W.Frag} {H : Hp} {a : Addr} : ∀ {o : OV}, OwnAt K H a o → RdAt K H o.d (.ref a)
  | .lst ds, h => by obtain ⟨xs, e, r⟩ := h; exact ⟨a, xs, rfl, .of e, r⟩
  | .dic t ks vs, h => by obtain ⟨u, xs, e, d, r⟩ := h; exact ⟨a, u, xs, rfl, .inl e, d, r⟩
theorem rd_ok {K : PySem.W.Frag} {ms : MS} {σ : St} {H0 H : Hp} {v : V} {e : EV} {d : D} (g : Good K ms σ H) (h : EVOk K ms σ H0 H v e) (r : rd ms e = some d) : RdAt K H d v := by
  cases e with
  | val d' => cases r; exact .of h
  | new o =>
    cases r
    obtain ⟨a, rfl, _, h1, _⟩ := h
    exact .own h1
  | bor i =>
    have h : σ[i]? = some (some v) := h
    cases hs : ms[i]? with
    | none => simp only [rd, hs] at r; cases r
    | some s =>
      simp only [rd, hs] at r
      cases s with
      | unk => cases r
      | val d' =>
        cases r
        obtain ⟨v', e, q⟩ := g.val i _ hs
        rw [h] at e; cases e
        exact .of q
      | own l o =>
        cases r
        obtain ⟨a, e, q⟩ := g.own i l o hs
        rw [h] at e; cases e
        exact .own q

/-! ### plain runs -/
/-- an exception: its class, its fields -/
structure EX where
  cls : Addr
  fs : List (Str × D)
inductive Res (α : Type) where
  | ok (a : α) (ms : MS) | exc (x : EX) (ms : MS)
abbrev M (α : Type) := MS → Option (Res α)
def M.pure {α : Type} (a : α) : M α := fun ms => some (.ok a ms)
def M.lift {α : Type} (o : Option α) : M α := fun ms => match o with
  | some a => some (.ok a ms)
  | none => none
def M.bind {α β : Type} (m : M α) (f : α → M β) : M β := fun ms => match m ms with
  | none => none
  | some (.exc x ms') => some (.exc x ms')
  | some (.ok a ms') => f a ms'
def Run {α : Type} (m : M α) (ms : MS) (k : α → MS → Prop) (x : EX → MS → Prop) : Prop := match m ms with
  | none => False
  | some (.ok a ms') => k a ms'
  | some (.exc e ms') => x e ms'
theorem Run.bind {α β : Type} {m : M α} {f : α → M β} {ms : MS} {k : β → MS → Prop} {x : EX → MS → Prop} : Run (m.bind f) ms k x = Run m ms (fun a ms' => Run (f a) ms' k x) x := by
  unfold Run M.bind
  cases m ms with
  | none => rfl
  | some r => cases r <;> rfl
theorem Run.mono {α : Type} {m : M α} {ms : MS} {k k' : α → MS → Prop} {x x' : EX → MS → Prop} (h : Run m ms k x) (hk : ∀ a ms', k a ms' → k' a ms') (hx : ∀ e ms', x e ms' → x' e ms') : Run m ms k' x' := by
  unfold Run at h ⊢
  cases q : m ms with
  | none => rw [q] at h; exact h
  | some r =>
    rw [q] at h
    cases r with
    | ok a ms' => exact hk a ms' h
    | exc e ms' => exact hx e ms' h
theorem Run.lift {α : Type} {o : Option α} {ms : MS} {k : α → MS → Prop} {x : EX → MS → Prop} (h : Run (M.lift o) ms k x) : ∃ a, o = some a ∧ k a ms := by
  unfold Run M.lift at h
  cases o with
  | none => exact h.elim
  | some a => exact ⟨a, rfl, h⟩
theorem Run.ms {α : Type} {f : MS → Option (Res α)} {ms : MS} {k : α → MS → Prop} {x : EX → MS → Prop} {r : Res α} (h : Run f ms k x) (e : f ms = some r) : (match r with | .ok a ms' => k a ms' | .exc z ms' => x z ms') := by
  unfold Run at h
  rw [e] at h
  cases r <;> exact h

def ExOk (K : PySem.W.Frag) (H : Hp) (x : EX) (cls : Value) (d : Option Addr) : Prop :=
  cls = .ref x.cls ∧ ((x.fs = [] ∧ d = none) ∨ ∃ dx xs, d = some dx ∧ H dx = some (.xd (x.fs.map (·.1) |>.zip xs)) ∧ Reps K H (x.fs.map (·.2)) xs)

/-! ### readings by a plain run -/
/-- an expression -/
def tM (K : PySem.W.Frag) (W : WX) (m : M EV) : TE := fun σ H Q => ∃ ms, Good K ms σ H ∧ Run m ms
  (fun ev ms' => ∀ v H', PostE K ms σ H ms' H' → EVOk K ms' σ H H' v ev → Q v H')
  (fun x ms' => ∀ cls d H', PostE K ms σ H ms' H' → ExOk K H' x cls d → W cls d σ H')
/-- a test -/
def tMT (K : PySem.W.Frag) (W : WX) (m : M Bool) : TT := fun σ H Q => ∃ ms, Good K ms σ H ∧ Run m ms
  (fun b ms' => ∀ H', PostE K ms σ H ms' H' → Q b H')
  (fun x ms' => ∀ cls d H', PostE K ms σ H ms' H' → ExOk K H' x cls d → W cls d σ H')
/-- arguments -/
def EVsOk (K : PySem.W.Frag) (ms : MS) (σ : St) (H0 H : Hp) : List V → List EV → Prop := Paired fun v e => EVOk K ms σ H0 H v e
def tMA (K : PySem.W.Frag) (W : WX) (m : M (List EV)) : TA := fun σ H Q => ∃ ms, Good K ms σ H ∧ Run m ms
  (fun es ms' => ∀ vs H', PostE K ms σ H ms' H' → EVsOk K ms' σ H H' vs es → Q vs H')
  (fun x ms' => ∀ cls d H', PostE K ms σ H ms' H' → ExOk K H' x cls d → W cls d σ H')
abbrev ME (X : Cx) (W : WX) (e : Expr) (m : M EV) : Prop := PE X e (tM X.K W m)
abbrev MT (X : Cx) (W : WX) (e : Expr) (m : M Bool) : Prop := PT X e (tMT X.K W m)
abbrev MA (X : Cx) (W : WX) (es : List Expr) (m : M (List EV)) : Prop := PA X es (tMA X.K W m)
theorem PE.imp {X : Cx} {e : Expr} {t t' : TE} (h : PE X e t) (i : ∀ σ H Q, t' σ H Q → t σ H Q) : PE X e t' := ⟨fun pins s σ H Q I q => h.run pins s σ H Q I (i σ H Q q)⟩
theorem PT.imp {X : Cx} {e : Expr} {t t' : TT} (h : PT X e t) (i : ∀ σ H Q, t' σ H Q → t σ H Q) : PT X e t' := ⟨fun pins s σ H Q I q => h.run pins s σ H Q I (i σ H Q q)⟩
theorem PW.imp {X : Cx} {e : Expr} {t t' : TT} (h : PW X e t) (i : ∀ σ H Q, t' σ H Q → t σ H Q) : PW X e t' := ⟨fun wh pins s σ H Q I q => h.run wh pins s σ H Q I (i σ H Q q)⟩
theorem PA.imp {X : Cx} {e : List Expr} {t t' : TA} (h : PA X e t) (i : ∀ σ H Q, t' σ H Q → t σ H Q) : PA X e t' := ⟨fun pos pins s σ H Q I q => h.run pos pins s σ H Q I (i σ H Q q)⟩
theorem PS.imp {X : Cx} {e : Stmt} {t t' : TS} (h : PS X e t) (i : ∀ D σ H, t' D σ H → t D σ H) : PS X e t' := ⟨fun pins s σ H D I q => h.run pins s σ H D I (i D σ H q)⟩
theorem PSs.imp {X : Cx} {e : List Stmt} {t t' : TS} (h : PSs X e t) (i : ∀ D σ H, t' D σ H → t D σ H) : PSs X e t' := ⟨fun pins s σ H D I q => h.run pins s σ H D I (i D σ H q)⟩

section
variable {X : Cx} {W : WX} {a b e : Expr} {es : List Expr} {ma mb m : M EV} {pos : Pos}
/-- THE STEP: from a run of m and then f, the reading of m and what is to be shown behind it -/
theorem tM_bind {K : PySem.W.Frag} {α : Type} {m : M EV} {f : EV → M α} {ms : MS} {σ : St} {H : Hp} {k : α → MS → Prop} {xk : EX → MS → Prop} {R : VK} (g : Good K ms σ H) (h : Run (m.bind f) ms k xk)
    (hx : ∀ x ms', xk x ms' → ∀ cls d H', PostE K ms σ H ms' H' → ExOk K H' x cls d → W cls d σ H')
    (hk : ∀ ev ms', Run (f ev) ms' k xk → ∀ v H', PostE K ms σ H ms' H' → EVOk K ms' σ H H' v ev → R v H') : tM K W m σ H R := by
  rw [Run.bind] at h
  exact ⟨ms, g, h.mono (fun ev ms' q v H' p e => hk ev ms' q v H' p e) fun x ms' q => hx x ms' q⟩
/-! names, constants -/
theorem me_val {d : D} {v : V} (hv : ∀ H, Rep X.K H d v) (h : PE X e (tC v)) : ME X W e (M.pure (.val d)) := by
  refine PE.imp h fun σ H Q q => ?_
  obtain ⟨ms, g, r⟩ := q
  exact r v H (.refl g) (hv H)
def mVar (i : Nat) : M EV := fun ms => match ms[i]? with
  | some (.val d) => some (.ok (.val d) ms)
  | some (.own _ _) => some (.ok (.bor i) ms)
  | _ => none
theorem me_var {i : Nat} (h : PE X e (tVar i)) : ME X W e (mVar i) := by
  refine PE.imp h fun σ H Q q => ?_
  obtain ⟨ms, g, r⟩ := q
  unfold Run mVar at r
  cases hi : ms[i]? with
  | none => rw [hi] at r; exact r.elim
  | some s =>
    rw [hi] at r
    cases s with
    | unk => exact r.elim
    | val d =>
      obtain ⟨v, e1, e2⟩ := g.val i d hi
      exact ⟨v, e1, r v H (.refl g) e2⟩
    | own l o =>
      obtain ⟨a, e1, e2⟩ := g.own i l o hi
      exact ⟨_, e1, r _ H (.refl g) e1⟩

/-! operators by values -/
/-- what an operator hands out -/
def ResOk (K : PySem.W.Frag) (H H' : Hp) (v : V) : EV → Prop
  | .val d => Rep K H' d v
  | .new o => ∃ a, v = .ref a ∧ H a = none ∧ OwnAt K H' a o
  | .bor _ => False
theorem ResOk.ev {K : PySem.W.Frag} {ms : MS} {σ : St} {H H' : Hp} {v : V} (g : Good K ms σ H) : ∀ {e : EV}, ResOk K H H' v e → EVOk K ms σ H H' v e
  | .val d, h => h
  | .new o, h => by
    obtain ⟨a, e, f, q⟩ := h
    refine ⟨a, e, f, q, fun z => ?_⟩
    obtain ⟨u, hu, _⟩ := g.chg z
    rw [f] at hu; cases hu
  | .bor _, h => h.elim
def Op2 (X : Cx) (f : Value → Value → Sem Value) (g : D → D → Option EV) : Prop :=
  ∃ r, OpR X f r ∧ ∀ H x y d e ev Q, RdAt X.K H d x → RdAt X.K H e y → g d e = some ev → (∀ v H', Same H H' → ResOk X.K H H' v ev → Q v H') → r x y H Q
def mOp2 (g : D → D → Option EV) (ma mb : M EV) : M EV := ma.bind fun x => mb.bind fun y => fun ms => match rd ms x, rd ms y with
  | some d, some e => M.lift (g d e) ms
  | _, _ => none
theorem op2_end {K : PySem.W.Frag} {ms : MS} {σ : St} {H0 H H1 : Hp} {x y : V} {ex ey : EV} {g : D → D → Option EV} {R : (VK) → Prop} {k : EV → MS → Prop} {xk : EX → MS → Prop}
    (G : Good K ms σ H) (ox : EVOk K ms σ H0 H x ex) (oy : EVOk K ms σ H1 H y ey) (h : Run (fun ms => match rd ms ex, rd ms ey with | some d, some e => M.lift (g d e) ms | _, _ => none) ms k xk) :
    ∃ d e ev, RdAt K H d x ∧ RdAt K H e y ∧ g d e = some ev ∧ k ev ms := by
  cases hx : rd ms ex with
  | none => simp only [Run, hx] at h
  | some d =>
    cases hy : rd ms ey with
    | none => simp only [Run, hx, hy] at h
    | some e =>
      simp only [Run, hx, hy] at h
      obtain ⟨ev, e1, e2⟩ := Run.lift (o := g d e) (ms := ms) (k := k) (x := xk) h
      exact ⟨d, e, ev, rd_ok G ox hx, rd_ok G oy hy, e1, e2⟩
theorem me_op2 {op : Operator} {g : D → D → Option EV} (ho : Op2 X (binaryOp op) g) (ha : ME X W a ma) (hb : ME X W b mb) : ME X W (.BinOp a op b pos) (mOp2 g ma mb) := by
  obtain ⟨r, hr, hq⟩ := ho
  refine PE.imp (pe_op hr ha hb) fun σ H Q q => ?_
  obtain ⟨ms, G, h⟩ := q
  refine tM_bind G h (fun x ms' z => z) fun e1 ms1 h1 v1 H1 p1 o1 => ?_
  refine tM_bind p1.good h1 (fun x ms' z cls d H' p => z cls d H' (p1.trans p)) fun e2 ms2 h2 v2 H2 p2 o2 => ?_
  obtain ⟨d, e, ev, k1, k2, k3, k4⟩ := op2_end (R := fun _ => True) p2.good (o1.mono p1.good p2) o2 h2
  refine hq H2 v1 v2 d e ev Q k1 k2 k3 fun v H3 s3 r3 => ?_
  have p3 := PostE.same p2.good s3
  exact k4 v H3 ((p1.trans p2).trans p3) ((r3.ev p2.good).early (fun b hb => (p1.trans p2).live b hb))
end
end Fw
set_option Elab.async false
set_option linter.all false
set_option maxRecDepth 100000
set_option maxHeartbeats 2000000
/-! Fw B: freezing, argument lists, displays, comparisons, tests, calls. -/
namespace Fw
open PySem L2

/-! ### freezing -/
theorem inv_freeze {X : Cx} {pins : List (Addr × Obj)} {σ : St} {H : Hp} {s : Shared} {a : Addr} {u : HO} (I : Inv X pins σ H s) (h : H a = some u) (c : Chg u) :
    ∃ o, Inv X pins σ (upd H a (.frz o u)) s := by
  have hl := (I.hok a u h).lt
  obtain ⟨o, ho⟩ : ∃ o, s.heap.get? a = some o := by
    have x := I.hok a u h
    cases u with
    | lst xs => obtain ⟨_, its, n, _, e⟩ := x; exact ⟨_, e⟩
    | dK kvs => obtain ⟨_, _, vs, _, o, es, ep, e, _⟩ := x; exact ⟨o, e⟩
    | dT kvs => obtain ⟨_, _, xs, _, o, es, ep, e, _⟩ := x; exact ⟨o, e⟩
    | _ => exact c.elim
  have nt : ∀ b xs, H b = some (.tup xs) → b ≠ a := fun b xs e z => by subst z; rw [h] at e; cases e; exact c
  have nf : ∀ b o' u', H b = some (.frz o' u') → b ≠ a := fun b o' u' e z => by subst z; rw [h] at e; cases e; exact c
  have nb : ∀ b ps, H b = some (.tbl ps) → b ≠ a := fun b ps e z => by subst z; rw [h] at e; cases e; exact c
  have no : ∀ b y, H b = some (.own y) → b ≠ a := fun b y e z => by subst z; rw [h] at e; cases e; exact c
  have nn : ∀ b, H b = none → b ≠ a := fun b e z => by subst z; rw [h] at e; cases e
  refine ⟨o, ⟨I.ok, I.os, I.bare, ⟨I.base.keep, I.base.slot, fun b ob e n hx => ?_, I.base.there, fun b xs e => ?_, fun b ob u' e => ?_, fun b ps e => ?_⟩, I.loc, I.cell, ?_, fun x c e => ?_, fun p hp => ?_, fun b ob e => ?_, I.len⟩⟩
  · have q := I.base.free b ob e n hx
    rw [upd_ne (nn b q)]; exact q
  · have q := I.base.tups b xs e
    rw [upd_ne (nt b xs q)]; exact q
  · have q := I.base.frzs b ob u' e
    rw [upd_ne (nf b _ _ q)]; exact q
  · obtain ⟨m, q⟩ := I.base.tbls b ps e
    exact ⟨m, by rw [upd_ne (nb b _ q)]; exact q⟩
  · rw [upd_ne (nn _ I.free)]; exact I.free
  · rw [upd_ne (nn _ (I.freeC x c e))]; exact I.freeC x c e
  · obtain ⟨q1, q2, q3⟩ := I.pin p hp
    exact ⟨q1, by rw [upd_ne (nn _ q2)]; exact q2, q3⟩
  · have st : ∀ {b : Addr} {ob : HO}, ObjOk X.prog X.w H s.heap b ob → ObjOk X.prog X.w (upd H a (.frz o u)) s.heap b ob := fun {b ob} x =>
      x.stay (fun _ _ _ q => q) (fun d q => by rw [upd_ne (no d _ q)]; exact q) fun d xs q => by rw [upd_ne (nt d xs q)]; exact q
    by_cases hb : b = a
    · subst hb
      rw [upd_same] at e; cases e
      exact ⟨ho, st (I.hok _ _ h)⟩
    · rw [upd_ne hb] at e
      exact st (I.hok b ob e)
def tFz (t : TE) : TE := fun σ H Q => t σ H fun v H1 => Q v H1 ∨ ∃ a u, H1 a = some u ∧ Chg u ∧ ∀ o, Q v (upd H1 a (.frz o u))
theorem pe_fz {X : Cx} {e : Expr} {t : TE} (h : PE X e t) : PE X e (tFz t) := by
  refine ⟨fun pins s σ H Q I q => ?_⟩
  refine thn (h.run pins s σ H _ I q) fun v s1 ⟨x, H1, I1, r1, q1⟩ => ?_
  rcases q1 with q1 | ⟨a, u, e1, c, q1⟩
  · exact ⟨x, H1, I1, r1, q1⟩
  · obtain ⟨o, I2⟩ := inv_freeze I1 e1 c
    exact ⟨x, _, I2, r1, q1 o⟩
theorem kept_freeze {H : Hp} {a : Addr} {o : Obj} {u : HO} (h : H a = some u) (c : Chg u) : Kept H (upd H a (.frz o u)) := by
  refine ⟨fun b xs e => ?_, fun b o' u' e => ?_⟩
  · rw [upd_ne (show b ≠ a from fun z => by subst z; rw [h] at e; cases e; exact c)]; exact e
  · rw [upd_ne (show b ≠ a from fun z => by subst z; rw [h] at e; cases e; exact c)]; exact e
/-- the object at a, frozen -/
theorem OwnAt.frz {K : PySem.W.Frag} {H : Hp} {a : Addr} {u : HO} {ob : Obj} : ∀ {o : OV}, OwnAt K H a o → H a = some u → Rep K (upd H a (.frz ob u)) o.d (.ref a)
  | .lst ds, h, e => by
    obtain ⟨xs, e1, r⟩ := h
    rw [e] at e1; cases e1
    rw [OV.d, Rep]
    exact ⟨a, xs, rfl, ⟨ob, upd_same⟩, Reps.mono (kept_freeze e trivial) _ _ r⟩
  | .dic t ks vs, h, e => by
    obtain ⟨u', xs, e1, d, r⟩ := h
    rw [e] at e1; cases e1
    rw [OV.d, Rep]
    exact ⟨a, ob, u, xs, rfl, upd_same, d, Reps.mono (kept_freeze e d.chg) _ _ r⟩
def mFz (m : M EV) : M EV := m.bind fun ev ms => match ev with
  | .val d => some (.ok (.val d) ms)
  | .new o => some (.ok (.val o.d) ms)
  | .bor i => match ms[i]? with
    | some (.val d) => some (.ok (.val d) ms)
    | some (.own false o) => some (.ok (.val o.d) (ms.set i (.val o.d)))
    | _ => none
section
variable {K : PySem.W.Frag} {ms ms' : MS} {σ : St} {H H' : Hp} {a : Addr} {u : HO} {ob : Obj} {o : OV} {i : Nat}
/-- an unowned object is frozen -/
theorem PostE.frzNew (p : PostE K ms σ H ms' H') (hn : H a = none) (hu : H' a = some u) (c : Chg u) (no : ¬ Ow ms' σ a) : PostE K ms σ H ms' (upd H' a (.frz ob u)) := by
  have k := kept_freeze (o := ob) hu c
  refine ⟨⟨p.good.len, fun i d h => ?_, fun i l o h => ?_, p.good.inj⟩, fun b o h n => ?_, fun b h => ?_, p.ow, p.lent⟩
  · obtain ⟨v, e, r⟩ := p.good.val i d h
    exact ⟨v, e, Rep.mono k _ _ r⟩
  · obtain ⟨b, e, r⟩ := p.good.own i l o h
    refine ⟨b, e, r.mono k fun u' hu' => ?_⟩
    rw [upd_ne (show b ≠ a from fun z => no ⟨i, l, o, h, by rw [← z]; exact e⟩)]
    exact hu'
  · have q := p.keep b o h n
    rw [upd_ne (show b ≠ a from fun z => by subst z; rw [hn] at h; cases h)]
    exact q
  · have q := p.live b h
    by_cases z : b = a
    · subst z; rw [upd_same]; exact fun z => nomatch z
    · rw [upd_ne z]; exact q
/-- a slot's own object is frozen -/
theorem PostE.frzSlot (p : PostE K ms σ H ms' H') (hi : ms'[i]? = some (.own false o)) (hs : σ[i]? = some (some (.ref a))) (hu : H' a = some u) : PostE K ms σ H (ms'.set i (.val o.d)) (upd H' a (.frz ob u)) := by
  have ow : Ow ms' σ a := ⟨i, false, o, hi, hs⟩
  have c : Chg u := by
    obtain ⟨u', e, c⟩ := p.good.chg ow
    rw [hu] at e; cases e; exact c
  have oat : OwnAt K H' a o := by
    obtain ⟨b, e, r⟩ := p.good.own i false o hi
    rw [hs] at e; cases e; exact r
  have k := kept_freeze (o := ob) hu c
  have hil : i < ms'.length := (List.getElem?_eq_some_iff.mp hi).1
  have at_ne : ∀ {j : Nat} {s : SV}, j ≠ i → (ms'.set i (.val o.d))[j]? = some s → ms'[j]? = some s := fun {j s} hj h => by
    rw [List.getElem?_set_ne (Ne.symm hj)] at h; exact h
  have own_ne : ∀ {j : Nat} {l : Bool} {o' : OV}, (ms'.set i (.val o.d))[j]? = some (.own l o') → j ≠ i ∧ ms'[j]? = some (.own l o') := fun {j l o'} h => by
    by_cases hj : j = i
    · subst hj
      rw [List.getElem?_set_self hil] at h; cases h
    · exact ⟨hj, at_ne hj h⟩
  refine ⟨⟨by rw [List.length_set]; exact p.good.len, fun j d h => ?_, fun j l o' h => ?_, fun j j' l l' o1 o2 b h1 h2 => ?_⟩, fun b o' h n => ?_, fun b h => ?_, fun b h => ?_, fun j o' h => ?_⟩
  · by_cases hj : j = i
    · subst hj
      rw [List.getElem?_set_self hil] at h; cases h
      exact ⟨_, hs, oat.frz hu⟩
    · obtain ⟨v, e, r⟩ := p.good.val j d (at_ne hj h)
      exact ⟨v, e, Rep.mono k _ _ r⟩
  · obtain ⟨hj, h⟩ := own_ne h
    obtain ⟨b, e, r⟩ := p.good.own j l o' h
    refine ⟨b, e, r.mono k fun u' hu' => ?_⟩
    rw [upd_ne (show b ≠ a from fun z => hj (p.good.inj j i l false o' o a h hi (by rw [← z]; exact e) hs))]
    exact hu'
  · exact p.good.inj j j' l l' o1 o2 b (own_ne h1).2 (own_ne h2).2
  · rw [upd_ne (show b ≠ a from fun z => n (p.ow b (by rw [z]; exact ow)))]
    exact p.keep b o' h n
  · have q := p.live b h
    by_cases z : b = a
    · subst z; rw [upd_same]; exact fun z => nomatch z
    · rw [upd_ne z]; exact q
  · obtain ⟨j, l, o', h1, h2⟩ := h
    exact p.ow b ⟨j, l, o', (own_ne h1).2, h2⟩
  · obtain ⟨o2, h2⟩ := p.lent j o' h
    refine ⟨o2, ?_⟩
    rw [List.getElem?_set_ne (show i ≠ j from fun z => by subst z; rw [hi] at h2; cases h2)]
    exact h2
end
section
variable {X : Cx} {W : WX} {a b c e : Expr} {es rest : List Expr} {ma mb mc m : M EV} {mas : M (List EV)} {ta tb tc : M Bool} {pos : Pos}
theorem me_fz (h : ME X W e m) : ME X W e (mFz m) := by
  refine PE.imp (pe_fz h) fun σ H Q q => ?_
  obtain ⟨ms, G, r⟩ := q
  refine tM_bind G r (fun x ms' z => z) fun ev ms1 h1 v H1 p1 o1 => ?_
  cases ev with
  | val d => exact .inl (h1 v H1 p1 o1)
  | new o =>
    obtain ⟨a, rfl, hn, oat, no⟩ := o1
    obtain ⟨u, hu, cu⟩ := oat.chg
    exact .inr ⟨a, u, hu, cu, fun ob => h1 _ _ (p1.frzNew hn hu cu no) (oat.frz hu)⟩
  | bor i =>
    have o1 : σ[i]? = some (some v) := o1
    unfold Run at h1
    cases hi : ms1[i]? with
    | none => simp only [hi] at h1
    | some sv =>
      cases sv with
      | unk => simp only [hi] at h1
      | val d =>
        simp only [hi] at h1
        obtain ⟨v', e, r⟩ := p1.good.val i d hi
        rw [o1] at e; cases e
        exact .inl (h1 _ _ p1 r)
      | own l o =>
        cases l with
        | true => simp only [hi] at h1
        | false =>
          simp only [hi] at h1
          obtain ⟨a, e, oat⟩ := p1.good.own i false o hi
          rw [o1] at e; cases e
          obtain ⟨u, hu, cu⟩ := oat.chg
          exact .inr ⟨a, u, hu, cu, fun ob => h1 _ _ (p1.frzSlot hi o1 hu) (oat.frz hu)⟩

/-! ### argument lists -/
def mNil : M (List EV) := M.pure []
def mCons (m : M EV) (r : M (List EV)) : M (List EV) := m.bind fun e => r.bind fun es => M.pure (e :: es)
theorem tMA_bind {K : PySem.W.Frag} {α : Type} {m : M (List EV)} {f : List EV → M α} {ms : MS} {σ : St} {H : Hp} {k : α → MS → Prop} {xk : EX → MS → Prop} {R : List V → Hp → Prop} (g : Good K ms σ H) (h : Run (m.bind f) ms k xk)
    (hx : ∀ x ms', xk x ms' → ∀ cls d H', PostE K ms σ H ms' H' → ExOk K H' x cls d → W cls d σ H')
    (hk : ∀ es ms', Run (f es) ms' k xk → ∀ vs H', PostE K ms σ H ms' H' → EVsOk K ms' σ H H' vs es → R vs H') : tMA K W m σ H R := by
  rw [Run.bind] at h
  exact ⟨ms, g, h.mono (fun ev ms' q v H' p e => hk ev ms' q v H' p e) fun x ms' q => hx x ms' q⟩
theorem EVsOk.early {K : PySem.W.Frag} {ms : MS} {H0 H1 H : Hp} {σ : St} {vs : List V} {es : List EV} (l : ∀ b, H0 b ≠ none → H1 b ≠ none) (h : EVsOk K ms σ H1 H vs es) : EVsOk K ms σ H0 H vs es :=
  Paired.mapP h fun _ _ q => q.early l
theorem EVsOk.mono {K : PySem.W.Frag} {ms ms' : MS} {H0 H H' : Hp} {σ : St} {vs : List V} {es : List EV} (g : Good K ms σ H) (p : PostE K ms σ H ms' H') (h : EVsOk K ms σ H0 H vs es) : EVsOk K ms' σ H0 H' vs es :=
  Paired.mapP h fun _ _ q => q.mono g p
theorem ma_nil : MA X W [] mNil := by
  refine PA.imp pa_nil fun σ H Q q => ?_
  obtain ⟨ms, G, r⟩ := q
  exact r [] H (.refl G) .nil
theorem ma_cons (ha : ME X W e m) (hr : MA X W es mas) (hs : starEach (e :: es) X.env = (false, eval e X.env) :: starEach es X.env) : MA X W (e :: es) (mCons m mas) := by
  refine PA.imp (pa_cons ha hr hs) fun σ H Q q => ?_
  obtain ⟨ms, G, h⟩ := q
  refine tM_bind G h (fun x ms' z => z) fun e1 ms1 h1 v1 H1 p1 o1 => ?_
  refine tMA_bind p1.good h1 (fun x ms' z cls d H' p => z cls d H' (p1.trans p)) fun e2 ms2 h2 v2 H2 p2 o2 => ?_
  exact h2 _ _ (p1.trans p2) (.cons (o1.mono p1.good p2) (o2.early fun b hb => p1.live b hb))
def rds (ms : MS) : List EV → Option (List D)
  | [] => some []
  | e :: es => match rd ms e, rds ms es with
    | some d, some ds => some (d :: ds)
    | _, _ => none
theorem rds_ok {K : PySem.W.Frag} {ms : MS} {σ : St} {H0 H : Hp} (G : Good K ms σ H) : ∀ {vs : List V} {es : List EV} {ds : List D}, EVsOk K ms σ H0 H vs es → rds ms es = some ds → Paired (fun v d => RdAt K H d v) vs ds
  | _, [], ds, h, e => by
    cases h
    cases (show some ([] : List D) = some ds from e)
    exact .nil
  | _, x :: es, ds, h, e => by
    cases h with
    | cons h1 h2 =>
      unfold rds at e
      cases q1 : rd ms x with
      | none => simp only [q1] at e; cases e
      | some d =>
        cases q2 : rds ms es with
        | none => simp only [q1, q2] at e; cases e
        | some ds' =>
          simp only [q1, q2] at e
          cases e
          exact .cons (rd_ok G h1 q1) (rds_ok G h2 q2)
/-- frozen values alone -/
def vals : List EV → Option (List D)
  | [] => some []
  | .val d :: es => match vals es with
    | some ds => some (d :: ds)
    | none => none
  | _ => none
theorem vals_ok {K : PySem.W.Frag} {ms : MS} {σ : St} {H0 H : Hp} : ∀ {vs : List V} {es : List EV} {ds : List D}, EVsOk K ms σ H0 H vs es → vals es = some ds → Reps K H ds vs
  | _, [], ds, h, e => by
    cases h
    cases (show some ([] : List D) = some ds from e)
    rw [Reps]
  | _, x :: es, ds, h, e => by
    cases h with
    | cons h1 h2 =>
      cases x with
      | new o => exact nomatch e
      | bor i => exact nomatch e
      | val d =>
        unfold vals at e
        cases q2 : vals es with
        | none => simp only [q2] at e; cases e
        | some ds' =>
          simp only [q2] at e
          cases e
          rw [Reps]
          exact ⟨_, _, rfl, h1, vals_ok h2 q2⟩
theorem Reps.length {K : PySem.W.Frag} {H : Hp} {ds : List D} {xs : List V} (h : Reps K H ds xs) : ds.length = xs.length := Paired.length (reps_iff.mp h)

/-! ### displays -/
def mTup (m : M (List EV)) : M EV := m.bind fun es => M.lift (match vals es with
  | some ds => if ds.length ≤ 1000 then some (.val (.tup ds)) else none
  | none => none)
def mLst (m : M (List EV)) : M EV := m.bind fun es => M.lift (match vals es with
  | some ds => if ds.length ≤ 1000 then some (.new (.lst ds)) else none
  | none => none)
theorem same_new {H : Hp} {p : Addr} {o : HO} (h : H p = none) : Same H (upd H p o) := fun b x e => by
  rw [upd_ne (ne_of_none e h)]; exact e
theorem me_tup {x1} (h : MA X W es mas) : ME X W (.Tuple es x1 pos) (mTup mas) := by
  refine PE.imp (pe_tup h) fun σ H Q q => ?_
  obtain ⟨ms, G, r⟩ := q
  refine tMA_bind G r (fun x ms' z => z) fun evs ms1 h1 vs H1 p1 o1 => ?_
  obtain ⟨ev, e1, k1⟩ := Run.lift h1
  cases q1 : vals evs with
  | none => simp only [q1] at e1; cases e1
  | some ds =>
    simp only [q1] at e1
    split at e1
    · rename_i hl
      cases e1
      have rr := vals_ok o1 q1
      refine ⟨by rw [← rr.length]; exact Nat.le_of_lt (small1000 hl), fun p hp => ?_⟩
      have s := same_new (o := HO.tup vs) hp
      refine k1 _ _ (p1.trans (.same p1.good s)) ?_
      show Rep _ _ _ _
      rw [Rep]
      exact ⟨p, vs, rfl, upd_same, Reps.mono (.same s) _ _ rr⟩
    · cases e1
theorem me_lst (h : MA X W es mas) : ME X W (.List es pos) (mLst mas) := by
  refine PE.imp (pe_lst h) fun σ H Q q => ?_
  obtain ⟨ms, G, r⟩ := q
  refine tMA_bind G r (fun x ms' z => z) fun evs ms1 h1 vs H1 p1 o1 => ?_
  obtain ⟨ev, e1, k1⟩ := Run.lift h1
  cases q1 : vals evs with
  | none => simp only [q1] at e1; cases e1
  | some ds =>
    simp only [q1] at e1
    split at e1
    · rename_i hl
      cases e1
      have rr := vals_ok o1 q1
      refine ⟨by rw [← rr.length]; exact Nat.le_of_lt (small1000 hl), fun p hp => ?_⟩
      have s := same_new (o := HO.lst vs) hp
      have ro : ResOk X.K H1 (upd H1 p (.lst vs)) (.ref p) (.new (.lst ds)) := ⟨p, rfl, hp, vs, upd_same, Reps.mono (.same s) _ _ rr⟩
      exact k1 _ _ (p1.trans (.same p1.good s)) ((ro.ev p1.good).early fun b hb => p1.live b hb)
    · cases e1

/-! ### comparisons -/
theorem me_cmp {op : CmpOp} {g : D → D → Option EV} (ho : Op2 X (compareOp op) g) (ha : ME X W a ma) (hb : ME X W b mb) (hm : behindInMarks op b = false) : ME X W (.Compare a [op] [b] pos) (mOp2 g ma mb) := by
  obtain ⟨r, hr, hq⟩ := ho
  refine PE.imp (pe_cmpR hr ha hb hm) fun σ H Q q => ?_
  obtain ⟨ms, G, h⟩ := q
  refine tM_bind G h (fun x ms' z => z) fun e1 ms1 h1 v1 H1 p1 o1 => ?_
  refine tM_bind p1.good h1 (fun x ms' z cls d H' p => z cls d H' (p1.trans p)) fun e2 ms2 h2 v2 H2 p2 o2 => ?_
  obtain ⟨d, e, ev, k1, k2, k3, k4⟩ := op2_end (R := fun _ => True) p2.good (o1.mono p1.good p2) o2 h2
  refine hq H2 v1 v2 d e ev Q k1 k2 k3 fun v H3 s3 r3 => ?_
  have p3 := PostE.same p2.good s3
  exact k4 v H3 ((p1.trans p2).trans p3) ((r3.ev p2.good).early (fun b hb => (p1.trans p2).live b hb))
/-- a value that is True or False -/
def mB (m : M EV) : M Bool := m.bind fun ev => M.lift (match ev with
  | .val (.bl b) => some b
  | _ => none)
theorem mt_cmp {op : CmpOp} {g : D → D → Option EV} (ho : Op2 X (compareOp op) g) (ha : ME X W a ma) (hb : ME X W b mb) (hm : behindInMarks op b = false) : MT X W (.Compare a [op] [b] pos) (mB (mOp2 g ma mb)) := by
  obtain ⟨r, hr, hq⟩ := ho
  refine PT.imp (pt_cmpR hr ha hb hm) fun σ H Q q => ?_
  obtain ⟨ms, G, h⟩ := q
  unfold mB at h
  rw [Run.bind] at h
  refine tM_bind G h (fun x ms' z => z) fun e1 ms1 h1 v1 H1 p1 o1 => ?_
  refine tM_bind p1.good h1 (fun x ms' z cls d H' p => z cls d H' (p1.trans p)) fun e2 ms2 h2 v2 H2 p2 o2 => ?_
  obtain ⟨d, e, ev, k1, k2, k3, k4⟩ := op2_end (R := fun _ => True) p2.good (o1.mono p1.good p2) o2 h2
  refine hq H2 v1 v2 d e ev _ k1 k2 k3 fun v H3 s3 r3 => ?_
  have p3 := PostE.same p2.good s3
  obtain ⟨bb, e3, k5⟩ := Run.lift k4
  cases ev with
  | new o => cases e3
  | bor i => cases e3
  | val dd =>
    cases dd with
    | bl b2 =>
      cases e3
      have r3 : Rep X.K H3 (.bl _) v := r3
      rw [Rep] at r3
      exact ⟨_, r3, k5 H3 ((p1.trans p2).trans p3)⟩
    | _ => cases e3
/-- a < b < c -/
def mChain (g g' : D → D → Option EV) (ma mb mc : M EV) : M EV := ma.bind fun x => mb.bind fun y => fun ms => match rd ms x, rd ms y with
  | some d, some e => (match g d e with
    | some (.val (.bl true)) => (mc.bind fun z => fun ms' => match rd ms' y, rd ms' z with
      | some e', some f => M.lift (g' e' f) ms'
      | _, _ => none) ms
    | some (.val (.bl false)) => some (.ok (.val (.bl false)) ms)
    | _ => none)
  | _, _ => none
theorem chain_core {op op' : CmpOp} {g g' : D → D → Option EV} {r r' : R2} {σ : St} {H : Hp} {Q : VK} {ms : MS} {kk : EV → MS → Prop} {xk : EX → MS → Prop}
    (hq : ∀ H x y d e ev Q, RdAt X.K H d x → RdAt X.K H e y → g d e = some ev → (∀ v H', Same H H' → ResOk X.K H H' v ev → Q v H') → r x y H Q)
    (hq' : ∀ H x y d e ev Q, RdAt X.K H d x → RdAt X.K H e y → g' d e = some ev → (∀ v H', Same H H' → ResOk X.K H H' v ev → Q v H') → r' x y H Q)
    (G : Good X.K ms σ H) (h : Run (mChain g g' ma mb mc) ms kk xk)
    (hx : ∀ x ms', xk x ms' → ∀ cls d H', PostE X.K ms σ H ms' H' → ExOk X.K H' x cls d → W cls d σ H')
    (hk : ∀ ev ms', kk ev ms' → ∀ v H', PostE X.K ms σ H ms' H' → EVOk X.K ms' σ H H' v ev → Q v H') :
    tChain r r' (tM X.K W ma) (tM X.K W mb) (tM X.K W mc) σ H Q := by
  refine tM_bind G h hx fun e1 ms1 h1 v1 H1 p1 o1 => ?_
  refine tM_bind p1.good h1 (fun x ms' z cls d H' p => hx x ms' z cls d H' (p1.trans p)) fun e2 ms2 h2 v2 H2 p2 o2 => ?_
  have p12 := p1.trans p2
  have o1' := o1.mono p1.good p2
  cases hd : rd ms2 e1 with
  | none => simp only [Run, hd] at h2
  | some d =>
    cases he : rd ms2 e2 with
    | none => simp only [Run, hd, he] at h2
    | some e =>
      simp only [Run, hd, he] at h2
      cases hg : g d e with
      | none => simp only [hg] at h2
      | some ev =>
        cases ev with
        | new o => simp only [hg] at h2
        | bor i => simp only [hg] at h2
        | val dd =>
          cases dd with
          | bl bb =>
            refine hq H2 v1 v2 d e _ _ (rd_ok p2.good o1' hd) (rd_ok p2.good o2 he) hg fun v H3 s3 r3 => ?_
            have r3 : Rep X.K H3 (.bl bb) v := r3
            rw [Rep] at r3
            have p3 := PostE.same p2.good s3
            refine ⟨bb, r3, ?_⟩
            cases bb with
            | false =>
              simp only [hg] at h2
              refine iteF (hk _ _ h2 _ _ (p12.trans p3) ?_)
              show Rep _ _ _ _
              rw [Rep]
            | true =>
              simp only [hg] at h2
              refine iteT ?_
              have h2' : Run (mc.bind fun z => fun ms' => match rd ms' e2, rd ms' z with
                | some e', some f => M.lift (g' e' f) ms'
                | _, _ => none) ms2 kk xk := h2
              refine tM_bind p3.good h2' (fun x ms' z cls d H' p => hx x ms' z cls d H' ((p12.trans p3).trans p)) fun e3 ms3 h3 v3 H4 p4 o3 => ?_
              have o2' := (o2.mono p2.good p3).mono p3.good p4
              obtain ⟨d', e', ev', k1, k2, k3, k4⟩ := op2_end (R := fun _ => True) p4.good o2' o3 h3
              refine hq' H4 v2 v3 d' e' ev' Q k1 k2 k3 fun v H5 s5 r5 => ?_
              have p5 := PostE.same p4.good s5
              exact hk _ _ k4 v H5 (((p12.trans p3).trans p4).trans p5) ((r5.ev p4.good).early fun b hb => ((p12.trans p3).trans p4).live b hb)
          | _ => simp only [hg] at h2
theorem me_chain {op op' : CmpOp} {g g' : D → D → Option EV} (ho : Op2 X (compareOp op) g) (ho' : Op2 X (compareOp op') g') (ha : ME X W a ma) (hb : ME X W b mb) (hc : ME X W c mc) (hm : lastMarks [op, op'] [b, c] = false) :
    ME X W (.Compare a [op, op'] [b, c] pos) (mChain g g' ma mb mc) := by
  obtain ⟨r, hr, hq⟩ := ho
  obtain ⟨r', hr', hq'⟩ := ho'
  refine PE.imp (pe_chain hr hr' ha hb hc hm) fun σ H Q q => ?_
  obtain ⟨ms, G, h⟩ := q
  exact chain_core (op := op) (op' := op') hq hq' G h (fun x ms' z => z) fun ev ms' z => z
theorem mt_chain {op op' : CmpOp} {g g' : D → D → Option EV} (ho : Op2 X (compareOp op) g) (ho' : Op2 X (compareOp op') g') (ha : ME X W a ma) (hb : ME X W b mb) (hc : ME X W c mc) (hm : lastMarks [op, op'] [b, c] = false) :
    MT X W (.Compare a [op, op'] [b, c] pos) (mB (mChain g g' ma mb mc)) := by
  obtain ⟨r, hr, hq⟩ := ho
  obtain ⟨r', hr', hq'⟩ := ho'
  refine PT.imp (pt_chain hr hr' ha hb hc hm) fun σ H Q q => ?_
  obtain ⟨ms, G, h⟩ := q
  unfold mB at h
  rw [Run.bind] at h
  refine chain_core (op := op) (op' := op') hq hq' G h (fun x ms' z => z) fun ev ms' z v H' p o => ?_
  obtain ⟨bb, e3, k5⟩ := Run.lift z
  cases ev with
  | new o => cases e3
  | bor i => cases e3
  | val dd =>
    cases dd with
    | bl b2 =>
      cases e3
      have o : Rep X.K H' (.bl _) v := o
      rw [Rep] at o
      exact ⟨_, o, k5 H' p⟩
    | _ => cases e3
end
end Fw
set_option Elab.async false
set_option linter.all false
set_option maxRecDepth 100000
set_option maxHeartbeats 2000000
/-! Fw C: truth, and/or/not, if-expressions, built-in calls, own calls, subscripts, slices. -/
namespace Fw
open PySem L2
section
variable {X : Cx} {W : WX} {a b c e : Expr} {es rest : List Expr} {ma mb mc m : M EV} {mas : M (List EV)} {ta tb tc : M Bool} {pos : Pos}

/-! ### truth -/
def truD : D → Option Bool
  | .non => some false
  | .bl b => some b
  | .int i => some (i != 0)
  | .str x => if x.length ≤ sizeLine then some (x.length != 0) else none
  | .tup ds => some (!ds.isEmpty)
  | .lst ds => some (!ds.isEmpty)
  | _ => none
theorem Reps.isEmpty {K : PySem.W.Frag} {H : Hp} {ds : List D} {xs : List V} (h : Reps K H ds xs) : xs.isEmpty = ds.isEmpty := by
  have := Reps.length h
  cases ds <;> cases xs <;> simp_all
theorem truD_ok {K : PySem.W.Frag} {H : Hp} {d : D} {v : V} {k : Bool} (h : RdAt K H d v) (e : truD d = some k) : TruV K v H k := by
  cases d with
  | non =>
    have h : Rep K H .non v := h
    rw [Rep] at h; subst h; cases e; rfl
  | bl b =>
    have h : Rep K H (.bl b) v := h
    rw [Rep] at h; subst h; cases e; rfl
  | int i =>
    have h : Rep K H (.int i) v := h
    rw [Rep] at h; subst h; cases e; rfl
  | str x =>
    have h : Rep K H (.str x) v := h
    rw [Rep] at h; subst h
    have e : (if x.length ≤ sizeLine then some (x.length != 0) else none) = some k := e
    split at e
    · rename_i hl
      cases e
      refine ⟨hl, ?_⟩
      rw [Bool.eq_iff_iff]
      simp only [bne_iff_ne, ne_eq]
      omega
    · cases e
  | tup ds =>
    have h : Rep K H (.tup ds) v := h
    rw [Rep] at h
    obtain ⟨a, xs, rfl, h1, h2⟩ := h
    cases e
    exact .inr (.inl ⟨xs, .of h1, by rw [h2.isEmpty]⟩)
  | lst ds =>
    obtain ⟨a, xs, rfl, h1, h2⟩ := h
    cases e
    exact .inl ⟨xs, .inl h1, by rw [h2.isEmpty]⟩
  | ktp _ => cases e
  | kls _ => cases e
  | adr _ => cases e
  | ty _ => cases e
  | dct _ _ _ => cases e
def mTru (m : M EV) : M Bool := m.bind fun ev ms => match rd ms ev with
  | some d => M.lift (truD d) ms
  | none => none
theorem tru_end {K : PySem.W.Frag} {ms : MS} {σ : St} {H0 H : Hp} {v : V} {ev : EV} {k : Bool → MS → Prop} {xk : EX → MS → Prop} (G : Good K ms σ H) (o : EVOk K ms σ H0 H v ev)
    (h : Run (fun ms => match rd ms ev with | some d => M.lift (truD d) ms | none => none) ms k xk) : ∃ b, TruV K v H b ∧ k b ms := by
  cases hd : rd ms ev with
  | none => simp only [Run, hd] at h
  | some d =>
    have h' : Run (M.lift (truD d)) ms k xk := by
      simp only [Run, hd] at h ⊢
      exact h
    obtain ⟨b, e, q⟩ := Run.lift h'
    exact ⟨b, truD_ok (rd_ok G o hd) e, q⟩
theorem mt_tru (ha : ME X W a ma) (he : ∀ whole, isTrue a X.env whole = (do let v ← whole; standAt a.pos; holding [v] (truthy v))) : MT X W a (mTru ma) := by
  refine PT.imp (pt_truth ha he) fun σ H Q q => ?_
  obtain ⟨ms, G, h⟩ := q
  refine tM_bind G h (fun x ms' z => z) fun e1 ms1 h1 v1 H1 p1 o1 => ?_
  obtain ⟨b, t, q⟩ := tru_end p1.good o1 h1
  exact ⟨b, t, q H1 p1⟩

/-! ### and, or, not as tests -/
theorem tMT_bind {K : PySem.W.Frag} {α : Type} {m : M Bool} {f : Bool → M α} {ms : MS} {σ : St} {H : Hp} {k : α → MS → Prop} {xk : EX → MS → Prop} {R : Bool → Hp → Prop} (g : Good K ms σ H) (h : Run (m.bind f) ms k xk)
    (hx : ∀ x ms', xk x ms' → ∀ cls d H', PostE K ms σ H ms' H' → ExOk K H' x cls d → W cls d σ H')
    (hk : ∀ b ms', Run (f b) ms' k xk → ∀ H', PostE K ms σ H ms' H' → R b H') : tMT K W m σ H R := by
  rw [Run.bind] at h
  exact ⟨ms, g, h.mono (fun ev ms' q H' p => hk ev ms' q H' p) fun x ms' q => hx x ms' q⟩
def mNotT (t : M Bool) : M Bool := t.bind fun b => M.pure (!b)
def mAndT (t u : M Bool) : M Bool := t.bind fun b => if b = true then u else M.pure false
def mOrT (t u : M Bool) : M Bool := t.bind fun b => if b = true then M.pure true else u
theorem mt_not (ha : MT X W a ta) : MT X W (.UnaryOp .Not a pos) (mNotT ta) := by
  refine PT.imp (pt_not ha) fun σ H Q q => ?_
  obtain ⟨ms, G, h⟩ := q
  exact tMT_bind G h (fun x ms' z => z) fun b ms1 h1 H1 p1 => h1 H1 p1
abbrev MW (X : Cx) (W : WX) (e : Expr) (m : M Bool) : Prop := PW X e (tMT X.K W m)
theorem mw_one {op : BoolOp} (ha : MT X W a ta) : MW X W (.BoolOp op [a] pos) ta := by
  cases op with
  | And => exact pw_and1 ha
  | Or => exact pw_or1 ha
theorem mw_and (ha : MT X W a ta) (hb : MW X W (.BoolOp .And (b :: rest) pos) tb) : MW X W (.BoolOp .And (a :: b :: rest) pos) (mAndT ta tb) := by
  refine PW.imp (pw_and ha hb) fun σ H Q q => ?_
  obtain ⟨ms, G, h⟩ := q
  refine tMT_bind G h (fun x ms' z => z) fun b ms1 h1 H1 p1 => ?_
  cases b with
  | true =>
    refine iteT ⟨ms1, p1.good, Run.mono (show Run tb ms1 _ _ from h1) (fun b ms' q H' p => q H' (p1.trans p)) fun x ms' q cls d H' p => q cls d H' (p1.trans p)⟩
  | false => exact iteF (h1 H1 p1)
theorem mw_or (ha : MT X W a ta) (hb : MW X W (.BoolOp .Or (b :: rest) pos) tb) : MW X W (.BoolOp .Or (a :: b :: rest) pos) (mOrT ta tb) := by
  refine PW.imp (pw_or ha hb) fun σ H Q q => ?_
  obtain ⟨ms, G, h⟩ := q
  refine tMT_bind G h (fun x ms' z => z) fun b ms1 h1 H1 p1 => ?_
  cases b with
  | false =>
    refine iteF ⟨ms1, p1.good, Run.mono (show Run tb ms1 _ _ from h1) (fun b ms' q H' p => q H' (p1.trans p)) fun x ms' q cls d H' p => q cls d H' (p1.trans p)⟩
  | true => exact iteT (h1 H1 p1)

/-! ### and, or, not as values -/
def mNot (m : M EV) : M EV := (mTru m).bind fun b => M.pure (.val (.bl (!b)))
def mAnd (m n : M EV) : M EV := m.bind fun x ms => match rd ms x with
  | some d => (match truD d with
    | some true => n ms
    | some false => some (.ok x ms)
    | none => none)
  | none => none
def mOr (m n : M EV) : M EV := m.bind fun x ms => match rd ms x with
  | some d => (match truD d with
    | some false => n ms
    | some true => some (.ok x ms)
    | none => none)
  | none => none
theorem me_not (ha : ME X W a ma) : ME X W (.UnaryOp .Not a pos) (mNot ma) := by
  refine PE.imp (pe_notT ha) fun σ H Q q => ?_
  obtain ⟨ms, G, h⟩ := q
  unfold mNot mTru at h
  rw [Run.bind] at h
  refine tM_bind G h (fun x ms' z => z) fun e1 ms1 h1 v1 H1 p1 o1 => ?_
  obtain ⟨b, t, q⟩ := tru_end p1.good o1 h1
  refine ⟨b, t, q _ H1 p1 ?_⟩
  show Rep _ _ _ _
  rw [Rep]
theorem me_one {op : BoolOp} (ha : ME X W a ma) : ME X W (.BoolOp op [a] pos) ma := pe_one ha
theorem andor_end {K : PySem.W.Frag} {ms : MS} {σ : St} {H0 H : Hp} {v : V} {x : EV} {n : M EV} {kk : Bool} {k : EV → MS → Prop} {xk : EX → MS → Prop} {f : MS → Option (Res EV)} (G : Good K ms σ H) (o : EVOk K ms σ H0 H v x)
    (h : Run f ms k xk) (hf : f ms = match rd ms x with
      | some d => (match truD d with
        | some b => if b = kk then n ms else some (.ok x ms)
        | none => none)
      | none => none) : ∃ b, TruV K v H b ∧ if b = kk then Run n ms k xk else k x ms := by
  unfold Run at h
  rw [hf] at h
  cases hd : rd ms x with
  | none => simp only [hd] at h
  | some d =>
    simp only [hd] at h
    cases ht : truD d with
    | none => simp only [ht] at h
    | some b =>
      simp only [ht] at h
      refine ⟨b, truD_ok (rd_ok G o hd) ht, ?_⟩
      split
      · rename_i hb
        rw [if_pos hb] at h
        exact h
      · rename_i hb
        rw [if_neg hb] at h
        exact h
theorem me_and (ha : ME X W a ma) (hb : ME X W (.BoolOp .And (b :: rest) pos) mb) : ME X W (.BoolOp .And (a :: b :: rest) pos) (mAnd ma mb) := by
  refine PE.imp (pe_andT ha hb) fun σ H Q q => ?_
  obtain ⟨ms, G, h⟩ := q
  refine tM_bind G h (fun x ms' z => z) fun e1 ms1 h1 v1 H1 p1 o1 => ?_
  obtain ⟨b, t, q⟩ := andor_end (n := mb) (kk := true) p1.good o1 h1 (by
    cases rd ms1 e1 with
    | none => rfl
    | some d =>
      dsimp only
      cases truD d with
      | none => rfl
      | some b => cases b <;> rfl)
  refine ⟨b, t, ?_⟩
  cases b with
  | true =>
    refine iteT ⟨ms1, p1.good, Run.mono q (fun b ms' q v H' p o => q v H' (p1.trans p) (o.early fun b hb => p1.live b hb)) fun x ms' q cls d H' p => q cls d H' (p1.trans p)⟩
  | false => exact iteF (q v1 H1 p1 o1)
theorem me_or (ha : ME X W a ma) (hb : ME X W (.BoolOp .Or (b :: rest) pos) mb) : ME X W (.BoolOp .Or (a :: b :: rest) pos) (mOr ma mb) := by
  refine PE.imp (pe_orT ha hb) fun σ H Q q => ?_
  obtain ⟨ms, G, h⟩ := q
  refine tM_bind G h (fun x ms' z => z) fun e1 ms1 h1 v1 H1 p1 o1 => ?_
  obtain ⟨b, t, q⟩ := andor_end (n := mb) (kk := false) p1.good o1 h1 (by
    cases rd ms1 e1 with
    | none => rfl
    | some d =>
      dsimp only
      cases truD d with
      | none => rfl
      | some b => cases b <;> rfl)
  refine ⟨b, t, ?_⟩
  cases b with
  | false =>
    refine iteF ⟨ms1, p1.good, Run.mono q (fun b ms' q v H' p o => q v H' (p1.trans p) (o.early fun b hb => p1.live b hb)) fun x ms' q cls d H' p => q cls d H' (p1.trans p)⟩
  | true => exact iteT (q v1 H1 p1 o1)
def mIf (t : M Bool) (m n : M EV) : M EV := t.bind fun b => if b = true then m else n
theorem me_ifExp (hc : MT X W c tc) (ha : ME X W a ma) (hb : ME X W b mb) : ME X W (.IfExp c a b pos) (mIf tc ma mb) := by
  refine PE.imp (pe_ifExp hc ha hb) fun σ H Q q => ?_
  obtain ⟨ms, G, h⟩ := q
  refine tMT_bind G h (fun x ms' z => z) fun b ms1 h1 H1 p1 => ?_
  cases b with
  | true =>
    refine iteT ⟨ms1, p1.good, Run.mono (show Run ma ms1 _ _ from h1) (fun b ms' q v H' p o => q v H' (p1.trans p) (o.early fun b hb => p1.live b hb)) fun x ms' q cls d H' p => q cls d H' (p1.trans p)⟩
  | false =>
    refine iteF ⟨ms1, p1.good, Run.mono (show Run mb ms1 _ _ from h1) (fun b ms' q v H' p o => q v H' (p1.trans p) (o.early fun b hb => p1.live b hb)) fun x ms' q cls d H' p => q cls d H' (p1.trans p)⟩

/-! ### unary operators -/
def Op1 (X : Cx) (f : Value → Sem Value) (g : D → Option EV) : Prop :=
  ∃ r, UnR X f r ∧ ∀ H x d ev Q, RdAt X.K H d x → g d = some ev → (∀ v H', Same H H' → ResOk X.K H H' v ev → Q v H') → r x H Q
def mOp1 (g : D → Option EV) (m : M EV) : M EV := m.bind fun x ms => match rd ms x with
  | some d => M.lift (g d) ms
  | none => none
theorem op1_end {K : PySem.W.Frag} {ms : MS} {σ : St} {H0 H : Hp} {v : V} {ev : EV} {g : D → Option EV} {k : EV → MS → Prop} {xk : EX → MS → Prop} (G : Good K ms σ H) (o : EVOk K ms σ H0 H v ev)
    (h : Run (fun ms => match rd ms ev with | some d => M.lift (g d) ms | none => none) ms k xk) : ∃ d r, RdAt K H d v ∧ g d = some r ∧ k r ms := by
  cases hd : rd ms ev with
  | none => simp only [Run, hd] at h
  | some d =>
    have h' : Run (M.lift (g d)) ms k xk := by
      simp only [Run, hd] at h ⊢
      exact h
    obtain ⟨b, e, q⟩ := Run.lift h'
    exact ⟨d, b, rd_ok G o hd, e, q⟩
theorem me_op1 {op : UnaryOp} {g : D → Option EV} (ho : Op1 X (unaryOp op) g) (ha : ME X W a ma) (hu : ∀ s : Sem Value, True := by intros; trivial) : ME X W (.UnaryOp op a pos) (mOp1 g ma) := by
  obtain ⟨r, hr, hq⟩ := ho
  refine PE.imp (pe_un hr ha) fun σ H Q q => ?_
  obtain ⟨ms, G, h⟩ := q
  refine tM_bind G h (fun x ms' z => z) fun e1 ms1 h1 v1 H1 p1 o1 => ?_
  obtain ⟨d, ev, k1, k2, k3⟩ := op1_end p1.good o1 h1
  refine hq H1 v1 d ev Q k1 k2 fun v H3 s3 r3 => ?_
  exact k3 v H3 (p1.trans (.same p1.good s3)) ((r3.ev p1.good).early fun b hb => p1.live b hb)

/-! ### built-in calls -/
def CallB (X : Cx) (f : Value) (g : List D → Option EV) : Prop :=
  ∃ r, CallR X f r ∧ ∀ H xs ds ev Q, Paired (fun v d => RdAt X.K H d v) xs ds → g ds = some ev → (∀ v H', Same H H' → ResOk X.K H H' v ev → Q v H') → r xs H Q
def mCallB (g : List D → Option EV) (m : M (List EV)) : M EV := m.bind fun es ms => match rds ms es with
  | some ds => M.lift (g ds) ms
  | none => none
theorem callB_core {r : List V → Hp → VK → Prop} {g : List D → Option EV} {σ : St} {H : Hp} {Q : VK}
    (hq : ∀ H xs ds ev Q, Paired (fun v d => RdAt X.K H d v) xs ds → g ds = some ev → (∀ v H', Same H H' → ResOk X.K H H' v ev → Q v H') → r xs H Q)
    (q : tM X.K W (mCallB g mas) σ H Q) : tCB r (tMA X.K W mas) σ H Q := by
  obtain ⟨ms, G, h⟩ := q
  refine tMA_bind G h (fun x ms' z => z) fun es ms1 h1 vs H1 p1 o1 => ?_
  cases hd : rds ms1 es with
  | none => simp only [Run, hd] at h1
  | some ds =>
    have h' : Run (M.lift (g ds)) ms1 (fun ev ms' => ∀ v H', PostE X.K ms σ H ms' H' → EVOk X.K ms' σ H H' v ev → Q v H') (fun x ms' => ∀ cls d H', PostE X.K ms σ H ms' H' → ExOk X.K H' x cls d → W cls d σ H') := by
      simp only [Run, hd] at h1 ⊢
      exact h1
    obtain ⟨ev, e, k⟩ := Run.lift h'
    refine hq H1 vs ds ev Q (rds_ok p1.good o1 hd) e fun v H3 s3 r3 => ?_
    exact k v H3 (p1.trans (.same p1.good s3)) ((r3.ev p1.good).early fun b hb => p1.live b hb)
theorem me_callB {x : Str} {p : Pos} {id : String} {g : List D → Option EV} (hc : CallB X (.builtin id) g) (hg : Gl X x) (hm : X.mg x = none) (hv : bootBuiltins x = some (.builtin id)) (ha : MA X W (e :: es) mas) (hn : x ≠ "__name__") (hdb : (x == ("__debug__" : Str)) = false)
    (he : starEach (e :: es) X.env = (false, eval e X.env) :: starEach es X.env) (hpl : (backTo pos (starEach es X.env)).any (·.1) = false) : ME X W (.Call (.Name x p) (e :: es) [] pos) (mCallB g mas) := by
  obtain ⟨r, hr, hq⟩ := hc
  exact PE.imp (pe_callB hr hg hm hv ha hn hdb he hpl) fun σ H Q q => callB_core hq q
theorem me_callTy {x : Str} {p : Pos} {T : String} {g : List D → Option EV} (hc : CallB X (.type T) g) (hg : Gl X x) (hm : X.mg x = none) (hv : bootBuiltins x = some (.type T)) (ha : MA X W (e :: es) mas) (hn : x ≠ "__name__") (hdb : (x == ("__debug__" : Str)) = false)
    (he : starEach (e :: es) X.env = (false, eval e X.env) :: starEach es X.env) (hpl : (backTo pos (starEach es X.env)).any (·.1) = false) : ME X W (.Call (.Name x p) (e :: es) [] pos) (mCallB g mas) := by
  obtain ⟨r, hr, hq⟩ := hc
  exact PE.imp (pe_callTy hr hg hm hv ha hn hdb he hpl) fun σ H Q q => callB_core hq q

/-! ### subscripts -/
def Ix2 (X : Cx) (g : D → D → Option EV) : Prop :=
  ∃ r, IxR X r ∧ ∀ H x y d e ev Q, RdAt X.K H d x → RdAt X.K H e y → g d e = some ev → (∀ v H', Same H H' → ResOk X.K H H' v ev → Q v H') → r x y H Q
theorem me_ix {g : D → D → Option EV} (ho : Ix2 X g) (ha : ME X W a ma) (hb : ME X W b mb) (hs : PlainIx b) : ME X W (.Subscript a b pos) (mOp2 g ma mb) := by
  obtain ⟨r, hr, hq⟩ := ho
  refine PE.imp (pe_ix hr ha hb hs) fun σ H Q q => ?_
  obtain ⟨ms, G, h⟩ := q
  refine tM_bind G h (fun x ms' z => z) fun e1 ms1 h1 v1 H1 p1 o1 => ?_
  refine tM_bind p1.good h1 (fun x ms' z cls d H' p => z cls d H' (p1.trans p)) fun e2 ms2 h2 v2 H2 p2 o2 => ?_
  obtain ⟨d, e, ev, k1, k2, k3, k4⟩ := op2_end (R := fun _ => True) p2.good (o1.mono p1.good p2) o2 h2
  refine hq H2 v1 v2 d e ev Q k1 k2 k3 fun v H3 s3 r3 => ?_
  have p3 := PostE.same p2.good s3
  exact k4 v H3 ((p1.trans p2).trans p3) ((r3.ev p2.good).early (fun b hb => (p1.trans p2).live b hb))

/-! ### slices -/
/-- an optional part of a slice: a number -/
def mInt (m : M EV) : M (Option Int) := m.bind fun x => M.lift (match x with
  | .val (.int i) => some (some i)
  | _ => none)
def tMO (K : PySem.W.Frag) (W : WX) (m : M (Option Int)) : TO := fun σ H Q => ∃ ms, Good K ms σ H ∧ Run m ms
  (fun o ms' => ∀ H', PostE K ms σ H ms' H' → Q o H')
  (fun x ms' => ∀ cls d H', PostE K ms σ H ms' H' → ExOk K H' x cls d → W cls d σ H')
abbrev MO (X : Cx) (W : WX) (e : Option Expr) (m : M (Option Int)) : Prop := PO X e (tMO X.K W m)
theorem PO.imp {X : Cx} {e : Option Expr} {t t' : TO} (h : PO X e t) (i : ∀ σ H Q, t' σ H Q → t σ H Q) : PO X e t' := by
  obtain ⟨r⟩ := h
  exact ⟨fun pins s σ H Q I q => r pins s σ H Q I (i σ H Q q)⟩
theorem mo_none : MO X W none (M.pure none) := by
  refine PO.imp po_none fun σ H Q q => ?_
  obtain ⟨ms, G, r⟩ := q
  exact r H (.refl G)
theorem mo_some (h : ME X W e m) : MO X W (some e) (mInt m) := by
  refine PO.imp (po_some h) fun σ H Q q => ?_
  obtain ⟨ms, G, r⟩ := q
  refine tM_bind G r (fun x ms' z => z) fun ev ms1 h1 v H1 p1 o1 => ?_
  obtain ⟨i, e1, k⟩ := Run.lift h1
  cases ev with
  | new o => cases e1
  | bor i => cases e1
  | val d =>
    cases d with
    | int j =>
      cases e1
      have o1 : Rep X.K H1 (.int j) v := o1
      rw [Rep] at o1
      exact ⟨j, o1, k H1 p1⟩
    | _ => cases e1
theorem tMO_bind {K : PySem.W.Frag} {α : Type} {m : M (Option Int)} {f : Option Int → M α} {ms : MS} {σ : St} {H : Hp} {k : α → MS → Prop} {xk : EX → MS → Prop} {R : Option Int → Hp → Prop} (g : Good K ms σ H) (h : Run (m.bind f) ms k xk)
    (hx : ∀ x ms', xk x ms' → ∀ cls d H', PostE K ms σ H ms' H' → ExOk K H' x cls d → W cls d σ H')
    (hk : ∀ b ms', Run (f b) ms' k xk → ∀ H', PostE K ms σ H ms' H' → R b H') : tMO K W m σ H R := by
  rw [Run.bind] at h
  exact ⟨ms, g, h.mono (fun ev ms' q H' p => hk ev ms' q H' p) fun x ms' q => hx x ms' q⟩
def SlS (X : Cx) (g : D → Option Int → Option Int → Option EV) : Prop :=
  ∃ r, SlR X r ∧ ∀ H x d lo hi ev Q, RdAt X.K H d x → g d lo hi = some ev → (∀ v H', Same H H' → ResOk X.K H H' v ev → Q v H') → r x lo hi H Q
def mSlice (g : D → Option Int → Option Int → Option EV) (m : M EV) (l u : M (Option Int)) : M EV := m.bind fun x => l.bind fun lo => u.bind fun hi => fun ms => match rd ms x with
  | some d => M.lift (g d lo hi) ms
  | none => none
theorem me_slice {g : D → Option Int → Option Int → Option EV} {lo hi : Option Expr} {ml mh : M (Option Int)} {p2 : Pos} (hs : SlS X g) (ha : ME X W a ma) (hl : MO X W lo ml) (hh : MO X W hi mh) : ME X W (.Subscript a (.Slice lo hi none p2) pos) (mSlice g ma ml mh) := by
  obtain ⟨r, hr, hq⟩ := hs
  refine PE.imp (pe_slice hr ha hl hh) fun σ H Q q => ?_
  obtain ⟨ms, G, h⟩ := q
  refine tM_bind G h (fun x ms' z => z) fun e1 ms1 h1 v1 H1 p1 o1 => ?_
  refine tMO_bind p1.good h1 (fun x ms' z cls d H' p => z cls d H' (p1.trans p)) fun lo ms2 h2 H2 p2 => ?_
  have p12 := p1.trans p2
  refine tMO_bind p2.good h2 (fun x ms' z cls d H' p => z cls d H' (p12.trans p)) fun hi ms3 h3 H3 p3 => ?_
  have p13 := p12.trans p3
  have o3 := (o1.mono p1.good p2).mono p2.good p3
  cases hd : rd ms3 e1 with
  | none => simp only [Run, hd] at h3
  | some d =>
    have h' : Run (M.lift (g d lo hi)) ms3 (fun ev ms' => ∀ v H', PostE X.K ms σ H ms' H' → EVOk X.K ms' σ H H' v ev → Q v H') (fun x ms' => ∀ cls d H', PostE X.K ms σ H ms' H' → ExOk X.K H' x cls d → W cls d σ H') := by
      simp only [Run, hd] at h3 ⊢
      exact h3
    obtain ⟨ev, e, k⟩ := Run.lift h'
    refine hq H3 v1 d lo hi ev Q (rd_ok p3.good o3 hd) e fun v H4 s4 r4 => ?_
    exact k v H4 (p13.trans (.same p3.good s4)) ((r4.ev p3.good).early fun b hb => p13.live b hb)
end
end Fw
set_option Elab.async false
set_option linter.all false
set_option maxRecDepth 100000
set_option maxHeartbeats 2000000
/-! Fw D: statements: blocks, stores, targets, if, return, while, for. -/
namespace Fw
open PySem L2

inductive Fl where
  | nx | bk | ct | rt (v : EV)
abbrev MSt := M Fl
structure PostS (K : PySem.W.Frag) (ms : MS) (σ : St) (H : Hp) (ms' : MS) (σ' : St) (H' : Hp) : Prop where
  good : Good K ms' σ' H'
  keep : ∀ b o, H b = some o → ¬ Ow ms σ b → H' b = some o
  live : ∀ b, H b ≠ none → H' b ≠ none
  ow : ∀ b, Ow ms' σ' b → Ow ms σ b ∨ H b = none
  lent : ∀ (i : Nat) (o : OV), ms[i]? = some (.own true o) → (∃ o', ms'[i]? = some (.own true o')) ∧ σ'[i]? = σ[i]?
theorem PostE.st {K : PySem.W.Frag} {ms ms' : MS} {σ : St} {H H' : Hp} (p : PostE K ms σ H ms' H') : PostS K ms σ H ms' σ H' :=
  ⟨p.good, p.keep, p.live, fun b h => .inl (p.ow b h), fun i o h => ⟨p.lent i o h, rfl⟩⟩
theorem PostS.refl {K : PySem.W.Frag} {ms : MS} {σ : St} {H : Hp} (g : Good K ms σ H) : PostS K ms σ H ms σ H := (PostE.refl g).st
theorem PostS.trans {K : PySem.W.Frag} {ms ms1 ms2 : MS} {σ σ1 σ2 : St} {H H1 H2 : Hp} (a : PostS K ms σ H ms1 σ1 H1) (b : PostS K ms1 σ1 H1 ms2 σ2 H2) : PostS K ms σ H ms2 σ2 H2 := by
  refine ⟨b.good, fun c o h n => b.keep c o (a.keep c o h n) fun z => ?_, fun c h => b.live c (a.live c h), fun c h => ?_, fun i o h => ?_⟩
  · rcases a.ow c z with z | z
    · exact n z
    · rw [h] at z; cases z
  · rcases b.ow c h with z | z
    · exact a.ow c z
    · right
      cases q : H c with
      | none => rfl
      | some u => exact absurd z (a.live c (by rw [q]; exact fun z => nomatch z))
  · obtain ⟨⟨o1, h1⟩, e1⟩ := a.lent i o h
    obtain ⟨h2, e2⟩ := b.lent i o1 h1
    exact ⟨h2, e2.trans e1⟩
theorem PostS.kept {K : PySem.W.Frag} {ms ms' : MS} {σ σ' : St} {H H' : Hp} (g : Good K ms σ H) (p : PostS K ms σ H ms' σ' H') : Kept H H' := by
  refine ⟨fun b xs h => p.keep b _ h fun z => ?_, fun b o u h => p.keep b _ h fun z => ?_⟩
  · obtain ⟨u, e, c⟩ := g.chg z
    rw [h] at e; cases e; exact c
  · obtain ⟨u, e, c⟩ := g.chg z
    rw [h] at e; cases e; exact c
theorem Ow.live {K : PySem.W.Frag} {ms : MS} {σ : St} {H : Hp} {a : Addr} (g : Good K ms σ H) (h : H a = none) : ¬ Ow ms σ a := fun z => by
  obtain ⟨u, e, _⟩ := g.chg z
  rw [h] at e; cases e

def tMS (K : PySem.W.Frag) (W : WX) (m : MSt) : TS := fun D σ H => ∃ ms, Good K ms σ H ∧ Run m ms
  (fun fl ms' => match fl with
    | .nx => ∀ σ' H', PostS K ms σ H ms' σ' H' → D.nx σ' H'
    | .bk => ∀ σ' H', PostS K ms σ H ms' σ' H' → D.bk σ' H'
    | .ct => ∀ σ' H', PostS K ms σ H ms' σ' H' → D.ct σ' H'
    | .rt ev => ∀ v σ' H', PostS K ms σ H ms' σ' H' → EVOk K ms' σ' H H' v ev → D.rt v H')
  (fun x ms' => ∀ cls d σ' H', PostS K ms σ H ms' σ' H' → ExOk K H' x cls d → W cls d σ' H')
abbrev MS1 (X : Cx) (W : WX) (st : Stmt) (m : MSt) : Prop := PS X st (tMS X.K W m)
abbrev MSs (X : Cx) (W : WX) (st : List Stmt) (m : MSt) : Prop := PSs X st (tMS X.K W m)
/-- the wished ends, seen from ms, σ, H -/
def EndK (K : PySem.W.Frag) (D : Ends) (ms : MS) (σ : St) (H : Hp) : Fl → MS → Prop := fun fl ms' => match fl with
    | .nx => ∀ σ' H', PostS K ms σ H ms' σ' H' → D.nx σ' H'
    | .bk => ∀ σ' H', PostS K ms σ H ms' σ' H' → D.bk σ' H'
    | .ct => ∀ σ' H', PostS K ms σ H ms' σ' H' → D.ct σ' H'
    | .rt ev => ∀ v σ' H', PostS K ms σ H ms' σ' H' → EVOk K ms' σ' H H' v ev → D.rt v H'
def ExK (K : PySem.W.Frag) (W : WX) (ms : MS) (σ : St) (H : Hp) : EX → MS → Prop := fun x ms' => ∀ cls d σ' H', PostS K ms σ H ms' σ' H' → ExOk K H' x cls d → W cls d σ' H'
theorem tMS_eq {K : PySem.W.Frag} {W : WX} {m : MSt} {D : Ends} {σ : St} {H : Hp} : tMS K W m D σ H = ∃ ms, Good K ms σ H ∧ Run m ms (EndK K D ms σ H) (ExK K W ms σ H) := rfl
/-- seen from later -/
theorem EndK.from {K : PySem.W.Frag} {D : Ends} {ms ms1 : MS} {σ σ1 : St} {H H1 : Hp} (p : PostS K ms σ H ms1 σ1 H1) : ∀ {fl : Fl} {ms' : MS}, EndK K D ms σ H fl ms' → EndK K D ms1 σ1 H1 fl ms'
  | .nx, _, h => fun σ' H' q => h σ' H' (p.trans q)
  | .bk, _, h => fun σ' H' q => h σ' H' (p.trans q)
  | .ct, _, h => fun σ' H' q => h σ' H' (p.trans q)
  | .rt ev, _, h => fun v σ' H' q o => h v σ' H' (p.trans q) (o.early p.live)
theorem ExK.from {K : PySem.W.Frag} {W : WX} {ms ms1 : MS} {σ σ1 : St} {H H1 : Hp} (p : PostS K ms σ H ms1 σ1 H1) {x : EX} {ms' : MS} (h : ExK K W ms σ H x ms') : ExK K W ms1 σ1 H1 x ms' := fun cls d σ' H' q => h cls d σ' H' (p.trans q)
theorem ExK.e {K : PySem.W.Frag} {W : WX} {ms : MS} {σ : St} {H : Hp} {x : EX} {ms' : MS} (h : ExK K W ms σ H x ms') : ∀ cls d H', PostE K ms σ H ms' H' → ExOk K H' x cls d → W cls d σ H' := fun cls d H' q => h cls d σ H' q.st
/-- a run from later on -/
theorem Run.from {K : PySem.W.Frag} {W : WX} {m : MSt} {D : Ends} {ms ms1 : MS} {σ σ1 : St} {H H1 : Hp} (p : PostS K ms σ H ms1 σ1 H1) (h : Run m ms1 (EndK K D ms σ H) (ExK K W ms σ H)) : tMS K W m D σ1 H1 :=
  ⟨ms1, p.good, h.mono (fun _ _ q => q.from p) fun _ _ q => q.from p⟩

section
variable {X : Cx} {W : WX} {st : Stmt} {sts : List Stmt} {e : Expr} {m n : MSt} {me : M EV} {mc : M Bool} {pos : Pos}
/-! ### blocks -/
def sNx : MSt := M.pure .nx
def sSeq (m n : MSt) : MSt := m.bind fun fl => match fl with
  | .nx => n
  | f => M.pure f
theorem mss_nil : MSs X W [] sNx := PSs.imp pss_nil fun D σ H q => by
  obtain ⟨ms, G, h⟩ := q
  exact h σ H (.refl G)
theorem mss_cons (h1 : MS1 X W st m) (h2 : MSs X W sts n) : MSs X W (st :: sts) (sSeq m n) := PSs.imp (pss_cons h1 h2) fun D σ H q => by
  rw [tMS_eq] at q
  obtain ⟨ms, G, h⟩ := q
  unfold sSeq at h
  rw [Run.bind] at h
  refine ⟨ms, G, h.mono (fun fl ms1 h1 => ?_) fun x ms' h => h⟩
  cases fl with
  | nx => exact fun σ1 H1 p1 => Run.from p1 h1
  | bk => exact h1
  | ct => exact h1
  | rt ev => exact h1
theorem mss_one (h1 : MS1 X W st m) : MSs X W [st] m := pss_one h1
theorem ms_pass : MS1 X W (.Pass pos) sNx := PS.imp ps_pass fun D σ H q => by
  obtain ⟨ms, G, h⟩ := q
  exact h σ H (.refl G)
theorem ms_break : MS1 X W (.Break pos) (M.pure .bk) := PS.imp ps_break fun D σ H q => by
  obtain ⟨ms, G, h⟩ := q
  exact h σ H (.refl G)
theorem ms_continue : MS1 X W (.Continue pos) (M.pure .ct) := PS.imp ps_continue fun D σ H q => by
  obtain ⟨ms, G, h⟩ := q
  exact h σ H (.refl G)
def sExpr (m : M EV) : MSt := m.bind fun _ => M.pure .nx
theorem ms_expr (h : ME X W e me) (hs : swapsWith e none pos.line X.env = pure false) : MS1 X W (.Expr e pos) (sExpr me) := PS.imp (ps_expr h hs) fun D σ H q => by
  rw [tMS_eq] at q
  obtain ⟨ms, G, h⟩ := q
  refine tM_bind G h (fun x ms' z => ExK.e z) fun ev ms1 h1 v H1 p1 o1 => ?_
  exact h1 σ H1 p1.st
def sRet (m : M EV) : MSt := m.bind fun ev => M.pure (.rt ev)
theorem ms_ret (h : ME X W e me) : MS1 X W (.Return (some e) pos) (sRet me) := PS.imp (ps_ret h) fun D σ H q => by
  rw [tMS_eq] at q
  obtain ⟨ms, G, h⟩ := q
  refine tM_bind G h (fun x ms' z => ExK.e z) fun ev ms1 h1 v H1 p1 o1 => ?_
  exact h1 v σ H1 p1.st o1
theorem ms_retN : MS1 X W (.Return none pos) (M.pure (.rt (.val .non))) := PS.imp ps_retN fun D σ H q => by
  obtain ⟨ms, G, h⟩ := q
  refine h .non σ H (.refl G) ?_
  show Rep _ _ _ _
  rw [Rep]
def sIf (c : M Bool) (m n : MSt) : MSt := c.bind fun b => if b = true then m else n
theorem ms_if {a b : List Stmt} (hc : MT X W e mc) (ha : MSs X W a m) (hb : MSs X W b n) : MS1 X W (.If e a b pos) (sIf mc m n) := PS.imp (ps_if hc ha hb) fun D σ H q => by
  rw [tMS_eq] at q
  obtain ⟨ms, G, h⟩ := q
  refine tMT_bind G h (fun x ms' z => ExK.e z) fun b ms1 h1 H1 p1 => ?_
  cases b with
  | true => exact iteT (Run.from p1.st h1)
  | false => exact iteF (Run.from p1.st h1)

/-! ### stores into slots -/
def setS (i : Nat) (s : SV) (ms : MS) : Option MS := match ms[i]? with
  | some (.own true _) => none
  | some _ => some (ms.set i s)
  | none => none
theorem setS_some {i : Nat} {s : SV} {ms ms' : MS} (h : setS i s ms = some ms') : ms' = ms.set i s ∧ i < ms.length ∧ ∀ o, ms[i]? ≠ some (.own true o) := by
  unfold setS at h
  cases q : ms[i]? with
  | none => simp only [q] at h; cases h
  | some t =>
    have hi : i < ms.length := (List.getElem?_eq_some_iff.mp q).1
    cases t with
    | unk => simp only [q] at h; cases h; exact ⟨rfl, hi, fun o z => nomatch z⟩
    | val d => simp only [q] at h; cases h; exact ⟨rfl, hi, fun o z => nomatch z⟩
    | own l o =>
      cases l with
      | true => simp only [q] at h; cases h
      | false => simp only [q] at h; cases h; exact ⟨rfl, hi, fun o z => nomatch z⟩
section
variable {K : PySem.W.Frag} {ms ms' : MS} {σ : St} {H : Hp} {i : Nat} {d : D} {v : V} {o : OV} {a : Addr}
theorem PostS.setVal (g : Good K ms σ H) (h : setS i (.val d) ms = some ms') (r : Rep K H d v) : PostS K ms σ H ms' (σ.set i (some v)) H := by
  obtain ⟨rfl, hi, hl⟩ := setS_some h
  have hσ : i < σ.length := by rw [← g.len]; exact hi
  have own_ne : ∀ {j : Nat} {l : Bool} {o' : OV}, (ms.set i (.val d))[j]? = some (.own l o') → j ≠ i ∧ ms[j]? = some (.own l o') := fun {j l o'} h => by
    by_cases hj : j = i
    · subst hj
      rw [List.getElem?_set_self hi] at h; cases h
    · rw [List.getElem?_set_ne (Ne.symm hj)] at h
      exact ⟨hj, h⟩
  refine ⟨⟨by simp only [List.length_set]; exact g.len, fun j e h => ?_, fun j l o' h => ?_, fun j j' l l' o1 o2 b h1 h2 e1 e2 => ?_⟩, fun _ _ h _ => h, fun _ h => h, fun b z => ?_, fun j o' h => ?_⟩
  · by_cases hj : j = i
    · subst hj
      rw [List.getElem?_set_self hi] at h; cases h
      exact ⟨v, List.getElem?_set_self hσ, r⟩
    · rw [List.getElem?_set_ne (Ne.symm hj)] at h ⊢
      exact g.val j e h
  · obtain ⟨hj, h⟩ := own_ne h
    rw [List.getElem?_set_ne (Ne.symm hj)]
    exact g.own j l o' h
  · obtain ⟨hj1, h1⟩ := own_ne h1
    obtain ⟨hj2, h2⟩ := own_ne h2
    rw [List.getElem?_set_ne (Ne.symm hj1)] at e1
    rw [List.getElem?_set_ne (Ne.symm hj2)] at e2
    exact g.inj j j' l l' o1 o2 b h1 h2 e1 e2
  · obtain ⟨j, l, o', h1, h2⟩ := z
    obtain ⟨hj, h1⟩ := own_ne h1
    rw [List.getElem?_set_ne (Ne.symm hj)] at h2
    exact .inl ⟨j, l, o', h1, h2⟩
  · have hj : i ≠ j := fun z => by subst z; exact hl o' h
    rw [List.getElem?_set_ne hj, List.getElem?_set_ne hj]
    exact ⟨⟨o', h⟩, rfl⟩
theorem PostS.setOwn {H0 : Hp} (g : Good K ms σ H) (h : setS i (.own false o) ms = some ms') (r : OwnAt K H a o) (n : ¬ Ow ms σ a) :
    Good K ms' (σ.set i (some (.ref a))) H ∧ (∀ b, Ow ms' (σ.set i (some (.ref a))) b → Ow ms σ b ∨ b = a) ∧ ∀ (j : Nat) (o' : OV), ms[j]? = some (.own true o') → (∃ o2, ms'[j]? = some (.own true o2)) ∧ (σ.set i (some (.ref a)))[j]? = σ[j]? := by
  obtain ⟨rfl, hi, hl⟩ := setS_some h
  have hσ : i < σ.length := by rw [← g.len]; exact hi
  have own_c : ∀ {j : Nat} {l : Bool} {o' : OV}, (ms.set i (.own false o))[j]? = some (.own l o') → (j = i ∧ o' = o) ∨ (j ≠ i ∧ ms[j]? = some (.own l o')) := fun {j l o'} h => by
    by_cases hj : j = i
    · subst hj
      rw [List.getElem?_set_self hi] at h; cases h
      exact .inl ⟨rfl, rfl⟩
    · rw [List.getElem?_set_ne (Ne.symm hj)] at h
      exact .inr ⟨hj, h⟩
  refine ⟨⟨by simp only [List.length_set]; exact g.len, fun j e h => ?_, fun j l o' h => ?_, fun j j' l l' o1 o2 b h1 h2 e1 e2 => ?_⟩, fun b z => ?_, fun j o' h => ?_⟩
  · have hj : j ≠ i := fun z => by
      subst z
      rw [List.getElem?_set_self hi] at h; cases h
    rw [List.getElem?_set_ne (Ne.symm hj)] at h ⊢
    exact g.val j e h
  · rcases own_c h with ⟨rfl, rfl⟩ | ⟨hj, h⟩
    · exact ⟨a, List.getElem?_set_self hσ, r⟩
    · rw [List.getElem?_set_ne (Ne.symm hj)]
      exact g.own j l o' h
  · rcases own_c h1 with ⟨z1, _⟩ | ⟨hj1, k1⟩
    · rcases own_c h2 with ⟨z2, _⟩ | ⟨hj2, k2⟩
      · exact z1.trans z2.symm
      · rw [z1, List.getElem?_set_self hσ] at e1
        rw [List.getElem?_set_ne (Ne.symm hj2)] at e2
        cases e1
        exact (n ⟨j', l', o2, k2, e2⟩).elim
    · rcases own_c h2 with ⟨z2, _⟩ | ⟨hj2, k2⟩
      · rw [z2, List.getElem?_set_self hσ] at e2
        rw [List.getElem?_set_ne (Ne.symm hj1)] at e1
        cases e2
        exact (n ⟨j, l, o1, k1, e1⟩).elim
      · rw [List.getElem?_set_ne (Ne.symm hj1)] at e1
        rw [List.getElem?_set_ne (Ne.symm hj2)] at e2
        exact g.inj j j' l l' o1 o2 b k1 k2 e1 e2
  · obtain ⟨j, l, o', h1, h2⟩ := z
    rcases own_c h1 with ⟨rfl, _⟩ | ⟨hj, h1⟩
    · rw [List.getElem?_set_self hσ] at h2
      cases h2
      exact .inr rfl
    · rw [List.getElem?_set_ne (Ne.symm hj)] at h2
      exact .inl ⟨j, l, o', h1, h2⟩
  · have hj : i ≠ j := fun z => by subst z; exact hl o' h
    rw [List.getElem?_set_ne hj, List.getElem?_set_ne hj]
    exact ⟨⟨o', h⟩, rfl⟩
end
/-! name = value: what another slot owns is frozen first -/
def mFb (m : M EV) : M EV := m.bind fun ev ms => match ev with
  | .val d => some (.ok (.val d) ms)
  | .new o => some (.ok (.new o) ms)
  | .bor i => match ms[i]? with
    | some (.val d) => some (.ok (.val d) ms)
    | some (.own false o) => some (.ok (.val o.d) (ms.set i (.val o.d)))
    | _ => none
theorem me_fb (h : ME X W e me) : ME X W e (mFb me) := by
  refine PE.imp (pe_fz h) fun σ H Q q => ?_
  obtain ⟨ms, G, r⟩ := q
  refine tM_bind G r (fun x ms' z => z) fun ev ms1 h1 v H1 p1 o1 => ?_
  cases ev with
  | val d => exact .inl (h1 v H1 p1 o1)
  | new o => exact .inl (h1 v H1 p1 o1)
  | bor i =>
    have o1 : σ[i]? = some (some v) := o1
    unfold Run at h1
    cases hi : ms1[i]? with
    | none => simp only [hi] at h1
    | some sv =>
      cases sv with
      | unk => simp only [hi] at h1
      | val d =>
        simp only [hi] at h1
        obtain ⟨v', e, r⟩ := p1.good.val i d hi
        rw [o1] at e; cases e
        exact .inl (h1 _ _ p1 r)
      | own l o =>
        cases l with
        | true => simp only [hi] at h1
        | false =>
          simp only [hi] at h1
          obtain ⟨a, e, oat⟩ := p1.good.own i false o hi
          rw [o1] at e; cases e
          obtain ⟨u, hu, cu⟩ := oat.chg
          exact .inr ⟨a, u, hu, cu, fun ob => h1 _ _ (p1.frzSlot hi o1 hu) (oat.frz hu)⟩
def stE (i : Nat) (ev : EV) (ms : MS) : Option (Res Fl) := match ev with
  | .val d => (match setS i (.val d) ms with
    | some ms' => some (.ok .nx ms')
    | none => none)
  | .new o => (match setS i (.own false o) ms with
    | some ms' => some (.ok .nx ms')
    | none => none)
  | .bor _ => none
def sAsg (i : Nat) (m : M EV) : MSt := (mFb m).bind fun ev => stE i ev
theorem asg_core {i : Nat} {D : Ends} {σ : St} {H : Hp} {ms : MS} {t : TE} (G : Good X.K ms σ H) (h : Run (sAsg i me) ms (EndK X.K D ms σ H) (ExK X.K W ms σ H)) :
    tM X.K W (mFb me) σ H (fun x H1 => gName i x σ H1 D.nx) := by
  refine tM_bind G h (fun x ms' z => ExK.e z) fun ev ms1 h1 v H1 p1 o1 => ?_
  cases ev with
  | bor j => exact h1.elim
  | val d =>
    cases hs : setS i (.val d) ms1 with
    | none => simp only [Run, stE, hs] at h1
    | some ms2 =>
      simp only [Run, stE, hs] at h1
      exact h1 _ _ (p1.st.trans (PostS.setVal p1.good hs o1))
  | new o =>
    cases hs : setS i (.own false o) ms1 with
    | none => simp only [Run, stE, hs] at h1
    | some ms2 =>
      simp only [Run, stE, hs] at h1
      obtain ⟨a, rfl, hn, oat, no⟩ := o1
      obtain ⟨g2, w2, l2⟩ := PostS.setOwn (H0 := H) p1.good hs oat no
      refine h1 _ _ ⟨g2, p1.keep, p1.live, fun b z => ?_, fun j o' hj => ?_⟩
      · rcases w2 b z with z | z
        · exact .inl (p1.ow b z)
        · subst z; exact .inr hn
      · obtain ⟨o2, h2⟩ := p1.lent j o' hj
        exact l2 j o2 h2
theorem ms_asg {i : Nat} {x : Str} {pos' : Pos} (hN : X.N.Nodup) (hi : X.N[i]? = some x) (hx : Loc X.env.scope x) (he : ME X W e me) (hs : swapsWith e (some (.Name x pos')) pos.line X.env = pure false) (hf : X.fn x = true ∨ X.env.scope.names.lookup x = some .local) :
    MS1 X W (.Assign [.Name x pos'] e pos) (sAsg i me) := PS.imp (ps_set hN hi hx (me_fb he) hs hf) fun D σ H q => by
  rw [tMS_eq] at q
  obtain ⟨ms, G, h⟩ := q
  exact asg_core (t := fun _ _ _ => True) G h

/-! ### targets -/
/-- slots that are not in S stand as they stood -/
def OffS (S : List Nat) (ms : MS) (σ : St) (ms' : MS) (σ' : St) : Prop := (∀ j, j ∉ S → σ'[j]? = σ[j]? ∧ ms'[j]? = ms[j]?) ∧ (∀ (j : Nat) (l : Bool) (o : OV), j ∈ S → ms'[j]? ≠ some (.own l o)) ∧ σ'.length = σ.length
/-- a target's store, as a plain function; S: its slots -/
def tMG (K : PySem.W.Frag) (S : List Nat) (f : D → MS → Option MS) : TG := fun v σ H Q => ∃ d ms ms', Good K ms σ H ∧ Rep K H d v ∧ f d ms = some ms' ∧ ∀ σ', PostS K ms σ H ms' σ' H → OffS S ms σ ms' σ' → Q σ' H
/-- .. of a list or dict that may still change -/
def tMGr (K : PySem.W.Frag) (S : List Nat) (f : D → MS → Option MS) : TG := fun v σ H Q => ∃ d ms ms', Good K ms σ H ∧ RdAt K H d v ∧ f d ms = some ms' ∧ ∀ σ', PostS K ms σ H ms' σ' H → OffS S ms σ ms' σ' → Q σ' H
def tMGs (K : PySem.W.Frag) (S : List Nat) (f : List D → MS → Option MS) : TGs := fun vs σ H Q => ∃ ds ms ms', Good K ms σ H ∧ Reps K H ds vs ∧ f ds ms = some ms' ∧ ∀ σ', PostS K ms σ H ms' σ' H → OffS S ms σ ms' σ' → Q σ' H
abbrev MGf (X : Cx) (tg : Expr) (S : List Nat) (f : D → MS → Option MS) : Prop := PG X tg (tMG X.K S f)
abbrev MGr (X : Cx) (tg : Expr) (S : List Nat) (f : D → MS → Option MS) : Prop := PG X tg (tMGr X.K S f)
abbrev MGfs (X : Cx) (tgs : List Expr) (S : List Nat) (f : List D → MS → Option MS) : Prop := PGs X tgs (tMGs X.K S f)
theorem PG.imp {X : Cx} {tg : Expr} {t t' : TG} (h : PG X tg t) (i : ∀ v σ H Q, t' v σ H Q → t v σ H Q) : PG X tg t' := ⟨fun pins s σ H v u Q I r q => h.run pins s σ H v u Q I r (i v σ H Q q)⟩
theorem PGs.imp {X : Cx} {tg : List Expr} {t t' : TGs} (h : PGs X tg t) (i : ∀ v σ H Q, t' v σ H Q → t v σ H Q) : PGs X tg t' := ⟨fun pins s σ H v u Q I r q => h.run pins s σ H v u Q I r (i v σ H Q q)⟩
def gNm (i : Nat) (d : D) (ms : MS) : Option MS := setS i (.val d) ms
theorem mg_name {i : Nat} {x : Str} (hN : X.N.Nodup) (hi : X.N[i]? = some x) (hx : Loc X.env.scope x) (hf : X.fn x = true ∨ X.env.scope.names.lookup x = some .local) : MGf X (.Name x pos) [i] (gNm i) :=
  PG.imp (pg_name hN hi hx hf) fun v σ H Q ⟨d, ms, ms', g, r, h, q⟩ => by
    obtain ⟨e, hl, _⟩ := setS_some h
    refine q _ (PostS.setVal g h r) ⟨fun j hj => ?_, fun j l o hj => ?_, List.length_set⟩
    · have ne : i ≠ j := fun z => hj (by rw [z]; exact List.mem_cons_self)
      rw [e]
      exact ⟨List.getElem?_set_ne ne, List.getElem?_set_ne ne⟩
    · have ej : j = i := by simpa using hj
      rw [e, ej, List.getElem?_set_self hl]
      exact fun z => nomatch z
def gsNil : List D → MS → Option MS := fun ds ms => match ds with
  | [] => some ms
  | _ => none
def gsCons (f : D → MS → Option MS) (g : List D → MS → Option MS) : List D → MS → Option MS := fun ds ms => match ds with
  | d :: r => (match f d ms with
    | some ms' => g r ms'
    | none => none)
  | [] => none
theorem mgs_nil : MGfs X [] [] gsNil := PGs.imp pgs_nil fun vs σ H Q ⟨ds, ms, ms', g, r, h, q⟩ => by
  cases ds with
  | nil =>
    rw [Reps] at r
    cases h
    exact ⟨r, q _ (.refl g) ⟨fun _ _ => ⟨rfl, rfl⟩, (fun _ _ _ z => nomatch z), rfl⟩⟩
  | cons d ds => cases h
theorem mgs_cons {t : Expr} {ts : List Expr} {S T : List Nat} {f : D → MS → Option MS} {g : List D → MS → Option MS} (h1 : MGf X t S f) (h2 : MGfs X ts T g) (hs : (assignEach (t :: ts) X.env).map (·.2) = assign t X.env :: (assignEach ts X.env).map (·.2)) : MGfs X (t :: ts) (S ++ T) (gsCons f g) := by
  refine PGs.imp (pgs_cons h1 h2 hs) fun vs σ H Q ⟨ds, ms, ms', G, r, h, q⟩ => ?_
  cases ds with
  | nil => cases h
  | cons d ds =>
    rw [Reps] at r
    obtain ⟨x, xs, rfl, r1, r2⟩ := r
    cases hf : f d ms with
    | none => simp only [gsCons, hf] at h; cases h
    | some ms1 =>
      simp only [gsCons, hf] at h
      refine ⟨x, xs, rfl, d, ms, ms1, G, r1, hf, fun σ1 s1 o1 => ?_⟩
      refine ⟨ds, ms1, ms', s1.good, r2, h, fun σ2 s2 o2 => q σ2 (s1.trans s2) ⟨fun j hj => ?_, fun j l o hj => ?_, o2.2.2.trans o1.2.2⟩⟩
      · have a := o2.1 j fun z => hj (List.mem_append_right _ z)
        have b := o1.1 j fun z => hj (List.mem_append_left _ z)
        exact ⟨a.1.trans b.1, a.2.trans b.2⟩
      · by_cases hT : j ∈ T
        · exact o2.2.1 j l o hT
        · rw [(o2.1 j hT).2]
          rcases List.mem_append.mp hj with z | z
          · exact o1.2.1 j l o z
          · exact absurd z hT
theorem PG.or {t u : TG} {tg : Expr} (h1 : PG X tg t) (h2 : PG X tg u) : PG X tg (fun v σ H Q => t v σ H Q ∨ u v σ H Q) :=
  ⟨fun pins s σ H v w Q I r h => h.elim (fun h => h1.run pins s σ H v w Q I r h) fun h => h2.run pins s σ H v w Q I r h⟩
def gTp (n : Nat) (g : List D → MS → Option MS) (d : D) (ms : MS) : Option MS := match d with
  | .tup ds => if ds.length = n then g ds ms else none
  | .lst ds => if ds.length = n then g ds ms else none
  | _ => none
theorem mg_tup {ts : List Expr} {k n : Nat} {S : List Nat} {g : List D → MS → Option MS} (hc : X.calm = true) (h : MGfs X ts S g) (hn : (assignEach ts X.env).length = n) (hst : (assignEach ts X.env).findIdx? (·.1) = none) : MGr X (.Tuple ts k pos) S (gTp n g) := by
  refine PG.imp (PG.or (pg_tup hc h hn hst) (pg_lst hc h hn hst)) fun v σ H Q ⟨d, ms, ms', G, r, h, kk⟩ => ?_
  cases d with
  | tup ds =>
    have r : Rep X.K H (.tup ds) v := r
    rw [Rep] at r
    obtain ⟨a, xs, rfl, r1, r2⟩ := r
    unfold gTp at h
    simp only at h
    split at h
    · rename_i hl
      exact .inl ⟨a, xs, rfl, .of r1, by rw [← r2.length]; exact hl, ds, ms, ms', G, r2, h, kk⟩
    · cases h
  | lst ds =>
    obtain ⟨a, xs, rfl, r1, r2⟩ := r
    unfold gTp at h
    simp only at h
    split at h
    · rename_i hl
      exact .inr ⟨a, xs, rfl, .inl r1, by rw [← r2.length]; exact hl, ds, ms, ms', G, r2, h, kk⟩
    · cases h
  | _ => cases h
theorem MGr.f {tg : Expr} {S : List Nat} {f : D → MS → Option MS} (h : MGr X tg S f) : MGf X tg S f := PG.imp h fun v σ H Q ⟨d, ms, ms', G, r, z⟩ => ⟨d, ms, ms', G, .of r, z⟩
/-- a, b = e -/
def sUnp (f : D → MS → Option MS) (m : M EV) : MSt := m.bind fun ev ms => match rd ms ev with
  | some d => (match f d ms with
    | some ms' => some (.ok .nx ms')
    | none => none)
  | none => none
theorem ms_unp {tg : Expr} {f : D → MS → Option MS} (he : ME X W e me) {S : List Nat} (hg : MGr X tg S f) (hs : swapsWithSole [tg] e pos.line X.env = pure false) (hw : swappedStores [tg] e X.env = pure none)
    (h1 : (assignEach [tg] X.env).map (·.2) = [assign tg X.env]) : MS1 X W (.Assign [tg] e pos) (sUnp f me) := by
  refine PS.imp (ps_asg he hg hs hw h1) fun D σ H z => ?_
  rw [tMS_eq] at z
  obtain ⟨ms, G, h⟩ := z
  refine tM_bind G h (fun x ms' z => ExK.e z) fun ev ms1 h1 v H1 p1 o1 => ?_
  cases hd : rd ms1 ev with
  | none => simp only [Run, hd] at h1
  | some d =>
    cases hf : f d ms1 with
    | none => simp only [Run, hd, hf] at h1
    | some ms2 =>
      simp only [Run, hd, hf] at h1
      exact ⟨d, ms1, ms2, p1.good, rd_ok p1.good o1 hd, hf, fun σ' s _ => h1 σ' H1 (p1.st.trans s)⟩
end
end Fw
set_option Elab.async false
set_option linter.all false
set_option maxRecDepth 100000
set_option maxHeartbeats 2000000
/-! Fw E: what is walked, for, while, list comprehensions. -/
namespace Fw
open PySem L2

/-! ### while -/
def wh (k : MSt) : Fl → MSt
  | .nx => k
  | .ct => k
  | .bk => M.pure .nx
  | .rt v => M.pure (.rt v)
def whileN (c : M Bool) (b : MSt) : Nat → MSt
  | 0 => fun _ => none
  | n + 1 => c.bind fun t => if t = true then b.bind (wh (whileN c b n)) else M.pure .nx
theorem bind_none {α β : Type} {m : M α} {f : α → M β} {ms : MS} (h : m ms = none) : m.bind f ms = none := by unfold M.bind; rw [h]
theorem bind_exc {α β : Type} {m : M α} {f : α → M β} {ms ms' : MS} {x : EX} (h : m ms = some (.exc x ms')) : m.bind f ms = some (.exc x ms') := by unfold M.bind; rw [h]
theorem bind_ok {α β : Type} {m : M α} {f : α → M β} {ms ms' : MS} {a : α} (h : m ms = some (.ok a ms')) : m.bind f ms = f a ms' := by unfold M.bind; rw [h]
/-- what gives an answer with k gives it with k' -/
theorem bind_imp {α β : Type} {m : M α} {f f' : α → M β} {ms : MS} {r : Res β} (h : m.bind f ms = some r) (hf : ∀ a ms', m ms = some (.ok a ms') → f a ms' = some r → f' a ms' = some r) : m.bind f' ms = some r := by
  cases q : m ms with
  | none => rw [bind_none q] at h; cases h
  | some x =>
    cases x with
    | exc x ms' => rw [bind_exc q] at h ⊢; exact h
    | ok a ms' => rw [bind_ok q] at h ⊢; exact hf a ms' q h
theorem wh_imp {k k' : MSt} {fl : Fl} {ms : MS} {r : Res Fl} (h : wh k fl ms = some r) (hk : k ms = some r → k' ms = some r) : wh k' fl ms = some r := by
  cases fl with
  | nx => exact hk h
  | ct => exact hk h
  | bk => exact h
  | rt v => exact h
theorem whileN_mono {c : M Bool} {b : MSt} : ∀ {n : Nat} {ms : MS} {r : Res Fl}, whileN c b n ms = some r → whileN c b (n + 1) ms = some r
  | 0, _, _, h => nomatch h
  | n + 1, ms, r, h => by
    rw [whileN] at h ⊢
    refine bind_imp h fun t ms1 _ h => ?_
    cases t with
    | false => exact h
    | true => exact bind_imp h fun fl ms2 _ h => wh_imp h whileN_mono
theorem whileN_le {c : M Bool} {b : MSt} {n m : Nat} {ms : MS} {r : Res Fl} (h : whileN c b n ms = some r) (l : n ≤ m) : whileN c b m ms = some r := by
  induction l with
  | refl => exact h
  | step _ ih => exact whileN_mono ih
open Classical in
noncomputable def sWhile (c : M Bool) (b : MSt) : MSt := fun ms => if h : ∃ r, ∃ n, whileN c b n ms = some r then some h.choose else none
theorem sWhile_of {c : M Bool} {b : MSt} {n : Nat} {ms : MS} {r : Res Fl} (h : whileN c b n ms = some r) : sWhile c b ms = some r := by
  have ex : ∃ r, ∃ n, whileN c b n ms = some r := ⟨r, n, h⟩
  unfold sWhile
  rw [dif_pos ex]
  obtain ⟨m, hm⟩ := ex.choose_spec
  have h1 := whileN_le h (Nat.le_max_left n m)
  have h2 := whileN_le hm (Nat.le_max_right n m)
  rw [h1] at h2
  exact h2.symm
theorem of_sWhile {c : M Bool} {b : MSt} {ms : MS} {r : Res Fl} (h : sWhile c b ms = some r) : ∃ n, whileN c b n ms = some r := by
  unfold sWhile at h
  split at h
  · rename_i ex
    cases h
    exact ex.choose_spec
  · cases h
/-- one turn -/
theorem sWhile_eq {c : M Bool} {b : MSt} : sWhile c b = c.bind fun t => if t = true then b.bind (wh (sWhile c b)) else M.pure .nx := by
  funext ms
  have h1 : ∀ r, sWhile c b ms = some r → (c.bind fun t => if t = true then b.bind (wh (sWhile c b)) else M.pure .nx) ms = some r := fun r h => by
    obtain ⟨n, hn⟩ := of_sWhile h
    cases n with
    | zero => cases hn
    | succ n =>
      rw [whileN] at hn
      refine bind_imp hn fun t ms1 _ h => ?_
      cases t with
      | false => exact h
      | true => exact bind_imp h fun fl ms2 _ h => wh_imp h sWhile_of
  have h2 : ∀ r, (c.bind fun t => if t = true then b.bind (wh (sWhile c b)) else M.pure .nx) ms = some r → sWhile c b ms = some r := fun r h => by
    have : ∃ n, whileN c b (n + 1) ms = some r := by
      cases q : c ms with
      | none => rw [bind_none q] at h; cases h
      | some x =>
        cases x with
        | exc x ms' => exact ⟨0, by rw [whileN, bind_exc q]; rw [bind_exc q] at h; exact h⟩
        | ok t ms1 =>
          rw [bind_ok q] at h
          cases t with
          | false => exact ⟨0, by rw [whileN, bind_ok q]; exact h⟩
          | true =>
            have h : b.bind (wh (sWhile c b)) ms1 = some r := h
            cases qb : b ms1 with
            | none => rw [bind_none qb] at h; cases h
            | some y =>
              cases y with
              | exc x ms' => exact ⟨0, by rw [whileN, bind_ok q]; rw [bind_exc qb] at h; rw [if_pos rfl, bind_exc qb]; exact h⟩
              | ok fl ms2 =>
                rw [bind_ok qb] at h
                cases fl with
                | bk => exact ⟨0, by rw [whileN, bind_ok q, if_pos rfl, bind_ok qb]; exact h⟩
                | rt v => exact ⟨0, by rw [whileN, bind_ok q, if_pos rfl, bind_ok qb]; exact h⟩
                | nx =>
                  obtain ⟨n, hn⟩ := of_sWhile (show sWhile c b ms2 = some r from h)
                  exact ⟨n, by rw [whileN, bind_ok q, if_pos rfl, bind_ok qb]; exact hn⟩
                | ct =>
                  obtain ⟨n, hn⟩ := of_sWhile (show sWhile c b ms2 = some r from h)
                  exact ⟨n, by rw [whileN, bind_ok q, if_pos rfl, bind_ok qb]; exact hn⟩
    obtain ⟨n, hn⟩ := this
    exact sWhile_of hn
  cases q : sWhile c b ms with
  | some r => exact (h1 r q).symm
  | none =>
    cases q2 : (c.bind fun t => if t = true then b.bind (wh (sWhile c b)) else M.pure .nx) ms with
    | none => rfl
    | some r => rw [h2 r q2] at q; cases q
theorem EndK.wh {K : PySem.W.Frag} {W : WX} {D : Ends} {ms ms1 : MS} {σ σ1 : St} {H H1 : Hp} {k : MSt} {N : St → Hp → Prop} (p : PostS K ms σ H ms1 σ1 H1) {fl : Fl} {ms2 : MS} (h : Run (wh k fl) ms2 (EndK K D ms σ H) (ExK K W ms σ H))
    (hN : ∀ σ2 H2, PostS K ms1 σ1 H1 ms2 σ2 H2 → Run k ms2 (EndK K D ms σ H) (ExK K W ms σ H) → N σ2 H2) : EndK K { D with nx := N, ct := N, bk := D.nx } ms1 σ1 H1 fl ms2 := by
  cases fl with
  | nx => exact fun σ' H' q => hN σ' H' q h
  | ct => exact fun σ' H' q => hN σ' H' q h
  | bk => exact fun σ' H' q => h σ' H' (p.trans q)
  | rt v => exact fun v' σ' H' q o => h v' σ' H' (p.trans q) (o.early p.live)
section
variable {X : Cx} {W : WX} {e : Expr} {body : List Stmt} {m : MSt} {mc : M Bool} {pos : Pos}
theorem ms_while (hp : PassesOwn (model X.prog X.w) X.A X.env X.xe) (hc : MT X W e mc) (hb : MSs X W body m) : MS1 X W (.While e body [] pos) (sWhile mc m) := PS.imp (ps_while hp hc hb) fun D σ H q => by
  rw [tMS_eq] at q
  obtain ⟨ms, G, h⟩ := q
  have hn : ∃ n, Run (whileN mc m n) ms (EndK X.K D ms σ H) (ExK X.K W ms σ H) := by
    unfold Run at h
    cases q : sWhile mc m ms with
    | none => rw [q] at h; exact h.elim
    | some r =>
      rw [q] at h
      obtain ⟨n, hn⟩ := of_sWhile q
      refine ⟨n, ?_⟩
      unfold Run
      rw [hn]
      exact h
  obtain ⟨n, hn⟩ := hn
  refine ⟨fun k σ' H' => ∃ ms', PostS X.K ms σ H ms' σ' H' ∧ Run (whileN mc m k) ms' (EndK X.K D ms σ H) (ExK X.K W ms σ H), ⟨n, ms, .refl G, hn⟩, ?_⟩
  rintro k σ1 H1 ⟨ms1, p1, h1⟩
  cases k with
  | zero => exact h1.elim
  | succ k =>
    rw [whileN] at h1
    refine tMT_bind p1.good h1 (fun x ms' z => (ExK.from p1 z).e) fun b ms2 h2 H2 p2 => ?_
    have p12 := p1.trans p2.st
    cases b with
    | false => exact iteF (h2 σ1 H2 p12)
    | true =>
      refine iteT ⟨fun σ' H' => ∃ ms', PostS X.K ms σ H ms' σ' H' ∧ Run (whileN mc m k) ms' (EndK X.K D ms σ H) (ExK X.K W ms σ H), fun σ' H' z => ⟨k, Nat.lt_succ_self k, z⟩, ?_⟩
      have h3 : Run (m.bind (wh (whileN mc m k))) ms2 (EndK X.K D ms σ H) (ExK X.K W ms σ H) := h2
      rw [Run.bind] at h3
      exact ⟨ms2, p2.good, h3.mono (fun fl ms3 h3 => EndK.wh p12 h3 fun σ2 H3 p3 h4 => ⟨ms3, p12.trans p3, h4⟩) fun x ms' z => ExK.from p12 z⟩
end

/-! ### what is walked -/
def ItOk (K : PySem.W.Frag) (H : Hp) (J : It) (ds : List D) : Prop := ds.length ≤ sizeLine ∧ ∀ H', Kept H H' → (∀ (i : Nat) d, ds[i]? = some d → J.go i H' ∧ ∀ x H'', J.yld i H' x H'' → Same H' H'' ∧ Rep K H'' d x) ∧ J.stop ds.length H'
def tMI (K : PySem.W.Frag) (W : WX) (m : M (List D)) : TI := fun σ H R => ∃ ms, Good K ms σ H ∧ Run m ms
  (fun ds ms' => ∀ J H', PostE K ms σ H ms' H' → ItOk K H' J ds → R J H')
  (fun x ms' => ∀ cls d H', PostE K ms σ H ms' H' → ExOk K H' x cls d → W cls d σ H')
abbrev MI (X : Cx) (W : WX) (tg it : Expr) (m : M (List D)) : Prop := PI X tg it (tMI X.K W m)
theorem PI.imp {X : Cx} {tg it : Expr} {t t' : TI} (h : PI X tg it t) (i : ∀ σ H Q, t' σ H Q → t σ H Q) : PI X tg it t' := ⟨fun pins s σ H Q I q => h.run pins s σ H Q I (i σ H Q q)⟩
theorem PI.or {X : Cx} {tg it : Expr} {t u : TI} (h1 : PI X tg it t) (h2 : PI X tg it u) : PI X tg it (fun σ H R => t σ H R ∨ u σ H R) :=
  ⟨fun pins s σ H R I h => h.elim (fun h => h1.run pins s σ H R I h) fun h => h2.run pins s σ H R I h⟩
/-- a list's, a tuple's length is within the line -/
def tLen (K : PySem.W.Frag) (t : TE) : TE := fun σ H Q => t σ H fun v H1 => (∀ a xs, v = .ref a → SqL K H1 a xs ∨ SqT K H1 a xs → xs.length ≤ sizeLine) → Q v H1
theorem pe_len {X : Cx} {e : Expr} {t : TE} (h : PE X e t) : PE X e (tLen X.K t) := by
  refine ⟨fun pins s σ H Q I q => thn (h.run pins s σ H _ I q) fun u s1 ⟨v, H1, I1, r1, q1⟩ => ⟨v, H1, I1, r1, q1 fun a xs e hs => ?_⟩⟩
  rcases hs with hs | hs
  · obtain ⟨_, _, _, hz⟩ := I1.list hs; exact hz
  · obtain ⟨_, _, _, hz⟩ := I1.tuple hs; exact hz
def itemsD : EV → Option (List D)
  | .val (.tup ds) => some ds
  | .val (.ktp ds) => some ds
  | .val (.lst ds) => some ds
  | .val (.kls ds) => some ds
  | _ => none
def mSeq (m : M EV) : M (List D) := (mFz m).bind fun ev => M.lift (itemsD ev)
theorem reps_at {K : PySem.W.Frag} {H : Hp} : ∀ {ds : List D} {xs : List V} {i : Nat} {d : D}, Reps K H ds xs → ds[i]? = some d → ∃ x, xs[i]? = some x ∧ Rep K H d x
  | [], _, _, _, _, e => by simp at e
  | d' :: ds, xs, i, d, h, e => by
    rw [Reps] at h
    obtain ⟨x, r, rfl, h1, h2⟩ := h
    cases i with
    | zero =>
      simp at e; subst e
      exact ⟨x, rfl, h1⟩
    | succ i =>
      obtain ⟨y, e1, e2⟩ := reps_at (i := i) h2 (by simpa using e)
      exact ⟨y, by simpa using e1, e2⟩
section
variable {X : Cx} {W : WX} {e : Expr} {m : M EV} {tg : Expr} {pos : Pos}
theorem mi_seq (h : ME X W e m) : MI X W tg e (mSeq m) := by
  have hp := pe_len (me_fz h)
  refine PI.imp (PI.or (pi_tup hp) (pi_list hp)) fun σ H R q => ?_
  obtain ⟨ms, G, r⟩ := q
  unfold mSeq at r
  rw [Run.bind] at r
  have key : ∀ (T : VK), (∀ ev ms', (∀ ds, itemsD ev = some ds → ∀ J H', PostE X.K ms σ H ms' H' → ItOk X.K H' J ds → R J H') → ∀ v H', PostE X.K ms σ H ms' H' → EVOk X.K ms' σ H H' v ev → T v H') → True := fun _ _ => trivial
  -- which of the two
  unfold Run at r
  cases hm : mFz m ms with
  | none => rw [hm] at r; exact r.elim
  | some rm =>
    rw [hm] at r
    have ex : ∀ {x : EX} {ms' : MS}, rm = .exc x ms' → ∀ (T : VK), tM X.K W (mFz m) σ H T := fun {x ms'} e T => ⟨ms, G, by
      unfold Run; rw [hm, e]; subst e; exact r⟩
    cases rm with
    | exc x ms' => exact .inl (ex rfl _)
    | ok ev ms1 =>
      have go : ∀ (T : VK), (∀ v H', PostE X.K ms σ H ms1 H' → EVOk X.K ms1 σ H H' v ev → T v H') → tM X.K W (mFz m) σ H T := fun T t => ⟨ms, G, by unfold Run; rw [hm]; exact t⟩
      obtain ⟨ds, e1, k⟩ := Run.lift r
      cases ev with
      | new o => cases e1
      | bor i => cases e1
      | val d =>
        cases d with
        | tup ds' =>
          cases e1
          refine .inl (go _ fun v H1 p1 o1 hlen => ?_)
          have o1 : Rep X.K H1 (.tup ds) v := o1
          rw [Rep] at o1
          obtain ⟨a, xs, rfl, r1, r2⟩ := o1
          have r1 : SqT X.K H1 a xs := .of r1
          refine ⟨a, rfl, ⟨xs, r1⟩, k _ H1 p1 ⟨by rw [r2.length]; exact hlen a xs rfl (.inr r1), fun H' kk => ?_⟩⟩
          have r1' := kk.sqT r1
          refine ⟨fun i d hd => ?_, ⟨xs, r1', by rw [r2.length]; exact Nat.le_refl _⟩⟩
          obtain ⟨x, ex, rx⟩ := reps_at (Reps.mono kk _ _ r2) hd
          refine ⟨⟨xs, x, r1', ex⟩, fun y H'' hy => ?_⟩
          obtain ⟨e2, e3⟩ := hy
          subst e2
          have := (e3 xs r1').symm.trans ex
          cases this
          exact ⟨.refl _, rx⟩
        | ktp ds' =>
          cases e1
          refine .inl (go _ fun v H1 p1 o1 hlen => ?_)
          have o1 : Rep X.K H1 (.ktp ds) v := o1
          rw [Rep] at o1
          obtain ⟨a, xs, rfl, r1, r2⟩ := o1
          have r1 : SqT X.K H1 a xs := r1.seq
          refine ⟨a, rfl, ⟨xs, r1⟩, k _ H1 p1 ⟨by rw [r2.length]; exact hlen a xs rfl (.inr r1), fun H' kk => ?_⟩⟩
          have r1' := kk.sqT r1
          refine ⟨fun i d hd => ?_, ⟨xs, r1', by rw [r2.length]; exact Nat.le_refl _⟩⟩
          obtain ⟨x, ex, rx⟩ := reps_at (Reps.mono kk _ _ r2) hd
          refine ⟨⟨xs, x, r1', ex⟩, fun y H'' hy => ?_⟩
          obtain ⟨e2, e3⟩ := hy
          subst e2
          have := (e3 xs r1').symm.trans ex
          cases this
          exact ⟨.refl _, rx⟩
        | lst ds' =>
          cases e1
          refine .inr (go _ fun v H1 p1 o1 hlen => ?_)
          have o1 : Rep X.K H1 (.lst ds) v := o1
          rw [Rep] at o1
          obtain ⟨a, xs, rfl, r1z, r2⟩ := o1
          have r1 : SqL X.K H1 a xs := r1z.seq
          refine ⟨a, rfl, ⟨xs, r1⟩, k _ H1 p1 ⟨by rw [r2.length]; exact hlen a xs rfl (.inl r1), fun H' kk => ?_⟩⟩
          have r1' : SqL X.K H' a xs := (kk.sqZ r1z).seq
          refine ⟨fun i d hd => ?_, ⟨xs, r1', by rw [r2.length]; exact Nat.le_refl _⟩⟩
          obtain ⟨x, ex, rx⟩ := reps_at (Reps.mono kk _ _ r2) hd
          refine ⟨⟨xs, x, r1', ex⟩, fun y H'' hy => ?_⟩
          obtain ⟨e2, e3⟩ := hy
          subst e2
          have := (e3 xs r1').symm.trans ex
          cases this
          exact ⟨.refl _, rx⟩
        | kls ds' =>
          cases e1
          refine .inr (go _ fun v H1 p1 o1 hlen => ?_)
          have o1 : Rep X.K H1 (.kls ds) v := o1
          rw [Rep] at o1
          obtain ⟨a, xs, rfl, r1z, r2⟩ := o1
          have r1 : SqL X.K H1 a xs := r1z.seq
          refine ⟨a, rfl, ⟨xs, r1⟩, k _ H1 p1 ⟨by rw [r2.length]; exact hlen a xs rfl (.inl r1), fun H' kk => ?_⟩⟩
          have r1' : SqL X.K H' a xs := r1z.seq
          refine ⟨fun i d hd => ?_, ⟨xs, r1', by rw [r2.length]; exact Nat.le_refl _⟩⟩
          obtain ⟨x, ex, rx⟩ := reps_at (Reps.mono kk _ _ r2) hd
          refine ⟨⟨xs, x, r1', ex⟩, fun y H'' hy => ?_⟩
          obtain ⟨e2, e3⟩ := hy
          subst e2
          have := (e3 xs r1').symm.trans ex
          cases this
          exact ⟨.refl _, rx⟩
        | _ => cases e1
/-! ranges -/
def rgL (lo : Int) (n : Nat) : List D := (List.range n).map fun i => .int (lo + (i : Nat))
theorem itr_ok {K : PySem.W.Frag} {H : Hp} {lo : Int} {n : Nat} (h : n ≤ 16777216) : ItOk K H (Itr lo n) (rgL lo n) := by
  have hl : (rgL lo n).length = n := by unfold rgL; rw [List.length_map, List.length_range]
  refine ⟨by rw [hl, sizeLine_eq]; exact h, fun H' _ => ⟨fun i d hd => ?_, by rw [hl]; exact Nat.le_refl n⟩⟩
  have hi : i < n := by rw [← hl]; exact (List.getElem?_eq_some_iff.mp hd).1
  have ed : d = .int (lo + (i : Nat)) := by
    unfold rgL at hd
    rw [List.getElem?_map, List.getElem?_range hi] at hd
    exact (Option.some.inj hd).symm
  refine ⟨hi, fun x H'' hy => ?_⟩
  obtain ⟨e1, e2⟩ := hy
  subst e1 e2 ed
  refine ⟨.refl _, ?_⟩
  rw [Rep]
theorem repInt {K : PySem.W.Frag} {H : Hp} {i : Int} {v : V} (h : Rep K H (.int i) v) : v = .int i := by
  rw [Rep] at h
  exact h
/-- a number -/
def mI (m : M EV) : M Int := m.bind fun x => M.lift (match x with
  | .val (.int i) => some i
  | _ => none)
theorem tM_int {K : PySem.W.Frag} {α : Type} {m : M EV} {f : Int → M α} {ms : MS} {σ : St} {H : Hp} {k : α → MS → Prop} {xk : EX → MS → Prop} {R : VK} (g : Good K ms σ H) (h : Run ((mI m).bind f) ms k xk)
    (hx : ∀ x ms', xk x ms' → ∀ cls d H', PostE K ms σ H ms' H' → ExOk K H' x cls d → W cls d σ H')
    (hk : ∀ i ms', Run (f i) ms' k xk → ∀ H', PostE K ms σ H ms' H' → R (.int i) H') : tM K W m σ H R := by
  unfold mI at h
  rw [Run.bind] at h
  refine tM_bind g h hx fun ev ms1 h1 v H1 p1 o1 => ?_
  obtain ⟨i, e, q⟩ := Run.lift h1
  cases ev with
  | new o => cases e
  | bor i => cases e
  | val d =>
    cases d with
    | int j =>
      cases e
      rw [repInt (show Rep K H1 (.int _) v from o1)]
      exact hk _ _ q H1 p1
    | _ => cases e
def mRg1 (a : M EV) : M (List D) := (mI a).bind fun j => M.lift (if -16777216 ≤ j ∧ j ≤ 16777216 then some (rgL 0 j.toNat) else none)
def mRg2 (a b : M EV) : M (List D) := (mI a).bind fun i => (mI b).bind fun j => M.lift (if -16777216 ≤ i ∧ i ≤ 16777216 ∧ -16777216 ≤ j ∧ j ≤ 16777216 ∧ j - i ≤ 16777216 then some (rgL i (j - i).toNat) else none)
/-- downward by ones -/
def rgD (hi : Int) (n : Nat) : List D := (List.range n).map fun i => .int (hi - (i : Nat))
def mRg3 (a b c : M EV) : M (List D) := (mI a).bind fun i => (mI b).bind fun j => (mI c).bind fun k => M.lift (if k = -1 ∧ -16777216 ≤ i ∧ i ≤ 16777216 ∧ -16777216 ≤ j ∧ j ≤ 16777216 ∧ i - j ≤ 16777216 then some (rgD i (i - j).toNat) else none)
variable {a b c : Expr} {ma mb mc : M EV} {p : Pos}
theorem mi_range1 (hg : Gl X "range") (hm : X.mg "range" = none) (ha : ME X W a ma) (hs : starEach [a] X.env = [(false, eval a X.env)]) : MI X W tg (.Call (.Name "range" p) [a] [] pos) (mRg1 ma) := by
  refine PI.imp (pi_range1 hg hm (pa_cons ha pa_nil hs) hs) fun σ H R q => ?_
  obtain ⟨ms, G, h⟩ := q
  refine tM_int G h (fun x ms' z => z) fun j ms1 h1 H1 p1 => ?_
  obtain ⟨ds, e, k⟩ := Run.lift h1
  split at e
  · rename_i hj
    cases e
    exact ⟨j, rfl, by omega, by omega, k _ H1 p1 (itr_ok (by omega))⟩
  · cases e
theorem mi_range2 (hg : Gl X "range") (hm : X.mg "range" = none) (ha : ME X W a ma) (hb : ME X W b mb) (hs : starEach [a, b] X.env = [(false, eval a X.env), (false, eval b X.env)]) (hs2 : starEach [b] X.env = [(false, eval b X.env)]) : MI X W tg (.Call (.Name "range" p) [a, b] [] pos) (mRg2 ma mb) := by
  refine PI.imp (pi_range2 hg hm (pa_cons ha (pa_cons hb pa_nil hs2) (by rw [hs, hs2])) hs hs2) fun σ H R q => ?_
  obtain ⟨ms, G, h⟩ := q
  refine tM_int G h (fun x ms' z => z) fun i ms1 h1 H1 p1 => ?_
  refine tM_int p1.good h1 (fun x ms' z cls d H' p => z cls d H' (p1.trans p)) fun j ms2 h2 H2 p2 => ?_
  obtain ⟨ds, e, k⟩ := Run.lift h2
  split at e
  · rename_i hj
    cases e
    exact ⟨i, j, rfl, by omega, k _ H2 (p1.trans p2) (itr_ok (by omega))⟩
  · cases e
theorem itc_ok {K : PySem.W.Frag} {H : Hp} {hi : Int} {n : Nat} (h : n ≤ 16777216) : ItOk K H (Itc hi (-1) n) (rgD hi n) := by
  have hl : (rgD hi n).length = n := by unfold rgD; rw [List.length_map, List.length_range]
  refine ⟨by rw [hl, sizeLine_eq]; exact h, fun H' _ => ⟨fun i d hd => ?_, by rw [hl]; exact Nat.le_refl n⟩⟩
  have hi' : i < n := by rw [← hl]; exact (List.getElem?_eq_some_iff.mp hd).1
  have ed : d = .int (hi - (i : Nat)) := by
    unfold rgD at hd
    rw [List.getElem?_map, List.getElem?_range hi'] at hd
    exact (Option.some.inj hd).symm
  refine ⟨hi', fun x H'' hy => ?_⟩
  obtain ⟨e1, e2⟩ := hy
  subst e1 e2 ed
  refine ⟨.refl _, ?_⟩
  rw [Rep]
  congr 1
  omega
theorem mi_range3 (hg : Gl X "range") (hm : X.mg "range" = none) (ha : ME X W a ma) (hb : ME X W b mb) (hc : ME X W c mc) (hs : starEach [a, b, c] X.env = (false, eval a X.env) :: starEach [b, c] X.env) (hs1 : starEach [b, c] X.env = (false, eval b X.env) :: starEach [c] X.env)
    (hs2 : starEach [c] X.env = [(false, eval c X.env)]) (hpl : (backTo pos (starEach [b, c] X.env)).any (·.1) = false) : MI X W tg (.Call (.Name "range" p) [a, b, c] [] pos) (mRg3 ma mb mc) := by
  refine PI.imp (pi_range3 hg hm (pa_cons ha (pa_cons hb (pa_cons hc pa_nil hs2) hs1) hs) hs hpl) fun σ H R q => ?_
  obtain ⟨ms, G, h⟩ := q
  refine tM_int G h (fun x ms' z => z) fun i ms1 h1 H1 p1 => ?_
  refine tM_int p1.good h1 (fun x ms' z cls d H' p => z cls d H' (p1.trans p)) fun j ms2 h2 H2 p2 => ?_
  have p12 := p1.trans p2
  refine tM_int p2.good h2 (fun x ms' z cls d H' p => z cls d H' (p12.trans p)) fun k ms3 h3 H3 p3 => ?_
  obtain ⟨ds, e, kk⟩ := Run.lift h3
  split at e
  · rename_i hj
    cases e
    refine ⟨i, j, k, (i - j).toNat, rfl, ?_, kk _ H3 (p12.trans p3) ?_⟩
    · rw [hj.1]
      exact RgC.neg (by omega) (by omega) (by omega) (by omega)
    · rw [hj.1]
      exact itc_ok (by omega)
  · cases e
end

/-! ### for -/
def forL (f : D → MS → Option MS) (b : MSt) : List D → MSt
  | [] => M.pure .nx
  | d :: ds => fun ms => match f d ms with
    | none => none
    | some ms1 => b.bind (wh (forL f b ds)) ms1
def sFor (it : M (List D)) (f : D → MS → Option MS) (b : MSt) : MSt := it.bind fun ds => forL f b ds
section
variable {X : Cx} {W : WX} {tg iter : Expr} {body : List Stmt} {m : MSt} {mi : M (List D)} {f : D → MS → Option MS} {pos : Pos}
theorem ms_for (hp : PassesOwn (model X.prog X.w) X.A X.env X.xe) (hc : X.calm = true) (hi : MI X W tg iter mi) {S : List Nat} (hg : MGf X tg S f) (hb : MSs X W body m) (hs : ∀ x, foldedSetIterable iter X.env x = pure x) : MS1 X W (.For tg iter body [] pos) (sFor mi f m) := by
  refine PS.imp (ps_for hp hc hi hg hb hs) fun D σ H q => ?_
  rw [tMS_eq] at q
  obtain ⟨ms, G, h⟩ := q
  unfold sFor at h
  rw [Run.bind] at h
  refine ⟨ms, G, h.mono (fun ds ms1 h1 J H1 p1 io => ?_) fun x ms' z => ExK.e z⟩
  obtain ⟨hlen, io⟩ := io
  refine ⟨fun i k σ' H' => k = ds.length - i ∧ i ≤ ds.length ∧ ∃ ms', PostS X.K ms σ H ms' σ' H' ∧ Kept H1 H' ∧ Run (forL f m (ds.drop i)) ms' (EndK X.K D ms σ H) (ExK X.K W ms σ H), ⟨ds.length, by simp, Nat.zero_le _, ms1, p1.st, .refl _, h1⟩, ?_⟩
  rintro i k σ2 H2 ⟨rfl, hi, ms2, p2, kk, h2⟩
  by_cases hlt : i < ds.length
  · right
    have hd : ds[i]? = some ds[i] := List.getElem?_eq_getElem hlt
    obtain ⟨go, yl⟩ := (io H2 kk).1 i _ hd
    refine ⟨go, fun σ' H' => ∃ ms', PostS X.K ms σ H ms' σ' H' ∧ Kept H1 H' ∧ Run (forL f m (ds.drop (i + 1))) ms' (EndK X.K D ms σ H) (ExK X.K W ms σ H), fun σ' H' z => ⟨ds.length - (i + 1), by omega, rfl, by omega, z⟩, fun x H3 hy => ?_⟩
    obtain ⟨sm, rx⟩ := yl x H3 hy
    have p3 := p2.trans (PostE.same p2.good sm).st
    have kk3 := kk.trans (.same sm)
    rw [List.drop_eq_getElem_cons hlt] at h2
    unfold forL at h2
    cases hf : f ds[i] ms2 with
    | none => simp only [Run, hf] at h2
    | some ms3 =>
      have h3 : Run (m.bind (wh (forL f m (ds.drop (i + 1))))) ms3 (EndK X.K D ms σ H) (ExK X.K W ms σ H) := by
        simp only [Run, hf] at h2 ⊢
        exact h2
      refine ⟨ds[i], ms2, ms3, p3.good, rx, hf, fun σ4 p4 _ => ?_⟩
      have p34 := p3.trans p4
      rw [Run.bind] at h3
      refine ⟨ms3, p4.good, h3.mono (fun fl ms5 h5 => EndK.wh p34 h5 fun σ5 H5 p5 h6 => ⟨ms5, p34.trans p5, kk3.trans (PostS.kept p4.good p5), h6⟩) fun x ms' z => ExK.from p34 z⟩
  · left
    have e : i = ds.length := by omega
    subst e
    refine ⟨(io H2 kk).2, ?_⟩
    rw [List.drop_length] at h2
    exact h2 σ2 H2 p2
end

/-! ### list comprehensions -/
def wipeM (ms : MS) : List Nat → MS
  | [] => ms
  | v :: vs => (wipeM ms vs).set v .unk
/-- the own names' slots as they stood -/
def backM (ms0 ms : MS) : List Nat → MS
  | [] => ms
  | v :: vs => match ms0[v]? with
    | some (.val d) => (backM ms0 ms vs).set v (.val d)
    | _ => backM ms0 ms vs
def noOwn (ms : MS) (vs : List Nat) : Bool := vs.all fun v => match ms[v]? with
  | some (.own _ _) => false
  | _ => true
def compL (own : List Nat) (f : D → MS → Option MS) (t : M Bool) (e : M EV) : List D → List D → M (List D)
  | [], acc => M.pure acc
  | d :: ds, acc => fun ms => match f d ms with
    | none => none
    | some ms1 => (t.bind fun b => if b = true then e.bind (fun ev ms2 => match ev with
        | .val y => compL own f t e ds (acc ++ [y]) (wipeM ms2 own)
        | _ => none) else fun ms2 => compL own f t e ds acc (wipeM ms2 own)) ms1
def mComp (it : M (List D)) (own : List Nat) (f : D → MS → Option MS) (t : M Bool) (e : M EV) : M EV := it.bind fun ds ms =>
  if noOwn ms own = true then (match compL own f t e ds [] (wipeM ms own) with
    | some (.ok acc ms') => some (.ok (.new (.lst acc)) (backM ms ms' own))
    | _ => none) else none
section
variable {K : PySem.W.Frag} {ms ms' : MS} {σ : St} {H H' : Hp}
theorem wipeM_length (ms : MS) : ∀ vs : List Nat, (wipeM ms vs).length = ms.length
  | [] => rfl
  | v :: vs => by unfold wipeM; rw [List.length_set, wipeM_length ms vs]
theorem wipeM_at {i : Nat} {s : SV} : ∀ {vs : List Nat}, (wipeM ms vs)[i]? = some s → s = .unk ∨ (i ∉ vs ∧ ms[i]? = some s)
  | [], h => .inr ⟨by simp, h⟩
  | v :: vs, h => by
    unfold wipeM at h
    by_cases hi : v = i
    · subst hi
      by_cases hv : v < (wipeM ms vs).length
      · rw [List.getElem?_set_self hv] at h; cases h; exact .inl rfl
      · rw [List.getElem?_eq_none (by simpa using hv)] at h; cases h
    · rw [List.getElem?_set_ne hi] at h
      rcases wipeM_at h with z | ⟨z1, z2⟩
      · exact .inl z
      · exact .inr ⟨by simp only [List.mem_cons, not_or]; exact ⟨fun e => hi e.symm, z1⟩, z2⟩
theorem wipe_at {i : Nat} {vs : List Nat} (h : i ∉ vs) : (wipe σ vs)[i]? = σ[i]? := wipe_out h
theorem Good.wipe (g : Good K ms σ H) (vs : List Nat) : Good K (wipeM ms vs) (L2.wipe σ vs) H := by
  refine ⟨by rw [wipeM_length, wipe_length]; exact g.len, fun i d h => ?_, fun i l o h => ?_, fun i j l l' o o' a h1 h2 e1 e2 => ?_⟩
  · rcases wipeM_at h with z | ⟨z1, z2⟩
    · cases z
    · rw [wipe_at z1]; exact g.val i d z2
  · rcases wipeM_at h with z | ⟨z1, z2⟩
    · cases z
    · rw [wipe_at z1]; exact g.own i l o z2
  · rcases wipeM_at h1 with z | ⟨z1, z2⟩
    · cases z
    · rcases wipeM_at h2 with y | ⟨y1, y2⟩
      · cases y
      · rw [wipe_at z1] at e1
        rw [wipe_at y1] at e2
        exact g.inj i j l l' o o' a z2 y2 e1 e2
theorem Ow.wipe {a : Addr} {vs : List Nat} (h : Ow (wipeM ms vs) (L2.wipe σ vs) a) : Ow ms σ a := by
  obtain ⟨i, l, o, h1, h2⟩ := h
  rcases wipeM_at h1 with z | ⟨z1, z2⟩
  · cases z
  · rw [wipe_at z1] at h2
    exact ⟨i, l, o, z2, h2⟩
theorem wipe_off {σ σ' : St} {vs : List Nat} (hl : σ'.length = σ.length) (h : ∀ j, j ∉ vs → σ'[j]? = σ[j]?) : L2.wipe σ' vs = L2.wipe σ vs := by
  apply List.ext_getElem?
  intro i
  by_cases hi : i ∈ vs
  · have : ∀ {τ : St}, τ.length = σ.length → (L2.wipe τ vs)[i]? = if i < σ.length then some none else none := fun {τ} e => by
      have hx : ∀ {ws : List Nat}, i ∈ ws → (L2.wipe τ ws)[i]? = if i < σ.length then some none else none := by
        intro ws
        induction ws with
        | nil => intro z; cases z
        | cons w ws ih =>
          intro z
          rw [L2.wipe]
          by_cases hw : w = i
          · subst hw
            by_cases hlt : w < σ.length
            · rw [List.getElem?_set_self (by rw [wipe_length, e]; exact hlt), if_pos hlt]
            · rw [List.getElem?_eq_none (by rw [List.length_set, wipe_length, e]; exact Nat.le_of_not_lt hlt), if_neg hlt]
          · rw [List.getElem?_set_ne hw]
            rcases List.mem_cons.mp z with y | y
            · exact absurd y.symm hw
            · exact ih y
      exact hx hi
    rw [this hl, this rfl]
  · rw [wipe_at hi, wipe_at hi]
    exact h i hi
theorem backM_length (ms0 : MS) : ∀ vs : List Nat, (backM ms0 ms vs).length = ms.length
  | [] => rfl
  | v :: vs => by
    unfold backM
    split
    · rw [List.length_set, backM_length ms0 vs]
    · exact backM_length ms0 vs
theorem backM_at {ms0 : MS} {i : Nat} {s : SV} : ∀ {vs : List Nat}, (backM ms0 ms vs)[i]? = some s → ms[i]? = some s ∨ (i ∈ vs ∧ ∃ d, s = .val d ∧ ms0[i]? = some s)
  | [], h => .inl h
  | v :: vs, h => by
    unfold backM at h
    split at h
    · rename_i d hd
      by_cases hi : v = i
      · subst hi
        by_cases hv : v < (backM ms0 ms vs).length
        · rw [List.getElem?_set_self hv] at h; cases h
          exact .inr ⟨List.mem_cons_self, d, rfl, hd⟩
        · rw [List.getElem?_eq_none (by simpa using hv)] at h; cases h
      · rw [List.getElem?_set_ne hi] at h
        rcases backM_at h with z | ⟨z1, z2⟩
        · exact .inl z
        · exact .inr ⟨List.mem_cons_of_mem _ z1, z2⟩
    · rcases backM_at h with z | ⟨z1, z2⟩
      · exact .inl z
      · exact .inr ⟨List.mem_cons_of_mem _ z1, z2⟩
/-- what the block leaves, seen from the def: the own names' slots are put back -/
theorem PostE.back {vs : List Nat} {σw : St} (G : Good K ms σ H) (hn : noOwn ms vs = true) (ew : σw = L2.wipe σ vs) (p : PostE K (wipeM ms vs) σw H ms' H') (hw : ∀ (i : Nat) s, i ∈ vs → ms'[i]? = some s → s = .unk) : PostE K ms σ H (backM ms ms' vs) H' := by
  subst ew
  have k := p.kept (G.wipe vs)
  have own_at : ∀ {i : Nat} {l : Bool} {o : OV}, (backM ms ms' vs)[i]? = some (.own l o) → ms'[i]? = some (.own l o) ∧ i ∉ vs := fun {i l o} h => by
    rcases backM_at h with z | ⟨_, d, z, _⟩
    · exact ⟨z, fun y => by have := hw i _ y z; cases this⟩
    · cases z
  refine ⟨⟨?_, fun i d h => ?_, fun i l o h => ?_, fun i j l l' o o' a h1 h2 e1 e2 => ?_⟩, fun b o h n => p.keep b o h fun z => n z.wipe, p.live, fun b z => ?_, fun i o h => ?_⟩
  · rw [backM_length]
    have := p.good.len
    rw [wipe_length] at this
    exact this
  · rcases backM_at h with z | ⟨_, d', z, y⟩
    · have ni : i ∉ vs := fun y => by have := hw i _ y z; cases this
      obtain ⟨v, e, r⟩ := p.good.val i d z
      rw [wipe_at ni] at e
      exact ⟨v, e, r⟩
    · cases z
      obtain ⟨v, e, r⟩ := G.val i d y
      exact ⟨v, e, Rep.mono k _ _ r⟩
  · obtain ⟨z, ni⟩ := own_at h
    obtain ⟨a, e, r⟩ := p.good.own i l o z
    rw [wipe_at ni] at e
    exact ⟨a, e, r⟩
  · obtain ⟨z1, n1⟩ := own_at h1
    obtain ⟨z2, n2⟩ := own_at h2
    exact p.good.inj i j l l' o o' a z1 z2 (by rw [wipe_at n1]; exact e1) (by rw [wipe_at n2]; exact e2)
  · obtain ⟨i, l, o, h1, h2⟩ := z
    obtain ⟨z1, n1⟩ := own_at h1
    exact (p.ow b ⟨i, l, o, z1, by rw [wipe_at n1]; exact h2⟩).wipe
  · have ni : i ∉ vs := fun y => by
      unfold noOwn at hn
      have := List.all_eq_true.mp hn i y
      rw [h] at this
      cases this
    have hwip : (wipeM ms vs)[i]? = some (.own true o) := by
      have : ∀ {ws : List Nat}, i ∉ ws → (wipeM ms ws)[i]? = ms[i]? := by
        intro ws
        induction ws with
        | nil => intro _; rfl
        | cons w ws ih =>
          intro z
          rw [wipeM, List.getElem?_set_ne (fun e => z (by rw [e]; exact List.mem_cons_self))]
          exact ih fun y => z (List.mem_cons_of_mem _ y)
      rw [this ni]; exact h
    obtain ⟨o', h'⟩ := p.lent i o hwip
    refine ⟨o', ?_⟩
    have : ∀ {ws : List Nat}, i ∉ ws → (backM ms ms' ws)[i]? = ms'[i]? := by
      intro ws
      induction ws with
      | nil => intro _; rfl
      | cons w ws ih =>
        intro z
        rw [backM]
        split
        · rw [List.getElem?_set_ne (fun e => z (by rw [e]; exact List.mem_cons_self))]
          exact ih fun y => z (List.mem_cons_of_mem _ y)
        · exact ih fun y => z (List.mem_cons_of_mem _ y)
    rw [this ni]
    exact h'
theorem wipeM_self {vs : List Nat} {i : Nat} {s : SV} (hi : i ∈ vs) (h : (wipeM ms vs)[i]? = some s) : s = .unk := by
  rcases wipeM_at h with z | ⟨z, _⟩
  · exact z
  · exact absurd hi z
theorem wipeM_out {i : Nat} : ∀ {vs : List Nat}, i ∉ vs → (wipeM ms vs)[i]? = ms[i]?
  | [], _ => rfl
  | v :: vs, h => by
    rw [wipeM, List.getElem?_set_ne (fun e => h (by rw [e]; exact List.mem_cons_self))]
    exact wipeM_out fun y => h (List.mem_cons_of_mem _ y)
/-- a turn's end with the block's own names wiped again -/
theorem PostS.wipe {ms1 ms2 : MS} {σ1 : St} {H1 : Hp} {vs : List Nat} (hv : ∀ (i : Nat) s, i ∈ vs → ms[i]? = some s → s = .unk) (p1 : PostS K ms σ H ms1 σ1 H1) (off : OffS vs ms σ ms1 σ1) (p2 : PostE K ms1 σ1 H1 ms2 H') (e : L2.wipe σ1 vs = σ) : PostE K ms σ H (wipeM ms2 vs) H' := by
  have p := p1.trans p2.st
  have g := p.good.wipe vs
  rw [e] at g
  refine ⟨g, p.keep, p.live, fun b z => ?_, fun i o h => ?_⟩
  · obtain ⟨i, l, o, h1, h2⟩ := z
    rcases wipeM_at h1 with x | ⟨x1, x2⟩
    · cases x
    · have h3 : σ1[i]? = some (some (.ref b)) := by rw [(off.1 i x1).1]; exact h2
      obtain ⟨j, l', o', k1, k2⟩ := p2.ow b ⟨i, l, o, x2, h3⟩
      by_cases hj : j ∈ vs
      · exact absurd k1 (off.2.1 j l' o' hj)
      · exact ⟨j, l', o', by rw [← (off.1 j hj).2]; exact k1, by rw [← (off.1 j hj).1]; exact k2⟩
  · have ni : i ∉ vs := fun y => by have := hv i _ y h; cases this
    obtain ⟨⟨o', h'⟩, e'⟩ := p.lent i o h
    exact ⟨o', by rw [wipeM_out ni]; exact h'⟩
end
end Fw
set_option Elab.async false
set_option linter.all false
set_option maxRecDepth 100000
set_option maxHeartbeats 2000000
/-! Fw F: list comprehensions as values and stored. -/
namespace Fw
open PySem L2
section
variable {K : PySem.W.Frag} {ms ms' : MS} {σ : St} {H H' : Hp}
/-- an unowned list that came later is changed -/
theorem PostE.tweak {a : Addr} {u u' : HO} (p : PostE K ms σ H ms' H') (hn : H a = none) (no : ¬ Ow ms' σ a) (hu : H' a = some u) (c : Chg u) : PostE K ms σ H ms' (upd H' a u') ∧ Kept H' (upd H' a u') := by
  have k : Kept H' (upd H' a u') := by
    refine ⟨fun b xs e => ?_, fun b o' u2 e => ?_⟩
    · rw [upd_ne (show b ≠ a from fun z => by subst z; rw [hu] at e; cases e; exact c)]; exact e
    · rw [upd_ne (show b ≠ a from fun z => by subst z; rw [hu] at e; cases e; exact c)]; exact e
  refine ⟨⟨⟨p.good.len, fun i d h => ?_, fun i l o h => ?_, p.good.inj⟩, fun b o h n => ?_, fun b h => ?_, p.ow, p.lent⟩, k⟩
  · obtain ⟨v, e, r⟩ := p.good.val i d h
    exact ⟨v, e, Rep.mono k _ _ r⟩
  · obtain ⟨b, e, r⟩ := p.good.own i l o h
    refine ⟨b, e, r.mono k fun u' hu' => ?_⟩
    rw [upd_ne (show b ≠ a from fun z => no ⟨i, l, o, h, by rw [← z]; exact e⟩)]
    exact hu'
  · have q := p.keep b o h n
    rw [upd_ne (show b ≠ a from fun z => by subst z; rw [hn] at h; cases h)]
    exact q
  · have q := p.live b h
    by_cases z : b = a
    · subst z; rw [upd_same]; exact fun z => nomatch z
    · rw [upd_ne z]; exact q
theorem Reps.snoc {d : D} {x : V} : ∀ {ds : List D} {xs : List V}, Reps K H ds xs → Rep K H d x → Reps K H (ds ++ [d]) (xs ++ [x])
  | [], xs, h, r => by
    rw [Reps] at h
    subst h
    show Reps K H [d] [x]
    rw [Reps]
    exact ⟨x, [], rfl, r, by rw [Reps]⟩
  | e :: ds, xs, h, r => by
    rw [Reps] at h
    obtain ⟨y, ys, rfl, h1, h2⟩ := h
    show Reps K H (e :: (ds ++ [d])) (y :: (ys ++ [x]))
    rw [Reps]
    exact ⟨y, ys ++ [x], rfl, h1, Reps.snoc h2 r⟩
theorem wipe_wipe (σ : St) (vs : List Nat) : L2.wipe (L2.wipe σ vs) vs = L2.wipe σ vs := wipe_off (by rw [wipe_length]) fun j hj => wipe_at hj
end
def W0 : WX := fun _ _ _ _ => False
section
variable {X : Cx} {W : WX} {tg iter elt : Expr} {ifs : List Expr} {scope : Scope} {vs : List Nat} {m : M EV} {t : M Bool} {mi : M (List D)} {f : D → MS → Option MS} {pos : Pos}
theorem comp_core {σ : St} {H : Hp} {Q : VK} (q : tM X.K W (mComp mi vs f t m) σ H Q) : tLc (tMI X.K W mi) (tMG X.K vs f) (tMT X.K W0 t) (tM X.K W0 m) vs σ H Q := by
  obtain ⟨ms, G, h⟩ := q
  unfold mComp at h
  rw [Run.bind] at h
  refine ⟨ms, G, h.mono (fun ds ms1 h1 J H1 p1 io => ?_) fun x ms' z => z⟩
  obtain ⟨hlen, io⟩ := io
  intro D hD
  by_cases hno : noOwn ms1 vs = true
  case neg =>
    simp only [Run, hno] at h1
    exact h1.elim
  cases hcl : compL vs f t m ds [] (wipeM ms1 vs) with
  | none => simp only [Run, if_pos hno, hcl] at h1
  | some r =>
    cases r with
    | exc x ms' => simp only [Run, if_pos hno, hcl] at h1
    | ok accF msF =>
      simp only [Run, if_pos hno, hcl] at h1
      have noD : ¬ Ow ms1 σ D := Ow.live p1.good hD
      have Gw := p1.good.wipe vs
      have st0 := PostE.same Gw (same_new (o := HO.lst []) hD)
      refine ⟨fun i k H' => k = ds.length - i ∧ i ≤ ds.length ∧ ∃ msw acc xs, PostE X.K (wipeM ms1 vs) (L2.wipe σ vs) H1 msw H' ∧ (∀ (j : Nat) s, j ∈ vs → msw[j]? = some s → s = .unk) ∧ Kept H1 H' ∧ H' D = some (.lst xs) ∧ Reps X.K H' acc xs ∧ acc.length ≤ i ∧
        compL vs f t m (ds.drop i) acc msw = some (.ok accF msF), ⟨ds.length, by simp, Nat.zero_le _, wipeM ms1 vs, [], [], st0, fun j s hj e => wipeM_self hj e, .same (same_new hD), upd_same, by rw [Reps], Nat.zero_le _, hcl⟩, ?_⟩
      rintro i k H2 ⟨rfl, hi, msw, acc, xs, pw, hun, kk, eD, ra, hal, hc⟩
      have noDw : ¬ Ow msw (L2.wipe σ vs) D := fun z => noD (pw.ow D z).wipe
      by_cases hlt : i < ds.length
      · right
        have hd : ds[i]? = some ds[i] := List.getElem?_eq_getElem hlt
        obtain ⟨go, yl⟩ := (io H2 kk).1 i _ hd
        refine ⟨go, fun H' => ∃ msw acc xs, PostE X.K (wipeM ms1 vs) (L2.wipe σ vs) H1 msw H' ∧ (∀ (j : Nat) s, j ∈ vs → msw[j]? = some s → s = .unk) ∧ Kept H1 H' ∧ H' D = some (.lst xs) ∧ Reps X.K H' acc xs ∧ acc.length ≤ i + 1 ∧
          compL vs f t m (ds.drop (i + 1)) acc msw = some (.ok accF msF), fun H' z => ⟨ds.length - (i + 1), by omega, rfl, by omega, z⟩, fun x H3 hy => ?_⟩
        obtain ⟨sm, rx⟩ := yl x H3 hy
        have pw3 := pw.trans (PostE.same pw.good sm)
        have kk3 := kk.trans (.same sm)
        have eD3 : H3 D = some (.lst xs) := sm _ _ eD
        have ra3 := Reps.mono (.same sm) _ _ ra
        rw [List.drop_eq_getElem_cons hlt] at hc
        have hr : Run (compL vs f t m (ds[i] :: ds.drop (i + 1)) acc) msw (fun a z => a = accF ∧ z = msF) (fun _ _ => False) := by
          unfold Run; rw [hc]; exact ⟨rfl, rfl⟩
        unfold compL at hr
        cases hf : f ds[i] msw with
        | none => simp only [Run, hf] at hr
        | some ms3 =>
          have h3 : Run (t.bind fun b => if b = true then m.bind (fun ev ms2 => match ev with
              | .val y => compL vs f t m (ds.drop (i + 1)) (acc ++ [y]) (wipeM ms2 vs)
              | _ => none) else fun ms2 => compL vs f t m (ds.drop (i + 1)) acc (wipeM ms2 vs)) ms3 (fun a z => a = accF ∧ z = msF) (fun _ _ => False) := by
            simp only [Run, hf] at hr ⊢
            exact hr
          refine ⟨ds[i], msw, ms3, pw3.good, rx, hf, fun σ2 s2 off => ?_⟩
          have ew : L2.wipe σ2 vs = L2.wipe σ vs := by
            rw [wipe_off (σ := L2.wipe σ vs) (σ' := σ2) (vs := vs) off.2.2 fun j hj => (off.1 j hj).1, wipe_wipe]
          refine ⟨ew, ?_⟩
          refine tMT_bind s2.good h3 (fun x ms' z => z.elim) fun b ms4 h4 H4 p4 => ?_
          have no3 : ¬ Ow ms3 σ2 D := fun z => by
            rcases s2.ow D z with y | y
            · exact noDw y
            · rw [eD3] at y; cases y
          cases b with
          | false =>
            refine iteF ?_
            have h5 : Run (compL vs f t m (ds.drop (i + 1)) acc) (wipeM ms4 vs) (fun a z => a = accF ∧ z = msF) (fun _ _ => False) := h4
            have pt := PostS.wipe hun s2 off p4 (ew.trans rfl)
            refine ⟨wipeM ms4 vs, acc, xs, pw3.trans pt, fun j s hj e => wipeM_self hj e, kk3.trans (p4.kept s2.good), p4.keep D _ eD3 no3, Reps.mono (p4.kept s2.good) _ _ ra3, by omega, ?_⟩
            unfold Run at h5
            cases q : compL vs f t m (ds.drop (i + 1)) acc (wipeM ms4 vs) with
            | none => rw [q] at h5; exact h5.elim
            | some r =>
              rw [q] at h5
              cases r with
              | exc x ms' => exact h5.elim
              | ok a z =>
                obtain ⟨e1, e2⟩ := h5
                rw [e1, e2]
          | true =>
            refine iteT ?_
            have h5 : Run (m.bind (fun ev ms2 => match ev with
              | .val y => compL vs f t m (ds.drop (i + 1)) (acc ++ [y]) (wipeM ms2 vs)
              | _ => none)) ms4 (fun a z => a = accF ∧ z = msF) (fun _ _ => False) := h4
            refine tM_bind p4.good h5 (fun x ms' z => z.elim) fun ev ms5 h6 y H5 p5 o5 => ?_
            cases ev with
            | new o => exact h6.elim
            | bor j => exact h6.elim
            | val yd =>
              have h7 : Run (compL vs f t m (ds.drop (i + 1)) (acc ++ [yd])) (wipeM ms5 vs) (fun a z => a = accF ∧ z = msF) (fun _ _ => False) := h6
              have p45 := p4.trans p5
              have k45 := p45.kept s2.good
              have eD5 : H5 D = some (.lst xs) := p45.keep D _ eD3 no3
              have ra5 := Reps.mono k45 _ _ ra3
              have pt := PostS.wipe hun s2 off p45 (ew.trans rfl)
              have pw5 := pw3.trans pt
              have no5 : ¬ Ow (wipeM ms5 vs) (L2.wipe σ vs) D := fun z => noD (pw5.ow D z).wipe
              obtain ⟨pw6, k6⟩ := pw5.tweak (u' := HO.lst (xs ++ [y])) hD no5 eD5 trivial
              refine ⟨xs, eD5, ?_, wipeM ms5 vs, acc ++ [yd], xs ++ [y], pw6, fun j s hj e => wipeM_self hj e, (kk3.trans k45).trans k6, upd_same, Reps.snoc (Reps.mono k6 _ _ ra5) (Rep.mono k6 _ _ o5), by rw [List.length_append]; exact Nat.add_le_add_right hal 1, ?_⟩
              · have := ra5.length
                omega
              · unfold Run at h7
                cases q : compL vs f t m (ds.drop (i + 1)) (acc ++ [yd]) (wipeM ms5 vs) with
                | none => rw [q] at h7; exact h7.elim
                | some r =>
                  rw [q] at h7
                  cases r with
                  | exc x ms' => exact h7.elim
                  | ok a z =>
                    obtain ⟨e1, e2⟩ := h7
                    rw [e1, e2]
      · left
        have e : i = ds.length := by omega
        subst e
        refine ⟨(io H2 kk).2, ?_⟩
        rw [List.drop_length] at hc
        unfold compL at hc
        have hc' : acc = accF ∧ msw = msF := by
          have z : (some (Res.ok acc msw) : Option (Res (List Fw.D))) = some (.ok accF msF) := hc
          cases z; exact ⟨rfl, rfl⟩
        obtain ⟨rfl, rfl⟩ := hc'
        have pb := PostE.back p1.good hno rfl pw hun
        have nb : ¬ Ow (backM ms1 msw vs) σ D := fun z => noD (pb.ow D z)
        refine h1 _ _ (p1.trans pb) ⟨D, rfl, ?_, ⟨xs, eD, ra⟩, nb⟩
        cases q : H D with
        | none => rfl
        | some u => exact absurd hD (p1.live D (by rw [q]; exact fun z => nomatch z))
end
end Fw
set_option Elab.async false
set_option linter.all false
set_option maxRecDepth 100000
set_option maxHeartbeats 2000000
/-! Fw G: comprehensions' rules, own defs: what they promise, calls, bodies. -/
namespace Fw
open PySem L2
section
variable {X : Cx} {W : WX} {tg iter elt : Expr} {ifs : List Expr} {scope : Scope} {own : List (Str × Nat)} {m me : M EV} {t : M Bool} {mi : M (List D)} {f : D → MS → Option MS} {pos : Pos}
/-- in a comprehension's block, wherever it runs -/
def InBlk (X : Cx) (scope : Scope) (P : Cx → Prop) : Prop := ∀ (s : Shared) (H : Hp) (C : Addr) (cl : List (Str × Addr)) (fp : List Addr), P (X.blk s H scope (compEnvC scope cl C X.env) fp)
theorem pts0 : PTs X [] (tMT X.K W (M.pure true)) := by
  obtain ⟨r⟩ := pts_nil (X := X)
  exact ⟨fun pins s σ H Q I q => r pins s σ H Q I (by
    obtain ⟨ms, G, h⟩ := q
    exact h H (.refl G))⟩
theorem pts1 {c : Expr} (h : MT X W c t) : PTs X [c] (tMT X.K W t) := pts_one h
theorem me_comp (hc : X.calm = true) (hN : X.N.Nodup) (hi : MI X W tg iter mi) (ok : BlkOk X.N X.env.scope scope own) (hg : InBlk X scope fun Y => MGf Y tg (own.map (·.2)) f) (ht : InBlk X scope fun Y => PTs Y ifs (tMT Y.K W0 t)) (he : InBlk X scope fun Y => ME Y W0 elt m)
    (hs : ∀ x, foldedSetIterable iter X.env x = pure x) : ME X W (.ListComp elt [⟨tg, iter, ifs, 0⟩] scope pos) (mComp mi (own.map (·.2)) f t m) :=
  PE.imp (pe_lc (g := tMG X.K (own.map (·.2)) f) (tt := tMT X.K W0 t) (te := tM X.K W0 m) hc hN hi ok (fun s H C cl fp => hg s H C cl fp) (fun s H C cl fp => ht s H C cl fp) (fun s H C cl fp => he s H C cl fp) hs) fun σ H Q q => comp_core q
/-- the value is new: nothing is frozen -/
def sAsgN (i : Nat) (m : M EV) : MSt := m.bind fun ev => stE i ev
theorem asgN_core {i : Nat} {D : Ends} {σ : St} {H : Hp} {ms : MS} (G : Good X.K ms σ H) (h : Run (sAsgN i me) ms (EndK X.K D ms σ H) (ExK X.K W ms σ H)) :
    tM X.K W me σ H (fun x H1 => gName i x σ H1 D.nx) := by
  refine tM_bind G h (fun x ms' z => ExK.e z) fun ev ms1 h1 v H1 p1 o1 => ?_
  cases ev with
  | bor j => exact h1.elim
  | val d =>
    cases hs : setS i (.val d) ms1 with
    | none => simp only [Run, stE, hs] at h1
    | some ms2 =>
      simp only [Run, stE, hs] at h1
      exact h1 _ _ (p1.st.trans (PostS.setVal p1.good hs o1))
  | new o =>
    cases hs : setS i (.own false o) ms1 with
    | none => simp only [Run, stE, hs] at h1
    | some ms2 =>
      simp only [Run, stE, hs] at h1
      obtain ⟨a, rfl, hn, oat, no⟩ := o1
      obtain ⟨g2, w2, l2⟩ := PostS.setOwn (H0 := H) p1.good hs oat no
      refine h1 _ _ ⟨g2, p1.keep, p1.live, fun b z => ?_, fun j o' hj => ?_⟩
      · rcases w2 b z with z | z
        · exact .inl (p1.ow b z)
        · subst z; exact .inr hn
      · obtain ⟨o2, h2⟩ := p1.lent j o' hj
        exact l2 j o2 h2
theorem ms_asgC {i : Nat} {y : Str} {py : Pos} {spos : Pos} (hc : X.calm = true) (hN : X.N.Nodup) (hy : X.N[i]? = some y) (hyl : X.env.scope.names.lookup y = some .local) (hsw : swapsWith (.ListComp elt [⟨tg, iter, ifs, 0⟩] scope pos) (some (.Name y py)) spos.line X.env = pure true)
    (hi : MI X W tg iter mi) (ok : BlkOk X.N X.env.scope scope own) (hg : InBlk X scope fun Y => MGf Y tg (own.map (·.2)) f) (ht : InBlk X scope fun Y => PTs Y ifs (tMT Y.K W0 t)) (he : InBlk X scope fun Y => ME Y W0 elt m)
    (hs : ∀ x, foldedSetIterable iter X.env x = pure x) : MS1 X W (.Assign [.Name y py] (.ListComp elt [⟨tg, iter, ifs, 0⟩] scope pos) spos) (sAsgN i (mComp mi (own.map (·.2)) f t m)) :=
  PS.imp (ps_setLc (g := tMG X.K (own.map (·.2)) f) (tt := tMT X.K W0 t) (te := tM X.K W0 m) hc hN hy hyl hsw hi ok (fun s H C cl fp => hg s H C cl fp) (fun s H C cl fp => ht s H C cl fp) (fun s H C cl fp => he s H C cl fp) hs) fun D σ H q => by
    rw [tMS_eq] at q
    obtain ⟨ms, G, h⟩ := q
    exact comp_core (asgN_core G h)
end

/-! ### own defs -/
def spM (K : PySem.W.Frag) (n : Nat) (fm : M EV) : Sp := fun vs H Q E => vs.length = n ∧ tM K (fun c d _ H' => E c d H') fm (vs.map some) H Q
/-- the def that the module's name g holds keeps the promise fm -/
def FnGood (P : Program) (w : World) (K : PySem.W.Frag) (mg : Str → Option Value) (base : Heap) (g : Str) (n k : Nat) (fm : M EV) : Prop :=
  ∃ (f : Addr) (fd : FuncData) (ps : List Str), mg g = some (.ref f) ∧ PySem.W.keepIn K (.ref f) = true ∧ Binds K fd ps [] ∧ ps.length = n ∧ FnOk P w K mg base (L2.CX P w) k f fd ps (spM K n fm)
/-- what stands at the arguments; sig: which are lent -/
def bindA (ms : MS) : List Bool → List EV → Option (List SV)
  | [], [] => some []
  | false :: s, .val d :: es => (bindA ms s es).map (.val d :: ·)
  | true :: s, .bor i :: es => match ms[i]? with
    | some (.own _ o) => (bindA ms s es).map (.own true o :: ·)
    | _ => none
  | _, _ => none
def bors : List EV → List Nat
  | [] => []
  | .bor i :: es => i :: bors es
  | _ :: es => bors es
def relent : Option SV → SV → SV
  | some (.own l _), .own _ o => .own l o
  | _, _ => .unk
def backA : List EV → List SV → MS → MS
  | .bor i :: es, s :: outs, ms => backA es outs (ms.set i (relent ms[i]? s))
  | _ :: es, _ :: outs, ms => backA es outs ms
  | _, _, ms => ms
def mCallF (sig : List Bool) (fm : M EV) (mas : M (List EV)) : M EV := mas.bind fun es ms =>
  if (bors es).Nodup then (match bindA ms sig es with
    | some args => (match fm args with
      | some (.ok (.val d) outs) => some (.ok (.val d) (backA es outs ms))
      | some (.ok (.new o) outs) => some (.ok (.new o) (backA es outs ms))
      | some (.exc x outs) => some (.exc x (backA es outs ms))
      | _ => none)
    | none => none) else none
section
variable {K : PySem.W.Frag} {ms : MS} {σ : St} {H H' : Hp}
theorem bindA_at {ms : MS} : ∀ {sig : List Bool} {es : List EV} {args : List SV} {k : Nat} {s : SV}, bindA ms sig es = some args → args[k]? = some s →
    (∃ d, es[k]? = some (.val d) ∧ s = .val d) ∨ ∃ (i : Nat) (l : Bool) (o : OV), es[k]? = some (.bor i) ∧ ms[i]? = some (.own l o) ∧ s = .own true o
  | [], [], _, _, _, h, e => by cases h; simp at e
  | [], _ :: _, _, _, _, h, _ => by cases h
  | false :: sig, [], _, _, _, h, _ => by cases h
  | true :: sig, [], _, _, _, h, _ => by cases h
  | false :: sig, .new o :: es, _, _, _, h, _ => by cases h
  | false :: sig, .bor i :: es, _, _, _, h, _ => by cases h
  | true :: sig, .new o :: es, _, _, _, h, _ => by cases h
  | true :: sig, .val d :: es, _, _, _, h, _ => by cases h
  | false :: sig, .val d :: es, args, k, s, h, e => by
    unfold bindA at h
    obtain ⟨r, h1, h2⟩ := Option.map_eq_some_iff.mp h
    subst h2
    cases k with
    | zero => simp at e; exact .inl ⟨d, rfl, e.symm⟩
    | succ k =>
      rcases bindA_at (k := k) h1 (by simpa using e) with ⟨d', z⟩ | ⟨i, l, o, z⟩
      · exact .inl ⟨d', by simpa using z.1, z.2⟩
      · exact .inr ⟨i, l, o, by simpa using z.1, z.2⟩
  | true :: sig, .bor i :: es, args, k, s, h, e => by
    unfold bindA at h
    cases hi : ms[i]? with
    | none => rw [hi] at h; cases h
    | some sv =>
      rw [hi] at h
      cases sv with
      | unk => cases h
      | val d => cases h
      | own l o =>
        obtain ⟨r, h1, h2⟩ := Option.map_eq_some_iff.mp h
        subst h2
        cases k with
        | zero => simp at e; exact .inr ⟨i, l, o, rfl, hi, e.symm⟩
        | succ k =>
          rcases bindA_at (k := k) h1 (by simpa using e) with ⟨d', z⟩ | ⟨i', l', o', z⟩
          · exact .inl ⟨d', by simpa using z.1, z.2⟩
          · exact .inr ⟨i', l', o', by simpa using z.1, z.2⟩
theorem bindA_len {ms : MS} : ∀ {sig : List Bool} {es : List EV} {args : List SV}, bindA ms sig es = some args → args.length = es.length
  | [], [], _, h => by cases h; rfl
  | [], _ :: _, _, h => by cases h
  | false :: sig, [], _, h => by cases h
  | true :: sig, [], _, h => by cases h
  | false :: sig, .new o :: es, _, h => by cases h
  | false :: sig, .bor i :: es, _, h => by cases h
  | true :: sig, .new o :: es, _, h => by cases h
  | true :: sig, .val d :: es, _, h => by cases h
  | false :: sig, .val d :: es, args, h => by
    unfold bindA at h
    obtain ⟨r, h1, h2⟩ := Option.map_eq_some_iff.mp h
    subst h2
    simp [bindA_len h1]
  | true :: sig, .bor i :: es, args, h => by
    unfold bindA at h
    cases hi : ms[i]? with
    | none => rw [hi] at h; cases h
    | some sv =>
      rw [hi] at h
      cases sv with
      | unk => cases h
      | val d => cases h
      | own l o =>
        obtain ⟨r, h1, h2⟩ := Option.map_eq_some_iff.mp h
        subst h2
        simp [bindA_len h1]
theorem bors_at : ∀ {es : List EV} {k i : Nat}, es[k]? = some (.bor i) → i ∈ bors es
  | [], _, _, h => by simp at h
  | e :: es, 0, i, h => by
    simp at h; subst h
    exact List.mem_cons_self
  | e :: es, k + 1, i, h => by
    have q := bors_at (es := es) (k := k) (i := i) (by simpa using h)
    cases e with
    | val d => exact q
    | new o => exact q
    | bor j => exact List.mem_cons_of_mem _ q
theorem bors_inj : ∀ {es : List EV} {k k' i : Nat}, (bors es).Nodup → es[k]? = some (.bor i) → es[k']? = some (.bor i) → k = k'
  | [], _, _, _, _, h, _ => by simp at h
  | e :: es, 0, 0, i, _, _, _ => rfl
  | e :: es, 0, k' + 1, i, nd, h, h' => by
    simp at h; subst h
    have q := bors_at (es := es) (k := k') (i := i) (by simpa using h')
    exact absurd q (List.nodup_cons.mp nd).1
  | e :: es, k + 1, 0, i, nd, h, h' => by
    simp at h'; subst h'
    have q := bors_at (es := es) (k := k) (i := i) (by simpa using h)
    exact absurd q (List.nodup_cons.mp nd).1
  | e :: es, k + 1, k' + 1, i, nd, h, h' => by
    have nd' : (bors es).Nodup := by
      cases e with
      | val d => exact nd
      | new o => exact nd
      | bor j => exact (List.nodup_cons.mp nd).2
    rw [bors_inj (es := es) (k := k) (k' := k') nd' (by simpa using h) (by simpa using h')]
theorem backA_len : ∀ {es : List EV} {outs : List SV} {ms : MS}, (backA es outs ms).length = ms.length
  | [], _, _ => by simp [backA]
  | .bor i :: es, [], _ => by simp [backA]
  | .val d :: es, [], _ => by simp [backA]
  | .new d :: es, [], _ => by simp [backA]
  | .bor i :: es, s :: outs, ms => by
    unfold backA
    rw [backA_len, List.length_set]
  | .val d :: es, s :: outs, ms => by
    unfold backA
    exact backA_len
  | .new d :: es, s :: outs, ms => by
    unfold backA
    exact backA_len
theorem backA_out {i : Nat} : ∀ {es : List EV} {outs : List SV} {ms : MS}, i ∉ bors es → (backA es outs ms)[i]? = ms[i]?
  | [], _, _, _ => by simp [backA]
  | .bor j :: es, [], _, _ => by simp [backA]
  | .val d :: es, [], _, _ => by simp [backA]
  | .new d :: es, [], _, _ => by simp [backA]
  | .bor j :: es, s :: outs, ms, h => by
    unfold backA
    have h' : i ≠ j ∧ i ∉ bors es := by simpa [bors] using h
    rw [backA_out h'.2, List.getElem?_set_ne (Ne.symm h'.1)]
  | .val d :: es, s :: outs, ms, h => by
    unfold backA
    exact backA_out h
  | .new d :: es, s :: outs, ms, h => by
    unfold backA
    exact backA_out h
theorem backA_in {i : Nat} : ∀ {es : List EV} {outs : List SV} {ms : MS} {k : Nat} {s : SV}, (bors es).Nodup → i < ms.length → es[k]? = some (.bor i) → outs[k]? = some s → (backA es outs ms)[i]? = some (relent ms[i]? s)
  | [], _, _, _, _, _, _, h, _ => by simp at h
  | _ :: _, [], _, _, _, _, _, _, h => by simp at h
  | .bor j :: es, s' :: outs, ms, 0, s, nd, hl, h, h' => by
    simp at h h'; subst h h'
    unfold backA
    rw [backA_out (List.nodup_cons.mp nd).1, List.getElem?_set_self hl]
  | .val d :: es, s' :: outs, ms, 0, s, nd, hl, h, h' => by simp at h
  | .new d :: es, s' :: outs, ms, 0, s, nd, hl, h, h' => by simp at h
  | .bor j :: es, s' :: outs, ms, k + 1, s, nd, hl, h, h' => by
    unfold backA
    have h1 : es[k]? = some (.bor i) := by simpa using h
    have ne : j ≠ i := fun z => by subst z; exact (List.nodup_cons.mp nd).1 (bors_at h1)
    rw [backA_in (k := k) (List.nodup_cons.mp nd).2 (by rw [List.length_set]; exact hl) h1 (by simpa using h'), List.getElem?_set_ne ne]
  | .val d :: es, s' :: outs, ms, k + 1, s, nd, hl, h, h' => by
    unfold backA
    exact backA_in (k := k) nd hl (by simpa using h) (by simpa using h')
  | .new d :: es, s' :: outs, ms, k + 1, s, nd, hl, h, h' => by
    unfold backA
    exact backA_in (k := k) nd hl (by simpa using h) (by simpa using h')
/-- the arguments stand well -/
theorem good_args {sig : List Bool} {es : List EV} {args : List SV} {vs : List V} {H0 : Hp} (G : Good K ms σ H) (o : EVsOk K ms σ H0 H vs es) (nd : (bors es).Nodup) (hb : bindA ms sig es = some args) : Good K args (vs.map some) H := by
  have at_v : ∀ {k : Nat} {e : EV}, es[k]? = some e → ∃ v, vs[k]? = some v ∧ EVOk K ms σ H0 H v e := fun {k e} h => by
    have : ∀ {vs : List V} {es : List EV} {k : Nat}, EVsOk K ms σ H0 H vs es → es[k]? = some e → ∃ v, vs[k]? = some v ∧ EVOk K ms σ H0 H v e := by
      intro vs es k o
      induction o generalizing k with
      | nil => intro h; simp at h
      | cons r t ih =>
        intro h
        cases k with
        | zero => simp at h; subst h; exact ⟨_, rfl, r⟩
        | succ k => obtain ⟨v, e1, e2⟩ := ih (k := k) (by simpa using h); exact ⟨v, by simpa using e1, e2⟩
    exact this o h
  refine ⟨by rw [List.length_map, bindA_len hb]; exact (Paired.length o).symm, fun k d h => ?_, fun k l o' h => ?_, fun k k' l l' o1 o2 a h1 h2 e1 e2 => ?_⟩
  · rcases bindA_at hb h with ⟨d', he, z⟩ | ⟨i, l, o', he, hi, z⟩
    · cases z
      obtain ⟨v, hv, r⟩ := at_v he
      exact ⟨v, by rw [List.getElem?_map, hv]; rfl, r⟩
    · cases z
  · rcases bindA_at hb h with ⟨d', he, z⟩ | ⟨i, l2, o2, he, hi, z⟩
    · cases z
    · cases z
      obtain ⟨v, hv, r⟩ := at_v he
      have r : σ[i]? = some (some v) := r
      obtain ⟨a, ea, oa⟩ := G.own i l2 o' hi
      rw [r] at ea; cases ea
      exact ⟨a, by rw [List.getElem?_map, hv]; rfl, oa⟩
  · rcases bindA_at hb h1 with ⟨d', he, z⟩ | ⟨i, m1, p1, he, hi, z⟩
    · cases z
    · rcases bindA_at hb h2 with ⟨d', he', z'⟩ | ⟨i', m2, p2, he', hi', z'⟩
      · cases z'
      · obtain ⟨v, hv, r⟩ := at_v he
        obtain ⟨v', hv', r'⟩ := at_v he'
        have r : σ[i]? = some (some v) := r
        have r' : σ[i']? = some (some v') := r'
        rw [List.getElem?_map, hv] at e1
        rw [List.getElem?_map, hv'] at e2
        cases e1; cases e2
        have := G.inj i i' m1 m2 p1 p2 a hi hi' r r'
        subst this
        exact bors_inj nd he he'
/-- what a callee owns is lent by the caller -/
theorem ow_args {sig : List Bool} {es : List EV} {args : List SV} {vs : List V} {H0 : Hp} {b : Addr} (o : EVsOk K ms σ H0 H vs es) (hb : bindA ms sig es = some args) (z : Ow args (vs.map some) b) : ∃ (k i : Nat) (l : Bool) (o' : OV), es[k]? = some (.bor i) ∧ ms[i]? = some (.own l o') ∧ σ[i]? = some (some (.ref b)) ∧ vs[k]? = some (.ref b) := by
  obtain ⟨k, l, o1, h1, h2⟩ := z
  rcases bindA_at hb h1 with ⟨d', he, z⟩ | ⟨i, m1, p1, he, hi, z⟩
  · cases z
  · rw [List.getElem?_map] at h2
    have : ∀ {vs : List V} {es : List EV} {k : Nat}, EVsOk K ms σ H0 H vs es → es[k]? = some (.bor i) → ∃ v, vs[k]? = some v ∧ σ[i]? = some (some v) := by
      intro vs es k o
      induction o generalizing k with
      | nil => intro h; simp at h
      | cons r t ih =>
        intro h
        cases k with
        | zero => simp at h; subst h; exact ⟨_, rfl, r⟩
        | succ k => obtain ⟨v, e1, e2⟩ := ih (k := k) (by simpa using h); exact ⟨v, by simpa using e1, e2⟩
    obtain ⟨v, hv, r⟩ := this o he
    rw [hv] at h2
    have h2 : some (some v) = some (some (V.ref b)) := h2
    cases h2
    exact ⟨k, i, m1, p1, he, hi, r, hv⟩
/-- behind the call -/
theorem post_call {sig : List Bool} {es : List EV} {args outs : List SV} {vs : List V} {H0 : Hp} (G : Good K ms σ H) (o : EVsOk K ms σ H0 H vs es) (nd : (bors es).Nodup) (hb : bindA ms sig es = some args) (p : PostE K args (vs.map some) H outs H') : PostE K ms σ H (backA es outs ms) H' := by
  have Ga := good_args G o nd hb
  have kk := p.kept Ga
  have owA : ∀ {b}, Ow args (vs.map some) b → Ow ms σ b := fun {b} z => by
    obtain ⟨k, i, l, o', _, h1, h2, _⟩ := ow_args o hb z
    exact ⟨i, l, o', h1, h2⟩
  -- each slot behind the call
  have slot : ∀ {i : Nat} {s : SV}, (backA es outs ms)[i]? = some s → (i ∉ bors es ∧ ms[i]? = some s) ∨ ∃ (k : Nat) (l : Bool) (o1 o2 : OV) (v : V), es[k]? = some (.bor i) ∧ ms[i]? = some (.own l o1) ∧ args[k]? = some (.own true o1) ∧ outs[k]? = some (.own true o2) ∧ s = .own l o2 ∧ vs[k]? = some v ∧ σ[i]? = some (some v) := fun {i s} h => by
    by_cases hi : i ∈ bors es
    · right
      obtain ⟨k, hk⟩ : ∃ k : Nat, es[k]? = some (.bor i) := by
        have : ∀ {es : List EV}, i ∈ bors es → ∃ k : Nat, es[k]? = some (.bor i) := by
          intro es
          induction es with
          | nil => intro h; cases h
          | cons e es ih =>
            intro h
            cases e with
            | val d => obtain ⟨k, hk⟩ := ih h; exact ⟨k + 1, by simpa using hk⟩
            | new d => obtain ⟨k, hk⟩ := ih h; exact ⟨k + 1, by simpa using hk⟩
            | bor j =>
              rcases List.mem_cons.mp h with z | z
              · exact ⟨0, by rw [z]; rfl⟩
              · obtain ⟨k, hk⟩ := ih z; exact ⟨k + 1, by simpa using hk⟩
        exact this hi
      have hkl : k < args.length := by rw [bindA_len hb]; exact (List.getElem?_eq_some_iff.mp hk).1
      have hak : args[k]? = some args[k] := List.getElem?_eq_getElem hkl
      rcases bindA_at hb hak with ⟨d', he, z⟩ | ⟨i', l, o1, he, hm, z⟩
      · rw [hk] at he; cases he
      · rw [hk] at he; cases he
        rw [z] at hak
        obtain ⟨o2, ho2⟩ := p.lent k o1 hak
        have hil : i < ms.length := (List.getElem?_eq_some_iff.mp hm).1
        rw [backA_in nd hil hk ho2, hm] at h
        obtain ⟨v, hv, r⟩ : ∃ v, vs[k]? = some v ∧ σ[i]? = some (some v) := by
          have : ∀ {vs : List V} {es : List EV} {k : Nat}, EVsOk K ms σ H0 H vs es → es[k]? = some (.bor i) → ∃ v, vs[k]? = some v ∧ σ[i]? = some (some v) := by
            intro vs es k o
            induction o generalizing k with
            | nil => intro h; simp at h
            | cons r t ih =>
              intro h
              cases k with
              | zero => simp at h; subst h; exact ⟨_, rfl, r⟩
              | succ k => obtain ⟨v, e1, e2⟩ := ih (k := k) (by simpa using h); exact ⟨v, by simpa using e1, e2⟩
          exact this o hk
        exact ⟨k, l, o1, o2, v, hk, hm, hak, ho2, (Option.some.inj h).symm, hv, r⟩
    · left
      rw [backA_out hi] at h
      exact ⟨hi, h⟩
  have ownslot : ∀ {i : Nat} {l : Bool} {o2 : OV}, (backA es outs ms)[i]? = some (.own l o2) → ∃ o1, ms[i]? = some (.own l o1) := fun {i l o2} h => by
    rcases slot h with ⟨_, z⟩ | ⟨k, l', o1, o3, v, _, z, _, _, e, _⟩
    · exact ⟨o2, z⟩
    · cases e; exact ⟨o1, z⟩
  refine ⟨⟨by rw [backA_len]; exact G.len, fun i d h => ?_, fun i l o2 h => ?_, fun i j l l' o1 o2 a h1 h2 => ?_⟩, fun b o' h n => p.keep b o' h fun z => n (owA z), p.live, fun b z => ?_, fun i o' h => ?_⟩
  · rcases slot h with ⟨_, z⟩ | ⟨k, l', o1, o3, v, _, _, _, _, e, _⟩
    · obtain ⟨v, e, r⟩ := G.val i d z
      exact ⟨v, e, Rep.mono kk _ _ r⟩
    · cases e
  · rcases slot h with ⟨ni, z⟩ | ⟨k, l', o1, o3, v, hk, hm, hak, ho, e, hv, hσ⟩
    · obtain ⟨a, e, r⟩ := G.own i l o2 z
      refine ⟨a, e, r.mono kk fun u hu => p.keep a u hu fun y => ?_⟩
      obtain ⟨k, i', l', o', hk, h1, h2, _⟩ := ow_args o hb y
      have := G.inj i i' l l' o2 o' a z h1 e h2
      subst this
      exact ni (bors_at hk)
    · cases e
      obtain ⟨a, ea, oa⟩ := p.good.own k true o2 ho
      rw [List.getElem?_map, hv] at ea
      have ea : some (some v) = some (some (V.ref a)) := ea
      cases ea
      exact ⟨a, hσ, oa⟩
  · obtain ⟨p1, q1⟩ := ownslot h1
    obtain ⟨p2, q2⟩ := ownslot h2
    exact G.inj i j l l' p1 p2 a q1 q2
  · obtain ⟨i, l, o1, h1, h2⟩ := z
    obtain ⟨p1, q1⟩ := ownslot h1
    exact ⟨i, l, p1, q1, h2⟩
  · by_cases hi : i ∈ bors es
    · have hil : i < (backA es outs ms).length := by rw [backA_len]; exact (List.getElem?_eq_some_iff.mp h).1
      have hs : (backA es outs ms)[i]? = some (backA es outs ms)[i] := List.getElem?_eq_getElem hil
      rcases slot hs with ⟨ni, _⟩ | ⟨k, l', o1, o3, v, hk, hm, hak, ho, e, hv, hσ⟩
      · exact absurd hi ni
      · rw [h] at hm; cases hm
        rw [e] at hs
        exact ⟨o3, hs⟩
    · exact ⟨o', by rw [backA_out hi]; exact h⟩
end
section
variable {X : Cx} {W : WX} {e : Expr} {es : List Expr} {mas : M (List EV)} {x : Str} {p pos : Pos} {n k j : Nat} {fm : M EV} {sig : List Bool}
theorem call_core {σ : St} {H : Hp} {Q : VK} (hn : ∀ evs args ms, bindA ms sig evs = some args → args.length = n) (q : tM X.K W (mCallF sig fm mas) σ H Q) : tCallS (spM X.K n fm) (WE W) (tMA X.K W mas) σ H Q := by
  obtain ⟨ms, G, h⟩ := q
  refine tMA_bind G h (fun x ms' z => z) fun evs ms1 h1 vs H1 p1 o1 => ?_
  by_cases nd : (bors evs).Nodup
  case neg => simp only [Run, if_neg nd] at h1
  cases hb : bindA ms1 sig evs with
  | none => simp only [Run, if_pos nd, hb] at h1
  | some args =>
    have Ga := good_args p1.good o1 nd hb
    refine ⟨by have := hn _ _ _ hb; have h2 := Ga.len; rw [List.length_map] at h2; omega, args, Ga, ?_⟩
    have pc : ∀ {outs : List SV} {H' : Hp}, PostE X.K args (vs.map some) H1 outs H' → PostE X.K ms σ H (backA evs outs ms1) H' := fun q => p1.trans (post_call p1.good o1 nd hb q)
    unfold Run at h1 ⊢
    simp only [if_pos nd, hb] at h1
    cases hf : fm args with
    | none => simp only [hf] at h1
    | some r =>
      cases r with
      | exc ex outs =>
        simp only [hf] at h1
        exact fun cls d H' q z => h1 cls d H' (pc q) z
      | ok ev outs =>
        cases ev with
        | bor i => simp only [hf] at h1
        | val d =>
          simp only [hf] at h1
          exact fun v H' q z => h1 v H' (pc q) z
        | new o =>
          simp only [hf] at h1
          intro v H' q z
          obtain ⟨a, rfl, hn', oat, no⟩ := z
          have pp := post_call p1.good o1 nd hb q
          refine h1 _ H' (pc q) ⟨a, rfl, ?_, oat, fun y => ?_⟩
          · cases qq : H a with
            | none => rfl
            | some u => exact absurd hn' (p1.live a (by rw [qq]; exact fun z => nomatch z))
          · exact Ow.live p1.good hn' (pp.ow a y)
theorem sig_len {ms : MS} : ∀ {sig : List Bool} {evs : List EV} {args : List SV}, bindA ms sig evs = some args → args.length = sig.length
  | [], [], _, h => by cases h; rfl
  | [], _ :: _, _, h => by cases h
  | false :: sig, [], _, h => by cases h
  | true :: sig, [], _, h => by cases h
  | false :: sig, .new o :: es, _, h => by cases h
  | false :: sig, .bor i :: es, _, h => by cases h
  | true :: sig, .new o :: es, _, h => by cases h
  | true :: sig, .val d :: es, _, h => by cases h
  | false :: sig, .val d :: es, args, h => by
    unfold bindA at h
    obtain ⟨r, h1, h2⟩ := Option.map_eq_some_iff.mp h
    subst h2
    simp [sig_len h1]
  | true :: sig, .bor i :: es, args, h => by
    unfold bindA at h
    cases hi : ms[i]? with
    | none => rw [hi] at h; cases h
    | some sv =>
      rw [hi] at h
      cases sv with
      | unk => cases h
      | val d => cases h
      | own l o =>
        obtain ⟨r, h1, h2⟩ := Option.map_eq_some_iff.mp h
        subst h2
        simp [sig_len h1]
theorem me_call (F : FnGood X.prog X.w X.K X.mg X.base x sig.length k fm) (hr : Room j X.A) (hk : k ≤ j) (hg : Gl X x) (tk : Takes X W) (ha : MA X W (e :: es) mas) (hdb : (x == ("__debug__" : Str)) = false)
    (he : starEach (e :: es) X.env = (false, eval e X.env) :: starEach es X.env) (hpl : (backTo pos (starEach es X.env)).any (·.1) = false) : ME X W (.Call (.Name x p) (e :: es) [] pos) (mCallF sig fm mas) := by
  obtain ⟨f, fd, ps, hm, kp, hb, hl, ok⟩ := F
  exact PE.imp (pe_callS ok (hr.mono hk) hg hm kp hb (fun σ => passAt tk σ) ha hdb he hpl) fun σ H Q q => call_core (fun _ _ _ h => sig_len h) q
end

/-! ### a def by its body -/
def retE (ms : MS) : EV → Option EV
  | .val d => some (.val d)
  | .new o => some (.new o)
  | .bor i => match ms[i]? with
    | some (.own false o) => some (.new o)
    | some (.val d) => some (.val d)
    | _ => none
def outS : List SV → MS → List SV
  | .own true _ :: as, .own true o :: ms => .own true o :: outS as ms
  | _ :: as, _ :: ms => .unk :: outS as ms
  | _ :: as, [] => .unk :: outS as []
  | [], _ => []
def allLent (args : List SV) : Bool := args.all fun s => match s with
  | .own false _ => false
  | _ => true
def fmOf (n : Nat) (b : MSt) : M EV := fun args => if allLent args = true then (match b (args ++ List.replicate (n - args.length) .unk) with
  | some (.ok (.rt ev) ms') => (match retE ms' ev with
    | some r => some (.ok r (outS args ms'))
    | none => none)
  | some (.ok .nx ms') => some (.ok (.val .non) (outS args ms'))
  | some (.exc x ms') => some (.exc x (outS args ms'))
  | _ => none) else none
theorem outS_len : ∀ {as : List SV} {ms : MS}, (outS as ms).length = as.length
  | [], _ => by simp [outS]
  | a :: as, [] => by
    cases a with
    | unk => simp [outS, outS_len]
    | val d => simp [outS, outS_len]
    | own l o => cases l <;> simp [outS, outS_len]
  | a :: as, s :: ms => by
    cases a with
    | unk => simp [outS, outS_len]
    | val d => simp [outS, outS_len]
    | own l o =>
      cases l with
      | false => simp [outS, outS_len]
      | true =>
        cases s with
        | unk => simp [outS, outS_len]
        | val d => simp [outS, outS_len]
        | own l' o' => cases l' <;> simp [outS, outS_len]
theorem outS_at : ∀ {as : List SV} {ms : MS} {i : Nat} {s : SV}, (outS as ms)[i]? = some s → s = .unk ∨ ∃ o o', s = .own true o' ∧ as[i]? = some (.own true o) ∧ ms[i]? = some (.own true o')
  | [], _, _, _, h => by simp [outS] at h
  | a :: as, [], i, s, h => by
    have e : outS (a :: as) [] = .unk :: outS as [] := by
      cases a with
      | own l o => cases l <;> rfl
      | _ => rfl
    rw [e] at h
    cases i with
    | zero => simp at h; exact .inl h.symm
    | succ i =>
      rcases outS_at (as := as) (ms := []) (i := i) (by simpa using h) with z | ⟨o, o', z1, z2, z3⟩
      · exact .inl z
      · simp at z3
  | a :: as, t :: ms, i, s, h => by
    by_cases hc : ∃ o o', a = .own true o ∧ t = .own true o'
    · obtain ⟨o, o', rfl, rfl⟩ := hc
      have e : outS (.own true o :: as) (.own true o' :: ms) = .own true o' :: outS as ms := rfl
      rw [e] at h
      cases i with
      | zero => simp at h; exact .inr ⟨o, o', h.symm, rfl, rfl⟩
      | succ i =>
        rcases outS_at (as := as) (ms := ms) (i := i) (by simpa using h) with z | ⟨p, p', z1, z2, z3⟩
        · exact .inl z
        · exact .inr ⟨p, p', z1, by simpa using z2, by simpa using z3⟩
    · have e : outS (a :: as) (t :: ms) = .unk :: outS as ms := by
        cases a with
        | unk => rfl
        | val d => rfl
        | own l o =>
          cases l with
          | false => rfl
          | true =>
            cases t with
            | unk => rfl
            | val d => rfl
            | own l' o' =>
              cases l' with
              | false => rfl
              | true => exact absurd ⟨o, o', rfl, rfl⟩ hc
      rw [e] at h
      cases i with
      | zero => simp at h; exact .inl h.symm
      | succ i =>
        rcases outS_at (as := as) (ms := ms) (i := i) (by simpa using h) with z | ⟨p, p', z1, z2, z3⟩
        · exact .inl z
        · exact .inr ⟨p, p', z1, by simpa using z2, by simpa using z3⟩
theorem outS_own : ∀ {as : List SV} {ms : MS} {i : Nat} {o o' : OV}, as[i]? = some (.own true o) → ms[i]? = some (.own true o') → (outS as ms)[i]? = some (.own true o')
  | [], _, _, _, _, h, _ => by simp at h
  | _ :: _, [], _, _, _, _, h => by simp at h
  | a :: as, s :: ms, 0, o, o', h, h' => by
    simp at h h'; subst h h'
    rfl
  | a :: as, s :: ms, i + 1, o, o', h, h' => by
    have q := outS_own (as := as) (ms := ms) (i := i) (by simpa using h) (by simpa using h')
    cases a with
    | unk => exact q
    | val d => exact q
    | own l p =>
      cases l with
      | false => exact q
      | true =>
        cases s with
        | unk => exact q
        | val d => exact q
        | own l' p' => cases l' <;> exact q
section
variable {P : Program} {w : World} {K : PySem.W.Frag} {mg : Str → Option Value} {base : Heap}
theorem good_start {K : PySem.W.Frag} {args : List SV} {vs : List V} {H : Hp} {m : Nat} (G : Good K args (vs.map some) H) : Good K (args ++ List.replicate m .unk) (vs.map some ++ List.replicate m none) H := by
  have hl : args.length = (vs.map some).length := G.len
  have at_ms : ∀ {i : Nat} {s : SV}, s ≠ .unk → (args ++ List.replicate m .unk)[i]? = some s → i < args.length ∧ args[i]? = some s := fun {i s} hs h => by
    by_cases hi : i < args.length
    · rw [List.getElem?_append_left hi] at h; exact ⟨hi, h⟩
    · rw [List.getElem?_append_right (Nat.le_of_not_lt hi), List.getElem?_replicate] at h
      split at h
      · cases h; exact absurd rfl hs
      · cases h
  refine ⟨by rw [List.length_append, List.length_append, hl, List.length_replicate, List.length_replicate], fun i d h => ?_, fun i l o h => ?_, fun i j l l' o o' a h1 h2 e1 e2 => ?_⟩
  · obtain ⟨hi, h⟩ := at_ms (by exact fun z => nomatch z) h
    rw [List.getElem?_append_left (by rw [← hl]; exact hi)]
    exact G.val i d h
  · obtain ⟨hi, h⟩ := at_ms (by exact fun z => nomatch z) h
    rw [List.getElem?_append_left (by rw [← hl]; exact hi)]
    exact G.own i l o h
  · obtain ⟨hi, h1⟩ := at_ms (by exact fun z => nomatch z) h1
    obtain ⟨hj, h2⟩ := at_ms (by exact fun z => nomatch z) h2
    rw [List.getElem?_append_left (by rw [← hl]; exact hi)] at e1
    rw [List.getElem?_append_left (by rw [← hl]; exact hj)] at e2
    exact G.inj i j l l' o o' a h1 h2 e1 e2
/-- what a body leaves, seen from the call -/
theorem body_end {args : List SV} {vs : List V} {H H' : Hp} {m : Nat} {ms' : MS} {σ' : St} (G : Good K args (vs.map some) H) (p : PostS K (args ++ List.replicate m .unk) (vs.map some ++ List.replicate m none) H ms' σ' H') : PostE K args (vs.map some) H (outS args ms') H' := by
  have hl : args.length = (vs.map some).length := G.len
  have start_at : ∀ {i : Nat} {o : OV}, args[i]? = some (.own true o) → (args ++ List.replicate m .unk)[i]? = some (.own true o) := fun {i o} h => by
    rw [List.getElem?_append_left (List.getElem?_eq_some_iff.mp h).1]; exact h
  have lent_at : ∀ {i : Nat} {o : OV}, args[i]? = some (.own true o) → (∃ o', ms'[i]? = some (.own true o')) ∧ σ'[i]? = (vs.map some)[i]? := fun {i o} h => by
    obtain ⟨a, b⟩ := p.lent i o (start_at h)
    refine ⟨a, b.trans ?_⟩
    rw [List.getElem?_append_left (by rw [← hl]; exact (List.getElem?_eq_some_iff.mp h).1)]
  have owS : ∀ {b : Addr}, Ow (args ++ List.replicate m .unk) (vs.map some ++ List.replicate m none) b → Ow args (vs.map some) b := fun {b} ⟨i, l, o, h1, h2⟩ => by
    by_cases hi : i < args.length
    · rw [List.getElem?_append_left hi] at h1
      rw [List.getElem?_append_left (by rw [← hl]; exact hi)] at h2
      exact ⟨i, l, o, h1, h2⟩
    · rw [List.getElem?_append_right (Nat.le_of_not_lt hi), List.getElem?_replicate] at h1
      split at h1 <;> cases h1
  have own_at : ∀ {i : Nat} {l : Bool} {o' : OV}, (outS args ms')[i]? = some (.own l o') → l = true ∧ (∃ o, args[i]? = some (.own true o)) ∧ ms'[i]? = some (.own true o') ∧ σ'[i]? = (vs.map some)[i]? := fun {i l o'} h => by
    rcases outS_at h with z | ⟨o, o2, z1, z2, z3⟩
    · cases z
    · cases z1
      exact ⟨rfl, ⟨o, z2⟩, z3, (lent_at z2).2⟩
  refine ⟨⟨by rw [outS_len]; exact hl, fun i d h => ?_, fun i l o h => ?_, fun i j l l' o o' a h1 h2 e1 e2 => ?_⟩, fun b o h n => p.keep b o h fun z => n (owS z), p.live, fun b z => ?_, fun i o h => ?_⟩
  · rcases outS_at h with z | ⟨o, o2, z1, _⟩
    · cases z
    · cases z1
  · obtain ⟨rfl, _, h2, h3⟩ := own_at h
    obtain ⟨a, e, r⟩ := p.good.own i true o h2
    exact ⟨a, by rw [← h3]; exact e, r⟩
  · obtain ⟨_, _, k1, k2⟩ := own_at h1
    obtain ⟨_, _, k3, k4⟩ := own_at h2
    exact p.good.inj i j true true o o' a k1 k3 (by rw [k2]; exact e1) (by rw [k4]; exact e2)
  · obtain ⟨i, l, o, h1, h2⟩ := z
    obtain ⟨_, ⟨o1, k1⟩, _, _⟩ := own_at h1
    exact ⟨i, true, o1, k1, h2⟩
  · obtain ⟨⟨o', h'⟩, _⟩ := lent_at h
    exact ⟨o', outS_own h h'⟩
theorem fn_ok {x qual : Str} {st : Stmt} {f : Addr} {fd : FuncData} {N ps : List Str} {k : Nat} {b : MSt} (F : Fun K x qual st f fd) (S : FnScope N ps (defScope st))
    (hbody : ∀ (X : Cx) (W : WX) (cdv : Value) (A : Around) (outer : List Env) (s : Shared) (H : Hp) (E : XK), X = cxOf (L2.CX P w) P w K mg base N qual (defScope st) f cdv A outer s H E → Room k X.A → Takes X W → PassesOwn (model X.prog X.w) X.A X.env X.xe → MSs X W (defBody st) b) :
    FnOk P w K mg base (L2.CX P w) (k + 1) f fd ps (spM K ps.length (fmOf N.length b)) := by
  refine F.okX S (fun vs H Q E h => h.1) (fun cdv A outer s H vs Q E hr h => ?_)
  obtain ⟨hl, args, G, h⟩ := h
  have tk : Takes (cxOf (L2.CX P w) P w K mg base N qual (defScope st) f cdv A outer s H E) (fun cls d _ H => E cls d H) := takes_of rfl rfl rfl rfl
  have po := passes_of (X := cxOf (L2.CX P w) P w K mg base N qual (defScope st) f cdv A outer s H E) rfl
  have hb := hbody _ (fun cls d _ H => E cls d H) cdv A outer s H E rfl hr tk po
  refine ⟨_, hb, ?_⟩
  have hal : args.length = vs.length := by rw [G.len, List.length_map]
  rw [tMS_eq]
  refine ⟨args ++ List.replicate (N.length - args.length) .unk, ?_, ?_⟩
  · unfold L2.start
    rw [hal]
    exact good_start G
  · unfold L2.start
    rw [← hal]
    unfold Run at h ⊢
    unfold fmOf at h
    by_cases hal' : allLent args = true
    case neg => simp only [if_neg hal'] at h
    simp only [if_pos hal'] at h
    cases hq : b (args ++ List.replicate (N.length - args.length) .unk) with
    | none => simp only [hq] at h
    | some r =>
      cases r with
      | exc x ms' =>
        simp only [hq] at h
        exact fun cls d σ' H' p z => h cls d H' (body_end G p) z
      | ok fl ms' =>
        cases fl with
        | bk => simp only [hq] at h
        | ct => simp only [hq] at h
        | nx =>
          simp only [hq] at h
          exact fun σ' H' p => h .non H' (body_end G p) (by show Rep _ _ _ _; rw [Rep])
        | rt ev =>
          simp only [hq] at h
          cases hr' : retE ms' ev with
          | none => simp only [hr'] at h
          | some r =>
            simp only [hr'] at h
            intro v σ' H' p o
            have pe := body_end G p
            cases ev with
            | val d =>
              cases hr'
              exact h v H' pe o
            | new ov =>
              cases hr'
              obtain ⟨a, rfl, hn, oat, no⟩ := o
              exact h _ H' pe ⟨a, rfl, hn, oat, fun z => Ow.live G hn (pe.ow a z)⟩
            | bor i =>
              have o : σ'[i]? = some (some v) := o
              unfold retE at hr'
              cases hi : ms'[i]? with
              | none => simp only [hi] at hr'; cases hr'
              | some sv =>
                cases sv with
                | unk => simp only [hi] at hr'; cases hr'
                | val d =>
                  simp only [hi] at hr'; cases hr'
                  obtain ⟨v', e1, e2⟩ := p.good.val i d hi
                  rw [o] at e1; cases e1
                  exact h v H' pe e2
                | own l ov =>
                  cases l with
                  | true => simp only [hi] at hr'; cases hr'
                  | false =>
                    simp only [hi] at hr'; cases hr'
                    obtain ⟨a, e1, e2⟩ := p.good.own i false ov hi
                    rw [o] at e1; cases e1
                    have hfresh : H a = none := by
                      rcases p.ow a ⟨i, false, ov, hi, o⟩ with z | z
                      · obtain ⟨j, l, o', h1, h2⟩ := z
                        have hj : j < args.length := by
                          apply Classical.byContradiction
                          intro hj
                          rw [List.getElem?_append_right (Nat.le_of_not_lt hj), List.getElem?_replicate] at h1
                          split at h1 <;> cases h1
                        rw [List.getElem?_append_left hj] at h1
                        cases l with
                        | false =>
                          have := List.all_eq_true.mp hal' _ (List.mem_of_getElem? h1)
                          cases this
                        | true =>
                          obtain ⟨⟨o2, k2⟩, k3⟩ := p.lent j o' (by rw [List.getElem?_append_left hj]; exact h1)
                          have := p.good.inj i j false true ov o2 a hi k2 o (by rw [k3]; exact h2)
                          subst this
                          rw [hi] at k2
                          cases k2
                      · exact z
                    exact h _ H' pe ⟨a, rfl, hfresh, e2, fun z => Ow.live G hfresh (pe.ow a z)⟩
end
end Fw
set_option Elab.async false
set_option linter.all false
set_option maxRecDepth 100000
set_option maxHeartbeats 2000000
/-! Fw H: what changes a slot's own list or dict: x[i] = e, x += e, x[i] += e, x.m(..). -/
namespace Fw
open PySem L2
section
variable {K : PySem.W.Frag} {ms : MS} {σ : St} {H : Hp} {i : Nat} {l : Bool} {o o' : OV} {a : Addr} {u u' : HO}
theorem kept_chg (hu : H a = some u) (c : Chg u) : Kept H (upd H a u') := by
  refine ⟨fun b xs e => ?_, fun b o' u2 e => ?_⟩
  · rw [upd_ne (show b ≠ a from fun z => by subst z; rw [hu] at e; cases e; exact c)]; exact e
  · rw [upd_ne (show b ≠ a from fun z => by subst z; rw [hu] at e; cases e; exact c)]; exact e
theorem PostE.chg (G : Good K ms σ H) (hi : ms[i]? = some (.own l o)) (hs : σ[i]? = some (some (.ref a))) (oa : OwnAt K (upd H a u') a o') : PostE K ms σ H (ms.set i (.own l o')) (upd H a u') := by
  obtain ⟨u, hu, c⟩ := G.chg ⟨i, l, o, hi, hs⟩
  have k := kept_chg (u' := u') hu c
  have hil : i < ms.length := (List.getElem?_eq_some_iff.mp hi).1
  have own_c : ∀ {j : Nat} {l' : Bool} {o2 : OV}, (ms.set i (.own l o'))[j]? = some (.own l' o2) → (j = i ∧ l' = l ∧ o2 = o') ∨ (j ≠ i ∧ ms[j]? = some (.own l' o2)) := fun {j l' o2} h => by
    by_cases hj : j = i
    · subst hj
      rw [List.getElem?_set_self hil] at h; cases h
      exact .inl ⟨rfl, rfl, rfl⟩
    · rw [List.getElem?_set_ne (Ne.symm hj)] at h
      exact .inr ⟨hj, h⟩
  have own_x : ∀ {j : Nat} {l' : Bool} {o2 : OV}, (ms.set i (.own l o'))[j]? = some (.own l' o2) → ∃ o3, ms[j]? = some (.own l' o3) := fun {j l' o2} h => by
    rcases own_c h with ⟨rfl, rfl, _⟩ | ⟨_, h⟩
    · exact ⟨o, hi⟩
    · exact ⟨o2, h⟩
  refine ⟨⟨by rw [List.length_set]; exact G.len, fun j d h => ?_, fun j l' o2 h => ?_, fun j j' l1 l2 o1 o2 b h1 h2 e1 e2 => ?_⟩, fun b x h n => ?_, fun b h => ?_, fun b z => ?_, fun j x h => ?_⟩
  · have hj : j ≠ i := fun z => by
      subst z
      rw [List.getElem?_set_self hil] at h; cases h
    rw [List.getElem?_set_ne (Ne.symm hj)] at h
    obtain ⟨v, e, r⟩ := G.val j d h
    exact ⟨v, e, Rep.mono k _ _ r⟩
  · rcases own_c h with ⟨rfl, rfl, rfl⟩ | ⟨hj, h⟩
    · exact ⟨a, hs, oa⟩
    · obtain ⟨b, e, r⟩ := G.own j l' o2 h
      refine ⟨b, e, r.mono k fun w hw => ?_⟩
      rw [upd_ne (show b ≠ a from fun z => hj (G.inj j i l' l o2 o a h hi (by rw [← z]; exact e) hs))]
      exact hw
  · obtain ⟨x1, k1⟩ := own_x h1
    obtain ⟨x2, k2⟩ := own_x h2
    exact G.inj j j' l1 l2 x1 x2 b k1 k2 e1 e2
  · rw [upd_ne (show b ≠ a from fun z => n ⟨i, l, o, hi, by rw [z]; exact hs⟩)]
    exact h
  · by_cases z : b = a
    · subst z; rw [upd_same]; exact fun z => nomatch z
    · rw [upd_ne z]; exact h
  · obtain ⟨j, l', o2, h1, h2⟩ := z
    obtain ⟨x1, k1⟩ := own_x h1
    exact ⟨j, l', x1, k1, h2⟩
  · by_cases hj : j = i
    · subst hj
      rw [hi] at h; cases h
      exact ⟨o', List.getElem?_set_self hil⟩
    · exact ⟨x, by rw [List.getElem?_set_ne (Ne.symm hj)]; exact h⟩
end
section
variable {X : Cx} {W : WX} {e ei : Expr} {es : List Expr} {me mk : M EV} {mas : M (List EV)} {pos pos' apos tpos np : Pos} {i : Nat} {x : Str}

/-! ### x[k] = e -/
def SetR (X : Cx) (g : OV → D → D → Option OV) : Prop :=
  ∃ t, PSet X t ∧ ∀ H a o i v k d o' Q, OwnAt X.K H a o → Rep X.K H k i → Rep X.K H d v → g o k d = some o' → (∀ u', OwnAt X.K (upd H a u') a o' → Q (upd H a u')) → t (.ref a) i v H Q
/-- the slot's own object is changed by f -/
def chgS (i : Nat) (f : OV → Option OV) (ms : MS) : Option MS := match ms[i]? with
  | some (.own l o) => (f o).map fun o' => ms.set i (.own l o')
  | _ => none
/-- the slot holds an own object -/
def ownS (i : Nat) (ms : MS) : Bool := match ms[i]? with
  | some (.own _ _) => true
  | _ => false
def guardS {α : Type} (i : Nat) (m : M α) : M α := fun ms => if ownS i ms = true then m ms else none
def sSetI (g : OV → D → D → Option OV) (i : Nat) (mk me : M EV) : MSt := (mFz me).bind fun ev => guardS i ((mFz mk).bind fun ek ms => match ev, ek with
  | .val d, .val k => (match chgS i (fun o => g o k d) ms with
    | some ms' => some (.ok .nx ms')
    | none => none)
  | _, _ => none)
theorem Run.guard {α : Type} {m : M α} {ms : MS} {k : α → MS → Prop} {x : EX → MS → Prop} (h : Run (guardS i m) ms k x) : (∃ l o, ms[i]? = some (.own l o)) ∧ Run m ms k x := by
  unfold Run guardS at h
  by_cases c : ownS i ms = true
  · simp only [if_pos c] at h
    refine ⟨?_, h⟩
    unfold ownS at c
    cases q : ms[i]? with
    | none => rw [q] at c; cases c
    | some s =>
      rw [q] at c
      cases s with
      | own l o => exact ⟨l, o, rfl⟩
      | unk => cases c
      | val d => cases c
  · simp only [if_neg c] at h
theorem chgS_some {i : Nat} {f : OV → Option OV} {ms ms' : MS} (h : chgS i f ms = some ms') : ∃ l o o', ms[i]? = some (.own l o) ∧ f o = some o' ∧ ms' = ms.set i (.own l o') := by
  unfold chgS at h
  cases q : ms[i]? with
  | none => rw [q] at h; cases h
  | some s =>
    rw [q] at h
    cases s with
    | unk => cases h
    | val d => cases h
    | own l o =>
      obtain ⟨o', h1, h2⟩ := Option.map_eq_some_iff.mp h
      exact ⟨l, o, o', rfl, h1, h2.symm⟩
theorem ms_setI {g : OV → D → D → Option OV} (hg : SetR X g) (hN : X.N[i]? = some x) (hv : Vis X.env.scope x) (hd : (x == ("__debug__" : Str)) = false) (hcd : (x == ("__classdict__" : Str)) = false) (he : ME X W e me) (hk : ME X W ei mk)
    (ha : ∀ v, assign (.Subscript (.Name x np) ei pos') X.env v = (do
      let ov ← holding [v] (eval (.Name x np) X.env)
      let iv ← holding [v, ov] (eval ei X.env)
      standAt pos'
      holding [v, ov, iv] (setItem ov iv v)
      release [v, ov, iv] [])) (hs : swapsWithSole [.Subscript (.Name x np) ei pos'] e pos.line X.env = pure false) (hw : swappedStores [.Subscript (.Name x np) ei pos'] e X.env = pure none)
    (h1 : (assignEach [.Subscript (.Name x np) ei pos'] X.env).map (·.2) = [assign (.Subscript (.Name x np) ei pos') X.env]) : MS1 X W (.Assign [.Subscript (.Name x np) ei pos'] e pos) (sSetI g i mk me) := by
  obtain ⟨t, pt, qt⟩ := hg
  refine PS.imp (ps_asg (me_fz he) (pg_sub (pe_var hN hv hd hcd) (me_fz hk) pt ha) hs hw h1) fun D σ H q => ?_
  rw [tMS_eq] at q
  obtain ⟨ms, G, h⟩ := q
  refine tM_bind G h (fun x ms' z => ExK.e z) fun ev ms1 h1 v H1 p1 o1 => ?_
  obtain ⟨⟨l0, o0, hi0⟩, h2⟩ := Run.guard h1
  obtain ⟨a, ea, _⟩ := p1.good.own i l0 o0 hi0
  refine ⟨_, ea, ?_⟩
  refine tM_bind p1.good h2 (fun x ms' z => (ExK.from p1.st z).e) fun ek ms2 h3 y H2 p2 o2 => ?_
  cases ev with
  | new o => exact h3.elim
  | bor j => exact h3.elim
  | val d =>
    cases ek with
    | new o => exact h3.elim
    | bor j => exact h3.elim
    | val kd =>
      cases hc : chgS i (fun o => g o kd d) ms2 with
      | none => simp only [Run, hc] at h3
      | some ms3 =>
        simp only [Run, hc] at h3
        obtain ⟨l, o, o', hi, hg, rfl⟩ := chgS_some hc
        obtain ⟨b, eb, ob⟩ := p2.good.own i l o hi
        rw [ea] at eb; cases eb
        refine qt H2 a o y v kd d o' _ ob o2 (Rep.mono (p2.kept p1.good) _ _ o1) hg fun u' oa => ?_
        exact h3 σ _ ((p1.trans p2).trans (PostE.chg p2.good hi ea oa)).st

/-! ### x op= e -/
def sAug (g : D → D → Option EV) (i : Nat) (me : M EV) : MSt := fun ms0 => match ms0[i]? with
  | some (.val d) => (me.bind fun ev ms => match rd ms ev with
    | some e => (match g d e with
      | some r => stE i r ms
      | none => none)
    | none => none) ms0
  | _ => none
theorem ms_aug {op : Operator} {g : D → D → Option EV} (ho : Op2 X (inplaceOp op) g) (hN : X.N.Nodup) (hi : X.N[i]? = some x) (hx : Loc X.env.scope x) (he : ME X W e me) (hf : X.fn x = true ∨ X.env.scope.names.lookup x = some .local) : MS1 X W (.AugAssign (.Name x pos') op e pos) (sAug g i me) := by
  obtain ⟨r, hr, hq⟩ := ho
  refine PS.imp (ps_aug hN hi hx he (ti := r) hr hf) fun D σ H q => ?_
  rw [tMS_eq] at q
  obtain ⟨ms, G, h⟩ := q
  cases hs : ms[i]? with
  | none => simp only [Run, sAug, hs] at h
  | some s =>
    cases s with
    | unk => simp only [Run, sAug, hs] at h
    | own l o => simp only [Run, sAug, hs] at h
    | val d =>
      have h' : Run (me.bind fun ev ms => match rd ms ev with
        | some e => (match g d e with
          | some r => stE i r ms
          | none => none)
        | none => none) ms (EndK X.K D ms σ H) (ExK X.K W ms σ H) := by
        simp only [Run, sAug, hs] at h ⊢
        exact h
      obtain ⟨v, ev, rv⟩ := G.val i d hs
      refine ⟨v, ev, ?_⟩
      refine tM_bind G h' (fun x ms' z => ExK.e z) fun ey ms1 h1 y H1 p1 o1 => ?_
      cases hd : rd ms1 ey with
      | none => simp only [Run, hd] at h1
      | some e2 =>
        cases hg : g d e2 with
        | none => simp only [Run, hd, hg] at h1
        | some er =>
          simp only [Run, hd, hg] at h1
          refine hq H1 v y d e2 er _ (.of (Rep.mono (p1.kept G) _ _ rv)) (rd_ok p1.good o1 hd) hg fun z H2 s2 r2 => ?_
          have p2 := p1.trans (PostE.same p1.good s2)
          cases er with
          | bor j => exact r2.elim
          | val dr =>
            cases hq2 : setS i (.val dr) ms1 with
            | none => simp only [stE, hq2] at h1
            | some ms2 =>
              simp only [stE, hq2] at h1
              exact h1 _ _ (p2.st.trans (PostS.setVal p2.good hq2 r2))
          | new o =>
            cases hq2 : setS i (.own false o) ms1 with
            | none => simp only [stE, hq2] at h1
            | some ms2 =>
              simp only [stE, hq2] at h1
              obtain ⟨a, rfl, hn, oat⟩ := r2
              have hn0 : H a = none := by
                cases qq : H a with
                | none => rfl
                | some u => exact absurd hn (p1.live a (by rw [qq]; exact fun z => nomatch z))
              obtain ⟨g2, w2, l2⟩ := PostS.setOwn (H0 := H) p2.good hq2 oat (Ow.live p1.good hn)
              refine h1 _ _ ⟨g2, p2.keep, p2.live, fun b z => ?_, fun j o' hj => ?_⟩
              · rcases w2 b z with z | z
                · exact .inl (p2.ow b z)
                · subst z; exact .inr hn0
              · obtain ⟨o2, h2⟩ := p2.lent j o' hj
                exact l2 j o2 h2

/-! ### x[k] op= e -/
def GetR (X : Cx) (g : OV → D → Option D) : Prop :=
  ∃ r, PGet X r ∧ ∀ H a o i k d Q, OwnAt X.K H a o → Rep X.K H k i → g o k = some d → (∀ v, Rep X.K H d v → Q v H) → r (.ref a) i H Q
def sAugI (gt : OV → D → Option D) (gop : D → D → Option EV) (st : OV → D → D → Option OV) (i : Nat) (mk me : M EV) : MSt := guardS i ((mFz mk).bind fun ek ms => match ek, ms[i]? with
  | .val k, some (.own _ o) => (match gt o k with
    | some old => (me.bind fun ev ms1 => match rd ms1 ev with
      | some e => (match gop old e with
        | some (.val r) => (match chgS i (fun o => st o k r) ms1 with
          | some ms2 => some (.ok .nx ms2)
          | none => none)
        | _ => none)
      | none => none) ms
    | none => none)
  | _, _ => none)
theorem ms_augI {op : Operator} {gt : OV → D → Option D} {gop : D → D → Option EV} {st : OV → D → D → Option OV} (hgt : GetR X gt) (ho : Op2 X (inplaceOp op) gop) (hst : SetR X st) (hN : X.N[i]? = some x) (hv : Vis X.env.scope x) (hd : (x == ("__debug__" : Str)) = false) (hcd : (x == ("__classdict__" : Str)) = false)
    (hk : ME X W ei mk) (he : ME X W e me) (ha : ∀ ov iv new, augStore ei ov iv new = (do holding [new, ov, iv] (setItem ov iv new); release [new, ov, iv] []; pure .next)) : MS1 X W (.AugAssign (.Subscript (.Name x np) ei tpos) op e pos) (sAugI gt gop st i mk me) := by
  obtain ⟨rg, pg, qg⟩ := hgt
  obtain ⟨r, hr, hq⟩ := ho
  obtain ⟨t, pt, qt⟩ := hst
  refine PS.imp (ps_augS (pe_var hN hv hd hcd) (me_fz hk) pg he (tip := r) hr pt ha) fun D σ H q => ?_
  rw [tMS_eq] at q
  obtain ⟨ms, G, h⟩ := q
  obtain ⟨⟨l0, o0, hi0⟩, h2⟩ := Run.guard h
  obtain ⟨a, ea, _⟩ := G.own i l0 o0 hi0
  refine ⟨_, ea, ?_⟩
  refine tM_bind G h2 (fun x ms' z => ExK.e z) fun ek ms1 h3 y H1 p1 o1 => ?_
  cases ek with
  | new o => exact h3.elim
  | bor j => exact h3.elim
  | val kd =>
    cases hi1 : ms1[i]? with
    | none => simp only [Run, hi1] at h3
    | some s =>
      cases s with
      | unk => simp only [Run, hi1] at h3
      | val d => simp only [Run, hi1] at h3
      | own l1 ov1 =>
        cases hg : gt ov1 kd with
        | none => simp only [Run, hi1, hg] at h3
        | some old =>
          have h4 : Run (me.bind fun ev ms1 => match rd ms1 ev with
            | some e => (match gop old e with
              | some (.val r) => (match chgS i (fun o => st o kd r) ms1 with
                | some ms2 => some (.ok Fl.nx ms2)
                | none => none)
              | _ => none)
            | none => none) ms1 (EndK X.K D ms σ H) (ExK X.K W ms σ H) := by
            simp only [Run, hi1, hg] at h3 ⊢
            exact h3
          obtain ⟨b, eb, ob⟩ := p1.good.own i l1 ov1 hi1
          rw [ea] at eb; cases eb
          refine qg H1 a ov1 y kd old _ ob o1 hg fun vo rvo => ?_
          refine tM_bind p1.good h4 (fun x ms' z => (ExK.from p1.st z).e) fun ev ms2 h5 z H2 p2 o2 => ?_
          cases hd2 : rd ms2 ev with
          | none => simp only [Run, hd2] at h5
          | some e2 =>
            cases hg2 : gop old e2 with
            | none => simp only [Run, hd2, hg2] at h5
            | some er =>
              cases er with
              | new o => simp only [Run, hd2, hg2] at h5
              | bor j => simp only [Run, hd2, hg2] at h5
              | val rr =>
                cases hc : chgS i (fun o => st o kd rr) ms2 with
                | none => simp only [Run, hd2, hg2, hc] at h5
                | some ms3 =>
                  simp only [Run, hd2, hg2, hc] at h5
                  refine hq H2 vo z old e2 _ _ (.of (Rep.mono (p2.kept p1.good) _ _ rvo)) (rd_ok p2.good o2 hd2) hg2 fun zr H3 s3 r3 => ?_
                  have p3 := PostE.same p2.good s3
                  have p23 := p2.trans p3
                  obtain ⟨l, o, o', hi, hst', rfl⟩ := chgS_some hc
                  obtain ⟨b, eb, ob'⟩ := p3.good.own i l o hi
                  rw [ea] at eb; cases eb
                  refine qt H3 a o y zr kd rr o' _ ob' (Rep.mono (p23.kept p1.good) _ _ o1) r3 hst' fun u' oa => ?_
                  exact h5 σ _ (((p1.trans p23)).trans (PostE.chg p3.good hi ea oa)).st

/-! ### x.m(..) -/
/-- a method that changes its object; its arguments by their readings -/
def MutB (X : Cx) (id : String) (g : OV → List D → Option (D × OV)) : Prop :=
  ∃ r, MtR X id r ∧ ∀ H a o xs ds d o' Q, OwnAt X.K H a o → Paired (fun v d => RdAt X.K H d v) xs ds → g o ds = some (d, o') → (∀ v u', OwnAt X.K (upd H a u') a o' → Rep X.K (upd H a u') d v → Q v (upd H a u')) → r (.ref a) xs H Q
/-- .. by frozen values -/
def MutV (X : Cx) (id : String) (g : OV → List D → Option (D × OV)) : Prop :=
  ∃ r, MtR X id r ∧ ∀ H a o xs ds d o' Q, OwnAt X.K H a o → Reps X.K H ds xs → g o ds = some (d, o') → (∀ v u', OwnAt X.K (upd H a u') a o' → Rep X.K (upd H a u') d v → Q v (upd H a u')) → r (.ref a) xs H Q
def ovT : OV → String
  | .lst _ => "list"
  | .dic _ _ _ => "dict"
theorem ovT_ok {K : PySem.W.Frag} {H : Hp} {a : Addr} {T : String} : ∀ {o : OV}, OwnAt K H a o → ovT o = T → tyV K T (.ref a) H
  | .lst ds, h, e => by obtain ⟨xs, h, _⟩ := h; exact .inl ⟨e.symm, xs, .of h⟩
  | .dic t ks vs, h, e => by
    obtain ⟨u, xs, h, d, _⟩ := h
    cases t with
    | false => obtain ⟨kvs, rfl, _⟩ := d; exact .inr (.inr (.inl ⟨e.symm, .inl ⟨kvs, h⟩⟩))
    | true => obtain ⟨kvs, rfl, _⟩ := d; exact .inr (.inr (.inl ⟨e.symm, .inr ⟨kvs, h⟩⟩))
def mMeth (T : String) (rdA : MS → List EV → Option (List D)) (g : OV → List D → Option (D × OV)) (i : Nat) (mas : M (List EV)) : M EV := fun ms0 => match ms0[i]? with
  | some (.own _ o0) => if ovT o0 = T then (mas.bind fun es ms => match rdA ms es, ms[i]? with
      | some ds, some (.own l o) => (match g o ds with
        | some (d, o') => some (.ok (.val d) (ms.set i (.own l o')))
        | none => none)
      | _, _ => none) ms0 else none
  | _ => none
theorem meth_core {T : String} {rdA : MS → List EV → Option (List D)} {g : OV → List D → Option (D × OV)} {r : V → List V → Hp → VK → Prop} {RA : Hp → List V → List D → Prop}
    (hrd : ∀ {ms : MS} {σ : St} {H0 H : Hp} {vs : List V} {es : List EV} {ds : List D}, Good X.K ms σ H → EVsOk X.K ms σ H0 H vs es → rdA ms es = some ds → RA H vs ds)
    (hq : ∀ H a o xs ds d o' Q, OwnAt X.K H a o → RA H xs ds → g o ds = some (d, o') → (∀ v u', OwnAt X.K (upd H a u') a o' → Rep X.K (upd H a u') d v → Q v (upd H a u')) → r (.ref a) xs H Q) {σ : St} {H : Hp} {Q : VK}
    (q : tM X.K W (mMeth T rdA g i mas) σ H Q) : tBM X.K T r (tVar i) (tMA X.K W mas) σ H Q := by
  obtain ⟨ms, G, h⟩ := q
  cases hi0 : ms[i]? with
  | none => simp only [Run, mMeth, hi0] at h
  | some s =>
    cases s with
    | unk => simp only [Run, mMeth, hi0] at h
    | val d => simp only [Run, mMeth, hi0] at h
    | own l0 o0 =>
      by_cases hT : ovT o0 = T
      case neg => simp only [Run, mMeth, hi0, if_neg hT] at h
      have h' : Run (mas.bind fun es ms => match rdA ms es, ms[i]? with
        | some ds, some (.own l o) => (match g o ds with
          | some (d, o') => some (.ok (.val d) (ms.set i (.own l o')))
          | none => none)
        | _, _ => none) ms (fun ev ms' => ∀ v H', PostE X.K ms σ H ms' H' → EVOk X.K ms' σ H H' v ev → Q v H') (fun x ms' => ∀ cls d H', PostE X.K ms σ H ms' H' → ExOk X.K H' x cls d → W cls d σ H') := by
        simp only [Run, mMeth, hi0, if_pos hT] at h ⊢
        exact h
      obtain ⟨a, ea, oa⟩ := G.own i l0 o0 hi0
      refine ⟨_, ea, ovT_ok oa hT, ?_⟩
      refine tMA_bind G h' (fun x ms' z => z) fun evs ms1 h1 vs H1 p1 o1 => ?_
      cases hr : rdA ms1 evs with
      | none => simp only [Run, hr] at h1
      | some ds =>
        cases hi : ms1[i]? with
        | none => simp only [Run, hr, hi] at h1
        | some s =>
          cases s with
          | unk => simp only [Run, hr, hi] at h1
          | val d => simp only [Run, hr, hi] at h1
          | own l o =>
            cases hg : g o ds with
            | none => simp only [Run, hr, hi, hg] at h1
            | some dr =>
              obtain ⟨d, o'⟩ := dr
              simp only [Run, hr, hi, hg] at h1
              obtain ⟨b, eb, ob⟩ := p1.good.own i l o hi
              rw [ea] at eb; cases eb
              refine hq H1 a o vs ds d o' Q ob (hrd p1.good o1 hr) hg fun v u' oa' rv => ?_
              exact h1 v _ (p1.trans (PostE.chg p1.good hi ea oa')) rv
theorem me_meth {T id name : String} {g : OV → List D → Option (D × OV)} (hg : MutB X id g) (pa : PlainAttrs T) (slot : Slot T name id) (hty : typeOf (.builtin id) = pure (.type "method_descriptor"))
    (hN : X.N[i]? = some x) (hv : Vis X.env.scope x) (hd : (x == ("__debug__" : Str)) = false) (hcd : (x == ("__classdict__" : Str)) = false) (ha : MA X W (e :: es) mas)
    (hbase : attributeBase (.Name x np) name X.env (eval (.Name x np) X.env) = eval (.Name x np) X.env)
    (hfew : ((backTo pos (starEach (e :: es) X.env)).all (fun x => !x.1) && (backToKw pos (keywordEach [] X.env)).all (fun x => x.1.isSome)
      && decide ((e :: es).length + ([] : List Keyword).length + (if ([] : List Keyword).isEmpty then 0 else 1) < 30)) = true)
    (hline : (apos.endLine == pos.line) = true) (hs : starEach (e :: es) X.env = (false, eval e X.env) :: starEach es X.env) (hplain : (backTo pos (starEach es X.env)).any (·.1) = false) :
    ME X W (.Call (.Attribute (.Name x np) name apos) (e :: es) [] pos) (mMeth T rds g i mas) := by
  obtain ⟨r, hr, hq⟩ := hg
  exact PE.imp (pe_bm pa slot hty hr (pe_var hN hv hd hcd) ha hbase hfew hline hs hplain) fun σ H Q q => meth_core (RA := fun H vs ds => Paired (fun v d => RdAt X.K H d v) vs ds) (fun G o e => rds_ok G o e) hq q
theorem me_methV {T id name : String} {g : OV → List D → Option (D × OV)} (hg : MutV X id g) (pa : PlainAttrs T) (slot : Slot T name id) (hty : typeOf (.builtin id) = pure (.type "method_descriptor"))
    (hN : X.N[i]? = some x) (hv : Vis X.env.scope x) (hd : (x == ("__debug__" : Str)) = false) (hcd : (x == ("__classdict__" : Str)) = false) (ha : MA X W (e :: es) mas)
    (hbase : attributeBase (.Name x np) name X.env (eval (.Name x np) X.env) = eval (.Name x np) X.env)
    (hfew : ((backTo pos (starEach (e :: es) X.env)).all (fun x => !x.1) && (backToKw pos (keywordEach [] X.env)).all (fun x => x.1.isSome)
      && decide ((e :: es).length + ([] : List Keyword).length + (if ([] : List Keyword).isEmpty then 0 else 1) < 30)) = true)
    (hline : (apos.endLine == pos.line) = true) (hs : starEach (e :: es) X.env = (false, eval e X.env) :: starEach es X.env) (hplain : (backTo pos (starEach es X.env)).any (·.1) = false) :
    ME X W (.Call (.Attribute (.Name x np) name apos) (e :: es) [] pos) (mMeth T (fun _ => vals) g i mas) := by
  obtain ⟨r, hr, hq⟩ := hg
  exact PE.imp (pe_bm pa slot hty hr (pe_var hN hv hd hcd) ha hbase hfew hline hs hplain) fun σ H Q q => meth_core (RA := fun H vs ds => Reps X.K H ds vs) (fun G o e => vals_ok o e) hq q
/-- without arguments -/
def mMeth0 (T : String) (g : OV → List D → Option (D × OV)) (i : Nat) : M EV := fun ms => match ms[i]? with
  | some (.own l o) => if ovT o = T then (match g o [] with
      | some (d, o') => some (.ok (.val d) (ms.set i (.own l o')))
      | none => none) else none
  | _ => none
theorem me_meth0 {T id name : String} {g : OV → List D → Option (D × OV)} (hg : MutB X id g) (pa : PlainAttrs T) (slot : Slot T name id) (hty : typeOf (.builtin id) = pure (.type "method_descriptor"))
    (hN : X.N[i]? = some x) (hv : Vis X.env.scope x) (hd : (x == ("__debug__" : Str)) = false) (hcd : (x == ("__classdict__" : Str)) = false)
    (hbase : attributeBase (.Name x np) name X.env (eval (.Name x np) X.env) = eval (.Name x np) X.env) (hline : (apos.endLine == pos.line) = true) :
    ME X W (.Call (.Attribute (.Name x np) name apos) [] [] pos) (mMeth0 T g i) := by
  obtain ⟨r, hr, hq⟩ := hg
  refine PE.imp (pe_bm0 pa slot hty hr (pe_var hN hv hd hcd) hbase hline) fun σ H Q q => ?_
  obtain ⟨ms, G, h⟩ := q
  cases hi : ms[i]? with
  | none => simp only [Run, mMeth0, hi] at h
  | some s =>
    cases s with
    | unk => simp only [Run, mMeth0, hi] at h
    | val d => simp only [Run, mMeth0, hi] at h
    | own l o =>
      by_cases hT : ovT o = T
      case neg => simp only [Run, mMeth0, hi, if_neg hT] at h
      cases hgo : g o [] with
      | none => simp only [Run, mMeth0, hi, if_pos hT, hgo] at h
      | some dr =>
        obtain ⟨d, o'⟩ := dr
        simp only [Run, mMeth0, hi, if_pos hT, hgo] at h
        obtain ⟨a, ea, oa⟩ := G.own i l o hi
        refine ⟨_, ea, ovT_ok oa hT, ?_⟩
        refine hq H a o [] [] d o' Q oa .nil hgo fun v u' oa' rv => ?_
        exact h v _ (PostE.chg G hi ea oa') rv
end
end Fw
set_option Elab.async false
set_option linter.all false
set_option maxRecDepth 100000
set_option maxHeartbeats 4000000
namespace Fw
open PySem PySem.Spec PyProof.Rows L2
theorem tuple_mul_same (l : Addr) (items : Array Value) (n : Nat) (sl : Array (Option Value)) (dd : Option Addr) (x : Int) (u : Tok) (c0 : (decide (x < -(2 ^ 63)) || decide (x ≥ 2 ^ 63)) = false) (c1 : (items.isEmpty || x == 1) = true) :
    Meets (Builtin.«tuple.__mul__» ⟨[.ref l, .int x u], []⟩) (fun _ R s => s.heap.get? l = some { cls := .type "tuple", dict := dd, data := .seq items n, slots := sl } ∧ R (.ok (.ret (Value.ref l))) s) :=
  .of_wp fun prog w A R s h => by
    obtain ⟨hp, g, d, tk, os⟩ := s
    obtain ⟨hl, h⟩ := h
    have f1 := AutoSeq1.idx_int
    wp_walk using wpAny_loadPart' hl
    repeat (first
      | (refine wpAny_ite_false (decide_eq_false (by rw [c0]; exact Bool.false_ne_true)) ?_; wp_walk using wpAny_loadPart' hl)
      | (refine wpAny_ite_true (decide_eq_true (by rw [c1])) ?_; wp_walk using wpAny_loadPart' hl))
    exact ⟨_, rfl, h⟩
theorem tuple_mul_nil (l : Addr) (items : Array Value) (n : Nat) (sl : Array (Option Value)) (dd : Option Addr) (x : Int) (u : Tok) (c0 : (decide (x < -(2 ^ 63)) || decide (x ≥ 2 ^ 63)) = false) (c1 : (items.isEmpty || x == 1) = false) (c2 : (decide (x ≤ 0) || items.isEmpty) = true) :
    Meets (Builtin.«tuple.__mul__» ⟨[.ref l, .int x u], []⟩) (fun _ R s => s.heap.get? l = some { cls := .type "tuple", dict := dd, data := .seq items n, slots := sl } ∧
      R (.ok (.ret (Value.ref s.heap.objs.size))) { s with heap := s.heap.push { cls := Value.type "tuple", data := Data.seq #[] }, toks := s.toks }) :=
  .of_wp fun prog w A R s h => by
    obtain ⟨hp, g, d, tk, os⟩ := s
    obtain ⟨hl, h⟩ := h
    have f1 := AutoSeq1.idx_int
    wp_walk using wpAny_loadPart' hl
    repeat (first
      | (refine wpAny_ite_false (decide_eq_false (by rw [c0]; exact Bool.false_ne_true)) ?_; wp_walk using wpAny_loadPart' hl)
      | (refine wpAny_ite_false (decide_eq_false (by rw [c1]; exact Bool.false_ne_true)) ?_; wp_walk using wpAny_loadPart' hl)
      | (refine wpAny_ite_true (decide_eq_true (by rw [c2])) ?_; wp_walk using wpAny_loadPart' hl))
    exact ⟨_, rfl, h⟩
end Fw
set_option Elab.async false
set_option linter.all false
set_option maxRecDepth 100000
set_option maxHeartbeats 4000000
/-! Fw I: the operators and built-ins on data. -/
namespace Fw
open PySem L2

/-! ### small lemmas -/
section
variable {K : PySem.W.Frag} {H H' : Hp} {v : V}
theorem rdNon (h : RdAt K H .non v) : v = .non := by have h : Rep K H .non v := h; rw [Rep] at h; exact h
theorem rdBl {b : Bool} (h : RdAt K H (.bl b) v) : v = .bl b := by have h : Rep K H (.bl b) v := h; rw [Rep] at h; exact h
theorem rdInt {i : Int} (h : RdAt K H (.int i) v) : v = .int i := by have h : Rep K H (.int i) v := h; rw [Rep] at h; exact h
theorem rdStr {x : Str} (h : RdAt K H (.str x) v) : v = .str x := by have h : Rep K H (.str x) v := h; rw [Rep] at h; exact h
theorem rdTup {ds : List D} (h : RdAt K H (.tup ds) v) : ∃ a xs, v = .ref a ∧ H a = some (.tup xs) ∧ Reps K H ds xs := by have h : Rep K H (.tup ds) v := h; rw [Rep] at h; exact h
theorem rdKtp {ds : List D} (h : RdAt K H (.ktp ds) v) : ∃ a xs, v = .ref a ∧ KTu K a xs ∧ Reps K H ds xs := by have h : Rep K H (.ktp ds) v := h; rw [Rep] at h; exact h
theorem rdKls {ds : List D} (h : RdAt K H (.kls ds) v) : ∃ a xs, v = .ref a ∧ KLi K a xs ∧ Reps K H ds xs := by have h : Rep K H (.kls ds) v := h; rw [Rep] at h; exact h
theorem rdTy {n : String} (h : RdAt K H (.ty n) v) : v = .ty n := by have h : Rep K H (.ty n) v := h; rw [Rep] at h; exact h
theorem roInt {i : Int} : ResOk K H H' (.int i) (.val (.int i)) := by show Rep _ _ _ _; rw [Rep]
theorem roBl {b : Bool} : ResOk K H H' (.bl b) (.val (.bl b)) := by show Rep _ _ _ _; rw [Rep]
theorem roStr {x : Str} : ResOk K H H' (.str x) (.val (.str x)) := by show Rep _ _ _ _; rw [Rep]
theorem roNon : ResOk K H H' .non (.val .non) := by show Rep _ _ _ _; rw [Rep]
/-- a new tuple, a new list -/
theorem roTup {ds : List D} {xs : List V} {p : Addr} (r : Reps K H ds xs) (hp : H p = none) : ResOk K H (upd H p (.tup xs)) (.ref p) (.val (.tup ds)) := by
  show Rep _ _ _ _
  rw [Rep]
  exact ⟨p, xs, rfl, upd_same, Reps.mono (.same (same_new hp)) _ _ r⟩
theorem roLst {ds : List D} {xs : List V} {p : Addr} (r : Reps K H ds xs) (hp : H p = none) : ResOk K H (upd H p (.lst xs)) (.ref p) (.new (.lst ds)) :=
  ⟨p, rfl, hp, xs, upd_same, Reps.mono (.same (same_new hp)) _ _ r⟩
theorem roOld {ds : List D} {xs : List V} {a : Addr} (h : H a = some (.tup xs)) (r : Reps K H ds xs) : ResOk K H H (.ref a) (.val (.tup ds)) := by
  show Rep _ _ _ _
  rw [Rep]
  exact ⟨a, xs, rfl, h, r⟩
theorem Reps.append : ∀ {ds es : List D} {xs ys : List V}, Reps K H ds xs → Reps K H es ys → Reps K H (ds ++ es) (xs ++ ys)
  | [], _, xs, _, h, r => by rw [Reps] at h; subst h; exact r
  | d :: ds, es, xs, ys, h, r => by
    rw [Reps] at h
    obtain ⟨x, t, rfl, h1, h2⟩ := h
    show Reps K H (d :: (ds ++ es)) (x :: (t ++ ys))
    rw [Reps]
    exact ⟨x, t ++ ys, rfl, h1, Reps.append h2 r⟩
theorem Reps.take : ∀ {ds : List D} {xs : List V} (n : Nat), Reps K H ds xs → Reps K H (ds.take n) (xs.take n)
  | [], xs, n, h => by rw [Reps] at h; subst h; cases n <;> simp [Reps]
  | d :: ds, xs, 0, h => by simp [Reps]
  | d :: ds, xs, n + 1, h => by
    rw [Reps] at h
    obtain ⟨x, t, rfl, h1, h2⟩ := h
    show Reps K H (d :: ds.take n) (x :: t.take n)
    rw [Reps]
    exact ⟨x, _, rfl, h1, Reps.take n h2⟩
theorem Reps.drop : ∀ {ds : List D} {xs : List V} (n : Nat), Reps K H ds xs → Reps K H (ds.drop n) (xs.drop n)
  | [], xs, n, h => by rw [Reps] at h; subst h; cases n <;> simp [Reps]
  | d :: ds, xs, 0, h => h
  | d :: ds, xs, n + 1, h => by
    rw [Reps] at h
    obtain ⟨x, t, rfl, h1, h2⟩ := h
    exact Reps.drop n h2
theorem Reps.dropLast : ∀ {ds : List D} {xs : List V}, Reps K H ds xs → Reps K H ds.dropLast xs.dropLast := fun {ds xs} h => by
  rw [List.dropLast_eq_take, List.dropLast_eq_take, h.length]
  exact h.take _
theorem Reps.set {d : D} {v : V} : ∀ {ds : List D} {xs : List V} (n : Nat), Rep K H d v → Reps K H ds xs → Reps K H (ds.set n d) (xs.set n v)
  | [], xs, n, _, h => by rw [Reps] at h; subst h; simp [Reps]
  | e :: ds, xs, 0, r, h => by
    rw [Reps] at h
    obtain ⟨x, t, rfl, h1, h2⟩ := h
    show Reps K H (d :: ds) (v :: t)
    rw [Reps]
    exact ⟨v, t, rfl, r, h2⟩
  | e :: ds, xs, n + 1, r, h => by
    rw [Reps] at h
    obtain ⟨x, t, rfl, h1, h2⟩ := h
    show Reps K H (e :: ds.set n d) (x :: t.set n v)
    rw [Reps]
    exact ⟨x, _, rfl, h1, Reps.set n r h2⟩
theorem Reps.flat {ds : List D} {xs : List V} (h : Reps K H ds xs) : ∀ n : Nat, Reps K H (List.replicate n ds).flatten (List.replicate n xs).flatten
  | 0 => by simp [Reps]
  | n + 1 => by
    rw [List.replicate_succ, List.replicate_succ, List.flatten_cons, List.flatten_cons]
    exact h.append (Reps.flat h n)
theorem Reps.ints : ∀ {ns : List Int} {xs : List V}, Reps K H (ns.map D.int) xs → xs = ns.map V.int
  | [], xs, h => by simpa [Reps] using h
  | n :: ns, xs, h => by
    rw [List.map_cons, Reps] at h
    obtain ⟨x, t, rfl, h1, h2⟩ := h
    rw [repInt h1, Reps.ints h2]
    rfl
theorem Reps.bls : ∀ {ns : List Bool} {xs : List V}, Reps K H (ns.map D.bl) xs → xs = ns.map V.bl
  | [], xs, h => by simpa [Reps] using h
  | n :: ns, xs, h => by
    rw [List.map_cons, Reps] at h
    obtain ⟨x, t, rfl, h1, h2⟩ := h
    have h1 : RdAt K H (.bl n) x := .of h1
    rw [rdBl h1, Reps.bls h2]
    rfl
theorem Reps.strs : ∀ {ns : List Str} {xs : List V}, Reps K H (ns.map D.str) xs → xs = ns.map V.str
  | [], xs, h => by simpa [Reps] using h
  | n :: ns, xs, h => by
    rw [List.map_cons, Reps] at h
    obtain ⟨x, t, rfl, h1, h2⟩ := h
    have h1 : RdAt K H (.str n) x := .of h1
    rw [rdStr h1, Reps.strs h2]
    rfl
end
/-- all of one sort -/
def intsD : List D → Option (List Int)
  | [] => some []
  | .int i :: r => (intsD r).map (i :: ·)
  | _ => none
theorem intsD_eq : ∀ {ds : List D} {ns : List Int}, intsD ds = some ns → ds = ns.map D.int
  | [], ns, h => by cases h; rfl
  | .int i :: r, ns, h => by
    unfold intsD at h
    obtain ⟨m, h1, h2⟩ := Option.map_eq_some_iff.mp h
    subst h2
    rw [intsD_eq h1]
    rfl
  | .non :: _, _, h | .bl _ :: _, _, h | .str _ :: _, _, h | .adr _ :: _, _, h | .ty _ :: _, _, h | .tup _ :: _, _, h | .lst _ :: _, _, h | .dct _ _ _ :: _, _, h | .ktp _ :: _, _, h | .kls _ :: _, _, h => by cases h
def blsD : List D → Option (List Bool)
  | [] => some []
  | .bl i :: r => (blsD r).map (i :: ·)
  | _ => none
theorem blsD_eq : ∀ {ds : List D} {ns : List Bool}, blsD ds = some ns → ds = ns.map D.bl
  | [], ns, h => by cases h; rfl
  | .bl i :: r, ns, h => by
    unfold blsD at h
    obtain ⟨m, h1, h2⟩ := Option.map_eq_some_iff.mp h
    subst h2
    rw [blsD_eq h1]
    rfl
  | .non :: _, _, h | .int _ :: _, _, h | .str _ :: _, _, h | .adr _ :: _, _, h | .ty _ :: _, _, h | .tup _ :: _, _, h | .lst _ :: _, _, h | .dct _ _ _ :: _, _, h | .ktp _ :: _, _, h | .kls _ :: _, _, h => by cases h
def strsD : List D → Option (List Str)
  | [] => some []
  | .str i :: r => (strsD r).map (i :: ·)
  | _ => none
theorem strsD_eq : ∀ {ds : List D} {ns : List Str}, strsD ds = some ns → ds = ns.map D.str
  | [], ns, h => by cases h; rfl
  | .str i :: r, ns, h => by
    unfold strsD at h
    obtain ⟨m, h1, h2⟩ := Option.map_eq_some_iff.mp h
    subst h2
    rw [strsD_eq h1]
    rfl
  | .non :: _, _, h | .int _ :: _, _, h | .bl _ :: _, _, h | .adr _ :: _, _, h | .ty _ :: _, _, h | .tup _ :: _, _, h | .lst _ :: _, _, h | .dct _ _ _ :: _, _, h | .ktp _ :: _, _, h | .kls _ :: _, _, h => by cases h

theorem Op2.alt {X : Cx} {f : Value → Value → Sem Value} {g : D → D → Option EV} {r : R2} (hr : OpR X f r)
    (h : ∀ H x y d e ev Q, RdAt X.K H d x → RdAt X.K H e y → g d e = some ev → (∀ v H', Same H H' → ResOk X.K H H' v ev → Q v H') → r x y H Q) : Op2 X f g := ⟨r, hr, h⟩
/-- the first of two readings -/
theorem Op2.or {X : Cx} {f : Value → Value → Sem Value} {g g' : D → D → Option EV} (h : Op2 X f g) (h' : Op2 X f g') : Op2 X f (fun d e => match g d e with | some r => some r | none => g' d e) := by
  obtain ⟨r, hr, hq⟩ := h
  obtain ⟨r', hr', hq'⟩ := h'
  refine ⟨_, hr.or hr', fun H x y d e ev Q rx ry hg q => ?_⟩
  cases hgd : g d e with
  | some z =>
    simp only [hgd] at hg
    cases hg
    exact .inl (hq H x y d e _ Q rx ry hgd q)
  | none =>
    simp only [hgd] at hg
    exact .inr (hq' H x y d e _ Q rx ry hg q)
theorem Op2.imp {X : Cx} {f : Value → Value → Sem Value} {g g' : D → D → Option EV} (h : Op2 X f g) (i : ∀ d e r, g' d e = some r → g d e = some r) : Op2 X f g' := by
  obtain ⟨r, hr, hq⟩ := h
  exact ⟨r, hr, fun H x y d e ev Q rx ry hg q => hq H x y d e ev Q rx ry (i _ _ _ hg) q⟩

section
variable {X : Cx}
/-! ### numbers -/
def intOp (f : Int → Int → Option EV) (d e : D) : Option EV := match d, e with
  | .int i, .int j => f i j
  | _, _ => none
theorem intOp_some {f : Int → Int → Option EV} {d e : D} {r : EV} (h : intOp f d e = some r) : ∃ i j, d = .int i ∧ e = .int j ∧ f i j = some r := by
  cases d with
  | int i =>
    cases e with
    | int j => exact ⟨i, j, rfl, rfl, h⟩
    | _ => cases h
  | _ => cases h
theorem op2_int {f : Value → Value → Sem Value} {C : Int → Int → Prop} {g : Int → Int → V} {gd : Int → Int → Option EV} (ho : OpR X f (rI C g)) (h : ∀ i j r, gd i j = some r → C i j ∧ ∀ K H, ResOk K H H (g i j) r) : Op2 X f (intOp gd) :=
  ⟨_, ho, fun H x y d e ev Q rx ry hg q => by
    obtain ⟨i, j, rfl, rfl, hg2⟩ := intOp_some hg
    obtain ⟨c, ro⟩ := h i j ev hg2
    exact ⟨i, j, rdInt rx, rdInt ry, c, q _ H (.refl H) (ro X.K H)⟩⟩
theorem op2_int0 {f : Value → Value → Sem Value} {g : Int → Int → V} {gd : Int → Int → Option EV} (ho : OpR X f (rI0 g)) (h : ∀ i j r, gd i j = some r → ∀ K H, ResOk K H H (g i j) r) : Op2 X f (intOp gd) :=
  ⟨_, ho, fun H x y d e ev Q rx ry hg q => by
    obtain ⟨i, j, rfl, rfl, hg2⟩ := intOp_some hg
    exact ⟨i, j, rdInt rx, rdInt ry, q _ H (.refl H) (h i j ev hg2 X.K H)⟩⟩
def iAdd (i j : Int) : Option EV := some (.val (.int (i + j)))
def iSub (i j : Int) : Option EV := some (.val (.int (i - j)))
def iMul (i j : Int) : Option EV := if (-18446744073709551616 < i ∧ i < 18446744073709551616) ∨ (-18446744073709551616 < j ∧ j < 18446744073709551616) then some (.val (.int (i * j))) else none
def iDiv (i j : Int) : Option EV := if 0 < j ∧ j < 1073741824 then some (.val (.int (i / j))) else none
def iMod (i j : Int) : Option EV := if 0 < j then some (.val (.int (i % j))) else none
def iPow (i j : Int) : Option EV := if 0 ≤ j ∧ j ≤ 1000000 ∧ i.natAbs < 18446744073709551616 then some (.val (.int (i ^ j.toNat))) else none
def iShl (i j : Int) : Option EV := if 0 ≤ j ∧ j ≤ 1000000 ∧ i.natAbs < 18446744073709551616 then some (.val (.int (i * 2 ^ j.toNat))) else none
theorem o_iadd : Op2 X (binaryOp .Add) (intOp iAdd) := op2_int0 op_add fun i j r h K H => by cases h; exact roInt
theorem o_isub : Op2 X (binaryOp .Sub) (intOp iSub) := op2_int0 op_sub fun i j r h K H => by cases h; exact roInt
theorem o_imul : Op2 X (binaryOp .Mult) (intOp iMul) := op2_int op_mul fun i j r h => by
  unfold iMul at h
  split at h
  · rename_i c
    cases h
    refine ⟨?_, fun K H => roInt⟩
    unfold CMul
    have : (2 : Int) ^ 64 = 18446744073709551616 := by decide
    rw [this]
    exact c
  · cases h
theorem o_idiv : Op2 X (binaryOp .FloorDiv) (intOp iDiv) := op2_int op_fdiv fun i j r h => by
  unfold iDiv at h
  split at h
  · rename_i c
    cases h
    exact ⟨c, fun K H => roInt⟩
  · cases h
theorem o_imod : Op2 X (binaryOp .Mod) (intOp iMod) := op2_int op_mod fun i j r h => by
  unfold iMod at h
  split at h
  · rename_i c
    cases h
    exact ⟨c, fun K H => roInt⟩
  · cases h
theorem o_ipow : Op2 X (binaryOp .Pow) (intOp iPow) := op2_int op_pow fun i j r h => by
  unfold iPow at h
  split at h
  · rename_i c
    cases h
    exact ⟨c, fun K H => roInt⟩
  · cases h
theorem o_ishl : Op2 X (binaryOp .LShift) (intOp iShl) := op2_int op_shl fun i j r h => by
  unfold iShl at h
  split at h
  · rename_i c
    cases h
    exact ⟨c, fun K H => roInt⟩
  · cases h
theorem o_ladd : Op2 X (inplaceOp .Add) (intOp iAdd) := op2_int0 iop_add fun i j r h K H => by cases h; exact roInt
theorem o_lsub : Op2 X (inplaceOp .Sub) (intOp iSub) := op2_int0 iop_sub fun i j r h K H => by cases h; exact roInt
def iLt (i j : Int) : Option EV := some (.val (.bl (decide (i < j))))
def iLe (i j : Int) : Option EV := some (.val (.bl (decide (i ≤ j))))
def iGt (i j : Int) : Option EV := some (.val (.bl (decide (j < i))))
def iGe (i j : Int) : Option EV := some (.val (.bl (decide (j ≤ i))))
theorem o_ilt : Op2 X (compareOp .Lt) (intOp iLt) := op2_int0 op_lt fun i j r h K H => by cases h; exact roBl
theorem o_ile : Op2 X (compareOp .LtE) (intOp iLe) := op2_int0 op_le fun i j r h K H => by cases h; exact roBl
theorem o_igt : Op2 X (compareOp .Gt) (intOp iGt) := op2_int0 op_gt fun i j r h K H => by cases h; exact roBl
theorem o_ige : Op2 X (compareOp .GtE) (intOp iGe) := op2_int0 op_ge fun i j r h K H => by cases h; exact roBl
def iNeg : D → Option EV
  | .int i => some (.val (.int (-i)))
  | _ => none
theorem o_neg : Op1 X (unaryOp .USub) iNeg := ⟨_, un_neg, fun H x d ev Q rx hg q => by
  cases d with
  | int i => cases hg; exact ⟨i, rdInt rx, q _ H (.refl H) roInt⟩
  | _ => cases hg⟩

/-! ### texts -/
def strOp (f : Str → Str → Option EV) (d e : D) : Option EV := match d, e with
  | .str i, .str j => f i j
  | _, _ => none
theorem strOp_some {f : Str → Str → Option EV} {d e : D} {r : EV} (h : strOp f d e = some r) : ∃ i j, d = .str i ∧ e = .str j ∧ f i j = some r := by
  cases d with
  | str i =>
    cases e with
    | str j => exact ⟨i, j, rfl, rfl, h⟩
    | _ => cases h
  | _ => cases h
def sAdd (x y : Str) : Option EV := if x.length + y.length ≤ 16777216 then some (.val (.str (x ++ y))) else none
theorem o_sadd : Op2 X (binaryOp .Add) (strOp sAdd) := ⟨_, op_add_str, fun H x y d e ev Q rx ry hg q => by
  obtain ⟨i, j, rfl, rfl, hg2⟩ := strOp_some hg
  unfold sAdd at hg2
  split at hg2
  · rename_i c
    cases hg2
    exact ⟨i, j, rdStr rx, rdStr ry, by rw [sizeLine_eq]; exact c, q _ H (.refl H) roStr⟩
  · cases hg2⟩
def sLe (x y : Str) : Option EV := some (.val (.bl (!decide (y.cps.toList < x.cps.toList))))
theorem o_sle : Op2 X (compareOp .LtE) (strOp sLe) := ⟨_, op_le_str, fun H x y d e ev Q rx ry hg q => by
  obtain ⟨i, j, rfl, rfl, hg2⟩ := strOp_some hg
  cases hg2
  exact ⟨i, j, rdStr rx, rdStr ry, q _ H (.refl H) roBl⟩⟩
/-- x in y, texts -/
def inS (x y : Str) : Bool := !(Builtin.Str.occurrences y x 0 y.length 1).isEmpty
def sIn (x y : Str) : Option EV := some (.val (.bl (inS x y)))
def sNotIn (x y : Str) : Option EV := some (.val (.bl (!inS x y)))
theorem o_sin : Op2 X (compareOp .In) (strOp sIn) := ⟨_, op_in_str, fun H x y d e ev Q rx ry hg q => by
  obtain ⟨i, j, rfl, rfl, hg2⟩ := strOp_some hg
  cases hg2
  exact ⟨i, j, rdStr rx, rdStr ry, q _ H (.refl H) roBl⟩⟩
theorem o_snotin : Op2 X (compareOp .NotIn) (strOp sNotIn) := ⟨_, op_notin_str, fun H x y d e ev Q rx ry hg q => by
  obtain ⟨i, j, rfl, rfl, hg2⟩ := strOp_some hg
  cases hg2
  exact ⟨i, j, rdStr rx, rdStr ry, q _ H (.refl H) roBl⟩⟩

/-! ### tuples and lists: +, * -/
def tAddD (d e : D) : Option EV := match d, e with
  | .tup a, .tup b => if a.length + b.length ≤ 16777216 then some (.val (.tup (a ++ b))) else none
  | _, _ => none
theorem o_tadd : Op2 X (binaryOp .Add) tAddD := ⟨_, op_catA, fun H x y d e ev Q rx ry hg q => by
  cases d with
  | tup a =>
    cases e with
    | tup b =>
      simp only [tAddD] at hg
      split at hg
      · rename_i c
        cases hg
        obtain ⟨p, xs, rfl, h1, r1⟩ := rdTup rx
        obtain ⟨p', ys, rfl, h2, r2⟩ := rdTup ry
        refine ⟨p, p', xs, ys, rfl, rfl, .of h1, .of h2, by rw [sizeLine_eq, ← r1.length, ← r2.length]; exact c, fun e => ?_, fun _ e => ?_, fun _ _ z hz => ?_⟩
        · have : a = [] := List.eq_nil_of_length_eq_zero (by rw [r1.length, e]; rfl)
          subst this
          exact q _ H (.refl H) (roOld h2 r2)
        · have : b = [] := List.eq_nil_of_length_eq_zero (by rw [r2.length, e]; rfl)
          subst this
          rw [List.append_nil] at q
          exact q _ H (.refl H) (roOld h1 r1)
        · exact q _ _ (same_new hz) (roTup (r1.append r2) hz)
      · cases hg
    | _ => cases hg
  | _ => cases hg⟩
theorem lstR {pins : List (Addr × Obj)} {σ : St} {H : Hp} {s : Shared} {l : Addr} {xs : List V} (I : Inv X pins σ H s) (hH : Rd H l (.lst xs)) : xs.length ≤ sizeLine ∧ ∃ (its : List Value) (n : Nat), Vals xs its ∧ xs.length = its.length ∧ s.heap.get? l = some { cls := .type "list", data := .seq its.toArray n } := by
  obtain ⟨z, its, n, r, e⟩ := hH.ok I.hok
  exact ⟨z, its, n, r, r.length, e⟩
def rCatR : R2 := fun x y H Q => ∃ l b xs zs, x = .ref l ∧ y = .ref b ∧ Rd H l (.lst xs) ∧ Rd H b (.lst zs) ∧ xs.length + zs.length ≤ sizeLine ∧ ∀ p, H p = none → Q (.ref p) (upd H p (.lst (xs ++ zs)))
theorem op_catR : OpR X (binaryOp .Add) rCatR := by
  intro pins s σ H x y v u Q I rx ry h
  obtain ⟨l, b, xs, zs, rfl, rfl, hH, hB, hz, q⟩ := h
  cases rx
  cases ry
  obtain ⟨z, its, n, r, hl, e⟩ := lstR I hH
  obtain ⟨z2, its2, n2, r2, hl2, e2⟩ := lstR I hB
  refine PySem.P.add_list e e2 ?_ (by rw [List.size_toArray, List.size_toArray]; omega)
  have ea : its.toArray ++ its2.toArray = (its ++ its2).toArray := by simp
  rw [ea]
  exact ⟨.ref _, _, Inv.lnew I (t' := s.toks) (r.append r2) (by rw [List.length_append]; omega), rfl, q _ I.fresh⟩
def lAddD (d e : D) : Option EV := match d, e with
  | .lst a, .lst b => if a.length + b.length ≤ 16777216 then some (.new (.lst (a ++ b))) else none
  | _, _ => none
theorem o_lcat : Op2 X (binaryOp .Add) lAddD := ⟨_, op_catR, fun H x y d e ev Q rx ry hg q => by
  cases d with
  | lst a =>
    cases e with
    | lst b =>
      simp only [lAddD] at hg
      split at hg
      · rename_i c
        cases hg
        obtain ⟨p, xs, rfl, h1, r1⟩ := rx
        obtain ⟨p', ys, rfl, h2, r2⟩ := ry
        refine ⟨p, p', xs, ys, rfl, rfl, h1, h2, by rw [sizeLine_eq, ← r1.length, ← r2.length]; exact c, fun z hz => ?_⟩
        exact q _ _ (same_new hz) (roLst (r1.append r2) hz)
      · cases hg
    | _ => cases hg
  | _ => cases hg⟩
/-- tuple * int, any number -/
def rRepA : R2 := fun x y H Q => ∃ l k xs, x = .ref l ∧ y = .int k ∧ H l = some (.tup xs) ∧ k ≤ 1000 ∧ -1000 ≤ k ∧ xs.length ≤ 1000 ∧ (xs = [] ∨ k = 1 → Q (.ref l) H) ∧ (¬ (xs = [] ∨ k = 1) → ∀ p, H p = none → Q (.ref p) (upd H p (.tup (List.replicate k.toNat xs).flatten)))
open PySem.Spec PyProof.Rows in
theorem op_repA : OpR X (binaryOp .Mult) rRepA := by
  intro pins s σ H x y v u Q I rx ry h
  obtain ⟨l, k, xs, rfl, rfl, hT, h1, h2, hz, q1, q2⟩ := h
  by_cases hne : xs = [] ∨ k = 1
  · have q := q1 hne
    cases rx
    obtain ⟨t, rfl⟩ := ry
    obtain ⟨its, r, ⟨⟨cls, dd, data, sl⟩, ho, hc, n, hd⟩, hs⟩ := I.tuple (.of hT)
    simp only at hc hd
    subst hc hd
    have c0 : (decide (k < -(2 ^ 63)) || decide (k ≥ 2 ^ 63)) = false := by
      rw [decide_eq_false (by omega), decide_eq_false (by omega)] <;> rfl
    have c1 : (its.toArray.isEmpty || k == 1) = true := by
      rcases hne with e | e
      · subst e; cases r; rfl
      · subst e; simp
    refine wpAny_binaryOp_repeat_ref (T := "tuple") (U := "int") (by decide) ⟨_, ho, rfl⟩ (fun s' => typeIs_int s' k t) noFill_tuple_mul F.fills_int_mul F.slot_int_rmul repeat_tuple F.slot_int_index.lookup
      (call_meets F.slot_int_rmul (typeIs_int s k t) F.entry_int_rmul (F.args_int_rmul_2 _ _) (int_rmul_tuple k t l its.toArray n dd sl)
        ⟨ho, rfl, ⟨_, ho, rfl⟩, call_meets F.slot_tuple_mul ⟨_, ho, rfl⟩ F.entry_tuple_mul (F.args_tuple_mul_2 _ _) (tuple_mul_same l its.toArray n sl dd k t c0 c1) ⟨ho, ?_⟩⟩)
    exact ⟨.ref l, H, I, rfl, q⟩
  · have q := q2 hne
    have hx : xs ≠ [] := fun e => hne (.inl e)
    have hk : k ≠ 1 := fun e => hne (.inr e)
    by_cases h2' : 2 ≤ k
    · exact op_repT pins s σ H _ _ v u Q I rx ry ⟨l, k, xs, rfl, rfl, .of hT, hx, h2', h1, hz, q⟩
    · have hk0 : k ≤ 0 := by omega
      cases rx
      obtain ⟨t, rfl⟩ := ry
      obtain ⟨its, r, ⟨⟨cls, dd, data, sl⟩, ho, hc, n, hd⟩, hs⟩ := I.tuple (.of hT)
      simp only at hc hd
      subst hc hd
      have c0 : (decide (k < -(2 ^ 63)) || decide (k ≥ 2 ^ 63)) = false := by
        rw [decide_eq_false (by omega), decide_eq_false (by omega)] <;> rfl
      have c1 : (its.toArray.isEmpty || k == 1) = false := by
        have : its.toArray.isEmpty = false := by
          cases r with
          | nil => exact absurd rfl hx
          | cons _ _ => rfl
        rw [this, Bool.false_or]
        exact beq_eq_false_iff_ne.mpr hk
      have c2 : (decide (k ≤ 0) || its.toArray.isEmpty) = true := by
        rw [decide_eq_true hk0]; rfl
      refine wpAny_binaryOp_repeat_ref (T := "tuple") (U := "int") (by decide) ⟨_, ho, rfl⟩ (fun s' => typeIs_int s' k t) noFill_tuple_mul F.fills_int_mul F.slot_int_rmul repeat_tuple F.slot_int_index.lookup
        (call_meets F.slot_int_rmul (typeIs_int s k t) F.entry_int_rmul (F.args_int_rmul_2 _ _) (int_rmul_tuple k t l its.toArray n dd sl)
          ⟨ho, rfl, ⟨_, ho, rfl⟩, call_meets F.slot_tuple_mul ⟨_, ho, rfl⟩ F.entry_tuple_mul (F.args_tuple_mul_2 _ _) (tuple_mul_nil l its.toArray n sl dd k t c0 c1 c2) ⟨ho, ?_⟩⟩)
      have e0 : k.toNat = 0 := by omega
      rw [e0] at q
      refine ⟨.ref s.heap.objs.size, _, I.laid (t' := s.toks) (o := .tup []) (fun b ob q => Heap.get?_push_of_some _ q) (Nat.le_refl _) ?_, rfl, q _ (I.hok.fresh (Nat.le_refl _))⟩
      exact ⟨Nat.zero_le _, [], .nil, ⟨_, Heap.get?_push_size _ rfl, rfl, 0, rfl⟩⟩
def tMulD (d e : D) : Option EV := match d, e with
  | .tup a, .int k => if k ≤ 1000 ∧ -1000 ≤ k ∧ a.length ≤ 1000 then some (.val (.tup (List.replicate k.toNat a).flatten)) else none
  | _, _ => none
theorem o_tmul : Op2 X (binaryOp .Mult) tMulD := ⟨_, op_repA, fun H x y d e ev Q rx ry hg q => by
  cases d with
  | tup a =>
    cases e with
    | int k =>
      simp only [tMulD] at hg
      split at hg
      · rename_i c
        cases hg
        obtain ⟨p, xs, rfl, h1, r1⟩ := rdTup rx
        refine ⟨p, k, xs, rfl, rdInt ry, h1, c.1, c.2.1, by rw [← r1.length]; exact c.2.2, fun e => ?_, fun _ z hz => ?_⟩
        · refine q _ H (.refl H) ?_
          rcases e with e | e
          · have : a = [] := List.eq_nil_of_length_eq_zero (by rw [r1.length, e]; rfl)
            subst this
            have : (List.replicate k.toNat ([] : List D)).flatten = [] := by simp
            rw [this]
            exact roOld h1 r1
          · subst e
            have : (List.replicate (1 : Int).toNat a).flatten = a := by simp
            rw [this]
            exact roOld h1 r1
        · exact q _ _ (same_new hz) (roTup (r1.flat _) hz)
      · cases hg
    | _ => cases hg
  | _ => cases hg⟩
def rRepR : R2 := fun x y H Q => ∃ l k xs, x = .ref l ∧ y = .int k ∧ H l = some (.lst xs) ∧ -(2 ^ 63) ≤ k ∧ k < 2 ^ 63 ∧ xs.length * k.toNat ≤ sizeLine ∧
  ∀ p, H p = none → Q (.ref p) (upd H p (.lst (List.replicate k.toNat xs).flatten))
open PySem.Spec PyProof.Rows in
theorem op_repR : OpR X (binaryOp .Mult) (fun x y H Q => ∃ l k xs, x = .ref l ∧ y = .int k ∧ Rd H l (.lst xs) ∧ -(2 ^ 63) ≤ k ∧ k < 2 ^ 63 ∧ xs.length * k.toNat ≤ sizeLine ∧
  ∀ p, H p = none → Q (.ref p) (upd H p (.lst (List.replicate k.toNat xs).flatten))) := by
  intro pins s σ H x y v u Q I rx ry h
  obtain ⟨l, k, xs, rfl, rfl, hH, h1, h2, hz, q⟩ := h
  cases rx
  obtain ⟨t, rfl⟩ := ry
  obtain ⟨z, its, n, r, hl, e⟩ := lstR I hH
  have hlen : its.toArray.size * k.toNat ≤ sizeLine := by rw [List.size_toArray, ← hl]; exact hz
  have hcap : ¬ its.toArray.size * k.toNat > (2 ^ 63 - 1) / 8 := by
    have : (sizeLine : Nat) ≤ (2 ^ 63 - 1) / 8 := by decide
    omega
  have hfit : ¬ (!Builtin.List.listFitsIndex k) = true := by
    rw [fitsIndex_both h1 h2]
    exact Bool.false_ne_true
  have hlong : ¬ Builtin.List.listTooLong (its.toArray.size * k.toNat) = true := by
    rw [notLongL hlen]
    exact Bool.false_ne_true
  have hnew : List.foldl (fun x1 x2 => x1 ++ x2) #[] (List.replicate (if its.toArray.isEmpty = true then 0 else k.toNat) its.toArray) = (List.replicate k.toNat its).flatten.toArray := by
    have f0 : ∀ m : Nat, List.foldl (fun x1 x2 => x1 ++ x2) #[] (List.replicate m its.toArray) = (List.replicate m its).flatten.toArray := fun m => by
      have := foldl_rep its m []
      rw [List.nil_append] at this
      exact this
    rw [f0]
    cases its with
    | nil => simp
    | cons a r' => rw [if_neg (by simp)]
  refine wpAny_binaryOp_repeat_ref (T := "list") (U := "int") (by decide) ⟨_, e, rfl⟩ (fun s' => typeIs_int s' k t) noFill_list_mul F.fills_int_mul F.slot_int_rmul repeat_list F.slot_int_index.lookup
    (call_meets F.slot_int_rmul (typeIs_int s k t) F.entry_int_rmul (F.args_int_rmul_2 _ _) (int___rmul___int_list k t l its.toArray n)
      ⟨e, rfl, ⟨_, e, rfl⟩, call_meets F.slot_list_mul ⟨_, e, rfl⟩ F.entry_list_mul (F.args_list_mul_2 _ _) (AutoListH.list___mul___list_int_3 l its.toArray n k t hfit hcap hlong) ⟨e, ?_⟩⟩)
  rw [hnew]
  exact ⟨.ref _, _, Inv.lnew I (t' := s.toks) (r.rep k.toNat) (by rw [PyProof.Rows.lm_len_rep_flat, Nat.mul_comm]; exact hz), rfl, q _ I.fresh⟩
def lMulD (d e : D) : Option EV := match d, e with
  | .lst a, .int k => if k ≤ 16777216 ∧ -16777216 ≤ k ∧ a.length * k.toNat ≤ 16777216 then some (.new (.lst (List.replicate k.toNat a).flatten)) else none
  | _, _ => none
theorem o_lmul : Op2 X (binaryOp .Mult) lMulD := ⟨_, op_repR, fun H x y d e ev Q rx ry hg q => by
  cases d with
  | lst a =>
    cases e with
    | int k =>
      simp only [lMulD] at hg
      split at hg
      · rename_i c
        cases hg
        obtain ⟨p, xs, rfl, h1, r1⟩ := rx
        refine ⟨p, k, xs, rfl, rdInt ry, h1, by omega, by omega, by rw [sizeLine_eq, ← r1.length]; exact c.2.2, fun z hz => ?_⟩
        exact q _ _ (same_new hz) (roLst (r1.flat _) hz)
      · cases hg
    | _ => cases hg
  | _ => cases hg⟩
/-- the operators as one function each -/
def orD (g g' : D → D → Option EV) (d e : D) : Option EV := match g d e with
  | some r => some r
  | none => g' d e
def addD (d e : D) : Option EV := match d, e with
  | .int i, .int j => iAdd i j
  | .str i, .str j => sAdd i j
  | .tup a, .tup b => tAddD (.tup a) (.tup b)
  | .lst a, .lst b => lAddD (.lst a) (.lst b)
  | _, _ => none
theorem o_add : Op2 X (binaryOp .Add) addD := ((o_iadd.or o_sadd).or (o_tadd.or o_lcat)).imp fun d e r h => by
  cases d <;> cases e <;> first | (cases h; done) | (simp only [addD, intOp, strOp, tAddD, lAddD] at h ⊢; rw [h]) | (simp only [addD, intOp, strOp, tAddD, lAddD] at h ⊢; exact h)
def mulD (d e : D) : Option EV := match d, e with
  | .int i, .int j => iMul i j
  | .tup a, .int j => tMulD (.tup a) (.int j)
  | .lst a, .int j => lMulD (.lst a) (.int j)
  | _, _ => none
theorem o_mul : Op2 X (binaryOp .Mult) mulD := ((o_imul.or o_tmul).or o_lmul).imp fun d e r h => by
  cases d <;> cases e <;> first | (cases h; done) | (simp only [mulD, intOp, tMulD, lMulD] at h ⊢; rw [h]) | (simp only [mulD, intOp, tMulD, lMulD] at h ⊢; exact h)
end
end Fw
set_option Elab.async false
set_option linter.all false
set_option maxRecDepth 100000
set_option maxHeartbeats 4000000
/-! Fw J: equality, is, in; subscripts, slices; len, max, int, tuple, list, isinstance, any, all; append, pop, extend, x[i] = v. -/
namespace Fw
open PySem L2

/-! ### equality -/
mutual
def toP : D → PyData
  | .non => .none
  | .bl b => .bool b
  | .int i => .int i
  | .str x => .str x
  | .tup ds => .tuple (toPs ds)
  | .ktp ds => .tuple (toPs ds)
  | .lst ds => .list (toPs ds)
  | .kls ds => .list (toPs ds)
  | .adr _ => .none
  | .ty _ => .none
  | .dct _ _ _ => .none
def toPs : List D → List PyData
  | [] => []
  | d :: ds => toP d :: toPs ds
end
/-- comparable, at most so deep -/
def shD : Nat → D → Bool
  | _, .non => true
  | _, .bl _ => true
  | _, .int _ => true
  | _, .str x => PyData.strOk x
  | n + 1, .tup ds => ds.all (shD n)
  | n + 1, .ktp ds => ds.all (shD n)
  | n + 1, .lst ds => ds.all (shD n)
  | n + 1, .kls ds => ds.all (shD n)
  | _, _ => false
mutual
def eqB : D → D → Bool
  | .non, .non => true
  | .bl a, .bl b => a == b
  | .bl a, .int j => (if a then 1 else 0) == j
  | .int i, .bl b => i == (if b then 1 else 0)
  | .int i, .int j => i == j
  | .str x, .str y => x == y
  | .tup xs, .tup ys => eqBs xs ys
  | .tup xs, .ktp ys => eqBs xs ys
  | .ktp xs, .tup ys => eqBs xs ys
  | .ktp xs, .ktp ys => eqBs xs ys
  | .lst xs, .lst ys => eqBs xs ys
  | .lst xs, .kls ys => eqBs xs ys
  | .kls xs, .lst ys => eqBs xs ys
  | .kls xs, .kls ys => eqBs xs ys
  | _, _ => false
def eqBs : List D → List D → Bool
  | [], [] => true
  | x :: xs, y :: ys => eqB x y && eqBs xs ys
  | _, _ => false
end
theorem shD_all {n : Nat} {d : D} {ds : List D} (h : (d :: ds).all (shD n) = true) : shD n d = true ∧ ds.all (shD n) = true := by
  rw [List.all_cons, Bool.and_eq_true] at h
  exact h
theorem shD_ok : ∀ (n : Nat) (d : D), shD n d = true → (toP d).canLay0 = true ∧ (toP d).depth ≤ n := by
  intro n
  induction n with
  | zero =>
    intro d h
    cases d <;> first | (simp [shD] at h; done) | (simp [toP, PyData.canLay0, PyData.depth]) | skip
    simpa [shD, toP, PyData.canLay0, PyData.depth] using h
  | succ n ih =>
    have all : ∀ ds : List D, ds.all (shD n) = true → PyData.canLayAll0 (toPs ds) = true ∧ PyData.depthAll (toPs ds) ≤ n := by
      intro ds
      induction ds with
      | nil => intro _; simp [toPs, PyData.canLayAll0, PyData.depthAll]
      | cons d ds ih2 =>
        intro h
        obtain ⟨h1, h2⟩ := shD_all h
        obtain ⟨a1, a2⟩ := ih d h1
        obtain ⟨b1, b2⟩ := ih2 h2
        refine ⟨by rw [toPs, PyData.canLayAll0, a1, b1]; rfl, ?_⟩
        rw [toPs, PyData.depthAll]
        omega
    intro d h
    have seq : ∀ ds : List D, ds.all (shD n) = true → ((PyData.tuple (toPs ds)).canLay0 = true ∧ (PyData.tuple (toPs ds)).depth ≤ n + 1) ∧ ((PyData.list (toPs ds)).canLay0 = true ∧ (PyData.list (toPs ds)).depth ≤ n + 1) := fun ds h => by
      obtain ⟨a, b⟩ := all ds h
      refine ⟨⟨by simpa [PyData.canLay0] using a, ?_⟩, ⟨by simpa [PyData.canLay0] using a, ?_⟩⟩
      · rw [PyData.depth]; omega
      · rw [PyData.depth]; omega
    cases d with
    | non => simp [toP, PyData.canLay0, PyData.depth]
    | bl b => simp [toP, PyData.canLay0, PyData.depth]
    | int i => simp [toP, PyData.canLay0, PyData.depth]
    | str x => simpa [shD, toP, PyData.canLay0, PyData.depth] using h
    | adr a => simp [shD] at h
    | ty a => simp [shD] at h
    | dct t a b => simp [shD] at h
    | tup ds => rw [shD] at h; rw [toP]; exact (seq ds h).1
    | ktp ds => rw [shD] at h; rw [toP]; exact (seq ds h).1
    | lst ds => rw [shD] at h; rw [toP]; exact (seq ds h).2
    | kls ds => rw [shD] at h; rw [toP]; exact (seq ds h).2
mutual
theorem eqv_toP : ∀ (n m : Nat) (d e : D), shD n d = true → shD m e = true → PyData.eqv (toP d) (toP e) = eqB d e
  | n, m, .tup xs, e, h, h' => by
    cases n with
    | zero => simp [shD] at h
    | succ n =>
      cases m with
      | zero => cases e <;> first | (simp [shD] at h'; done) | (simp [toP, PyData.eqv, eqB])
      | succ m =>
        cases e <;> first
          | (simp [shD] at h'; done)
          | (simp only [shD] at h h'; simp only [toP, PyData.eqv, eqB]; exact eqv_toPs n m _ _ h h')
          | (simp [toP, PyData.eqv, eqB])
  | n, m, .ktp xs, e, h, h' => by
    cases n with
    | zero => simp [shD] at h
    | succ n =>
      cases m with
      | zero => cases e <;> first | (simp [shD] at h'; done) | (simp [toP, PyData.eqv, eqB])
      | succ m =>
        cases e <;> first
          | (simp [shD] at h'; done)
          | (simp only [shD] at h h'; simp only [toP, PyData.eqv, eqB]; exact eqv_toPs n m _ _ h h')
          | (simp [toP, PyData.eqv, eqB])
  | n, m, .lst xs, e, h, h' => by
    cases n with
    | zero => simp [shD] at h
    | succ n =>
      cases m with
      | zero => cases e <;> first | (simp [shD] at h'; done) | (simp [toP, PyData.eqv, eqB])
      | succ m =>
        cases e <;> first
          | (simp [shD] at h'; done)
          | (simp only [shD] at h h'; simp only [toP, PyData.eqv, eqB]; exact eqv_toPs n m _ _ h h')
          | (simp [toP, PyData.eqv, eqB])
  | n, m, .kls xs, e, h, h' => by
    cases n with
    | zero => simp [shD] at h
    | succ n =>
      cases m with
      | zero => cases e <;> first | (simp [shD] at h'; done) | (simp [toP, PyData.eqv, eqB])
      | succ m =>
        cases e <;> first
          | (simp [shD] at h'; done)
          | (simp only [shD] at h h'; simp only [toP, PyData.eqv, eqB]; exact eqv_toPs n m _ _ h h')
          | (simp [toP, PyData.eqv, eqB])
  | n, m, .non, e, h, h' => by cases e <;> first | (cases m <;> simp [shD] at h'; done) | simp [toP, PyData.eqv, eqB]
  | n, m, .bl b, e, h, h' => by cases e <;> first | (cases m <;> simp [shD] at h'; done) | simp [toP, PyData.eqv, eqB]
  | n, m, .int b, e, h, h' => by cases e <;> first | (cases m <;> simp [shD] at h'; done) | simp [toP, PyData.eqv, eqB]
  | n, m, .str b, e, h, h' => by cases e <;> first | (cases m <;> simp [shD] at h'; done) | simp [toP, PyData.eqv, eqB]
  | n, m, .adr b, e, h, h' => by cases n <;> simp [shD] at h
  | n, m, .ty b, e, h, h' => by cases n <;> simp [shD] at h
  | n, m, .dct t a b, e, h, h' => by cases n <;> simp [shD] at h
theorem eqv_toPs : ∀ (n m : Nat) (ds es : List D), ds.all (shD n) = true → es.all (shD m) = true → PyData.eqvAll (toPs ds) (toPs es) = eqBs ds es
  | _, _, [], [], _, _ => by simp [toPs, PyData.eqvAll, eqBs]
  | _, _, [], _ :: _, _, _ => by simp [toPs, PyData.eqvAll, eqBs]
  | _, _, _ :: _, [], _, _ => by simp [toPs, PyData.eqvAll, eqBs]
  | n, m, d :: ds, e :: es, h, h' => by
    obtain ⟨a1, a2⟩ := shD_all h
    obtain ⟨b1, b2⟩ := shD_all h'
    rw [toPs, toPs, PyData.eqvAll, eqBs, eqv_toP n m d e a1 b1, eqv_toPs n m ds es a2 b2]
end
mutual
theorem dp_of {K : PySem.W.Frag} {H : Hp} : ∀ (n : Nat) (d : D) (v : V), shD n d = true → Rep K H d v → Dp K H v (toP d)
  | _, .non, v, _, r => by rw [Rep] at r; subst r; exact .non
  | _, .bl b, v, _, r => by rw [Rep] at r; subst r; exact .bl b
  | _, .int b, v, _, r => by rw [Rep] at r; subst r; exact .int b
  | _, .str b, v, _, r => by rw [Rep] at r; subst r; exact .str b
  | n, .adr _, v, h, r => by cases n <;> simp [shD] at h
  | n, .ty _, v, h, r => by cases n <;> simp [shD] at h
  | n, .dct _ _ _, v, h, r => by cases n <;> simp [shD] at h
  | 0, .tup ds, v, h, r => by simp [shD] at h
  | n + 1, .tup ds, v, h, r => by
    rw [Rep] at r
    obtain ⟨a, xs, rfl, h1, h2⟩ := r
    rw [shD] at h
    exact .tup (.of h1) (dps_of n ds xs h h2)
  | 0, .ktp ds, v, h, r => by simp [shD] at h
  | n + 1, .ktp ds, v, h, r => by
    rw [Rep] at r
    obtain ⟨a, xs, rfl, h1, h2⟩ := r
    rw [shD] at h
    exact .tup h1.seq (dps_of n ds xs h h2)
  | 0, .lst ds, v, h, r => by simp [shD] at h
  | n + 1, .lst ds, v, h, r => by
    rw [Rep] at r
    obtain ⟨a, xs, rfl, h1, h2⟩ := r
    rw [shD] at h
    exact .lst h1.seq (dps_of n ds xs h h2)
  | 0, .kls ds, v, h, r => by simp [shD] at h
  | n + 1, .kls ds, v, h, r => by
    rw [Rep] at r
    obtain ⟨a, xs, rfl, h1, h2⟩ := r
    rw [shD] at h
    exact .lst h1.seq (dps_of n ds xs h h2)
theorem dps_of {K : PySem.W.Frag} {H : Hp} : ∀ (n : Nat) (ds : List D) (xs : List V), ds.all (shD n) = true → Reps K H ds xs → DpAll K H xs (toPs ds)
  | _, [], xs, _, r => by rw [Reps] at r; subst r; exact .nil
  | n, d :: ds, xs, h, r => by
    rw [Reps] at r
    obtain ⟨x, t, rfl, h1, h2⟩ := r
    obtain ⟨a1, a2⟩ := shD_all h
    exact .cons (dp_of n d x a1 h1) (dps_of n ds t a2 h2)
end
theorem dpR_of {K : PySem.W.Frag} {H : Hp} {n : Nat} {d : D} {v : V} (h : shD n d = true) (r : RdAt K H d v) : Dp K H v (toP d) := by
  cases d with
  | lst ds =>
    cases n with
    | zero => simp [shD] at h
    | succ n =>
      obtain ⟨a, xs, rfl, h1, h2⟩ := r
      rw [shD] at h
      exact .lst (.inl h1) (dps_of n ds xs h h2)
  | dct t a b => cases n <;> simp [shD] at h
  | _ => exact dp_of n _ v h r
theorem shaped_of {d : D} (h : shD 64 d = true) : SeqAt.shaped (toP d) = true := by
  obtain ⟨a, b⟩ := shD_ok 64 d h
  unfold SeqAt.shaped
  rw [a, decide_eq_true b]
  rfl
def eqD (d e : D) : Option EV := match d, e with
  | .str x, .str y => some (.val (.bl (x == y)))
  | d, e => if shD 64 d = true ∧ shD 64 e = true then some (.val (.bl (eqB d e))) else none
def neD (d e : D) : Option EV := match d, e with
  | .str x, .str y => some (.val (.bl (!(x == y))))
  | d, e => if shD 64 d = true ∧ shD 64 e = true then some (.val (.bl (!eqB d e))) else none
section
variable {X : Cx}
theorem o_eqS : Op2 X (compareOp .Eq) (strOp fun x y => some (.val (.bl (x == y)))) := ⟨_, op_eq, fun H x y d e ev Q rx ry hg q => by
  obtain ⟨i, j, rfl, rfl, hg2⟩ := strOp_some hg
  cases hg2
  rw [rdStr rx, rdStr ry]
  refine ⟨rfl, ?_⟩
  rw [dec_str]
  exact q _ H (.refl H) roBl⟩
theorem o_neS : Op2 X (compareOp .NotEq) (strOp fun x y => some (.val (.bl (!(x == y))))) := ⟨_, op_ne, fun H x y d e ev Q rx ry hg q => by
  obtain ⟨i, j, rfl, rfl, hg2⟩ := strOp_some hg
  cases hg2
  rw [rdStr rx, rdStr ry]
  refine ⟨rfl, ?_⟩
  rw [dec_str]
  exact q _ H (.refl H) roBl⟩
theorem o_eqP (hu : X.A.units + 64 < cLine) : Op2 X (compareOp .Eq) (fun d e => if shD 64 d = true ∧ shD 64 e = true then some (.val (.bl (eqB d e))) else none) := ⟨_, op_eqD hu, fun H x y d e ev Q rx ry hg q => by
  dsimp only at hg
  split at hg
  · rename_i c
    cases hg
    refine ⟨toP d, toP e, dpR_of c.1 rx, dpR_of c.2 ry, shaped_of c.1, shaped_of c.2, ?_⟩
    rw [eqv_toP 64 64 d e c.1 c.2]
    exact q _ H (.refl H) roBl
  · cases hg⟩
theorem o_neP (hu : X.A.units + 64 < cLine) : Op2 X (compareOp .NotEq) (fun d e => if shD 64 d = true ∧ shD 64 e = true then some (.val (.bl (!eqB d e))) else none) := ⟨_, op_neD hu, fun H x y d e ev Q rx ry hg q => by
  dsimp only at hg
  split at hg
  · rename_i c
    cases hg
    refine ⟨toP d, toP e, dpR_of c.1 rx, dpR_of c.2 ry, shaped_of c.1, shaped_of c.2, ?_⟩
    rw [eqv_toP 64 64 d e c.1 c.2]
    exact q _ H (.refl H) roBl
  · cases hg⟩
theorem o_eq (hu : X.A.units + 64 < cLine) : Op2 X (compareOp .Eq) eqD := (o_eqS.or (o_eqP hu)).imp fun d e r h => by
  cases d <;> cases e <;> first | exact h | (simp only [strOp]; exact h)
theorem o_ne (hu : X.A.units + 64 < cLine) : Op2 X (compareOp .NotEq) neD := (o_neS.or (o_neP hu)).imp fun d e r h => by
  cases d <;> cases e <;> first | exact h | (simp only [strOp]; exact h)

/-! ### is -/
def isNoD : D → Bool
  | .non => true
  | _ => false
theorem isNo_ok {K : PySem.W.Frag} {H : Hp} {d : D} {v : V} (r : RdAt K H d v) : decide (v = .non) = isNoD d := by
  cases d with
  | non => rw [rdNon r]; rfl
  | bl b => rw [rdBl r]; rfl
  | int b => rw [rdInt r]; rfl
  | str b => rw [rdStr r]; rfl
  | adr a => have r : Rep K H (.adr a) v := r; rw [Rep] at r; rw [r]; rfl
  | ty a => rw [rdTy r]; rfl
  | tup ds => obtain ⟨a, xs, rfl, _⟩ := rdTup r; rfl
  | ktp ds => obtain ⟨a, xs, rfl, _⟩ := rdKtp r; rfl
  | kls ds => obtain ⟨a, xs, rfl, _⟩ := rdKls r; rfl
  | lst ds => obtain ⟨a, xs, rfl, _⟩ := r; rfl
  | dct t a b => obtain ⟨a, u, xs, rfl, _⟩ := r; rfl
def isD (d e : D) : Option EV := match d, e with
  | d, .non => some (.val (.bl (isNoD d)))
  | .bl a, .bl b => some (.val (.bl (decide (a = b))))
  | _, _ => none
def isnotD (d e : D) : Option EV := match d, e with
  | d, .non => some (.val (.bl (!isNoD d)))
  | .bl a, .bl b => some (.val (.bl (!decide (a = b))))
  | _, _ => none
theorem o_is : Op2 X (compareOp .Is) isD := ⟨_, op_isN.or op_isBl, fun H x y d e ev Q rx ry hg q => by
  cases e with
  | non =>
    have hg : some (EV.val (.bl (isNoD d))) = some ev := by cases d <;> exact hg
    cases hg
    refine .inl ⟨rdNon ry, ?_⟩
    rw [isNo_ok rx]
    exact q _ H (.refl H) roBl
  | bl b =>
    cases d with
    | bl a =>
      cases hg
      exact .inr ⟨a, b, rdBl rx, rdBl ry, q _ H (.refl H) roBl⟩
    | _ => cases hg
  | _ => cases d <;> cases hg⟩
theorem o_isnot : Op2 X (compareOp .IsNot) isnotD := ⟨_, op_notN.or op_notBl, fun H x y d e ev Q rx ry hg q => by
  cases e with
  | non =>
    have hg : some (EV.val (.bl (!isNoD d))) = some ev := by cases d <;> exact hg
    cases hg
    refine .inl ⟨rdNon ry, ?_⟩
    rw [isNo_ok rx]
    exact q _ H (.refl H) roBl
  | bl b =>
    cases d with
    | bl a =>
      cases hg
      exact .inr ⟨a, b, rdBl rx, rdBl ry, q _ H (.refl H) roBl⟩
    | _ => cases hg
  | _ => cases d <;> cases hg⟩

/-! ### built-ins -/
theorem CallB.of {f : Value} {g : List D → Option EV} {r : List V → Hp → VK → Prop} (hr : CallR X f r)
    (h : ∀ H xs ds ev Q, Paired (fun v d => RdAt X.K H d v) xs ds → g ds = some ev → (∀ v H', Same H H' → ResOk X.K H H' v ev → Q v H') → r xs H Q) : CallB X f g := ⟨r, hr, h⟩
theorem CallB.or {f : Value} {g g' : List D → Option EV} (h : CallB X f g) (h' : CallB X f g') : CallB X f (fun ds => match g ds with | some r => some r | none => g' ds) := by
  obtain ⟨r, hr, hq⟩ := h
  obtain ⟨r', hr', hq'⟩ := h'
  refine ⟨_, hr.or hr', fun H xs ds ev Q rx hg q => ?_⟩
  cases hgd : g ds with
  | some z =>
    simp only [hgd] at hg
    cases hg
    exact .inl (hq H xs ds _ Q rx hgd q)
  | none =>
    simp only [hgd] at hg
    exact .inr (hq' H xs ds _ Q rx hg q)
theorem CallB.imp {f : Value} {g g' : List D → Option EV} (h : CallB X f g) (i : ∀ ds r, g' ds = some r → g ds = some r) : CallB X f g' := by
  obtain ⟨r, hr, hq⟩ := h
  exact ⟨r, hr, fun H xs ds ev Q rx hg q => hq H xs ds ev Q rx (i _ _ hg) q⟩
theorem pair1 {α β : Type} {R : α → β → Prop} {xs : List α} {d : β} (h : Paired R xs [d]) : ∃ x, xs = [x] ∧ R x d := by
  cases h with
  | cons r t => cases t; exact ⟨_, rfl, r⟩
theorem pair2 {α β : Type} {R : α → β → Prop} {xs : List α} {d e : β} (h : Paired R xs [d, e]) : ∃ x y, xs = [x, y] ∧ R x d ∧ R y e := by
  cases h with
  | cons r t =>
    cases t with
    | cons r' t => cases t; exact ⟨_, _, rfl, r, r'⟩
theorem pair3 {α β : Type} {R : α → β → Prop} {xs : List α} {d e f : β} (h : Paired R xs [d, e, f]) : ∃ x y z, xs = [x, y, z] ∧ R x d ∧ R y e ∧ R z f := by
  cases h with
  | cons r t =>
    cases t with
    | cons r' t =>
      cases t with
      | cons r'' t => cases t; exact ⟨_, _, _, rfl, r, r', r''⟩
def bLen : List D → Option EV
  | [.str x] => if x.length ≤ 16777216 then some (.val (.int (x.length : Nat))) else none
  | [.tup ds] => some (.val (.int (ds.length : Nat)))
  | [.ktp ds] => some (.val (.int (ds.length : Nat)))
  | [.lst ds] => some (.val (.int (ds.length : Nat)))
  | [.kls ds] => some (.val (.int (ds.length : Nat)))
  | _ => none
theorem c_len : CallB X (.builtin "len") bLen := .of call_len fun H xs ds ev Q rx hg q => by
  cases ds with
  | nil => cases hg
  | cons d t =>
    cases t with
    | cons _ _ => cases d <;> cases hg
    | nil =>
      obtain ⟨x, rfl, r⟩ := pair1 rx
      cases d with
      | str z =>
        simp only [bLen] at hg
        split at hg
        · rename_i c
          cases hg
          exact ⟨x, z.length, rfl, by rw [rdStr r]; exact ⟨by rw [sizeLine_eq]; exact c, rfl⟩, q _ H (.refl H) roInt⟩
        · cases hg
      | tup l =>
        cases hg
        obtain ⟨a, xs, rfl, h1, h2⟩ := rdTup r
        exact ⟨_, l.length, rfl, .inr ⟨xs, .of h1, h2.length⟩, q _ H (.refl H) roInt⟩
      | ktp l =>
        cases hg
        obtain ⟨a, xs, rfl, h1, h2⟩ := rdKtp r
        exact ⟨_, l.length, rfl, .inr ⟨xs, h1.seq, h2.length⟩, q _ H (.refl H) roInt⟩
      | lst l =>
        cases hg
        obtain ⟨a, xs, rfl, h1, h2⟩ := r
        exact ⟨_, l.length, rfl, .inl ⟨xs, .inl h1, h2.length⟩, q _ H (.refl H) roInt⟩
      | kls l =>
        cases hg
        obtain ⟨a, xs, rfl, h1, h2⟩ := rdKls r
        exact ⟨_, l.length, rfl, .inl ⟨xs, h1.seq, h2.length⟩, q _ H (.refl H) roInt⟩
      | _ => cases hg
def bAbs : List D → Option EV
  | [.int i] => some (.val (.int (if i < 0 then -i else i)))
  | _ => none
theorem c_abs : CallB X (.builtin "abs") bAbs := .of call_abs fun H xs ds ev Q rx hg q => by
  unfold bAbs at hg
  split at hg
  · cases hg
    obtain ⟨x, rfl, r⟩ := pair1 rx
    exact ⟨_, by rw [rdInt r], q _ H (.refl H) roInt⟩
  · cases hg
def bInt : List D → Option EV
  | [.int i] => some (.val (.int i))
  | [.bl b] => some (.val (.int (if b then 1 else 0)))
  | _ => none
theorem c_int : CallB X (.type "int") bInt := .of call_int1 fun H xs ds ev Q rx hg q => by
  unfold bInt at hg
  split at hg
  · cases hg
    obtain ⟨x, rfl, r⟩ := pair1 rx
    exact .inl ⟨_, by rw [rdInt r], q _ H (.refl H) roInt⟩
  · cases hg
    obtain ⟨x, rfl, r⟩ := pair1 rx
    exact .inr ⟨_, by rw [rdBl r], q _ H (.refl H) roInt⟩
  · cases hg
theorem call_max3 (hc : X.calm = true) : CallR X (.builtin "max") (fun xs H Q => ∃ i j k, xs = [.int i, .int j, .int k] ∧ Q (.int (max (max i j) k)) H) := by
  intro pins s σ H xs us Q I r h
  obtain ⟨i, j, k, rfl, q⟩ := h
  obtain ⟨u1, u2, u3, rfl, ⟨t1, rfl⟩, ⟨t2, rfl⟩, ⟨t3, rfl⟩⟩ : ∃ u1 u2 u3, us = [u1, u2, u3] ∧ RelV (.int i) u1 ∧ RelV (.int j) u2 ∧ RelV (.int k) u3 := by
    cases r with
    | cons r1 t =>
      cases t with
      | cons r2 t =>
        cases t with
        | cons r3 t => cases t; exact ⟨_, _, _, rfl, r1, r2, r3⟩
  refine PySem.max_three_ints (I.ok.hd hc) fun h' tk k' => ⟨_, H, I.kept k', ?_, q⟩
  by_cases h1 : j > i
  · rw [if_pos h1]
    by_cases h2 : k > j
    · rw [if_pos h2]; exact ⟨t3, by congr 1; omega⟩
    · rw [if_neg h2]; exact ⟨t2, by congr 1; omega⟩
  · rw [if_neg h1]
    by_cases h2 : k > i
    · rw [if_pos h2]; exact ⟨t3, by congr 1; omega⟩
    · rw [if_neg h2]; exact ⟨t1, by congr 1; omega⟩
/-- the greatest of a row that is not empty -/
def maxL : List Int → Int
  | [] => 0
  | [a] => a
  | a :: r => max a (maxL r)
theorem maxL_mem : ∀ {ns : List Int}, ns ≠ [] → maxL ns ∈ ns
  | [a], _ => by simp [maxL]
  | a :: b :: r, _ => by
    have h := maxL_mem (ns := b :: r) (by simp)
    rw [maxL]
    · by_cases c : maxL (b :: r) ≤ a
      · rw [Int.max_eq_left c]; exact List.mem_cons_self
      · rw [Int.max_eq_right (by omega)]; exact List.mem_cons_of_mem _ h
    · exact fun z => nomatch z
theorem maxL_ge : ∀ {ns : List Int} {y : Int}, y ∈ ns → y ≤ maxL ns
  | [a], y, h => by simp at h; subst h; simp [maxL]
  | a :: b :: r, y, h => by
    rw [maxL]
    · rcases List.mem_cons.mp h with z | z
      · subst z; exact Int.le_max_left _ _
      · exact Int.le_trans (maxL_ge z) (Int.le_max_right _ _)
    · exact fun z => nomatch z
def bMax : List D → Option EV
  | [.int i, .int j] => some (.val (.int (max i j)))
  | [.int i, .int j, .int k] => some (.val (.int (max (max i j) k)))
  | [.lst ds] => (match intsD ds with
    | some (n :: ns) => some (.val (.int (maxL (n :: ns))))
    | _ => none)
  | _ => none
def cMaxR (X : Cx) : List V → Hp → VK → Prop := fun xs H Q => (∃ i j, xs = [.int i, .int j] ∧ Q (.int (if j > i then j else i)) H) ∨ (∃ i j k, xs = [.int i, .int j, .int k] ∧ Q (.int (max (max i j) k)) H) ∨ rMax X.K xs H Q
theorem c_max (hc : X.calm = true) : CallB X (.builtin "max") bMax := .of (r := cMaxR X) ((call_max2 hc).or ((call_max3 hc).or (cr_max hc))) fun H xs ds ev Q rx hg q => by
  unfold bMax at hg
  split at hg
  · cases hg
    obtain ⟨x, y, rfl, r1, r2⟩ := pair2 rx
    refine .inl ⟨_, _, by rw [rdInt r1, rdInt r2], ?_⟩
    rename_i i j
    have e : (if j > i then j else i) = max i j := by split <;> omega
    rw [e]
    exact q _ H (.refl H) roInt
  · cases hg
    obtain ⟨x, y, z, rfl, r1, r2, r3⟩ := pair3 rx
    exact .inr (.inl ⟨_, _, _, by rw [rdInt r1, rdInt r2, rdInt r3], q _ H (.refl H) roInt⟩)
  · rename_i ds
    split at hg
    · rename_i n ns hn
      cases hg
      obtain ⟨x, rfl, r⟩ := pair1 rx
      obtain ⟨a, xs, rfl, h1, h2⟩ := r
      rw [intsD_eq hn] at h2
      have e := h2.ints
      subst e
      refine .inr (.inr ⟨a, n :: ns, rfl, .inl h1, by simp, fun m hm hmax => ?_⟩)
      have : m = maxL (n :: ns) := Int.le_antisymm (maxL_ge hm) (hmax _ (maxL_mem (by simp)))
      rw [this]
      exact q _ H (.refl H) roInt
    · cases hg
  · cases hg
def bTuple : List D → Option EV
  | [.lst ds] => some (.val (.tup ds))
  | [.tup ds] => some (.val (.tup ds))
  | _ => none
theorem c_tuple : CallB X (.type "tuple") bTuple := .of call_tuple_of fun H xs ds ev Q rx hg q => by
  unfold bTuple at hg
  split at hg
  · cases hg
    obtain ⟨x, rfl, r⟩ := pair1 rx
    obtain ⟨a, ys, rfl, h1, h2⟩ := r
    exact ⟨a, ys, rfl, .inl ⟨.inl h1, fun l hl => q _ _ (same_new hl) (roTup h2 hl)⟩⟩
  · cases hg
    obtain ⟨x, rfl, r⟩ := pair1 rx
    obtain ⟨a, ys, rfl, h1, h2⟩ := rdTup r
    exact ⟨a, ys, rfl, .inr ⟨.of h1, q _ H (.refl H) (roOld h1 h2)⟩⟩
  · cases hg
def bList : List D → Option EV
  | [.lst ds] => some (.new (.lst ds))
  | [.tup ds] => some (.new (.lst ds))
  | [.kls ds] => some (.new (.lst ds))
  | [.ktp ds] => some (.new (.lst ds))
  | _ => none
theorem c_list : CallB X (.type "list") bList := .of call_list_of fun H xs ds ev Q rx hg q => by
  unfold bList at hg
  split at hg
  · cases hg
    obtain ⟨x, rfl, r⟩ := pair1 rx
    obtain ⟨a, ys, rfl, h1, h2⟩ := r
    exact ⟨a, ys, rfl, .inl (.inl h1), fun l hl => q _ _ (same_new hl) (roLst h2 hl)⟩
  · cases hg
    obtain ⟨x, rfl, r⟩ := pair1 rx
    obtain ⟨a, ys, rfl, h1, h2⟩ := rdTup r
    exact ⟨a, ys, rfl, .inr (.of h1), fun l hl => q _ _ (same_new hl) (roLst h2 hl)⟩
  · cases hg
    obtain ⟨x, rfl, r⟩ := pair1 rx
    obtain ⟨a, ys, rfl, h1, h2⟩ := rdKls r
    exact ⟨a, ys, rfl, .inl h1.seq, fun l hl => q _ _ (same_new hl) (roLst h2 hl)⟩
  · cases hg
    obtain ⟨x, rfl, r⟩ := pair1 rx
    obtain ⟨a, ys, rfl, h1, h2⟩ := rdKtp r
    exact ⟨a, ys, rfl, .inr h1.seq, fun l hl => q _ _ (same_new hl) (roLst h2 hl)⟩
  · cases hg
def bAll : List D → Option EV
  | [.lst ds] => (blsD ds).map fun bs => .val (.bl (bs.all id))
  | _ => none
def bAny : List D → Option EV
  | [.lst ds] => (blsD ds).map fun bs => .val (.bl (bs.any id))
  | _ => none
theorem c_all (hc : X.calm = true) : CallB X (.builtin "all") bAll := .of (cr_all hc) fun H xs ds ev Q rx hg q => by
  unfold bAll at hg
  split at hg
  · obtain ⟨bs, hb, e⟩ := Option.map_eq_some_iff.mp hg
    subst e
    obtain ⟨x, rfl, r⟩ := pair1 rx
    obtain ⟨a, ys, rfl, h1, h2⟩ := r
    rw [blsD_eq hb] at h2
    have e := h2.bls
    subst e
    exact ⟨a, bs, rfl, .inl h1, q _ H (.refl H) roBl⟩
  · cases hg
theorem c_any (hc : X.calm = true) : CallB X (.builtin "any") bAny := .of (cr_any hc) fun H xs ds ev Q rx hg q => by
  unfold bAny at hg
  split at hg
  · obtain ⟨bs, hb, e⟩ := Option.map_eq_some_iff.mp hg
    subst e
    obtain ⟨x, rfl, r⟩ := pair1 rx
    obtain ⟨a, ys, rfl, h1, h2⟩ := r
    rw [blsD_eq hb] at h2
    have e := h2.bls
    subst e
    exact ⟨a, bs, rfl, .inl h1, q _ H (.refl H) roBl⟩
  · cases hg
/-! isinstance -/
def tyD : D → Option String
  | .non => some "NoneType"
  | .bl _ => some "bool"
  | .int _ => some "int"
  | .str _ => some "str"
  | .tup _ => some "tuple"
  | .ktp _ => some "tuple"
  | .lst _ => some "list"
  | .kls _ => some "list"
  | _ => none
theorem tyD_ok {K : PySem.W.Frag} {H : Hp} {d : D} {v : V} {t : String} (r : RdAt K H d v) (e : tyD d = some t) : TyX K H v (.type t) := by
  cases d with
  | non => cases e; rw [rdNon r]; exact .base .non
  | bl b => cases e; rw [rdBl r]; exact .base (.bl b)
  | int b => cases e; rw [rdInt r]; exact .base (.int b)
  | str b => cases e; rw [rdStr r]; exact .base (.str b)
  | tup ds => cases e; obtain ⟨a, xs, rfl, h, _⟩ := rdTup r; exact .base (.tup h)
  | ktp ds => cases e; obtain ⟨a, xs, rfl, ⟨o, its, n, h1, h2, _⟩, _⟩ := rdKtp r; exact .kTuple h1 h2
  | kls ds => cases e; obtain ⟨a, xs, rfl, ⟨o, its, n, h1, h2, _⟩, _⟩ := rdKls r; exact .kList h1 h2
  | lst ds =>
    cases e
    obtain ⟨a, xs, rfl, h | ⟨o, h⟩, _⟩ := r
    · exact .base (.lst h)
    · exact .base (.frz h)
  | dct _ _ _ => cases e
  | adr _ => cases e
  | ty _ => cases e
end
end Fw
set_option Elab.async false
set_option linter.all false
set_option maxRecDepth 100000
set_option maxHeartbeats 4000000
/-! Fw K: isinstance, subscripts, slices, in, dicts; x[i] = v, append, pop, extend. -/
namespace Fw
open PySem L2
section
variable {X : Cx}
def bIsI : List D → Option EV
  | [d, .ty n] => (match tyD d with
    | some t => (kitB t n).map fun b => .val (.bl b)
    | none => none)
  | _ => none
theorem c_isi : CallB X (.builtin "isinstance") bIsI := .of call_isi fun H xs ds ev Q rx hg q => by
  unfold bIsI at hg
  split at hg
  · rename_i d n
    split at hg
    · rename_i t ht
      obtain ⟨b, hb, e⟩ := Option.map_eq_some_iff.mp hg
      subst e
      obtain ⟨x, y, rfl, r1, r2⟩ := pair2 rx
      rw [rdTy r2]
      exact ⟨x, .ty n, .type t, .type n, b, rfl, .ty n, tyD_ok r1 ht, kit_ty hb, q _ H (.refl H) roBl⟩
    · cases hg
  · cases hg

/-! ### keys -/
def keyOf : D → Option Key
  | .int i => some (.inl i)
  | .str x => some (.inr x)
  | _ => none
def keysOf : List D → Option (List Key)
  | [] => some []
  | d :: ds => match keyOf d, keysOf ds with
    | some k, some ks => some (k :: ks)
    | _, _ => none
def tkeyOf : D → Option (List Key)
  | .tup ds => keysOf ds
  | _ => none
theorem keyOf_eq {d : D} {k : Key} (h : keyOf d = some k) : d = kD k := by
  cases d <;> first | (cases h; rfl) | cases h
theorem keysOf_eq : ∀ {ds : List D} {ks : List Key}, keysOf ds = some ks → ds = ks.map kD
  | [], ks, h => by cases h; rfl
  | d :: ds, ks, h => by
    unfold keysOf at h
    cases h1 : keyOf d with
    | none => simp only [h1] at h; cases h
    | some k =>
      cases h2 : keysOf ds with
      | none => simp only [h1, h2] at h; cases h
      | some r =>
        simp only [h1, h2] at h
        cases h
        rw [keyOf_eq h1, keysOf_eq h2]
        rfl
theorem tkeyOf_eq {d : D} {k : List Key} (h : tkeyOf d = some k) : d = ktD k := by
  cases d with
  | tup ds => unfold ktD; rw [keysOf_eq (show keysOf ds = some k from h)]
  | _ => cases h
theorem eqB_kD (a b : Key) : eqB (kD a) (kD b) = decide (a = b) := by
  cases a with
  | inl i =>
    cases b with
    | inl j => rw [kD, kD, eqB, key_ll]
    | inr y => rw [kD, kD, eqB]; · exact (decide_eq_false (fun z => nomatch z)).symm
               all_goals (intros; simp_all)
  | inr x =>
    cases b with
    | inl j => rw [kD, kD, eqB]; · exact (decide_eq_false (fun z => nomatch z)).symm
               all_goals (intros; simp_all)
    | inr y =>
      rw [kD, kD, eqB, key_rr]
      by_cases e : x = y
      · subst e; simp
      · rw [decide_eq_false e]; exact beq_eq_false_iff_ne.mpr e
theorem eqBs_kD : ∀ (a b : List Key), eqBs (a.map kD) (b.map kD) = decide (a = b)
  | [], [] => by simp [eqBs]
  | [], _ :: _ => by simp [eqBs]
  | _ :: _, [] => by simp [eqBs]
  | x :: xs, y :: ys => by
    rw [List.map_cons, List.map_cons, eqBs, eqB_kD, eqBs_kD xs ys]
    by_cases e : x = y
    · subst e; simp
    · simp [e]
theorem eqB_ktD (a b : List Key) : eqB (ktD a) (ktD b) = decide (a = b) := by
  rw [ktD, ktD, eqB, eqBs_kD]
def dFind : List D → List D → D → Option D
  | k :: ks, v :: vs, q => if eqB k q = true then some v else dFind ks vs q
  | _, _, _ => none
/-- replaced where it stands, else put behind -/
def dHas : List D → D → Bool
  | [], _ => false
  | k :: ks, q => eqB k q || dHas ks q
def dRepl : List D → List D → D → D → List D
  | k :: ks, v :: vs, q, x => (if eqB k q = true then x else v) :: dRepl ks vs q x
  | _, _, _, _ => []
def dPut (ks vs : List D) (q x : D) : List D × List D := if dHas ks q = true then (ks, dRepl ks vs q x) else (ks ++ [q], vs ++ [x])
section
variable {K : PySem.W.Frag} {H : Hp} {κ : Type} [DecidableEq κ] {f : κ → D}
theorem dFind_ok (hf : ∀ a b, eqB (f a) (f b) = decide (a = b)) (k : κ) : ∀ {kvs : List (κ × V)} {vs : List D}, Reps K H vs (kvs.map (·.2)) →
    (∃ v d, valV kvs k = some v ∧ dFind (kvs.map fun p => f p.1) vs (f k) = some d ∧ Rep K H d v) ∨ (valV kvs k = none ∧ dFind (kvs.map fun p => f p.1) vs (f k) = none)
  | [], vs, h => .inr ⟨rfl, by cases vs <;> rfl⟩
  | p :: r, [], h => by rw [Reps] at h; cases h
  | p :: r, d :: ds, h => by
    rw [List.map_cons, Reps] at h
    obtain ⟨x, t, e, h1, h2⟩ := h
    cases e
    by_cases e : p.1 = k
    · left
      refine ⟨p.2, d, valV_pos e, ?_, h1⟩
      rw [List.map_cons, dFind, hf, if_pos (decide_eq_true e)]
    · have ne : ¬ (eqB (f p.1) (f k) = true) := by rw [hf]; exact fun z => e (of_decide_eq_true z)
      rcases dFind_ok hf k (kvs := r) h2 with ⟨v, d', z1, z2, z3⟩ | ⟨z1, z2⟩
      · exact .inl ⟨v, d', by rw [valV_neg e]; exact z1, by rw [List.map_cons, dFind, if_neg ne]; exact z2, z3⟩
      · exact .inr ⟨by rw [valV_neg e]; exact z1, by rw [List.map_cons, dFind, if_neg ne]; exact z2⟩
theorem dHas_ok (hf : ∀ a b, eqB (f a) (f b) = decide (a = b)) (k : κ) : ∀ kvs : List (κ × V), dHas (kvs.map fun p => f p.1) (f k) = kvs.any fun p => decide (p.1 = k)
  | [] => rfl
  | p :: r => by rw [List.map_cons, dHas, List.any_cons, dHas_ok hf k r, hf]
theorem dRepl_ok (hf : ∀ a b, eqB (f a) (f b) = decide (a = b)) (k : κ) {x : D} {v : V} (r : Rep K H x v) : ∀ {kvs : List (κ × V)} {vs : List D}, Reps K H vs (kvs.map (·.2)) →
    Reps K H (dRepl (kvs.map fun p => f p.1) vs (f k) x) ((kvs.map fun p => if p.1 = k then (p.1, v) else p).map (·.2))
  | [], vs, h => by cases vs <;> simp [dRepl, Reps]
  | p :: t, [], h => by rw [Reps] at h; cases h
  | p :: t, d :: ds, h => by
    rw [List.map_cons, Reps] at h
    obtain ⟨y, ys, e, h1, h2⟩ := h
    cases e
    rw [List.map_cons, dRepl, List.map_cons, List.map_cons, Reps]
    refine ⟨_, _, rfl, ?_, dRepl_ok hf k r h2⟩
    rw [hf]
    by_cases e : p.1 = k
    · rw [if_pos (decide_eq_true e), if_pos e]; exact r
    · rw [if_neg (fun z => e (of_decide_eq_true z)), if_neg e]; exact h1
theorem putK_eq (kvs : List (κ × V)) (k : κ) (v : V) : putK kvs k v = if kvs.any (fun p => decide (p.1 = k)) = true then kvs.map (fun p => if p.1 = k then (p.1, v) else p) else kvs ++ [(k, v)] := by
  unfold putK
  rfl
theorem dPut_ok (hf : ∀ a b, eqB (f a) (f b) = decide (a = b)) (k : κ) {x : D} {v : V} (r : Rep K H x v) {kvs : List (κ × V)} {vs : List D} (h : Reps K H vs (kvs.map (·.2))) :
    (dPut (kvs.map fun p => f p.1) vs (f k) x).1 = (putK kvs k v).map (fun p => f p.1) ∧ Reps K H (dPut (kvs.map fun p => f p.1) vs (f k) x).2 ((putK kvs k v).map (·.2)) := by
  unfold dPut
  rw [dHas_ok hf k kvs, putK_eq]
  by_cases e : kvs.any (fun p => decide (p.1 = k)) = true
  · rw [if_pos e, if_pos e]
    refine ⟨?_, dRepl_ok hf k r h⟩
    rw [List.map_map]
    apply List.map_congr_left
    intro p _
    show f p.1 = f (if p.1 = k then (p.1, v) else p).1
    split <;> rfl
  · rw [if_neg e, if_neg e]
    refine ⟨by rw [List.map_append]; rfl, ?_⟩
    rw [List.map_append]
    exact h.append (by
      show Reps K H [x] [v]
      rw [Reps]
      exact ⟨v, [], rfl, r, by rw [Reps]⟩)
end
theorem Reps.keys {K : PySem.W.Frag} {H : Hp} : ∀ {ks : List Key} {xs : List V}, Reps K H (ks.map kD) xs → xs = ks.map kV
  | [], xs, h => by simpa [Reps] using h
  | k :: ks, xs, h => by
    rw [List.map_cons, Reps] at h
    obtain ⟨x, t, rfl, h1, h2⟩ := h
    rw [Reps.keys h2]
    cases k with
    | inl i => rw [rdInt (.of h1)]; rfl
    | inr s => rw [rdStr (.of h1)]; rfl
theorem rep_key {K : PySem.W.Frag} {H : Hp} {k : Key} {v : V} (h : RdAt K H (kD k) v) : v = kV k := by
  cases k with
  | inl i => exact rdInt h
  | inr s => exact rdStr h
theorem rep_tkey {K : PySem.W.Frag} {H : Hp} {k : List Key} {v : V} (h : RdAt K H (ktD k) v) : ∃ b, v = .ref b ∧ H b = some (.tup (k.map kV)) := by
  obtain ⟨a, xs, e, h1, h2⟩ := rdTup h
  rw [h2.keys] at h1
  exact ⟨a, e, h1⟩
/-- a right key for the sort of dict -/
def okKey (t : Bool) (q : D) : Bool := if t = true then (tkeyOf q).isSome else (keyOf q).isSome
/-- what the dict holds at a key -/
theorem dget_ok {K : PySem.W.Frag} {H : Hp} {a : Addr} {u : HO} {t : Bool} {ks vs : List D} {xs : List V} {q : D} {y : V} (hu : Rd H a u) (d : DiO u ks xs t) (r : Reps K H vs xs) (ok : okKey t q = true) (rq : RdAt K H q y) :
    ∃ o, DGet H a y o ∧ ((∃ v dv, o = some v ∧ dFind ks vs q = some dv ∧ Rep K H dv v) ∨ (o = none ∧ dFind ks vs q = none)) := by
  cases t with
  | false =>
    obtain ⟨kvs, rfl, rfl, rfl⟩ := d
    obtain ⟨k, hk⟩ := Option.isSome_iff_exists.mp (show (keyOf q).isSome = true from ok)
    have eq := keyOf_eq hk
    subst eq
    rw [rep_key rq]
    refine ⟨valV kvs k, .inl ⟨kvs, k, hu, rfl, rfl⟩, ?_⟩
    exact dFind_ok eqB_kD k r
  | true =>
    obtain ⟨kvs, rfl, rfl, rfl⟩ := d
    obtain ⟨k, hk⟩ := Option.isSome_iff_exists.mp (show (tkeyOf q).isSome = true from ok)
    have eq := tkeyOf_eq hk
    subst eq
    obtain ⟨b, rfl, hb⟩ := rep_tkey rq
    refine ⟨valV kvs k, .inr ⟨kvs, k, b, hu, rfl, hb, rfl⟩, ?_⟩
    exact dFind_ok eqB_ktD k r

/-! ### subscripts -/
def ixS (z : Str) (i : Int) : Option EV := if z.length ≤ 16777216 then (atI z.cps.toList i).map fun c => .val (.str ⟨#[c]⟩) else none
def ixL (ds : List D) (i : Int) : Option EV := (atI ds i).map .val
def ixD (d e : D) : Option EV := match d, e with
  | .tup ds, .int i => ixL ds i
  | .ktp ds, .int i => ixL ds i
  | .lst ds, .int i => ixL ds i
  | .kls ds, .int i => ixL ds i
  | .str z, .int i => ixS z i
  | .dct t ks vs, q => if okKey t q = true then (dFind ks vs q).map .val else none
  | _, _ => none
theorem reps_atI {K : PySem.W.Frag} {H : Hp} {ds : List D} {xs : List V} {i : Int} {d : D} (r : Reps K H ds xs) (h : atI ds i = some d) : ∃ x, atI xs i = some x ∧ Rep K H d x := by
  unfold atI at h ⊢
  rw [← r.length]
  cases e : ixN ds.length i with
  | none => rw [e] at h; cases h
  | some j =>
    rw [e] at h
    exact reps_at r h
open PySem.Spec PyProof.Rows in
theorem ix_dict (hu : X.A.units + 1 < cLine) : IxR X (fun x y H Q => ∃ a v, x = .ref a ∧ DGet H a y (some v) ∧ Q v H) := by
  intro value slice pins s σ H x y v u Q I rx ry h hs
  obtain ⟨a, w, rfl, g, q⟩ := h
  cases rx
  exact tail_any (dict_typeIs I g) PySem.F.slot_dict_getitem.lookup (d_getItem hu I g ry fun w' s' I' rw' => ⟨w, H, I', rw', q⟩) hs
theorem i_ix (hu : X.A.units + 1 < cLine) : Ix2 X ixD := ⟨_, ix_seq.or (ix_dict hu), fun H x y d e ev Q rx ry hg q => by
  have seqL : ∀ {ds : List D} {i : Int} {a : Addr} {xs : List V}, ixL ds i = some ev → Reps X.K H ds xs → ∃ x dv, atI xs i = some x ∧ ev = .val dv ∧ Rep X.K H dv x := fun {ds i a xs} h r => by
    obtain ⟨dv, h1, h2⟩ := Option.map_eq_some_iff.mp h
    obtain ⟨x, h3, h4⟩ := reps_atI r h1
    exact ⟨x, dv, h3, h2.symm, h4⟩
  cases d with
  | tup ds =>
    cases e with
    | int i =>
      obtain ⟨a, xs, rfl, h1, h2⟩ := rdTup rx
      obtain ⟨v, dv, h3, rfl, h4⟩ := seqL (a := a) (show ixL ds i = some ev from hg) h2
      exact .inl (.inr (.inl ⟨a, xs, i, v, rfl, rdInt ry, .of h1, h3, q _ H (.refl H) h4⟩))
    | _ => cases hg
  | ktp ds =>
    cases e with
    | int i =>
      obtain ⟨a, xs, rfl, h1, h2⟩ := rdKtp rx
      obtain ⟨v, dv, h3, rfl, h4⟩ := seqL (a := a) (show ixL ds i = some ev from hg) h2
      exact .inl (.inr (.inl ⟨a, xs, i, v, rfl, rdInt ry, h1.seq, h3, q _ H (.refl H) h4⟩))
    | _ => cases hg
  | lst ds =>
    cases e with
    | int i =>
      obtain ⟨a, xs, rfl, h1, h2⟩ := rx
      obtain ⟨v, dv, h3, rfl, h4⟩ := seqL (a := a) (show ixL ds i = some ev from hg) h2
      exact .inl (.inl ⟨a, xs, i, v, rfl, rdInt ry, .inl h1, h3, q _ H (.refl H) h4⟩)
    | _ => cases hg
  | kls ds =>
    cases e with
    | int i =>
      obtain ⟨a, xs, rfl, h1, h2⟩ := rdKls rx
      obtain ⟨v, dv, h3, rfl, h4⟩ := seqL (a := a) (show ixL ds i = some ev from hg) h2
      exact .inl (.inl ⟨a, xs, i, v, rfl, rdInt ry, h1.seq, h3, q _ H (.refl H) h4⟩)
    | _ => cases hg
  | str z =>
    cases e with
    | int i =>
      have hg : ixS z i = some ev := hg
      unfold ixS at hg
      split at hg
      · rename_i c
        obtain ⟨cc, h1, h2⟩ := Option.map_eq_some_iff.mp hg
        subst h2
        exact .inl (.inr (.inr ⟨z, i, cc, rdStr rx, rdInt ry, by rw [sizeLine_eq]; exact c, h1, q _ H (.refl H) roStr⟩))
      · cases hg
    | _ => cases hg
  | dct t ks vs =>
    have hg : (if okKey t e = true then (dFind ks vs e).map EV.val else none) = some ev := by cases e <;> exact hg
    split at hg
    · rename_i ok
      obtain ⟨dv, h1, h2⟩ := Option.map_eq_some_iff.mp hg
      subst h2
      obtain ⟨a, u, xs, rfl, hu', d, r⟩ := rx
      obtain ⟨o, g, z⟩ := dget_ok hu' d r ok ry
      rcases z with ⟨v, dv', rfl, e1, e2⟩ | ⟨_, e1⟩
      · rw [h1] at e1; cases e1
        exact .inr ⟨a, v, rfl, g, q _ H (.refl H) e2⟩
      · rw [h1] at e1; cases e1
    · cases hg
  | _ => cases e <;> cases hg⟩

/-! ### slices -/
def cutD {α : Type} (ds : List α) (lo hi : Option Int) : List α := (ds.drop (HT.sIx ds.length 0 lo)).take (HT.sIx ds.length ds.length hi - HT.sIx ds.length 0 lo)
theorem reps_cut {K : PySem.W.Frag} {H : Hp} {ds : List D} {xs : List V} (r : Reps K H ds xs) (lo hi : Option Int) : Reps K H (cutD ds lo hi) (cutV xs lo hi) := by
  unfold cutD cutV
  rw [← r.length]
  exact (r.drop _).take _
theorem cut_whole {α : Type} {ds : List α} {lo hi : Option Int} (h : HT.sIx ds.length 0 lo = 0 ∧ HT.sIx ds.length ds.length hi = ds.length) : cutD ds lo hi = ds := by
  unfold cutD
  rw [h.1, h.2]
  simp
def slD (d : D) (lo hi : Option Int) : Option EV := match d with
  | .tup ds => some (.val (.tup (cutD ds lo hi)))
  | .lst ds => some (.new (.lst (cutD ds lo hi)))
  | .str z => if z.length ≤ 16777216 then some (.val (.str (cutS z lo hi))) else none
  | _ => none
theorem SlR.or3 {r r' r'' : V → Option Int → Option Int → Hp → VK → Prop} (h : SlR X r) (h' : SlR X r') (h'' : SlR X r'') : SlR X (fun x lo hi H Q => r x lo hi H Q ∨ (r' x lo hi H Q ∨ r'' x lo hi H Q)) := SlR.or h (SlR.or h' h'')
theorem s_sl : SlS X slD := ⟨_, SlR.or3 sl_tupA sl_list sl_str, fun H x d lo hi ev Q rx hg q => by
  cases d with
  | tup ds =>
    cases hg
    obtain ⟨a, xs, rfl, h1, h2⟩ := rdTup rx
    have hl := h2.length
    refine .inl ⟨a, xs, rfl, .of h1, fun w => ?_, fun w p hp => ?_⟩
    · rw [← hl] at w
      rw [cut_whole w] at q
      exact q _ H (.refl H) (roOld h1 h2)
    · exact q _ _ (same_new hp) (roTup (reps_cut h2 lo hi) hp)
  | lst ds =>
    cases hg
    obtain ⟨a, xs, rfl, h1, h2⟩ := rx
    exact .inr (.inl ⟨a, xs, rfl, .inl h1, fun p hp => q _ _ (same_new hp) (roLst (reps_cut h2 lo hi) hp)⟩)
  | str z =>
    simp only [slD] at hg
    split at hg
    · rename_i c
      cases hg
      exact .inr (.inr ⟨z, rdStr rx, by rw [sizeLine_eq]; exact c, q _ H (.refl H) roStr⟩)
    · cases hg
  | _ => cases hg⟩

/-! ### in -/
def flatD : D → Bool
  | .non => true
  | .bl _ => true
  | .int _ => true
  | .str _ => true
  | _ => false
theorem flat_eq {K : PySem.W.Frag} {H : Hp} {d e : D} {v w : V} (fd : flatD d = true) (fe : flatD e = true) (rd : RdAt K H d v) (re : RdAt K H e w) : flatV v = true ∧ eqV v w = eqB d e := by
  cases d with
  | non =>
    rw [rdNon rd]
    cases e with
    | non => rw [rdNon re]; exact ⟨rfl, by simp [eqV, eqB]⟩
    | bl b => rw [rdBl re]; exact ⟨rfl, by simp [eqV, eqB]⟩
    | int b => rw [rdInt re]; exact ⟨rfl, by simp [eqV, eqB]⟩
    | str b => rw [rdStr re]; exact ⟨rfl, by simp [eqV, eqB]⟩
    | _ => cases fe
  | bl a =>
    rw [rdBl rd]
    cases e with
    | non => rw [rdNon re]; exact ⟨rfl, by simp [eqV, eqB]⟩
    | bl b => rw [rdBl re]; exact ⟨rfl, by simp [eqV, eqB]⟩
    | int b => rw [rdInt re]; exact ⟨rfl, by simp [eqV, eqB]⟩
    | str b => rw [rdStr re]; exact ⟨rfl, by simp [eqV, eqB]⟩
    | _ => cases fe
  | int a =>
    rw [rdInt rd]
    cases e with
    | non => rw [rdNon re]; exact ⟨rfl, by simp [eqV, eqB]⟩
    | bl b => rw [rdBl re]; exact ⟨rfl, by simp [eqV, eqB]⟩
    | int b => rw [rdInt re]; exact ⟨rfl, by simp [eqV, eqB]⟩
    | str b => rw [rdStr re]; exact ⟨rfl, by simp [eqV, eqB]⟩
    | _ => cases fe
  | str a =>
    rw [rdStr rd]
    cases e with
    | non => rw [rdNon re]; exact ⟨rfl, by simp [eqV, eqB]⟩
    | bl b => rw [rdBl re]; exact ⟨rfl, by simp [eqV, eqB]⟩
    | int b => rw [rdInt re]; exact ⟨rfl, by simp [eqV, eqB]⟩
    | str b => rw [rdStr re]; exact ⟨rfl, by simp [eqV, eqB]⟩
    | _ => cases fe
  | _ => cases fd
theorem flat_row {K : PySem.W.Frag} {H : Hp} {q : D} {w : V} (fq : flatD q = true) (rq : RdAt K H q w) : ∀ {ds : List D} {xs : List V}, ds.all flatD = true → Reps K H ds xs → xs.all flatV = true ∧ inV w xs = ds.any fun y => eqB y q
  | [], xs, _, r => by rw [Reps] at r; subst r; exact ⟨rfl, rfl⟩
  | d :: ds, xs, h, r => by
    rw [Reps] at r
    obtain ⟨x, t, rfl, h1, h2⟩ := r
    rw [List.all_cons, Bool.and_eq_true] at h
    obtain ⟨f1, e1⟩ := flat_eq h.1 fq (.of h1) rq
    obtain ⟨f2, e2⟩ := flat_row fq rq h.2 h2
    refine ⟨by rw [List.all_cons, f1, f2]; rfl, ?_⟩
    unfold inV at e2 ⊢
    rw [List.any_cons, List.any_cons, e1, e2]
def seqD : D → Option (List D)
  | .tup ds => some ds
  | .ktp ds => some ds
  | .lst ds => some ds
  | .kls ds => some ds
  | _ => none
theorem seqD_ok {K : PySem.W.Frag} {H : Hp} {d : D} {v : V} {ds : List D} (r : RdAt K H d v) (h : seqD d = some ds) : ∃ a xs, v = .ref a ∧ (SqL K H a xs ∨ SqT K H a xs) ∧ Reps K H ds xs := by
  cases d with
  | tup l => cases h; obtain ⟨a, xs, rfl, h1, h2⟩ := rdTup r; exact ⟨a, xs, rfl, .inr (.of h1), h2⟩
  | ktp l => cases h; obtain ⟨a, xs, rfl, h1, h2⟩ := rdKtp r; exact ⟨a, xs, rfl, .inr h1.seq, h2⟩
  | lst l => cases h; obtain ⟨a, xs, rfl, h1, h2⟩ := r; exact ⟨a, xs, rfl, .inl (.inl h1), h2⟩
  | kls l => cases h; obtain ⟨a, xs, rfl, h1, h2⟩ := rdKls r; exact ⟨a, xs, rfl, .inl h1.seq, h2⟩
  | _ => cases h
/-- q in c -/
def inB (q c : D) : Option Bool := match c with
  | .str z => (match q with
    | .str x => some (inS x z)
    | _ => none)
  | .dct t ks vs => if okKey t q = true then some (dFind ks vs q).isSome else none
  | c => (match seqD c with
    | some ds => if flatD q = true ∧ ds.all flatD = true then some (ds.any fun y => eqB y q) else none
    | none => none)
def inD (q c : D) : Option EV := (inB q c).map fun b => .val (.bl b)
def notInD (q c : D) : Option EV := (inB q c).map fun b => .val (.bl (!b))
theorem op_inDict (hu : X.A.units + 1 < cLine) : OpR X (compareOp .In) (fun y x H Q => ∃ a o, x = .ref a ∧ DGet H a y o ∧ Q (.bl o.isSome) H) := by
  intro pins s σ H y x u v Q I ry rx h
  obtain ⟨a, o, rfl, g, q⟩ := h
  cases rx
  exact d_in hu I g ry fun s' I' => ⟨.bl _, H, I', rfl, q⟩
theorem op_notInDict (hu : X.A.units + 1 < cLine) : OpR X (compareOp .NotIn) (fun y x H Q => ∃ a o, x = .ref a ∧ DGet H a y o ∧ Q (.bl (!o.isSome)) H) := by
  intro pins s σ H y x u v Q I ry rx h
  obtain ⟨a, o, rfl, g, q⟩ := h
  cases rx
  exact d_notIn hu I g ry fun s' I' => ⟨.bl _, H, I', rfl, q⟩
theorem inB_ok {K : PySem.W.Frag} {H : Hp} {q c : D} {y x : V} {b : Bool} (rq : RdAt K H q y) (rc : RdAt K H c x) (h : inB q c = some b) :
    (∃ i z, y = .str i ∧ x = .str z ∧ b = inS i z) ∨ (∃ a o, x = .ref a ∧ DGet H a y o ∧ b = o.isSome) ∨ (∃ a xs, x = .ref a ∧ (SqL K H a xs ∨ SqT K H a xs) ∧ flatV y = true ∧ xs.all flatV = true ∧ b = inV y xs) := by
  have sq : ∀ {ds : List D}, seqD c = some ds → (if flatD q = true ∧ ds.all flatD = true then some (ds.any fun y => eqB y q) else none) = some b → (∃ a xs, x = .ref a ∧ (SqL K H a xs ∨ SqT K H a xs) ∧ flatV y = true ∧ xs.all flatV = true ∧ b = inV y xs) := fun {ds} hs h => by
    split at h
    · rename_i f
      cases h
      obtain ⟨a, xs, rfl, h1, h2⟩ := seqD_ok rc hs
      obtain ⟨f2, e2⟩ := flat_row f.1 rq f.2 h2
      exact ⟨a, xs, rfl, h1, (flat_eq f.1 f.1 rq rq).1, f2, e2.symm⟩
    · cases h
  cases c with
  | str z =>
    cases q with
    | str i => cases h; exact .inl ⟨i, z, rdStr rq, rdStr rc, rfl⟩
    | _ => cases h
  | dct t ks vs =>
    have h : (if okKey t q = true then some (dFind ks vs q).isSome else none) = some b := h
    split at h
    · rename_i ok
      cases h
      obtain ⟨a, u, xs, rfl, hu', d, r⟩ := rc
      obtain ⟨o, g, z⟩ := dget_ok hu' d r ok rq
      refine .inr (.inl ⟨a, o, rfl, g, ?_⟩)
      rcases z with ⟨v, dv, rfl, e1, e2⟩ | ⟨rfl, e1⟩
      · rw [e1]; rfl
      · rw [e1]; rfl
    · cases h
  | tup ds => exact .inr (.inr (sq rfl h))
  | ktp ds => exact .inr (.inr (sq rfl h))
  | lst ds => exact .inr (.inr (sq rfl h))
  | kls ds => exact .inr (.inr (sq rfl h))
  | non => cases h
  | bl _ => cases h
  | int _ => cases h
  | adr _ => cases h
  | ty _ => cases h
theorem o_in (hu : X.A.units + 1 < cLine) : Op2 X (compareOp .In) inD := ⟨_, op_in_str.or ((op_inDict hu).or op_in_seq), fun H x y d e ev Q rx ry hg q => by
  obtain ⟨b, hb, rfl⟩ := Option.map_eq_some_iff.mp hg
  have fin := q (.bl b) H (.refl H) roBl
  rcases inB_ok rx ry hb with ⟨i, z, e1, e2, e3⟩ | ⟨a, o, e1, g, e3⟩ | ⟨a, xs, e1, h1, h2, h3, e3⟩
  · exact .inl ⟨i, z, e1, e2, by rw [e3] at fin; exact fin⟩
  · exact .inr (.inl ⟨a, o, e1, g, by rw [e3] at fin; exact fin⟩)
  · exact .inr (.inr ⟨a, xs, e1, h1, h2, h3, by rw [e3] at fin; exact fin⟩)⟩
theorem o_notin (hu : X.A.units + 1 < cLine) : Op2 X (compareOp .NotIn) notInD := ⟨_, op_notin_str.or ((op_notInDict hu).or op_notIn_seq), fun H x y d e ev Q rx ry hg q => by
  obtain ⟨b, hb, rfl⟩ := Option.map_eq_some_iff.mp hg
  have fin := q (.bl (!b)) H (.refl H) roBl
  rcases inB_ok rx ry hb with ⟨i, z, e1, e2, e3⟩ | ⟨a, o, e1, g, e3⟩ | ⟨a, xs, e1, h1, h2, h3, e3⟩
  · exact .inl ⟨i, z, e1, e2, by rw [e3] at fin; exact fin⟩
  · exact .inr (.inl ⟨a, o, e1, g, by rw [e3] at fin; exact fin⟩)
  · exact .inr (.inr ⟨a, xs, e1, h1, h2, h3, by rw [e3] at fin; exact fin⟩)⟩

/-! ### x[i] = v -/
def setO (o : OV) (k d : D) : Option OV := match o, k with
  | .lst ds, .int i => (ixN ds.length i).map fun j => .lst (ds.set j d)
  | .dic t ks vs, q => if okKey t q = true ∧ ks.length < 16777216 then some (.dic t (dPut ks vs q d).1 (dPut ks vs q d).2) else none
  | _, _ => none
theorem set_dict (hu : X.A.units + 1 < cLine) : PSet X (fun o i v H Q => ∃ a H', o = .ref a ∧ DPut H a i v H' ∧ Q H') := by
  intro pins s σ H o i v ov iv u Q I ro ri rv h
  obtain ⟨a, H', rfl, g, q⟩ := h
  cases ro
  exact d_setItem hu I g ri rv fun s' I' => ⟨H', I', q⟩
theorem PSet.or {t t' : TSet} (h : PSet X t) (h' : PSet X t') : PSet X (fun o i v H Q => t o i v H Q ∨ t' o i v H Q) := by
  intro pins s σ H o i v ov iv u Q I ro ri rv q
  rcases q with q | q
  · exact h pins s σ H o i v ov iv u Q I ro ri rv q
  · exact h' pins s σ H o i v ov iv u Q I ro ri rv q
theorem p_set (hu : X.A.units + 1 < cLine) : SetR X setO := ⟨_, PSet.or set_list (set_dict hu), fun H a o i v k d o' Q oa rk rd hg q => by
  cases o with
  | lst ds =>
    cases k with
    | int n =>
      obtain ⟨j, hj, e⟩ := Option.map_eq_some_iff.mp (show (ixN ds.length n).map (fun j => OV.lst (ds.set j d)) = some o' from hg)
      subst e
      obtain ⟨xs, h1, h2⟩ := oa
      refine .inl ⟨a, xs, n, j, rfl, repInt rk, h1, by rw [← h2.length]; exact hj, q _ ⟨_, upd_same, ?_⟩⟩
      have kk := kept_chg (u' := HO.lst (xs.set j v)) h1 trivial
      exact (Reps.mono kk _ _ h2).set j (Rep.mono kk _ _ rd)
    | _ => cases hg
  | dic t ks vs =>
    have hg : (if okKey t k = true ∧ ks.length < 16777216 then some (OV.dic t (dPut ks vs k d).1 (dPut ks vs k d).2) else none) = some o' := by cases k <;> exact hg
    split at hg
    · rename_i ok
      cases hg
      obtain ⟨u, xs, h1, h2, h3⟩ := oa
      cases t with
      | false =>
        obtain ⟨kvs, rfl, rfl, rfl⟩ := h2
        obtain ⟨kk, hk⟩ := Option.isSome_iff_exists.mp (show (keyOf k).isSome = true from ok.1)
        have eq := keyOf_eq hk
        subst eq
        obtain ⟨e1, e2⟩ := dPut_ok eqB_kD kk rd h3
        have hl : kvs.length < sizeLine := by have := ok.2; rw [List.length_map] at this; rw [sizeLine_eq]; exact this
        refine .inr ⟨a, _, rfl, ?_, q (.dK (putK kvs kk v)) ⟨_, _, upd_same, ⟨putK kvs kk v, rfl, e1, rfl⟩, Reps.mono (kept_chg h1 trivial) _ _ e2⟩⟩
        rw [rep_key (.of rk)]
        exact .k h1 hl
      | true =>
        obtain ⟨kvs, rfl, rfl, rfl⟩ := h2
        obtain ⟨kk, hk⟩ := Option.isSome_iff_exists.mp (show (tkeyOf k).isSome = true from ok.1)
        have eq := tkeyOf_eq hk
        subst eq
        obtain ⟨e1, e2⟩ := dPut_ok eqB_ktD kk rd h3
        have hl : kvs.length < sizeLine := by have := ok.2; rw [List.length_map] at this; rw [sizeLine_eq]; exact this
        obtain ⟨b, rfl, hb⟩ := rep_tkey (.of rk)
        exact .inr ⟨a, _, rfl, .t h1 hb hl, q (.dT (putK kvs kk v)) ⟨_, _, upd_same, ⟨putK kvs kk v, rfl, e1, rfl⟩, Reps.mono (kept_chg h1 trivial) _ _ e2⟩⟩
    · cases hg⟩
def getO (o : OV) (k : D) : Option D := match o, k with
  | .lst ds, .int i => atI ds i
  | .dic t ks vs, q => if okKey t q = true then dFind ks vs q else none
  | _, _ => none
open PySem.Spec PyProof.Rows in
theorem get_list : PGet X (rIxL X.K) := by
  intro pins s σ H x y v u Q I rx ry h
  obtain ⟨p, xs, i, z, rfl, rfl, hq, he, q⟩ := h
  cases rx
  obtain ⟨t, rfl⟩ := ry
  obtain ⟨its, r, pl, hz⟩ := I.list hq
  obtain ⟨j, h1, h2, h3, h4, h5⟩ := atI_get he
  obtain ⟨w, ew, rw'⟩ := r.get h2
  have hl := r.length
  have hn := line63
  have fin : EP X pins σ Q w s := ⟨z, H, I, rw', q⟩
  by_cases h0 : 0 ≤ i
  · have hj : i.toNat = j := by
      rw [seqIndex_of h0 h5] at h1
      exact Option.some.inj h1
    exact wpAny_getItem_list pl.isList h0 (by omega) (by rw [hj]; simpa using ew) fin
  · have hj : (i + (its.toArray.size : Int)).toNat = j := by
      rw [seqIndex_neg (by omega) h4] at h1
      rw [List.size_toArray, ← hl]
      exact Option.some.inj h1
    exact wpAny_getItem_list_neg pl.isList (by omega) (by rw [List.size_toArray] <;> omega) (by omega) (by rw [hj]; simpa using ew) fin
theorem get_dict (hu : X.A.units + 1 < cLine) : PGet X (fun x y H Q => ∃ a v, x = .ref a ∧ DGet H a y (some v) ∧ Q v H) := by
  intro pins s σ H x y v u Q I rx ry h
  obtain ⟨a, w, rfl, g, q⟩ := h
  cases rx
  exact d_getItem hu I g ry fun w' s' I' rw' => ⟨w, H, I', rw', q⟩
theorem p_get (hu : X.A.units + 1 < cLine) : GetR X getO := ⟨fun x y H Q => rIxL X.K x y H Q ∨ ∃ a v, x = .ref a ∧ DGet H a y (some v) ∧ Q v H, fun pins s σ H x y v u Q I rx ry h => h.elim (get_list pins s σ H x y v u Q I rx ry) (get_dict hu pins s σ H x y v u Q I rx ry), fun H a o i k d Q oa rk hg q => by
  cases o with
  | lst ds =>
    cases k with
    | int n =>
      obtain ⟨xs, h1, h2⟩ := oa
      obtain ⟨x, h3, h4⟩ := reps_atI h2 (show atI ds n = some d from hg)
      exact .inl ⟨a, xs, n, x, rfl, repInt rk, .of h1, h3, q x h4⟩
    | _ => cases hg
  | dic t ks vs =>
    have hg : (if okKey t k = true then dFind ks vs k else none) = some d := by cases k <;> exact hg
    split at hg
    · rename_i ok
      obtain ⟨u, xs, h1, h2, h3⟩ := oa
      obtain ⟨o, g, z⟩ := dget_ok (.inl h1) h2 h3 ok (.of rk)
      rcases z with ⟨v, dv, rfl, e1, e2⟩ | ⟨_, e1⟩
      · rw [hg] at e1; cases e1
        exact .inr ⟨a, v, rfl, g, q v e2⟩
      · rw [hg] at e1; cases e1
    · cases hg⟩

/-! ### methods of lists -/
def gAppend (o : OV) (as : List D) : Option (D × OV) := match o, as with
  | .lst ds, [d] => if ds.length < 16777216 then some (.non, .lst (ds ++ [d])) else none
  | _, _ => none
theorem m_append : MutV X "list.append" gAppend := ⟨_, mt_append, fun H a o xs ds d o' Q oa r hg q => by
  unfold gAppend at hg
  split at hg
  · rename_i l d0
    split at hg
    · rename_i c
      cases hg
      obtain ⟨ys, h1, h2⟩ := oa
      rw [Reps] at r
      obtain ⟨x, t, rfl, r1, r2⟩ := r
      rw [Reps] at r2
      subst r2
      refine ⟨a, ys, x, rfl, rfl, h1, by rw [sizeLine_eq, ← h2.length]; exact c, q .non _ ⟨_, upd_same, ?_⟩ (by rw [Rep])⟩
      have kk := kept_chg (u' := HO.lst (ys ++ [x])) h1 trivial
      exact Reps.snoc (Reps.mono kk _ _ h2) (Rep.mono kk _ _ r1)
    · cases hg
  · cases hg⟩
def gPop (o : OV) (as : List D) : Option (D × OV) := match o, as with
  | .lst ds, [] => (ds[ds.length - 1]?).map fun d => (d, .lst ds.dropLast)
  | _, _ => none
theorem m_pop : MutB X "list.pop" gPop := ⟨_, mt_pop, fun H a o xs ds d o' Q oa r hg q => by
  unfold gPop at hg
  split at hg
  · rename_i l
    obtain ⟨d0, h0, e⟩ := Option.map_eq_some_iff.mp hg
    cases e
    obtain ⟨ys, h1, h2⟩ := oa
    cases r
    obtain ⟨x, e1, e2⟩ := reps_at h2 h0
    have kk := kept_chg (u' := HO.lst ys.dropLast) h1 trivial
    refine ⟨a, ys, x, rfl, rfl, h1, by rw [← h2.length]; exact e1, q x _ ⟨_, upd_same, (Reps.mono kk _ _ h2).dropLast⟩ (Rep.mono kk _ _ e2)⟩
  · cases hg⟩
def gPopAt (o : OV) (as : List D) : Option (D × OV) := match o, as with
  | .lst ds, [.int i] => if -16777216 ≤ i ∧ i ≤ 16777216 then (ixN ds.length i).bind fun j => (ds[j]?).map fun d => (d, .lst (ds.eraseIdx j)) else none
  | _, _ => none
theorem Reps.erase {K : PySem.W.Frag} {H : Hp} {ds : List D} {xs : List V} (j : Nat) (h : Reps K H ds xs) : Reps K H (ds.eraseIdx j) (xs.eraseIdx j) := by
  rw [List.eraseIdx_eq_take_drop_succ, List.eraseIdx_eq_take_drop_succ]
  exact (h.take j).append (h.drop (j + 1))
theorem m_popAt : MutB X "list.pop" gPopAt := ⟨_, mt_popAt, fun H a o xs ds d o' Q oa r hg q => by
  unfold gPopAt at hg
  split at hg
  · rename_i l i
    split at hg
    · rename_i c
      obtain ⟨j, hj, hg⟩ := Option.bind_eq_some_iff.mp hg
      obtain ⟨d0, h0, e⟩ := Option.map_eq_some_iff.mp hg
      cases e
      obtain ⟨ys, h1, h2⟩ := oa
      obtain ⟨y, rfl, ry⟩ := pair1 r
      obtain ⟨x, e1, e2⟩ := reps_at h2 h0
      have kk := kept_chg (u' := HO.lst (ys.eraseIdx j)) h1 trivial
      rw [h2.length] at hj
      exact ⟨a, ys, i, j, x, rfl, by rw [rdInt ry], h1, by omega, by omega, (ixN_seq hj).1, e1, q x _ ⟨_, upd_same, (Reps.mono kk _ _ h2).erase j⟩ (Rep.mono kk _ _ e2)⟩
    · cases hg
  · cases hg⟩
/-- x.extend(a list) -/
def gExtend (o : OV) (as : List D) : Option (D × OV) := match o, as with
  | .lst ds, [.lst es] => if ds.length + es.length ≤ 16777216 then some (.non, .lst (ds ++ es)) else none
  | _, _ => none
end
end Fw
set_option linter.all false
set_option maxRecDepth 100000
namespace Fw
open PySem L2
section
variable {X : Cx} {W : WX} {a b c e : Expr} {es : List Expr} {ma mb mc m : M EV} {mas : M (List EV)} {ta tb tc t : M Bool} {pos : Pos}
/-! ### leaves -/
theorem xV (i : Nat) {x : Str} (hN : X.N[i]? = some x := by rfl) (hv : Vis X.env.scope x := by first | exact Or.inl rfl | exact Or.inr (Or.inl rfl) | exact Or.inr (Or.inr rfl)) (hd : (x == ("__debug__" : Str)) = false := by rfl)
    (hcd : (x == ("__classdict__" : Str)) = false := by rfl) : ME X W (.Name x pos) (mVar i) := me_var (pe_var hN hv hd hcd)
theorem xI {i : Int} {j : Nat} : ME X W (.Constant (.int i) j pos) (M.pure (.val (.int i))) := me_val (fun H => by rw [Rep]) pe_int
theorem xB {i : Bool} {j : Nat} : ME X W (.Constant (.bool i) j pos) (M.pure (.val (.bl i))) := me_val (fun H => by rw [Rep]) pe_bl
theorem xN {j : Nat} : ME X W (.Constant .none j pos) (M.pure (.val .non)) := me_val (fun H => by rw [Rep]) pe_non
theorem xS {i : Str} {j : Nat} : ME X W (.Constant (.str i) j pos) (M.pure (.val (.str i))) := me_val (fun H => by rw [Rep]) pe_str
theorem xTy {x : Str} {T : String} (hm : X.mg x = none) (hg : Gl X x := by rfl) (hv : bootBuiltins x = some (.type T) := by rfl) (hn : x ≠ "__name__" := by decide +kernel) (hdb : (x == ("__debug__" : Str)) = false := by rfl) : ME X W (.Name x pos) (M.pure (.val (.ty T))) :=
  me_val (fun H => by rw [Rep]) (pe_bltn hg hm hv (v := .ty T) rfl hn hdb)
/-! ### argument lists -/
theorem xA (ha : ME X W e m) (hr : MA X W es mas) (hs : starEach (e :: es) X.env = (false, eval e X.env) :: starEach es X.env := by rfl) : MA X W (e :: es) (mCons m mas) := ma_cons ha hr hs
/-! ### tests -/
theorem xW (h : MW X W e t) : MT X W e t := h.pt
theorem xTr (ha : ME X W a ma) (he : ∀ whole, isTrue a X.env whole = (do let v ← whole; standAt a.pos; holding [v] (truthy v)) := by intro _; rfl) : MT X W a (mTru ma) := mt_tru ha he
/-! ### calls -/
theorem xCB {x : Str} {p : Pos} {id : String} {g : List D → Option EV} (hc : CallB X (.builtin id) g) (hm : X.mg x = none) (ha : MA X W (e :: es) mas) (hg : Gl X x := by rfl) (hv : bootBuiltins x = some (.builtin id) := by rfl) (hn : x ≠ "__name__" := by decide +kernel) (hdb : (x == ("__debug__" : Str)) = false := by rfl)
    (he : starEach (e :: es) X.env = (false, eval e X.env) :: starEach es X.env := by rfl) (hpl : (backTo pos (starEach es X.env)).any (·.1) = false := by rfl) : ME X W (.Call (.Name x p) (e :: es) [] pos) (mCallB g mas) := me_callB hc hg hm hv ha hn hdb he hpl
theorem xCT {x : Str} {p : Pos} {T : String} {g : List D → Option EV} (hc : CallB X (.type T) g) (hm : X.mg x = none) (ha : MA X W (e :: es) mas) (hg : Gl X x := by rfl) (hv : bootBuiltins x = some (.type T) := by rfl) (hn : x ≠ "__name__" := by decide +kernel) (hdb : (x == ("__debug__" : Str)) = false := by rfl)
    (he : starEach (e :: es) X.env = (false, eval e X.env) :: starEach es X.env := by rfl) (hpl : (backTo pos (starEach es X.env)).any (·.1) = false := by rfl) : ME X W (.Call (.Name x p) (e :: es) [] pos) (mCallB g mas) := me_callTy hc hg hm hv ha hn hdb he hpl
theorem xC {x : Str} {p : Pos} {k j : Nat} {fm : M EV} (sig : List Bool) (F : FnGood X.prog X.w X.K X.mg X.base x sig.length k fm) (hr : Room j X.A) (tk : Takes X W) (ha : MA X W (e :: es) mas) (hk : k ≤ j := by decide) (hg : Gl X x := by rfl) (hdb : (x == ("__debug__" : Str)) = false := by rfl)
    (he : starEach (e :: es) X.env = (false, eval e X.env) :: starEach es X.env := by rfl) (hpl : (backTo pos (starEach es X.env)).any (·.1) = false := by rfl) : ME X W (.Call (.Name x p) (e :: es) [] pos) (mCallF sig fm mas) := me_call F hr hk hg tk ha hdb he hpl
theorem xMV {T id name : String} {g : OV → List D → Option (D × OV)} {x : Str} {np apos : Pos} (i : Nat) (hg : MutV X id g) (pa : PlainAttrs T) (slot : Slot T name id) (hty : typeOf (.builtin id) = pure (.type "method_descriptor")) (ha : MA X W (e :: es) mas)
    (hN : X.N[i]? = some x := by rfl) (hv : Vis X.env.scope x := by first | exact Or.inl rfl | exact Or.inr (Or.inl rfl) | exact Or.inr (Or.inr rfl)) (hd : (x == ("__debug__" : Str)) = false := by rfl) (hcd : (x == ("__classdict__" : Str)) = false := by rfl)
    (hbase : attributeBase (.Name x np) name X.env (eval (.Name x np) X.env) = eval (.Name x np) X.env := by rfl)
    (hfew : ((backTo pos (starEach (e :: es) X.env)).all (fun x => !x.1) && (backToKw pos (keywordEach [] X.env)).all (fun x => x.1.isSome)
      && decide ((e :: es).length + ([] : List Keyword).length + (if ([] : List Keyword).isEmpty then 0 else 1) < 30)) = true := by rfl)
    (hline : (apos.endLine == pos.line) = true := by rfl) (hs : starEach (e :: es) X.env = (false, eval e X.env) :: starEach es X.env := by rfl) (hplain : (backTo pos (starEach es X.env)).any (·.1) = false := by rfl) :
    ME X W (.Call (.Attribute (.Name x np) name apos) (e :: es) [] pos) (mMeth T (fun _ => vals) g i mas) := me_methV hg pa slot hty hN hv hd hcd ha hbase hfew hline hs hplain
theorem xMB {T id name : String} {g : OV → List D → Option (D × OV)} {x : Str} {np apos : Pos} (i : Nat) (hg : MutB X id g) (pa : PlainAttrs T) (slot : Slot T name id) (hty : typeOf (.builtin id) = pure (.type "method_descriptor")) (ha : MA X W (e :: es) mas)
    (hN : X.N[i]? = some x := by rfl) (hv : Vis X.env.scope x := by first | exact Or.inl rfl | exact Or.inr (Or.inl rfl) | exact Or.inr (Or.inr rfl)) (hd : (x == ("__debug__" : Str)) = false := by rfl) (hcd : (x == ("__classdict__" : Str)) = false := by rfl)
    (hbase : attributeBase (.Name x np) name X.env (eval (.Name x np) X.env) = eval (.Name x np) X.env := by rfl)
    (hfew : ((backTo pos (starEach (e :: es) X.env)).all (fun x => !x.1) && (backToKw pos (keywordEach [] X.env)).all (fun x => x.1.isSome)
      && decide ((e :: es).length + ([] : List Keyword).length + (if ([] : List Keyword).isEmpty then 0 else 1) < 30)) = true := by rfl)
    (hline : (apos.endLine == pos.line) = true := by rfl) (hs : starEach (e :: es) X.env = (false, eval e X.env) :: starEach es X.env := by rfl) (hplain : (backTo pos (starEach es X.env)).any (·.1) = false := by rfl) :
    ME X W (.Call (.Attribute (.Name x np) name apos) (e :: es) [] pos) (mMeth T rds g i mas) := me_meth hg pa slot hty hN hv hd hcd ha hbase hfew hline hs hplain
theorem xM0 {T id name : String} {g : OV → List D → Option (D × OV)} {x : Str} {np apos : Pos} (i : Nat) (hg : MutB X id g) (pa : PlainAttrs T) (slot : Slot T name id) (hty : typeOf (.builtin id) = pure (.type "method_descriptor"))
    (hN : X.N[i]? = some x := by rfl) (hv : Vis X.env.scope x := by first | exact Or.inl rfl | exact Or.inr (Or.inl rfl) | exact Or.inr (Or.inr rfl)) (hd : (x == ("__debug__" : Str)) = false := by rfl) (hcd : (x == ("__classdict__" : Str)) = false := by rfl)
    (hbase : attributeBase (.Name x np) name X.env (eval (.Name x np) X.env) = eval (.Name x np) X.env := by rfl) (hline : (apos.endLine == pos.line) = true := by rfl) :
    ME X W (.Call (.Attribute (.Name x np) name apos) [] [] pos) (mMeth0 T g i) := me_meth0 hg pa slot hty hN hv hd hcd hbase hline
/-! ### comparisons -/
theorem xCm {op : CmpOp} {g : D → D → Option EV} (ho : Op2 X (compareOp op) g) (ha : ME X W a ma) (hb : ME X W b mb) (hm : behindInMarks op b = false := by rfl) : ME X W (.Compare a [op] [b] pos) (mOp2 g ma mb) := me_cmp ho ha hb hm
theorem xCmT {op : CmpOp} {g : D → D → Option EV} (ho : Op2 X (compareOp op) g) (ha : ME X W a ma) (hb : ME X W b mb) (hm : behindInMarks op b = false := by rfl) : MT X W (.Compare a [op] [b] pos) (mB (mOp2 g ma mb)) := mt_cmp ho ha hb hm
theorem xCh {op op' : CmpOp} {g g' : D → D → Option EV} (ho : Op2 X (compareOp op) g) (ho' : Op2 X (compareOp op') g') (ha : ME X W a ma) (hb : ME X W b mb) (hc : ME X W c mc) (hm : lastMarks [op, op'] [b, c] = false := by rfl) : ME X W (.Compare a [op, op'] [b, c] pos) (mChain g g' ma mb mc) := me_chain (pos := pos) ho ho' ha hb hc hm
theorem xChT {op op' : CmpOp} {g g' : D → D → Option EV} (ho : Op2 X (compareOp op) g) (ho' : Op2 X (compareOp op') g') (ha : ME X W a ma) (hb : ME X W b mb) (hc : ME X W c mc) (hm : lastMarks [op, op'] [b, c] = false := by rfl) : MT X W (.Compare a [op, op'] [b, c] pos) (mB (mChain g g' ma mb mc)) := mt_chain (pos := pos) ho ho' ha hb hc hm
/-! ### subscripts -/
theorem xIx (hu : X.A.units + 1 < cLine) (ha : ME X W a ma) (hb : ME X W b mb) (hs : PlainIx b := by intro _ _; rfl) : ME X W (.Subscript a b pos) (mOp2 ixD ma mb) := me_ix (i_ix hu) ha hb hs
theorem xSl {lo hi : Option Expr} {ml mh : M (Option Int)} {p2 : Pos} (ha : ME X W a ma) (hl : MO X W lo ml) (hh : MO X W hi mh) : ME X W (.Subscript a (.Slice lo hi none p2) pos) (mSlice slD ma ml mh) := me_slice s_sl ha hl hh
end
section
variable {X : Cx} {W : WX} {a b c e tg iter elt : Expr} {es ifs : List Expr} {ma mb mc me m : M EV} {ta tb tc t : M Bool} {mi : M (List D)} {f : D → MS → Option MS} {pos p : Pos} {scope : Scope}
/-! ### loops and comprehensions -/
theorem xR1 (hm : X.mg "range" = none) (ha : ME X W a ma) (hg : Gl X "range" := by rfl) (hs : starEach [a] X.env = [(false, eval a X.env)] := by rfl) : MI X W tg (.Call (.Name "range" p) [a] [] pos) (mRg1 ma) := mi_range1 hg hm ha hs
theorem xR2 (hm : X.mg "range" = none) (ha : ME X W a ma) (hb : ME X W b mb) (hg : Gl X "range" := by rfl) (hs : starEach [a, b] X.env = [(false, eval a X.env), (false, eval b X.env)] := by rfl) (hs2 : starEach [b] X.env = [(false, eval b X.env)] := by rfl) : MI X W tg (.Call (.Name "range" p) [a, b] [] pos) (mRg2 ma mb) := mi_range2 hg hm ha hb hs hs2
theorem xR3 (hm : X.mg "range" = none) (ha : ME X W a ma) (hb : ME X W b mb) (hc : ME X W c mc) (hg : Gl X "range" := by rfl) (hs : starEach [a, b, c] X.env = (false, eval a X.env) :: starEach [b, c] X.env := by rfl) (hs1 : starEach [b, c] X.env = (false, eval b X.env) :: starEach [c] X.env := by rfl)
    (hs2 : starEach [c] X.env = [(false, eval c X.env)] := by rfl) (hpl : (backTo pos (starEach [b, c] X.env)).any (·.1) = false := by rfl) : MI X W tg (.Call (.Name "range" p) [a, b, c] [] pos) (mRg3 ma mb mc) := mi_range3 hg hm ha hb hc hs hs1 hs2 hpl
theorem xG {i : Nat} {x : Str} (hN : X.N.Nodup) (hi : X.N[i]? = some x := by rfl) (hx : Loc X.env.scope x := by first | exact Or.inl rfl | exact Or.inr rfl) (hf : X.fn x = true ∨ X.env.scope.names.lookup x = some .local := by first | exact Or.inl rfl | exact Or.inr rfl) : MGf X (.Name x pos) [i] (gNm i) := mg_name hN hi hx hf
theorem xGs {t : Expr} {ts : List Expr} {S T : List Nat} {f : D → MS → Option MS} {g : List D → MS → Option MS} (h1 : MGf X t S f) (h2 : MGfs X ts T g) (hs : (assignEach (t :: ts) X.env).map (·.2) = assign t X.env :: (assignEach ts X.env).map (·.2) := by rfl) : MGfs X (t :: ts) (S ++ T) (gsCons f g) := mgs_cons h1 h2 hs
theorem xGt {ts : List Expr} {k n : Nat} {S : List Nat} {g : List D → MS → Option MS} (h : MGfs X ts S g) (hc : X.calm = true := by rfl) (hn : (assignEach ts X.env).length = n := by rfl) (hst : (assignEach ts X.env).findIdx? (·.1) = none := by rfl) : MGr X (.Tuple ts k pos) S (gTp n g) := mg_tup hc h hn hst
theorem xL (own : List (Str × Nat)) (hN : X.N.Nodup) (hi : MI X W tg iter mi) (ok : BlkOk X.N X.env.scope scope own) (hg : InBlk X scope fun Y => MGf Y tg (own.map (·.2)) f) (ht : InBlk X scope fun Y => PTs Y ifs (tMT Y.K W0 t)) (he : InBlk X scope fun Y => ME Y W0 elt m)
    (hc : X.calm = true := by rfl) (hs : ∀ x, foldedSetIterable iter X.env x = pure x := by intro _; rfl) : ME X W (.ListComp elt [⟨tg, iter, ifs, 0⟩] scope pos) (mComp mi (own.map (·.2)) f t m) := me_comp hc hN hi ok hg ht he hs
/-! ### statements -/
variable {body : List Stmt} {n : MSt} {x y : Str}
theorem zEx (h : ME X W e me) (hs : swapsWith e none pos.line X.env = pure false := by rfl) : MS1 X W (.Expr e pos) (sExpr me) := ms_expr h hs
theorem zAs {pos' : Pos} (i : Nat) (hN : X.N.Nodup) (he : ME X W e me) (hi : X.N[i]? = some x := by rfl) (hx : Loc X.env.scope x := by first | exact Or.inl rfl | exact Or.inr rfl) (hs : swapsWith e (some (.Name x pos')) pos.line X.env = pure false := by rfl) (hf : X.fn x = true ∨ X.env.scope.names.lookup x = some .local := by first | exact Or.inl rfl | exact Or.inr rfl) :
    MS1 X W (.Assign [.Name x pos'] e pos) (sAsg i me) := ms_asg hN hi hx he hs hf
theorem zAc {py spos : Pos} (i : Nat) (own : List (Str × Nat)) (hN : X.N.Nodup) (hi : MI X W tg iter mi) (ok : BlkOk X.N X.env.scope scope own) (hg : InBlk X scope fun Y => MGf Y tg (own.map (·.2)) f) (ht : InBlk X scope fun Y => PTs Y ifs (tMT Y.K W0 t)) (he : InBlk X scope fun Y => ME Y W0 elt m)
    (hc : X.calm = true := by rfl) (hy : X.N[i]? = some y := by rfl) (hyl : X.env.scope.names.lookup y = some .local := by rfl) (hsw : swapsWith (.ListComp elt [⟨tg, iter, ifs, 0⟩] scope pos) (some (.Name y py)) spos.line X.env = pure true := by rfl) (hs : ∀ x, foldedSetIterable iter X.env x = pure x := by intro _; rfl) :
    MS1 X W (.Assign [.Name y py] (.ListComp elt [⟨tg, iter, ifs, 0⟩] scope pos) spos) (sAsgN i (mComp mi (own.map (·.2)) f t m)) := ms_asgC hc hN hy hyl hsw hi ok hg ht he hs
theorem zUn {S : List Nat} (hg : MGr X tg S f) (he : ME X W e me) (hs : swapsWithSole [tg] e pos.line X.env = pure false := by rfl) (hw : swappedStores [tg] e X.env = pure none := by rfl)
    (h1 : (assignEach [tg] X.env).map (·.2) = [assign tg X.env] := by rfl) : MS1 X W (.Assign [tg] e pos) (sUnp f me) := ms_unp he hg hs hw h1
theorem zAu {op : Operator} {g : D → D → Option EV} {pos' : Pos} (i : Nat) (ho : Op2 X (inplaceOp op) g) (hN : X.N.Nodup) (he : ME X W e me) (hi : X.N[i]? = some x := by rfl) (hx : Loc X.env.scope x := by first | exact Or.inl rfl | exact Or.inr rfl) (hf : X.fn x = true ∨ X.env.scope.names.lookup x = some .local := by first | exact Or.inl rfl | exact Or.inr rfl) :
    MS1 X W (.AugAssign (.Name x pos') op e pos) (sAug g i me) := ms_aug ho hN hi hx he hf
theorem zSe {ei : Expr} {mk : M EV} {pos' np : Pos} (i : Nat) (hu : X.A.units + 1 < cLine) (he : ME X W e me) (hk : ME X W ei mk) (hN : X.N[i]? = some x := by rfl) (hv : Vis X.env.scope x := by first | exact Or.inl rfl | exact Or.inr (Or.inl rfl) | exact Or.inr (Or.inr rfl)) (hd : (x == ("__debug__" : Str)) = false := by rfl) (hcd : (x == ("__classdict__" : Str)) = false := by rfl)
    (ha : ∀ v, assign (.Subscript (.Name x np) ei pos') X.env v = (do
      let ov ← holding [v] (eval (.Name x np) X.env)
      let iv ← holding [v, ov] (eval ei X.env)
      standAt pos'
      holding [v, ov, iv] (setItem ov iv v)
      release [v, ov, iv] []) := by intro _; rfl) (hs : swapsWithSole [.Subscript (.Name x np) ei pos'] e pos.line X.env = pure false := by rfl) (hw : swappedStores [.Subscript (.Name x np) ei pos'] e X.env = pure none := by rfl)
    (h1 : (assignEach [.Subscript (.Name x np) ei pos'] X.env).map (·.2) = [assign (.Subscript (.Name x np) ei pos') X.env] := by rfl) : MS1 X W (.Assign [.Subscript (.Name x np) ei pos'] e pos) (sSetI setO i mk me) := ms_setI (p_set hu) hN hv hd hcd he hk ha hs hw h1
theorem zAi {op : Operator} {gop : D → D → Option EV} {ei : Expr} {mk : M EV} {np tpos : Pos} (i : Nat) (hu : X.A.units + 1 < cLine) (ho : Op2 X (inplaceOp op) gop) (hk : ME X W ei mk) (he : ME X W e me) (hN : X.N[i]? = some x := by rfl) (hv : Vis X.env.scope x := by first | exact Or.inl rfl | exact Or.inr (Or.inl rfl) | exact Or.inr (Or.inr rfl)) (hd : (x == ("__debug__" : Str)) = false := by rfl) (hcd : (x == ("__classdict__" : Str)) = false := by rfl)
    (ha : ∀ ov iv new, augStore ei ov iv new = (do holding [new, ov, iv] (setItem ov iv new); release [new, ov, iv] []; pure .next) := by intro _ _ _; rfl) : MS1 X W (.AugAssign (.Subscript (.Name x np) ei tpos) op e pos) (sAugI getO gop setO i mk me) := ms_augI (p_get hu) ho (p_set hu) hN hv hd hcd hk he ha
theorem zFo {S : List Nat} (hp : PassesOwn (model X.prog X.w) X.A X.env X.xe) (hi : MI X W tg iter mi) (hg : MGf X tg S f) (hb : MSs X W body n) (hc : X.calm = true := by rfl) (hs : ∀ x, foldedSetIterable iter X.env x = pure x := by intro _; rfl) : MS1 X W (.For tg iter body [] pos) (sFor mi f n) := ms_for hp hc hi hg hb hs
end
end Fw
set_option linter.all false
set_option maxRecDepth 100000
namespace Fw
open PySem L2
theorem takes0 (X : Cx) : Takes X W0 := fun _ _ ⟨_, _, _, _, _, _, _, _, _, _, _, _, _, _, _, _, w⟩ => w.elim
section
variable {P : Program} {w : World} {K : PySem.W.Frag} {mg : Str → Option Value} {base : Heap}
theorem good_mk {x qual : Str} {st : Stmt} {f : Addr} {fd : FuncData} {N ps : List Str} {k : Nat} {b : MSt} (F : Fun K x qual st f fd) (bd : Binds K fd ps []) (hm : mg x = some (.ref f)) (S : FnScope N ps (defScope st))
    (hbody : ∀ (X : Cx) (W : WX) (cdv : Value) (A : Around) (outer : List Env) (s : Shared) (H : Hp) (E : XK), X = cxOf (L2.CX P w) P w K mg base N qual (defScope st) f cdv A outer s H E → Room k X.A → Takes X W → PassesOwn (model X.prog X.w) X.A X.env X.xe → MSs X W (defBody st) b) :
    FnGood P w K mg base x ps.length (k + 1) (fmOf N.length b) := ⟨f, fd, ps, hm, F.kp, bd, rfl, fn_ok F S hbody⟩
end
end Fw
set_option linter.all false
set_option maxRecDepth 100000
/-! plain runs, read by what holds behind them -/
namespace Fw
open PySem
/-- what simp shall not look into -/
inductive Dum {α : Type} (a : α) : Type where
  | mk
/-- the run m ends, and Q holds behind it (E behind an exception) -/
def Wp {α : Type} (m : M α) (ms : MS) (k : α → MS → Prop) (x : EX → MS → Prop) (_ : Dum m := .mk) (_ : Dum k := .mk) (_ : Dum x := .mk) : Prop := match m ms with
  | none => False
  | some (.ok a ms') => k a ms'
  | some (.exc e ms') => x e ms'
theorem wp_run {α : Type} {m : M α} {ms : MS} {k : α → MS → Prop} {x : EX → MS → Prop} : Wp m ms k x = Run m ms k x := rfl
theorem Wp.bind {α β : Type} {m : M α} {f : α → M β} {ms : MS} {k : β → MS → Prop} {x : EX → MS → Prop} : Wp (m.bind f) ms k x = Wp m ms (fun a ms' => Wp (f a) ms' k x) x := Run.bind
theorem Wp.mono {α : Type} {m : M α} {ms : MS} {k k' : α → MS → Prop} {x x' : EX → MS → Prop} (h : Wp m ms k x) (hk : ∀ a ms', k a ms' → k' a ms') (hx : ∀ e ms', x e ms' → x' e ms') : Wp m ms k' x' := Run.mono h hk hx
theorem Wp.ext {α : Type} {m : M α} {ms : MS} {k k' : α → MS → Prop} {x : EX → MS → Prop} (h : ∀ a ms', k a ms' = k' a ms') : Wp m ms k x = Wp m ms k' x := by
  have e : k = k' := funext fun a => funext fun b => h a b
  subst e; rfl
section
variable {α β : Type} {ms : MS} {E : EX → MS → Prop}
def opK (P : α → Prop) (o : Option α) (_ : Dum P := .mk) : Prop := match o with
  | some a => P a
  | none => False
@[simp] theorem opK_some {P : α → Prop} {a : α} : opK P (some a) = P a := rfl
@[simp] theorem opK_none {P : α → Prop} : opK P none = False := rfl
@[simp] theorem opK_map {P : β → Prop} {f : α → β} {o : Option α} : opK P (o.map f) = opK (fun a => P (f a)) o := by cases o <;> rfl
@[simp] theorem opK_bind {P : β → Prop} {f : α → Option β} {o : Option α} : opK P (o.bind f) = opK (fun a => opK P (f a)) o := by cases o <;> rfl
@[simp] theorem opK_ite {P : α → Prop} {c : Prop} [Decidable c] {a : α} : opK P (if c then some a else none) = (c ∧ P a) := by
  by_cases h : c <;> simp [h, opK]
theorem opK_of {P : α → Prop} {o : Option α} {a : α} (h : o = some a) (q : P a) : opK P o := by rw [h]; exact q
theorem opK_ex {P : α → Prop} {o : Option α} : opK P o ↔ ∃ a, o = some a ∧ P a := by cases o <;> simp
def blK (P : Bool → Prop) (e : EV) (_ : Dum P := .mk) : Prop := match e with
  | .val (.bl b) => P b
  | _ => False
@[simp] theorem blK_bl {P : Bool → Prop} {b : Bool} : blK P (.val (.bl b)) = P b := rfl
def inK (P : Int → Prop) (e : EV) (_ : Dum P := .mk) : Prop := match e with
  | .val (.int b) => P b
  | _ => False
@[simp] theorem inK_int {P : Int → Prop} {b : Int} : inK P (.val (.int b)) = P b := rfl
def lo : SV → Bool
  | .own true _ => false
  | _ => true
@[simp] theorem lo_unk : lo .unk = true := rfl
@[simp] theorem lo_val {d : D} : lo (.val d) = true := rfl
@[simp] theorem lo_own {o : OV} : lo (.own false o) = true := rfl
theorem setS_eq {i : Nat} {s : SV} : setS i s ms = (match ms[i]? with
  | some t => if lo t = true then some (ms.set i s) else none
  | none => none) := by
  unfold setS
  cases ms[i]? with
  | none => rfl
  | some t =>
    cases t with
    | unk => rfl
    | val d => rfl
    | own l o => cases l <;> rfl
@[simp] theorem run_pure {a : α} {Q : α → MS → Prop} : Wp (M.pure a) ms Q E = Q a ms := rfl
@[simp] theorem run_bind {m : M α} {f : α → M β} {Q : β → MS → Prop} : Wp (m.bind f) ms Q E = Wp m ms (fun a ms' => Wp (f a) ms' Q E) E := Wp.bind
@[simp] theorem run_lift {o : Option α} {Q : α → MS → Prop} : Wp (M.lift o) ms Q E = opK (fun a => Q a ms) o := by
  cases o <;> rfl
theorem run_of {m : M α} {Q : α → MS → Prop} {a : α} {ms' : MS} (h : m ms = some (.ok a ms')) (q : Q a ms') : Wp m ms Q E := by
  unfold Wp; rw [h]; exact q
theorem run_fun {f : MS → Option (Res α)} {Q : α → MS → Prop} : Wp (f : M α) ms Q E = (match f ms with
  | none => False
  | some (.ok a ms') => Q a ms'
  | some (.exc x ms') => E x ms') := rfl
theorem Wp.imp {m : M α} {Q Q' : α → MS → Prop} (h : Wp m ms Q E) (q : ∀ a ms', Q a ms' → Q' a ms') : Wp m ms Q' E := h.mono q fun _ _ h => h
variable {Q : EV → MS → Prop} {QB : Bool → MS → Prop} {QL : List D → MS → Prop} {QS : Fl → MS → Prop} {m a b c n : M EV} {mas : M (List EV)} {t u : M Bool}
def vrK (P : D → Prop) (R : Prop) (o : Option SV) (_ : Dum P := .mk) (_ : Dum R := .mk) : Prop := match o with
  | some (.val d) => P d
  | some (.own _ _) => R
  | _ => False
@[simp] theorem vrK_val {P : D → Prop} {R : Prop} {d : D} : vrK P R (some (.val d)) = P d := rfl
@[simp] theorem vrK_own {P : D → Prop} {R : Prop} {l : Bool} {o : OV} : vrK P R (some (.own l o)) = R := rfl
@[simp] theorem run_var {i : Nat} : Wp (mVar i) ms Q E = vrK (fun d => Q (.val d) ms) (Q (.bor i) ms) ms[i]? := by
  unfold Wp mVar
  cases ms[i]? with
  | none => rfl
  | some s => cases s <;> rfl
@[simp] theorem run_op2 {g : D → D → Option EV} : Wp (mOp2 g a b) ms Q E = Wp a ms (fun x ms1 => Wp b ms1 (fun y ms2 => opK (fun d => opK (fun e => opK (fun r => Q r ms2) (g d e)) (rd ms2 y)) (rd ms2 x)) E) E := by
  unfold mOp2
  rw [Wp.bind]
  refine Wp.ext fun x ms1 => ?_
  rw [Wp.bind]
  refine Wp.ext fun y ms2 => ?_
  rw [run_fun]
  cases hx : rd ms2 x with
  | none => simp
  | some d =>
    cases hy : rd ms2 y with
    | none => simp
    | some e =>
      cases hg : g d e <;> simp [M.lift, hg]
@[simp] theorem run_op1 {g : D → Option EV} : Wp (mOp1 g a) ms Q E = Wp a ms (fun x ms1 => opK (fun d => opK (fun r => Q r ms1) (g d)) (rd ms1 x)) E := by
  unfold mOp1
  rw [Wp.bind]
  refine Wp.ext fun x ms1 => ?_
  rw [run_fun]
  cases hx : rd ms1 x with
  | none => simp
  | some d => cases hg : g d <;> simp [M.lift, hg]
@[simp] theorem run_nil {Q : List EV → MS → Prop} : Wp mNil ms Q E = Q [] ms := rfl
@[simp] theorem run_cons {Q : List EV → MS → Prop} : Wp (mCons m mas) ms Q E = Wp m ms (fun e ms1 => Wp mas ms1 (fun es ms2 => Q (e :: es) ms2) E) E := by
  unfold mCons
  rw [Wp.bind]
  refine Wp.ext fun x ms1 => ?_
  rw [Wp.bind]
  rfl
@[simp] theorem run_callB {g : List D → Option EV} : Wp (mCallB g mas) ms Q E = Wp mas ms (fun es ms1 => opK (fun ds => opK (fun r => Q r ms1) (g ds)) (rds ms1 es)) E := by
  unfold mCallB
  rw [Wp.bind]
  refine Wp.ext fun x ms1 => ?_
  rw [run_fun]
  cases hx : rds ms1 x with
  | none => simp
  | some d => cases hg : g d <;> simp [M.lift, hg]
@[simp] theorem run_tup : Wp (mTup mas) ms Q E = Wp mas ms (fun es ms1 => opK (fun ds => ds.length ≤ 1000 ∧ Q (.val (.tup ds)) ms1) (vals es)) E := by
  unfold mTup
  rw [Wp.bind]
  refine Wp.ext fun x ms1 => ?_
  rw [run_lift]
  cases hx : vals x with
  | none => simp
  | some d =>
    by_cases hl : d.length ≤ 1000 <;> simp [hl]
@[simp] theorem run_lst : Wp (mLst mas) ms Q E = Wp mas ms (fun es ms1 => opK (fun ds => ds.length ≤ 1000 ∧ Q (.new (.lst ds)) ms1) (vals es)) E := by
  unfold mLst
  rw [Wp.bind]
  refine Wp.ext fun x ms1 => ?_
  rw [run_lift]
  cases hx : vals x with
  | none => simp
  | some d =>
    by_cases hl : d.length ≤ 1000 <;> simp [hl]
def fzK (ms : MS) (Q : EV → MS → Prop) (e : EV) (_ : Dum Q := .mk) : Prop := match e with
  | .val d => Q (.val d) ms
  | .new o => Q (.val o.d) ms
  | .bor i => match ms[i]? with
    | some (.val d) => Q (.val d) ms
    | some (.own false o) => Q (.val o.d) (ms.set i (.val o.d))
    | _ => False
@[simp] theorem fzK_val {d : D} : fzK ms Q (.val d) = Q (.val d) ms := rfl
@[simp] theorem fzK_new {o : OV} : fzK ms Q (.new o) = Q (.val o.d) ms := rfl
@[simp] theorem fzK_bor {i : Nat} : fzK ms Q (.bor i) = (match ms[i]? with
    | some (.val d) => Q (.val d) ms
    | some (.own false o) => Q (.val o.d) (ms.set i (.val o.d))
    | _ => False) := rfl
@[simp] theorem run_fz : Wp (mFz m) ms Q E = Wp m ms (fun ev ms1 => fzK ms1 Q ev) E := by
  unfold mFz
  rw [Wp.bind]
  refine Wp.ext fun ev ms1 => ?_
  rw [run_fun]
  cases ev with
  | val d => rfl
  | new d => rfl
  | bor i =>
    dsimp only [fzK]
    cases ms1[i]? with
    | none => rfl
    | some s =>
      cases s with
      | unk => rfl
      | val d => rfl
      | own l o => cases l <;> rfl
def fbK (ms : MS) (Q : EV → MS → Prop) (e : EV) (_ : Dum Q := .mk) : Prop := match e with
  | .val d => Q (.val d) ms
  | .new o => Q (.new o) ms
  | .bor i => match ms[i]? with
    | some (.val d) => Q (.val d) ms
    | some (.own false o) => Q (.val o.d) (ms.set i (.val o.d))
    | _ => False
@[simp] theorem fbK_val {d : D} : fbK ms Q (.val d) = Q (.val d) ms := rfl
@[simp] theorem fbK_new {o : OV} : fbK ms Q (.new o) = Q (.new o) ms := rfl
@[simp] theorem fbK_bor {i : Nat} : fbK ms Q (.bor i) = (match ms[i]? with
    | some (.val d) => Q (.val d) ms
    | some (.own false o) => Q (.val o.d) (ms.set i (.val o.d))
    | _ => False) := rfl
@[simp] theorem run_fb : Wp (mFb m) ms Q E = Wp m ms (fun ev ms1 => fbK ms1 Q ev) E := by
  unfold mFb
  rw [Wp.bind]
  refine Wp.ext fun ev ms1 => ?_
  rw [run_fun]
  cases ev with
  | val d => rfl
  | new d => rfl
  | bor i =>
    dsimp only [fbK]
    cases ms1[i]? with
    | none => rfl
    | some s =>
      cases s with
      | unk => rfl
      | val d => rfl
      | own l o => cases l <;> rfl
@[simp] theorem run_b : Wp (mB m) ms QB E = Wp m ms (fun ev ms1 => blK (fun b => QB b ms1) ev) E := by
  unfold mB
  rw [Wp.bind]
  refine Wp.ext fun ev ms1 => ?_
  rw [run_lift]
  cases ev with
  | val d => cases d <;> simp [blK]
  | new d => simp [blK]
  | bor d => simp [blK]
@[simp] theorem run_tru : Wp (mTru m) ms QB E = Wp m ms (fun ev ms1 => opK (fun d => opK (fun b => QB b ms1) (truD d)) (rd ms1 ev)) E := by
  unfold mTru
  rw [Wp.bind]
  refine Wp.ext fun ev ms1 => ?_
  rw [run_fun]
  cases rd ms1 ev with
  | none => simp
  | some d =>
    cases hd : truD d with
    | none => simp [hd, M.lift]
    | some k => cases k <;> simp [M.lift, hd]
@[simp] theorem run_notT : Wp (mNotT t) ms QB E = Wp t ms (fun b ms1 => QB (!b) ms1) E := by unfold mNotT; rw [Wp.bind]; rfl
theorem run_ite {γ : Type} {x y : M γ} {Q : γ → MS → Prop} {k : Bool} : Wp (if k = true then x else y) ms Q E = ((k = true → Wp x ms Q E) ∧ (k = false → Wp y ms Q E)) := by cases k <;> simp
@[simp] theorem run_andT : Wp (mAndT t u) ms QB E = Wp t ms (fun b ms1 => (b = true → Wp u ms1 QB E) ∧ (b = false → QB false ms1)) E := by
  unfold mAndT; rw [Wp.bind]; refine Wp.ext fun k ms1 => ?_; cases k <;> simp
@[simp] theorem run_orT : Wp (mOrT t u) ms QB E = Wp t ms (fun b ms1 => (b = true → QB true ms1) ∧ (b = false → Wp u ms1 QB E)) E := by
  unfold mOrT; rw [Wp.bind]; refine Wp.ext fun k ms1 => ?_; cases k <;> simp
@[simp] theorem run_not : Wp (mNot m) ms Q E = Wp (mTru m) ms (fun b ms1 => Q (.val (.bl (!b))) ms1) E := by unfold mNot; rw [Wp.bind]; rfl
@[simp] theorem run_and : Wp (mAnd a b) ms Q E = Wp a ms (fun x ms1 => opK (fun d => opK (fun k => (k = true → Wp b ms1 Q E) ∧ (k = false → Q x ms1)) (truD d)) (rd ms1 x)) E := by
  unfold mAnd
  rw [Wp.bind]
  refine Wp.ext fun x ms1 => ?_
  rw [run_fun]
  cases rd ms1 x with
  | none => simp
  | some d =>
    cases hd : truD d with
    | none => simp [hd]
    | some k =>
      cases k
      · simp [hd] <;> exact Iff.rfl
      · simp [hd] <;> exact Iff.rfl
@[simp] theorem run_or : Wp (mOr a b) ms Q E = Wp a ms (fun x ms1 => opK (fun d => opK (fun k => (k = true → Q x ms1) ∧ (k = false → Wp b ms1 Q E)) (truD d)) (rd ms1 x)) E := by
  unfold mOr
  rw [Wp.bind]
  refine Wp.ext fun x ms1 => ?_
  rw [run_fun]
  cases rd ms1 x with
  | none => simp
  | some d =>
    cases hd : truD d with
    | none => simp [hd]
    | some k =>
      cases k
      · simp [hd] <;> exact Iff.rfl
      · simp [hd] <;> exact Iff.rfl
@[simp] theorem run_mIf : Wp (mIf t a b) ms Q E = Wp t ms (fun k ms1 => (k = true → Wp a ms1 Q E) ∧ (k = false → Wp b ms1 Q E)) E := by
  unfold mIf; rw [Wp.bind]; refine Wp.ext fun k ms1 => ?_; cases k <;> simp
@[simp] theorem run_chain {g g' : D → D → Option EV} : Wp (mChain g g' a b c) ms Q E = Wp a ms (fun x ms1 => Wp b ms1 (fun y ms2 => opK (fun d => opK (fun e => opK (blK fun k =>
    (k = true → Wp c ms2 (fun z ms3 => opK (fun e' => opK (fun f => opK (fun r => Q r ms3) (g' e' f)) (rd ms3 z)) (rd ms3 y)) E) ∧ (k = false → Q (.val (.bl false)) ms2)) (g d e)) (rd ms2 y)) (rd ms2 x)) E) E := by
  unfold mChain
  rw [Wp.bind]
  refine Wp.ext fun x ms1 => ?_
  rw [Wp.bind]
  refine Wp.ext fun y ms2 => ?_
  rw [run_fun]
  cases hx : rd ms2 x with
  | none => simp
  | some d =>
    cases hy : rd ms2 y with
    | none => simp
    | some e =>
      cases hg : g d e with
      | none => simp [hg, blK]
      | some r =>
        cases r with
        | new o => simp [hg, blK]
        | bor o => simp [hg, blK]
        | val v =>
          cases v with
          | bl k =>
            cases k with
            | false => simp [hg, blK]
            | true =>
              simp only [hg, opK_some, blK_bl, true_implies, reduceCtorEq, false_implies, and_true]
              change Wp (c.bind fun z => fun ms' => match rd ms' y, rd ms' z with
                | some e', some f => M.lift (g' e' f) ms'
                | _, _ => none) ms2 Q E = _
              rw [Wp.bind]
              refine Wp.ext fun z ms3 => ?_
              rw [run_fun]
              cases rd ms3 y with
              | none => simp
              | some e' =>
                cases rd ms3 z with
                | none => simp
                | some f => cases hg' : g' e' f <;> simp [M.lift, hg']
          | _ => simp [hg, blK]
@[simp] theorem run_int {Q : Option Int → MS → Prop} : Wp (mInt m) ms Q E = Wp m ms (fun ev ms1 => inK (fun i => Q (some i) ms1) ev) E := by
  unfold mInt
  rw [Wp.bind]
  refine Wp.ext fun ev ms1 => ?_
  rw [run_lift]
  cases ev with
  | val d => cases d <;> simp [inK]
  | new d => simp [inK]
  | bor d => simp [inK]
@[simp] theorem run_mI {Q : Int → MS → Prop} : Wp (mI m) ms Q E = Wp m ms (fun ev ms1 => inK (fun i => Q i ms1) ev) E := by
  unfold mI
  rw [Wp.bind]
  refine Wp.ext fun ev ms1 => ?_
  rw [run_lift]
  cases ev with
  | val d => cases d <;> simp [inK]
  | new d => simp [inK]
  | bor d => simp [inK]
@[simp] theorem run_slice {g : D → Option Int → Option Int → Option EV} {l h : M (Option Int)} : Wp (mSlice g m l h) ms Q E = Wp m ms (fun x ms1 => Wp l ms1 (fun lo ms2 => Wp h ms2 (fun hi ms3 => opK (fun d => opK (fun r => Q r ms3) (g d lo hi)) (rd ms3 x)) E) E) E := by
  unfold mSlice
  rw [Wp.bind]; refine Wp.ext fun x ms1 => ?_
  rw [Wp.bind]; refine Wp.ext fun lo ms2 => ?_
  rw [Wp.bind]; refine Wp.ext fun hi ms3 => ?_
  rw [run_fun]
  cases rd ms3 x with
  | none => simp
  | some d => cases hg : g d lo hi <;> simp [M.lift, hg]
@[simp] theorem run_rg1 {Q : List D → MS → Prop} : Wp (mRg1 m) ms Q E = Wp m ms (fun ev ms1 => inK (fun j => (-16777216 ≤ j ∧ j ≤ 16777216) ∧ Q (rgL 0 j.toNat) ms1) ev) E := by
  unfold mRg1
  rw [Wp.bind, run_mI]; refine Wp.ext fun x ms1 => ?_
  cases x with
  | new o => rfl
  | bor o => rfl
  | val d =>
    cases d with
    | int i => simp only [inK_int, run_lift, opK_ite]
    | _ => rfl
@[simp] theorem run_rg2 {Q : List D → MS → Prop} : Wp (mRg2 a b) ms Q E = Wp a ms (fun ea ms1 => inK (fun i => Wp b ms1 (fun ev ms2 => inK (fun j => (-16777216 ≤ i ∧ i ≤ 16777216 ∧ -16777216 ≤ j ∧ j ≤ 16777216 ∧ j - i ≤ 16777216) ∧ Q (rgL i (j - i).toNat) ms2) ev) E) ea) E := by
  unfold mRg2
  rw [Wp.bind, run_mI]; refine Wp.ext fun x ms1 => ?_
  cases x with
  | new o => rfl
  | bor o => rfl
  | val d =>
    cases d with
    | int i =>
      simp only [inK_int]
      rw [Wp.bind, run_mI]; refine Wp.ext fun y ms2 => ?_
      cases y with
      | new o => rfl
      | bor o => rfl
      | val d =>
        cases d with
        | int j => simp only [inK_int, run_lift, opK_ite]
        | _ => rfl
    | _ => rfl
@[simp] theorem run_seqI : Wp (mSeq m) ms QL E = Wp (mFz m) ms (fun ev ms1 => opK (fun ds => QL ds ms1) (itemsD ev)) E := by
  unfold mSeq; rw [Wp.bind]; refine Wp.ext fun ev ms1 => ?_; exact run_lift
/-! ### own defs -/
def isV : EV → Bool
  | .bor _ => false
  | _ => true
@[simp] theorem isV_val {d : D} : isV (.val d) = true := rfl
@[simp] theorem isV_new {d : OV} : isV (.new d) = true := rfl
@[simp] theorem isV_bor {d : Nat} : isV (.bor d) = false := rfl
@[simp] theorem run_callF {sig : List Bool} {fm : M EV} : Wp (mCallF sig fm mas) ms Q E = Wp mas ms (fun es ms1 => (bors es).Nodup ∧ opK (fun args => Wp fm args (fun ev outs => isV ev = true ∧ Q ev (backA es outs ms1)) (fun x outs => E x (backA es outs ms1))) (bindA ms1 sig es)) E := by
  unfold mCallF
  rw [Wp.bind]; refine Wp.ext fun es ms1 => ?_
  rw [run_fun]
  by_cases hn : (bors es).Nodup
  case neg => simp [hn]
  rw [if_pos hn]
  cases hb : bindA ms1 sig es with
  | none => simp
  | some args =>
    simp only [hn, true_and, opK_some]
    rw [run_fun]
    cases fm args with
    | none => rfl
    | some r =>
      cases r with
      | exc x outs => rfl
      | ok ev outs => cases ev <;> simp
def rtK (args : List SV) (Q : EV → MS → Prop) (ms' : MS) (f : Fl) (_ : Dum Q := .mk) : Prop := match f with
  | .nx => Q (.val .non) (outS args ms')
  | .rt ev => opK (fun r => Q r (outS args ms')) (retE ms' ev)
  | _ => False
@[simp] theorem rtK_nx {args : List SV} {ms' : MS} : rtK args Q ms' .nx = Q (.val .non) (outS args ms') := rfl
@[simp] theorem rtK_rt {args : List SV} {ms' : MS} {ev : EV} : rtK args Q ms' (.rt ev) = opK (fun r => Q r (outS args ms')) (retE ms' ev) := rfl
theorem run_fm {k : Nat} {body : MSt} {args : List SV} : Wp (fmOf k body) args Q E = (allLent args = true ∧ Wp body (args ++ List.replicate (k - args.length) .unk) (fun fl ms' => rtK args Q ms' fl) (fun x ms' => E x (outS args ms'))) := by
  unfold fmOf
  rw [run_fun]
  by_cases hl : allLent args = true
  case neg => simp [hl]
  simp only [if_pos hl, hl, true_and]
  rw [run_fun]
  cases body (args ++ List.replicate (k - args.length) .unk) with
  | none => rfl
  | some r =>
    cases r with
    | exc x ms' => rfl
    | ok fl ms' =>
      cases fl with
      | nx => rfl
      | bk => rfl
      | ct => rfl
      | rt ev => cases h : retE ms' ev <;> simp [h]
/-! ### statements -/
@[simp] theorem run_sNx : Wp sNx ms QS E = QS .nx ms := rfl
def sqK (b : MSt) (QS : Fl → MS → Prop) (E : EX → MS → Prop) (ms : MS) (f : Fl) (_ : Dum b := .mk) (_ : Dum QS := .mk) (_ : Dum E := .mk) : Prop := match f with
  | .nx => Wp b ms QS E
  | f => QS f ms
@[simp] theorem sqK_nx {b : MSt} : sqK b QS E ms .nx = Wp b ms QS E := rfl
@[simp] theorem sqK_rt {b : MSt} {ev : EV} : sqK b QS E ms (.rt ev) = QS (.rt ev) ms := rfl
@[simp] theorem sqK_bk {b : MSt} : sqK b QS E ms .bk = QS .bk ms := rfl
@[simp] theorem sqK_ct {b : MSt} : sqK b QS E ms .ct = QS .ct ms := rfl
variable {x y : MSt}
@[simp] theorem run_seq : Wp (sSeq x y) ms QS E = Wp x ms (fun fl ms1 => sqK y QS E ms1 fl) E := by
  unfold sSeq
  rw [Wp.bind]; refine Wp.ext fun fl ms1 => ?_
  cases fl <;> rfl
@[simp] theorem run_expr : Wp (sExpr m) ms QS E = Wp m ms (fun _ ms1 => QS .nx ms1) E := by unfold sExpr; rw [Wp.bind]; rfl
@[simp] theorem run_ret : Wp (sRet m) ms QS E = Wp m ms (fun ev ms1 => QS (.rt ev) ms1) E := by unfold sRet; rw [Wp.bind]; rfl
@[simp] theorem run_sIf : Wp (sIf t x y) ms QS E = Wp t ms (fun k ms1 => (k = true → Wp x ms1 QS E) ∧ (k = false → Wp y ms1 QS E)) E := by
  unfold sIf; rw [Wp.bind]; refine Wp.ext fun k ms1 => ?_; cases k <;> simp
def stK (i : Nat) (ms : MS) (QS : Fl → MS → Prop) (e : EV) (_ : Dum QS := .mk) : Prop := match e with
  | .val d => opK (fun ms' => QS .nx ms') (setS i (.val d) ms)
  | .new o => opK (fun ms' => QS .nx ms') (setS i (.own false o) ms)
  | .bor _ => False
@[simp] theorem stK_val {i : Nat} {d : D} : stK i ms QS (.val d) = opK (fun ms' => QS .nx ms') (setS i (.val d) ms) := rfl
@[simp] theorem stK_new {i : Nat} {o : OV} : stK i ms QS (.new o) = opK (fun ms' => QS .nx ms') (setS i (.own false o) ms) := rfl
theorem run_stE {i : Nat} {ev : EV} : Wp (fun ms => stE i ev ms) ms QS E = stK i ms QS ev := by
  rw [run_fun]
  cases ev with
  | val d => cases h : setS i (.val d) ms <;> simp [stE, stK, h]
  | new d => cases h : setS i (.own false d) ms <;> simp [stE, stK, h]
  | bor d => rfl
@[simp] theorem run_asg {i : Nat} : Wp (sAsg i m) ms QS E = Wp m ms (fun ev ms1 => fbK ms1 (fun ev ms2 => stK i ms2 QS ev) ev) E := by
  unfold sAsg
  rw [Wp.bind, run_fb]
  refine Wp.ext fun ev ms1 => ?_
  have e : (fun ev ms2 => Wp (fun ms => stE i ev ms) ms2 QS E) = (fun ev ms2 => stK i ms2 QS ev) := by
    funext ev ms2; exact run_stE
  exact congrArg (fun q => fbK ms1 q ev) e
@[simp] theorem run_asgN {i : Nat} : Wp (sAsgN i m) ms QS E = Wp m ms (fun ev ms1 => stK i ms1 QS ev) E := by
  unfold sAsgN
  rw [Wp.bind]
  refine Wp.ext fun ev ms1 => ?_
  exact run_stE
@[simp] theorem run_unp {f : D → MS → Option MS} : Wp (sUnp f m) ms QS E = Wp m ms (fun ev ms1 => opK (fun d => opK (fun ms' => QS .nx ms') (f d ms1)) (rd ms1 ev)) E := by
  unfold sUnp
  rw [Wp.bind]
  refine Wp.ext fun ev ms1 => ?_
  rw [run_fun]
  cases rd ms1 ev with
  | none => simp
  | some d => cases h : f d ms1 <;> simp [h]
def vaK (P : D → Prop) (o : Option SV) (_ : Dum P := .mk) : Prop := match o with
  | some (.val d) => P d
  | _ => False
@[simp] theorem vaK_val {P : D → Prop} {d : D} : vaK P (some (.val d)) = P d := rfl
@[simp] theorem run_aug {g : D → D → Option EV} {i : Nat} : Wp (sAug g i m) ms QS E = vaK (fun d => Wp m ms (fun ev ms1 => opK (fun e => opK (fun r => stK i ms1 QS r) (g d e)) (rd ms1 ev)) E) ms[i]? := by
  unfold sAug
  rw [run_fun]
  cases h : ms[i]? with
  | none => rfl
  | some s =>
    cases s with
    | unk => rfl
    | own l o => rfl
    | val d =>
      simp only [vaK_val]
      change Wp (m.bind fun ev ms => match rd ms ev with
        | some e => (match g d e with
          | some r => stE i r ms
          | none => none)
        | none => none) ms QS E = _
      rw [Wp.bind]
      refine Wp.ext fun ev ms1 => ?_
      rw [run_fun]
      cases rd ms1 ev with
      | none => simp
      | some e =>
        cases hg : g d e with
        | none => simp [hg]
        | some r =>
          simp only [hg, opK_some, ← run_stE (E := E)]
          rfl
@[simp] theorem run_sFor {it : M (List D)} {f : D → MS → Option MS} {b : MSt} : Wp (sFor it f b) ms QS E = Wp it ms (fun ds ms1 => Wp (forL f b ds) ms1 QS E) E := by unfold sFor; rw [Wp.bind]
end
end Fw
set_option linter.all false
set_option maxRecDepth 100000
namespace Fw
open PySem
section
variable {α β : Type} {ms : MS} {E : EX → MS → Prop}
variable {Q : EV → MS → Prop} {QB : Bool → MS → Prop} {QL : List D → MS → Prop} {QS : Fl → MS → Prop} {m mk me a b c n : M EV} {mas : M (List EV)} {t u : M Bool}
/-! ### x[k] = e, x[k] op= e, x.m(..) -/
theorem run_guard {i : Nat} {x : M α} {Q : α → MS → Prop} : Wp (guardS i x) ms Q E = (ownS i ms = true ∧ Wp x ms Q E) := by
  unfold guardS
  rw [run_fun]
  by_cases h : ownS i ms = true
  · simp only [h, if_true, true_and]; rfl
  · simp [h]
def evD : EV → Option D
  | .val d => some d
  | _ => none
@[simp] theorem evD_val {d : D} : evD (.val d) = some d := rfl
def ownK (P : Bool → OV → Prop) (o : Option SV) (_ : Dum P := .mk) : Prop := match o with
  | some (.own l o) => P l o
  | _ => False
@[simp] theorem ownK_own {P : Bool → OV → Prop} {l : Bool} {o : OV} : ownK P (some (.own l o)) = P l o := rfl
@[simp] theorem run_setI {g : OV → D → D → Option OV} {i : Nat} : Wp (sSetI g i mk me) ms QS E = Wp (mFz me) ms (fun ev ms1 => ownS i ms1 = true ∧ Wp (mFz mk) ms1 (fun ek ms2 => opK (fun d => opK (fun k => opK (fun ms3 => QS .nx ms3) (chgS i (fun o => g o k d) ms2)) (evD ek)) (evD ev)) E) E := by
  unfold sSetI
  rw [Wp.bind]; refine Wp.ext fun ev ms1 => ?_
  rw [run_guard, Wp.bind]
  congr 1; refine Wp.ext fun ek ms2 => ?_
  rw [run_fun]
  cases ev <;> cases ek <;> simp [evD]
  rename_i d k
  cases h : chgS i (fun o => g o k d) ms2 <;> simp [h]
@[simp] theorem run_augI {gt : OV → D → Option D} {gop : D → D → Option EV} {st : OV → D → D → Option OV} {i : Nat} : Wp (sAugI gt gop st i mk me) ms QS E = (ownS i ms = true ∧ Wp (mFz mk) ms (fun ek ms1 => opK (fun k => ownK (fun l o => opK (fun old =>
    Wp me ms1 (fun ev ms2 => opK (fun e => opK (fun r => opK (fun r => opK (fun ms3 => QS .nx ms3) (chgS i (fun o => st o k r) ms2)) (evD r)) (gop old e)) (rd ms2 ev)) E) (gt o k)) ms1[i]?) (evD ek)) E) := by
  unfold sAugI
  rw [run_guard, Wp.bind]
  congr 1; refine Wp.ext fun ek ms1 => ?_
  rw [run_fun]
  cases ek with
  | new o => simp [evD]
  | bor o => simp [evD]
  | val k =>
    simp only [evD_val, opK_some]
    cases h : ms1[i]? with
    | none => rfl
    | some s =>
      cases s with
      | unk => rfl
      | val d => rfl
      | own l o =>
        rw [ownK_own]
        cases hg : gt o k with
        | none => simp [hg]
        | some old =>
          simp only [hg, opK_some]
          change Wp (me.bind fun ev ms1 => match rd ms1 ev with
            | some e => (match gop old e with
              | some (.val r) => (match chgS i (fun o => st o k r) ms1 with
                | some ms2 => some (.ok .nx ms2)
                | none => none)
              | _ => none)
            | none => none) ms1 QS E = _
          rw [Wp.bind]
          refine Wp.ext fun ev ms2 => ?_
          rw [run_fun]
          cases rd ms2 ev with
          | none => simp
          | some e =>
            cases hr : gop old e with
            | none => simp [hr]
            | some r =>
              cases r with
              | new o => simp [hr, evD]
              | bor o => simp [hr, evD]
              | val d => cases hc : chgS i (fun o => st o k d) ms2 <;> simp [hr, hc]
@[simp] theorem run_meth {T : String} {rdA : MS → List EV → Option (List D)} {g : OV → List D → Option (D × OV)} {i : Nat} : Wp (mMeth T rdA g i mas) ms Q E = ownK (fun _ o => ovT o = T ∧ Wp mas ms (fun es ms1 => opK (fun ds => ownK (fun l o => opK (fun p => Q (.val p.1) (ms1.set i (.own l p.2))) (g o ds)) ms1[i]?) (rdA ms1 es)) E) ms[i]? := by
  unfold mMeth
  rw [run_fun]
  cases h : ms[i]? with
  | none => rfl
  | some s =>
    cases s with
    | unk => rfl
    | val d => rfl
    | own l o =>
      rw [ownK_own]
      by_cases hT : ovT o = T
      case neg => simp [hT]
      simp only [hT, if_true, true_and]
      change Wp (mas.bind fun es ms => match rdA ms es, ms[i]? with
        | some ds, some (.own l o) => (match g o ds with
          | some (d, o') => some (.ok (.val d) (ms.set i (.own l o')))
          | none => none)
        | _, _ => none) ms Q E = _
      rw [Wp.bind]
      refine Wp.ext fun es ms1 => ?_
      rw [run_fun]
      cases rdA ms1 es with
      | none => simp
      | some ds =>
        simp only [opK_some]
        cases h1 : ms1[i]? with
        | none => rfl
        | some s1 =>
          cases s1 with
          | unk => rfl
          | val d => rfl
          | own l1 o1 =>
            rw [ownK_own]
            cases hg : g o1 ds with
            | none => simp [hg]
            | some p => simp [hg]
/-! ### loops -/
def bkK (QS : Fl → MS → Prop) (I : MS → Prop) (ms : MS) (f : Fl) (_ : Dum QS := .mk) (_ : Dum I := .mk) : Prop := match f with
  | .nx => I ms
  | .ct => I ms
  | .bk => QS .nx ms
  | .rt ev => QS (.rt ev) ms
@[simp] theorem bkK_nx {I : MS → Prop} : bkK QS I ms .nx = I ms := rfl
@[simp] theorem bkK_ct {I : MS → Prop} : bkK QS I ms .ct = I ms := rfl
@[simp] theorem bkK_bk {I : MS → Prop} : bkK QS I ms .bk = QS .nx ms := rfl
@[simp] theorem bkK_rt {I : MS → Prop} {ev : EV} : bkK QS I ms (.rt ev) = QS (.rt ev) ms := rfl
theorem run_forC {f : D → MS → Option MS} {x : MSt} {d : D} {ds : List D} : Wp (forL f x (d :: ds)) ms QS E = ∃ ms1, f d ms = some ms1 ∧ Wp x ms1 (fun fl ms2 => bkK QS (fun ms2 => Wp (forL f x ds) ms2 QS E) ms2 fl) E := by
  rw [forL, run_fun]
  cases h : f d ms with
  | none => simp
  | some ms1 =>
    simp only [Option.some.injEq, exists_eq_left']
    change Wp (x.bind (wh (forL f x ds))) ms1 QS E = _
    rw [Wp.bind]
    refine Wp.ext fun fl ms2 => ?_
    cases fl <;> rfl
theorem run_forN {f : D → MS → Option MS} {x : MSt} : Wp (forL f x []) ms QS E = QS .nx ms := rfl
/-- a loop by what holds ahead of each turn -/
theorem run_for {f : D → MS → Option MS} {x : MSt} (I : Nat → MS → Prop) (ds : List D) (h0 : I 0 ms)
    (step : ∀ (i : Nat) (d : D) (ms : MS), ds[i]? = some d → I i ms → opK (fun ms1 => Wp x ms1 (fun fl ms2 => bkK QS (I (i + 1)) ms2 fl) E) (f d ms))
    (hend : ∀ ms, I ds.length ms → QS .nx ms) : Wp (forL f x ds) ms QS E := by
  induction ds generalizing ms I with
  | nil => exact hend ms h0
  | cons d ds ih =>
    rw [run_forC]
    obtain ⟨ms1, e, r⟩ := opK_ex.mp (step 0 d ms rfl h0)
    refine ⟨ms1, e, r.imp fun fl ms2 q => ?_⟩
    have go : I 1 ms2 → Wp (forL f x ds) ms2 QS E := fun z => ih (fun i => I (i + 1)) z (fun i d ms hd hi => step (i + 1) d ms (by simpa using hd) hi) (fun ms z => hend ms (by simpa using z))
    cases fl with
    | nx => exact go q
    | ct => exact go q
    | bk => exact q
    | rt ev => exact q
/-- a comprehension by what holds ahead of each turn -/
theorem run_compL {own : List Nat} {f : D → MS → Option MS} (I : Nat → List D → MS → Prop) (ds : List D) (acc : List D) (h0 : I 0 acc ms)
    (step : ∀ (i : Nat) (d : D) (acc : List D) (ms : MS), ds[i]? = some d → I i acc ms → opK (fun ms1 => Wp t ms1 (fun k ms2 => (k = true → Wp m ms2 (fun ev ms3 => opK (fun y => I (i + 1) (acc ++ [y]) (wipeM ms3 own)) (evD ev)) E) ∧ (k = false → I (i + 1) acc (wipeM ms2 own))) E) (f d ms))
    (hend : ∀ acc ms, I ds.length acc ms → QL acc ms) : Wp (compL own f t m ds acc) ms QL E := by
  induction ds generalizing ms I acc with
  | nil => rw [compL, run_pure]; exact hend acc ms h0
  | cons d ds ih =>
    obtain ⟨ms1, e, r⟩ := opK_ex.mp (step 0 d acc ms rfl h0)
    have go : ∀ acc ms2, I 1 acc ms2 → Wp (compL own f t m ds acc) ms2 QL E := fun acc ms2 z => ih (fun i => I (i + 1)) acc z (fun i d acc ms hd hi => step (i + 1) d acc ms (by simpa using hd) hi) (fun acc ms z => hend acc ms (by simpa using z))
    rw [compL, run_fun, e]
    change Wp (t.bind fun b => if b = true then m.bind (fun ev ms2 => match ev with
        | .val y => compL own f t m ds (acc ++ [y]) (wipeM ms2 own)
        | _ => none) else fun ms2 => compL own f t m ds acc (wipeM ms2 own)) ms1 QL E
    rw [Wp.bind]
    refine r.imp fun k ms2 q => ?_
    cases k with
    | true =>
      rw [if_pos rfl, Wp.bind]
      refine (q.1 rfl).imp fun ev ms3 z => ?_
      obtain ⟨y, hy, z⟩ := opK_ex.mp z
      cases ev with
      | new o => cases hy
      | bor o => cases hy
      | val d =>
        cases hy
        exact go _ _ z
    | false =>
      rw [if_neg (by simp)]
      exact go _ _ (q.2 rfl)
@[simp] theorem run_comp {it : M (List D)} {own : List Nat} {f : D → MS → Option MS} : Wp (mComp it own f t m) ms Q E = Wp it ms (fun ds ms1 => noOwn ms1 own = true ∧ Wp (compL own f t m ds []) (wipeM ms1 own) (fun acc ms2 => Q (.new (.lst acc)) (backM ms1 ms2 own)) (fun _ _ => False)) E := by
  unfold mComp
  rw [Wp.bind]; refine Wp.ext fun ds ms1 => ?_
  rw [run_fun]
  by_cases h : noOwn ms1 own = true
  case neg => simp [h]
  simp only [h, if_true, true_and]
  rw [run_fun]
  cases compL own f t m ds [] (wipeM ms1 own) with
  | none => rfl
  | some r => cases r <;> rfl
/-- a comprehension that changes nothing: guard by guard, value by value -/
theorem run_compF {own : List Nat} {f : D → MS → Option MS} (g : D → Bool) (v : D → D) (ds acc : List D)
    (step : ∀ d, d ∈ ds → opK (fun ms1 => Wp t ms1 (fun k ms2 => k = g d ∧ (k = true → Wp m ms2 (fun ev ms3 => evD ev = some (v d) ∧ wipeM ms3 own = ms) E) ∧ (k = false → wipeM ms2 own = ms)) E) (f d ms))
    (q : QL (acc ++ (ds.filter g).map v) ms) : Wp (compL own f t m ds acc) ms QL E := by
  refine run_compL (fun i a ms' => ms' = ms ∧ a = acc ++ ((ds.take i).filter g).map v) ds acc ⟨rfl, by simp⟩ (fun i d a ms' hd hi => ?_) fun a ms' z => ?_
  · obtain ⟨rfl, rfl⟩ := hi
    obtain ⟨ms1, e, r⟩ := opK_ex.mp (step d (List.mem_of_getElem? hd))
    refine opK_of e (r.imp fun k ms2 q => ?_)
    obtain ⟨hk, q1, q2⟩ := q
    have et : ds.take (i + 1) = ds.take i ++ [d] := by rw [List.take_add_one, hd]; rfl
    refine ⟨fun k1 => (q1 k1).imp fun ev ms3 z => opK_of z.1 ⟨z.2, ?_⟩, fun k1 => ⟨q2 k1, ?_⟩⟩
    · rw [et, List.filter_append, List.map_append, List.append_assoc]
      congr 2
      rw [List.filter_cons_of_pos (by rw [← hk]; exact k1)]; rfl
    · rw [et, List.filter_append, List.map_append]
      rw [List.filter_cons_of_neg (by rw [← hk, k1]; simp)]; simp
  · obtain ⟨rfl, rfl⟩ := z
    rw [List.take_length]
    exact q
theorem run_compM {own : List Nat} {f : D → MS → Option MS} (v : D → D) (ds acc : List D)
    (step : ∀ d, d ∈ ds → opK (fun ms1 => Wp m ms1 (fun ev ms3 => evD ev = some (v d) ∧ wipeM ms3 own = ms) E) (f d ms))
    (q : QL (acc ++ ds.map v) ms) : Wp (compL own f (M.pure true) m ds acc) ms QL E := by
  refine run_compF (fun _ => true) v ds acc (fun d hd => ?_) ?_
  · obtain ⟨ms1, e, r⟩ := opK_ex.mp (step d hd)
    exact opK_of e ⟨rfl, fun _ => r, fun z => nomatch z⟩
  · rw [List.filter_eq_self.mpr fun _ _ => rfl]
    exact q
end
/-! ### slots -/
@[simp] theorem setS_cons_zero {s t : SV} {ms : MS} : setS 0 s (t :: ms) = if lo t = true then some (s :: ms) else none := by rw [setS_eq]; rfl
@[simp] theorem setS_cons_succ {s t : SV} {ms : MS} {i : Nat} : setS (i + 1) s (t :: ms) = (setS i s ms).map (t :: ·) := by
  rw [setS_eq, setS_eq]
  simp only [List.getElem?_cons_succ, List.set_cons_succ]
  cases ms[i]? with
  | none => rfl
  | some x => by_cases h : lo x = true <;> simp [h]
@[simp] theorem chgS_zero {f : OV → Option OV} {l : Bool} {o : OV} {ms : MS} : chgS 0 f (.own l o :: ms) = (f o).map fun o' => .own l o' :: ms := rfl
@[simp] theorem chgS_succ {i : Nat} {f : OV → Option OV} {s : SV} {ms : MS} : chgS (i + 1) f (s :: ms) = (chgS i f ms).map (s :: ·) := by
  unfold chgS
  rw [List.getElem?_cons_succ]
  cases ms[i]? with
  | none => rfl
  | some t =>
    cases t with
    | unk => rfl
    | val d => rfl
    | own l o => cases h : f o <;> simp [h]
@[simp] theorem ownS_zero {l : Bool} {o : OV} {ms : MS} : ownS 0 (.own l o :: ms) = true := rfl
@[simp] theorem ownS_succ {i : Nat} {s : SV} {ms : MS} : ownS (i + 1) (s :: ms) = ownS i ms := rfl
@[simp] theorem rd_val {d : D} {ms : MS} : rd ms (.val d) = some d := rfl
@[simp] theorem rd_new {o : OV} {ms : MS} : rd ms (.new o) = some o.d := rfl
@[simp] theorem rd_bor0 {s : SV} {ms : MS} : rd (s :: ms) (.bor 0) = s.rd := rfl
@[simp] theorem rd_borS {i : Nat} {s : SV} {ms : MS} : rd (s :: ms) (.bor (i + 1)) = rd ms (.bor i) := rfl
@[simp] theorem SV.rd_val {d : D} : SV.rd (.val d) = some d := rfl
@[simp] theorem SV.rd_own {l : Bool} {o : OV} : SV.rd (.own l o) = some o.d := rfl
@[simp] theorem OV.d_lst {ds : List D} : OV.d (.lst ds) = .lst ds := rfl
@[simp] theorem OV.d_dic {t : Bool} {ks vs : List D} : OV.d (.dic t ks vs) = .dct t ks vs := rfl
@[simp] theorem rds_nil {ms : MS} : rds ms [] = some [] := rfl
@[simp] theorem rds_cons {ms : MS} {e : EV} {es : List EV} : rds ms (e :: es) = (rd ms e).bind fun d => (rds ms es).map (d :: ·) := by
  rw [rds]
  cases rd ms e with
  | none => rfl
  | some d => cases rds ms es <;> rfl
@[simp] theorem vals_nil : vals [] = some [] := rfl
@[simp] theorem vals_cons {d : D} {es : List EV} : vals (.val d :: es) = (vals es).map (d :: ·) := by
  rw [vals]
  cases vals es <;> rfl
@[simp] theorem bindA_nil {ms : MS} : bindA ms [] [] = some [] := rfl
@[simp] theorem bindA_val {ms : MS} {s : List Bool} {d : D} {es : List EV} : bindA ms (false :: s) (.val d :: es) = (bindA ms s es).map (.val d :: ·) := rfl
def ownB (r : Option (List SV)) : Option SV → Option (List SV)
  | some (.own _ o) => r.map (.own true o :: ·)
  | _ => none
@[simp] theorem ownB_own {r : Option (List SV)} {l : Bool} {o : OV} : ownB r (some (.own l o)) = r.map (.own true o :: ·) := rfl
@[simp] theorem bindA_bor {ms : MS} {s : List Bool} {i : Nat} {es : List EV} : bindA ms (true :: s) (.bor i :: es) = ownB (bindA ms s es) ms[i]? := by
  rw [bindA]
  cases ms[i]? with
  | none => rfl
  | some t => cases t <;> rfl
@[simp] theorem bors_nil : bors [] = [] := rfl
@[simp] theorem bors_val {d : D} {es : List EV} : bors (.val d :: es) = bors es := rfl
@[simp] theorem bors_new {o : OV} {es : List EV} : bors (.new o :: es) = bors es := rfl
@[simp] theorem bors_bor {i : Nat} {es : List EV} : bors (.bor i :: es) = i :: bors es := rfl
@[simp] theorem backA_nil {outs : List SV} {ms : MS} : backA [] outs ms = ms := by cases outs <;> rfl
@[simp] theorem backA_val {d : D} {es : List EV} {s : SV} {outs : List SV} {ms : MS} : backA (.val d :: es) (s :: outs) ms = backA es outs ms := rfl
@[simp] theorem backA_bor {i : Nat} {es : List EV} {s : SV} {outs : List SV} {ms : MS} : backA (.bor i :: es) (s :: outs) ms = backA es outs (ms.set i (relent ms[i]? s)) := rfl
@[simp] theorem relent_own {l l' : Bool} {o o' : OV} : relent (some (.own l o)) (.own l' o') = .own l o' := rfl
@[simp] theorem outS_nil {ms : MS} : outS [] ms = [] := by cases ms <;> rfl
@[simp] theorem outS_own0 {o o' : OV} {as : List SV} {ms : MS} : outS (.own true o :: as) (.own true o' :: ms) = .own true o' :: outS as ms := rfl
@[simp] theorem outS_val0 {d : D} {as : List SV} {s : SV} {ms : MS} : outS (.val d :: as) (s :: ms) = .unk :: outS as ms := rfl
@[simp] theorem allLent_nil : allLent [] = true := rfl
@[simp] theorem allLent_val {d : D} {as : List SV} : allLent (.val d :: as) = allLent as := rfl
@[simp] theorem allLent_own {o : OV} {as : List SV} : allLent (.own true o :: as) = allLent as := rfl
@[simp] theorem retE_val {ms : MS} {d : D} : retE ms (.val d) = some (.val d) := rfl
@[simp] theorem retE_new {ms : MS} {o : OV} : retE ms (.new o) = some (.new o) := rfl
def retB : Option SV → Option EV
  | some (.own false o) => some (.new o)
  | some (.val d) => some (.val d)
  | _ => none
@[simp] theorem retB_own {o : OV} : retB (some (.own false o)) = some (.new o) := rfl
@[simp] theorem retB_val {d : D} : retB (some (.val d)) = some (.val d) := rfl
@[simp] theorem retE_bor {ms : MS} {i : Nat} : retE ms (.bor i) = retB ms[i]? := rfl
@[simp] theorem wipeM_nil {ms : MS} : wipeM ms [] = ms := rfl
@[simp] theorem wipeM_cons {ms : MS} {v : Nat} {vs : List Nat} : wipeM ms (v :: vs) = (wipeM ms vs).set v .unk := rfl
@[simp] theorem backM_nil {ms0 ms : MS} : backM ms0 ms [] = ms := rfl
def backB (ms : MS) (v : Nat) : Option SV → MS
  | some (.val d) => ms.set v (.val d)
  | _ => ms
@[simp] theorem backB_val {ms : MS} {v : Nat} {d : D} : backB ms v (some (.val d)) = ms.set v (.val d) := rfl
@[simp] theorem backB_unk {ms : MS} {v : Nat} : backB ms v (some .unk) = ms := rfl
@[simp] theorem backB_own {ms : MS} {v : Nat} {l : Bool} {o : OV} : backB ms v (some (.own l o)) = ms := rfl
@[simp] theorem backM_cons {ms0 ms : MS} {v : Nat} {vs : List Nat} : backM ms0 ms (v :: vs) = backB (backM ms0 ms vs) v ms0[v]? := by
  rw [backM]
  cases ms0[v]? with
  | none => rfl
  | some t => cases t <;> rfl
def noB : Option SV → Bool
  | some (.own _ _) => false
  | _ => true
@[simp] theorem noB_val {d : D} : noB (some (.val d)) = true := rfl
@[simp] theorem noB_unk : noB (some .unk) = true := rfl
@[simp] theorem noB_none : noB none = true := rfl
@[simp] theorem noOwn_nil {ms : MS} : noOwn ms [] = true := rfl
@[simp] theorem noOwn_cons {ms : MS} {v : Nat} {vs : List Nat} : noOwn ms (v :: vs) = (noB ms[v]? && noOwn ms vs) := by
  unfold noOwn
  rw [List.all_cons]
  congr 1
@[simp] theorem gNm_def {i : Nat} {d : D} {ms : MS} : gNm i d ms = setS i (.val d) ms := rfl
@[simp] theorem gsNil_nil {ms : MS} : gsNil [] ms = some ms := rfl
@[simp] theorem gsCons_cons {f : D → MS → Option MS} {g : List D → MS → Option MS} {d : D} {ds : List D} {ms : MS} : gsCons f g (d :: ds) ms = (f d ms).bind (g ds) := by
  rw [gsCons]
  cases f d ms <;> rfl
@[simp] theorem gTp_tup {n : Nat} {g : List D → MS → Option MS} {ds : List D} {ms : MS} : gTp n g (.tup ds) ms = if ds.length = n then g ds ms else none := rfl
@[simp] theorem gTp_lst {n : Nat} {g : List D → MS → Option MS} {ds : List D} {ms : MS} : gTp n g (.lst ds) ms = if ds.length = n then g ds ms else none := rfl
/-! ### operators -/
@[simp] theorem intOp_int {f : Int → Int → Option EV} {i j : Int} : intOp f (.int i) (.int j) = f i j := rfl
@[simp] theorem iAdd_def {i j : Int} : iAdd i j = some (.val (.int (i + j))) := rfl
@[simp] theorem iSub_def {i j : Int} : iSub i j = some (.val (.int (i - j))) := rfl
@[simp] theorem iLt_def {i j : Int} : iLt i j = some (.val (.bl (decide (i < j)))) := rfl
@[simp] theorem iLe_def {i j : Int} : iLe i j = some (.val (.bl (decide (i ≤ j)))) := rfl
@[simp] theorem iGt_def {i j : Int} : iGt i j = some (.val (.bl (decide (j < i)))) := rfl
@[simp] theorem iGe_def {i j : Int} : iGe i j = some (.val (.bl (decide (j ≤ i)))) := rfl
@[simp] theorem iNeg_int {i : Int} : iNeg (.int i) = some (.val (.int (-i))) := rfl
theorem iDiv_ok {i j : Int} (h : 0 < j) (h2 : j < 1073741824) : iDiv i j = some (.val (.int (i / j))) := if_pos ⟨h, h2⟩
theorem iMod_ok {i j : Int} (h : 0 < j) : iMod i j = some (.val (.int (i % j))) := if_pos h
theorem iMul_ok {i j : Int} (h : -18446744073709551616 < i ∧ i < 18446744073709551616) : iMul i j = some (.val (.int (i * j))) := if_pos (.inl h)
theorem iMul_ok2 {i j : Int} (h : -18446744073709551616 < j ∧ j < 18446744073709551616) : iMul i j = some (.val (.int (i * j))) := if_pos (.inr h)
@[simp] theorem addD_int {i j : Int} : addD (.int i) (.int j) = some (.val (.int (i + j))) := rfl
@[simp] theorem mulD_int {i j : Int} : mulD (.int i) (.int j) = iMul i j := rfl
@[simp] theorem bMax_2 {i j : Int} : bMax [.int i, .int j] = some (.val (.int (max i j))) := rfl
@[simp] theorem bMax_3 {i j k : Int} : bMax [.int i, .int j, .int k] = some (.val (.int (max (max i j) k))) := rfl
@[simp] theorem bInt_int {i : Int} : bInt [.int i] = some (.val (.int i)) := rfl
@[simp] theorem bInt_bl {b : Bool} : bInt [.bl b] = some (.val (.int (if b then 1 else 0))) := rfl
@[simp] theorem bAbs_int {i : Int} : bAbs [.int i] = some (.val (.int (if i < 0 then -i else i))) := rfl
@[simp] theorem bLen_tup {ds : List D} : bLen [.tup ds] = some (.val (.int (ds.length : Nat))) := rfl
@[simp] theorem bLen_lst {ds : List D} : bLen [.lst ds] = some (.val (.int (ds.length : Nat))) := rfl
@[simp] theorem bTuple_lst {ds : List D} : bTuple [.lst ds] = some (.val (.tup ds)) := rfl
@[simp] theorem bTuple_tup {ds : List D} : bTuple [.tup ds] = some (.val (.tup ds)) := rfl
@[simp] theorem bList_lst {ds : List D} : bList [.lst ds] = some (.new (.lst ds)) := rfl
@[simp] theorem bList_tup {ds : List D} : bList [.tup ds] = some (.new (.lst ds)) := rfl
@[simp] theorem truD_bl {b : Bool} : truD (.bl b) = some b := rfl
@[simp] theorem truD_int {i : Int} : truD (.int i) = some (i != 0) := rfl
@[simp] theorem truD_non : truD .non = some false := rfl
@[simp] theorem truD_tup {ds : List D} : truD (.tup ds) = some (!ds.isEmpty) := rfl
@[simp] theorem truD_lst {ds : List D} : truD (.lst ds) = some (!ds.isEmpty) := rfl
@[simp] theorem itemsD_tup {ds : List D} : itemsD (.val (.tup ds)) = some ds := rfl
@[simp] theorem itemsD_lst {ds : List D} : itemsD (.val (.lst ds)) = some ds := rfl
@[simp] theorem itemsD_ktp {ds : List D} : itemsD (.val (.ktp ds)) = some ds := rfl
@[simp] theorem itemsD_kls {ds : List D} : itemsD (.val (.kls ds)) = some ds := rfl
@[simp] theorem ixD_tup {ds : List D} {i : Int} : ixD (.tup ds) (.int i) = (L2.atI ds i).map .val := rfl
@[simp] theorem ixD_lst {ds : List D} {i : Int} : ixD (.lst ds) (.int i) = (L2.atI ds i).map .val := rfl
@[simp] theorem slD_tup {ds : List D} {lo hi : Option Int} : slD (.tup ds) lo hi = some (.val (.tup (cutD ds lo hi))) := rfl
@[simp] theorem ovT_lst {ds : List D} : ovT (.lst ds) = "list" := rfl
@[simp] theorem getO_lst {ds : List D} {i : Int} : getO (.lst ds) (.int i) = L2.atI ds i := rfl
@[simp] theorem setO_lst {ds : List D} {i : Int} {d : D} : setO (.lst ds) (.int i) d = (L2.ixN ds.length i).map fun j => .lst (ds.set j d) := rfl
@[simp] theorem eqD_int {i j : Int} : eqD (.int i) (.int j) = some (.val (.bl (decide (i = j)))) := by
  by_cases h : i = j <;> simp [eqD, shD, eqB, h]
@[simp] theorem neD_int {i j : Int} : neD (.int i) (.int j) = some (.val (.bl (!decide (i = j)))) := by
  by_cases h : i = j <;> simp [neD, shD, eqB, h]
@[simp] theorem eqD_bl {i j : Bool} : eqD (.bl i) (.bl j) = some (.val (.bl (decide (i = j)))) := by
  cases i <;> cases j <;> rfl
theorem atI_ge {α : Type} {l : List α} {i : Int} {x : α} (h0 : 0 ≤ i) (h : l[i.toNat]? = some x) : L2.atI l i = some x := by
  have hl := (List.getElem?_eq_some_iff.mp h).1
  unfold L2.atI L2.ixN
  rw [if_pos h0, if_pos (by omega)]
  exact h
@[simp] theorem atI_0 {α : Type} {a : α} {l : List α} : L2.atI (a :: l) 0 = some a := atI_ge (by decide) rfl
@[simp] theorem atI_1 {α : Type} {a b : α} {l : List α} : L2.atI (a :: b :: l) 1 = some b := atI_ge (by decide) rfl
@[simp] theorem atI_2 {α : Type} {a b c : α} {l : List α} : L2.atI (a :: b :: c :: l) 2 = some c := atI_ge (by decide) rfl
@[simp] theorem atI_3 {α : Type} {a b c d : α} {l : List α} : L2.atI (a :: b :: c :: d :: l) 3 = some d := atI_ge (by decide) rfl
@[simp] theorem atI_4 {α : Type} {a b c d e : α} {l : List α} : L2.atI (a :: b :: c :: d :: e :: l) 4 = some e := atI_ge (by decide) rfl
end Fw
set_option linter.all false
set_option maxRecDepth 100000
namespace Fw
open PySem
noncomputable def f_law_begin_C1 : M EV := (mComp (mSeq (mVar 0)) [1] (gNm 1) (M.pure true) (mCallB bInt (mCons (mVar 1) mNil)))
noncomputable def f_law_begin : MSt := (sRet (mLst (mCons (mFz f_law_begin_C1) (mCons (M.pure (.val (.int 0))) (mCons (M.pure (.val (.int 0))) (mCons (M.pure (.val (.int 7))) (mCons (M.pure (.val (.int 3))) mNil)))))))
noncomputable def fm_law_begin : M EV := fmOf 2 f_law_begin
noncomputable def f_law_draw : MSt := (sSeq (sAsg 1 (mCallB bMax (mCons (mVar 1) (mCons (M.pure (.val (.int 1))) mNil)))) (sSeq (sIf (mB (mOp2 (intOp iGt) (mOp2 ixD (mVar 0) (M.pure (.val (.int 2)))) (M.pure (.val (.int 0))))) (sSeq (sAsg 2 (mOp2 ixD (mVar 0) (M.pure (.val (.int 2))))) (sSeq (sSetI setO 0 (M.pure (.val (.int 2))) (mOp2 (intOp iDiv) (mVar 2) (mVar 1))) (sRet (mOp2 (intOp iMod) (mCallB bInt (mCons (mVar 2) mNil)) (mVar 1))))) sNx) (sSeq (sAsg 3 (mIf (mB (mOp2 (intOp iLt) (mOp2 ixD (mVar 0) (M.pure (.val (.int 1)))) (mCallB bLen (mCons (mOp2 ixD (mVar 0) (M.pure (.val (.int 0)))) mNil)))) (mOp2 ixD (mOp2 ixD (mVar 0) (M.pure (.val (.int 0)))) (mOp2 ixD (mVar 0) (M.pure (.val (.int 1))))) (M.pure (.val (.int 0))))) (sSeq (sAsg 4 (mOp2 addD (mOp2 mulD (M.pure (.val (.int 2))) (mCallB bAbs (mCons (mVar 3) mNil))) (mCallB bInt (mCons (mOp2 (intOp iLt) (mVar 3) (M.pure (.val (.int 0)))) mNil)))) (sSeq (sAugI getO (intOp iAdd) setO 0 (M.pure (.val (.int 1))) (M.pure (.val (.int 1)))) (sSeq (sIf (mB (mOp2 (intOp iGe) (mVar 4) (mOp2 mulD (M.pure (.val (.int 2))) (mOp2 (intOp iPow) (M.pure (.val (.int 10))) (M.pure (.val (.int 18))))))) (sSeq (sAsg 2 (mOp2 (intOp iMod) (mCallB bInt (mCons (mOp2 (intOp iDiv) (mVar 4) (M.pure (.val (.int 2)))) mNil)) (mOp2 (intOp iShl) (M.pure (.val (.int 1))) (M.pure (.val (.int 6000)))))) (sSeq (sSetI setO 0 (M.pure (.val (.int 2))) (mOp2 (intOp iDiv) (mVar 2) (mVar 1))) (sRet (mOp2 (intOp iMod) (mCallB bInt (mCons (mVar 2) mNil)) (mVar 1))))) sNx) (sSeq (sSetI setO 0 (M.pure (.val (.int 3))) (mOp2 (intOp iMod) (mCallB bInt (mCons (mOp2 addD (mOp2 addD (mOp2 addD (mOp2 mulD (mOp2 ixD (mVar 0) (M.pure (.val (.int 3)))) (M.pure (.val (.int 48271)))) (mOp2 mulD (mOp2 (intOp iMod) (mCallB bInt (mCons (mVar 4) mNil)) (M.pure (.val (.int 2147483629)))) (M.pure (.val (.int 16807))))) (mOp2 mulD (mOp2 ixD (mVar 0) (M.pure (.val (.int 1)))) (M.pure (.val (.int 69621))))) (M.pure (.val (.int 11)))) mNil)) (M.pure (.val (.int 2147483647))))) (sRet (mOp2 (intOp iMod) (mCallB bInt (mCons (mOp2 (intOp iDiv) (mOp2 ixD (mVar 0) (M.pure (.val (.int 3)))) (M.pure (.val (.int 16)))) mNil)) (mVar 1))))))))))
noncomputable def fm_law_draw : M EV := fmOf 5 f_law_draw
noncomputable def f_law_pick : MSt := (sRet (mOp2 ixD (mVar 1) (mCallF [true, false] fm_law_draw (mCons (mVar 0) (mCons (mCallB bLen (mCons (mVar 1) mNil)) mNil)))))
noncomputable def fm_law_pick : M EV := fmOf 2 f_law_pick
noncomputable def f_law_rare : MSt := (sRet (mOp2 eqD (mCallF [true, false] fm_law_draw (mCons (mVar 0) (mCons (mVar 1) mNil))) (mOp2 (intOp iDiv) (mVar 1) (M.pure (.val (.int 2))))))
noncomputable def fm_law_rare : M EV := fmOf 2 f_law_rare

/-- what _law_begin hands out, and every draw keeps -/
def DS (o : OV) : Prop := ∃ (cells : List Int) (p c s : Int), o = .lst [.lst (cells.map .int), .int p, .int c, .int s, .int 3] ∧ 0 ≤ p ∧ 0 ≤ c
theorem ixN_51 : L2.ixN 5 1 = some 1 := by decide
theorem ixN_52 : L2.ixN 5 2 = some 2 := by decide
theorem ixN_53 : L2.ixN 5 3 = some 3 := by decide
theorem iPow_18 : iPow 10 18 = some (.val (.int 1000000000000000000)) := by
  unfold iPow
  rw [if_pos ⟨by decide, by decide, by decide⟩]
  rfl
theorem iShl_6000 : iShl 1 6000 = some (.val (.int (2 ^ 6000))) := by
  unfold iShl
  rw [if_pos ⟨by decide, by decide, by decide⟩, Int.one_mul]
  rfl
theorem iMul_2 {i : Int} : iMul 2 i = some (.val (.int (2 * i))) := iMul_ok ⟨by decide, by decide⟩
theorem iMul_a {i : Int} : iMul i 48271 = some (.val (.int (i * 48271))) := iMul_ok2 ⟨by decide, by decide⟩
theorem iMul_b {i : Int} : iMul i 16807 = some (.val (.int (i * 16807))) := iMul_ok2 ⟨by decide, by decide⟩
theorem iMul_c {i : Int} : iMul i 69621 = some (.val (.int (i * 69621))) := iMul_ok2 ⟨by decide, by decide⟩
theorem iDiv_2 {i : Int} : iDiv i 2 = some (.val (.int (i / 2))) := iDiv_ok (by decide) (by decide)
theorem iDiv_16 {i : Int} : iDiv i 16 = some (.val (.int (i / 16))) := iDiv_ok (by decide) (by decide)
theorem iMod_a {i : Int} : iMod i 2147483629 = some (.val (.int (i % 2147483629))) := iMod_ok (by decide)
theorem iMod_b {i : Int} : iMod i 2147483647 = some (.val (.int (i % 2147483647))) := iMod_ok (by decide)
theorem iMod_6000 {i : Int} : iMod i (2 ^ 6000) = some (.val (.int (i % 2 ^ 6000))) := iMod_ok (Int.pow_pos (by decide))
theorem run_draw {o : OV} {n : Int} {Q : EV → MS → Prop} {E : EX → MS → Prop} (h : DS o) (hn : n < 1073741824) (q : ∀ r o', DS o' → 0 ≤ r → r < max n 1 → Q (.val (.int r)) [.own true o', .unk]) : Wp fm_law_draw [.own true o, .val (.int n)] Q E := by
  obtain ⟨cells, p, c, s, rfl, hp, hc⟩ := h
  unfold fm_law_draw
  rw [run_fm]
  refine ⟨rfl, ?_⟩
  unfold f_law_draw
  have hm : 0 < max n 1 := by omega
  have hm2 : max n 1 < 1073741824 := by omega
  simp -warnExponents [iDiv_ok hm hm2, iMod_ok hm, ixN_51, ixN_52, ixN_53, iPow_18, iShl_6000, iMul_2, iMul_a, iMul_b, iMul_c, iDiv_2, iDiv_16, iMod_a, iMod_b, iMod_6000]
  refine ⟨fun h => ?_, fun h => ⟨fun h1 => ?_, fun h1 => ?_⟩⟩
  · exact q _ _ ⟨cells, p, _, s, rfl, hp, Int.ediv_nonneg hc (by omega)⟩ (Int.emod_nonneg _ (by omega)) (Int.emod_lt_of_pos _ hm)
  · have hx : ∃ x, cells[p.toNat]? = some x := ⟨_, List.getElem?_eq_getElem (by omega)⟩
    obtain ⟨x, hx⟩ := hx
    refine opK_of (a := .int x) (atI_ge hp (by rw [List.getElem?_map, hx]; rfl)) ?_
    simp -warnExponents [iDiv_ok hm hm2, iMod_ok hm, ixN_51, ixN_52, ixN_53, iPow_18, iShl_6000, iMul_2, iMul_a, iMul_b, iMul_c, iDiv_2, iDiv_16, iMod_a, iMod_b, iMod_6000]
    refine ⟨fun _ => ?_, fun _ => ?_⟩
    · exact q _ _ ⟨cells, _, _, s, rfl, by omega, Int.ediv_nonneg (Int.emod_nonneg _ (Int.ne_of_gt (Int.pow_pos (by decide)))) (by omega)⟩ (Int.emod_nonneg _ (by omega)) (Int.emod_lt_of_pos _ hm)
    · exact q _ _ ⟨cells, _, _, _, rfl, by omega, hc⟩ (Int.emod_nonneg _ (by omega)) (Int.emod_lt_of_pos _ hm)
  · exact q _ _ ⟨cells, _, _, _, rfl, by omega, hc⟩ (Int.emod_nonneg _ (by omega)) (Int.emod_lt_of_pos _ hm)
/-- one of a row -/
theorem run_pick {o : OV} {row : D} {ds : List D} {Q : EV → MS → Prop} {E : EX → MS → Prop} (h : DS o) (hr : row = .lst ds ∨ row = .tup ds) (hne : ds ≠ []) (hl : ds.length < 1073741824) (q : ∀ d o', DS o' → d ∈ ds → Q (.val d) [.own true o', .unk]) : Wp fm_law_pick [.own true o, .val row] Q E := by
  unfold fm_law_pick
  rw [run_fm]
  refine ⟨rfl, ?_⟩
  unfold f_law_pick
  have hp : 0 < ds.length := List.length_pos_iff.mpr hne
  rcases hr with rfl | rfl
  all_goals
    simp
    refine run_draw h (by omega) fun r o' h' r0 r1 => ?_
    have hr : r.toNat < ds.length := by omega
    simp
    refine opK_of (atI_ge r0 (List.getElem?_eq_getElem hr)) ?_
    exact q _ _ h' (List.getElem_mem hr)
theorem run_rare {o : OV} {n : Int} {Q : EV → MS → Prop} {E : EX → MS → Prop} (h : DS o) (hn : n < 1073741824) (q : ∀ b o', DS o' → Q (.val (.bl b)) [.own true o', .unk]) : Wp fm_law_rare [.own true o, .val (.int n)] Q E := by
  unfold fm_law_rare
  rw [run_fm]
  refine ⟨rfl, ?_⟩
  unfold f_law_rare
  simp
  refine run_draw h (by omega) fun r o' h' r0 r1 => ?_
  simp [iDiv_2]
  exact q _ _ h'
/-- the first draw's state -/
theorem run_begin {cells : List Int} {d : D} {Q : EV → MS → Prop} {E : EX → MS → Prop} (hd : d = .lst (cells.map .int) ∨ d = .kls (cells.map .int)) (q : ∀ o', DS o' → Q (.new o') [.unk]) : Wp fm_law_begin [.val d] Q E := by
  unfold fm_law_begin
  rw [run_fm]
  refine ⟨by rcases hd with rfl | rfl <;> rfl, ?_⟩
  unfold f_law_begin f_law_begin_C1
  have go : ∀ (d0 : D) (QL : List D → MS → Prop), QL (cells.map .int) [.val d0, .unk] → Wp (compL [1] (gNm 1) (M.pure true) (mCallB bInt (mCons (mVar 1) mNil)) (cells.map .int) []) [.val d0, .unk] QL (fun _ _ => False) := by
    intro d0 Q q
    refine run_compM id _ _ (fun d hd => ?_) ?_
    · obtain ⟨i, _, rfl⟩ := List.mem_map.mp hd
      simp
    · simpa using q
  rcases hd with rfl | rfl
  all_goals
    simp
    refine go _ _ ?_
    simp
    exact q _ ⟨cells, 0, 0, 7, rfl, by omega, by omega⟩
end Fw
set_option linter.all false
set_option maxRecDepth 100000
namespace Fw
open PySem L2
theorem reps_ints {K : PySem.W.Frag} {H : Hp} : ∀ {ns : List Int}, Reps K H (ns.map D.int) (ns.map V.int)
  | [] => by rw [List.map_nil, List.map_nil, Reps]
  | n :: ns => by
    rw [List.map_cons, List.map_cons, Reps]
    exact ⟨_, _, rfl, by rw [Rep], reps_ints⟩
/-- the law's promise at the script -/
theorem sp_law {fm : M EV} (h : ∀ (cells : List Int) (d : D), (d = .lst (cells.map .int) ∨ d = .kls (cells.map .int)) → ∀ (Q : EV → MS → Prop) (E : EX → MS → Prop), Q (.val (.bl true)) [.unk] → Wp fm [.val d] Q E)
    {K : PySem.W.Frag} {H : Hp} {a : Addr} {ns : List Int} (hO : Only H) (hS : SqL K H a (ns.map V.int)) : spM K 1 fm [.ref a] H (fun v _ => v = .bl true) (fun _ _ _ => False) := by
  obtain ⟨d, hd, hr⟩ : ∃ d, (d = .lst (ns.map .int) ∨ d = .kls (ns.map .int)) ∧ Rep K H d (.ref a) := by
    rcases hS with hS | hS
    · rcases hS with hS | ⟨o, hS⟩
      · rcases hO a with z | ⟨o, xs, z⟩
        · rw [z] at hS; cases hS
        · rw [z] at hS; cases hS
      · exact ⟨_, .inl rfl, by rw [Rep]; exact ⟨a, _, rfl, ⟨o, hS⟩, reps_ints⟩⟩
    · exact ⟨_, .inr rfl, by rw [Rep]; exact ⟨a, _, rfl, hS, reps_ints⟩⟩
  refine ⟨rfl, [.val d], ⟨rfl, fun i d' hi => ?_, fun i l o hi => ?_, fun i j l l' o o' b hi => ?_⟩, ?_⟩
  · cases i with
    | zero => cases hi; exact ⟨_, rfl, hr⟩
    | succ i => cases hi
  · cases i with
    | zero => cases hi
    | succ i => cases hi
  · cases i with
    | zero => cases hi
    | succ i => cases hi
  · refine h ns d hd _ _ ?_
    intro v H' p o
    have o : Rep K H' (.bl true) v := o
    rw [Rep] at o
    exact o
theorem cx_none {P : Program} {w : World} {H : Hp} {s : Shared} {e : Value} {s' : Shared} (h : L2.CX P w [] H s (fun _ _ _ => False) e s') : False := by
  obtain ⟨_, _, _, _, _, _, _, _, _, _, _, _, z⟩ := h
  exact z
end Fw
set_option Elab.async false
set_option linter.all false
set_option maxRecDepth 100000
set_option maxHeartbeats 4000000
namespace Fw
open PySem L2
def topS (i : Nat) : Stmt := PySem.Challenge.pw_foldwarrant_k15_tables.main.body.getD i (.Pass ⟨0, 0, 0, 0⟩)
/-! ### is_table -/
noncomputable def f_is_table_L1 : MSt := (sIf (mOrT (mTru (mCallB bIsI (mCons (mVar 4) (mCons (M.pure (.val (.ty "bool"))) mNil)))) (mOrT (mNotT (mTru (mCallB bIsI (mCons (mVar 4) (mCons (M.pure (.val (.ty "int"))) mNil))))) (mOrT (mB (mOp2 (intOp iLt) (mVar 4) (M.pure (.val (.int 0))))) (mB (mOp2 (intOp iGt) (mVar 4) (M.pure (.val (.int 2)))))))) (sRet (M.pure (.val (.bl false)))) sNx)
noncomputable def f_is_table_L2 : MSt := (sSeq (sIf (mOrT (mNotT (mTru (mCallB bIsI (mCons (mVar 3) (mCons (M.pure (.val (.ty "tuple"))) mNil))))) (mB (mOp2 neD (mCallB bLen (mCons (mVar 3) mNil)) (mVar 2)))) (sRet (M.pure (.val (.bl false)))) sNx) (sFor (mSeq (mVar 3)) (gNm 4) f_is_table_L1))
noncomputable def f_is_table : MSt := (sSeq (sIf (mOrT (mNotT (mTru (mCallB bIsI (mCons (mVar 0) (mCons (M.pure (.val (.ty "tuple"))) mNil))))) (mB (mOp2 neD (mCallB bLen (mCons (mVar 0) mNil)) (mVar 1)))) (sRet (M.pure (.val (.bl false)))) sNx) (sSeq (sFor (mSeq (mVar 0)) (gNm 3) f_is_table_L2) (sRet (M.pure (.val (.bl true))))))
noncomputable def fm_is_table : M EV := fmOf 5 f_is_table
theorem sc_is_table : FnScope ["thing", "rows", "columns", "row", "entry"] ["thing", "rows", "columns"] (defScope (topS 1)) := ⟨rfl, rfl, rfl, by decide +kernel, rfl, by decide +kernel, by decide +kernel⟩
theorem good_is_table {P : Program} {w : World} {K : PySem.W.Frag} {mg : Str → Option Value} {base : Heap} {f : Addr} {fd : FuncData} (F : Fun K "is_table" "is_table" (topS 1) f fd) (bd : Binds K fd ["thing", "rows", "columns"] []) (hm : mg "is_table" = some (.ref f)) (z_bool : mg "bool" = none) (z_int : mg "int" = none) (z_isinstance : mg "isinstance" = none) (z_len : mg "len" = none) (z_tuple : mg "tuple" = none) : FnGood P w K mg base "is_table" 3 1 fm_is_table :=
  have sc := sc_is_table
  good_mk F bd hm sc fun X W cdv A outer s H E hX hr tk po => by
    subst hX
    exact (mss_cons (ms_if (xW (mw_or (mt_not (xTr (xCB c_isi z_isinstance (xA (xV 0) (xA (xTy z_tuple) ma_nil))))) (mw_one (xCmT (o_ne hr.units) (xCB c_len z_len (xA (xV 0) ma_nil)) (xV 1))))) (mss_one (ms_ret xB)) mss_nil)
    (mss_cons (zFo po (mi_seq (xV 0)) (xG sc.nd) (mss_cons (ms_if (xW (mw_or (mt_not (xTr (xCB c_isi z_isinstance (xA (xV 3) (xA (xTy z_tuple) ma_nil))))) (mw_one (xCmT (o_ne hr.units) (xCB c_len z_len (xA (xV 3) ma_nil)) (xV 2))))) (mss_one (ms_ret xB)) mss_nil)
    (mss_one (zFo po (mi_seq (xV 3)) (xG sc.nd) (mss_one (ms_if (xW (mw_or (xTr (xCB c_isi z_isinstance (xA (xV 4) (xA (xTy z_bool) ma_nil)))) (mw_or (mt_not (xTr (xCB c_isi z_isinstance (xA (xV 4) (xA (xTy z_int) ma_nil))))) (mw_or (xCmT o_ilt (xV 4) xI) (mw_one (xCmT o_igt (xV 4) xI)))))) (mss_one (ms_ret xB)) mss_nil))))))
    (mss_one (ms_ret xB))))
/-! ### same_table -/
noncomputable def f_same_table_C1 : M EV := (mComp (mRg1 (mVar 0)) [2] (gNm 2) (M.pure true) (mCallB bInt (mCons (mOp2 eqD (mVar 1) (mVar 2)) mNil)))
noncomputable def f_same_table_C2 : M EV := (mComp (mRg1 (mVar 0)) [1] (gNm 1) (M.pure true) (mCallB bTuple (mCons f_same_table_C1 mNil)))
noncomputable def f_same_table : MSt := (sRet (mCallB bTuple (mCons f_same_table_C2 mNil)))
noncomputable def fm_same_table : M EV := fmOf 3 f_same_table
theorem sc_same_table : FnScope ["places", "row", "column"] ["places"] (defScope (topS 2)) := ⟨rfl, rfl, rfl, by decide +kernel, rfl, by decide +kernel, by decide +kernel⟩
theorem good_same_table {P : Program} {w : World} {K : PySem.W.Frag} {mg : Str → Option Value} {base : Heap} {f : Addr} {fd : FuncData} (F : Fun K "same_table" "same_table" (topS 2) f fd) (bd : Binds K fd ["places"] []) (hm : mg "same_table" = some (.ref f)) (z_int : mg "int" = none) (z_range : mg "range" = none) (z_tuple : mg "tuple" = none) : FnGood P w K mg base "same_table" 1 1 fm_same_table :=
  have sc := sc_same_table
  good_mk F bd hm sc fun X W cdv A outer s H E hX hr tk po => by
    subst hX
    exact (mss_one (ms_ret (xCT c_tuple z_tuple (xA (xL [("row", 1)] sc.nd (xR1 z_range (xV 0)) (blkOk_by (by rfl)) (fun _ _ _ _ _ => (xG sc.nd)) (fun _ _ _ _ _ => pts0) (fun _ _ _ _ _ => (xCT c_tuple z_tuple (xA (xL [("column", 2)] sc.nd (xR1 z_range (xV 0)) (blkOk_by (by rfl)) (fun _ _ _ _ _ => (xG sc.nd)) (fun _ _ _ _ _ => pts0) (fun _ _ _ _ _ => (xCT c_int z_int (xA (xCm (o_eq hr.units) (xV 1) (xV 2)) ma_nil)))) ma_nil)))) ma_nil))))
/-! ### compose -/
noncomputable def f_compose_L1 : MSt := (sIf (mB (mOp2 (intOp iGt) (mOp2 ixD (mVar 8) (mVar 9)) (M.pure (.val (.int 0))))) (sSetI setO 5 (mVar 9) (mCallB bMax (mCons (mOp2 ixD (mVar 5) (mVar 9)) (mCons (mVar 7) (mCons (mOp2 ixD (mVar 8) (mVar 9)) mNil))))) sNx)
noncomputable def f_compose_L2 : MSt := (sSeq (sAsg 7 (mOp2 ixD (mVar 4) (mVar 6))) (sIf (mB (mOp2 (intOp iGt) (mVar 7) (M.pure (.val (.int 0))))) (sSeq (sAsg 8 (mOp2 ixD (mVar 1) (mVar 6))) (sFor (mRg1 (mVar 2)) (gNm 9) f_compose_L1)) sNx))
noncomputable def f_compose_L3 : MSt := (sSeq (sAsg 5 (mOp2 mulD (mLst (mCons (M.pure (.val (.int 0))) mNil)) (mVar 2))) (sSeq (sFor (mRg1 (mCallB bLen (mCons (mVar 4) mNil))) (gNm 6) f_compose_L2) (sExpr (mMeth "list" (fun _ => vals) gAppend 3 (mCons (mCallB bTuple (mCons (mVar 5) mNil)) mNil)))))
noncomputable def f_compose : MSt := (sSeq (sAsg 3 (mLst mNil)) (sSeq (sFor (mSeq (mVar 0)) (gNm 4) f_compose_L3) (sRet (mCallB bTuple (mCons (mVar 3) mNil)))))
noncomputable def fm_compose : M EV := fmOf 10 f_compose
theorem sc_compose : FnScope ["first", "second", "columns", "made", "row", "line", "middle", "one", "behind", "column"] ["first", "second", "columns"] (defScope (topS 3)) := ⟨rfl, rfl, rfl, by decide +kernel, rfl, by decide +kernel, by decide +kernel⟩
theorem good_compose {P : Program} {w : World} {K : PySem.W.Frag} {mg : Str → Option Value} {base : Heap} {f : Addr} {fd : FuncData} (F : Fun K "compose" "compose" (topS 3) f fd) (bd : Binds K fd ["first", "second", "columns"] []) (hm : mg "compose" = some (.ref f)) (z_len : mg "len" = none) (z_max : mg "max" = none) (z_range : mg "range" = none) (z_tuple : mg "tuple" = none) : FnGood P w K mg base "compose" 3 1 fm_compose :=
  have sc := sc_compose
  good_mk F bd hm sc fun X W cdv A outer s H E hX hr tk po => by
    subst hX
    exact (mss_cons (zAs 3 sc.nd (me_lst ma_nil))
    (mss_cons (zFo po (mi_seq (xV 0)) (xG sc.nd) (mss_cons (zAs 5 sc.nd (me_op2 o_mul (me_lst (xA xI ma_nil)) (xV 2)))
    (mss_cons (zFo po (xR1 z_range (xCB c_len z_len (xA (xV 4) ma_nil))) (xG sc.nd) (mss_cons (zAs 7 sc.nd (xIx (hu_of hr) (xV 4) (xV 6)))
    (mss_one (ms_if (xCmT o_igt (xV 7) xI) (mss_cons (zAs 8 sc.nd (xIx (hu_of hr) (xV 1) (xV 6)))
    (mss_one (zFo po (xR1 z_range (xV 2)) (xG sc.nd) (mss_one (ms_if (xCmT o_igt (xIx (hu_of hr) (xV 8) (xV 9)) xI) (mss_one (zSe 5 (hu_of hr) (xCB (c_max rfl) z_max (xA (xIx (hu_of hr) (xV 5) (xV 9)) (xA (xV 7) (xA (xIx (hu_of hr) (xV 8) (xV 9)) ma_nil)))) (xV 9))) mss_nil))))) mss_nil))))
    (mss_one (zEx (xMV 3 m_append PySem.F.plainAttrs_list PySem.F.slot_list_append PySem.F.type_list_append (xA (xCT c_tuple z_tuple (xA (xV 5) ma_nil)) ma_nil)))))))
    (mss_one (ms_ret (xCT c_tuple z_tuple (xA (xV 3) ma_nil))))))
/-! ### is_own_square -/
noncomputable def f_is_own_square : MSt := (sRet (mOp2 eqD (mCallF [false, false, false] fm_compose (mCons (mVar 0) (mCons (mVar 0) (mCons (mCallB bLen (mCons (mVar 0) mNil)) mNil)))) (mVar 0)))
noncomputable def fm_is_own_square : M EV := fmOf 1 f_is_own_square
theorem sc_is_own_square : FnScope ["table"] ["table"] (defScope (topS 4)) := ⟨rfl, rfl, rfl, by decide +kernel, rfl, by decide +kernel, by decide +kernel⟩
theorem good_is_own_square {P : Program} {w : World} {K : PySem.W.Frag} {mg : Str → Option Value} {base : Heap} {f : Addr} {fd : FuncData} (F : Fun K "is_own_square" "is_own_square" (topS 4) f fd) (bd : Binds K fd ["table"] []) (hm : mg "is_own_square" = some (.ref f)) (G_compose : FnGood P w K mg base "compose" 3 1 fm_compose) (z_len : mg "len" = none) : FnGood P w K mg base "is_own_square" 1 2 fm_is_own_square :=
  have sc := sc_is_own_square
  good_mk F bd hm sc fun X W cdv A outer s H E hX hr tk po => by
    subst hX
    exact (mss_one (ms_ret (xCm (o_eq hr.units) (xC [false, false, false] G_compose hr tk (xA (xV 0) (xA (xV 0) (xA (xCB c_len z_len (xA (xV 0) ma_nil)) ma_nil)))) (xV 0))))
/-! ### has_own_fall -/
noncomputable def f_has_own_fall_E1 : M EV := (mOp2 eqD (mOp2 ixD (mOp2 ixD (mVar 0) (mVar 1)) (mVar 1)) (M.pure (.val (.int 2))))
noncomputable def f_has_own_fall_C2 : M EV := (mComp (mRg1 (mCallB bLen (mCons (mVar 0) mNil))) [1] (gNm 1) (M.pure true) f_has_own_fall_E1)
noncomputable def f_has_own_fall : MSt := (sRet (mCallB bAny (mCons f_has_own_fall_C2 mNil)))
noncomputable def fm_has_own_fall : M EV := fmOf 2 f_has_own_fall
theorem sc_has_own_fall : FnScope ["table", "place"] ["table"] (defScope (topS 5)) := ⟨rfl, rfl, rfl, by decide +kernel, rfl, by decide +kernel, by decide +kernel⟩
theorem good_has_own_fall {P : Program} {w : World} {K : PySem.W.Frag} {mg : Str → Option Value} {base : Heap} {f : Addr} {fd : FuncData} (F : Fun K "has_own_fall" "has_own_fall" (topS 5) f fd) (bd : Binds K fd ["table"] []) (hm : mg "has_own_fall" = some (.ref f)) (z_any : mg "any" = none) (z_len : mg "len" = none) (z_range : mg "range" = none) : FnGood P w K mg base "has_own_fall" 1 1 fm_has_own_fall :=
  have sc := sc_has_own_fall
  good_mk F bd hm sc fun X W cdv A outer s H E hX hr tk po => by
    subst hX
    exact (mss_one (ms_ret (xCB (c_any rfl) z_any (xA (xL [("place", 1)] sc.nd (xR1 z_range (xCB c_len z_len (xA (xV 0) ma_nil))) (blkOk_by (by rfl)) (fun _ _ _ _ _ => (xG sc.nd)) (fun _ _ _ _ _ => pts0) (fun _ _ _ _ _ => (xCm (o_eq hr.units) (xIx (hu_of hr) (xIx (hu_of hr) (xV 0) (xV 1)) (xV 1)) xI))) ma_nil))))
/-! ### _law_begin -/
theorem sc_law_begin : FnScope ["script", "cell"] ["script"] (defScope (topS 7)) := ⟨rfl, rfl, rfl, by decide +kernel, rfl, by decide +kernel, by decide +kernel⟩
theorem good_law_begin {P : Program} {w : World} {K : PySem.W.Frag} {mg : Str → Option Value} {base : Heap} {f : Addr} {fd : FuncData} (F : Fun K "_law_begin" "_law_begin" (topS 7) f fd) (bd : Binds K fd ["script"] []) (hm : mg "_law_begin" = some (.ref f)) (z_int : mg "int" = none) : FnGood P w K mg base "_law_begin" 1 1 fm_law_begin :=
  have sc := sc_law_begin
  good_mk F bd hm sc fun X W cdv A outer s H E hX hr tk po => by
    subst hX
    exact (mss_one (ms_ret (me_lst (xA (me_fz (xL [("cell", 1)] sc.nd (mi_seq (xV 0)) (blkOk_by (by rfl)) (fun _ _ _ _ _ => (xG sc.nd)) (fun _ _ _ _ _ => pts0) (fun _ _ _ _ _ => (xCT c_int z_int (xA (xV 1) ma_nil))))) (xA xI (xA xI (xA xI (xA xI ma_nil))))))))
/-! ### _law_draw -/
theorem sc_law_draw : FnScope ["d", "many", "found", "cell", "size"] ["d", "many"] (defScope (topS 8)) := ⟨rfl, rfl, rfl, by decide +kernel, rfl, by decide +kernel, by decide +kernel⟩
theorem good_law_draw {P : Program} {w : World} {K : PySem.W.Frag} {mg : Str → Option Value} {base : Heap} {f : Addr} {fd : FuncData} (F : Fun K "_law_draw" "_law_draw" (topS 8) f fd) (bd : Binds K fd ["d", "many"] []) (hm : mg "_law_draw" = some (.ref f)) (z_abs : mg "abs" = none) (z_int : mg "int" = none) (z_len : mg "len" = none) (z_max : mg "max" = none) : FnGood P w K mg base "_law_draw" 2 1 fm_law_draw :=
  have sc := sc_law_draw
  good_mk F bd hm sc fun X W cdv A outer s H E hX hr tk po => by
    subst hX
    exact (mss_cons (zAs 1 sc.nd (xCB (c_max rfl) z_max (xA (xV 1) (xA xI ma_nil))))
    (mss_cons (ms_if (xCmT o_igt (xIx (hu_of hr) (xV 0) xI) xI) (mss_cons (zAs 2 sc.nd (xIx (hu_of hr) (xV 0) xI))
    (mss_cons (zSe 0 (hu_of hr) (me_op2 o_idiv (xV 2) (xV 1)) xI)
    (mss_one (ms_ret (me_op2 o_imod (xCT c_int z_int (xA (xV 2) ma_nil)) (xV 1)))))) mss_nil)
    (mss_cons (zAs 3 sc.nd (me_ifExp (xCmT o_ilt (xIx (hu_of hr) (xV 0) xI) (xCB c_len z_len (xA (xIx (hu_of hr) (xV 0) xI) ma_nil))) (xIx (hu_of hr) (xIx (hu_of hr) (xV 0) xI) (xIx (hu_of hr) (xV 0) xI)) xI))
    (mss_cons (zAs 4 sc.nd (me_op2 o_add (me_op2 o_mul xI (xCB c_abs z_abs (xA (xV 3) ma_nil))) (xCT c_int z_int (xA (xCm o_ilt (xV 3) xI) ma_nil))))
    (mss_cons (zAi 0 (hu_of hr) o_ladd xI xI)
    (mss_cons (ms_if (xCmT o_ige (xV 4) (me_op2 o_mul xI (me_op2 o_ipow xI xI))) (mss_cons (zAs 2 sc.nd (me_op2 o_imod (xCT c_int z_int (xA (me_op2 o_idiv (xV 4) xI) ma_nil)) (me_op2 o_ishl xI xI)))
    (mss_cons (zSe 0 (hu_of hr) (me_op2 o_idiv (xV 2) (xV 1)) xI)
    (mss_one (ms_ret (me_op2 o_imod (xCT c_int z_int (xA (xV 2) ma_nil)) (xV 1)))))) mss_nil)
    (mss_cons (zSe 0 (hu_of hr) (me_op2 o_imod (xCT c_int z_int (xA (me_op2 o_add (me_op2 o_add (me_op2 o_add (me_op2 o_mul (xIx (hu_of hr) (xV 0) xI) xI) (me_op2 o_mul (me_op2 o_imod (xCT c_int z_int (xA (xV 4) ma_nil)) xI) xI)) (me_op2 o_mul (xIx (hu_of hr) (xV 0) xI) xI)) xI) ma_nil)) xI) xI)
    (mss_one (ms_ret (me_op2 o_imod (xCT c_int z_int (xA (me_op2 o_idiv (xIx (hu_of hr) (xV 0) xI) xI) ma_nil)) (xV 1)))))))))))
/-! ### _law_pick -/
theorem sc_law_pick : FnScope ["d", "row"] ["d", "row"] (defScope (topS 9)) := ⟨rfl, rfl, rfl, by decide +kernel, rfl, by decide +kernel, by decide +kernel⟩
theorem good_law_pick {P : Program} {w : World} {K : PySem.W.Frag} {mg : Str → Option Value} {base : Heap} {f : Addr} {fd : FuncData} (F : Fun K "_law_pick" "_law_pick" (topS 9) f fd) (bd : Binds K fd ["d", "row"] []) (hm : mg "_law_pick" = some (.ref f)) (G_law_draw : FnGood P w K mg base "_law_draw" 2 1 fm_law_draw) (z_len : mg "len" = none) : FnGood P w K mg base "_law_pick" 2 2 fm_law_pick :=
  have sc := sc_law_pick
  good_mk F bd hm sc fun X W cdv A outer s H E hX hr tk po => by
    subst hX
    exact (mss_one (ms_ret (xIx (hu_of hr) (xV 1) (xC [true, false] G_law_draw hr tk (xA (xV 0) (xA (xCB c_len z_len (xA (xV 1) ma_nil)) ma_nil))))))
/-! ### _law_rare -/
theorem sc_law_rare : FnScope ["d", "many"] ["d", "many"] (defScope (topS 10)) := ⟨rfl, rfl, rfl, by decide +kernel, rfl, by decide +kernel, by decide +kernel⟩
theorem good_law_rare {P : Program} {w : World} {K : PySem.W.Frag} {mg : Str → Option Value} {base : Heap} {f : Addr} {fd : FuncData} (F : Fun K "_law_rare" "_law_rare" (topS 10) f fd) (bd : Binds K fd ["d", "many"] []) (hm : mg "_law_rare" = some (.ref f)) (G_law_draw : FnGood P w K mg base "_law_draw" 2 1 fm_law_draw) : FnGood P w K mg base "_law_rare" 2 2 fm_law_rare :=
  have sc := sc_law_rare
  good_mk F bd hm sc fun X W cdv A outer s H E hX hr tk po => by
    subst hX
    exact (mss_one (ms_ret (xCm (o_eq hr.units) (xC [true, false] G_law_draw hr tk (xA (xV 0) (xA (xV 1) ma_nil))) (me_op2 o_idiv (xV 1) xI))))
/-! ### _law_is_int -/
noncomputable def f_law_is_int : MSt := (sRet (mAnd (mCallB bIsI (mCons (mVar 0) (mCons (M.pure (.val (.ty "int"))) mNil))) (mNot (mCallB bIsI (mCons (mVar 0) (mCons (M.pure (.val (.ty "bool"))) mNil))))))
noncomputable def fm_law_is_int : M EV := fmOf 1 f_law_is_int
theorem sc_law_is_int : FnScope ["thing"] ["thing"] (defScope (topS 11)) := ⟨rfl, rfl, rfl, by decide +kernel, rfl, by decide +kernel, by decide +kernel⟩
theorem good_law_is_int {P : Program} {w : World} {K : PySem.W.Frag} {mg : Str → Option Value} {base : Heap} {f : Addr} {fd : FuncData} (F : Fun K "_law_is_int" "_law_is_int" (topS 11) f fd) (bd : Binds K fd ["thing"] []) (hm : mg "_law_is_int" = some (.ref f)) (z_bool : mg "bool" = none) (z_int : mg "int" = none) (z_isinstance : mg "isinstance" = none) : FnGood P w K mg base "_law_is_int" 1 1 fm_law_is_int :=
  have sc := sc_law_is_int
  good_mk F bd hm sc fun X W cdv A outer s H E hX hr tk po => by
    subst hX
    exact (mss_one (ms_ret (me_and (xCB c_isi z_isinstance (xA (xV 0) (xA (xTy z_int) ma_nil))) (me_one (me_not (xCB c_isi z_isinstance (xA (xV 0) (xA (xTy z_bool) ma_nil))))))))
/-! ### _law_drawn_table -/
noncomputable def f_law_drawn_table_E1 : M EV := (mFz (mCallF [true, false] fm_law_pick (mCons (mVar 0) (mCons (mVar 3) mNil))))
noncomputable def f_law_drawn_table_C2 : M EV := (mComp (mRg1 (mVar 2)) [5] (gNm 5) (M.pure true) f_law_drawn_table_E1)
noncomputable def f_law_drawn_table_C3 : M EV := (mComp (mRg1 (mVar 1)) [4] (gNm 4) (M.pure true) (mCallB bTuple (mCons f_law_drawn_table_C2 mNil)))
noncomputable def f_law_drawn_table : MSt := (sRet (mCallB bTuple (mCons f_law_drawn_table_C3 mNil)))
noncomputable def fm_law_drawn_table : M EV := fmOf 6 f_law_drawn_table
theorem sc_law_drawn_table : FnScope ["d", "rows", "columns", "menu", "row", "column"] ["d", "rows", "columns", "menu"] (defScope (topS 12)) := ⟨rfl, rfl, rfl, by decide +kernel, rfl, by decide +kernel, by decide +kernel⟩
theorem good_law_drawn_table {P : Program} {w : World} {K : PySem.W.Frag} {mg : Str → Option Value} {base : Heap} {f : Addr} {fd : FuncData} (F : Fun K "_law_drawn_table" "_law_drawn_table" (topS 12) f fd) (bd : Binds K fd ["d", "rows", "columns", "menu"] []) (hm : mg "_law_drawn_table" = some (.ref f)) (G_law_pick : FnGood P w K mg base "_law_pick" 2 2 fm_law_pick) (z_range : mg "range" = none) (z_tuple : mg "tuple" = none) : FnGood P w K mg base "_law_drawn_table" 4 3 fm_law_drawn_table :=
  have sc := sc_law_drawn_table
  good_mk F bd hm sc fun X W cdv A outer s H E hX hr tk po => by
    subst hX
    exact (mss_one (ms_ret (xCT c_tuple z_tuple (xA (xL [("row", 4)] sc.nd (xR1 z_range (xV 1)) (blkOk_by (by rfl)) (fun _ _ _ _ _ => (xG sc.nd)) (fun _ _ _ _ _ => pts0) (fun _ _ _ _ _ => (xCT c_tuple z_tuple (xA (xL [("column", 5)] sc.nd (xR1 z_range (xV 2)) (blkOk_by (by rfl)) (fun _ _ _ _ _ => (xG sc.nd)) (fun _ _ _ _ _ => pts0) (fun _ _ _ _ _ => (me_fz (xC [true, false] G_law_pick hr (takes0 _) (xA (xV 0) (xA (xV 3) ma_nil)))))) ma_nil)))) ma_nil))))
/-! ### _law_through -/
noncomputable def f_law_through_E1 : M EV := (mCallB bMax (mCons (mOp2 ixD (mOp2 ixD (mVar 0) (mVar 5)) (mVar 9)) (mCons (mOp2 ixD (mOp2 ixD (mVar 1) (mVar 9)) (mVar 7)) mNil)))
noncomputable def f_law_through_C2 : M EV := (mComp (mRg1 (mCallB bLen (mCons (mVar 1) mNil))) [9] (gNm 9) (mAndT (mB (mOp2 (intOp iGt) (mOp2 ixD (mOp2 ixD (mVar 0) (mVar 5)) (mVar 9)) (M.pure (.val (.int 0))))) (mB (mOp2 (intOp iGt) (mOp2 ixD (mOp2 ixD (mVar 1) (mVar 9)) (mVar 7)) (M.pure (.val (.int 0)))))) f_law_through_E1)
noncomputable def f_law_through_L3 : MSt := (sSeq (sAsgN 8 f_law_through_C2) (sExpr (mMeth "list" (fun _ => vals) gAppend 6 (mCons (mCallB bMax (mCons (mOp2 addD (mLst (mCons (M.pure (.val (.int 0))) mNil)) (mVar 8)) mNil)) mNil))))
noncomputable def f_law_through_L4 : MSt := (sSeq (sAsg 6 (mLst mNil)) (sSeq (sFor (mRg1 (mVar 3)) (gNm 7) f_law_through_L3) (sExpr (mMeth "list" (fun _ => vals) gAppend 4 (mCons (mCallB bTuple (mCons (mVar 6) mNil)) mNil)))))
noncomputable def f_law_through : MSt := (sSeq (sAsg 4 (mLst mNil)) (sSeq (sFor (mRg1 (mVar 2)) (gNm 5) f_law_through_L4) (sRet (mCallB bTuple (mCons (mVar 4) mNil)))))
noncomputable def fm_law_through : M EV := fmOf 10 f_law_through
theorem sc_law_through : FnScope ["first", "second", "rows", "columns", "made", "row", "line", "column", "found", "k"] ["first", "second", "rows", "columns"] (defScope (topS 13)) := ⟨rfl, rfl, rfl, by decide +kernel, rfl, by decide +kernel, by decide +kernel⟩
theorem good_law_through {P : Program} {w : World} {K : PySem.W.Frag} {mg : Str → Option Value} {base : Heap} {f : Addr} {fd : FuncData} (F : Fun K "_law_through" "_law_through" (topS 13) f fd) (bd : Binds K fd ["first", "second", "rows", "columns"] []) (hm : mg "_law_through" = some (.ref f)) (z_len : mg "len" = none) (z_max : mg "max" = none) (z_range : mg "range" = none) (z_tuple : mg "tuple" = none) : FnGood P w K mg base "_law_through" 4 1 fm_law_through :=
  have sc := sc_law_through
  good_mk F bd hm sc fun X W cdv A outer s H E hX hr tk po => by
    subst hX
    exact (mss_cons (zAs 4 sc.nd (me_lst ma_nil))
    (mss_cons (zFo po (xR1 z_range (xV 2)) (xG sc.nd) (mss_cons (zAs 6 sc.nd (me_lst ma_nil))
    (mss_cons (zFo po (xR1 z_range (xV 3)) (xG sc.nd) (mss_cons (zAc 8 [("k", 9)] sc.nd (xR1 z_range (xCB c_len z_len (xA (xV 1) ma_nil))) (blkOk_by (by rfl)) (fun _ _ _ _ _ => (xG sc.nd)) (fun _ _ _ _ _ => (pts1 (xW (mw_and (xCmT o_igt (xIx (hu_of hr) (xIx (hu_of hr) (xV 0) (xV 5)) (xV 9)) xI) (mw_one (xCmT o_igt (xIx (hu_of hr) (xIx (hu_of hr) (xV 1) (xV 9)) (xV 7)) xI)))))) (fun _ _ _ _ _ => (xCB (c_max rfl) z_max (xA (xIx (hu_of hr) (xIx (hu_of hr) (xV 0) (xV 5)) (xV 9)) (xA (xIx (hu_of hr) (xIx (hu_of hr) (xV 1) (xV 9)) (xV 7)) ma_nil)))))
    (mss_one (zEx (xMV 6 m_append PySem.F.plainAttrs_list PySem.F.slot_list_append PySem.F.type_list_append (xA (xCB (c_max rfl) z_max (xA (me_op2 o_add (me_lst (xA xI ma_nil)) (xV 8)) ma_nil)) ma_nil))))))
    (mss_one (zEx (xMV 4 m_append PySem.F.plainAttrs_list PySem.F.slot_list_append PySem.F.type_list_append (xA (xCT c_tuple z_tuple (xA (xV 6) ma_nil)) ma_nil)))))))
    (mss_one (ms_ret (xCT c_tuple z_tuple (xA (xV 4) ma_nil))))))
/-! ### _law_right_table -/
noncomputable def f_law_right_table_E1 : M EV := (mFz (mAnd (mCallF [false] fm_law_is_int (mCons (mVar 4) mNil)) (mChain (intOp iLe) (intOp iLe) (M.pure (.val (.int 0))) (mVar 4) (M.pure (.val (.int 2))))))
noncomputable def f_law_right_table_C2 : M EV := (mComp (mSeq (mVar 3)) [4] (gNm 4) (M.pure true) f_law_right_table_E1)
noncomputable def f_law_right_table_L3 : MSt := (sSeq (sIf (mOrT (mNotT (mTru (mCallB bIsI (mCons (mVar 3) (mCons (M.pure (.val (.ty "tuple"))) mNil))))) (mB (mOp2 neD (mCallB bLen (mCons (mVar 3) mNil)) (mVar 2)))) (sRet (M.pure (.val (.bl false)))) sNx) (sIf (mNotT (mTru (mCallB bAll (mCons f_law_right_table_C2 mNil)))) (sRet (M.pure (.val (.bl false)))) sNx))
noncomputable def f_law_right_table : MSt := (sSeq (sIf (mOrT (mNotT (mTru (mCallB bIsI (mCons (mVar 0) (mCons (M.pure (.val (.ty "tuple"))) mNil))))) (mB (mOp2 neD (mCallB bLen (mCons (mVar 0) mNil)) (mVar 1)))) (sRet (M.pure (.val (.bl false)))) sNx) (sSeq (sFor (mSeq (mVar 0)) (gNm 3) f_law_right_table_L3) (sRet (M.pure (.val (.bl true))))))
noncomputable def fm_law_right_table : M EV := fmOf 5 f_law_right_table
theorem sc_law_right_table : FnScope ["thing", "rows", "columns", "row", "entry"] ["thing", "rows", "columns"] (defScope (topS 14)) := ⟨rfl, rfl, rfl, by decide +kernel, rfl, by decide +kernel, by decide +kernel⟩
theorem good_law_right_table {P : Program} {w : World} {K : PySem.W.Frag} {mg : Str → Option Value} {base : Heap} {f : Addr} {fd : FuncData} (F : Fun K "_law_right_table" "_law_right_table" (topS 14) f fd) (bd : Binds K fd ["thing", "rows", "columns"] []) (hm : mg "_law_right_table" = some (.ref f)) (G_law_is_int : FnGood P w K mg base "_law_is_int" 1 1 fm_law_is_int) (z_all : mg "all" = none) (z_isinstance : mg "isinstance" = none) (z_len : mg "len" = none) (z_tuple : mg "tuple" = none) : FnGood P w K mg base "_law_right_table" 3 2 fm_law_right_table :=
  have sc := sc_law_right_table
  good_mk F bd hm sc fun X W cdv A outer s H E hX hr tk po => by
    subst hX
    exact (mss_cons (ms_if (xW (mw_or (mt_not (xTr (xCB c_isi z_isinstance (xA (xV 0) (xA (xTy z_tuple) ma_nil))))) (mw_one (xCmT (o_ne hr.units) (xCB c_len z_len (xA (xV 0) ma_nil)) (xV 1))))) (mss_one (ms_ret xB)) mss_nil)
    (mss_cons (zFo po (mi_seq (xV 0)) (xG sc.nd) (mss_cons (ms_if (xW (mw_or (mt_not (xTr (xCB c_isi z_isinstance (xA (xV 3) (xA (xTy z_tuple) ma_nil))))) (mw_one (xCmT (o_ne hr.units) (xCB c_len z_len (xA (xV 3) ma_nil)) (xV 2))))) (mss_one (ms_ret xB)) mss_nil)
    (mss_one (ms_if (mt_not (xTr (xCB (c_all rfl) z_all (xA (xL [("entry", 4)] sc.nd (mi_seq (xV 3)) (blkOk_by (by rfl)) (fun _ _ _ _ _ => (xG sc.nd)) (fun _ _ _ _ _ => pts0) (fun _ _ _ _ _ => (me_fz (me_and (xC [false] G_law_is_int hr (takes0 _) (xA (xV 4) ma_nil)) (me_one (xCh o_ile o_ile xI (xV 4) xI)))))) ma_nil)))) (mss_one (ms_ret xB)) mss_nil))))
    (mss_one (ms_ret xB))))
/-! ### _law_bent -/
noncomputable def f_law_bent : MSt := (sSeq (sAsg 4 (mFz (mCallF [true, false] fm_law_draw (mCons (mVar 0) (mCons (M.pure (.val (.int 10))) mNil))))) (sSeq (sAsg 5 (mFz (mCallF [true, false] fm_law_draw (mCons (mVar 0) (mCons (mOp2 addD (mVar 2) (M.pure (.val (.int 1)))) mNil))))) (sSeq (sAsg 6 (mIf (mB (mOp2 (intOp iLt) (mVar 5) (mVar 2))) (mOp2 ixD (mVar 1) (mVar 5)) (mOp2 mulD (mTup (mCons (M.pure (.val (.int 0))) mNil)) (mVar 3)))) (sSeq (sIf (mAndT (mB (mOp2 (intOp iLt) (mVar 4) (M.pure (.val (.int 4))))) (mB (mOp2 (intOp iGt) (mVar 3) (M.pure (.val (.int 0)))))) (sSeq (sAsg 7 (mCallB bList (mCons (mVar 6) mNil))) (sSeq (sSetI setO 7 (mCallF [true, false] fm_law_draw (mCons (mVar 0) (mCons (mVar 3) mNil))) (mCallF [true, false] fm_law_pick (mCons (mVar 0) (mCons (mFz (mLst (mCons (M.pure (.val (.int 3))) (mCons (mOp1 iNeg (M.pure (.val (.int 1)))) (mCons (M.pure (.val (.bl true))) (mCons (M.pure (.val (.bl false))) (mCons (M.pure (.val (.str (Str.ofString "1")))) (mCons (M.pure (.val .non)) (mCons (mTup (mCons (M.pure (.val (.int 1))) mNil)) (mCons (mOp2 (intOp iPow) (M.pure (.val (.int 10))) (M.pure (.val (.int 20)))) (mCons (M.pure (.val (.int 0))) (mCons (M.pure (.val (.int 2))) mNil)))))))))))) mNil)))) (sRet (mOp2 addD (mOp2 addD (mSlice slD (mVar 1) (M.pure none) (mInt (mVar 5))) (mTup (mCons (mCallB bTuple (mCons (mVar 7) mNil)) mNil))) (mSlice slD (mVar 1) (mInt (mOp2 addD (mVar 5) (M.pure (.val (.int 1))))) (M.pure none)))))) sNx) (sSeq (sIf (mB (mOp2 eqD (mVar 4) (M.pure (.val (.int 4))))) (sRet (mOp2 addD (mOp2 addD (mSlice slD (mVar 1) (M.pure none) (mInt (mVar 5))) (mTup (mCons (mVar 6) mNil))) (mSlice slD (mVar 1) (mInt (mVar 5)) (M.pure none)))) sNx) (sSeq (sIf (mB (mOp2 eqD (mVar 4) (M.pure (.val (.int 5))))) (sRet (mOp2 addD (mSlice slD (mVar 1) (M.pure none) (mInt (mVar 5))) (mSlice slD (mVar 1) (mInt (mOp2 addD (mVar 5) (M.pure (.val (.int 1))))) (M.pure none)))) sNx) (sSeq (sIf (mB (mOp2 eqD (mVar 4) (M.pure (.val (.int 6))))) (sRet (mOp2 addD (mOp2 addD (mSlice slD (mVar 1) (M.pure none) (mInt (mVar 5))) (mTup (mCons (mOp2 addD (mVar 6) (mTup (mCons (M.pure (.val (.int 1))) mNil))) mNil))) (mSlice slD (mVar 1) (mInt (mOp2 addD (mVar 5) (M.pure (.val (.int 1))))) (M.pure none)))) sNx) (sSeq (sIf (mB (mOp2 eqD (mVar 4) (M.pure (.val (.int 7))))) (sRet (mOp2 addD (mOp2 addD (mSlice slD (mVar 1) (M.pure none) (mInt (mVar 5))) (mTup (mCons (mFz (mSlice slD (mVar 6) (M.pure none) (mInt (mOp1 iNeg (M.pure (.val (.int 1))))))) mNil))) (mSlice slD (mVar 1) (mInt (mOp2 addD (mVar 5) (M.pure (.val (.int 1))))) (M.pure none)))) sNx) (sSeq (sIf (mB (mOp2 eqD (mVar 4) (M.pure (.val (.int 8))))) (sRet (mOp2 addD (mOp2 addD (mSlice slD (mVar 1) (M.pure none) (mInt (mVar 5))) (mTup (mCons (mFz (mCallB bList (mCons (mVar 6) mNil))) mNil))) (mSlice slD (mVar 1) (mInt (mOp2 addD (mVar 5) (M.pure (.val (.int 1))))) (M.pure none)))) sNx) (sRet (mCallF [true, false] fm_law_pick (mCons (mVar 0) (mCons (mFz (mLst (mCons (mFz (mCallB bList (mCons (mVar 1) mNil))) (mCons (M.pure (.val .non)) (mCons (M.pure (.val (.int 5))) (mCons (M.pure (.val (.bl true))) (mCons (M.pure (.val (.str (Str.ofString "00")))) (mCons (mTup mNil) (mCons (mTup (mCons (mTup mNil) mNil)) (mCons (mTup (mCons (mTup (mCons (M.pure (.val (.int 0))) mNil)) mNil)) (mCons (mFz (mLst mNil)) mNil))))))))))) mNil)))))))))))))
noncomputable def fm_law_bent : M EV := fmOf 8 f_law_bent
theorem sc_law_bent : FnScope ["d", "table", "rows", "columns", "way", "spot", "row", "line"] ["d", "table", "rows", "columns"] (defScope (topS 15)) := ⟨rfl, rfl, rfl, by decide +kernel, rfl, by decide +kernel, by decide +kernel⟩
theorem good_law_bent {P : Program} {w : World} {K : PySem.W.Frag} {mg : Str → Option Value} {base : Heap} {f : Addr} {fd : FuncData} (F : Fun K "_law_bent" "_law_bent" (topS 15) f fd) (bd : Binds K fd ["d", "table", "rows", "columns"] []) (hm : mg "_law_bent" = some (.ref f)) (G_law_draw : FnGood P w K mg base "_law_draw" 2 1 fm_law_draw) (G_law_pick : FnGood P w K mg base "_law_pick" 2 2 fm_law_pick) (z_list : mg "list" = none) (z_tuple : mg "tuple" = none) : FnGood P w K mg base "_law_bent" 4 3 fm_law_bent :=
  have sc := sc_law_bent
  good_mk F bd hm sc fun X W cdv A outer s H E hX hr tk po => by
    subst hX
    exact (mss_cons (zAs 4 sc.nd (me_fz (xC [true, false] G_law_draw hr tk (xA (xV 0) (xA xI ma_nil)))))
    (mss_cons (zAs 5 sc.nd (me_fz (xC [true, false] G_law_draw hr tk (xA (xV 0) (xA (me_op2 o_add (xV 2) xI) ma_nil)))))
    (mss_cons (zAs 6 sc.nd (me_ifExp (xCmT o_ilt (xV 5) (xV 2)) (xIx (hu_of hr) (xV 1) (xV 5)) (me_op2 o_mul (me_tup (xA xI ma_nil)) (xV 3))))
    (mss_cons (ms_if (xW (mw_and (xCmT o_ilt (xV 4) xI) (mw_one (xCmT o_igt (xV 3) xI)))) (mss_cons (zAs 7 sc.nd (xCT c_list z_list (xA (xV 6) ma_nil)))
    (mss_cons (zSe 7 (hu_of hr) (xC [true, false] G_law_pick hr tk (xA (xV 0) (xA (me_fz (me_lst (xA xI (xA (me_op1 o_neg xI) (xA xB (xA xB (xA xS (xA xN (xA (me_tup (xA xI ma_nil)) (xA (me_op2 o_ipow xI xI) (xA xI (xA xI ma_nil)))))))))))) ma_nil))) (xC [true, false] G_law_draw hr tk (xA (xV 0) (xA (xV 3) ma_nil))))
    (mss_one (ms_ret (me_op2 o_add (me_op2 o_add (xSl (xV 1) mo_none (mo_some (xV 5))) (me_tup (xA (xCT c_tuple z_tuple (xA (xV 7) ma_nil)) ma_nil))) (xSl (xV 1) (mo_some (me_op2 o_add (xV 5) xI)) mo_none)))))) mss_nil)
    (mss_cons (ms_if (xCmT (o_eq hr.units) (xV 4) xI) (mss_one (ms_ret (me_op2 o_add (me_op2 o_add (xSl (xV 1) mo_none (mo_some (xV 5))) (me_tup (xA (xV 6) ma_nil))) (xSl (xV 1) (mo_some (xV 5)) mo_none)))) mss_nil)
    (mss_cons (ms_if (xCmT (o_eq hr.units) (xV 4) xI) (mss_one (ms_ret (me_op2 o_add (xSl (xV 1) mo_none (mo_some (xV 5))) (xSl (xV 1) (mo_some (me_op2 o_add (xV 5) xI)) mo_none)))) mss_nil)
    (mss_cons (ms_if (xCmT (o_eq hr.units) (xV 4) xI) (mss_one (ms_ret (me_op2 o_add (me_op2 o_add (xSl (xV 1) mo_none (mo_some (xV 5))) (me_tup (xA (me_op2 o_add (xV 6) (me_tup (xA xI ma_nil))) ma_nil))) (xSl (xV 1) (mo_some (me_op2 o_add (xV 5) xI)) mo_none)))) mss_nil)
    (mss_cons (ms_if (xCmT (o_eq hr.units) (xV 4) xI) (mss_one (ms_ret (me_op2 o_add (me_op2 o_add (xSl (xV 1) mo_none (mo_some (xV 5))) (me_tup (xA (me_fz (xSl (xV 6) mo_none (mo_some (me_op1 o_neg xI)))) ma_nil))) (xSl (xV 1) (mo_some (me_op2 o_add (xV 5) xI)) mo_none)))) mss_nil)
    (mss_cons (ms_if (xCmT (o_eq hr.units) (xV 4) xI) (mss_one (ms_ret (me_op2 o_add (me_op2 o_add (xSl (xV 1) mo_none (mo_some (xV 5))) (me_tup (xA (me_fz (xCT c_list z_list (xA (xV 6) ma_nil))) ma_nil))) (xSl (xV 1) (mo_some (me_op2 o_add (xV 5) xI)) mo_none)))) mss_nil)
    (mss_one (ms_ret (xC [true, false] G_law_pick hr tk (xA (xV 0) (xA (me_fz (me_lst (xA (me_fz (xCT c_list z_list (xA (xV 1) ma_nil))) (xA xN (xA xI (xA xB (xA xS (xA (me_tup ma_nil) (xA (me_tup (xA (me_tup ma_nil) ma_nil)) (xA (me_tup (xA (me_tup (xA xI ma_nil)) ma_nil)) (xA (me_fz (me_lst ma_nil)) ma_nil))))))))))) ma_nil))))))))))))))
/-! ### _law_says -/
noncomputable def f_law_says : MSt := (sRet (mAnd (mCallB bIsI (mCons (mVar 0) (mCons (M.pure (.val (.ty "bool"))) mNil))) (mOp2 eqD (mVar 0) (mVar 1))))
noncomputable def fm_law_says : M EV := fmOf 2 f_law_says
theorem sc_law_says : FnScope ["told", "due"] ["told", "due"] (defScope (topS 16)) := ⟨rfl, rfl, rfl, by decide +kernel, rfl, by decide +kernel, by decide +kernel⟩
theorem good_law_says {P : Program} {w : World} {K : PySem.W.Frag} {mg : Str → Option Value} {base : Heap} {f : Addr} {fd : FuncData} (F : Fun K "_law_says" "_law_says" (topS 16) f fd) (bd : Binds K fd ["told", "due"] []) (hm : mg "_law_says" = some (.ref f)) (z_bool : mg "bool" = none) (z_isinstance : mg "isinstance" = none) : FnGood P w K mg base "_law_says" 2 1 fm_law_says :=
  have sc := sc_law_says
  good_mk F bd hm sc fun X W cdv A outer s H E hX hr tk po => by
    subst hX
    exact (mss_one (ms_ret (me_and (xCB c_isi z_isinstance (xA (xV 0) (xA (xTy z_bool) ma_nil))) (me_one (xCm (o_eq hr.units) (xV 0) (xV 1))))))
/-! ### _law_units_and_kinds -/
noncomputable def f_law_units_and_kinds_C1 : M EV := (mComp (mRg1 (mVar 2)) [7] (gNm 7) (M.pure true) (mCallB bInt (mCons (mOp2 eqD (mVar 6) (mVar 7)) mNil)))
noncomputable def f_law_units_and_kinds_C2 : M EV := (mComp (mRg1 (mVar 2)) [6] (gNm 6) (M.pure true) (mCallB bTuple (mCons f_law_units_and_kinds_C1 mNil)))
noncomputable def f_law_units_and_kinds_L3 : MSt := (sIf (mNotT (mTru (mCallF [false, false] fm_law_says (mCons (mFz (mCallF [false, false, false] fm_is_table (mCons (mVar 1) (mCons (mVar 8) (mCons (mVar 9) mNil))))) (mCons (mFz (mCallF [false, false, false] fm_law_right_table (mCons (mVar 1) (mCons (mVar 8) (mCons (mVar 9) mNil))))) mNil))))) (sRet (M.pure (.val (.bl false)))) sNx)
noncomputable def f_law_units_and_kinds_L4 : MSt := (sSeq (sAsg 11 (mFz (mCallF [true, false, false, false] fm_law_bent (mCons (mVar 0) (mCons (mVar 1) (mCons (mVar 2) (mCons (mVar 3) mNil))))))) (sIf (mNotT (mTru (mCallF [false, false] fm_law_says (mCons (mFz (mCallF [false, false, false] fm_is_table (mCons (mVar 11) (mCons (mVar 2) (mCons (mVar 3) mNil))))) (mCons (mFz (mCallF [false, false, false] fm_law_right_table (mCons (mVar 11) (mCons (mVar 2) (mCons (mVar 3) mNil))))) mNil))))) (sRet (M.pure (.val (.bl false)))) sNx))
noncomputable def f_law_units_and_kinds : MSt := (sSeq (sAsg 4 (mFz (mCallF [false] fm_same_table (mCons (mVar 2) mNil)))) (sSeq (sAsg 5 (mFz (mCallF [false] fm_same_table (mCons (mVar 3) mNil)))) (sSeq (sIf (mB (mOp2 neD (mVar 4) (mCallB bTuple (mCons f_law_units_and_kinds_C2 mNil)))) (sRet (M.pure (.val (.bl false)))) sNx) (sSeq (sIf (mOrT (mNotT (mTru (mCallF [false, false, false] fm_law_right_table (mCons (mVar 4) (mCons (mVar 2) (mCons (mVar 2) mNil)))))) (mNotT (mTru (mCallF [false, false, false] fm_law_right_table (mCons (mVar 5) (mCons (mVar 3) (mCons (mVar 3) mNil))))))) (sRet (M.pure (.val (.bl false)))) sNx) (sSeq (sIf (mOrT (mB (mOp2 neD (mCallF [false, false, false] fm_compose (mCons (mVar 4) (mCons (mVar 1) (mCons (mVar 3) mNil)))) (mVar 1))) (mB (mOp2 neD (mCallF [false, false, false] fm_compose (mCons (mVar 1) (mCons (mVar 5) (mCons (mVar 3) mNil)))) (mVar 1)))) (sRet (M.pure (.val (.bl false)))) sNx) (sSeq (sIf (mB (mOp2 isnotD (mCallF [false, false, false] fm_is_table (mCons (mVar 1) (mCons (mVar 2) (mCons (mVar 3) mNil)))) (M.pure (.val (.bl true))))) (sRet (M.pure (.val (.bl false)))) sNx) (sSeq (sFor (mSeq (mLst (mCons (mTup (mCons (mVar 3) (mCons (mVar 2) mNil))) (mCons (mTup (mCons (mOp2 addD (mVar 2) (M.pure (.val (.int 1)))) (mCons (mVar 3) mNil))) (mCons (mTup (mCons (mVar 2) (mCons (mOp2 addD (mVar 3) (M.pure (.val (.int 1)))) mNil))) mNil))))) (gTp 2 (gsCons (gNm 8) (gsCons (gNm 9) gsNil))) f_law_units_and_kinds_L3) (sSeq (sFor (mRg1 (M.pure (.val (.int 4)))) (gNm 10) f_law_units_and_kinds_L4) (sRet (M.pure (.val (.bl true))))))))))))
noncomputable def fm_law_units_and_kinds : M EV := fmOf 12 f_law_units_and_kinds
theorem sc_law_units_and_kinds : FnScope ["d", "table", "rows", "columns", "left", "right", "k", "j", "high", "wide", "turn", "bent"] ["d", "table", "rows", "columns"] (defScope (topS 17)) := ⟨rfl, rfl, rfl, by decide +kernel, rfl, by decide +kernel, by decide +kernel⟩
theorem good_law_units_and_kinds {P : Program} {w : World} {K : PySem.W.Frag} {mg : Str → Option Value} {base : Heap} {f : Addr} {fd : FuncData} (F : Fun K "_law_units_and_kinds" "_law_units_and_kinds" (topS 17) f fd) (bd : Binds K fd ["d", "table", "rows", "columns"] []) (hm : mg "_law_units_and_kinds" = some (.ref f)) (G_is_table : FnGood P w K mg base "is_table" 3 1 fm_is_table) (G_same_table : FnGood P w K mg base "same_table" 1 1 fm_same_table) (G_compose : FnGood P w K mg base "compose" 3 1 fm_compose) (G_law_right_table : FnGood P w K mg base "_law_right_table" 3 2 fm_law_right_table) (G_law_bent : FnGood P w K mg base "_law_bent" 4 3 fm_law_bent) (G_law_says : FnGood P w K mg base "_law_says" 2 1 fm_law_says) (z_int : mg "int" = none) (z_range : mg "range" = none) (z_tuple : mg "tuple" = none) : FnGood P w K mg base "_law_units_and_kinds" 4 4 fm_law_units_and_kinds :=
  have sc := sc_law_units_and_kinds
  good_mk F bd hm sc fun X W cdv A outer s H E hX hr tk po => by
    subst hX
    exact (mss_cons (zAs 4 sc.nd (me_fz (xC [false] G_same_table hr tk (xA (xV 2) ma_nil))))
    (mss_cons (zAs 5 sc.nd (me_fz (xC [false] G_same_table hr tk (xA (xV 3) ma_nil))))
    (mss_cons (ms_if (xCmT (o_ne hr.units) (xV 4) (xCT c_tuple z_tuple (xA (xL [("k", 6)] sc.nd (xR1 z_range (xV 2)) (blkOk_by (by rfl)) (fun _ _ _ _ _ => (xG sc.nd)) (fun _ _ _ _ _ => pts0) (fun _ _ _ _ _ => (xCT c_tuple z_tuple (xA (xL [("j", 7)] sc.nd (xR1 z_range (xV 2)) (blkOk_by (by rfl)) (fun _ _ _ _ _ => (xG sc.nd)) (fun _ _ _ _ _ => pts0) (fun _ _ _ _ _ => (xCT c_int z_int (xA (xCm (o_eq hr.units) (xV 6) (xV 7)) ma_nil)))) ma_nil)))) ma_nil))) (mss_one (ms_ret xB)) mss_nil)
    (mss_cons (ms_if (xW (mw_or (mt_not (xTr (xC [false, false, false] G_law_right_table hr tk (xA (xV 4) (xA (xV 2) (xA (xV 2) ma_nil)))))) (mw_one (mt_not (xTr (xC [false, false, false] G_law_right_table hr tk (xA (xV 5) (xA (xV 3) (xA (xV 3) ma_nil))))))))) (mss_one (ms_ret xB)) mss_nil)
    (mss_cons (ms_if (xW (mw_or (xCmT (o_ne hr.units) (xC [false, false, false] G_compose hr tk (xA (xV 4) (xA (xV 1) (xA (xV 3) ma_nil)))) (xV 1)) (mw_one (xCmT (o_ne hr.units) (xC [false, false, false] G_compose hr tk (xA (xV 1) (xA (xV 5) (xA (xV 3) ma_nil)))) (xV 1))))) (mss_one (ms_ret xB)) mss_nil)
    (mss_cons (ms_if (xCmT o_isnot (xC [false, false, false] G_is_table hr tk (xA (xV 1) (xA (xV 2) (xA (xV 3) ma_nil)))) xB) (mss_one (ms_ret xB)) mss_nil)
    (mss_cons (zFo po (mi_seq (me_lst (xA (me_tup (xA (xV 3) (xA (xV 2) ma_nil))) (xA (me_tup (xA (me_op2 o_add (xV 2) xI) (xA (xV 3) ma_nil))) (xA (me_tup (xA (xV 2) (xA (me_op2 o_add (xV 3) xI) ma_nil))) ma_nil))))) ((xGt (xGs (xG sc.nd) (xGs (xG sc.nd) mgs_nil)))).f (mss_one (ms_if (mt_not (xTr (xC [false, false] G_law_says hr tk (xA (me_fz (xC [false, false, false] G_is_table hr tk (xA (xV 1) (xA (xV 8) (xA (xV 9) ma_nil))))) (xA (me_fz (xC [false, false, false] G_law_right_table hr tk (xA (xV 1) (xA (xV 8) (xA (xV 9) ma_nil))))) ma_nil))))) (mss_one (ms_ret xB)) mss_nil)))
    (mss_cons (zFo po (xR1 z_range xI) (xG sc.nd) (mss_cons (zAs 11 sc.nd (me_fz (xC [true, false, false, false] G_law_bent hr tk (xA (xV 0) (xA (xV 1) (xA (xV 2) (xA (xV 3) ma_nil)))))))
    (mss_one (ms_if (mt_not (xTr (xC [false, false] G_law_says hr tk (xA (me_fz (xC [false, false, false] G_is_table hr tk (xA (xV 11) (xA (xV 2) (xA (xV 3) ma_nil))))) (xA (me_fz (xC [false, false, false] G_law_right_table hr tk (xA (xV 11) (xA (xV 2) (xA (xV 3) ma_nil))))) ma_nil))))) (mss_one (ms_ret xB)) mss_nil))))
    (mss_one (ms_ret xB))))))))))
/-! ### law -/
noncomputable def f_law_E1 : M EV := (mFz (mCallF [true, false] fm_law_draw (mCons (mVar 1) (mCons (mIf (mTru (mVar 2)) (M.pure (.val (.int 17))) (M.pure (.val (.int 5)))) mNil))))
noncomputable def f_law_C2 : M EV := (mComp (mRg1 (M.pure (.val (.int 4)))) [4] (gNm 4) (M.pure true) f_law_E1)
noncomputable def f_law_E3 : M EV := (mFz (mCallF [true, false, false, false] fm_law_drawn_table (mCons (mVar 1) (mCons (mOp2 ixD (mVar 3) (mVar 4)) (mCons (mOp2 ixD (mVar 3) (mOp2 addD (mVar 4) (M.pure (.val (.int 1))))) (mCons (mVar 5) mNil))))))
noncomputable def f_law_C4 : M EV := (mComp (mRg1 (M.pure (.val (.int 3)))) [4] (gNm 4) (M.pure true) f_law_E3)
noncomputable def f_law_L5 : MSt := (sIf (mNotT (mTru (mCallF [true, false, false, false] fm_law_units_and_kinds (mCons (mVar 1) (mCons (mOp2 ixD (mVar 13) (mVar 4)) (mCons (mOp2 ixD (mVar 3) (mVar 4)) (mCons (mOp2 ixD (mVar 3) (mOp2 addD (mVar 4) (M.pure (.val (.int 1))))) mNil))))))) (sRet (M.pure (.val (.bl false)))) sNx)
noncomputable def f_law_E6 : M EV := (mOp2 eqD (mOp2 ixD (mOp2 ixD (mVar 16) (mVar 4)) (mVar 4)) (M.pure (.val (.int 2))))
noncomputable def f_law_C7 : M EV := (mComp (mRg1 (mVar 14)) [4] (gNm 4) (M.pure true) f_law_E6)
noncomputable def f_law_L8 : MSt := (sSeq (sIf (mNotT (mTru (mCallF [false, false] fm_law_says (mCons (mFz (mCallF [false] fm_is_own_square (mCons (mVar 16) mNil))) (mCons (mOp2 eqD (mCallF [false, false, false, false] fm_law_through (mCons (mVar 16) (mCons (mVar 16) (mCons (mVar 14) (mCons (mVar 14) mNil))))) (mVar 16)) mNil))))) (sRet (M.pure (.val (.bl false)))) sNx) (sSeq (sIf (mNotT (mTru (mCallF [false, false] fm_law_says (mCons (mFz (mCallF [false] fm_has_own_fall (mCons (mVar 16) mNil))) (mCons (mCallB bAny (mCons f_law_C7 mNil)) mNil))))) (sRet (M.pure (.val (.bl false)))) sNx) (sAsg 16 (mFz (mCallF [false, false, false, false] fm_law_through (mCons (mVar 16) (mCons (mVar 15) (mCons (mVar 14) (mCons (mVar 14) mNil)))))))))
noncomputable def f_law : MSt := (sSeq (sAsg 1 (mCallF [false] fm_law_begin (mCons (mVar 0) mNil))) (sSeq (sAsg 2 (mFz (mCallF [true, false] fm_law_rare (mCons (mVar 1) (mCons (M.pure (.val (.int 8))) mNil))))) (sSeq (sAsg 3 (mFz f_law_C2)) (sSeq (sAsg 5 (mOp2 ixD (mLst (mCons (mFz (mLst (mCons (M.pure (.val (.int 0))) (mCons (M.pure (.val (.int 1))) (mCons (M.pure (.val (.int 2))) mNil))))) (mCons (mFz (mLst (mCons (M.pure (.val (.int 0))) (mCons (M.pure (.val (.int 0))) (mCons (M.pure (.val (.int 1))) (mCons (M.pure (.val (.int 2))) mNil)))))) (mCons (mFz (mLst (mCons (M.pure (.val (.int 0))) (mCons (M.pure (.val (.int 0))) (mCons (M.pure (.val (.int 0))) (mCons (M.pure (.val (.int 0))) (mCons (M.pure (.val (.int 1))) (mCons (M.pure (.val (.int 2))) mNil)))))))) (mCons (mFz (mLst (mCons (M.pure (.val (.int 0))) (mCons (M.pure (.val (.int 1))) (mCons (M.pure (.val (.int 1))) (mCons (M.pure (.val (.int 2))) mNil)))))) (mCons (mFz (mLst (mCons (M.pure (.val (.int 0))) (mCons (M.pure (.val (.int 0))) (mCons (M.pure (.val (.int 0))) (mCons (M.pure (.val (.int 1))) mNil)))))) mNil)))))) (mCallF [true, false] fm_law_draw (mCons (mVar 1) (mCons (M.pure (.val (.int 5))) mNil))))) (sSeq (sUnp (gTp 3 (gsCons (gNm 6) (gsCons (gNm 7) (gsCons (gNm 8) gsNil)))) f_law_C4) (sSeq (sAsg 9 (mFz (mCallF [false, false, false, false] fm_law_through (mCons (mVar 6) (mCons (mVar 7) (mCons (mOp2 ixD (mVar 3) (M.pure (.val (.int 0)))) (mCons (mOp2 ixD (mVar 3) (M.pure (.val (.int 2)))) mNil))))))) (sSeq (sAsg 10 (mFz (mCallF [false, false, false] fm_compose (mCons (mVar 6) (mCons (mVar 7) (mCons (mOp2 ixD (mVar 3) (M.pure (.val (.int 2)))) mNil)))))) (sSeq (sIf (mOrT (mNotT (mTru (mCallF [false, false, false] fm_law_right_table (mCons (mVar 10) (mCons (mOp2 ixD (mVar 3) (M.pure (.val (.int 0)))) (mCons (mOp2 ixD (mVar 3) (M.pure (.val (.int 2)))) mNil)))))) (mB (mOp2 neD (mVar 10) (mVar 9)))) (sRet (M.pure (.val (.bl false)))) sNx) (sSeq (sAsg 11 (mFz (mCallF [false, false, false, false] fm_law_through (mCons (mVar 9) (mCons (mVar 8) (mCons (mOp2 ixD (mVar 3) (M.pure (.val (.int 0)))) (mCons (mOp2 ixD (mVar 3) (M.pure (.val (.int 3)))) mNil))))))) (sSeq (sAsg 12 (mFz (mCallF [false, false, false] fm_compose (mCons (mVar 7) (mCons (mVar 8) (mCons (mOp2 ixD (mVar 3) (M.pure (.val (.int 3)))) mNil)))))) (sSeq (sIf (mOrT (mB (mOp2 neD (mCallF [false, false, false] fm_compose (mCons (mVar 10) (mCons (mVar 8) (mCons (mOp2 ixD (mVar 3) (M.pure (.val (.int 3)))) mNil)))) (mVar 11))) (mB (mOp2 neD (mCallF [false, false, false] fm_compose (mCons (mVar 6) (mCons (mVar 12) (mCons (mOp2 ixD (mVar 3) (M.pure (.val (.int 3)))) mNil)))) (mVar 11)))) (sRet (M.pure (.val (.bl false)))) sNx) (sSeq (sAsg 13 (mFz (mLst (mCons (mVar 6) (mCons (mVar 7) (mCons (mVar 8) mNil)))))) (sSeq (sFor (mRg1 (M.pure (.val (.int 3)))) (gNm 4) f_law_L5) (sSeq (sAsg 14 (mFz (mCallF [true, false] fm_law_draw (mCons (mVar 1) (mCons (mIf (mTru (mVar 2)) (M.pure (.val (.int 10))) (M.pure (.val (.int 5)))) mNil))))) (sSeq (sAsg 15 (mFz (mCallF [true, false, false, false] fm_law_drawn_table (mCons (mVar 1) (mCons (mVar 14) (mCons (mVar 14) (mCons (mVar 5) mNil))))))) (sSeq (sAsg 16 (mVar 15)) (sSeq (sFor (mRg1 (M.pure (.val (.int 12)))) (gNm 17) f_law_L8) (sRet (M.pure (.val (.bl true)))))))))))))))))))))
noncomputable def fm_law : M EV := fmOf 18 f_law
theorem sc_law : FnScope ["script", "d", "large", "sizes", "k", "menu", "first", "second", "third", "due", "two", "whole", "behind", "tables", "many", "square", "power", "turn"] ["script"] (defScope (topS 18)) := ⟨rfl, rfl, rfl, by decide +kernel, rfl, by decide +kernel, by decide +kernel⟩
theorem ok_law {P : Program} {w : World} {K : PySem.W.Frag} {mg : Str → Option Value} {base : Heap} {f : Addr} {fd : FuncData} (F : Fun K "law" "law" (topS 18) f fd) (G_compose : FnGood P w K mg base "compose" 3 1 fm_compose) (G_is_own_square : FnGood P w K mg base "is_own_square" 1 2 fm_is_own_square) (G_has_own_fall : FnGood P w K mg base "has_own_fall" 1 1 fm_has_own_fall) (G_law_begin : FnGood P w K mg base "_law_begin" 1 1 fm_law_begin) (G_law_draw : FnGood P w K mg base "_law_draw" 2 1 fm_law_draw) (G_law_rare : FnGood P w K mg base "_law_rare" 2 2 fm_law_rare) (G_law_drawn_table : FnGood P w K mg base "_law_drawn_table" 4 3 fm_law_drawn_table) (G_law_through : FnGood P w K mg base "_law_through" 4 1 fm_law_through) (G_law_right_table : FnGood P w K mg base "_law_right_table" 3 2 fm_law_right_table) (G_law_says : FnGood P w K mg base "_law_says" 2 1 fm_law_says) (G_law_units_and_kinds : FnGood P w K mg base "_law_units_and_kinds" 4 4 fm_law_units_and_kinds) (z_any : mg "any" = none) (z_range : mg "range" = none) : FnOk P w K mg base (L2.CX P w) 5 f fd ["script"] (spM K 1 fm_law) :=
  have sc := sc_law
  fn_ok F sc fun X W cdv A outer s H E hX hr tk po => by
    subst hX
    exact (mss_cons (zAs 1 sc.nd (xC [false] G_law_begin hr tk (xA (xV 0) ma_nil)))
    (mss_cons (zAs 2 sc.nd (me_fz (xC [true, false] G_law_rare hr tk (xA (xV 1) (xA xI ma_nil)))))
    (mss_cons (zAs 3 sc.nd (me_fz (xL [("k", 4)] sc.nd (xR1 z_range xI) (blkOk_by (by rfl)) (fun _ _ _ _ _ => (xG sc.nd)) (fun _ _ _ _ _ => pts0) (fun _ _ _ _ _ => (me_fz (xC [true, false] G_law_draw hr (takes0 _) (xA (xV 1) (xA (me_ifExp (xTr (xV 2)) xI xI) ma_nil))))))))
    (mss_cons (zAs 5 sc.nd (xIx (hu_of hr) (me_lst (xA (me_fz (me_lst (xA xI (xA xI (xA xI ma_nil))))) (xA (me_fz (me_lst (xA xI (xA xI (xA xI (xA xI ma_nil)))))) (xA (me_fz (me_lst (xA xI (xA xI (xA xI (xA xI (xA xI (xA xI ma_nil)))))))) (xA (me_fz (me_lst (xA xI (xA xI (xA xI (xA xI ma_nil)))))) (xA (me_fz (me_lst (xA xI (xA xI (xA xI (xA xI ma_nil)))))) ma_nil)))))) (xC [true, false] G_law_draw hr tk (xA (xV 1) (xA xI ma_nil)))))
    (mss_cons (zUn (xGt (xGs (xG sc.nd) (xGs (xG sc.nd) (xGs (xG sc.nd) mgs_nil)))) (xL [("k", 4)] sc.nd (xR1 z_range xI) (blkOk_by (by rfl)) (fun _ _ _ _ _ => (xG sc.nd)) (fun _ _ _ _ _ => pts0) (fun _ _ _ _ _ => (me_fz (xC [true, false, false, false] G_law_drawn_table hr (takes0 _) (xA (xV 1) (xA (xIx (hu_of hr) (xV 3) (xV 4)) (xA (xIx (hu_of hr) (xV 3) (me_op2 o_add (xV 4) xI)) (xA (xV 5) ma_nil)))))))))
    (mss_cons (zAs 9 sc.nd (me_fz (xC [false, false, false, false] G_law_through hr tk (xA (xV 6) (xA (xV 7) (xA (xIx (hu_of hr) (xV 3) xI) (xA (xIx (hu_of hr) (xV 3) xI) ma_nil)))))))
    (mss_cons (zAs 10 sc.nd (me_fz (xC [false, false, false] G_compose hr tk (xA (xV 6) (xA (xV 7) (xA (xIx (hu_of hr) (xV 3) xI) ma_nil))))))
    (mss_cons (ms_if (xW (mw_or (mt_not (xTr (xC [false, false, false] G_law_right_table hr tk (xA (xV 10) (xA (xIx (hu_of hr) (xV 3) xI) (xA (xIx (hu_of hr) (xV 3) xI) ma_nil)))))) (mw_one (xCmT (o_ne hr.units) (xV 10) (xV 9))))) (mss_one (ms_ret xB)) mss_nil)
    (mss_cons (zAs 11 sc.nd (me_fz (xC [false, false, false, false] G_law_through hr tk (xA (xV 9) (xA (xV 8) (xA (xIx (hu_of hr) (xV 3) xI) (xA (xIx (hu_of hr) (xV 3) xI) ma_nil)))))))
    (mss_cons (zAs 12 sc.nd (me_fz (xC [false, false, false] G_compose hr tk (xA (xV 7) (xA (xV 8) (xA (xIx (hu_of hr) (xV 3) xI) ma_nil))))))
    (mss_cons (ms_if (xW (mw_or (xCmT (o_ne hr.units) (xC [false, false, false] G_compose hr tk (xA (xV 10) (xA (xV 8) (xA (xIx (hu_of hr) (xV 3) xI) ma_nil)))) (xV 11)) (mw_one (xCmT (o_ne hr.units) (xC [false, false, false] G_compose hr tk (xA (xV 6) (xA (xV 12) (xA (xIx (hu_of hr) (xV 3) xI) ma_nil)))) (xV 11))))) (mss_one (ms_ret xB)) mss_nil)
    (mss_cons (zAs 13 sc.nd (me_fz (me_lst (xA (xV 6) (xA (xV 7) (xA (xV 8) ma_nil))))))
    (mss_cons (zFo po (xR1 z_range xI) (xG sc.nd) (mss_one (ms_if (mt_not (xTr (xC [true, false, false, false] G_law_units_and_kinds hr tk (xA (xV 1) (xA (xIx (hu_of hr) (xV 13) (xV 4)) (xA (xIx (hu_of hr) (xV 3) (xV 4)) (xA (xIx (hu_of hr) (xV 3) (me_op2 o_add (xV 4) xI)) ma_nil))))))) (mss_one (ms_ret xB)) mss_nil)))
    (mss_cons (zAs 14 sc.nd (me_fz (xC [true, false] G_law_draw hr tk (xA (xV 1) (xA (me_ifExp (xTr (xV 2)) xI xI) ma_nil)))))
    (mss_cons (zAs 15 sc.nd (me_fz (xC [true, false, false, false] G_law_drawn_table hr tk (xA (xV 1) (xA (xV 14) (xA (xV 14) (xA (xV 5) ma_nil)))))))
    (mss_cons (zAs 16 sc.nd (xV 15))
    (mss_cons (zFo po (xR1 z_range xI) (xG sc.nd) (mss_cons (ms_if (mt_not (xTr (xC [false, false] G_law_says hr tk (xA (me_fz (xC [false] G_is_own_square hr tk (xA (xV 16) ma_nil))) (xA (xCm (o_eq hr.units) (xC [false, false, false, false] G_law_through hr tk (xA (xV 16) (xA (xV 16) (xA (xV 14) (xA (xV 14) ma_nil))))) (xV 16)) ma_nil))))) (mss_one (ms_ret xB)) mss_nil)
    (mss_cons (ms_if (mt_not (xTr (xC [false, false] G_law_says hr tk (xA (me_fz (xC [false] G_has_own_fall hr tk (xA (xV 16) ma_nil))) (xA (xCB (c_any rfl) z_any (xA (xL [("k", 4)] sc.nd (xR1 z_range (xV 14)) (blkOk_by (by rfl)) (fun _ _ _ _ _ => (xG sc.nd)) (fun _ _ _ _ _ => pts0) (fun _ _ _ _ _ => (xCm (o_eq hr.units) (xIx (hu_of hr) (xIx (hu_of hr) (xV 16) (xV 4)) (xV 4)) xI))) ma_nil)) ma_nil))))) (mss_one (ms_ret xB)) mss_nil)
    (mss_one (zAs 16 sc.nd (me_fz (xC [false, false, false, false] G_law_through hr tk (xA (xV 16) (xA (xV 15) (xA (xV 14) (xA (xV 14) ma_nil)))))))))))
    (mss_one (ms_ret xB)))))))))))))))))))
end Fw
set_option linter.all false
set_option maxRecDepth 100000
/-! tables of numbers, in plain words -/
namespace Fw
open PySem
/-! ### the product -/
def cmb : Nat → (Nat → Int) → (Nat → Int) → Int
  | 0, _, _ => 0
  | n + 1, a, b => max (cmb n a b) (if 0 < a n ∧ 0 < b n then max (a n) (b n) else 0)
theorem cmb_le {a b : Nat → Int} {x : Int} : ∀ {n : Nat}, cmb n a b ≤ x ↔ 0 ≤ x ∧ ∀ k, k < n → 0 < a k → 0 < b k → a k ≤ x ∧ b k ≤ x
  | 0 => by simp [cmb]
  | n + 1 => by
    rw [cmb, Int.max_le, cmb_le (n := n)]
    constructor
    · rintro ⟨⟨h0, h⟩, h1⟩
      refine ⟨h0, fun k hk ha hb => ?_⟩
      rcases Nat.lt_succ_iff_lt_or_eq.mp hk with z | z
      · exact h k z ha hb
      · subst z
        rw [if_pos ⟨ha, hb⟩] at h1
        omega
    · rintro ⟨h0, h⟩
      refine ⟨⟨h0, fun k hk => h k (by omega)⟩, ?_⟩
      split
      · rename_i c
        have := h n (by omega) c.1 c.2
        omega
      · exact h0
theorem cmb_nn {a b : Nat → Int} {n : Nat} : 0 ≤ cmb n a b := (cmb_le.mp (Int.le_refl _)).1
theorem cmb_pos {a b : Nat → Int} {n : Nat} : 0 < cmb n a b ↔ ∃ k, k < n ∧ 0 < a k ∧ 0 < b k := by
  constructor
  · intro h
    apply Classical.byContradiction
    intro c
    have : cmb n a b ≤ 0 := cmb_le.mpr ⟨Int.le_refl 0, fun k hk ha hb => absurd ⟨k, hk, ha, hb⟩ c⟩
    omega
  · rintro ⟨k, hk, ha, hb⟩
    apply Classical.byContradiction
    intro c
    have := (cmb_le.mp (Int.not_lt.mp c)).2 k hk ha hb
    omega
theorem cmb_congr {a a' b b' : Nat → Int} : ∀ {n : Nat}, (∀ k, k < n → a k = a' k ∧ b k = b' k) → cmb n a b = cmb n a' b'
  | 0, _ => rfl
  | n + 1, h => by
    rw [cmb, cmb, cmb_congr (n := n) fun k hk => h k (by omega), (h n (by omega)).1, (h n (by omega)).2]
theorem eq_of_le {x y : Int} (h : ∀ z, x ≤ z ↔ y ≤ z) : x = y := Int.le_antisymm ((h y).mpr (Int.le_refl _)) ((h x).mp (Int.le_refl _))
theorem cmb_assoc {n m : Nat} {a c : Nat → Int} {b : Nat → Nat → Int} : cmb m (fun l => cmb n a (fun k => b k l)) c = cmb n a (fun k => cmb m (b k) c) := by
  refine eq_of_le fun z => ?_
  rw [cmb_le, cmb_le]
  constructor
  · rintro ⟨h0, h⟩
    refine ⟨h0, fun k hk ha hb => ?_⟩
    obtain ⟨l, hl, hb1, hc⟩ := cmb_pos.mp hb
    have q := h l hl (cmb_pos.mpr ⟨k, hk, ha, hb1⟩) hc
    refine ⟨((cmb_le.mp q.1).2 k hk ha hb1).1, cmb_le.mpr ⟨h0, fun l' hl' hb' hc' => ?_⟩⟩
    have q := h l' hl' (cmb_pos.mpr ⟨k, hk, ha, hb'⟩) hc'
    exact ⟨((cmb_le.mp q.1).2 k hk ha hb').2, q.2⟩
  · rintro ⟨h0, h⟩
    refine ⟨h0, fun l hl hab hc => ?_⟩
    obtain ⟨k, hk, ha, hb⟩ := cmb_pos.mp hab
    have q := h k hk ha (cmb_pos.mpr ⟨l, hl, hb, hc⟩)
    refine ⟨cmb_le.mpr ⟨h0, fun k' hk' ha' hb' => ?_⟩, ((cmb_le.mp q.2).2 l hl hb hc).2⟩
    have q := h k' hk' ha' (cmb_pos.mpr ⟨l, hl, hb', hc⟩)
    exact ⟨q.1, ((cmb_le.mp q.2).2 l hl hb' hc).1⟩
theorem cmb_unitL {n i : Nat} {b : Nat → Int} (hi : i < n) (h : 0 ≤ b i) : cmb n (fun k => if i = k then 1 else 0) b = b i := by
  refine eq_of_le fun z => ?_
  rw [cmb_le]
  constructor
  · rintro ⟨h0, q⟩
    by_cases c : 0 < b i
    · exact (q i hi (by simp) c).2
    · omega
  · intro q
    refine ⟨by omega, fun k hk ha hb => ?_⟩
    by_cases c : i = k
    · subst c
      rw [if_pos rfl]
      omega
    · rw [if_neg c] at ha; omega
theorem cmb_unitR {n j : Nat} {a : Nat → Int} (hj : j < n) (h : 0 ≤ a j) : cmb n a (fun k => if k = j then 1 else 0) = a j := by
  refine eq_of_le fun z => ?_
  rw [cmb_le]
  constructor
  · rintro ⟨h0, q⟩
    by_cases c : 0 < a j
    · exact (q j hj c (by simp)).1
    · omega
  · intro q
    refine ⟨by omega, fun k hk ha hb => ?_⟩
    by_cases c : k = j
    · subst c
      rw [if_pos rfl]
      omega
    · rw [if_neg c] at hb; omega
/-! ### tables -/
abbrev Tb := List (List Int)
def at2 (t : Tb) (i j : Nat) : Int := ((t[i]?).getD [])[j]?.getD 0
def mk (r c : Nat) (f : Nat → Nat → Int) : Tb := (List.range r).map fun i => (List.range c).map fun j => f i j
structure Dim (t : Tb) (r c : Nat) : Prop where
  rows : t.length = r
  cols : ∀ row ∈ t, row.length = c
theorem dim_mk {r c : Nat} {f : Nat → Nat → Int} : Dim (mk r c f) r c := ⟨by simp [mk], fun row h => by
  obtain ⟨i, _, rfl⟩ := List.mem_map.mp h
  simp⟩
theorem at2_mk {r c i j : Nat} {f : Nat → Nat → Int} (hi : i < r) (hj : j < c) : at2 (mk r c f) i j = f i j := by
  unfold at2 mk
  rw [List.getElem?_map, List.getElem?_range hi]
  simp [List.getElem?_range hj]
theorem mk_at2 {t : Tb} {r c : Nat} (h : Dim t r c) : mk r c (at2 t) = t := by
  refine List.ext_getElem? fun i => ?_
  unfold mk
  rw [List.getElem?_map]
  by_cases hi : i < r
  · rw [List.getElem?_range hi]
    have hi' : i < t.length := by rw [h.rows]; exact hi
    rw [List.getElem?_eq_getElem hi']
    simp only [Option.map_some]
    congr 1
    refine List.ext_getElem? fun j => ?_
    rw [List.getElem?_map]
    have hl := h.cols _ (List.getElem_mem hi')
    by_cases hj : j < c
    · rw [List.getElem?_range hj]
      simp only [Option.map_some, at2, List.getElem?_eq_getElem hi', Option.getD_some]
      rw [List.getElem?_eq_getElem (by omega)]
      rfl
    · rw [List.getElem?_eq_none (by simp; omega), List.getElem?_eq_none (by omega)]
      rfl
  · rw [List.getElem?_eq_none (by simp; omega), List.getElem?_eq_none (by rw [h.rows]; omega)]
    rfl
theorem mk_congr {r c : Nat} {f g : Nat → Nat → Int} (h : ∀ i j, i < r → j < c → f i j = g i j) : mk r c f = mk r c g := by
  unfold mk
  refine List.map_congr_left fun i hi => List.map_congr_left fun j hj => h i j (by simpa using hi) (by simpa using hj)
/-- one table behind another -/
def mul (r n c : Nat) (a b : Tb) : Tb := mk r c fun i j => cmb n (at2 a i) fun k => at2 b k j
theorem mul_assoc {r n m c : Nat} {x y z : Tb} : mul r m c (mul r n m x y) z = mul r n c x (mul n m c y z) := by
  unfold mul
  refine mk_congr fun i j hi hj => ?_
  have e1 : cmb m (at2 (mk r m fun i j => cmb n (at2 x i) fun k => at2 y k j) i) (fun k => at2 z k j) = cmb m (fun l => cmb n (at2 x i) (fun k => at2 y k l)) (fun k => at2 z k j) := cmb_congr fun k hk => ⟨at2_mk hi hk, rfl⟩
  have e2 : cmb n (at2 x i) (fun k => at2 (mk n c fun i j => cmb m (at2 y i) fun k => at2 z k j) k j) = cmb n (at2 x i) (fun k => cmb m (at2 y k) (fun k => at2 z k j)) := cmb_congr fun k hk => ⟨rfl, at2_mk hk hj⟩
  rw [e1, e2]
  exact cmb_assoc
def idT (n : Nat) : Tb := mk n n fun i j => if i = j then 1 else 0
/-- entries 0, 1, 2 -/
structure TOk (t : Tb) (r c : Nat) : Prop extends Dim t r c where
  ent : ∀ row ∈ t, ∀ x ∈ row, 0 ≤ x ∧ x ≤ 2
theorem TOk.at2 {t : Tb} {r c : Nat} (h : TOk t r c) (i j : Nat) : 0 ≤ at2 t i j ∧ at2 t i j ≤ 2 := by
  unfold Fw.at2
  cases hi : t[i]? with
  | none => simp
  | some row =>
    cases hj : row[j]? with
    | none => simp [hj]
    | some x =>
      simp only [Option.getD_some, hj]
      exact h.ent row (List.mem_of_getElem? hi) x (List.mem_of_getElem? hj)
theorem tok_mk {r c : Nat} {f : Nat → Nat → Int} (h : ∀ i j, i < r → j < c → 0 ≤ f i j ∧ f i j ≤ 2) : TOk (mk r c f) r c := ⟨dim_mk, fun row hr x hx => by
  obtain ⟨i, hi, rfl⟩ := List.mem_map.mp hr
  obtain ⟨j, hj, rfl⟩ := List.mem_map.mp hx
  exact h i j (by simpa using hi) (by simpa using hj)⟩
theorem tok_id {n : Nat} : TOk (idT n) n n := tok_mk fun i j _ _ => by split <;> omega
theorem tok_mul {r n c : Nat} {a b : Tb} (ha : TOk a r n) (hb : TOk b n c) : TOk (mul r n c a b) r c := tok_mk fun i j _ _ => ⟨cmb_nn, cmb_le.mpr ⟨by decide, fun k _ _ _ => ⟨(ha.at2 i k).2, (hb.at2 k j).2⟩⟩⟩
theorem mul_idL {r c : Nat} {t : Tb} (h : TOk t r c) : mul r r c (idT r) t = t := by
  refine Eq.trans ?_ (mk_at2 h.toDim)
  refine mk_congr fun i j hi hj => ?_
  refine Eq.trans (cmb_congr (a' := fun k => if i = k then 1 else 0) (b' := fun k => at2 t k j) fun k hk => ⟨at2_mk hi hk, rfl⟩) ?_
  exact cmb_unitL hi (h.at2 i j).1
theorem mul_idR {r c : Nat} {t : Tb} (h : TOk t r c) : mul r c c t (idT c) = t := by
  refine Eq.trans ?_ (mk_at2 h.toDim)
  refine mk_congr fun i j hi hj => ?_
  refine Eq.trans (cmb_congr (a' := at2 t i) (b' := fun k => if k = j then 1 else 0) fun k hk => ⟨rfl, at2_mk hk hj⟩) ?_
  exact cmb_unitR hj (h.at2 i j).1
/-! ### as data -/
def rD (row : List Int) : D := .tup (row.map .int)
def tD (t : Tb) : D := .tup (t.map rD)
theorem eqBs_ints : ∀ {a b : List Int}, eqBs (a.map .int) (b.map .int) = decide (a = b)
  | [], [] => rfl
  | [], _ :: _ => rfl
  | _ :: _, [] => rfl
  | x :: xs, y :: ys => by
    simp only [List.map_cons, eqBs, eqB, eqBs_ints, List.cons.injEq]
    by_cases h : x = y <;> simp [h]
theorem eqBs_rows : ∀ {a b : Tb}, eqBs (a.map rD) (b.map rD) = decide (a = b)
  | [], [] => rfl
  | [], _ :: _ => rfl
  | _ :: _, [] => rfl
  | x :: xs, y :: ys => by
    have e := eqBs_rows (a := xs) (b := ys)
    have e2 : eqB (rD x) (rD y) = decide (x = y) := by unfold rD; rw [eqB]; exact eqBs_ints
    simp only [List.map_cons, eqBs, e, e2, List.cons.injEq]
    by_cases h : x = y <;> simp [h]
theorem shD_t {t : Tb} : shD 64 (tD t) = true := by
  simp [tD, shD, rD]
@[simp] theorem eqD_t {a b : Tb} : eqD (tD a) (tD b) = some (.val (.bl (decide (a = b)))) := by
  have e : eqD (tD a) (tD b) = if shD 64 (tD a) = true ∧ shD 64 (tD b) = true then some (.val (.bl (eqB (tD a) (tD b)))) else none := rfl
  rw [e, if_pos ⟨shD_t, shD_t⟩]
  have : eqB (tD a) (tD b) = decide (a = b) := by unfold tD; rw [eqB]; exact eqBs_rows
  rw [this]
@[simp] theorem neD_t {a b : Tb} : neD (tD a) (tD b) = some (.val (.bl (!decide (a = b)))) := by
  have e : neD (tD a) (tD b) = if shD 64 (tD a) = true ∧ shD 64 (tD b) = true then some (.val (.bl (!eqB (tD a) (tD b)))) else none := rfl
  rw [e, if_pos ⟨shD_t, shD_t⟩]
  have : eqB (tD a) (tD b) = decide (a = b) := by unfold tD; rw [eqB]; exact eqBs_rows
  rw [this]
end Fw
namespace Fw
open PySem L2
@[simp] theorem rgL_len {lo : Int} {n : Nat} : (rgL lo n).length = n := by simp [rgL]
theorem rgL_get {n i : Nat} {d : D} (h : (rgL 0 n)[i]? = some d) : i < n ∧ d = .int (i : Nat) := by
  have hl := (List.getElem?_eq_some_iff.mp h).1
  rw [rgL_len] at hl
  refine ⟨hl, ?_⟩
  unfold rgL at h
  rw [List.getElem?_map, List.getElem?_range hl] at h
  simp at h
  rw [← h]
theorem rgL_mem {n : Nat} {d : D} (h : d ∈ rgL 0 n) : ∃ i, i < n ∧ d = .int (i : Nat) := by
  obtain ⟨i, hi, rfl⟩ := List.mem_map.mp h
  exact ⟨i, by simpa using hi, by simp⟩
theorem rgL_map {n : Nat} {α : Type} {v : D → α} : (rgL 0 n).map v = (List.range n).map fun i => v (.int (i : Nat)) := by
  simp [rgL, Function.comp_def]
theorem atI_nat' {α : Type} {l : List α} {i : Nat} {x : α} (h : l[i]? = some x) : L2.atI l (i : Nat) = some x := atI_ge (by omega) (by simpa using h)
theorem atI_map {α β : Type} {f : α → β} {l : List α} {i : Int} : L2.atI (l.map f) i = (L2.atI l i).map f := by
  unfold L2.atI
  rw [List.length_map]
  cases L2.ixN l.length i with
  | none => rfl
  | some j => simp
@[simp] theorem ixD_t {t : Tb} {i : Int} : ixD (tD t) (.int i) = (L2.atI t i).map fun r => .val (rD r) := by
  show (L2.atI (t.map rD) i).map EV.val = _
  rw [atI_map]; cases L2.atI t i <;> rfl
@[simp] theorem ixD_r {t : List Int} {i : Int} : ixD (rD t) (.int i) = (L2.atI t i).map fun r => .val (.int r) := by
  show (L2.atI (t.map D.int) i).map EV.val = _
  rw [atI_map]; cases L2.atI t i <;> rfl
@[simp] theorem bLen_t {t : Tb} : bLen [tD t] = some (.val (.int (t.length : Nat))) := by simp [tD]
@[simp] theorem bLen_r {t : List Int} : bLen [rD t] = some (.val (.int (t.length : Nat))) := by simp [rD]
@[simp] theorem itemsD_t {t : Tb} : itemsD (.val (tD t)) = some (t.map rD) := rfl
@[simp] theorem itemsD_r {t : List Int} : itemsD (.val (rD t)) = some (t.map .int) := rfl
theorem flatten_rep {d : D} : ∀ c : Nat, (List.replicate c [d]).flatten = List.replicate c d
  | 0 => rfl
  | c + 1 => by rw [List.replicate_succ, List.flatten_cons, flatten_rep c]; rfl
theorem mulD_one {d : D} {c : Nat} (h : c ≤ 16777216) : mulD (.lst [d]) (.int (c : Nat)) = some (.new (.lst (List.replicate c d))) := by
  have e : mulD (.lst [d]) (.int (c : Nat)) = if (c : Int) ≤ 16777216 ∧ -16777216 ≤ (c : Int) ∧ [d].length * (c : Int).toNat ≤ 16777216 then some (.new (.lst (List.replicate (c : Int).toNat [d]).flatten)) else none := rfl
  rw [e, if_pos ⟨by omega, by omega, by simp; omega⟩, Int.toNat_natCast, flatten_rep]
theorem setO_nat {ds : List D} {j : Nat} {d : D} (h : j < ds.length) : setO (.lst ds) (.int (j : Nat)) d = some (.lst (ds.set j d)) := by
  rw [setO_lst]
  unfold L2.ixN
  rw [if_pos (by omega), if_pos (by omega)]
  simp
theorem ixN_nat {n j : Nat} (h : j < n) : L2.ixN n (j : Nat) = some j := by
  unfold L2.ixN
  rw [if_pos (by omega), if_pos (by omega)]
  simp
theorem set_range {α : Type} {g : Nat → α} {c j : Nat} {v : α} : ((List.range c).map g).set j v = (List.range c).map fun k => if k = j then v else g k := by
  refine List.ext_getElem? fun i => ?_
  rw [List.getElem?_set, List.getElem?_map, List.getElem?_map]
  by_cases hi : i < c
  · rw [List.getElem?_range hi]
    by_cases hj : j = i
    · subst hj; simp [hi]
    · rw [if_neg hj]; simp; intro z; exact absurd z.symm hj
  · rw [List.getElem?_eq_none (l := List.range c) (by simp; omega)]
    by_cases hj : j = i
    · subst hj; simp; omega
    · rw [if_neg hj]; rfl
theorem gAppend_ok {ds : List D} {d : D} (h : ds.length < 16777216) : gAppend (.lst ds) [d] = some (.non, .lst (ds ++ [d])) := by
  exact if_pos h
theorem rowAt {a : Tb} {r c i : Nat} (h : Dim a r c) (hi : i < r) : ∃ row, a[i]? = some row ∧ row.length = c ∧ ∀ j, j < c → row[j]? = some (at2 a i j) := by
  have hi' : i < a.length := by rw [h.rows]; exact hi
  refine ⟨a[i], List.getElem?_eq_getElem hi', h.cols _ (List.getElem_mem hi'), fun j hj => ?_⟩
  have hl := h.cols _ (List.getElem_mem hi')
  unfold at2
  rw [List.getElem?_eq_getElem hi', Option.getD_some, List.getElem?_eq_getElem (by omega)]
  rfl
end Fw
set_option linter.all false
set_option maxRecDepth 100000
namespace Fw
open PySem L2
variable {Q : EV → MS → Prop} {E : EX → MS → Prop}
theorem mk_rows {r c : Nat} {f : Nat → Nat → Int} : (mk r c f).map rD = (List.range r).map fun i => D.tup ((List.range c).map fun j => .int (f i j)) := by
  simp [mk, rD, Function.comp_def]
theorem take_range {α : Type} {g : Nat → α} {r i : Nat} (hi : i < r) : ((List.range r).map g).take (i + 1) = ((List.range r).map g).take i ++ [g i] := by
  rw [List.take_add_one, List.getElem?_map, List.getElem?_range hi]; rfl
theorem take_all {α : Type} {g : Nat → α} {r n : Nat} (h : r ≤ n) : ((List.range r).map g).take n = (List.range r).map g := List.take_of_length_le (by simp; exact h)
theorem range_at {α : Type} {g : Nat → α} {c j : Nat} (h : j < c) : ((List.range c).map g)[j]? = some (g j) := by
  rw [List.getElem?_map, List.getElem?_range h]; rfl
theorem run_compose {a b : Tb} {r n c : Nat} (ha : Dim a r n) (hb : Dim b n c) (hr : r ≤ 1000) (hn : n ≤ 1000) (hc : c ≤ 1000) (q : Q (.val (tD (mul r n c a b))) [.unk, .unk, .unk]) : Wp fm_compose [.val (tD a), .val (tD b), .val (.int (c : Nat))] Q E := by
  unfold fm_compose
  rw [run_fm]
  refine ⟨rfl, ?_⟩
  unfold f_compose
  simp
  refine run_for (fun i ms => ∃ s4 s5 s6 s7 s8 s9, (lo s4 = true ∧ lo s5 = true ∧ lo s6 = true ∧ lo s7 = true ∧ lo s8 = true ∧ lo s9 = true) ∧ ms = [.val (tD a), .val (tD b), .val (.int (c : Nat)), .own false (.lst (((mul r n c a b).map rD).take i)), s4, s5, s6, s7, s8, s9]) _ ⟨.unk, .unk, .unk, .unk, .unk, .unk, by simp, by simp⟩ (fun i d ms hd ⟨s4, s5, s6, s7, s8, s9, ⟨h4, h5, h6, h7, h8, h9⟩, e⟩ => ?_) (fun ms ⟨s4, s5, s6, s7, s8, s9, _, e⟩ => ?_)
  · subst e
    rw [List.getElem?_map] at hd
    obtain ⟨row, hrow, rfl⟩ := Option.map_eq_some_iff.mp hd
    have hi : i < r := by rw [← ha.rows]; exact (List.getElem?_eq_some_iff.mp hrow).1
    obtain ⟨row', hrow', hlen, hat⟩ := rowAt ha hi
    rw [hrow] at hrow'; cases hrow'
    simp [h4, f_compose_L3, mulD_one (show c ≤ 16777216 by omega), h5]
    refine ⟨by omega, ?_⟩
    refine run_for (fun m ms => ∃ s6 s7 s8 s9, (lo s6 = true ∧ lo s7 = true ∧ lo s8 = true ∧ lo s9 = true) ∧ ms = [.val (tD a), .val (tD b), .val (.int (c : Nat)), .own false (.lst (((mul r n c a b).map rD).take i)), .val (rD row), .own false (.lst ((List.range c).map fun j => .int (cmb m (at2 a i) fun k => at2 b k j))), s6, s7, s8, s9]) _ ⟨s6, s7, s8, s9, ⟨h6, h7, h8, h9⟩, ?_⟩ (fun m d ms hd ⟨s6, s7, s8, s9, ⟨h6, h7, h8, h9⟩, e⟩ => ?_) (fun ms ⟨s6, s7, s8, s9, ⟨h6, h7, h8, h9⟩, e⟩ => ?_)
    · have : List.replicate c (D.int 0) = (List.range c).map fun j => .int (cmb 0 (at2 a i) fun k => at2 b k j) := by
        refine List.ext_getElem? fun j => ?_
        by_cases hj : j < c
        · rw [range_at hj]; simp [hj, cmb]
        · rw [List.getElem?_eq_none (by simp; omega), List.getElem?_eq_none (by simp; omega)]
      rw [this]
    · subst e
      obtain ⟨hm, rfl⟩ := rgL_get hd
      rw [hlen] at hm
      obtain ⟨rowb, hrowb, hlenb, hatb⟩ := rowAt hb hm
      simp [f_compose_L2, h6, h7, atI_nat' (hat m hm)]
      refine ⟨fun hp => ?_, fun hp => ?_⟩
      · simp [h8, atI_nat' hrowb]
        refine ⟨by omega, ?_⟩
        refine run_for (fun j ms => ∃ s9, lo s9 = true ∧ ms = [.val (tD a), .val (tD b), .val (.int (c : Nat)), .own false (.lst (((mul r n c a b).map rD).take i)), .val (rD row), .own false (.lst ((List.range c).map fun k => .int (cmb (if k < j then m + 1 else m) (at2 a i) fun l => at2 b l k))), .val (.int (m : Nat)), .val (.int (at2 a i m)), .val (rD rowb), s9]) _ ⟨s9, h9, by simp⟩ (fun j d ms hd ⟨s9, h9, e⟩ => ?_) (fun ms ⟨s9, h9, e⟩ => ?_)
        · subst e
          obtain ⟨hj, rfl⟩ := rgL_get hd
          have hx : ((List.range c).map fun k => D.int (cmb (if k < j then m + 1 else m) (at2 a i) fun l => at2 b l k))[j]? = some (.int (cmb m (at2 a i) fun l => at2 b l j)) := by
            rw [range_at hj]; simp
          simp [f_compose_L1, h9, atI_nat' (hatb j hj), atI_nat' hx]
          refine ⟨fun hq => ?_, fun hq => ?_⟩
          · refine opK_of (ixN_nat hj) ⟨.val (.int (j : Nat)), rfl, ?_⟩
            rw [set_range]
            congr 7
            congr 1
            refine List.map_congr_left fun k hk => ?_
            by_cases c1 : k = j
            · subst c1
              simp [cmb, hp, hq]
            · rw [if_neg c1]
              have : (k < j) = (k < j + 1) := propext ⟨fun _ => by omega, fun _ => by omega⟩
              simp only [this]
          · intro k hk
            by_cases c1 : k = j
            · subst c1
              have : ¬ (0 < at2 a i m ∧ 0 < at2 b m k) := fun z => by omega
              simp [cmb, this]
              exact (Int.max_eq_left cmb_nn).symm
            · have : (k < j) = (k < j + 1) := propext ⟨fun _ => by omega, fun _ => by omega⟩
              simp only [this]
        · subst e
          simp only [bkK_nx]
          refine ⟨.val (.int (m : Nat)), .val (.int (at2 a i m)), .val (rD rowb), s9, ⟨rfl, rfl, rfl, h9⟩, ?_⟩
          congr 7
          simp only [rgL_len]
          congr 1
          refine List.map_congr_left fun k hk => ?_
          rw [if_pos (by simpa using hk)]
      · refine ⟨.val (.int (m : Nat)), .val (.int (at2 a i m)), s8, s9, ⟨rfl, rfl, h8, h9⟩, ?_⟩
        simp
        intro k hk
        have : ¬ (0 < at2 a i m ∧ 0 < at2 b m k) := fun z => by omega
        simp [cmb, this]
        exact (Int.max_eq_left cmb_nn).symm
    · subst e
      rw [rgL_len, hlen]
      simp
      refine opK_of (gAppend_ok (by simp; omega)) ⟨.val (rD row), .own false (.lst ((List.range c).map fun j => .int (cmb n (at2 a i) fun k => at2 b k j))), s6, s7, s8, s9, ⟨rfl, rfl, h6, h7, h8, h9⟩, ?_⟩
      congr 4
      congr 1
      unfold mul
      rw [mk_rows, take_range hi]
  · subst e
    simp
    unfold mul
    rw [mk_rows, take_all (by rw [ha.rows]; exact Nat.le_refl _), ← mk_rows]
    exact q
end Fw
set_option linter.all false
set_option maxRecDepth 100000
namespace Fw
open PySem L2
variable {Q : EV → MS → Prop} {E : EX → MS → Prop}
theorem maxL_le {ns : List Int} (h : ns ≠ []) {z : Int} : maxL ns ≤ z ↔ ∀ y ∈ ns, y ≤ z :=
  ⟨fun q y hy => Int.le_trans (maxL_ge hy) q, fun q => q _ (maxL_mem h)⟩
def natOf : D → Nat
  | .int i => i.toNat
  | _ => 0
@[simp] theorem natOf_int {k : Nat} : natOf (.int (k : Nat)) = k := by simp [natOf]
theorem maxL_cmb {n : Nat} {a b : Nat → Int} : maxL (0 :: (((List.range n).filter fun k => decide (0 < a k) && decide (0 < b k)).map fun k => max (a k) (b k))) = cmb n a b := by
  refine eq_of_le fun z => ?_
  rw [maxL_le (by simp), cmb_le]
  constructor
  · intro h
    refine ⟨h 0 (by simp), fun k hk ha hb => ?_⟩
    have := h (max (a k) (b k)) (List.mem_cons_of_mem _ (List.mem_map.mpr ⟨k, List.mem_filter.mpr ⟨by simpa using hk, by simp [ha, hb]⟩, rfl⟩))
    omega
  · rintro ⟨h0, h⟩ y hy
    rcases List.mem_cons.mp hy with e | hy
    · omega
    · obtain ⟨k, hk, rfl⟩ := List.mem_map.mp hy
      obtain ⟨h1, h2⟩ := List.mem_filter.mp hk
      simp at h2
      have := h k (by simpa using h1) h2.1 h2.2
      omega
theorem intsD_map : ∀ {ns : List Int}, intsD (ns.map D.int) = some ns
  | [] => rfl
  | n :: ns => by rw [List.map_cons, intsD, intsD_map]; rfl
theorem bMax_lst {n : Int} {ns : List Int} : bMax [.lst (.int n :: ns.map .int)] = some (.val (.int (maxL (n :: ns)))) := by
  have e : intsD (.int n :: ns.map .int) = some (n :: ns) := intsD_map (ns := n :: ns)
  show (match intsD (.int n :: ns.map .int) with | some (n :: ns) => _ | _ => none) = _
  rw [e]
theorem addD_lst {a b : List D} (h : a.length + b.length ≤ 16777216) : addD (.lst a) (.lst b) = some (.new (.lst (a ++ b))) := if_pos h
theorem run_through {a b : Tb} {r n c : Nat} (ha : Dim a r n) (hb : Dim b n c) (hr : r ≤ 1000) (hn : n ≤ 1000) (hc : c ≤ 1000) (q : Q (.val (tD (mul r n c a b))) [.unk, .unk, .unk, .unk]) : Wp fm_law_through [.val (tD a), .val (tD b), .val (.int (r : Nat)), .val (.int (c : Nat))] Q E := by
  unfold fm_law_through
  rw [run_fm]
  refine ⟨rfl, ?_⟩
  unfold f_law_through
  simp
  refine ⟨by omega, ?_⟩
  refine run_for (fun i ms => ∃ s5 s6 s7 s8 s9, (lo s5 = true ∧ lo s6 = true ∧ lo s7 = true ∧ lo s8 = true ∧ s9 = .unk) ∧ ms = [.val (tD a), .val (tD b), .val (.int (r : Nat)), .val (.int (c : Nat)), .own false (.lst (((mul r n c a b).map rD).take i)), s5, s6, s7, s8, s9]) _ ⟨.unk, .unk, .unk, .unk, .unk, by simp, by simp⟩ (fun i d ms hd ⟨s5, s6, s7, s8, s9, ⟨h5, h6, h7, h8, h9⟩, e⟩ => ?_) (fun ms ⟨s5, s6, s7, s8, s9, _, e⟩ => ?_)
  · subst e
    obtain ⟨hi, rfl⟩ := rgL_get hd
    obtain ⟨row, hrow, hlen, hat⟩ := rowAt ha hi
    simp [h5, f_law_through_L4, h6]
    refine ⟨by omega, ?_⟩
    refine run_for (fun j ms => ∃ s7 s8, (lo s7 = true ∧ lo s8 = true) ∧ ms = [.val (tD a), .val (tD b), .val (.int (r : Nat)), .val (.int (c : Nat)), .own false (.lst (((mul r n c a b).map rD).take i)), .val (.int (i : Nat)), .own false (.lst (((List.range c).map fun j => .int (cmb n (at2 a i) fun k => at2 b k j)).take j)), s7, s8, .unk]) _ ⟨s7, s8, ⟨h7, h8⟩, by simp [h9]⟩ (fun j d ms hd ⟨s7, s8, ⟨h7, h8⟩, e⟩ => ?_) (fun ms ⟨s7, s8, ⟨h7, h8⟩, e⟩ => ?_)
    · subst e
      obtain ⟨hj, rfl⟩ := rgL_get hd
      simp [h7, f_law_through_L3, f_law_through_C2, hb.rows]
      refine ⟨by omega, ?_⟩
      refine run_compF (fun d => decide (0 < at2 a i (natOf d)) && decide (0 < at2 b (natOf d) j)) (fun d => .int (max (at2 a i (natOf d)) (at2 b (natOf d) j))) _ _ (fun d hd => ?_) ?_
      · obtain ⟨k, hk, rfl⟩ := rgL_mem hd
        obtain ⟨rowb, hrowb, hlenb, hatb⟩ := rowAt hb hk
        simp [f_law_through_E1, atI_nat' hrow, atI_nat' (hat k hk), atI_nat' hrowb, atI_nat' (hatb j hj)]
        omega
      · have e : ([] : List D) ++ ((rgL 0 n).filter fun d => decide (0 < at2 a i (natOf d)) && decide (0 < at2 b (natOf d) j)).map (fun d => .int (max (at2 a i (natOf d)) (at2 b (natOf d) j))) = (((List.range n).filter fun k => decide (0 < at2 a i k) && decide (0 < at2 b k j)).map fun k => max (at2 a i k) (at2 b k j)).map .int := by
          simp [rgL, List.filter_map, Function.comp_def]
        rw [e]
        have el : ((((List.range n).filter fun k => decide (0 < at2 a i k) && decide (0 < at2 b k j)).map fun k => max (at2 a i k) (at2 b k j)).map D.int).length ≤ n := by
          rw [List.length_map, List.length_map]
          exact Nat.le_trans (List.length_filter_le _ _) (by simp)
        generalize hL : (((List.range n).filter fun k => decide (0 < at2 a i k) && decide (0 < at2 b k j)).map fun k => max (at2 a i k) (at2 b k j)) = L at el ⊢
        simp [h8]
        rw [addD_lst (by simp at el ⊢; omega)]
        simp [bMax_lst]
        refine opK_of (gAppend_ok (by simp; omega)) ⟨.val (.int (j : Nat)), .own false (.lst (L.map .int)), ⟨rfl, rfl⟩, ?_⟩
        rw [take_range hj]
        congr 7
        congr 1
        congr 1
        rw [← hL, maxL_cmb]
    · subst e
      rw [rgL_len, take_all (Nat.le_refl _)]
      simp
      refine opK_of (gAppend_ok (by simp; omega)) ⟨.val (.int (i : Nat)), .own false (.lst ((List.range c).map fun j => .int (cmb n (at2 a i) fun k => at2 b k j))), s7, s8, .unk, ⟨rfl, rfl, h7, h8, rfl⟩, ?_⟩
      congr 5
      unfold mul
      rw [mk_rows, take_range hi]
  · subst e
    simp
    unfold mul
    rw [mk_rows, take_all (Nat.le_refl _), ← mk_rows]
    exact q
end Fw
set_option linter.all false
set_option maxRecDepth 100000
namespace Fw
open PySem L2
variable {Q : EV → MS → Prop} {E : EX → MS → Prop}
/-- kinds of things that a bent table holds -/
def fine : D → Bool
  | .non | .bl _ | .int _ | .str _ | .tup _ | .lst _ => true
  | _ => false
def isTupB : D → Bool
  | .tup _ => true
  | _ => false
def isBoolB : D → Bool
  | .bl _ => true
  | _ => false
def isIntB : D → Bool
  | .bl _ | .int _ => true
  | _ => false
theorem isi_tuple {d : D} (h : fine d = true) : bIsI [d, .ty "tuple"] = some (.val (.bl (isTupB d))) := by
  cases d <;> first | cases h; done | rfl
theorem isi_bool {d : D} (h : fine d = true) : bIsI [d, .ty "bool"] = some (.val (.bl (isBoolB d))) := by
  cases d <;> first | cases h; done | rfl
theorem isi_int {d : D} (h : fine d = true) : bIsI [d, .ty "int"] = some (.val (.bl (isIntB d))) := by
  cases d <;> first | cases h; done | rfl
def entB : D → Bool
  | .int i => decide (0 ≤ i ∧ i ≤ 2)
  | _ => false
def rowB (c : Nat) : D → Bool
  | .tup es => decide (es.length = c) && es.all entB
  | _ => false
def tabB (r c : Nat) : D → Bool
  | .tup rs => decide (rs.length = r) && rs.all (rowB c)
  | _ => false
def fineR : D → Bool
  | .tup es => es.all fine
  | d => fine d
def fineT : D → Bool
  | .tup rs => rs.all fineR
  | d => fine d
theorem fineR_fine {d : D} (h : fineR d = true) : fine d = true := by cases d <;> first | rfl | exact h
theorem fineT_fine {d : D} (h : fineT d = true) : fine d = true := by cases d <;> first | rfl | exact h
theorem run_is_int {d : D} (h : fine d = true) (q : Q (.val (.bl (isIntB d && !isBoolB d))) [.unk]) : Wp fm_law_is_int [.val d] Q E := by
  unfold fm_law_is_int
  rw [run_fm]
  refine ⟨rfl, ?_⟩
  unfold f_law_is_int
  simp [isi_int h, isi_bool h]
  refine ⟨fun e => ?_, fun e => ?_⟩
  · rw [e] at q; simpa using q
  · rw [e] at q ⊢; exact q
theorem run_is_table {d : D} {r c : Nat} (h : fineT d = true) (q : Q (.val (.bl (tabB r c d))) [.unk, .unk, .unk]) : Wp fm_is_table [.val d, .val (.int (r : Nat)), .val (.int (c : Nat))] Q E := by
  unfold fm_is_table
  rw [run_fm]
  refine ⟨rfl, ?_⟩
  unfold f_is_table
  by_cases ht : isTupB d = true
  case neg =>
    simp [isi_tuple (fineT_fine h), ht]
    have e : tabB r c d = false := by cases d <;> first | rfl | exact absurd rfl ht
    rw [e] at q; exact q
  obtain ⟨rs, rfl⟩ : ∃ rs, d = .tup rs := by cases d <;> first | exact ⟨_, rfl⟩ | cases ht
  simp [isi_tuple (d := .tup rs) rfl, isTupB]
  by_cases hl : rs.length = r
  case neg =>
    have : ¬ ((rs.length : Int) = r) := by omega
    simp [this]
    have e : tabB r c (.tup rs) = false := by simp [tabB, hl]
    rw [e] at q; exact q
  have : (rs.length : Int) = r := by omega
  simp [this]
  have hf : ∀ x ∈ rs, fineR x = true := List.all_eq_true.mp h
  refine run_for (fun i ms => ∃ s3 s4, (lo s3 = true ∧ lo s4 = true ∧ ∀ x ∈ rs.take i, rowB c x = true) ∧ ms = [.val (.tup rs), .val (.int (r : Nat)), .val (.int (c : Nat)), s3, s4]) _ ⟨.unk, .unk, by simp, by simp⟩ (fun i d ms hd ⟨s3, s4, ⟨h3, h4, hr⟩, e⟩ => ?_) (fun ms ⟨s3, s4, ⟨h3, h4, hr⟩, e⟩ => ?_)
  · subst e
    have hm := List.mem_of_getElem? hd
    have hfd := hf d hm
    have bad : rowB c d = false → tabB r c (.tup rs) = false := fun z => by
      unfold tabB
      rw [Bool.and_eq_false_iff]
      exact .inr (List.all_eq_false.mpr ⟨d, hm, by rw [z]; simp⟩)
    simp [h3, f_is_table_L2, isi_tuple (fineR_fine hfd)]
    by_cases ht : isTupB d = true
    case neg =>
      have e : rowB c d = false := by cases d <;> first | rfl | exact absurd rfl ht
      simp [ht]
      rw [bad e] at q; exact q
    obtain ⟨es, rfl⟩ : ∃ es, d = .tup es := by cases d <;> first | exact ⟨_, rfl⟩ | cases ht
    simp [isTupB]
    by_cases hl : es.length = c
    case neg =>
      have : ¬ ((es.length : Int) = c) := by omega
      simp [this]
      rw [bad (by simp [rowB, hl])] at q; exact q
    have : (es.length : Int) = c := by omega
    simp [this]
    have hfe : ∀ x ∈ es, fine x = true := List.all_eq_true.mp hfd
    refine run_for (fun j ms => ∃ s4, (lo s4 = true ∧ ∀ x ∈ es.take j, entB x = true) ∧ ms = [.val (.tup rs), .val (.int (r : Nat)), .val (.int (c : Nat)), .val (.tup es), s4]) _ ⟨s4, ⟨h4, by simp⟩, rfl⟩ (fun j d ms hd ⟨s4, ⟨h4, he⟩, e⟩ => ?_) (fun ms ⟨s4, ⟨h4, he⟩, e⟩ => ?_)
    · subst e
      have hm2 := List.mem_of_getElem? hd
      have hfd2 := hfe d hm2
      have bad2 : entB d = false → tabB r c (.tup rs) = false := fun z => bad (by
        unfold rowB
        rw [Bool.and_eq_false_iff]
        exact .inr (List.all_eq_false.mpr ⟨d, hm2, by rw [z]; simp⟩))
      have good : entB d = true → ∀ x ∈ es.take (j + 1), entB x = true := fun z x hx => by
        rw [List.take_add_one, hd] at hx
        rcases List.mem_append.mp hx with y | y
        · exact he x y
        · simp at y; rw [y]; exact z
      simp [h4, f_is_table_L1, isi_bool hfd2, isi_int hfd2]
      by_cases hb : isBoolB d = true
      case pos =>
        have e : entB d = false := by cases d <;> first | rfl | cases hb
        simp [hb]
        rw [bad2 e] at q; exact q
      simp [hb]
      by_cases hi : isIntB d = true
      case neg =>
        have e : entB d = false := by cases d <;> first | rfl | exact absurd rfl hi
        simp [hi]
        rw [bad2 e] at q; exact q
      obtain ⟨i, rfl⟩ : ∃ i, d = .int i := by cases d <;> first | exact ⟨_, rfl⟩ | exact absurd (rfl : true = true) hb | (cases hi; done)
      simp [isIntB]
      refine ⟨fun z => ?_, fun z => ⟨fun z2 => ?_, fun z2 => ?_⟩⟩
      · rw [bad2 (by simp [entB]; omega)] at q; exact q
      · rw [bad2 (by simp [entB]; omega)] at q; exact q
      · exact good (by simp [entB]; omega)
    · subst e
      simp
      refine ⟨h4, fun x hx => ?_⟩
      rw [List.take_add_one, hd] at hx
      rcases List.mem_append.mp hx with y | y
      · exact hr x y
      · simp at y; rw [y]
        rw [List.take_length] at he
        simp only [rowB, hl, decide_true, Bool.true_and]
        exact List.all_eq_true.mpr he
  · subst e
    rw [List.take_length] at hr
    simp
    have e : tabB r c (.tup rs) = true := by
      simp only [tabB, hl, decide_true, Bool.true_and]
      exact List.all_eq_true.mpr hr
    rw [e] at q; exact q
end Fw
set_option linter.all false
set_option maxRecDepth 100000
namespace Fw
open PySem L2
variable {Q : EV → MS → Prop} {E : EX → MS → Prop}
theorem blsD_map {α : Type} {f : α → Bool} : ∀ {l : List α}, blsD (l.map fun x => D.bl (f x)) = some (l.map f)
  | [] => rfl
  | x :: l => by rw [List.map_cons, blsD, blsD_map]; rfl
theorem bAll_map {α : Type} {f : α → Bool} {l : List α} : bAll [.lst (l.map fun x => D.bl (f x))] = some (.val (.bl (l.all f))) := by
  show (blsD _).map _ = _
  rw [blsD_map]; simp [List.all_map, Function.comp_def]
theorem bAny_map {α : Type} {f : α → Bool} {l : List α} : bAny [.lst (l.map fun x => D.bl (f x))] = some (.val (.bl (l.any f))) := by
  show (blsD _).map _ = _
  rw [blsD_map]; simp [List.any_map, Function.comp_def]
theorem run_right {d : D} {r c : Nat} (h : fineT d = true) (q : Q (.val (.bl (tabB r c d))) [.unk, .unk, .unk]) : Wp fm_law_right_table [.val d, .val (.int (r : Nat)), .val (.int (c : Nat))] Q E := by
  unfold fm_law_right_table
  rw [run_fm]
  refine ⟨rfl, ?_⟩
  unfold f_law_right_table
  by_cases ht : isTupB d = true
  case neg =>
    simp [isi_tuple (fineT_fine h), ht]
    have e : tabB r c d = false := by cases d <;> first | rfl | exact absurd rfl ht
    rw [e] at q; exact q
  obtain ⟨rs, rfl⟩ : ∃ rs, d = .tup rs := by cases d <;> first | exact ⟨_, rfl⟩ | cases ht
  simp [isi_tuple (d := .tup rs) rfl, isTupB]
  by_cases hl : rs.length = r
  case neg =>
    have : ¬ ((rs.length : Int) = r) := by omega
    simp [this]
    have e : tabB r c (.tup rs) = false := by simp [tabB, hl]
    rw [e] at q; exact q
  have : (rs.length : Int) = r := by omega
  simp [this]
  have hf : ∀ x ∈ rs, fineR x = true := List.all_eq_true.mp h
  refine run_for (fun i ms => ∃ s3, (lo s3 = true ∧ ∀ x ∈ rs.take i, rowB c x = true) ∧ ms = [.val (.tup rs), .val (.int (r : Nat)), .val (.int (c : Nat)), s3, .unk]) _ ⟨.unk, by simp, by simp⟩ (fun i d ms hd ⟨s3, ⟨h3, hr⟩, e⟩ => ?_) (fun ms ⟨s3, ⟨h3, hr⟩, e⟩ => ?_)
  · subst e
    have hm := List.mem_of_getElem? hd
    have hfd := hf d hm
    have bad : rowB c d = false → tabB r c (.tup rs) = false := fun z => by
      unfold tabB
      rw [Bool.and_eq_false_iff]
      exact .inr (List.all_eq_false.mpr ⟨d, hm, by rw [z]; simp⟩)
    simp [h3, f_law_right_table_L3, isi_tuple (fineR_fine hfd)]
    by_cases ht : isTupB d = true
    case neg =>
      have e : rowB c d = false := by cases d <;> first | rfl | exact absurd rfl ht
      simp [ht]
      rw [bad e] at q; exact q
    obtain ⟨es, rfl⟩ : ∃ es, d = .tup es := by cases d <;> first | exact ⟨_, rfl⟩ | cases ht
    simp [isTupB]
    by_cases hl : es.length = c
    case neg =>
      have : ¬ ((es.length : Int) = c) := by omega
      simp [this]
      rw [bad (by simp [rowB, hl])] at q; exact q
    have : (es.length : Int) = c := by omega
    simp [this, f_law_right_table_C2]
    have hfe : ∀ x ∈ es, fine x = true := List.all_eq_true.mp hfd
    refine run_compM (fun d => .bl (entB d)) _ _ (fun d hd => ?_) ?_
    · simp [f_law_right_table_E1]
      refine run_is_int (hfe d hd) ?_
      simp
      refine ⟨fun z1 z2 => ?_, fun z => ?_⟩
      · obtain ⟨i, rfl⟩ : ∃ i, d = .int i := by cases d <;> first | exact ⟨_, rfl⟩ | (cases z1; done) | (cases z2; done)
        simp
        refine ⟨fun _ => ?_, fun _ => ?_⟩ <;> simp [entB] <;> omega
      · cases d <;> first | rfl | (simp [isIntB, isBoolB] at z; done)
    · have e := bAll_map (f := entB) (l := es)
      cases hb : es.all entB with
      | true =>
        rw [hb] at e
        simp [e]
        intro x hx
        rw [List.take_add_one, hd] at hx
        rcases List.mem_append.mp hx with y | y
        · exact hr x y
        · simp at y; rw [y]
          simp only [rowB, hl, decide_true, Bool.true_and]
          exact hb
      | false =>
        rw [hb] at e
        simp [e]
        rw [bad (by simp only [rowB, hb, Bool.and_false])] at q; exact q
  · subst e
    rw [List.take_length] at hr
    simp
    have e : tabB r c (.tup rs) = true := by
      simp only [tabB, hl, decide_true, Bool.true_and]
      exact List.all_eq_true.mpr hr
    rw [e] at q; exact q
end Fw
set_option linter.all false
set_option maxRecDepth 100000
namespace Fw
open PySem L2
variable {Q : EV → MS → Prop} {E : EX → MS → Prop}
theorem run_says {a b : Bool} (q : Q (.val (.bl (decide (a = b)))) [.unk, .unk]) : Wp fm_law_says [.val (.bl a), .val (.bl b)] Q E := by
  unfold fm_law_says
  rw [run_fm]
  refine ⟨rfl, ?_⟩
  unfold f_law_says
  simp [isi_bool (d := .bl a) rfl, isBoolB]
  simpa using q
theorem tD_id {n : Nat} : D.tup ((rgL 0 n).map fun d => .tup ((rgL 0 n).map fun e => .int (if natOf d = natOf e then 1 else 0))) = tD (idT n) := by
  simp [tD, idT, mk, rgL_map, rD, Function.comp_def]
theorem run_same {n : Nat} (hn : n ≤ 1000) (q : Q (.val (tD (idT n))) [.unk]) : Wp fm_same_table [.val (.int (n : Nat))] Q E := by
  unfold fm_same_table
  rw [run_fm]
  refine ⟨rfl, ?_⟩
  unfold f_same_table f_same_table_C2
  simp
  refine ⟨by omega, ?_⟩
  refine run_compM (fun d => .tup ((rgL 0 n).map fun e => .int (if natOf d = natOf e then 1 else 0))) _ _ (fun d hd => ?_) ?_
  · obtain ⟨i, hi, rfl⟩ := rgL_mem hd
    simp [f_same_table_C1]
    refine ⟨by omega, ?_⟩
    refine run_compM (fun e => .int (if i = natOf e then 1 else 0)) _ _ (fun d hd => ?_) ?_
    · obtain ⟨j, hj, rfl⟩ := rgL_mem hd
      simp
      by_cases h : i = j <;> simp [h]
      omega
    · simp
  · simp
    rw [tD_id]
    exact q
theorem run_own_square {t : Tb} {n : Nat} (h : Dim t n n) (hn : n ≤ 1000) (q : Q (.val (.bl (decide (mul n n n t t = t)))) [.unk]) : Wp fm_is_own_square [.val (tD t)] Q E := by
  unfold fm_is_own_square
  rw [run_fm]
  refine ⟨rfl, ?_⟩
  unfold f_is_own_square
  simp
  rw [h.rows]
  refine run_compose h h hn hn hn ?_
  simpa using q
theorem run_own_fall {t : Tb} {n : Nat} (h : Dim t n n) (hn : n ≤ 1000) (q : Q (.val (.bl ((rgL 0 n).any fun d => decide (at2 t (natOf d) (natOf d) = 2)))) [.unk]) : Wp fm_has_own_fall [.val (tD t)] Q E := by
  unfold fm_has_own_fall
  rw [run_fm]
  refine ⟨rfl, ?_⟩
  unfold f_has_own_fall f_has_own_fall_C2
  simp [h.rows]
  refine ⟨by omega, ?_⟩
  refine run_compM (fun d => .bl (decide (at2 t (natOf d) (natOf d) = 2))) _ _ (fun d hd => ?_) ?_
  · obtain ⟨i, hi, rfl⟩ := rgL_mem hd
    obtain ⟨row, hrow, hlen, hat⟩ := rowAt h hi
    simp [f_has_own_fall_E1, atI_nat' hrow, atI_nat' (hat i hi)]
  · simp [bAny_map]
    simpa using q
/-- a drawn table -/
theorem run_drawn {o : OV} {r c : Nat} {ns : List Int} (h : DS o) (hr : r ≤ 1000) (hc : c ≤ 1000) (hne : ns ≠ []) (hl : ns.length ≤ 1000) (hns : ∀ x ∈ ns, 0 ≤ x ∧ x ≤ 2)
    (q : ∀ t o', DS o' → TOk t r c → Q (.val (tD t)) [.own true o', .unk, .unk, .unk]) : Wp fm_law_drawn_table [.own true o, .val (.int (r : Nat)), .val (.int (c : Nat)), .val (.lst (ns.map .int))] Q E := by
  unfold fm_law_drawn_table
  rw [run_fm]
  refine ⟨rfl, ?_⟩
  unfold f_law_drawn_table f_law_drawn_table_C3
  simp
  refine ⟨by omega, ?_⟩
  refine run_compL (fun i acc ms => ∃ (t : Tb) (o' : OV), DS o' ∧ TOk t i c ∧ acc = t.map rD ∧ ms = [.own true o', .val (.int (r : Nat)), .val (.int (c : Nat)), .val (.lst (ns.map .int)), .unk, .unk]) _ _ ⟨[], o, h, ⟨⟨rfl, by simp⟩, by simp⟩, rfl, rfl⟩ (fun i d acc ms hd ⟨t, o', ho, ht, ea, em⟩ => ?_) (fun acc ms ⟨t, o', ho, ht, ea, em⟩ => ?_)
  · subst ea em
    simp [f_law_drawn_table_C2]
    refine ⟨by omega, ?_⟩
    refine run_compL (fun j acc ms => ∃ (row : List Int) (o' : OV), DS o' ∧ row.length = j ∧ (∀ x ∈ row, 0 ≤ x ∧ x ≤ 2) ∧ acc = row.map .int ∧ ms = [.own true o', .val (.int (r : Nat)), .val (.int (c : Nat)), .val (.lst (ns.map .int)), .val d, .unk]) _ _ ⟨[], o', ho, rfl, by simp, rfl, rfl⟩ (fun j d2 acc ms hd ⟨row, o', ho, hr, hx, ea, em⟩ => ?_) (fun acc ms ⟨row, o', ho, hr, hx, ea, em⟩ => ?_)
    · subst ea em
      simp [f_law_drawn_table_E1]
      refine run_pick (ds := ns.map .int) ho (.inl rfl) (by simpa using hne) (by simp; omega) fun d3 o2 ho2 hd3 => ?_
      obtain ⟨x, hx3, rfl⟩ := List.mem_map.mp hd3
      simp
      refine ⟨row ++ [x], o2, ho2, by simp [hr], fun y hy => ?_, by simp, rfl⟩
      rcases List.mem_append.mp hy with z | z
      · exact hx y z
      · simp at z; rw [z]; exact hns x hx3
    · subst ea em
      rw [rgL_len] at hr
      simp
      refine ⟨t ++ [row], o', ho, ⟨⟨by simp [ht.rows], fun y hy => ?_⟩, fun y hy => ?_⟩, by simp [rD], rfl⟩
      · rcases List.mem_append.mp hy with z | z
        · exact ht.cols y z
        · simp at z; rw [z]; exact hr
      · rcases List.mem_append.mp hy with z | z
        · exact ht.ent y z
        · simp at z; rw [z]; exact hx
  · subst ea em
    rw [rgL_len] at ht
    simp
    exact q t o' ho ht
end Fw
set_option linter.all false
set_option maxRecDepth 100000
namespace Fw
open PySem L2
variable {Q : EV → MS → Prop} {E : EX → MS → Prop}
@[simp] theorem bList_t {t : Tb} : bList [tD t] = some (.new (.lst (t.map rD))) := rfl
@[simp] theorem bList_r {t : List Int} : bList [rD t] = some (.new (.lst (t.map .int))) := rfl
@[simp] theorem slD_t {t : Tb} {lo hi : Option Int} : slD (tD t) lo hi = some (.val (.tup (cutD (t.map rD) lo hi))) := rfl
@[simp] theorem slD_r {t : List Int} {lo hi : Option Int} : slD (rD t) lo hi = some (.val (.tup (cutD (t.map .int) lo hi))) := rfl
theorem addD_tup {a b : List D} (h : a.length + b.length ≤ 16777216) : addD (.tup a) (.tup b) = some (.val (.tup (a ++ b))) := if_pos h
theorem mulD_tup0 {c : Nat} (h : c ≤ 1000) : mulD (.tup [.int 0]) (.int (c : Nat)) = some (.val (rD (List.replicate c 0))) := by
  have e : mulD (.tup [.int 0]) (.int (c : Nat)) = if (c : Int) ≤ 1000 ∧ -1000 ≤ (c : Int) ∧ [D.int 0].length ≤ 1000 then some (.val (.tup (List.replicate (c : Int).toNat [D.int 0]).flatten)) else none := rfl
  rw [e, if_pos ⟨by omega, by omega, by simp⟩, Int.toNat_natCast, flatten_rep]
  simp [rD]
theorem cut_mem {α : Type} {l : List α} {lo hi : Option Int} {x : α} (h : x ∈ cutD l lo hi) : x ∈ l := List.mem_of_mem_drop (List.mem_of_mem_take h)
theorem cut_len {α : Type} {l : List α} {lo hi : Option Int} : (cutD l lo hi).length ≤ l.length := by
  unfold cutD
  simp
  omega
theorem iPow_20 : iPow 10 20 = some (.val (.int 100000000000000000000)) := by
  unfold iPow
  rw [if_pos ⟨by decide, by decide, by decide⟩]
  rfl
theorem fineT_app {a b : List D} (ha : ∀ x ∈ a, fineR x = true) (hb : ∀ x ∈ b, fineR x = true) : fineT (.tup (a ++ b)) = true := by
  show (a ++ b).all fineR = true
  rw [List.all_eq_true]
  intro x hx
  rcases List.mem_append.mp hx with z | z
  · exact ha x z
  · exact hb x z
theorem fineR_r {row : List Int} : fineR (rD row) = true := by simp [rD, fineR, fine]
theorem fineR_cut {t : Tb} {lo hi : Option Int} : ∀ x ∈ cutD (t.map rD) lo hi, fineR x = true := fun x hx => by
  obtain ⟨row, _, rfl⟩ := List.mem_map.mp (cut_mem hx)
  exact fineR_r
theorem fineT_t {t : Tb} : fineT (tD t) = true := by
  show (t.map rD).all fineR = true
  rw [List.all_eq_true]
  intro x hx
  obtain ⟨row, _, rfl⟩ := List.mem_map.mp hx
  exact fineR_r
theorem fineT_3 {a b c : List D} (ha : ∀ x ∈ a, fineR x = true) (hb : ∀ x ∈ b, fineR x = true) (hc : ∀ x ∈ c, fineR x = true) : fineT (.tup (a ++ b ++ c)) = true :=
  fineT_app (fun x hx => by
    rcases List.mem_append.mp hx with z | z
    · exact ha x z
    · exact hb x z) hc
theorem run_bent {o : OV} {t : Tb} {r c : Nat} (h : DS o) (ht : Dim t r c) (hr : r ≤ 100) (hc : c ≤ 100) (q : ∀ x o', DS o' → fineT x = true → Q (.val x) [.own true o', .unk, .unk, .unk]) : Wp fm_law_bent [.own true o, .val (tD t), .val (.int (r : Nat)), .val (.int (c : Nat))] Q E := by
  unfold fm_law_bent
  rw [run_fm]
  refine ⟨rfl, ?_⟩
  unfold f_law_bent
  simp
  refine run_draw h (by decide) fun w o1 h1 w0 w1 => ?_
  simp
  refine run_draw h1 (by omega) fun s o2 h2 s0 s1 => ?_
  simp
  obtain ⟨i, rfl⟩ : ∃ i : Nat, s = i := ⟨s.toNat, by omega⟩
  have hlt : (t.map rD).length ≤ 100 := by rw [List.length_map, ht.rows]; exact hr
  have lc : ∀ lo hi, (cutD (t.map rD) lo hi).length ≤ 100 := fun lo hi => Nat.le_trans cut_len hlt
  have a1 : ∀ lo hi (x : D), addD (.tup (cutD (t.map rD) lo hi)) (.tup [x]) = some (.val (.tup (cutD (t.map rD) lo hi ++ [x]))) := fun lo hi x => addD_tup (by have := lc lo hi; simp; omega)
  have a2 : ∀ lo hi lo' hi' (x : D), addD (.tup (cutD (t.map rD) lo hi ++ [x])) (.tup (cutD (t.map rD) lo' hi')) = some (.val (.tup (cutD (t.map rD) lo hi ++ x :: cutD (t.map rD) lo' hi'))) := fun lo hi lo' hi' x => by
    rw [addD_tup (by have := lc lo hi; have := lc lo' hi'; simp; omega)]
    simp
  have a3 : ∀ lo hi lo' hi', addD (.tup (cutD (t.map rD) lo hi)) (.tup (cutD (t.map rD) lo' hi')) = some (.val (.tup (cutD (t.map rD) lo hi ++ cutD (t.map rD) lo' hi'))) := fun lo hi lo' hi' => addD_tup (by have := lc lo hi; have := lc lo' hi'; omega)
  have f3 : ∀ lo hi lo' hi' (x : D), fineR x = true → fineT (.tup (cutD (t.map rD) lo hi ++ x :: cutD (t.map rD) lo' hi')) = true := fun lo hi lo' hi' x hx => fineT_app fineR_cut fun y hy => by
    rcases List.mem_cons.mp hy with z | z
    · rw [z]; exact hx
    · exact fineR_cut y z
  have hrow : ∃ row : List Int, row.length = c ∧ ((i < r ∧ t[i]? = some row) ∨ (r ≤ i ∧ row = List.replicate c 0)) := by
    by_cases hi : i < r
    · obtain ⟨row, hrow, hlen, _⟩ := rowAt ht hi
      exact ⟨row, hlen, .inl ⟨hi, hrow⟩⟩
    · exact ⟨_, by simp, .inr ⟨by omega, rfl⟩⟩
  obtain ⟨row, hlen, hrow⟩ := hrow
  have a4 : addD (rD row) (.tup [.int 1]) = some (.val (.tup (row.map .int ++ [.int 1]))) := addD_tup (by simp; omega)
  have f1 : ∀ x : D, x ∈ row.map .int → fine x = true := fun x hx => by
    obtain ⟨y, _, rfl⟩ := List.mem_map.mp hx
    rfl
  have hw3 : (w < 4 ∧ 0 < c) ∨ (w < 4 ∧ c = 0) ∨ w = 4 ∨ w = 5 ∨ w = 6 ∨ w = 7 ∨ w = 8 ∨ w = 9 := by omega
  rcases hrow with ⟨hi, hrow⟩ | ⟨hi, hrow⟩
  · have e1 := atI_nat' hrow
    have hi2 : ¬ (r ≤ i) := by omega
    have nw : w < 4 → ¬ (4 ≤ w) := fun z => by omega
    have nc : 0 < c → ¬ (c = 0) := fun z => by omega
    rcases hw3 with ⟨hw, hc0⟩ | ⟨hw, hc0⟩ | hw | hw | hw | hw | hw | hw
    · simp [hi, hi2, e1, a1, a2, a3, a4, iPow_20, hw, hc0, nw hw, nc hc0]
      refine run_pick h2 (.inl rfl) ?_ ?_ fun d o3 h3 hd => ?_
      · simp
      · simp
      have hfd : fine d = true := by
        simp at hd
        rcases hd with rfl | rfl | rfl | rfl | rfl | rfl | rfl | rfl | rfl | rfl <;> rfl
      simp
      refine run_draw h3 (by omega) fun j o4 h4 j0 j1 => ?_
      obtain ⟨j, rfl⟩ : ∃ k : Nat, j = k := ⟨j.toNat, by omega⟩
      simp [hlen]
      refine opK_of (ixN_nat (by omega)) ?_
      simp [hi, hi2, e1, a1, a2, a3, a4, iPow_20]
      refine q _ _ h4 (f3 _ _ _ _ _ ?_)
      show (((row.map D.int).set j d).all fine) = true
      rw [List.all_eq_true]
      intro x hx
      rcases List.mem_or_eq_of_mem_set hx with z | z
      · exact f1 x z
      · rw [z]; exact hfd
    · have hz : w ≠ 4 ∧ w ≠ 5 ∧ w ≠ 6 ∧ w ≠ 7 ∧ w ≠ 8 := by omega
      simp [hi, hi2, e1, a1, a2, a3, a4, iPow_20, hw, eq_true hc0, (show ¬ 0 < c by omega), nw hw, hz]
      refine run_pick h2 (.inl rfl) ?_ ?_ fun d o3 h3 hd => ?_
      · simp
      · simp
      have hfd : fineT d = true := by
        simp at hd
        rcases hd with rfl | rfl | rfl | rfl | rfl | rfl | rfl | rfl | rfl <;> rfl
      simp
      exact q _ _ h3 hfd
    · subst hw
      simp [hi, hi2, e1, a1, a2, a3, a4, iPow_20]
      exact q _ _ h2 (f3 _ _ _ _ _ fineR_r)
    · subst hw
      simp [hi, hi2, e1, a1, a2, a3, a4, iPow_20]
      exact q _ _ h2 (fineT_app fineR_cut fineR_cut)
    · subst hw
      simp [hi, hi2, e1, a1, a2, a3, a4, iPow_20]
      refine q _ _ h2 (f3 _ _ _ _ _ ?_)
      show (row.map D.int ++ [D.int 1]).all fine = true
      rw [List.all_eq_true]
      intro x hx
      rcases List.mem_append.mp hx with z | z
      · exact f1 x z
      · simp at z; rw [z]; rfl
    · subst hw
      simp [hi, hi2, e1, a1, a2, a3, a4, iPow_20]
      refine q _ _ h2 (f3 _ _ _ _ _ ?_)
      show (cutD (row.map D.int) _ _).all fine = true
      rw [List.all_eq_true]
      intro x hx
      exact f1 x (cut_mem hx)
    · subst hw
      simp [hi, hi2, e1, a1, a2, a3, a4, iPow_20]
      exact q _ _ h2 (f3 _ _ _ _ _ rfl)
    · subst hw
      simp [hi, hi2, e1, a1, a2, a3, a4, iPow_20]
      refine run_pick h2 (.inl rfl) ?_ ?_ fun d o3 h3 hd => ?_
      · simp
      · simp
      have hfd : fineT d = true := by
        simp at hd
        rcases hd with rfl | rfl | rfl | rfl | rfl | rfl | rfl | rfl | rfl <;> rfl
      simp
      exact q _ _ h3 hfd
  · have hi' : ¬ (i < r) := by omega
    have m0 : mulD (.tup [.int 0]) (.int (c : Nat)) = some (.val (rD row)) := by rw [hrow]; exact mulD_tup0 (by omega)
    clear hrow
    have nw : w < 4 → ¬ (4 ≤ w) := fun z => by omega
    have nc : 0 < c → ¬ (c = 0) := fun z => by omega
    rcases hw3 with ⟨hw, hc0⟩ | ⟨hw, hc0⟩ | hw | hw | hw | hw | hw | hw
    · simp [hi, hi', m0, a1, a2, a3, a4, iPow_20, hw, hc0, nw hw, nc hc0]
      refine run_pick h2 (.inl rfl) ?_ ?_ fun d o3 h3 hd => ?_
      · simp
      · simp
      have hfd : fine d = true := by
        simp at hd
        rcases hd with rfl | rfl | rfl | rfl | rfl | rfl | rfl | rfl | rfl | rfl <;> rfl
      simp
      refine run_draw h3 (by omega) fun j o4 h4 j0 j1 => ?_
      obtain ⟨j, rfl⟩ : ∃ k : Nat, j = k := ⟨j.toNat, by omega⟩
      simp [hlen]
      refine opK_of (ixN_nat (by omega)) ?_
      simp [hi, hi', m0, a1, a2, a3, a4, iPow_20]
      refine q _ _ h4 (f3 _ _ _ _ _ ?_)
      show (((row.map D.int).set j d).all fine) = true
      rw [List.all_eq_true]
      intro x hx
      rcases List.mem_or_eq_of_mem_set hx with z | z
      · exact f1 x z
      · rw [z]; exact hfd
    · have hz : w ≠ 4 ∧ w ≠ 5 ∧ w ≠ 6 ∧ w ≠ 7 ∧ w ≠ 8 := by omega
      simp [hi, hi', m0, a1, a2, a3, a4, iPow_20, hw, eq_true hc0, (show ¬ 0 < c by omega), nw hw, hz]
      refine run_pick h2 (.inl rfl) ?_ ?_ fun d o3 h3 hd => ?_
      · simp
      · simp
      have hfd : fineT d = true := by
        simp at hd
        rcases hd with rfl | rfl | rfl | rfl | rfl | rfl | rfl | rfl | rfl <;> rfl
      simp
      exact q _ _ h3 hfd
    · subst hw
      simp [hi, hi', m0, a1, a2, a3, a4, iPow_20]
      exact q _ _ h2 (f3 _ _ _ _ _ fineR_r)
    · subst hw
      simp [hi, hi', m0, a1, a2, a3, a4, iPow_20]
      exact q _ _ h2 (fineT_app fineR_cut fineR_cut)
    · subst hw
      simp [hi, hi', m0, a1, a2, a3, a4, iPow_20]
      refine q _ _ h2 (f3 _ _ _ _ _ ?_)
      show (row.map D.int ++ [D.int 1]).all fine = true
      rw [List.all_eq_true]
      intro x hx
      rcases List.mem_append.mp hx with z | z
      · exact f1 x z
      · simp at z; rw [z]; rfl
    · subst hw
      simp [hi, hi', m0, a1, a2, a3, a4, iPow_20]
      refine q _ _ h2 (f3 _ _ _ _ _ ?_)
      show (cutD (row.map D.int) _ _).all fine = true
      rw [List.all_eq_true]
      intro x hx
      exact f1 x (cut_mem hx)
    · subst hw
      simp [hi, hi', m0, a1, a2, a3, a4, iPow_20]
      exact q _ _ h2 (f3 _ _ _ _ _ rfl)
    · subst hw
      simp [hi, hi', m0, a1, a2, a3, a4, iPow_20]
      refine run_pick h2 (.inl rfl) ?_ ?_ fun d o3 h3 hd => ?_
      · simp
      · simp
      have hfd : fineT d = true := by
        simp at hd
        rcases hd with rfl | rfl | rfl | rfl | rfl | rfl | rfl | rfl | rfl <;> rfl
      simp
      exact q _ _ h3 hfd
end Fw
set_option linter.all false
set_option maxRecDepth 100000
namespace Fw
open PySem L2
variable {Q : EV → MS → Prop} {E : EX → MS → Prop}
theorem fineT_tab {t : Tb} {r c : Nat} (h : TOk t r c) : tabB r c (tD t) = true := by
  simp only [tD, tabB, List.length_map, h.rows, decide_true, Bool.true_and, List.all_map]
  rw [List.all_eq_true]
  intro row hr
  simp only [Function.comp, rD, rowB, List.length_map, h.cols row hr, decide_true, Bool.true_and, List.all_map]
  rw [List.all_eq_true]
  intro x hx
  have := h.ent row hr x hx
  simp [entB, this]
@[simp] theorem isnotD_bl {a b : Bool} : isnotD (.bl a) (.bl b) = some (.val (.bl (!decide (a = b)))) := by cases a <;> cases b <;> rfl
theorem run_units {o : OV} {t : Tb} {r c : Nat} (h : DS o) (ht : TOk t r c) (hr : r ≤ 50) (hc : c ≤ 50) (q : ∀ o', DS o' → Q (.val (.bl true)) [.own true o', .unk, .unk, .unk]) : Wp fm_law_units_and_kinds [.own true o, .val (tD t), .val (.int (r : Nat)), .val (.int (c : Nat))] Q E := by
  unfold fm_law_units_and_kinds
  rw [run_fm]
  refine ⟨rfl, ?_⟩
  unfold f_law_units_and_kinds
  simp
  refine run_same (by omega) ?_
  simp
  refine run_same (by omega) ?_
  simp [f_law_units_and_kinds_C2]
  refine ⟨by omega, ?_⟩
  refine run_compM (fun d => .tup ((rgL 0 r).map fun e => .int (if natOf d = natOf e then 1 else 0))) _ _ (fun d hd => ?_) ?_
  · obtain ⟨i, hi, rfl⟩ := rgL_mem hd
    simp [f_law_units_and_kinds_C1]
    refine ⟨by omega, ?_⟩
    refine run_compM (fun e => .int (if i = natOf e then 1 else 0)) _ _ (fun d hd => ?_) ?_
    · obtain ⟨j, hj, rfl⟩ := rgL_mem hd
      simp
      by_cases h : i = j <;> simp [h]
      omega
    · simp
  simp [tD_id]
  refine run_right fineT_t ?_
  simp [fineT_tab (tok_id (n := r))]
  refine run_right fineT_t ?_
  simp [fineT_tab (tok_id (n := c))]
  refine run_compose (n := r) tok_id.toDim ht.toDim (by omega) (by omega) (by omega) ?_
  simp [mul_idL ht]
  refine run_compose (n := c) ht.toDim tok_id.toDim (by omega) (by omega) (by omega) ?_
  simp [mul_idR ht]
  refine run_is_table fineT_t ?_
  simp [fineT_tab ht]
  have e1 : ((r : Int) + 1) = ((r + 1 : Nat) : Int) := by omega
  have e2 : ((c : Int) + 1) = ((c + 1 : Nat) : Int) := by omega
  rw [e1, e2]
  refine run_for (fun i ms => ∃ s8 s9, (lo s8 = true ∧ lo s9 = true) ∧ ms = [.own true o, .val (tD t), .val (.int (r : Nat)), .val (.int (c : Nat)), .val (tD (idT r)), .val (tD (idT c)), .unk, .unk, s8, s9, .unk, .unk]) _ ⟨.unk, .unk, by simp, rfl⟩ (fun i d ms hd ⟨s8, s9, ⟨h8, h9⟩, e⟩ => ?_) (fun ms ⟨s8, s9, ⟨h8, h9⟩, e⟩ => ?_)
  · subst e
    obtain ⟨hi, wi, rfl⟩ : ∃ hi wi : Nat, d = .tup [.int (hi : Nat), .int (wi : Nat)] := by
      have hm := List.mem_of_getElem? hd
      simp only [List.mem_cons, List.not_mem_nil, or_false] at hm
      rcases hm with e | e | e <;> exact ⟨_, _, e⟩
    simp [h8, h9, f_law_units_and_kinds_L3]
    refine run_is_table fineT_t ?_
    simp
    refine run_right fineT_t ?_
    simp
    refine run_says ?_
    simp
  · subst e
    simp
    refine run_for (fun i ms => ∃ o s10 s11, DS o ∧ (lo s10 = true ∧ lo s11 = true) ∧ ms = [.own true o, .val (tD t), .val (.int (r : Nat)), .val (.int (c : Nat)), .val (tD (idT r)), .val (tD (idT c)), .unk, .unk, s8, s9, s10, s11]) _ ⟨o, .unk, .unk, h, by simp, rfl⟩ (fun i d ms hd ⟨o, s10, s11, h, ⟨h10, h11⟩, e⟩ => ?_) (fun ms ⟨o, s10, s11, h, ⟨h10, h11⟩, e⟩ => ?_)
    · subst e
      simp [h10, f_law_units_and_kinds_L4]
      refine run_bent h ht.toDim (by omega) (by omega) fun x o' h' hx => ?_
      simp [h11]
      refine run_is_table hx ?_
      simp
      refine run_right hx ?_
      simp
      refine run_says ?_
      simp
      exact ⟨o', h', .val d, .val x, ⟨rfl, rfl⟩, rfl, rfl, rfl⟩
    · subst e
      simp
      exact q o h
theorem run_law {cells : List Int} {d : D} (hd : d = .lst (cells.map .int) ∨ d = .kls (cells.map .int)) (q : Q (.val (.bl true)) [.unk]) : Wp fm_law [.val d] Q E := by
  unfold fm_law
  rw [run_fm]
  refine ⟨by rcases hd with rfl | rfl <;> rfl, ?_⟩
  unfold f_law
  simp
  refine run_begin hd fun o ho => ?_
  simp
  refine run_rare ho (by decide) fun big o ho => ?_
  simp [f_law_C2]
  refine run_compL (fun i acc ms => ∃ (ns : List Nat) (o : OV), DS o ∧ ns.length = i ∧ (∀ n ∈ ns, n ≤ 17) ∧ acc = ns.map (fun n => .int (n : Nat)) ∧ ms = [.val d, .own false o, .val (.bl big), .unk, .unk, .unk, .unk, .unk, .unk, .unk, .unk, .unk, .unk, .unk, .unk, .unk, .unk, .unk]) _ _ ⟨[], o, ho, rfl, by simp, rfl, rfl⟩ (fun i d2 acc ms hd ⟨ns, o, ho, hl, hn, ea, em⟩ => ?_) (fun acc ms ⟨ns, o, ho, hl, hn, ea, em⟩ => ?_)
  · subst ea em
    have fin : ∀ (k : Nat), k ≤ 17 → ∀ (o : OV), DS o → ∃ (ns' : List Nat) (o' : OV), DS o' ∧ ns'.length = i + 1 ∧ (∀ n ∈ ns', n ≤ 17) ∧ ns.map (fun n => D.int (n : Nat)) ++ [.int (k : Nat)] = ns'.map (fun n => .int (n : Nat)) ∧ [SV.val d, .own false o, .val (.bl big), .unk, .unk, .unk, .unk, .unk, .unk, .unk, .unk, .unk, .unk, .unk, .unk, .unk, .unk, .unk] = [.val d, .own false o', .val (.bl big), .unk, .unk, .unk, .unk, .unk, .unk, .unk, .unk, .unk, .unk, .unk, .unk, .unk, .unk, .unk] := fun k hk o ho => ⟨ns ++ [k], o, ho, by simp [hl], fun n hn' => by
      rcases List.mem_append.mp hn' with z | z
      · exact hn n z
      · simp at z; omega, by simp, rfl⟩
    simp [f_law_E1]
    refine ⟨fun hb => ?_, fun hb => ?_⟩
    all_goals
      refine run_draw ho (by decide) fun r o2 h2 r0 r1 => ?_
      obtain ⟨k, rfl⟩ : ∃ k : Nat, r = k := ⟨r.toNat, by omega⟩
      simp
      have := fin k (by omega) o2 h2
      simpa using this
  · subst ea em
    have hl4 : ns.length = 4 := hl
    obtain ⟨n0, n1, n2, n3, rfl⟩ : ∃ a b c d, ns = [a, b, c, d] := by
      match ns, hl4 with
      | [a, b, c, d], _ => exact ⟨a, b, c, d, rfl⟩
    have b0 : n0 ≤ 17 := hn n0 (by simp)
    have b1 : n1 ≤ 17 := hn n1 (by simp)
    have b2 : n2 ≤ 17 := hn n2 (by simp)
    have b3 : n3 ≤ 17 := hn n3 (by simp)
    clear hn hl hl4
    simp
    refine run_draw ho (by decide) fun m o ho m0 m1 => ?_
    have hm : ∃ ns : List Int, L2.atI [D.lst [.int 0, .int 1, .int 2], D.lst [.int 0, .int 0, .int 1, .int 2], D.lst [.int 0, .int 0, .int 0, .int 0, .int 1, .int 2], D.lst [.int 0, .int 1, .int 1, .int 2], D.lst [.int 0, .int 0, .int 0, .int 1]] m = some (.lst (ns.map .int)) ∧ ns ≠ [] ∧ ns.length ≤ 1000 ∧ ∀ x ∈ ns, 0 ≤ x ∧ x ≤ 2 := by
      have h5 : m = 0 ∨ m = 1 ∨ m = 2 ∨ m = 3 ∨ m = 4 := by omega
      rcases h5 with rfl | rfl | rfl | rfl | rfl
      · exact ⟨[0, 1, 2], by simp, by decide, by decide, by decide⟩
      · exact ⟨[0, 0, 1, 2], by simp, by decide, by decide, by decide⟩
      · exact ⟨[0, 0, 0, 0, 1, 2], by simp, by decide, by decide, by decide⟩
      · exact ⟨[0, 1, 1, 2], by simp, by decide, by decide, by decide⟩
      · exact ⟨[0, 0, 0, 1], by simp, by decide, by decide, by decide⟩
    obtain ⟨ns, em, hne, hnl, hns⟩ := hm
    simp
    refine opK_of em ?_
    simp [f_law_C4]
    refine run_compL (fun i acc ms => ∃ (ts : List Tb) (o : OV), DS o ∧ ts.length = i ∧ (∀ j t, ts[j]? = some t → TOk t ([n0, n1, n2, n3].getD j 0) ([n0, n1, n2, n3].getD (j + 1) 0)) ∧ acc = ts.map tD ∧ ms = [.val d, .own false o, .val (.bl big), .val (.lst [.int (n0 : Nat), .int (n1 : Nat), .int (n2 : Nat), .int (n3 : Nat)]), .unk, .val (.lst (ns.map .int)), .unk, .unk, .unk, .unk, .unk, .unk, .unk, .unk, .unk, .unk, .unk, .unk]) _ _ ⟨[], o, ho, rfl, by simp, rfl, rfl⟩ (fun i d2 acc ms hd ⟨ts, o, ho, hl, ht, ea, em⟩ => ?_) (fun acc ms ⟨ts, o, ho, hl, ht, ea, em⟩ => ?_)
    · subst ea em
      obtain ⟨hi, rfl⟩ := rgL_get hd
      have ext : ∀ (t : Tb), TOk t ([n0, n1, n2, n3].getD i 0) ([n0, n1, n2, n3].getD (i + 1) 0) → ∀ o, DS o → ∃ (ts' : List Tb) (o' : OV), DS o' ∧ ts'.length = i + 1 ∧ (∀ j t, ts'[j]? = some t → TOk t ([n0, n1, n2, n3].getD j 0) ([n0, n1, n2, n3].getD (j + 1) 0)) ∧ ts.map tD ++ [tD t] = ts'.map tD ∧ [SV.val d, .own false o, .val (.bl big), .val (.lst [.int (n0 : Nat), .int (n1 : Nat), .int (n2 : Nat), .int (n3 : Nat)]), .unk, .val (.lst (ns.map .int)), .unk, .unk, .unk, .unk, .unk, .unk, .unk, .unk, .unk, .unk, .unk, .unk] = [.val d, .own false o', .val (.bl big), .val (.lst [.int (n0 : Nat), .int (n1 : Nat), .int (n2 : Nat), .int (n3 : Nat)]), .unk, .val (.lst (ns.map .int)), .unk, .unk, .unk, .unk, .unk, .unk, .unk, .unk, .unk, .unk, .unk, .unk] := fun t h o ho =>
        ⟨ts ++ [t], o, ho, by simp [hl], fun j t' hj => by
          by_cases c1 : j < ts.length
          · rw [List.getElem?_append_left c1] at hj; exact ht j t' hj
          · rw [List.getElem?_append_right (by omega)] at hj
            have : j = i := by
              have := (List.getElem?_eq_some_iff.mp hj).1
              simp at this; omega
            subst this
            rw [hl, Nat.sub_self] at hj
            simp at hj
            rw [← hj]; exact h, by simp, rfl⟩
      have hi3 : i = 0 ∨ i = 1 ∨ i = 2 := by omega
      rcases hi3 with rfl | rfl | rfl
      all_goals
        simp [f_law_E3]
        refine run_drawn ho (by omega) (by omega) hne hnl hns fun t o ho ht => ?_
        have := ext t ht o ho
        simpa using this
    · subst ea em
      have hl3 : ts.length = 3 := hl
      obtain ⟨x, y, z, rfl⟩ : ∃ a b c, ts = [a, b, c] := by
        match ts, hl3 with
        | [a, b, c], _ => exact ⟨a, b, c, rfl⟩
      have hx : TOk x n0 n1 := ht 0 x rfl
      have hy : TOk y n1 n2 := ht 1 y rfl
      have hz : TOk z n2 n3 := ht 2 z rfl
      clear ht hl hl3
      simp
      refine run_through hx.toDim hy.toDim (by omega) (by omega) (by omega) ?_
      simp
      refine run_compose hx.toDim hy.toDim (by omega) (by omega) (by omega) ?_
      simp
      refine run_right fineT_t ?_
      have hxy := tok_mul hx hy
      have hyz := tok_mul hy hz
      simp [fineT_tab hxy]
      refine run_through hxy.toDim hz.toDim (by omega) (by omega) (by omega) ?_
      simp
      refine run_compose hy.toDim hz.toDim (by omega) (by omega) (by omega) ?_
      simp
      refine run_compose hxy.toDim hz.toDim (by omega) (by omega) (by omega) ?_
      simp
      refine run_compose hx.toDim hyz.toDim (by omega) (by omega) (by omega) ?_
      simp [mul_assoc]
      refine run_for (fun i ms => ∃ o s4, DS o ∧ ((i = 0 ∧ s4 = .unk) ∨ ∃ e, s4 = .val e) ∧ ms = [.val d, .own false o, .val (.bl big), .val (.lst [.int (n0 : Nat), .int (n1 : Nat), .int (n2 : Nat), .int (n3 : Nat)]), s4, .val (.lst (ns.map .int)), .val (tD x), .val (tD y), .val (tD z), .val (tD (mul n0 n1 n2 x y)), .val (tD (mul n0 n1 n2 x y)), .val (tD (mul n0 n1 n3 x (mul n1 n2 n3 y z))), .val (tD (mul n1 n2 n3 y z)), .val (.lst [tD x, tD y, tD z]), .unk, .unk, .unk, .unk]) _ ⟨o, .unk, ho, .inl ⟨rfl, rfl⟩, rfl⟩ (fun i d2 ms hd ⟨o, s4, ho, h4, e⟩ => ?_) (fun ms ⟨o, s4, ho, h4, e⟩ => ?_)
      · subst e
        obtain ⟨hi, rfl⟩ := rgL_get hd
        have l4 : lo s4 = true := by rcases h4 with ⟨_, rfl⟩ | ⟨e, rfl⟩ <;> rfl
        have hi3 : i = 0 ∨ i = 1 ∨ i = 2 := by omega
        rcases hi3 with rfl | rfl | rfl
        · simp [l4, f_law_L5]
          refine run_units ho hx (by omega) (by omega) fun o ho => ?_
          simp
          exact ho
        · simp [l4, f_law_L5]
          refine run_units ho hy (by omega) (by omega) fun o ho => ?_
          simp
          exact ho
        · simp [l4, f_law_L5]
          refine run_units ho hz (by omega) (by omega) fun o ho => ?_
          simp
          exact ho
      · subst e
        obtain ⟨d4, rfl⟩ : ∃ e, s4 = .val e := by
          rcases h4 with ⟨h, _⟩ | h
          · simp at h
          · exact h
        clear h4
        simp
        have fin : ∀ K : Prop, K → K := fun _ k => k
        refine ⟨fun hb => ?_, fun hb => ?_⟩
        all_goals
          refine run_draw ho (by decide) fun n o ho n0' n1' => ?_
          obtain ⟨n, rfl⟩ : ∃ k : Nat, n = k := ⟨n.toNat, by omega⟩
          have hn : n ≤ 10 := by omega
          simp
          refine run_drawn ho (by omega) (by omega) hne hnl hns fun t o ho ht => ?_
          simp
          refine run_for (fun i ms => ∃ p s17, TOk p n n ∧ lo s17 = true ∧ ms = [.val d, .own false o, .val (.bl big), .val (.lst [.int (n0 : Nat), .int (n1 : Nat), .int (n2 : Nat), .int (n3 : Nat)]), .val d4, .val (.lst (ns.map .int)), .val (tD x), .val (tD y), .val (tD z), .val (tD (mul n0 n1 n2 x y)), .val (tD (mul n0 n1 n2 x y)), .val (tD (mul n0 n1 n3 x (mul n1 n2 n3 y z))), .val (tD (mul n1 n2 n3 y z)), .val (.lst [tD x, tD y, tD z]), .val (.int (n : Nat)), .val (tD t), .val (tD p), s17]) _ ⟨t, .unk, ht, rfl, ?_⟩ (fun i d2 ms hd ⟨p, s17, hp, h17, e⟩ => ?_) (fun ms ⟨p, s17, hp, h17, e⟩ => ?_)
          · simp [hb]
          · subst e
            obtain ⟨hi, rfl⟩ := rgL_get hd
            simp [h17, f_law_L8]
            refine run_own_square hp.toDim (by omega) ?_
            simp
            refine run_through hp.toDim hp.toDim (by omega) (by omega) (by omega) ?_
            simp
            refine run_says ?_
            simp
            refine run_own_fall hp.toDim (by omega) ?_
            simp [f_law_C7]
            refine ⟨by omega, ?_⟩
            refine run_compM (fun d => .bl (decide (at2 p (natOf d) (natOf d) = 2))) _ _ (fun d hd => ?_) ?_
            · obtain ⟨i, hi, rfl⟩ := rgL_mem hd
              obtain ⟨row, hrow, hlen, hat⟩ := rowAt hp.toDim hi
              simp [f_law_E6, atI_nat' hrow, atI_nat' (hat i hi)]
            · simp [bAny_map]
              refine run_says ?_
              simp
              refine run_through hp.toDim ht.toDim (by omega) (by omega) (by omega) ?_
              simp
              exact ⟨mul n n n p t, tok_mul hp ht, rfl⟩
          · subst e
            simp
            exact q
end Fw
set_option Elab.async false
set_option linter.all false
set_option maxRecDepth 100000
set_option maxHeartbeats 4000000
namespace Fw
open PySem L2
theorem all_mk {l : PySem.W.OpenLaw} {w : World} {K : PySem.W.Frag} {h : Heap} {mg : Str → Option Value} {fa f1 f2 f3 f4 f5 f6 f7 f8 f9 f10 f11 f12 f13 f14 f15 f16 f17 : Addr} (X : K.In h) (G : h.Ns mainGlobals mg) (hfa : mg "law" = some (.ref fa))
    {od1 an1 od2 an2 od3 an3 od4 an4 od5 an5 od6 an6 od7 an7 od8 an8 od9 an9 od10 an10 od11 an11 od12 an12 od13 an13 od14 an14 od15 an15 od16 an16 od17 an17 : Option Addr} {sl1 sl2 sl3 sl4 sl5 sl6 sl7 sl8 sl9 sl10 sl11 sl12 sl13 sl14 sl15 sl16 sl17 : Array (Option Value)} {oc1 kV1 dc1 pm1 cd1 ct1 oc2 kV2 dc2 pm2 cd2 ct2 oc3 kV3 dc3 pm3 cd3 ct3 oc4 kV4 dc4 pm4 cd4 ct4 oc5 kV5 dc5 pm5 cd5 ct5 oc6 kV6 dc6 pm6 cd6 ct6 oc7 kV7 dc7 pm7 cd7 ct7 oc8 kV8 dc8 pm8 cd8 ct8 oc9 kV9 dc9 pm9 cd9 ct9 oc10 kV10 dc10 pm10 cd10 ct10 oc11 kV11 dc11 pm11 cd11 ct11 oc12 kV12 dc12 pm12 cd12 ct12 oc13 kV13 dc13 pm13 cd13 ct13 oc14 kV14 dc14 pm14 cd14 ct14 oc15 kV15 dc15 pm15 cd15 ct15 oc16 kV16 dc16 pm16 cd16 ct16 oc17 kV17 dc17 pm17 cd17 ct17 : Value}
    (a1 : PySem.W.nsIn K mainGlobals "is_table" = some (some (.ref f1))) (l1 : K.lookup f1 = some ⟨oc1, od1, .func (PySem.W.fnOf "is_table" "is_table" (defArgs (topS 1)) (defBody (topS 1)) (defScope (topS 1)) .none kV1 dc1 pm1 an1 cd1 ct1), sl1⟩) (c1 : PySem.W.codeIn K cd1 "is_table" = true) (k1 : PySem.W.keepIn K (.ref f1) = true)
    (a2 : PySem.W.nsIn K mainGlobals "same_table" = some (some (.ref f2))) (l2 : K.lookup f2 = some ⟨oc2, od2, .func (PySem.W.fnOf "same_table" "same_table" (defArgs (topS 2)) (defBody (topS 2)) (defScope (topS 2)) .none kV2 dc2 pm2 an2 cd2 ct2), sl2⟩) (c2 : PySem.W.codeIn K cd2 "same_table" = true) (k2 : PySem.W.keepIn K (.ref f2) = true)
    (a3 : PySem.W.nsIn K mainGlobals "compose" = some (some (.ref f3))) (l3 : K.lookup f3 = some ⟨oc3, od3, .func (PySem.W.fnOf "compose" "compose" (defArgs (topS 3)) (defBody (topS 3)) (defScope (topS 3)) .none kV3 dc3 pm3 an3 cd3 ct3), sl3⟩) (c3 : PySem.W.codeIn K cd3 "compose" = true) (k3 : PySem.W.keepIn K (.ref f3) = true)
    (a4 : PySem.W.nsIn K mainGlobals "is_own_square" = some (some (.ref f4))) (l4 : K.lookup f4 = some ⟨oc4, od4, .func (PySem.W.fnOf "is_own_square" "is_own_square" (defArgs (topS 4)) (defBody (topS 4)) (defScope (topS 4)) .none kV4 dc4 pm4 an4 cd4 ct4), sl4⟩) (c4 : PySem.W.codeIn K cd4 "is_own_square" = true) (k4 : PySem.W.keepIn K (.ref f4) = true)
    (a5 : PySem.W.nsIn K mainGlobals "has_own_fall" = some (some (.ref f5))) (l5 : K.lookup f5 = some ⟨oc5, od5, .func (PySem.W.fnOf "has_own_fall" "has_own_fall" (defArgs (topS 5)) (defBody (topS 5)) (defScope (topS 5)) .none kV5 dc5 pm5 an5 cd5 ct5), sl5⟩) (c5 : PySem.W.codeIn K cd5 "has_own_fall" = true) (k5 : PySem.W.keepIn K (.ref f5) = true)
    (a6 : PySem.W.nsIn K mainGlobals "_law_begin" = some (some (.ref f6))) (l6 : K.lookup f6 = some ⟨oc6, od6, .func (PySem.W.fnOf "_law_begin" "_law_begin" (defArgs (topS 7)) (defBody (topS 7)) (defScope (topS 7)) .none kV6 dc6 pm6 an6 cd6 ct6), sl6⟩) (c6 : PySem.W.codeIn K cd6 "_law_begin" = true) (k6 : PySem.W.keepIn K (.ref f6) = true)
    (a7 : PySem.W.nsIn K mainGlobals "_law_draw" = some (some (.ref f7))) (l7 : K.lookup f7 = some ⟨oc7, od7, .func (PySem.W.fnOf "_law_draw" "_law_draw" (defArgs (topS 8)) (defBody (topS 8)) (defScope (topS 8)) .none kV7 dc7 pm7 an7 cd7 ct7), sl7⟩) (c7 : PySem.W.codeIn K cd7 "_law_draw" = true) (k7 : PySem.W.keepIn K (.ref f7) = true)
    (a8 : PySem.W.nsIn K mainGlobals "_law_pick" = some (some (.ref f8))) (l8 : K.lookup f8 = some ⟨oc8, od8, .func (PySem.W.fnOf "_law_pick" "_law_pick" (defArgs (topS 9)) (defBody (topS 9)) (defScope (topS 9)) .none kV8 dc8 pm8 an8 cd8 ct8), sl8⟩) (c8 : PySem.W.codeIn K cd8 "_law_pick" = true) (k8 : PySem.W.keepIn K (.ref f8) = true)
    (a9 : PySem.W.nsIn K mainGlobals "_law_rare" = some (some (.ref f9))) (l9 : K.lookup f9 = some ⟨oc9, od9, .func (PySem.W.fnOf "_law_rare" "_law_rare" (defArgs (topS 10)) (defBody (topS 10)) (defScope (topS 10)) .none kV9 dc9 pm9 an9 cd9 ct9), sl9⟩) (c9 : PySem.W.codeIn K cd9 "_law_rare" = true) (k9 : PySem.W.keepIn K (.ref f9) = true)
    (a10 : PySem.W.nsIn K mainGlobals "_law_is_int" = some (some (.ref f10))) (l10 : K.lookup f10 = some ⟨oc10, od10, .func (PySem.W.fnOf "_law_is_int" "_law_is_int" (defArgs (topS 11)) (defBody (topS 11)) (defScope (topS 11)) .none kV10 dc10 pm10 an10 cd10 ct10), sl10⟩) (c10 : PySem.W.codeIn K cd10 "_law_is_int" = true) (k10 : PySem.W.keepIn K (.ref f10) = true)
    (a11 : PySem.W.nsIn K mainGlobals "_law_drawn_table" = some (some (.ref f11))) (l11 : K.lookup f11 = some ⟨oc11, od11, .func (PySem.W.fnOf "_law_drawn_table" "_law_drawn_table" (defArgs (topS 12)) (defBody (topS 12)) (defScope (topS 12)) .none kV11 dc11 pm11 an11 cd11 ct11), sl11⟩) (c11 : PySem.W.codeIn K cd11 "_law_drawn_table" = true) (k11 : PySem.W.keepIn K (.ref f11) = true)
    (a12 : PySem.W.nsIn K mainGlobals "_law_through" = some (some (.ref f12))) (l12 : K.lookup f12 = some ⟨oc12, od12, .func (PySem.W.fnOf "_law_through" "_law_through" (defArgs (topS 13)) (defBody (topS 13)) (defScope (topS 13)) .none kV12 dc12 pm12 an12 cd12 ct12), sl12⟩) (c12 : PySem.W.codeIn K cd12 "_law_through" = true) (k12 : PySem.W.keepIn K (.ref f12) = true)
    (a13 : PySem.W.nsIn K mainGlobals "_law_right_table" = some (some (.ref f13))) (l13 : K.lookup f13 = some ⟨oc13, od13, .func (PySem.W.fnOf "_law_right_table" "_law_right_table" (defArgs (topS 14)) (defBody (topS 14)) (defScope (topS 14)) .none kV13 dc13 pm13 an13 cd13 ct13), sl13⟩) (c13 : PySem.W.codeIn K cd13 "_law_right_table" = true) (k13 : PySem.W.keepIn K (.ref f13) = true)
    (a14 : PySem.W.nsIn K mainGlobals "_law_bent" = some (some (.ref f14))) (l14 : K.lookup f14 = some ⟨oc14, od14, .func (PySem.W.fnOf "_law_bent" "_law_bent" (defArgs (topS 15)) (defBody (topS 15)) (defScope (topS 15)) .none kV14 dc14 pm14 an14 cd14 ct14), sl14⟩) (c14 : PySem.W.codeIn K cd14 "_law_bent" = true) (k14 : PySem.W.keepIn K (.ref f14) = true)
    (a15 : PySem.W.nsIn K mainGlobals "_law_says" = some (some (.ref f15))) (l15 : K.lookup f15 = some ⟨oc15, od15, .func (PySem.W.fnOf "_law_says" "_law_says" (defArgs (topS 16)) (defBody (topS 16)) (defScope (topS 16)) .none kV15 dc15 pm15 an15 cd15 ct15), sl15⟩) (c15 : PySem.W.codeIn K cd15 "_law_says" = true) (k15 : PySem.W.keepIn K (.ref f15) = true)
    (a16 : PySem.W.nsIn K mainGlobals "_law_units_and_kinds" = some (some (.ref f16))) (l16 : K.lookup f16 = some ⟨oc16, od16, .func (PySem.W.fnOf "_law_units_and_kinds" "_law_units_and_kinds" (defArgs (topS 17)) (defBody (topS 17)) (defScope (topS 17)) .none kV16 dc16 pm16 an16 cd16 ct16), sl16⟩) (c16 : PySem.W.codeIn K cd16 "_law_units_and_kinds" = true) (k16 : PySem.W.keepIn K (.ref f16) = true)
    (a17 : PySem.W.nsIn K mainGlobals "law" = some (some (.ref f17))) (l17 : K.lookup f17 = some ⟨oc17, od17, .func (PySem.W.fnOf "law" "law" (defArgs (topS 18)) (defBody (topS 18)) (defScope (topS 18)) .none kV17 dc17 pm17 an17 cd17 ct17), sl17⟩) (c17 : PySem.W.codeIn K cd17 "law" = true) (k17 : PySem.W.keepIn K (.ref f17) = true)
    (z_abs : PySem.W.nsIn K mainGlobals "abs" = some none) (z_all : PySem.W.nsIn K mainGlobals "all" = some none) (z_any : PySem.W.nsIn K mainGlobals "any" = some none) (z_bool : PySem.W.nsIn K mainGlobals "bool" = some none) (z_int : PySem.W.nsIn K mainGlobals "int" = some none) (z_isinstance : PySem.W.nsIn K mainGlobals "isinstance" = some none) (z_len : PySem.W.nsIn K mainGlobals "len" = some none) (z_list : PySem.W.nsIn K mainGlobals "list" = some none) (z_max : PySem.W.nsIn K mainGlobals "max" = some none) (z_range : PySem.W.nsIn K mainGlobals "range" = some none) (z_tuple : PySem.W.nsIn K mainGlobals "tuple" = some none) :
    ∃ fd : FuncData, (∀ (s : Shared) (v : Value), BindsTo s fd ⟨[v], []⟩ [("script", v)]) ∧ ∀ base : Heap, K.In base → base.Ns mainGlobals mg → FnOk l.prog w K mg base (L2.CX l.prog w) 5 fa fd ["script"] (spM K 1 fm_law) := by
  have e := hfa.symm.trans (PySem.W.mg_of X G a17)
  cases e
  have y_abs := PySem.W.mg_none_of X G z_abs
  have y_all := PySem.W.mg_none_of X G z_all
  have y_any := PySem.W.mg_none_of X G z_any
  have y_bool := PySem.W.mg_none_of X G z_bool
  have y_int := PySem.W.mg_none_of X G z_int
  have y_isinstance := PySem.W.mg_none_of X G z_isinstance
  have y_len := PySem.W.mg_none_of X G z_len
  have y_list := PySem.W.mg_none_of X G z_list
  have y_max := PySem.W.mg_none_of X G z_max
  have y_range := PySem.W.mg_none_of X G z_range
  have y_tuple := PySem.W.mg_none_of X G z_tuple
  have F1 := fun_mk (st := (topS 1)) l1 c1 k1
  have b1 := F1.binds (ps := ["thing", "rows", "columns"]) fun _ _ _ _ _ _ us hl => match us, hl with | [_, _, _], _ => rfl
  have F2 := fun_mk (st := (topS 2)) l2 c2 k2
  have b2 := F2.binds (ps := ["places"]) fun _ _ _ _ _ _ us hl => match us, hl with | [_], _ => rfl
  have F3 := fun_mk (st := (topS 3)) l3 c3 k3
  have b3 := F3.binds (ps := ["first", "second", "columns"]) fun _ _ _ _ _ _ us hl => match us, hl with | [_, _, _], _ => rfl
  have F4 := fun_mk (st := (topS 4)) l4 c4 k4
  have b4 := F4.binds (ps := ["table"]) fun _ _ _ _ _ _ us hl => match us, hl with | [_], _ => rfl
  have F5 := fun_mk (st := (topS 5)) l5 c5 k5
  have b5 := F5.binds (ps := ["table"]) fun _ _ _ _ _ _ us hl => match us, hl with | [_], _ => rfl
  have F6 := fun_mk (st := (topS 7)) l6 c6 k6
  have b6 := F6.binds (ps := ["script"]) fun _ _ _ _ _ _ us hl => match us, hl with | [_], _ => rfl
  have F7 := fun_mk (st := (topS 8)) l7 c7 k7
  have b7 := F7.binds (ps := ["d", "many"]) fun _ _ _ _ _ _ us hl => match us, hl with | [_, _], _ => rfl
  have F8 := fun_mk (st := (topS 9)) l8 c8 k8
  have b8 := F8.binds (ps := ["d", "row"]) fun _ _ _ _ _ _ us hl => match us, hl with | [_, _], _ => rfl
  have F9 := fun_mk (st := (topS 10)) l9 c9 k9
  have b9 := F9.binds (ps := ["d", "many"]) fun _ _ _ _ _ _ us hl => match us, hl with | [_, _], _ => rfl
  have F10 := fun_mk (st := (topS 11)) l10 c10 k10
  have b10 := F10.binds (ps := ["thing"]) fun _ _ _ _ _ _ us hl => match us, hl with | [_], _ => rfl
  have F11 := fun_mk (st := (topS 12)) l11 c11 k11
  have b11 := F11.binds (ps := ["d", "rows", "columns", "menu"]) fun _ _ _ _ _ _ us hl => match us, hl with | [_, _, _, _], _ => rfl
  have F12 := fun_mk (st := (topS 13)) l12 c12 k12
  have b12 := F12.binds (ps := ["first", "second", "rows", "columns"]) fun _ _ _ _ _ _ us hl => match us, hl with | [_, _, _, _], _ => rfl
  have F13 := fun_mk (st := (topS 14)) l13 c13 k13
  have b13 := F13.binds (ps := ["thing", "rows", "columns"]) fun _ _ _ _ _ _ us hl => match us, hl with | [_, _, _], _ => rfl
  have F14 := fun_mk (st := (topS 15)) l14 c14 k14
  have b14 := F14.binds (ps := ["d", "table", "rows", "columns"]) fun _ _ _ _ _ _ us hl => match us, hl with | [_, _, _, _], _ => rfl
  have F15 := fun_mk (st := (topS 16)) l15 c15 k15
  have b15 := F15.binds (ps := ["told", "due"]) fun _ _ _ _ _ _ us hl => match us, hl with | [_, _], _ => rfl
  have F16 := fun_mk (st := (topS 17)) l16 c16 k16
  have b16 := F16.binds (ps := ["d", "table", "rows", "columns"]) fun _ _ _ _ _ _ us hl => match us, hl with | [_, _, _, _], _ => rfl
  have F17 := fun_mk (st := (topS 18)) l17 c17 k17
  refine ⟨PySem.W.fnOf "law" "law" (defArgs (topS 18)) (defBody (topS 18)) (defScope (topS 18)) .none kV17 dc17 pm17 an17 cd17 ct17, fun s v => .of_eq rfl, fun base _ _ => ?_⟩
  have g_is_table := good_is_table (P := l.prog) (w := w) (base := base) F1 b1 (PySem.W.mg_of X G a1) y_bool y_int y_isinstance y_len y_tuple
  have g_same_table := good_same_table (P := l.prog) (w := w) (base := base) F2 b2 (PySem.W.mg_of X G a2) y_int y_range y_tuple
  have g_compose := good_compose (P := l.prog) (w := w) (base := base) F3 b3 (PySem.W.mg_of X G a3) y_len y_max y_range y_tuple
  have g_is_own_square := good_is_own_square (P := l.prog) (w := w) (base := base) F4 b4 (PySem.W.mg_of X G a4) g_compose y_len
  have g_has_own_fall := good_has_own_fall (P := l.prog) (w := w) (base := base) F5 b5 (PySem.W.mg_of X G a5) y_any y_len y_range
  have g_law_begin := good_law_begin (P := l.prog) (w := w) (base := base) F6 b6 (PySem.W.mg_of X G a6) y_int
  have g_law_draw := good_law_draw (P := l.prog) (w := w) (base := base) F7 b7 (PySem.W.mg_of X G a7) y_abs y_int y_len y_max
  have g_law_pick := good_law_pick (P := l.prog) (w := w) (base := base) F8 b8 (PySem.W.mg_of X G a8) g_law_draw y_len
  have g_law_rare := good_law_rare (P := l.prog) (w := w) (base := base) F9 b9 (PySem.W.mg_of X G a9) g_law_draw
  have g_law_is_int := good_law_is_int (P := l.prog) (w := w) (base := base) F10 b10 (PySem.W.mg_of X G a10) y_bool y_int y_isinstance
  have g_law_drawn_table := good_law_drawn_table (P := l.prog) (w := w) (base := base) F11 b11 (PySem.W.mg_of X G a11) g_law_pick y_range y_tuple
  have g_law_through := good_law_through (P := l.prog) (w := w) (base := base) F12 b12 (PySem.W.mg_of X G a12) y_len y_max y_range y_tuple
  have g_law_right_table := good_law_right_table (P := l.prog) (w := w) (base := base) F13 b13 (PySem.W.mg_of X G a13) g_law_is_int y_all y_isinstance y_len y_tuple
  have g_law_bent := good_law_bent (P := l.prog) (w := w) (base := base) F14 b14 (PySem.W.mg_of X G a14) g_law_draw g_law_pick y_list y_tuple
  have g_law_says := good_law_says (P := l.prog) (w := w) (base := base) F15 b15 (PySem.W.mg_of X G a15) y_bool y_isinstance
  have g_law_units_and_kinds := good_law_units_and_kinds (P := l.prog) (w := w) (base := base) F16 b16 (PySem.W.mg_of X G a16) g_is_table g_same_table g_compose g_law_right_table g_law_bent g_law_says y_int y_range y_tuple
  exact ok_law F17 g_compose g_is_own_square g_has_own_fall g_law_begin g_law_draw g_law_rare g_law_drawn_table g_law_through g_law_right_table g_law_says g_law_units_and_kinds y_any y_range
end Fw
open PySem PySem.W PyProof.Rows
set_option maxHeartbeats 0 in
theorem PySem.Challenge.cw_foldwarrant_k15_tables_holds : PySem.Challenge.rw_foldwarrant_k15_tables.Holds := by
  w_on; o_law; k_head; (case hw => w_witness2)
  k_fill
  refine L2.walk_of (l := PySem.Challenge.rw_foldwarrant_k15_tables) (n := 63) (k := 5) (x := "script") (CX := fun w => L2.CX PySem.Challenge.rw_foldwarrant_k15_tables.prog w) (sp := fun w => Fw.spM _ 1 Fw.fm_law) rfl (by decide) rfl ⟨rfl, by decide, by decide⟩ (fun w h Y => PySem.W.kIn_of Y) ?F (fun _ _ a ns hl hO hS => Fw.sp_law (fun _ _ hd _ _ q => Fw.run_law hd q) hO hS) (fun _ _ _ _ _ h => Fw.cx_none h)
  case F =>
    intro w mg fa h KX G hmg
    refine' Fw.all_mk KX G hmg ?a1 ?l1 ?c1 ?k1 ?a2 ?l2 ?c2 ?k2 ?a3 ?l3 ?c3 ?k3 ?a4 ?l4 ?c4 ?k4 ?a5 ?l5 ?c5 ?k5 ?a6 ?l6 ?c6 ?k6 ?a7 ?l7 ?c7 ?k7 ?a8 ?l8 ?c8 ?k8 ?a9 ?l9 ?c9 ?k9 ?a10 ?l10 ?c10 ?k10 ?a11 ?l11 ?c11 ?k11 ?a12 ?l12 ?c12 ?k12 ?a13 ?l13 ?c13 ?k13 ?a14 ?l14 ?c14 ?k14 ?a15 ?l15 ?c15 ?k15 ?a16 ?l16 ?c16 ?k16 ?a17 ?l17 ?c17 ?k17 ?z_abs ?z_all ?z_any ?z_bool ?z_int ?z_isinstance ?z_len ?z_list ?z_max ?z_range ?z_tuple
    (case a1 => k_is); (case l1 => k_is); (case c1 => k_is); (case k1 => k_is); (case a2 => k_is); (case l2 => k_is); (case c2 => k_is); (case k2 => k_is); (case a3 => k_is); (case l3 => k_is); (case c3 => k_is); (case k3 => k_is); (case a4 => k_is); (case l4 => k_is); (case c4 => k_is); (case k4 => k_is); (case a5 => k_is); (case l5 => k_is); (case c5 => k_is); (case k5 => k_is); (case a6 => k_is); (case l6 => k_is); (case c6 => k_is); (case k6 => k_is); (case a7 => k_is); (case l7 => k_is); (case c7 => k_is); (case k7 => k_is); (case a8 => k_is); (case l8 => k_is); (case c8 => k_is); (case k8 => k_is); (case a9 => k_is); (case l9 => k_is); (case c9 => k_is); (case k9 => k_is); (case a10 => k_is); (case l10 => k_is); (case c10 => k_is); (case k10 => k_is); (case a11 => k_is); (case l11 => k_is); (case c11 => k_is); (case k11 => k_is); (case a12 => k_is); (case l12 => k_is); (case c12 => k_is); (case k12 => k_is); (case a13 => k_is); (case l13 => k_is); (case c13 => k_is); (case k13 => k_is); (case a14 => k_is); (case l14 => k_is); (case c14 => k_is); (case k14 => k_is); (case a15 => k_is); (case l15 => k_is); (case c15 => k_is); (case k15 => k_is); (case a16 => k_is); (case l16 => k_is); (case c16 => k_is); (case k16 => k_is); (case a17 => k_is); (case l17 => k_is); (case c17 => k_is); (case k17 => k_is); (case z_abs => k_is); (case z_all => k_is); (case z_any => k_is); (case z_bool => k_is); (case z_int => k_is); (case z_isinstance => k_is); (case z_len => k_is); (case z_list => k_is); (case z_max => k_is); (case z_range => k_is); (case z_tuple => k_is)
