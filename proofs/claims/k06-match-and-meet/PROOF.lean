import PyProof.Rows.All
import Wide.All
import OpenK.AllK
import Wide.FinOn
import HandS.ForMost
import HandS.Exc
import HandS.TryOnly
import HandS.ExcOwn
import HandS.CallSlots
import HandS.WordsExc
import HandS.IsInst
import HandS.TupAny
import HandS.TupMul
import HandS.Flow
import HandS.Rev
import HandS.Zip
import HandS.Style
import HandS.Wide
import HandS.Text
import HandS.Deep
import PyProof.MaxThree
import HandS.More
import HandS.WordsDict
import HandS.Conv
import KE.KEqNest
import PyProof.P3Eq
import HandS.DictComp
import PySem.Challenge.RW_foldwarrant_k06_match_and_meet
import PyProof.StrLawsIn
set_option Elab.async false
set_option linter.all false
set_option maxRecDepth 100000
set_option maxHeartbeats 2000000
/-! Fw A: plain data D, slots, the state of a def as plain data, readings by a plain run. -/
namespace Fw
open PySem L2

/-! ### data -/
inductive D where
  | non | bl (b : Bool) | int (i : Int) | str (x : Str) | adr (a : Addr) | ty (n : String)
  | tup (ds : List D) | lst (ds : List D) | dct (t : Bool) (ks vs : List D)
  /-- a tuple of the written part -/
  | ktp (ds : List D)
  /-- a list of the written part -/
  | kls (ds : List D)

def kD : Key → D
  | .inl i => .int i
  | .inr x => .str x
def ktD (l : List Key) : D := .tup (l.map kD)

/-- a frozen list -/
def SqZ (H : Hp) (a : Addr) (xs : List V) : Prop := ∃ o, H a = some (.frz o (.lst xs))
theorem SqZ.seq {K : PySem.W.Frag} {H : Hp} {a : Addr} {xs : List V} (h : SqZ H a xs) : SqL K H a xs := by
  obtain ⟨o, h⟩ := h
  exact .inl (.inr ⟨o, h⟩)
/-- a list of the written part -/
def KLi (K : PySem.W.Frag) (a : Addr) (xs : List V) : Prop := ∃ (o : Obj) (its : Array Value) (n : Nat), K.lookup a = some o ∧ o.cls = .type "list" ∧ o.dict = none ∧ o.data = .seq its n ∧ its.size ≤ sizeLine ∧ Vals xs its.toList
theorem KLi.seq {K : PySem.W.Frag} {H : Hp} {a : Addr} {xs : List V} (h : KLi K a xs) : SqL K H a xs := .inr h
/-- a tuple of the written part -/
def KTu (K : PySem.W.Frag) (a : Addr) (xs : List V) : Prop := ∃ (o : Obj) (its : Array Value) (n : Nat), K.lookup a = some o ∧ o.cls = .type "tuple" ∧ o.data = .seq its n ∧ its.size ≤ sizeLine ∧ Vals xs its.toList
theorem KTu.seq {K : PySem.W.Frag} {H : Hp} {a : Addr} {xs : List V} (h : KTu K a xs) : SqT K H a xs := .inr h
/-- a dict's object with these keys and values -/
def DiO (u : HO) (ks : List D) (xs : List V) : Bool → Prop
  | false => ∃ kvs : List (Key × V), u = .dK kvs ∧ ks = kvs.map (fun p => kD p.1) ∧ xs = kvs.map (·.2)
  | true => ∃ kvs : List (List Key × V), u = .dT kvs ∧ ks = kvs.map (fun p => ktD p.1) ∧ xs = kvs.map (·.2)

mutual
def Rep (K : PySem.W.Frag) (H : Hp) : D → V → Prop
  | .non, v => v = .non
  | .bl b, v => v = .bl b
  | .int i, v => v = .int i
  | .str x, v => v = .str x
  | .adr a, v => v = .ref a
  | .ty n, v => v = .ty n
  | .tup ds, v => ∃ a xs, v = .ref a ∧ H a = some (.tup xs) ∧ Reps K H ds xs
  | .ktp ds, v => ∃ a xs, v = .ref a ∧ KTu K a xs ∧ Reps K H ds xs
  | .lst ds, v => ∃ a xs, v = .ref a ∧ SqZ H a xs ∧ Reps K H ds xs
  | .kls ds, v => ∃ a xs, v = .ref a ∧ KLi K a xs ∧ Reps K H ds xs
  | .dct t ks vs, v => ∃ a o u xs, v = .ref a ∧ H a = some (.frz o u) ∧ DiO u ks xs t ∧ Reps K H vs xs
def Reps (K : PySem.W.Frag) (H : Hp) : List D → List V → Prop
  | [], xs => xs = []
  | d :: ds, xs => ∃ x r, xs = x :: r ∧ Rep K H d x ∧ Reps K H ds r
end
theorem reps_iff {K : PySem.W.Frag} {H : Hp} : ∀ {ds : List D} {xs : List V}, Reps K H ds xs ↔ Paired (Rep K H) ds xs
  | [], xs => by
    constructor
    · intro h
      have e : xs = [] := by simpa [Reps] using h
      subst e
      exact .nil
    · intro h
      cases h
      simp [Reps]
  | d :: ds, xs => by
    constructor
    · intro h
      rw [Reps] at h
      obtain ⟨x, r, rfl, h1, h2⟩ := h
      exact .cons h1 (reps_iff.mp h2)
    · intro h
      cases h with
      | cons h1 h2 =>
        rw [Reps]
        exact ⟨_, _, rfl, h1, reps_iff.mpr h2⟩

/-- all that does not change stays -/
structure Kept (H H' : Hp) : Prop where
  tup : ∀ b xs, H b = some (.tup xs) → H' b = some (.tup xs)
  frz : ∀ b o u, H b = some (.frz o u) → H' b = some (.frz o u)
theorem Kept.refl (H : Hp) : Kept H H := ⟨fun _ _ h => h, fun _ _ _ h => h⟩
theorem Kept.trans {H H1 H2 : Hp} (a : Kept H H1) (b : Kept H1 H2) : Kept H H2 := ⟨fun c x h => b.tup c x (a.tup c x h), fun c o u h => b.frz c o u (a.frz c o u h)⟩
theorem Kept.same {H H' : Hp} (s : Same H H') : Kept H H' := ⟨fun _ _ h => s _ _ h, fun _ _ _ h => s _ _ h⟩
theorem Kept.sqT {K : PySem.W.Frag} {H H' : Hp} (k : Kept H H') {a : Addr} {xs : List V} (h : SqT K H a xs) : SqT K H' a xs := by
  rcases h with (h | ⟨o, h⟩) | h
  · exact .inl (.inl (k.tup _ _ h))
  · exact .inl (.inr ⟨o, k.frz _ _ _ h⟩)
  · exact .inr h
theorem Kept.sqZ {H H' : Hp} (k : Kept H H') {a : Addr} {xs : List V} (h : SqZ H a xs) : SqZ H' a xs := by
  obtain ⟨o, h⟩ := h
  exact ⟨o, k.frz _ _ _ h⟩
mutual
theorem Rep.mono {K : PySem.W.Frag} {H H' : Hp} (k : Kept H H') : ∀ (d : D) (v : V), Rep K H d v → Rep K H' d v
  | .non, _, h => by simpa [Rep] using h
  | .bl _, _, h => by simpa [Rep] using h
  | .int _, _, h => by simpa [Rep] using h
  | .str _, _, h => by simpa [Rep] using h
  | .adr _, _, h => by simpa [Rep] using h
  | .ty _, _, h => by simpa [Rep] using h
  | .tup ds, v, h => by
    rw [Rep] at h ⊢
    obtain ⟨a, xs, e, h1, h2⟩ := h
    exact ⟨a, xs, e, k.tup _ _ h1, Reps.mono k ds xs h2⟩
  | .ktp ds, v, h => by
    rw [Rep] at h ⊢
    obtain ⟨a, xs, e, h1, h2⟩ := h
    exact ⟨a, xs, e, h1, Reps.mono k ds xs h2⟩
  | .kls ds, v, h => by
    rw [Rep] at h ⊢
    obtain ⟨a, xs, e, h1, h2⟩ := h
    exact ⟨a, xs, e, h1, Reps.mono k ds xs h2⟩
  | .lst ds, v, h => by
    rw [Rep] at h ⊢
    obtain ⟨a, xs, e, h1, h2⟩ := h
    exact ⟨a, xs, e, k.sqZ h1, Reps.mono k ds xs h2⟩
  | .dct t ks vs, v, h => by
    rw [Rep] at h ⊢
    obtain ⟨a, o, u, xs, e, h1, h2, h3⟩ := h
    exact ⟨a, o, u, xs, e, k.frz _ _ _ h1, h2, Reps.mono k vs xs h3⟩
theorem Reps.mono {K : PySem.W.Frag} {H H' : Hp} (k : Kept H H') : ∀ (ds : List D) (xs : List V), Reps K H ds xs → Reps K H' ds xs
  | [], _, h => by simpa [Reps] using h
  | d :: ds, xs, h => by
    rw [Reps] at h ⊢
    obtain ⟨x, r, e, h1, h2⟩ := h
    exact ⟨x, r, e, Rep.mono k d x h1, Reps.mono k ds r h2⟩
end

/-! ### owned objects, slots -/
inductive OV where
  | lst (ds : List D) | dic (t : Bool) (ks vs : List D)
def OV.d : OV → D
  | .lst ds => .lst ds
  | .dic t ks vs => .dct t ks vs
def OwnAt (K : PySem.W.Frag) (H : Hp) (a : Addr) : OV → Prop
  | .lst ds => ∃ xs, H a = some (.lst xs) ∧ Reps K H ds xs
  | .dic t ks vs => ∃ u xs, H a = some u ∧ DiO u ks xs t ∧ Reps K H vs xs
/-- an object that may be changed -/
def Chg : HO → Prop
  | .lst _ => True
  | .dK _ => True
  | .dT _ => True
  | _ => False
theorem DiO.chg {u : HO} {ks : List D} {xs : List V} {t : Bool} (h : DiO u ks xs t) : Chg u := by
  cases t <;> (obtain ⟨_, rfl, _⟩ := h; trivial)
theorem OwnAt.chg {K : PySem.W.Frag} {H : Hp} {a : Addr} {o : OV} (h : OwnAt K H a o) : ∃ u, H a = some u ∧ Chg u := by
  cases o with
  | lst ds => obtain ⟨xs, e, _⟩ := h; exact ⟨_, e, trivial⟩
  | dic t ks vs => obtain ⟨u, xs, e, d, _⟩ := h; exact ⟨u, e, d.chg⟩
theorem OwnAt.mono {K : PySem.W.Frag} {H H' : Hp} {a : Addr} (k : Kept H H') : ∀ {o : OV}, (∀ u, H a = some u → H' a = some u) → OwnAt K H a o → OwnAt K H' a o
  | .lst ds, e, h => by obtain ⟨xs, h1, h2⟩ := h; exact ⟨xs, e _ h1, Reps.mono k _ _ h2⟩
  | .dic t ks vs, e, h => by obtain ⟨u, xs, h1, h2, h3⟩ := h; exact ⟨u, xs, e _ h1, h2, Reps.mono k _ _ h3⟩

inductive SV where
  | unk | val (d : D) | own (lent : Bool) (o : OV)
abbrev MS := List SV
def Ow (ms : MS) (σ : St) (a : Addr) : Prop := ∃ (i : Nat) (l : Bool) (o : OV), ms[i]? = some (SV.own l o) ∧ σ[i]? = some (some (.ref a))
structure Good (K : PySem.W.Frag) (ms : MS) (σ : St) (H : Hp) : Prop where
  len : ms.length = σ.length
  val : ∀ (i : Nat) (d : D), ms[i]? = some (.val d) → ∃ v, σ[i]? = some (some v) ∧ Rep K H d v
  own : ∀ (i : Nat) (l : Bool) (o : OV), ms[i]? = some (.own l o) → ∃ a : Addr, σ[i]? = some (some (.ref a)) ∧ OwnAt K H a o
  inj : ∀ (i j : Nat) (l l' : Bool) (o o' : OV) (a : Addr), ms[i]? = some (.own l o) → ms[j]? = some (.own l' o') → σ[i]? = some (some (.ref a)) → σ[j]? = some (some (.ref a)) → i = j
theorem Good.chg {K : PySem.W.Frag} {ms : MS} {σ : St} {H : Hp} (g : Good K ms σ H) {a : Addr} (h : Ow ms σ a) : ∃ u, H a = some u ∧ Chg u := by
  obtain ⟨i, l, o, h1, h2⟩ := h
  obtain ⟨a', e, h3⟩ := g.own i l o h1
  rw [h2] at e
  cases e
  exact h3.chg

/-! ### behind an expression -/
structure PostE (K : PySem.W.Frag) (ms : MS) (σ : St) (H : Hp) (ms' : MS) (H' : Hp) : Prop where
  good : Good K ms' σ H'
  keep : ∀ b o, H b = some o → ¬ Ow ms σ b → H' b = some o
  live : ∀ b, H b ≠ none → H' b ≠ none
  ow : ∀ b, Ow ms' σ b → Ow ms σ b
  lent : ∀ (i : Nat) (o : OV), ms[i]? = some (.own true o) → ∃ o', ms'[i]? = some (.own true o')
theorem PostE.refl {K : PySem.W.Frag} {ms : MS} {σ : St} {H : Hp} (g : Good K ms σ H) : PostE K ms σ H ms H := ⟨g, fun _ _ h _ => h, fun _ h => h, fun _ h => h, fun _ o h => ⟨o, h⟩⟩
theorem PostE.trans {K : PySem.W.Frag} {ms ms1 ms2 : MS} {σ : St} {H H1 H2 : Hp} (a : PostE K ms σ H ms1 H1) (b : PostE K ms1 σ H1 ms2 H2) : PostE K ms σ H ms2 H2 :=
  ⟨b.good, fun c o h n => b.keep c o (a.keep c o h n) fun z => n (a.ow c z), fun c h => b.live c (a.live c h), fun c h => a.ow c (b.ow c h), fun i o h => let ⟨o', h'⟩ := a.lent i o h; b.lent i o' h'⟩
theorem PostE.kept {K : PySem.W.Frag} {ms ms' : MS} {σ : St} {H H' : Hp} (g : Good K ms σ H) (p : PostE K ms σ H ms' H') : Kept H H' := by
  refine ⟨fun b xs h => p.keep b _ h fun z => ?_, fun b o u h => p.keep b _ h fun z => ?_⟩
  · obtain ⟨u, e, c⟩ := g.chg z
    rw [h] at e; cases e; exact c
  · obtain ⟨u, e, c⟩ := g.chg z
    rw [h] at e; cases e; exact c
theorem Good.same {K : PySem.W.Frag} {ms : MS} {σ : St} {H H' : Hp} (g : Good K ms σ H) (s : Same H H') : Good K ms σ H' :=
  ⟨g.len, fun i d h => let ⟨v, e, r⟩ := g.val i d h; ⟨v, e, Rep.mono (.same s) _ _ r⟩, fun i l o h => let ⟨a, e, r⟩ := g.own i l o h; ⟨a, e, r.mono (.same s) (s a)⟩, g.inj⟩
theorem PostE.same {K : PySem.W.Frag} {ms : MS} {σ : St} {H H' : Hp} (g : Good K ms σ H) (s : Same H H') : PostE K ms σ H ms H' :=
  ⟨g.same s, fun b o h _ => s b o h, (fun b h z => (by
    cases e : H b with
    | none => exact h e
    | some o => rw [s b o e] at z; cases z)), fun _ h => h, fun _ o h => ⟨o, h⟩⟩

/-! ### values in flight -/
inductive EV where
  | val (d : D) | new (o : OV) | bor (i : Nat)
/-- H0: the heap ahead of the evaluation -/
def EVOk (K : PySem.W.Frag) (ms : MS) (σ : St) (H0 H : Hp) (v : V) : EV → Prop
  | .val d => Rep K H d v
  | .new o => ∃ a, v = .ref a ∧ H0 a = none ∧ OwnAt K H a o ∧ ¬ Ow ms σ a
  | .bor i => σ[i]? = some (some v)
theorem EVOk.mono {K : PySem.W.Frag} {ms ms' : MS} {σ : St} {H0 H H' : Hp} {v : V} (g : Good K ms σ H) (p : PostE K ms σ H ms' H') : ∀ {e : EV}, EVOk K ms σ H0 H v e → EVOk K ms' σ H0 H' v e
  | .val d, h => Rep.mono (p.kept g) _ _ h
  | .new o, h => by
    obtain ⟨a, e, f, h1, h2⟩ := h
    exact ⟨a, e, f, h1.mono (p.kept g) (fun u hu => p.keep a u hu h2), fun z => h2 (p.ow a z)⟩
  | .bor i, h => h
/-- .. where the evaluation began earlier -/
theorem EVOk.early {K : PySem.W.Frag} {ms : MS} {σ : St} {H0 H1 H : Hp} {v : V} (l : ∀ b, H0 b ≠ none → H1 b ≠ none) : ∀ {e : EV}, EVOk K ms σ H1 H v e → EVOk K ms σ H0 H v e
  | .val d, h => h
  | .new o, h => by
    obtain ⟨a, e, f, h1⟩ := h
    refine ⟨a, e, ?_, h1⟩
    cases q : H0 a with
    | none => rfl
    | some u => exact absurd f (l a (by rw [q]; exact fun z => nomatch z))
  | .bor i, h => h
/-- what is read of it -/
def SV.rd : SV → Option D
  | .unk => none
  | .val d => some d
  | .own _ o => some o.d
def rd (ms : MS) : EV → Option D
  | .val d => some d
  | .new o => some o.d
  | .bor i => match ms[i]? with
    | some s => s.rd
    | none => none
/-- readable as d -/
def RdAt (K : PySem.W.Frag) (H : Hp) (d : D) (v : V) : Prop := match d with
  | .lst ds => ∃ a xs, v = .ref a ∧ Rd H a (.lst xs) ∧ Reps K H ds xs
  | .dct t ks vs => ∃ a u xs, v = .ref a ∧ Rd H a u ∧ DiO u ks xs t ∧ Reps K H vs xs
  | d => Rep K H d v
theorem RdAt.of {K : PySem.W.Frag} {H : Hp} {d : D} {v : V} (h : Rep K H d v) : RdAt K H d v := by
  cases d with
  | lst ds => rw [Rep] at h; obtain ⟨a, xs, e, ⟨o, h1⟩, h2⟩ := h; exact ⟨a, xs, e, .inr ⟨o, h1⟩, h2⟩
  | dct t ks vs => rw [Rep] at h; obtain ⟨a, o, u, xs, e, h1, h2, h3⟩ := h; exact ⟨a, u, xs, e, .inr ⟨o, h1⟩, h2, h3⟩
  | _ => exact h
theorem RdAt.own {K : PySem.W.Frag} {H : Hp} {a : Addr} : ∀ {o : OV}, OwnAt K H a o → RdAt K H o.d (.ref a)
  | .lst ds, h => by obtain ⟨xs, e, r⟩ := h; exact ⟨a, xs, rfl, .of e, r⟩
  | .dic t ks vs, h => by obtain ⟨u, xs, e, d, r⟩ := h; exact ⟨a, u, xs, rfl, .inl e, d, r⟩
theorem rd_ok {K : PySem.W.Frag} {ms : MS} {σ : St} {H0 H : Hp} {v : V} {e : EV} {d : D} (g : Good K ms σ H) (h : EVOk K ms σ H0 H v e) (r : rd ms e = some d) : RdAt K H d v := by
  cases e with
  | val d' => cases r; exact .of h
  | new o =>
    cases r
    obtain ⟨a, rfl, _, h1, _⟩ := h
    exact .own h1
  | bor i =>
    have h : σ[i]? = some (some v) := h
    cases hs : ms[i]? with
    | none => simp only [rd, hs] at r; cases r
    | some s =>
      simp only [rd, hs] at r
      cases s with
      | unk => cases r
      | val d' =>
        cases r
        obtain ⟨v', e, q⟩ := g.val i _ hs
        rw [h] at e; cases e
        exact .of q
      | own l o =>
        cases r
        obtain ⟨a, e, q⟩ := g.own i l o hs
        rw [h] at e; cases e
        exact .own q

/-! ### plain runs -/
/-- an exception: its class, its fields -/
structure EX where
  cls : Addr
  fs : List (Str × D)
inductive Res (α : Type) where
  | ok (a : α) (ms : MS) | exc (x : EX) (ms : MS)
abbrev M (α : Type) := MS → Option (Res α)
def M.pure {α : Type} (a : α) : M α := fun ms => some (.ok a ms)
def M.lift {α : Type} (o : Option α) : M α := fun ms => match o with
  | some a => some (.ok a ms)
  | none => none
def M.bind {α β : Type} (m : M α) (f : α → M β) : M β := fun ms => match m ms with
  | none => none
  | some (.exc x ms') => some (.exc x ms')
  | some (.ok a ms') => f a ms'
def Run {α : Type} (m : M α) (ms : MS) (k : α → MS → Prop) (x : EX → MS → Prop) : Prop := match m ms with
  | none => False
  | some (.ok a ms') => k a ms'
  | some (.exc e ms') => x e ms'
theorem Run.bind {α β : Type} {m : M α} {f : α → M β} {ms : MS} {k : β → MS → Prop} {x : EX → MS → Prop} : Run (m.bind f) ms k x = Run m ms (fun a ms' => Run (f a) ms' k x) x := by
  unfold Run M.bind
  cases m ms with
  | none => rfl
  | some r => cases r <;> rfl
theorem Run.mono {α : Type} {m : M α} {ms : MS} {k k' : α → MS → Prop} {x x' : EX → MS → Prop} (h : Run m ms k x) (hk : ∀ a ms', k a ms' → k' a ms') (hx : ∀ e ms', x e ms' → x' e ms') : Run m ms k' x' := by
  unfold Run at h ⊢
  cases q : m ms with
  | none => rw [q] at h; exact h
  | some r =>
    rw [q] at h
    cases r with
    | ok a ms' => exact hk a ms' h
    | exc e ms' => exact hx e ms' h
theorem Run.lift {α : Type} {o : Option α} {ms : MS} {k : α → MS → Prop} {x : EX → MS → Prop} (h : Run (M.lift o) ms k x) : ∃ a, o = some a ∧ k a ms := by
  unfold Run M.lift at h
  cases o with
  | none => exact h.elim
  | some a => exact ⟨a, rfl, h⟩
theorem Run.ms {α : Type} {f : MS → Option (Res α)} {ms : MS} {k : α → MS → Prop} {x : EX → MS → Prop} {r : Res α} (h : Run f ms k x) (e : f ms = some r) : (match r with | .ok a ms' => k a ms' | .exc z ms' => x z ms') := by
  unfold Run at h
  rw [e] at h
  cases r <;> exact h

def ExOk (K : PySem.W.Frag) (H : Hp) (x : EX) (cls : Value) (d : Option Addr) : Prop :=
  cls = .ref x.cls ∧ ((x.fs = [] ∧ d = none) ∨ ∃ dx xs, d = some dx ∧ H dx = some (.xd (x.fs.map (·.1) |>.zip xs)) ∧ Reps K H (x.fs.map (·.2)) xs)

/-! ### readings by a plain run -/
/-- an expression -/
def tM (K : PySem.W.Frag) (W : WX) (m : M EV) : TE := fun σ H Q => ∃ ms, Good K ms σ H ∧ Run m ms
  (fun ev ms' => ∀ v H', PostE K ms σ H ms' H' → EVOk K ms' σ H H' v ev → Q v H')
  (fun x ms' => ∀ cls d H', PostE K ms σ H ms' H' → ExOk K H' x cls d → W cls d σ H')
/-- a test -/
def tMT (K : PySem.W.Frag) (W : WX) (m : M Bool) : TT := fun σ H Q => ∃ ms, Good K ms σ H ∧ Run m ms
  (fun b ms' => ∀ H', PostE K ms σ H ms' H' → Q b H')
  (fun x ms' => ∀ cls d H', PostE K ms σ H ms' H' → ExOk K H' x cls d → W cls d σ H')
/-- arguments -/
def EVsOk (K : PySem.W.Frag) (ms : MS) (σ : St) (H0 H : Hp) : List V → List EV → Prop := Paired fun v e => EVOk K ms σ H0 H v e
def tMA (K : PySem.W.Frag) (W : WX) (m : M (List EV)) : TA := fun σ H Q => ∃ ms, Good K ms σ H ∧ Run m ms
  (fun es ms' => ∀ vs H', PostE K ms σ H ms' H' → EVsOk K ms' σ H H' vs es → Q vs H')
  (fun x ms' => ∀ cls d H', PostE K ms σ H ms' H' → ExOk K H' x cls d → W cls d σ H')
abbrev ME (X : Cx) (W : WX) (e : Expr) (m : M EV) : Prop := PE X e (tM X.K W m)
abbrev MT (X : Cx) (W : WX) (e : Expr) (m : M Bool) : Prop := PT X e (tMT X.K W m)
abbrev MA (X : Cx) (W : WX) (es : List Expr) (m : M (List EV)) : Prop := PA X es (tMA X.K W m)
theorem PE.imp {X : Cx} {e : Expr} {t t' : TE} (h : PE X e t) (i : ∀ σ H Q, t' σ H Q → t σ H Q) : PE X e t' := ⟨fun pins s σ H Q I q => h.run pins s σ H Q I (i σ H Q q)⟩
theorem PT.imp {X : Cx} {e : Expr} {t t' : TT} (h : PT X e t) (i : ∀ σ H Q, t' σ H Q → t σ H Q) : PT X e t' := ⟨fun pins s σ H Q I q => h.run pins s σ H Q I (i σ H Q q)⟩
theorem PW.imp {X : Cx} {e : Expr} {t t' : TT} (h : PW X e t) (i : ∀ σ H Q, t' σ H Q → t σ H Q) : PW X e t' := ⟨fun wh pins s σ H Q I q => h.run wh pins s σ H Q I (i σ H Q q)⟩
theorem PA.imp {X : Cx} {e : List Expr} {t t' : TA} (h : PA X e t) (i : ∀ σ H Q, t' σ H Q → t σ H Q) : PA X e t' := ⟨fun pos pins s σ H Q I q => h.run pos pins s σ H Q I (i σ H Q q)⟩
theorem PS.imp {X : Cx} {e : Stmt} {t t' : TS} (h : PS X e t) (i : ∀ D σ H, t' D σ H → t D σ H) : PS X e t' := ⟨fun pins s σ H D I q => h.run pins s σ H D I (i D σ H q)⟩
theorem PSs.imp {X : Cx} {e : List Stmt} {t t' : TS} (h : PSs X e t) (i : ∀ D σ H, t' D σ H → t D σ H) : PSs X e t' := ⟨fun pins s σ H D I q => h.run pins s σ H D I (i D σ H q)⟩

section
variable {X : Cx} {W : WX} {a b e : Expr} {es : List Expr} {ma mb m : M EV} {pos : Pos}
/-- THE STEP: from a run of m and then f, the reading of m and what is to be shown behind it -/
theorem tM_bind {K : PySem.W.Frag} {α : Type} {m : M EV} {f : EV → M α} {ms : MS} {σ : St} {H : Hp} {k : α → MS → Prop} {xk : EX → MS → Prop} {R : VK} (g : Good K ms σ H) (h : Run (m.bind f) ms k xk)
    (hx : ∀ x ms', xk x ms' → ∀ cls d H', PostE K ms σ H ms' H' → ExOk K H' x cls d → W cls d σ H')
    (hk : ∀ ev ms', Run (f ev) ms' k xk → ∀ v H', PostE K ms σ H ms' H' → EVOk K ms' σ H H' v ev → R v H') : tM K W m σ H R := by
  rw [Run.bind] at h
  exact ⟨ms, g, h.mono (fun ev ms' q v H' p e => hk ev ms' q v H' p e) fun x ms' q => hx x ms' q⟩
/-! names, constants -/
theorem me_val {d : D} {v : V} (hv : ∀ H, Rep X.K H d v) (h : PE X e (tC v)) : ME X W e (M.pure (.val d)) := by
  refine PE.imp h fun σ H Q q => ?_
  obtain ⟨ms, g, r⟩ := q
  exact r v H (.refl g) (hv H)
def mVar (i : Nat) : M EV := fun ms => match ms[i]? with
  | some (.val d) => some (.ok (.val d) ms)
  | some (.own _ _) => some (.ok (.bor i) ms)
  | _ => none
theorem me_var {i : Nat} (h : PE X e (tVar i)) : ME X W e (mVar i) := by
  refine PE.imp h fun σ H Q q => ?_
  obtain ⟨ms, g, r⟩ := q
  unfold Run mVar at r
  cases hi : ms[i]? with
  | none => rw [hi] at r; exact r.elim
  | some s =>
    rw [hi] at r
    cases s with
    | unk => exact r.elim
    | val d =>
      obtain ⟨v, e1, e2⟩ := g.val i d hi
      exact ⟨v, e1, r v H (.refl g) e2⟩
    | own l o =>
      obtain ⟨a, e1, e2⟩ := g.own i l o hi
      exact ⟨_, e1, r _ H (.refl g) e1⟩

/-! operators by values -/
/-- what an operator hands out -/
def ResOk (K : PySem.W.Frag) (H H' : Hp) (v : V) : EV → Prop
  | .val d => Rep K H' d v
  | .new o => ∃ a, v = .ref a ∧ H a = none ∧ OwnAt K H' a o
  | .bor _ => False
theorem ResOk.ev {K : PySem.W.Frag} {ms : MS} {σ : St} {H H' : Hp} {v : V} (g : Good K ms σ H) : ∀ {e : EV}, ResOk K H H' v e → EVOk K ms σ H H' v e
  | .val d, h => h
  | .new o, h => by
    obtain ⟨a, e, f, q⟩ := h
    refine ⟨a, e, f, q, fun z => ?_⟩
    obtain ⟨u, hu, _⟩ := g.chg z
    rw [f] at hu; cases hu
  | .bor _, h => h.elim
def Op2 (X : Cx) (f : Value → Value → Sem Value) (g : D → D → Option EV) : Prop :=
  ∃ r, OpR X f r ∧ ∀ H x y d e ev Q, RdAt X.K H d x → RdAt X.K H e y → g d e = some ev → (∀ v H', Same H H' → ResOk X.K H H' v ev → Q v H') → r x y H Q
def mOp2 (g : D → D → Option EV) (ma mb : M EV) : M EV := ma.bind fun x => mb.bind fun y => fun ms => match rd ms x, rd ms y with
  | some d, some e => M.lift (g d e) ms
  | _, _ => none
theorem op2_end {K : PySem.W.Frag} {ms : MS} {σ : St} {H0 H H1 : Hp} {x y : V} {ex ey : EV} {g : D → D → Option EV} {R : (VK) → Prop} {k : EV → MS → Prop} {xk : EX → MS → Prop}
    (G : Good K ms σ H) (ox : EVOk K ms σ H0 H x ex) (oy : EVOk K ms σ H1 H y ey) (h : Run (fun ms => match rd ms ex, rd ms ey with | some d, some e => M.lift (g d e) ms | _, _ => none) ms k xk) :
    ∃ d e ev, RdAt K H d x ∧ RdAt K H e y ∧ g d e = some ev ∧ k ev ms := by
  cases hx : rd ms ex with
  | none => simp only [Run, hx] at h
  | some d =>
    cases hy : rd ms ey with
    | none => simp only [Run, hx, hy] at h
    | some e =>
      simp only [Run, hx, hy] at h
      obtain ⟨ev, e1, e2⟩ := Run.lift (o := g d e) (ms := ms) (k := k) (x := xk) h
      exact ⟨d, e, ev, rd_ok G ox hx, rd_ok G oy hy, e1, e2⟩
theorem me_op2 {op : Operator} {g : D → D → Option EV} (ho : Op2 X (binaryOp op) g) (ha : ME X W a ma) (hb : ME X W b mb) : ME X W (.BinOp a op b pos) (mOp2 g ma mb) := by
  obtain ⟨r, hr, hq⟩ := ho
  refine PE.imp (pe_op hr ha hb) fun σ H Q q => ?_
  obtain ⟨ms, G, h⟩ := q
  refine tM_bind G h (fun x ms' z => z) fun e1 ms1 h1 v1 H1 p1 o1 => ?_
  refine tM_bind p1.good h1 (fun x ms' z cls d H' p => z cls d H' (p1.trans p)) fun e2 ms2 h2 v2 H2 p2 o2 => ?_
  obtain ⟨d, e, ev, k1, k2, k3, k4⟩ := op2_end (R := fun _ => True) p2.good (o1.mono p1.good p2) o2 h2
  refine hq H2 v1 v2 d e ev Q k1 k2 k3 fun v H3 s3 r3 => ?_
  have p3 := PostE.same p2.good s3
  exact k4 v H3 ((p1.trans p2).trans p3) ((r3.ev p2.good).early (fun b hb => (p1.trans p2).live b hb))
end
end Fw
set_option Elab.async false
set_option linter.all false
set_option maxRecDepth 100000
set_option maxHeartbeats 2000000
/-! Fw B: freezing, argument lists, displays, comparisons, tests, calls. -/
namespace Fw
open PySem L2

/-! ### freezing -/
theorem inv_freeze {X : Cx} {pins : List (Addr × Obj)} {σ : St} {H : Hp} {s : Shared} {a : Addr} {u : HO} (I : Inv X pins σ H s) (h : H a = some u) (c : Chg u) :
    ∃ o, Inv X pins σ (upd H a (.frz o u)) s := by
  have hl := (I.hok a u h).lt
  obtain ⟨o, ho⟩ : ∃ o, s.heap.get? a = some o := by
    have x := I.hok a u h
    cases u with
    | lst xs => obtain ⟨_, its, n, _, e⟩ := x; exact ⟨_, e⟩
    | dK kvs => obtain ⟨_, _, vs, _, o, es, ep, e, _⟩ := x; exact ⟨o, e⟩
    | dT kvs => obtain ⟨_, _, xs, _, o, es, ep, e, _⟩ := x; exact ⟨o, e⟩
    | _ => exact c.elim
  have nt : ∀ b xs, H b = some (.tup xs) → b ≠ a := fun b xs e z => by subst z; rw [h] at e; cases e; exact c
  have nf : ∀ b o' u', H b = some (.frz o' u') → b ≠ a := fun b o' u' e z => by subst z; rw [h] at e; cases e; exact c
  have nb : ∀ b ps, H b = some (.tbl ps) → b ≠ a := fun b ps e z => by subst z; rw [h] at e; cases e; exact c
  have no : ∀ b y, H b = some (.own y) → b ≠ a := fun b y e z => by subst z; rw [h] at e; cases e; exact c
  have nn : ∀ b, H b = none → b ≠ a := fun b e z => by subst z; rw [h] at e; cases e
  refine ⟨o, ⟨I.ok, I.os, I.bare, ⟨I.base.keep, I.base.slot, fun b ob e n hx => ?_, I.base.there, fun b xs e => ?_, fun b ob u' e => ?_, fun b ps e => ?_⟩, I.loc, I.cell, ?_, fun x c e => ?_, fun p hp => ?_, fun b ob e => ?_, I.len⟩⟩
  · have q := I.base.free b ob e n hx
    rw [upd_ne (nn b q)]; exact q
  · have q := I.base.tups b xs e
    rw [upd_ne (nt b xs q)]; exact q
  · have q := I.base.frzs b ob u' e
    rw [upd_ne (nf b _ _ q)]; exact q
  · obtain ⟨m, q⟩ := I.base.tbls b ps e
    exact ⟨m, by rw [upd_ne (nb b _ q)]; exact q⟩
  · rw [upd_ne (nn _ I.free)]; exact I.free
  · rw [upd_ne (nn _ (I.freeC x c e))]; exact I.freeC x c e
  · obtain ⟨q1, q2, q3⟩ := I.pin p hp
    exact ⟨q1, by rw [upd_ne (nn _ q2)]; exact q2, q3⟩
  · have st : ∀ {b : Addr} {ob : HO}, ObjOk X.prog X.w H s.heap b ob → ObjOk X.prog X.w (upd H a (.frz o u)) s.heap b ob := fun {b ob} x =>
      x.stay (fun _ _ _ q => q) (fun d q => by rw [upd_ne (no d _ q)]; exact q) fun d xs q => by rw [upd_ne (nt d xs q)]; exact q
    by_cases hb : b = a
    · subst hb
      rw [upd_same] at e; cases e
      exact ⟨ho, st (I.hok _ _ h)⟩
    · rw [upd_ne hb] at e
      exact st (I.hok b ob e)
def tFz (t : TE) : TE := fun σ H Q => t σ H fun v H1 => Q v H1 ∨ ∃ a u, H1 a = some u ∧ Chg u ∧ ∀ o, Q v (upd H1 a (.frz o u))
theorem pe_fz {X : Cx} {e : Expr} {t : TE} (h : PE X e t) : PE X e (tFz t) := by
  refine ⟨fun pins s σ H Q I q => ?_⟩
  refine thn (h.run pins s σ H _ I q) fun v s1 ⟨x, H1, I1, r1, q1⟩ => ?_
  rcases q1 with q1 | ⟨a, u, e1, c, q1⟩
  · exact ⟨x, H1, I1, r1, q1⟩
  · obtain ⟨o, I2⟩ := inv_freeze I1 e1 c
    exact ⟨x, _, I2, r1, q1 o⟩
theorem kept_freeze {H : Hp} {a : Addr} {o : Obj} {u : HO} (h : H a = some u) (c : Chg u) : Kept H (upd H a (.frz o u)) := by
  refine ⟨fun b xs e => ?_, fun b o' u' e => ?_⟩
  · rw [upd_ne (show b ≠ a from fun z => by subst z; rw [h] at e; cases e; exact c)]; exact e
  · rw [upd_ne (show b ≠ a from fun z => by subst z; rw [h] at e; cases e; exact c)]; exact e
/-- the object at a, frozen -/
theorem OwnAt.frz {K : PySem.W.Frag} {H : Hp} {a : Addr} {u : HO} {ob : Obj} : ∀ {o : OV}, OwnAt K H a o → H a = some u → Rep K (upd H a (.frz ob u)) o.d (.ref a)
  | .lst ds, h, e => by
    obtain ⟨xs, e1, r⟩ := h
    rw [e] at e1; cases e1
    rw [OV.d, Rep]
    exact ⟨a, xs, rfl, ⟨ob, upd_same⟩, Reps.mono (kept_freeze e trivial) _ _ r⟩
  | .dic t ks vs, h, e => by
    obtain ⟨u', xs, e1, d, r⟩ := h
    rw [e] at e1; cases e1
    rw [OV.d, Rep]
    exact ⟨a, ob, u, xs, rfl, upd_same, d, Reps.mono (kept_freeze e d.chg) _ _ r⟩
def mFz (m : M EV) : M EV := m.bind fun ev ms => match ev with
  | .val d => some (.ok (.val d) ms)
  | .new o => some (.ok (.val o.d) ms)
  | .bor i => match ms[i]? with
    | some (.val d) => some (.ok (.val d) ms)
    | some (.own false o) => some (.ok (.val o.d) (ms.set i (.val o.d)))
    | _ => none
section
variable {K : PySem.W.Frag} {ms ms' : MS} {σ : St} {H H' : Hp} {a : Addr} {u : HO} {ob : Obj} {o : OV} {i : Nat}
/-- an unowned object is frozen -/
theorem PostE.frzNew (p : PostE K ms σ H ms' H') (hn : H a = none) (hu : H' a = some u) (c : Chg u) (no : ¬ Ow ms' σ a) : PostE K ms σ H ms' (upd H' a (.frz ob u)) := by
  have k := kept_freeze (o := ob) hu c
  refine ⟨⟨p.good.len, fun i d h => ?_, fun i l o h => ?_, p.good.inj⟩, fun b o h n => ?_, fun b h => ?_, p.ow, p.lent⟩
  · obtain ⟨v, e, r⟩ := p.good.val i d h
    exact ⟨v, e, Rep.mono k _ _ r⟩
  · obtain ⟨b, e, r⟩ := p.good.own i l o h
    refine ⟨b, e, r.mono k fun u' hu' => ?_⟩
    rw [upd_ne (show b ≠ a from fun z => no ⟨i, l, o, h, by rw [← z]; exact e⟩)]
    exact hu'
  · have q := p.keep b o h n
    rw [upd_ne (show b ≠ a from fun z => by subst z; rw [hn] at h; cases h)]
    exact q
  · have q := p.live b h
    by_cases z : b = a
    · subst z; rw [upd_same]; exact fun z => nomatch z
    · rw [upd_ne z]; exact q
/-- a slot's own object is frozen -/
theorem PostE.frzSlot (p : PostE K ms σ H ms' H') (hi : ms'[i]? = some (.own false o)) (hs : σ[i]? = some (some (.ref a))) (hu : H' a = some u) : PostE K ms σ H (ms'.set i (.val o.d)) (upd H' a (.frz ob u)) := by
  have ow : Ow ms' σ a := ⟨i, false, o, hi, hs⟩
  have c : Chg u := by
    obtain ⟨u', e, c⟩ := p.good.chg ow
    rw [hu] at e; cases e; exact c
  have oat : OwnAt K H' a o := by
    obtain ⟨b, e, r⟩ := p.good.own i false o hi
    rw [hs] at e; cases e; exact r
  have k := kept_freeze (o := ob) hu c
  have hil : i < ms'.length := (List.getElem?_eq_some_iff.mp hi).1
  have at_ne : ∀ {j : Nat} {s : SV}, j ≠ i → (ms'.set i (.val o.d))[j]? = some s → ms'[j]? = some s := fun {j s} hj h => by
    rw [List.getElem?_set_ne (Ne.symm hj)] at h; exact h
  have own_ne : ∀ {j : Nat} {l : Bool} {o' : OV}, (ms'.set i (.val o.d))[j]? = some (.own l o') → j ≠ i ∧ ms'[j]? = some (.own l o') := fun {j l o'} h => by
    by_cases hj : j = i
    · subst hj
      rw [List.getElem?_set_self hil] at h; cases h
    · exact ⟨hj, at_ne hj h⟩
  refine ⟨⟨by rw [List.length_set]; exact p.good.len, fun j d h => ?_, fun j l o' h => ?_, fun j j' l l' o1 o2 b h1 h2 => ?_⟩, fun b o' h n => ?_, fun b h => ?_, fun b h => ?_, fun j o' h => ?_⟩
  · by_cases hj : j = i
    · subst hj
      rw [List.getElem?_set_self hil] at h; cases h
      exact ⟨_, hs, oat.frz hu⟩
    · obtain ⟨v, e, r⟩ := p.good.val j d (at_ne hj h)
      exact ⟨v, e, Rep.mono k _ _ r⟩
  · obtain ⟨hj, h⟩ := own_ne h
    obtain ⟨b, e, r⟩ := p.good.own j l o' h
    refine ⟨b, e, r.mono k fun u' hu' => ?_⟩
    rw [upd_ne (show b ≠ a from fun z => hj (p.good.inj j i l false o' o a h hi (by rw [← z]; exact e) hs))]
    exact hu'
  · exact p.good.inj j j' l l' o1 o2 b (own_ne h1).2 (own_ne h2).2
  · rw [upd_ne (show b ≠ a from fun z => n (p.ow b (by rw [z]; exact ow)))]
    exact p.keep b o' h n
  · have q := p.live b h
    by_cases z : b = a
    · subst z; rw [upd_same]; exact fun z => nomatch z
    · rw [upd_ne z]; exact q
  · obtain ⟨j, l, o', h1, h2⟩ := h
    exact p.ow b ⟨j, l, o', (own_ne h1).2, h2⟩
  · obtain ⟨o2, h2⟩ := p.lent j o' h
    refine ⟨o2, ?_⟩
    rw [List.getElem?_set_ne (show i ≠ j from fun z => by subst z; rw [hi] at h2; cases h2)]
    exact h2
end
section
variable {X : Cx} {W : WX} {a b c e : Expr} {es rest : List Expr} {ma mb mc m : M EV} {mas : M (List EV)} {ta tb tc : M Bool} {pos : Pos}
theorem me_fz (h : ME X W e m) : ME X W e (mFz m) := by
  refine PE.imp (pe_fz h) fun σ H Q q => ?_
  obtain ⟨ms, G, r⟩ := q
  refine tM_bind G r (fun x ms' z => z) fun ev ms1 h1 v H1 p1 o1 => ?_
  cases ev with
  | val d => exact .inl (h1 v H1 p1 o1)
  | new o =>
    obtain ⟨a, rfl, hn, oat, no⟩ := o1
    obtain ⟨u, hu, cu⟩ := oat.chg
    exact .inr ⟨a, u, hu, cu, fun ob => h1 _ _ (p1.frzNew hn hu cu no) (oat.frz hu)⟩
  | bor i =>
    have o1 : σ[i]? = some (some v) := o1
    unfold Run at h1
    cases hi : ms1[i]? with
    | none => simp only [hi] at h1
    | some sv =>
      cases sv with
      | unk => simp only [hi] at h1
      | val d =>
        simp only [hi] at h1
        obtain ⟨v', e, r⟩ := p1.good.val i d hi
        rw [o1] at e; cases e
        exact .inl (h1 _ _ p1 r)
      | own l o =>
        cases l with
        | true => simp only [hi] at h1
        | false =>
          simp only [hi] at h1
          obtain ⟨a, e, oat⟩ := p1.good.own i false o hi
          rw [o1] at e; cases e
          obtain ⟨u, hu, cu⟩ := oat.chg
          exact .inr ⟨a, u, hu, cu, fun ob => h1 _ _ (p1.frzSlot hi o1 hu) (oat.frz hu)⟩

/-! ### argument lists -/
def mNil : M (List EV) := M.pure []
def mCons (m : M EV) (r : M (List EV)) : M (List EV) := m.bind fun e => r.bind fun es => M.pure (e :: es)
theorem tMA_bind {K : PySem.W.Frag} {α : Type} {m : M (List EV)} {f : List EV → M α} {ms : MS} {σ : St} {H : Hp} {k : α → MS → Prop} {xk : EX → MS → Prop} {R : List V → Hp → Prop} (g : Good K ms σ H) (h : Run (m.bind f) ms k xk)
    (hx : ∀ x ms', xk x ms' → ∀ cls d H', PostE K ms σ H ms' H' → ExOk K H' x cls d → W cls d σ H')
    (hk : ∀ es ms', Run (f es) ms' k xk → ∀ vs H', PostE K ms σ H ms' H' → EVsOk K ms' σ H H' vs es → R vs H') : tMA K W m σ H R := by
  rw [Run.bind] at h
  exact ⟨ms, g, h.mono (fun ev ms' q v H' p e => hk ev ms' q v H' p e) fun x ms' q => hx x ms' q⟩
theorem EVsOk.early {K : PySem.W.Frag} {ms : MS} {H0 H1 H : Hp} {σ : St} {vs : List V} {es : List EV} (l : ∀ b, H0 b ≠ none → H1 b ≠ none) (h : EVsOk K ms σ H1 H vs es) : EVsOk K ms σ H0 H vs es :=
  Paired.mapP h fun _ _ q => q.early l
theorem EVsOk.mono {K : PySem.W.Frag} {ms ms' : MS} {H0 H H' : Hp} {σ : St} {vs : List V} {es : List EV} (g : Good K ms σ H) (p : PostE K ms σ H ms' H') (h : EVsOk K ms σ H0 H vs es) : EVsOk K ms' σ H0 H' vs es :=
  Paired.mapP h fun _ _ q => q.mono g p
theorem ma_nil : MA X W [] mNil := by
  refine PA.imp pa_nil fun σ H Q q => ?_
  obtain ⟨ms, G, r⟩ := q
  exact r [] H (.refl G) .nil
theorem ma_cons (ha : ME X W e m) (hr : MA X W es mas) (hs : starEach (e :: es) X.env = (false, eval e X.env) :: starEach es X.env) : MA X W (e :: es) (mCons m mas) := by
  refine PA.imp (pa_cons ha hr hs) fun σ H Q q => ?_
  obtain ⟨ms, G, h⟩ := q
  refine tM_bind G h (fun x ms' z => z) fun e1 ms1 h1 v1 H1 p1 o1 => ?_
  refine tMA_bind p1.good h1 (fun x ms' z cls d H' p => z cls d H' (p1.trans p)) fun e2 ms2 h2 v2 H2 p2 o2 => ?_
  exact h2 _ _ (p1.trans p2) (.cons (o1.mono p1.good p2) (o2.early fun b hb => p1.live b hb))
def rds (ms : MS) : List EV → Option (List D)
  | [] => some []
  | e :: es => match rd ms e, rds ms es with
    | some d, some ds => some (d :: ds)
    | _, _ => none
theorem rds_ok {K : PySem.W.Frag} {ms : MS} {σ : St} {H0 H : Hp} (G : Good K ms σ H) : ∀ {vs : List V} {es : List EV} {ds : List D}, EVsOk K ms σ H0 H vs es → rds ms es = some ds → Paired (fun v d => RdAt K H d v) vs ds
  | _, [], ds, h, e => by
    cases h
    cases (show some ([] : List D) = some ds from e)
    exact .nil
  | _, x :: es, ds, h, e => by
    cases h with
    | cons h1 h2 =>
      unfold rds at e
      cases q1 : rd ms x with
      | none => simp only [q1] at e; cases e
      | some d =>
        cases q2 : rds ms es with
        | none => simp only [q1, q2] at e; cases e
        | some ds' =>
          simp only [q1, q2] at e
          cases e
          exact .cons (rd_ok G h1 q1) (rds_ok G h2 q2)
/-- frozen values alone -/
def vals : List EV → Option (List D)
  | [] => some []
  | .val d :: es => match vals es with
    | some ds => some (d :: ds)
    | none => none
  | _ => none
theorem vals_ok {K : PySem.W.Frag} {ms : MS} {σ : St} {H0 H : Hp} : ∀ {vs : List V} {es : List EV} {ds : List D}, EVsOk K ms σ H0 H vs es → vals es = some ds → Reps K H ds vs
  | _, [], ds, h, e => by
    cases h
    cases (show some ([] : List D) = some ds from e)
    rw [Reps]
  | _, x :: es, ds, h, e => by
    cases h with
    | cons h1 h2 =>
      cases x with
      | new o => exact nomatch e
      | bor i => exact nomatch e
      | val d =>
        unfold vals at e
        cases q2 : vals es with
        | none => simp only [q2] at e; cases e
        | some ds' =>
          simp only [q2] at e
          cases e
          rw [Reps]
          exact ⟨_, _, rfl, h1, vals_ok h2 q2⟩
theorem Reps.length {K : PySem.W.Frag} {H : Hp} {ds : List D} {xs : List V} (h : Reps K H ds xs) : ds.length = xs.length := Paired.length (reps_iff.mp h)

/-! ### displays -/
def mTup (m : M (List EV)) : M EV := m.bind fun es => M.lift (match vals es with
  | some ds => if ds.length ≤ 1000 then some (.val (.tup ds)) else none
  | none => none)
def mLst (m : M (List EV)) : M EV := m.bind fun es => M.lift (match vals es with
  | some ds => if ds.length ≤ 1000 then some (.new (.lst ds)) else none
  | none => none)
theorem same_new {H : Hp} {p : Addr} {o : HO} (h : H p = none) : Same H (upd H p o) := fun b x e => by
  rw [upd_ne (ne_of_none e h)]; exact e
theorem me_tup {x1} (h : MA X W es mas) : ME X W (.Tuple es x1 pos) (mTup mas) := by
  refine PE.imp (pe_tup h) fun σ H Q q => ?_
  obtain ⟨ms, G, r⟩ := q
  refine tMA_bind G r (fun x ms' z => z) fun evs ms1 h1 vs H1 p1 o1 => ?_
  obtain ⟨ev, e1, k1⟩ := Run.lift h1
  cases q1 : vals evs with
  | none => simp only [q1] at e1; cases e1
  | some ds =>
    simp only [q1] at e1
    split at e1
    · rename_i hl
      cases e1
      have rr := vals_ok o1 q1
      refine ⟨by rw [← rr.length]; exact Nat.le_of_lt (small1000 hl), fun p hp => ?_⟩
      have s := same_new (o := HO.tup vs) hp
      refine k1 _ _ (p1.trans (.same p1.good s)) ?_
      show Rep _ _ _ _
      rw [Rep]
      exact ⟨p, vs, rfl, upd_same, Reps.mono (.same s) _ _ rr⟩
    · cases e1
theorem me_lst (h : MA X W es mas) : ME X W (.List es pos) (mLst mas) := by
  refine PE.imp (pe_lst h) fun σ H Q q => ?_
  obtain ⟨ms, G, r⟩ := q
  refine tMA_bind G r (fun x ms' z => z) fun evs ms1 h1 vs H1 p1 o1 => ?_
  obtain ⟨ev, e1, k1⟩ := Run.lift h1
  cases q1 : vals evs with
  | none => simp only [q1] at e1; cases e1
  | some ds =>
    simp only [q1] at e1
    split at e1
    · rename_i hl
      cases e1
      have rr := vals_ok o1 q1
      refine ⟨by rw [← rr.length]; exact Nat.le_of_lt (small1000 hl), fun p hp => ?_⟩
      have s := same_new (o := HO.lst vs) hp
      have ro : ResOk X.K H1 (upd H1 p (.lst vs)) (.ref p) (.new (.lst ds)) := ⟨p, rfl, hp, vs, upd_same, Reps.mono (.same s) _ _ rr⟩
      exact k1 _ _ (p1.trans (.same p1.good s)) ((ro.ev p1.good).early fun b hb => p1.live b hb)
    · cases e1

/-! ### comparisons -/
theorem me_cmp {op : CmpOp} {g : D → D → Option EV} (ho : Op2 X (compareOp op) g) (ha : ME X W a ma) (hb : ME X W b mb) (hm : behindInMarks op b = false) : ME X W (.Compare a [op] [b] pos) (mOp2 g ma mb) := by
  obtain ⟨r, hr, hq⟩ := ho
  refine PE.imp (pe_cmpR hr ha hb hm) fun σ H Q q => ?_
  obtain ⟨ms, G, h⟩ := q
  refine tM_bind G h (fun x ms' z => z) fun e1 ms1 h1 v1 H1 p1 o1 => ?_
  refine tM_bind p1.good h1 (fun x ms' z cls d H' p => z cls d H' (p1.trans p)) fun e2 ms2 h2 v2 H2 p2 o2 => ?_
  obtain ⟨d, e, ev, k1, k2, k3, k4⟩ := op2_end (R := fun _ => True) p2.good (o1.mono p1.good p2) o2 h2
  refine hq H2 v1 v2 d e ev Q k1 k2 k3 fun v H3 s3 r3 => ?_
  have p3 := PostE.same p2.good s3
  exact k4 v H3 ((p1.trans p2).trans p3) ((r3.ev p2.good).early (fun b hb => (p1.trans p2).live b hb))
/-- a value that is True or False -/
def mB (m : M EV) : M Bool := m.bind fun ev => M.lift (match ev with
  | .val (.bl b) => some b
  | _ => none)
theorem mt_cmp {op : CmpOp} {g : D → D → Option EV} (ho : Op2 X (compareOp op) g) (ha : ME X W a ma) (hb : ME X W b mb) (hm : behindInMarks op b = false) : MT X W (.Compare a [op] [b] pos) (mB (mOp2 g ma mb)) := by
  obtain ⟨r, hr, hq⟩ := ho
  refine PT.imp (pt_cmpR hr ha hb hm) fun σ H Q q => ?_
  obtain ⟨ms, G, h⟩ := q
  unfold mB at h
  rw [Run.bind] at h
  refine tM_bind G h (fun x ms' z => z) fun e1 ms1 h1 v1 H1 p1 o1 => ?_
  refine tM_bind p1.good h1 (fun x ms' z cls d H' p => z cls d H' (p1.trans p)) fun e2 ms2 h2 v2 H2 p2 o2 => ?_
  obtain ⟨d, e, ev, k1, k2, k3, k4⟩ := op2_end (R := fun _ => True) p2.good (o1.mono p1.good p2) o2 h2
  refine hq H2 v1 v2 d e ev _ k1 k2 k3 fun v H3 s3 r3 => ?_
  have p3 := PostE.same p2.good s3
  obtain ⟨bb, e3, k5⟩ := Run.lift k4
  cases ev with
  | new o => cases e3
  | bor i => cases e3
  | val dd =>
    cases dd with
    | bl b2 =>
      cases e3
      have r3 : Rep X.K H3 (.bl _) v := r3
      rw [Rep] at r3
      exact ⟨_, r3, k5 H3 ((p1.trans p2).trans p3)⟩
    | _ => cases e3
/-- a < b < c -/
def mChain (g g' : D → D → Option EV) (ma mb mc : M EV) : M EV := ma.bind fun x => mb.bind fun y => fun ms => match rd ms x, rd ms y with
  | some d, some e => (match g d e with
    | some (.val (.bl true)) => (mc.bind fun z => fun ms' => match rd ms' y, rd ms' z with
      | some e', some f => M.lift (g' e' f) ms'
      | _, _ => none) ms
    | some (.val (.bl false)) => some (.ok (.val (.bl false)) ms)
    | _ => none)
  | _, _ => none
theorem chain_core {op op' : CmpOp} {g g' : D → D → Option EV} {r r' : R2} {σ : St} {H : Hp} {Q : VK} {ms : MS} {kk : EV → MS → Prop} {xk : EX → MS → Prop}
    (hq : ∀ H x y d e ev Q, RdAt X.K H d x → RdAt X.K H e y → g d e = some ev → (∀ v H', Same H H' → ResOk X.K H H' v ev → Q v H') → r x y H Q)
    (hq' : ∀ H x y d e ev Q, RdAt X.K H d x → RdAt X.K H e y → g' d e = some ev → (∀ v H', Same H H' → ResOk X.K H H' v ev → Q v H') → r' x y H Q)
    (G : Good X.K ms σ H) (h : Run (mChain g g' ma mb mc) ms kk xk)
    (hx : ∀ x ms', xk x ms' → ∀ cls d H', PostE X.K ms σ H ms' H' → ExOk X.K H' x cls d → W cls d σ H')
    (hk : ∀ ev ms', kk ev ms' → ∀ v H', PostE X.K ms σ H ms' H' → EVOk X.K ms' σ H H' v ev → Q v H') :
    tChain r r' (tM X.K W ma) (tM X.K W mb) (tM X.K W mc) σ H Q := by
  refine tM_bind G h hx fun e1 ms1 h1 v1 H1 p1 o1 => ?_
  refine tM_bind p1.good h1 (fun x ms' z cls d H' p => hx x ms' z cls d H' (p1.trans p)) fun e2 ms2 h2 v2 H2 p2 o2 => ?_
  have p12 := p1.trans p2
  have o1' := o1.mono p1.good p2
  cases hd : rd ms2 e1 with
  | none => simp only [Run, hd] at h2
  | some d =>
    cases he : rd ms2 e2 with
    | none => simp only [Run, hd, he] at h2
    | some e =>
      simp only [Run, hd, he] at h2
      cases hg : g d e with
      | none => simp only [hg] at h2
      | some ev =>
        cases ev with
        | new o => simp only [hg] at h2
        | bor i => simp only [hg] at h2
        | val dd =>
          cases dd with
          | bl bb =>
            refine hq H2 v1 v2 d e _ _ (rd_ok p2.good o1' hd) (rd_ok p2.good o2 he) hg fun v H3 s3 r3 => ?_
            have r3 : Rep X.K H3 (.bl bb) v := r3
            rw [Rep] at r3
            have p3 := PostE.same p2.good s3
            refine ⟨bb, r3, ?_⟩
            cases bb with
            | false =>
              simp only [hg] at h2
              refine iteF (hk _ _ h2 _ _ (p12.trans p3) ?_)
              show Rep _ _ _ _
              rw [Rep]
            | true =>
              simp only [hg] at h2
              refine iteT ?_
              have h2' : Run (mc.bind fun z => fun ms' => match rd ms' e2, rd ms' z with
                | some e', some f => M.lift (g' e' f) ms'
                | _, _ => none) ms2 kk xk := h2
              refine tM_bind p3.good h2' (fun x ms' z cls d H' p => hx x ms' z cls d H' ((p12.trans p3).trans p)) fun e3 ms3 h3 v3 H4 p4 o3 => ?_
              have o2' := (o2.mono p2.good p3).mono p3.good p4
              obtain ⟨d', e', ev', k1, k2, k3, k4⟩ := op2_end (R := fun _ => True) p4.good o2' o3 h3
              refine hq' H4 v2 v3 d' e' ev' Q k1 k2 k3 fun v H5 s5 r5 => ?_
              have p5 := PostE.same p4.good s5
              exact hk _ _ k4 v H5 (((p12.trans p3).trans p4).trans p5) ((r5.ev p4.good).early fun b hb => ((p12.trans p3).trans p4).live b hb)
          | _ => simp only [hg] at h2
theorem me_chain {op op' : CmpOp} {g g' : D → D → Option EV} (ho : Op2 X (compareOp op) g) (ho' : Op2 X (compareOp op') g') (ha : ME X W a ma) (hb : ME X W b mb) (hc : ME X W c mc) (hm : lastMarks [op, op'] [b, c] = false) :
    ME X W (.Compare a [op, op'] [b, c] pos) (mChain g g' ma mb mc) := by
  obtain ⟨r, hr, hq⟩ := ho
  obtain ⟨r', hr', hq'⟩ := ho'
  refine PE.imp (pe_chain hr hr' ha hb hc hm) fun σ H Q q => ?_
  obtain ⟨ms, G, h⟩ := q
  exact chain_core (op := op) (op' := op') hq hq' G h (fun x ms' z => z) fun ev ms' z => z
theorem mt_chain {op op' : CmpOp} {g g' : D → D → Option EV} (ho : Op2 X (compareOp op) g) (ho' : Op2 X (compareOp op') g') (ha : ME X W a ma) (hb : ME X W b mb) (hc : ME X W c mc) (hm : lastMarks [op, op'] [b, c] = false) :
    MT X W (.Compare a [op, op'] [b, c] pos) (mB (mChain g g' ma mb mc)) := by
  obtain ⟨r, hr, hq⟩ := ho
  obtain ⟨r', hr', hq'⟩ := ho'
  refine PT.imp (pt_chain hr hr' ha hb hc hm) fun σ H Q q => ?_
  obtain ⟨ms, G, h⟩ := q
  unfold mB at h
  rw [Run.bind] at h
  refine chain_core (op := op) (op' := op') hq hq' G h (fun x ms' z => z) fun ev ms' z v H' p o => ?_
  obtain ⟨bb, e3, k5⟩ := Run.lift z
  cases ev with
  | new o => cases e3
  | bor i => cases e3
  | val dd =>
    cases dd with
    | bl b2 =>
      cases e3
      have o : Rep X.K H' (.bl _) v := o
      rw [Rep] at o
      exact ⟨_, o, k5 H' p⟩
    | _ => cases e3
end
end Fw
set_option Elab.async false
set_option linter.all false
set_option maxRecDepth 100000
set_option maxHeartbeats 2000000
/-! Fw C: truth, and/or/not, if-expressions, built-in calls, own calls, subscripts, slices. -/
namespace Fw
open PySem L2
section
variable {X : Cx} {W : WX} {a b c e : Expr} {es rest : List Expr} {ma mb mc m : M EV} {mas : M (List EV)} {ta tb tc : M Bool} {pos : Pos}

/-! ### truth -/
def truD : D → Option Bool
  | .non => some false
  | .bl b => some b
  | .int i => some (i != 0)
  | .str x => if x.length ≤ sizeLine then some (x.length != 0) else none
  | .tup ds => some (!ds.isEmpty)
  | .lst ds => some (!ds.isEmpty)
  | _ => none
theorem Reps.isEmpty {K : PySem.W.Frag} {H : Hp} {ds : List D} {xs : List V} (h : Reps K H ds xs) : xs.isEmpty = ds.isEmpty := by
  have := Reps.length h
  cases ds <;> cases xs <;> simp_all
theorem truD_ok {K : PySem.W.Frag} {H : Hp} {d : D} {v : V} {k : Bool} (h : RdAt K H d v) (e : truD d = some k) : TruV K v H k := by
  cases d with
  | non =>
    have h : Rep K H .non v := h
    rw [Rep] at h; subst h; cases e; rfl
  | bl b =>
    have h : Rep K H (.bl b) v := h
    rw [Rep] at h; subst h; cases e; rfl
  | int i =>
    have h : Rep K H (.int i) v := h
    rw [Rep] at h; subst h; cases e; rfl
  | str x =>
    have h : Rep K H (.str x) v := h
    rw [Rep] at h; subst h
    have e : (if x.length ≤ sizeLine then some (x.length != 0) else none) = some k := e
    split at e
    · rename_i hl
      cases e
      refine ⟨hl, ?_⟩
      rw [Bool.eq_iff_iff]
      simp only [bne_iff_ne, ne_eq]
      omega
    · cases e
  | tup ds =>
    have h : Rep K H (.tup ds) v := h
    rw [Rep] at h
    obtain ⟨a, xs, rfl, h1, h2⟩ := h
    cases e
    exact .inr (.inl ⟨xs, .of h1, by rw [h2.isEmpty]⟩)
  | lst ds =>
    obtain ⟨a, xs, rfl, h1, h2⟩ := h
    cases e
    exact .inl ⟨xs, .inl h1, by rw [h2.isEmpty]⟩
  | ktp _ => cases e
  | kls _ => cases e
  | adr _ => cases e
  | ty _ => cases e
  | dct _ _ _ => cases e
def mTru (m : M EV) : M Bool := m.bind fun ev ms => match rd ms ev with
  | some d => M.lift (truD d) ms
  | none => none
theorem tru_end {K : PySem.W.Frag} {ms : MS} {σ : St} {H0 H : Hp} {v : V} {ev : EV} {k : Bool → MS → Prop} {xk : EX → MS → Prop} (G : Good K ms σ H) (o : EVOk K ms σ H0 H v ev)
    (h : Run (fun ms => match rd ms ev with | some d => M.lift (truD d) ms | none => none) ms k xk) : ∃ b, TruV K v H b ∧ k b ms := by
  cases hd : rd ms ev with
  | none => simp only [Run, hd] at h
  | some d =>
    have h' : Run (M.lift (truD d)) ms k xk := by
      simp only [Run, hd] at h ⊢
      exact h
    obtain ⟨b, e, q⟩ := Run.lift h'
    exact ⟨b, truD_ok (rd_ok G o hd) e, q⟩
theorem mt_tru (ha : ME X W a ma) (he : ∀ whole, isTrue a X.env whole = (do let v ← whole; standAt a.pos; holding [v] (truthy v))) : MT X W a (mTru ma) := by
  refine PT.imp (pt_truth ha he) fun σ H Q q => ?_
  obtain ⟨ms, G, h⟩ := q
  refine tM_bind G h (fun x ms' z => z) fun e1 ms1 h1 v1 H1 p1 o1 => ?_
  obtain ⟨b, t, q⟩ := tru_end p1.good o1 h1
  exact ⟨b, t, q H1 p1⟩

/-! ### and, or, not as tests -/
theorem tMT_bind {K : PySem.W.Frag} {α : Type} {m : M Bool} {f : Bool → M α} {ms : MS} {σ : St} {H : Hp} {k : α → MS → Prop} {xk : EX → MS → Prop} {R : Bool → Hp → Prop} (g : Good K ms σ H) (h : Run (m.bind f) ms k xk)
    (hx : ∀ x ms', xk x ms' → ∀ cls d H', PostE K ms σ H ms' H' → ExOk K H' x cls d → W cls d σ H')
    (hk : ∀ b ms', Run (f b) ms' k xk → ∀ H', PostE K ms σ H ms' H' → R b H') : tMT K W m σ H R := by
  rw [Run.bind] at h
  exact ⟨ms, g, h.mono (fun ev ms' q H' p => hk ev ms' q H' p) fun x ms' q => hx x ms' q⟩
def mNotT (t : M Bool) : M Bool := t.bind fun b => M.pure (!b)
def mAndT (t u : M Bool) : M Bool := t.bind fun b => if b = true then u else M.pure false
def mOrT (t u : M Bool) : M Bool := t.bind fun b => if b = true then M.pure true else u
theorem mt_not (ha : MT X W a ta) : MT X W (.UnaryOp .Not a pos) (mNotT ta) := by
  refine PT.imp (pt_not ha) fun σ H Q q => ?_
  obtain ⟨ms, G, h⟩ := q
  exact tMT_bind G h (fun x ms' z => z) fun b ms1 h1 H1 p1 => h1 H1 p1
abbrev MW (X : Cx) (W : WX) (e : Expr) (m : M Bool) : Prop := PW X e (tMT X.K W m)
theorem mw_one {op : BoolOp} (ha : MT X W a ta) : MW X W (.BoolOp op [a] pos) ta := by
  cases op with
  | And => exact pw_and1 ha
  | Or => exact pw_or1 ha
theorem mw_and (ha : MT X W a ta) (hb : MW X W (.BoolOp .And (b :: rest) pos) tb) : MW X W (.BoolOp .And (a :: b :: rest) pos) (mAndT ta tb) := by
  refine PW.imp (pw_and ha hb) fun σ H Q q => ?_
  obtain ⟨ms, G, h⟩ := q
  refine tMT_bind G h (fun x ms' z => z) fun b ms1 h1 H1 p1 => ?_
  cases b with
  | true =>
    refine iteT ⟨ms1, p1.good, Run.mono (show Run tb ms1 _ _ from h1) (fun b ms' q H' p => q H' (p1.trans p)) fun x ms' q cls d H' p => q cls d H' (p1.trans p)⟩
  | false => exact iteF (h1 H1 p1)
theorem mw_or (ha : MT X W a ta) (hb : MW X W (.BoolOp .Or (b :: rest) pos) tb) : MW X W (.BoolOp .Or (a :: b :: rest) pos) (mOrT ta tb) := by
  refine PW.imp (pw_or ha hb) fun σ H Q q => ?_
  obtain ⟨ms, G, h⟩ := q
  refine tMT_bind G h (fun x ms' z => z) fun b ms1 h1 H1 p1 => ?_
  cases b with
  | false =>
    refine iteF ⟨ms1, p1.good, Run.mono (show Run tb ms1 _ _ from h1) (fun b ms' q H' p => q H' (p1.trans p)) fun x ms' q cls d H' p => q cls d H' (p1.trans p)⟩
  | true => exact iteT (h1 H1 p1)

/-! ### and, or, not as values -/
def mNot (m : M EV) : M EV := (mTru m).bind fun b => M.pure (.val (.bl (!b)))
def mAnd (m n : M EV) : M EV := m.bind fun x ms => match rd ms x with
  | some d => (match truD d with
    | some true => n ms
    | some false => some (.ok x ms)
    | none => none)
  | none => none
def mOr (m n : M EV) : M EV := m.bind fun x ms => match rd ms x with
  | some d => (match truD d with
    | some false => n ms
    | some true => some (.ok x ms)
    | none => none)
  | none => none
theorem me_not (ha : ME X W a ma) : ME X W (.UnaryOp .Not a pos) (mNot ma) := by
  refine PE.imp (pe_notT ha) fun σ H Q q => ?_
  obtain ⟨ms, G, h⟩ := q
  unfold mNot mTru at h
  rw [Run.bind] at h
  refine tM_bind G h (fun x ms' z => z) fun e1 ms1 h1 v1 H1 p1 o1 => ?_
  obtain ⟨b, t, q⟩ := tru_end p1.good o1 h1
  refine ⟨b, t, q _ H1 p1 ?_⟩
  show Rep _ _ _ _
  rw [Rep]
theorem me_one {op : BoolOp} (ha : ME X W a ma) : ME X W (.BoolOp op [a] pos) ma := pe_one ha
theorem andor_end {K : PySem.W.Frag} {ms : MS} {σ : St} {H0 H : Hp} {v : V} {x : EV} {n : M EV} {kk : Bool} {k : EV → MS → Prop} {xk : EX → MS → Prop} {f : MS → Option (Res EV)} (G : Good K ms σ H) (o : EVOk K ms σ H0 H v x)
    (h : Run f ms k xk) (hf : f ms = match rd ms x with
      | some d => (match truD d with
        | some b => if b = kk then n ms else some (.ok x ms)
        | none => none)
      | none => none) : ∃ b, TruV K v H b ∧ if b = kk then Run n ms k xk else k x ms := by
  unfold Run at h
  rw [hf] at h
  cases hd : rd ms x with
  | none => simp only [hd] at h
  | some d =>
    simp only [hd] at h
    cases ht : truD d with
    | none => simp only [ht] at h
    | some b =>
      simp only [ht] at h
      refine ⟨b, truD_ok (rd_ok G o hd) ht, ?_⟩
      split
      · rename_i hb
        rw [if_pos hb] at h
        exact h
      · rename_i hb
        rw [if_neg hb] at h
        exact h
theorem me_and (ha : ME X W a ma) (hb : ME X W (.BoolOp .And (b :: rest) pos) mb) : ME X W (.BoolOp .And (a :: b :: rest) pos) (mAnd ma mb) := by
  refine PE.imp (pe_andT ha hb) fun σ H Q q => ?_
  obtain ⟨ms, G, h⟩ := q
  refine tM_bind G h (fun x ms' z => z) fun e1 ms1 h1 v1 H1 p1 o1 => ?_
  obtain ⟨b, t, q⟩ := andor_end (n := mb) (kk := true) p1.good o1 h1 (by
    cases rd ms1 e1 with
    | none => rfl
    | some d =>
      dsimp only
      cases truD d with
      | none => rfl
      | some b => cases b <;> rfl)
  refine ⟨b, t, ?_⟩
  cases b with
  | true =>
    refine iteT ⟨ms1, p1.good, Run.mono q (fun b ms' q v H' p o => q v H' (p1.trans p) (o.early fun b hb => p1.live b hb)) fun x ms' q cls d H' p => q cls d H' (p1.trans p)⟩
  | false => exact iteF (q v1 H1 p1 o1)
theorem me_or (ha : ME X W a ma) (hb : ME X W (.BoolOp .Or (b :: rest) pos) mb) : ME X W (.BoolOp .Or (a :: b :: rest) pos) (mOr ma mb) := by
  refine PE.imp (pe_orT ha hb) fun σ H Q q => ?_
  obtain ⟨ms, G, h⟩ := q
  refine tM_bind G h (fun x ms' z => z) fun e1 ms1 h1 v1 H1 p1 o1 => ?_
  obtain ⟨b, t, q⟩ := andor_end (n := mb) (kk := false) p1.good o1 h1 (by
    cases rd ms1 e1 with
    | none => rfl
    | some d =>
      dsimp only
      cases truD d with
      | none => rfl
      | some b => cases b <;> rfl)
  refine ⟨b, t, ?_⟩
  cases b with
  | false =>
    refine iteF ⟨ms1, p1.good, Run.mono q (fun b ms' q v H' p o => q v H' (p1.trans p) (o.early fun b hb => p1.live b hb)) fun x ms' q cls d H' p => q cls d H' (p1.trans p)⟩
  | true => exact iteT (q v1 H1 p1 o1)
def mIf (t : M Bool) (m n : M EV) : M EV := t.bind fun b => if b = true then m else n
theorem me_ifExp (hc : MT X W c tc) (ha : ME X W a ma) (hb : ME X W b mb) : ME X W (.IfExp c a b pos) (mIf tc ma mb) := by
  refine PE.imp (pe_ifExp hc ha hb) fun σ H Q q => ?_
  obtain ⟨ms, G, h⟩ := q
  refine tMT_bind G h (fun x ms' z => z) fun b ms1 h1 H1 p1 => ?_
  cases b with
  | true =>
    refine iteT ⟨ms1, p1.good, Run.mono (show Run ma ms1 _ _ from h1) (fun b ms' q v H' p o => q v H' (p1.trans p) (o.early fun b hb => p1.live b hb)) fun x ms' q cls d H' p => q cls d H' (p1.trans p)⟩
  | false =>
    refine iteF ⟨ms1, p1.good, Run.mono (show Run mb ms1 _ _ from h1) (fun b ms' q v H' p o => q v H' (p1.trans p) (o.early fun b hb => p1.live b hb)) fun x ms' q cls d H' p => q cls d H' (p1.trans p)⟩

/-! ### unary operators -/
def Op1 (X : Cx) (f : Value → Sem Value) (g : D → Option EV) : Prop :=
  ∃ r, UnR X f r ∧ ∀ H x d ev Q, RdAt X.K H d x → g d = some ev → (∀ v H', Same H H' → ResOk X.K H H' v ev → Q v H') → r x H Q
def mOp1 (g : D → Option EV) (m : M EV) : M EV := m.bind fun x ms => match rd ms x with
  | some d => M.lift (g d) ms
  | none => none
theorem op1_end {K : PySem.W.Frag} {ms : MS} {σ : St} {H0 H : Hp} {v : V} {ev : EV} {g : D → Option EV} {k : EV → MS → Prop} {xk : EX → MS → Prop} (G : Good K ms σ H) (o : EVOk K ms σ H0 H v ev)
    (h : Run (fun ms => match rd ms ev with | some d => M.lift (g d) ms | none => none) ms k xk) : ∃ d r, RdAt K H d v ∧ g d = some r ∧ k r ms := by
  cases hd : rd ms ev with
  | none => simp only [Run, hd] at h
  | some d =>
    have h' : Run (M.lift (g d)) ms k xk := by
      simp only [Run, hd] at h ⊢
      exact h
    obtain ⟨b, e, q⟩ := Run.lift h'
    exact ⟨d, b, rd_ok G o hd, e, q⟩
theorem me_op1 {op : UnaryOp} {g : D → Option EV} (ho : Op1 X (unaryOp op) g) (ha : ME X W a ma) (hu : ∀ s : Sem Value, True := by intros; trivial) : ME X W (.UnaryOp op a pos) (mOp1 g ma) := by
  obtain ⟨r, hr, hq⟩ := ho
  refine PE.imp (pe_un hr ha) fun σ H Q q => ?_
  obtain ⟨ms, G, h⟩ := q
  refine tM_bind G h (fun x ms' z => z) fun e1 ms1 h1 v1 H1 p1 o1 => ?_
  obtain ⟨d, ev, k1, k2, k3⟩ := op1_end p1.good o1 h1
  refine hq H1 v1 d ev Q k1 k2 fun v H3 s3 r3 => ?_
  exact k3 v H3 (p1.trans (.same p1.good s3)) ((r3.ev p1.good).early fun b hb => p1.live b hb)

/-! ### built-in calls -/
def CallB (X : Cx) (f : Value) (g : List D → Option EV) : Prop :=
  ∃ r, CallR X f r ∧ ∀ H xs ds ev Q, Paired (fun v d => RdAt X.K H d v) xs ds → g ds = some ev → (∀ v H', Same H H' → ResOk X.K H H' v ev → Q v H') → r xs H Q
def mCallB (g : List D → Option EV) (m : M (List EV)) : M EV := m.bind fun es ms => match rds ms es with
  | some ds => M.lift (g ds) ms
  | none => none
theorem callB_core {r : List V → Hp → VK → Prop} {g : List D → Option EV} {σ : St} {H : Hp} {Q : VK}
    (hq : ∀ H xs ds ev Q, Paired (fun v d => RdAt X.K H d v) xs ds → g ds = some ev → (∀ v H', Same H H' → ResOk X.K H H' v ev → Q v H') → r xs H Q)
    (q : tM X.K W (mCallB g mas) σ H Q) : tCB r (tMA X.K W mas) σ H Q := by
  obtain ⟨ms, G, h⟩ := q
  refine tMA_bind G h (fun x ms' z => z) fun es ms1 h1 vs H1 p1 o1 => ?_
  cases hd : rds ms1 es with
  | none => simp only [Run, hd] at h1
  | some ds =>
    have h' : Run (M.lift (g ds)) ms1 (fun ev ms' => ∀ v H', PostE X.K ms σ H ms' H' → EVOk X.K ms' σ H H' v ev → Q v H') (fun x ms' => ∀ cls d H', PostE X.K ms σ H ms' H' → ExOk X.K H' x cls d → W cls d σ H') := by
      simp only [Run, hd] at h1 ⊢
      exact h1
    obtain ⟨ev, e, k⟩ := Run.lift h'
    refine hq H1 vs ds ev Q (rds_ok p1.good o1 hd) e fun v H3 s3 r3 => ?_
    exact k v H3 (p1.trans (.same p1.good s3)) ((r3.ev p1.good).early fun b hb => p1.live b hb)
theorem me_callB {x : Str} {p : Pos} {id : String} {g : List D → Option EV} (hc : CallB X (.builtin id) g) (hg : Gl X x) (hm : X.mg x = none) (hv : bootBuiltins x = some (.builtin id)) (ha : MA X W (e :: es) mas) (hn : x ≠ "__name__") (hdb : (x == ("__debug__" : Str)) = false)
    (he : starEach (e :: es) X.env = (false, eval e X.env) :: starEach es X.env) (hpl : (backTo pos (starEach es X.env)).any (·.1) = false) : ME X W (.Call (.Name x p) (e :: es) [] pos) (mCallB g mas) := by
  obtain ⟨r, hr, hq⟩ := hc
  exact PE.imp (pe_callB hr hg hm hv ha hn hdb he hpl) fun σ H Q q => callB_core hq q
theorem me_callTy {x : Str} {p : Pos} {T : String} {g : List D → Option EV} (hc : CallB X (.type T) g) (hg : Gl X x) (hm : X.mg x = none) (hv : bootBuiltins x = some (.type T)) (ha : MA X W (e :: es) mas) (hn : x ≠ "__name__") (hdb : (x == ("__debug__" : Str)) = false)
    (he : starEach (e :: es) X.env = (false, eval e X.env) :: starEach es X.env) (hpl : (backTo pos (starEach es X.env)).any (·.1) = false) : ME X W (.Call (.Name x p) (e :: es) [] pos) (mCallB g mas) := by
  obtain ⟨r, hr, hq⟩ := hc
  exact PE.imp (pe_callTy hr hg hm hv ha hn hdb he hpl) fun σ H Q q => callB_core hq q

/-! ### subscripts -/
def Ix2 (X : Cx) (g : D → D → Option EV) : Prop :=
  ∃ r, IxR X r ∧ ∀ H x y d e ev Q, RdAt X.K H d x → RdAt X.K H e y → g d e = some ev → (∀ v H', Same H H' → ResOk X.K H H' v ev → Q v H') → r x y H Q
theorem me_ix {g : D → D → Option EV} (ho : Ix2 X g) (ha : ME X W a ma) (hb : ME X W b mb) (hs : PlainIx b) : ME X W (.Subscript a b pos) (mOp2 g ma mb) := by
  obtain ⟨r, hr, hq⟩ := ho
  refine PE.imp (pe_ix hr ha hb hs) fun σ H Q q => ?_
  obtain ⟨ms, G, h⟩ := q
  refine tM_bind G h (fun x ms' z => z) fun e1 ms1 h1 v1 H1 p1 o1 => ?_
  refine tM_bind p1.good h1 (fun x ms' z cls d H' p => z cls d H' (p1.trans p)) fun e2 ms2 h2 v2 H2 p2 o2 => ?_
  obtain ⟨d, e, ev, k1, k2, k3, k4⟩ := op2_end (R := fun _ => True) p2.good (o1.mono p1.good p2) o2 h2
  refine hq H2 v1 v2 d e ev Q k1 k2 k3 fun v H3 s3 r3 => ?_
  have p3 := PostE.same p2.good s3
  exact k4 v H3 ((p1.trans p2).trans p3) ((r3.ev p2.good).early (fun b hb => (p1.trans p2).live b hb))

/-! ### slices -/
/-- an optional part of a slice: a number -/
def mInt (m : M EV) : M (Option Int) := m.bind fun x => M.lift (match x with
  | .val (.int i) => some (some i)
  | _ => none)
def tMO (K : PySem.W.Frag) (W : WX) (m : M (Option Int)) : TO := fun σ H Q => ∃ ms, Good K ms σ H ∧ Run m ms
  (fun o ms' => ∀ H', PostE K ms σ H ms' H' → Q o H')
  (fun x ms' => ∀ cls d H', PostE K ms σ H ms' H' → ExOk K H' x cls d → W cls d σ H')
abbrev MO (X : Cx) (W : WX) (e : Option Expr) (m : M (Option Int)) : Prop := PO X e (tMO X.K W m)
theorem PO.imp {X : Cx} {e : Option Expr} {t t' : TO} (h : PO X e t) (i : ∀ σ H Q, t' σ H Q → t σ H Q) : PO X e t' := by
  obtain ⟨r⟩ := h
  exact ⟨fun pins s σ H Q I q => r pins s σ H Q I (i σ H Q q)⟩
theorem mo_none : MO X W none (M.pure none) := by
  refine PO.imp po_none fun σ H Q q => ?_
  obtain ⟨ms, G, r⟩ := q
  exact r H (.refl G)
theorem mo_some (h : ME X W e m) : MO X W (some e) (mInt m) := by
  refine PO.imp (po_some h) fun σ H Q q => ?_
  obtain ⟨ms, G, r⟩ := q
  refine tM_bind G r (fun x ms' z => z) fun ev ms1 h1 v H1 p1 o1 => ?_
  obtain ⟨i, e1, k⟩ := Run.lift h1
  cases ev with
  | new o => cases e1
  | bor i => cases e1
  | val d =>
    cases d with
    | int j =>
      cases e1
      have o1 : Rep X.K H1 (.int j) v := o1
      rw [Rep] at o1
      exact ⟨j, o1, k H1 p1⟩
    | _ => cases e1
theorem tMO_bind {K : PySem.W.Frag} {α : Type} {m : M (Option Int)} {f : Option Int → M α} {ms : MS} {σ : St} {H : Hp} {k : α → MS → Prop} {xk : EX → MS → Prop} {R : Option Int → Hp → Prop} (g : Good K ms σ H) (h : Run (m.bind f) ms k xk)
    (hx : ∀ x ms', xk x ms' → ∀ cls d H', PostE K ms σ H ms' H' → ExOk K H' x cls d → W cls d σ H')
    (hk : ∀ b ms', Run (f b) ms' k xk → ∀ H', PostE K ms σ H ms' H' → R b H') : tMO K W m σ H R := by
  rw [Run.bind] at h
  exact ⟨ms, g, h.mono (fun ev ms' q H' p => hk ev ms' q H' p) fun x ms' q => hx x ms' q⟩
def SlS (X : Cx) (g : D → Option Int → Option Int → Option EV) : Prop :=
  ∃ r, SlR X r ∧ ∀ H x d lo hi ev Q, RdAt X.K H d x → g d lo hi = some ev → (∀ v H', Same H H' → ResOk X.K H H' v ev → Q v H') → r x lo hi H Q
def mSlice (g : D → Option Int → Option Int → Option EV) (m : M EV) (l u : M (Option Int)) : M EV := m.bind fun x => l.bind fun lo => u.bind fun hi => fun ms => match rd ms x with
  | some d => M.lift (g d lo hi) ms
  | none => none
theorem me_slice {g : D → Option Int → Option Int → Option EV} {lo hi : Option Expr} {ml mh : M (Option Int)} {p2 : Pos} (hs : SlS X g) (ha : ME X W a ma) (hl : MO X W lo ml) (hh : MO X W hi mh) : ME X W (.Subscript a (.Slice lo hi none p2) pos) (mSlice g ma ml mh) := by
  obtain ⟨r, hr, hq⟩ := hs
  refine PE.imp (pe_slice hr ha hl hh) fun σ H Q q => ?_
  obtain ⟨ms, G, h⟩ := q
  refine tM_bind G h (fun x ms' z => z) fun e1 ms1 h1 v1 H1 p1 o1 => ?_
  refine tMO_bind p1.good h1 (fun x ms' z cls d H' p => z cls d H' (p1.trans p)) fun lo ms2 h2 H2 p2 => ?_
  have p12 := p1.trans p2
  refine tMO_bind p2.good h2 (fun x ms' z cls d H' p => z cls d H' (p12.trans p)) fun hi ms3 h3 H3 p3 => ?_
  have p13 := p12.trans p3
  have o3 := (o1.mono p1.good p2).mono p2.good p3
  cases hd : rd ms3 e1 with
  | none => simp only [Run, hd] at h3
  | some d =>
    have h' : Run (M.lift (g d lo hi)) ms3 (fun ev ms' => ∀ v H', PostE X.K ms σ H ms' H' → EVOk X.K ms' σ H H' v ev → Q v H') (fun x ms' => ∀ cls d H', PostE X.K ms σ H ms' H' → ExOk X.K H' x cls d → W cls d σ H') := by
      simp only [Run, hd] at h3 ⊢
      exact h3
    obtain ⟨ev, e, k⟩ := Run.lift h'
    refine hq H3 v1 d lo hi ev Q (rd_ok p3.good o3 hd) e fun v H4 s4 r4 => ?_
    exact k v H4 (p13.trans (.same p3.good s4)) ((r4.ev p3.good).early fun b hb => p13.live b hb)
end
end Fw
set_option Elab.async false
set_option linter.all false
set_option maxRecDepth 100000
set_option maxHeartbeats 2000000
/-! Fw D: statements: blocks, stores, targets, if, return, while, for. -/
namespace Fw
open PySem L2

inductive Fl where
  | nx | bk | ct | rt (v : EV)
abbrev MSt := M Fl
structure PostS (K : PySem.W.Frag) (ms : MS) (σ : St) (H : Hp) (ms' : MS) (σ' : St) (H' : Hp) : Prop where
  good : Good K ms' σ' H'
  keep : ∀ b o, H b = some o → ¬ Ow ms σ b → H' b = some o
  live : ∀ b, H b ≠ none → H' b ≠ none
  ow : ∀ b, Ow ms' σ' b → Ow ms σ b ∨ H b = none
  lent : ∀ (i : Nat) (o : OV), ms[i]? = some (.own true o) → (∃ o', ms'[i]? = some (.own true o')) ∧ σ'[i]? = σ[i]?
theorem PostE.st {K : PySem.W.Frag} {ms ms' : MS} {σ : St} {H H' : Hp} (p : PostE K ms σ H ms' H') : PostS K ms σ H ms' σ H' :=
  ⟨p.good, p.keep, p.live, fun b h => .inl (p.ow b h), fun i o h => ⟨p.lent i o h, rfl⟩⟩
theorem PostS.refl {K : PySem.W.Frag} {ms : MS} {σ : St} {H : Hp} (g : Good K ms σ H) : PostS K ms σ H ms σ H := (PostE.refl g).st
theorem PostS.trans {K : PySem.W.Frag} {ms ms1 ms2 : MS} {σ σ1 σ2 : St} {H H1 H2 : Hp} (a : PostS K ms σ H ms1 σ1 H1) (b : PostS K ms1 σ1 H1 ms2 σ2 H2) : PostS K ms σ H ms2 σ2 H2 := by
  refine ⟨b.good, fun c o h n => b.keep c o (a.keep c o h n) fun z => ?_, fun c h => b.live c (a.live c h), fun c h => ?_, fun i o h => ?_⟩
  · rcases a.ow c z with z | z
    · exact n z
    · rw [h] at z; cases z
  · rcases b.ow c h with z | z
    · exact a.ow c z
    · right
      cases q : H c with
      | none => rfl
      | some u => exact absurd z (a.live c (by rw [q]; exact fun z => nomatch z))
  · obtain ⟨⟨o1, h1⟩, e1⟩ := a.lent i o h
    obtain ⟨h2, e2⟩ := b.lent i o1 h1
    exact ⟨h2, e2.trans e1⟩
theorem PostS.kept {K : PySem.W.Frag} {ms ms' : MS} {σ σ' : St} {H H' : Hp} (g : Good K ms σ H) (p : PostS K ms σ H ms' σ' H') : Kept H H' := by
  refine ⟨fun b xs h => p.keep b _ h fun z => ?_, fun b o u h => p.keep b _ h fun z => ?_⟩
  · obtain ⟨u, e, c⟩ := g.chg z
    rw [h] at e; cases e; exact c
  · obtain ⟨u, e, c⟩ := g.chg z
    rw [h] at e; cases e; exact c
theorem Ow.live {K : PySem.W.Frag} {ms : MS} {σ : St} {H : Hp} {a : Addr} (g : Good K ms σ H) (h : H a = none) : ¬ Ow ms σ a := fun z => by
  obtain ⟨u, e, _⟩ := g.chg z
  rw [h] at e; cases e

def tMS (K : PySem.W.Frag) (W : WX) (m : MSt) : TS := fun D σ H => ∃ ms, Good K ms σ H ∧ Run m ms
  (fun fl ms' => match fl with
    | .nx => ∀ σ' H', PostS K ms σ H ms' σ' H' → D.nx σ' H'
    | .bk => ∀ σ' H', PostS K ms σ H ms' σ' H' → D.bk σ' H'
    | .ct => ∀ σ' H', PostS K ms σ H ms' σ' H' → D.ct σ' H'
    | .rt ev => ∀ v σ' H', PostS K ms σ H ms' σ' H' → EVOk K ms' σ' H H' v ev → D.rt v H')
  (fun x ms' => ∀ cls d σ' H', PostS K ms σ H ms' σ' H' → ExOk K H' x cls d → W cls d σ' H')
abbrev MS1 (X : Cx) (W : WX) (st : Stmt) (m : MSt) : Prop := PS X st (tMS X.K W m)
abbrev MSs (X : Cx) (W : WX) (st : List Stmt) (m : MSt) : Prop := PSs X st (tMS X.K W m)
/-- the wished ends, seen from ms, σ, H -/
def EndK (K : PySem.W.Frag) (D : Ends) (ms : MS) (σ : St) (H : Hp) : Fl → MS → Prop := fun fl ms' => match fl with
    | .nx => ∀ σ' H', PostS K ms σ H ms' σ' H' → D.nx σ' H'
    | .bk => ∀ σ' H', PostS K ms σ H ms' σ' H' → D.bk σ' H'
    | .ct => ∀ σ' H', PostS K ms σ H ms' σ' H' → D.ct σ' H'
    | .rt ev => ∀ v σ' H', PostS K ms σ H ms' σ' H' → EVOk K ms' σ' H H' v ev → D.rt v H'
def ExK (K : PySem.W.Frag) (W : WX) (ms : MS) (σ : St) (H : Hp) : EX → MS → Prop := fun x ms' => ∀ cls d σ' H', PostS K ms σ H ms' σ' H' → ExOk K H' x cls d → W cls d σ' H'
theorem tMS_eq {K : PySem.W.Frag} {W : WX} {m : MSt} {D : Ends} {σ : St} {H : Hp} : tMS K W m D σ H = ∃ ms, Good K ms σ H ∧ Run m ms (EndK K D ms σ H) (ExK K W ms σ H) := rfl
/-- seen from later -/
theorem EndK.from {K : PySem.W.Frag} {D : Ends} {ms ms1 : MS} {σ σ1 : St} {H H1 : Hp} (p : PostS K ms σ H ms1 σ1 H1) : ∀ {fl : Fl} {ms' : MS}, EndK K D ms σ H fl ms' → EndK K D ms1 σ1 H1 fl ms'
  | .nx, _, h => fun σ' H' q => h σ' H' (p.trans q)
  | .bk, _, h => fun σ' H' q => h σ' H' (p.trans q)
  | .ct, _, h => fun σ' H' q => h σ' H' (p.trans q)
  | .rt ev, _, h => fun v σ' H' q o => h v σ' H' (p.trans q) (o.early p.live)
theorem ExK.from {K : PySem.W.Frag} {W : WX} {ms ms1 : MS} {σ σ1 : St} {H H1 : Hp} (p : PostS K ms σ H ms1 σ1 H1) {x : EX} {ms' : MS} (h : ExK K W ms σ H x ms') : ExK K W ms1 σ1 H1 x ms' := fun cls d σ' H' q => h cls d σ' H' (p.trans q)
theorem ExK.e {K : PySem.W.Frag} {W : WX} {ms : MS} {σ : St} {H : Hp} {x : EX} {ms' : MS} (h : ExK K W ms σ H x ms') : ∀ cls d H', PostE K ms σ H ms' H' → ExOk K H' x cls d → W cls d σ H' := fun cls d H' q => h cls d σ H' q.st
/-- a run from later on -/
theorem Run.from {K : PySem.W.Frag} {W : WX} {m : MSt} {D : Ends} {ms ms1 : MS} {σ σ1 : St} {H H1 : Hp} (p : PostS K ms σ H ms1 σ1 H1) (h : Run m ms1 (EndK K D ms σ H) (ExK K W ms σ H)) : tMS K W m D σ1 H1 :=
  ⟨ms1, p.good, h.mono (fun _ _ q => q.from p) fun _ _ q => q.from p⟩

section
variable {X : Cx} {W : WX} {st : Stmt} {sts : List Stmt} {e : Expr} {m n : MSt} {me : M EV} {mc : M Bool} {pos : Pos}
/-! ### blocks -/
def sNx : MSt := M.pure .nx
def sSeq (m n : MSt) : MSt := m.bind fun fl => match fl with
  | .nx => n
  | f => M.pure f
theorem mss_nil : MSs X W [] sNx := PSs.imp pss_nil fun D σ H q => by
  obtain ⟨ms, G, h⟩ := q
  exact h σ H (.refl G)
theorem mss_cons (h1 : MS1 X W st m) (h2 : MSs X W sts n) : MSs X W (st :: sts) (sSeq m n) := PSs.imp (pss_cons h1 h2) fun D σ H q => by
  rw [tMS_eq] at q
  obtain ⟨ms, G, h⟩ := q
  unfold sSeq at h
  rw [Run.bind] at h
  refine ⟨ms, G, h.mono (fun fl ms1 h1 => ?_) fun x ms' h => h⟩
  cases fl with
  | nx => exact fun σ1 H1 p1 => Run.from p1 h1
  | bk => exact h1
  | ct => exact h1
  | rt ev => exact h1
theorem mss_one (h1 : MS1 X W st m) : MSs X W [st] m := pss_one h1
theorem ms_pass : MS1 X W (.Pass pos) sNx := PS.imp ps_pass fun D σ H q => by
  obtain ⟨ms, G, h⟩ := q
  exact h σ H (.refl G)
theorem ms_break : MS1 X W (.Break pos) (M.pure .bk) := PS.imp ps_break fun D σ H q => by
  obtain ⟨ms, G, h⟩ := q
  exact h σ H (.refl G)
theorem ms_continue : MS1 X W (.Continue pos) (M.pure .ct) := PS.imp ps_continue fun D σ H q => by
  obtain ⟨ms, G, h⟩ := q
  exact h σ H (.refl G)
def sExpr (m : M EV) : MSt := m.bind fun _ => M.pure .nx
theorem ms_expr (h : ME X W e me) (hs : swapsWith e none pos.line X.env = pure false) : MS1 X W (.Expr e pos) (sExpr me) := PS.imp (ps_expr h hs) fun D σ H q => by
  rw [tMS_eq] at q
  obtain ⟨ms, G, h⟩ := q
  refine tM_bind G h (fun x ms' z => ExK.e z) fun ev ms1 h1 v H1 p1 o1 => ?_
  exact h1 σ H1 p1.st
def sRet (m : M EV) : MSt := m.bind fun ev => M.pure (.rt ev)
theorem ms_ret (h : ME X W e me) : MS1 X W (.Return (some e) pos) (sRet me) := PS.imp (ps_ret h) fun D σ H q => by
  rw [tMS_eq] at q
  obtain ⟨ms, G, h⟩ := q
  refine tM_bind G h (fun x ms' z => ExK.e z) fun ev ms1 h1 v H1 p1 o1 => ?_
  exact h1 v σ H1 p1.st o1
theorem ms_retN : MS1 X W (.Return none pos) (M.pure (.rt (.val .non))) := PS.imp ps_retN fun D σ H q => by
  obtain ⟨ms, G, h⟩ := q
  refine h .non σ H (.refl G) ?_
  show Rep _ _ _ _
  rw [Rep]
def sIf (c : M Bool) (m n : MSt) : MSt := c.bind fun b => if b = true then m else n
theorem ms_if {a b : List Stmt} (hc : MT X W e mc) (ha : MSs X W a m) (hb : MSs X W b n) : MS1 X W (.If e a b pos) (sIf mc m n) := PS.imp (ps_if hc ha hb) fun D σ H q => by
  rw [tMS_eq] at q
  obtain ⟨ms, G, h⟩ := q
  refine tMT_bind G h (fun x ms' z => ExK.e z) fun b ms1 h1 H1 p1 => ?_
  cases b with
  | true => exact iteT (Run.from p1.st h1)
  | false => exact iteF (Run.from p1.st h1)

/-! ### stores into slots -/
def setS (i : Nat) (s : SV) (ms : MS) : Option MS := match ms[i]? with
  | some (.own true _) => none
  | some _ => some (ms.set i s)
  | none => none
theorem setS_some {i : Nat} {s : SV} {ms ms' : MS} (h : setS i s ms = some ms') : ms' = ms.set i s ∧ i < ms.length ∧ ∀ o, ms[i]? ≠ some (.own true o) := by
  unfold setS at h
  cases q : ms[i]? with
  | none => simp only [q] at h; cases h
  | some t =>
    have hi : i < ms.length := (List.getElem?_eq_some_iff.mp q).1
    cases t with
    | unk => simp only [q] at h; cases h; exact ⟨rfl, hi, fun o z => nomatch z⟩
    | val d => simp only [q] at h; cases h; exact ⟨rfl, hi, fun o z => nomatch z⟩
    | own l o =>
      cases l with
      | true => simp only [q] at h; cases h
      | false => simp only [q] at h; cases h; exact ⟨rfl, hi, fun o z => nomatch z⟩
section
variable {K : PySem.W.Frag} {ms ms' : MS} {σ : St} {H : Hp} {i : Nat} {d : D} {v : V} {o : OV} {a : Addr}
theorem PostS.setVal (g : Good K ms σ H) (h : setS i (.val d) ms = some ms') (r : Rep K H d v) : PostS K ms σ H ms' (σ.set i (some v)) H := by
  obtain ⟨rfl, hi, hl⟩ := setS_some h
  have hσ : i < σ.length := by rw [← g.len]; exact hi
  have own_ne : ∀ {j : Nat} {l : Bool} {o' : OV}, (ms.set i (.val d))[j]? = some (.own l o') → j ≠ i ∧ ms[j]? = some (.own l o') := fun {j l o'} h => by
    by_cases hj : j = i
    · subst hj
      rw [List.getElem?_set_self hi] at h; cases h
    · rw [List.getElem?_set_ne (Ne.symm hj)] at h
      exact ⟨hj, h⟩
  refine ⟨⟨by simp only [List.length_set]; exact g.len, fun j e h => ?_, fun j l o' h => ?_, fun j j' l l' o1 o2 b h1 h2 e1 e2 => ?_⟩, fun _ _ h _ => h, fun _ h => h, fun b z => ?_, fun j o' h => ?_⟩
  · by_cases hj : j = i
    · subst hj
      rw [List.getElem?_set_self hi] at h; cases h
      exact ⟨v, List.getElem?_set_self hσ, r⟩
    · rw [List.getElem?_set_ne (Ne.symm hj)] at h ⊢
      exact g.val j e h
  · obtain ⟨hj, h⟩ := own_ne h
    rw [List.getElem?_set_ne (Ne.symm hj)]
    exact g.own j l o' h
  · obtain ⟨hj1, h1⟩ := own_ne h1
    obtain ⟨hj2, h2⟩ := own_ne h2
    rw [List.getElem?_set_ne (Ne.symm hj1)] at e1
    rw [List.getElem?_set_ne (Ne.symm hj2)] at e2
    exact g.inj j j' l l' o1 o2 b h1 h2 e1 e2
  · obtain ⟨j, l, o', h1, h2⟩ := z
    obtain ⟨hj, h1⟩ := own_ne h1
    rw [List.getElem?_set_ne (Ne.symm hj)] at h2
    exact .inl ⟨j, l, o', h1, h2⟩
  · have hj : i ≠ j := fun z => by subst z; exact hl o' h
    rw [List.getElem?_set_ne hj, List.getElem?_set_ne hj]
    exact ⟨⟨o', h⟩, rfl⟩
theorem PostS.setOwn {H0 : Hp} (g : Good K ms σ H) (h : setS i (.own false o) ms = some ms') (r : OwnAt K H a o) (n : ¬ Ow ms σ a) :
    Good K ms' (σ.set i (some (.ref a))) H ∧ (∀ b, Ow ms' (σ.set i (some (.ref a))) b → Ow ms σ b ∨ b = a) ∧ ∀ (j : Nat) (o' : OV), ms[j]? = some (.own true o') → (∃ o2, ms'[j]? = some (.own true o2)) ∧ (σ.set i (some (.ref a)))[j]? = σ[j]? := by
  obtain ⟨rfl, hi, hl⟩ := setS_some h
  have hσ : i < σ.length := by rw [← g.len]; exact hi
  have own_c : ∀ {j : Nat} {l : Bool} {o' : OV}, (ms.set i (.own false o))[j]? = some (.own l o') → (j = i ∧ o' = o) ∨ (j ≠ i ∧ ms[j]? = some (.own l o')) := fun {j l o'} h => by
    by_cases hj : j = i
    · subst hj
      rw [List.getElem?_set_self hi] at h; cases h
      exact .inl ⟨rfl, rfl⟩
    · rw [List.getElem?_set_ne (Ne.symm hj)] at h
      exact .inr ⟨hj, h⟩
  refine ⟨⟨by simp only [List.length_set]; exact g.len, fun j e h => ?_, fun j l o' h => ?_, fun j j' l l' o1 o2 b h1 h2 e1 e2 => ?_⟩, fun b z => ?_, fun j o' h => ?_⟩
  · have hj : j ≠ i := fun z => by
      subst z
      rw [List.getElem?_set_self hi] at h; cases h
    rw [List.getElem?_set_ne (Ne.symm hj)] at h ⊢
    exact g.val j e h
  · rcases own_c h with ⟨rfl, rfl⟩ | ⟨hj, h⟩
    · exact ⟨a, List.getElem?_set_self hσ, r⟩
    · rw [List.getElem?_set_ne (Ne.symm hj)]
      exact g.own j l o' h
  · rcases own_c h1 with ⟨z1, _⟩ | ⟨hj1, k1⟩
    · rcases own_c h2 with ⟨z2, _⟩ | ⟨hj2, k2⟩
      · exact z1.trans z2.symm
      · rw [z1, List.getElem?_set_self hσ] at e1
        rw [List.getElem?_set_ne (Ne.symm hj2)] at e2
        cases e1
        exact (n ⟨j', l', o2, k2, e2⟩).elim
    · rcases own_c h2 with ⟨z2, _⟩ | ⟨hj2, k2⟩
      · rw [z2, List.getElem?_set_self hσ] at e2
        rw [List.getElem?_set_ne (Ne.symm hj1)] at e1
        cases e2
        exact (n ⟨j, l, o1, k1, e1⟩).elim
      · rw [List.getElem?_set_ne (Ne.symm hj1)] at e1
        rw [List.getElem?_set_ne (Ne.symm hj2)] at e2
        exact g.inj j j' l l' o1 o2 b k1 k2 e1 e2
  · obtain ⟨j, l, o', h1, h2⟩ := z
    rcases own_c h1 with ⟨rfl, _⟩ | ⟨hj, h1⟩
    · rw [List.getElem?_set_self hσ] at h2
      cases h2
      exact .inr rfl
    · rw [List.getElem?_set_ne (Ne.symm hj)] at h2
      exact .inl ⟨j, l, o', h1, h2⟩
  · have hj : i ≠ j := fun z => by subst z; exact hl o' h
    rw [List.getElem?_set_ne hj, List.getElem?_set_ne hj]
    exact ⟨⟨o', h⟩, rfl⟩
end
/-! name = value: what another slot owns is frozen first -/
def mFb (m : M EV) : M EV := m.bind fun ev ms => match ev with
  | .val d => some (.ok (.val d) ms)
  | .new o => some (.ok (.new o) ms)
  | .bor i => match ms[i]? with
    | some (.val d) => some (.ok (.val d) ms)
    | some (.own false o) => some (.ok (.val o.d) (ms.set i (.val o.d)))
    | _ => none
theorem me_fb (h : ME X W e me) : ME X W e (mFb me) := by
  refine PE.imp (pe_fz h) fun σ H Q q => ?_
  obtain ⟨ms, G, r⟩ := q
  refine tM_bind G r (fun x ms' z => z) fun ev ms1 h1 v H1 p1 o1 => ?_
  cases ev with
  | val d => exact .inl (h1 v H1 p1 o1)
  | new o => exact .inl (h1 v H1 p1 o1)
  | bor i =>
    have o1 : σ[i]? = some (some v) := o1
    unfold Run at h1
    cases hi : ms1[i]? with
    | none => simp only [hi] at h1
    | some sv =>
      cases sv with
      | unk => simp only [hi] at h1
      | val d =>
        simp only [hi] at h1
        obtain ⟨v', e, r⟩ := p1.good.val i d hi
        rw [o1] at e; cases e
        exact .inl (h1 _ _ p1 r)
      | own l o =>
        cases l with
        | true => simp only [hi] at h1
        | false =>
          simp only [hi] at h1
          obtain ⟨a, e, oat⟩ := p1.good.own i false o hi
          rw [o1] at e; cases e
          obtain ⟨u, hu, cu⟩ := oat.chg
          exact .inr ⟨a, u, hu, cu, fun ob => h1 _ _ (p1.frzSlot hi o1 hu) (oat.frz hu)⟩
def stE (i : Nat) (ev : EV) (ms : MS) : Option (Res Fl) := match ev with
  | .val d => (match setS i (.val d) ms with
    | some ms' => some (.ok .nx ms')
    | none => none)
  | .new o => (match setS i (.own false o) ms with
    | some ms' => some (.ok .nx ms')
    | none => none)
  | .bor _ => none
def sAsg (i : Nat) (m : M EV) : MSt := (mFb m).bind fun ev => stE i ev
theorem asg_core {i : Nat} {D : Ends} {σ : St} {H : Hp} {ms : MS} {t : TE} (G : Good X.K ms σ H) (h : Run (sAsg i me) ms (EndK X.K D ms σ H) (ExK X.K W ms σ H)) :
    tM X.K W (mFb me) σ H (fun x H1 => gName i x σ H1 D.nx) := by
  refine tM_bind G h (fun x ms' z => ExK.e z) fun ev ms1 h1 v H1 p1 o1 => ?_
  cases ev with
  | bor j => exact h1.elim
  | val d =>
    cases hs : setS i (.val d) ms1 with
    | none => simp only [Run, stE, hs] at h1
    | some ms2 =>
      simp only [Run, stE, hs] at h1
      exact h1 _ _ (p1.st.trans (PostS.setVal p1.good hs o1))
  | new o =>
    cases hs : setS i (.own false o) ms1 with
    | none => simp only [Run, stE, hs] at h1
    | some ms2 =>
      simp only [Run, stE, hs] at h1
      obtain ⟨a, rfl, hn, oat, no⟩ := o1
      obtain ⟨g2, w2, l2⟩ := PostS.setOwn (H0 := H) p1.good hs oat no
      refine h1 _ _ ⟨g2, p1.keep, p1.live, fun b z => ?_, fun j o' hj => ?_⟩
      · rcases w2 b z with z | z
        · exact .inl (p1.ow b z)
        · subst z; exact .inr hn
      · obtain ⟨o2, h2⟩ := p1.lent j o' hj
        exact l2 j o2 h2
theorem ms_asg {i : Nat} {x : Str} {pos' : Pos} (hN : X.N.Nodup) (hi : X.N[i]? = some x) (hx : Loc X.env.scope x) (he : ME X W e me) (hs : swapsWith e (some (.Name x pos')) pos.line X.env = pure false) (hf : X.fn x = true ∨ X.env.scope.names.lookup x = some .local) :
    MS1 X W (.Assign [.Name x pos'] e pos) (sAsg i me) := PS.imp (ps_set hN hi hx (me_fb he) hs hf) fun D σ H q => by
  rw [tMS_eq] at q
  obtain ⟨ms, G, h⟩ := q
  exact asg_core (t := fun _ _ _ => True) G h

/-! ### targets -/
/-- slots that are not in S stand as they stood -/
def OffS (S : List Nat) (ms : MS) (σ : St) (ms' : MS) (σ' : St) : Prop := (∀ j, j ∉ S → σ'[j]? = σ[j]? ∧ ms'[j]? = ms[j]?) ∧ (∀ (j : Nat) (l : Bool) (o : OV), j ∈ S → ms'[j]? ≠ some (.own l o)) ∧ σ'.length = σ.length
/-- a target's store, as a plain function; S: its slots -/
def tMG (K : PySem.W.Frag) (S : List Nat) (f : D → MS → Option MS) : TG := fun v σ H Q => ∃ d ms ms', Good K ms σ H ∧ Rep K H d v ∧ f d ms = some ms' ∧ ∀ σ', PostS K ms σ H ms' σ' H → OffS S ms σ ms' σ' → Q σ' H
/-- .. of a list or dict that may still change -/
def tMGr (K : PySem.W.Frag) (S : List Nat) (f : D → MS → Option MS) : TG := fun v σ H Q => ∃ d ms ms', Good K ms σ H ∧ RdAt K H d v ∧ f d ms = some ms' ∧ ∀ σ', PostS K ms σ H ms' σ' H → OffS S ms σ ms' σ' → Q σ' H
def tMGs (K : PySem.W.Frag) (S : List Nat) (f : List D → MS → Option MS) : TGs := fun vs σ H Q => ∃ ds ms ms', Good K ms σ H ∧ Reps K H ds vs ∧ f ds ms = some ms' ∧ ∀ σ', PostS K ms σ H ms' σ' H → OffS S ms σ ms' σ' → Q σ' H
abbrev MGf (X : Cx) (tg : Expr) (S : List Nat) (f : D → MS → Option MS) : Prop := PG X tg (tMG X.K S f)
abbrev MGr (X : Cx) (tg : Expr) (S : List Nat) (f : D → MS → Option MS) : Prop := PG X tg (tMGr X.K S f)
abbrev MGfs (X : Cx) (tgs : List Expr) (S : List Nat) (f : List D → MS → Option MS) : Prop := PGs X tgs (tMGs X.K S f)
theorem PG.imp {X : Cx} {tg : Expr} {t t' : TG} (h : PG X tg t) (i : ∀ v σ H Q, t' v σ H Q → t v σ H Q) : PG X tg t' := ⟨fun pins s σ H v u Q I r q => h.run pins s σ H v u Q I r (i v σ H Q q)⟩
theorem PGs.imp {X : Cx} {tg : List Expr} {t t' : TGs} (h : PGs X tg t) (i : ∀ v σ H Q, t' v σ H Q → t v σ H Q) : PGs X tg t' := ⟨fun pins s σ H v u Q I r q => h.run pins s σ H v u Q I r (i v σ H Q q)⟩
def gNm (i : Nat) (d : D) (ms : MS) : Option MS := setS i (.val d) ms
theorem mg_name {i : Nat} {x : Str} (hN : X.N.Nodup) (hi : X.N[i]? = some x) (hx : Loc X.env.scope x) (hf : X.fn x = true ∨ X.env.scope.names.lookup x = some .local) : MGf X (.Name x pos) [i] (gNm i) :=
  PG.imp (pg_name hN hi hx hf) fun v σ H Q ⟨d, ms, ms', g, r, h, q⟩ => by
    obtain ⟨e, hl, _⟩ := setS_some h
    refine q _ (PostS.setVal g h r) ⟨fun j hj => ?_, fun j l o hj => ?_, List.length_set⟩
    · have ne : i ≠ j := fun z => hj (by rw [z]; exact List.mem_cons_self)
      rw [e]
      exact ⟨List.getElem?_set_ne ne, List.getElem?_set_ne ne⟩
    · have ej : j = i := by simpa using hj
      rw [e, ej, List.getElem?_set_self hl]
      exact fun z => nomatch z
def gsNil : List D → MS → Option MS := fun ds ms => match ds with
  | [] => some ms
  | _ => none
def gsCons (f : D → MS → Option MS) (g : List D → MS → Option MS) : List D → MS → Option MS := fun ds ms => match ds with
  | d :: r => (match f d ms with
    | some ms' => g r ms'
    | none => none)
  | [] => none
theorem mgs_nil : MGfs X [] [] gsNil := PGs.imp pgs_nil fun vs σ H Q ⟨ds, ms, ms', g, r, h, q⟩ => by
  cases ds with
  | nil =>
    rw [Reps] at r
    cases h
    exact ⟨r, q _ (.refl g) ⟨fun _ _ => ⟨rfl, rfl⟩, (fun _ _ _ z => nomatch z), rfl⟩⟩
  | cons d ds => cases h
theorem mgs_cons {t : Expr} {ts : List Expr} {S T : List Nat} {f : D → MS → Option MS} {g : List D → MS → Option MS} (h1 : MGf X t S f) (h2 : MGfs X ts T g) (hs : (assignEach (t :: ts) X.env).map (·.2) = assign t X.env :: (assignEach ts X.env).map (·.2)) : MGfs X (t :: ts) (S ++ T) (gsCons f g) := by
  refine PGs.imp (pgs_cons h1 h2 hs) fun vs σ H Q ⟨ds, ms, ms', G, r, h, q⟩ => ?_
  cases ds with
  | nil => cases h
  | cons d ds =>
    rw [Reps] at r
    obtain ⟨x, xs, rfl, r1, r2⟩ := r
    cases hf : f d ms with
    | none => simp only [gsCons, hf] at h; cases h
    | some ms1 =>
      simp only [gsCons, hf] at h
      refine ⟨x, xs, rfl, d, ms, ms1, G, r1, hf, fun σ1 s1 o1 => ?_⟩
      refine ⟨ds, ms1, ms', s1.good, r2, h, fun σ2 s2 o2 => q σ2 (s1.trans s2) ⟨fun j hj => ?_, fun j l o hj => ?_, o2.2.2.trans o1.2.2⟩⟩
      · have a := o2.1 j fun z => hj (List.mem_append_right _ z)
        have b := o1.1 j fun z => hj (List.mem_append_left _ z)
        exact ⟨a.1.trans b.1, a.2.trans b.2⟩
      · by_cases hT : j ∈ T
        · exact o2.2.1 j l o hT
        · rw [(o2.1 j hT).2]
          rcases List.mem_append.mp hj with z | z
          · exact o1.2.1 j l o z
          · exact absurd z hT
theorem PG.or {t u : TG} {tg : Expr} (h1 : PG X tg t) (h2 : PG X tg u) : PG X tg (fun v σ H Q => t v σ H Q ∨ u v σ H Q) :=
  ⟨fun pins s σ H v w Q I r h => h.elim (fun h => h1.run pins s σ H v w Q I r h) fun h => h2.run pins s σ H v w Q I r h⟩
def gTp (n : Nat) (g : List D → MS → Option MS) (d : D) (ms : MS) : Option MS := match d with
  | .tup ds => if ds.length = n then g ds ms else none
  | .lst ds => if ds.length = n then g ds ms else none
  | _ => none
theorem mg_tup {ts : List Expr} {k n : Nat} {S : List Nat} {g : List D → MS → Option MS} (hc : X.calm = true) (h : MGfs X ts S g) (hn : (assignEach ts X.env).length = n) (hst : (assignEach ts X.env).findIdx? (·.1) = none) : MGr X (.Tuple ts k pos) S (gTp n g) := by
  refine PG.imp (PG.or (pg_tup hc h hn hst) (pg_lst hc h hn hst)) fun v σ H Q ⟨d, ms, ms', G, r, h, kk⟩ => ?_
  cases d with
  | tup ds =>
    have r : Rep X.K H (.tup ds) v := r
    rw [Rep] at r
    obtain ⟨a, xs, rfl, r1, r2⟩ := r
    unfold gTp at h
    simp only at h
    split at h
    · rename_i hl
      exact .inl ⟨a, xs, rfl, .of r1, by rw [← r2.length]; exact hl, ds, ms, ms', G, r2, h, kk⟩
    · cases h
  | lst ds =>
    obtain ⟨a, xs, rfl, r1, r2⟩ := r
    unfold gTp at h
    simp only at h
    split at h
    · rename_i hl
      exact .inr ⟨a, xs, rfl, .inl r1, by rw [← r2.length]; exact hl, ds, ms, ms', G, r2, h, kk⟩
    · cases h
  | _ => cases h
theorem MGr.f {tg : Expr} {S : List Nat} {f : D → MS → Option MS} (h : MGr X tg S f) : MGf X tg S f := PG.imp h fun v σ H Q ⟨d, ms, ms', G, r, z⟩ => ⟨d, ms, ms', G, .of r, z⟩
/-- a, b = e -/
def sUnp (f : D → MS → Option MS) (m : M EV) : MSt := m.bind fun ev ms => match rd ms ev with
  | some d => (match f d ms with
    | some ms' => some (.ok .nx ms')
    | none => none)
  | none => none
theorem ms_unp {tg : Expr} {f : D → MS → Option MS} (he : ME X W e me) {S : List Nat} (hg : MGr X tg S f) (hs : swapsWithSole [tg] e pos.line X.env = pure false) (hw : swappedStores [tg] e X.env = pure none)
    (h1 : (assignEach [tg] X.env).map (·.2) = [assign tg X.env]) : MS1 X W (.Assign [tg] e pos) (sUnp f me) := by
  refine PS.imp (ps_asg he hg hs hw h1) fun D σ H z => ?_
  rw [tMS_eq] at z
  obtain ⟨ms, G, h⟩ := z
  refine tM_bind G h (fun x ms' z => ExK.e z) fun ev ms1 h1 v H1 p1 o1 => ?_
  cases hd : rd ms1 ev with
  | none => simp only [Run, hd] at h1
  | some d =>
    cases hf : f d ms1 with
    | none => simp only [Run, hd, hf] at h1
    | some ms2 =>
      simp only [Run, hd, hf] at h1
      exact ⟨d, ms1, ms2, p1.good, rd_ok p1.good o1 hd, hf, fun σ' s _ => h1 σ' H1 (p1.st.trans s)⟩
end
end Fw
set_option Elab.async false
set_option linter.all false
set_option maxRecDepth 100000
set_option maxHeartbeats 2000000
/-! Fw E: what is walked, for, while, list comprehensions. -/
namespace Fw
open PySem L2

/-! ### while -/
def wh (k : MSt) : Fl → MSt
  | .nx => k
  | .ct => k
  | .bk => M.pure .nx
  | .rt v => M.pure (.rt v)
def whileN (c : M Bool) (b : MSt) : Nat → MSt
  | 0 => fun _ => none
  | n + 1 => c.bind fun t => if t = true then b.bind (wh (whileN c b n)) else M.pure .nx
theorem bind_none {α β : Type} {m : M α} {f : α → M β} {ms : MS} (h : m ms = none) : m.bind f ms = none := by unfold M.bind; rw [h]
theorem bind_exc {α β : Type} {m : M α} {f : α → M β} {ms ms' : MS} {x : EX} (h : m ms = some (.exc x ms')) : m.bind f ms = some (.exc x ms') := by unfold M.bind; rw [h]
theorem bind_ok {α β : Type} {m : M α} {f : α → M β} {ms ms' : MS} {a : α} (h : m ms = some (.ok a ms')) : m.bind f ms = f a ms' := by unfold M.bind; rw [h]
/-- what gives an answer with k gives it with k' -/
theorem bind_imp {α β : Type} {m : M α} {f f' : α → M β} {ms : MS} {r : Res β} (h : m.bind f ms = some r) (hf : ∀ a ms', m ms = some (.ok a ms') → f a ms' = some r → f' a ms' = some r) : m.bind f' ms = some r := by
  cases q : m ms with
  | none => rw [bind_none q] at h; cases h
  | some x =>
    cases x with
    | exc x ms' => rw [bind_exc q] at h ⊢; exact h
    | ok a ms' => rw [bind_ok q] at h ⊢; exact hf a ms' q h
theorem wh_imp {k k' : MSt} {fl : Fl} {ms : MS} {r : Res Fl} (h : wh k fl ms = some r) (hk : k ms = some r → k' ms = some r) : wh k' fl ms = some r := by
  cases fl with
  | nx => exact hk h
  | ct => exact hk h
  | bk => exact h
  | rt v => exact h
theorem whileN_mono {c : M Bool} {b : MSt} : ∀ {n : Nat} {ms : MS} {r : Res Fl}, whileN c b n ms = some r → whileN c b (n + 1) ms = some r
  | 0, _, _, h => nomatch h
  | n + 1, ms, r, h => by
    rw [whileN] at h ⊢
    refine bind_imp h fun t ms1 _ h => ?_
    cases t with
    | false => exact h
    | true => exact bind_imp h fun fl ms2 _ h => wh_imp h whileN_mono
theorem whileN_le {c : M Bool} {b : MSt} {n m : Nat} {ms : MS} {r : Res Fl} (h : whileN c b n ms = some r) (l : n ≤ m) : whileN c b m ms = some r := by
  induction l with
  | refl => exact h
  | step _ ih => exact whileN_mono ih
open Classical in
noncomputable def sWhile (c : M Bool) (b : MSt) : MSt := fun ms => if h : ∃ r, ∃ n, whileN c b n ms = some r then some h.choose else none
theorem sWhile_of {c : M Bool} {b : MSt} {n : Nat} {ms : MS} {r : Res Fl} (h : whileN c b n ms = some r) : sWhile c b ms = some r := by
  have ex : ∃ r, ∃ n, whileN c b n ms = some r := ⟨r, n, h⟩
  unfold sWhile
  rw [dif_pos ex]
  obtain ⟨m, hm⟩ := ex.choose_spec
  have h1 := whileN_le h (Nat.le_max_left n m)
  have h2 := whileN_le hm (Nat.le_max_right n m)
  rw [h1] at h2
  exact h2.symm
theorem of_sWhile {c : M Bool} {b : MSt} {ms : MS} {r : Res Fl} (h : sWhile c b ms = some r) : ∃ n, whileN c b n ms = some r := by
  unfold sWhile at h
  split at h
  · rename_i ex
    cases h
    exact ex.choose_spec
  · cases h
/-- one turn -/
theorem sWhile_eq {c : M Bool} {b : MSt} : sWhile c b = c.bind fun t => if t = true then b.bind (wh (sWhile c b)) else M.pure .nx := by
  funext ms
  have h1 : ∀ r, sWhile c b ms = some r → (c.bind fun t => if t = true then b.bind (wh (sWhile c b)) else M.pure .nx) ms = some r := fun r h => by
    obtain ⟨n, hn⟩ := of_sWhile h
    cases n with
    | zero => cases hn
    | succ n =>
      rw [whileN] at hn
      refine bind_imp hn fun t ms1 _ h => ?_
      cases t with
      | false => exact h
      | true => exact bind_imp h fun fl ms2 _ h => wh_imp h sWhile_of
  have h2 : ∀ r, (c.bind fun t => if t = true then b.bind (wh (sWhile c b)) else M.pure .nx) ms = some r → sWhile c b ms = some r := fun r h => by
    have : ∃ n, whileN c b (n + 1) ms = some r := by
      cases q : c ms with
      | none => rw [bind_none q] at h; cases h
      | some x =>
        cases x with
        | exc x ms' => exact ⟨0, by rw [whileN, bind_exc q]; rw [bind_exc q] at h; exact h⟩
        | ok t ms1 =>
          rw [bind_ok q] at h
          cases t with
          | false => exact ⟨0, by rw [whileN, bind_ok q]; exact h⟩
          | true =>
            have h : b.bind (wh (sWhile c b)) ms1 = some r := h
            cases qb : b ms1 with
            | none => rw [bind_none qb] at h; cases h
            | some y =>
              cases y with
              | exc x ms' => exact ⟨0, by rw [whileN, bind_ok q]; rw [bind_exc qb] at h; rw [if_pos rfl, bind_exc qb]; exact h⟩
              | ok fl ms2 =>
                rw [bind_ok qb] at h
                cases fl with
                | bk => exact ⟨0, by rw [whileN, bind_ok q, if_pos rfl, bind_ok qb]; exact h⟩
                | rt v => exact ⟨0, by rw [whileN, bind_ok q, if_pos rfl, bind_ok qb]; exact h⟩
                | nx =>
                  obtain ⟨n, hn⟩ := of_sWhile (show sWhile c b ms2 = some r from h)
                  exact ⟨n, by rw [whileN, bind_ok q, if_pos rfl, bind_ok qb]; exact hn⟩
                | ct =>
                  obtain ⟨n, hn⟩ := of_sWhile (show sWhile c b ms2 = some r from h)
                  exact ⟨n, by rw [whileN, bind_ok q, if_pos rfl, bind_ok qb]; exact hn⟩
    obtain ⟨n, hn⟩ := this
    exact sWhile_of hn
  cases q : sWhile c b ms with
  | some r => exact (h1 r q).symm
  | none =>
    cases q2 : (c.bind fun t => if t = true then b.bind (wh (sWhile c b)) else M.pure .nx) ms with
    | none => rfl
    | some r => rw [h2 r q2] at q; cases q
theorem EndK.wh {K : PySem.W.Frag} {W : WX} {D : Ends} {ms ms1 : MS} {σ σ1 : St} {H H1 : Hp} {k : MSt} {N : St → Hp → Prop} (p : PostS K ms σ H ms1 σ1 H1) {fl : Fl} {ms2 : MS} (h : Run (wh k fl) ms2 (EndK K D ms σ H) (ExK K W ms σ H))
    (hN : ∀ σ2 H2, PostS K ms1 σ1 H1 ms2 σ2 H2 → Run k ms2 (EndK K D ms σ H) (ExK K W ms σ H) → N σ2 H2) : EndK K { D with nx := N, ct := N, bk := D.nx } ms1 σ1 H1 fl ms2 := by
  cases fl with
  | nx => exact fun σ' H' q => hN σ' H' q h
  | ct => exact fun σ' H' q => hN σ' H' q h
  | bk => exact fun σ' H' q => h σ' H' (p.trans q)
  | rt v => exact fun v' σ' H' q o => h v' σ' H' (p.trans q) (o.early p.live)
section
variable {X : Cx} {W : WX} {e : Expr} {body : List Stmt} {m : MSt} {mc : M Bool} {pos : Pos}
theorem ms_while (hp : PassesOwn (model X.prog X.w) X.A X.env X.xe) (hc : MT X W e mc) (hb : MSs X W body m) : MS1 X W (.While e body [] pos) (sWhile mc m) := PS.imp (ps_while hp hc hb) fun D σ H q => by
  rw [tMS_eq] at q
  obtain ⟨ms, G, h⟩ := q
  have hn : ∃ n, Run (whileN mc m n) ms (EndK X.K D ms σ H) (ExK X.K W ms σ H) := by
    unfold Run at h
    cases q : sWhile mc m ms with
    | none => rw [q] at h; exact h.elim
    | some r =>
      rw [q] at h
      obtain ⟨n, hn⟩ := of_sWhile q
      refine ⟨n, ?_⟩
      unfold Run
      rw [hn]
      exact h
  obtain ⟨n, hn⟩ := hn
  refine ⟨fun k σ' H' => ∃ ms', PostS X.K ms σ H ms' σ' H' ∧ Run (whileN mc m k) ms' (EndK X.K D ms σ H) (ExK X.K W ms σ H), ⟨n, ms, .refl G, hn⟩, ?_⟩
  rintro k σ1 H1 ⟨ms1, p1, h1⟩
  cases k with
  | zero => exact h1.elim
  | succ k =>
    rw [whileN] at h1
    refine tMT_bind p1.good h1 (fun x ms' z => (ExK.from p1 z).e) fun b ms2 h2 H2 p2 => ?_
    have p12 := p1.trans p2.st
    cases b with
    | false => exact iteF (h2 σ1 H2 p12)
    | true =>
      refine iteT ⟨fun σ' H' => ∃ ms', PostS X.K ms σ H ms' σ' H' ∧ Run (whileN mc m k) ms' (EndK X.K D ms σ H) (ExK X.K W ms σ H), fun σ' H' z => ⟨k, Nat.lt_succ_self k, z⟩, ?_⟩
      have h3 : Run (m.bind (wh (whileN mc m k))) ms2 (EndK X.K D ms σ H) (ExK X.K W ms σ H) := h2
      rw [Run.bind] at h3
      exact ⟨ms2, p2.good, h3.mono (fun fl ms3 h3 => EndK.wh p12 h3 fun σ2 H3 p3 h4 => ⟨ms3, p12.trans p3, h4⟩) fun x ms' z => ExK.from p12 z⟩
end

/-! ### what is walked -/
def ItOk (K : PySem.W.Frag) (H : Hp) (J : It) (ds : List D) : Prop := ds.length ≤ sizeLine ∧ ∀ H', Kept H H' → (∀ (i : Nat) d, ds[i]? = some d → J.go i H' ∧ ∀ x H'', J.yld i H' x H'' → Same H' H'' ∧ Rep K H'' d x) ∧ J.stop ds.length H'
def tMI (K : PySem.W.Frag) (W : WX) (m : M (List D)) : TI := fun σ H R => ∃ ms, Good K ms σ H ∧ Run m ms
  (fun ds ms' => ∀ J H', PostE K ms σ H ms' H' → ItOk K H' J ds → R J H')
  (fun x ms' => ∀ cls d H', PostE K ms σ H ms' H' → ExOk K H' x cls d → W cls d σ H')
abbrev MI (X : Cx) (W : WX) (tg it : Expr) (m : M (List D)) : Prop := PI X tg it (tMI X.K W m)
theorem PI.imp {X : Cx} {tg it : Expr} {t t' : TI} (h : PI X tg it t) (i : ∀ σ H Q, t' σ H Q → t σ H Q) : PI X tg it t' := ⟨fun pins s σ H Q I q => h.run pins s σ H Q I (i σ H Q q)⟩
theorem PI.or {X : Cx} {tg it : Expr} {t u : TI} (h1 : PI X tg it t) (h2 : PI X tg it u) : PI X tg it (fun σ H R => t σ H R ∨ u σ H R) :=
  ⟨fun pins s σ H R I h => h.elim (fun h => h1.run pins s σ H R I h) fun h => h2.run pins s σ H R I h⟩
/-- a list's, a tuple's length is within the line -/
def tLen (K : PySem.W.Frag) (t : TE) : TE := fun σ H Q => t σ H fun v H1 => (∀ a xs, v = .ref a → SqL K H1 a xs ∨ SqT K H1 a xs → xs.length ≤ sizeLine) → Q v H1
theorem pe_len {X : Cx} {e : Expr} {t : TE} (h : PE X e t) : PE X e (tLen X.K t) := by
  refine ⟨fun pins s σ H Q I q => thn (h.run pins s σ H _ I q) fun u s1 ⟨v, H1, I1, r1, q1⟩ => ⟨v, H1, I1, r1, q1 fun a xs e hs => ?_⟩⟩
  rcases hs with hs | hs
  · obtain ⟨_, _, _, hz⟩ := I1.list hs; exact hz
  · obtain ⟨_, _, _, hz⟩ := I1.tuple hs; exact hz
def itemsD : EV → Option (List D)
  | .val (.tup ds) => some ds
  | .val (.ktp ds) => some ds
  | .val (.lst ds) => some ds
  | .val (.kls ds) => some ds
  | _ => none
def mSeq (m : M EV) : M (List D) := (mFz m).bind fun ev => M.lift (itemsD ev)
theorem reps_at {K : PySem.W.Frag} {H : Hp} : ∀ {ds : List D} {xs : List V} {i : Nat} {d : D}, Reps K H ds xs → ds[i]? = some d → ∃ x, xs[i]? = some x ∧ Rep K H d x
  | [], _, _, _, _, e => by simp at e
  | d' :: ds, xs, i, d, h, e => by
    rw [Reps] at h
    obtain ⟨x, r, rfl, h1, h2⟩ := h
    cases i with
    | zero =>
      simp at e; subst e
      exact ⟨x, rfl, h1⟩
    | succ i =>
      obtain ⟨y, e1, e2⟩ := reps_at (i := i) h2 (by simpa using e)
      exact ⟨y, by simpa using e1, e2⟩
section
variable {X : Cx} {W : WX} {e : Expr} {m : M EV} {tg : Expr} {pos : Pos}
theorem mi_seq (h : ME X W e m) : MI X W tg e (mSeq m) := by
  have hp := pe_len (me_fz h)
  refine PI.imp (PI.or (pi_tup hp) (pi_list hp)) fun σ H R q => ?_
  obtain ⟨ms, G, r⟩ := q
  unfold mSeq at r
  rw [Run.bind] at r
  have key : ∀ (T : VK), (∀ ev ms', (∀ ds, itemsD ev = some ds → ∀ J H', PostE X.K ms σ H ms' H' → ItOk X.K H' J ds → R J H') → ∀ v H', PostE X.K ms σ H ms' H' → EVOk X.K ms' σ H H' v ev → T v H') → True := fun _ _ => trivial
  -- which of the two
  unfold Run at r
  cases hm : mFz m ms with
  | none => rw [hm] at r; exact r.elim
  | some rm =>
    rw [hm] at r
    have ex : ∀ {x : EX} {ms' : MS}, rm = .exc x ms' → ∀ (T : VK), tM X.K W (mFz m) σ H T := fun {x ms'} e T => ⟨ms, G, by
      unfold Run; rw [hm, e]; subst e; exact r⟩
    cases rm with
    | exc x ms' => exact .inl (ex rfl _)
    | ok ev ms1 =>
      have go : ∀ (T : VK), (∀ v H', PostE X.K ms σ H ms1 H' → EVOk X.K ms1 σ H H' v ev → T v H') → tM X.K W (mFz m) σ H T := fun T t => ⟨ms, G, by unfold Run; rw [hm]; exact t⟩
      obtain ⟨ds, e1, k⟩ := Run.lift r
      cases ev with
      | new o => cases e1
      | bor i => cases e1
      | val d =>
        cases d with
        | tup ds' =>
          cases e1
          refine .inl (go _ fun v H1 p1 o1 hlen => ?_)
          have o1 : Rep X.K H1 (.tup ds) v := o1
          rw [Rep] at o1
          obtain ⟨a, xs, rfl, r1, r2⟩ := o1
          have r1 : SqT X.K H1 a xs := .of r1
          refine ⟨a, rfl, ⟨xs, r1⟩, k _ H1 p1 ⟨by rw [r2.length]; exact hlen a xs rfl (.inr r1), fun H' kk => ?_⟩⟩
          have r1' := kk.sqT r1
          refine ⟨fun i d hd => ?_, ⟨xs, r1', by rw [r2.length]; exact Nat.le_refl _⟩⟩
          obtain ⟨x, ex, rx⟩ := reps_at (Reps.mono kk _ _ r2) hd
          refine ⟨⟨xs, x, r1', ex⟩, fun y H'' hy => ?_⟩
          obtain ⟨e2, e3⟩ := hy
          subst e2
          have := (e3 xs r1').symm.trans ex
          cases this
          exact ⟨.refl _, rx⟩
        | ktp ds' =>
          cases e1
          refine .inl (go _ fun v H1 p1 o1 hlen => ?_)
          have o1 : Rep X.K H1 (.ktp ds) v := o1
          rw [Rep] at o1
          obtain ⟨a, xs, rfl, r1, r2⟩ := o1
          have r1 : SqT X.K H1 a xs := r1.seq
          refine ⟨a, rfl, ⟨xs, r1⟩, k _ H1 p1 ⟨by rw [r2.length]; exact hlen a xs rfl (.inr r1), fun H' kk => ?_⟩⟩
          have r1' := kk.sqT r1
          refine ⟨fun i d hd => ?_, ⟨xs, r1', by rw [r2.length]; exact Nat.le_refl _⟩⟩
          obtain ⟨x, ex, rx⟩ := reps_at (Reps.mono kk _ _ r2) hd
          refine ⟨⟨xs, x, r1', ex⟩, fun y H'' hy => ?_⟩
          obtain ⟨e2, e3⟩ := hy
          subst e2
          have := (e3 xs r1').symm.trans ex
          cases this
          exact ⟨.refl _, rx⟩
        | lst ds' =>
          cases e1
          refine .inr (go _ fun v H1 p1 o1 hlen => ?_)
          have o1 : Rep X.K H1 (.lst ds) v := o1
          rw [Rep] at o1
          obtain ⟨a, xs, rfl, r1z, r2⟩ := o1
          have r1 : SqL X.K H1 a xs := r1z.seq
          refine ⟨a, rfl, ⟨xs, r1⟩, k _ H1 p1 ⟨by rw [r2.length]; exact hlen a xs rfl (.inl r1), fun H' kk => ?_⟩⟩
          have r1' : SqL X.K H' a xs := (kk.sqZ r1z).seq
          refine ⟨fun i d hd => ?_, ⟨xs, r1', by rw [r2.length]; exact Nat.le_refl _⟩⟩
          obtain ⟨x, ex, rx⟩ := reps_at (Reps.mono kk _ _ r2) hd
          refine ⟨⟨xs, x, r1', ex⟩, fun y H'' hy => ?_⟩
          obtain ⟨e2, e3⟩ := hy
          subst e2
          have := (e3 xs r1').symm.trans ex
          cases this
          exact ⟨.refl _, rx⟩
        | kls ds' =>
          cases e1
          refine .inr (go _ fun v H1 p1 o1 hlen => ?_)
          have o1 : Rep X.K H1 (.kls ds) v := o1
          rw [Rep] at o1
          obtain ⟨a, xs, rfl, r1z, r2⟩ := o1
          have r1 : SqL X.K H1 a xs := r1z.seq
          refine ⟨a, rfl, ⟨xs, r1⟩, k _ H1 p1 ⟨by rw [r2.length]; exact hlen a xs rfl (.inl r1), fun H' kk => ?_⟩⟩
          have r1' : SqL X.K H' a xs := r1z.seq
          refine ⟨fun i d hd => ?_, ⟨xs, r1', by rw [r2.length]; exact Nat.le_refl _⟩⟩
          obtain ⟨x, ex, rx⟩ := reps_at (Reps.mono kk _ _ r2) hd
          refine ⟨⟨xs, x, r1', ex⟩, fun y H'' hy => ?_⟩
          obtain ⟨e2, e3⟩ := hy
          subst e2
          have := (e3 xs r1').symm.trans ex
          cases this
          exact ⟨.refl _, rx⟩
        | _ => cases e1
/-! ranges -/
def rgL (lo : Int) (n : Nat) : List D := (List.range n).map fun i => .int (lo + (i : Nat))
theorem itr_ok {K : PySem.W.Frag} {H : Hp} {lo : Int} {n : Nat} (h : n ≤ 16777216) : ItOk K H (Itr lo n) (rgL lo n) := by
  have hl : (rgL lo n).length = n := by unfold rgL; rw [List.length_map, List.length_range]
  refine ⟨by rw [hl, sizeLine_eq]; exact h, fun H' _ => ⟨fun i d hd => ?_, by rw [hl]; exact Nat.le_refl n⟩⟩
  have hi : i < n := by rw [← hl]; exact (List.getElem?_eq_some_iff.mp hd).1
  have ed : d = .int (lo + (i : Nat)) := by
    unfold rgL at hd
    rw [List.getElem?_map, List.getElem?_range hi] at hd
    exact (Option.some.inj hd).symm
  refine ⟨hi, fun x H'' hy => ?_⟩
  obtain ⟨e1, e2⟩ := hy
  subst e1 e2 ed
  refine ⟨.refl _, ?_⟩
  rw [Rep]
theorem repInt {K : PySem.W.Frag} {H : Hp} {i : Int} {v : V} (h : Rep K H (.int i) v) : v = .int i := by
  rw [Rep] at h
  exact h
/-- a number -/
def mI (m : M EV) : M Int := m.bind fun x => M.lift (match x with
  | .val (.int i) => some i
  | _ => none)
theorem tM_int {K : PySem.W.Frag} {α : Type} {m : M EV} {f : Int → M α} {ms : MS} {σ : St} {H : Hp} {k : α → MS → Prop} {xk : EX → MS → Prop} {R : VK} (g : Good K ms σ H) (h : Run ((mI m).bind f) ms k xk)
    (hx : ∀ x ms', xk x ms' → ∀ cls d H', PostE K ms σ H ms' H' → ExOk K H' x cls d → W cls d σ H')
    (hk : ∀ i ms', Run (f i) ms' k xk → ∀ H', PostE K ms σ H ms' H' → R (.int i) H') : tM K W m σ H R := by
  unfold mI at h
  rw [Run.bind] at h
  refine tM_bind g h hx fun ev ms1 h1 v H1 p1 o1 => ?_
  obtain ⟨i, e, q⟩ := Run.lift h1
  cases ev with
  | new o => cases e
  | bor i => cases e
  | val d =>
    cases d with
    | int j =>
      cases e
      rw [repInt (show Rep K H1 (.int _) v from o1)]
      exact hk _ _ q H1 p1
    | _ => cases e
noncomputable def mRg1 (a : M EV) : M (List D) := (mI a).bind fun j => M.lift (@ite _ (-16777216 ≤ j ∧ j ≤ 16777216) (Classical.propDecidable _) (some (rgL 0 j.toNat)) none)
noncomputable def mRg2 (a b : M EV) : M (List D) := (mI a).bind fun i => (mI b).bind fun j => M.lift (@ite _ (-16777216 ≤ i ∧ i ≤ 16777216 ∧ -16777216 ≤ j ∧ j ≤ 16777216 ∧ j - i ≤ 16777216) (Classical.propDecidable _) (some (rgL i (j - i).toNat)) none)
/-- downward by ones -/
def rgD (hi : Int) (n : Nat) : List D := (List.range n).map fun i => .int (hi - (i : Nat))
noncomputable def mRg3 (a b c : M EV) : M (List D) := (mI a).bind fun i => (mI b).bind fun j => (mI c).bind fun k => M.lift (@ite _ (k = -1 ∧ -16777216 ≤ i ∧ i ≤ 16777216 ∧ -16777216 ≤ j ∧ j ≤ 16777216 ∧ i - j ≤ 16777216) (Classical.propDecidable _) (some (rgD i (i - j).toNat)) none)
variable {a b c : Expr} {ma mb mc : M EV} {p : Pos}
theorem mi_range1 (hg : Gl X "range") (hm : X.mg "range" = none) (ha : ME X W a ma) (hs : starEach [a] X.env = [(false, eval a X.env)]) : MI X W tg (.Call (.Name "range" p) [a] [] pos) (mRg1 ma) := by
  refine PI.imp (pi_range1 hg hm (pa_cons ha pa_nil hs) hs) fun σ H R q => ?_
  obtain ⟨ms, G, h⟩ := q
  refine tM_int G h (fun x ms' z => z) fun j ms1 h1 H1 p1 => ?_
  obtain ⟨ds, e, k⟩ := Run.lift h1
  split at e
  · rename_i hj
    cases e
    exact ⟨j, rfl, by omega, by omega, k _ H1 p1 (itr_ok (by omega))⟩
  · cases e
theorem mi_range2 (hg : Gl X "range") (hm : X.mg "range" = none) (ha : ME X W a ma) (hb : ME X W b mb) (hs : starEach [a, b] X.env = [(false, eval a X.env), (false, eval b X.env)]) (hs2 : starEach [b] X.env = [(false, eval b X.env)]) : MI X W tg (.Call (.Name "range" p) [a, b] [] pos) (mRg2 ma mb) := by
  refine PI.imp (pi_range2 hg hm (pa_cons ha (pa_cons hb pa_nil hs2) (by rw [hs, hs2])) hs hs2) fun σ H R q => ?_
  obtain ⟨ms, G, h⟩ := q
  refine tM_int G h (fun x ms' z => z) fun i ms1 h1 H1 p1 => ?_
  refine tM_int p1.good h1 (fun x ms' z cls d H' p => z cls d H' (p1.trans p)) fun j ms2 h2 H2 p2 => ?_
  obtain ⟨ds, e, k⟩ := Run.lift h2
  split at e
  · rename_i hj
    cases e
    exact ⟨i, j, rfl, by omega, k _ H2 (p1.trans p2) (itr_ok (by omega))⟩
  · cases e
theorem itc_ok {K : PySem.W.Frag} {H : Hp} {hi : Int} {n : Nat} (h : n ≤ 16777216) : ItOk K H (Itc hi (-1) n) (rgD hi n) := by
  have hl : (rgD hi n).length = n := by unfold rgD; rw [List.length_map, List.length_range]
  refine ⟨by rw [hl, sizeLine_eq]; exact h, fun H' _ => ⟨fun i d hd => ?_, by rw [hl]; exact Nat.le_refl n⟩⟩
  have hi' : i < n := by rw [← hl]; exact (List.getElem?_eq_some_iff.mp hd).1
  have ed : d = .int (hi - (i : Nat)) := by
    unfold rgD at hd
    rw [List.getElem?_map, List.getElem?_range hi'] at hd
    exact (Option.some.inj hd).symm
  refine ⟨hi', fun x H'' hy => ?_⟩
  obtain ⟨e1, e2⟩ := hy
  subst e1 e2 ed
  refine ⟨.refl _, ?_⟩
  rw [Rep]
  congr 1
  omega
theorem mi_range3 (hg : Gl X "range") (hm : X.mg "range" = none) (ha : ME X W a ma) (hb : ME X W b mb) (hc : ME X W c mc) (hs : starEach [a, b, c] X.env = (false, eval a X.env) :: starEach [b, c] X.env) (hs1 : starEach [b, c] X.env = (false, eval b X.env) :: starEach [c] X.env)
    (hs2 : starEach [c] X.env = [(false, eval c X.env)]) (hpl : (backTo pos (starEach [b, c] X.env)).any (·.1) = false) : MI X W tg (.Call (.Name "range" p) [a, b, c] [] pos) (mRg3 ma mb mc) := by
  refine PI.imp (pi_range3 hg hm (pa_cons ha (pa_cons hb (pa_cons hc pa_nil hs2) hs1) hs) hs hpl) fun σ H R q => ?_
  obtain ⟨ms, G, h⟩ := q
  refine tM_int G h (fun x ms' z => z) fun i ms1 h1 H1 p1 => ?_
  refine tM_int p1.good h1 (fun x ms' z cls d H' p => z cls d H' (p1.trans p)) fun j ms2 h2 H2 p2 => ?_
  have p12 := p1.trans p2
  refine tM_int p2.good h2 (fun x ms' z cls d H' p => z cls d H' (p12.trans p)) fun k ms3 h3 H3 p3 => ?_
  obtain ⟨ds, e, kk⟩ := Run.lift h3
  split at e
  · rename_i hj
    cases e
    refine ⟨i, j, k, (i - j).toNat, rfl, ?_, kk _ H3 (p12.trans p3) ?_⟩
    · rw [hj.1]
      exact RgC.neg (by omega) (by omega) (by omega) (by omega)
    · rw [hj.1]
      exact itc_ok (by omega)
  · cases e
end

/-! ### for -/
def forL (f : D → MS → Option MS) (b : MSt) : List D → MSt
  | [] => M.pure .nx
  | d :: ds => fun ms => match f d ms with
    | none => none
    | some ms1 => b.bind (wh (forL f b ds)) ms1
def sFor (it : M (List D)) (f : D → MS → Option MS) (b : MSt) : MSt := it.bind fun ds => forL f b ds
section
variable {X : Cx} {W : WX} {tg iter : Expr} {body : List Stmt} {m : MSt} {mi : M (List D)} {f : D → MS → Option MS} {pos : Pos}
theorem ms_for (hp : PassesOwn (model X.prog X.w) X.A X.env X.xe) (hc : X.calm = true) (hi : MI X W tg iter mi) {S : List Nat} (hg : MGf X tg S f) (hb : MSs X W body m) (hs : ∀ x, foldedSetIterable iter X.env x = pure x) : MS1 X W (.For tg iter body [] pos) (sFor mi f m) := by
  refine PS.imp (ps_for hp hc hi hg hb hs) fun D σ H q => ?_
  rw [tMS_eq] at q
  obtain ⟨ms, G, h⟩ := q
  unfold sFor at h
  rw [Run.bind] at h
  refine ⟨ms, G, h.mono (fun ds ms1 h1 J H1 p1 io => ?_) fun x ms' z => ExK.e z⟩
  obtain ⟨hlen, io⟩ := io
  refine ⟨fun i k σ' H' => k = ds.length - i ∧ i ≤ ds.length ∧ ∃ ms', PostS X.K ms σ H ms' σ' H' ∧ Kept H1 H' ∧ Run (forL f m (ds.drop i)) ms' (EndK X.K D ms σ H) (ExK X.K W ms σ H), ⟨ds.length, by simp, Nat.zero_le _, ms1, p1.st, .refl _, h1⟩, ?_⟩
  rintro i k σ2 H2 ⟨rfl, hi, ms2, p2, kk, h2⟩
  by_cases hlt : i < ds.length
  · right
    have hd : ds[i]? = some ds[i] := List.getElem?_eq_getElem hlt
    obtain ⟨go, yl⟩ := (io H2 kk).1 i _ hd
    refine ⟨go, fun σ' H' => ∃ ms', PostS X.K ms σ H ms' σ' H' ∧ Kept H1 H' ∧ Run (forL f m (ds.drop (i + 1))) ms' (EndK X.K D ms σ H) (ExK X.K W ms σ H), fun σ' H' z => ⟨ds.length - (i + 1), by omega, rfl, by omega, z⟩, fun x H3 hy => ?_⟩
    obtain ⟨sm, rx⟩ := yl x H3 hy
    have p3 := p2.trans (PostE.same p2.good sm).st
    have kk3 := kk.trans (.same sm)
    rw [List.drop_eq_getElem_cons hlt] at h2
    unfold forL at h2
    cases hf : f ds[i] ms2 with
    | none => simp only [Run, hf] at h2
    | some ms3 =>
      have h3 : Run (m.bind (wh (forL f m (ds.drop (i + 1))))) ms3 (EndK X.K D ms σ H) (ExK X.K W ms σ H) := by
        simp only [Run, hf] at h2 ⊢
        exact h2
      refine ⟨ds[i], ms2, ms3, p3.good, rx, hf, fun σ4 p4 _ => ?_⟩
      have p34 := p3.trans p4
      rw [Run.bind] at h3
      refine ⟨ms3, p4.good, h3.mono (fun fl ms5 h5 => EndK.wh p34 h5 fun σ5 H5 p5 h6 => ⟨ms5, p34.trans p5, kk3.trans (PostS.kept p4.good p5), h6⟩) fun x ms' z => ExK.from p34 z⟩
  · left
    have e : i = ds.length := by omega
    subst e
    refine ⟨(io H2 kk).2, ?_⟩
    rw [List.drop_length] at h2
    exact h2 σ2 H2 p2
end

/-! ### list comprehensions -/
def wipeM (ms : MS) : List Nat → MS
  | [] => ms
  | v :: vs => (wipeM ms vs).set v .unk
/-- the own names' slots as they stood -/
def backM (ms0 ms : MS) : List Nat → MS
  | [] => ms
  | v :: vs => match ms0[v]? with
    | some (.val d) => (backM ms0 ms vs).set v (.val d)
    | _ => backM ms0 ms vs
def noOwn (ms : MS) (vs : List Nat) : Bool := vs.all fun v => match ms[v]? with
  | some (.own _ _) => false
  | _ => true
def compL (own : List Nat) (f : D → MS → Option MS) (t : M Bool) (e : M EV) : List D → List D → M (List D)
  | [], acc => M.pure acc
  | d :: ds, acc => fun ms => match f d ms with
    | none => none
    | some ms1 => (t.bind fun b => if b = true then e.bind (fun ev ms2 => match ev with
        | .val y => compL own f t e ds (acc ++ [y]) (wipeM ms2 own)
        | _ => none) else fun ms2 => compL own f t e ds acc (wipeM ms2 own)) ms1
def mComp (it : M (List D)) (own : List Nat) (f : D → MS → Option MS) (t : M Bool) (e : M EV) : M EV := it.bind fun ds ms =>
  if noOwn ms own = true then (match compL own f t e ds [] (wipeM ms own) with
    | some (.ok acc ms') => some (.ok (.new (.lst acc)) (backM ms ms' own))
    | _ => none) else none
section
variable {K : PySem.W.Frag} {ms ms' : MS} {σ : St} {H H' : Hp}
theorem wipeM_length (ms : MS) : ∀ vs : List Nat, (wipeM ms vs).length = ms.length
  | [] => rfl
  | v :: vs => by unfold wipeM; rw [List.length_set, wipeM_length ms vs]
theorem wipeM_at {i : Nat} {s : SV} : ∀ {vs : List Nat}, (wipeM ms vs)[i]? = some s → s = .unk ∨ (i ∉ vs ∧ ms[i]? = some s)
  | [], h => .inr ⟨by simp, h⟩
  | v :: vs, h => by
    unfold wipeM at h
    by_cases hi : v = i
    · subst hi
      by_cases hv : v < (wipeM ms vs).length
      · rw [List.getElem?_set_self hv] at h; cases h; exact .inl rfl
      · rw [List.getElem?_eq_none (by simpa using hv)] at h; cases h
    · rw [List.getElem?_set_ne hi] at h
      rcases wipeM_at h with z | ⟨z1, z2⟩
      · exact .inl z
      · exact .inr ⟨by simp only [List.mem_cons, not_or]; exact ⟨fun e => hi e.symm, z1⟩, z2⟩
theorem wipe_at {i : Nat} {vs : List Nat} (h : i ∉ vs) : (wipe σ vs)[i]? = σ[i]? := wipe_out h
theorem Good.wipe (g : Good K ms σ H) (vs : List Nat) : Good K (wipeM ms vs) (L2.wipe σ vs) H := by
  refine ⟨by rw [wipeM_length, wipe_length]; exact g.len, fun i d h => ?_, fun i l o h => ?_, fun i j l l' o o' a h1 h2 e1 e2 => ?_⟩
  · rcases wipeM_at h with z | ⟨z1, z2⟩
    · cases z
    · rw [wipe_at z1]; exact g.val i d z2
  · rcases wipeM_at h with z | ⟨z1, z2⟩
    · cases z
    · rw [wipe_at z1]; exact g.own i l o z2
  · rcases wipeM_at h1 with z | ⟨z1, z2⟩
    · cases z
    · rcases wipeM_at h2 with y | ⟨y1, y2⟩
      · cases y
      · rw [wipe_at z1] at e1
        rw [wipe_at y1] at e2
        exact g.inj i j l l' o o' a z2 y2 e1 e2
theorem Ow.wipe {a : Addr} {vs : List Nat} (h : Ow (wipeM ms vs) (L2.wipe σ vs) a) : Ow ms σ a := by
  obtain ⟨i, l, o, h1, h2⟩ := h
  rcases wipeM_at h1 with z | ⟨z1, z2⟩
  · cases z
  · rw [wipe_at z1] at h2
    exact ⟨i, l, o, z2, h2⟩
theorem wipe_off {σ σ' : St} {vs : List Nat} (hl : σ'.length = σ.length) (h : ∀ j, j ∉ vs → σ'[j]? = σ[j]?) : L2.wipe σ' vs = L2.wipe σ vs := by
  apply List.ext_getElem?
  intro i
  by_cases hi : i ∈ vs
  · have : ∀ {τ : St}, τ.length = σ.length → (L2.wipe τ vs)[i]? = if i < σ.length then some none else none := fun {τ} e => by
      have hx : ∀ {ws : List Nat}, i ∈ ws → (L2.wipe τ ws)[i]? = if i < σ.length then some none else none := by
        intro ws
        induction ws with
        | nil => intro z; cases z
        | cons w ws ih =>
          intro z
          rw [L2.wipe]
          by_cases hw : w = i
          · subst hw
            by_cases hlt : w < σ.length
            · rw [List.getElem?_set_self (by rw [wipe_length, e]; exact hlt), if_pos hlt]
            · rw [List.getElem?_eq_none (by rw [List.length_set, wipe_length, e]; exact Nat.le_of_not_lt hlt), if_neg hlt]
          · rw [List.getElem?_set_ne hw]
            rcases List.mem_cons.mp z with y | y
            · exact absurd y.symm hw
            · exact ih y
      exact hx hi
    rw [this hl, this rfl]
  · rw [wipe_at hi, wipe_at hi]
    exact h i hi
theorem backM_length (ms0 : MS) : ∀ vs : List Nat, (backM ms0 ms vs).length = ms.length
  | [] => rfl
  | v :: vs => by
    unfold backM
    split
    · rw [List.length_set, backM_length ms0 vs]
    · exact backM_length ms0 vs
theorem backM_at {ms0 : MS} {i : Nat} {s : SV} : ∀ {vs : List Nat}, (backM ms0 ms vs)[i]? = some s → ms[i]? = some s ∨ (i ∈ vs ∧ ∃ d, s = .val d ∧ ms0[i]? = some s)
  | [], h => .inl h
  | v :: vs, h => by
    unfold backM at h
    split at h
    · rename_i d hd
      by_cases hi : v = i
      · subst hi
        by_cases hv : v < (backM ms0 ms vs).length
        · rw [List.getElem?_set_self hv] at h; cases h
          exact .inr ⟨List.mem_cons_self, d, rfl, hd⟩
        · rw [List.getElem?_eq_none (by simpa using hv)] at h; cases h
      · rw [List.getElem?_set_ne hi] at h
        rcases backM_at h with z | ⟨z1, z2⟩
        · exact .inl z
        · exact .inr ⟨List.mem_cons_of_mem _ z1, z2⟩
    · rcases backM_at h with z | ⟨z1, z2⟩
      · exact .inl z
      · exact .inr ⟨List.mem_cons_of_mem _ z1, z2⟩
/-- what the block leaves, seen from the def: the own names' slots are put back -/
theorem PostE.back {vs : List Nat} {σw : St} (G : Good K ms σ H) (hn : noOwn ms vs = true) (ew : σw = L2.wipe σ vs) (p : PostE K (wipeM ms vs) σw H ms' H') (hw : ∀ (i : Nat) s, i ∈ vs → ms'[i]? = some s → s = .unk) : PostE K ms σ H (backM ms ms' vs) H' := by
  subst ew
  have k := p.kept (G.wipe vs)
  have own_at : ∀ {i : Nat} {l : Bool} {o : OV}, (backM ms ms' vs)[i]? = some (.own l o) → ms'[i]? = some (.own l o) ∧ i ∉ vs := fun {i l o} h => by
    rcases backM_at h with z | ⟨_, d, z, _⟩
    · exact ⟨z, fun y => by have := hw i _ y z; cases this⟩
    · cases z
  refine ⟨⟨?_, fun i d h => ?_, fun i l o h => ?_, fun i j l l' o o' a h1 h2 e1 e2 => ?_⟩, fun b o h n => p.keep b o h fun z => n z.wipe, p.live, fun b z => ?_, fun i o h => ?_⟩
  · rw [backM_length]
    have := p.good.len
    rw [wipe_length] at this
    exact this
  · rcases backM_at h with z | ⟨_, d', z, y⟩
    · have ni : i ∉ vs := fun y => by have := hw i _ y z; cases this
      obtain ⟨v, e, r⟩ := p.good.val i d z
      rw [wipe_at ni] at e
      exact ⟨v, e, r⟩
    · cases z
      obtain ⟨v, e, r⟩ := G.val i d y
      exact ⟨v, e, Rep.mono k _ _ r⟩
  · obtain ⟨z, ni⟩ := own_at h
    obtain ⟨a, e, r⟩ := p.good.own i l o z
    rw [wipe_at ni] at e
    exact ⟨a, e, r⟩
  · obtain ⟨z1, n1⟩ := own_at h1
    obtain ⟨z2, n2⟩ := own_at h2
    exact p.good.inj i j l l' o o' a z1 z2 (by rw [wipe_at n1]; exact e1) (by rw [wipe_at n2]; exact e2)
  · obtain ⟨i, l, o, h1, h2⟩ := z
    obtain ⟨z1, n1⟩ := own_at h1
    exact (p.ow b ⟨i, l, o, z1, by rw [wipe_at n1]; exact h2⟩).wipe
  · have ni : i ∉ vs := fun y => by
      unfold noOwn at hn
      have := List.all_eq_true.mp hn i y
      rw [h] at this
      cases this
    have hwip : (wipeM ms vs)[i]? = some (.own true o) := by
      have : ∀ {ws : List Nat}, i ∉ ws → (wipeM ms ws)[i]? = ms[i]? := by
        intro ws
        induction ws with
        | nil => intro _; rfl
        | cons w ws ih =>
          intro z
          rw [wipeM, List.getElem?_set_ne (fun e => z (by rw [e]; exact List.mem_cons_self))]
          exact ih fun y => z (List.mem_cons_of_mem _ y)
      rw [this ni]; exact h
    obtain ⟨o', h'⟩ := p.lent i o hwip
    refine ⟨o', ?_⟩
    have : ∀ {ws : List Nat}, i ∉ ws → (backM ms ms' ws)[i]? = ms'[i]? := by
      intro ws
      induction ws with
      | nil => intro _; rfl
      | cons w ws ih =>
        intro z
        rw [backM]
        split
        · rw [List.getElem?_set_ne (fun e => z (by rw [e]; exact List.mem_cons_self))]
          exact ih fun y => z (List.mem_cons_of_mem _ y)
        · exact ih fun y => z (List.mem_cons_of_mem _ y)
    rw [this ni]
    exact h'
theorem wipeM_self {vs : List Nat} {i : Nat} {s : SV} (hi : i ∈ vs) (h : (wipeM ms vs)[i]? = some s) : s = .unk := by
  rcases wipeM_at h with z | ⟨z, _⟩
  · exact z
  · exact absurd hi z
theorem wipeM_out {i : Nat} : ∀ {vs : List Nat}, i ∉ vs → (wipeM ms vs)[i]? = ms[i]?
  | [], _ => rfl
  | v :: vs, h => by
    rw [wipeM, List.getElem?_set_ne (fun e => h (by rw [e]; exact List.mem_cons_self))]
    exact wipeM_out fun y => h (List.mem_cons_of_mem _ y)
/-- a turn's end with the block's own names wiped again -/
theorem PostS.wipe {ms1 ms2 : MS} {σ1 : St} {H1 : Hp} {vs : List Nat} (hv : ∀ (i : Nat) s, i ∈ vs → ms[i]? = some s → s = .unk) (p1 : PostS K ms σ H ms1 σ1 H1) (off : OffS vs ms σ ms1 σ1) (p2 : PostE K ms1 σ1 H1 ms2 H') (e : L2.wipe σ1 vs = σ) : PostE K ms σ H (wipeM ms2 vs) H' := by
  have p := p1.trans p2.st
  have g := p.good.wipe vs
  rw [e] at g
  refine ⟨g, p.keep, p.live, fun b z => ?_, fun i o h => ?_⟩
  · obtain ⟨i, l, o, h1, h2⟩ := z
    rcases wipeM_at h1 with x | ⟨x1, x2⟩
    · cases x
    · have h3 : σ1[i]? = some (some (.ref b)) := by rw [(off.1 i x1).1]; exact h2
      obtain ⟨j, l', o', k1, k2⟩ := p2.ow b ⟨i, l, o, x2, h3⟩
      by_cases hj : j ∈ vs
      · exact absurd k1 (off.2.1 j l' o' hj)
      · exact ⟨j, l', o', by rw [← (off.1 j hj).2]; exact k1, by rw [← (off.1 j hj).1]; exact k2⟩
  · have ni : i ∉ vs := fun y => by have := hv i _ y h; cases this
    obtain ⟨⟨o', h'⟩, e'⟩ := p.lent i o h
    exact ⟨o', by rw [wipeM_out ni]; exact h'⟩
end
end Fw
set_option Elab.async false
set_option linter.all false
set_option maxRecDepth 100000
set_option maxHeartbeats 2000000
/-! Fw F: list comprehensions as values and stored. -/
namespace Fw
open PySem L2
section
variable {K : PySem.W.Frag} {ms ms' : MS} {σ : St} {H H' : Hp}
/-- an unowned list that came later is changed -/
theorem PostE.tweak {a : Addr} {u u' : HO} (p : PostE K ms σ H ms' H') (hn : H a = none) (no : ¬ Ow ms' σ a) (hu : H' a = some u) (c : Chg u) : PostE K ms σ H ms' (upd H' a u') ∧ Kept H' (upd H' a u') := by
  have k : Kept H' (upd H' a u') := by
    refine ⟨fun b xs e => ?_, fun b o' u2 e => ?_⟩
    · rw [upd_ne (show b ≠ a from fun z => by subst z; rw [hu] at e; cases e; exact c)]; exact e
    · rw [upd_ne (show b ≠ a from fun z => by subst z; rw [hu] at e; cases e; exact c)]; exact e
  refine ⟨⟨⟨p.good.len, fun i d h => ?_, fun i l o h => ?_, p.good.inj⟩, fun b o h n => ?_, fun b h => ?_, p.ow, p.lent⟩, k⟩
  · obtain ⟨v, e, r⟩ := p.good.val i d h
    exact ⟨v, e, Rep.mono k _ _ r⟩
  · obtain ⟨b, e, r⟩ := p.good.own i l o h
    refine ⟨b, e, r.mono k fun u' hu' => ?_⟩
    rw [upd_ne (show b ≠ a from fun z => no ⟨i, l, o, h, by rw [← z]; exact e⟩)]
    exact hu'
  · have q := p.keep b o h n
    rw [upd_ne (show b ≠ a from fun z => by subst z; rw [hn] at h; cases h)]
    exact q
  · have q := p.live b h
    by_cases z : b = a
    · subst z; rw [upd_same]; exact fun z => nomatch z
    · rw [upd_ne z]; exact q
theorem Reps.snoc {d : D} {x : V} : ∀ {ds : List D} {xs : List V}, Reps K H ds xs → Rep K H d x → Reps K H (ds ++ [d]) (xs ++ [x])
  | [], xs, h, r => by
    rw [Reps] at h
    subst h
    show Reps K H [d] [x]
    rw [Reps]
    exact ⟨x, [], rfl, r, by rw [Reps]⟩
  | e :: ds, xs, h, r => by
    rw [Reps] at h
    obtain ⟨y, ys, rfl, h1, h2⟩ := h
    show Reps K H (e :: (ds ++ [d])) (y :: (ys ++ [x]))
    rw [Reps]
    exact ⟨y, ys ++ [x], rfl, h1, Reps.snoc h2 r⟩
theorem wipe_wipe (σ : St) (vs : List Nat) : L2.wipe (L2.wipe σ vs) vs = L2.wipe σ vs := wipe_off (by rw [wipe_length]) fun j hj => wipe_at hj
end
def W0 : WX := fun _ _ _ _ => False
section
variable {X : Cx} {W : WX} {tg iter elt : Expr} {ifs : List Expr} {scope : Scope} {vs : List Nat} {m : M EV} {t : M Bool} {mi : M (List D)} {f : D → MS → Option MS} {pos : Pos}
theorem comp_core {σ : St} {H : Hp} {Q : VK} (q : tM X.K W (mComp mi vs f t m) σ H Q) : tLc (tMI X.K W mi) (tMG X.K vs f) (tMT X.K W0 t) (tM X.K W0 m) vs σ H Q := by
  obtain ⟨ms, G, h⟩ := q
  unfold mComp at h
  rw [Run.bind] at h
  refine ⟨ms, G, h.mono (fun ds ms1 h1 J H1 p1 io => ?_) fun x ms' z => z⟩
  obtain ⟨hlen, io⟩ := io
  intro D hD
  by_cases hno : noOwn ms1 vs = true
  case neg =>
    simp only [Run, hno] at h1
    exact h1.elim
  cases hcl : compL vs f t m ds [] (wipeM ms1 vs) with
  | none => simp only [Run, if_pos hno, hcl] at h1
  | some r =>
    cases r with
    | exc x ms' => simp only [Run, if_pos hno, hcl] at h1
    | ok accF msF =>
      simp only [Run, if_pos hno, hcl] at h1
      have noD : ¬ Ow ms1 σ D := Ow.live p1.good hD
      have Gw := p1.good.wipe vs
      have st0 := PostE.same Gw (same_new (o := HO.lst []) hD)
      refine ⟨fun i k H' => k = ds.length - i ∧ i ≤ ds.length ∧ ∃ msw acc xs, PostE X.K (wipeM ms1 vs) (L2.wipe σ vs) H1 msw H' ∧ (∀ (j : Nat) s, j ∈ vs → msw[j]? = some s → s = .unk) ∧ Kept H1 H' ∧ H' D = some (.lst xs) ∧ Reps X.K H' acc xs ∧ acc.length ≤ i ∧
        compL vs f t m (ds.drop i) acc msw = some (.ok accF msF), ⟨ds.length, by simp, Nat.zero_le _, wipeM ms1 vs, [], [], st0, fun j s hj e => wipeM_self hj e, .same (same_new hD), upd_same, by rw [Reps], Nat.zero_le _, hcl⟩, ?_⟩
      rintro i k H2 ⟨rfl, hi, msw, acc, xs, pw, hun, kk, eD, ra, hal, hc⟩
      have noDw : ¬ Ow msw (L2.wipe σ vs) D := fun z => noD (pw.ow D z).wipe
      by_cases hlt : i < ds.length
      · right
        have hd : ds[i]? = some ds[i] := List.getElem?_eq_getElem hlt
        obtain ⟨go, yl⟩ := (io H2 kk).1 i _ hd
        refine ⟨go, fun H' => ∃ msw acc xs, PostE X.K (wipeM ms1 vs) (L2.wipe σ vs) H1 msw H' ∧ (∀ (j : Nat) s, j ∈ vs → msw[j]? = some s → s = .unk) ∧ Kept H1 H' ∧ H' D = some (.lst xs) ∧ Reps X.K H' acc xs ∧ acc.length ≤ i + 1 ∧
          compL vs f t m (ds.drop (i + 1)) acc msw = some (.ok accF msF), fun H' z => ⟨ds.length - (i + 1), by omega, rfl, by omega, z⟩, fun x H3 hy => ?_⟩
        obtain ⟨sm, rx⟩ := yl x H3 hy
        have pw3 := pw.trans (PostE.same pw.good sm)
        have kk3 := kk.trans (.same sm)
        have eD3 : H3 D = some (.lst xs) := sm _ _ eD
        have ra3 := Reps.mono (.same sm) _ _ ra
        rw [List.drop_eq_getElem_cons hlt] at hc
        have hr : Run (compL vs f t m (ds[i] :: ds.drop (i + 1)) acc) msw (fun a z => a = accF ∧ z = msF) (fun _ _ => False) := by
          unfold Run; rw [hc]; exact ⟨rfl, rfl⟩
        unfold compL at hr
        cases hf : f ds[i] msw with
        | none => simp only [Run, hf] at hr
        | some ms3 =>
          have h3 : Run (t.bind fun b => if b = true then m.bind (fun ev ms2 => match ev with
              | .val y => compL vs f t m (ds.drop (i + 1)) (acc ++ [y]) (wipeM ms2 vs)
              | _ => none) else fun ms2 => compL vs f t m (ds.drop (i + 1)) acc (wipeM ms2 vs)) ms3 (fun a z => a = accF ∧ z = msF) (fun _ _ => False) := by
            simp only [Run, hf] at hr ⊢
            exact hr
          refine ⟨ds[i], msw, ms3, pw3.good, rx, hf, fun σ2 s2 off => ?_⟩
          have ew : L2.wipe σ2 vs = L2.wipe σ vs := by
            rw [wipe_off (σ := L2.wipe σ vs) (σ' := σ2) (vs := vs) off.2.2 fun j hj => (off.1 j hj).1, wipe_wipe]
          refine ⟨ew, ?_⟩
          refine tMT_bind s2.good h3 (fun x ms' z => z.elim) fun b ms4 h4 H4 p4 => ?_
          have no3 : ¬ Ow ms3 σ2 D := fun z => by
            rcases s2.ow D z with y | y
            · exact noDw y
            · rw [eD3] at y; cases y
          cases b with
          | false =>
            refine iteF ?_
            have h5 : Run (compL vs f t m (ds.drop (i + 1)) acc) (wipeM ms4 vs) (fun a z => a = accF ∧ z = msF) (fun _ _ => False) := h4
            have pt := PostS.wipe hun s2 off p4 (ew.trans rfl)
            refine ⟨wipeM ms4 vs, acc, xs, pw3.trans pt, fun j s hj e => wipeM_self hj e, kk3.trans (p4.kept s2.good), p4.keep D _ eD3 no3, Reps.mono (p4.kept s2.good) _ _ ra3, by omega, ?_⟩
            unfold Run at h5
            cases q : compL vs f t m (ds.drop (i + 1)) acc (wipeM ms4 vs) with
            | none => rw [q] at h5; exact h5.elim
            | some r =>
              rw [q] at h5
              cases r with
              | exc x ms' => exact h5.elim
              | ok a z =>
                obtain ⟨e1, e2⟩ := h5
                rw [e1, e2]
          | true =>
            refine iteT ?_
            have h5 : Run (m.bind (fun ev ms2 => match ev with
              | .val y => compL vs f t m (ds.drop (i + 1)) (acc ++ [y]) (wipeM ms2 vs)
              | _ => none)) ms4 (fun a z => a = accF ∧ z = msF) (fun _ _ => False) := h4
            refine tM_bind p4.good h5 (fun x ms' z => z.elim) fun ev ms5 h6 y H5 p5 o5 => ?_
            cases ev with
            | new o => exact h6.elim
            | bor j => exact h6.elim
            | val yd =>
              have h7 : Run (compL vs f t m (ds.drop (i + 1)) (acc ++ [yd])) (wipeM ms5 vs) (fun a z => a = accF ∧ z = msF) (fun _ _ => False) := h6
              have p45 := p4.trans p5
              have k45 := p45.kept s2.good
              have eD5 : H5 D = some (.lst xs) := p45.keep D _ eD3 no3
              have ra5 := Reps.mono k45 _ _ ra3
              have pt := PostS.wipe hun s2 off p45 (ew.trans rfl)
              have pw5 := pw3.trans pt
              have no5 : ¬ Ow (wipeM ms5 vs) (L2.wipe σ vs) D := fun z => noD (pw5.ow D z).wipe
              obtain ⟨pw6, k6⟩ := pw5.tweak (u' := HO.lst (xs ++ [y])) hD no5 eD5 trivial
              refine ⟨xs, eD5, ?_, wipeM ms5 vs, acc ++ [yd], xs ++ [y], pw6, fun j s hj e => wipeM_self hj e, (kk3.trans k45).trans k6, upd_same, Reps.snoc (Reps.mono k6 _ _ ra5) (Rep.mono k6 _ _ o5), by rw [List.length_append]; exact Nat.add_le_add_right hal 1, ?_⟩
              · have := ra5.length
                omega
              · unfold Run at h7
                cases q : compL vs f t m (ds.drop (i + 1)) (acc ++ [yd]) (wipeM ms5 vs) with
                | none => rw [q] at h7; exact h7.elim
                | some r =>
                  rw [q] at h7
                  cases r with
                  | exc x ms' => exact h7.elim
                  | ok a z =>
                    obtain ⟨e1, e2⟩ := h7
                    rw [e1, e2]
      · left
        have e : i = ds.length := by omega
        subst e
        refine ⟨(io H2 kk).2, ?_⟩
        rw [List.drop_length] at hc
        unfold compL at hc
        have hc' : acc = accF ∧ msw = msF := by
          have z : (some (Res.ok acc msw) : Option (Res (List Fw.D))) = some (.ok accF msF) := hc
          cases z; exact ⟨rfl, rfl⟩
        obtain ⟨rfl, rfl⟩ := hc'
        have pb := PostE.back p1.good hno rfl pw hun
        have nb : ¬ Ow (backM ms1 msw vs) σ D := fun z => noD (pb.ow D z)
        refine h1 _ _ (p1.trans pb) ⟨D, rfl, ?_, ⟨xs, eD, ra⟩, nb⟩
        cases q : H D with
        | none => rfl
        | some u => exact absurd hD (p1.live D (by rw [q]; exact fun z => nomatch z))
end
end Fw
set_option Elab.async false
set_option linter.all false
set_option maxRecDepth 100000
set_option maxHeartbeats 2000000
/-! Fw G: comprehensions' rules, own defs: what they promise, calls, bodies. -/
namespace Fw
open PySem L2
section
variable {X : Cx} {W : WX} {tg iter elt : Expr} {ifs : List Expr} {scope : Scope} {own : List (Str × Nat)} {m me : M EV} {t : M Bool} {mi : M (List D)} {f : D → MS → Option MS} {pos : Pos}
/-- in a comprehension's block, wherever it runs -/
def InBlk (X : Cx) (scope : Scope) (P : Cx → Prop) : Prop := ∀ (s : Shared) (H : Hp) (C : Addr) (cl : List (Str × Addr)) (fp : List Addr), P (X.blk s H scope (compEnvC scope cl C X.env) fp)
theorem pts0 : PTs X [] (tMT X.K W (M.pure true)) := by
  obtain ⟨r⟩ := pts_nil (X := X)
  exact ⟨fun pins s σ H Q I q => r pins s σ H Q I (by
    obtain ⟨ms, G, h⟩ := q
    exact h H (.refl G))⟩
theorem pts1 {c : Expr} (h : MT X W c t) : PTs X [c] (tMT X.K W t) := pts_one h
theorem me_comp (hc : X.calm = true) (hN : X.N.Nodup) (hi : MI X W tg iter mi) (ok : BlkOk X.N X.env.scope scope own) (hg : InBlk X scope fun Y => MGf Y tg (own.map (·.2)) f) (ht : InBlk X scope fun Y => PTs Y ifs (tMT Y.K W0 t)) (he : InBlk X scope fun Y => ME Y W0 elt m)
    (hs : ∀ x, foldedSetIterable iter X.env x = pure x) : ME X W (.ListComp elt [⟨tg, iter, ifs, 0⟩] scope pos) (mComp mi (own.map (·.2)) f t m) :=
  PE.imp (pe_lc (g := tMG X.K (own.map (·.2)) f) (tt := tMT X.K W0 t) (te := tM X.K W0 m) hc hN hi ok (fun s H C cl fp => hg s H C cl fp) (fun s H C cl fp => ht s H C cl fp) (fun s H C cl fp => he s H C cl fp) hs) fun σ H Q q => comp_core q
/-- the value is new: nothing is frozen -/
def sAsgN (i : Nat) (m : M EV) : MSt := m.bind fun ev => stE i ev
theorem asgN_core {i : Nat} {D : Ends} {σ : St} {H : Hp} {ms : MS} (G : Good X.K ms σ H) (h : Run (sAsgN i me) ms (EndK X.K D ms σ H) (ExK X.K W ms σ H)) :
    tM X.K W me σ H (fun x H1 => gName i x σ H1 D.nx) := by
  refine tM_bind G h (fun x ms' z => ExK.e z) fun ev ms1 h1 v H1 p1 o1 => ?_
  cases ev with
  | bor j => exact h1.elim
  | val d =>
    cases hs : setS i (.val d) ms1 with
    | none => simp only [Run, stE, hs] at h1
    | some ms2 =>
      simp only [Run, stE, hs] at h1
      exact h1 _ _ (p1.st.trans (PostS.setVal p1.good hs o1))
  | new o =>
    cases hs : setS i (.own false o) ms1 with
    | none => simp only [Run, stE, hs] at h1
    | some ms2 =>
      simp only [Run, stE, hs] at h1
      obtain ⟨a, rfl, hn, oat, no⟩ := o1
      obtain ⟨g2, w2, l2⟩ := PostS.setOwn (H0 := H) p1.good hs oat no
      refine h1 _ _ ⟨g2, p1.keep, p1.live, fun b z => ?_, fun j o' hj => ?_⟩
      · rcases w2 b z with z | z
        · exact .inl (p1.ow b z)
        · subst z; exact .inr hn
      · obtain ⟨o2, h2⟩ := p1.lent j o' hj
        exact l2 j o2 h2
theorem ms_asgC {i : Nat} {y : Str} {py : Pos} {spos : Pos} (hc : X.calm = true) (hN : X.N.Nodup) (hy : X.N[i]? = some y) (hyl : X.env.scope.names.lookup y = some .local) (hsw : swapsWith (.ListComp elt [⟨tg, iter, ifs, 0⟩] scope pos) (some (.Name y py)) spos.line X.env = pure true)
    (hi : MI X W tg iter mi) (ok : BlkOk X.N X.env.scope scope own) (hg : InBlk X scope fun Y => MGf Y tg (own.map (·.2)) f) (ht : InBlk X scope fun Y => PTs Y ifs (tMT Y.K W0 t)) (he : InBlk X scope fun Y => ME Y W0 elt m)
    (hs : ∀ x, foldedSetIterable iter X.env x = pure x) : MS1 X W (.Assign [.Name y py] (.ListComp elt [⟨tg, iter, ifs, 0⟩] scope pos) spos) (sAsgN i (mComp mi (own.map (·.2)) f t m)) :=
  PS.imp (ps_setLc (g := tMG X.K (own.map (·.2)) f) (tt := tMT X.K W0 t) (te := tM X.K W0 m) hc hN hy hyl hsw hi ok (fun s H C cl fp => hg s H C cl fp) (fun s H C cl fp => ht s H C cl fp) (fun s H C cl fp => he s H C cl fp) hs) fun D σ H q => by
    rw [tMS_eq] at q
    obtain ⟨ms, G, h⟩ := q
    exact comp_core (asgN_core G h)
end

/-! ### own defs -/
def spM (K : PySem.W.Frag) (n : Nat) (fm : M EV) : Sp := fun vs H Q E => vs.length = n ∧ tM K (fun c d _ H' => E c d H') fm (vs.map some) H Q
/-- the def that the module's name g holds keeps the promise fm -/
def FnGood (P : Program) (w : World) (K : PySem.W.Frag) (mg : Str → Option Value) (base : Heap) (g : Str) (n k : Nat) (fm : M EV) : Prop :=
  ∃ (f : Addr) (fd : FuncData) (ps : List Str), mg g = some (.ref f) ∧ PySem.W.keepIn K (.ref f) = true ∧ Binds K fd ps [] ∧ ps.length = n ∧ FnOk P w K mg base (L2.CX P w) k f fd ps (spM K n fm)
/-- what stands at the arguments; sig: which are lent -/
def bindA (ms : MS) : List Bool → List EV → Option (List SV)
  | [], [] => some []
  | false :: s, .val d :: es => (bindA ms s es).map (.val d :: ·)
  | true :: s, .val d :: es => (bindA ms s es).map (.val d :: ·)
  | true :: s, .bor i :: es => match ms[i]? with
    | some (.own _ o) => (bindA ms s es).map (.own true o :: ·)
    | _ => none
  | _, _ => none
def bors : List EV → List Nat
  | [] => []
  | .bor i :: es => i :: bors es
  | _ :: es => bors es
def relent : Option SV → SV → SV
  | some (.own l _), .own _ o => .own l o
  | _, _ => .unk
def backA : List EV → List SV → MS → MS
  | .bor i :: es, s :: outs, ms => backA es outs (ms.set i (relent ms[i]? s))
  | _ :: es, _ :: outs, ms => backA es outs ms
  | _, _, ms => ms
def mCallF (sig : List Bool) (fm : M EV) (mas : M (List EV)) : M EV := mas.bind fun es ms =>
  if (bors es).Nodup then (match bindA ms sig es with
    | some args => (match fm args with
      | some (.ok (.val d) outs) => some (.ok (.val d) (backA es outs ms))
      | some (.ok (.new o) outs) => some (.ok (.new o) (backA es outs ms))
      | some (.exc x outs) => some (.exc x (backA es outs ms))
      | _ => none)
    | none => none) else none
section
variable {K : PySem.W.Frag} {ms : MS} {σ : St} {H H' : Hp}
theorem bindA_at {ms : MS} : ∀ {sig : List Bool} {es : List EV} {args : List SV} {k : Nat} {s : SV}, bindA ms sig es = some args → args[k]? = some s →
    (∃ d, es[k]? = some (.val d) ∧ s = .val d) ∨ ∃ (i : Nat) (l : Bool) (o : OV), es[k]? = some (.bor i) ∧ ms[i]? = some (.own l o) ∧ s = .own true o
  | [], [], _, _, _, h, e => by cases h; simp at e
  | [], _ :: _, _, _, _, h, _ => by cases h
  | false :: sig, [], _, _, _, h, _ => by cases h
  | true :: sig, [], _, _, _, h, _ => by cases h
  | false :: sig, .new o :: es, _, _, _, h, _ => by cases h
  | false :: sig, .bor i :: es, _, _, _, h, _ => by cases h
  | true :: sig, .new o :: es, _, _, _, h, _ => by cases h
  | false :: sig, .val d :: es, args, k, s, h, e => by
    unfold bindA at h
    obtain ⟨r, h1, h2⟩ := Option.map_eq_some_iff.mp h
    subst h2
    cases k with
    | zero => simp at e; exact .inl ⟨d, rfl, e.symm⟩
    | succ k =>
      rcases bindA_at (k := k) h1 (by simpa using e) with ⟨d', z⟩ | ⟨i, l, o, z⟩
      · exact .inl ⟨d', by simpa using z.1, z.2⟩
      · exact .inr ⟨i, l, o, by simpa using z.1, z.2⟩
  | true :: sig, .val d :: es, args, k, s, h, e => by
    unfold bindA at h
    obtain ⟨r, h1, h2⟩ := Option.map_eq_some_iff.mp h
    subst h2
    cases k with
    | zero => simp at e; exact .inl ⟨d, rfl, e.symm⟩
    | succ k =>
      rcases bindA_at (k := k) h1 (by simpa using e) with ⟨d', z⟩ | ⟨i, l, o, z⟩
      · exact .inl ⟨d', by simpa using z.1, z.2⟩
      · exact .inr ⟨i, l, o, by simpa using z.1, z.2⟩
  | true :: sig, .bor i :: es, args, k, s, h, e => by
    unfold bindA at h
    cases hi : ms[i]? with
    | none => rw [hi] at h; cases h
    | some sv =>
      rw [hi] at h
      cases sv with
      | unk => cases h
      | val d => cases h
      | own l o =>
        obtain ⟨r, h1, h2⟩ := Option.map_eq_some_iff.mp h
        subst h2
        cases k with
        | zero => simp at e; exact .inr ⟨i, l, o, rfl, hi, e.symm⟩
        | succ k =>
          rcases bindA_at (k := k) h1 (by simpa using e) with ⟨d', z⟩ | ⟨i', l', o', z⟩
          · exact .inl ⟨d', by simpa using z.1, z.2⟩
          · exact .inr ⟨i', l', o', by simpa using z.1, z.2⟩
theorem bindA_len {ms : MS} : ∀ {sig : List Bool} {es : List EV} {args : List SV}, bindA ms sig es = some args → args.length = es.length
  | [], [], _, h => by cases h; rfl
  | [], _ :: _, _, h => by cases h
  | false :: sig, [], _, h => by cases h
  | true :: sig, [], _, h => by cases h
  | false :: sig, .new o :: es, _, h => by cases h
  | false :: sig, .bor i :: es, _, h => by cases h
  | true :: sig, .new o :: es, _, h => by cases h
  | false :: sig, .val d :: es, args, h => by
    unfold bindA at h
    obtain ⟨r, h1, h2⟩ := Option.map_eq_some_iff.mp h
    subst h2
    simp [bindA_len h1]
  | true :: sig, .val d :: es, args, h => by
    unfold bindA at h
    obtain ⟨r, h1, h2⟩ := Option.map_eq_some_iff.mp h
    subst h2
    simp [bindA_len h1]
  | true :: sig, .bor i :: es, args, h => by
    unfold bindA at h
    cases hi : ms[i]? with
    | none => rw [hi] at h; cases h
    | some sv =>
      rw [hi] at h
      cases sv with
      | unk => cases h
      | val d => cases h
      | own l o =>
        obtain ⟨r, h1, h2⟩ := Option.map_eq_some_iff.mp h
        subst h2
        simp [bindA_len h1]
theorem bors_at : ∀ {es : List EV} {k i : Nat}, es[k]? = some (.bor i) → i ∈ bors es
  | [], _, _, h => by simp at h
  | e :: es, 0, i, h => by
    simp at h; subst h
    exact List.mem_cons_self
  | e :: es, k + 1, i, h => by
    have q := bors_at (es := es) (k := k) (i := i) (by simpa using h)
    cases e with
    | val d => exact q
    | new o => exact q
    | bor j => exact List.mem_cons_of_mem _ q
theorem bors_inj : ∀ {es : List EV} {k k' i : Nat}, (bors es).Nodup → es[k]? = some (.bor i) → es[k']? = some (.bor i) → k = k'
  | [], _, _, _, _, h, _ => by simp at h
  | e :: es, 0, 0, i, _, _, _ => rfl
  | e :: es, 0, k' + 1, i, nd, h, h' => by
    simp at h; subst h
    have q := bors_at (es := es) (k := k') (i := i) (by simpa using h')
    exact absurd q (List.nodup_cons.mp nd).1
  | e :: es, k + 1, 0, i, nd, h, h' => by
    simp at h'; subst h'
    have q := bors_at (es := es) (k := k) (i := i) (by simpa using h)
    exact absurd q (List.nodup_cons.mp nd).1
  | e :: es, k + 1, k' + 1, i, nd, h, h' => by
    have nd' : (bors es).Nodup := by
      cases e with
      | val d => exact nd
      | new o => exact nd
      | bor j => exact (List.nodup_cons.mp nd).2
    rw [bors_inj (es := es) (k := k) (k' := k') nd' (by simpa using h) (by simpa using h')]
theorem backA_len : ∀ {es : List EV} {outs : List SV} {ms : MS}, (backA es outs ms).length = ms.length
  | [], _, _ => by simp [backA]
  | .bor i :: es, [], _ => by simp [backA]
  | .val d :: es, [], _ => by simp [backA]
  | .new d :: es, [], _ => by simp [backA]
  | .bor i :: es, s :: outs, ms => by
    unfold backA
    rw [backA_len, List.length_set]
  | .val d :: es, s :: outs, ms => by
    unfold backA
    exact backA_len
  | .new d :: es, s :: outs, ms => by
    unfold backA
    exact backA_len
theorem backA_out {i : Nat} : ∀ {es : List EV} {outs : List SV} {ms : MS}, i ∉ bors es → (backA es outs ms)[i]? = ms[i]?
  | [], _, _, _ => by simp [backA]
  | .bor j :: es, [], _, _ => by simp [backA]
  | .val d :: es, [], _, _ => by simp [backA]
  | .new d :: es, [], _, _ => by simp [backA]
  | .bor j :: es, s :: outs, ms, h => by
    unfold backA
    have h' : i ≠ j ∧ i ∉ bors es := by simpa [bors] using h
    rw [backA_out h'.2, List.getElem?_set_ne (Ne.symm h'.1)]
  | .val d :: es, s :: outs, ms, h => by
    unfold backA
    exact backA_out h
  | .new d :: es, s :: outs, ms, h => by
    unfold backA
    exact backA_out h
theorem backA_in {i : Nat} : ∀ {es : List EV} {outs : List SV} {ms : MS} {k : Nat} {s : SV}, (bors es).Nodup → i < ms.length → es[k]? = some (.bor i) → outs[k]? = some s → (backA es outs ms)[i]? = some (relent ms[i]? s)
  | [], _, _, _, _, _, _, h, _ => by simp at h
  | _ :: _, [], _, _, _, _, _, _, h => by simp at h
  | .bor j :: es, s' :: outs, ms, 0, s, nd, hl, h, h' => by
    simp at h h'; subst h h'
    unfold backA
    rw [backA_out (List.nodup_cons.mp nd).1, List.getElem?_set_self hl]
  | .val d :: es, s' :: outs, ms, 0, s, nd, hl, h, h' => by simp at h
  | .new d :: es, s' :: outs, ms, 0, s, nd, hl, h, h' => by simp at h
  | .bor j :: es, s' :: outs, ms, k + 1, s, nd, hl, h, h' => by
    unfold backA
    have h1 : es[k]? = some (.bor i) := by simpa using h
    have ne : j ≠ i := fun z => by subst z; exact (List.nodup_cons.mp nd).1 (bors_at h1)
    rw [backA_in (k := k) (List.nodup_cons.mp nd).2 (by rw [List.length_set]; exact hl) h1 (by simpa using h'), List.getElem?_set_ne ne]
  | .val d :: es, s' :: outs, ms, k + 1, s, nd, hl, h, h' => by
    unfold backA
    exact backA_in (k := k) nd hl (by simpa using h) (by simpa using h')
  | .new d :: es, s' :: outs, ms, k + 1, s, nd, hl, h, h' => by
    unfold backA
    exact backA_in (k := k) nd hl (by simpa using h) (by simpa using h')
/-- the arguments stand well -/
theorem good_args {sig : List Bool} {es : List EV} {args : List SV} {vs : List V} {H0 : Hp} (G : Good K ms σ H) (o : EVsOk K ms σ H0 H vs es) (nd : (bors es).Nodup) (hb : bindA ms sig es = some args) : Good K args (vs.map some) H := by
  have at_v : ∀ {k : Nat} {e : EV}, es[k]? = some e → ∃ v, vs[k]? = some v ∧ EVOk K ms σ H0 H v e := fun {k e} h => by
    have : ∀ {vs : List V} {es : List EV} {k : Nat}, EVsOk K ms σ H0 H vs es → es[k]? = some e → ∃ v, vs[k]? = some v ∧ EVOk K ms σ H0 H v e := by
      intro vs es k o
      induction o generalizing k with
      | nil => intro h; simp at h
      | cons r t ih =>
        intro h
        cases k with
        | zero => simp at h; subst h; exact ⟨_, rfl, r⟩
        | succ k => obtain ⟨v, e1, e2⟩ := ih (k := k) (by simpa using h); exact ⟨v, by simpa using e1, e2⟩
    exact this o h
  refine ⟨by rw [List.length_map, bindA_len hb]; exact (Paired.length o).symm, fun k d h => ?_, fun k l o' h => ?_, fun k k' l l' o1 o2 a h1 h2 e1 e2 => ?_⟩
  · rcases bindA_at hb h with ⟨d', he, z⟩ | ⟨i, l, o', he, hi, z⟩
    · cases z
      obtain ⟨v, hv, r⟩ := at_v he
      exact ⟨v, by rw [List.getElem?_map, hv]; rfl, r⟩
    · cases z
  · rcases bindA_at hb h with ⟨d', he, z⟩ | ⟨i, l2, o2, he, hi, z⟩
    · cases z
    · cases z
      obtain ⟨v, hv, r⟩ := at_v he
      have r : σ[i]? = some (some v) := r
      obtain ⟨a, ea, oa⟩ := G.own i l2 o' hi
      rw [r] at ea; cases ea
      exact ⟨a, by rw [List.getElem?_map, hv]; rfl, oa⟩
  · rcases bindA_at hb h1 with ⟨d', he, z⟩ | ⟨i, m1, p1, he, hi, z⟩
    · cases z
    · rcases bindA_at hb h2 with ⟨d', he', z'⟩ | ⟨i', m2, p2, he', hi', z'⟩
      · cases z'
      · obtain ⟨v, hv, r⟩ := at_v he
        obtain ⟨v', hv', r'⟩ := at_v he'
        have r : σ[i]? = some (some v) := r
        have r' : σ[i']? = some (some v') := r'
        rw [List.getElem?_map, hv] at e1
        rw [List.getElem?_map, hv'] at e2
        cases e1; cases e2
        have := G.inj i i' m1 m2 p1 p2 a hi hi' r r'
        subst this
        exact bors_inj nd he he'
/-- what a callee owns is lent by the caller -/
theorem ow_args {sig : List Bool} {es : List EV} {args : List SV} {vs : List V} {H0 : Hp} {b : Addr} (o : EVsOk K ms σ H0 H vs es) (hb : bindA ms sig es = some args) (z : Ow args (vs.map some) b) : ∃ (k i : Nat) (l : Bool) (o' : OV), es[k]? = some (.bor i) ∧ ms[i]? = some (.own l o') ∧ σ[i]? = some (some (.ref b)) ∧ vs[k]? = some (.ref b) := by
  obtain ⟨k, l, o1, h1, h2⟩ := z
  rcases bindA_at hb h1 with ⟨d', he, z⟩ | ⟨i, m1, p1, he, hi, z⟩
  · cases z
  · rw [List.getElem?_map] at h2
    have : ∀ {vs : List V} {es : List EV} {k : Nat}, EVsOk K ms σ H0 H vs es → es[k]? = some (.bor i) → ∃ v, vs[k]? = some v ∧ σ[i]? = some (some v) := by
      intro vs es k o
      induction o generalizing k with
      | nil => intro h; simp at h
      | cons r t ih =>
        intro h
        cases k with
        | zero => simp at h; subst h; exact ⟨_, rfl, r⟩
        | succ k => obtain ⟨v, e1, e2⟩ := ih (k := k) (by simpa using h); exact ⟨v, by simpa using e1, e2⟩
    obtain ⟨v, hv, r⟩ := this o he
    rw [hv] at h2
    have h2 : some (some v) = some (some (V.ref b)) := h2
    cases h2
    exact ⟨k, i, m1, p1, he, hi, r, hv⟩
/-- behind the call -/
theorem post_call {sig : List Bool} {es : List EV} {args outs : List SV} {vs : List V} {H0 : Hp} (G : Good K ms σ H) (o : EVsOk K ms σ H0 H vs es) (nd : (bors es).Nodup) (hb : bindA ms sig es = some args) (p : PostE K args (vs.map some) H outs H') : PostE K ms σ H (backA es outs ms) H' := by
  have Ga := good_args G o nd hb
  have kk := p.kept Ga
  have owA : ∀ {b}, Ow args (vs.map some) b → Ow ms σ b := fun {b} z => by
    obtain ⟨k, i, l, o', _, h1, h2, _⟩ := ow_args o hb z
    exact ⟨i, l, o', h1, h2⟩
  -- each slot behind the call
  have slot : ∀ {i : Nat} {s : SV}, (backA es outs ms)[i]? = some s → (i ∉ bors es ∧ ms[i]? = some s) ∨ ∃ (k : Nat) (l : Bool) (o1 o2 : OV) (v : V), es[k]? = some (.bor i) ∧ ms[i]? = some (.own l o1) ∧ args[k]? = some (.own true o1) ∧ outs[k]? = some (.own true o2) ∧ s = .own l o2 ∧ vs[k]? = some v ∧ σ[i]? = some (some v) := fun {i s} h => by
    by_cases hi : i ∈ bors es
    · right
      obtain ⟨k, hk⟩ : ∃ k : Nat, es[k]? = some (.bor i) := by
        have : ∀ {es : List EV}, i ∈ bors es → ∃ k : Nat, es[k]? = some (.bor i) := by
          intro es
          induction es with
          | nil => intro h; cases h
          | cons e es ih =>
            intro h
            cases e with
            | val d => obtain ⟨k, hk⟩ := ih h; exact ⟨k + 1, by simpa using hk⟩
            | new d => obtain ⟨k, hk⟩ := ih h; exact ⟨k + 1, by simpa using hk⟩
            | bor j =>
              rcases List.mem_cons.mp h with z | z
              · exact ⟨0, by rw [z]; rfl⟩
              · obtain ⟨k, hk⟩ := ih z; exact ⟨k + 1, by simpa using hk⟩
        exact this hi
      have hkl : k < args.length := by rw [bindA_len hb]; exact (List.getElem?_eq_some_iff.mp hk).1
      have hak : args[k]? = some args[k] := List.getElem?_eq_getElem hkl
      rcases bindA_at hb hak with ⟨d', he, z⟩ | ⟨i', l, o1, he, hm, z⟩
      · rw [hk] at he; cases he
      · rw [hk] at he; cases he
        rw [z] at hak
        obtain ⟨o2, ho2⟩ := p.lent k o1 hak
        have hil : i < ms.length := (List.getElem?_eq_some_iff.mp hm).1
        rw [backA_in nd hil hk ho2, hm] at h
        obtain ⟨v, hv, r⟩ : ∃ v, vs[k]? = some v ∧ σ[i]? = some (some v) := by
          have : ∀ {vs : List V} {es : List EV} {k : Nat}, EVsOk K ms σ H0 H vs es → es[k]? = some (.bor i) → ∃ v, vs[k]? = some v ∧ σ[i]? = some (some v) := by
            intro vs es k o
            induction o generalizing k with
            | nil => intro h; simp at h
            | cons r t ih =>
              intro h
              cases k with
              | zero => simp at h; subst h; exact ⟨_, rfl, r⟩
              | succ k => obtain ⟨v, e1, e2⟩ := ih (k := k) (by simpa using h); exact ⟨v, by simpa using e1, e2⟩
          exact this o hk
        exact ⟨k, l, o1, o2, v, hk, hm, hak, ho2, (Option.some.inj h).symm, hv, r⟩
    · left
      rw [backA_out hi] at h
      exact ⟨hi, h⟩
  have ownslot : ∀ {i : Nat} {l : Bool} {o2 : OV}, (backA es outs ms)[i]? = some (.own l o2) → ∃ o1, ms[i]? = some (.own l o1) := fun {i l o2} h => by
    rcases slot h with ⟨_, z⟩ | ⟨k, l', o1, o3, v, _, z, _, _, e, _⟩
    · exact ⟨o2, z⟩
    · cases e; exact ⟨o1, z⟩
  refine ⟨⟨by rw [backA_len]; exact G.len, fun i d h => ?_, fun i l o2 h => ?_, fun i j l l' o1 o2 a h1 h2 => ?_⟩, fun b o' h n => p.keep b o' h fun z => n (owA z), p.live, fun b z => ?_, fun i o' h => ?_⟩
  · rcases slot h with ⟨_, z⟩ | ⟨k, l', o1, o3, v, _, _, _, _, e, _⟩
    · obtain ⟨v, e, r⟩ := G.val i d z
      exact ⟨v, e, Rep.mono kk _ _ r⟩
    · cases e
  · rcases slot h with ⟨ni, z⟩ | ⟨k, l', o1, o3, v, hk, hm, hak, ho, e, hv, hσ⟩
    · obtain ⟨a, e, r⟩ := G.own i l o2 z
      refine ⟨a, e, r.mono kk fun u hu => p.keep a u hu fun y => ?_⟩
      obtain ⟨k, i', l', o', hk, h1, h2, _⟩ := ow_args o hb y
      have := G.inj i i' l l' o2 o' a z h1 e h2
      subst this
      exact ni (bors_at hk)
    · cases e
      obtain ⟨a, ea, oa⟩ := p.good.own k true o2 ho
      rw [List.getElem?_map, hv] at ea
      have ea : some (some v) = some (some (V.ref a)) := ea
      cases ea
      exact ⟨a, hσ, oa⟩
  · obtain ⟨p1, q1⟩ := ownslot h1
    obtain ⟨p2, q2⟩ := ownslot h2
    exact G.inj i j l l' p1 p2 a q1 q2
  · obtain ⟨i, l, o1, h1, h2⟩ := z
    obtain ⟨p1, q1⟩ := ownslot h1
    exact ⟨i, l, p1, q1, h2⟩
  · by_cases hi : i ∈ bors es
    · have hil : i < (backA es outs ms).length := by rw [backA_len]; exact (List.getElem?_eq_some_iff.mp h).1
      have hs : (backA es outs ms)[i]? = some (backA es outs ms)[i] := List.getElem?_eq_getElem hil
      rcases slot hs with ⟨ni, _⟩ | ⟨k, l', o1, o3, v, hk, hm, hak, ho, e, hv, hσ⟩
      · exact absurd hi ni
      · rw [h] at hm; cases hm
        rw [e] at hs
        exact ⟨o3, hs⟩
    · exact ⟨o', by rw [backA_out hi]; exact h⟩
end
section
variable {X : Cx} {W : WX} {e : Expr} {es : List Expr} {mas : M (List EV)} {x : Str} {p pos : Pos} {n k j : Nat} {fm : M EV} {sig : List Bool}
theorem call_core {σ : St} {H : Hp} {Q : VK} (hn : ∀ evs args ms, bindA ms sig evs = some args → args.length = n) (q : tM X.K W (mCallF sig fm mas) σ H Q) : tCallS (spM X.K n fm) (WE W) (tMA X.K W mas) σ H Q := by
  obtain ⟨ms, G, h⟩ := q
  refine tMA_bind G h (fun x ms' z => z) fun evs ms1 h1 vs H1 p1 o1 => ?_
  by_cases nd : (bors evs).Nodup
  case neg => simp only [Run, if_neg nd] at h1
  cases hb : bindA ms1 sig evs with
  | none => simp only [Run, if_pos nd, hb] at h1
  | some args =>
    have Ga := good_args p1.good o1 nd hb
    refine ⟨by have := hn _ _ _ hb; have h2 := Ga.len; rw [List.length_map] at h2; omega, args, Ga, ?_⟩
    have pc : ∀ {outs : List SV} {H' : Hp}, PostE X.K args (vs.map some) H1 outs H' → PostE X.K ms σ H (backA evs outs ms1) H' := fun q => p1.trans (post_call p1.good o1 nd hb q)
    unfold Run at h1 ⊢
    simp only [if_pos nd, hb] at h1
    cases hf : fm args with
    | none => simp only [hf] at h1
    | some r =>
      cases r with
      | exc ex outs =>
        simp only [hf] at h1
        exact fun cls d H' q z => h1 cls d H' (pc q) z
      | ok ev outs =>
        cases ev with
        | bor i => simp only [hf] at h1
        | val d =>
          simp only [hf] at h1
          exact fun v H' q z => h1 v H' (pc q) z
        | new o =>
          simp only [hf] at h1
          intro v H' q z
          obtain ⟨a, rfl, hn', oat, no⟩ := z
          have pp := post_call p1.good o1 nd hb q
          refine h1 _ H' (pc q) ⟨a, rfl, ?_, oat, fun y => ?_⟩
          · cases qq : H a with
            | none => rfl
            | some u => exact absurd hn' (p1.live a (by rw [qq]; exact fun z => nomatch z))
          · exact Ow.live p1.good hn' (pp.ow a y)
theorem sig_len {ms : MS} : ∀ {sig : List Bool} {evs : List EV} {args : List SV}, bindA ms sig evs = some args → args.length = sig.length
  | [], [], _, h => by cases h; rfl
  | [], _ :: _, _, h => by cases h
  | false :: sig, [], _, h => by cases h
  | true :: sig, [], _, h => by cases h
  | false :: sig, .new o :: es, _, h => by cases h
  | false :: sig, .bor i :: es, _, h => by cases h
  | true :: sig, .new o :: es, _, h => by cases h
  | false :: sig, .val d :: es, args, h => by
    unfold bindA at h
    obtain ⟨r, h1, h2⟩ := Option.map_eq_some_iff.mp h
    subst h2
    simp [sig_len h1]
  | true :: sig, .val d :: es, args, h => by
    unfold bindA at h
    obtain ⟨r, h1, h2⟩ := Option.map_eq_some_iff.mp h
    subst h2
    simp [sig_len h1]
  | true :: sig, .bor i :: es, args, h => by
    unfold bindA at h
    cases hi : ms[i]? with
    | none => rw [hi] at h; cases h
    | some sv =>
      rw [hi] at h
      cases sv with
      | unk => cases h
      | val d => cases h
      | own l o =>
        obtain ⟨r, h1, h2⟩ := Option.map_eq_some_iff.mp h
        subst h2
        simp [sig_len h1]
theorem me_call (F : FnGood X.prog X.w X.K X.mg X.base x sig.length k fm) (hr : Room j X.A) (hk : k ≤ j) (hg : Gl X x) (tk : Takes X W) (ha : MA X W (e :: es) mas) (hdb : (x == ("__debug__" : Str)) = false)
    (he : starEach (e :: es) X.env = (false, eval e X.env) :: starEach es X.env) (hpl : (backTo pos (starEach es X.env)).any (·.1) = false) : ME X W (.Call (.Name x p) (e :: es) [] pos) (mCallF sig fm mas) := by
  obtain ⟨f, fd, ps, hm, kp, hb, hl, ok⟩ := F
  exact PE.imp (pe_callS ok (hr.mono hk) hg hm kp hb (fun σ => passAt tk σ) ha hdb he hpl) fun σ H Q q => call_core (fun _ _ _ h => sig_len h) q
end

/-! ### a def by its body -/
def retE (ms : MS) : EV → Option EV
  | .val d => some (.val d)
  | .new o => some (.new o)
  | .bor i => match ms[i]? with
    | some (.own false o) => some (.new o)
    | some (.val d) => some (.val d)
    | _ => none
def outS : List SV → MS → List SV
  | .own true _ :: as, .own true o :: ms => .own true o :: outS as ms
  | _ :: as, _ :: ms => .unk :: outS as ms
  | _ :: as, [] => .unk :: outS as []
  | [], _ => []
def allLent (args : List SV) : Bool := args.all fun s => match s with
  | .own false _ => false
  | _ => true
def fmOf (n : Nat) (b : MSt) : M EV := fun args => if allLent args = true then (match b (args ++ List.replicate (n - args.length) .unk) with
  | some (.ok (.rt ev) ms') => (match retE ms' ev with
    | some r => some (.ok r (outS args ms'))
    | none => none)
  | some (.ok .nx ms') => some (.ok (.val .non) (outS args ms'))
  | some (.exc x ms') => some (.exc x (outS args ms'))
  | _ => none) else none
theorem outS_len : ∀ {as : List SV} {ms : MS}, (outS as ms).length = as.length
  | [], _ => by simp [outS]
  | a :: as, [] => by
    cases a with
    | unk => simp [outS, outS_len]
    | val d => simp [outS, outS_len]
    | own l o => cases l <;> simp [outS, outS_len]
  | a :: as, s :: ms => by
    cases a with
    | unk => simp [outS, outS_len]
    | val d => simp [outS, outS_len]
    | own l o =>
      cases l with
      | false => simp [outS, outS_len]
      | true =>
        cases s with
        | unk => simp [outS, outS_len]
        | val d => simp [outS, outS_len]
        | own l' o' => cases l' <;> simp [outS, outS_len]
theorem outS_at : ∀ {as : List SV} {ms : MS} {i : Nat} {s : SV}, (outS as ms)[i]? = some s → s = .unk ∨ ∃ o o', s = .own true o' ∧ as[i]? = some (.own true o) ∧ ms[i]? = some (.own true o')
  | [], _, _, _, h => by simp [outS] at h
  | a :: as, [], i, s, h => by
    have e : outS (a :: as) [] = .unk :: outS as [] := by
      cases a with
      | own l o => cases l <;> rfl
      | _ => rfl
    rw [e] at h
    cases i with
    | zero => simp at h; exact .inl h.symm
    | succ i =>
      rcases outS_at (as := as) (ms := []) (i := i) (by simpa using h) with z | ⟨o, o', z1, z2, z3⟩
      · exact .inl z
      · simp at z3
  | a :: as, t :: ms, i, s, h => by
    by_cases hc : ∃ o o', a = .own true o ∧ t = .own true o'
    · obtain ⟨o, o', rfl, rfl⟩ := hc
      have e : outS (.own true o :: as) (.own true o' :: ms) = .own true o' :: outS as ms := rfl
      rw [e] at h
      cases i with
      | zero => simp at h; exact .inr ⟨o, o', h.symm, rfl, rfl⟩
      | succ i =>
        rcases outS_at (as := as) (ms := ms) (i := i) (by simpa using h) with z | ⟨p, p', z1, z2, z3⟩
        · exact .inl z
        · exact .inr ⟨p, p', z1, by simpa using z2, by simpa using z3⟩
    · have e : outS (a :: as) (t :: ms) = .unk :: outS as ms := by
        cases a with
        | unk => rfl
        | val d => rfl
        | own l o =>
          cases l with
          | false => rfl
          | true =>
            cases t with
            | unk => rfl
            | val d => rfl
            | own l' o' =>
              cases l' with
              | false => rfl
              | true => exact absurd ⟨o, o', rfl, rfl⟩ hc
      rw [e] at h
      cases i with
      | zero => simp at h; exact .inl h.symm
      | succ i =>
        rcases outS_at (as := as) (ms := ms) (i := i) (by simpa using h) with z | ⟨p, p', z1, z2, z3⟩
        · exact .inl z
        · exact .inr ⟨p, p', z1, by simpa using z2, by simpa using z3⟩
theorem outS_own : ∀ {as : List SV} {ms : MS} {i : Nat} {o o' : OV}, as[i]? = some (.own true o) → ms[i]? = some (.own true o') → (outS as ms)[i]? = some (.own true o')
  | [], _, _, _, _, h, _ => by simp at h
  | _ :: _, [], _, _, _, _, h => by simp at h
  | a :: as, s :: ms, 0, o, o', h, h' => by
    simp at h h'; subst h h'
    rfl
  | a :: as, s :: ms, i + 1, o, o', h, h' => by
    have q := outS_own (as := as) (ms := ms) (i := i) (by simpa using h) (by simpa using h')
    cases a with
    | unk => exact q
    | val d => exact q
    | own l p =>
      cases l with
      | false => exact q
      | true =>
        cases s with
        | unk => exact q
        | val d => exact q
        | own l' p' => cases l' <;> exact q
section
variable {P : Program} {w : World} {K : PySem.W.Frag} {mg : Str → Option Value} {base : Heap}
theorem good_start {K : PySem.W.Frag} {args : List SV} {vs : List V} {H : Hp} {m : Nat} (G : Good K args (vs.map some) H) : Good K (args ++ List.replicate m .unk) (vs.map some ++ List.replicate m none) H := by
  have hl : args.length = (vs.map some).length := G.len
  have at_ms : ∀ {i : Nat} {s : SV}, s ≠ .unk → (args ++ List.replicate m .unk)[i]? = some s → i < args.length ∧ args[i]? = some s := fun {i s} hs h => by
    by_cases hi : i < args.length
    · rw [List.getElem?_append_left hi] at h; exact ⟨hi, h⟩
    · rw [List.getElem?_append_right (Nat.le_of_not_lt hi), List.getElem?_replicate] at h
      split at h
      · cases h; exact absurd rfl hs
      · cases h
  refine ⟨by rw [List.length_append, List.length_append, hl, List.length_replicate, List.length_replicate], fun i d h => ?_, fun i l o h => ?_, fun i j l l' o o' a h1 h2 e1 e2 => ?_⟩
  · obtain ⟨hi, h⟩ := at_ms (by exact fun z => nomatch z) h
    rw [List.getElem?_append_left (by rw [← hl]; exact hi)]
    exact G.val i d h
  · obtain ⟨hi, h⟩ := at_ms (by exact fun z => nomatch z) h
    rw [List.getElem?_append_left (by rw [← hl]; exact hi)]
    exact G.own i l o h
  · obtain ⟨hi, h1⟩ := at_ms (by exact fun z => nomatch z) h1
    obtain ⟨hj, h2⟩ := at_ms (by exact fun z => nomatch z) h2
    rw [List.getElem?_append_left (by rw [← hl]; exact hi)] at e1
    rw [List.getElem?_append_left (by rw [← hl]; exact hj)] at e2
    exact G.inj i j l l' o o' a h1 h2 e1 e2
/-- what a body leaves, seen from the call -/
theorem body_end {args : List SV} {vs : List V} {H H' : Hp} {m : Nat} {ms' : MS} {σ' : St} (G : Good K args (vs.map some) H) (p : PostS K (args ++ List.replicate m .unk) (vs.map some ++ List.replicate m none) H ms' σ' H') : PostE K args (vs.map some) H (outS args ms') H' := by
  have hl : args.length = (vs.map some).length := G.len
  have start_at : ∀ {i : Nat} {o : OV}, args[i]? = some (.own true o) → (args ++ List.replicate m .unk)[i]? = some (.own true o) := fun {i o} h => by
    rw [List.getElem?_append_left (List.getElem?_eq_some_iff.mp h).1]; exact h
  have lent_at : ∀ {i : Nat} {o : OV}, args[i]? = some (.own true o) → (∃ o', ms'[i]? = some (.own true o')) ∧ σ'[i]? = (vs.map some)[i]? := fun {i o} h => by
    obtain ⟨a, b⟩ := p.lent i o (start_at h)
    refine ⟨a, b.trans ?_⟩
    rw [List.getElem?_append_left (by rw [← hl]; exact (List.getElem?_eq_some_iff.mp h).1)]
  have owS : ∀ {b : Addr}, Ow (args ++ List.replicate m .unk) (vs.map some ++ List.replicate m none) b → Ow args (vs.map some) b := fun {b} ⟨i, l, o, h1, h2⟩ => by
    by_cases hi : i < args.length
    · rw [List.getElem?_append_left hi] at h1
      rw [List.getElem?_append_left (by rw [← hl]; exact hi)] at h2
      exact ⟨i, l, o, h1, h2⟩
    · rw [List.getElem?_append_right (Nat.le_of_not_lt hi), List.getElem?_replicate] at h1
      split at h1 <;> cases h1
  have own_at : ∀ {i : Nat} {l : Bool} {o' : OV}, (outS args ms')[i]? = some (.own l o') → l = true ∧ (∃ o, args[i]? = some (.own true o)) ∧ ms'[i]? = some (.own true o') ∧ σ'[i]? = (vs.map some)[i]? := fun {i l o'} h => by
    rcases outS_at h with z | ⟨o, o2, z1, z2, z3⟩
    · cases z
    · cases z1
      exact ⟨rfl, ⟨o, z2⟩, z3, (lent_at z2).2⟩
  refine ⟨⟨by rw [outS_len]; exact hl, fun i d h => ?_, fun i l o h => ?_, fun i j l l' o o' a h1 h2 e1 e2 => ?_⟩, fun b o h n => p.keep b o h fun z => n (owS z), p.live, fun b z => ?_, fun i o h => ?_⟩
  · rcases outS_at h with z | ⟨o, o2, z1, _⟩
    · cases z
    · cases z1
  · obtain ⟨rfl, _, h2, h3⟩ := own_at h
    obtain ⟨a, e, r⟩ := p.good.own i true o h2
    exact ⟨a, by rw [← h3]; exact e, r⟩
  · obtain ⟨_, _, k1, k2⟩ := own_at h1
    obtain ⟨_, _, k3, k4⟩ := own_at h2
    exact p.good.inj i j true true o o' a k1 k3 (by rw [k2]; exact e1) (by rw [k4]; exact e2)
  · obtain ⟨i, l, o, h1, h2⟩ := z
    obtain ⟨_, ⟨o1, k1⟩, _, _⟩ := own_at h1
    exact ⟨i, true, o1, k1, h2⟩
  · obtain ⟨⟨o', h'⟩, _⟩ := lent_at h
    exact ⟨o', outS_own h h'⟩
theorem fn_ok {x qual : Str} {st : Stmt} {f : Addr} {fd : FuncData} {N ps : List Str} {k : Nat} {b : MSt} (F : Fun K x qual st f fd) (S : FnScope N ps (defScope st))
    (hbody : ∀ (X : Cx) (W : WX) (cdv : Value) (A : Around) (outer : List Env) (s : Shared) (H : Hp) (E : XK), X = cxOf (L2.CX P w) P w K mg base N qual (defScope st) f cdv A outer s H E → Room k X.A → Takes X W → PassesOwn (model X.prog X.w) X.A X.env X.xe → MSs X W (defBody st) b) :
    FnOk P w K mg base (L2.CX P w) (k + 1) f fd ps (spM K ps.length (fmOf N.length b)) := by
  refine F.okX S (fun vs H Q E h => h.1) (fun cdv A outer s H vs Q E hr h => ?_)
  obtain ⟨hl, args, G, h⟩ := h
  have tk : Takes (cxOf (L2.CX P w) P w K mg base N qual (defScope st) f cdv A outer s H E) (fun cls d _ H => E cls d H) := takes_of rfl rfl rfl rfl
  have po := passes_of (X := cxOf (L2.CX P w) P w K mg base N qual (defScope st) f cdv A outer s H E) rfl
  have hb := hbody _ (fun cls d _ H => E cls d H) cdv A outer s H E rfl hr tk po
  refine ⟨_, hb, ?_⟩
  have hal : args.length = vs.length := by rw [G.len, List.length_map]
  rw [tMS_eq]
  refine ⟨args ++ List.replicate (N.length - args.length) .unk, ?_, ?_⟩
  · unfold L2.start
    rw [hal]
    exact good_start G
  · unfold L2.start
    rw [← hal]
    unfold Run at h ⊢
    unfold fmOf at h
    by_cases hal' : allLent args = true
    case neg => simp only [if_neg hal'] at h
    simp only [if_pos hal'] at h
    cases hq : b (args ++ List.replicate (N.length - args.length) .unk) with
    | none => simp only [hq] at h
    | some r =>
      cases r with
      | exc x ms' =>
        simp only [hq] at h
        exact fun cls d σ' H' p z => h cls d H' (body_end G p) z
      | ok fl ms' =>
        cases fl with
        | bk => simp only [hq] at h
        | ct => simp only [hq] at h
        | nx =>
          simp only [hq] at h
          exact fun σ' H' p => h .non H' (body_end G p) (by show Rep _ _ _ _; rw [Rep])
        | rt ev =>
          simp only [hq] at h
          cases hr' : retE ms' ev with
          | none => simp only [hr'] at h
          | some r =>
            simp only [hr'] at h
            intro v σ' H' p o
            have pe := body_end G p
            cases ev with
            | val d =>
              cases hr'
              exact h v H' pe o
            | new ov =>
              cases hr'
              obtain ⟨a, rfl, hn, oat, no⟩ := o
              exact h _ H' pe ⟨a, rfl, hn, oat, fun z => Ow.live G hn (pe.ow a z)⟩
            | bor i =>
              have o : σ'[i]? = some (some v) := o
              unfold retE at hr'
              cases hi : ms'[i]? with
              | none => simp only [hi] at hr'; cases hr'
              | some sv =>
                cases sv with
                | unk => simp only [hi] at hr'; cases hr'
                | val d =>
                  simp only [hi] at hr'; cases hr'
                  obtain ⟨v', e1, e2⟩ := p.good.val i d hi
                  rw [o] at e1; cases e1
                  exact h v H' pe e2
                | own l ov =>
                  cases l with
                  | true => simp only [hi] at hr'; cases hr'
                  | false =>
                    simp only [hi] at hr'; cases hr'
                    obtain ⟨a, e1, e2⟩ := p.good.own i false ov hi
                    rw [o] at e1; cases e1
                    have hfresh : H a = none := by
                      rcases p.ow a ⟨i, false, ov, hi, o⟩ with z | z
                      · obtain ⟨j, l, o', h1, h2⟩ := z
                        have hj : j < args.length := by
                          apply Classical.byContradiction
                          intro hj
                          rw [List.getElem?_append_right (Nat.le_of_not_lt hj), List.getElem?_replicate] at h1
                          split at h1 <;> cases h1
                        rw [List.getElem?_append_left hj] at h1
                        cases l with
                        | false =>
                          have := List.all_eq_true.mp hal' _ (List.mem_of_getElem? h1)
                          cases this
                        | true =>
                          obtain ⟨⟨o2, k2⟩, k3⟩ := p.lent j o' (by rw [List.getElem?_append_left hj]; exact h1)
                          have := p.good.inj i j false true ov o2 a hi k2 o (by rw [k3]; exact h2)
                          subst this
                          rw [hi] at k2
                          cases k2
                      · exact z
                    exact h _ H' pe ⟨a, rfl, hfresh, e2, fun z => Ow.live G hfresh (pe.ow a z)⟩
end
end Fw
set_option Elab.async false
set_option linter.all false
set_option maxRecDepth 100000
set_option maxHeartbeats 2000000
/-! Fw H: what changes a slot's own list or dict: x[i] = e, x += e, x[i] += e, x.m(..). -/
namespace Fw
open PySem L2
section
variable {K : PySem.W.Frag} {ms : MS} {σ : St} {H : Hp} {i : Nat} {l : Bool} {o o' : OV} {a : Addr} {u u' : HO}
theorem kept_chg (hu : H a = some u) (c : Chg u) : Kept H (upd H a u') := by
  refine ⟨fun b xs e => ?_, fun b o' u2 e => ?_⟩
  · rw [upd_ne (show b ≠ a from fun z => by subst z; rw [hu] at e; cases e; exact c)]; exact e
  · rw [upd_ne (show b ≠ a from fun z => by subst z; rw [hu] at e; cases e; exact c)]; exact e
theorem PostE.chg (G : Good K ms σ H) (hi : ms[i]? = some (.own l o)) (hs : σ[i]? = some (some (.ref a))) (oa : OwnAt K (upd H a u') a o') : PostE K ms σ H (ms.set i (.own l o')) (upd H a u') := by
  obtain ⟨u, hu, c⟩ := G.chg ⟨i, l, o, hi, hs⟩
  have k := kept_chg (u' := u') hu c
  have hil : i < ms.length := (List.getElem?_eq_some_iff.mp hi).1
  have own_c : ∀ {j : Nat} {l' : Bool} {o2 : OV}, (ms.set i (.own l o'))[j]? = some (.own l' o2) → (j = i ∧ l' = l ∧ o2 = o') ∨ (j ≠ i ∧ ms[j]? = some (.own l' o2)) := fun {j l' o2} h => by
    by_cases hj : j = i
    · subst hj
      rw [List.getElem?_set_self hil] at h; cases h
      exact .inl ⟨rfl, rfl, rfl⟩
    · rw [List.getElem?_set_ne (Ne.symm hj)] at h
      exact .inr ⟨hj, h⟩
  have own_x : ∀ {j : Nat} {l' : Bool} {o2 : OV}, (ms.set i (.own l o'))[j]? = some (.own l' o2) → ∃ o3, ms[j]? = some (.own l' o3) := fun {j l' o2} h => by
    rcases own_c h with ⟨rfl, rfl, _⟩ | ⟨_, h⟩
    · exact ⟨o, hi⟩
    · exact ⟨o2, h⟩
  refine ⟨⟨by rw [List.length_set]; exact G.len, fun j d h => ?_, fun j l' o2 h => ?_, fun j j' l1 l2 o1 o2 b h1 h2 e1 e2 => ?_⟩, fun b x h n => ?_, fun b h => ?_, fun b z => ?_, fun j x h => ?_⟩
  · have hj : j ≠ i := fun z => by
      subst z
      rw [List.getElem?_set_self hil] at h; cases h
    rw [List.getElem?_set_ne (Ne.symm hj)] at h
    obtain ⟨v, e, r⟩ := G.val j d h
    exact ⟨v, e, Rep.mono k _ _ r⟩
  · rcases own_c h with ⟨rfl, rfl, rfl⟩ | ⟨hj, h⟩
    · exact ⟨a, hs, oa⟩
    · obtain ⟨b, e, r⟩ := G.own j l' o2 h
      refine ⟨b, e, r.mono k fun w hw => ?_⟩
      rw [upd_ne (show b ≠ a from fun z => hj (G.inj j i l' l o2 o a h hi (by rw [← z]; exact e) hs))]
      exact hw
  · obtain ⟨x1, k1⟩ := own_x h1
    obtain ⟨x2, k2⟩ := own_x h2
    exact G.inj j j' l1 l2 x1 x2 b k1 k2 e1 e2
  · rw [upd_ne (show b ≠ a from fun z => n ⟨i, l, o, hi, by rw [z]; exact hs⟩)]
    exact h
  · by_cases z : b = a
    · subst z; rw [upd_same]; exact fun z => nomatch z
    · rw [upd_ne z]; exact h
  · obtain ⟨j, l', o2, h1, h2⟩ := z
    obtain ⟨x1, k1⟩ := own_x h1
    exact ⟨j, l', x1, k1, h2⟩
  · by_cases hj : j = i
    · subst hj
      rw [hi] at h; cases h
      exact ⟨o', List.getElem?_set_self hil⟩
    · exact ⟨x, by rw [List.getElem?_set_ne (Ne.symm hj)]; exact h⟩
end
section
variable {X : Cx} {W : WX} {e ei : Expr} {es : List Expr} {me mk : M EV} {mas : M (List EV)} {pos pos' apos tpos np : Pos} {i : Nat} {x : Str}

/-! ### x[k] = e -/
def SetR (X : Cx) (g : OV → D → D → Option OV) : Prop :=
  ∃ t, PSet X t ∧ ∀ H a o i v k d o' Q, OwnAt X.K H a o → Rep X.K H k i → Rep X.K H d v → g o k d = some o' → (∀ u', OwnAt X.K (upd H a u') a o' → Q (upd H a u')) → t (.ref a) i v H Q
/-- the slot's own object is changed by f -/
def chgS (i : Nat) (f : OV → Option OV) (ms : MS) : Option MS := match ms[i]? with
  | some (.own l o) => (f o).map fun o' => ms.set i (.own l o')
  | _ => none
/-- the slot holds an own object -/
def ownS (i : Nat) (ms : MS) : Bool := match ms[i]? with
  | some (.own _ _) => true
  | _ => false
def guardS {α : Type} (i : Nat) (m : M α) : M α := fun ms => if ownS i ms = true then m ms else none
def sSetI (g : OV → D → D → Option OV) (i : Nat) (mk me : M EV) : MSt := (mFz me).bind fun ev => guardS i ((mFz mk).bind fun ek ms => match ev, ek with
  | .val d, .val k => (match chgS i (fun o => g o k d) ms with
    | some ms' => some (.ok .nx ms')
    | none => none)
  | _, _ => none)
theorem Run.guard {α : Type} {m : M α} {ms : MS} {k : α → MS → Prop} {x : EX → MS → Prop} (h : Run (guardS i m) ms k x) : (∃ l o, ms[i]? = some (.own l o)) ∧ Run m ms k x := by
  unfold Run guardS at h
  by_cases c : ownS i ms = true
  · simp only [if_pos c] at h
    refine ⟨?_, h⟩
    unfold ownS at c
    cases q : ms[i]? with
    | none => rw [q] at c; cases c
    | some s =>
      rw [q] at c
      cases s with
      | own l o => exact ⟨l, o, rfl⟩
      | unk => cases c
      | val d => cases c
  · simp only [if_neg c] at h
theorem chgS_some {i : Nat} {f : OV → Option OV} {ms ms' : MS} (h : chgS i f ms = some ms') : ∃ l o o', ms[i]? = some (.own l o) ∧ f o = some o' ∧ ms' = ms.set i (.own l o') := by
  unfold chgS at h
  cases q : ms[i]? with
  | none => rw [q] at h; cases h
  | some s =>
    rw [q] at h
    cases s with
    | unk => cases h
    | val d => cases h
    | own l o =>
      obtain ⟨o', h1, h2⟩ := Option.map_eq_some_iff.mp h
      exact ⟨l, o, o', rfl, h1, h2.symm⟩
theorem ms_setI {g : OV → D → D → Option OV} (hg : SetR X g) (hN : X.N[i]? = some x) (hv : Vis X.env.scope x) (hd : (x == ("__debug__" : Str)) = false) (hcd : (x == ("__classdict__" : Str)) = false) (he : ME X W e me) (hk : ME X W ei mk)
    (ha : ∀ v, assign (.Subscript (.Name x np) ei pos') X.env v = (do
      let ov ← holding [v] (eval (.Name x np) X.env)
      let iv ← holding [v, ov] (eval ei X.env)
      standAt pos'
      holding [v, ov, iv] (setItem ov iv v)
      release [v, ov, iv] [])) (hs : swapsWithSole [.Subscript (.Name x np) ei pos'] e pos.line X.env = pure false) (hw : swappedStores [.Subscript (.Name x np) ei pos'] e X.env = pure none)
    (h1 : (assignEach [.Subscript (.Name x np) ei pos'] X.env).map (·.2) = [assign (.Subscript (.Name x np) ei pos') X.env]) : MS1 X W (.Assign [.Subscript (.Name x np) ei pos'] e pos) (sSetI g i mk me) := by
  obtain ⟨t, pt, qt⟩ := hg
  refine PS.imp (ps_asg (me_fz he) (pg_sub (pe_var hN hv hd hcd) (me_fz hk) pt ha) hs hw h1) fun D σ H q => ?_
  rw [tMS_eq] at q
  obtain ⟨ms, G, h⟩ := q
  refine tM_bind G h (fun x ms' z => ExK.e z) fun ev ms1 h1 v H1 p1 o1 => ?_
  obtain ⟨⟨l0, o0, hi0⟩, h2⟩ := Run.guard h1
  obtain ⟨a, ea, _⟩ := p1.good.own i l0 o0 hi0
  refine ⟨_, ea, ?_⟩
  refine tM_bind p1.good h2 (fun x ms' z => (ExK.from p1.st z).e) fun ek ms2 h3 y H2 p2 o2 => ?_
  cases ev with
  | new o => exact h3.elim
  | bor j => exact h3.elim
  | val d =>
    cases ek with
    | new o => exact h3.elim
    | bor j => exact h3.elim
    | val kd =>
      cases hc : chgS i (fun o => g o kd d) ms2 with
      | none => simp only [Run, hc] at h3
      | some ms3 =>
        simp only [Run, hc] at h3
        obtain ⟨l, o, o', hi, hg, rfl⟩ := chgS_some hc
        obtain ⟨b, eb, ob⟩ := p2.good.own i l o hi
        rw [ea] at eb; cases eb
        refine qt H2 a o y v kd d o' _ ob o2 (Rep.mono (p2.kept p1.good) _ _ o1) hg fun u' oa => ?_
        exact h3 σ _ ((p1.trans p2).trans (PostE.chg p2.good hi ea oa)).st

/-! ### x op= e -/
def sAug (g : D → D → Option EV) (i : Nat) (me : M EV) : MSt := fun ms0 => match ms0[i]? with
  | some (.val d) => (me.bind fun ev ms => match rd ms ev with
    | some e => (match g d e with
      | some r => stE i r ms
      | none => none)
    | none => none) ms0
  | _ => none
theorem ms_aug {op : Operator} {g : D → D → Option EV} (ho : Op2 X (inplaceOp op) g) (hN : X.N.Nodup) (hi : X.N[i]? = some x) (hx : Loc X.env.scope x) (he : ME X W e me) (hf : X.fn x = true ∨ X.env.scope.names.lookup x = some .local) : MS1 X W (.AugAssign (.Name x pos') op e pos) (sAug g i me) := by
  obtain ⟨r, hr, hq⟩ := ho
  refine PS.imp (ps_aug hN hi hx he (ti := r) hr hf) fun D σ H q => ?_
  rw [tMS_eq] at q
  obtain ⟨ms, G, h⟩ := q
  cases hs : ms[i]? with
  | none => simp only [Run, sAug, hs] at h
  | some s =>
    cases s with
    | unk => simp only [Run, sAug, hs] at h
    | own l o => simp only [Run, sAug, hs] at h
    | val d =>
      have h' : Run (me.bind fun ev ms => match rd ms ev with
        | some e => (match g d e with
          | some r => stE i r ms
          | none => none)
        | none => none) ms (EndK X.K D ms σ H) (ExK X.K W ms σ H) := by
        simp only [Run, sAug, hs] at h ⊢
        exact h
      obtain ⟨v, ev, rv⟩ := G.val i d hs
      refine ⟨v, ev, ?_⟩
      refine tM_bind G h' (fun x ms' z => ExK.e z) fun ey ms1 h1 y H1 p1 o1 => ?_
      cases hd : rd ms1 ey with
      | none => simp only [Run, hd] at h1
      | some e2 =>
        cases hg : g d e2 with
        | none => simp only [Run, hd, hg] at h1
        | some er =>
          simp only [Run, hd, hg] at h1
          refine hq H1 v y d e2 er _ (.of (Rep.mono (p1.kept G) _ _ rv)) (rd_ok p1.good o1 hd) hg fun z H2 s2 r2 => ?_
          have p2 := p1.trans (PostE.same p1.good s2)
          cases er with
          | bor j => exact r2.elim
          | val dr =>
            cases hq2 : setS i (.val dr) ms1 with
            | none => simp only [stE, hq2] at h1
            | some ms2 =>
              simp only [stE, hq2] at h1
              exact h1 _ _ (p2.st.trans (PostS.setVal p2.good hq2 r2))
          | new o =>
            cases hq2 : setS i (.own false o) ms1 with
            | none => simp only [stE, hq2] at h1
            | some ms2 =>
              simp only [stE, hq2] at h1
              obtain ⟨a, rfl, hn, oat⟩ := r2
              have hn0 : H a = none := by
                cases qq : H a with
                | none => rfl
                | some u => exact absurd hn (p1.live a (by rw [qq]; exact fun z => nomatch z))
              obtain ⟨g2, w2, l2⟩ := PostS.setOwn (H0 := H) p2.good hq2 oat (Ow.live p1.good hn)
              refine h1 _ _ ⟨g2, p2.keep, p2.live, fun b z => ?_, fun j o' hj => ?_⟩
              · rcases w2 b z with z | z
                · exact .inl (p2.ow b z)
                · subst z; exact .inr hn0
              · obtain ⟨o2, h2⟩ := p2.lent j o' hj
                exact l2 j o2 h2

/-! ### x[k] op= e -/
def GetR (X : Cx) (g : OV → D → Option D) : Prop :=
  ∃ r, PGet X r ∧ ∀ H a o i k d Q, OwnAt X.K H a o → Rep X.K H k i → g o k = some d → (∀ v, Rep X.K H d v → Q v H) → r (.ref a) i H Q
def sAugI (gt : OV → D → Option D) (gop : D → D → Option EV) (st : OV → D → D → Option OV) (i : Nat) (mk me : M EV) : MSt := guardS i ((mFz mk).bind fun ek ms => match ek, ms[i]? with
  | .val k, some (.own _ o) => (match gt o k with
    | some old => (me.bind fun ev ms1 => match rd ms1 ev with
      | some e => (match gop old e with
        | some (.val r) => (match chgS i (fun o => st o k r) ms1 with
          | some ms2 => some (.ok .nx ms2)
          | none => none)
        | _ => none)
      | none => none) ms
    | none => none)
  | _, _ => none)
theorem ms_augI {op : Operator} {gt : OV → D → Option D} {gop : D → D → Option EV} {st : OV → D → D → Option OV} (hgt : GetR X gt) (ho : Op2 X (inplaceOp op) gop) (hst : SetR X st) (hN : X.N[i]? = some x) (hv : Vis X.env.scope x) (hd : (x == ("__debug__" : Str)) = false) (hcd : (x == ("__classdict__" : Str)) = false)
    (hk : ME X W ei mk) (he : ME X W e me) (ha : ∀ ov iv new, augStore ei ov iv new = (do holding [new, ov, iv] (setItem ov iv new); release [new, ov, iv] []; pure .next)) : MS1 X W (.AugAssign (.Subscript (.Name x np) ei tpos) op e pos) (sAugI gt gop st i mk me) := by
  obtain ⟨rg, pg, qg⟩ := hgt
  obtain ⟨r, hr, hq⟩ := ho
  obtain ⟨t, pt, qt⟩ := hst
  refine PS.imp (ps_augS (pe_var hN hv hd hcd) (me_fz hk) pg he (tip := r) hr pt ha) fun D σ H q => ?_
  rw [tMS_eq] at q
  obtain ⟨ms, G, h⟩ := q
  obtain ⟨⟨l0, o0, hi0⟩, h2⟩ := Run.guard h
  obtain ⟨a, ea, _⟩ := G.own i l0 o0 hi0
  refine ⟨_, ea, ?_⟩
  refine tM_bind G h2 (fun x ms' z => ExK.e z) fun ek ms1 h3 y H1 p1 o1 => ?_
  cases ek with
  | new o => exact h3.elim
  | bor j => exact h3.elim
  | val kd =>
    cases hi1 : ms1[i]? with
    | none => simp only [Run, hi1] at h3
    | some s =>
      cases s with
      | unk => simp only [Run, hi1] at h3
      | val d => simp only [Run, hi1] at h3
      | own l1 ov1 =>
        cases hg : gt ov1 kd with
        | none => simp only [Run, hi1, hg] at h3
        | some old =>
          have h4 : Run (me.bind fun ev ms1 => match rd ms1 ev with
            | some e => (match gop old e with
              | some (.val r) => (match chgS i (fun o => st o kd r) ms1 with
                | some ms2 => some (.ok Fl.nx ms2)
                | none => none)
              | _ => none)
            | none => none) ms1 (EndK X.K D ms σ H) (ExK X.K W ms σ H) := by
            simp only [Run, hi1, hg] at h3 ⊢
            exact h3
          obtain ⟨b, eb, ob⟩ := p1.good.own i l1 ov1 hi1
          rw [ea] at eb; cases eb
          refine qg H1 a ov1 y kd old _ ob o1 hg fun vo rvo => ?_
          refine tM_bind p1.good h4 (fun x ms' z => (ExK.from p1.st z).e) fun ev ms2 h5 z H2 p2 o2 => ?_
          cases hd2 : rd ms2 ev with
          | none => simp only [Run, hd2] at h5
          | some e2 =>
            cases hg2 : gop old e2 with
            | none => simp only [Run, hd2, hg2] at h5
            | some er =>
              cases er with
              | new o => simp only [Run, hd2, hg2] at h5
              | bor j => simp only [Run, hd2, hg2] at h5
              | val rr =>
                cases hc : chgS i (fun o => st o kd rr) ms2 with
                | none => simp only [Run, hd2, hg2, hc] at h5
                | some ms3 =>
                  simp only [Run, hd2, hg2, hc] at h5
                  refine hq H2 vo z old e2 _ _ (.of (Rep.mono (p2.kept p1.good) _ _ rvo)) (rd_ok p2.good o2 hd2) hg2 fun zr H3 s3 r3 => ?_
                  have p3 := PostE.same p2.good s3
                  have p23 := p2.trans p3
                  obtain ⟨l, o, o', hi, hst', rfl⟩ := chgS_some hc
                  obtain ⟨b, eb, ob'⟩ := p3.good.own i l o hi
                  rw [ea] at eb; cases eb
                  refine qt H3 a o y zr kd rr o' _ ob' (Rep.mono (p23.kept p1.good) _ _ o1) r3 hst' fun u' oa => ?_
                  exact h5 σ _ (((p1.trans p23)).trans (PostE.chg p3.good hi ea oa)).st

/-! ### x.m(..) -/
/-- a method that changes its object; its arguments by their readings -/
def MutB (X : Cx) (id : String) (g : OV → List D → Option (D × OV)) : Prop :=
  ∃ r, MtR X id r ∧ ∀ H a o xs ds d o' Q, OwnAt X.K H a o → Paired (fun v d => RdAt X.K H d v) xs ds → g o ds = some (d, o') → (∀ v u', OwnAt X.K (upd H a u') a o' → Rep X.K (upd H a u') d v → Q v (upd H a u')) → r (.ref a) xs H Q
/-- .. by frozen values -/
def MutV (X : Cx) (id : String) (g : OV → List D → Option (D × OV)) : Prop :=
  ∃ r, MtR X id r ∧ ∀ H a o xs ds d o' Q, OwnAt X.K H a o → Reps X.K H ds xs → g o ds = some (d, o') → (∀ v u', OwnAt X.K (upd H a u') a o' → Rep X.K (upd H a u') d v → Q v (upd H a u')) → r (.ref a) xs H Q
def ovT : OV → String
  | .lst _ => "list"
  | .dic _ _ _ => "dict"
theorem ovT_ok {K : PySem.W.Frag} {H : Hp} {a : Addr} {T : String} : ∀ {o : OV}, OwnAt K H a o → ovT o = T → tyV K T (.ref a) H
  | .lst ds, h, e => by obtain ⟨xs, h, _⟩ := h; exact .inl ⟨e.symm, xs, .of h⟩
  | .dic t ks vs, h, e => by
    obtain ⟨u, xs, h, d, _⟩ := h
    cases t with
    | false => obtain ⟨kvs, rfl, _⟩ := d; exact .inr (.inr (.inl ⟨e.symm, .inl ⟨kvs, h⟩⟩))
    | true => obtain ⟨kvs, rfl, _⟩ := d; exact .inr (.inr (.inl ⟨e.symm, .inr ⟨kvs, h⟩⟩))
def mMeth (T : String) (rdA : MS → List EV → Option (List D)) (g : OV → List D → Option (D × OV)) (i : Nat) (mas : M (List EV)) : M EV := fun ms0 => match ms0[i]? with
  | some (.own _ o0) => if ovT o0 = T then (mas.bind fun es ms => match rdA ms es, ms[i]? with
      | some ds, some (.own l o) => (match g o ds with
        | some (d, o') => some (.ok (.val d) (ms.set i (.own l o')))
        | none => none)
      | _, _ => none) ms0 else none
  | _ => none
theorem meth_core {T : String} {rdA : MS → List EV → Option (List D)} {g : OV → List D → Option (D × OV)} {r : V → List V → Hp → VK → Prop} {RA : Hp → List V → List D → Prop}
    (hrd : ∀ {ms : MS} {σ : St} {H0 H : Hp} {vs : List V} {es : List EV} {ds : List D}, Good X.K ms σ H → EVsOk X.K ms σ H0 H vs es → rdA ms es = some ds → RA H vs ds)
    (hq : ∀ H a o xs ds d o' Q, OwnAt X.K H a o → RA H xs ds → g o ds = some (d, o') → (∀ v u', OwnAt X.K (upd H a u') a o' → Rep X.K (upd H a u') d v → Q v (upd H a u')) → r (.ref a) xs H Q) {σ : St} {H : Hp} {Q : VK}
    (q : tM X.K W (mMeth T rdA g i mas) σ H Q) : tBM X.K T r (tVar i) (tMA X.K W mas) σ H Q := by
  obtain ⟨ms, G, h⟩ := q
  cases hi0 : ms[i]? with
  | none => simp only [Run, mMeth, hi0] at h
  | some s =>
    cases s with
    | unk => simp only [Run, mMeth, hi0] at h
    | val d => simp only [Run, mMeth, hi0] at h
    | own l0 o0 =>
      by_cases hT : ovT o0 = T
      case neg => simp only [Run, mMeth, hi0, if_neg hT] at h
      have h' : Run (mas.bind fun es ms => match rdA ms es, ms[i]? with
        | some ds, some (.own l o) => (match g o ds with
          | some (d, o') => some (.ok (.val d) (ms.set i (.own l o')))
          | none => none)
        | _, _ => none) ms (fun ev ms' => ∀ v H', PostE X.K ms σ H ms' H' → EVOk X.K ms' σ H H' v ev → Q v H') (fun x ms' => ∀ cls d H', PostE X.K ms σ H ms' H' → ExOk X.K H' x cls d → W cls d σ H') := by
        simp only [Run, mMeth, hi0, if_pos hT] at h ⊢
        exact h
      obtain ⟨a, ea, oa⟩ := G.own i l0 o0 hi0
      refine ⟨_, ea, ovT_ok oa hT, ?_⟩
      refine tMA_bind G h' (fun x ms' z => z) fun evs ms1 h1 vs H1 p1 o1 => ?_
      cases hr : rdA ms1 evs with
      | none => simp only [Run, hr] at h1
      | some ds =>
        cases hi : ms1[i]? with
        | none => simp only [Run, hr, hi] at h1
        | some s =>
          cases s with
          | unk => simp only [Run, hr, hi] at h1
          | val d => simp only [Run, hr, hi] at h1
          | own l o =>
            cases hg : g o ds with
            | none => simp only [Run, hr, hi, hg] at h1
            | some dr =>
              obtain ⟨d, o'⟩ := dr
              simp only [Run, hr, hi, hg] at h1
              obtain ⟨b, eb, ob⟩ := p1.good.own i l o hi
              rw [ea] at eb; cases eb
              refine hq H1 a o vs ds d o' Q ob (hrd p1.good o1 hr) hg fun v u' oa' rv => ?_
              exact h1 v _ (p1.trans (PostE.chg p1.good hi ea oa')) rv
theorem me_meth {T id name : String} {g : OV → List D → Option (D × OV)} (hg : MutB X id g) (pa : PlainAttrs T) (slot : Slot T name id) (hty : typeOf (.builtin id) = pure (.type "method_descriptor"))
    (hN : X.N[i]? = some x) (hv : Vis X.env.scope x) (hd : (x == ("__debug__" : Str)) = false) (hcd : (x == ("__classdict__" : Str)) = false) (ha : MA X W (e :: es) mas)
    (hbase : attributeBase (.Name x np) name X.env (eval (.Name x np) X.env) = eval (.Name x np) X.env)
    (hfew : ((backTo pos (starEach (e :: es) X.env)).all (fun x => !x.1) && (backToKw pos (keywordEach [] X.env)).all (fun x => x.1.isSome)
      && decide ((e :: es).length + ([] : List Keyword).length + (if ([] : List Keyword).isEmpty then 0 else 1) < 30)) = true)
    (hline : (apos.endLine == pos.line) = true) (hs : starEach (e :: es) X.env = (false, eval e X.env) :: starEach es X.env) (hplain : (backTo pos (starEach es X.env)).any (·.1) = false) :
    ME X W (.Call (.Attribute (.Name x np) name apos) (e :: es) [] pos) (mMeth T rds g i mas) := by
  obtain ⟨r, hr, hq⟩ := hg
  exact PE.imp (pe_bm pa slot hty hr (pe_var hN hv hd hcd) ha hbase hfew hline hs hplain) fun σ H Q q => meth_core (RA := fun H vs ds => Paired (fun v d => RdAt X.K H d v) vs ds) (fun G o e => rds_ok G o e) hq q
theorem me_methV {T id name : String} {g : OV → List D → Option (D × OV)} (hg : MutV X id g) (pa : PlainAttrs T) (slot : Slot T name id) (hty : typeOf (.builtin id) = pure (.type "method_descriptor"))
    (hN : X.N[i]? = some x) (hv : Vis X.env.scope x) (hd : (x == ("__debug__" : Str)) = false) (hcd : (x == ("__classdict__" : Str)) = false) (ha : MA X W (e :: es) mas)
    (hbase : attributeBase (.Name x np) name X.env (eval (.Name x np) X.env) = eval (.Name x np) X.env)
    (hfew : ((backTo pos (starEach (e :: es) X.env)).all (fun x => !x.1) && (backToKw pos (keywordEach [] X.env)).all (fun x => x.1.isSome)
      && decide ((e :: es).length + ([] : List Keyword).length + (if ([] : List Keyword).isEmpty then 0 else 1) < 30)) = true)
    (hline : (apos.endLine == pos.line) = true) (hs : starEach (e :: es) X.env = (false, eval e X.env) :: starEach es X.env) (hplain : (backTo pos (starEach es X.env)).any (·.1) = false) :
    ME X W (.Call (.Attribute (.Name x np) name apos) (e :: es) [] pos) (mMeth T (fun _ => vals) g i mas) := by
  obtain ⟨r, hr, hq⟩ := hg
  exact PE.imp (pe_bm pa slot hty hr (pe_var hN hv hd hcd) ha hbase hfew hline hs hplain) fun σ H Q q => meth_core (RA := fun H vs ds => Reps X.K H ds vs) (fun G o e => vals_ok o e) hq q
/-- without arguments -/
def mMeth0 (T : String) (g : OV → List D → Option (D × OV)) (i : Nat) : M EV := fun ms => match ms[i]? with
  | some (.own l o) => if ovT o = T then (match g o [] with
      | some (d, o') => some (.ok (.val d) (ms.set i (.own l o')))
      | none => none) else none
  | _ => none
theorem me_meth0 {T id name : String} {g : OV → List D → Option (D × OV)} (hg : MutB X id g) (pa : PlainAttrs T) (slot : Slot T name id) (hty : typeOf (.builtin id) = pure (.type "method_descriptor"))
    (hN : X.N[i]? = some x) (hv : Vis X.env.scope x) (hd : (x == ("__debug__" : Str)) = false) (hcd : (x == ("__classdict__" : Str)) = false)
    (hbase : attributeBase (.Name x np) name X.env (eval (.Name x np) X.env) = eval (.Name x np) X.env) (hline : (apos.endLine == pos.line) = true) :
    ME X W (.Call (.Attribute (.Name x np) name apos) [] [] pos) (mMeth0 T g i) := by
  obtain ⟨r, hr, hq⟩ := hg
  refine PE.imp (pe_bm0 pa slot hty hr (pe_var hN hv hd hcd) hbase hline) fun σ H Q q => ?_
  obtain ⟨ms, G, h⟩ := q
  cases hi : ms[i]? with
  | none => simp only [Run, mMeth0, hi] at h
  | some s =>
    cases s with
    | unk => simp only [Run, mMeth0, hi] at h
    | val d => simp only [Run, mMeth0, hi] at h
    | own l o =>
      by_cases hT : ovT o = T
      case neg => simp only [Run, mMeth0, hi, if_neg hT] at h
      cases hgo : g o [] with
      | none => simp only [Run, mMeth0, hi, if_pos hT, hgo] at h
      | some dr =>
        obtain ⟨d, o'⟩ := dr
        simp only [Run, mMeth0, hi, if_pos hT, hgo] at h
        obtain ⟨a, ea, oa⟩ := G.own i l o hi
        refine ⟨_, ea, ovT_ok oa hT, ?_⟩
        refine hq H a o [] [] d o' Q oa .nil hgo fun v u' oa' rv => ?_
        exact h v _ (PostE.chg G hi ea oa') rv
end
end Fw
set_option Elab.async false
set_option linter.all false
set_option maxRecDepth 100000
set_option maxHeartbeats 4000000
namespace Fw
open PySem PySem.Spec PyProof.Rows L2
theorem tuple_mul_same (l : Addr) (items : Array Value) (n : Nat) (sl : Array (Option Value)) (dd : Option Addr) (x : Int) (u : Tok) (c0 : (decide (x < -(2 ^ 63)) || decide (x ≥ 2 ^ 63)) = false) (c1 : (items.isEmpty || x == 1) = true) :
    Meets (Builtin.«tuple.__mul__» ⟨[.ref l, .int x u], []⟩) (fun _ R s => s.heap.get? l = some { cls := .type "tuple", dict := dd, data := .seq items n, slots := sl } ∧ R (.ok (.ret (Value.ref l))) s) :=
  .of_wp fun prog w A R s h => by
    obtain ⟨hp, g, d, tk, os⟩ := s
    obtain ⟨hl, h⟩ := h
    have f1 := AutoSeq1.idx_int
    wp_walk using wpAny_loadPart' hl
    repeat (first
      | (refine wpAny_ite_false (decide_eq_false (by rw [c0]; exact Bool.false_ne_true)) ?_; wp_walk using wpAny_loadPart' hl)
      | (refine wpAny_ite_true (decide_eq_true (by rw [c1])) ?_; wp_walk using wpAny_loadPart' hl))
    exact ⟨_, rfl, h⟩
theorem tuple_mul_nil (l : Addr) (items : Array Value) (n : Nat) (sl : Array (Option Value)) (dd : Option Addr) (x : Int) (u : Tok) (c0 : (decide (x < -(2 ^ 63)) || decide (x ≥ 2 ^ 63)) = false) (c1 : (items.isEmpty || x == 1) = false) (c2 : (decide (x ≤ 0) || items.isEmpty) = true) :
    Meets (Builtin.«tuple.__mul__» ⟨[.ref l, .int x u], []⟩) (fun _ R s => s.heap.get? l = some { cls := .type "tuple", dict := dd, data := .seq items n, slots := sl } ∧
      R (.ok (.ret (Value.ref s.heap.objs.size))) { s with heap := s.heap.push { cls := Value.type "tuple", data := Data.seq #[] }, toks := s.toks }) :=
  .of_wp fun prog w A R s h => by
    obtain ⟨hp, g, d, tk, os⟩ := s
    obtain ⟨hl, h⟩ := h
    have f1 := AutoSeq1.idx_int
    wp_walk using wpAny_loadPart' hl
    repeat (first
      | (refine wpAny_ite_false (decide_eq_false (by rw [c0]; exact Bool.false_ne_true)) ?_; wp_walk using wpAny_loadPart' hl)
      | (refine wpAny_ite_false (decide_eq_false (by rw [c1]; exact Bool.false_ne_true)) ?_; wp_walk using wpAny_loadPart' hl)
      | (refine wpAny_ite_true (decide_eq_true (by rw [c2])) ?_; wp_walk using wpAny_loadPart' hl))
    exact ⟨_, rfl, h⟩
end Fw
set_option Elab.async false
set_option linter.all false
set_option maxRecDepth 100000
set_option maxHeartbeats 4000000
/-! Fw I: the operators and built-ins on data. -/
namespace Fw
open PySem L2

/-! ### small lemmas -/
section
variable {K : PySem.W.Frag} {H H' : Hp} {v : V}
theorem rdNon (h : RdAt K H .non v) : v = .non := by have h : Rep K H .non v := h; rw [Rep] at h; exact h
theorem rdBl {b : Bool} (h : RdAt K H (.bl b) v) : v = .bl b := by have h : Rep K H (.bl b) v := h; rw [Rep] at h; exact h
theorem rdInt {i : Int} (h : RdAt K H (.int i) v) : v = .int i := by have h : Rep K H (.int i) v := h; rw [Rep] at h; exact h
theorem rdStr {x : Str} (h : RdAt K H (.str x) v) : v = .str x := by have h : Rep K H (.str x) v := h; rw [Rep] at h; exact h
theorem rdTup {ds : List D} (h : RdAt K H (.tup ds) v) : ∃ a xs, v = .ref a ∧ H a = some (.tup xs) ∧ Reps K H ds xs := by have h : Rep K H (.tup ds) v := h; rw [Rep] at h; exact h
theorem rdKtp {ds : List D} (h : RdAt K H (.ktp ds) v) : ∃ a xs, v = .ref a ∧ KTu K a xs ∧ Reps K H ds xs := by have h : Rep K H (.ktp ds) v := h; rw [Rep] at h; exact h
theorem rdKls {ds : List D} (h : RdAt K H (.kls ds) v) : ∃ a xs, v = .ref a ∧ KLi K a xs ∧ Reps K H ds xs := by have h : Rep K H (.kls ds) v := h; rw [Rep] at h; exact h
theorem rdTy {n : String} (h : RdAt K H (.ty n) v) : v = .ty n := by have h : Rep K H (.ty n) v := h; rw [Rep] at h; exact h
theorem roInt {i : Int} : ResOk K H H' (.int i) (.val (.int i)) := by show Rep _ _ _ _; rw [Rep]
theorem roBl {b : Bool} : ResOk K H H' (.bl b) (.val (.bl b)) := by show Rep _ _ _ _; rw [Rep]
theorem roStr {x : Str} : ResOk K H H' (.str x) (.val (.str x)) := by show Rep _ _ _ _; rw [Rep]
theorem roNon : ResOk K H H' .non (.val .non) := by show Rep _ _ _ _; rw [Rep]
/-- a new tuple, a new list -/
theorem roTup {ds : List D} {xs : List V} {p : Addr} (r : Reps K H ds xs) (hp : H p = none) : ResOk K H (upd H p (.tup xs)) (.ref p) (.val (.tup ds)) := by
  show Rep _ _ _ _
  rw [Rep]
  exact ⟨p, xs, rfl, upd_same, Reps.mono (.same (same_new hp)) _ _ r⟩
theorem roLst {ds : List D} {xs : List V} {p : Addr} (r : Reps K H ds xs) (hp : H p = none) : ResOk K H (upd H p (.lst xs)) (.ref p) (.new (.lst ds)) :=
  ⟨p, rfl, hp, xs, upd_same, Reps.mono (.same (same_new hp)) _ _ r⟩
theorem roOld {ds : List D} {xs : List V} {a : Addr} (h : H a = some (.tup xs)) (r : Reps K H ds xs) : ResOk K H H (.ref a) (.val (.tup ds)) := by
  show Rep _ _ _ _
  rw [Rep]
  exact ⟨a, xs, rfl, h, r⟩
theorem Reps.append : ∀ {ds es : List D} {xs ys : List V}, Reps K H ds xs → Reps K H es ys → Reps K H (ds ++ es) (xs ++ ys)
  | [], _, xs, _, h, r => by rw [Reps] at h; subst h; exact r
  | d :: ds, es, xs, ys, h, r => by
    rw [Reps] at h
    obtain ⟨x, t, rfl, h1, h2⟩ := h
    show Reps K H (d :: (ds ++ es)) (x :: (t ++ ys))
    rw [Reps]
    exact ⟨x, t ++ ys, rfl, h1, Reps.append h2 r⟩
theorem Reps.take : ∀ {ds : List D} {xs : List V} (n : Nat), Reps K H ds xs → Reps K H (ds.take n) (xs.take n)
  | [], xs, n, h => by rw [Reps] at h; subst h; cases n <;> simp [Reps]
  | d :: ds, xs, 0, h => by simp [Reps]
  | d :: ds, xs, n + 1, h => by
    rw [Reps] at h
    obtain ⟨x, t, rfl, h1, h2⟩ := h
    show Reps K H (d :: ds.take n) (x :: t.take n)
    rw [Reps]
    exact ⟨x, _, rfl, h1, Reps.take n h2⟩
theorem Reps.drop : ∀ {ds : List D} {xs : List V} (n : Nat), Reps K H ds xs → Reps K H (ds.drop n) (xs.drop n)
  | [], xs, n, h => by rw [Reps] at h; subst h; cases n <;> simp [Reps]
  | d :: ds, xs, 0, h => h
  | d :: ds, xs, n + 1, h => by
    rw [Reps] at h
    obtain ⟨x, t, rfl, h1, h2⟩ := h
    exact Reps.drop n h2
theorem Reps.dropLast : ∀ {ds : List D} {xs : List V}, Reps K H ds xs → Reps K H ds.dropLast xs.dropLast := fun {ds xs} h => by
  rw [List.dropLast_eq_take, List.dropLast_eq_take, h.length]
  exact h.take _
theorem Reps.set {d : D} {v : V} : ∀ {ds : List D} {xs : List V} (n : Nat), Rep K H d v → Reps K H ds xs → Reps K H (ds.set n d) (xs.set n v)
  | [], xs, n, _, h => by rw [Reps] at h; subst h; simp [Reps]
  | e :: ds, xs, 0, r, h => by
    rw [Reps] at h
    obtain ⟨x, t, rfl, h1, h2⟩ := h
    show Reps K H (d :: ds) (v :: t)
    rw [Reps]
    exact ⟨v, t, rfl, r, h2⟩
  | e :: ds, xs, n + 1, r, h => by
    rw [Reps] at h
    obtain ⟨x, t, rfl, h1, h2⟩ := h
    show Reps K H (e :: ds.set n d) (x :: t.set n v)
    rw [Reps]
    exact ⟨x, _, rfl, h1, Reps.set n r h2⟩
theorem Reps.flat {ds : List D} {xs : List V} (h : Reps K H ds xs) : ∀ n : Nat, Reps K H (List.replicate n ds).flatten (List.replicate n xs).flatten
  | 0 => by simp [Reps]
  | n + 1 => by
    rw [List.replicate_succ, List.replicate_succ, List.flatten_cons, List.flatten_cons]
    exact h.append (Reps.flat h n)
theorem Reps.ints : ∀ {ns : List Int} {xs : List V}, Reps K H (ns.map D.int) xs → xs = ns.map V.int
  | [], xs, h => by simpa [Reps] using h
  | n :: ns, xs, h => by
    rw [List.map_cons, Reps] at h
    obtain ⟨x, t, rfl, h1, h2⟩ := h
    rw [repInt h1, Reps.ints h2]
    rfl
theorem Reps.bls : ∀ {ns : List Bool} {xs : List V}, Reps K H (ns.map D.bl) xs → xs = ns.map V.bl
  | [], xs, h => by simpa [Reps] using h
  | n :: ns, xs, h => by
    rw [List.map_cons, Reps] at h
    obtain ⟨x, t, rfl, h1, h2⟩ := h
    have h1 : RdAt K H (.bl n) x := .of h1
    rw [rdBl h1, Reps.bls h2]
    rfl
theorem Reps.strs : ∀ {ns : List Str} {xs : List V}, Reps K H (ns.map D.str) xs → xs = ns.map V.str
  | [], xs, h => by simpa [Reps] using h
  | n :: ns, xs, h => by
    rw [List.map_cons, Reps] at h
    obtain ⟨x, t, rfl, h1, h2⟩ := h
    have h1 : RdAt K H (.str n) x := .of h1
    rw [rdStr h1, Reps.strs h2]
    rfl
end
/-- all of one sort -/
def intsD : List D → Option (List Int)
  | [] => some []
  | .int i :: r => (intsD r).map (i :: ·)
  | _ => none
theorem intsD_eq : ∀ {ds : List D} {ns : List Int}, intsD ds = some ns → ds = ns.map D.int
  | [], ns, h => by cases h; rfl
  | .int i :: r, ns, h => by
    unfold intsD at h
    obtain ⟨m, h1, h2⟩ := Option.map_eq_some_iff.mp h
    subst h2
    rw [intsD_eq h1]
    rfl
  | .non :: _, _, h | .bl _ :: _, _, h | .str _ :: _, _, h | .adr _ :: _, _, h | .ty _ :: _, _, h | .tup _ :: _, _, h | .lst _ :: _, _, h | .dct _ _ _ :: _, _, h | .ktp _ :: _, _, h | .kls _ :: _, _, h => by cases h
def blsD : List D → Option (List Bool)
  | [] => some []
  | .bl i :: r => (blsD r).map (i :: ·)
  | _ => none
theorem blsD_eq : ∀ {ds : List D} {ns : List Bool}, blsD ds = some ns → ds = ns.map D.bl
  | [], ns, h => by cases h; rfl
  | .bl i :: r, ns, h => by
    unfold blsD at h
    obtain ⟨m, h1, h2⟩ := Option.map_eq_some_iff.mp h
    subst h2
    rw [blsD_eq h1]
    rfl
  | .non :: _, _, h | .int _ :: _, _, h | .str _ :: _, _, h | .adr _ :: _, _, h | .ty _ :: _, _, h | .tup _ :: _, _, h | .lst _ :: _, _, h | .dct _ _ _ :: _, _, h | .ktp _ :: _, _, h | .kls _ :: _, _, h => by cases h
def strsD : List D → Option (List Str)
  | [] => some []
  | .str i :: r => (strsD r).map (i :: ·)
  | _ => none
theorem strsD_eq : ∀ {ds : List D} {ns : List Str}, strsD ds = some ns → ds = ns.map D.str
  | [], ns, h => by cases h; rfl
  | .str i :: r, ns, h => by
    unfold strsD at h
    obtain ⟨m, h1, h2⟩ := Option.map_eq_some_iff.mp h
    subst h2
    rw [strsD_eq h1]
    rfl
  | .non :: _, _, h | .int _ :: _, _, h | .bl _ :: _, _, h | .adr _ :: _, _, h | .ty _ :: _, _, h | .tup _ :: _, _, h | .lst _ :: _, _, h | .dct _ _ _ :: _, _, h | .ktp _ :: _, _, h | .kls _ :: _, _, h => by cases h

theorem Op2.alt {X : Cx} {f : Value → Value → Sem Value} {g : D → D → Option EV} {r : R2} (hr : OpR X f r)
    (h : ∀ H x y d e ev Q, RdAt X.K H d x → RdAt X.K H e y → g d e = some ev → (∀ v H', Same H H' → ResOk X.K H H' v ev → Q v H') → r x y H Q) : Op2 X f g := ⟨r, hr, h⟩
/-- the first of two readings -/
theorem Op2.or {X : Cx} {f : Value → Value → Sem Value} {g g' : D → D → Option EV} (h : Op2 X f g) (h' : Op2 X f g') : Op2 X f (fun d e => match g d e with | some r => some r | none => g' d e) := by
  obtain ⟨r, hr, hq⟩ := h
  obtain ⟨r', hr', hq'⟩ := h'
  refine ⟨_, hr.or hr', fun H x y d e ev Q rx ry hg q => ?_⟩
  cases hgd : g d e with
  | some z =>
    simp only [hgd] at hg
    cases hg
    exact .inl (hq H x y d e _ Q rx ry hgd q)
  | none =>
    simp only [hgd] at hg
    exact .inr (hq' H x y d e _ Q rx ry hg q)
theorem Op2.imp {X : Cx} {f : Value → Value → Sem Value} {g g' : D → D → Option EV} (h : Op2 X f g) (i : ∀ d e r, g' d e = some r → g d e = some r) : Op2 X f g' := by
  obtain ⟨r, hr, hq⟩ := h
  exact ⟨r, hr, fun H x y d e ev Q rx ry hg q => hq H x y d e ev Q rx ry (i _ _ _ hg) q⟩

section
variable {X : Cx}
/-! ### numbers -/
def intOp (f : Int → Int → Option EV) (d e : D) : Option EV := match d, e with
  | .int i, .int j => f i j
  | _, _ => none
theorem intOp_some {f : Int → Int → Option EV} {d e : D} {r : EV} (h : intOp f d e = some r) : ∃ i j, d = .int i ∧ e = .int j ∧ f i j = some r := by
  cases d with
  | int i =>
    cases e with
    | int j => exact ⟨i, j, rfl, rfl, h⟩
    | _ => cases h
  | _ => cases h
theorem op2_int {f : Value → Value → Sem Value} {C : Int → Int → Prop} {g : Int → Int → V} {gd : Int → Int → Option EV} (ho : OpR X f (rI C g)) (h : ∀ i j r, gd i j = some r → C i j ∧ ∀ K H, ResOk K H H (g i j) r) : Op2 X f (intOp gd) :=
  ⟨_, ho, fun H x y d e ev Q rx ry hg q => by
    obtain ⟨i, j, rfl, rfl, hg2⟩ := intOp_some hg
    obtain ⟨c, ro⟩ := h i j ev hg2
    exact ⟨i, j, rdInt rx, rdInt ry, c, q _ H (.refl H) (ro X.K H)⟩⟩
theorem op2_int0 {f : Value → Value → Sem Value} {g : Int → Int → V} {gd : Int → Int → Option EV} (ho : OpR X f (rI0 g)) (h : ∀ i j r, gd i j = some r → ∀ K H, ResOk K H H (g i j) r) : Op2 X f (intOp gd) :=
  ⟨_, ho, fun H x y d e ev Q rx ry hg q => by
    obtain ⟨i, j, rfl, rfl, hg2⟩ := intOp_some hg
    exact ⟨i, j, rdInt rx, rdInt ry, q _ H (.refl H) (h i j ev hg2 X.K H)⟩⟩
def iAdd (i j : Int) : Option EV := some (.val (.int (i + j)))
def iSub (i j : Int) : Option EV := some (.val (.int (i - j)))
noncomputable def iMul (i j : Int) : Option EV := @ite _ ((-18446744073709551616 < i ∧ i < 18446744073709551616) ∨ (-18446744073709551616 < j ∧ j < 18446744073709551616)) (Classical.propDecidable _) (some (.val (.int (i * j)))) none
noncomputable def iDiv (i j : Int) : Option EV := @ite _ (0 < j ∧ j < 1073741824) (Classical.propDecidable _) (some (.val (.int (i / j)))) none
noncomputable def iMod (i j : Int) : Option EV := @ite _ (0 < j) (Classical.propDecidable _) (some (.val (.int (i % j)))) none
noncomputable def iPow (i j : Int) : Option EV := @ite _ (0 ≤ j ∧ j ≤ 1000000 ∧ i.natAbs < 18446744073709551616) (Classical.propDecidable _) (some (.val (.int (i ^ j.toNat)))) none
noncomputable def iShl (i j : Int) : Option EV := @ite _ (0 ≤ j ∧ j ≤ 1000000 ∧ i.natAbs < 18446744073709551616) (Classical.propDecidable _) (some (.val (.int (i * 2 ^ j.toNat)))) none
theorem o_iadd : Op2 X (binaryOp .Add) (intOp iAdd) := op2_int0 op_add fun i j r h K H => by cases h; exact roInt
theorem o_isub : Op2 X (binaryOp .Sub) (intOp iSub) := op2_int0 op_sub fun i j r h K H => by cases h; exact roInt
theorem o_imul : Op2 X (binaryOp .Mult) (intOp iMul) := op2_int op_mul fun i j r h => by
  unfold iMul at h
  split at h
  · rename_i c
    cases h
    refine ⟨?_, fun K H => roInt⟩
    unfold CMul
    have : (2 : Int) ^ 64 = 18446744073709551616 := by decide
    rw [this]
    exact c
  · cases h
theorem o_idiv : Op2 X (binaryOp .FloorDiv) (intOp iDiv) := op2_int op_fdiv fun i j r h => by
  unfold iDiv at h
  split at h
  · rename_i c
    cases h
    exact ⟨c, fun K H => roInt⟩
  · cases h
theorem o_imod : Op2 X (binaryOp .Mod) (intOp iMod) := op2_int op_mod fun i j r h => by
  unfold iMod at h
  split at h
  · rename_i c
    cases h
    exact ⟨c, fun K H => roInt⟩
  · cases h
theorem o_ipow : Op2 X (binaryOp .Pow) (intOp iPow) := op2_int op_pow fun i j r h => by
  unfold iPow at h
  split at h
  · rename_i c
    cases h
    exact ⟨c, fun K H => roInt⟩
  · cases h
theorem o_ishl : Op2 X (binaryOp .LShift) (intOp iShl) := op2_int op_shl fun i j r h => by
  unfold iShl at h
  split at h
  · rename_i c
    cases h
    exact ⟨c, fun K H => roInt⟩
  · cases h
theorem o_ladd : Op2 X (inplaceOp .Add) (intOp iAdd) := op2_int0 iop_add fun i j r h K H => by cases h; exact roInt
theorem o_lsub : Op2 X (inplaceOp .Sub) (intOp iSub) := op2_int0 iop_sub fun i j r h K H => by cases h; exact roInt
def iLt (i j : Int) : Option EV := some (.val (.bl (decide (i < j))))
def iLe (i j : Int) : Option EV := some (.val (.bl (decide (i ≤ j))))
def iGt (i j : Int) : Option EV := some (.val (.bl (decide (j < i))))
def iGe (i j : Int) : Option EV := some (.val (.bl (decide (j ≤ i))))
theorem o_ilt : Op2 X (compareOp .Lt) (intOp iLt) := op2_int0 op_lt fun i j r h K H => by cases h; exact roBl
theorem o_ile : Op2 X (compareOp .LtE) (intOp iLe) := op2_int0 op_le fun i j r h K H => by cases h; exact roBl
theorem o_igt : Op2 X (compareOp .Gt) (intOp iGt) := op2_int0 op_gt fun i j r h K H => by cases h; exact roBl
theorem o_ige : Op2 X (compareOp .GtE) (intOp iGe) := op2_int0 op_ge fun i j r h K H => by cases h; exact roBl
def iNeg : D → Option EV
  | .int i => some (.val (.int (-i)))
  | _ => none
theorem o_neg : Op1 X (unaryOp .USub) iNeg := ⟨_, un_neg, fun H x d ev Q rx hg q => by
  cases d with
  | int i => cases hg; exact ⟨i, rdInt rx, q _ H (.refl H) roInt⟩
  | _ => cases hg⟩

/-! ### texts -/
def strOp (f : Str → Str → Option EV) (d e : D) : Option EV := match d, e with
  | .str i, .str j => f i j
  | _, _ => none
theorem strOp_some {f : Str → Str → Option EV} {d e : D} {r : EV} (h : strOp f d e = some r) : ∃ i j, d = .str i ∧ e = .str j ∧ f i j = some r := by
  cases d with
  | str i =>
    cases e with
    | str j => exact ⟨i, j, rfl, rfl, h⟩
    | _ => cases h
  | _ => cases h
def sAdd (x y : Str) : Option EV := if x.length + y.length ≤ 16777216 then some (.val (.str (x ++ y))) else none
theorem o_sadd : Op2 X (binaryOp .Add) (strOp sAdd) := ⟨_, op_add_str, fun H x y d e ev Q rx ry hg q => by
  obtain ⟨i, j, rfl, rfl, hg2⟩ := strOp_some hg
  unfold sAdd at hg2
  split at hg2
  · rename_i c
    cases hg2
    exact ⟨i, j, rdStr rx, rdStr ry, by rw [sizeLine_eq]; exact c, q _ H (.refl H) roStr⟩
  · cases hg2⟩
def sLe (x y : Str) : Option EV := some (.val (.bl (!decide (y.cps.toList < x.cps.toList))))
theorem o_sle : Op2 X (compareOp .LtE) (strOp sLe) := ⟨_, op_le_str, fun H x y d e ev Q rx ry hg q => by
  obtain ⟨i, j, rfl, rfl, hg2⟩ := strOp_some hg
  cases hg2
  exact ⟨i, j, rdStr rx, rdStr ry, q _ H (.refl H) roBl⟩⟩
/-- x in y, texts -/
def inS (x y : Str) : Bool := !(Builtin.Str.occurrences y x 0 y.length 1).isEmpty
def sIn (x y : Str) : Option EV := some (.val (.bl (inS x y)))
def sNotIn (x y : Str) : Option EV := some (.val (.bl (!inS x y)))
theorem o_sin : Op2 X (compareOp .In) (strOp sIn) := ⟨_, op_in_str, fun H x y d e ev Q rx ry hg q => by
  obtain ⟨i, j, rfl, rfl, hg2⟩ := strOp_some hg
  cases hg2
  exact ⟨i, j, rdStr rx, rdStr ry, q _ H (.refl H) roBl⟩⟩
theorem o_snotin : Op2 X (compareOp .NotIn) (strOp sNotIn) := ⟨_, op_notin_str, fun H x y d e ev Q rx ry hg q => by
  obtain ⟨i, j, rfl, rfl, hg2⟩ := strOp_some hg
  cases hg2
  exact ⟨i, j, rdStr rx, rdStr ry, q _ H (.refl H) roBl⟩⟩

/-! ### tuples and lists: +, * -/
def tAddD (d e : D) : Option EV := match d, e with
  | .tup a, .tup b => if a.length + b.length ≤ 16777216 then some (.val (.tup (a ++ b))) else none
  | _, _ => none
theorem o_tadd : Op2 X (binaryOp .Add) tAddD := ⟨_, op_catA, fun H x y d e ev Q rx ry hg q => by
  cases d with
  | tup a =>
    cases e with
    | tup b =>
      simp only [tAddD] at hg
      split at hg
      · rename_i c
        cases hg
        obtain ⟨p, xs, rfl, h1, r1⟩ := rdTup rx
        obtain ⟨p', ys, rfl, h2, r2⟩ := rdTup ry
        refine ⟨p, p', xs, ys, rfl, rfl, .of h1, .of h2, by rw [sizeLine_eq, ← r1.length, ← r2.length]; exact c, fun e => ?_, fun _ e => ?_, fun _ _ z hz => ?_⟩
        · have : a = [] := List.eq_nil_of_length_eq_zero (by rw [r1.length, e]; rfl)
          subst this
          exact q _ H (.refl H) (roOld h2 r2)
        · have : b = [] := List.eq_nil_of_length_eq_zero (by rw [r2.length, e]; rfl)
          subst this
          rw [List.append_nil] at q
          exact q _ H (.refl H) (roOld h1 r1)
        · exact q _ _ (same_new hz) (roTup (r1.append r2) hz)
      · cases hg
    | _ => cases hg
  | _ => cases hg⟩
theorem lstR {pins : List (Addr × Obj)} {σ : St} {H : Hp} {s : Shared} {l : Addr} {xs : List V} (I : Inv X pins σ H s) (hH : Rd H l (.lst xs)) : xs.length ≤ sizeLine ∧ ∃ (its : List Value) (n : Nat), Vals xs its ∧ xs.length = its.length ∧ s.heap.get? l = some { cls := .type "list", data := .seq its.toArray n } := by
  obtain ⟨z, its, n, r, e⟩ := hH.ok I.hok
  exact ⟨z, its, n, r, r.length, e⟩
def rCatR : R2 := fun x y H Q => ∃ l b xs zs, x = .ref l ∧ y = .ref b ∧ Rd H l (.lst xs) ∧ Rd H b (.lst zs) ∧ xs.length + zs.length ≤ sizeLine ∧ ∀ p, H p = none → Q (.ref p) (upd H p (.lst (xs ++ zs)))
theorem op_catR : OpR X (binaryOp .Add) rCatR := by
  intro pins s σ H x y v u Q I rx ry h
  obtain ⟨l, b, xs, zs, rfl, rfl, hH, hB, hz, q⟩ := h
  cases rx
  cases ry
  obtain ⟨z, its, n, r, hl, e⟩ := lstR I hH
  obtain ⟨z2, its2, n2, r2, hl2, e2⟩ := lstR I hB
  refine PySem.P.add_list e e2 ?_ (by rw [List.size_toArray, List.size_toArray]; omega)
  have ea : its.toArray ++ its2.toArray = (its ++ its2).toArray := by simp
  rw [ea]
  exact ⟨.ref _, _, Inv.lnew I (t' := s.toks) (r.append r2) (by rw [List.length_append]; omega), rfl, q _ I.fresh⟩
def lAddD (d e : D) : Option EV := match d, e with
  | .lst a, .lst b => if a.length + b.length ≤ 16777216 then some (.new (.lst (a ++ b))) else none
  | _, _ => none
theorem o_lcat : Op2 X (binaryOp .Add) lAddD := ⟨_, op_catR, fun H x y d e ev Q rx ry hg q => by
  cases d with
  | lst a =>
    cases e with
    | lst b =>
      simp only [lAddD] at hg
      split at hg
      · rename_i c
        cases hg
        obtain ⟨p, xs, rfl, h1, r1⟩ := rx
        obtain ⟨p', ys, rfl, h2, r2⟩ := ry
        refine ⟨p, p', xs, ys, rfl, rfl, h1, h2, by rw [sizeLine_eq, ← r1.length, ← r2.length]; exact c, fun z hz => ?_⟩
        exact q _ _ (same_new hz) (roLst (r1.append r2) hz)
      · cases hg
    | _ => cases hg
  | _ => cases hg⟩
/-- tuple * int, any number -/
def rRepA : R2 := fun x y H Q => ∃ l k xs, x = .ref l ∧ y = .int k ∧ H l = some (.tup xs) ∧ k ≤ 1000 ∧ -1000 ≤ k ∧ xs.length ≤ 1000 ∧ (xs = [] ∨ k = 1 → Q (.ref l) H) ∧ (¬ (xs = [] ∨ k = 1) → ∀ p, H p = none → Q (.ref p) (upd H p (.tup (List.replicate k.toNat xs).flatten)))
open PySem.Spec PyProof.Rows in
theorem op_repA : OpR X (binaryOp .Mult) rRepA := by
  intro pins s σ H x y v u Q I rx ry h
  obtain ⟨l, k, xs, rfl, rfl, hT, h1, h2, hz, q1, q2⟩ := h
  by_cases hne : xs = [] ∨ k = 1
  · have q := q1 hne
    cases rx
    obtain ⟨t, rfl⟩ := ry
    obtain ⟨its, r, ⟨⟨cls, dd, data, sl⟩, ho, hc, n, hd⟩, hs⟩ := I.tuple (.of hT)
    simp only at hc hd
    subst hc hd
    have c0 : (decide (k < -(2 ^ 63)) || decide (k ≥ 2 ^ 63)) = false := by
      rw [decide_eq_false (by omega), decide_eq_false (by omega)] <;> rfl
    have c1 : (its.toArray.isEmpty || k == 1) = true := by
      rcases hne with e | e
      · subst e; cases r; rfl
      · subst e; simp
    refine wpAny_binaryOp_repeat_ref (T := "tuple") (U := "int") (by decide) ⟨_, ho, rfl⟩ (fun s' => typeIs_int s' k t) noFill_tuple_mul F.fills_int_mul F.slot_int_rmul repeat_tuple F.slot_int_index.lookup
      (call_meets F.slot_int_rmul (typeIs_int s k t) F.entry_int_rmul (F.args_int_rmul_2 _ _) (int_rmul_tuple k t l its.toArray n dd sl)
        ⟨ho, rfl, ⟨_, ho, rfl⟩, call_meets F.slot_tuple_mul ⟨_, ho, rfl⟩ F.entry_tuple_mul (F.args_tuple_mul_2 _ _) (tuple_mul_same l its.toArray n sl dd k t c0 c1) ⟨ho, ?_⟩⟩)
    exact ⟨.ref l, H, I, rfl, q⟩
  · have q := q2 hne
    have hx : xs ≠ [] := fun e => hne (.inl e)
    have hk : k ≠ 1 := fun e => hne (.inr e)
    by_cases h2' : 2 ≤ k
    · exact op_repT pins s σ H _ _ v u Q I rx ry ⟨l, k, xs, rfl, rfl, .of hT, hx, h2', h1, hz, q⟩
    · have hk0 : k ≤ 0 := by omega
      cases rx
      obtain ⟨t, rfl⟩ := ry
      obtain ⟨its, r, ⟨⟨cls, dd, data, sl⟩, ho, hc, n, hd⟩, hs⟩ := I.tuple (.of hT)
      simp only at hc hd
      subst hc hd
      have c0 : (decide (k < -(2 ^ 63)) || decide (k ≥ 2 ^ 63)) = false := by
        rw [decide_eq_false (by omega), decide_eq_false (by omega)] <;> rfl
      have c1 : (its.toArray.isEmpty || k == 1) = false := by
        have : its.toArray.isEmpty = false := by
          cases r with
          | nil => exact absurd rfl hx
          | cons _ _ => rfl
        rw [this, Bool.false_or]
        exact beq_eq_false_iff_ne.mpr hk
      have c2 : (decide (k ≤ 0) || its.toArray.isEmpty) = true := by
        rw [decide_eq_true hk0]; rfl
      refine wpAny_binaryOp_repeat_ref (T := "tuple") (U := "int") (by decide) ⟨_, ho, rfl⟩ (fun s' => typeIs_int s' k t) noFill_tuple_mul F.fills_int_mul F.slot_int_rmul repeat_tuple F.slot_int_index.lookup
        (call_meets F.slot_int_rmul (typeIs_int s k t) F.entry_int_rmul (F.args_int_rmul_2 _ _) (int_rmul_tuple k t l its.toArray n dd sl)
          ⟨ho, rfl, ⟨_, ho, rfl⟩, call_meets F.slot_tuple_mul ⟨_, ho, rfl⟩ F.entry_tuple_mul (F.args_tuple_mul_2 _ _) (tuple_mul_nil l its.toArray n sl dd k t c0 c1 c2) ⟨ho, ?_⟩⟩)
      have e0 : k.toNat = 0 := by omega
      rw [e0] at q
      refine ⟨.ref s.heap.objs.size, _, I.laid (t' := s.toks) (o := .tup []) (fun b ob q => Heap.get?_push_of_some _ q) (Nat.le_refl _) ?_, rfl, q _ (I.hok.fresh (Nat.le_refl _))⟩
      exact ⟨Nat.zero_le _, [], .nil, ⟨_, Heap.get?_push_size _ rfl, rfl, 0, rfl⟩⟩
noncomputable def tMulD (d e : D) : Option EV := match d, e with
  | .tup a, .int k => @ite _ (k ≤ 1000 ∧ -1000 ≤ k ∧ a.length ≤ 1000) (Classical.propDecidable _) (some (.val (.tup (List.replicate k.toNat a).flatten))) none
  | _, _ => none
theorem o_tmul : Op2 X (binaryOp .Mult) tMulD := ⟨_, op_repA, fun H x y d e ev Q rx ry hg q => by
  cases d with
  | tup a =>
    cases e with
    | int k =>
      simp only [tMulD] at hg
      split at hg
      · rename_i c
        cases hg
        obtain ⟨p, xs, rfl, h1, r1⟩ := rdTup rx
        refine ⟨p, k, xs, rfl, rdInt ry, h1, c.1, c.2.1, by rw [← r1.length]; exact c.2.2, fun e => ?_, fun _ z hz => ?_⟩
        · refine q _ H (.refl H) ?_
          rcases e with e | e
          · have : a = [] := List.eq_nil_of_length_eq_zero (by rw [r1.length, e]; rfl)
            subst this
            have : (List.replicate k.toNat ([] : List D)).flatten = [] := by simp
            rw [this]
            exact roOld h1 r1
          · subst e
            have : (List.replicate (1 : Int).toNat a).flatten = a := by simp
            rw [this]
            exact roOld h1 r1
        · exact q _ _ (same_new hz) (roTup (r1.flat _) hz)
      · cases hg
    | _ => cases hg
  | _ => cases hg⟩
def rRepR : R2 := fun x y H Q => ∃ l k xs, x = .ref l ∧ y = .int k ∧ H l = some (.lst xs) ∧ -(2 ^ 63) ≤ k ∧ k < 2 ^ 63 ∧ xs.length * k.toNat ≤ sizeLine ∧
  ∀ p, H p = none → Q (.ref p) (upd H p (.lst (List.replicate k.toNat xs).flatten))
open PySem.Spec PyProof.Rows in
theorem op_repR : OpR X (binaryOp .Mult) (fun x y H Q => ∃ l k xs, x = .ref l ∧ y = .int k ∧ Rd H l (.lst xs) ∧ -(2 ^ 63) ≤ k ∧ k < 2 ^ 63 ∧ xs.length * k.toNat ≤ sizeLine ∧
  ∀ p, H p = none → Q (.ref p) (upd H p (.lst (List.replicate k.toNat xs).flatten))) := by
  intro pins s σ H x y v u Q I rx ry h
  obtain ⟨l, k, xs, rfl, rfl, hH, h1, h2, hz, q⟩ := h
  cases rx
  obtain ⟨t, rfl⟩ := ry
  obtain ⟨z, its, n, r, hl, e⟩ := lstR I hH
  have hlen : its.toArray.size * k.toNat ≤ sizeLine := by rw [List.size_toArray, ← hl]; exact hz
  have hcap : ¬ its.toArray.size * k.toNat > (2 ^ 63 - 1) / 8 := by
    have : (sizeLine : Nat) ≤ (2 ^ 63 - 1) / 8 := by decide
    omega
  have hfit : ¬ (!Builtin.List.listFitsIndex k) = true := by
    rw [fitsIndex_both h1 h2]
    exact Bool.false_ne_true
  have hlong : ¬ Builtin.List.listTooLong (its.toArray.size * k.toNat) = true := by
    rw [notLongL hlen]
    exact Bool.false_ne_true
  have hnew : List.foldl (fun x1 x2 => x1 ++ x2) #[] (List.replicate (if its.toArray.isEmpty = true then 0 else k.toNat) its.toArray) = (List.replicate k.toNat its).flatten.toArray := by
    have f0 : ∀ m : Nat, List.foldl (fun x1 x2 => x1 ++ x2) #[] (List.replicate m its.toArray) = (List.replicate m its).flatten.toArray := fun m => by
      have := foldl_rep its m []
      rw [List.nil_append] at this
      exact this
    rw [f0]
    cases its with
    | nil => simp
    | cons a r' => rw [if_neg (by simp)]
  refine wpAny_binaryOp_repeat_ref (T := "list") (U := "int") (by decide) ⟨_, e, rfl⟩ (fun s' => typeIs_int s' k t) noFill_list_mul F.fills_int_mul F.slot_int_rmul repeat_list F.slot_int_index.lookup
    (call_meets F.slot_int_rmul (typeIs_int s k t) F.entry_int_rmul (F.args_int_rmul_2 _ _) (int___rmul___int_list k t l its.toArray n)
      ⟨e, rfl, ⟨_, e, rfl⟩, call_meets F.slot_list_mul ⟨_, e, rfl⟩ F.entry_list_mul (F.args_list_mul_2 _ _) (AutoListH.list___mul___list_int_3 l its.toArray n k t hfit hcap hlong) ⟨e, ?_⟩⟩)
  rw [hnew]
  exact ⟨.ref _, _, Inv.lnew I (t' := s.toks) (r.rep k.toNat) (by rw [PyProof.Rows.lm_len_rep_flat, Nat.mul_comm]; exact hz), rfl, q _ I.fresh⟩
noncomputable def lMulD (d e : D) : Option EV := match d, e with
  | .lst a, .int k => @ite _ (k ≤ 16777216 ∧ -16777216 ≤ k ∧ a.length * k.toNat ≤ 16777216) (Classical.propDecidable _) (some (.new (.lst (List.replicate k.toNat a).flatten))) none
  | _, _ => none
theorem o_lmul : Op2 X (binaryOp .Mult) lMulD := ⟨_, op_repR, fun H x y d e ev Q rx ry hg q => by
  cases d with
  | lst a =>
    cases e with
    | int k =>
      simp only [lMulD] at hg
      split at hg
      · rename_i c
        cases hg
        obtain ⟨p, xs, rfl, h1, r1⟩ := rx
        refine ⟨p, k, xs, rfl, rdInt ry, h1, by omega, by omega, by rw [sizeLine_eq, ← r1.length]; exact c.2.2, fun z hz => ?_⟩
        exact q _ _ (same_new hz) (roLst (r1.flat _) hz)
      · cases hg
    | _ => cases hg
  | _ => cases hg⟩
/-- the operators as one function each -/
def orD (g g' : D → D → Option EV) (d e : D) : Option EV := match g d e with
  | some r => some r
  | none => g' d e
def addD (d e : D) : Option EV := match d, e with
  | .int i, .int j => iAdd i j
  | .str i, .str j => sAdd i j
  | .tup a, .tup b => tAddD (.tup a) (.tup b)
  | .lst a, .lst b => lAddD (.lst a) (.lst b)
  | _, _ => none
theorem o_add : Op2 X (binaryOp .Add) addD := ((o_iadd.or o_sadd).or (o_tadd.or o_lcat)).imp fun d e r h => by
  cases d <;> cases e <;> first | (cases h; done) | (simp only [addD, intOp, strOp, tAddD, lAddD] at h ⊢; rw [h]) | (simp only [addD, intOp, strOp, tAddD, lAddD] at h ⊢; exact h)
noncomputable def mulD (d e : D) : Option EV := match d, e with
  | .int i, .int j => iMul i j
  | .tup a, .int j => tMulD (.tup a) (.int j)
  | .lst a, .int j => lMulD (.lst a) (.int j)
  | _, _ => none
theorem o_mul : Op2 X (binaryOp .Mult) mulD := ((o_imul.or o_tmul).or o_lmul).imp fun d e r h => by
  cases d <;> cases e <;> first | (cases h; done) | (simp only [mulD, intOp, tMulD, lMulD] at h ⊢; rw [h]) | (simp only [mulD, intOp, tMulD, lMulD] at h ⊢; exact h)
end
end Fw
set_option Elab.async false
set_option linter.all false
set_option maxRecDepth 100000
set_option maxHeartbeats 4000000
/-! Fw J: equality, is, in; subscripts, slices; len, max, int, tuple, list, isinstance, any, all; append, pop, extend, x[i] = v. -/
namespace Fw
open PySem L2

/-! ### equality -/
mutual
def toP : D → PyData
  | .non => .none
  | .bl b => .bool b
  | .int i => .int i
  | .str x => .str x
  | .tup ds => .tuple (toPs ds)
  | .ktp ds => .tuple (toPs ds)
  | .lst ds => .list (toPs ds)
  | .kls ds => .list (toPs ds)
  | .adr _ => .none
  | .ty _ => .none
  | .dct _ _ _ => .none
def toPs : List D → List PyData
  | [] => []
  | d :: ds => toP d :: toPs ds
end
/-- comparable, at most so deep -/
def shD : Nat → D → Bool
  | _, .non => true
  | _, .bl _ => true
  | _, .int _ => true
  | _, .str x => PyData.strOk x
  | n + 1, .tup ds => ds.all (shD n)
  | n + 1, .ktp ds => ds.all (shD n)
  | n + 1, .lst ds => ds.all (shD n)
  | n + 1, .kls ds => ds.all (shD n)
  | _, _ => false
mutual
def eqB : D → D → Bool
  | .non, .non => true
  | .bl a, .bl b => a == b
  | .bl a, .int j => (if a then 1 else 0) == j
  | .int i, .bl b => i == (if b then 1 else 0)
  | .int i, .int j => i == j
  | .str x, .str y => x == y
  | .tup xs, .tup ys => eqBs xs ys
  | .tup xs, .ktp ys => eqBs xs ys
  | .ktp xs, .tup ys => eqBs xs ys
  | .ktp xs, .ktp ys => eqBs xs ys
  | .lst xs, .lst ys => eqBs xs ys
  | .lst xs, .kls ys => eqBs xs ys
  | .kls xs, .lst ys => eqBs xs ys
  | .kls xs, .kls ys => eqBs xs ys
  | _, _ => false
def eqBs : List D → List D → Bool
  | [], [] => true
  | x :: xs, y :: ys => eqB x y && eqBs xs ys
  | _, _ => false
end
theorem shD_all {n : Nat} {d : D} {ds : List D} (h : (d :: ds).all (shD n) = true) : shD n d = true ∧ ds.all (shD n) = true := by
  rw [List.all_cons, Bool.and_eq_true] at h
  exact h
theorem shD_ok : ∀ (n : Nat) (d : D), shD n d = true → (toP d).canLay0 = true ∧ (toP d).depth ≤ n := by
  intro n
  induction n with
  | zero =>
    intro d h
    cases d <;> first | (simp [shD] at h; done) | (simp [toP, PyData.canLay0, PyData.depth]) | skip
    simpa [shD, toP, PyData.canLay0, PyData.depth] using h
  | succ n ih =>
    have all : ∀ ds : List D, ds.all (shD n) = true → PyData.canLayAll0 (toPs ds) = true ∧ PyData.depthAll (toPs ds) ≤ n := by
      intro ds
      induction ds with
      | nil => intro _; simp [toPs, PyData.canLayAll0, PyData.depthAll]
      | cons d ds ih2 =>
        intro h
        obtain ⟨h1, h2⟩ := shD_all h
        obtain ⟨a1, a2⟩ := ih d h1
        obtain ⟨b1, b2⟩ := ih2 h2
        refine ⟨by rw [toPs, PyData.canLayAll0, a1, b1]; rfl, ?_⟩
        rw [toPs, PyData.depthAll]
        omega
    intro d h
    have seq : ∀ ds : List D, ds.all (shD n) = true → ((PyData.tuple (toPs ds)).canLay0 = true ∧ (PyData.tuple (toPs ds)).depth ≤ n + 1) ∧ ((PyData.list (toPs ds)).canLay0 = true ∧ (PyData.list (toPs ds)).depth ≤ n + 1) := fun ds h => by
      obtain ⟨a, b⟩ := all ds h
      refine ⟨⟨by simpa [PyData.canLay0] using a, ?_⟩, ⟨by simpa [PyData.canLay0] using a, ?_⟩⟩
      · rw [PyData.depth]; omega
      · rw [PyData.depth]; omega
    cases d with
    | non => simp [toP, PyData.canLay0, PyData.depth]
    | bl b => simp [toP, PyData.canLay0, PyData.depth]
    | int i => simp [toP, PyData.canLay0, PyData.depth]
    | str x => simpa [shD, toP, PyData.canLay0, PyData.depth] using h
    | adr a => simp [shD] at h
    | ty a => simp [shD] at h
    | dct t a b => simp [shD] at h
    | tup ds => rw [shD] at h; rw [toP]; exact (seq ds h).1
    | ktp ds => rw [shD] at h; rw [toP]; exact (seq ds h).1
    | lst ds => rw [shD] at h; rw [toP]; exact (seq ds h).2
    | kls ds => rw [shD] at h; rw [toP]; exact (seq ds h).2
mutual
theorem eqv_toP : ∀ (n m : Nat) (d e : D), shD n d = true → shD m e = true → PyData.eqv (toP d) (toP e) = eqB d e
  | n, m, .tup xs, e, h, h' => by
    cases n with
    | zero => simp [shD] at h
    | succ n =>
      cases m with
      | zero => cases e <;> first | (simp [shD] at h'; done) | (simp [toP, PyData.eqv, eqB])
      | succ m =>
        cases e <;> first
          | (simp [shD] at h'; done)
          | (simp only [shD] at h h'; simp only [toP, PyData.eqv, eqB]; exact eqv_toPs n m _ _ h h')
          | (simp [toP, PyData.eqv, eqB])
  | n, m, .ktp xs, e, h, h' => by
    cases n with
    | zero => simp [shD] at h
    | succ n =>
      cases m with
      | zero => cases e <;> first | (simp [shD] at h'; done) | (simp [toP, PyData.eqv, eqB])
      | succ m =>
        cases e <;> first
          | (simp [shD] at h'; done)
          | (simp only [shD] at h h'; simp only [toP, PyData.eqv, eqB]; exact eqv_toPs n m _ _ h h')
          | (simp [toP, PyData.eqv, eqB])
  | n, m, .lst xs, e, h, h' => by
    cases n with
    | zero => simp [shD] at h
    | succ n =>
      cases m with
      | zero => cases e <;> first | (simp [shD] at h'; done) | (simp [toP, PyData.eqv, eqB])
      | succ m =>
        cases e <;> first
          | (simp [shD] at h'; done)
          | (simp only [shD] at h h'; simp only [toP, PyData.eqv, eqB]; exact eqv_toPs n m _ _ h h')
          | (simp [toP, PyData.eqv, eqB])
  | n, m, .kls xs, e, h, h' => by
    cases n with
    | zero => simp [shD] at h
    | succ n =>
      cases m with
      | zero => cases e <;> first | (simp [shD] at h'; done) | (simp [toP, PyData.eqv, eqB])
      | succ m =>
        cases e <;> first
          | (simp [shD] at h'; done)
          | (simp only [shD] at h h'; simp only [toP, PyData.eqv, eqB]; exact eqv_toPs n m _ _ h h')
          | (simp [toP, PyData.eqv, eqB])
  | n, m, .non, e, h, h' => by cases e <;> first | (cases m <;> simp [shD] at h'; done) | simp [toP, PyData.eqv, eqB]
  | n, m, .bl b, e, h, h' => by cases e <;> first | (cases m <;> simp [shD] at h'; done) | simp [toP, PyData.eqv, eqB]
  | n, m, .int b, e, h, h' => by cases e <;> first | (cases m <;> simp [shD] at h'; done) | simp [toP, PyData.eqv, eqB]
  | n, m, .str b, e, h, h' => by cases e <;> first | (cases m <;> simp [shD] at h'; done) | simp [toP, PyData.eqv, eqB]
  | n, m, .adr b, e, h, h' => by cases n <;> simp [shD] at h
  | n, m, .ty b, e, h, h' => by cases n <;> simp [shD] at h
  | n, m, .dct t a b, e, h, h' => by cases n <;> simp [shD] at h
theorem eqv_toPs : ∀ (n m : Nat) (ds es : List D), ds.all (shD n) = true → es.all (shD m) = true → PyData.eqvAll (toPs ds) (toPs es) = eqBs ds es
  | _, _, [], [], _, _ => by simp [toPs, PyData.eqvAll, eqBs]
  | _, _, [], _ :: _, _, _ => by simp [toPs, PyData.eqvAll, eqBs]
  | _, _, _ :: _, [], _, _ => by simp [toPs, PyData.eqvAll, eqBs]
  | n, m, d :: ds, e :: es, h, h' => by
    obtain ⟨a1, a2⟩ := shD_all h
    obtain ⟨b1, b2⟩ := shD_all h'
    rw [toPs, toPs, PyData.eqvAll, eqBs, eqv_toP n m d e a1 b1, eqv_toPs n m ds es a2 b2]
end
mutual
theorem dp_of {K : PySem.W.Frag} {H : Hp} : ∀ (n : Nat) (d : D) (v : V), shD n d = true → Rep K H d v → Dp K H v (toP d)
  | _, .non, v, _, r => by rw [Rep] at r; subst r; exact .non
  | _, .bl b, v, _, r => by rw [Rep] at r; subst r; exact .bl b
  | _, .int b, v, _, r => by rw [Rep] at r; subst r; exact .int b
  | _, .str b, v, _, r => by rw [Rep] at r; subst r; exact .str b
  | n, .adr _, v, h, r => by cases n <;> simp [shD] at h
  | n, .ty _, v, h, r => by cases n <;> simp [shD] at h
  | n, .dct _ _ _, v, h, r => by cases n <;> simp [shD] at h
  | 0, .tup ds, v, h, r => by simp [shD] at h
  | n + 1, .tup ds, v, h, r => by
    rw [Rep] at r
    obtain ⟨a, xs, rfl, h1, h2⟩ := r
    rw [shD] at h
    exact .tup (.of h1) (dps_of n ds xs h h2)
  | 0, .ktp ds, v, h, r => by simp [shD] at h
  | n + 1, .ktp ds, v, h, r => by
    rw [Rep] at r
    obtain ⟨a, xs, rfl, h1, h2⟩ := r
    rw [shD] at h
    exact .tup h1.seq (dps_of n ds xs h h2)
  | 0, .lst ds, v, h, r => by simp [shD] at h
  | n + 1, .lst ds, v, h, r => by
    rw [Rep] at r
    obtain ⟨a, xs, rfl, h1, h2⟩ := r
    rw [shD] at h
    exact .lst h1.seq (dps_of n ds xs h h2)
  | 0, .kls ds, v, h, r => by simp [shD] at h
  | n + 1, .kls ds, v, h, r => by
    rw [Rep] at r
    obtain ⟨a, xs, rfl, h1, h2⟩ := r
    rw [shD] at h
    exact .lst h1.seq (dps_of n ds xs h h2)
theorem dps_of {K : PySem.W.Frag} {H : Hp} : ∀ (n : Nat) (ds : List D) (xs : List V), ds.all (shD n) = true → Reps K H ds xs → DpAll K H xs (toPs ds)
  | _, [], xs, _, r => by rw [Reps] at r; subst r; exact .nil
  | n, d :: ds, xs, h, r => by
    rw [Reps] at r
    obtain ⟨x, t, rfl, h1, h2⟩ := r
    obtain ⟨a1, a2⟩ := shD_all h
    exact .cons (dp_of n d x a1 h1) (dps_of n ds t a2 h2)
end
theorem dpR_of {K : PySem.W.Frag} {H : Hp} {n : Nat} {d : D} {v : V} (h : shD n d = true) (r : RdAt K H d v) : Dp K H v (toP d) := by
  cases d with
  | lst ds =>
    cases n with
    | zero => simp [shD] at h
    | succ n =>
      obtain ⟨a, xs, rfl, h1, h2⟩ := r
      rw [shD] at h
      exact .lst (.inl h1) (dps_of n ds xs h h2)
  | dct t a b => cases n <;> simp [shD] at h
  | _ => exact dp_of n _ v h r
theorem shaped_of {d : D} (h : shD 64 d = true) : SeqAt.shaped (toP d) = true := by
  obtain ⟨a, b⟩ := shD_ok 64 d h
  unfold SeqAt.shaped
  rw [a, decide_eq_true b]
  rfl
def eqD (d e : D) : Option EV := match d, e with
  | .str x, .str y => some (.val (.bl (x == y)))
  | d, e => if shD 64 d = true ∧ shD 64 e = true then some (.val (.bl (eqB d e))) else none
def neD (d e : D) : Option EV := match d, e with
  | .str x, .str y => some (.val (.bl (!(x == y))))
  | d, e => if shD 64 d = true ∧ shD 64 e = true then some (.val (.bl (!eqB d e))) else none
section
variable {X : Cx}
theorem o_eqS : Op2 X (compareOp .Eq) (strOp fun x y => some (.val (.bl (x == y)))) := ⟨_, op_eq, fun H x y d e ev Q rx ry hg q => by
  obtain ⟨i, j, rfl, rfl, hg2⟩ := strOp_some hg
  cases hg2
  rw [rdStr rx, rdStr ry]
  refine ⟨rfl, ?_⟩
  rw [dec_str]
  exact q _ H (.refl H) roBl⟩
theorem o_neS : Op2 X (compareOp .NotEq) (strOp fun x y => some (.val (.bl (!(x == y))))) := ⟨_, op_ne, fun H x y d e ev Q rx ry hg q => by
  obtain ⟨i, j, rfl, rfl, hg2⟩ := strOp_some hg
  cases hg2
  rw [rdStr rx, rdStr ry]
  refine ⟨rfl, ?_⟩
  rw [dec_str]
  exact q _ H (.refl H) roBl⟩
theorem o_eqP (hu : X.A.units + 64 < cLine) : Op2 X (compareOp .Eq) (fun d e => if shD 64 d = true ∧ shD 64 e = true then some (.val (.bl (eqB d e))) else none) := ⟨_, op_eqD hu, fun H x y d e ev Q rx ry hg q => by
  dsimp only at hg
  split at hg
  · rename_i c
    cases hg
    refine ⟨toP d, toP e, dpR_of c.1 rx, dpR_of c.2 ry, shaped_of c.1, shaped_of c.2, ?_⟩
    rw [eqv_toP 64 64 d e c.1 c.2]
    exact q _ H (.refl H) roBl
  · cases hg⟩
theorem o_neP (hu : X.A.units + 64 < cLine) : Op2 X (compareOp .NotEq) (fun d e => if shD 64 d = true ∧ shD 64 e = true then some (.val (.bl (!eqB d e))) else none) := ⟨_, op_neD hu, fun H x y d e ev Q rx ry hg q => by
  dsimp only at hg
  split at hg
  · rename_i c
    cases hg
    refine ⟨toP d, toP e, dpR_of c.1 rx, dpR_of c.2 ry, shaped_of c.1, shaped_of c.2, ?_⟩
    rw [eqv_toP 64 64 d e c.1 c.2]
    exact q _ H (.refl H) roBl
  · cases hg⟩
theorem o_eq (hu : X.A.units + 64 < cLine) : Op2 X (compareOp .Eq) eqD := (o_eqS.or (o_eqP hu)).imp fun d e r h => by
  cases d <;> cases e <;> first | exact h | (simp only [strOp]; exact h)
theorem o_ne (hu : X.A.units + 64 < cLine) : Op2 X (compareOp .NotEq) neD := (o_neS.or (o_neP hu)).imp fun d e r h => by
  cases d <;> cases e <;> first | exact h | (simp only [strOp]; exact h)

/-! ### is -/
def isNoD : D → Bool
  | .non => true
  | _ => false
theorem isNo_ok {K : PySem.W.Frag} {H : Hp} {d : D} {v : V} (r : RdAt K H d v) : decide (v = .non) = isNoD d := by
  cases d with
  | non => rw [rdNon r]; rfl
  | bl b => rw [rdBl r]; rfl
  | int b => rw [rdInt r]; rfl
  | str b => rw [rdStr r]; rfl
  | adr a => have r : Rep K H (.adr a) v := r; rw [Rep] at r; rw [r]; rfl
  | ty a => rw [rdTy r]; rfl
  | tup ds => obtain ⟨a, xs, rfl, _⟩ := rdTup r; rfl
  | ktp ds => obtain ⟨a, xs, rfl, _⟩ := rdKtp r; rfl
  | kls ds => obtain ⟨a, xs, rfl, _⟩ := rdKls r; rfl
  | lst ds => obtain ⟨a, xs, rfl, _⟩ := r; rfl
  | dct t a b => obtain ⟨a, u, xs, rfl, _⟩ := r; rfl
def isD (d e : D) : Option EV := match d, e with
  | d, .non => some (.val (.bl (isNoD d)))
  | .bl a, .bl b => some (.val (.bl (decide (a = b))))
  | _, _ => none
def isnotD (d e : D) : Option EV := match d, e with
  | d, .non => some (.val (.bl (!isNoD d)))
  | .bl a, .bl b => some (.val (.bl (!decide (a = b))))
  | _, _ => none
theorem o_is : Op2 X (compareOp .Is) isD := ⟨_, op_isN.or op_isBl, fun H x y d e ev Q rx ry hg q => by
  cases e with
  | non =>
    have hg : some (EV.val (.bl (isNoD d))) = some ev := by cases d <;> exact hg
    cases hg
    refine .inl ⟨rdNon ry, ?_⟩
    rw [isNo_ok rx]
    exact q _ H (.refl H) roBl
  | bl b =>
    cases d with
    | bl a =>
      cases hg
      exact .inr ⟨a, b, rdBl rx, rdBl ry, q _ H (.refl H) roBl⟩
    | _ => cases hg
  | _ => cases d <;> cases hg⟩
theorem o_isnot : Op2 X (compareOp .IsNot) isnotD := ⟨_, op_notN.or op_notBl, fun H x y d e ev Q rx ry hg q => by
  cases e with
  | non =>
    have hg : some (EV.val (.bl (!isNoD d))) = some ev := by cases d <;> exact hg
    cases hg
    refine .inl ⟨rdNon ry, ?_⟩
    rw [isNo_ok rx]
    exact q _ H (.refl H) roBl
  | bl b =>
    cases d with
    | bl a =>
      cases hg
      exact .inr ⟨a, b, rdBl rx, rdBl ry, q _ H (.refl H) roBl⟩
    | _ => cases hg
  | _ => cases d <;> cases hg⟩

/-! ### built-ins -/
theorem CallB.of {f : Value} {g : List D → Option EV} {r : List V → Hp → VK → Prop} (hr : CallR X f r)
    (h : ∀ H xs ds ev Q, Paired (fun v d => RdAt X.K H d v) xs ds → g ds = some ev → (∀ v H', Same H H' → ResOk X.K H H' v ev → Q v H') → r xs H Q) : CallB X f g := ⟨r, hr, h⟩
theorem CallB.or {f : Value} {g g' : List D → Option EV} (h : CallB X f g) (h' : CallB X f g') : CallB X f (fun ds => match g ds with | some r => some r | none => g' ds) := by
  obtain ⟨r, hr, hq⟩ := h
  obtain ⟨r', hr', hq'⟩ := h'
  refine ⟨_, hr.or hr', fun H xs ds ev Q rx hg q => ?_⟩
  cases hgd : g ds with
  | some z =>
    simp only [hgd] at hg
    cases hg
    exact .inl (hq H xs ds _ Q rx hgd q)
  | none =>
    simp only [hgd] at hg
    exact .inr (hq' H xs ds _ Q rx hg q)
theorem CallB.imp {f : Value} {g g' : List D → Option EV} (h : CallB X f g) (i : ∀ ds r, g' ds = some r → g ds = some r) : CallB X f g' := by
  obtain ⟨r, hr, hq⟩ := h
  exact ⟨r, hr, fun H xs ds ev Q rx hg q => hq H xs ds ev Q rx (i _ _ hg) q⟩
theorem pair1 {α β : Type} {R : α → β → Prop} {xs : List α} {d : β} (h : Paired R xs [d]) : ∃ x, xs = [x] ∧ R x d := by
  cases h with
  | cons r t => cases t; exact ⟨_, rfl, r⟩
theorem pair2 {α β : Type} {R : α → β → Prop} {xs : List α} {d e : β} (h : Paired R xs [d, e]) : ∃ x y, xs = [x, y] ∧ R x d ∧ R y e := by
  cases h with
  | cons r t =>
    cases t with
    | cons r' t => cases t; exact ⟨_, _, rfl, r, r'⟩
theorem pair3 {α β : Type} {R : α → β → Prop} {xs : List α} {d e f : β} (h : Paired R xs [d, e, f]) : ∃ x y z, xs = [x, y, z] ∧ R x d ∧ R y e ∧ R z f := by
  cases h with
  | cons r t =>
    cases t with
    | cons r' t =>
      cases t with
      | cons r'' t => cases t; exact ⟨_, _, _, rfl, r, r', r''⟩
def bLen : List D → Option EV
  | [.str x] => if x.length ≤ 16777216 then some (.val (.int (x.length : Nat))) else none
  | [.tup ds] => some (.val (.int (ds.length : Nat)))
  | [.ktp ds] => some (.val (.int (ds.length : Nat)))
  | [.lst ds] => some (.val (.int (ds.length : Nat)))
  | [.kls ds] => some (.val (.int (ds.length : Nat)))
  | _ => none
theorem c_len : CallB X (.builtin "len") bLen := .of call_len fun H xs ds ev Q rx hg q => by
  cases ds with
  | nil => cases hg
  | cons d t =>
    cases t with
    | cons _ _ => cases d <;> cases hg
    | nil =>
      obtain ⟨x, rfl, r⟩ := pair1 rx
      cases d with
      | str z =>
        simp only [bLen] at hg
        split at hg
        · rename_i c
          cases hg
          exact ⟨x, z.length, rfl, by rw [rdStr r]; exact ⟨by rw [sizeLine_eq]; exact c, rfl⟩, q _ H (.refl H) roInt⟩
        · cases hg
      | tup l =>
        cases hg
        obtain ⟨a, xs, rfl, h1, h2⟩ := rdTup r
        exact ⟨_, l.length, rfl, .inr ⟨xs, .of h1, h2.length⟩, q _ H (.refl H) roInt⟩
      | ktp l =>
        cases hg
        obtain ⟨a, xs, rfl, h1, h2⟩ := rdKtp r
        exact ⟨_, l.length, rfl, .inr ⟨xs, h1.seq, h2.length⟩, q _ H (.refl H) roInt⟩
      | lst l =>
        cases hg
        obtain ⟨a, xs, rfl, h1, h2⟩ := r
        exact ⟨_, l.length, rfl, .inl ⟨xs, .inl h1, h2.length⟩, q _ H (.refl H) roInt⟩
      | kls l =>
        cases hg
        obtain ⟨a, xs, rfl, h1, h2⟩ := rdKls r
        exact ⟨_, l.length, rfl, .inl ⟨xs, h1.seq, h2.length⟩, q _ H (.refl H) roInt⟩
      | _ => cases hg
def bAbs : List D → Option EV
  | [.int i] => some (.val (.int (if i < 0 then -i else i)))
  | _ => none
theorem c_abs : CallB X (.builtin "abs") bAbs := .of call_abs fun H xs ds ev Q rx hg q => by
  unfold bAbs at hg
  split at hg
  · cases hg
    obtain ⟨x, rfl, r⟩ := pair1 rx
    exact ⟨_, by rw [rdInt r], q _ H (.refl H) roInt⟩
  · cases hg
def bInt : List D → Option EV
  | [.int i] => some (.val (.int i))
  | [.bl b] => some (.val (.int (if b then 1 else 0)))
  | _ => none
theorem c_int : CallB X (.type "int") bInt := .of call_int1 fun H xs ds ev Q rx hg q => by
  unfold bInt at hg
  split at hg
  · cases hg
    obtain ⟨x, rfl, r⟩ := pair1 rx
    exact .inl ⟨_, by rw [rdInt r], q _ H (.refl H) roInt⟩
  · cases hg
    obtain ⟨x, rfl, r⟩ := pair1 rx
    exact .inr ⟨_, by rw [rdBl r], q _ H (.refl H) roInt⟩
  · cases hg
theorem call_max3 (hc : X.calm = true) : CallR X (.builtin "max") (fun xs H Q => ∃ i j k, xs = [.int i, .int j, .int k] ∧ Q (.int (max (max i j) k)) H) := by
  intro pins s σ H xs us Q I r h
  obtain ⟨i, j, k, rfl, q⟩ := h
  obtain ⟨u1, u2, u3, rfl, ⟨t1, rfl⟩, ⟨t2, rfl⟩, ⟨t3, rfl⟩⟩ : ∃ u1 u2 u3, us = [u1, u2, u3] ∧ RelV (.int i) u1 ∧ RelV (.int j) u2 ∧ RelV (.int k) u3 := by
    cases r with
    | cons r1 t =>
      cases t with
      | cons r2 t =>
        cases t with
        | cons r3 t => cases t; exact ⟨_, _, _, rfl, r1, r2, r3⟩
  refine PySem.max_three_ints (I.ok.hd hc) fun h' tk k' => ⟨_, H, I.kept k', ?_, q⟩
  by_cases h1 : j > i
  · rw [if_pos h1]
    by_cases h2 : k > j
    · rw [if_pos h2]; exact ⟨t3, by congr 1; omega⟩
    · rw [if_neg h2]; exact ⟨t2, by congr 1; omega⟩
  · rw [if_neg h1]
    by_cases h2 : k > i
    · rw [if_pos h2]; exact ⟨t3, by congr 1; omega⟩
    · rw [if_neg h2]; exact ⟨t1, by congr 1; omega⟩
/-- the greatest of a row that is not empty -/
def maxL : List Int → Int
  | [] => 0
  | [a] => a
  | a :: r => max a (maxL r)
theorem maxL_mem : ∀ {ns : List Int}, ns ≠ [] → maxL ns ∈ ns
  | [a], _ => by simp [maxL]
  | a :: b :: r, _ => by
    have h := maxL_mem (ns := b :: r) (by simp)
    rw [maxL]
    · by_cases c : maxL (b :: r) ≤ a
      · rw [Int.max_eq_left c]; exact List.mem_cons_self
      · rw [Int.max_eq_right (by omega)]; exact List.mem_cons_of_mem _ h
    · exact fun z => nomatch z
theorem maxL_ge : ∀ {ns : List Int} {y : Int}, y ∈ ns → y ≤ maxL ns
  | [a], y, h => by simp at h; subst h; simp [maxL]
  | a :: b :: r, y, h => by
    rw [maxL]
    · rcases List.mem_cons.mp h with z | z
      · subst z; exact Int.le_max_left _ _
      · exact Int.le_trans (maxL_ge z) (Int.le_max_right _ _)
    · exact fun z => nomatch z
def bMax : List D → Option EV
  | [.int i, .int j] => some (.val (.int (max i j)))
  | [.int i, .int j, .int k] => some (.val (.int (max (max i j) k)))
  | [.lst ds] => (match intsD ds with
    | some (n :: ns) => some (.val (.int (maxL (n :: ns))))
    | _ => none)
  | _ => none
def cMaxR (X : Cx) : List V → Hp → VK → Prop := fun xs H Q => (∃ i j, xs = [.int i, .int j] ∧ Q (.int (if j > i then j else i)) H) ∨ (∃ i j k, xs = [.int i, .int j, .int k] ∧ Q (.int (max (max i j) k)) H) ∨ rMax X.K xs H Q
theorem c_max (hc : X.calm = true) : CallB X (.builtin "max") bMax := .of (r := cMaxR X) ((call_max2 hc).or ((call_max3 hc).or (cr_max hc))) fun H xs ds ev Q rx hg q => by
  unfold bMax at hg
  split at hg
  · cases hg
    obtain ⟨x, y, rfl, r1, r2⟩ := pair2 rx
    refine .inl ⟨_, _, by rw [rdInt r1, rdInt r2], ?_⟩
    rename_i i j
    have e : (if j > i then j else i) = max i j := by split <;> omega
    rw [e]
    exact q _ H (.refl H) roInt
  · cases hg
    obtain ⟨x, y, z, rfl, r1, r2, r3⟩ := pair3 rx
    exact .inr (.inl ⟨_, _, _, by rw [rdInt r1, rdInt r2, rdInt r3], q _ H (.refl H) roInt⟩)
  · rename_i ds
    split at hg
    · rename_i n ns hn
      cases hg
      obtain ⟨x, rfl, r⟩ := pair1 rx
      obtain ⟨a, xs, rfl, h1, h2⟩ := r
      rw [intsD_eq hn] at h2
      have e := h2.ints
      subst e
      refine .inr (.inr ⟨a, n :: ns, rfl, .inl h1, by simp, fun m hm hmax => ?_⟩)
      have : m = maxL (n :: ns) := Int.le_antisymm (maxL_ge hm) (hmax _ (maxL_mem (by simp)))
      rw [this]
      exact q _ H (.refl H) roInt
    · cases hg
  · cases hg
def bTuple : List D → Option EV
  | [.lst ds] => some (.val (.tup ds))
  | [.tup ds] => some (.val (.tup ds))
  | _ => none
theorem c_tuple : CallB X (.type "tuple") bTuple := .of call_tuple_of fun H xs ds ev Q rx hg q => by
  unfold bTuple at hg
  split at hg
  · cases hg
    obtain ⟨x, rfl, r⟩ := pair1 rx
    obtain ⟨a, ys, rfl, h1, h2⟩ := r
    exact ⟨a, ys, rfl, .inl ⟨.inl h1, fun l hl => q _ _ (same_new hl) (roTup h2 hl)⟩⟩
  · cases hg
    obtain ⟨x, rfl, r⟩ := pair1 rx
    obtain ⟨a, ys, rfl, h1, h2⟩ := rdTup r
    exact ⟨a, ys, rfl, .inr ⟨.of h1, q _ H (.refl H) (roOld h1 h2)⟩⟩
  · cases hg
def bList : List D → Option EV
  | [.lst ds] => some (.new (.lst ds))
  | [.tup ds] => some (.new (.lst ds))
  | [.kls ds] => some (.new (.lst ds))
  | [.ktp ds] => some (.new (.lst ds))
  | _ => none
theorem c_list : CallB X (.type "list") bList := .of call_list_of fun H xs ds ev Q rx hg q => by
  unfold bList at hg
  split at hg
  · cases hg
    obtain ⟨x, rfl, r⟩ := pair1 rx
    obtain ⟨a, ys, rfl, h1, h2⟩ := r
    exact ⟨a, ys, rfl, .inl (.inl h1), fun l hl => q _ _ (same_new hl) (roLst h2 hl)⟩
  · cases hg
    obtain ⟨x, rfl, r⟩ := pair1 rx
    obtain ⟨a, ys, rfl, h1, h2⟩ := rdTup r
    exact ⟨a, ys, rfl, .inr (.of h1), fun l hl => q _ _ (same_new hl) (roLst h2 hl)⟩
  · cases hg
    obtain ⟨x, rfl, r⟩ := pair1 rx
    obtain ⟨a, ys, rfl, h1, h2⟩ := rdKls r
    exact ⟨a, ys, rfl, .inl h1.seq, fun l hl => q _ _ (same_new hl) (roLst h2 hl)⟩
  · cases hg
    obtain ⟨x, rfl, r⟩ := pair1 rx
    obtain ⟨a, ys, rfl, h1, h2⟩ := rdKtp r
    exact ⟨a, ys, rfl, .inr h1.seq, fun l hl => q _ _ (same_new hl) (roLst h2 hl)⟩
  · cases hg
def bAll : List D → Option EV
  | [.lst ds] => (blsD ds).map fun bs => .val (.bl (bs.all id))
  | _ => none
def bAny : List D → Option EV
  | [.lst ds] => (blsD ds).map fun bs => .val (.bl (bs.any id))
  | _ => none
theorem c_all (hc : X.calm = true) : CallB X (.builtin "all") bAll := .of (cr_all hc) fun H xs ds ev Q rx hg q => by
  unfold bAll at hg
  split at hg
  · obtain ⟨bs, hb, e⟩ := Option.map_eq_some_iff.mp hg
    subst e
    obtain ⟨x, rfl, r⟩ := pair1 rx
    obtain ⟨a, ys, rfl, h1, h2⟩ := r
    rw [blsD_eq hb] at h2
    have e := h2.bls
    subst e
    exact ⟨a, bs, rfl, .inl h1, q _ H (.refl H) roBl⟩
  · cases hg
theorem c_any (hc : X.calm = true) : CallB X (.builtin "any") bAny := .of (cr_any hc) fun H xs ds ev Q rx hg q => by
  unfold bAny at hg
  split at hg
  · obtain ⟨bs, hb, e⟩ := Option.map_eq_some_iff.mp hg
    subst e
    obtain ⟨x, rfl, r⟩ := pair1 rx
    obtain ⟨a, ys, rfl, h1, h2⟩ := r
    rw [blsD_eq hb] at h2
    have e := h2.bls
    subst e
    exact ⟨a, bs, rfl, .inl h1, q _ H (.refl H) roBl⟩
  · cases hg
/-! isinstance -/
def tyD : D → Option String
  | .non => some "NoneType"
  | .bl _ => some "bool"
  | .int _ => some "int"
  | .str _ => some "str"
  | .tup _ => some "tuple"
  | .ktp _ => some "tuple"
  | .lst _ => some "list"
  | .kls _ => some "list"
  | _ => none
theorem tyD_ok {K : PySem.W.Frag} {H : Hp} {d : D} {v : V} {t : String} (r : RdAt K H d v) (e : tyD d = some t) : TyX K H v (.type t) := by
  cases d with
  | non => cases e; rw [rdNon r]; exact .base .non
  | bl b => cases e; rw [rdBl r]; exact .base (.bl b)
  | int b => cases e; rw [rdInt r]; exact .base (.int b)
  | str b => cases e; rw [rdStr r]; exact .base (.str b)
  | tup ds => cases e; obtain ⟨a, xs, rfl, h, _⟩ := rdTup r; exact .base (.tup h)
  | ktp ds => cases e; obtain ⟨a, xs, rfl, ⟨o, its, n, h1, h2, _⟩, _⟩ := rdKtp r; exact .kTuple h1 h2
  | kls ds => cases e; obtain ⟨a, xs, rfl, ⟨o, its, n, h1, h2, _⟩, _⟩ := rdKls r; exact .kList h1 h2
  | lst ds =>
    cases e
    obtain ⟨a, xs, rfl, h | ⟨o, h⟩, _⟩ := r
    · exact .base (.lst h)
    · exact .base (.frz h)
  | dct _ _ _ => cases e
  | adr _ => cases e
  | ty _ => cases e
end
end Fw
set_option Elab.async false
set_option linter.all false
set_option maxRecDepth 100000
set_option maxHeartbeats 4000000
/-! Fw K: isinstance, subscripts, slices, in, dicts; x[i] = v, append, pop, extend. -/
namespace Fw
open PySem L2
section
variable {X : Cx}
def bIsI : List D → Option EV
  | [d, .ty n] => (match tyD d with
    | some t => (kitB t n).map fun b => .val (.bl b)
    | none => none)
  | _ => none
theorem c_isi : CallB X (.builtin "isinstance") bIsI := .of call_isi fun H xs ds ev Q rx hg q => by
  unfold bIsI at hg
  split at hg
  · rename_i d n
    split at hg
    · rename_i t ht
      obtain ⟨b, hb, e⟩ := Option.map_eq_some_iff.mp hg
      subst e
      obtain ⟨x, y, rfl, r1, r2⟩ := pair2 rx
      rw [rdTy r2]
      exact ⟨x, .ty n, .type t, .type n, b, rfl, .ty n, tyD_ok r1 ht, kit_ty hb, q _ H (.refl H) roBl⟩
    · cases hg
  · cases hg

/-! ### keys -/
def keyOf : D → Option Key
  | .int i => some (.inl i)
  | .str x => some (.inr x)
  | _ => none
def keysOf : List D → Option (List Key)
  | [] => some []
  | d :: ds => match keyOf d, keysOf ds with
    | some k, some ks => some (k :: ks)
    | _, _ => none
def tkeyOf : D → Option (List Key)
  | .tup ds => keysOf ds
  | _ => none
theorem keyOf_eq {d : D} {k : Key} (h : keyOf d = some k) : d = kD k := by
  cases d <;> first | (cases h; rfl) | cases h
theorem keysOf_eq : ∀ {ds : List D} {ks : List Key}, keysOf ds = some ks → ds = ks.map kD
  | [], ks, h => by cases h; rfl
  | d :: ds, ks, h => by
    unfold keysOf at h
    cases h1 : keyOf d with
    | none => simp only [h1] at h; cases h
    | some k =>
      cases h2 : keysOf ds with
      | none => simp only [h1, h2] at h; cases h
      | some r =>
        simp only [h1, h2] at h
        cases h
        rw [keyOf_eq h1, keysOf_eq h2]
        rfl
theorem tkeyOf_eq {d : D} {k : List Key} (h : tkeyOf d = some k) : d = ktD k := by
  cases d with
  | tup ds => unfold ktD; rw [keysOf_eq (show keysOf ds = some k from h)]
  | _ => cases h
theorem eqB_kD (a b : Key) : eqB (kD a) (kD b) = decide (a = b) := by
  cases a with
  | inl i =>
    cases b with
    | inl j => rw [kD, kD, eqB, key_ll]
    | inr y => rw [kD, kD, eqB]; · exact (decide_eq_false (fun z => nomatch z)).symm
               all_goals (intros; simp_all)
  | inr x =>
    cases b with
    | inl j => rw [kD, kD, eqB]; · exact (decide_eq_false (fun z => nomatch z)).symm
               all_goals (intros; simp_all)
    | inr y =>
      rw [kD, kD, eqB, key_rr]
      by_cases e : x = y
      · subst e; simp
      · rw [decide_eq_false e]; exact beq_eq_false_iff_ne.mpr e
theorem eqBs_kD : ∀ (a b : List Key), eqBs (a.map kD) (b.map kD) = decide (a = b)
  | [], [] => by simp [eqBs]
  | [], _ :: _ => by simp [eqBs]
  | _ :: _, [] => by simp [eqBs]
  | x :: xs, y :: ys => by
    rw [List.map_cons, List.map_cons, eqBs, eqB_kD, eqBs_kD xs ys]
    by_cases e : x = y
    · subst e; simp
    · simp [e]
theorem eqB_ktD (a b : List Key) : eqB (ktD a) (ktD b) = decide (a = b) := by
  rw [ktD, ktD, eqB, eqBs_kD]
def dFind : List D → List D → D → Option D
  | k :: ks, v :: vs, q => if eqB k q = true then some v else dFind ks vs q
  | _, _, _ => none
/-- replaced where it stands, else put behind -/
def dHas : List D → D → Bool
  | [], _ => false
  | k :: ks, q => eqB k q || dHas ks q
def dRepl : List D → List D → D → D → List D
  | k :: ks, v :: vs, q, x => (if eqB k q = true then x else v) :: dRepl ks vs q x
  | _, _, _, _ => []
def dPut (ks vs : List D) (q x : D) : List D × List D := if dHas ks q = true then (ks, dRepl ks vs q x) else (ks ++ [q], vs ++ [x])
section
variable {K : PySem.W.Frag} {H : Hp} {κ : Type} [DecidableEq κ] {f : κ → D}
theorem dFind_ok (hf : ∀ a b, eqB (f a) (f b) = decide (a = b)) (k : κ) : ∀ {kvs : List (κ × V)} {vs : List D}, Reps K H vs (kvs.map (·.2)) →
    (∃ v d, valV kvs k = some v ∧ dFind (kvs.map fun p => f p.1) vs (f k) = some d ∧ Rep K H d v) ∨ (valV kvs k = none ∧ dFind (kvs.map fun p => f p.1) vs (f k) = none)
  | [], vs, h => .inr ⟨rfl, by cases vs <;> rfl⟩
  | p :: r, [], h => by rw [Reps] at h; cases h
  | p :: r, d :: ds, h => by
    rw [List.map_cons, Reps] at h
    obtain ⟨x, t, e, h1, h2⟩ := h
    cases e
    by_cases e : p.1 = k
    · left
      refine ⟨p.2, d, valV_pos e, ?_, h1⟩
      rw [List.map_cons, dFind, hf, if_pos (decide_eq_true e)]
    · have ne : ¬ (eqB (f p.1) (f k) = true) := by rw [hf]; exact fun z => e (of_decide_eq_true z)
      rcases dFind_ok hf k (kvs := r) h2 with ⟨v, d', z1, z2, z3⟩ | ⟨z1, z2⟩
      · exact .inl ⟨v, d', by rw [valV_neg e]; exact z1, by rw [List.map_cons, dFind, if_neg ne]; exact z2, z3⟩
      · exact .inr ⟨by rw [valV_neg e]; exact z1, by rw [List.map_cons, dFind, if_neg ne]; exact z2⟩
theorem dHas_ok (hf : ∀ a b, eqB (f a) (f b) = decide (a = b)) (k : κ) : ∀ kvs : List (κ × V), dHas (kvs.map fun p => f p.1) (f k) = kvs.any fun p => decide (p.1 = k)
  | [] => rfl
  | p :: r => by rw [List.map_cons, dHas, List.any_cons, dHas_ok hf k r, hf]
theorem dRepl_ok (hf : ∀ a b, eqB (f a) (f b) = decide (a = b)) (k : κ) {x : D} {v : V} (r : Rep K H x v) : ∀ {kvs : List (κ × V)} {vs : List D}, Reps K H vs (kvs.map (·.2)) →
    Reps K H (dRepl (kvs.map fun p => f p.1) vs (f k) x) ((kvs.map fun p => if p.1 = k then (p.1, v) else p).map (·.2))
  | [], vs, h => by cases vs <;> simp [dRepl, Reps]
  | p :: t, [], h => by rw [Reps] at h; cases h
  | p :: t, d :: ds, h => by
    rw [List.map_cons, Reps] at h
    obtain ⟨y, ys, e, h1, h2⟩ := h
    cases e
    rw [List.map_cons, dRepl, List.map_cons, List.map_cons, Reps]
    refine ⟨_, _, rfl, ?_, dRepl_ok hf k r h2⟩
    rw [hf]
    by_cases e : p.1 = k
    · rw [if_pos (decide_eq_true e), if_pos e]; exact r
    · rw [if_neg (fun z => e (of_decide_eq_true z)), if_neg e]; exact h1
theorem putK_eq (kvs : List (κ × V)) (k : κ) (v : V) : putK kvs k v = if kvs.any (fun p => decide (p.1 = k)) = true then kvs.map (fun p => if p.1 = k then (p.1, v) else p) else kvs ++ [(k, v)] := by
  unfold putK
  rfl
theorem dPut_ok (hf : ∀ a b, eqB (f a) (f b) = decide (a = b)) (k : κ) {x : D} {v : V} (r : Rep K H x v) {kvs : List (κ × V)} {vs : List D} (h : Reps K H vs (kvs.map (·.2))) :
    (dPut (kvs.map fun p => f p.1) vs (f k) x).1 = (putK kvs k v).map (fun p => f p.1) ∧ Reps K H (dPut (kvs.map fun p => f p.1) vs (f k) x).2 ((putK kvs k v).map (·.2)) := by
  unfold dPut
  rw [dHas_ok hf k kvs, putK_eq]
  by_cases e : kvs.any (fun p => decide (p.1 = k)) = true
  · rw [if_pos e, if_pos e]
    refine ⟨?_, dRepl_ok hf k r h⟩
    rw [List.map_map]
    apply List.map_congr_left
    intro p _
    show f p.1 = f (if p.1 = k then (p.1, v) else p).1
    split <;> rfl
  · rw [if_neg e, if_neg e]
    refine ⟨by rw [List.map_append]; rfl, ?_⟩
    rw [List.map_append]
    exact h.append (by
      show Reps K H [x] [v]
      rw [Reps]
      exact ⟨v, [], rfl, r, by rw [Reps]⟩)
end
theorem Reps.keys {K : PySem.W.Frag} {H : Hp} : ∀ {ks : List Key} {xs : List V}, Reps K H (ks.map kD) xs → xs = ks.map kV
  | [], xs, h => by simpa [Reps] using h
  | k :: ks, xs, h => by
    rw [List.map_cons, Reps] at h
    obtain ⟨x, t, rfl, h1, h2⟩ := h
    rw [Reps.keys h2]
    cases k with
    | inl i => rw [rdInt (.of h1)]; rfl
    | inr s => rw [rdStr (.of h1)]; rfl
theorem rep_key {K : PySem.W.Frag} {H : Hp} {k : Key} {v : V} (h : RdAt K H (kD k) v) : v = kV k := by
  cases k with
  | inl i => exact rdInt h
  | inr s => exact rdStr h
theorem rep_tkey {K : PySem.W.Frag} {H : Hp} {k : List Key} {v : V} (h : RdAt K H (ktD k) v) : ∃ b, v = .ref b ∧ H b = some (.tup (k.map kV)) := by
  obtain ⟨a, xs, e, h1, h2⟩ := rdTup h
  rw [h2.keys] at h1
  exact ⟨a, e, h1⟩
/-- a right key for the sort of dict -/
def okKey (t : Bool) (q : D) : Bool := if t = true then (tkeyOf q).isSome else (keyOf q).isSome
/-- what the dict holds at a key -/
theorem dget_ok {K : PySem.W.Frag} {H : Hp} {a : Addr} {u : HO} {t : Bool} {ks vs : List D} {xs : List V} {q : D} {y : V} (hu : Rd H a u) (d : DiO u ks xs t) (r : Reps K H vs xs) (ok : okKey t q = true) (rq : RdAt K H q y) :
    ∃ o, DGet H a y o ∧ ((∃ v dv, o = some v ∧ dFind ks vs q = some dv ∧ Rep K H dv v) ∨ (o = none ∧ dFind ks vs q = none)) := by
  cases t with
  | false =>
    obtain ⟨kvs, rfl, rfl, rfl⟩ := d
    obtain ⟨k, hk⟩ := Option.isSome_iff_exists.mp (show (keyOf q).isSome = true from ok)
    have eq := keyOf_eq hk
    subst eq
    rw [rep_key rq]
    refine ⟨valV kvs k, .inl ⟨kvs, k, hu, rfl, rfl⟩, ?_⟩
    exact dFind_ok eqB_kD k r
  | true =>
    obtain ⟨kvs, rfl, rfl, rfl⟩ := d
    obtain ⟨k, hk⟩ := Option.isSome_iff_exists.mp (show (tkeyOf q).isSome = true from ok)
    have eq := tkeyOf_eq hk
    subst eq
    obtain ⟨b, rfl, hb⟩ := rep_tkey rq
    refine ⟨valV kvs k, .inr ⟨kvs, k, b, hu, rfl, hb, rfl⟩, ?_⟩
    exact dFind_ok eqB_ktD k r

/-! ### subscripts -/
def ixS (z : Str) (i : Int) : Option EV := if z.length ≤ 16777216 then (atI z.cps.toList i).map fun c => .val (.str ⟨#[c]⟩) else none
def ixL (ds : List D) (i : Int) : Option EV := (atI ds i).map .val
def ixD (d e : D) : Option EV := match d, e with
  | .tup ds, .int i => ixL ds i
  | .ktp ds, .int i => ixL ds i
  | .lst ds, .int i => ixL ds i
  | .kls ds, .int i => ixL ds i
  | .str z, .int i => ixS z i
  | .dct t ks vs, q => if okKey t q = true then (dFind ks vs q).map .val else none
  | _, _ => none
theorem reps_atI {K : PySem.W.Frag} {H : Hp} {ds : List D} {xs : List V} {i : Int} {d : D} (r : Reps K H ds xs) (h : atI ds i = some d) : ∃ x, atI xs i = some x ∧ Rep K H d x := by
  unfold atI at h ⊢
  rw [← r.length]
  cases e : ixN ds.length i with
  | none => rw [e] at h; cases h
  | some j =>
    rw [e] at h
    exact reps_at r h
open PySem.Spec PyProof.Rows in
theorem ix_dict (hu : X.A.units + 1 < cLine) : IxR X (fun x y H Q => ∃ a v, x = .ref a ∧ DGet H a y (some v) ∧ Q v H) := by
  intro value slice pins s σ H x y v u Q I rx ry h hs
  obtain ⟨a, w, rfl, g, q⟩ := h
  cases rx
  exact tail_any (dict_typeIs I g) PySem.F.slot_dict_getitem.lookup (d_getItem hu I g ry fun w' s' I' rw' => ⟨w, H, I', rw', q⟩) hs
theorem i_ix (hu : X.A.units + 1 < cLine) : Ix2 X ixD := ⟨_, ix_seq.or (ix_dict hu), fun H x y d e ev Q rx ry hg q => by
  have seqL : ∀ {ds : List D} {i : Int} {a : Addr} {xs : List V}, ixL ds i = some ev → Reps X.K H ds xs → ∃ x dv, atI xs i = some x ∧ ev = .val dv ∧ Rep X.K H dv x := fun {ds i a xs} h r => by
    obtain ⟨dv, h1, h2⟩ := Option.map_eq_some_iff.mp h
    obtain ⟨x, h3, h4⟩ := reps_atI r h1
    exact ⟨x, dv, h3, h2.symm, h4⟩
  cases d with
  | tup ds =>
    cases e with
    | int i =>
      obtain ⟨a, xs, rfl, h1, h2⟩ := rdTup rx
      obtain ⟨v, dv, h3, rfl, h4⟩ := seqL (a := a) (show ixL ds i = some ev from hg) h2
      exact .inl (.inr (.inl ⟨a, xs, i, v, rfl, rdInt ry, .of h1, h3, q _ H (.refl H) h4⟩))
    | _ => cases hg
  | ktp ds =>
    cases e with
    | int i =>
      obtain ⟨a, xs, rfl, h1, h2⟩ := rdKtp rx
      obtain ⟨v, dv, h3, rfl, h4⟩ := seqL (a := a) (show ixL ds i = some ev from hg) h2
      exact .inl (.inr (.inl ⟨a, xs, i, v, rfl, rdInt ry, h1.seq, h3, q _ H (.refl H) h4⟩))
    | _ => cases hg
  | lst ds =>
    cases e with
    | int i =>
      obtain ⟨a, xs, rfl, h1, h2⟩ := rx
      obtain ⟨v, dv, h3, rfl, h4⟩ := seqL (a := a) (show ixL ds i = some ev from hg) h2
      exact .inl (.inl ⟨a, xs, i, v, rfl, rdInt ry, .inl h1, h3, q _ H (.refl H) h4⟩)
    | _ => cases hg
  | kls ds =>
    cases e with
    | int i =>
      obtain ⟨a, xs, rfl, h1, h2⟩ := rdKls rx
      obtain ⟨v, dv, h3, rfl, h4⟩ := seqL (a := a) (show ixL ds i = some ev from hg) h2
      exact .inl (.inl ⟨a, xs, i, v, rfl, rdInt ry, h1.seq, h3, q _ H (.refl H) h4⟩)
    | _ => cases hg
  | str z =>
    cases e with
    | int i =>
      have hg : ixS z i = some ev := hg
      unfold ixS at hg
      split at hg
      · rename_i c
        obtain ⟨cc, h1, h2⟩ := Option.map_eq_some_iff.mp hg
        subst h2
        exact .inl (.inr (.inr ⟨z, i, cc, rdStr rx, rdInt ry, by rw [sizeLine_eq]; exact c, h1, q _ H (.refl H) roStr⟩))
      · cases hg
    | _ => cases hg
  | dct t ks vs =>
    have hg : (if okKey t e = true then (dFind ks vs e).map EV.val else none) = some ev := by cases e <;> exact hg
    split at hg
    · rename_i ok
      obtain ⟨dv, h1, h2⟩ := Option.map_eq_some_iff.mp hg
      subst h2
      obtain ⟨a, u, xs, rfl, hu', d, r⟩ := rx
      obtain ⟨o, g, z⟩ := dget_ok hu' d r ok ry
      rcases z with ⟨v, dv', rfl, e1, e2⟩ | ⟨_, e1⟩
      · rw [h1] at e1; cases e1
        exact .inr ⟨a, v, rfl, g, q _ H (.refl H) e2⟩
      · rw [h1] at e1; cases e1
    · cases hg
  | _ => cases e <;> cases hg⟩

/-! ### slices -/
def cutD {α : Type} (ds : List α) (lo hi : Option Int) : List α := (ds.drop (HT.sIx ds.length 0 lo)).take (HT.sIx ds.length ds.length hi - HT.sIx ds.length 0 lo)
theorem reps_cut {K : PySem.W.Frag} {H : Hp} {ds : List D} {xs : List V} (r : Reps K H ds xs) (lo hi : Option Int) : Reps K H (cutD ds lo hi) (cutV xs lo hi) := by
  unfold cutD cutV
  rw [← r.length]
  exact (r.drop _).take _
theorem cut_whole {α : Type} {ds : List α} {lo hi : Option Int} (h : HT.sIx ds.length 0 lo = 0 ∧ HT.sIx ds.length ds.length hi = ds.length) : cutD ds lo hi = ds := by
  unfold cutD
  rw [h.1, h.2]
  simp
def slD (d : D) (lo hi : Option Int) : Option EV := match d with
  | .tup ds => some (.val (.tup (cutD ds lo hi)))
  | .lst ds => some (.new (.lst (cutD ds lo hi)))
  | .str z => if z.length ≤ 16777216 then some (.val (.str (cutS z lo hi))) else none
  | _ => none
theorem SlR.or3 {r r' r'' : V → Option Int → Option Int → Hp → VK → Prop} (h : SlR X r) (h' : SlR X r') (h'' : SlR X r'') : SlR X (fun x lo hi H Q => r x lo hi H Q ∨ (r' x lo hi H Q ∨ r'' x lo hi H Q)) := SlR.or h (SlR.or h' h'')
theorem s_sl : SlS X slD := ⟨_, SlR.or3 sl_tupA sl_list sl_str, fun H x d lo hi ev Q rx hg q => by
  cases d with
  | tup ds =>
    cases hg
    obtain ⟨a, xs, rfl, h1, h2⟩ := rdTup rx
    have hl := h2.length
    refine .inl ⟨a, xs, rfl, .of h1, fun w => ?_, fun w p hp => ?_⟩
    · rw [← hl] at w
      rw [cut_whole w] at q
      exact q _ H (.refl H) (roOld h1 h2)
    · exact q _ _ (same_new hp) (roTup (reps_cut h2 lo hi) hp)
  | lst ds =>
    cases hg
    obtain ⟨a, xs, rfl, h1, h2⟩ := rx
    exact .inr (.inl ⟨a, xs, rfl, .inl h1, fun p hp => q _ _ (same_new hp) (roLst (reps_cut h2 lo hi) hp)⟩)
  | str z =>
    simp only [slD] at hg
    split at hg
    · rename_i c
      cases hg
      exact .inr (.inr ⟨z, rdStr rx, by rw [sizeLine_eq]; exact c, q _ H (.refl H) roStr⟩)
    · cases hg
  | _ => cases hg⟩

/-! ### in -/
def flatD : D → Bool
  | .non => true
  | .bl _ => true
  | .int _ => true
  | .str _ => true
  | _ => false
theorem flat_eq {K : PySem.W.Frag} {H : Hp} {d e : D} {v w : V} (fd : flatD d = true) (fe : flatD e = true) (rd : RdAt K H d v) (re : RdAt K H e w) : flatV v = true ∧ eqV v w = eqB d e := by
  cases d with
  | non =>
    rw [rdNon rd]
    cases e with
    | non => rw [rdNon re]; exact ⟨rfl, by simp [eqV, eqB]⟩
    | bl b => rw [rdBl re]; exact ⟨rfl, by simp [eqV, eqB]⟩
    | int b => rw [rdInt re]; exact ⟨rfl, by simp [eqV, eqB]⟩
    | str b => rw [rdStr re]; exact ⟨rfl, by simp [eqV, eqB]⟩
    | _ => cases fe
  | bl a =>
    rw [rdBl rd]
    cases e with
    | non => rw [rdNon re]; exact ⟨rfl, by simp [eqV, eqB]⟩
    | bl b => rw [rdBl re]; exact ⟨rfl, by simp [eqV, eqB]⟩
    | int b => rw [rdInt re]; exact ⟨rfl, by simp [eqV, eqB]⟩
    | str b => rw [rdStr re]; exact ⟨rfl, by simp [eqV, eqB]⟩
    | _ => cases fe
  | int a =>
    rw [rdInt rd]
    cases e with
    | non => rw [rdNon re]; exact ⟨rfl, by simp [eqV, eqB]⟩
    | bl b => rw [rdBl re]; exact ⟨rfl, by simp [eqV, eqB]⟩
    | int b => rw [rdInt re]; exact ⟨rfl, by simp [eqV, eqB]⟩
    | str b => rw [rdStr re]; exact ⟨rfl, by simp [eqV, eqB]⟩
    | _ => cases fe
  | str a =>
    rw [rdStr rd]
    cases e with
    | non => rw [rdNon re]; exact ⟨rfl, by simp [eqV, eqB]⟩
    | bl b => rw [rdBl re]; exact ⟨rfl, by simp [eqV, eqB]⟩
    | int b => rw [rdInt re]; exact ⟨rfl, by simp [eqV, eqB]⟩
    | str b => rw [rdStr re]; exact ⟨rfl, by simp [eqV, eqB]⟩
    | _ => cases fe
  | _ => cases fd
theorem flat_row {K : PySem.W.Frag} {H : Hp} {q : D} {w : V} (fq : flatD q = true) (rq : RdAt K H q w) : ∀ {ds : List D} {xs : List V}, ds.all flatD = true → Reps K H ds xs → xs.all flatV = true ∧ inV w xs = ds.any fun y => eqB y q
  | [], xs, _, r => by rw [Reps] at r; subst r; exact ⟨rfl, rfl⟩
  | d :: ds, xs, h, r => by
    rw [Reps] at r
    obtain ⟨x, t, rfl, h1, h2⟩ := r
    rw [List.all_cons, Bool.and_eq_true] at h
    obtain ⟨f1, e1⟩ := flat_eq h.1 fq (.of h1) rq
    obtain ⟨f2, e2⟩ := flat_row fq rq h.2 h2
    refine ⟨by rw [List.all_cons, f1, f2]; rfl, ?_⟩
    unfold inV at e2 ⊢
    rw [List.any_cons, List.any_cons, e1, e2]
def seqD : D → Option (List D)
  | .tup ds => some ds
  | .ktp ds => some ds
  | .lst ds => some ds
  | .kls ds => some ds
  | _ => none
theorem seqD_ok {K : PySem.W.Frag} {H : Hp} {d : D} {v : V} {ds : List D} (r : RdAt K H d v) (h : seqD d = some ds) : ∃ a xs, v = .ref a ∧ (SqL K H a xs ∨ SqT K H a xs) ∧ Reps K H ds xs := by
  cases d with
  | tup l => cases h; obtain ⟨a, xs, rfl, h1, h2⟩ := rdTup r; exact ⟨a, xs, rfl, .inr (.of h1), h2⟩
  | ktp l => cases h; obtain ⟨a, xs, rfl, h1, h2⟩ := rdKtp r; exact ⟨a, xs, rfl, .inr h1.seq, h2⟩
  | lst l => cases h; obtain ⟨a, xs, rfl, h1, h2⟩ := r; exact ⟨a, xs, rfl, .inl (.inl h1), h2⟩
  | kls l => cases h; obtain ⟨a, xs, rfl, h1, h2⟩ := rdKls r; exact ⟨a, xs, rfl, .inl h1.seq, h2⟩
  | _ => cases h
/-- q in c -/
def inB (q c : D) : Option Bool := match c with
  | .str z => (match q with
    | .str x => some (inS x z)
    | _ => none)
  | .dct t ks vs => if okKey t q = true then some (dFind ks vs q).isSome else none
  | c => (match seqD c with
    | some ds => if flatD q = true ∧ ds.all flatD = true then some (ds.any fun y => eqB y q) else none
    | none => none)
def inD (q c : D) : Option EV := (inB q c).map fun b => .val (.bl b)
def notInD (q c : D) : Option EV := (inB q c).map fun b => .val (.bl (!b))
theorem op_inDict (hu : X.A.units + 1 < cLine) : OpR X (compareOp .In) (fun y x H Q => ∃ a o, x = .ref a ∧ DGet H a y o ∧ Q (.bl o.isSome) H) := by
  intro pins s σ H y x u v Q I ry rx h
  obtain ⟨a, o, rfl, g, q⟩ := h
  cases rx
  exact d_in hu I g ry fun s' I' => ⟨.bl _, H, I', rfl, q⟩
theorem op_notInDict (hu : X.A.units + 1 < cLine) : OpR X (compareOp .NotIn) (fun y x H Q => ∃ a o, x = .ref a ∧ DGet H a y o ∧ Q (.bl (!o.isSome)) H) := by
  intro pins s σ H y x u v Q I ry rx h
  obtain ⟨a, o, rfl, g, q⟩ := h
  cases rx
  exact d_notIn hu I g ry fun s' I' => ⟨.bl _, H, I', rfl, q⟩
theorem inB_ok {K : PySem.W.Frag} {H : Hp} {q c : D} {y x : V} {b : Bool} (rq : RdAt K H q y) (rc : RdAt K H c x) (h : inB q c = some b) :
    (∃ i z, y = .str i ∧ x = .str z ∧ b = inS i z) ∨ (∃ a o, x = .ref a ∧ DGet H a y o ∧ b = o.isSome) ∨ (∃ a xs, x = .ref a ∧ (SqL K H a xs ∨ SqT K H a xs) ∧ flatV y = true ∧ xs.all flatV = true ∧ b = inV y xs) := by
  have sq : ∀ {ds : List D}, seqD c = some ds → (if flatD q = true ∧ ds.all flatD = true then some (ds.any fun y => eqB y q) else none) = some b → (∃ a xs, x = .ref a ∧ (SqL K H a xs ∨ SqT K H a xs) ∧ flatV y = true ∧ xs.all flatV = true ∧ b = inV y xs) := fun {ds} hs h => by
    split at h
    · rename_i f
      cases h
      obtain ⟨a, xs, rfl, h1, h2⟩ := seqD_ok rc hs
      obtain ⟨f2, e2⟩ := flat_row f.1 rq f.2 h2
      exact ⟨a, xs, rfl, h1, (flat_eq f.1 f.1 rq rq).1, f2, e2.symm⟩
    · cases h
  cases c with
  | str z =>
    cases q with
    | str i => cases h; exact .inl ⟨i, z, rdStr rq, rdStr rc, rfl⟩
    | _ => cases h
  | dct t ks vs =>
    have h : (if okKey t q = true then some (dFind ks vs q).isSome else none) = some b := h
    split at h
    · rename_i ok
      cases h
      obtain ⟨a, u, xs, rfl, hu', d, r⟩ := rc
      obtain ⟨o, g, z⟩ := dget_ok hu' d r ok rq
      refine .inr (.inl ⟨a, o, rfl, g, ?_⟩)
      rcases z with ⟨v, dv, rfl, e1, e2⟩ | ⟨rfl, e1⟩
      · rw [e1]; rfl
      · rw [e1]; rfl
    · cases h
  | tup ds => exact .inr (.inr (sq rfl h))
  | ktp ds => exact .inr (.inr (sq rfl h))
  | lst ds => exact .inr (.inr (sq rfl h))
  | kls ds => exact .inr (.inr (sq rfl h))
  | non => cases h
  | bl _ => cases h
  | int _ => cases h
  | adr _ => cases h
  | ty _ => cases h
theorem o_in (hu : X.A.units + 1 < cLine) : Op2 X (compareOp .In) inD := ⟨_, op_in_str.or ((op_inDict hu).or op_in_seq), fun H x y d e ev Q rx ry hg q => by
  obtain ⟨b, hb, rfl⟩ := Option.map_eq_some_iff.mp hg
  have fin := q (.bl b) H (.refl H) roBl
  rcases inB_ok rx ry hb with ⟨i, z, e1, e2, e3⟩ | ⟨a, o, e1, g, e3⟩ | ⟨a, xs, e1, h1, h2, h3, e3⟩
  · exact .inl ⟨i, z, e1, e2, by rw [e3] at fin; exact fin⟩
  · exact .inr (.inl ⟨a, o, e1, g, by rw [e3] at fin; exact fin⟩)
  · exact .inr (.inr ⟨a, xs, e1, h1, h2, h3, by rw [e3] at fin; exact fin⟩)⟩
theorem o_notin (hu : X.A.units + 1 < cLine) : Op2 X (compareOp .NotIn) notInD := ⟨_, op_notin_str.or ((op_notInDict hu).or op_notIn_seq), fun H x y d e ev Q rx ry hg q => by
  obtain ⟨b, hb, rfl⟩ := Option.map_eq_some_iff.mp hg
  have fin := q (.bl (!b)) H (.refl H) roBl
  rcases inB_ok rx ry hb with ⟨i, z, e1, e2, e3⟩ | ⟨a, o, e1, g, e3⟩ | ⟨a, xs, e1, h1, h2, h3, e3⟩
  · exact .inl ⟨i, z, e1, e2, by rw [e3] at fin; exact fin⟩
  · exact .inr (.inl ⟨a, o, e1, g, by rw [e3] at fin; exact fin⟩)
  · exact .inr (.inr ⟨a, xs, e1, h1, h2, h3, by rw [e3] at fin; exact fin⟩)⟩

/-! ### x[i] = v -/
def setO (o : OV) (k d : D) : Option OV := match o, k with
  | .lst ds, .int i => (ixN ds.length i).map fun j => .lst (ds.set j d)
  | .dic t ks vs, q => if okKey t q = true ∧ ks.length < 16777216 then some (.dic t (dPut ks vs q d).1 (dPut ks vs q d).2) else none
  | _, _ => none
theorem set_dict (hu : X.A.units + 1 < cLine) : PSet X (fun o i v H Q => ∃ a H', o = .ref a ∧ DPut H a i v H' ∧ Q H') := by
  intro pins s σ H o i v ov iv u Q I ro ri rv h
  obtain ⟨a, H', rfl, g, q⟩ := h
  cases ro
  exact d_setItem hu I g ri rv fun s' I' => ⟨H', I', q⟩
theorem PSet.or {t t' : TSet} (h : PSet X t) (h' : PSet X t') : PSet X (fun o i v H Q => t o i v H Q ∨ t' o i v H Q) := by
  intro pins s σ H o i v ov iv u Q I ro ri rv q
  rcases q with q | q
  · exact h pins s σ H o i v ov iv u Q I ro ri rv q
  · exact h' pins s σ H o i v ov iv u Q I ro ri rv q
theorem p_set (hu : X.A.units + 1 < cLine) : SetR X setO := ⟨_, PSet.or set_list (set_dict hu), fun H a o i v k d o' Q oa rk rd hg q => by
  cases o with
  | lst ds =>
    cases k with
    | int n =>
      obtain ⟨j, hj, e⟩ := Option.map_eq_some_iff.mp (show (ixN ds.length n).map (fun j => OV.lst (ds.set j d)) = some o' from hg)
      subst e
      obtain ⟨xs, h1, h2⟩ := oa
      refine .inl ⟨a, xs, n, j, rfl, repInt rk, h1, by rw [← h2.length]; exact hj, q _ ⟨_, upd_same, ?_⟩⟩
      have kk := kept_chg (u' := HO.lst (xs.set j v)) h1 trivial
      exact (Reps.mono kk _ _ h2).set j (Rep.mono kk _ _ rd)
    | _ => cases hg
  | dic t ks vs =>
    have hg : (if okKey t k = true ∧ ks.length < 16777216 then some (OV.dic t (dPut ks vs k d).1 (dPut ks vs k d).2) else none) = some o' := by cases k <;> exact hg
    split at hg
    · rename_i ok
      cases hg
      obtain ⟨u, xs, h1, h2, h3⟩ := oa
      cases t with
      | false =>
        obtain ⟨kvs, rfl, rfl, rfl⟩ := h2
        obtain ⟨kk, hk⟩ := Option.isSome_iff_exists.mp (show (keyOf k).isSome = true from ok.1)
        have eq := keyOf_eq hk
        subst eq
        obtain ⟨e1, e2⟩ := dPut_ok eqB_kD kk rd h3
        have hl : kvs.length < sizeLine := by have := ok.2; rw [List.length_map] at this; rw [sizeLine_eq]; exact this
        refine .inr ⟨a, _, rfl, ?_, q (.dK (putK kvs kk v)) ⟨_, _, upd_same, ⟨putK kvs kk v, rfl, e1, rfl⟩, Reps.mono (kept_chg h1 trivial) _ _ e2⟩⟩
        rw [rep_key (.of rk)]
        exact .k h1 hl
      | true =>
        obtain ⟨kvs, rfl, rfl, rfl⟩ := h2
        obtain ⟨kk, hk⟩ := Option.isSome_iff_exists.mp (show (tkeyOf k).isSome = true from ok.1)
        have eq := tkeyOf_eq hk
        subst eq
        obtain ⟨e1, e2⟩ := dPut_ok eqB_ktD kk rd h3
        have hl : kvs.length < sizeLine := by have := ok.2; rw [List.length_map] at this; rw [sizeLine_eq]; exact this
        obtain ⟨b, rfl, hb⟩ := rep_tkey (.of rk)
        exact .inr ⟨a, _, rfl, .t h1 hb hl, q (.dT (putK kvs kk v)) ⟨_, _, upd_same, ⟨putK kvs kk v, rfl, e1, rfl⟩, Reps.mono (kept_chg h1 trivial) _ _ e2⟩⟩
    · cases hg⟩
def getO (o : OV) (k : D) : Option D := match o, k with
  | .lst ds, .int i => atI ds i
  | .dic t ks vs, q => if okKey t q = true then dFind ks vs q else none
  | _, _ => none
open PySem.Spec PyProof.Rows in
theorem get_list : PGet X (rIxL X.K) := by
  intro pins s σ H x y v u Q I rx ry h
  obtain ⟨p, xs, i, z, rfl, rfl, hq, he, q⟩ := h
  cases rx
  obtain ⟨t, rfl⟩ := ry
  obtain ⟨its, r, pl, hz⟩ := I.list hq
  obtain ⟨j, h1, h2, h3, h4, h5⟩ := atI_get he
  obtain ⟨w, ew, rw'⟩ := r.get h2
  have hl := r.length
  have hn := line63
  have fin : EP X pins σ Q w s := ⟨z, H, I, rw', q⟩
  by_cases h0 : 0 ≤ i
  · have hj : i.toNat = j := by
      rw [seqIndex_of h0 h5] at h1
      exact Option.some.inj h1
    exact wpAny_getItem_list pl.isList h0 (by omega) (by rw [hj]; simpa using ew) fin
  · have hj : (i + (its.toArray.size : Int)).toNat = j := by
      rw [seqIndex_neg (by omega) h4] at h1
      rw [List.size_toArray, ← hl]
      exact Option.some.inj h1
    exact wpAny_getItem_list_neg pl.isList (by omega) (by rw [List.size_toArray] <;> omega) (by omega) (by rw [hj]; simpa using ew) fin
theorem get_dict (hu : X.A.units + 1 < cLine) : PGet X (fun x y H Q => ∃ a v, x = .ref a ∧ DGet H a y (some v) ∧ Q v H) := by
  intro pins s σ H x y v u Q I rx ry h
  obtain ⟨a, w, rfl, g, q⟩ := h
  cases rx
  exact d_getItem hu I g ry fun w' s' I' rw' => ⟨w, H, I', rw', q⟩
theorem p_get (hu : X.A.units + 1 < cLine) : GetR X getO := ⟨fun x y H Q => rIxL X.K x y H Q ∨ ∃ a v, x = .ref a ∧ DGet H a y (some v) ∧ Q v H, fun pins s σ H x y v u Q I rx ry h => h.elim (get_list pins s σ H x y v u Q I rx ry) (get_dict hu pins s σ H x y v u Q I rx ry), fun H a o i k d Q oa rk hg q => by
  cases o with
  | lst ds =>
    cases k with
    | int n =>
      obtain ⟨xs, h1, h2⟩ := oa
      obtain ⟨x, h3, h4⟩ := reps_atI h2 (show atI ds n = some d from hg)
      exact .inl ⟨a, xs, n, x, rfl, repInt rk, .of h1, h3, q x h4⟩
    | _ => cases hg
  | dic t ks vs =>
    have hg : (if okKey t k = true then dFind ks vs k else none) = some d := by cases k <;> exact hg
    split at hg
    · rename_i ok
      obtain ⟨u, xs, h1, h2, h3⟩ := oa
      obtain ⟨o, g, z⟩ := dget_ok (.inl h1) h2 h3 ok (.of rk)
      rcases z with ⟨v, dv, rfl, e1, e2⟩ | ⟨_, e1⟩
      · rw [hg] at e1; cases e1
        exact .inr ⟨a, v, rfl, g, q v e2⟩
      · rw [hg] at e1; cases e1
    · cases hg⟩

/-! ### methods of lists -/
def gAppend (o : OV) (as : List D) : Option (D × OV) := match o, as with
  | .lst ds, [d] => if ds.length < 16777216 then some (.non, .lst (ds ++ [d])) else none
  | _, _ => none
theorem m_append : MutV X "list.append" gAppend := ⟨_, mt_append, fun H a o xs ds d o' Q oa r hg q => by
  unfold gAppend at hg
  split at hg
  · rename_i l d0
    split at hg
    · rename_i c
      cases hg
      obtain ⟨ys, h1, h2⟩ := oa
      rw [Reps] at r
      obtain ⟨x, t, rfl, r1, r2⟩ := r
      rw [Reps] at r2
      subst r2
      refine ⟨a, ys, x, rfl, rfl, h1, by rw [sizeLine_eq, ← h2.length]; exact c, q .non _ ⟨_, upd_same, ?_⟩ (by rw [Rep])⟩
      have kk := kept_chg (u' := HO.lst (ys ++ [x])) h1 trivial
      exact Reps.snoc (Reps.mono kk _ _ h2) (Rep.mono kk _ _ r1)
    · cases hg
  · cases hg⟩
def gPop (o : OV) (as : List D) : Option (D × OV) := match o, as with
  | .lst ds, [] => (ds[ds.length - 1]?).map fun d => (d, .lst ds.dropLast)
  | _, _ => none
theorem m_pop : MutB X "list.pop" gPop := ⟨_, mt_pop, fun H a o xs ds d o' Q oa r hg q => by
  unfold gPop at hg
  split at hg
  · rename_i l
    obtain ⟨d0, h0, e⟩ := Option.map_eq_some_iff.mp hg
    cases e
    obtain ⟨ys, h1, h2⟩ := oa
    cases r
    obtain ⟨x, e1, e2⟩ := reps_at h2 h0
    have kk := kept_chg (u' := HO.lst ys.dropLast) h1 trivial
    refine ⟨a, ys, x, rfl, rfl, h1, by rw [← h2.length]; exact e1, q x _ ⟨_, upd_same, (Reps.mono kk _ _ h2).dropLast⟩ (Rep.mono kk _ _ e2)⟩
  · cases hg⟩
def gPopAt (o : OV) (as : List D) : Option (D × OV) := match o, as with
  | .lst ds, [.int i] => if -16777216 ≤ i ∧ i ≤ 16777216 then (ixN ds.length i).bind fun j => (ds[j]?).map fun d => (d, .lst (ds.eraseIdx j)) else none
  | _, _ => none
theorem Reps.erase {K : PySem.W.Frag} {H : Hp} {ds : List D} {xs : List V} (j : Nat) (h : Reps K H ds xs) : Reps K H (ds.eraseIdx j) (xs.eraseIdx j) := by
  rw [List.eraseIdx_eq_take_drop_succ, List.eraseIdx_eq_take_drop_succ]
  exact (h.take j).append (h.drop (j + 1))
theorem m_popAt : MutB X "list.pop" gPopAt := ⟨_, mt_popAt, fun H a o xs ds d o' Q oa r hg q => by
  unfold gPopAt at hg
  split at hg
  · rename_i l i
    split at hg
    · rename_i c
      obtain ⟨j, hj, hg⟩ := Option.bind_eq_some_iff.mp hg
      obtain ⟨d0, h0, e⟩ := Option.map_eq_some_iff.mp hg
      cases e
      obtain ⟨ys, h1, h2⟩ := oa
      obtain ⟨y, rfl, ry⟩ := pair1 r
      obtain ⟨x, e1, e2⟩ := reps_at h2 h0
      have kk := kept_chg (u' := HO.lst (ys.eraseIdx j)) h1 trivial
      rw [h2.length] at hj
      exact ⟨a, ys, i, j, x, rfl, by rw [rdInt ry], h1, by omega, by omega, (ixN_seq hj).1, e1, q x _ ⟨_, upd_same, (Reps.mono kk _ _ h2).erase j⟩ (Rep.mono kk _ _ e2)⟩
    · cases hg
  · cases hg⟩
end
end Fw
set_option linter.all false
set_option maxRecDepth 100000
namespace Fw
open PySem L2
section
variable {X : Cx} {W : WX} {a b c e : Expr} {es : List Expr} {ma mb mc m : M EV} {mas : M (List EV)} {ta tb tc t : M Bool} {pos : Pos}
/-! ### leaves -/
theorem xV (i : Nat) {x : Str} (hN : X.N[i]? = some x := by rfl) (hv : Vis X.env.scope x := by first | exact Or.inl rfl | exact Or.inr (Or.inl rfl) | exact Or.inr (Or.inr rfl)) (hd : (x == ("__debug__" : Str)) = false := by rfl)
    (hcd : (x == ("__classdict__" : Str)) = false := by rfl) : ME X W (.Name x pos) (mVar i) := me_var (pe_var hN hv hd hcd)
theorem xI {i : Int} {j : Nat} : ME X W (.Constant (.int i) j pos) (M.pure (.val (.int i))) := me_val (fun H => by rw [Rep]) pe_int
theorem xB {i : Bool} {j : Nat} : ME X W (.Constant (.bool i) j pos) (M.pure (.val (.bl i))) := me_val (fun H => by rw [Rep]) pe_bl
theorem xN {j : Nat} : ME X W (.Constant .none j pos) (M.pure (.val .non)) := me_val (fun H => by rw [Rep]) pe_non
theorem xS {i : Str} {j : Nat} : ME X W (.Constant (.str i) j pos) (M.pure (.val (.str i))) := me_val (fun H => by rw [Rep]) pe_str
theorem xTy {x : Str} {T : String} (hm : X.mg x = none) (hg : Gl X x := by rfl) (hv : bootBuiltins x = some (.type T) := by rfl) (hn : x ≠ "__name__" := by decide +kernel) (hdb : (x == ("__debug__" : Str)) = false := by rfl) : ME X W (.Name x pos) (M.pure (.val (.ty T))) :=
  me_val (fun H => by rw [Rep]) (pe_bltn hg hm hv (v := .ty T) rfl hn hdb)
/-! ### argument lists -/
theorem xA (ha : ME X W e m) (hr : MA X W es mas) (hs : starEach (e :: es) X.env = (false, eval e X.env) :: starEach es X.env := by rfl) : MA X W (e :: es) (mCons m mas) := ma_cons ha hr hs
/-! ### tests -/
theorem xW (h : MW X W e t) : MT X W e t := h.pt
theorem xTr (ha : ME X W a ma) (he : ∀ whole, isTrue a X.env whole = (do let v ← whole; standAt a.pos; holding [v] (truthy v)) := by intro _; rfl) : MT X W a (mTru ma) := mt_tru ha he
/-! ### calls -/
theorem xCB {x : Str} {p : Pos} {id : String} {g : List D → Option EV} (hc : CallB X (.builtin id) g) (hm : X.mg x = none) (ha : MA X W (e :: es) mas) (hg : Gl X x := by rfl) (hv : bootBuiltins x = some (.builtin id) := by rfl) (hn : x ≠ "__name__" := by decide +kernel) (hdb : (x == ("__debug__" : Str)) = false := by rfl)
    (he : starEach (e :: es) X.env = (false, eval e X.env) :: starEach es X.env := by rfl) (hpl : (backTo pos (starEach es X.env)).any (·.1) = false := by rfl) : ME X W (.Call (.Name x p) (e :: es) [] pos) (mCallB g mas) := me_callB hc hg hm hv ha hn hdb he hpl
theorem xCT {x : Str} {p : Pos} {T : String} {g : List D → Option EV} (hc : CallB X (.type T) g) (hm : X.mg x = none) (ha : MA X W (e :: es) mas) (hg : Gl X x := by rfl) (hv : bootBuiltins x = some (.type T) := by rfl) (hn : x ≠ "__name__" := by decide +kernel) (hdb : (x == ("__debug__" : Str)) = false := by rfl)
    (he : starEach (e :: es) X.env = (false, eval e X.env) :: starEach es X.env := by rfl) (hpl : (backTo pos (starEach es X.env)).any (·.1) = false := by rfl) : ME X W (.Call (.Name x p) (e :: es) [] pos) (mCallB g mas) := me_callTy hc hg hm hv ha hn hdb he hpl
theorem xC {x : Str} {p : Pos} {k j : Nat} {fm : M EV} (sig : List Bool) (F : FnGood X.prog X.w X.K X.mg X.base x sig.length k fm) (hr : Room j X.A) (tk : Takes X W) (ha : MA X W (e :: es) mas) (hk : k ≤ j := by decide) (hg : Gl X x := by rfl) (hdb : (x == ("__debug__" : Str)) = false := by rfl)
    (he : starEach (e :: es) X.env = (false, eval e X.env) :: starEach es X.env := by rfl) (hpl : (backTo pos (starEach es X.env)).any (·.1) = false := by rfl) : ME X W (.Call (.Name x p) (e :: es) [] pos) (mCallF sig fm mas) := me_call F hr hk hg tk ha hdb he hpl
theorem xMV {T id name : String} {g : OV → List D → Option (D × OV)} {x : Str} {np apos : Pos} (i : Nat) (hg : MutV X id g) (pa : PlainAttrs T) (slot : Slot T name id) (hty : typeOf (.builtin id) = pure (.type "method_descriptor")) (ha : MA X W (e :: es) mas)
    (hN : X.N[i]? = some x := by rfl) (hv : Vis X.env.scope x := by first | exact Or.inl rfl | exact Or.inr (Or.inl rfl) | exact Or.inr (Or.inr rfl)) (hd : (x == ("__debug__" : Str)) = false := by rfl) (hcd : (x == ("__classdict__" : Str)) = false := by rfl)
    (hbase : attributeBase (.Name x np) name X.env (eval (.Name x np) X.env) = eval (.Name x np) X.env := by rfl)
    (hfew : ((backTo pos (starEach (e :: es) X.env)).all (fun x => !x.1) && (backToKw pos (keywordEach [] X.env)).all (fun x => x.1.isSome)
      && decide ((e :: es).length + ([] : List Keyword).length + (if ([] : List Keyword).isEmpty then 0 else 1) < 30)) = true := by rfl)
    (hline : (apos.endLine == pos.line) = true := by rfl) (hs : starEach (e :: es) X.env = (false, eval e X.env) :: starEach es X.env := by rfl) (hplain : (backTo pos (starEach es X.env)).any (·.1) = false := by rfl) :
    ME X W (.Call (.Attribute (.Name x np) name apos) (e :: es) [] pos) (mMeth T (fun _ => vals) g i mas) := me_methV hg pa slot hty hN hv hd hcd ha hbase hfew hline hs hplain
theorem xMB {T id name : String} {g : OV → List D → Option (D × OV)} {x : Str} {np apos : Pos} (i : Nat) (hg : MutB X id g) (pa : PlainAttrs T) (slot : Slot T name id) (hty : typeOf (.builtin id) = pure (.type "method_descriptor")) (ha : MA X W (e :: es) mas)
    (hN : X.N[i]? = some x := by rfl) (hv : Vis X.env.scope x := by first | exact Or.inl rfl | exact Or.inr (Or.inl rfl) | exact Or.inr (Or.inr rfl)) (hd : (x == ("__debug__" : Str)) = false := by rfl) (hcd : (x == ("__classdict__" : Str)) = false := by rfl)
    (hbase : attributeBase (.Name x np) name X.env (eval (.Name x np) X.env) = eval (.Name x np) X.env := by rfl)
    (hfew : ((backTo pos (starEach (e :: es) X.env)).all (fun x => !x.1) && (backToKw pos (keywordEach [] X.env)).all (fun x => x.1.isSome)
      && decide ((e :: es).length + ([] : List Keyword).length + (if ([] : List Keyword).isEmpty then 0 else 1) < 30)) = true := by rfl)
    (hline : (apos.endLine == pos.line) = true := by rfl) (hs : starEach (e :: es) X.env = (false, eval e X.env) :: starEach es X.env := by rfl) (hplain : (backTo pos (starEach es X.env)).any (·.1) = false := by rfl) :
    ME X W (.Call (.Attribute (.Name x np) name apos) (e :: es) [] pos) (mMeth T rds g i mas) := me_meth hg pa slot hty hN hv hd hcd ha hbase hfew hline hs hplain
theorem xM0 {T id name : String} {g : OV → List D → Option (D × OV)} {x : Str} {np apos : Pos} (i : Nat) (hg : MutB X id g) (pa : PlainAttrs T) (slot : Slot T name id) (hty : typeOf (.builtin id) = pure (.type "method_descriptor"))
    (hN : X.N[i]? = some x := by rfl) (hv : Vis X.env.scope x := by first | exact Or.inl rfl | exact Or.inr (Or.inl rfl) | exact Or.inr (Or.inr rfl)) (hd : (x == ("__debug__" : Str)) = false := by rfl) (hcd : (x == ("__classdict__" : Str)) = false := by rfl)
    (hbase : attributeBase (.Name x np) name X.env (eval (.Name x np) X.env) = eval (.Name x np) X.env := by rfl) (hline : (apos.endLine == pos.line) = true := by rfl) :
    ME X W (.Call (.Attribute (.Name x np) name apos) [] [] pos) (mMeth0 T g i) := me_meth0 hg pa slot hty hN hv hd hcd hbase hline
/-! ### comparisons -/
theorem xCm {op : CmpOp} {g : D → D → Option EV} (ho : Op2 X (compareOp op) g) (ha : ME X W a ma) (hb : ME X W b mb) (hm : behindInMarks op b = false := by rfl) : ME X W (.Compare a [op] [b] pos) (mOp2 g ma mb) := me_cmp ho ha hb hm
theorem xCmT {op : CmpOp} {g : D → D → Option EV} (ho : Op2 X (compareOp op) g) (ha : ME X W a ma) (hb : ME X W b mb) (hm : behindInMarks op b = false := by rfl) : MT X W (.Compare a [op] [b] pos) (mB (mOp2 g ma mb)) := mt_cmp ho ha hb hm
theorem xCh {op op' : CmpOp} {g g' : D → D → Option EV} (ho : Op2 X (compareOp op) g) (ho' : Op2 X (compareOp op') g') (ha : ME X W a ma) (hb : ME X W b mb) (hc : ME X W c mc) (hm : lastMarks [op, op'] [b, c] = false := by rfl) : ME X W (.Compare a [op, op'] [b, c] pos) (mChain g g' ma mb mc) := me_chain (pos := pos) ho ho' ha hb hc hm
theorem xChT {op op' : CmpOp} {g g' : D → D → Option EV} (ho : Op2 X (compareOp op) g) (ho' : Op2 X (compareOp op') g') (ha : ME X W a ma) (hb : ME X W b mb) (hc : ME X W c mc) (hm : lastMarks [op, op'] [b, c] = false := by rfl) : MT X W (.Compare a [op, op'] [b, c] pos) (mB (mChain g g' ma mb mc)) := mt_chain (pos := pos) ho ho' ha hb hc hm
/-! ### subscripts -/
theorem xIx (hu : X.A.units + 1 < cLine) (ha : ME X W a ma) (hb : ME X W b mb) (hs : PlainIx b := by intro _ _; rfl) : ME X W (.Subscript a b pos) (mOp2 ixD ma mb) := me_ix (i_ix hu) ha hb hs
theorem xSl {lo hi : Option Expr} {ml mh : M (Option Int)} {p2 : Pos} (ha : ME X W a ma) (hl : MO X W lo ml) (hh : MO X W hi mh) : ME X W (.Subscript a (.Slice lo hi none p2) pos) (mSlice slD ma ml mh) := me_slice s_sl ha hl hh
end
section
variable {X : Cx} {W : WX} {a b c e tg iter elt : Expr} {es ifs : List Expr} {ma mb mc me m : M EV} {ta tb tc t : M Bool} {mi : M (List D)} {f : D → MS → Option MS} {pos p : Pos} {scope : Scope}
/-! ### loops and comprehensions -/
theorem xR1 (hm : X.mg "range" = none) (ha : ME X W a ma) (hg : Gl X "range" := by rfl) (hs : starEach [a] X.env = [(false, eval a X.env)] := by rfl) : MI X W tg (.Call (.Name "range" p) [a] [] pos) (mRg1 ma) := mi_range1 hg hm ha hs
theorem xR2 (hm : X.mg "range" = none) (ha : ME X W a ma) (hb : ME X W b mb) (hg : Gl X "range" := by rfl) (hs : starEach [a, b] X.env = [(false, eval a X.env), (false, eval b X.env)] := by rfl) (hs2 : starEach [b] X.env = [(false, eval b X.env)] := by rfl) : MI X W tg (.Call (.Name "range" p) [a, b] [] pos) (mRg2 ma mb) := mi_range2 hg hm ha hb hs hs2
theorem xR3 (hm : X.mg "range" = none) (ha : ME X W a ma) (hb : ME X W b mb) (hc : ME X W c mc) (hg : Gl X "range" := by rfl) (hs : starEach [a, b, c] X.env = (false, eval a X.env) :: starEach [b, c] X.env := by rfl) (hs1 : starEach [b, c] X.env = (false, eval b X.env) :: starEach [c] X.env := by rfl)
    (hs2 : starEach [c] X.env = [(false, eval c X.env)] := by rfl) (hpl : (backTo pos (starEach [b, c] X.env)).any (·.1) = false := by rfl) : MI X W tg (.Call (.Name "range" p) [a, b, c] [] pos) (mRg3 ma mb mc) := mi_range3 hg hm ha hb hc hs hs1 hs2 hpl
theorem xG {i : Nat} {x : Str} (hN : X.N.Nodup) (hi : X.N[i]? = some x := by rfl) (hx : Loc X.env.scope x := by first | exact Or.inl rfl | exact Or.inr rfl) (hf : X.fn x = true ∨ X.env.scope.names.lookup x = some .local := by first | exact Or.inl rfl | exact Or.inr rfl) : MGf X (.Name x pos) [i] (gNm i) := mg_name hN hi hx hf
theorem xGs {t : Expr} {ts : List Expr} {S T : List Nat} {f : D → MS → Option MS} {g : List D → MS → Option MS} (h1 : MGf X t S f) (h2 : MGfs X ts T g) (hs : (assignEach (t :: ts) X.env).map (·.2) = assign t X.env :: (assignEach ts X.env).map (·.2) := by rfl) : MGfs X (t :: ts) (S ++ T) (gsCons f g) := mgs_cons h1 h2 hs
theorem xGt {ts : List Expr} {k n : Nat} {S : List Nat} {g : List D → MS → Option MS} (h : MGfs X ts S g) (hc : X.calm = true := by rfl) (hn : (assignEach ts X.env).length = n := by rfl) (hst : (assignEach ts X.env).findIdx? (·.1) = none := by rfl) : MGr X (.Tuple ts k pos) S (gTp n g) := mg_tup hc h hn hst
theorem xL (own : List (Str × Nat)) (hN : X.N.Nodup) (hi : MI X W tg iter mi) (ok : BlkOk X.N X.env.scope scope own) (hg : InBlk X scope fun Y => MGf Y tg (own.map (·.2)) f) (ht : InBlk X scope fun Y => PTs Y ifs (tMT Y.K W0 t)) (he : InBlk X scope fun Y => ME Y W0 elt m)
    (hc : X.calm = true := by rfl) (hs : ∀ x, foldedSetIterable iter X.env x = pure x := by intro _; rfl) : ME X W (.ListComp elt [⟨tg, iter, ifs, 0⟩] scope pos) (mComp mi (own.map (·.2)) f t m) := me_comp hc hN hi ok hg ht he hs
/-! ### statements -/
variable {body : List Stmt} {n : MSt} {x y : Str}
theorem zEx (h : ME X W e me) (hs : swapsWith e none pos.line X.env = pure false := by rfl) : MS1 X W (.Expr e pos) (sExpr me) := ms_expr h hs
theorem zAs {pos' : Pos} (i : Nat) (hN : X.N.Nodup) (he : ME X W e me) (hi : X.N[i]? = some x := by rfl) (hx : Loc X.env.scope x := by first | exact Or.inl rfl | exact Or.inr rfl) (hs : swapsWith e (some (.Name x pos')) pos.line X.env = pure false := by rfl) (hf : X.fn x = true ∨ X.env.scope.names.lookup x = some .local := by first | exact Or.inl rfl | exact Or.inr rfl) :
    MS1 X W (.Assign [.Name x pos'] e pos) (sAsg i me) := ms_asg hN hi hx he hs hf
theorem zAc {py spos : Pos} (i : Nat) (own : List (Str × Nat)) (hN : X.N.Nodup) (hi : MI X W tg iter mi) (ok : BlkOk X.N X.env.scope scope own) (hg : InBlk X scope fun Y => MGf Y tg (own.map (·.2)) f) (ht : InBlk X scope fun Y => PTs Y ifs (tMT Y.K W0 t)) (he : InBlk X scope fun Y => ME Y W0 elt m)
    (hc : X.calm = true := by rfl) (hy : X.N[i]? = some y := by rfl) (hyl : X.env.scope.names.lookup y = some .local := by rfl) (hsw : swapsWith (.ListComp elt [⟨tg, iter, ifs, 0⟩] scope pos) (some (.Name y py)) spos.line X.env = pure true := by rfl) (hs : ∀ x, foldedSetIterable iter X.env x = pure x := by intro _; rfl) :
    MS1 X W (.Assign [.Name y py] (.ListComp elt [⟨tg, iter, ifs, 0⟩] scope pos) spos) (sAsgN i (mComp mi (own.map (·.2)) f t m)) := ms_asgC hc hN hy hyl hsw hi ok hg ht he hs
theorem zUn {S : List Nat} (hg : MGr X tg S f) (he : ME X W e me) (hs : swapsWithSole [tg] e pos.line X.env = pure false := by rfl) (hw : swappedStores [tg] e X.env = pure none := by rfl)
    (h1 : (assignEach [tg] X.env).map (·.2) = [assign tg X.env] := by rfl) : MS1 X W (.Assign [tg] e pos) (sUnp f me) := ms_unp he hg hs hw h1
theorem zAu {op : Operator} {g : D → D → Option EV} {pos' : Pos} (i : Nat) (ho : Op2 X (inplaceOp op) g) (hN : X.N.Nodup) (he : ME X W e me) (hi : X.N[i]? = some x := by rfl) (hx : Loc X.env.scope x := by first | exact Or.inl rfl | exact Or.inr rfl) (hf : X.fn x = true ∨ X.env.scope.names.lookup x = some .local := by first | exact Or.inl rfl | exact Or.inr rfl) :
    MS1 X W (.AugAssign (.Name x pos') op e pos) (sAug g i me) := ms_aug ho hN hi hx he hf
theorem zSe {ei : Expr} {mk : M EV} {pos' np : Pos} (i : Nat) (hu : X.A.units + 1 < cLine) (he : ME X W e me) (hk : ME X W ei mk) (hN : X.N[i]? = some x := by rfl) (hv : Vis X.env.scope x := by first | exact Or.inl rfl | exact Or.inr (Or.inl rfl) | exact Or.inr (Or.inr rfl)) (hd : (x == ("__debug__" : Str)) = false := by rfl) (hcd : (x == ("__classdict__" : Str)) = false := by rfl)
    (ha : ∀ v, assign (.Subscript (.Name x np) ei pos') X.env v = (do
      let ov ← holding [v] (eval (.Name x np) X.env)
      let iv ← holding [v, ov] (eval ei X.env)
      standAt pos'
      holding [v, ov, iv] (setItem ov iv v)
      release [v, ov, iv] []) := by intro _; rfl) (hs : swapsWithSole [.Subscript (.Name x np) ei pos'] e pos.line X.env = pure false := by rfl) (hw : swappedStores [.Subscript (.Name x np) ei pos'] e X.env = pure none := by rfl)
    (h1 : (assignEach [.Subscript (.Name x np) ei pos'] X.env).map (·.2) = [assign (.Subscript (.Name x np) ei pos') X.env] := by rfl) : MS1 X W (.Assign [.Subscript (.Name x np) ei pos'] e pos) (sSetI setO i mk me) := ms_setI (p_set hu) hN hv hd hcd he hk ha hs hw h1
theorem zAi {op : Operator} {gop : D → D → Option EV} {ei : Expr} {mk : M EV} {np tpos : Pos} (i : Nat) (hu : X.A.units + 1 < cLine) (ho : Op2 X (inplaceOp op) gop) (hk : ME X W ei mk) (he : ME X W e me) (hN : X.N[i]? = some x := by rfl) (hv : Vis X.env.scope x := by first | exact Or.inl rfl | exact Or.inr (Or.inl rfl) | exact Or.inr (Or.inr rfl)) (hd : (x == ("__debug__" : Str)) = false := by rfl) (hcd : (x == ("__classdict__" : Str)) = false := by rfl)
    (ha : ∀ ov iv new, augStore ei ov iv new = (do holding [new, ov, iv] (setItem ov iv new); release [new, ov, iv] []; pure .next) := by intro _ _ _; rfl) : MS1 X W (.AugAssign (.Subscript (.Name x np) ei tpos) op e pos) (sAugI getO gop setO i mk me) := ms_augI (p_get hu) ho (p_set hu) hN hv hd hcd hk he ha
theorem zFo {S : List Nat} (hp : PassesOwn (model X.prog X.w) X.A X.env X.xe) (hi : MI X W tg iter mi) (hg : MGf X tg S f) (hb : MSs X W body n) (hc : X.calm = true := by rfl) (hs : ∀ x, foldedSetIterable iter X.env x = pure x := by intro _; rfl) : MS1 X W (.For tg iter body [] pos) (sFor mi f n) := ms_for hp hc hi hg hb hs
end
end Fw
set_option linter.all false
set_option maxRecDepth 100000
namespace Fw
open PySem L2
theorem takes0 (X : Cx) : Takes X W0 := fun _ _ ⟨_, _, _, _, _, _, _, _, _, _, _, _, _, _, _, _, w⟩ => w.elim
section
variable {P : Program} {w : World} {K : PySem.W.Frag} {mg : Str → Option Value} {base : Heap}
theorem good_mk {x qual : Str} {st : Stmt} {f : Addr} {fd : FuncData} {N ps : List Str} {k : Nat} {b : MSt} (F : Fun K x qual st f fd) (bd : Binds K fd ps []) (hm : mg x = some (.ref f)) (S : FnScope N ps (defScope st))
    (hbody : ∀ (X : Cx) (W : WX) (cdv : Value) (A : Around) (outer : List Env) (s : Shared) (H : Hp) (E : XK), X = cxOf (L2.CX P w) P w K mg base N qual (defScope st) f cdv A outer s H E → Room k X.A → Takes X W → PassesOwn (model X.prog X.w) X.A X.env X.xe → MSs X W (defBody st) b) :
    FnGood P w K mg base x ps.length (k + 1) (fmOf N.length b) := ⟨f, fd, ps, hm, F.kp, bd, rfl, fn_ok F S hbody⟩
end
end Fw
set_option linter.all false
set_option maxRecDepth 100000
/-! plain runs, read by what holds behind them -/
namespace Fw
open PySem
/-- what simp shall not look into -/
def Dum {α : Type} (_ : α) : Type := Unit
/-- the run m ends, and Q holds behind it (E behind an exception) -/
def Wp {α : Type} (m : M α) (ms : MS) (k : α → MS → Prop) (x : EX → MS → Prop) (_ : Dum m := ()) (_ : Dum k := ()) (_ : Dum x := ()) : Prop := match m ms with
  | none => False
  | some (.ok a ms') => k a ms'
  | some (.exc e ms') => x e ms'
theorem wp_run {α : Type} {m : M α} {ms : MS} {k : α → MS → Prop} {x : EX → MS → Prop} : Wp m ms k x = Run m ms k x := rfl
theorem Wp.bind {α β : Type} {m : M α} {f : α → M β} {ms : MS} {k : β → MS → Prop} {x : EX → MS → Prop} : Wp (m.bind f) ms k x = Wp m ms (fun a ms' => Wp (f a) ms' k x) x := Run.bind
theorem Wp.mono {α : Type} {m : M α} {ms : MS} {k k' : α → MS → Prop} {x x' : EX → MS → Prop} (h : Wp m ms k x) (hk : ∀ a ms', k a ms' → k' a ms') (hx : ∀ e ms', x e ms' → x' e ms') : Wp m ms k' x' := Run.mono h hk hx
theorem Wp.ext {α : Type} {m : M α} {ms : MS} {k k' : α → MS → Prop} {x : EX → MS → Prop} (h : ∀ a ms', k a ms' = k' a ms') : Wp m ms k x = Wp m ms k' x := by
  have e : k = k' := funext fun a => funext fun b => h a b
  subst e; rfl
section
variable {α β : Type} {ms : MS} {E : EX → MS → Prop}
def opK (P : α → Prop) (o : Option α) (_ : Dum P := ()) : Prop := match o with
  | some a => P a
  | none => False
@[simp] theorem opK_some {P : α → Prop} {a : α} : opK P (some a) = P a := rfl
@[simp] theorem opK_none {P : α → Prop} : opK P none = False := rfl
@[simp] theorem opK_map {P : β → Prop} {f : α → β} {o : Option α} : opK P (o.map f) = opK (fun a => P (f a)) o := by cases o <;> rfl
@[simp] theorem opK_bind {P : β → Prop} {f : α → Option β} {o : Option α} : opK P (o.bind f) = opK (fun a => opK P (f a)) o := by cases o <;> rfl
@[simp] theorem opK_ite {P : α → Prop} {c : Prop} [Decidable c] {a : α} : opK P (if c then some a else none) = (c ∧ P a) := by
  by_cases h : c <;> simp [h, opK]
theorem opK_of {P : α → Prop} {o : Option α} {a : α} (h : o = some a) (q : P a) : opK P o := by rw [h]; exact q
theorem opK_ex {P : α → Prop} {o : Option α} : opK P o ↔ ∃ a, o = some a ∧ P a := by cases o <;> simp
def blK (P : Bool → Prop) (e : EV) (_ : Dum P := ()) : Prop := match e with
  | .val (.bl b) => P b
  | _ => False
@[simp] theorem blK_bl {P : Bool → Prop} {b : Bool} : blK P (.val (.bl b)) = P b := rfl
def inK (P : Int → Prop) (e : EV) (_ : Dum P := ()) : Prop := match e with
  | .val (.int b) => P b
  | _ => False
@[simp] theorem inK_int {P : Int → Prop} {b : Int} : inK P (.val (.int b)) = P b := rfl
def lo : SV → Bool
  | .own true _ => false
  | _ => true
@[simp] theorem lo_unk : lo .unk = true := rfl
@[simp] theorem lo_val {d : D} : lo (.val d) = true := rfl
@[simp] theorem lo_own {o : OV} : lo (.own false o) = true := rfl
theorem setS_eq {i : Nat} {s : SV} : setS i s ms = (match ms[i]? with
  | some t => if lo t = true then some (ms.set i s) else none
  | none => none) := by
  unfold setS
  cases ms[i]? with
  | none => rfl
  | some t =>
    cases t with
    | unk => rfl
    | val d => rfl
    | own l o => cases l <;> rfl
@[simp] theorem run_pure {a : α} {Q : α → MS → Prop} : Wp (M.pure a) ms Q E = Q a ms := rfl
@[simp] theorem run_bind {m : M α} {f : α → M β} {Q : β → MS → Prop} : Wp (m.bind f) ms Q E = Wp m ms (fun a ms' => Wp (f a) ms' Q E) E := Wp.bind
@[simp] theorem run_lift {o : Option α} {Q : α → MS → Prop} : Wp (M.lift o) ms Q E = opK (fun a => Q a ms) o := by
  cases o <;> rfl
theorem run_of {m : M α} {Q : α → MS → Prop} {a : α} {ms' : MS} (h : m ms = some (.ok a ms')) (q : Q a ms') : Wp m ms Q E := by
  unfold Wp; rw [h]; exact q
theorem run_fun {f : MS → Option (Res α)} {Q : α → MS → Prop} : Wp (f : M α) ms Q E = (match f ms with
  | none => False
  | some (.ok a ms') => Q a ms'
  | some (.exc x ms') => E x ms') := rfl
theorem Wp.imp {m : M α} {Q Q' : α → MS → Prop} (h : Wp m ms Q E) (q : ∀ a ms', Q a ms' → Q' a ms') : Wp m ms Q' E := h.mono q fun _ _ h => h
variable {Q : EV → MS → Prop} {QB : Bool → MS → Prop} {QL : List D → MS → Prop} {QS : Fl → MS → Prop} {m a b c n : M EV} {mas : M (List EV)} {t u : M Bool}
def vrK (P : D → Prop) (R : Prop) (o : Option SV) (_ : Dum P := ()) (_ : Dum R := ()) : Prop := match o with
  | some (.val d) => P d
  | some (.own _ _) => R
  | _ => False
@[simp] theorem vrK_val {P : D → Prop} {R : Prop} {d : D} : vrK P R (some (.val d)) = P d := rfl
@[simp] theorem vrK_own {P : D → Prop} {R : Prop} {l : Bool} {o : OV} : vrK P R (some (.own l o)) = R := rfl
@[simp] theorem run_var {i : Nat} : Wp (mVar i) ms Q E = vrK (fun d => Q (.val d) ms) (Q (.bor i) ms) ms[i]? := by
  unfold Wp mVar
  cases ms[i]? with
  | none => rfl
  | some s => cases s <;> rfl
@[simp] theorem run_op2 {g : D → D → Option EV} : Wp (mOp2 g a b) ms Q E = Wp a ms (fun x ms1 => Wp b ms1 (fun y ms2 => opK (fun d => opK (fun e => opK (fun r => Q r ms2) (g d e)) (rd ms2 y)) (rd ms2 x)) E) E := by
  unfold mOp2
  rw [Wp.bind]
  refine Wp.ext fun x ms1 => ?_
  rw [Wp.bind]
  refine Wp.ext fun y ms2 => ?_
  rw [run_fun]
  cases hx : rd ms2 x with
  | none => simp
  | some d =>
    cases hy : rd ms2 y with
    | none => simp
    | some e =>
      cases hg : g d e <;> simp [M.lift, hg]
@[simp] theorem run_op1 {g : D → Option EV} : Wp (mOp1 g a) ms Q E = Wp a ms (fun x ms1 => opK (fun d => opK (fun r => Q r ms1) (g d)) (rd ms1 x)) E := by
  unfold mOp1
  rw [Wp.bind]
  refine Wp.ext fun x ms1 => ?_
  rw [run_fun]
  cases hx : rd ms1 x with
  | none => simp
  | some d => cases hg : g d <;> simp [M.lift, hg]
@[simp] theorem run_nil {Q : List EV → MS → Prop} : Wp mNil ms Q E = Q [] ms := rfl
@[simp] theorem run_cons {Q : List EV → MS → Prop} : Wp (mCons m mas) ms Q E = Wp m ms (fun e ms1 => Wp mas ms1 (fun es ms2 => Q (e :: es) ms2) E) E := by
  unfold mCons
  rw [Wp.bind]
  refine Wp.ext fun x ms1 => ?_
  rw [Wp.bind]
  rfl
@[simp] theorem run_callB {g : List D → Option EV} : Wp (mCallB g mas) ms Q E = Wp mas ms (fun es ms1 => opK (fun ds => opK (fun r => Q r ms1) (g ds)) (rds ms1 es)) E := by
  unfold mCallB
  rw [Wp.bind]
  refine Wp.ext fun x ms1 => ?_
  rw [run_fun]
  cases hx : rds ms1 x with
  | none => simp
  | some d => cases hg : g d <;> simp [M.lift, hg]
@[simp] theorem run_tup : Wp (mTup mas) ms Q E = Wp mas ms (fun es ms1 => opK (fun ds => ds.length ≤ 1000 ∧ Q (.val (.tup ds)) ms1) (vals es)) E := by
  unfold mTup
  rw [Wp.bind]
  refine Wp.ext fun x ms1 => ?_
  rw [run_lift]
  cases hx : vals x with
  | none => simp
  | some d =>
    by_cases hl : d.length ≤ 1000 <;> simp [hl]
@[simp] theorem run_lst : Wp (mLst mas) ms Q E = Wp mas ms (fun es ms1 => opK (fun ds => ds.length ≤ 1000 ∧ Q (.new (.lst ds)) ms1) (vals es)) E := by
  unfold mLst
  rw [Wp.bind]
  refine Wp.ext fun x ms1 => ?_
  rw [run_lift]
  cases hx : vals x with
  | none => simp
  | some d =>
    by_cases hl : d.length ≤ 1000 <;> simp [hl]
def fzK (ms : MS) (Q : EV → MS → Prop) (e : EV) (_ : Dum Q := ()) : Prop := match e with
  | .val d => Q (.val d) ms
  | .new o => Q (.val o.d) ms
  | .bor i => match ms[i]? with
    | some (.val d) => Q (.val d) ms
    | some (.own false o) => Q (.val o.d) (ms.set i (.val o.d))
    | _ => False
@[simp] theorem fzK_val {d : D} : fzK ms Q (.val d) = Q (.val d) ms := rfl
@[simp] theorem fzK_new {o : OV} : fzK ms Q (.new o) = Q (.val o.d) ms := rfl
@[simp] theorem fzK_bor {i : Nat} : fzK ms Q (.bor i) = (match ms[i]? with
    | some (.val d) => Q (.val d) ms
    | some (.own false o) => Q (.val o.d) (ms.set i (.val o.d))
    | _ => False) := rfl
@[simp] theorem run_fz : Wp (mFz m) ms Q E = Wp m ms (fun ev ms1 => fzK ms1 Q ev) E := by
  unfold mFz
  rw [Wp.bind]
  refine Wp.ext fun ev ms1 => ?_
  rw [run_fun]
  cases ev with
  | val d => rfl
  | new d => rfl
  | bor i =>
    dsimp only [fzK]
    cases ms1[i]? with
    | none => rfl
    | some s =>
      cases s with
      | unk => rfl
      | val d => rfl
      | own l o => cases l <;> rfl
def fbK (ms : MS) (Q : EV → MS → Prop) (e : EV) (_ : Dum Q := ()) : Prop := match e with
  | .val d => Q (.val d) ms
  | .new o => Q (.new o) ms
  | .bor i => match ms[i]? with
    | some (.val d) => Q (.val d) ms
    | some (.own false o) => Q (.val o.d) (ms.set i (.val o.d))
    | _ => False
@[simp] theorem fbK_val {d : D} : fbK ms Q (.val d) = Q (.val d) ms := rfl
@[simp] theorem fbK_new {o : OV} : fbK ms Q (.new o) = Q (.new o) ms := rfl
@[simp] theorem fbK_bor {i : Nat} : fbK ms Q (.bor i) = (match ms[i]? with
    | some (.val d) => Q (.val d) ms
    | some (.own false o) => Q (.val o.d) (ms.set i (.val o.d))
    | _ => False) := rfl
@[simp] theorem run_fb : Wp (mFb m) ms Q E = Wp m ms (fun ev ms1 => fbK ms1 Q ev) E := by
  unfold mFb
  rw [Wp.bind]
  refine Wp.ext fun ev ms1 => ?_
  rw [run_fun]
  cases ev with
  | val d => rfl
  | new d => rfl
  | bor i =>
    dsimp only [fbK]
    cases ms1[i]? with
    | none => rfl
    | some s =>
      cases s with
      | unk => rfl
      | val d => rfl
      | own l o => cases l <;> rfl
@[simp] theorem run_b : Wp (mB m) ms QB E = Wp m ms (fun ev ms1 => blK (fun b => QB b ms1) ev) E := by
  unfold mB
  rw [Wp.bind]
  refine Wp.ext fun ev ms1 => ?_
  rw [run_lift]
  cases ev with
  | val d => cases d <;> simp [blK]
  | new d => simp [blK]
  | bor d => simp [blK]
@[simp] theorem run_tru : Wp (mTru m) ms QB E = Wp m ms (fun ev ms1 => opK (fun d => opK (fun b => QB b ms1) (truD d)) (rd ms1 ev)) E := by
  unfold mTru
  rw [Wp.bind]
  refine Wp.ext fun ev ms1 => ?_
  rw [run_fun]
  cases rd ms1 ev with
  | none => simp
  | some d =>
    cases hd : truD d with
    | none => simp [hd, M.lift]
    | some k => cases k <;> simp [M.lift, hd]
@[simp] theorem run_notT : Wp (mNotT t) ms QB E = Wp t ms (fun b ms1 => QB (!b) ms1) E := by unfold mNotT; rw [Wp.bind]; rfl
theorem run_ite {γ : Type} {x y : M γ} {Q : γ → MS → Prop} {k : Bool} : Wp (if k = true then x else y) ms Q E = ((k = true → Wp x ms Q E) ∧ (k = false → Wp y ms Q E)) := by cases k <;> simp
@[simp] theorem run_andT : Wp (mAndT t u) ms QB E = Wp t ms (fun b ms1 => (b = true → Wp u ms1 QB E) ∧ (b = false → QB false ms1)) E := by
  unfold mAndT; rw [Wp.bind]; refine Wp.ext fun k ms1 => ?_; cases k <;> simp
@[simp] theorem run_orT : Wp (mOrT t u) ms QB E = Wp t ms (fun b ms1 => (b = true → QB true ms1) ∧ (b = false → Wp u ms1 QB E)) E := by
  unfold mOrT; rw [Wp.bind]; refine Wp.ext fun k ms1 => ?_; cases k <;> simp
@[simp] theorem run_not : Wp (mNot m) ms Q E = Wp (mTru m) ms (fun b ms1 => Q (.val (.bl (!b))) ms1) E := by unfold mNot; rw [Wp.bind]; rfl
@[simp] theorem run_and : Wp (mAnd a b) ms Q E = Wp a ms (fun x ms1 => opK (fun d => opK (fun k => (k = true → Wp b ms1 Q E) ∧ (k = false → Q x ms1)) (truD d)) (rd ms1 x)) E := by
  unfold mAnd
  rw [Wp.bind]
  refine Wp.ext fun x ms1 => ?_
  rw [run_fun]
  cases rd ms1 x with
  | none => simp
  | some d =>
    cases hd : truD d with
    | none => simp [hd]
    | some k =>
      cases k
      · simp [hd] <;> exact Iff.rfl
      · simp [hd] <;> exact Iff.rfl
@[simp] theorem run_or : Wp (mOr a b) ms Q E = Wp a ms (fun x ms1 => opK (fun d => opK (fun k => (k = true → Q x ms1) ∧ (k = false → Wp b ms1 Q E)) (truD d)) (rd ms1 x)) E := by
  unfold mOr
  rw [Wp.bind]
  refine Wp.ext fun x ms1 => ?_
  rw [run_fun]
  cases rd ms1 x with
  | none => simp
  | some d =>
    cases hd : truD d with
    | none => simp [hd]
    | some k =>
      cases k
      · simp [hd] <;> exact Iff.rfl
      · simp [hd] <;> exact Iff.rfl
@[simp] theorem run_mIf : Wp (mIf t a b) ms Q E = Wp t ms (fun k ms1 => (k = true → Wp a ms1 Q E) ∧ (k = false → Wp b ms1 Q E)) E := by
  unfold mIf; rw [Wp.bind]; refine Wp.ext fun k ms1 => ?_; cases k <;> simp
@[simp] theorem run_chain {g g' : D → D → Option EV} : Wp (mChain g g' a b c) ms Q E = Wp a ms (fun x ms1 => Wp b ms1 (fun y ms2 => opK (fun d => opK (fun e => opK (blK fun k =>
    (k = true → Wp c ms2 (fun z ms3 => opK (fun e' => opK (fun f => opK (fun r => Q r ms3) (g' e' f)) (rd ms3 z)) (rd ms3 y)) E) ∧ (k = false → Q (.val (.bl false)) ms2)) (g d e)) (rd ms2 y)) (rd ms2 x)) E) E := by
  unfold mChain
  rw [Wp.bind]
  refine Wp.ext fun x ms1 => ?_
  rw [Wp.bind]
  refine Wp.ext fun y ms2 => ?_
  rw [run_fun]
  cases hx : rd ms2 x with
  | none => simp
  | some d =>
    cases hy : rd ms2 y with
    | none => simp
    | some e =>
      cases hg : g d e with
      | none => simp [hg, blK]
      | some r =>
        cases r with
        | new o => simp [hg, blK]
        | bor o => simp [hg, blK]
        | val v =>
          cases v with
          | bl k =>
            cases k with
            | false => simp [hg, blK]
            | true =>
              simp only [hg, opK_some, blK_bl, true_implies, reduceCtorEq, false_implies, and_true]
              change Wp (c.bind fun z => fun ms' => match rd ms' y, rd ms' z with
                | some e', some f => M.lift (g' e' f) ms'
                | _, _ => none) ms2 Q E = _
              rw [Wp.bind]
              refine Wp.ext fun z ms3 => ?_
              rw [run_fun]
              cases rd ms3 y with
              | none => simp
              | some e' =>
                cases rd ms3 z with
                | none => simp
                | some f => cases hg' : g' e' f <;> simp [M.lift, hg']
          | _ => simp [hg, blK]
@[simp] theorem run_int {Q : Option Int → MS → Prop} : Wp (mInt m) ms Q E = Wp m ms (fun ev ms1 => inK (fun i => Q (some i) ms1) ev) E := by
  unfold mInt
  rw [Wp.bind]
  refine Wp.ext fun ev ms1 => ?_
  rw [run_lift]
  cases ev with
  | val d => cases d <;> simp [inK]
  | new d => simp [inK]
  | bor d => simp [inK]
@[simp] theorem run_mI {Q : Int → MS → Prop} : Wp (mI m) ms Q E = Wp m ms (fun ev ms1 => inK (fun i => Q i ms1) ev) E := by
  unfold mI
  rw [Wp.bind]
  refine Wp.ext fun ev ms1 => ?_
  rw [run_lift]
  cases ev with
  | val d => cases d <;> simp [inK]
  | new d => simp [inK]
  | bor d => simp [inK]
@[simp] theorem run_slice {g : D → Option Int → Option Int → Option EV} {l h : M (Option Int)} : Wp (mSlice g m l h) ms Q E = Wp m ms (fun x ms1 => Wp l ms1 (fun lo ms2 => Wp h ms2 (fun hi ms3 => opK (fun d => opK (fun r => Q r ms3) (g d lo hi)) (rd ms3 x)) E) E) E := by
  unfold mSlice
  rw [Wp.bind]; refine Wp.ext fun x ms1 => ?_
  rw [Wp.bind]; refine Wp.ext fun lo ms2 => ?_
  rw [Wp.bind]; refine Wp.ext fun hi ms3 => ?_
  rw [run_fun]
  cases rd ms3 x with
  | none => simp
  | some d => cases hg : g d lo hi <;> simp [M.lift, hg]
@[simp] theorem run_rg1 {Q : List D → MS → Prop} : Wp (mRg1 m) ms Q E = Wp m ms (fun ev ms1 => inK (fun j => (-16777216 ≤ j ∧ j ≤ 16777216) ∧ Q (rgL 0 j.toNat) ms1) ev) E := by
  unfold mRg1
  rw [Wp.bind, run_mI]; refine Wp.ext fun x ms1 => ?_
  cases x with
  | new o => rfl
  | bor o => rfl
  | val d =>
    cases d with
    | int i => simp only [inK_int, run_lift, opK_ite]
    | _ => rfl
@[simp] theorem run_rg2 {Q : List D → MS → Prop} : Wp (mRg2 a b) ms Q E = Wp a ms (fun ea ms1 => inK (fun i => Wp b ms1 (fun ev ms2 => inK (fun j => (-16777216 ≤ i ∧ i ≤ 16777216 ∧ -16777216 ≤ j ∧ j ≤ 16777216 ∧ j - i ≤ 16777216) ∧ Q (rgL i (j - i).toNat) ms2) ev) E) ea) E := by
  unfold mRg2
  rw [Wp.bind, run_mI]; refine Wp.ext fun x ms1 => ?_
  cases x with
  | new o => rfl
  | bor o => rfl
  | val d =>
    cases d with
    | int i =>
      simp only [inK_int]
      rw [Wp.bind, run_mI]; refine Wp.ext fun y ms2 => ?_
      cases y with
      | new o => rfl
      | bor o => rfl
      | val d =>
        cases d with
        | int j => simp only [inK_int, run_lift, opK_ite]
        | _ => rfl
    | _ => rfl
@[simp] theorem run_seqI : Wp (mSeq m) ms QL E = Wp (mFz m) ms (fun ev ms1 => opK (fun ds => QL ds ms1) (itemsD ev)) E := by
  unfold mSeq; rw [Wp.bind]; refine Wp.ext fun ev ms1 => ?_; exact run_lift
/-! ### own defs -/
def isV : EV → Bool
  | .bor _ => false
  | _ => true
@[simp] theorem isV_val {d : D} : isV (.val d) = true := rfl
@[simp] theorem isV_new {d : OV} : isV (.new d) = true := rfl
@[simp] theorem isV_bor {d : Nat} : isV (.bor d) = false := rfl
@[simp] theorem run_callF {sig : List Bool} {fm : M EV} : Wp (mCallF sig fm mas) ms Q E = Wp mas ms (fun es ms1 => (bors es).Nodup ∧ opK (fun args => Wp fm args (fun ev outs => isV ev = true ∧ Q ev (backA es outs ms1)) (fun x outs => E x (backA es outs ms1))) (bindA ms1 sig es)) E := by
  unfold mCallF
  rw [Wp.bind]; refine Wp.ext fun es ms1 => ?_
  rw [run_fun]
  by_cases hn : (bors es).Nodup
  case neg => simp [hn]
  rw [if_pos hn]
  cases hb : bindA ms1 sig es with
  | none => simp
  | some args =>
    simp only [hn, true_and, opK_some]
    rw [run_fun]
    cases fm args with
    | none => rfl
    | some r =>
      cases r with
      | exc x outs => rfl
      | ok ev outs => cases ev <;> simp
def rtK (args : List SV) (Q : EV → MS → Prop) (ms' : MS) (f : Fl) (_ : Dum Q := ()) : Prop := match f with
  | .nx => Q (.val .non) (outS args ms')
  | .rt ev => opK (fun r => Q r (outS args ms')) (retE ms' ev)
  | _ => False
@[simp] theorem rtK_nx {args : List SV} {ms' : MS} : rtK args Q ms' .nx = Q (.val .non) (outS args ms') := rfl
@[simp] theorem rtK_rt {args : List SV} {ms' : MS} {ev : EV} : rtK args Q ms' (.rt ev) = opK (fun r => Q r (outS args ms')) (retE ms' ev) := rfl
theorem run_fm {k : Nat} {body : MSt} {args : List SV} : Wp (fmOf k body) args Q E = (allLent args = true ∧ Wp body (args ++ List.replicate (k - args.length) .unk) (fun fl ms' => rtK args Q ms' fl) (fun x ms' => E x (outS args ms'))) := by
  unfold fmOf
  rw [run_fun]
  by_cases hl : allLent args = true
  case neg => simp [hl]
  simp only [if_pos hl, hl, true_and]
  rw [run_fun]
  cases body (args ++ List.replicate (k - args.length) .unk) with
  | none => rfl
  | some r =>
    cases r with
    | exc x ms' => rfl
    | ok fl ms' =>
      cases fl with
      | nx => rfl
      | bk => rfl
      | ct => rfl
      | rt ev => cases h : retE ms' ev <;> simp [h]
/-! ### statements -/
@[simp] theorem run_sNx : Wp sNx ms QS E = QS .nx ms := rfl
def sqK (b : MSt) (QS : Fl → MS → Prop) (E : EX → MS → Prop) (ms : MS) (f : Fl) (_ : Dum b := ()) (_ : Dum QS := ()) (_ : Dum E := ()) : Prop := match f with
  | .nx => Wp b ms QS E
  | f => QS f ms
@[simp] theorem sqK_nx {b : MSt} : sqK b QS E ms .nx = Wp b ms QS E := rfl
@[simp] theorem sqK_rt {b : MSt} {ev : EV} : sqK b QS E ms (.rt ev) = QS (.rt ev) ms := rfl
@[simp] theorem sqK_bk {b : MSt} : sqK b QS E ms .bk = QS .bk ms := rfl
@[simp] theorem sqK_ct {b : MSt} : sqK b QS E ms .ct = QS .ct ms := rfl
variable {x y : MSt}
@[simp] theorem run_seq : Wp (sSeq x y) ms QS E = Wp x ms (fun fl ms1 => sqK y QS E ms1 fl) E := by
  unfold sSeq
  rw [Wp.bind]; refine Wp.ext fun fl ms1 => ?_
  cases fl <;> rfl
@[simp] theorem run_expr : Wp (sExpr m) ms QS E = Wp m ms (fun _ ms1 => QS .nx ms1) E := by unfold sExpr; rw [Wp.bind]; rfl
@[simp] theorem run_ret : Wp (sRet m) ms QS E = Wp m ms (fun ev ms1 => QS (.rt ev) ms1) E := by unfold sRet; rw [Wp.bind]; rfl
@[simp] theorem run_sIf : Wp (sIf t x y) ms QS E = Wp t ms (fun k ms1 => (k = true → Wp x ms1 QS E) ∧ (k = false → Wp y ms1 QS E)) E := by
  unfold sIf; rw [Wp.bind]; refine Wp.ext fun k ms1 => ?_; cases k <;> simp
def stK (i : Nat) (ms : MS) (QS : Fl → MS → Prop) (e : EV) (_ : Dum QS := ()) : Prop := match e with
  | .val d => opK (fun ms' => QS .nx ms') (setS i (.val d) ms)
  | .new o => opK (fun ms' => QS .nx ms') (setS i (.own false o) ms)
  | .bor _ => False
@[simp] theorem stK_val {i : Nat} {d : D} : stK i ms QS (.val d) = opK (fun ms' => QS .nx ms') (setS i (.val d) ms) := rfl
@[simp] theorem stK_new {i : Nat} {o : OV} : stK i ms QS (.new o) = opK (fun ms' => QS .nx ms') (setS i (.own false o) ms) := rfl
theorem run_stE {i : Nat} {ev : EV} : Wp (fun ms => stE i ev ms) ms QS E = stK i ms QS ev := by
  rw [run_fun]
  cases ev with
  | val d => cases h : setS i (.val d) ms <;> simp [stE, stK, h]
  | new d => cases h : setS i (.own false d) ms <;> simp [stE, stK, h]
  | bor d => rfl
@[simp] theorem run_asg {i : Nat} : Wp (sAsg i m) ms QS E = Wp m ms (fun ev ms1 => fbK ms1 (fun ev ms2 => stK i ms2 QS ev) ev) E := by
  unfold sAsg
  rw [Wp.bind, run_fb]
  refine Wp.ext fun ev ms1 => ?_
  have e : (fun ev ms2 => Wp (fun ms => stE i ev ms) ms2 QS E) = (fun ev ms2 => stK i ms2 QS ev) := by
    funext ev ms2; exact run_stE
  exact congrArg (fun q => fbK ms1 q ev) e
@[simp] theorem run_asgN {i : Nat} : Wp (sAsgN i m) ms QS E = Wp m ms (fun ev ms1 => stK i ms1 QS ev) E := by
  unfold sAsgN
  rw [Wp.bind]
  refine Wp.ext fun ev ms1 => ?_
  exact run_stE
@[simp] theorem run_unp {f : D → MS → Option MS} : Wp (sUnp f m) ms QS E = Wp m ms (fun ev ms1 => opK (fun d => opK (fun ms' => QS .nx ms') (f d ms1)) (rd ms1 ev)) E := by
  unfold sUnp
  rw [Wp.bind]
  refine Wp.ext fun ev ms1 => ?_
  rw [run_fun]
  cases rd ms1 ev with
  | none => simp
  | some d => cases h : f d ms1 <;> simp [h]
def vaK (P : D → Prop) (o : Option SV) (_ : Dum P := ()) : Prop := match o with
  | some (.val d) => P d
  | _ => False
@[simp] theorem vaK_val {P : D → Prop} {d : D} : vaK P (some (.val d)) = P d := rfl
@[simp] theorem run_aug {g : D → D → Option EV} {i : Nat} : Wp (sAug g i m) ms QS E = vaK (fun d => Wp m ms (fun ev ms1 => opK (fun e => opK (fun r => stK i ms1 QS r) (g d e)) (rd ms1 ev)) E) ms[i]? := by
  unfold sAug
  rw [run_fun]
  cases h : ms[i]? with
  | none => rfl
  | some s =>
    cases s with
    | unk => rfl
    | own l o => rfl
    | val d =>
      simp only [vaK_val]
      change Wp (m.bind fun ev ms => match rd ms ev with
        | some e => (match g d e with
          | some r => stE i r ms
          | none => none)
        | none => none) ms QS E = _
      rw [Wp.bind]
      refine Wp.ext fun ev ms1 => ?_
      rw [run_fun]
      cases rd ms1 ev with
      | none => simp
      | some e =>
        cases hg : g d e with
        | none => simp [hg]
        | some r =>
          simp only [hg, opK_some, ← run_stE (E := E)]
          rfl
@[simp] theorem run_sFor {it : M (List D)} {f : D → MS → Option MS} {b : MSt} : Wp (sFor it f b) ms QS E = Wp it ms (fun ds ms1 => Wp (forL f b ds) ms1 QS E) E := by unfold sFor; rw [Wp.bind]
end
end Fw
set_option linter.all false
set_option maxRecDepth 100000
namespace Fw
open PySem
section
variable {α β : Type} {ms : MS} {E : EX → MS → Prop}
variable {Q : EV → MS → Prop} {QB : Bool → MS → Prop} {QL : List D → MS → Prop} {QS : Fl → MS → Prop} {m mk me a b c n : M EV} {mas : M (List EV)} {t u : M Bool}
/-! ### x[k] = e, x[k] op= e, x.m(..) -/
theorem run_guard {i : Nat} {x : M α} {Q : α → MS → Prop} : Wp (guardS i x) ms Q E = (ownS i ms = true ∧ Wp x ms Q E) := by
  unfold guardS
  rw [run_fun]
  by_cases h : ownS i ms = true
  · simp only [h, if_true, true_and]; rfl
  · simp [h]
def evD : EV → Option D
  | .val d => some d
  | _ => none
@[simp] theorem evD_val {d : D} : evD (.val d) = some d := rfl
def ownK (P : Bool → OV → Prop) (o : Option SV) (_ : Dum P := ()) : Prop := match o with
  | some (.own l o) => P l o
  | _ => False
@[simp] theorem ownK_own {P : Bool → OV → Prop} {l : Bool} {o : OV} : ownK P (some (.own l o)) = P l o := rfl
@[simp] theorem run_setI {g : OV → D → D → Option OV} {i : Nat} : Wp (sSetI g i mk me) ms QS E = Wp (mFz me) ms (fun ev ms1 => ownS i ms1 = true ∧ Wp (mFz mk) ms1 (fun ek ms2 => opK (fun d => opK (fun k => opK (fun ms3 => QS .nx ms3) (chgS i (fun o => g o k d) ms2)) (evD ek)) (evD ev)) E) E := by
  unfold sSetI
  rw [Wp.bind]; refine Wp.ext fun ev ms1 => ?_
  rw [run_guard, Wp.bind]
  congr 1; refine Wp.ext fun ek ms2 => ?_
  rw [run_fun]
  cases ev <;> cases ek <;> simp [evD]
  rename_i d k
  cases h : chgS i (fun o => g o k d) ms2 <;> simp [h]
@[simp] theorem run_augI {gt : OV → D → Option D} {gop : D → D → Option EV} {st : OV → D → D → Option OV} {i : Nat} : Wp (sAugI gt gop st i mk me) ms QS E = (ownS i ms = true ∧ Wp (mFz mk) ms (fun ek ms1 => opK (fun k => ownK (fun l o => opK (fun old =>
    Wp me ms1 (fun ev ms2 => opK (fun e => opK (fun r => opK (fun r => opK (fun ms3 => QS .nx ms3) (chgS i (fun o => st o k r) ms2)) (evD r)) (gop old e)) (rd ms2 ev)) E) (gt o k)) ms1[i]?) (evD ek)) E) := by
  unfold sAugI
  rw [run_guard, Wp.bind]
  congr 1; refine Wp.ext fun ek ms1 => ?_
  rw [run_fun]
  cases ek with
  | new o => simp [evD]
  | bor o => simp [evD]
  | val k =>
    simp only [evD_val, opK_some]
    cases h : ms1[i]? with
    | none => rfl
    | some s =>
      cases s with
      | unk => rfl
      | val d => rfl
      | own l o =>
        rw [ownK_own]
        cases hg : gt o k with
        | none => simp [hg]
        | some old =>
          simp only [hg, opK_some]
          change Wp (me.bind fun ev ms1 => match rd ms1 ev with
            | some e => (match gop old e with
              | some (.val r) => (match chgS i (fun o => st o k r) ms1 with
                | some ms2 => some (.ok .nx ms2)
                | none => none)
              | _ => none)
            | none => none) ms1 QS E = _
          rw [Wp.bind]
          refine Wp.ext fun ev ms2 => ?_
          rw [run_fun]
          cases rd ms2 ev with
          | none => simp
          | some e =>
            cases hr : gop old e with
            | none => simp [hr]
            | some r =>
              cases r with
              | new o => simp [hr, evD]
              | bor o => simp [hr, evD]
              | val d => cases hc : chgS i (fun o => st o k d) ms2 <;> simp [hr, hc]
@[simp] theorem run_meth {T : String} {rdA : MS → List EV → Option (List D)} {g : OV → List D → Option (D × OV)} {i : Nat} : Wp (mMeth T rdA g i mas) ms Q E = ownK (fun _ o => ovT o = T ∧ Wp mas ms (fun es ms1 => opK (fun ds => ownK (fun l o => opK (fun p => Q (.val p.1) (ms1.set i (.own l p.2))) (g o ds)) ms1[i]?) (rdA ms1 es)) E) ms[i]? := by
  unfold mMeth
  rw [run_fun]
  cases h : ms[i]? with
  | none => rfl
  | some s =>
    cases s with
    | unk => rfl
    | val d => rfl
    | own l o =>
      rw [ownK_own]
      by_cases hT : ovT o = T
      case neg => simp [hT]
      simp only [hT, if_true, true_and]
      change Wp (mas.bind fun es ms => match rdA ms es, ms[i]? with
        | some ds, some (.own l o) => (match g o ds with
          | some (d, o') => some (.ok (.val d) (ms.set i (.own l o')))
          | none => none)
        | _, _ => none) ms Q E = _
      rw [Wp.bind]
      refine Wp.ext fun es ms1 => ?_
      rw [run_fun]
      cases rdA ms1 es with
      | none => simp
      | some ds =>
        simp only [opK_some]
        cases h1 : ms1[i]? with
        | none => rfl
        | some s1 =>
          cases s1 with
          | unk => rfl
          | val d => rfl
          | own l1 o1 =>
            rw [ownK_own]
            cases hg : g o1 ds with
            | none => simp [hg]
            | some p => simp [hg]
/-! ### loops -/
def bkK (QS : Fl → MS → Prop) (I : MS → Prop) (ms : MS) (f : Fl) (_ : Dum QS := ()) (_ : Dum I := ()) : Prop := match f with
  | .nx => I ms
  | .ct => I ms
  | .bk => QS .nx ms
  | .rt ev => QS (.rt ev) ms
@[simp] theorem bkK_nx {I : MS → Prop} : bkK QS I ms .nx = I ms := rfl
@[simp] theorem bkK_ct {I : MS → Prop} : bkK QS I ms .ct = I ms := rfl
@[simp] theorem bkK_bk {I : MS → Prop} : bkK QS I ms .bk = QS .nx ms := rfl
@[simp] theorem bkK_rt {I : MS → Prop} {ev : EV} : bkK QS I ms (.rt ev) = QS (.rt ev) ms := rfl
theorem run_forC {f : D → MS → Option MS} {x : MSt} {d : D} {ds : List D} : Wp (forL f x (d :: ds)) ms QS E = ∃ ms1, f d ms = some ms1 ∧ Wp x ms1 (fun fl ms2 => bkK QS (fun ms2 => Wp (forL f x ds) ms2 QS E) ms2 fl) E := by
  rw [forL, run_fun]
  cases h : f d ms with
  | none => simp
  | some ms1 =>
    simp only [Option.some.injEq, exists_eq_left']
    change Wp (x.bind (wh (forL f x ds))) ms1 QS E = _
    rw [Wp.bind]
    refine Wp.ext fun fl ms2 => ?_
    cases fl <;> rfl
theorem run_forN {f : D → MS → Option MS} {x : MSt} : Wp (forL f x []) ms QS E = QS .nx ms := rfl
/-- a loop by what holds ahead of each turn -/
theorem run_for {f : D → MS → Option MS} {x : MSt} (I : Nat → MS → Prop) (ds : List D) (h0 : I 0 ms)
    (step : ∀ (i : Nat) (d : D) (ms : MS), ds[i]? = some d → I i ms → opK (fun ms1 => Wp x ms1 (fun fl ms2 => bkK QS (I (i + 1)) ms2 fl) E) (f d ms))
    (hend : ∀ ms, I ds.length ms → QS .nx ms) : Wp (forL f x ds) ms QS E := by
  induction ds generalizing ms I with
  | nil => exact hend ms h0
  | cons d ds ih =>
    rw [run_forC]
    obtain ⟨ms1, e, r⟩ := opK_ex.mp (step 0 d ms rfl h0)
    refine ⟨ms1, e, r.imp fun fl ms2 q => ?_⟩
    have go : I 1 ms2 → Wp (forL f x ds) ms2 QS E := fun z => ih (fun i => I (i + 1)) z (fun i d ms hd hi => step (i + 1) d ms (by simpa using hd) hi) (fun ms z => hend ms (by simpa using z))
    cases fl with
    | nx => exact go q
    | ct => exact go q
    | bk => exact q
    | rt ev => exact q
/-- a comprehension by what holds ahead of each turn -/
theorem run_compL {own : List Nat} {f : D → MS → Option MS} (I : Nat → List D → MS → Prop) (ds : List D) (acc : List D) (h0 : I 0 acc ms)
    (step : ∀ (i : Nat) (d : D) (acc : List D) (ms : MS), ds[i]? = some d → I i acc ms → opK (fun ms1 => Wp t ms1 (fun k ms2 => (k = true → Wp m ms2 (fun ev ms3 => opK (fun y => I (i + 1) (acc ++ [y]) (wipeM ms3 own)) (evD ev)) E) ∧ (k = false → I (i + 1) acc (wipeM ms2 own))) E) (f d ms))
    (hend : ∀ acc ms, I ds.length acc ms → QL acc ms) : Wp (compL own f t m ds acc) ms QL E := by
  induction ds generalizing ms I acc with
  | nil => rw [compL, run_pure]; exact hend acc ms h0
  | cons d ds ih =>
    obtain ⟨ms1, e, r⟩ := opK_ex.mp (step 0 d acc ms rfl h0)
    have go : ∀ acc ms2, I 1 acc ms2 → Wp (compL own f t m ds acc) ms2 QL E := fun acc ms2 z => ih (fun i => I (i + 1)) acc z (fun i d acc ms hd hi => step (i + 1) d acc ms (by simpa using hd) hi) (fun acc ms z => hend acc ms (by simpa using z))
    rw [compL, run_fun, e]
    change Wp (t.bind fun b => if b = true then m.bind (fun ev ms2 => match ev with
        | .val y => compL own f t m ds (acc ++ [y]) (wipeM ms2 own)
        | _ => none) else fun ms2 => compL own f t m ds acc (wipeM ms2 own)) ms1 QL E
    rw [Wp.bind]
    refine r.imp fun k ms2 q => ?_
    cases k with
    | true =>
      rw [if_pos rfl, Wp.bind]
      refine (q.1 rfl).imp fun ev ms3 z => ?_
      obtain ⟨y, hy, z⟩ := opK_ex.mp z
      cases ev with
      | new o => cases hy
      | bor o => cases hy
      | val d =>
        cases hy
        exact go _ _ z
    | false =>
      rw [if_neg (by simp)]
      exact go _ _ (q.2 rfl)
@[simp] theorem run_comp {it : M (List D)} {own : List Nat} {f : D → MS → Option MS} : Wp (mComp it own f t m) ms Q E = Wp it ms (fun ds ms1 => noOwn ms1 own = true ∧ Wp (compL own f t m ds []) (wipeM ms1 own) (fun acc ms2 => Q (.new (.lst acc)) (backM ms1 ms2 own)) (fun _ _ => False)) E := by
  unfold mComp
  rw [Wp.bind]; refine Wp.ext fun ds ms1 => ?_
  rw [run_fun]
  by_cases h : noOwn ms1 own = true
  case neg => simp [h]
  simp only [h, if_true, true_and]
  rw [run_fun]
  cases compL own f t m ds [] (wipeM ms1 own) with
  | none => rfl
  | some r => cases r <;> rfl
/-- a comprehension that changes nothing: guard by guard, value by value -/
theorem run_compF {own : List Nat} {f : D → MS → Option MS} (g : D → Bool) (v : D → D) (ds acc : List D)
    (step : ∀ d, d ∈ ds → opK (fun ms1 => Wp t ms1 (fun k ms2 => k = g d ∧ (k = true → Wp m ms2 (fun ev ms3 => evD ev = some (v d) ∧ wipeM ms3 own = ms) E) ∧ (k = false → wipeM ms2 own = ms)) E) (f d ms))
    (q : QL (acc ++ (ds.filter g).map v) ms) : Wp (compL own f t m ds acc) ms QL E := by
  refine run_compL (fun i a ms' => ms' = ms ∧ a = acc ++ ((ds.take i).filter g).map v) ds acc ⟨rfl, by simp⟩ (fun i d a ms' hd hi => ?_) fun a ms' z => ?_
  · obtain ⟨rfl, rfl⟩ := hi
    obtain ⟨ms1, e, r⟩ := opK_ex.mp (step d (List.mem_of_getElem? hd))
    refine opK_of e (r.imp fun k ms2 q => ?_)
    obtain ⟨hk, q1, q2⟩ := q
    have et : ds.take (i + 1) = ds.take i ++ [d] := by rw [List.take_add_one, hd]; rfl
    refine ⟨fun k1 => (q1 k1).imp fun ev ms3 z => opK_of z.1 ⟨z.2, ?_⟩, fun k1 => ⟨q2 k1, ?_⟩⟩
    · rw [et, List.filter_append, List.map_append, List.append_assoc]
      congr 2
      rw [List.filter_cons_of_pos (by rw [← hk]; exact k1)]; rfl
    · rw [et, List.filter_append, List.map_append]
      rw [List.filter_cons_of_neg (by rw [← hk, k1]; simp)]; simp
  · obtain ⟨rfl, rfl⟩ := z
    rw [List.take_length]
    exact q
theorem run_compM {own : List Nat} {f : D → MS → Option MS} (v : D → D) (ds acc : List D)
    (step : ∀ d, d ∈ ds → opK (fun ms1 => Wp m ms1 (fun ev ms3 => evD ev = some (v d) ∧ wipeM ms3 own = ms) E) (f d ms))
    (q : QL (acc ++ ds.map v) ms) : Wp (compL own f (M.pure true) m ds acc) ms QL E := by
  refine run_compF (fun _ => true) v ds acc (fun d hd => ?_) ?_
  · obtain ⟨ms1, e, r⟩ := opK_ex.mp (step d hd)
    exact opK_of e ⟨rfl, fun _ => r, fun z => nomatch z⟩
  · rw [List.filter_eq_self.mpr fun _ _ => rfl]
    exact q
end
/-! ### slots -/
@[simp] theorem setS_cons_zero {s t : SV} {ms : MS} : setS 0 s (t :: ms) = if lo t = true then some (s :: ms) else none := by rw [setS_eq]; rfl
@[simp] theorem setS_cons_succ {s t : SV} {ms : MS} {i : Nat} : setS (i + 1) s (t :: ms) = (setS i s ms).map (t :: ·) := by
  rw [setS_eq, setS_eq]
  simp only [List.getElem?_cons_succ, List.set_cons_succ]
  cases ms[i]? with
  | none => rfl
  | some x => by_cases h : lo x = true <;> simp [h]
@[simp] theorem chgS_zero {f : OV → Option OV} {l : Bool} {o : OV} {ms : MS} : chgS 0 f (.own l o :: ms) = (f o).map fun o' => .own l o' :: ms := rfl
@[simp] theorem chgS_succ {i : Nat} {f : OV → Option OV} {s : SV} {ms : MS} : chgS (i + 1) f (s :: ms) = (chgS i f ms).map (s :: ·) := by
  unfold chgS
  rw [List.getElem?_cons_succ]
  cases ms[i]? with
  | none => rfl
  | some t =>
    cases t with
    | unk => rfl
    | val d => rfl
    | own l o => cases h : f o <;> simp [h]
@[simp] theorem ownS_zero {l : Bool} {o : OV} {ms : MS} : ownS 0 (.own l o :: ms) = true := rfl
@[simp] theorem ownS_succ {i : Nat} {s : SV} {ms : MS} : ownS (i + 1) (s :: ms) = ownS i ms := rfl
@[simp] theorem rd_val {d : D} {ms : MS} : rd ms (.val d) = some d := rfl
@[simp] theorem rd_new {o : OV} {ms : MS} : rd ms (.new o) = some o.d := rfl
@[simp] theorem rd_bor0 {s : SV} {ms : MS} : rd (s :: ms) (.bor 0) = s.rd := rfl
@[simp] theorem rd_borS {i : Nat} {s : SV} {ms : MS} : rd (s :: ms) (.bor (i + 1)) = rd ms (.bor i) := rfl
@[simp] theorem SV.rd_val {d : D} : SV.rd (.val d) = some d := rfl
@[simp] theorem SV.rd_own {l : Bool} {o : OV} : SV.rd (.own l o) = some o.d := rfl
@[simp] theorem OV.d_lst {ds : List D} : OV.d (.lst ds) = .lst ds := rfl
@[simp] theorem OV.d_dic {t : Bool} {ks vs : List D} : OV.d (.dic t ks vs) = .dct t ks vs := rfl
@[simp] theorem rds_nil {ms : MS} : rds ms [] = some [] := rfl
@[simp] theorem rds_cons {ms : MS} {e : EV} {es : List EV} : rds ms (e :: es) = (rd ms e).bind fun d => (rds ms es).map (d :: ·) := by
  rw [rds]
  cases rd ms e with
  | none => rfl
  | some d => cases rds ms es <;> rfl
@[simp] theorem vals_nil : vals [] = some [] := rfl
@[simp] theorem vals_cons {d : D} {es : List EV} : vals (.val d :: es) = (vals es).map (d :: ·) := by
  rw [vals]
  cases vals es <;> rfl
@[simp] theorem bindA_nil {ms : MS} : bindA ms [] [] = some [] := rfl
@[simp] theorem bindA_val {ms : MS} {s : List Bool} {d : D} {es : List EV} : bindA ms (false :: s) (.val d :: es) = (bindA ms s es).map (.val d :: ·) := rfl
@[simp] theorem bindA_valT {ms : MS} {s : List Bool} {d : D} {es : List EV} : bindA ms (true :: s) (.val d :: es) = (bindA ms s es).map (.val d :: ·) := rfl
def ownB (r : Option (List SV)) : Option SV → Option (List SV)
  | some (.own _ o) => r.map (.own true o :: ·)
  | _ => none
@[simp] theorem ownB_own {r : Option (List SV)} {l : Bool} {o : OV} : ownB r (some (.own l o)) = r.map (.own true o :: ·) := rfl
@[simp] theorem bindA_bor {ms : MS} {s : List Bool} {i : Nat} {es : List EV} : bindA ms (true :: s) (.bor i :: es) = ownB (bindA ms s es) ms[i]? := by
  rw [bindA]
  cases ms[i]? with
  | none => rfl
  | some t => cases t <;> rfl
@[simp] theorem bors_nil : bors [] = [] := rfl
@[simp] theorem bors_val {d : D} {es : List EV} : bors (.val d :: es) = bors es := rfl
@[simp] theorem bors_new {o : OV} {es : List EV} : bors (.new o :: es) = bors es := rfl
@[simp] theorem bors_bor {i : Nat} {es : List EV} : bors (.bor i :: es) = i :: bors es := rfl
@[simp] theorem backA_nil {outs : List SV} {ms : MS} : backA [] outs ms = ms := by cases outs <;> rfl
@[simp] theorem backA_val {d : D} {es : List EV} {s : SV} {outs : List SV} {ms : MS} : backA (.val d :: es) (s :: outs) ms = backA es outs ms := rfl
@[simp] theorem backA_bor {i : Nat} {es : List EV} {s : SV} {outs : List SV} {ms : MS} : backA (.bor i :: es) (s :: outs) ms = backA es outs (ms.set i (relent ms[i]? s)) := rfl
@[simp] theorem relent_own {l l' : Bool} {o o' : OV} : relent (some (.own l o)) (.own l' o') = .own l o' := rfl
@[simp] theorem outS_nil {ms : MS} : outS [] ms = [] := by cases ms <;> rfl
@[simp] theorem outS_own0 {o o' : OV} {as : List SV} {ms : MS} : outS (.own true o :: as) (.own true o' :: ms) = .own true o' :: outS as ms := rfl
@[simp] theorem outS_val0 {d : D} {as : List SV} {s : SV} {ms : MS} : outS (.val d :: as) (s :: ms) = .unk :: outS as ms := rfl
@[simp] theorem allLent_nil : allLent [] = true := rfl
@[simp] theorem allLent_val {d : D} {as : List SV} : allLent (.val d :: as) = allLent as := rfl
@[simp] theorem allLent_own {o : OV} {as : List SV} : allLent (.own true o :: as) = allLent as := rfl
@[simp] theorem retE_val {ms : MS} {d : D} : retE ms (.val d) = some (.val d) := rfl
@[simp] theorem retE_new {ms : MS} {o : OV} : retE ms (.new o) = some (.new o) := rfl
def retB : Option SV → Option EV
  | some (.own false o) => some (.new o)
  | some (.val d) => some (.val d)
  | _ => none
@[simp] theorem retB_own {o : OV} : retB (some (.own false o)) = some (.new o) := rfl
@[simp] theorem retB_val {d : D} : retB (some (.val d)) = some (.val d) := rfl
@[simp] theorem retE_bor {ms : MS} {i : Nat} : retE ms (.bor i) = retB ms[i]? := rfl
@[simp] theorem wipeM_nil {ms : MS} : wipeM ms [] = ms := rfl
@[simp] theorem wipeM_cons {ms : MS} {v : Nat} {vs : List Nat} : wipeM ms (v :: vs) = (wipeM ms vs).set v .unk := rfl
@[simp] theorem backM_nil {ms0 ms : MS} : backM ms0 ms [] = ms := rfl
def backB (ms : MS) (v : Nat) : Option SV → MS
  | some (.val d) => ms.set v (.val d)
  | _ => ms
@[simp] theorem backB_val {ms : MS} {v : Nat} {d : D} : backB ms v (some (.val d)) = ms.set v (.val d) := rfl
@[simp] theorem backB_unk {ms : MS} {v : Nat} : backB ms v (some .unk) = ms := rfl
@[simp] theorem backB_own {ms : MS} {v : Nat} {l : Bool} {o : OV} : backB ms v (some (.own l o)) = ms := rfl
@[simp] theorem backM_cons {ms0 ms : MS} {v : Nat} {vs : List Nat} : backM ms0 ms (v :: vs) = backB (backM ms0 ms vs) v ms0[v]? := by
  rw [backM]
  cases ms0[v]? with
  | none => rfl
  | some t => cases t <;> rfl
def noB : Option SV → Bool
  | some (.own _ _) => false
  | _ => true
@[simp] theorem noB_val {d : D} : noB (some (.val d)) = true := rfl
@[simp] theorem noB_unk : noB (some .unk) = true := rfl
@[simp] theorem noB_none : noB none = true := rfl
@[simp] theorem noOwn_nil {ms : MS} : noOwn ms [] = true := rfl
@[simp] theorem noOwn_cons {ms : MS} {v : Nat} {vs : List Nat} : noOwn ms (v :: vs) = (noB ms[v]? && noOwn ms vs) := by
  unfold noOwn
  rw [List.all_cons]
  congr 1
@[simp] theorem gNm_def {i : Nat} {d : D} {ms : MS} : gNm i d ms = setS i (.val d) ms := rfl
@[simp] theorem gsNil_nil {ms : MS} : gsNil [] ms = some ms := rfl
@[simp] theorem gsCons_cons {f : D → MS → Option MS} {g : List D → MS → Option MS} {d : D} {ds : List D} {ms : MS} : gsCons f g (d :: ds) ms = (f d ms).bind (g ds) := by
  rw [gsCons]
  cases f d ms <;> rfl
@[simp] theorem gTp_tup {n : Nat} {g : List D → MS → Option MS} {ds : List D} {ms : MS} : gTp n g (.tup ds) ms = if ds.length = n then g ds ms else none := rfl
@[simp] theorem gTp_lst {n : Nat} {g : List D → MS → Option MS} {ds : List D} {ms : MS} : gTp n g (.lst ds) ms = if ds.length = n then g ds ms else none := rfl
/-! ### operators -/
@[simp] theorem intOp_int {f : Int → Int → Option EV} {i j : Int} : intOp f (.int i) (.int j) = f i j := by rw [intOp]
@[simp] theorem iAdd_def {i j : Int} : iAdd i j = some (.val (.int (i + j))) := rfl
@[simp] theorem iSub_def {i j : Int} : iSub i j = some (.val (.int (i - j))) := rfl
@[simp] theorem iLt_def {i j : Int} : iLt i j = some (.val (.bl (decide (i < j)))) := rfl
@[simp] theorem iLe_def {i j : Int} : iLe i j = some (.val (.bl (decide (i ≤ j)))) := rfl
@[simp] theorem iGt_def {i j : Int} : iGt i j = some (.val (.bl (decide (j < i)))) := rfl
@[simp] theorem iGe_def {i j : Int} : iGe i j = some (.val (.bl (decide (j ≤ i)))) := rfl
@[simp] theorem iNeg_int {i : Int} : iNeg (.int i) = some (.val (.int (-i))) := rfl
theorem iDiv_ok {i j : Int} (h : 0 < j) (h2 : j < 1073741824) : iDiv i j = some (.val (.int (i / j))) := if_pos ⟨h, h2⟩
theorem iMod_ok {i j : Int} (h : 0 < j) : iMod i j = some (.val (.int (i % j))) := if_pos h
theorem iMul_ok {i j : Int} (h : -18446744073709551616 < i ∧ i < 18446744073709551616) : iMul i j = some (.val (.int (i * j))) := if_pos (.inl h)
theorem iMul_ok2 {i j : Int} (h : -18446744073709551616 < j ∧ j < 18446744073709551616) : iMul i j = some (.val (.int (i * j))) := if_pos (.inr h)
@[simp] theorem addD_int {i j : Int} : addD (.int i) (.int j) = some (.val (.int (i + j))) := rfl
@[simp] theorem mulD_int {i j : Int} : mulD (.int i) (.int j) = iMul i j := by rw [mulD]
@[simp] theorem bMax_2 {i j : Int} : bMax [.int i, .int j] = some (.val (.int (max i j))) := rfl
@[simp] theorem bMax_3 {i j k : Int} : bMax [.int i, .int j, .int k] = some (.val (.int (max (max i j) k))) := rfl
@[simp] theorem bInt_int {i : Int} : bInt [.int i] = some (.val (.int i)) := rfl
@[simp] theorem bInt_bl {b : Bool} : bInt [.bl b] = some (.val (.int (if b then 1 else 0))) := rfl
@[simp] theorem bAbs_int {i : Int} : bAbs [.int i] = some (.val (.int (if i < 0 then -i else i))) := rfl
@[simp] theorem bLen_tup {ds : List D} : bLen [.tup ds] = some (.val (.int (ds.length : Nat))) := rfl
@[simp] theorem bLen_lst {ds : List D} : bLen [.lst ds] = some (.val (.int (ds.length : Nat))) := rfl
@[simp] theorem bTuple_lst {ds : List D} : bTuple [.lst ds] = some (.val (.tup ds)) := rfl
@[simp] theorem bTuple_tup {ds : List D} : bTuple [.tup ds] = some (.val (.tup ds)) := rfl
@[simp] theorem bList_lst {ds : List D} : bList [.lst ds] = some (.new (.lst ds)) := rfl
@[simp] theorem bList_tup {ds : List D} : bList [.tup ds] = some (.new (.lst ds)) := rfl
@[simp] theorem truD_bl {b : Bool} : truD (.bl b) = some b := rfl
@[simp] theorem truD_int {i : Int} : truD (.int i) = some (i != 0) := rfl
@[simp] theorem truD_non : truD .non = some false := rfl
@[simp] theorem truD_tup {ds : List D} : truD (.tup ds) = some (!ds.isEmpty) := rfl
@[simp] theorem truD_lst {ds : List D} : truD (.lst ds) = some (!ds.isEmpty) := rfl
@[simp] theorem itemsD_tup {ds : List D} : itemsD (.val (.tup ds)) = some ds := rfl
@[simp] theorem itemsD_lst {ds : List D} : itemsD (.val (.lst ds)) = some ds := rfl
@[simp] theorem itemsD_ktp {ds : List D} : itemsD (.val (.ktp ds)) = some ds := rfl
@[simp] theorem itemsD_kls {ds : List D} : itemsD (.val (.kls ds)) = some ds := rfl
@[simp] theorem ixD_tup {ds : List D} {i : Int} : ixD (.tup ds) (.int i) = (L2.atI ds i).map .val := rfl
@[simp] theorem ixD_lst {ds : List D} {i : Int} : ixD (.lst ds) (.int i) = (L2.atI ds i).map .val := rfl
@[simp] theorem slD_tup {ds : List D} {lo hi : Option Int} : slD (.tup ds) lo hi = some (.val (.tup (cutD ds lo hi))) := rfl
@[simp] theorem ovT_lst {ds : List D} : ovT (.lst ds) = "list" := rfl
@[simp] theorem getO_lst {ds : List D} {i : Int} : getO (.lst ds) (.int i) = L2.atI ds i := rfl
@[simp] theorem setO_lst {ds : List D} {i : Int} {d : D} : setO (.lst ds) (.int i) d = (L2.ixN ds.length i).map fun j => .lst (ds.set j d) := rfl
@[simp] theorem eqD_int {i j : Int} : eqD (.int i) (.int j) = some (.val (.bl (decide (i = j)))) := by
  by_cases h : i = j <;> simp [eqD, shD, eqB, h]
@[simp] theorem neD_int {i j : Int} : neD (.int i) (.int j) = some (.val (.bl (!decide (i = j)))) := by
  by_cases h : i = j <;> simp [neD, shD, eqB, h]
@[simp] theorem eqD_bl {i j : Bool} : eqD (.bl i) (.bl j) = some (.val (.bl (decide (i = j)))) := by
  cases i <;> cases j <;> rfl
theorem atI_ge {α : Type} {l : List α} {i : Int} {x : α} (h0 : 0 ≤ i) (h : l[i.toNat]? = some x) : L2.atI l i = some x := by
  have hl := (List.getElem?_eq_some_iff.mp h).1
  unfold L2.atI L2.ixN
  rw [if_pos h0, if_pos (by omega)]
  exact h
@[simp] theorem atI_0 {α : Type} {a : α} {l : List α} : L2.atI (a :: l) 0 = some a := atI_ge (by decide) rfl
@[simp] theorem atI_1 {α : Type} {a b : α} {l : List α} : L2.atI (a :: b :: l) 1 = some b := atI_ge (by decide) rfl
@[simp] theorem atI_2 {α : Type} {a b c : α} {l : List α} : L2.atI (a :: b :: c :: l) 2 = some c := atI_ge (by decide) rfl
@[simp] theorem atI_3 {α : Type} {a b c d : α} {l : List α} : L2.atI (a :: b :: c :: d :: l) 3 = some d := atI_ge (by decide) rfl
@[simp] theorem atI_4 {α : Type} {a b c d e : α} {l : List α} : L2.atI (a :: b :: c :: d :: e :: l) 4 = some e := atI_ge (by decide) rfl
end Fw
set_option linter.all false
set_option maxRecDepth 100000
namespace Fw
open PySem
noncomputable def f_law_begin_C1 : M EV := (mComp (mSeq (mVar 0)) [1] (gNm 1) (M.pure true) (mCallB bInt (mCons (mVar 1) mNil)))
noncomputable def f_law_begin : MSt := (sRet (mLst (mCons (mFz f_law_begin_C1) (mCons (M.pure (.val (.int 0))) (mCons (M.pure (.val (.int 0))) (mCons (M.pure (.val (.int 7))) (mCons (M.pure (.val (.int 3))) mNil)))))))
noncomputable def fm_law_begin : M EV := fmOf 2 f_law_begin
noncomputable def f_law_draw : MSt := (sSeq (sAsg 1 (mCallB bMax (mCons (mVar 1) (mCons (M.pure (.val (.int 1))) mNil)))) (sSeq (sIf (mB (mOp2 (intOp iGt) (mOp2 ixD (mVar 0) (M.pure (.val (.int 2)))) (M.pure (.val (.int 0))))) (sSeq (sAsg 2 (mOp2 ixD (mVar 0) (M.pure (.val (.int 2))))) (sSeq (sSetI setO 0 (M.pure (.val (.int 2))) (mOp2 (intOp iDiv) (mVar 2) (mVar 1))) (sRet (mOp2 (intOp iMod) (mCallB bInt (mCons (mVar 2) mNil)) (mVar 1))))) sNx) (sSeq (sAsg 3 (mIf (mB (mOp2 (intOp iLt) (mOp2 ixD (mVar 0) (M.pure (.val (.int 1)))) (mCallB bLen (mCons (mOp2 ixD (mVar 0) (M.pure (.val (.int 0)))) mNil)))) (mOp2 ixD (mOp2 ixD (mVar 0) (M.pure (.val (.int 0)))) (mOp2 ixD (mVar 0) (M.pure (.val (.int 1))))) (M.pure (.val (.int 0))))) (sSeq (sAsg 4 (mOp2 addD (mOp2 mulD (M.pure (.val (.int 2))) (mCallB bAbs (mCons (mVar 3) mNil))) (mCallB bInt (mCons (mOp2 (intOp iLt) (mVar 3) (M.pure (.val (.int 0)))) mNil)))) (sSeq (sAugI getO (intOp iAdd) setO 0 (M.pure (.val (.int 1))) (M.pure (.val (.int 1)))) (sSeq (sIf (mB (mOp2 (intOp iGe) (mVar 4) (mOp2 mulD (M.pure (.val (.int 2))) (mOp2 (intOp iPow) (M.pure (.val (.int 10))) (M.pure (.val (.int 18))))))) (sSeq (sAsg 2 (mOp2 (intOp iMod) (mCallB bInt (mCons (mOp2 (intOp iDiv) (mVar 4) (M.pure (.val (.int 2)))) mNil)) (mOp2 (intOp iShl) (M.pure (.val (.int 1))) (M.pure (.val (.int 6000)))))) (sSeq (sSetI setO 0 (M.pure (.val (.int 2))) (mOp2 (intOp iDiv) (mVar 2) (mVar 1))) (sRet (mOp2 (intOp iMod) (mCallB bInt (mCons (mVar 2) mNil)) (mVar 1))))) sNx) (sSeq (sSetI setO 0 (M.pure (.val (.int 3))) (mOp2 (intOp iMod) (mCallB bInt (mCons (mOp2 addD (mOp2 addD (mOp2 addD (mOp2 mulD (mOp2 ixD (mVar 0) (M.pure (.val (.int 3)))) (M.pure (.val (.int 48271)))) (mOp2 mulD (mOp2 (intOp iMod) (mCallB bInt (mCons (mVar 4) mNil)) (M.pure (.val (.int 2147483629)))) (M.pure (.val (.int 16807))))) (mOp2 mulD (mOp2 ixD (mVar 0) (M.pure (.val (.int 1)))) (M.pure (.val (.int 69621))))) (M.pure (.val (.int 11)))) mNil)) (M.pure (.val (.int 2147483647))))) (sRet (mOp2 (intOp iMod) (mCallB bInt (mCons (mOp2 (intOp iDiv) (mOp2 ixD (mVar 0) (M.pure (.val (.int 3)))) (M.pure (.val (.int 16)))) mNil)) (mVar 1))))))))))
noncomputable def fm_law_draw : M EV := fmOf 5 f_law_draw
noncomputable def f_law_pick : MSt := (sRet (mOp2 ixD (mVar 1) (mCallF [true, false] fm_law_draw (mCons (mVar 0) (mCons (mCallB bLen (mCons (mVar 1) mNil)) mNil)))))
noncomputable def fm_law_pick : M EV := fmOf 2 f_law_pick
noncomputable def f_law_rare : MSt := (sRet (mOp2 eqD (mCallF [true, false] fm_law_draw (mCons (mVar 0) (mCons (mVar 1) mNil))) (mOp2 (intOp iDiv) (mVar 1) (M.pure (.val (.int 2))))))
noncomputable def fm_law_rare : M EV := fmOf 2 f_law_rare

/-- what _law_begin hands out, and every draw keeps -/
def DS (o : OV) : Prop := ∃ (cells : List Int) (p c s : Int), o = .lst [.lst (cells.map .int), .int p, .int c, .int s, .int 3] ∧ 0 ≤ p ∧ 0 ≤ c
theorem ixN_51 : L2.ixN 5 1 = some 1 := by decide
theorem ixN_52 : L2.ixN 5 2 = some 2 := by decide
theorem ixN_53 : L2.ixN 5 3 = some 3 := by decide
theorem iPow_18 : iPow 10 18 = some (.val (.int 1000000000000000000)) := by
  unfold iPow
  rw [if_pos ⟨by decide, by decide, by decide⟩]
  rfl
theorem iShl_6000 : iShl 1 6000 = some (.val (.int (2 ^ 6000))) := by
  unfold iShl
  rw [if_pos ⟨by decide, by decide, by decide⟩, Int.one_mul]
  rfl
theorem iMul_2 {i : Int} : iMul 2 i = some (.val (.int (2 * i))) := iMul_ok ⟨by decide, by decide⟩
theorem iMul_a {i : Int} : iMul i 48271 = some (.val (.int (i * 48271))) := iMul_ok2 ⟨by decide, by decide⟩
theorem iMul_b {i : Int} : iMul i 16807 = some (.val (.int (i * 16807))) := iMul_ok2 ⟨by decide, by decide⟩
theorem iMul_c {i : Int} : iMul i 69621 = some (.val (.int (i * 69621))) := iMul_ok2 ⟨by decide, by decide⟩
theorem iDiv_2 {i : Int} : iDiv i 2 = some (.val (.int (i / 2))) := iDiv_ok (by decide) (by decide)
theorem iDiv_16 {i : Int} : iDiv i 16 = some (.val (.int (i / 16))) := iDiv_ok (by decide) (by decide)
theorem iMod_a {i : Int} : iMod i 2147483629 = some (.val (.int (i % 2147483629))) := iMod_ok (by decide)
theorem iMod_b {i : Int} : iMod i 2147483647 = some (.val (.int (i % 2147483647))) := iMod_ok (by decide)
theorem iMod_6000 {i : Int} : iMod i (2 ^ 6000) = some (.val (.int (i % 2 ^ 6000))) := iMod_ok (Int.pow_pos (by decide))
theorem run_draw {o : OV} {n : Int} {Q : EV → MS → Prop} {E : EX → MS → Prop} (h : DS o) (hn : n < 1073741824) (q : ∀ r o', DS o' → 0 ≤ r → r < max n 1 → Q (.val (.int r)) [.own true o', .unk]) : Wp fm_law_draw [.own true o, .val (.int n)] Q E := by
  obtain ⟨cells, p, c, s, rfl, hp, hc⟩ := h
  unfold fm_law_draw
  rw [run_fm]
  refine ⟨rfl, ?_⟩
  unfold f_law_draw
  have hm : 0 < max n 1 := by omega
  have hm2 : max n 1 < 1073741824 := by omega
  simp -warnExponents [iDiv_ok hm hm2, iMod_ok hm, ixN_51, ixN_52, ixN_53, iPow_18, iShl_6000, iMul_2, iMul_a, iMul_b, iMul_c, iDiv_2, iDiv_16, iMod_a, iMod_b, iMod_6000]
  refine ⟨fun h => ?_, fun h => ⟨fun h1 => ?_, fun h1 => ?_⟩⟩
  · exact q _ _ ⟨cells, p, _, s, rfl, hp, Int.ediv_nonneg hc (by omega)⟩ (Int.emod_nonneg _ (by omega)) (Int.emod_lt_of_pos _ hm)
  · have hx : ∃ x, cells[p.toNat]? = some x := ⟨_, List.getElem?_eq_getElem (by omega)⟩
    obtain ⟨x, hx⟩ := hx
    refine opK_of (a := .int x) (atI_ge hp (by rw [List.getElem?_map, hx]; rfl)) ?_
    simp -warnExponents [iDiv_ok hm hm2, iMod_ok hm, ixN_51, ixN_52, ixN_53, iPow_18, iShl_6000, iMul_2, iMul_a, iMul_b, iMul_c, iDiv_2, iDiv_16, iMod_a, iMod_b, iMod_6000]
    refine ⟨fun _ => ?_, fun _ => ?_⟩
    · exact q _ _ ⟨cells, _, _, s, rfl, by omega, Int.ediv_nonneg (Int.emod_nonneg _ (Int.ne_of_gt (Int.pow_pos (by decide)))) (by omega)⟩ (Int.emod_nonneg _ (by omega)) (Int.emod_lt_of_pos _ hm)
    · exact q _ _ ⟨cells, _, _, _, rfl, by omega, hc⟩ (Int.emod_nonneg _ (by omega)) (Int.emod_lt_of_pos _ hm)
  · exact q _ _ ⟨cells, _, _, _, rfl, by omega, hc⟩ (Int.emod_nonneg _ (by omega)) (Int.emod_lt_of_pos _ hm)
/-- one of a row -/
theorem run_pick {o : OV} {row : D} {ds : List D} {Q : EV → MS → Prop} {E : EX → MS → Prop} (h : DS o) (hr : row = .lst ds ∨ row = .tup ds) (hne : ds ≠ []) (hl : ds.length < 1073741824) (q : ∀ d o', DS o' → d ∈ ds → Q (.val d) [.own true o', .unk]) : Wp fm_law_pick [.own true o, .val row] Q E := by
  unfold fm_law_pick
  rw [run_fm]
  refine ⟨rfl, ?_⟩
  unfold f_law_pick
  have hp : 0 < ds.length := List.length_pos_iff.mpr hne
  rcases hr with rfl | rfl
  all_goals
    simp
    refine run_draw h (by omega) fun r o' h' r0 r1 => ?_
    have hr : r.toNat < ds.length := by omega
    simp
    refine opK_of (atI_ge r0 (List.getElem?_eq_getElem hr)) ?_
    exact q _ _ h' (List.getElem_mem hr)
theorem run_rare {o : OV} {n : Int} {Q : EV → MS → Prop} {E : EX → MS → Prop} (h : DS o) (hn : n < 1073741824) (q : ∀ b o', DS o' → Q (.val (.bl b)) [.own true o', .unk]) : Wp fm_law_rare [.own true o, .val (.int n)] Q E := by
  unfold fm_law_rare
  rw [run_fm]
  refine ⟨rfl, ?_⟩
  unfold f_law_rare
  simp
  refine run_draw h (by omega) fun r o' h' r0 r1 => ?_
  simp [iDiv_2]
  exact q _ _ h'
/-- the first draw's state -/
theorem run_begin {cells : List Int} {d : D} {Q : EV → MS → Prop} {E : EX → MS → Prop} (hd : d = .lst (cells.map .int) ∨ d = .kls (cells.map .int)) (q : ∀ o', DS o' → Q (.new o') [.unk]) : Wp fm_law_begin [.val d] Q E := by
  unfold fm_law_begin
  rw [run_fm]
  refine ⟨by rcases hd with rfl | rfl <;> rfl, ?_⟩
  unfold f_law_begin f_law_begin_C1
  have go : ∀ (d0 : D) (QL : List D → MS → Prop), QL (cells.map .int) [.val d0, .unk] → Wp (compL [1] (gNm 1) (M.pure true) (mCallB bInt (mCons (mVar 1) mNil)) (cells.map .int) []) [.val d0, .unk] QL (fun _ _ => False) := by
    intro d0 Q q
    refine run_compM id _ _ (fun d hd => ?_) ?_
    · obtain ⟨i, _, rfl⟩ := List.mem_map.mp hd
      simp
    · simpa using q
  rcases hd with rfl | rfl
  all_goals
    simp
    refine go _ _ ?_
    simp
    exact q _ ⟨cells, 0, 0, 7, rfl, by omega, by omega⟩
end Fw
set_option linter.all false
set_option maxRecDepth 100000
namespace Fw
open PySem L2
theorem reps_ints {K : PySem.W.Frag} {H : Hp} : ∀ {ns : List Int}, Reps K H (ns.map D.int) (ns.map V.int)
  | [] => by rw [List.map_nil, List.map_nil, Reps]
  | n :: ns => by
    rw [List.map_cons, List.map_cons, Reps]
    exact ⟨_, _, rfl, by rw [Rep], reps_ints⟩
/-- the law's promise at the script -/
theorem sp_law {fm : M EV} (h : ∀ (cells : List Int) (d : D), (d = .lst (cells.map .int) ∨ d = .kls (cells.map .int)) → ∀ (Q : EV → MS → Prop) (E : EX → MS → Prop), Q (.val (.bl true)) [.unk] → Wp fm [.val d] Q E)
    {K : PySem.W.Frag} {H : Hp} {a : Addr} {ns : List Int} (hO : Only H) (hS : SqL K H a (ns.map V.int)) : spM K 1 fm [.ref a] H (fun v _ => v = .bl true) (fun _ _ _ => False) := by
  obtain ⟨d, hd, hr⟩ : ∃ d, (d = .lst (ns.map .int) ∨ d = .kls (ns.map .int)) ∧ Rep K H d (.ref a) := by
    rcases hS with hS | hS
    · rcases hS with hS | ⟨o, hS⟩
      · rcases hO a with z | ⟨o, xs, z⟩
        · rw [z] at hS; cases hS
        · rw [z] at hS; cases hS
      · exact ⟨_, .inl rfl, by rw [Rep]; exact ⟨a, _, rfl, ⟨o, hS⟩, reps_ints⟩⟩
    · exact ⟨_, .inr rfl, by rw [Rep]; exact ⟨a, _, rfl, hS, reps_ints⟩⟩
  refine ⟨rfl, [.val d], ⟨rfl, fun i d' hi => ?_, fun i l o hi => ?_, fun i j l l' o o' b hi => ?_⟩, ?_⟩
  · cases i with
    | zero => cases hi; exact ⟨_, rfl, hr⟩
    | succ i => cases hi
  · cases i with
    | zero => cases hi
    | succ i => cases hi
  · cases i with
    | zero => cases hi
    | succ i => cases hi
  · refine h ns d hd _ _ ?_
    intro v H' p o
    have o : Rep K H' (.bl true) v := o
    rw [Rep] at o
    exact o
theorem cx_none {P : Program} {w : World} {H : Hp} {s : Shared} {e : Value} {s' : Shared} (h : L2.CX P w [] H s (fun _ _ _ => False) e s') : False := by
  obtain ⟨_, _, _, _, _, _, _, _, _, _, _, _, z⟩ := h
  exact z
end Fw
set_option Elab.async false
set_option linter.all false
set_option maxRecDepth 100000
set_option maxHeartbeats 4000000
namespace Fw
section
open PySem PySem.Spec PyProof.Rows L2
theorem list_extend_tup (l : Addr) (items : Array Value) (n : Nat) (b : Addr) (items2 : Array Value) (n2 : Nat) (dd : Option Addr) (sl : Array (Option Value)) (hs0 : ¬(!items.isEmpty && Builtin.List.listTooLong (items.size + items2.size)) = true) (hs1 : items.size ≤ sizeLine) (hs2 : items.size + items2.size ≤ sizeLine + 1) :
    Meets (Builtin.«list.extend» ⟨[.ref l, .ref b], []⟩) (fun _ R s => s.heap.get? l = some { cls := .type "list", dict := none, data := .seq items n, slots := #[] } ∧ s.heap.get? b = some { cls := .type "tuple", dict := dd, data := .seq items2 n2, slots := sl } ∧ R (.ok (.ret Value.none)) { s with heap := s.heap.update l (Obj.mapSeq fun x => x ++ items2), toks := s.toks }) :=
  .of_wp fun prog w A R s h => by
    obtain ⟨hp, g, d, tk, os⟩ := s; obtain ⟨hl, hb, h⟩ := h; have f1 := AutoSeq1.idx_int; have f2 := AutoSeq1.sub_tuple_tuple; have f3 := AutoSeq1.sub_list_list; have f4 := AutoSeq1.sub_tuple_list; have f5 := AutoSeq1.sub_list_tuple
    have hz' : (items ++ items2).size ≤ sizeLine + 1 := by rw [Array.size_append]; exact hs2
    wp_walk using (wpAny_updateSeq hl rfl (hz := hs1) (_hz' := hz')), wpAny_loadPart' hl, wpAny_loadPart' hb; exact ⟨_, rfl, h⟩
def rExtA (K : PySem.W.Frag) : V → List V → Hp → VK → Prop := fun x vs H Q => ∃ l b xs zs, x = .ref l ∧ vs = [.ref b] ∧ H l = some (.lst xs) ∧ (Rd H b (.lst zs) ∨ SqT K H b zs) ∧ xs.length + zs.length ≤ sizeLine ∧ Q .non (upd H l (.lst (xs ++ zs)))
theorem mt_extendA {X : Cx} : MtM X "list.extend" (rExtA X.K) := by
  intro pins s σ H x vs v us Q I rx rv h
  obtain ⟨l, b, xs, zs, rfl, rfl, hH, hB, hz, q⟩ := h
  cases rx
  obtain ⟨u, rfl, ru⟩ := rv.one
  cases ru
  obtain ⟨z, its, n, r, hl, e⟩ := I.lstM hH
  rcases hB with hB | hB
  · obtain ⟨z2, its2, n2, r2, hl2, e2⟩ := lstR I hB
    have hsz : its.toArray.size + its2.toArray.size ≤ sizeLine := by rw [List.size_toArray, List.size_toArray]; omega
    have hlong : ¬ (!its.toArray.isEmpty && Builtin.List.listTooLong (its.toArray.size + its2.toArray.size)) = true := by
      rw [notLongL hsz, Bool.and_false]
      exact Bool.false_ne_true
    refine call_meets F.slot_list_extend ⟨_, e, rfl⟩ F.entry_list_extend (F.args_list_extend_2 _ _)
      (AutoSeq1.list_extend_list_list_0 l its.toArray n b its2.toArray n2 hlong (by rw [List.size_toArray]; omega) (by omega)) ⟨e, e2, ?_⟩
    refine ⟨.non, _, I.lset (its' := its ++ its2) hH e (by simp) (r.append r2) ?_, rfl, q⟩
    rw [List.length_append]
    omega
  · obtain ⟨its2, r2, ⟨⟨cls, dd, data, sl⟩, ho, hc, n2, hd⟩, hs2⟩ := I.tuple hB
    simp only at hc hd
    subst hc hd
    have hl2 := r2.length
    have hsz : its.toArray.size + its2.toArray.size ≤ sizeLine := by rw [List.size_toArray, List.size_toArray]; omega
    have hlong : ¬ (!its.toArray.isEmpty && Builtin.List.listTooLong (its.toArray.size + its2.toArray.size)) = true := by
      rw [notLongL hsz, Bool.and_false]
      exact Bool.false_ne_true
    refine call_meets F.slot_list_extend ⟨_, e, rfl⟩ F.entry_list_extend (F.args_list_extend_2 _ _)
      (list_extend_tup l its.toArray n b its2.toArray n2 dd sl hlong (by rw [List.size_toArray]; omega) (by omega)) ⟨e, ho, ?_⟩
    refine ⟨.non, _, I.lset (its' := its ++ its2) hH e (by simp) (r.append r2) ?_, rfl, q⟩
    rw [List.length_append]
    omega
end
open PySem L2
section
variable {X : Cx}
def gExtend (o : OV) (as : List D) : Option (D × OV) := match o, as with
  | .lst ds, [.lst es] => if ds.length + es.length ≤ 16777216 then some (.non, .lst (ds ++ es)) else none
  | .lst ds, [.tup es] => if ds.length + es.length ≤ 16777216 then some (.non, .lst (ds ++ es)) else none
  | .lst ds, [.ktp es] => if ds.length + es.length ≤ 16777216 then some (.non, .lst (ds ++ es)) else none
  | _, _ => none
theorem m_extend : MutB X "list.extend" gExtend := ⟨_, mt_extendA, fun H a o xs ds d o' Q oa r hg q => by
  have fin : ∀ (l es : List D) (b : Addr) (zs : List V), o = .lst l → xs = [.ref b] → (Rd H b (.lst zs) ∨ SqT X.K H b zs) → Reps X.K H es zs → (if l.length + es.length ≤ 16777216 then some (D.non, OV.lst (l ++ es)) else none) = some (d, o') → rExtA X.K (.ref a) xs H Q := by
    rintro l es b zs rfl rfl hb rz hg
    split at hg
    · rename_i c
      cases hg
      obtain ⟨ys, h1, h2⟩ := oa
      have kk := kept_chg (u' := HO.lst (ys ++ zs)) h1 trivial
      refine ⟨a, b, ys, zs, rfl, rfl, h1, hb, by rw [sizeLine_eq, ← h2.length, ← rz.length]; exact c, q .non _ ⟨_, upd_same, ?_⟩ (by rw [Rep])⟩
      exact (Reps.mono kk _ _ h2).append (Reps.mono kk _ _ rz)
    · cases hg
  unfold gExtend at hg
  split at hg
  · obtain ⟨y, rfl, ry⟩ := pair1 r
    obtain ⟨b, zs, rfl, h1, h2⟩ := ry
    exact fin _ _ b zs rfl rfl (.inl h1) h2 hg
  · obtain ⟨y, rfl, ry⟩ := pair1 r
    obtain ⟨b, zs, rfl, h1, h2⟩ := rdTup ry
    exact fin _ _ b zs rfl rfl (.inr (.of h1)) h2 hg
  · obtain ⟨y, rfl, ry⟩ := pair1 r
    obtain ⟨b, zs, rfl, h1, h2⟩ := rdKtp ry
    exact fin _ _ b zs rfl rfl (.inr h1.seq) h2 hg
  · cases hg⟩
end
end Fw
set_option Elab.async false
set_option linter.all false
set_option maxRecDepth 100000
set_option maxHeartbeats 4000000
namespace Fw
open PySem L2
section
variable {X : Cx} {W : WX} {a b c e o f : Expr} {es : List Expr} {ma mb mc m : M EV} {mas : M (List EV)} {pos apos cpos p : Pos} {x : Str}
/-! ### f() -/
open PySem.Spec PyProof.Rows in
theorem pe_callS0 {CX : CXT} {k : Nat} {g : Addr} {fd : FuncData} {ps : List Str} {sp : Sp} {E : L2.St → XK} (F : FnOk X.prog X.w X.K X.mg X.base CX k g fd ps sp) (hr : Room k X.A) (hg : Gl X x) (hm : X.mg x = some (.ref g)) (hk : PySem.W.keepIn X.K (.ref g) = true) (hb : Binds X.K fd ps []) (hx : ∀ σ, PassesAt CX X σ (E σ))
    (hdb : (x == ("__debug__" : Str)) = false) : PE X (.Call (.Name x p) [] [] pos) (tCallS sp E tNil) := by
  refine ⟨fun pins s σ H Q I h => ?_⟩
  refine wpAny_Call_Name_kw (ld_glob I hg hm ?_ hdb)
  exact PySem.W.callWith_K0 I.kIn hk (run_fnS (us := []) F hr hb (hx σ) I .nil h)
theorem me_call0 {k j : Nat} {fm : M EV} (F : FnGood X.prog X.w X.K X.mg X.base x 0 k fm) (hr : Room j X.A) (hk : k ≤ j) (hg : Gl X x) (tk : Takes X W) (hdb : (x == ("__debug__" : Str)) = false) : ME X W (.Call (.Name x p) [] [] pos) (mCallF [] fm mNil) := by
  obtain ⟨f, fd, ps, hm, kp, hb, hl, ok⟩ := F
  refine PE.imp (pe_callS0 ok (hr.mono hk) hg hm kp hb (fun σ => passAt tk σ) hdb) fun σ H Q q => ?_
  have q2 := call_core (n := 0) (sig := []) (mas := mNil) (fun evs args ms h => sig_len h) q
  obtain ⟨ms, G, h⟩ := q2
  exact h [] H (.refl G) .nil
/-! ### what the module holds -/
theorem xGS {z : Str} {t : Tok} (hm : X.mg x = some (.str z t)) (hg : Gl X x := by rfl) (hdb : (x == ("__debug__" : Str)) = false := by rfl) : ME X W (.Name x pos) (M.pure (.val (.str z))) := me_val (fun H => by rw [Rep]) (pe_glob (v := .str z) hg hm ⟨t, rfl⟩ hdb)
theorem xGI {z : Int} {t : Tok} (hm : X.mg x = some (.int z t)) (hg : Gl X x := by rfl) (hdb : (x == ("__debug__" : Str)) = false := by rfl) : ME X W (.Name x pos) (M.pure (.val (.int z))) := me_val (fun H => by rw [Rep]) (pe_glob (v := .int z) hg hm ⟨t, rfl⟩ hdb)
theorem xC0 {k j : Nat} {fm : M EV} (F : FnGood X.prog X.w X.K X.mg X.base x 0 k fm) (hr : Room j X.A) (tk : Takes X W) (hk : k ≤ j := by omega) (hg : Gl X x := by rfl) (hdb : (x == ("__debug__" : Str)) = false := by rfl) : ME X W (.Call (.Name x p) [] [] pos) (mCallF [] fm mNil) := me_call0 F hr hk hg tk hdb
theorem xCo {k j : Nat} {fm : M EV} (sig : List Bool) (F : FnGood X.prog X.w X.K X.mg X.base x sig.length k fm) (hr : Room j X.A) (tk : Takes X W) (ha : MA X W (e :: es) mas) (hk : k ≤ j := by omega) (hg : Gl X x := by rfl) (hdb : (x == ("__debug__" : Str)) = false := by rfl)
    (he : starEach (e :: es) X.env = (false, eval e X.env) :: starEach es X.env := by rfl) (hpl : (backTo pos (starEach es X.env)).any (·.1) = false := by rfl) : ME X W (.Call (.Name x p) (e :: es) [] pos) (mCallF sig fm mas) := me_call F hr hk hg tk ha hdb he hpl
/-! ### dicts -/
theorem xDn (t : Bool) : ME X W (.Dict [] [] pos) (M.pure (.new (.dic t [] []))) := by
  cases t with
  | false =>
    refine PE.imp pe_dnewK fun σ H Q q => ?_
    obtain ⟨ms, G, h⟩ := q
    intro p hp
    have s := same_new (o := HO.dK []) hp
    exact h _ _ (.same G s) ⟨p, rfl, hp, ⟨_, [], upd_same, ⟨[], rfl, rfl, rfl⟩, by rw [Reps]⟩, fun z => by
      obtain ⟨u, hu, _⟩ := G.chg z
      rw [hp] at hu; cases hu⟩
  | true =>
    refine PE.imp pe_dnewT fun σ H Q q => ?_
    obtain ⟨ms, G, h⟩ := q
    intro p hp
    have s := same_new (o := HO.dT []) hp
    exact h _ _ (.same G s) ⟨p, rfl, hp, ⟨_, [], upd_same, ⟨[], rfl, rfl, rfl⟩, by rw [Reps]⟩, fun z => by
      obtain ⟨u, hu, _⟩ := G.chg z
      rw [hp] at hu; cases hu⟩
def isDct : D → Bool
  | .dct _ _ _ => true
  | _ => false
def getD2 (d q z : D) : Option D := match d with
  | .dct t ks vs => if okKey t q = true then some ((dFind ks vs q).getD z) else none
  | _ => none
/-- o.get(e, f) -/
def mGet2 (mo me mf : M EV) : M EV := mo.bind fun x ms0 => match rd ms0 x with
  | some d0 => if isDct d0 = true then (me.bind fun y => mf.bind fun z => fun ms => match rd ms x, rd ms y, z with
      | some d, some q, .val dz => (match getD2 d q dz with
        | some r => some (.ok (.val r) ms)
        | none => none)
      | _, _, _ => none) ms0 else none
  | none => none
theorem isD_rd {K : PySem.W.Frag} {H : Hp} {d : D} {v : V} (r : RdAt K H d v) (h : isDct d = true) : ∃ a, v = .ref a ∧ IsD H a := by
  cases d with
  | dct t ks vs =>
    obtain ⟨a, u, xs, rfl, hu, d, _⟩ := r
    refine ⟨a, rfl, ?_⟩
    cases t with
    | false => obtain ⟨kvs, rfl, _⟩ := d; exact .inl ⟨kvs, hu⟩
    | true => obtain ⟨kvs, rfl, _⟩ := d; exact .inr ⟨kvs, hu⟩
  | _ => cases h
theorem me_get2 (hu : X.A.units + 1 < cLine) (ho : ME X W o ma) (he : ME X W e mb) (hf : ME X W f mc) (m : M2 X o "get" apos e f cpos) : ME X W (.Call (.Attribute o "get" apos) [e, f] [] cpos) (mGet2 ma mb mc) := by
  refine PE.imp (pe_dget2 hu ho he hf m) fun σ H Q q => ?_
  obtain ⟨ms, G, h⟩ := q
  refine tM_bind G h (fun x ms' z => z) fun ex ms1 h1 v1 H1 p1 o1 => ?_
  cases hd0 : rd ms1 ex with
  | none => simp only [Run, hd0] at h1
  | some d0 =>
    by_cases hc : isDct d0 = true
    case neg => simp only [Run, hd0, if_neg hc] at h1
    obtain ⟨a, ea, da⟩ := isD_rd (rd_ok p1.good o1 hd0) hc
    refine ⟨a, ea, da, ?_⟩
    have h2 : Run (mb.bind fun y => mc.bind fun z => fun ms => match rd ms ex, rd ms y, z with
      | some d, some q, .val dz => (match getD2 d q dz with
        | some r => some (.ok (.val r) ms)
        | none => none)
      | _, _, _ => none) ms1 (fun ev ms' => ∀ v H', PostE X.K ms σ H ms' H' → EVOk X.K ms' σ H H' v ev → Q v H') (fun x ms' => ∀ cls d H', PostE X.K ms σ H ms' H' → ExOk X.K H' x cls d → W cls d σ H') := by
      simp only [Run, hd0, if_pos hc] at h1 ⊢
      exact h1
    refine tM_bind p1.good h2 (fun x ms' z cls d H' p => z cls d H' (p1.trans p)) fun ey ms2 h3 v2 H2 p2 o2 => ?_
    have p12 := p1.trans p2
    refine tM_bind p2.good h3 (fun x ms' z cls d H' p => z cls d H' (p12.trans p)) fun ez ms3 h4 v3 H3 p3 o3 => ?_
    have p13 := p12.trans p3
    have ox := (o1.mono p1.good p2).mono p2.good p3
    have oy := o2.mono p2.good p3
    cases hx : rd ms3 ex with
    | none => simp only [Run, hx] at h4
    | some d =>
      cases hy : rd ms3 ey with
      | none => simp only [Run, hx, hy] at h4
      | some q =>
        cases ez with
        | new o => simp only [Run, hx, hy] at h4
        | bor o => simp only [Run, hx, hy] at h4
        | val dz =>
          cases hr : getD2 d q dz with
          | none => simp only [Run, hx, hy, hr] at h4
          | some r =>
            simp only [Run, hx, hy, hr] at h4
            have rx := rd_ok p3.good ox hx
            have ry := rd_ok p3.good oy hy
            have rz : Rep X.K H3 dz v3 := o3
            cases d with
            | dct t ks vs =>
              obtain ⟨a', u, xs, e', hu', dd, rr⟩ := rx
              rw [ea] at e'; cases e'
              unfold getD2 at hr
              dsimp only at hr
              split at hr
              · rename_i ok
                obtain ⟨oo, g, zz⟩ := dget_ok hu' dd rr ok ry
                refine ⟨oo, g, ?_⟩
                cases hr
                rcases zz with ⟨v, dv, rfl, e1, e2⟩ | ⟨rfl, e1⟩
                · rw [e1] at h4
                  exact h4 v H3 p13 e2
                · rw [e1] at h4
                  exact h4 v3 H3 p13 rz
              · cases hr
            | _ => cases hr
end
section
variable {P : Program} {w : World} {K : PySem.W.Frag} {mg : Str → Option Value} {base : Heap}
/-! ### a def that calls itself -/
def recM (n : Nat) (b : M EV → MSt) : Nat → M EV
  | 0 => fun _ => none
  | k + 1 => fmOf n (b (recM n b k))
theorem good_rec {x qual : Str} {st : Stmt} {f : Addr} {fd : FuncData} {N ps : List Str} {k0 : Nat} {b : M EV → MSt} (F : Fun K x qual st f fd) (bd : Binds K fd ps []) (hm : mg x = some (.ref f)) (S : FnScope N ps (defScope st))
    (hbody : ∀ (n : Nat) (fm : M EV), FnGood P w K mg base x ps.length (k0 + n + 1) fm → ∀ (X : Cx) (W : WX) (cdv : Value) (A : Around) (outer : List Env) (s : Shared) (H : Hp) (E : XK), X = cxOf (L2.CX P w) P w K mg base N qual (defScope st) f cdv A outer s H E → Room (k0 + n + 1) X.A → Takes X W → PassesOwn (model X.prog X.w) X.A X.env X.xe → MSs X W (defBody st) (b fm)) :
    ∀ n, FnGood P w K mg base x ps.length (k0 + n + 1) (recM N.length b n)
  | 0 => ⟨f, fd, ps, hm, F.kp, bd, rfl, F.okX S (fun vs H Q E h => h.1) (fun cdv A outer s H vs Q E hr h => by
      obtain ⟨_, ms, _, h⟩ := h
      exact h.elim)⟩
  | n + 1 => good_mk F bd hm S (hbody n _ (good_rec F bd hm S hbody n))
end
end Fw
set_option Elab.async false
set_option linter.all false
set_option maxRecDepth 100000
set_option maxHeartbeats 4000000
namespace Fw
section
open PySem PySem.Spec PyProof.Rows L2
variable {X : Cx}
/-! ### x in row, deep -/
def rInT (K : PySem.W.Frag) : R2 := fun x y H Q => ∃ d ds, Dp K H x d ∧ Dp K H y (.tuple ds) ∧ SeqAt.shaped d = true ∧ SeqAt.shaped (.tuple ds) = true ∧ Q (.bl (ds.any fun z => PyData.eqv z d)) H
def rNotInT (K : PySem.W.Frag) : R2 := fun x y H Q => ∃ d ds, Dp K H x d ∧ Dp K H y (.tuple ds) ∧ SeqAt.shaped d = true ∧ SeqAt.shaped (.tuple ds) = true ∧ Q (.bl (!ds.any fun z => PyData.eqv z d)) H
theorem op_inT (hu : X.A.units + 65 < cLine) : OpR X (compareOp .In) (rInT X.K) := by
  intro pins s σ H x y v u Q I rx ry h
  obtain ⟨d, ds, hd, he, sd, se, q⟩ := h
  obtain ⟨as, r1⟩ := Dp.reads I d x v hd rx
  obtain ⟨bs, r2⟩ := Dp.reads I (.tuple ds) y u he ry
  exact SeqAt.in_tuple_reads r2 r1 (SeqAt.canLay_of_shaped se) (SeqAt.canLay_of_shaped sd) (room_in_shaped sd hu) ⟨.bl _, H, I, rfl, q⟩
theorem op_notInT (hu : X.A.units + 65 < cLine) : OpR X (compareOp .NotIn) (rNotInT X.K) := by
  intro pins s σ H x y v u Q I rx ry h
  obtain ⟨d, ds, hd, he, sd, se, q⟩ := h
  obtain ⟨as, r1⟩ := Dp.reads I d x v hd rx
  obtain ⟨bs, r2⟩ := Dp.reads I (.tuple ds) y u he ry
  exact SeqAt.notIn_tuple_reads r2 r1 (SeqAt.canLay_of_shaped se) (SeqAt.canLay_of_shaped sd) (room_in_shaped sd hu) ⟨.bl _, H, I, rfl, q⟩
end
section
open PySem L2
variable {X : Cx}
def deepB (q c : D) : Option Bool := match seqD c with
  | some ds => if shD 64 q = true ∧ shD 64 c = true then some (ds.any fun y => eqB y q) else none
  | none => none
theorem any_toP {q : D} (hq : shD 64 q = true) : ∀ {n : Nat} {ds : List D}, ds.all (shD n) = true → (toPs ds).any (fun z => PyData.eqv z (toP q)) = ds.any fun y => eqB y q
  | _, [], _ => rfl
  | n, d :: ds, h => by
    rw [List.all_cons, Bool.and_eq_true] at h
    rw [toPs, List.any_cons, List.any_cons, eqv_toP n 64 d q h.1 hq, any_toP hq h.2]
theorem o_deepIn (hu : X.A.units + 65 < cLine) : Op2 X (compareOp .In) (fun q c => (deepB q c).map fun b => .val (.bl b)) := ⟨_, (op_inD hu).or (op_inT hu), fun H x y d e ev Q rx ry hg q => by
  obtain ⟨b, hb, rfl⟩ := Option.map_eq_some_iff.mp hg
  unfold deepB at hb
  cases hs : seqD e with
  | none => simp only [hs] at hb; cases hb
  | some ds =>
    simp only [hs] at hb
    split at hb
    · rename_i c
      cases hb
      have q' := q (.bl (ds.any fun y => eqB y d)) H (.refl H) roBl
      have he := dpR_of c.2 ry
      have se := shaped_of c.2
      have hd := dpR_of c.1 rx
      have sd := shaped_of c.1
      cases e with
      | lst l => cases hs; exact .inl ⟨toP d, toPs ds, hd, he, sd, se, by rw [any_toP c.1 (n := 63) c.2]; exact q'⟩
      | kls l => cases hs; exact .inl ⟨toP d, toPs ds, hd, he, sd, se, by rw [any_toP c.1 (n := 63) c.2]; exact q'⟩
      | tup l => cases hs; exact .inr ⟨toP d, toPs ds, hd, he, sd, se, by rw [any_toP c.1 (n := 63) c.2]; exact q'⟩
      | ktp l => cases hs; exact .inr ⟨toP d, toPs ds, hd, he, sd, se, by rw [any_toP c.1 (n := 63) c.2]; exact q'⟩
      | _ => cases hs
    · cases hb⟩
theorem o_deepNotIn (hu : X.A.units + 65 < cLine) : Op2 X (compareOp .NotIn) (fun q c => (deepB q c).map fun b => .val (.bl (!b))) := ⟨_, (op_notInD hu).or (op_notInT hu), fun H x y d e ev Q rx ry hg q => by
  obtain ⟨b, hb, rfl⟩ := Option.map_eq_some_iff.mp hg
  unfold deepB at hb
  cases hs : seqD e with
  | none => simp only [hs] at hb; cases hb
  | some ds =>
    simp only [hs] at hb
    split at hb
    · rename_i c
      cases hb
      have q' := q (.bl (!ds.any fun y => eqB y d)) H (.refl H) roBl
      have he := dpR_of c.2 ry
      have se := shaped_of c.2
      have hd := dpR_of c.1 rx
      have sd := shaped_of c.1
      cases e with
      | lst l => cases hs; exact .inl ⟨toP d, toPs ds, hd, he, sd, se, by rw [any_toP c.1 (n := 63) c.2]; exact q'⟩
      | kls l => cases hs; exact .inl ⟨toP d, toPs ds, hd, he, sd, se, by rw [any_toP c.1 (n := 63) c.2]; exact q'⟩
      | tup l => cases hs; exact .inr ⟨toP d, toPs ds, hd, he, sd, se, by rw [any_toP c.1 (n := 63) c.2]; exact q'⟩
      | ktp l => cases hs; exact .inr ⟨toP d, toPs ds, hd, he, sd, se, by rw [any_toP c.1 (n := 63) c.2]; exact q'⟩
      | _ => cases hs
    · cases hb⟩
/-- q in c, of all sorts -/
def memB (q c : D) : Option Bool := match inB q c with
  | some b => some b
  | none => deepB q c
def memD (q c : D) : Option EV := (memB q c).map fun b => .val (.bl b)
def notMemD (q c : D) : Option EV := (memB q c).map fun b => .val (.bl (!b))
theorem o_mem (hu : X.A.units + 65 < cLine) : Op2 X (compareOp .In) memD := ((o_in (by omega)).or (o_deepIn hu)).imp fun d e r h => by
  unfold memD memB at h
  unfold inD
  cases h1 : inB d e with
  | some b => simp only [h1] at h ⊢; exact h
  | none => simp only [h1] at h ⊢; exact h
theorem o_notMem (hu : X.A.units + 65 < cLine) : Op2 X (compareOp .NotIn) notMemD := ((o_notin (by omega)).or (o_deepNotIn hu)).imp fun d e r h => by
  unfold notMemD memB at h
  unfold notInD
  cases h1 : inB d e with
  | some b => simp only [h1] at h ⊢; exact h
  | none => simp only [h1] at h ⊢; exact h
theorem u65 {A : Around} {k : Nat} (hr : Room k A) : A.units + 65 < cLine := by have := hr.un; omega
/-! ### order: numbers or texts -/
def leD (d e : D) : Option EV := match d, e with
  | .int i, .int j => iLe i j
  | .str i, .str j => sLe i j
  | _, _ => none
theorem o_le : Op2 X (compareOp .LtE) leD := (o_ile.or o_sle).imp fun d e r h => by
  cases d <;> cases e <;> first | (cases h; done) | (simp only [leD, intOp, strOp] at h ⊢; rw [h]) | (simp only [leD, intOp, strOp] at h ⊢; exact h)
end
end Fw
set_option Elab.async false
set_option linter.all false
set_option maxRecDepth 100000
set_option maxHeartbeats 4000000
namespace Fw
open PySem L2
section
variable {X : Cx} {W : WX} {e : Expr} {m : M EV} {tg : Expr} {pos : Pos}
/-! ### what a loop walks over -/
def chrs (z : Str) : List D := z.cps.toList.map fun c => .str ⟨#[c]⟩
def itemsX (ev : EV) : Option (List D) := match itemsD ev with
  | some ds => some ds
  | none => (match ev with
    | .val (.dct t ks vs) => if ks.length ≤ 16777216 then some ks else none
    | .val (.str z) => if z.length ≤ 16777216 then some (chrs z) else none
    | _ => none)
def mIt (m : M EV) : M (List D) := (mFz m).bind fun ev => M.lift (itemsX ev)
theorem reps_kV {K : PySem.W.Frag} {H : Hp} : ∀ {ks : List Key}, Reps K H (ks.map kD) (ks.map kV)
  | [] => by rw [List.map_nil, List.map_nil, Reps]
  | k :: ks => by
    rw [List.map_cons, List.map_cons, Reps]
    refine ⟨_, _, rfl, ?_, reps_kV⟩
    cases k with
    | inl i => show Rep K H (.int i) _; rw [Rep]; rfl
    | inr i => show Rep K H (.str i) _; rw [Rep]; rfl
theorem itk_ok {K : PySem.W.Frag} {H : Hp} {d : Addr} {o : Obj} {kvs : List (Key × V)} (h : H d = some (.frz o (.dK kvs))) (hl : kvs.length ≤ sizeLine) : ItOk K H (Itk d o kvs) (kvs.map fun p => kD p.1) := by
  refine ⟨by rw [List.length_map]; exact hl, fun H' kk => ?_⟩
  have h' := kk.frz d o _ h
  refine ⟨fun i e he => ?_, ⟨h', by rw [List.length_map]; exact Nat.le_refl _⟩⟩
  rw [List.getElem?_map] at he
  obtain ⟨p, hp, rfl⟩ := Option.map_eq_some_iff.mp he
  refine ⟨⟨h', (List.getElem?_eq_some_iff.mp hp).1⟩, fun x H'' hy => ?_⟩
  obtain ⟨rfl, k, v, hk, rfl⟩ := hy
  rw [hp] at hk; cases hk
  refine ⟨.refl _, ?_⟩
  cases k with
  | inl i => show Rep K _ (.int i) _; rw [Rep]; rfl
  | inr i => show Rep K _ (.str i) _; rw [Rep]; rfl
theorem itkt_ok {K : PySem.W.Frag} {H : Hp} {d : Addr} {o : Obj} {kvs : List (List Key × V)} (h : H d = some (.frz o (.dT kvs))) (hl : kvs.length ≤ sizeLine) : ItOk K H (Itkt d o kvs) (kvs.map fun p => ktD p.1) := by
  refine ⟨by rw [List.length_map]; exact hl, fun H' kk => ?_⟩
  have h' := kk.frz d o _ h
  refine ⟨fun i e he => ?_, ⟨h', by rw [List.length_map]; exact Nat.le_refl _⟩⟩
  rw [List.getElem?_map] at he
  obtain ⟨p, hp, rfl⟩ := Option.map_eq_some_iff.mp he
  refine ⟨⟨h', (List.getElem?_eq_some_iff.mp hp).1⟩, fun x H'' hy => ?_⟩
  obtain ⟨rfl, k, v, q, hk, rfl, hq⟩ := hy
  rw [hp] at hk; cases hk
  refine ⟨.refl _, ?_⟩
  show Rep K _ (.tup (k.map kD)) _
  rw [Rep]
  exact ⟨q, _, rfl, hq, reps_kV⟩
theorem its_ok {K : PySem.W.Frag} {H : Hp} {z : Str} (hl : z.length ≤ sizeLine) : ItOk K H (Its z) (chrs z) := by
  have e0 : (chrs z).length = z.cps.size := by simp [chrs]
  refine ⟨by rw [e0]; exact hl, fun H' kk => ⟨fun i e he => ?_, by rw [e0]; exact Nat.le_refl _⟩⟩
  unfold chrs at he
  rw [List.getElem?_map] at he
  obtain ⟨c, hc, rfl⟩ := Option.map_eq_some_iff.mp he
  have hc' : z.cps[i]? = some c := by rw [← Array.getElem?_toList]; exact hc
  refine ⟨(Array.getElem?_eq_some_iff.mp hc').1, fun x H'' hy => ?_⟩
  obtain ⟨rfl, c', hcc, rfl⟩ := hy
  rw [hc'] at hcc; cases hcc
  exact ⟨.refl _, by rw [Rep]⟩
theorem mi_it (h : ME X W e m) : MI X W tg e (mIt m) := by
  refine PI.imp (PI.or (mi_seq h) (PI.or (pi_keys (me_fz h)) (pi_str (me_fz h)))) fun σ H R q => ?_
  obtain ⟨ms, G, r⟩ := q
  unfold mIt at r
  rw [Run.bind] at r
  unfold Run at r
  cases hm : mFz m ms with
  | none => rw [hm] at r; exact r.elim
  | some rm =>
    rw [hm] at r
    have ex : ∀ {x : EX} {ms' : MS}, rm = .exc x ms' → ∀ (T : VK), tM X.K W (mFz m) σ H T := fun {x ms'} e T => ⟨ms, G, by
      unfold Run; rw [hm, e]; subst e; exact r⟩
    cases rm with
    | exc x ms' => exact .inr (.inl (ex rfl _))
    | ok ev ms1 =>
      have go : ∀ (T : VK), (∀ v H', PostE X.K ms σ H ms1 H' → EVOk X.K ms1 σ H H' v ev → T v H') → tM X.K W (mFz m) σ H T := fun T t => ⟨ms, G, by unfold Run; rw [hm]; exact t⟩
      cases hi : itemsD ev with
      | some ds =>
        obtain ⟨ds', e1, k⟩ := Run.lift r
        unfold itemsX at e1
        rw [hi] at e1
        cases e1
        have this : mSeq m ms = some (.ok ds ms1) := by
          unfold mSeq M.bind
          rw [hm]
          show M.lift (itemsD ev) ms1 = _
          rw [hi]; rfl
        refine .inl ⟨ms, G, ?_⟩
        unfold Run
        rw [this]
        exact k
      | none =>
        obtain ⟨ds, e1, k⟩ := Run.lift r
        unfold itemsX at e1
        rw [hi] at e1
        cases ev with
        | new o => cases e1
        | bor i => cases e1
        | val d =>
          cases d with
          | dct t ks vs =>
            dsimp only at e1
            split at e1
            · rename_i c
              cases e1
              refine .inr (.inl (go _ fun v H1 p1 o1 => ?_))
              have o1 : Rep X.K H1 (.dct t ds vs) v := o1
              rw [Rep] at o1
              obtain ⟨a, o, u, xs, rfl, hf, dd, rr⟩ := o1
              refine ⟨a, o, rfl, ?_⟩
              cases t with
              | false =>
                obtain ⟨kvs, rfl, rfl, rfl⟩ := dd
                rw [List.length_map] at c
                exact .inl ⟨kvs, hf, k _ H1 p1 (itk_ok hf (by rw [sizeLine_eq]; exact c))⟩
              | true =>
                obtain ⟨kvs, rfl, rfl, rfl⟩ := dd
                rw [List.length_map] at c
                exact .inr ⟨kvs, hf, k _ H1 p1 (itkt_ok hf (by rw [sizeLine_eq]; exact c))⟩
            · cases e1
          | str z =>
            dsimp only at e1
            split at e1
            · rename_i c
              cases e1
              refine .inr (.inr (go _ fun v H1 p1 o1 => ?_))
              have o1 : Rep X.K H1 (.str z) v := o1
              rw [Rep] at o1
              exact ⟨z, o1, k _ H1 p1 (its_ok (by rw [sizeLine_eq]; exact c))⟩
            · cases e1
          | _ => cases e1
end
end Fw
set_option Elab.async false
set_option linter.all false
set_option maxRecDepth 100000
set_option maxHeartbeats 4000000
namespace Fw
section
open PySem PySem.Spec PyProof.Rows L2
/-! ### row[:hi:-1], a tuple -/
/-- where the step stops, one beyond -/
def jR (n : Nat) : Option Int → Nat
  | none => 0
  | some v => if v < 0 then (v + n + 1).toNat else min (v + 1).toNat n
def cutR {α : Type} (ds : List α) (hi : Option Int) : List α := ds.reverse.take (ds.length - jR ds.length hi)
theorem jR_le {n : Nat} (h : Option Int) : (match h with | none => True | some v => v < (n : Int)) → jR n h ≤ n := by
  cases h with
  | none => intro _; exact Nat.zero_le _
  | some v =>
    intro hv
    show (if v < 0 then (v + n + 1).toNat else min (v + 1).toNat n) ≤ n
    split
    · omega
    · exact Nat.min_le_right _ _
theorem adjust_rev (hi : Option Int) (n : Nat) : Builtin.Slice.sliceAdjust none hi (-1) (n : Int) = ((n : Int) - 1, (jR n hi : Int) - 1) := by
  have h1 : (-1 : Int) < 0 := by omega
  unfold Builtin.Slice.sliceAdjust
  simp only [h1, if_true]
  refine Prod.ext rfl ?_
  cases hi with
  | none => rfl
  | some v =>
    show (if v < 0 then max (v + (n : Int)) (-1) else min v ((n : Int) - 1)) = (((if v < 0 then (v + n + 1).toNat else min (v + 1).toNat n) : Nat) : Int) - 1
    by_cases hv : v < 0
    · simp only [if_pos hv]; omega
    · simp only [if_neg hv]; omega
theorem places_rev (n j : Nat) : Builtin.Slice.slicePlaces ((n : Int) - 1) ((j : Int) - 1) (-1) = n - j := by
  unfold Builtin.Slice.slicePlaces
  have h1 : ¬ ((-1 : Int) > 0) := by omega
  simp only [h1, if_false]
  have e : (- -1 : Int) = 1 := by decide
  rw [e, Int.ediv_one]
  split <;> omega
theorem pick_rev {α : Type} (xs : List α) : ∀ (k : Nat), k ≤ xs.length → (List.range k).filterMap (fun (m : Nat) => xs[(((xs.length : Int) - 1) + (m : Int) * (-1)).toNat]?) = xs.reverse.take k
  | 0, _ => by simp
  | k + 1, h => by
    rw [List.range_succ, List.filterMap_append, pick_rev xs k (by omega), List.take_add_one]
    congr 1
    have e : (((xs.length : Int) - 1) + (k : Int) * (-1)).toNat = xs.length - 1 - k := by omega
    rw [List.getElem?_reverse (by omega), List.filterMap_cons, e, List.getElem?_eq_getElem (by omega)]
    simp
theorem sliceApplied_rev {prog : Program} {w : World} {A : Around} {E : Value → Shared → Prop} {s : Shared} {sl : Addr} {vl vu vs : Value} {hi : Option Int} {n : Nat} {R : Int × Int × Nat → Shared → Prop} (hs : s.heap.IsSliceOf sl vl vu vs) (pl : IsPart vl none) (pu : IsPart vu hi) (ps : IsPart vs (some (-1)))
    (hR : R ((n : Int) - 1, -1, n - jR n hi) s) : wpAny (model prog w) A (Builtin.Slice.sliceApplied (.ref sl) (pure (n : Int))) R E s := by
  obtain ⟨os, hos, hcs, hds⟩ := id hs
  unfold Builtin.Slice.sliceApplied Builtin.Slice.sliceFields
  refine wpAny_bind (wpAny_bind (wpAny_field hos hds (x := vl) rfl (wpAny_bind (wpAny_field hos hds (x := vu) rfl (wpAny_bind (wpAny_field hos hds (x := vs) rfl (wpAny_pure ?_)))))))
  refine wpAny_bind (HT.slicePart_ ps ?_)
  show wpAny _ _ (if ((-1 : Int) == 0) = true then _ else _) _ _ s
  rw [if_neg (by decide)]
  refine wpAny_bind (HT.slicePart_ pl (wpAny_bind (HT.slicePart_ pu (wpAny_bind (wpAny_pure ?_)))))
  show wpAny _ _ (match Builtin.Slice.sliceAdjust none hi (-1) (n : Int) with | (lo, hi) => pure (lo, (-1 : Int), Builtin.Slice.slicePlaces lo hi (-1))) _ _ s
  rw [adjust_rev hi n]
  show wpAny _ _ (pure ((n : Int) - 1, (-1 : Int), Builtin.Slice.slicePlaces ((n : Int) - 1) (((jR n hi : Nat) : Int) - 1) (-1))) _ _ s
  rw [places_rev]
  exact wpAny_pure hR
theorem getItem_tuple_rev {prog : Program} {w : World} {A : Around} {E : Value → Shared → Prop} {s : Shared} {t sl : Addr} {items : Array Value} {vl vu vs : Value} {hi : Option Int} {Q : Value → Shared → Prop} (ht : IsTup s.heap t items) (hs : s.heap.IsSliceOf sl vl vu vs) (pl : IsPart vl none) (pu : IsPart vu hi) (ps : IsPart vs (some (-1)))
    (h : Q (.ref s.heap.objs.size) { s with heap := s.heap.push { cls := .type "tuple", data := .seq (cutR items.toList hi).toArray } })
    (hsz : items.size ≤ sizeLine) : wpAny (model prog w) A (getItem (.ref t) (.ref sl)) Q E s := by
  have hlen : (cutR items.toList hi).length ≤ items.size := by
    unfold cutR
    rw [List.length_take, List.length_reverse, Array.length_toList]
    omega
  have htake : sizeOk (.seq (cutR items.toList hi).toArray) := by
    show (cutR items.toList hi).toArray.size ≤ sizeLine
    rw [List.size_toArray]
    omega
  obtain ⟨os, hos, hcs, hds⟩ := id hs
  have hTs : s.TypeIs (.ref sl) "slice" := ⟨os, hos, hcs⟩
  unfold getItem
  try with_reducible refine wpAny_holding ?_
  first | refine wpAny_bind (wpAny_pure ?_) | skip
  refine wpAny_bind (wpAny_sequenceKey ht.typeIs (by decide) ?_)
  refine wpAny_bind (wpAny_callSpecial?_slot (name := Str.ofString "__getitem__") ht.typeIs PyProof.Rows.slot_tuple_getitem
    (wpAny_call_entry PyProof.Rows.slot_tuple_getitem ht.typeIs entry_tuple_getitem ?_ (args_tuple_getitem _ _)))
  show wpAny _ _ (Builtin.Tuple.tupleItemsOf (.ref t) >>= _) _ _ s
  refine wpAny_bind (tupleItemsOf_ ht ?_)
  refine wpAny_bind (wpAny_typeOf hTs ?_)
  rw [if_pos (by decide)]
  refine wpAny_bind (sliceApplied_rev hs pl pu ps ?_)
  have hno : ¬ (((((items.size : Nat) : Int) - 1) == 0 && (-1 : Int) == 1 && (items.size - jR items.size hi) == items.size) = true) := by
    intro q
    rw [Bool.and_eq_true, Bool.and_eq_true] at q
    exact absurd (eq_of_beq q.1.2) (by decide)
  show wpAny _ _ (if ((((items.size : Nat) : Int) - 1) == 0 && (-1 : Int) == 1 && (items.size - jR items.size hi) == items.size) = true then _ else _) _ _ s
  have epick : ((List.range (items.size - jR items.size hi)).filterMap fun (m : Nat) => items[((((items.size : Nat) : Int) - 1) + (m : Int) * (-1)).toNat]?).toArray = (cutR items.toList hi).toArray := by
    have e := pick_rev items.toList (items.size - jR items.size hi) (by rw [Array.length_toList]; omega)
    simp only [Array.length_toList, Array.getElem?_toList] at e
    unfold cutR
    rw [Array.length_toList, ← e]
  rw [if_neg hno, epick]
  first
    | exact wpAny_bind (m := Builtin.Tuple.tupleExact _) (wpAny_newObj_type (wpAny_pure ⟨_, rfl, wpAny_pure h⟩) htake)
    | exact wpAny_bind (m := Builtin.Tuple.tupleExact _) (wpAny_newObj_type (wpAny_bind (wpAny_pure (wpAny_pure ⟨_, rfl, wpAny_pure h⟩))) htake)
    | exact wpAny_bind (wpAny_bind (m := Builtin.Tuple.tupleExact _) (wpAny_newObj_type (wpAny_pure (wpAny_pure ⟨_, rfl, wpAny_pure h⟩)) htake))
    | exact wpAny_bind (wpAny_bind (m := Builtin.Tuple.tupleExact _) (wpAny_newObj_type (wpAny_pure ⟨_, rfl, wpAny_pure h⟩) htake))
variable {X : Cx}
def tRevT (K : PySem.W.Frag) (te : TE) (th : TO) : TE := fun σ H Q => te σ H fun x H1 => th σ H1 fun hi H2 => ∃ a xs, x = .ref a ∧ SqT K H2 a xs ∧ ∀ p, H2 p = none → Q (.ref p) (upd H2 p (.tup (cutR xs hi)))
theorem vals_cutR {xs : List V} {its : List Value} (r : Vals xs its) (hi : Option Int) : Vals (cutR xs hi) (cutR its hi) := by
  unfold cutR
  rw [r.length]
  exact (r.reverse).take _
theorem pe_revT {e : Expr} {te : TE} {th : TO} {hx : Option Expr} {k : Nat} {p1 p2 p3 pos : Pos} (he : PE X e te) (hh : PO X hx th) : PE X (.Subscript e (.Slice none hx (some (.UnaryOp .USub (.Constant (.int 1) k p1) p2)) p3) pos) (tRevT X.K te th) := by
  refine ⟨fun pins s σ H Q I h => ?_⟩
  refine Subscript_ (thn (he.run pins s σ H _ I h) fun v s1 ⟨x, H1, I1, r1, q1⟩ => ?_)
  have hst : PO X (some (.UnaryOp .USub (.Constant (.int 1) k p1) p2)) (tPart (tUn (rU fun i => .int (-i)) (tC (.int 1)))) := po_some (pe_un un_neg pe_int)
  refine wpAny_Slice (thn (po_none.run pins s1 σ H1 (fun o H2 => o = none ∧ H2 = H1) I1 ⟨rfl, rfl⟩) fun vl s2 ⟨l, H2, I2, pl, el, e2⟩ => ?_)
  subst el e2
  refine thn (hh.run pins s2 σ H2 _ I2 q1) fun vu s3 ⟨u, H3, I3, pu, q3⟩ => ?_
  refine thn (hst.run pins s3 σ H3 (fun o H4 => o = some (-1) ∧ H4 = H3) I3 ⟨1, rfl, -1, rfl, rfl, rfl⟩) fun vs s4 ⟨o, H4, I4, ps, eo, e4⟩ => ?_
  subst eo e4
  obtain ⟨a, xs, ex, hx, q⟩ := q3
  subst ex
  cases r1
  have I5 : Inv X pins σ H4 { s4 with heap := s4.heap.push { cls := .type "slice", data := .fields #[vl, vu, vs] } } := I4.kept (t' := s4.toks) fun b ob q => Heap.get?_push_of_some _ q
  obtain ⟨its, r, ht, hz⟩ := I5.tuple hx
  have hlen := r.length
  show wpAny (model X.prog X.w) X.A (subscriptTail e (.Slice none _ (some (.UnaryOp .USub (.Constant (.int 1) k p1) p2)) p3) (.ref a) (.ref s4.heap.objs.size)) (EP X pins σ Q) X.xe { s4 with heap := s4.heap.push { cls := .type "slice", data := .fields #[vl, vu, vs] } }
  refine tail_any (ops := [.ref a, .ref s4.heap.objs.size]) ht.typeIs (PyProof.Rows.slot_tuple_getitem.lookup) ?_ (by with_unfolding_all rfl)
  refine getItem_tuple_rev ht (Heap.IsSliceOf.new _ vl vu vs) pl pu ps ?_ (by rw [List.size_toArray]; omega)
  have r' := vals_cutR r u
  refine ⟨.ref _, _, I5.laid (t' := s4.toks) (o := .tup (cutR xs u)) (fun b ob q => Heap.get?_push_of_some _ q) (Nat.le_refl _) ?_, rfl, q _ (I5.hok.fresh (Nat.le_refl _))⟩
  refine ⟨?_, _, r', ⟨_, Heap.get?_push_size _ rfl, rfl, 0, rfl⟩⟩
  have : (cutR xs u).length ≤ xs.length := by
    unfold cutR
    rw [List.length_take, List.length_reverse]
    omega
  exact Nat.le_trans this (by simpa using hz)
end
section
open PySem L2
variable {X : Cx} {W : WX} {a : Expr} {ma : M EV} {pos : Pos}
def rvD (d : D) (hi : Option Int) : Option EV := match d with
  | .tup ds => some (.val (.tup (cutR ds hi)))
  | .ktp ds => some (.val (.tup (cutR ds hi)))
  | _ => none
def mRev (m : M EV) (u : M (Option Int)) : M EV := m.bind fun x => u.bind fun hi => fun ms => match rd ms x with
  | some d => M.lift (rvD d hi) ms
  | none => none
theorem reps_rev {K : PySem.W.Frag} {H : Hp} : ∀ {ds : List D} {xs : List V}, Reps K H ds xs → Reps K H ds.reverse xs.reverse
  | [], xs, h => by rw [Reps] at h; subst h; rw [List.reverse_nil, List.reverse_nil, Reps]
  | d :: ds, xs, h => by
    rw [Reps] at h
    obtain ⟨x, r, rfl, h1, h2⟩ := h
    rw [List.reverse_cons, List.reverse_cons]
    exact Reps.snoc (reps_rev h2) h1
theorem reps_cutR {K : PySem.W.Frag} {H : Hp} {ds : List D} {xs : List V} (r : Reps K H ds xs) (hi : Option Int) : Reps K H (cutR ds hi) (cutR xs hi) := by
  have r2 := (reps_rev r).take (ds.length - jR ds.length hi)
  unfold cutR
  rw [← r.length]
  exact r2
theorem me_revT {hx : Option Expr} {mh : M (Option Int)} {k : Nat} {p1 p2 p3 : Pos} (ha : ME X W a ma) (hh : MO X W hx mh) : ME X W (.Subscript a (.Slice none hx (some (.UnaryOp .USub (.Constant (.int 1) k p1) p2)) p3) pos) (mRev ma mh) := by
  refine PE.imp (pe_revT ha hh) fun σ H Q q => ?_
  obtain ⟨ms, G, h⟩ := q
  refine tM_bind G h (fun x ms' z => z) fun e1 ms1 h1 v1 H1 p1 o1 => ?_
  refine tMO_bind p1.good h1 (fun x ms' z cls d H' p => z cls d H' (p1.trans p)) fun hi ms2 h2 H2 p2 => ?_
  have p12 := p1.trans p2
  have o2 := o1.mono p1.good p2
  cases hd : rd ms2 e1 with
  | none => simp only [Run, hd] at h2
  | some d =>
    have h' : Run (M.lift (rvD d hi)) ms2 (fun ev ms' => ∀ v H', PostE X.K ms σ H ms' H' → EVOk X.K ms' σ H H' v ev → Q v H') (fun x ms' => ∀ cls d H', PostE X.K ms σ H ms' H' → ExOk X.K H' x cls d → W cls d σ H') := by
      simp only [Run, hd] at h2 ⊢
      exact h2
    obtain ⟨ev, e, kk⟩ := Run.lift h'
    have rr := rd_ok p2.good o2 hd
    have fin : ∀ (b : Addr) (xs : List V) (ds : List D), v1 = .ref b → SqT X.K H2 b xs → Reps X.K H2 ds xs → ev = .val (.tup (cutR ds hi)) → ∃ a xs, v1 = .ref a ∧ SqT X.K H2 a xs ∧ ∀ p, H2 p = none → Q (.ref p) (upd H2 p (.tup (cutR xs hi))) := by
      rintro b xs ds rfl hs hr rfl
      refine ⟨b, xs, rfl, hs, fun p hp => ?_⟩
      have sm := same_new (o := HO.tup (cutR xs hi)) hp
      refine kk _ _ (p12.trans (.same p2.good sm)) ?_
      show Rep X.K _ (.tup (cutR ds hi)) _
      rw [Rep]
      exact ⟨p, _, rfl, upd_same, Reps.mono (Kept.same sm) _ _ (reps_cutR hr hi)⟩
    cases d with
    | tup ds => cases e; obtain ⟨b, xs, rfl, r1, r2⟩ := rdTup rr; exact fin b xs _ rfl (.of r1) r2 rfl
    | ktp ds => cases e; obtain ⟨b, xs, rfl, r1, r2⟩ := rdKtp rr; exact fin b xs _ rfl r1.seq r2 rfl
    | _ => cases e
end
end Fw
set_option linter.all false
set_option maxRecDepth 100000
namespace Fw
open PySem
section
variable {ms : MS} {E : EX → MS → Prop} {Q : EV → MS → Prop} {QL : List D → MS → Prop} {m a b c : M EV} {u : M (Option Int)}
@[simp] theorem run_it : Wp (mIt m) ms QL E = Wp (mFz m) ms (fun ev ms1 => opK (fun ds => QL ds ms1) (itemsX ev)) E := by
  unfold mIt; rw [Wp.bind]; refine Wp.ext fun ev ms1 => ?_; exact run_lift
@[simp] theorem itemsX_tup {ds : List D} : itemsX (.val (.tup ds)) = some ds := rfl
@[simp] theorem itemsX_lst {ds : List D} : itemsX (.val (.lst ds)) = some ds := rfl
@[simp] theorem itemsX_ktp {ds : List D} : itemsX (.val (.ktp ds)) = some ds := rfl
@[simp] theorem itemsX_kls {ds : List D} : itemsX (.val (.kls ds)) = some ds := rfl
@[simp] theorem itemsX_dct {t : Bool} {ks vs : List D} : itemsX (.val (.dct t ks vs)) = if ks.length ≤ 16777216 then some ks else none := rfl
@[simp] theorem itemsX_str {z : Str} : itemsX (.val (.str z)) = if z.length ≤ 16777216 then some (chrs z) else none := rfl
@[simp] theorem run_rev : Wp (mRev m u) ms Q E = Wp m ms (fun x ms1 => Wp u ms1 (fun hi ms2 => opK (fun d => opK (fun r => Q r ms2) (rvD d hi)) (rd ms2 x)) E) E := by
  unfold mRev
  rw [Wp.bind]; refine Wp.ext fun x ms1 => ?_
  rw [Wp.bind]; refine Wp.ext fun hi ms2 => ?_
  rw [run_fun]
  cases rd ms2 x with
  | none => simp
  | some d => cases hg : rvD d hi <;> simp [M.lift, hg]
@[simp] theorem rvD_tup {ds : List D} {hi : Option Int} : rvD (.tup ds) hi = some (.val (.tup (cutR ds hi))) := rfl
@[simp] theorem run_get2 : Wp (mGet2 a b c) ms Q E = Wp a ms (fun x ms0 => opK (fun d0 => isDct d0 = true ∧ Wp b ms0 (fun y ms1 => Wp c ms1 (fun z ms2 => opK (fun d => opK (fun q => opK (fun dz => opK (fun r => Q (.val r) ms2) (getD2 d q dz)) (evD z)) (rd ms2 y)) (rd ms2 x)) E) E) (rd ms0 x)) E := by
  unfold mGet2
  rw [Wp.bind]; refine Wp.ext fun x ms0 => ?_
  rw [run_fun]
  cases h0 : rd ms0 x with
  | none => simp
  | some d0 =>
    by_cases hc : isDct d0 = true
    case neg => simp [hc]
    simp only [hc, if_true, opK_some, true_and]
    change Wp (b.bind fun y => c.bind fun z => fun ms => match rd ms x, rd ms y, z with
      | some d, some q, .val dz => (match getD2 d q dz with
        | some r => some (.ok (.val r) ms)
        | none => none)
      | _, _, _ => none) ms0 Q E = _
    rw [Wp.bind]; refine Wp.ext fun y ms1 => ?_
    rw [Wp.bind]; refine Wp.ext fun z ms2 => ?_
    rw [run_fun]
    cases hx : rd ms2 x with
    | none => simp
    | some d =>
      cases hy : rd ms2 y with
      | none => simp
      | some q =>
        cases z with
        | new o => simp [evD]
        | bor o => simp [evD]
        | val dz => cases hg : getD2 d q dz <;> simp [hg]
@[simp] theorem isDct_dct {t : Bool} {ks vs : List D} : isDct (.dct t ks vs) = true := rfl
@[simp] theorem ovT_dic {t : Bool} {ks vs : List D} : ovT (.dic t ks vs) = "dict" := rfl
end
/-! ### literal places -/
theorem run_compC {own : List Nat} {f : D → MS → Option MS} {t : M Bool} {m : M EV} {d : D} {ds acc : List D} {ms : MS} {QL : List D → MS → Prop} {E : EX → MS → Prop} :
    Wp (compL own f t m (d :: ds) acc) ms QL E = opK (fun ms1 => Wp t ms1 (fun k ms2 => (k = true → Wp m ms2 (fun ev ms3 => opK (fun y => Wp (compL own f t m ds (acc ++ [y])) (wipeM ms3 own) QL E) (evD ev)) E) ∧ (k = false → Wp (compL own f t m ds acc) (wipeM ms2 own) QL E)) E) (f d ms) := by
  rw [compL, run_fun]
  cases h : f d ms with
  | none => rfl
  | some ms1 =>
    rw [opK_some]
    change Wp (t.bind fun b => if b = true then m.bind (fun ev ms2 => match ev with
        | .val y => compL own f t m ds (acc ++ [y]) (wipeM ms2 own)
        | _ => none) else fun ms2 => compL own f t m ds acc (wipeM ms2 own)) ms1 QL E = _
    rw [Wp.bind]
    refine Wp.ext fun k ms2 => ?_
    cases k with
    | false => simp; exact Iff.rfl
    | true =>
      simp only [true_implies, reduceCtorEq, false_implies, and_true]
      rw [if_pos rfl, Wp.bind]
      refine Wp.ext fun ev ms3 => ?_
      cases ev <;> rfl
theorem run_compN {own : List Nat} {f : D → MS → Option MS} {t : M Bool} {m : M EV} {acc : List D} {ms : MS} {QL : List D → MS → Prop} {E : EX → MS → Prop} : Wp (compL own f t m [] acc) ms QL E = QL acc ms := rfl
end Fw
set_option linter.all false
set_option maxRecDepth 100000
namespace Fw
open PySem
/-- a while loop: n falls -/
theorem run_while {c : M Bool} {b : MSt} {QS : Fl → MS → Prop} {E : EX → MS → Prop} (I : Nat → MS → Prop)
    (step : ∀ (n : Nat) (ms : MS), I n ms → Wp c ms (fun k ms1 => (k = true → Wp b ms1 (fun fl ms2 => bkK QS (fun ms2 => ∃ m, m < n ∧ I m ms2) ms2 fl) E) ∧ (k = false → QS .nx ms1)) E) :
    ∀ (n : Nat) {ms : MS}, I n ms → Wp (sWhile c b) ms QS E := by
  intro n
  induction n using Nat.strongRecOn with
  | ind n ih =>
    intro ms hi
    rw [sWhile_eq, run_bind]
    refine (step n ms hi).imp fun k ms1 q => ?_
    cases k with
    | false => exact q.2 rfl
    | true =>
      have q := q.1 rfl
      show Wp (b.bind (wh (sWhile c b))) ms1 QS E
      rw [run_bind]
      refine q.imp fun fl ms2 z => ?_
      cases fl with
      | nx => obtain ⟨m, hm, hI⟩ := z; exact ih m hm hI
      | ct => obtain ⟨m, hm, hI⟩ := z; exact ih m hm hI
      | bk => exact z
      | rt ev => exact z
end Fw
namespace Fw
open PySem
section
variable {ms : MS} {E : EX → MS → Prop} {Q : EV → MS → Prop}
@[simp] theorem run_meth0 {T : String} {g : OV → List D → Option (D × OV)} {i : Nat} : Wp (mMeth0 T g i) ms Q E = ownK (fun l o => ovT o = T ∧ opK (fun p => Q (.val p.1) (ms.set i (.own l p.2))) (g o [])) ms[i]? := by
  unfold mMeth0
  rw [run_fun]
  cases h : ms[i]? with
  | none => rfl
  | some s =>
    cases s with
    | unk => rfl
    | val d => rfl
    | own l o =>
      rw [ownK_own]
      by_cases hT : ovT o = T
      case neg => simp [hT]
      cases hg : g o [] with
      | none => simp [hT, hg]
      | some p => simp [hT, hg]
@[simp] theorem gPop_snoc {ds : List D} {d : D} : gPop (.lst (ds ++ [d])) [] = some (d, .lst ds) := by
  unfold gPop
  simp
theorem gExtend_tup {ds es : List D} (h : ds.length + es.length ≤ 16777216) : gExtend (.lst ds) [.tup es] = some (.non, .lst (ds ++ es)) := if_pos h
theorem gExtend_lst {ds es : List D} (h : ds.length + es.length ≤ 16777216) : gExtend (.lst ds) [.lst es] = some (.non, .lst (ds ++ es)) := if_pos h
end
/-! ### terms -/
inductive Tm where
  | v (x : Str)
  | f (h : Str) (as : List Tm)
mutual
def tmD : Tm → D
  | .v x => .str x
  | .f h as => .tup (.str h :: tmDs as)
def tmDs : List Tm → List D
  | [] => []
  | a :: as => tmD a :: tmDs as
end
theorem tmDs_eq : ∀ {as : List Tm}, tmDs as = as.map tmD
  | [] => rfl
  | a :: as => by rw [tmDs, tmDs_eq]; rfl
mutual
/-- symbols -/
def tsz : Tm → Nat
  | .v _ => 1
  | .f _ as => 1 + tszs as
def tszs : List Tm → Nat
  | [] => 0
  | a :: as => tsz a + tszs as
end
mutual
def tdp : Tm → Nat
  | .v _ => 1
  | .f _ as => 1 + tdps as
def tdps : List Tm → Nat
  | [] => 0
  | a :: as => max (tdp a) (tdps as)
end
mutual
/-- the names hold what p asks -/
def tall (p : Str → Bool) : Tm → Bool
  | .v x => p x
  | .f h as => p h && talls p as
def talls (p : Str → Bool) : List Tm → Bool
  | [] => true
  | a :: as => tall p a && talls p as
end
theorem tsz_pos : ∀ t : Tm, 0 < tsz t
  | .v _ => by rw [tsz]; omega
  | .f _ _ => by rw [tsz]; omega
theorem tszs_app : ∀ {a b : List Tm}, tszs (a ++ b) = tszs a + tszs b
  | [], b => by rw [List.nil_append, tszs, Nat.zero_add]
  | x :: a, b => by rw [List.cons_append, tszs, tszs, tszs_app]; omega
theorem tszs_rev : ∀ {a : List Tm}, tszs a.reverse = tszs a
  | [] => rfl
  | x :: a => by rw [List.reverse_cons, tszs_app, tszs_rev, tszs, tszs, tszs]; omega
theorem len_tszs : ∀ as : List Tm, as.length ≤ tszs as
  | [] => Nat.le_refl _
  | a :: as => by have := len_tszs as; have := tsz_pos a; rw [tszs, List.length_cons]; omega
mutual
theorem eqB_tm : ∀ (a b : Tm), eqB (tmD a) (tmD b) = true ↔ a = b
  | .v x, .v y => by simp [tmD, eqB]
  | .v x, .f h as => by simp [tmD, eqB]
  | .f h as, .v x => by simp [tmD, eqB]
  | .f h as, .f g bs => by
    simp only [tmD, eqB, eqBs, Bool.and_eq_true, eqBs_tm as bs, Tm.f.injEq]
    simp
theorem eqBs_tm : ∀ (a b : List Tm), eqBs (tmDs a) (tmDs b) = true ↔ a = b
  | [], [] => by simp [tmDs, eqBs]
  | [], _ :: _ => by simp [tmDs, eqBs]
  | _ :: _, [] => by simp [tmDs, eqBs]
  | a :: as, b :: bs => by
    simp only [tmDs, eqBs, Bool.and_eq_true, eqB_tm a b, eqBs_tm as bs, List.cons.injEq]
end
instance : DecidableEq Tm := fun a b => decidable_of_iff _ (eqB_tm a b)
theorem eqB_tm' {a b : Tm} : eqB (tmD a) (tmD b) = decide (a = b) := by
  rw [Bool.eq_iff_iff, eqB_tm]; simp
def stOk (x : Str) : Bool := PyData.strOk x
mutual
theorem sh_tm : ∀ (n : Nat) (t : Tm), tdp t ≤ n → tall stOk t = true → shD n (tmD t) = true
  | n, .v x, _, h => by
    rw [tall] at h
    rw [tmD]
    cases n <;> exact h
  | 0, .f g as, h, _ => by rw [tdp] at h; omega
  | n + 1, .f g as, h, h2 => by
    rw [tdp] at h
    rw [tall, Bool.and_eq_true] at h2
    rw [tmD, shD, List.all_cons, Bool.and_eq_true]
    refine ⟨?_, sh_tms n as (by omega) h2.2⟩
    cases n <;> exact h2.1
theorem sh_tms : ∀ (n : Nat) (as : List Tm), tdps as ≤ n → talls stOk as = true → (tmDs as).all (shD n) = true
  | n, [], _, _ => rfl
  | n, a :: as, h, h2 => by
    rw [tdps] at h
    rw [talls, Bool.and_eq_true] at h2
    rw [tmDs, List.all_cons, Bool.and_eq_true]
    exact ⟨sh_tm n a (by omega) h2.1, sh_tms n as (by omega) h2.2⟩
end
end Fw
/-! ### loops again: the invariant stays folded (Inv) -/
namespace Fw
open PySem
def Inv (I : MS → Prop) (ms : MS) (_ : Dum I := ()) : Prop := I ms
theorem inv_of {I : MS → Prop} {ms : MS} (h : I ms) : Inv I ms := h
def bjK (QS : Fl → MS → Prop) (I : MS → Prop) (ms : MS) (f : Fl) (_ : Dum QS := ()) (_ : Dum I := ()) : Prop := match f with
  | .nx => Inv I ms
  | .ct => Inv I ms
  | .bk => QS .nx ms
  | .rt ev => QS (.rt ev) ms
section
variable {QS : Fl → MS → Prop} {I : MS → Prop} {ms : MS} {E : EX → MS → Prop}
@[simp] theorem bjK_nx : bjK QS I ms .nx = Inv I ms := rfl
@[simp] theorem bjK_ct : bjK QS I ms .ct = Inv I ms := rfl
@[simp] theorem bjK_bk : bjK QS I ms .bk = QS .nx ms := rfl
@[simp] theorem bjK_rt {ev : EV} : bjK QS I ms (.rt ev) = QS (.rt ev) ms := rfl
theorem loop_while {c : M Bool} {b : MSt} (I : Nat → MS → Prop) (n : Nat) (h0 : I n ms)
    (step : ∀ (n : Nat) (ms : MS), I n ms → Wp c ms (fun k ms1 => (k = true → Wp b ms1 (fun fl ms2 => bjK QS (fun ms2 => ∃ m, m < n ∧ I m ms2) ms2 fl) E) ∧ (k = false → QS .nx ms1)) E) : Wp (sWhile c b) ms QS E := by
  refine run_while I (fun n ms h => (step n ms h).imp fun k ms1 q => ⟨fun hk => (q.1 hk).imp fun fl ms2 z => ?_, q.2⟩) n h0
  cases fl <;> exact z
theorem loop_for {f : D → MS → Option MS} {x : MSt} (I : Nat → MS → Prop) (ds : List D) (h0 : I 0 ms)
    (step : ∀ (i : Nat) (d : D) (ms : MS), ds[i]? = some d → I i ms → opK (fun ms1 => Wp x ms1 (fun fl ms2 => bjK QS (I (i + 1)) ms2 fl) E) (f d ms))
    (hend : ∀ ms, I ds.length ms → QS .nx ms) : Wp (forL f x ds) ms QS E := by
  refine run_for I ds h0 (fun i d ms hd h => ?_) hend
  obtain ⟨ms1, e, r⟩ := opK_ex.mp (step i d ms hd h)
  refine opK_of e (r.imp fun fl ms2 z => ?_)
  cases fl <;> exact z
theorem loop_comp {own : List Nat} {f : D → MS → Option MS} {t : M Bool} {m : M EV} {QL : List D → MS → Prop} (I : Nat → List D → MS → Prop) (ds : List D) (acc : List D) (h0 : I 0 acc ms)
    (step : ∀ (i : Nat) (d : D) (acc : List D) (ms : MS), ds[i]? = some d → I i acc ms → opK (fun ms1 => Wp t ms1 (fun k ms2 => (k = true → Wp m ms2 (fun ev ms3 => opK (fun y => Inv (I (i + 1) (acc ++ [y])) (wipeM ms3 own)) (evD ev)) E) ∧ (k = false → Inv (I (i + 1) acc) (wipeM ms2 own))) E) (f d ms))
    (hend : ∀ acc ms, I ds.length acc ms → QL acc ms) : Wp (compL own f t m ds acc) ms QL E :=
  run_compL I ds acc h0 step hend
end
end Fw
set_option Elab.async false
set_option linter.all false
set_option maxRecDepth 100000
set_option maxHeartbeats 4000000
/-! Fw Z: walks over a list of the def's own that stays its own (item k at each turn). -/
namespace Fw
open PySem L2
/-- the own list at slot i -/
def atL (i : Nat) (ms : MS) : Option (List D) := match ms[i]? with
  | some (.own _ (.lst ds)) => some ds
  | _ => none
theorem atL_some {i : Nat} {ms : MS} {ds : List D} (h : atL i ms = some ds) : ∃ l, ms[i]? = some (.own l (.lst ds)) := by
  unfold atL at h
  split at h
  · rename_i l ds' e
    cases h
    exact ⟨l, e⟩
  · cases h
/-- a lent one -/
def atLn (i : Nat) (ms : MS) : Option (List D) := match ms[i]? with
  | some (.own true (.lst ds)) => some ds
  | _ => none
theorem atLn_some {i : Nat} {ms : MS} {ds : List D} (h : atLn i ms = some ds) : ms[i]? = some (.own true (.lst ds)) := by
  unfold atLn at h
  split at h
  · rename_i ds' e
    cases h
    exact e
  · cases h
def compV (i : Nat) (own : List Nat) (f : D → MS → Option MS) (t : M Bool) (e : M EV) : Nat → Nat → List D → M (List D)
  | k, 0, acc => fun ms => match atL i ms with
    | some ds => if ds.length = k then some (.ok acc ms) else none
    | none => none
  | k, n + 1, acc => fun ms => match atL i ms with
    | none => none
    | some ds => (match ds[k]? with
      | none => none
      | some d => (match f d ms with
        | none => none
        | some ms1 => (t.bind fun b => if b = true then e.bind (fun ev ms2 => match ev with
            | .val y => compV i own f t e (k + 1) n (acc ++ [y]) (wipeM ms2 own)
            | _ => none) else fun ms2 => compV i own f t e (k + 1) n acc (wipeM ms2 own)) ms1))
def mCompV (i : Nat) (own : List Nat) (f : D → MS → Option MS) (t : M Bool) (e : M EV) : M EV := fun ms => match atL i ms with
  | none => none
  | some ds => if noOwn ms own = true then (match compV i own f t e 0 ds.length [] (wipeM ms own) with
    | some (.ok acc ms') => some (.ok (.new (.lst acc)) (backM ms ms' own))
    | _ => none) else none
section
variable {X : Cx} {W : WX} {tg iter elt : Expr} {ifs : List Expr} {scope : Scope} {vs : List Nat} {m : M EV} {t : M Bool} {f : D → MS → Option MS} {pos : Pos}
theorem compV_core {i : Nat} {σ : St} {H : Hp} {Q : VK} (q : tM X.K W (mCompV i vs f t m) σ H Q) : tLc (iList X.K (tLen X.K (tVar i))) (tMG X.K vs f) (tMT X.K W0 t) (tM X.K W0 m) vs σ H Q := by
  obtain ⟨ms, G, h⟩ := q
  unfold mCompV at h
  cases hat : atL i ms with
  | none => simp only [Run, hat] at h
  | some ds0 =>
    by_cases hno : noOwn ms vs = true
    case neg =>
      simp only [Run, hat, hno] at h
      exact h.elim
    cases hcl : compV i vs f t m 0 ds0.length [] (wipeM ms vs) with
    | none => simp only [Run, hat, if_pos hno, hcl] at h
    | some r =>
      cases r with
      | exc x ms' => simp only [Run, hat, if_pos hno, hcl] at h
      | ok accF msF =>
        simp only [Run, hat, if_pos hno, hcl] at h
        obtain ⟨l0, hi0⟩ := atL_some hat
        obtain ⟨a, ha, xs0, hHa, hR0⟩ := G.own i l0 _ hi0
        have niv : i ∉ vs := fun y => by
          unfold noOwn at hno
          have := List.all_eq_true.mp hno i y
          rw [hi0] at this
          cases this
        refine ⟨.ref a, ha, fun hlen => ⟨a, rfl, ⟨xs0, .inl (.of hHa)⟩, ?_⟩⟩
        have hn0 : ds0.length ≤ sizeLine := by
          rw [hR0.length]
          exact hlen a xs0 rfl (.inl (.inl (.of hHa)))
        intro D hD
        have noD : ¬ Ow ms σ D := Ow.live G hD
        have Gw := G.wipe vs
        have st0 := PostE.same Gw (same_new (o := HO.lst []) hD)
        refine ⟨fun j k H' => k + j = ds0.length ∧ ∃ msw acc xs, PostE X.K (wipeM ms vs) (L2.wipe σ vs) H msw H' ∧ (∀ (j : Nat) s, j ∈ vs → msw[j]? = some s → s = .unk) ∧ H' D = some (.lst xs) ∧ Reps X.K H' acc xs ∧ acc.length ≤ j ∧
          compV i vs f t m j k acc msw = some (.ok accF msF), ⟨ds0.length, by simp, wipeM ms vs, [], [], st0, fun j s hj e => wipeM_self hj e, upd_same, by rw [Reps], Nat.zero_le _, hcl⟩, ?_⟩
        rintro j k H2 ⟨hjk, msw, acc, xs, pw, hun, eD, ra, hal, hc⟩
        have noDw : ¬ Ow msw (L2.wipe σ vs) D := fun z => noD (pw.ow D z).wipe
        have hσi : (L2.wipe σ vs)[i]? = some (some (.ref a)) := by rw [wipe_at niv]; exact ha
        cases k with
        | zero =>
          left
          unfold compV at hc
          cases hat2 : atL i msw with
          | none => simp only [hat2] at hc; cases hc
          | some ds =>
            simp only [hat2] at hc
            split at hc
            case isFalse => cases hc
            rename_i hlj
            have hc' : acc = accF ∧ msw = msF := by cases hc; exact ⟨rfl, rfl⟩
            obtain ⟨rfl, rfl⟩ := hc'
            obtain ⟨l2, hi2⟩ := atL_some hat2
            obtain ⟨a2, ha2, xs2, hHa2, hR2⟩ := pw.good.own i l2 _ hi2
            rw [hσi] at ha2; cases ha2
            refine ⟨⟨xs2, .inl (.of hHa2), by rw [← hR2.length]; omega⟩, ?_⟩
            have pb := PostE.back G hno rfl pw hun
            have nb : ¬ Ow (backM ms msw vs) σ D := fun z => noD (pb.ow D z)
            exact h _ _ pb ⟨D, rfl, hD, ⟨xs, eD, ra⟩, nb⟩
        | succ k =>
          right
          unfold compV at hc
          cases hat2 : atL i msw with
          | none => simp only [hat2] at hc; cases hc
          | some ds =>
            simp only [hat2] at hc
            cases hd : ds[j]? with
            | none => simp only [hd] at hc; cases hc
            | some d =>
              simp only [hd] at hc
              cases hf : f d msw with
              | none => simp only [hf] at hc; cases hc
              | some ms3 =>
                simp only [hf] at hc
                obtain ⟨l2, hi2⟩ := atL_some hat2
                obtain ⟨a2, ha2, xs2, hHa2, hR2⟩ := pw.good.own i l2 _ hi2
                rw [hσi] at ha2; cases ha2
                obtain ⟨x2, hx2, rx2⟩ := reps_at hR2 hd
                refine ⟨⟨xs2, x2, .inl (.of hHa2), hx2⟩, fun H' => ∃ msw acc xs, PostE X.K (wipeM ms vs) (L2.wipe σ vs) H msw H' ∧ (∀ (j : Nat) s, j ∈ vs → msw[j]? = some s → s = .unk) ∧ H' D = some (.lst xs) ∧ Reps X.K H' acc xs ∧ acc.length ≤ j + 1 ∧
                  compV i vs f t m (j + 1) k acc msw = some (.ok accF msF), fun H' z => ⟨k, by omega, by omega, z⟩, fun x H3 hy => ?_⟩
                obtain ⟨rfl, hy2⟩ := hy
                have e3 := (hy2 xs2 (.inl (.of hHa2))).symm.trans hx2
                cases e3
                have h3 : Run (t.bind fun b => if b = true then m.bind (fun ev ms2 => match ev with
                    | .val y => compV i vs f t m (j + 1) k (acc ++ [y]) (wipeM ms2 vs)
                    | _ => none) else fun ms2 => compV i vs f t m (j + 1) k acc (wipeM ms2 vs)) ms3 (fun a z => a = accF ∧ z = msF) (fun _ _ => False) := by
                  unfold Run
                  rw [hc]
                  exact ⟨rfl, rfl⟩
                refine ⟨d, msw, ms3, pw.good, rx2, hf, fun σ2 s2 off => ?_⟩
                have ew : L2.wipe σ2 vs = L2.wipe σ vs := by
                  rw [wipe_off (σ := L2.wipe σ vs) (σ' := σ2) (vs := vs) off.2.2 fun j hj => (off.1 j hj).1, wipe_wipe]
                refine ⟨ew, ?_⟩
                refine tMT_bind s2.good h3 (fun x ms' z => z.elim) fun b ms4 h4 H4 p4 => ?_
                have no3 : ¬ Ow ms3 σ2 D := fun z => by
                  rcases s2.ow D z with y | y
                  · exact noDw y
                  · rw [eD] at y; cases y
                cases b with
                | false =>
                  refine iteF ?_
                  have h5 : Run (compV i vs f t m (j + 1) k acc) (wipeM ms4 vs) (fun a z => a = accF ∧ z = msF) (fun _ _ => False) := h4
                  have pt := PostS.wipe hun s2 off p4 (ew.trans rfl)
                  refine ⟨wipeM ms4 vs, acc, xs, pw.trans pt, fun j s hj e => wipeM_self hj e, p4.keep D _ eD no3, Reps.mono (p4.kept s2.good) _ _ ra, by omega, ?_⟩
                  unfold Run at h5
                  cases q : compV i vs f t m (j + 1) k acc (wipeM ms4 vs) with
                  | none => rw [q] at h5; exact h5.elim
                  | some r =>
                    rw [q] at h5
                    cases r with
                    | exc x ms' => exact h5.elim
                    | ok a z =>
                      obtain ⟨e1, e2⟩ := h5
                      rw [e1, e2]
                | true =>
                  refine iteT ?_
                  have h5 : Run (m.bind (fun ev ms2 => match ev with
                    | .val y => compV i vs f t m (j + 1) k (acc ++ [y]) (wipeM ms2 vs)
                    | _ => none)) ms4 (fun a z => a = accF ∧ z = msF) (fun _ _ => False) := h4
                  refine tM_bind p4.good h5 (fun x ms' z => z.elim) fun ev ms5 h6 y H5 p5 o5 => ?_
                  cases ev with
                  | new o => exact h6.elim
                  | bor j => exact h6.elim
                  | val yd =>
                    have h7 : Run (compV i vs f t m (j + 1) k (acc ++ [yd])) (wipeM ms5 vs) (fun a z => a = accF ∧ z = msF) (fun _ _ => False) := h6
                    have p45 := p4.trans p5
                    have k45 := p45.kept s2.good
                    have eD5 : H5 D = some (.lst xs) := p45.keep D _ eD no3
                    have ra5 := Reps.mono k45 _ _ ra
                    have pt := PostS.wipe hun s2 off p45 (ew.trans rfl)
                    have pw5 := pw.trans pt
                    have no5 : ¬ Ow (wipeM ms5 vs) (L2.wipe σ vs) D := fun z => noD (pw5.ow D z).wipe
                    obtain ⟨pw6, k6⟩ := pw5.tweak (u' := HO.lst (xs ++ [y])) hD no5 eD5 trivial
                    refine ⟨xs, eD5, ?_, wipeM ms5 vs, acc ++ [yd], xs ++ [y], pw6, fun j s hj e => wipeM_self hj e, upd_same, Reps.snoc (Reps.mono k6 _ _ ra5) (Rep.mono k6 _ _ o5), by rw [List.length_append]; exact Nat.add_le_add_right hal 1, ?_⟩
                    · have := ra5.length
                      omega
                    · unfold Run at h7
                      cases q : compV i vs f t m (j + 1) k (acc ++ [yd]) (wipeM ms5 vs) with
                      | none => rw [q] at h7; exact h7.elim
                      | some r =>
                        rw [q] at h7
                        cases r with
                        | exc x ms' => exact h7.elim
                        | ok a z =>
                          obtain ⟨e1, e2⟩ := h7
                          rw [e1, e2]
variable {own : List (Str × Nat)} {x y : Str} {p : Pos}
theorem me_compV {i : Nat} (hc : X.calm = true) (hN : X.N.Nodup) (hx : X.N[i]? = some x) (hv : Vis X.env.scope x) (hd : (x == ("__debug__" : Str)) = false) (hcd : (x == ("__classdict__" : Str)) = false) (ok : BlkOk X.N X.env.scope scope own) (hg : InBlk X scope fun Y => MGf Y tg (own.map (·.2)) f) (ht : InBlk X scope fun Y => PTs Y ifs (tMT Y.K W0 t)) (he : InBlk X scope fun Y => ME Y W0 elt m)
    (hs : ∀ z, foldedSetIterable (.Name x p) X.env z = pure z) : ME X W (.ListComp elt [⟨tg, .Name x p, ifs, 0⟩] scope pos) (mCompV i (own.map (·.2)) f t m) :=
  PE.imp (pe_lc (g := tMG X.K (own.map (·.2)) f) (tt := tMT X.K W0 t) (te := tM X.K W0 m) hc hN (pi_list (pe_len (pe_var hx hv hd hcd))) ok (fun s H C cl fp => hg s H C cl fp) (fun s H C cl fp => ht s H C cl fp) (fun s H C cl fp => he s H C cl fp) hs) fun σ H Q q => compV_core q
theorem ms_asgCV {i j : Nat} {py : Pos} {spos : Pos} (hc : X.calm = true) (hN : X.N.Nodup) (hy : X.N[j]? = some y) (hyl : X.env.scope.names.lookup y = some .local) (hsw : swapsWith (.ListComp elt [⟨tg, .Name x p, ifs, 0⟩] scope pos) (some (.Name y py)) spos.line X.env = pure true)
    (hx : X.N[i]? = some x) (hv : Vis X.env.scope x) (hd : (x == ("__debug__" : Str)) = false) (hcd : (x == ("__classdict__" : Str)) = false) (ok : BlkOk X.N X.env.scope scope own) (hg : InBlk X scope fun Y => MGf Y tg (own.map (·.2)) f) (ht : InBlk X scope fun Y => PTs Y ifs (tMT Y.K W0 t)) (he : InBlk X scope fun Y => ME Y W0 elt m)
    (hs : ∀ z, foldedSetIterable (.Name x p) X.env z = pure z) : MS1 X W (.Assign [.Name y py] (.ListComp elt [⟨tg, .Name x p, ifs, 0⟩] scope pos) spos) (sAsgN j (mCompV i (own.map (·.2)) f t m)) :=
  PS.imp (ps_setLc (g := tMG X.K (own.map (·.2)) f) (tt := tMT X.K W0 t) (te := tM X.K W0 m) hc hN hy hyl hsw (pi_list (pe_len (pe_var hx hv hd hcd))) ok (fun s H C cl fp => hg s H C cl fp) (fun s H C cl fp => ht s H C cl fp) (fun s H C cl fp => he s H C cl fp) hs) fun D σ H q => by
    rw [tMS_eq] at q
    obtain ⟨ms, G, h⟩ := q
    exact compV_core (asgN_core G h)
theorem xLV (i : Nat) (own : List (Str × Nat)) (hN : X.N.Nodup) (ok : BlkOk X.N X.env.scope scope own) (hg : InBlk X scope fun Y => MGf Y tg (own.map (·.2)) f) (ht : InBlk X scope fun Y => PTs Y ifs (tMT Y.K W0 t)) (he : InBlk X scope fun Y => ME Y W0 elt m)
    (hc : X.calm = true := by rfl) (hx : X.N[i]? = some x := by rfl) (hv : Vis X.env.scope x := by first | exact Or.inl rfl | exact Or.inr (Or.inl rfl) | exact Or.inr (Or.inr rfl)) (hd : (x == ("__debug__" : Str)) = false := by rfl) (hcd : (x == ("__classdict__" : Str)) = false := by rfl) (hs : ∀ z, foldedSetIterable (.Name x p) X.env z = pure z := by intro _; rfl) : ME X W (.ListComp elt [⟨tg, .Name x p, ifs, 0⟩] scope pos) (mCompV i (own.map (·.2)) f t m) := me_compV hc hN hx hv hd hcd ok hg ht he hs
theorem zAcV {py spos : Pos} (i j : Nat) (own : List (Str × Nat)) (hN : X.N.Nodup) (ok : BlkOk X.N X.env.scope scope own) (hg : InBlk X scope fun Y => MGf Y tg (own.map (·.2)) f) (ht : InBlk X scope fun Y => PTs Y ifs (tMT Y.K W0 t)) (he : InBlk X scope fun Y => ME Y W0 elt m)
    (hc : X.calm = true := by rfl) (hy : X.N[j]? = some y := by rfl) (hyl : X.env.scope.names.lookup y = some .local := by rfl) (hsw : swapsWith (.ListComp elt [⟨tg, .Name x p, ifs, 0⟩] scope pos) (some (.Name y py)) spos.line X.env = pure true := by rfl)
    (hx : X.N[i]? = some x := by rfl) (hv : Vis X.env.scope x := by first | exact Or.inl rfl | exact Or.inr (Or.inl rfl) | exact Or.inr (Or.inr rfl)) (hd : (x == ("__debug__" : Str)) = false := by rfl) (hcd : (x == ("__classdict__" : Str)) = false := by rfl) (hs : ∀ z, foldedSetIterable (.Name x p) X.env z = pure z := by intro _; rfl) :
    MS1 X W (.Assign [.Name y py] (.ListComp elt [⟨tg, .Name x p, ifs, 0⟩] scope pos) spos) (sAsgN j (mCompV i (own.map (·.2)) f t m)) := ms_asgCV hc hN hy hyl hsw hx hv hd hcd ok hg ht he hs
end

/-! ### for, over a lent list -/
def forV (i : Nat) (f : D → MS → Option MS) (b : MSt) : Nat → Nat → MSt
  | _, 0 => fun _ => none
  | k, n + 1 => fun ms => match atLn i ms with
    | none => none
    | some ds => (match ds[k]? with
      | none => some (.ok .nx ms)
      | some d => (match f d ms with
        | none => none
        | some ms1 => b.bind (wh (forV i f b (k + 1) n)) ms1))
def sForV (i : Nat) (f : D → MS → Option MS) (b : MSt) : MSt := forV i f b 0 16777218
section
variable {X : Cx} {W : WX} {tg : Expr} {body : List Stmt} {m : MSt} {f : D → MS → Option MS} {pos : Pos} {x : Str} {p : Pos}
theorem ms_forV {i : Nat} (hp : PassesOwn (model X.prog X.w) X.A X.env X.xe) (hc : X.calm = true) (hx : X.N[i]? = some x) (hv : Vis X.env.scope x) (hd : (x == ("__debug__" : Str)) = false) (hcd : (x == ("__classdict__" : Str)) = false) {S : List Nat} (hg : MGf X tg S f) (hb : MSs X W body m) (hs : ∀ z, foldedSetIterable (.Name x p) X.env z = pure z) : MS1 X W (.For tg (.Name x p) body [] pos) (sForV i f m) := by
  refine PS.imp (ps_for hp hc (pi_list (pe_var hx hv hd hcd)) hg hb hs) fun D σ H q => ?_
  rw [tMS_eq] at q
  obtain ⟨ms, G, h⟩ := q
  unfold sForV at h
  generalize 16777218 = N at h
  have h0 := h
  have hN : ∃ N', N = N' + 1 := by
    cases N with
    | zero => exact h.elim
    | succ n => exact ⟨n, rfl⟩
  obtain ⟨N', rfl⟩ := hN
  unfold forV at h0
  cases hat : atLn i ms with
  | none => simp only [Run, hat] at h0
  | some ds0 =>
    have hi0 := atLn_some hat
    obtain ⟨a, ha, xs0, hHa, hR0⟩ := G.own i true _ hi0
    refine ⟨.ref a, ha, a, rfl, ⟨xs0, .inl (.of hHa)⟩, ?_⟩
    refine ⟨fun j k σ' H' => ∃ ms', PostS X.K ms σ H ms' σ' H' ∧ Run (forV i f m j k) ms' (EndK X.K D ms σ H) (ExK X.K W ms σ H), ⟨_, ms, .refl G, h⟩, ?_⟩
    rintro j k σ2 H2 ⟨ms2, p2, h2⟩
    cases k with
    | zero => exact h2.elim
    | succ k =>
      unfold forV at h2
      cases hat2 : atLn i ms2 with
      | none => simp only [Run, hat2] at h2
      | some ds =>
        have hi2 := atLn_some hat2
        obtain ⟨a2, ha2, xs2, hHa2, hR2⟩ := p2.good.own i true _ hi2
        have eσ := (p2.lent i _ hi0).2
        rw [eσ, ha] at ha2; cases ha2
        cases hd2 : ds[j]? with
        | none =>
          left
          have h2 : EndK X.K D ms σ H .nx ms2 := by
            simp only [Run, hat2, hd2] at h2
            exact h2
          have hl := List.getElem?_eq_none_iff.mp hd2
          exact ⟨⟨xs2, .inl (.of hHa2), by rw [← hR2.length]; exact hl⟩, h2 σ2 H2 p2⟩
        | some d =>
          right
          obtain ⟨x2, hx2, rx2⟩ := reps_at hR2 hd2
          refine ⟨⟨xs2, x2, .inl (.of hHa2), hx2⟩, fun σ' H' => ∃ ms', PostS X.K ms σ H ms' σ' H' ∧ Run (forV i f m (j + 1) k) ms' (EndK X.K D ms σ H) (ExK X.K W ms σ H), fun σ' H' z => ⟨k, Nat.lt_succ_self k, z⟩, fun x H3 hy => ?_⟩
          obtain ⟨rfl, hy2⟩ := hy
          have e3 := (hy2 xs2 (.inl (.of hHa2))).symm.trans hx2
          cases e3
          cases hf : f d ms2 with
          | none => simp only [Run, hat2, hd2, hf] at h2
          | some ms3 =>
            have h3 : Run (m.bind (wh (forV i f m (j + 1) k))) ms3 (EndK X.K D ms σ H) (ExK X.K W ms σ H) := by
              simp only [Run, hat2, hd2, hf] at h2 ⊢
              exact h2
            refine ⟨d, ms2, ms3, p2.good, rx2, hf, fun σ4 p4 _ => ?_⟩
            have p34 := p2.trans p4
            rw [Run.bind] at h3
            exact ⟨ms3, p4.good, h3.mono (fun fl ms5 h5 => EndK.wh p34 h5 fun σ5 H5 p5 h6 => ⟨ms5, p34.trans p5, h6⟩) fun x ms' z => ExK.from p34 z⟩
theorem zFoV {S : List Nat} (i : Nat) (hp : PassesOwn (model X.prog X.w) X.A X.env X.xe) (hg : MGf X tg S f) (hb : MSs X W body m) (hc : X.calm = true := by rfl) (hx : X.N[i]? = some x := by rfl) (hv : Vis X.env.scope x := by first | exact Or.inl rfl | exact Or.inr (Or.inl rfl) | exact Or.inr (Or.inr rfl)) (hd : (x == ("__debug__" : Str)) = false := by rfl) (hcd : (x == ("__classdict__" : Str)) = false := by rfl) (hs : ∀ z, foldedSetIterable (.Name x p) X.env z = pure z := by intro _; rfl) : MS1 X W (.For tg (.Name x p) body [] pos) (sForV i f m) := ms_forV hp hc hx hv hd hcd hg hb hs
end

/-! ### plain runs -/
section
variable {ms : MS} {E : EX → MS → Prop} {Q : EV → MS → Prop} {QL : List D → MS → Prop} {QS : Fl → MS → Prop} {m : M EV} {t : M Bool} {b : MSt}
@[simp] theorem atL_zero {l : Bool} {ds : List D} {ms : MS} : atL 0 (.own l (.lst ds) :: ms) = some ds := rfl
@[simp] theorem atL_succ {i : Nat} {s : SV} {ms : MS} : atL (i + 1) (s :: ms) = atL i ms := rfl
@[simp] theorem atLn_zero {ds : List D} {ms : MS} : atLn 0 (.own true (.lst ds) :: ms) = some ds := rfl
@[simp] theorem atLn_succ {i : Nat} {s : SV} {ms : MS} : atLn (i + 1) (s :: ms) = atLn i ms := rfl
@[simp] theorem run_mCompV {i : Nat} {own : List Nat} {f : D → MS → Option MS} : Wp (mCompV i own f t m) ms Q E = opK (fun ds => noOwn ms own = true ∧ Wp (compV i own f t m 0 ds.length []) (wipeM ms own) (fun acc ms2 => Q (.new (.lst acc)) (backM ms ms2 own)) (fun _ _ => False)) (atL i ms) := by
  unfold mCompV
  rw [run_fun]
  cases atL i ms with
  | none => rfl
  | some ds =>
    by_cases h : noOwn ms own = true
    case neg => simp [h]
    simp only [h, if_true, true_and, opK_some]
    rw [run_fun]
    cases compV i own f t m 0 ds.length [] (wipeM ms own) with
    | none => rfl
    | some r => cases r <;> rfl
/-- a comprehension that changes nothing, live -/
theorem run_compVF {i : Nat} {own : List Nat} {f : D → MS → Option MS} (g : D → Bool) (v : D → D) (ds : List D) (hat : atL i ms = some ds)
    (step : ∀ d, d ∈ ds → opK (fun ms1 => Wp t ms1 (fun k ms2 => k = g d ∧ (k = true → Wp m ms2 (fun ev ms3 => evD ev = some (v d) ∧ wipeM ms3 own = ms) E) ∧ (k = false → wipeM ms2 own = ms)) E) (f d ms))
    (q : QL ((ds.filter g).map v) ms) : Wp (compV i own f t m 0 ds.length []) ms QL E := by
  have key : ∀ (n k : Nat) (acc : List D), k + n = ds.length → acc = ((ds.take k).filter g).map v → Wp (compV i own f t m k n acc) ms QL E := by
    intro n
    induction n with
    | zero =>
      intro k acc hk ha
      rw [compV]
      rw [run_fun]
      have hk' : ds.length = k := by omega
      simp only [hat, if_pos hk']
      rw [ha, ← hk', List.take_length]
      exact q
    | succ n ih =>
      intro k acc hk ha
      rw [compV]
      rw [run_fun]
      have hlt : k < ds.length := by omega
      have hd : ds[k]? = some ds[k] := List.getElem?_eq_getElem hlt
      simp only [hat, hd]
      obtain ⟨ms1, e, r⟩ := opK_ex.mp (step ds[k] (List.getElem_mem hlt))
      simp only [e]
      have et : ds.take (k + 1) = ds.take k ++ [ds[k]] := by rw [List.take_add_one, hd]; rfl
      change Wp (t.bind fun b => if b = true then m.bind (fun ev ms2 => match ev with
            | .val y => compV i own f t m (k + 1) n (acc ++ [y]) (wipeM ms2 own)
            | _ => none) else fun ms2 => compV i own f t m (k + 1) n acc (wipeM ms2 own)) ms1 QL E
      rw [Wp.bind]
      refine r.imp fun b ms2 q2 => ?_
      obtain ⟨hb, q1, q3⟩ := q2
      cases b with
      | false =>
        rw [if_neg (by simp)]
        show Wp (compV i own f t m (k + 1) n acc) (wipeM ms2 own) QL E
        rw [q3 rfl]
        refine ih _ _ (by omega) ?_
        rw [ha, et, List.filter_append, List.filter_cons_of_neg (by rw [← hb]; simp)]
        simp
      | true =>
        rw [if_pos rfl, Wp.bind]
        refine (q1 rfl).imp fun ev ms3 q4 => ?_
        obtain ⟨e4, w4⟩ := q4
        cases ev with
        | new o => cases e4
        | bor o => cases e4
        | val y =>
          cases e4
          show Wp (compV i own f t m (k + 1) n (acc ++ [v ds[k]])) (wipeM ms3 own) QL E
          rw [w4]
          refine ih _ _ (by omega) ?_
          rw [ha, et, List.filter_append, List.filter_cons_of_pos (by rw [← hb])]
          simp
  exact key ds.length 0 [] (by omega) rfl
theorem run_compVM {i : Nat} {own : List Nat} {f : D → MS → Option MS} (v : D → D) (ds : List D) (hat : atL i ms = some ds)
    (step : ∀ d, d ∈ ds → opK (fun ms1 => Wp m ms1 (fun ev ms3 => evD ev = some (v d) ∧ wipeM ms3 own = ms) E) (f d ms))
    (q : QL (ds.map v) ms) : Wp (compV i own f (M.pure true) m 0 ds.length []) ms QL E := by
  refine run_compVF (fun _ => true) v ds hat (fun d hd => ?_) ?_
  · obtain ⟨ms1, e, r⟩ := opK_ex.mp (step d hd)
    exact opK_of e ⟨rfl, fun _ => r, fun z => nomatch z⟩
  · rw [List.filter_eq_self.mpr fun _ _ => rfl]
    exact q
end
end Fw
set_option Elab.async false
set_option linter.all false
set_option maxRecDepth 100000
set_option maxHeartbeats 4000000
/-! Fx A: more constructs: tuples of the module, dict(d), list(d), min, sum, str, bool, d.get(k), methods of texts, a, b = x, y -/
namespace Fw
open PySem L2
/-- the module's name x is a tuple of texts -/
def GTup (K : PySem.W.Frag) (mg : Str → Option Value) (x : Str) (ss : List Str) : Prop := ∃ a, mg x = some (.ref a) ∧ KTu K a (ss.map V.str)
theorem reps_strs {K : PySem.W.Frag} {H : Hp} : ∀ {ss : List Str}, Reps K H (ss.map D.str) (ss.map V.str)
  | [] => by rw [List.map_nil, List.map_nil, Reps]
  | s :: ss => by
    rw [List.map_cons, List.map_cons, Reps]
    exact ⟨_, _, rfl, by rw [Rep], reps_strs⟩
section
variable {X : Cx} {W : WX} {a b c e f : Expr} {es : List Expr} {ma mb mc m : M EV} {mas : M (List EV)} {pos : Pos} {x y z : Str}
theorem xGT {ss : List Str} (u : GTup X.K X.mg x ss) (hg : Gl X x := by rfl) (hdb : (x == ("__debug__" : Str)) = false := by rfl) : ME X W (.Name x pos) (M.pure (.val (.ktp (ss.map .str)))) := by
  obtain ⟨a, hm, hk⟩ := u
  exact me_val (fun H => by rw [Rep]; exact ⟨a, _, rfl, hk, reps_strs⟩) (pe_glob (v := .ref a) hg hm rfl hdb)

/-! ### calls of built-ins -/
def bDict : List D → Option EV
  | [.dct false ks vs] => some (.new (.dic false ks vs))
  | _ => none
theorem c_dict : CallB X (.type "dict") bDict := .of call_dictD fun H xs ds ev Q rx hg q => by
  unfold bDict at hg
  split at hg
  · cases hg
    obtain ⟨x, rfl, r⟩ := pair1 rx
    obtain ⟨a, u, ys, rfl, h1, d, h2⟩ := r
    obtain ⟨kvs, rfl, e1, e2⟩ := d
    subst e2
    exact ⟨a, kvs, rfl, h1, fun p hp => q _ _ (same_new hp) ⟨p, rfl, hp, _, _, upd_same, ⟨kvs, rfl, e1, rfl⟩, Reps.mono (.same (same_new hp)) _ _ h2⟩⟩
  · cases hg
theorem reps_keys {K : PySem.W.Frag} {H : Hp} : ∀ {kvs : List (Key × V)}, Reps K H (kvs.map fun p => kD p.1) (kvs.map fun p => kV p.1)
  | [] => by rw [List.map_nil, List.map_nil, Reps]
  | p :: kvs => by
    rw [List.map_cons, List.map_cons, Reps]
    refine ⟨_, _, rfl, ?_, reps_keys⟩
    obtain ⟨k, v⟩ := p
    cases k with
    | inl i => show Rep K H (.int i) _; rw [Rep]; rfl
    | inr i => show Rep K H (.str i) _; rw [Rep]; rfl
def bListD : List D → Option EV
  | [.dct false ks vs] => some (.new (.lst ks))
  | _ => none
theorem c_listD (hc : X.calm = true) : CallB X (.type "list") bListD := .of (call_listD hc) fun H xs ds ev Q rx hg q => by
  unfold bListD at hg
  split at hg
  · cases hg
    obtain ⟨x, rfl, r⟩ := pair1 rx
    obtain ⟨a, u, ys, rfl, h1, d, h2⟩ := r
    obtain ⟨kvs, rfl, rfl, e2⟩ := d
    exact ⟨a, kvs, rfl, h1, fun p hp => q _ _ (same_new hp) ⟨p, rfl, hp, _, upd_same, reps_keys⟩⟩
  · cases hg
/-- list(x) -/
def bListX (ds : List D) : Option EV := match bList ds with
  | some r => some r
  | none => bListD ds
theorem c_listX (hc : X.calm = true) : CallB X (.type "list") bListX := (c_list.or (c_listD hc)).imp fun ds r h => by
  unfold bListX at h
  exact h
def bMin2 : List D → Option EV
  | [.int i, .int j] => some (.val (.int (if j < i then j else i)))
  | _ => none
theorem c_min2 (hc : X.calm = true) : CallB X (.builtin "min") bMin2 := .of (call_min2 hc) fun H xs ds ev Q rx hg q => by
  unfold bMin2 at hg
  split at hg
  · cases hg
    obtain ⟨x, y, rfl, r1, r2⟩ := pair2 rx
    exact ⟨_, _, by rw [rdInt r1, rdInt r2], q _ H (.refl H) roInt⟩
  · cases hg
theorem reps_intsV {K : PySem.W.Frag} {H : Hp} : ∀ {ns : List Int} {xs : List V}, Reps K H (ns.map .int) xs → xs = ns.map V.int
  | [], xs, h => by
    rw [List.map_nil, Reps] at h
    rw [h]; rfl
  | n :: ns, xs, h => by
    rw [List.map_cons, Reps] at h
    obtain ⟨x, r, rfl, h1, h2⟩ := h
    rw [Rep] at h1
    rw [h1, reps_intsV h2]; rfl
def minL : List Int → Int
  | [] => 0
  | [i] => i
  | i :: j :: r => min i (minL (j :: r))
theorem minL_mem : ∀ {ns : List Int}, ns ≠ [] → minL ns ∈ ns
  | [], h => absurd rfl h
  | [i], _ => by simp [minL]
  | i :: j :: r, _ => by
    have ih := minL_mem (ns := j :: r) (by simp)
    rw [minL]
    by_cases c : i ≤ minL (j :: r)
    · rw [Int.min_eq_left c]; simp
    · rw [Int.min_eq_right (by omega)]; exact List.mem_cons_of_mem _ ih
theorem minL_le : ∀ {ns : List Int} {y : Int}, y ∈ ns → minL ns ≤ y
  | [], _, h => by simp at h
  | [i], y, h => by simp at h; subst h; simp [minL]
  | i :: j :: r, y, h => by
    rw [minL]
    rcases List.mem_cons.mp h with e | e
    · subst e; exact Int.min_le_left _ _
    · exact Int.le_trans (Int.min_le_right _ _) (minL_le e)
/-- of a list of ints -/
def bMinL : List D → Option EV
  | [.lst ds] => (intsD ds).bind fun ns => if ns.isEmpty then none else some (.val (.int (minL ns)))
  | _ => none
theorem c_minL (hc : X.calm = true) : CallB X (.builtin "min") bMinL := .of (cr_min hc) fun H xs ds ev Q rx hg q => by
  unfold bMinL at hg
  split at hg
  · obtain ⟨ns, h1, h2⟩ := Option.bind_eq_some_iff.mp hg
    split at h2
    · cases h2
    · rename_i hne
      cases h2
      obtain ⟨x, rfl, r⟩ := pair1 rx
      obtain ⟨a, ys, rfl, h3, h4⟩ := r
      rw [intsD_eq h1] at h4
      have hys := reps_intsV h4
      subst hys
      have hne' : ns ≠ [] := by simpa using hne
      refine ⟨a, ns, rfl, .inl h3, List.length_pos_iff.mpr hne', fun m hm hle => ?_⟩
      have e : m = minL ns := Int.le_antisymm (hle _ (minL_mem hne')) (minL_le hm)
      rw [e]
      exact q _ H (.refl H) roInt
  · cases hg
def bMin (ds : List D) : Option EV := match bMin2 ds with
  | some r => some r
  | none => bMinL ds
theorem c_min (hc : X.calm = true) : CallB X (.builtin "min") bMin := ((c_min2 hc).or (c_minL hc)).imp fun ds r h => by
  unfold bMin at h
  exact h
def bSum : List D → Option EV
  | [.lst ds] => (intsD ds).map fun ns => .val (.int ns.sum)
  | _ => none
theorem c_sum (hc : X.calm = true) : CallB X (.builtin "sum") bSum := .of (cr_sum hc) fun H xs ds ev Q rx hg q => by
  unfold bSum at hg
  split at hg
  · obtain ⟨ns, h1, h2⟩ := Option.map_eq_some_iff.mp hg
    cases h2
    obtain ⟨x, rfl, r⟩ := pair1 rx
    obtain ⟨a, ys, rfl, h3, h4⟩ := r
    rw [intsD_eq h1] at h4
    have hys := reps_intsV h4
    subst hys
    exact ⟨a, ns, rfl, .inl h3, q _ H (.refl H) roInt⟩
  · cases hg
/-- a number as a text -/
def istr (i : Int) : Str := Str.ofString (toString i)
noncomputable def bStr : List D → Option EV
  | [.int i] => @ite _ (i.natAbs < 1000000000000) (Classical.propDecidable _) (some (.val (.str (istr i)))) none
  | _ => none
theorem c_str : CallB X (.type "str") bStr := .of call_str_int fun H xs ds ev Q rx hg q => by
  unfold bStr at hg
  split at hg
  · rename_i i
    split at hg
    · rename_i c
      cases hg
      obtain ⟨x, rfl, r⟩ := pair1 rx
      refine ⟨i, by rw [rdInt r], ?_, q _ H (.refl H) roStr⟩
      by_cases h0 : i.natAbs = 0
      · rw [h0]; decide
      · have := (Nat.log2_lt (n := i.natAbs) (k := 1920) h0).mpr (Nat.lt_of_lt_of_le c (by
          have : (1000000000000 : Nat) ≤ 2 ^ 40 := by decide
          exact Nat.le_trans this (Nat.pow_le_pow_right (by decide) (by decide))))
        exact this
    · cases hg
  · cases hg
def bBool : List D → Option EV
  | [.int i] => some (.val (.bl (i != 0)))
  | [.bl k] => some (.val (.bl k))
  | _ => none
theorem c_bool : CallB X (.type "bool") bBool := .of call_bool1 fun H xs ds ev Q rx hg q => by
  unfold bBool at hg
  split at hg
  · cases hg
    obtain ⟨x, rfl, r⟩ := pair1 rx
    exact .inl ⟨_, by rw [rdInt r], q _ H (.refl H) roBl⟩
  · cases hg
    obtain ⟨x, rfl, r⟩ := pair1 rx
    have r : Rep X.K H (.bl _) x := r
    rw [Rep] at r
    exact .inr ⟨_, by rw [r], q _ H (.refl H) roBl⟩
  · cases hg
/-- len, of dicts too -/
theorem call_lenDF : CallR X (.builtin "len") (fun xs H Q => ∃ a kvs, xs = [V.ref a] ∧ Rd H a (.dK kvs) ∧ Q (.int kvs.length) H) := by
  intro pins s σ H xs us Q I r h
  obtain ⟨a, kvs, rfl, ha, q⟩ := h
  obtain ⟨u, rfl, ru⟩ := vals1 r
  cases ru
  exact d_len I ha fun t s' I' => ⟨.int kvs.length, H, I', ⟨t, rfl⟩, q⟩
def bLenD : List D → Option EV
  | [.dct false ks vs] => some (.val (.int (ks.length : Nat)))
  | _ => none
theorem c_lenD : CallB X (.builtin "len") bLenD := .of call_lenDF fun H xs ds ev Q rx hg q => by
  unfold bLenD at hg
  split at hg
  · cases hg
    obtain ⟨x, rfl, r⟩ := pair1 rx
    obtain ⟨a, u, ys, rfl, h1, d, h2⟩ := r
    obtain ⟨kvs, rfl, rfl, e2⟩ := d
    refine ⟨a, kvs, rfl, h1, ?_⟩
    have := q (.int kvs.length) H (.refl H) (by rw [List.length_map]; exact roInt)
    exact this
  · cases hg
def bLenX (ds : List D) : Option EV := match bLen ds with
  | some r => some r
  | none => bLenD ds
theorem c_lenX : CallB X (.builtin "len") bLenX := (c_len.or c_lenD).imp fun ds r h => by
  unfold bLenX at h
  exact h
end
end Fw
set_option Elab.async false
set_option linter.all false
set_option maxRecDepth 100000
set_option maxHeartbeats 4000000
/-! Fx B: methods of texts, d.get(k), {k: v}, a, b = x, y -/
namespace Fw
open PySem L2
section
variable {X : Cx} {W : WX} {a b c e f o : Expr} {es : List Expr} {ma mb mc m : M EV} {mas : M (List EV)} {pos apos cpos : Pos} {x y z : Str}
/-! ### methods of texts -/
def Mt0 (X : Cx) (id : String) (g : D → Option EV) : Prop := ∃ r, MtR X id r ∧ ∀ H x d ev Q, RdAt X.K H d x → g d = some ev → (∃ a, x = V.str a) ∧ ((∀ v H', Same H H' → ResOk X.K H H' v ev → Q v H') → r x [] H Q)
theorem me_m0 {id : String} {name : Str} {g : D → Option EV} (hg : Mt0 X id g) (slot : Slot "str" name id) (ty : typeOf (.builtin id) = pure (.type "method_descriptor")) (ho : ME X W o m)
    (hbase : attributeBase o name X.env (eval o X.env) = eval o X.env := by rfl) (hline : (apos.endLine == pos.line) = true := by rfl) : ME X W (.Call (.Attribute o name apos) [] [] pos) (mOp1 g m) := by
  obtain ⟨r, hr, hq⟩ := hg
  refine PE.imp (pe_m0 slot ty hr ho hbase hline) fun σ H Q q => ?_
  obtain ⟨ms, G, h⟩ := q
  refine tM_bind G h (fun x ms' z => z) fun e1 ms1 h1 v1 H1 p1 o1 => ?_
  obtain ⟨d, ev, k1, k2, k3⟩ := op1_end p1.good o1 h1
  obtain ⟨k4, k5⟩ := hq H1 v1 d ev Q k1 k2
  refine ⟨k4, k5 fun v H2 s2 r2 => ?_⟩
  exact k3 v H2 (p1.trans (PostE.same p1.good s2)) ((r2.ev p1.good).early p1.live)
def Mt1 (X : Cx) (id : String) (g : Str → D → Option EV) : Prop := ∃ r, MtR X id r ∧ ∀ H z y d ev Q, RdAt X.K H d y → g z d = some ev → (∀ v H', Same H H' → ResOk X.K H H' v ev → Q v H') → r (V.str z) [y] H Q
def mM1 (g : Str → D → Option EV) (ma mb : M EV) : M EV := ma.bind fun x ms0 => match rd ms0 x with
  | some (.str z) => (mb.bind fun y => fun ms => match rd ms y with
    | some d => M.lift (g z d) ms
    | none => none) ms0
  | _ => none
theorem me_m1 {id : String} {name : Str} {g : Str → D → Option EV} (hg : Mt1 X id g) (slot : Slot "str" name id) (ty : typeOf (.builtin id) = pure (.type "method_descriptor")) (ho : ME X W o ma) (he : ME X W e mb)
    (hs : starEach [e] X.env = [(false, eval e X.env)] := by rfl) (hbase : attributeBase o name X.env (eval o X.env) = eval o X.env := by rfl) (hline : (apos.endLine == pos.line) = true := by rfl) : ME X W (.Call (.Attribute o name apos) [e] [] pos) (mM1 g ma mb) := by
  obtain ⟨r, hr, hq⟩ := hg
  refine PE.imp (pe_m1 slot ty hr ho he hs hbase hline) fun σ H Q q => ?_
  obtain ⟨ms, G, h⟩ := q
  refine tM_bind G h (fun x ms' z => z) fun e1 ms1 h1 v1 H1 p1 o1 => ?_
  cases hd0 : rd ms1 e1 with
  | none => simp only [Run, hd0] at h1
  | some d0 =>
    cases d0 with
    | str z =>
      have hv : v1 = .str z := rdStr (rd_ok p1.good o1 hd0)
      subst hv
      refine ⟨⟨z, rfl⟩, ?_⟩
      have h2 : Run (mb.bind fun y => fun ms => match rd ms y with
        | some d => M.lift (g z d) ms
        | none => none) ms1 (fun ev ms' => ∀ v H', PostE X.K ms σ H ms' H' → EVOk X.K ms' σ H H' v ev → Q v H') (fun x ms' => ∀ cls d H', PostE X.K ms σ H ms' H' → ExOk X.K H' x cls d → W cls d σ H') := by
        simp only [Run, hd0] at h1 ⊢
        exact h1
      refine tM_bind p1.good h2 (fun x ms' z cls d H' p => z cls d H' (p1.trans p)) fun e2 ms2 h3 v2 H2 p2 o2 => ?_
      have p12 := p1.trans p2
      cases hd1 : rd ms2 e2 with
      | none => simp only [Run, hd1] at h3
      | some d1 =>
        cases hg1 : g z d1 with
        | none => simp only [Run, hd1, hg1, M.lift] at h3
        | some ev =>
          simp only [Run, hd1, hg1, M.lift] at h3
          refine hq H2 z v2 d1 ev Q (rd_ok p2.good o2 hd1) hg1 fun v H3 s3 r3 => ?_
          exact h3 v H3 (p12.trans (PostE.same p2.good s3)) ((r3.ev p2.good).early p12.live)
    | _ => simp only [Run, hd0] at h1
def gUpper : D → Option EV
  | .str z => if z.length ≤ 5592405 then some (.val (.str (Txt.upper z))) else none
  | _ => none
theorem mt_upperD : Mt0 X "str.upper" gUpper := ⟨_, mt_upper, fun H x d ev Q r h => by
  cases d with
  | str z =>
    simp only [gUpper] at h
    split at h
    · rename_i c
      cases h
      have hv := rdStr r
      exact ⟨⟨z, hv⟩, fun q => ⟨z, hv, rfl, c, q _ H (.refl H) roStr⟩⟩
    · cases h
  | _ => cases h⟩
def gDigit : D → Option EV
  | .str z => some (.val (.bl (Txt.isdigit z)))
  | _ => none
theorem mt_digitD : Mt0 X "str.isdigit" gDigit := ⟨_, mt_isdigit, fun H x d ev Q r h => by
  cases d with
  | str z =>
    cases h
    have hv := rdStr r
    exact ⟨⟨z, hv⟩, fun q => ⟨z, hv, rfl, trivial, q _ H (.refl H) roBl⟩⟩
  | _ => cases h⟩
@[simp] theorem strsD_map : ∀ {ns : List Str}, strsD (ns.map .str) = some ns
  | [] => rfl
  | n :: ns => by rw [List.map_cons, strsD, strsD_map]; rfl
theorem reps_strsV {K : PySem.W.Frag} {H : Hp} : ∀ {ns : List Str} {xs : List V}, Reps K H (ns.map .str) xs → xs = ns.map V.str
  | [], xs, h => by
    rw [List.map_nil, Reps] at h
    rw [h]; rfl
  | n :: ns, xs, h => by
    rw [List.map_cons, Reps] at h
    obtain ⟨x, r, rfl, h1, h2⟩ := h
    rw [Rep] at h1
    rw [h1, reps_strsV h2]; rfl
def gJoin (z : Str) : D → Option EV
  | .lst ds => (strsD ds).bind fun ys => if (ys.map (·.length)).sum + ys.length * z.length ≤ 16777216 then some (.val (.str (Txt.join z ys))) else none
  | .tup ds => (strsD ds).bind fun ys => if (ys.map (·.length)).sum + ys.length * z.length ≤ 16777216 then some (.val (.str (Txt.join z ys))) else none
  | _ => none
theorem mt_joinD : Mt1 X "str.join" gJoin := ⟨_, mt_join, fun H z y d ev Q r h q => by
  cases d with
  | lst ds =>
    obtain ⟨ys, h1, h2⟩ := Option.bind_eq_some_iff.mp (show (strsD ds).bind _ = some ev from h)
    split at h2
    · rename_i c
      cases h2
      obtain ⟨a, xs, rfl, h3, h4⟩ := r
      rw [strsD_eq h1] at h4
      have hx := reps_strsV h4
      subst hx
      exact ⟨z, a, ys, rfl, rfl, .inl (.inl h3), c, q _ H (.refl H) roStr⟩
    · cases h2
  | tup ds =>
    obtain ⟨ys, h1, h2⟩ := Option.bind_eq_some_iff.mp (show (strsD ds).bind _ = some ev from h)
    split at h2
    · rename_i c
      cases h2
      obtain ⟨a, xs, rfl, h3, h4⟩ := rdTup r
      rw [strsD_eq h1] at h4
      have hx := reps_strsV h4
      subst hx
      exact ⟨z, a, ys, rfl, rfl, .inr (.of h3), c, q _ H (.refl H) roStr⟩
    · cases h2
  | _ => cases h⟩

/-! ### o.get(e) -/
def mGet1 (mo me : M EV) : M EV := mo.bind fun x ms0 => match rd ms0 x with
  | some d0 => if isDct d0 = true then (me.bind fun y => fun ms => match rd ms x, rd ms y with
      | some d, some q => (match getD2 d q .non with
        | some r => some (.ok (.val r) ms)
        | none => none)
      | _, _ => none) ms0 else none
  | none => none
theorem me_get1 (hu : X.A.units + 1 < cLine) (ho : ME X W o ma) (he : ME X W e mb) (m : M1 X o "get" apos e cpos) : ME X W (.Call (.Attribute o "get" apos) [e] [] cpos) (mGet1 ma mb) := by
  refine PE.imp (pe_dget1 hu ho he m) fun σ H Q q => ?_
  obtain ⟨ms, G, h⟩ := q
  refine tM_bind G h (fun x ms' z => z) fun ex ms1 h1 v1 H1 p1 o1 => ?_
  cases hd0 : rd ms1 ex with
  | none => simp only [Run, hd0] at h1
  | some d0 =>
    by_cases hc : isDct d0 = true
    case neg => simp only [Run, hd0, if_neg hc] at h1
    obtain ⟨a, ea, da⟩ := isD_rd (rd_ok p1.good o1 hd0) hc
    refine ⟨a, ea, da, ?_⟩
    have h2 : Run (mb.bind fun y => fun ms => match rd ms ex, rd ms y with
      | some d, some q => (match getD2 d q .non with
        | some r => some (.ok (.val r) ms)
        | none => none)
      | _, _ => none) ms1 (fun ev ms' => ∀ v H', PostE X.K ms σ H ms' H' → EVOk X.K ms' σ H H' v ev → Q v H') (fun x ms' => ∀ cls d H', PostE X.K ms σ H ms' H' → ExOk X.K H' x cls d → W cls d σ H') := by
      simp only [Run, hd0, if_pos hc] at h1 ⊢
      exact h1
    refine tM_bind p1.good h2 (fun x ms' z cls d H' p => z cls d H' (p1.trans p)) fun ey ms2 h3 v2 H2 p2 o2 => ?_
    have p12 := p1.trans p2
    have ox := o1.mono p1.good p2
    cases hx : rd ms2 ex with
    | none => simp only [Run, hx] at h3
    | some d =>
      cases hy : rd ms2 ey with
      | none => simp only [Run, hx, hy] at h3
      | some q =>
        cases hr : getD2 d q .non with
        | none => simp only [Run, hx, hy, hr] at h3
        | some r =>
          simp only [Run, hx, hy, hr] at h3
          have rx := rd_ok p2.good ox hx
          have ry := rd_ok p2.good o2 hy
          cases d with
          | dct t ks vs =>
            obtain ⟨a', u, xs, e', hu', dd, rr⟩ := rx
            rw [ea] at e'; cases e'
            unfold getD2 at hr
            dsimp only at hr
            split at hr
            · rename_i ok
              obtain ⟨oo, g, zz⟩ := dget_ok hu' dd rr ok ry
              refine ⟨oo, g, ?_⟩
              cases hr
              rcases zz with ⟨v, dv, rfl, e1, e2⟩ | ⟨rfl, e1⟩
              · rw [e1] at h3
                exact h3 v H2 p12 e2
              · rw [e1] at h3
                exact h3 .non H2 p12 (by show Rep _ _ _ _; rw [Option.getD_none, Rep])
            · cases hr
          | _ => cases hr

/-! ### {k: v} with a written key -/
def mDisp1 (k : Key) (m : M EV) : M EV := m.bind fun ev => M.lift (match ev with
  | .val d => some (.new (.dic false [kD k] [d]))
  | _ => none)
theorem me_disp1 {k : Key} (hk : PE X e (tC (kV k))) (hm : ME X W f m) : ME X W (.Dict [some e] [f] pos) (mDisp1 k m) := by
  refine PE.imp (pe_disp (pps_cons hk hm pps_nil) rfl rfl (by simp) (by simp)) fun σ H Q q => ?_
  obtain ⟨ms, G, h⟩ := q
  intro p hp
  have noD : ¬ Ow ms σ p := Ow.live G hp
  have p0 := PostE.same G (same_new (o := HO.dK []) hp)
  show tM X.K W m σ (upd H p (.dK [])) _
  refine tM_bind p0.good h (fun x ms' z cls d H' p => z cls d H' (p0.trans p)) fun ev ms1 h1 v H1 p1 o1 => ?_
  have pT := p0.trans p1
  obtain ⟨r, e1, k1⟩ := Run.lift h1
  cases ev with
  | new o => cases e1
  | bor o => cases e1
  | val d =>
    cases e1
    have hH : H1 p = some (.dK []) := p1.keep p _ upd_same noD
    have no1 : ¬ Ow ms1 σ p := fun z => noD (pT.ow _ z)
    refine ⟨hH, [(k, v)], rfl, by simp, ?_⟩
    obtain ⟨p2, k2⟩ := pT.tweak (u' := HO.dK [(k, v)]) hp no1 hH trivial
    refine k1 (.ref p) _ p2 ⟨p, rfl, hp, ⟨_, [v], upd_same, ⟨[(k, v)], rfl, rfl, rfl⟩, ?_⟩, fun z => noD (p2.ow _ z)⟩
    rw [Reps]
    exact ⟨v, [], rfl, Rep.mono k2 _ _ o1, by rw [Reps]⟩
theorem xD1s {i : Str} {j : Nat} {p : Pos} (hm : ME X W f m) : ME X W (.Dict [some (.Constant (.str i) j p)] [f] pos) (mDisp1 (.inr i) m) := me_disp1 pe_str hm

/-! ### a, b = x, y -/
def sPar2 (i j : Nat) (mas : M (List EV)) : MSt := mas.bind fun es ms => match es with
  | [.val d1, .val d2] => (match setS i (.val d1) ms with
    | some ms1 => (match setS j (.val d2) ms1 with
      | some ms2 => some (.ok .nx ms2)
      | none => none)
    | none => none)
  | _ => none
theorem ms_par2 {i j : Nat} {px py pt : Pos} {kt k2 : Nat} {pt2 : Pos} (hc : X.calm = true) (hN : X.N.Nodup) (hi : X.N[i]? = some x) (hj : X.N[j]? = some y) (hij : i ≠ j) (hx : X.env.scope.names.lookup x = some .local) (hy : X.env.scope.names.lookup y = some .local) (ha : MA X W [a, b] mas)
    (hw : swappedStores [.Tuple [.Name x px, .Name y py] kt pt] (.Tuple [a, b] k2 pt2) X.env = pure (some [x, y])) (hs : swapsWithSole [.Tuple [.Name x px, .Name y py] kt pt] (.Tuple [a, b] k2 pt2) pos.line X.env = pure false) :
    MS1 X W (.Assign [.Tuple [.Name x px, .Name y py] kt pt] (.Tuple [a, b] k2 pt2) pos) (sPar2 i j mas) := PS.imp (ps_par hc hN hi hj hij hx hy ha hw hs) fun D σ H q => by
  rw [tMS_eq] at q
  obtain ⟨ms, G, h⟩ := q
  refine tMA_bind G h (fun x ms' z => ExK.e z) fun es ms1 h1 vs H1 p1 o1 => ?_
  match es, h1, o1 with
  | [.val d1, .val d2], h1, o1 =>
    cases o1 with
    | cons r1 t =>
      cases t with
      | cons r2 t =>
        cases t
        cases e1 : setS i (.val d1) ms1 with
        | none => simp only [Run, e1] at h1
        | some ms2 =>
          cases e2 : setS j (.val d2) ms2 with
          | none => simp only [Run, e1, e2] at h1
          | some ms3 =>
            have h2 : EndK X.K D ms σ H .nx ms3 := by
              simp only [Run, e1, e2] at h1
              exact h1
            have s1 := PostS.setVal p1.good e1 r1
            have s2 := PostS.setVal s1.good e2 r2
            exact ⟨_, _, rfl, h2 _ _ ((p1.st.trans s1).trans s2)⟩
theorem zPa {px py pt : Pos} {kt k2 : Nat} {pt2 : Pos} (i j : Nat) (hN : X.N.Nodup) (ha : MA X W [a, b] mas) (hc : X.calm = true := by rfl) (hi : X.N[i]? = some x := by rfl) (hj : X.N[j]? = some y := by rfl) (hij : i ≠ j := by decide) (hx : X.env.scope.names.lookup x = some .local := by rfl) (hy : X.env.scope.names.lookup y = some .local := by rfl)
    (hw : swappedStores [.Tuple [.Name x px, .Name y py] kt pt] (.Tuple [a, b] k2 pt2) X.env = pure (some [x, y]) := by rfl) (hs : swapsWithSole [.Tuple [.Name x px, .Name y py] kt pt] (.Tuple [a, b] k2 pt2) pos.line X.env = pure false := by rfl) :
    MS1 X W (.Assign [.Tuple [.Name x px, .Name y py] kt pt] (.Tuple [a, b] k2 pt2) pos) (sPar2 i j mas) := ms_par2 hc hN hi hj hij hx hy ha hw hs
end
/-! ### plain runs -/
section
variable {ms : MS} {E : EX → MS → Prop} {Q : EV → MS → Prop} {QS : Fl → MS → Prop} {a b m : M EV} {mas : M (List EV)}
def stzK (P : Str → Prop) (o : Option D) (_ : Dum P := ()) : Prop := match o with
  | some (.str z) => P z
  | _ => False
@[simp] theorem stzK_str {P : Str → Prop} {z : Str} : stzK P (some (.str z)) = P z := rfl
@[simp] theorem run_mM1 {g : Str → D → Option EV} : Wp (mM1 g a b) ms Q E = Wp a ms (fun x ms0 => stzK (fun z => Wp b ms0 (fun y ms1 => opK (fun d => opK (fun r => Q r ms1) (g z d)) (rd ms1 y)) E) (rd ms0 x)) E := by
  unfold mM1
  rw [Wp.bind]; refine Wp.ext fun x ms0 => ?_
  rw [run_fun]
  cases h0 : rd ms0 x with
  | none => simp [stzK]
  | some d0 =>
    cases d0 with
    | str z =>
      simp only [stzK_str]
      change Wp (b.bind fun y => fun ms => match rd ms y with
        | some d => M.lift (g z d) ms
        | none => none) ms0 Q E = _
      rw [Wp.bind]; refine Wp.ext fun y ms1 => ?_
      rw [run_fun]
      cases rd ms1 y with
      | none => simp
      | some d => cases hg : g z d <;> simp [M.lift, hg]
    | _ => simp [stzK]
@[simp] theorem run_get1 : Wp (mGet1 a b) ms Q E = Wp a ms (fun x ms0 => opK (fun d0 => isDct d0 = true ∧ Wp b ms0 (fun y ms2 => opK (fun d => opK (fun q => opK (fun r => Q (.val r) ms2) (getD2 d q .non)) (rd ms2 y)) (rd ms2 x)) E) (rd ms0 x)) E := by
  unfold mGet1
  rw [Wp.bind]; refine Wp.ext fun x ms0 => ?_
  rw [run_fun]
  cases h0 : rd ms0 x with
  | none => simp
  | some d0 =>
    by_cases hc : isDct d0 = true
    case neg => simp [hc]
    simp only [hc, if_true, opK_some, true_and]
    change Wp (b.bind fun y => fun ms => match rd ms x, rd ms y with
      | some d, some q => (match getD2 d q .non with
        | some r => some (.ok (.val r) ms)
        | none => none)
      | _, _ => none) ms0 Q E = _
    rw [Wp.bind]; refine Wp.ext fun y ms2 => ?_
    rw [run_fun]
    cases hx : rd ms2 x with
    | none => simp
    | some d =>
      cases hy : rd ms2 y with
      | none => simp
      | some q => cases hg : getD2 d q .non <;> simp [hg]
@[simp] theorem run_disp1 {k : Key} : Wp (mDisp1 k m) ms Q E = Wp m ms (fun ev ms1 => opK (fun d => Q (.new (.dic false [kD k] [d])) ms1) (evD ev)) E := by
  unfold mDisp1
  rw [Wp.bind]; refine Wp.ext fun ev ms1 => ?_
  rw [run_lift]
  cases ev <;> simp [evD]
@[simp] theorem run_par2 {i j : Nat} : Wp (sPar2 i j mas) ms QS E = Wp mas ms (fun es ms1 => opK (fun ds => match ds with
    | [d1, d2] => opK (fun ms2 => opK (fun ms3 => QS .nx ms3) (setS j (.val d2) ms2)) (setS i (.val d1) ms1)
    | _ => False) (vals es)) E := by
  unfold sPar2
  rw [Wp.bind]; refine Wp.ext fun es ms1 => ?_
  rw [run_fun]
  match es with
  | [] => simp
  | [.val d1] => simp
  | [.val d1, .val d2] =>
    simp only [vals_cons, vals_nil, Option.map_some, opK_some]
    cases setS i (.val d1) ms1 with
    | none => simp
    | some ms2 => cases h : setS j (.val d2) ms2 <;> simp [h]
  | .val d1 :: .val d2 :: e :: es =>
    cases h : vals (e :: es) with
    | none => simp [h]
    | some l =>
      have : l ≠ [] := fun z => by
        subst z
        cases e with
        | val d => simp at h
        | new o => cases h
        | bor o => cases h
      cases l with
      | nil => exact absurd rfl this
      | cons x l => simp [h]
  | .new o :: es => simp [vals]
  | .bor o :: es => simp [vals]
  | .val d1 :: .new o :: es => simp [vals]
  | .val d1 :: .bor o :: es => simp [vals]
end
end Fw
set_option linter.all false
set_option maxRecDepth 100000
namespace Fw
open PySem
@[simp] theorem bLenX_tup {ds : List D} : bLenX [.tup ds] = some (.val (.int (ds.length : Nat))) := rfl
@[simp] theorem bLenX_lst {ds : List D} : bLenX [.lst ds] = some (.val (.int (ds.length : Nat))) := rfl
@[simp] theorem bLenX_dct {ks vs : List D} : bLenX [.dct false ks vs] = some (.val (.int (ks.length : Nat))) := rfl
theorem bLenX_str {z : Str} (h : z.length ≤ 16777216) : bLenX [.str z] = some (.val (.int (z.length : Nat))) := by
  have : bLen [.str z] = some (.val (.int (z.length : Nat))) := if_pos h
  unfold bLenX
  rw [this]
@[simp] theorem bListX_lst {ds : List D} : bListX [.lst ds] = some (.new (.lst ds)) := rfl
@[simp] theorem bListX_tup {ds : List D} : bListX [.tup ds] = some (.new (.lst ds)) := rfl
@[simp] theorem bListX_dct {ks vs : List D} : bListX [.dct false ks vs] = some (.new (.lst ks)) := rfl
@[simp] theorem bDict_dct {ks vs : List D} : bDict [.dct false ks vs] = some (.new (.dic false ks vs)) := rfl
@[simp] theorem bBool_int {i : Int} : bBool [.int i] = some (.val (.bl (i != 0))) := rfl
@[simp] theorem bBool_bl {i : Bool} : bBool [.bl i] = some (.val (.bl i)) := rfl
@[simp] theorem bMin_2 {i j : Int} : bMin [.int i, .int j] = some (.val (.int (if j < i then j else i))) := rfl
theorem bStr_int {i : Int} (h : i.natAbs < 1000000000000) : bStr [.int i] = some (.val (.str (istr i))) := if_pos h
@[simp] theorem intsD_map : ∀ {ns : List Int}, intsD (ns.map .int) = some ns
  | [] => rfl
  | n :: ns => by rw [List.map_cons, intsD, intsD_map]; rfl
@[simp] theorem bSum_ints {ns : List Int} : bSum [.lst (ns.map .int)] = some (.val (.int ns.sum)) := by
  show (intsD (ns.map .int)).map (fun ns => EV.val (.int ns.sum)) = _
  rw [intsD_map]; rfl
@[simp] theorem gDigit_str {z : Str} : gDigit (.str z) = some (.val (.bl (Txt.isdigit z))) := rfl
/-! ### isinstance, of dicts too -/
section
open L2
variable {X : Cx}
def tyX : D → Option String
  | .dct false _ _ => some "dict"
  | d => tyD d
theorem tyX_ok {K : PySem.W.Frag} {H : Hp} {d : D} {v : V} {t : String} (r : RdAt K H d v) (e : tyX d = some t) : TyX K H v (.type t) := by
  cases d with
  | dct b ks vs =>
    cases b with
    | true => cases e
    | false =>
      cases e
      obtain ⟨a, u, xs, rfl, hu, dd, _⟩ := r
      obtain ⟨kvs, rfl, _, _⟩ := dd
      rcases hu with h | ⟨o, h⟩
      · exact .base (.dK h)
      · exact .fDict h
  | _ => exact tyD_ok r e
def bIsIX : List D → Option EV
  | [d, .ty n] => (match tyX d with
    | some t => (kitB t n).map fun b => .val (.bl b)
    | none => none)
  | _ => none
theorem c_isiX : CallB X (.builtin "isinstance") bIsIX := .of call_isi fun H xs ds ev Q rx hg q => by
  unfold bIsIX at hg
  split at hg
  · rename_i d n
    split at hg
    · rename_i t ht
      obtain ⟨b, hb, e⟩ := Option.map_eq_some_iff.mp hg
      subst e
      obtain ⟨x, y, rfl, r1, r2⟩ := pair2 rx
      rw [rdTy r2]
      exact ⟨x, .ty n, .type t, .type n, b, rfl, .ty n, tyX_ok r1 ht, kit_ty hb, q _ H (.refl H) roBl⟩
    · cases hg
  · cases hg
end
@[simp] theorem isx_non_str : bIsIX [.non, .ty "str"] = some (.val (.bl false)) := rfl
@[simp] theorem isx_non_tuple : bIsIX [.non, .ty "tuple"] = some (.val (.bl false)) := rfl
@[simp] theorem isx_non_int : bIsIX [.non, .ty "int"] = some (.val (.bl false)) := rfl
@[simp] theorem isx_non_bool : bIsIX [.non, .ty "bool"] = some (.val (.bl false)) := rfl
@[simp] theorem isx_non_list : bIsIX [.non, .ty "list"] = some (.val (.bl false)) := rfl
@[simp] theorem isx_non_dict : bIsIX [.non, .ty "dict"] = some (.val (.bl false)) := rfl
@[simp] theorem isx_bl_str {b : Bool} : bIsIX [.bl b, .ty "str"] = some (.val (.bl false)) := rfl
@[simp] theorem isx_bl_tuple {b : Bool} : bIsIX [.bl b, .ty "tuple"] = some (.val (.bl false)) := rfl
@[simp] theorem isx_bl_int {b : Bool} : bIsIX [.bl b, .ty "int"] = some (.val (.bl true)) := rfl
@[simp] theorem isx_bl_bool {b : Bool} : bIsIX [.bl b, .ty "bool"] = some (.val (.bl true)) := rfl
@[simp] theorem isx_bl_list {b : Bool} : bIsIX [.bl b, .ty "list"] = some (.val (.bl false)) := rfl
@[simp] theorem isx_bl_dict {b : Bool} : bIsIX [.bl b, .ty "dict"] = some (.val (.bl false)) := rfl
@[simp] theorem isx_int_str {i : Int} : bIsIX [.int i, .ty "str"] = some (.val (.bl false)) := rfl
@[simp] theorem isx_int_tuple {i : Int} : bIsIX [.int i, .ty "tuple"] = some (.val (.bl false)) := rfl
@[simp] theorem isx_int_int {i : Int} : bIsIX [.int i, .ty "int"] = some (.val (.bl true)) := rfl
@[simp] theorem isx_int_bool {i : Int} : bIsIX [.int i, .ty "bool"] = some (.val (.bl false)) := rfl
@[simp] theorem isx_int_list {i : Int} : bIsIX [.int i, .ty "list"] = some (.val (.bl false)) := rfl
@[simp] theorem isx_int_dict {i : Int} : bIsIX [.int i, .ty "dict"] = some (.val (.bl false)) := rfl
@[simp] theorem isx_str_str {z : Str} : bIsIX [.str z, .ty "str"] = some (.val (.bl true)) := rfl
@[simp] theorem isx_str_tuple {z : Str} : bIsIX [.str z, .ty "tuple"] = some (.val (.bl false)) := rfl
@[simp] theorem isx_str_int {z : Str} : bIsIX [.str z, .ty "int"] = some (.val (.bl false)) := rfl
@[simp] theorem isx_str_bool {z : Str} : bIsIX [.str z, .ty "bool"] = some (.val (.bl false)) := rfl
@[simp] theorem isx_str_list {z : Str} : bIsIX [.str z, .ty "list"] = some (.val (.bl false)) := rfl
@[simp] theorem isx_str_dict {z : Str} : bIsIX [.str z, .ty "dict"] = some (.val (.bl false)) := rfl
@[simp] theorem isx_tup_str {ds : List D} : bIsIX [.tup ds, .ty "str"] = some (.val (.bl false)) := rfl
@[simp] theorem isx_tup_tuple {ds : List D} : bIsIX [.tup ds, .ty "tuple"] = some (.val (.bl true)) := rfl
@[simp] theorem isx_tup_int {ds : List D} : bIsIX [.tup ds, .ty "int"] = some (.val (.bl false)) := rfl
@[simp] theorem isx_tup_bool {ds : List D} : bIsIX [.tup ds, .ty "bool"] = some (.val (.bl false)) := rfl
@[simp] theorem isx_tup_list {ds : List D} : bIsIX [.tup ds, .ty "list"] = some (.val (.bl false)) := rfl
@[simp] theorem isx_tup_dict {ds : List D} : bIsIX [.tup ds, .ty "dict"] = some (.val (.bl false)) := rfl
@[simp] theorem isx_ktp_str {ds : List D} : bIsIX [.ktp ds, .ty "str"] = some (.val (.bl false)) := rfl
@[simp] theorem isx_ktp_tuple {ds : List D} : bIsIX [.ktp ds, .ty "tuple"] = some (.val (.bl true)) := rfl
@[simp] theorem isx_ktp_int {ds : List D} : bIsIX [.ktp ds, .ty "int"] = some (.val (.bl false)) := rfl
@[simp] theorem isx_ktp_bool {ds : List D} : bIsIX [.ktp ds, .ty "bool"] = some (.val (.bl false)) := rfl
@[simp] theorem isx_ktp_list {ds : List D} : bIsIX [.ktp ds, .ty "list"] = some (.val (.bl false)) := rfl
@[simp] theorem isx_ktp_dict {ds : List D} : bIsIX [.ktp ds, .ty "dict"] = some (.val (.bl false)) := rfl
@[simp] theorem isx_lst_str {ds : List D} : bIsIX [.lst ds, .ty "str"] = some (.val (.bl false)) := rfl
@[simp] theorem isx_lst_tuple {ds : List D} : bIsIX [.lst ds, .ty "tuple"] = some (.val (.bl false)) := rfl
@[simp] theorem isx_lst_int {ds : List D} : bIsIX [.lst ds, .ty "int"] = some (.val (.bl false)) := rfl
@[simp] theorem isx_lst_bool {ds : List D} : bIsIX [.lst ds, .ty "bool"] = some (.val (.bl false)) := rfl
@[simp] theorem isx_lst_list {ds : List D} : bIsIX [.lst ds, .ty "list"] = some (.val (.bl true)) := rfl
@[simp] theorem isx_lst_dict {ds : List D} : bIsIX [.lst ds, .ty "dict"] = some (.val (.bl false)) := rfl
@[simp] theorem isx_kls_str {ds : List D} : bIsIX [.kls ds, .ty "str"] = some (.val (.bl false)) := rfl
@[simp] theorem isx_kls_tuple {ds : List D} : bIsIX [.kls ds, .ty "tuple"] = some (.val (.bl false)) := rfl
@[simp] theorem isx_kls_int {ds : List D} : bIsIX [.kls ds, .ty "int"] = some (.val (.bl false)) := rfl
@[simp] theorem isx_kls_bool {ds : List D} : bIsIX [.kls ds, .ty "bool"] = some (.val (.bl false)) := rfl
@[simp] theorem isx_kls_list {ds : List D} : bIsIX [.kls ds, .ty "list"] = some (.val (.bl true)) := rfl
@[simp] theorem isx_kls_dict {ds : List D} : bIsIX [.kls ds, .ty "dict"] = some (.val (.bl false)) := rfl
@[simp] theorem isx_dct_str {ks vs : List D} : bIsIX [.dct false ks vs, .ty "str"] = some (.val (.bl false)) := rfl
@[simp] theorem isx_dct_tuple {ks vs : List D} : bIsIX [.dct false ks vs, .ty "tuple"] = some (.val (.bl false)) := rfl
@[simp] theorem isx_dct_int {ks vs : List D} : bIsIX [.dct false ks vs, .ty "int"] = some (.val (.bl false)) := rfl
@[simp] theorem isx_dct_bool {ks vs : List D} : bIsIX [.dct false ks vs, .ty "bool"] = some (.val (.bl false)) := rfl
@[simp] theorem isx_dct_list {ks vs : List D} : bIsIX [.dct false ks vs, .ty "list"] = some (.val (.bl false)) := rfl
@[simp] theorem isx_dct_dict {ks vs : List D} : bIsIX [.dct false ks vs, .ty "dict"] = some (.val (.bl true)) := rfl
end Fw
set_option Elab.async false
set_option linter.all false
set_option maxRecDepth 100000
set_option maxHeartbeats 4000000
/-! Fx D: list(range(..)), insert -/
namespace Fw
open PySem L2
section
variable {X : Cx} {W : WX} {a b e : Expr} {ma mb m : M EV} {p p2 pos pos2 : Pos}
theorem reps_rg {K : PySem.W.Frag} {H : Hp} {lo hi : Int} : Reps K H (rgL lo (hi - lo).toNat) (rgV lo hi) := by
  have e1 : rgL lo (hi - lo).toNat = ((List.range (hi - lo).toNat).map fun i => lo + (i : Nat)).map D.int := by rw [List.map_map]; rfl
  have e2 : rgV lo hi = ((List.range (hi - lo).toNat).map fun i => lo + (i : Nat)).map V.int := by rw [List.map_map]; rfl
  rw [e1, e2]
  exact reps_ints
noncomputable def mLR1 (a : M EV) : M EV := (mI a).bind fun j => M.lift (@ite _ (-16777216 ≤ j ∧ j ≤ 16777216) (Classical.propDecidable _) (some (.new (.lst (rgL 0 j.toNat)))) none)
noncomputable def mLR2 (a b : M EV) : M EV := (mI a).bind fun i => (mI b).bind fun j => M.lift (@ite _ (-16777216 ≤ i ∧ i ≤ 16777216 ∧ -16777216 ≤ j ∧ j ≤ 16777216 ∧ j - i ≤ 16777216) (Classical.propDecidable _) (some (.new (.lst (rgL i (j - i).toNat)))) none)
theorem xLR1 (hl : X.mg "list" = none) (hr : X.mg "range" = none) (ha : ME X W a ma) (hc : X.calm = true := by rfl) (hg : Gl X "list" := by rfl) (hgr : Gl X "range" := by rfl) (na : starEach [a] X.env = (false, eval a X.env) :: starEach [] X.env := by rfl) (na2 : starEach [.Call (.Name "range" p2) [a] [] pos2] X.env = (false, eval (.Call (.Name "range" p2) [a] [] pos2) X.env) :: starEach [] X.env := by rfl) :
    ME X W (.Call (.Name "list" p) [.Call (.Name "range" p2) [a] [] pos2] [] pos) (mLR1 ma) := by
  refine PE.imp (pe_listRg hc hg hl (prg_1 hgr hr ha na) na2) fun σ H Q q => ?_
  obtain ⟨ms, G, h⟩ := q
  refine tM_int G h (fun x ms' z => z) fun j ms1 h1 H1 p1 => ?_
  obtain ⟨r, e1, k⟩ := Run.lift h1
  split at e1
  · rename_i c
    cases e1
    refine ⟨j, rfl, ⟨by omega, by omega, by omega, by omega, by omega⟩, fun q hq => ?_⟩
    have s := same_new (o := HO.lst (rgV 0 j)) hq
    have ro : ResOk X.K H1 (upd H1 q (.lst (rgV 0 j))) (.ref q) (.new (.lst (rgL 0 j.toNat))) := ⟨q, rfl, hq, _, upd_same, by
      have := reps_rg (K := X.K) (H := upd H1 q (.lst (rgV 0 j))) (lo := 0) (hi := j)
      rw [Int.sub_zero] at this
      exact this⟩
    exact k _ _ (p1.trans (PostE.same p1.good s)) ((ro.ev p1.good).early p1.live)
  · cases e1
theorem xLR2 (hl : X.mg "list" = none) (hr : X.mg "range" = none) (ha : ME X W a ma) (hb : ME X W b mb) (hc : X.calm = true := by rfl) (hg : Gl X "list" := by rfl) (hgr : Gl X "range" := by rfl) (na : starEach [a, b] X.env = (false, eval a X.env) :: starEach [b] X.env := by rfl) (nb : starEach [b] X.env = (false, eval b X.env) :: starEach [] X.env := by rfl) (hp : (backTo pos2 (starEach [b] X.env)).any (·.1) = false := by rfl)
    (na2 : starEach [.Call (.Name "range" p2) [a, b] [] pos2] X.env = (false, eval (.Call (.Name "range" p2) [a, b] [] pos2) X.env) :: starEach [] X.env := by rfl) :
    ME X W (.Call (.Name "list" p) [.Call (.Name "range" p2) [a, b] [] pos2] [] pos) (mLR2 ma mb) := by
  refine PE.imp (pe_listRg hc hg hl (prg_2 hgr hr ha hb na nb hp) na2) fun σ H Q q => ?_
  obtain ⟨ms, G, h⟩ := q
  refine tM_int G h (fun x ms' z => z) fun i ms0 h0 H0 p0 => ?_
  refine tM_int p0.good h0 (fun x ms' z cls d H' p => z cls d H' (p0.trans p)) fun j ms1 h1 H1 p01 => ?_
  have p1 := p0.trans p01
  obtain ⟨r, e1, k⟩ := Run.lift h1
  split at e1
  · rename_i c
    cases e1
    refine ⟨i, j, rfl, rfl, ⟨by omega, by omega, by omega, by omega, by omega⟩, fun q hq => ?_⟩
    have s := same_new (o := HO.lst (rgV i j)) hq
    have ro : ResOk X.K H1 (upd H1 q (.lst (rgV i j))) (.ref q) (.new (.lst (rgL i (j - i).toNat))) := ⟨q, rfl, hq, _, upd_same, reps_rg⟩
    exact k _ _ (p1.trans (PostE.same p1.good s)) ((ro.ev p1.good).early p1.live)
  · cases e1
end
section
variable {ms : MS} {E : EX → MS → Prop} {Q : EV → MS → Prop} {a b m : M EV}
@[simp] theorem run_lr1 : Wp (mLR1 m) ms Q E = Wp m ms (fun ev ms1 => inK (fun j => (-16777216 ≤ j ∧ j ≤ 16777216) ∧ Q (.new (.lst (rgL 0 j.toNat))) ms1) ev) E := by
  unfold mLR1
  rw [Wp.bind, run_mI]; refine Wp.ext fun x ms1 => ?_
  cases x with
  | new o => rfl
  | bor o => rfl
  | val d =>
    cases d with
    | int i =>
      simp only [inK_int, run_lift]
      by_cases h : -16777216 ≤ i ∧ i ≤ 16777216
      · rw [if_pos h]; simp [h]
      · rw [if_neg h]; simp [h]
    | _ => rfl
end
end Fw
set_option Elab.async false
set_option linter.all false
set_option maxRecDepth 100000
set_option maxHeartbeats 4000000
/-! Fx E: comprehensions with two generators -/
namespace Fw
open PySem L2
noncomputable def compL2 (vs : List Nat) (f : D → MS → Option MS) (t : M Bool) (mi1 : M (List D)) (vs1 : List Nat) (f1 : D → MS → Option MS) (t1 : M Bool) (e : M EV) : List D → List D → M (List D)
  | [], acc => M.pure acc
  | d :: ds, acc => fun ms => match f d ms with
    | none => none
    | some ms1 => (t.bind fun b => if b = true then mi1.bind (fun ds1 ms2 => @ite _ (acc.length + ds1.length ≤ 16777216) (Classical.propDecidable _) (match compL vs1 f1 t1 e ds1 acc (wipeM ms2 vs1) with
        | some (.ok acc' ms3) => compL2 vs f t mi1 vs1 f1 t1 e ds acc' (wipeM ms3 vs)
        | _ => none) none) else fun ms2 => compL2 vs f t mi1 vs1 f1 t1 e ds acc (wipeM ms2 vs)) ms1
noncomputable def mComp2 (it : M (List D)) (vs : List Nat) (f : D → MS → Option MS) (t : M Bool) (mi1 : M (List D)) (vs1 : List Nat) (f1 : D → MS → Option MS) (t1 : M Bool) (e : M EV) : M EV := it.bind fun ds ms =>
  if noOwn ms vs = true then (match compL2 vs f t mi1 vs1 f1 t1 e ds [] (wipeM ms vs) with
    | some (.ok acc ms') => some (.ok (.new (.lst acc)) (backM ms ms' vs))
    | _ => none) else none
open Classical in
/-- a heap without one address -/
noncomputable def lessH (H : Hp) (D : Addr) : Hp := fun a => if a = D then none else H a
theorem lessH_self {H : Hp} {D : Addr} : lessH H D D = none := if_pos rfl
theorem lessH_ne {H : Hp} {D a : Addr} (h : a ≠ D) : lessH H D a = H a := if_neg h
section
variable {K : PySem.W.Frag}
theorem post_less {ms : MS} {σ : St} {H : Hp} {D : Addr} (g : Good K ms σ H) : PostE K ms σ (lessH H D) ms H := by
  refine ⟨g, fun b o h _ => ?_, fun b h => ?_, fun _ h => h, fun _ o h => ⟨o, h⟩⟩
  · by_cases c : b = D
    · subst c; rw [lessH_self] at h; cases h
    · rwa [lessH_ne c] at h
  · by_cases c : b = D
    · subst c; exact absurd lessH_self h
    · rwa [lessH_ne c] at h
theorem wipe2 {msb msw ms3 ms5 msF : MS} {σw σ2 : St} {H1 H3 H5 H : Hp} {D : Addr} {vs vs1 : List Nat} (hv : ∀ i ∈ vs1, i ∈ vs) (hunb : ∀ (i : Nat) s, i ∈ vs → msb[i]? = some s → s = .unk) (pw3 : PostE K msb σw H1 msw H3) (s2 : PostS K msw σw H3 ms3 σ2 H3) (off : OffS vs msw σw ms3 σ2) (p35 : PostE K ms3 σ2 H3 ms5 H5)
    (pin : PostE K (wipeM ms5 vs1) (L2.wipe σ2 vs1) (lessH H5 D) msF H) (hD : H1 D = none) (ew : L2.wipe σ2 vs = σw) : PostE K msb σw H1 (wipeM msF vs) H := by
  have P := (pw3.st.trans s2).trans p35.st
  have n1 : ∀ {i : Nat}, i ∉ vs → i ∉ vs1 := fun h z => h (hv _ z)
  have e2 : L2.wipe (L2.wipe σ2 vs1) vs = σw := by
    rw [← ew]
    exact wipe_off (wipe_length _ _) fun j hj => wipe_at (n1 hj)
  have g := pin.good.wipe vs
  rw [e2] at g
  have nD : ∀ {b : Addr}, H1 b ≠ none → b ≠ D := fun h z => by subst z; exact h hD
  refine ⟨g, fun b o h n => ?_, fun b h => ?_, fun b z => ?_, fun i o h => ?_⟩
  · have hb := nD (b := b) (by rw [h]; exact fun z => nomatch z)
    refine pin.keep b o (by rw [lessH_ne hb]; exact P.keep b o h n) fun z => ?_
    rcases P.ow b z.wipe with y | y
    · exact n y
    · rw [h] at y; cases y
  · exact pin.live b (by rw [lessH_ne (nD h)]; exact P.live b h)
  · obtain ⟨i, l, o, h1, h2⟩ := z
    rcases wipeM_at h1 with x | ⟨x1, x2⟩
    · cases x
    · have h3 : (L2.wipe σ2 vs1)[i]? = some (some (.ref b)) := by
        rw [wipe_at (n1 x1), ← wipe_at (σ := σ2) x1, ew]; exact h2
      obtain ⟨j, l', o', k1, k2⟩ := p35.ow b (pin.ow b ⟨i, l, o, x2, h3⟩).wipe
      by_cases hj : j ∈ vs
      · exact absurd k1 (off.2.1 j l' o' hj)
      · exact pw3.ow b ⟨j, l', o', by rw [← (off.1 j hj).2]; exact k1, by rw [← (off.1 j hj).1]; exact k2⟩
  · have ni : i ∉ vs := fun y => by have := hunb i _ y h; cases this
    obtain ⟨⟨o', h'⟩, _⟩ := P.lent i o h
    obtain ⟨o2, h2⟩ := pin.lent i o' (by rw [wipeM_out (n1 ni)]; exact h')
    exact ⟨o2, by rw [wipeM_out ni]; exact h2⟩
end
section
variable {X : Cx} {W : WX} {vs vs1 : List Nat} {m : M EV} {t t1 : M Bool} {mi mi1 : M (List D)} {f f1 : D → MS → Option MS}
theorem inner_core {σ2 : St} {H4 : Hp} {D : Addr} {J : It} {ds accS accF : List Fw.D} {xsS : List V} {ms5 msF : MS} (Gw : Good X.K (wipeM ms5 vs1) (L2.wipe σ2 vs1) H4) (noD : ¬ Ow (wipeM ms5 vs1) (L2.wipe σ2 vs1) D) (eD0 : H4 D = some (.lst xsS)) (ra0 : Reps X.K H4 accS xsS) (hlen : accS.length + ds.length ≤ sizeLine) (io : ItOk X.K H4 J ds)
    (hcl : compL vs1 f1 t1 m ds accS (wipeM ms5 vs1) = some (.ok accF msF)) {Nx : Hp → Prop}
    (hNx : ∀ H xs, PostE X.K (wipeM ms5 vs1) (L2.wipe σ2 vs1) (lessH H4 D) msF H → Kept H4 H → H D = some (.lst xs) → Reps X.K H accF xs → Nx H) :
    ∃ W1 : Nat → Nat → Hp → Prop, (∃ m, W1 0 m H4) ∧ ∀ j k H, W1 j k H → (J.stop j H ∧ Nx H) ∨ (J.go j H ∧ ∃ Nx1 : Hp → Prop, (∀ H', Nx1 H' → ∃ k', k' < k ∧ W1 (j + 1) k' H') ∧ ∀ x H', J.yld j H x H' → tMG X.K vs1 f1 x (L2.wipe σ2 vs1) H' fun σ3 H5 => L2.wipe σ3 vs1 = L2.wipe σ2 vs1 ∧ tMT X.K W0 t1 σ3 H5 fun b H6 =>
      if b = true then tM X.K W0 m σ3 H6 fun y H7 => ∃ acc, H7 D = some (.lst acc) ∧ acc.length < sizeLine ∧ Nx1 (upd H7 D (.lst (acc ++ [y]))) else Nx1 H6) := by
  obtain ⟨hlen', io⟩ := io
  have st0 := post_less (D := D) Gw
  refine ⟨fun i k H' => k = ds.length - i ∧ i ≤ ds.length ∧ ∃ msw acc xs, PostE X.K (wipeM ms5 vs1) (L2.wipe σ2 vs1) (lessH H4 D) msw H' ∧ (∀ (j : Nat) s, j ∈ vs1 → msw[j]? = some s → s = .unk) ∧ Kept H4 H' ∧ H' D = some (.lst xs) ∧ Reps X.K H' acc xs ∧ acc.length ≤ accS.length + i ∧
    compL vs1 f1 t1 m (ds.drop i) acc msw = some (.ok accF msF), ⟨ds.length, by simp, Nat.zero_le _, wipeM ms5 vs1, accS, xsS, st0, fun j s hj e => wipeM_self hj e, .same (Same.refl _), eD0, ra0, by simp, hcl⟩, ?_⟩
  rintro i k H2 ⟨rfl, hi, msw, acc, xs, pw, hun, kk, eD, ra, hal, hc⟩
  have noDw : ¬ Ow msw (L2.wipe σ2 vs1) D := fun z => noD (pw.ow D z)
  by_cases hlt : i < ds.length
  · right
    have hd : ds[i]? = some ds[i] := List.getElem?_eq_getElem hlt
    obtain ⟨go, yl⟩ := (io H2 kk).1 i _ hd
    refine ⟨go, fun H' => ∃ msw acc xs, PostE X.K (wipeM ms5 vs1) (L2.wipe σ2 vs1) (lessH H4 D) msw H' ∧ (∀ (j : Nat) s, j ∈ vs1 → msw[j]? = some s → s = .unk) ∧ Kept H4 H' ∧ H' D = some (.lst xs) ∧ Reps X.K H' acc xs ∧ acc.length ≤ accS.length + (i + 1) ∧
      compL vs1 f1 t1 m (ds.drop (i + 1)) acc msw = some (.ok accF msF), fun H' z => ⟨ds.length - (i + 1), by omega, rfl, by omega, z⟩, fun x H3 hy => ?_⟩
    obtain ⟨sm, rx⟩ := yl x H3 hy
    have pw3 := pw.trans (PostE.same pw.good sm)
    have kk3 := kk.trans (.same sm)
    have eD3 : H3 D = some (.lst xs) := sm _ _ eD
    have ra3 := Reps.mono (.same sm) _ _ ra
    rw [List.drop_eq_getElem_cons hlt] at hc
    have hr : Run (compL vs1 f1 t1 m (ds[i] :: ds.drop (i + 1)) acc) msw (fun a z => a = accF ∧ z = msF) (fun _ _ => False) := by
      unfold Run; rw [hc]; exact ⟨rfl, rfl⟩
    unfold compL at hr
    cases hf : f1 ds[i] msw with
    | none => simp only [Run, hf] at hr
    | some ms3 =>
      have h3 : Run (t1.bind fun b => if b = true then m.bind (fun ev ms2 => match ev with
          | .val y => compL vs1 f1 t1 m (ds.drop (i + 1)) (acc ++ [y]) (wipeM ms2 vs1)
          | _ => none) else fun ms2 => compL vs1 f1 t1 m (ds.drop (i + 1)) acc (wipeM ms2 vs1)) ms3 (fun a z => a = accF ∧ z = msF) (fun _ _ => False) := by
        simp only [Run, hf] at hr ⊢
        exact hr
      refine ⟨ds[i], msw, ms3, pw3.good, rx, hf, fun σ3 s2 off => ?_⟩
      have ew : L2.wipe σ3 vs1 = L2.wipe σ2 vs1 := by
        rw [wipe_off (σ := L2.wipe σ2 vs1) (σ' := σ3) (vs := vs1) off.2.2 fun j hj => (off.1 j hj).1, wipe_wipe]
      refine ⟨ew, ?_⟩
      refine tMT_bind s2.good h3 (fun x ms' z => z.elim) fun b ms4 h4 H4' p4 => ?_
      have no3 : ¬ Ow ms3 σ3 D := fun z => by
        rcases s2.ow D z with y | y
        · exact noDw y
        · rw [eD3] at y; cases y
      cases b with
      | false =>
        refine iteF ?_
        have h5 : Run (compL vs1 f1 t1 m (ds.drop (i + 1)) acc) (wipeM ms4 vs1) (fun a z => a = accF ∧ z = msF) (fun _ _ => False) := h4
        have pt := PostS.wipe hun s2 off p4 (ew.trans rfl)
        refine ⟨wipeM ms4 vs1, acc, xs, pw3.trans pt, fun j s hj e => wipeM_self hj e, kk3.trans (p4.kept s2.good), p4.keep D _ eD3 no3, Reps.mono (p4.kept s2.good) _ _ ra3, by omega, ?_⟩
        unfold Run at h5
        cases q : compL vs1 f1 t1 m (ds.drop (i + 1)) acc (wipeM ms4 vs1) with
        | none => rw [q] at h5; exact h5.elim
        | some r =>
          rw [q] at h5
          cases r with
          | exc x ms' => exact h5.elim
          | ok a z =>
            obtain ⟨e1, e2⟩ := h5
            rw [e1, e2]
      | true =>
        refine iteT ?_
        have h5 : Run (m.bind (fun ev ms2 => match ev with
          | .val y => compL vs1 f1 t1 m (ds.drop (i + 1)) (acc ++ [y]) (wipeM ms2 vs1)
          | _ => none)) ms4 (fun a z => a = accF ∧ z = msF) (fun _ _ => False) := h4
        refine tM_bind p4.good h5 (fun x ms' z => z.elim) fun ev ms5' h6 y H5 p5 o5 => ?_
        cases ev with
        | new o => exact h6.elim
        | bor j => exact h6.elim
        | val yd =>
          have h7 : Run (compL vs1 f1 t1 m (ds.drop (i + 1)) (acc ++ [yd])) (wipeM ms5' vs1) (fun a z => a = accF ∧ z = msF) (fun _ _ => False) := h6
          have p45 := p4.trans p5
          have k45 := p45.kept s2.good
          have eD5 : H5 D = some (.lst xs) := p45.keep D _ eD3 no3
          have ra5 := Reps.mono k45 _ _ ra3
          have pt := PostS.wipe hun s2 off p45 (ew.trans rfl)
          have pw5 := pw3.trans pt
          have no5 : ¬ Ow (wipeM ms5' vs1) (L2.wipe σ2 vs1) D := fun z => noD (pw5.ow D z)
          obtain ⟨pw6, k6⟩ := pw5.tweak (u' := HO.lst (xs ++ [y])) lessH_self no5 eD5 trivial
          refine ⟨xs, eD5, ?_, wipeM ms5' vs1, acc ++ [yd], xs ++ [y], pw6, fun j s hj e => wipeM_self hj e, (kk3.trans k45).trans k6, upd_same, Reps.snoc (Reps.mono k6 _ _ ra5) (Rep.mono k6 _ _ o5), by rw [List.length_append]; have : [yd].length = 1 := rfl; omega, ?_⟩
          · have := ra5.length
            omega
          · unfold Run at h7
            cases q : compL vs1 f1 t1 m (ds.drop (i + 1)) (acc ++ [yd]) (wipeM ms5' vs1) with
            | none => rw [q] at h7; exact h7.elim
            | some r =>
              rw [q] at h7
              cases r with
              | exc x ms' => exact h7.elim
              | ok a z =>
                obtain ⟨e1, e2⟩ := h7
                rw [e1, e2]
  · left
    have e : i = ds.length := by omega
    subst e
    refine ⟨(io H2 kk).2, ?_⟩
    rw [List.drop_length] at hc
    unfold compL at hc
    have hc' : acc = accF ∧ msw = msF := by
      have z : (some (Res.ok acc msw) : Option (Res (List Fw.D))) = some (.ok accF msF) := hc
      cases z; exact ⟨rfl, rfl⟩
    obtain ⟨rfl, rfl⟩ := hc'
    exact hNx _ _ pw kk eD ra
theorem comp2_core {σ : St} {H : Hp} {Q : VK} {vsA : List Nat} (hA : ∀ i ∈ vsA, i ∈ vs) (hv : ∀ i ∈ vs1, i ∈ vs) (q : tM X.K W (mComp2 mi vs f t mi1 vs1 f1 t1 m) σ H Q) : tLc2 (tMI X.K W mi) (tMG X.K vsA f) (tMT X.K W0 t) (tMI X.K W0 mi1) (tMG X.K vs1 f1) (tMT X.K W0 t1) (tM X.K W0 m) vs vs1 σ H Q := by
  obtain ⟨ms, G, h⟩ := q
  unfold mComp2 at h
  rw [Run.bind] at h
  refine ⟨ms, G, h.mono (fun ds ms1 h1 J H1 p1 io => ?_) fun x ms' z => z⟩
  obtain ⟨hlen, io⟩ := io
  intro D hD
  by_cases hno : noOwn ms1 vs = true
  case neg =>
    simp only [Run, hno] at h1
    exact h1.elim
  cases hcl : compL2 vs f t mi1 vs1 f1 t1 m ds [] (wipeM ms1 vs) with
  | none => simp only [Run, if_pos hno, hcl] at h1
  | some r =>
    cases r with
    | exc x ms' => simp only [Run, if_pos hno, hcl] at h1
    | ok accF msF =>
      simp only [Run, if_pos hno, hcl] at h1
      have noD : ¬ Ow ms1 σ D := Ow.live p1.good hD
      have Gw := p1.good.wipe vs
      have st0 := PostE.same Gw (same_new (o := HO.lst []) hD)
      have hunb : ∀ (j : Nat) s, j ∈ vs → (wipeM ms1 vs)[j]? = some s → s = .unk := fun j s hj e => wipeM_self hj e
      refine ⟨fun i k H' => k = ds.length - i ∧ i ≤ ds.length ∧ ∃ msw acc xs, PostE X.K (wipeM ms1 vs) (L2.wipe σ vs) H1 msw H' ∧ (∀ (j : Nat) s, j ∈ vs → msw[j]? = some s → s = .unk) ∧ Kept H1 H' ∧ H' D = some (.lst xs) ∧ Reps X.K H' acc xs ∧
        compL2 vs f t mi1 vs1 f1 t1 m (ds.drop i) acc msw = some (.ok accF msF), ⟨ds.length, by simp, Nat.zero_le _, wipeM ms1 vs, [], [], st0, hunb, .same (same_new hD), upd_same, by rw [Reps], hcl⟩, ?_⟩
      rintro i k H2 ⟨rfl, hi, msw, acc, xs, pw, hun, kk, eD, ra, hc⟩
      have noDw : ¬ Ow msw (L2.wipe σ vs) D := fun z => noD (pw.ow D z).wipe
      by_cases hlt : i < ds.length
      · right
        have hd : ds[i]? = some ds[i] := List.getElem?_eq_getElem hlt
        obtain ⟨go, yl⟩ := (io H2 kk).1 i _ hd
        refine ⟨go, fun H' => ∃ msw acc xs, PostE X.K (wipeM ms1 vs) (L2.wipe σ vs) H1 msw H' ∧ (∀ (j : Nat) s, j ∈ vs → msw[j]? = some s → s = .unk) ∧ Kept H1 H' ∧ H' D = some (.lst xs) ∧ Reps X.K H' acc xs ∧
          compL2 vs f t mi1 vs1 f1 t1 m (ds.drop (i + 1)) acc msw = some (.ok accF msF), fun H' z => ⟨ds.length - (i + 1), by omega, rfl, by omega, z⟩, fun x H3 hy => ?_⟩
        obtain ⟨sm, rx⟩ := yl x H3 hy
        have pw3 := pw.trans (PostE.same pw.good sm)
        have kk3 := kk.trans (.same sm)
        have eD3 : H3 D = some (.lst xs) := sm _ _ eD
        have ra3 := Reps.mono (.same sm) _ _ ra
        rw [List.drop_eq_getElem_cons hlt] at hc
        have hr : Run (compL2 vs f t mi1 vs1 f1 t1 m (ds[i] :: ds.drop (i + 1)) acc) msw (fun a z => a = accF ∧ z = msF) (fun _ _ => False) := by
          unfold Run; rw [hc]; exact ⟨rfl, rfl⟩
        unfold compL2 at hr
        cases hf : f ds[i] msw with
        | none => simp only [Run, hf] at hr
        | some ms3 =>
          have h3 : Run (t.bind fun b => if b = true then mi1.bind (fun ds1 ms2 => @ite _ (acc.length + ds1.length ≤ 16777216) (Classical.propDecidable _) (match compL vs1 f1 t1 m ds1 acc (wipeM ms2 vs1) with
              | some (.ok acc' ms3) => compL2 vs f t mi1 vs1 f1 t1 m (ds.drop (i + 1)) acc' (wipeM ms3 vs)
              | _ => none) none) else fun ms2 => compL2 vs f t mi1 vs1 f1 t1 m (ds.drop (i + 1)) acc (wipeM ms2 vs)) ms3 (fun a z => a = accF ∧ z = msF) (fun _ _ => False) := by
            simp only [Run, hf] at hr ⊢
            exact hr
          refine ⟨ds[i], msw, ms3, pw3.good, rx, hf, fun σ2 s2 offA => ?_⟩
          have off : OffS vs msw (L2.wipe σ vs) ms3 σ2 := by
            refine ⟨fun j hj => offA.1 j fun z => hj (hA j z), fun j l o hj e => ?_, offA.2.2⟩
            by_cases hjA : j ∈ vsA
            · exact offA.2.1 j l o hjA e
            · rw [(offA.1 j hjA).2] at e
              have := hun j _ hj e
              cases this
          have ew : L2.wipe σ2 vs = L2.wipe σ vs := by
            rw [wipe_off (σ := L2.wipe σ vs) (σ' := σ2) (vs := vs) off.2.2 fun j hj => (off.1 j hj).1, wipe_wipe]
          refine ⟨ew, ?_⟩
          refine tMT_bind s2.good h3 (fun x ms' z => z.elim) fun b ms4 h4 H4 p4 => ?_
          have no3 : ¬ Ow ms3 σ2 D := fun z => by
            rcases s2.ow D z with y | y
            · exact noDw y
            · rw [eD3] at y; cases y
          cases b with
          | false =>
            refine iteF ?_
            have h5 : Run (compL2 vs f t mi1 vs1 f1 t1 m (ds.drop (i + 1)) acc) (wipeM ms4 vs) (fun a z => a = accF ∧ z = msF) (fun _ _ => False) := h4
            have pt := PostS.wipe hun s2 off p4 (ew.trans rfl)
            refine ⟨wipeM ms4 vs, acc, xs, pw3.trans pt, fun j s hj e => wipeM_self hj e, kk3.trans (p4.kept s2.good), p4.keep D _ eD3 no3, Reps.mono (p4.kept s2.good) _ _ ra3, ?_⟩
            unfold Run at h5
            cases q : compL2 vs f t mi1 vs1 f1 t1 m (ds.drop (i + 1)) acc (wipeM ms4 vs) with
            | none => rw [q] at h5; exact h5.elim
            | some r =>
              rw [q] at h5
              cases r with
              | exc x ms' => exact h5.elim
              | ok a z =>
                obtain ⟨e1, e2⟩ := h5
                rw [e1, e2]
          | true =>
            refine iteT ?_
            have h5 : Run (mi1.bind (fun ds1 ms2 => @ite _ (acc.length + ds1.length ≤ 16777216) (Classical.propDecidable _) (match compL vs1 f1 t1 m ds1 acc (wipeM ms2 vs1) with
              | some (.ok acc' ms3) => compL2 vs f t mi1 vs1 f1 t1 m (ds.drop (i + 1)) acc' (wipeM ms3 vs)
              | _ => none) none)) ms4 (fun a z => a = accF ∧ z = msF) (fun _ _ => False) := h4
            rw [Run.bind] at h5
            refine ⟨ms4, p4.good, h5.mono (fun ds1 ms5 h6 J1 H5 p5 io1 => ?_) fun x ms' z => z.elim⟩
            have p45 := p4.trans p5
            have k45 := p45.kept s2.good
            have eD5 : H5 D = some (.lst xs) := p45.keep D _ eD3 no3
            have ra5 := Reps.mono k45 _ _ ra3
            have no5 : ¬ Ow (wipeM ms5 vs1) (L2.wipe σ2 vs1) D := fun z => no3 (p45.ow D z.wipe)
            by_cases hb : acc.length + ds1.length ≤ 16777216
            case neg =>
              simp only [Run, if_neg hb] at h6
            cases hci : compL vs1 f1 t1 m ds1 acc (wipeM ms5 vs1) with
            | none => simp only [Run, if_pos hb, hci] at h6
            | some r =>
              cases r with
              | exc x ms' => simp only [Run, if_pos hb, hci] at h6
              | ok acc' ms6 =>
                simp only [if_pos hb, hci] at h6
                have h7 : Run (compL2 vs f t mi1 vs1 f1 t1 m (ds.drop (i + 1)) acc') (wipeM ms6 vs) (fun a z => a = accF ∧ z = msF) (fun _ _ => False) := by
                  simp only [Run, if_pos hb, hci] at h6 ⊢
                  exact h6
                refine inner_core (p5.good.wipe vs1) no5 eD5 ra5 hb io1 hci fun H6 xs6 pin k6 eD6 ra6 => ?_
                refine ⟨wipeM ms6 vs, acc', xs6, wipe2 hv hunb pw3 s2 off p45 pin hD (ew.trans rfl), fun j s hj e => wipeM_self hj e, (kk3.trans k45).trans k6, eD6, ra6, ?_⟩
                unfold Run at h7
                cases q : compL2 vs f t mi1 vs1 f1 t1 m (ds.drop (i + 1)) acc' (wipeM ms6 vs) with
                | none => rw [q] at h7; exact h7.elim
                | some r =>
                  rw [q] at h7
                  cases r with
                  | exc x ms' => exact h7.elim
                  | ok a z =>
                    obtain ⟨e1, e2⟩ := h7
                    rw [e1, e2]
      · left
        have e : i = ds.length := by omega
        subst e
        refine ⟨(io H2 kk).2, ?_⟩
        rw [List.drop_length] at hc
        unfold compL2 at hc
        have hc' : acc = accF ∧ msw = msF := by
          have z : (some (Res.ok acc msw) : Option (Res (List Fw.D))) = some (.ok accF msF) := hc
          cases z; exact ⟨rfl, rfl⟩
        obtain ⟨rfl, rfl⟩ := hc'
        have pb := PostE.back p1.good hno rfl pw hun
        have nb : ¬ Ow (backM ms1 msw vs) σ D := fun z => noD (pb.ow D z)
        refine h1 _ _ (p1.trans pb) ⟨D, rfl, ?_, ⟨xs, eD, ra⟩, nb⟩
        cases q : H D with
        | none => rfl
        | some u => exact absurd hD (p1.live D (by rw [q]; exact fun z => nomatch z))
end
section
variable {X : Cx} {W : WX} {tg iter tg1 iter1 elt : Expr} {ifs ifs1 : List Expr} {scope : Scope} {own : List (Str × Nat)} {vs1 : List Nat} {m : M EV} {t t1 : M Bool} {mi mi1 : M (List D)} {f f1 : D → MS → Option MS} {pos : Pos}
theorem me_comp2 (hc : X.calm = true) (hN : X.N.Nodup) (hi : MI X W tg iter mi) (ok : BlkOk X.N X.env.scope scope own) {vsA : List Nat} (hA : ∀ i ∈ vsA, i ∈ own.map (·.2)) (hv : ∀ i ∈ vs1, i ∈ own.map (·.2)) (hg : InBlk X scope fun Y => MGf Y tg vsA f) (ht : InBlk X scope fun Y => PTs Y ifs (tMT Y.K W0 t))
    (hi1 : InBlk X scope fun Y => MI Y W0 tg1 iter1 mi1) (hg1 : InBlk X scope fun Y => MGf Y tg1 vs1 f1) (ht1 : InBlk X scope fun Y => PTs Y ifs1 (tMT Y.K W0 t1)) (he : InBlk X scope fun Y => ME Y W0 elt m)
    (hs : ∀ x, foldedSetIterable iter X.env x = pure x) (hs1 : ∀ env x, foldedSetIterable iter1 env x = pure x) : ME X W (.ListComp elt [⟨tg, iter, ifs, 0⟩, ⟨tg1, iter1, ifs1, 0⟩] scope pos) (mComp2 mi (own.map (·.2)) f t mi1 vs1 f1 t1 m) :=
  PE.imp (pe_lc2 (g := tMG X.K vsA f) (tt := tMT X.K W0 t) (wi1 := tMI X.K W0 mi1) (g1 := tMG X.K vs1 f1) (tt1 := tMT X.K W0 t1) (te := tM X.K W0 m) hc hN hi ok hv (fun s H C cl fp => hg s H C cl fp) (fun s H C cl fp => ht s H C cl fp) (fun s H C cl fp => hi1 s H C cl fp) (fun s H C cl fp => hg1 s H C cl fp) (fun s H C cl fp => ht1 s H C cl fp) (fun s H C cl fp => he s H C cl fp) hs hs1) fun σ H Q q => comp2_core hA hv q
theorem xL2 (own : List (Str × Nat)) (vsA vs1 : List Nat) (hN : X.N.Nodup) (hi : MI X W tg iter mi) (ok : BlkOk X.N X.env.scope scope own) (hg : InBlk X scope fun Y => MGf Y tg vsA f) (ht : InBlk X scope fun Y => PTs Y ifs (tMT Y.K W0 t))
    (hi1 : InBlk X scope fun Y => MI Y W0 tg1 iter1 mi1) (hg1 : InBlk X scope fun Y => MGf Y tg1 vs1 f1) (ht1 : InBlk X scope fun Y => PTs Y ifs1 (tMT Y.K W0 t1)) (he : InBlk X scope fun Y => ME Y W0 elt m)
    (hA : ∀ i ∈ vsA, i ∈ own.map (·.2) := by decide) (hv : ∀ i ∈ vs1, i ∈ own.map (·.2) := by decide) (hc : X.calm = true := by rfl) (hs : ∀ x, foldedSetIterable iter X.env x = pure x := by intro _; rfl) (hs1 : ∀ env x, foldedSetIterable iter1 env x = pure x := by intro _ _; rfl) : ME X W (.ListComp elt [⟨tg, iter, ifs, 0⟩, ⟨tg1, iter1, ifs1, 0⟩] scope pos) (mComp2 mi (own.map (·.2)) f t mi1 vs1 f1 t1 m) := me_comp2 hc hN hi ok hA hv hg ht hi1 hg1 ht1 he hs hs1
end
end Fw
set_option Elab.async false
set_option linter.all false
set_option maxRecDepth 100000
set_option maxHeartbeats 4000000
/-! Fx F: dicts compared -/
namespace Fw
open PySem L2
def eqKV : List D → List D → List D → List D → Bool
  | k :: ks, v :: vs, ls, ws => (match dFind ls ws k with
    | some y => eqB v y
    | none => false) && eqKV ks vs ls ws
  | _, _, _, _ => true
def eqDict : D → D → Option Bool
  | .dct false ks vs, .dct false ls ws => if vs.all (shD 63) = true ∧ ws.all (shD 63) = true then some (ks.length == ls.length && eqKV ks vs ls ws) else none
  | _, _ => none
def rEqDD (K : PySem.W.Frag) : R2 := fun x y H Q => ∃ d e r, RdAt K H d x ∧ RdAt K H e y ∧ eqDict d e = some r ∧ Q (.bl r) H
def rNeDD (K : PySem.W.Frag) : R2 := fun x y H Q => ∃ d e r, RdAt K H d x ∧ RdAt K H e y ∧ eqDict d e = some r ∧ Q (.bl (!r)) H
section
variable {X : Cx} {pins : List (Addr × Obj)} {σ : St} {H : Hp} {s : Shared}
theorem dFind_all {n : Nat} {q y : D} : ∀ {ls ws : List D}, ws.all (shD n) = true → dFind ls ws q = some y → shD n y = true
  | [], _, _, h => by simp [dFind] at h
  | l :: ls, [], _, h => by simp [dFind] at h
  | l :: ls, w :: ws, ha, h => by
    obtain ⟨a, b⟩ := shD_all ha
    rw [dFind] at h
    split at h
    · cases h; exact a
    · exact dFind_all b h
theorem hits_dd (I : L2.Inv X pins σ H s) (hu : X.A.units + 64 < cLine) {ls : List (Key × V)} {ws : List D} {vb : List (Key × Value)} (rb : KV ls vb) (rw' : Reps X.K H ws (ls.map (·.2))) (hw : ws.all (shD 63) = true) {ks : List (Key × V)} {va : List (Key × Value)} (ra : KV ks va) :
    ∀ {vs : List D}, Reps X.K H vs (ks.map (·.2)) → vs.all (shD 63) = true → PySem.W.KeqHits X.A.in1 s vb va (eqKV (ks.map fun p => kD p.1) vs (ls.map fun p => kD p.1) ws) := by
  unfold KV at ra
  induction ra with
  | nil => intro vs _ _; exact .nil
  | @cons p q ps qs h t ih =>
    intro vs hr hv
    obtain ⟨h1, h2⟩ := h
    rw [List.map_cons] at hr
    cases vs with
    | nil => rw [Reps] at hr; cases hr
    | cons d vs =>
      rw [Reps] at hr
      obtain ⟨x, r, e, r1, r2⟩ := hr
      cases e
      obtain ⟨hv1, hv2⟩ := shD_all hv
      have ih := ih r2 hv2
      obtain ⟨k, u⟩ := q
      have h1' : p.1 = k := h1
      rw [List.map_cons, eqKV]
      rcases dFind_ok eqB_kD p.1 (kvs := ls) (vs := ws) rw' with ⟨z, dz, z1, z2, z3⟩ | ⟨z1, z2⟩
      · rw [z2]
        have rr : RelO (some z) (valueAt vb p.1) := by rw [← z1]; exact rb.val p.1
        obtain ⟨y, hy, ry⟩ := rr.some_of
        rw [h1'] at hy
        have hz := dFind_all hw z2
        obtain ⟨as, ra1⟩ := Dp.reads I _ _ u (dpR_of hv1 (.of r1)) h2
        obtain ⟨bs, rb1⟩ := Dp.reads I _ _ y (dpR_of hz (.of z3)) ry
        have q := SeqAt.eqAt_reads (toP d) (toP dz) X.A.in1 s u y as bs ra1 rb1 (shD_ok 63 d hv1).1 (shD_ok 63 dz hz).1 (by
          have h1 := (shD_ok 63 d hv1).2
          show X.A.units + 1 + _ < cLine
          omega)
        rw [eqv_toP 63 63 d dz hv1 hz] at q
        exact .hit hy q ih
      · rw [z2]
        have rr : RelO none (valueAt vb p.1) := by rw [← z1]; exact rb.val p.1
        have hn : valueAt vb k = none := by
          rw [h1'] at rr
          cases hq : valueAt vb k with
          | none => rfl
          | some w => rw [hq] at rr; cases rr
        exact .miss hn
theorem rd_obj (I : L2.Inv X pins σ H s) {a : Addr} {u : HO} (h : Rd H a u) : ObjOk X.prog X.w H s.heap a u := by
  rcases h with h | ⟨o, h⟩
  · exact I.hok a _ h
  · exact (show ObjOk X.prog X.w H s.heap a (.frz o u) from I.hok a _ h).2
theorem op_eqDD (hu : X.A.units + 64 < cLine) : OpR X (compareOp .Eq) (rEqDD X.K) := by
  intro pins s σ H x y v u Q I rx ry h
  obtain ⟨d, e, r, hd, he, hg, q⟩ := h
  unfold eqDict at hg
  split at hg
  case h_2 => cases hg
  rename_i ks vs ls ws
  split at hg
  case isFalse => cases hg
  rename_i hc
  cases hg
  obtain ⟨a, ua, xs, rfl, ra, da, rra⟩ := hd
  obtain ⟨b, ub, ys, rfl, rb, db, rrb⟩ := he
  obtain ⟨kvs, rfl, rfl, rfl⟩ := da
  obtain ⟨lvs, rfl, rfl, rfl⟩ := db
  obtain rfl : v = Value.ref a := rx
  obtain rfl : u = Value.ref b := ry
  obtain ⟨_, ya, va, ka, da⟩ := (show ObjOk X.prog X.w H s.heap a (.dK kvs) from rd_obj I ra)
  obtain ⟨_, yb, vb, kb, db⟩ := (show ObjOk X.prog X.w H s.heap b (.dK lvs) from rd_obj I rb)
  have hl : va.length = kvs.length := ka.length.symm
  have hl2 : vb.length = lvs.length := kb.length.symm
  exact PySem.W.keq_eq (knd := mixKind X.prog X.w) ya yb da db (by omega) (fun _ => hits_dd I hu kb rrb hc.2 ka rra hc.1) (fin_bl I q (by simp [hl, hl2]))
theorem op_neDD (hu : X.A.units + 64 < cLine) : OpR X (compareOp .NotEq) (rNeDD X.K) := by
  intro pins s σ H x y v u Q I rx ry h
  obtain ⟨d, e, r, hd, he, hg, q⟩ := h
  unfold eqDict at hg
  split at hg
  case h_2 => cases hg
  rename_i ks vs ls ws
  split at hg
  case isFalse => cases hg
  rename_i hc
  cases hg
  obtain ⟨a, ua, xs, rfl, ra, da, rra⟩ := hd
  obtain ⟨b, ub, ys, rfl, rb, db, rrb⟩ := he
  obtain ⟨kvs, rfl, rfl, rfl⟩ := da
  obtain ⟨lvs, rfl, rfl, rfl⟩ := db
  obtain rfl : v = Value.ref a := rx
  obtain rfl : u = Value.ref b := ry
  obtain ⟨_, ya, va, ka, da⟩ := (show ObjOk X.prog X.w H s.heap a (.dK kvs) from rd_obj I ra)
  obtain ⟨_, yb, vb, kb, db⟩ := (show ObjOk X.prog X.w H s.heap b (.dK lvs) from rd_obj I rb)
  have hl : va.length = kvs.length := ka.length.symm
  have hl2 : vb.length = lvs.length := kb.length.symm
  exact PySem.W.keq_ne (knd := mixKind X.prog X.w) ya yb da db (by omega) (fun _ => hits_dd I hu kb rrb hc.2 ka rra hc.1) (fin_bl I q (by simp [hl, hl2]))
theorem o_eqDD (hu : X.A.units + 64 < cLine) : Op2 X (compareOp .Eq) (fun d e => (eqDict d e).map fun b => .val (.bl b)) := ⟨_, op_eqDD hu, fun H x y d e ev Q rx ry hg q => by
  obtain ⟨r, h1, h2⟩ := Option.map_eq_some_iff.mp hg
  cases h2
  exact ⟨d, e, r, rx, ry, h1, q _ H (.refl H) roBl⟩⟩
theorem o_neDD (hu : X.A.units + 64 < cLine) : Op2 X (compareOp .NotEq) (fun d e => (eqDict d e).map fun b => .val (.bl (!b))) := ⟨_, op_neDD hu, fun H x y d e ev Q rx ry hg q => by
  obtain ⟨r, h1, h2⟩ := Option.map_eq_some_iff.mp hg
  cases h2
  exact ⟨d, e, r, rx, ry, h1, q _ H (.refl H) roBl⟩⟩
/-- ==, of dicts also -/
def eqDX (d e : D) : Option EV := match eqD d e with
  | some r => some r
  | none => (eqDict d e).map fun b => .val (.bl b)
def neDX (d e : D) : Option EV := match neD d e with
  | some r => some r
  | none => (eqDict d e).map fun b => .val (.bl (!b))
theorem o_eqX (hu : X.A.units + 64 < cLine) : Op2 X (compareOp .Eq) eqDX := ((o_eq hu).or (o_eqDD hu)).imp fun d e r h => by
  unfold eqDX at h
  exact h
theorem o_neX (hu : X.A.units + 64 < cLine) : Op2 X (compareOp .NotEq) neDX := ((o_ne hu).or (o_neDD hu)).imp fun d e r h => by
  unfold neDX at h
  exact h
end
end Fw
set_option Elab.async false
set_option linter.all false
set_option maxRecDepth 100000
set_option maxHeartbeats 4000000
/-! range(a, b, c) upward -/
namespace Fw
open PySem L2
/-- how many turns -/
def nRU (c i j : Int) : Nat := if i < j then ((j - i - 1) / c + 1).toNat else 0
def rgU (c i : Int) (n : Nat) : List D := (List.range n).map fun m => .int (i + (m : Nat) * c)
noncomputable def mRgU (c : Int) (a b : M EV) : M (List D) := (mI a).bind fun i => (mI b).bind fun j => M.lift (@ite _ (-16777216 ≤ i ∧ i ≤ 16777216 ∧ -16777216 ≤ j ∧ j ≤ 16777216 ∧ j - i ≤ 16777216) (Classical.propDecidable _) (some (rgU c i (nRU c i j))) none)
theorem itu_ok {K : PySem.W.Frag} {H : Hp} {c i : Int} {n : Nat} (h : n ≤ 16777216) : ItOk K H (Itc i c n) (rgU c i n) := by
  have hl : (rgU c i n).length = n := by unfold rgU; rw [List.length_map, List.length_range]
  refine ⟨by rw [hl, sizeLine_eq]; exact h, fun H' _ => ⟨fun k d hd => ?_, by rw [hl]; exact Nat.le_refl n⟩⟩
  have hi' : k < n := by rw [← hl]; exact (List.getElem?_eq_some_iff.mp hd).1
  have ed : d = .int (i + (k : Nat) * c) := by
    unfold rgU at hd
    rw [List.getElem?_map, List.getElem?_range hi'] at hd
    exact (Option.some.inj hd).symm
  refine ⟨hi', fun x H'' hy => ?_⟩
  obtain ⟨e1, e2⟩ := hy
  subst e1 e2 ed
  refine ⟨.refl _, ?_⟩
  rw [Rep]
theorem nRU_le {c i j : Int} (h : 1 ≤ c) : (nRU c i j : Int) = 0 ∨ (nRU c i j : Int) ≤ j - i := by
  unfold nRU
  split
  · have h1 := Int.ediv_le_self c (show (0 : Int) ≤ j - i - 1 by omega)
    omega
  · omega
theorem rgc_up {c i j : Int} (h1 : 1 ≤ c) (h2 : c < 1000) (ha : -16777216 ≤ i ∧ i ≤ 16777216) (hb : -16777216 ≤ j ∧ j ≤ 16777216) : RgC i j c (nRU c i j) := by
  have e : Builtin.Range.rangeSize i j c = (nRU c i j : Int) := by
    unfold Builtin.Range.rangeSize nRU
    rw [if_pos (by omega)]
    split
    · have h3 := Int.ediv_nonneg (a := j - i - 1) (b := c) (by omega) (by omega)
      omega
    · rfl
  have l := nRU_le (c := c) (i := i) (j := j) h1
  refine ⟨by omega, by omega, ?_, e⟩
  unfold Builtin.Range.small
  rw [e]
  simp only [Builtin.Range.rangeFitsLong, Bool.and_eq_true, Bool.or_eq_true, decide_eq_true_eq, beq_iff_eq]
  have l0 : (0 : Int) ≤ (nRU c i j : Int) := Int.natCast_nonneg _
  generalize (nRU c i j : Int) = n at *
  rw [if_pos (by omega : c > 0)]
  refine ⟨⟨⟨⟨⟨by omega, by omega⟩, by omega, by omega⟩, by omega, by omega⟩, by omega, by omega⟩, ?_⟩
  by_cases hn : (n : Int) = 0
  · exact .inl hn
  · exact .inr (by simp only [Bool.and_eq_true, decide_eq_true_eq]; omega)
section
variable {X : Cx} {W : WX} {tg a b : Expr} {ma mb : M EV} {p pos p3 : Pos} {k3 : Nat}
theorem mi_rangeU (c : Int) (h1 : 1 ≤ c) (h2 : c < 1000) (hg : Gl X "range") (hm : X.mg "range" = none) (ha : ME X W a ma) (hb : ME X W b mb) (hs : starEach [a, b, .Constant (.int c) k3 p3] X.env = (false, eval a X.env) :: starEach [b, .Constant (.int c) k3 p3] X.env) (hs1 : starEach [b, .Constant (.int c) k3 p3] X.env = (false, eval b X.env) :: starEach [.Constant (.int c) k3 p3] X.env)
    (hs2 : starEach [.Constant (.int c) k3 p3] X.env = [(false, eval (.Constant (.int c) k3 p3) X.env)]) (hpl : (backTo pos (starEach [b, .Constant (.int c) k3 p3] X.env)).any (·.1) = false) : MI X W tg (.Call (.Name "range" p) [a, b, .Constant (.int c) k3 p3] [] pos) (mRgU c ma mb) := by
  refine PI.imp (pi_range3 hg hm (pa_cons ha (pa_cons hb (pa_cons (xI (W := W)) pa_nil hs2) hs1) hs) hs hpl) fun σ H R q => ?_
  obtain ⟨ms, G, h⟩ := q
  refine tM_int G h (fun x ms' z => z) fun i ms1 h1' H1 p1 => ?_
  refine tM_int p1.good h1' (fun x ms' z cls d H' p => z cls d H' (p1.trans p)) fun j ms2 h2' H2 p2 => ?_
  have p12 := p1.trans p2
  obtain ⟨ds, e, kk⟩ := Run.lift h2'
  refine ⟨ms2, p2.good, ?_⟩
  show ∀ v H', PostE X.K ms2 σ H2 ms2 H' → EVOk X.K ms2 σ H2 H' v (.val (.int c)) → _
  intro v H3 p3 o3
  have o3 : Rep X.K H3 (.int c) v := o3
  rw [Rep] at o3
  subst o3
  split at e
  · rename_i hj
    cases e
    have l := nRU_le (c := c) (i := i) (j := j) h1
    exact ⟨i, j, c, nRU c i j, rfl, rgc_up h1 h2 ⟨by omega, by omega⟩ ⟨by omega, by omega⟩, kk _ H3 (p12.trans p3) (itu_ok (by omega))⟩
  · cases e
theorem xRU (c : Int) (hm : X.mg "range" = none) (ha : ME X W a ma) (hb : ME X W b mb) (h1 : 1 ≤ c := by decide) (h2 : c < 1000 := by decide) (hg : Gl X "range" := by rfl) (hs : starEach [a, b, .Constant (.int c) k3 p3] X.env = (false, eval a X.env) :: starEach [b, .Constant (.int c) k3 p3] X.env := by rfl) (hs1 : starEach [b, .Constant (.int c) k3 p3] X.env = (false, eval b X.env) :: starEach [.Constant (.int c) k3 p3] X.env := by rfl)
    (hs2 : starEach [.Constant (.int c) k3 p3] X.env = [(false, eval (.Constant (.int c) k3 p3) X.env)] := by rfl) (hpl : (backTo pos (starEach [b, .Constant (.int c) k3 p3] X.env)).any (·.1) = false := by rfl) : MI X W tg (.Call (.Name "range" p) [a, b, .Constant (.int c) k3 p3] [] pos) (mRgU c ma mb) := mi_rangeU c h1 h2 hg hm ha hb hs hs1 hs2 hpl
end
section
variable {ms : MS} {E : EX → MS → Prop} {a b : M EV}
@[simp] theorem run_rgU {c : Int} {Q : List D → MS → Prop} : Wp (mRgU c a b) ms Q E = Wp a ms (fun ea ms1 => inK (fun i => Wp b ms1 (fun ev ms2 => inK (fun j => (-16777216 ≤ i ∧ i ≤ 16777216 ∧ -16777216 ≤ j ∧ j ≤ 16777216 ∧ j - i ≤ 16777216) ∧ Q (rgU c i (nRU c i j)) ms2) ev) E) ea) E := by
  unfold mRgU
  rw [Wp.bind, run_mI]; refine Wp.ext fun x ms1 => ?_
  cases x with
  | new o => rfl
  | bor o => rfl
  | val d =>
    cases d with
    | int i =>
      simp only [inK_int]
      rw [Wp.bind, run_mI]; refine Wp.ext fun y ms2 => ?_
      cases y with
      | new o => rfl
      | bor o => rfl
      | val d =>
        cases d with
        | int j =>
          simp only [inK_int, run_lift]
          by_cases hh : (-16777216 ≤ i ∧ i ≤ 16777216 ∧ -16777216 ≤ j ∧ j ≤ 16777216 ∧ j - i ≤ 16777216)
          · rw [if_pos hh, opK_some]; simp only [hh, true_and, and_self]
          · rw [if_neg hh, opK_none]; simp only [hh, false_and]
        | _ => rfl
    | _ => rfl
end
@[simp] theorem rgU_len {c i : Int} {n : Nat} : (rgU c i n).length = n := by simp [rgU]
end Fw
set_option Elab.async false
set_option linter.all false
set_option maxRecDepth 100000
set_option maxHeartbeats 4000000
/-! list.insert; a fresh list handed to a lent parameter -/
namespace Fw
open PySem L2
section
variable {X : Cx}
def gInsert (o : OV) (as : List D) : Option (D × OV) := match o, as with
  | .lst ds, [.int i, d] => if 0 ≤ i ∧ i < 1073741824 ∧ ds.length < 16777216 then some (.non, .lst (ds.take i.toNat ++ [d] ++ ds.drop i.toNat)) else none
  | _, _ => none
theorem m_insert : MutV X "list.insert" gInsert := ⟨_, mt_insert, fun H a o xs ds d o' Q oa r hg q => by
  unfold gInsert at hg
  split at hg
  · rename_i l i d0
    split at hg
    · rename_i c
      cases hg
      obtain ⟨ys, h1, h2⟩ := oa
      rw [Reps] at r
      obtain ⟨x0, t0, rfl, r0, r⟩ := r
      rw [Rep] at r0
      subst r0
      rw [Reps] at r
      obtain ⟨x, t, rfl, r1, r2⟩ := r
      rw [Reps] at r2
      subst r2
      have kk := kept_chg (u' := HO.lst (ys.take i.toNat ++ [x] ++ ys.drop i.toNat)) h1 trivial
      refine ⟨a, ys, i, x, rfl, rfl, h1, by rw [sizeLine_eq, ← h2.length]; exact c.2.2, c.1, by omega, q .non _ ⟨_, upd_same, ?_⟩ (by rw [Rep])⟩
      have h3 := Reps.mono kk _ _ h2
      exact (Reps.append (Reps.snoc (h3.take i.toNat) (Rep.mono kk _ _ r1)) (h3.drop i.toNat))
    · cases hg
  · cases hg⟩
end
section
variable {K : PySem.W.Frag} {ms : MS} {σ : St} {H H' : Hp}
theorem good_ext {o : OV} {a : Addr} (g : Good K ms σ H) (oa : OwnAt K H a o) (no : ¬ Ow ms σ a) : Good K (ms ++ [.own false o]) (σ ++ [some (.ref a)]) H := by
  have len := g.len
  have lt : ∀ {i : Nat} {s : SV}, (ms ++ [SV.own false o])[i]? = some s → (i < ms.length ∧ ms[i]? = some s ∧ (σ ++ [some (.ref a)])[i]? = σ[i]?) ∨ (i = ms.length ∧ s = .own false o ∧ (σ ++ [some (V.ref a)])[i]? = some (some (.ref a))) := by
    intro i s h
    by_cases c : i < ms.length
    · left
      rw [List.getElem?_append_left c] at h
      exact ⟨c, h, List.getElem?_append_left (by omega)⟩
    · right
      have hl := (List.getElem?_eq_some_iff.mp h).1
      simp at hl
      have : i = ms.length := by omega
      subst this
      refine ⟨rfl, by simpa using h.symm, ?_⟩
      rw [len]; simp
  refine ⟨by simp [len], fun i d h => ?_, fun i l o' h => ?_, fun i j l l' o1 o2 b h1 h2 e1 e2 => ?_⟩
  · rcases lt h with ⟨_, h1, h2⟩ | ⟨_, h1, _⟩
    · rw [h2]; exact g.val i d h1
    · cases h1
  · rcases lt h with ⟨_, h1, h2⟩ | ⟨_, h1, h2⟩
    · rw [h2]; exact g.own i l o' h1
    · cases h1; exact ⟨a, h2, oa⟩
  · rcases lt h1 with ⟨i1, q1, z1⟩ | ⟨i1, q1, z1⟩ <;> rcases lt h2 with ⟨i2, q2, z2⟩ | ⟨i2, q2, z2⟩
    · rw [z1] at e1; rw [z2] at e2
      exact g.inj i j l l' o1 o2 b q1 q2 e1 e2
    · rw [z1] at e1; rw [z2] at e2; cases e2
      exact absurd ⟨i, l, o1, q1, e1⟩ no
    · rw [z1] at e1; rw [z2] at e2; cases e1
      exact absurd ⟨j, l', o2, q2, e2⟩ no
    · omega
theorem backA_own : ∀ {es : List EV} {outs : List SV} {ms : MS} {i : Nat} {l : Bool} {o : OV}, (backA es outs ms)[i]? = some (.own l o) → ∃ o1, ms[i]? = some (.own l o1)
  | [], outs, ms, i, l, o, h => by
    have : backA [] outs ms = ms := by cases outs <;> rfl
    rw [this] at h; exact ⟨o, h⟩
  | e :: es, [], ms, i, l, o, h => by
    have : backA (e :: es) [] ms = ms := by cases e <;> rfl
    rw [this] at h; exact ⟨o, h⟩
  | .val d :: es, s :: outs, ms, i, l, o, h => by
    rw [show backA (.val d :: es) (s :: outs) ms = backA es outs ms from rfl] at h
    exact backA_own h
  | .new d :: es, s :: outs, ms, i, l, o, h => by
    rw [show backA (.new d :: es) (s :: outs) ms = backA es outs ms from rfl] at h
    exact backA_own h
  | .bor j :: es, s :: outs, ms, i, l, o, h => by
    rw [show backA (.bor j :: es) (s :: outs) ms = backA es outs (ms.set j (relent ms[j]? s)) from rfl] at h
    obtain ⟨o1, h1⟩ := backA_own h
    by_cases c : j = i
    · subst c
      have hl := (List.getElem?_eq_some_iff.mp h1).1
      rw [List.length_set] at hl
      rw [List.getElem?_set_self hl, List.getElem?_eq_getElem hl] at h1
      rw [List.getElem?_eq_getElem hl]
      generalize ms[j] = t at h1
      cases t with
      | own l1 o2 =>
        cases s with
        | own l2 o3 => simp [relent] at h1; exact ⟨o2, by rw [h1.1]⟩
        | unk => simp [relent] at h1
        | val d => simp [relent] at h1
      | unk => simp [relent] at h1
      | val d => simp [relent] at h1
    · rw [List.getElem?_set_ne c] at h1
      exact ⟨o1, h1⟩
/-- the call's end, without the fresh object -/
theorem post_ext {ms0 ms1 : MS} {H0 H1 H2 : Hp} {es : List EV} {outs : List SV} {o : OV} {a : Addr} (p1 : PostE K ms0 σ H0 ms1 H1) (ha : H0 a = none) (no : ¬ Ow ms1 σ a)
    (p2 : PostE K (ms1 ++ [.own false o]) (σ ++ [some (.ref a)]) H1 (backA es outs (ms1 ++ [.own false o])) H2) : PostE K ms0 σ H0 ((backA es outs (ms1 ++ [.own false o])).take ms1.length) H2 := by
  have len := p1.good.len
  have lx : (backA es outs (ms1 ++ [SV.own false o])).length = ms1.length + 1 := by rw [backA_len]; simp
  have tk : ∀ {i : Nat} {s : SV}, ((backA es outs (ms1 ++ [SV.own false o])).take ms1.length)[i]? = some s → i < ms1.length ∧ (backA es outs (ms1 ++ [SV.own false o]))[i]? = some s ∧ (σ ++ [some (.ref a)])[i]? = σ[i]? := by
    intro i s h
    have hl := (List.getElem?_eq_some_iff.mp h).1
    rw [List.length_take] at hl
    have hi : i < ms1.length := by omega
    rw [List.getElem?_take_of_lt hi] at h
    exact ⟨hi, h, List.getElem?_append_left (by omega)⟩
  have owx : ∀ {b : Addr}, Ow (ms1 ++ [SV.own false o]) (σ ++ [some (.ref a)]) b → Ow ms1 σ b ∨ b = a := by
    rintro b ⟨i, l, o1, h1, h2⟩
    by_cases c : i < ms1.length
    · rw [List.getElem?_append_left c] at h1
      rw [List.getElem?_append_left (by omega)] at h2
      exact .inl ⟨i, l, o1, h1, h2⟩
    · have hl := (List.getElem?_eq_some_iff.mp h1).1
      simp at hl
      have : i = ms1.length := by omega
      subst this
      rw [len] at h2
      simp at h2
      exact .inr h2.symm
  refine ⟨⟨by rw [List.length_take]; omega, fun i d h => ?_, fun i l o1 h => ?_, fun i j l l' o1 o2 b h1 h2 e1 e2 => ?_⟩, fun b u h n => ?_, fun b h => p2.live b (p1.live b h), fun b z => ?_, fun i o1 h => ?_⟩
  · obtain ⟨hi, h1, h2⟩ := tk h
    obtain ⟨v, e, r⟩ := p2.good.val i d h1
    exact ⟨v, by rw [← h2]; exact e, r⟩
  · obtain ⟨hi, h1, h2⟩ := tk h
    obtain ⟨b, e, r⟩ := p2.good.own i l o1 h1
    exact ⟨b, by rw [← h2]; exact e, r⟩
  · obtain ⟨hi, h3, h4⟩ := tk h1
    obtain ⟨hj, h5, h6⟩ := tk h2
    exact p2.good.inj i j l l' o1 o2 b h3 h5 (by rw [h4]; exact e1) (by rw [h6]; exact e2)
  · refine p2.keep b u (p1.keep b u h n) fun z => ?_
    rcases owx z with z | z
    · exact n (p1.ow b z)
    · subst z; rw [ha] at h; cases h
  · obtain ⟨i, l, o1, h1, h2⟩ := z
    obtain ⟨hi, h3, h4⟩ := tk h1
    obtain ⟨o2, h5⟩ := backA_own h3
    rw [List.getElem?_append_left hi] at h5
    exact p1.ow b ⟨i, l, o2, h5, h2⟩
  · obtain ⟨o2, h2⟩ := p1.lent i o1 h
    have hi := (List.getElem?_eq_some_iff.mp h2).1
    obtain ⟨o3, h3⟩ := p2.lent i o2 (by rw [List.getElem?_append_left hi]; exact h2)
    exact ⟨o3, by rw [List.getElem?_take_of_lt hi]; exact h3⟩
end
/-- a call whose argument j is a list of its own, handed to a lent parameter -/
def mCallN (j : Nat) (sig : List Bool) (fm : M EV) (mas : M (List EV)) : M EV := mas.bind fun es ms => match es[j]? with
  | some (.new o) => (if (bors (es.set j (.bor ms.length))).Nodup then (match bindA (ms ++ [.own false o]) sig (es.set j (.bor ms.length)) with
    | some args => (match fm args with
      | some (.ok (.val d) outs) => some (.ok (.val d) ((backA (es.set j (.bor ms.length)) outs (ms ++ [.own false o])).take ms.length))
      | some (.ok (.new u) outs) => some (.ok (.new u) ((backA (es.set j (.bor ms.length)) outs (ms ++ [.own false o])).take ms.length))
      | some (.exc x outs) => some (.exc x ((backA (es.set j (.bor ms.length)) outs (ms ++ [.own false o])).take ms.length))
      | _ => none)
    | none => none) else none)
  | _ => none
section
variable {X : Cx} {W : WX} {e : Expr} {es : List Expr} {mas : M (List EV)} {x : Str} {p pos : Pos} {n k j q : Nat} {fm : M EV} {sig : List Bool}
theorem evs_set {K : PySem.W.Frag} {ms : MS} {σ σx : St} {H0 H : Hp} {a : Addr} {i : Nat} (hσ : ∀ (k : Nat) v, σ[k]? = some v → σx[k]? = some v) (hi : σx[i]? = some (some (.ref a))) {msx : MS} (how : ∀ b, Ow msx σx b → Ow ms σ b ∨ b = a) :
    ∀ {vs : List V} {es : List EV} {j : Nat}, EVsOk K ms σ H0 H vs es → vs[j]? = some (.ref a) → (∀ (k : Nat) o, k ≠ j → es[k]? = some (.new o) → False) → EVsOk K msx σx H0 H vs (es.set j (.bor i))
  | _, _, j, .nil, hv, _ => by simp at hv
  | v :: vs, e :: es, 0, .cons h r, hv, hn => by
    rw [List.set_cons_zero]
    simp at hv
    subst hv
    refine .cons hi ?_
    have go : ∀ {vs : List V} {es : List EV}, EVsOk K ms σ H0 H vs es → (∀ (k : Nat) o, es[k]? = some (.new o) → False) → EVsOk K msx σx H0 H vs es := by
      intro vs es r
      induction r with
      | nil => intro _; exact .nil
      | @cons v e vs es h _ ih =>
        intro hn
        refine .cons ?_ (ih fun k o z => hn (k + 1) o (by simpa using z))
        cases e with
        | val d => exact h
        | bor i => exact hσ i _ h
        | new o => exact (hn 0 o rfl).elim
    exact go r fun k o z => hn (k + 1) o (by omega) (by simpa using z)
  | v :: vs, e :: es, j + 1, .cons h r, hv, hn => by
    rw [List.set_cons_succ]
    refine .cons ?_ (evs_set hσ hi how r (by simpa using hv) fun k o c z => hn (k + 1) o (by omega) (by simpa using z))
    cases e with
    | val d => exact h
    | bor i => exact hσ i _ h
    | new o => exact (hn 0 o (by omega) rfl).elim
theorem bindA_new {ms : MS} : ∀ {sig : List Bool} {es : List EV} {args : List SV} {k : Nat} {o : OV}, bindA ms sig es = some args → es[k]? = some (.new o) → False
  | [], [], _, _, _, _, e => by simp at e
  | [], _ :: _, _, _, _, h, _ => by cases h
  | false :: sig, [], _, _, _, h, _ => by cases h
  | true :: sig, [], _, _, _, h, _ => by cases h
  | false :: sig, .new o :: es, _, _, _, h, _ => by cases h
  | false :: sig, .bor i :: es, _, _, _, h, _ => by cases h
  | true :: sig, .new o :: es, _, _, _, h, _ => by cases h
  | false :: sig, .val d :: es, args, k, o, h, e => by
    unfold bindA at h
    obtain ⟨r, h1, h2⟩ := Option.map_eq_some_iff.mp h
    cases k with
    | zero => simp at e
    | succ k => exact bindA_new (k := k) h1 (by simpa using e)
  | true :: sig, .val d :: es, args, k, o, h, e => by
    unfold bindA at h
    obtain ⟨r, h1, h2⟩ := Option.map_eq_some_iff.mp h
    cases k with
    | zero => simp at e
    | succ k => exact bindA_new (k := k) h1 (by simpa using e)
  | true :: sig, .bor i :: es, args, k, o, h, e => by
    unfold bindA at h
    cases hi : ms[i]? with
    | none => rw [hi] at h; cases h
    | some sv =>
      rw [hi] at h
      cases sv with
      | unk => cases h
      | val d => cases h
      | own l o =>
        obtain ⟨r, h1, h2⟩ := Option.map_eq_some_iff.mp h
        cases k with
        | zero => simp at e
        | succ k => exact bindA_new (k := k) h1 (by simpa using e)
theorem callN_core {σ : St} {H : Hp} {Q : VK} (hn : ∀ evs args ms, bindA ms sig evs = some args → args.length = n) (h : tM X.K W (mCallN q sig fm mas) σ H Q) : tCallS (spM X.K n fm) (WE W) (tMA X.K W mas) σ H Q := by
  obtain ⟨ms, G, h⟩ := h
  refine tMA_bind G h (fun x ms' z => z) fun evs ms1 h1 vs H1 p1 o1 => ?_
  cases hq : evs[q]? with
  | none => simp only [Run, hq] at h1
  | some ev =>
    cases ev with
    | val d => simp only [Run, hq] at h1
    | bor d => simp only [Run, hq] at h1
    | new o =>
      by_cases nd : (bors (evs.set q (.bor ms1.length))).Nodup
      case neg => simp only [Run, hq, if_neg nd] at h1
      cases hb : bindA (ms1 ++ [.own false o]) sig (evs.set q (.bor ms1.length)) with
      | none => simp only [Run, hq, if_pos nd, hb] at h1
      | some args =>
        have hql : q < evs.length := (List.getElem?_eq_some_iff.mp hq).1
        obtain ⟨a, hva, ha, oa, no⟩ : ∃ a : Addr, vs[q]? = some (.ref a) ∧ H a = none ∧ OwnAt X.K H1 a o ∧ ¬ Ow ms1 σ a := by
          have : ∀ {vs : List V} {es : List EV} {k : Nat}, EVsOk X.K ms1 σ H H1 vs es → es[k]? = some (.new o) → ∃ a : Addr, vs[k]? = some (.ref a) ∧ H a = none ∧ OwnAt X.K H1 a o ∧ ¬ Ow ms1 σ a := by
            intro vs es k o
            induction o generalizing k with
            | nil => intro h; simp at h
            | cons r t ih =>
              intro h
              cases k with
              | zero =>
                simp at h; subst h
                obtain ⟨a, rfl, h1, h2, h3⟩ := r
                exact ⟨a, rfl, h1, h2, h3⟩
              | succ k => obtain ⟨a, e1, e2⟩ := ih (k := k) (by simpa using h); exact ⟨a, by simpa using e1, e2⟩
          exact this o1 hq
        have Gx := good_ext p1.good oa no
        have lenx := p1.good.len
        have ox : EVsOk X.K (ms1 ++ [.own false o]) (σ ++ [some (.ref a)]) H H1 vs (evs.set q (.bor ms1.length)) := by
          refine evs_set (fun k v hk => ?_) (by rw [lenx]; simp) (fun b z => ?_) o1 hva fun k o' hk z => ?_
          · rw [List.getElem?_append_left (List.getElem?_eq_some_iff.mp hk).1]; exact hk
          · obtain ⟨i, l, u, h1, h2⟩ := z
            by_cases c : i < ms1.length
            · rw [List.getElem?_append_left c] at h1
              rw [List.getElem?_append_left (by omega)] at h2
              exact .inl ⟨i, l, u, h1, h2⟩
            · have hl := (List.getElem?_eq_some_iff.mp h1).1
              simp at hl
              have : i = ms1.length := by omega
              subst this
              rw [lenx] at h2
              simp at h2
              exact .inr h2.symm
          · exact bindA_new (k := k) (o := o') hb (by rw [List.getElem?_set_ne (Ne.symm hk)]; exact z)
        have Ga := good_args Gx ox nd hb
        refine ⟨by have := hn _ _ _ hb; have h2 := Ga.len; rw [List.length_map] at h2; omega, args, Ga, ?_⟩
        have px : ∀ {outs : List SV} {H' : Hp}, PostE X.K args (vs.map some) H1 outs H' → PostE X.K (ms1 ++ [.own false o]) (σ ++ [some (.ref a)]) H1 (backA (evs.set q (.bor ms1.length)) outs (ms1 ++ [.own false o])) H' := fun z => post_call Gx ox nd hb z
        have pc : ∀ {outs : List SV} {H' : Hp}, PostE X.K args (vs.map some) H1 outs H' → PostE X.K ms σ H ((backA (evs.set q (.bor ms1.length)) outs (ms1 ++ [.own false o])).take ms1.length) H' := fun z => post_ext p1 ha no (px z)
        unfold Run at h1 ⊢
        simp only [hq, if_pos nd, hb] at h1
        cases hf : fm args with
        | none => simp only [hf] at h1
        | some r =>
          cases r with
          | exc ex outs =>
            simp only [hf] at h1
            exact fun cls d H' q z => h1 cls d H' (pc q) z
          | ok ev outs =>
            cases ev with
            | bor i => simp only [hf] at h1
            | val d =>
              simp only [hf] at h1
              exact fun v H' q z => h1 v H' (pc q) z
            | new u =>
              simp only [hf] at h1
              intro v H' q z
              obtain ⟨b, rfl, hn', oat, no'⟩ := z
              have hH : H b = none := by
                cases qq : H b with
                | none => rfl
                | some u => exact absurd hn' (p1.live b (by rw [qq]; exact fun z => nomatch z))
              refine h1 _ H' (pc q) ⟨b, rfl, hH, oat, fun y => ?_⟩
              have := (pc q).ow b y
              obtain ⟨u', hu, _⟩ := G.chg this
              rw [hH] at hu; cases hu
/-- .. a list of its own, or not -/
def mCallX (q : Nat) (sig : List Bool) (fm : M EV) (mas : M (List EV)) : M EV := mas.bind fun es ms => match es[q]? with
  | some (.new _) => mCallN q sig fm (M.pure es) ms
  | _ => mCallF sig fm (M.pure es) ms
theorem pureN {q : Nat} {sig : List Bool} {fm : M EV} {es : List EV} {ms : MS} : mCallN q sig fm (M.pure es) ms = mCallN q sig fm (fun ms' => some (.ok es ms')) ms := rfl
theorem callX_core {σ : St} {H : Hp} {Q : VK} (hn : ∀ evs args ms, bindA ms sig evs = some args → args.length = n) (h : tM X.K W (mCallX q sig fm mas) σ H Q) : tCallS (spM X.K n fm) (WE W) (tMA X.K W mas) σ H Q := by
  obtain ⟨ms, G, h⟩ := h
  unfold mCallX at h
  rw [Run.bind] at h
  -- what the arguments' run hands out decides the way
  cases hm : mas ms with
  | none => unfold Run at h; rw [hm] at h; exact h.elim
  | some r =>
    cases r with
    | exc x ms' =>
      have : tM X.K W (mCallF sig fm mas) σ H Q := ⟨ms, G, by
        unfold mCallF
        rw [Run.bind]
        unfold Run at h ⊢
        rw [hm] at h ⊢
        exact h⟩
      exact call_core hn this
    | ok es ms' =>
      by_cases hq : ∃ o, es[q]? = some (.new o)
      · obtain ⟨o, hq⟩ := hq
        have : tM X.K W (mCallN q sig fm mas) σ H Q := ⟨ms, G, by
          unfold mCallN
          rw [Run.bind]
          unfold Run at h ⊢
          rw [hm] at h ⊢
          dsimp only at h ⊢
          simp only [hq] at h
          exact h⟩
        exact callN_core hn this
      · have : tM X.K W (mCallF sig fm mas) σ H Q := ⟨ms, G, by
          unfold mCallF
          rw [Run.bind]
          unfold Run at h ⊢
          rw [hm] at h ⊢
          dsimp only at h ⊢
          have e : (match es[q]? with
            | some (.new _) => mCallN q sig fm (M.pure es) ms'
            | _ => mCallF sig fm (M.pure es) ms') = mCallF sig fm (M.pure es) ms' := by
            cases h1 : es[q]? with
            | none => rfl
            | some ev =>
              cases ev with
              | new o => exact absurd ⟨o, h1⟩ hq
              | val d => rfl
              | bor i => rfl
          rw [e] at h
          exact h⟩
        exact call_core hn this
theorem me_callX (F : FnGood X.prog X.w X.K X.mg X.base x sig.length k fm) (hr : Room j X.A) (hk : k ≤ j) (hg : Gl X x) (tk : Takes X W) (ha : MA X W (e :: es) mas) (hdb : (x == ("__debug__" : Str)) = false)
    (he : starEach (e :: es) X.env = (false, eval e X.env) :: starEach es X.env) (hpl : (backTo pos (starEach es X.env)).any (·.1) = false) : ME X W (.Call (.Name x p) (e :: es) [] pos) (mCallX q sig fm mas) := by
  obtain ⟨f, fd, ps, hm, kp, hb, hl, ok⟩ := F
  exact PE.imp (pe_callS ok (hr.mono hk) hg hm kp hb (fun σ => passAt tk σ) ha hdb he hpl) fun σ H Q q => callX_core (fun _ _ _ h => sig_len h) q
theorem xCX (q : Nat) (sig : List Bool) (F : FnGood X.prog X.w X.K X.mg X.base x sig.length k fm) (hr : Room j X.A) (tk : Takes X W) (ha : MA X W (e :: es) mas) (hk : k ≤ j := by omega) (hg : Gl X x := by rfl) (hdb : (x == ("__debug__" : Str)) = false := by rfl)
    (he : starEach (e :: es) X.env = (false, eval e X.env) :: starEach es X.env := by rfl) (hpl : (backTo pos (starEach es X.env)).any (·.1) = false := by rfl) : ME X W (.Call (.Name x p) (e :: es) [] pos) (mCallX q sig fm mas) := me_callX F hr hk hg tk ha hdb he hpl
theorem me_callN (F : FnGood X.prog X.w X.K X.mg X.base x sig.length k fm) (hr : Room j X.A) (hk : k ≤ j) (hg : Gl X x) (tk : Takes X W) (ha : MA X W (e :: es) mas) (hdb : (x == ("__debug__" : Str)) = false)
    (he : starEach (e :: es) X.env = (false, eval e X.env) :: starEach es X.env) (hpl : (backTo pos (starEach es X.env)).any (·.1) = false) : ME X W (.Call (.Name x p) (e :: es) [] pos) (mCallN q sig fm mas) := by
  obtain ⟨f, fd, ps, hm, kp, hb, hl, ok⟩ := F
  exact PE.imp (pe_callS ok (hr.mono hk) hg hm kp hb (fun σ => passAt tk σ) ha hdb he hpl) fun σ H Q q => callN_core (fun _ _ _ h => sig_len h) q
theorem xCN (q : Nat) (sig : List Bool) (F : FnGood X.prog X.w X.K X.mg X.base x sig.length k fm) (hr : Room j X.A) (tk : Takes X W) (ha : MA X W (e :: es) mas) (hk : k ≤ j := by omega) (hg : Gl X x := by rfl) (hdb : (x == ("__debug__" : Str)) = false := by rfl)
    (he : starEach (e :: es) X.env = (false, eval e X.env) :: starEach es X.env := by rfl) (hpl : (backTo pos (starEach es X.env)).any (·.1) = false := by rfl) : ME X W (.Call (.Name x p) (e :: es) [] pos) (mCallN q sig fm mas) := me_callN F hr hk hg tk ha hdb he hpl
end
section
variable {ms : MS} {E : EX → MS → Prop} {Q : EV → MS → Prop} {mas : M (List EV)}
def nwK (P : OV → Prop) (o : Option EV) (_ : Dum P := ()) : Prop := match o with
  | some (.new o) => P o
  | _ => False
@[simp] theorem nwK_new {P : OV → Prop} {o : OV} : nwK P (some (.new o)) = P o := rfl
@[simp] theorem run_callN {j : Nat} {sig : List Bool} {fm : M EV} : Wp (mCallN j sig fm mas) ms Q E = Wp mas ms (fun es ms1 => nwK (fun o => (bors (es.set j (.bor ms1.length))).Nodup ∧ opK (fun args => Wp fm args (fun ev outs => isV ev = true ∧ Q ev ((backA (es.set j (.bor ms1.length)) outs (ms1 ++ [.own false o])).take ms1.length)) (fun x outs => E x ((backA (es.set j (.bor ms1.length)) outs (ms1 ++ [.own false o])).take ms1.length))) (bindA (ms1 ++ [.own false o]) sig (es.set j (.bor ms1.length)))) es[j]?) E := by
  unfold mCallN
  rw [Wp.bind]; refine Wp.ext fun es ms1 => ?_
  rw [run_fun]
  cases hj : es[j]? with
  | none => rfl
  | some ev =>
    cases ev with
    | val d => rfl
    | bor d => rfl
    | new o =>
      rw [nwK_new]
      dsimp only
      by_cases hn : (bors (es.set j (.bor ms1.length))).Nodup
      case neg => simp [hn]
      rw [if_pos hn]
      cases hb : bindA (ms1 ++ [.own false o]) sig (es.set j (.bor ms1.length)) with
      | none => simp
      | some args =>
        simp only [hn, true_and, opK_some]
        rw [run_fun]
        cases fm args with
        | none => rfl
        | some r =>
          cases r with
          | exc x outs => rfl
          | ok ev outs => cases ev <;> simp
def nxK (P : Prop) (R : Prop) (o : Option EV) (_ : Dum P := ()) (_ : Dum R := ()) : Prop := match o with
  | some (.new _) => P
  | _ => R
@[simp] theorem nxK_new {P R : Prop} {o : OV} : nxK P R (some (.new o)) = P := rfl
@[simp] theorem nxK_val {P R : Prop} {o : D} : nxK P R (some (.val o)) = R := rfl
@[simp] theorem nxK_bor {P R : Prop} {o : Nat} : nxK P R (some (.bor o)) = R := rfl
@[simp] theorem run_callX {j : Nat} {sig : List Bool} {fm : M EV} : Wp (mCallX j sig fm mas) ms Q E = Wp mas ms (fun es ms1 => nxK (Wp (mCallN j sig fm (M.pure es)) ms1 Q E) (Wp (mCallF sig fm (M.pure es)) ms1 Q E) es[j]?) E := by
  unfold mCallX
  rw [Wp.bind]; refine Wp.ext fun es ms1 => ?_
  rw [run_fun]
  cases hj : es[j]? with
  | none => rfl
  | some ev => cases ev <;> rfl
end
end Fw
set_option Elab.async false
set_option linter.all false
set_option maxRecDepth 100000
set_option maxHeartbeats 4000000
/-! xs[::-1] of a list -/
namespace PySem
theorem slicePick_rev (its : List Value) : slicePick its.toArray none none (some (-1)) = its.reverse.toArray := by
  have e1 : (sliceBounds none none (some (-1)) its.toArray.size) = ((its.length : Int) - 1, -1, -1) := by
    unfold sliceBounds
    simp
  unfold slicePick
  rw [e1]
  dsimp only
  congr 1
  unfold sliceRange
  have hc : (if (-1 : Int) > 0 then (if (its.length : Int) - 1 < -1 then ((-1 : Int) - ((its.length : Int) - 1) + -1 - 1) / -1 else 0) else (if (its.length : Int) - 1 > -1 then ((its.length : Int) - 1 - -1 - -1 - 1) / (-(-1)) else 0)).toNat = its.length := by
    rw [if_neg (by decide)]
    split
    · have : ((its.length : Int) - 1 - -1 - -1 - 1) / (-(-1)) = its.length := by
        have : (-(-1) : Int) = 1 := rfl
        rw [this, Int.ediv_one]; omega
      rw [this]; simp
    · omega
  show ((List.range (if (-1 : Int) > 0 then (if (its.length : Int) - 1 < -1 then ((-1 : Int) - ((its.length : Int) - 1) + -1 - 1) / -1 else 0) else (if (its.length : Int) - 1 > -1 then ((its.length : Int) - 1 - -1 - -1 - 1) / (-(-1)) else 0)).toNat).map fun (k : Nat) => ((its.length : Int) - 1 + -1 * (k : Int)).toNat).filterMap (fun x => its.toArray[x]?) = its.reverse
  rw [hc, List.filterMap_map]
  have h := Fw.pick_rev its its.length (Nat.le_refl _)
  rw [← List.length_reverse (as := its), List.take_length] at h
  rw [List.length_reverse] at h
  rw [← h]
  congr 1
  funext m
  simp only [Function.comp_apply, List.getElem?_toArray]
  congr 2
  omega
end PySem
namespace Fw
section
open PySem PySem.Spec PyProof.Rows L2
variable {X : Cx}
theorem getItem_tail_rev {e : Expr} {te : TE} {k : Nat} {p1 p2 p3 pos : Pos} (he : PE X e te) : PE X (.Subscript e (.Slice none none (some (.UnaryOp .USub (.Constant (.int 1) k p1) p2)) p3) pos)
    (fun σ H Q => te σ H fun x H2 => ∃ a xs, x = .ref a ∧ SqL X.K H2 a xs ∧ ∀ p, H2 p = none → Q (.ref p) (upd H2 p (.lst xs.reverse))) := by
  refine ⟨fun pins s σ H Q I h => ?_⟩
  refine Subscript_ (thn (he.run pins s σ H _ I h) fun v s1 ⟨x, H1, I1, r1, q1⟩ => ?_)
  have hst : PO X (some (.UnaryOp .USub (.Constant (.int 1) k p1) p2)) (tPart (tUn (rU fun i => .int (-i)) (tC (.int 1)))) := po_some (pe_un un_neg pe_int)
  refine wpAny_Slice (thn (po_none.run pins s1 σ H1 (fun o H2 => o = none ∧ H2 = H1) I1 ⟨rfl, rfl⟩) fun vl s2 ⟨l, H2, I2, pl, el, e2⟩ => ?_)
  subst el e2
  refine thn (po_none.run pins s2 σ H2 (fun o H3 => o = none ∧ H3 = H2) I2 ⟨rfl, rfl⟩) fun vu s3 ⟨u, H3, I3, pu, eu, e3⟩ => ?_
  subst eu e3
  refine thn (hst.run pins s3 σ H3 (fun o H4 => o = some (-1) ∧ H4 = H3) I3 ⟨1, rfl, -1, rfl, rfl, rfl⟩) fun vs s4 ⟨o, H4, I4, ps, eo, e4⟩ => ?_
  subst eo e4
  obtain ⟨a, xs, ex, hx, q⟩ := q1
  subst ex
  cases r1
  have I5 : L2.Inv X pins σ H4 { s4 with heap := s4.heap.push { cls := .type "slice", data := .fields #[vl, vu, vs] } } := I4.kept (t' := s4.toks) fun b ob q => Heap.get?_push_of_some _ q
  obtain ⟨its, r, ht, hz⟩ := I5.list hx
  have hlen := r.length
  show wpAny (model X.prog X.w) X.A (subscriptTail e (.Slice none none (some (.UnaryOp .USub (.Constant (.int 1) k p1) p2)) p3) (.ref a) (.ref s4.heap.objs.size)) (EP X pins σ Q) X.xe { s4 with heap := s4.heap.push { cls := .type "slice", data := .fields #[vl, vu, vs] } }
  refine tail_any (ops := [.ref a, .ref s4.heap.objs.size]) ht.isList.typeIs (slot_list_getitem.lookup) ?_ (by with_unfolding_all rfl)
  refine wpAny_getItem_list_slice ht.isList (Heap.IsSliceOf.new _ vl vu vs) pl pu ps (by simp) ?_ (by rw [List.size_toArray] <;> omega)
  rw [slicePick_rev]
  refine ⟨.ref _, _, I5.laid (t' := s4.toks) (o := .lst xs.reverse) (fun b ob q => Heap.get?_push_of_some _ q) (Nat.le_refl _) ?_, rfl, q _ (I5.hok.fresh (Nat.le_refl _))⟩
  exact ⟨by rw [List.length_reverse]; exact hz, _, 0, r.reverse, Heap.get?_push_size _ rfl⟩
end
open PySem L2
section
variable {X : Cx} {W : WX} {a : Expr} {ma : M EV} {pos : Pos}
def mRevL (m : M EV) : M EV := m.bind fun x => fun ms => match rd ms x with
  | some (.lst ds) => some (.ok (.new (.lst ds.reverse)) ms)
  | _ => none
theorem me_revL {k : Nat} {p1 p2 p3 : Pos} (ha : ME X W a ma) : ME X W (.Subscript a (.Slice none none (some (.UnaryOp .USub (.Constant (.int 1) k p1) p2)) p3) pos) (mRevL ma) := by
  refine PE.imp (getItem_tail_rev ha) fun σ H Q q => ?_
  obtain ⟨ms, G, h⟩ := q
  refine tM_bind G h (fun x ms' z => z) fun e1 ms1 h1 v1 H1 p1 o1 => ?_
  cases hd : rd ms1 e1 with
  | none => simp only [Run, hd] at h1
  | some d =>
    cases d with
    | lst ds =>
      simp only [Run, hd] at h1
      obtain ⟨b, xs, rfl, r1, r2⟩ := rd_ok p1.good o1 hd
      refine ⟨b, xs, rfl, .inl r1, fun p hp => ?_⟩
      have sm := same_new (o := HO.lst xs.reverse) hp
      have ro : ResOk X.K H1 (upd H1 p (.lst xs.reverse)) (.ref p) (.new (.lst ds.reverse)) := ⟨p, rfl, hp, _, upd_same, Reps.mono (.same sm) _ _ (reps_rev r2)⟩
      exact h1 _ _ (p1.trans (.same p1.good sm)) ((ro.ev p1.good).early fun b hb => p1.live b hb)
    | _ => simp only [Run, hd] at h1
end
section
variable {ms : MS} {E : EX → MS → Prop} {Q : EV → MS → Prop} {m : M EV}
def lsK (P : List D → Prop) (o : Option D) (_ : Dum P := ()) : Prop := match o with
  | some (.lst ds) => P ds
  | _ => False
@[simp] theorem lsK_lst {P : List D → Prop} {ds : List D} : lsK P (some (.lst ds)) = P ds := rfl
@[simp] theorem run_revL : Wp (mRevL m) ms Q E = Wp m ms (fun x ms1 => lsK (fun ds => Q (.new (.lst ds.reverse)) ms1) (rd ms1 x)) E := by
  unfold mRevL
  rw [Wp.bind]; refine Wp.ext fun x ms1 => ?_
  rw [run_fun]
  cases rd ms1 x with
  | none => rfl
  | some d => cases d <;> rfl
end
end Fw
set_option Elab.async false
set_option linter.all false
set_option maxRecDepth 100000
set_option maxHeartbeats 4000000
namespace Fw
open PySem L2
def topS (i : Nat) : Stmt := PySem.Challenge.pw_foldwarrant_k06_match_and_meet.main.body.getD i (.Pass ⟨0, 0, 0, 0⟩)
/-! ### match_rows -/
noncomputable def f_match_rows_E1 : M EV := (mTup (mCons (mOp2 ixD (mVar 0) (mVar 4)) (mCons (mOp2 ixD (mVar 1) (mVar 4)) mNil)))
noncomputable def f_match_rows_C2 : M EV := (mComp (mRg1 (mCallB bLenX (mCons (mVar 1) mNil))) [4] (gNm 4) (M.pure true) f_match_rows_E1)
noncomputable def f_match_rows_E3 : M EV := (mTup (mCons (mOp2 ixD (mVar 5) (mVar 4)) (mCons (mOp2 ixD (mVar 6) (mVar 4)) mNil)))
noncomputable def f_match_rows_C4 : M EV := (mComp (mRg2 (M.pure (.val (.int 1))) (mCallB bLenX (mCons (mVar 6) mNil))) [4] (gNm 4) (M.pure true) f_match_rows_E3)
noncomputable def f_match_rows_W5 : M Bool := (mTru (mVar 3))
noncomputable def f_match_rows_L6 : MSt := (sSeq (sUnp (gTp 2 (gsCons (gNm 5) (gsCons (gNm 6) gsNil))) (mMeth0 "list" gPop 3)) (sIf (mTru (mCallB bIsIX (mCons (mVar 5) (mCons (M.pure (.val (.ty "str"))) mNil)))) (sIf (mB (mOp2 memD (mVar 5) (mVar 2))) (sIf (mB (mOp2 neD (mOp2 ixD (mVar 2) (mVar 5)) (mVar 6))) (sRet (M.pure (.val .non))) sNx) (sSetI setO 2 (mVar 5) (mVar 6))) (sIf (mOrT (mTru (mCallB bIsIX (mCons (mVar 6) (mCons (M.pure (.val (.ty "str"))) mNil)))) (mOrT (mB (mOp2 neD (mOp2 ixD (mVar 6) (M.pure (.val (.int 0)))) (mOp2 ixD (mVar 5) (M.pure (.val (.int 0)))))) (mB (mOp2 neD (mCallB bLenX (mCons (mVar 6) mNil)) (mCallB bLenX (mCons (mVar 5) mNil)))))) (sRet (M.pure (.val .non))) (sExpr (mMeth "list" rds gExtend 3 (mCons f_match_rows_C4 mNil))))))
noncomputable def f_match_rows : MSt := (sSeq (sIf (mB (mOp2 neD (mCallB bLenX (mCons (mVar 0) mNil)) (mCallB bLenX (mCons (mVar 1) mNil)))) (sRet (M.pure (.val .non))) sNx) (sSeq (sAsg 2 (M.pure (.new (.dic false [] [])))) (sSeq (sAsgN 3 f_match_rows_C2) (sSeq (sWhile f_match_rows_W5 f_match_rows_L6) (sRet (mVar 2))))))
noncomputable def fm_match_rows : M EV := fmOf 7 f_match_rows
theorem sc_match_rows : FnScope ["patterns", "terms", "images", "waiting", "number", "pattern", "term"] ["patterns", "terms"] (defScope (topS 1)) := ⟨rfl, rfl, rfl, by decide +kernel, rfl, by decide +kernel, by decide +kernel⟩
theorem good_match_rows {P : Program} {w : World} {K : PySem.W.Frag} {mg : Str → Option Value} {base : Heap} {f : Addr} {fd : FuncData} (F : Fun K "match_rows" "match_rows" (topS 1) f fd) (bd : Binds K fd ["patterns", "terms"] []) (hm : mg "match_rows" = some (.ref f)) (z_isinstance : mg "isinstance" = none) (z_len : mg "len" = none) (z_range : mg "range" = none) (z_str : mg "str" = none) : FnGood P w K mg base "match_rows" 2 1 fm_match_rows :=
  have sc := sc_match_rows
  good_mk F bd hm sc fun X W cdv A outer s H E hX hr tk po => by
    subst hX
    exact (mss_cons (ms_if (xCmT (o_ne hr.units) (xCB c_lenX z_len (xA (xV 0) ma_nil)) (xCB c_lenX z_len (xA (xV 1) ma_nil))) (mss_one (ms_ret xN)) mss_nil)
    (mss_cons (zAs 2 sc.nd (xDn false))
    (mss_cons (zAc 3 [("number", 4)] sc.nd (xR1 z_range (xCB c_lenX z_len (xA (xV 1) ma_nil))) (blkOk_by (by rfl)) (fun _ _ _ _ _ => (xG sc.nd)) (fun _ _ _ _ _ => pts0) (fun _ _ _ _ _ => (me_tup (xA (xIx (hu_of hr) (xV 0) (xV 4)) (xA (xIx (hu_of hr) (xV 1) (xV 4)) ma_nil)))))
    (mss_cons (ms_while po (xTr (xV 3)) (mss_cons (zUn (xGt (xGs (xG sc.nd) (xGs (xG sc.nd) mgs_nil))) (xM0 3 m_pop PySem.F.plainAttrs_list PySem.F.slot_list_pop PySem.F.type_list_pop))
    (mss_one (ms_if (xTr (xCB c_isiX z_isinstance (xA (xV 5) (xA (xTy z_str) ma_nil)))) (mss_one (ms_if (xCmT (o_mem (u65 hr)) (xV 5) (xV 2)) (mss_one (ms_if (xCmT (o_ne hr.units) (xIx (hu_of hr) (xV 2) (xV 5)) (xV 6)) (mss_one (ms_ret xN)) mss_nil)) (mss_one (zSe 2 (hu_of hr) (xV 6) (xV 5))))) (mss_one (ms_if (xW (mw_or (xTr (xCB c_isiX z_isinstance (xA (xV 6) (xA (xTy z_str) ma_nil)))) (mw_or (xCmT (o_ne hr.units) (xIx (hu_of hr) (xV 6) xI) (xIx (hu_of hr) (xV 5) xI)) (mw_one (xCmT (o_ne hr.units) (xCB c_lenX z_len (xA (xV 6) ma_nil)) (xCB c_lenX z_len (xA (xV 5) ma_nil))))))) (mss_one (ms_ret xN)) (mss_one (zEx (xMB 3 m_extend PySem.F.plainAttrs_list PySem.F.slot_list_extend PySem.F.type_list_extend (xA (xL [("number", 4)] sc.nd (xR2 z_range xI (xCB c_lenX z_len (xA (xV 6) ma_nil))) (blkOk_by (by rfl)) (fun _ _ _ _ _ => (xG sc.nd)) (fun _ _ _ _ _ => pts0) (fun _ _ _ _ _ => (me_tup (xA (xIx (hu_of hr) (xV 5) (xV 4)) (xA (xIx (hu_of hr) (xV 6) (xV 4)) ma_nil))))) ma_nil))))))))))
    (mss_one (ms_ret (xV 2)))))))
/-! ### match_term -/
noncomputable def f_match_term : MSt := (sRet (mCallF [false, false] fm_match_rows (mCons (mTup (mCons (mVar 0) mNil)) (mCons (mTup (mCons (mVar 1) mNil)) mNil))))
noncomputable def fm_match_term : M EV := fmOf 2 f_match_term
theorem sc_match_term : FnScope ["pattern", "term"] ["pattern", "term"] (defScope (topS 2)) := ⟨rfl, rfl, rfl, by decide +kernel, rfl, by decide +kernel, by decide +kernel⟩
theorem good_match_term {P : Program} {w : World} {K : PySem.W.Frag} {mg : Str → Option Value} {base : Heap} {f : Addr} {fd : FuncData} (F : Fun K "match_term" "match_term" (topS 2) f fd) (bd : Binds K fd ["pattern", "term"] []) (hm : mg "match_term" = some (.ref f)) (G_match_rows : FnGood P w K mg base "match_rows" 2 1 fm_match_rows) : FnGood P w K mg base "match_term" 2 2 fm_match_term :=
  have sc := sc_match_term
  good_mk F bd hm sc fun X W cdv A outer s H E hX hr tk po => by
    subst hX
    exact (mss_one (ms_ret (xC [false, false] G_match_rows hr tk (xA (me_tup (xA (xV 0) ma_nil)) (xA (me_tup (xA (xV 1) ma_nil)) ma_nil)))))
/-! ### patterns_meet -/
noncomputable def f_patterns_meet_E1 : M EV := (mTup (mCons (mOp2 ixD (mVar 0) (mVar 3)) (mCons (mOp2 ixD (mVar 1) (mVar 3)) mNil)))
noncomputable def f_patterns_meet_C2 : M EV := (mComp (mRg1 (mCallB bLenX (mCons (mVar 0) mNil))) [3] (gNm 3) (M.pure true) f_patterns_meet_E1)
noncomputable def f_patterns_meet_E3 : M EV := (mTup (mCons (mOp2 ixD (mVar 4) (mVar 3)) (mCons (mOp2 ixD (mVar 5) (mVar 3)) mNil)))
noncomputable def f_patterns_meet_C4 : M EV := (mComp (mRg2 (M.pure (.val (.int 1))) (mCallB bLenX (mCons (mVar 4) mNil))) [3] (gNm 3) (M.pure true) f_patterns_meet_E3)
noncomputable def f_patterns_meet_W5 : M Bool := (mTru (mVar 2))
noncomputable def f_patterns_meet_L6 : MSt := (sSeq (sUnp (gTp 2 (gsCons (gNm 4) (gsCons (gNm 5) gsNil))) (mMeth0 "list" gPop 2)) (sSeq (sIf (mOrT (mTru (mCallB bIsIX (mCons (mVar 4) (mCons (M.pure (.val (.ty "str"))) mNil)))) (mTru (mCallB bIsIX (mCons (mVar 5) (mCons (M.pure (.val (.ty "str"))) mNil))))) (M.pure .ct) sNx) (sSeq (sIf (mB (mOp2 neD (mOp2 ixD (mVar 4) (M.pure (.val (.int 0)))) (mOp2 ixD (mVar 5) (M.pure (.val (.int 0)))))) (sRet (M.pure (.val (.bl false)))) sNx) (sExpr (mMeth "list" rds gExtend 2 (mCons f_patterns_meet_C4 mNil))))))
noncomputable def f_patterns_meet : MSt := (sSeq (sAsgN 2 f_patterns_meet_C2) (sSeq (sWhile f_patterns_meet_W5 f_patterns_meet_L6) (sRet (M.pure (.val (.bl true))))))
noncomputable def fm_patterns_meet : M EV := fmOf 6 f_patterns_meet
theorem sc_patterns_meet : FnScope ["first", "second", "waiting", "number", "one", "other"] ["first", "second"] (defScope (topS 3)) := ⟨rfl, rfl, rfl, by decide +kernel, rfl, by decide +kernel, by decide +kernel⟩
theorem good_patterns_meet {P : Program} {w : World} {K : PySem.W.Frag} {mg : Str → Option Value} {base : Heap} {f : Addr} {fd : FuncData} (F : Fun K "patterns_meet" "patterns_meet" (topS 3) f fd) (bd : Binds K fd ["first", "second"] []) (hm : mg "patterns_meet" = some (.ref f)) (z_isinstance : mg "isinstance" = none) (z_len : mg "len" = none) (z_range : mg "range" = none) (z_str : mg "str" = none) : FnGood P w K mg base "patterns_meet" 2 1 fm_patterns_meet :=
  have sc := sc_patterns_meet
  good_mk F bd hm sc fun X W cdv A outer s H E hX hr tk po => by
    subst hX
    exact (mss_cons (zAc 2 [("number", 3)] sc.nd (xR1 z_range (xCB c_lenX z_len (xA (xV 0) ma_nil))) (blkOk_by (by rfl)) (fun _ _ _ _ _ => (xG sc.nd)) (fun _ _ _ _ _ => pts0) (fun _ _ _ _ _ => (me_tup (xA (xIx (hu_of hr) (xV 0) (xV 3)) (xA (xIx (hu_of hr) (xV 1) (xV 3)) ma_nil)))))
    (mss_cons (ms_while po (xTr (xV 2)) (mss_cons (zUn (xGt (xGs (xG sc.nd) (xGs (xG sc.nd) mgs_nil))) (xM0 2 m_pop PySem.F.plainAttrs_list PySem.F.slot_list_pop PySem.F.type_list_pop))
    (mss_cons (ms_if (xW (mw_or (xTr (xCB c_isiX z_isinstance (xA (xV 4) (xA (xTy z_str) ma_nil)))) (mw_one (xTr (xCB c_isiX z_isinstance (xA (xV 5) (xA (xTy z_str) ma_nil))))))) (mss_one ms_continue) mss_nil)
    (mss_cons (ms_if (xCmT (o_ne hr.units) (xIx (hu_of hr) (xV 4) xI) (xIx (hu_of hr) (xV 5) xI)) (mss_one (ms_ret xB)) mss_nil)
    (mss_one (zEx (xMB 2 m_extend PySem.F.plainAttrs_list PySem.F.slot_list_extend PySem.F.type_list_extend (xA (xL [("number", 3)] sc.nd (xR2 z_range xI (xCB c_lenX z_len (xA (xV 4) ma_nil))) (blkOk_by (by rfl)) (fun _ _ _ _ _ => (xG sc.nd)) (fun _ _ _ _ _ => pts0) (fun _ _ _ _ _ => (me_tup (xA (xIx (hu_of hr) (xV 4) (xV 3)) (xA (xIx (hu_of hr) (xV 5) (xV 3)) ma_nil))))) ma_nil))))))))
    (mss_one (ms_ret xB))))
/-! ### _law_begin -/
theorem sc_law_begin : FnScope ["script", "cell"] ["script"] (defScope (topS 5)) := ⟨rfl, rfl, rfl, by decide +kernel, rfl, by decide +kernel, by decide +kernel⟩
theorem good_law_begin {P : Program} {w : World} {K : PySem.W.Frag} {mg : Str → Option Value} {base : Heap} {f : Addr} {fd : FuncData} (F : Fun K "_law_begin" "_law_begin" (topS 5) f fd) (bd : Binds K fd ["script"] []) (hm : mg "_law_begin" = some (.ref f)) (z_int : mg "int" = none) : FnGood P w K mg base "_law_begin" 1 1 fm_law_begin :=
  have sc := sc_law_begin
  good_mk F bd hm sc fun X W cdv A outer s H E hX hr tk po => by
    subst hX
    exact (mss_one (ms_ret (me_lst (xA (me_fz (xL [("cell", 1)] sc.nd (mi_seq (xV 0)) (blkOk_by (by rfl)) (fun _ _ _ _ _ => (xG sc.nd)) (fun _ _ _ _ _ => pts0) (fun _ _ _ _ _ => (xCT c_int z_int (xA (xV 1) ma_nil))))) (xA xI (xA xI (xA xI (xA xI ma_nil))))))))
/-! ### _law_draw -/
theorem sc_law_draw : FnScope ["d", "many", "found", "cell", "size"] ["d", "many"] (defScope (topS 6)) := ⟨rfl, rfl, rfl, by decide +kernel, rfl, by decide +kernel, by decide +kernel⟩
theorem good_law_draw {P : Program} {w : World} {K : PySem.W.Frag} {mg : Str → Option Value} {base : Heap} {f : Addr} {fd : FuncData} (F : Fun K "_law_draw" "_law_draw" (topS 6) f fd) (bd : Binds K fd ["d", "many"] []) (hm : mg "_law_draw" = some (.ref f)) (z_abs : mg "abs" = none) (z_int : mg "int" = none) (z_len : mg "len" = none) (z_max : mg "max" = none) : FnGood P w K mg base "_law_draw" 2 1 fm_law_draw :=
  have sc := sc_law_draw
  good_mk F bd hm sc fun X W cdv A outer s H E hX hr tk po => by
    subst hX
    exact (mss_cons (zAs 1 sc.nd (xCB (c_max rfl) z_max (xA (xV 1) (xA xI ma_nil))))
    (mss_cons (ms_if (xCmT o_igt (xIx (hu_of hr) (xV 0) xI) xI) (mss_cons (zAs 2 sc.nd (xIx (hu_of hr) (xV 0) xI))
    (mss_cons (zSe 0 (hu_of hr) (me_op2 o_idiv (xV 2) (xV 1)) xI)
    (mss_one (ms_ret (me_op2 o_imod (xCT c_int z_int (xA (xV 2) ma_nil)) (xV 1)))))) mss_nil)
    (mss_cons (zAs 3 sc.nd (me_ifExp (xCmT o_ilt (xIx (hu_of hr) (xV 0) xI) (xCB c_len z_len (xA (xIx (hu_of hr) (xV 0) xI) ma_nil))) (xIx (hu_of hr) (xIx (hu_of hr) (xV 0) xI) (xIx (hu_of hr) (xV 0) xI)) xI))
    (mss_cons (zAs 4 sc.nd (me_op2 o_add (me_op2 o_mul xI (xCB c_abs z_abs (xA (xV 3) ma_nil))) (xCT c_int z_int (xA (xCm o_ilt (xV 3) xI) ma_nil))))
    (mss_cons (zAi 0 (hu_of hr) o_ladd xI xI)
    (mss_cons (ms_if (xCmT o_ige (xV 4) (me_op2 o_mul xI (me_op2 o_ipow xI xI))) (mss_cons (zAs 2 sc.nd (me_op2 o_imod (xCT c_int z_int (xA (me_op2 o_idiv (xV 4) xI) ma_nil)) (me_op2 o_ishl xI xI)))
    (mss_cons (zSe 0 (hu_of hr) (me_op2 o_idiv (xV 2) (xV 1)) xI)
    (mss_one (ms_ret (me_op2 o_imod (xCT c_int z_int (xA (xV 2) ma_nil)) (xV 1)))))) mss_nil)
    (mss_cons (zSe 0 (hu_of hr) (me_op2 o_imod (xCT c_int z_int (xA (me_op2 o_add (me_op2 o_add (me_op2 o_add (me_op2 o_mul (xIx (hu_of hr) (xV 0) xI) xI) (me_op2 o_mul (me_op2 o_imod (xCT c_int z_int (xA (xV 4) ma_nil)) xI) xI)) (me_op2 o_mul (xIx (hu_of hr) (xV 0) xI) xI)) xI) ma_nil)) xI) xI)
    (mss_one (ms_ret (me_op2 o_imod (xCT c_int z_int (xA (me_op2 o_idiv (xIx (hu_of hr) (xV 0) xI) xI) ma_nil)) (xV 1)))))))))))
/-! ### _law_pick -/
theorem sc_law_pick : FnScope ["d", "row"] ["d", "row"] (defScope (topS 7)) := ⟨rfl, rfl, rfl, by decide +kernel, rfl, by decide +kernel, by decide +kernel⟩
theorem good_law_pick {P : Program} {w : World} {K : PySem.W.Frag} {mg : Str → Option Value} {base : Heap} {f : Addr} {fd : FuncData} (F : Fun K "_law_pick" "_law_pick" (topS 7) f fd) (bd : Binds K fd ["d", "row"] []) (hm : mg "_law_pick" = some (.ref f)) (G_law_draw : FnGood P w K mg base "_law_draw" 2 1 fm_law_draw) (z_len : mg "len" = none) : FnGood P w K mg base "_law_pick" 2 2 fm_law_pick :=
  have sc := sc_law_pick
  good_mk F bd hm sc fun X W cdv A outer s H E hX hr tk po => by
    subst hX
    exact (mss_one (ms_ret (xIx (hu_of hr) (xV 1) (xC [true, false] G_law_draw hr tk (xA (xV 0) (xA (xCB c_len z_len (xA (xV 1) ma_nil)) ma_nil))))))
/-! ### _law_pop -/
noncomputable def f_law_pop : MSt := (sRet (mMeth "list" rds gPopAt 1 (mCons (mCallF [true, false] fm_law_draw (mCons (mVar 0) (mCons (mCallB bLenX (mCons (mVar 1) mNil)) mNil))) mNil)))
noncomputable def fm_law_pop : M EV := fmOf 2 f_law_pop
theorem sc_law_pop : FnScope ["d", "row"] ["d", "row"] (defScope (topS 8)) := ⟨rfl, rfl, rfl, by decide +kernel, rfl, by decide +kernel, by decide +kernel⟩
theorem good_law_pop {P : Program} {w : World} {K : PySem.W.Frag} {mg : Str → Option Value} {base : Heap} {f : Addr} {fd : FuncData} (F : Fun K "_law_pop" "_law_pop" (topS 8) f fd) (bd : Binds K fd ["d", "row"] []) (hm : mg "_law_pop" = some (.ref f)) (G_law_draw : FnGood P w K mg base "_law_draw" 2 1 fm_law_draw) (z_len : mg "len" = none) : FnGood P w K mg base "_law_pop" 2 2 fm_law_pop :=
  have sc := sc_law_pop
  good_mk F bd hm sc fun X W cdv A outer s H E hX hr tk po => by
    subst hX
    exact (mss_one (ms_ret (xMB 1 m_popAt PySem.F.plainAttrs_list PySem.F.slot_list_pop PySem.F.type_list_pop (xA (xC [true, false] G_law_draw hr tk (xA (xV 0) (xA (xCB c_lenX z_len (xA (xV 1) ma_nil)) ma_nil))) ma_nil))))
/-! ### _law_rare -/
theorem sc_law_rare : FnScope ["d", "many"] ["d", "many"] (defScope (topS 9)) := ⟨rfl, rfl, rfl, by decide +kernel, rfl, by decide +kernel, by decide +kernel⟩
theorem good_law_rare {P : Program} {w : World} {K : PySem.W.Frag} {mg : Str → Option Value} {base : Heap} {f : Addr} {fd : FuncData} (F : Fun K "_law_rare" "_law_rare" (topS 9) f fd) (bd : Binds K fd ["d", "many"] []) (hm : mg "_law_rare" = some (.ref f)) (G_law_draw : FnGood P w K mg base "_law_draw" 2 1 fm_law_draw) : FnGood P w K mg base "_law_rare" 2 2 fm_law_rare :=
  have sc := sc_law_rare
  good_mk F bd hm sc fun X W cdv A outer s H E hX hr tk po => by
    subst hX
    exact (mss_one (ms_ret (xCm (o_eq hr.units) (xC [true, false] G_law_draw hr tk (xA (xV 0) (xA (xV 1) ma_nil))) (me_op2 o_idiv (xV 1) xI))))
/-! ### _law_shuffled -/
noncomputable def f_law_shuffled_L1 : MSt := (sExpr (mMeth "list" (fun _ => vals) gAppend 3 (mCons (mMeth "list" rds gPopAt 2 (mCons (mCallF [true, false] fm_law_draw (mCons (mVar 0) (mCons (mCallB bLenX (mCons (mVar 2) mNil)) mNil))) mNil)) mNil)))
noncomputable def f_law_shuffled : MSt := (sSeq (sAsg 2 (mCallB bListX (mCons (mVar 1) mNil))) (sSeq (sAsg 3 (mLst mNil)) (sSeq (sFor (mRg1 (mCallB bLenX (mCons (mVar 2) mNil))) (gNm 4) f_law_shuffled_L1) (sRet (mVar 3)))))
noncomputable def fm_law_shuffled : M EV := fmOf 5 f_law_shuffled
theorem sc_law_shuffled : FnScope ["d", "row", "left", "found", "k"] ["d", "row"] (defScope (topS 10)) := ⟨rfl, rfl, rfl, by decide +kernel, rfl, by decide +kernel, by decide +kernel⟩
theorem good_law_shuffled {P : Program} {w : World} {K : PySem.W.Frag} {mg : Str → Option Value} {base : Heap} {f : Addr} {fd : FuncData} (F : Fun K "_law_shuffled" "_law_shuffled" (topS 10) f fd) (bd : Binds K fd ["d", "row"] []) (hm : mg "_law_shuffled" = some (.ref f)) (G_law_draw : FnGood P w K mg base "_law_draw" 2 1 fm_law_draw) (z_len : mg "len" = none) (z_list : mg "list" = none) (z_range : mg "range" = none) : FnGood P w K mg base "_law_shuffled" 2 2 fm_law_shuffled :=
  have sc := sc_law_shuffled
  good_mk F bd hm sc fun X W cdv A outer s H E hX hr tk po => by
    subst hX
    exact (mss_cons (zAs 2 sc.nd (xCT (c_listX rfl) z_list (xA (xV 1) ma_nil)))
    (mss_cons (zAs 3 sc.nd (me_lst ma_nil))
    (mss_cons (zFo po (xR1 z_range (xCB c_lenX z_len (xA (xV 2) ma_nil))) (xG sc.nd) (mss_one (zEx (xMV 3 m_append PySem.F.plainAttrs_list PySem.F.slot_list_append PySem.F.type_list_append (xA (xMB 2 m_popAt PySem.F.plainAttrs_list PySem.F.slot_list_pop PySem.F.type_list_pop (xA (xC [true, false] G_law_draw hr tk (xA (xV 0) (xA (xCB c_lenX z_len (xA (xV 2) ma_nil)) ma_nil))) ma_nil)) ma_nil)))))
    (mss_one (ms_ret (xV 3))))))
/-! ### _law_small_names -/
noncomputable def f_law_small_names_R1 : M EV := (mLst (mCons (M.pure (.val (.str (Str.ofString "a")))) (mCons (M.pure (.val (.str (Str.ofString "b2")))) (mCons (M.pure (.val (.str (Str.ofString "sum")))) (mCons (M.pure (.val (.str (Str.ofString "left")))) (mCons (M.pure (.val (.str (Str.ofString "r")))) (mCons (M.pure (.val (.str (Str.ofString "k0")))) (mCons (M.pure (.val (.str (Str.ofString "carry")))) (mCons (M.pure (.val (.str (Str.ofString "z9z")))) (mCons (M.pure (.val (.str (Str.ofString "full")))) (mCons (M.pure (.val (.str (Str.ofString "n")))) (mCons (M.pure (.val (.str (Str.ofString "m8")))) (mCons (M.pure (.val (.str (Str.ofString "aa")))) (mCons (M.pure (.val (.str (Str.ofString "p")))) (mCons (M.pure (.val (.str (Str.ofString "t4")))) (mCons (M.pure (.val (.str (Str.ofString "v")))) (mCons (M.pure (.val (.str (Str.ofString "go")))) (mCons (M.pure (.val (.str (Str.ofString "hop")))) (mCons (M.pure (.val (.str (Str.ofString "ix")))) (mCons (M.pure (.val (.str (Str.ofString "jam")))) (mCons (M.pure (.val (.str (Str.ofString "key")))) (mCons (M.pure (.val (.str (Str.ofString "low")))) (mCons (M.pure (.val (.str (Str.ofString "mid")))) (mCons (M.pure (.val (.str (Str.ofString "nub")))) (mCons (M.pure (.val (.str (Str.ofString "odd1")))) (mCons (M.pure (.val (.str (Str.ofString "pat")))) (mCons (M.pure (.val (.str (Str.ofString "qua")))) (mCons (M.pure (.val (.str (Str.ofString "rim")))) (mCons (M.pure (.val (.str (Str.ofString "sip")))) (mCons (M.pure (.val (.str (Str.ofString "tux")))) (mCons (M.pure (.val (.str (Str.ofString "ump")))) (mCons (M.pure (.val (.str (Str.ofString "vat")))) (mCons (M.pure (.val (.str (Str.ofString "wax")))) (mCons (M.pure (.val (.str (Str.ofString "yen")))) (mCons (M.pure (.val (.str (Str.ofString "zed")))) mNil)))))))))))))))))))))))))))))))))))
noncomputable def f_law_small_names : MSt := (sRet f_law_small_names_R1)
noncomputable def fm_law_small_names : M EV := fmOf 0 f_law_small_names
theorem sc_law_small_names : FnScope [] [] (defScope (topS 11)) := ⟨rfl, rfl, rfl, by decide +kernel, rfl, by decide +kernel, by decide +kernel⟩
theorem good_law_small_names {P : Program} {w : World} {K : PySem.W.Frag} {mg : Str → Option Value} {base : Heap} {f : Addr} {fd : FuncData} (F : Fun K "_law_small_names" "_law_small_names" (topS 11) f fd) (bd : Binds K fd [] []) (hm : mg "_law_small_names" = some (.ref f)) : FnGood P w K mg base "_law_small_names" 0 1 fm_law_small_names :=
  have sc := sc_law_small_names
  good_mk F bd hm sc fun X W cdv A outer s H E hX hr tk po => by
    subst hX
    exact (mss_one (ms_ret (me_lst (xA xS (xA xS (xA xS (xA xS (xA xS (xA xS (xA xS (xA xS (xA xS (xA xS (xA xS (xA xS (xA xS (xA xS (xA xS (xA xS (xA xS (xA xS (xA xS (xA xS (xA xS (xA xS (xA xS (xA xS (xA xS (xA xS (xA xS (xA xS (xA xS (xA xS (xA xS (xA xS (xA xS (xA xS ma_nil)))))))))))))))))))))))))))))))))))))
/-! ### _law_great_names -/
noncomputable def f_law_great_names_R1 : M EV := (mLst (mCons (M.pure (.val (.str (Str.ofString "A")))) (mCons (M.pure (.val (.str (Str.ofString "Zero")))) (mCons (M.pure (.val (.str (Str.ofString "Succ")))) (mCons (M.pure (.val (.str (Str.ofString "Nil")))) (mCons (M.pure (.val (.str (Str.ofString "Cons")))) (mCons (M.pure (.val (.str (Str.ofString "Leaf")))) (mCons (M.pure (.val (.str (Str.ofString "Node")))) (mCons (M.pure (.val (.str (Str.ofString "T")))) (mCons (M.pure (.val (.str (Str.ofString "F")))) (mCons (M.pure (.val (.str (Str.ofString "Mid")))) (mCons (M.pure (.val (.str (Str.ofString "Red")))) (mCons (M.pure (.val (.str (Str.ofString "Blue")))) (mCons (M.pure (.val (.str (Str.ofString "Lo")))) (mCons (M.pure (.val (.str (Str.ofString "Hi")))) (mCons (M.pure (.val (.str (Str.ofString "Pair")))) (mCons (M.pure (.val (.str (Str.ofString "Box")))) (mCons (M.pure (.val (.str (Str.ofString "Unit")))) (mCons (M.pure (.val (.str (Str.ofString "K9")))) (mCons (M.pure (.val (.str (Str.ofString "Pp")))) (mCons (M.pure (.val (.str (Str.ofString "Stop")))) mNil)))))))))))))))))))))
noncomputable def f_law_great_names : MSt := (sRet f_law_great_names_R1)
noncomputable def fm_law_great_names : M EV := fmOf 0 f_law_great_names
theorem sc_law_great_names : FnScope [] [] (defScope (topS 12)) := ⟨rfl, rfl, rfl, by decide +kernel, rfl, by decide +kernel, by decide +kernel⟩
theorem good_law_great_names {P : Program} {w : World} {K : PySem.W.Frag} {mg : Str → Option Value} {base : Heap} {f : Addr} {fd : FuncData} (F : Fun K "_law_great_names" "_law_great_names" (topS 12) f fd) (bd : Binds K fd [] []) (hm : mg "_law_great_names" = some (.ref f)) : FnGood P w K mg base "_law_great_names" 0 1 fm_law_great_names :=
  have sc := sc_law_great_names
  good_mk F bd hm sc fun X W cdv A outer s H E hX hr tk po => by
    subst hX
    exact (mss_one (ms_ret (me_lst (xA xS (xA xS (xA xS (xA xS (xA xS (xA xS (xA xS (xA xS (xA xS (xA xS (xA xS (xA xS (xA xS (xA xS (xA xS (xA xS (xA xS (xA xS (xA xS (xA xS ma_nil)))))))))))))))))))))))
/-! ### _law_places -/
noncomputable def f_law_places_L1 : MSt := (sExpr (mMeth "list" (fun _ => vals) gAppend 2 (mCons (mTup (mCons (mOp2 addD (mVar 3) (mTup (mCons (mVar 5) mNil))) (mCons (mOp2 ixD (mVar 4) (mOp2 addD (mVar 5) (M.pure (.val (.int 1))))) mNil))) mNil)))
noncomputable def f_law_places_W2 : M Bool := (mB (mOp2 (intOp iGt) (mCallB bLenX (mCons (mVar 2) mNil)) (M.pure (.val (.int 0)))))
noncomputable def f_law_places_L3 : MSt := (sSeq (sUnp (gTp 2 (gsCons (gNm 3) (gsCons (gNm 4) gsNil))) (mMeth0 "list" gPop 2)) (sSeq (sExpr (mMeth "list" (fun _ => vals) gAppend 1 (mCons (mTup (mCons (mVar 3) (mCons (mVar 4) mNil))) mNil))) (sIf (mNotT (mTru (mCallB bIsIX (mCons (mVar 4) (mCons (M.pure (.val (.ty "str"))) mNil))))) (sFor (mRg3 (mOp2 (intOp iSub) (mCallB bLenX (mCons (mVar 4) mNil)) (M.pure (.val (.int 2)))) (mOp1 iNeg (M.pure (.val (.int 1)))) (mOp1 iNeg (M.pure (.val (.int 1))))) (gNm 5) f_law_places_L1) sNx)))
noncomputable def f_law_places : MSt := (sSeq (sAsg 1 (mLst mNil)) (sSeq (sAsg 2 (mLst (mCons (mTup (mCons (mTup mNil) (mCons (mVar 0) mNil))) mNil))) (sSeq (sWhile f_law_places_W2 f_law_places_L3) (sRet (mVar 1)))))
noncomputable def fm_law_places : M EV := fmOf 6 f_law_places
theorem sc_law_places : FnScope ["term", "found", "line", "path", "part", "k"] ["term"] (defScope (topS 13)) := ⟨rfl, rfl, rfl, by decide +kernel, rfl, by decide +kernel, by decide +kernel⟩
theorem good_law_places {P : Program} {w : World} {K : PySem.W.Frag} {mg : Str → Option Value} {base : Heap} {f : Addr} {fd : FuncData} (F : Fun K "_law_places" "_law_places" (topS 13) f fd) (bd : Binds K fd ["term"] []) (hm : mg "_law_places" = some (.ref f)) (z_isinstance : mg "isinstance" = none) (z_len : mg "len" = none) (z_range : mg "range" = none) (z_str : mg "str" = none) : FnGood P w K mg base "_law_places" 1 1 fm_law_places :=
  have sc := sc_law_places
  good_mk F bd hm sc fun X W cdv A outer s H E hX hr tk po => by
    subst hX
    exact (mss_cons (zAs 1 sc.nd (me_lst ma_nil))
    (mss_cons (zAs 2 sc.nd (me_lst (xA (me_tup (xA (me_tup ma_nil) (xA (xV 0) ma_nil))) ma_nil)))
    (mss_cons (ms_while po (xCmT o_igt (xCB c_lenX z_len (xA (xV 2) ma_nil)) xI) (mss_cons (zUn (xGt (xGs (xG sc.nd) (xGs (xG sc.nd) mgs_nil))) (xM0 2 m_pop PySem.F.plainAttrs_list PySem.F.slot_list_pop PySem.F.type_list_pop))
    (mss_cons (zEx (xMV 1 m_append PySem.F.plainAttrs_list PySem.F.slot_list_append PySem.F.type_list_append (xA (me_tup (xA (xV 3) (xA (xV 4) ma_nil))) ma_nil)))
    (mss_one (ms_if (mt_not (xTr (xCB c_isiX z_isinstance (xA (xV 4) (xA (xTy z_str) ma_nil))))) (mss_one (zFo po (xR3 z_range (me_op2 o_isub (xCB c_lenX z_len (xA (xV 4) ma_nil)) xI) (me_op1 o_neg xI) (me_op1 o_neg xI)) (xG sc.nd) (mss_one (zEx (xMV 2 m_append PySem.F.plainAttrs_list PySem.F.slot_list_append PySem.F.type_list_append (xA (me_tup (xA (me_op2 o_add (xV 3) (me_tup (xA (xV 5) ma_nil))) (xA (xIx (hu_of hr) (xV 4) (me_op2 o_add (xV 5) xI)) ma_nil))) ma_nil)))))) mss_nil)))))
    (mss_one (ms_ret (xV 1))))))
/-! ### _law_set -/
noncomputable def f_law_set (self : M EV) : MSt := (sSeq (sIf (mB (mOp2 eqD (mVar 1) (mTup mNil))) (sRet (mVar 2)) sNx) (sSeq (sAsg 3 (mOp2 addD (mOp2 ixD (mVar 1) (M.pure (.val (.int 0)))) (M.pure (.val (.int 1))))) (sRet (mOp2 addD (mOp2 addD (mSlice slD (mVar 0) (M.pure none) (mInt (mVar 3))) (mTup (mCons (mFz (mCallF [false, false, false] self (mCons (mOp2 ixD (mVar 0) (mVar 3)) (mCons (mFz (mSlice slD (mVar 1) (mInt (M.pure (.val (.int 1)))) (M.pure none))) (mCons (mVar 2) mNil))))) mNil))) (mSlice slD (mVar 0) (mInt (mOp2 addD (mVar 3) (M.pure (.val (.int 1))))) (M.pure none))))))
noncomputable def fm_law_set : M EV := recM 4 f_law_set 60
theorem sc_law_set : FnScope ["term", "path", "new", "spot"] ["term", "path", "new"] (defScope (topS 14)) := ⟨rfl, rfl, rfl, by decide +kernel, rfl, by decide +kernel, by decide +kernel⟩
theorem good_law_set {P : Program} {w : World} {K : PySem.W.Frag} {mg : Str → Option Value} {base : Heap} {f : Addr} {fd : FuncData} (F : Fun K "_law_set" "_law_set" (topS 14) f fd) (bd : Binds K fd ["term", "path", "new"] []) (hm : mg "_law_set" = some (.ref f)) : FnGood P w K mg base "_law_set" 3 61 fm_law_set :=
  have sc := sc_law_set
  good_rec (k0 := 0) F bd hm sc (fun n self G_law_set X W cdv A outer s H E hX hr tk po => by
    subst hX
    exact (mss_cons (ms_if (xCmT (o_eq hr.units) (xV 1) (me_tup ma_nil)) (mss_one (ms_ret (xV 2))) mss_nil)
    (mss_cons (zAs 3 sc.nd (me_op2 o_add (xIx (hu_of hr) (xV 1) xI) xI))
    (mss_one (ms_ret (me_op2 o_add (me_op2 o_add (xSl (xV 0) mo_none (mo_some (xV 3))) (me_tup (xA (me_fz (xCo [false, false, false] G_law_set hr tk (xA (xIx (hu_of hr) (xV 0) (xV 3)) (xA (me_fz (xSl (xV 1) (mo_some xI) mo_none)) (xA (xV 2) ma_nil))))) ma_nil))) (xSl (xV 0) (mo_some (me_op2 o_add (xV 3) xI)) mo_none))))))) 60
/-! ### _law_put -/
noncomputable def f_law_put_E1 (self : M EV) : M EV := (mFz (mCallF [false, false] self (mCons (mVar 2) (mCons (mVar 1) mNil))))
noncomputable def f_law_put_C2 (self : M EV) : M EV := (mComp (mIt (mSlice slD (mVar 0) (mInt (M.pure (.val (.int 1)))) (M.pure none))) [2] (gNm 2) (M.pure true) (f_law_put_E1 self))
noncomputable def f_law_put (self : M EV) : MSt := (sSeq (sIf (mTru (mCallB bIsIX (mCons (mVar 0) (mCons (M.pure (.val (.ty "str"))) mNil)))) (sRet (mGet2 (mVar 1) (mVar 0) (mVar 0))) sNx) (sRet (mOp2 addD (mTup (mCons (mOp2 ixD (mVar 0) (M.pure (.val (.int 0)))) mNil)) (mCallB bTuple (mCons (f_law_put_C2 self) mNil)))))
noncomputable def fm_law_put : M EV := recM 3 f_law_put 60
theorem sc_law_put : FnScope ["term", "images", "part"] ["term", "images"] (defScope (topS 15)) := ⟨rfl, rfl, rfl, by decide +kernel, rfl, by decide +kernel, by decide +kernel⟩
theorem good_law_put {P : Program} {w : World} {K : PySem.W.Frag} {mg : Str → Option Value} {base : Heap} {f : Addr} {fd : FuncData} (F : Fun K "_law_put" "_law_put" (topS 15) f fd) (bd : Binds K fd ["term", "images"] []) (hm : mg "_law_put" = some (.ref f)) (z_isinstance : mg "isinstance" = none) (z_str : mg "str" = none) (z_tuple : mg "tuple" = none) : FnGood P w K mg base "_law_put" 2 61 fm_law_put :=
  have sc := sc_law_put
  good_rec (k0 := 0) F bd hm sc (fun n self G_law_put X W cdv A outer s H E hX hr tk po => by
    subst hX
    exact (mss_cons (ms_if (xTr (xCB c_isiX z_isinstance (xA (xV 0) (xA (xTy z_str) ma_nil)))) (mss_one (ms_ret (me_get2 (hu_of hr) (xV 1) (xV 0) (xV 0) ⟨rfl, rfl, rfl, rfl⟩))) mss_nil)
    (mss_one (ms_ret (me_op2 o_add (me_tup (xA (xIx (hu_of hr) (xV 0) xI) ma_nil)) (xCT c_tuple z_tuple (xA (xL [("part", 2)] sc.nd (mi_it (xSl (xV 0) (mo_some xI) mo_none)) (blkOk_by (by rfl)) (fun _ _ _ _ _ => (xG sc.nd)) (fun _ _ _ _ _ => pts0) (fun _ _ _ _ _ => (me_fz (xCo [false, false] G_law_put hr (takes0 _) (xA (xV 2) (xA (xV 1) ma_nil)))))) ma_nil))))))) 60
/-! ### _law_match -/
noncomputable def f_law_match_E1 : M EV := (mTup (mCons (mOp2 ixD (mVar 0) (mVar 4)) (mCons (mOp2 ixD (mVar 1) (mVar 4)) mNil)))
noncomputable def f_law_match_C2 : M EV := (mComp (mRg1 (mCallB bLenX (mCons (mVar 1) mNil))) [4] (gNm 4) (M.pure true) f_law_match_E1)
noncomputable def f_law_match_E3 : M EV := (mTup (mCons (mOp2 ixD (mVar 5) (mVar 4)) (mCons (mOp2 ixD (mVar 6) (mVar 4)) mNil)))
noncomputable def f_law_match_C4 : M EV := (mComp (mRg2 (M.pure (.val (.int 1))) (mCallB bLenX (mCons (mVar 6) mNil))) [4] (gNm 4) (M.pure true) f_law_match_E3)
noncomputable def f_law_match_W5 : M Bool := (mB (mOp2 (intOp iGt) (mCallB bLenX (mCons (mVar 3) mNil)) (M.pure (.val (.int 0)))))
noncomputable def f_law_match_L6 : MSt := (sSeq (sUnp (gTp 2 (gsCons (gNm 5) (gsCons (gNm 6) gsNil))) (mMeth0 "list" gPop 3)) (sIf (mTru (mCallB bIsIX (mCons (mVar 5) (mCons (M.pure (.val (.ty "str"))) mNil)))) (sSeq (sIf (mB (mOp2 neD (mGet2 (mVar 2) (mVar 5) (mVar 6)) (mVar 6))) (sRet (M.pure (.val .non))) sNx) (sSetI setO 2 (mVar 5) (mVar 6))) (sIf (mOrT (mTru (mCallB bIsIX (mCons (mVar 6) (mCons (M.pure (.val (.ty "str"))) mNil)))) (mOrT (mB (mOp2 neD (mOp2 ixD (mVar 6) (M.pure (.val (.int 0)))) (mOp2 ixD (mVar 5) (M.pure (.val (.int 0)))))) (mB (mOp2 neD (mCallB bLenX (mCons (mVar 6) mNil)) (mCallB bLenX (mCons (mVar 5) mNil)))))) (sRet (M.pure (.val .non))) (sExpr (mMeth "list" rds gExtend 3 (mCons f_law_match_C4 mNil))))))
noncomputable def f_law_match : MSt := (sSeq (sIf (mB (mOp2 neD (mCallB bLenX (mCons (mVar 0) mNil)) (mCallB bLenX (mCons (mVar 1) mNil)))) (sRet (M.pure (.val .non))) sNx) (sSeq (sAsg 2 (M.pure (.new (.dic false [] [])))) (sSeq (sAsgN 3 f_law_match_C2) (sSeq (sWhile f_law_match_W5 f_law_match_L6) (sRet (mVar 2))))))
noncomputable def fm_law_match : M EV := fmOf 7 f_law_match
theorem sc_law_match : FnScope ["patterns", "terms", "images", "line", "k", "pattern", "term"] ["patterns", "terms"] (defScope (topS 16)) := ⟨rfl, rfl, rfl, by decide +kernel, rfl, by decide +kernel, by decide +kernel⟩
theorem good_law_match {P : Program} {w : World} {K : PySem.W.Frag} {mg : Str → Option Value} {base : Heap} {f : Addr} {fd : FuncData} (F : Fun K "_law_match" "_law_match" (topS 16) f fd) (bd : Binds K fd ["patterns", "terms"] []) (hm : mg "_law_match" = some (.ref f)) (z_isinstance : mg "isinstance" = none) (z_len : mg "len" = none) (z_range : mg "range" = none) (z_str : mg "str" = none) : FnGood P w K mg base "_law_match" 2 1 fm_law_match :=
  have sc := sc_law_match
  good_mk F bd hm sc fun X W cdv A outer s H E hX hr tk po => by
    subst hX
    exact (mss_cons (ms_if (xCmT (o_ne hr.units) (xCB c_lenX z_len (xA (xV 0) ma_nil)) (xCB c_lenX z_len (xA (xV 1) ma_nil))) (mss_one (ms_ret xN)) mss_nil)
    (mss_cons (zAs 2 sc.nd (xDn false))
    (mss_cons (zAc 3 [("k", 4)] sc.nd (xR1 z_range (xCB c_lenX z_len (xA (xV 1) ma_nil))) (blkOk_by (by rfl)) (fun _ _ _ _ _ => (xG sc.nd)) (fun _ _ _ _ _ => pts0) (fun _ _ _ _ _ => (me_tup (xA (xIx (hu_of hr) (xV 0) (xV 4)) (xA (xIx (hu_of hr) (xV 1) (xV 4)) ma_nil)))))
    (mss_cons (ms_while po (xCmT o_igt (xCB c_lenX z_len (xA (xV 3) ma_nil)) xI) (mss_cons (zUn (xGt (xGs (xG sc.nd) (xGs (xG sc.nd) mgs_nil))) (xM0 3 m_pop PySem.F.plainAttrs_list PySem.F.slot_list_pop PySem.F.type_list_pop))
    (mss_one (ms_if (xTr (xCB c_isiX z_isinstance (xA (xV 5) (xA (xTy z_str) ma_nil)))) (mss_cons (ms_if (xCmT (o_ne hr.units) (me_get2 (hu_of hr) (xV 2) (xV 5) (xV 6) ⟨rfl, rfl, rfl, rfl⟩) (xV 6)) (mss_one (ms_ret xN)) mss_nil)
    (mss_one (zSe 2 (hu_of hr) (xV 6) (xV 5)))) (mss_one (ms_if (xW (mw_or (xTr (xCB c_isiX z_isinstance (xA (xV 6) (xA (xTy z_str) ma_nil)))) (mw_or (xCmT (o_ne hr.units) (xIx (hu_of hr) (xV 6) xI) (xIx (hu_of hr) (xV 5) xI)) (mw_one (xCmT (o_ne hr.units) (xCB c_lenX z_len (xA (xV 6) ma_nil)) (xCB c_lenX z_len (xA (xV 5) ma_nil))))))) (mss_one (ms_ret xN)) (mss_one (zEx (xMB 3 m_extend PySem.F.plainAttrs_list PySem.F.slot_list_extend PySem.F.type_list_extend (xA (xL [("k", 4)] sc.nd (xR2 z_range xI (xCB c_lenX z_len (xA (xV 6) ma_nil))) (blkOk_by (by rfl)) (fun _ _ _ _ _ => (xG sc.nd)) (fun _ _ _ _ _ => pts0) (fun _ _ _ _ _ => (me_tup (xA (xIx (hu_of hr) (xV 5) (xV 4)) (xA (xIx (hu_of hr) (xV 6) (xV 4)) ma_nil))))) ma_nil))))))))))
    (mss_one (ms_ret (xV 2)))))))
/-! ### _law_rows_from -/
noncomputable def f_law_rows_from_C1 (self : M EV) : M EV := (mComp (mIt (mVar 5)) [7] (gNm 7) (M.pure true) (mOp2 addD (mTup (mCons (mVar 6) mNil)) (mVar 7)))
noncomputable def f_law_rows_from_L2 (self : M EV) : MSt := (sExpr (mMeth "list" rds gExtend 3 (mCons (f_law_rows_from_C1 self) mNil)))
noncomputable def f_law_rows_from_L3 (self : M EV) : MSt := (sSeq (sAsg 5 (mFz (mCallF [true, false, false] self (mCons (mVar 0) (mCons (mFz (mSlice slD (mVar 1) (mInt (M.pure (.val (.int 1)))) (M.pure none))) (mCons (mOp2 (intOp iSub) (mVar 2) (mVar 4)) mNil)))))) (sIf (mB (mOp2 (intOp iGt) (mCallB bLenX (mCons (mVar 5) mNil)) (M.pure (.val (.int 0))))) (sFor (mIt (mOp2 ixD (mVar 0) (mTup (mCons (mOp2 ixD (mVar 1) (M.pure (.val (.int 0)))) (mCons (mVar 4) mNil))))) (gNm 6) (f_law_rows_from_L2 self)) sNx))
noncomputable def f_law_rows_from (self : M EV) : MSt := (sSeq (sIf (mB (mOp2 eqD (mCallB bLenX (mCons (mVar 1) mNil)) (M.pure (.val (.int 0))))) (sRet (mIf (mB (mOp2 eqD (mVar 2) (M.pure (.val (.int 0))))) (mLst (mCons (mTup mNil) mNil)) (mLst mNil))) sNx) (sSeq (sAsg 3 (mLst mNil)) (sSeq (sFor (mRg2 (M.pure (.val (.int 1))) (mOp2 addD (mVar 2) (M.pure (.val (.int 1))))) (gNm 4) (f_law_rows_from_L3 self)) (sRet (mVar 3)))))
noncomputable def fm_law_rows_from : M EV := recM 8 f_law_rows_from 60
theorem sc_law_rows_from : FnScope ["table", "fields", "total", "found", "first", "behind", "value", "row"] ["table", "fields", "total"] (defScope (topS 17)) := ⟨rfl, rfl, rfl, by decide +kernel, rfl, by decide +kernel, by decide +kernel⟩
theorem good_law_rows_from {P : Program} {w : World} {K : PySem.W.Frag} {mg : Str → Option Value} {base : Heap} {f : Addr} {fd : FuncData} (F : Fun K "_law_rows_from" "_law_rows_from" (topS 17) f fd) (bd : Binds K fd ["table", "fields", "total"] []) (hm : mg "_law_rows_from" = some (.ref f)) (z_len : mg "len" = none) (z_range : mg "range" = none) : FnGood P w K mg base "_law_rows_from" 3 61 fm_law_rows_from :=
  have sc := sc_law_rows_from
  good_rec (k0 := 0) F bd hm sc (fun n self G_law_rows_from X W cdv A outer s H E hX hr tk po => by
    subst hX
    exact (mss_cons (ms_if (xCmT (o_eq hr.units) (xCB c_lenX z_len (xA (xV 1) ma_nil)) xI) (mss_one (ms_ret (me_ifExp (xCmT (o_eq hr.units) (xV 2) xI) (me_lst (xA (me_tup ma_nil) ma_nil)) (me_lst ma_nil)))) mss_nil)
    (mss_cons (zAs 3 sc.nd (me_lst ma_nil))
    (mss_cons (zFo po (xR2 z_range xI (me_op2 o_add (xV 2) xI)) (xG sc.nd) (mss_cons (zAs 5 sc.nd (me_fz (xCo [true, false, false] G_law_rows_from hr tk (xA (xV 0) (xA (me_fz (xSl (xV 1) (mo_some xI) mo_none)) (xA (me_op2 o_isub (xV 2) (xV 4)) ma_nil))))))
    (mss_one (ms_if (xCmT o_igt (xCB c_lenX z_len (xA (xV 5) ma_nil)) xI) (mss_one (zFo po (mi_it (xIx (hu_of hr) (xV 0) (me_tup (xA (xIx (hu_of hr) (xV 1) xI) (xA (xV 4) ma_nil))))) (xG sc.nd) (mss_one (zEx (xMB 3 m_extend PySem.F.plainAttrs_list PySem.F.slot_list_extend PySem.F.type_list_extend (xA (xL [("row", 7)] sc.nd (mi_it (xV 5)) (blkOk_by (by rfl)) (fun _ _ _ _ _ => (xG sc.nd)) (fun _ _ _ _ _ => pts0) (fun _ _ _ _ _ => (me_op2 o_add (me_tup (xA (xV 6) ma_nil)) (xV 7)))) ma_nil)))))) mss_nil))))
    (mss_one (ms_ret (xV 3))))))) 60
/-! ### _law_lists -/
noncomputable def f_law_lists_C1 : M EV := (mComp (mIt (mCallF [true, false, false] fm_law_rows_from (mCons (mVar 2) (mCons (mVar 8) (mCons (mOp2 (intOp iSub) (mVar 3) (M.pure (.val (.int 1)))) mNil))))) [9] (gNm 9) (M.pure true) (mOp2 addD (mTup (mCons (mVar 7) mNil)) (mVar 9)))
noncomputable def f_law_lists_L2 : MSt := (sExpr (mMeth "list" rds gExtend 6 (mCons f_law_lists_C1 mNil)))
noncomputable def f_law_lists_L3 : MSt := (sSeq (sAsg 6 (mLst mNil)) (sSeq (sFor (mIt (mVar 5)) (gTp 2 (gsCons (gNm 7) (gsCons (gNm 8) gsNil))) f_law_lists_L2) (sSetI setO 2 (mTup (mCons (mVar 4) (mCons (mVar 3) mNil))) (mVar 6))))
noncomputable def f_law_lists_L4 : MSt := (sFor (mIt (mVar 0)) (gTp 2 (gsCons (gNm 4) (gsCons (gNm 5) gsNil))) f_law_lists_L3)
noncomputable def f_law_lists : MSt := (sSeq (sAsg 2 (M.pure (.new (.dic true [] [])))) (sSeq (sFor (mRg2 (M.pure (.val (.int 1))) (mOp2 addD (mVar 1) (M.pure (.val (.int 1))))) (gNm 3) f_law_lists_L4) (sRet (mVar 2))))
noncomputable def fm_law_lists : M EV := fmOf 10 f_law_lists
theorem sc_law_lists : FnScope ["kinds", "most", "table", "size", "kind", "makers", "found", "made", "fields", "row"] ["kinds", "most"] (defScope (topS 18)) := ⟨rfl, rfl, rfl, by decide +kernel, rfl, by decide +kernel, by decide +kernel⟩
theorem good_law_lists {P : Program} {w : World} {K : PySem.W.Frag} {mg : Str → Option Value} {base : Heap} {f : Addr} {fd : FuncData} (F : Fun K "_law_lists" "_law_lists" (topS 18) f fd) (bd : Binds K fd ["kinds", "most"] []) (hm : mg "_law_lists" = some (.ref f)) (G_law_rows_from : FnGood P w K mg base "_law_rows_from" 3 61 fm_law_rows_from) (z_range : mg "range" = none) : FnGood P w K mg base "_law_lists" 2 62 fm_law_lists :=
  have sc := sc_law_lists
  good_mk F bd hm sc fun X W cdv A outer s H E hX hr tk po => by
    subst hX
    exact (mss_cons (zAs 2 sc.nd (xDn true))
    (mss_cons (zFo po (xR2 z_range xI (me_op2 o_add (xV 1) xI)) (xG sc.nd) (mss_one (zFo po (mi_it (xV 0)) ((xGt (xGs (xG sc.nd) (xGs (xG sc.nd) mgs_nil)))).f (mss_cons (zAs 6 sc.nd (me_lst ma_nil))
    (mss_cons (zFo po (mi_it (xV 5)) ((xGt (xGs (xG sc.nd) (xGs (xG sc.nd) mgs_nil)))).f (mss_one (zEx (xMB 6 m_extend PySem.F.plainAttrs_list PySem.F.slot_list_extend PySem.F.type_list_extend (xA (xL [("row", 9)] sc.nd (mi_it (xC [true, false, false] G_law_rows_from hr tk (xA (xV 2) (xA (xV 8) (xA (me_op2 o_isub (xV 3) xI) ma_nil))))) (blkOk_by (by rfl)) (fun _ _ _ _ _ => (xG sc.nd)) (fun _ _ _ _ _ => pts0) (fun _ _ _ _ _ => (me_op2 o_add (me_tup (xA (xV 7) ma_nil)) (xV 9)))) ma_nil)))))
    (mss_one (zSe 2 (hu_of hr) (xV 6) (me_tup (xA (xV 4) (xA (xV 3) ma_nil))))))))))
    (mss_one (ms_ret (xV 2)))))
/-! ### _law_makers -/
noncomputable def f_law_makers_L1 : MSt := (sIf (mB (mOp2 eqD (mVar 2) (mVar 1))) (sRet (mVar 3)) sNx)
noncomputable def f_law_makers : MSt := (sSeq (sFor (mIt (mVar 0)) (gTp 2 (gsCons (gNm 2) (gsCons (gNm 3) gsNil))) f_law_makers_L1) (sRet (mTup mNil)))
noncomputable def fm_law_makers : M EV := fmOf 4 f_law_makers
theorem sc_law_makers : FnScope ["kinds", "kind", "name", "makers"] ["kinds", "kind"] (defScope (topS 19)) := ⟨rfl, rfl, rfl, by decide +kernel, rfl, by decide +kernel, by decide +kernel⟩
theorem good_law_makers {P : Program} {w : World} {K : PySem.W.Frag} {mg : Str → Option Value} {base : Heap} {f : Addr} {fd : FuncData} (F : Fun K "_law_makers" "_law_makers" (topS 19) f fd) (bd : Binds K fd ["kinds", "kind"] []) (hm : mg "_law_makers" = some (.ref f)) : FnGood P w K mg base "_law_makers" 2 1 fm_law_makers :=
  have sc := sc_law_makers
  good_mk F bd hm sc fun X W cdv A outer s H E hX hr tk po => by
    subst hX
    exact (mss_cons (zFo po (mi_it (xV 0)) ((xGt (xGs (xG sc.nd) (xGs (xG sc.nd) mgs_nil)))).f (mss_one (ms_if (xCmT (o_eq hr.units) (xV 2) (xV 1)) (mss_one (ms_ret (xV 3))) mss_nil)))
    (mss_one (ms_ret (me_tup ma_nil))))
/-! ### _law_constant -/
noncomputable def f_law_constant_C1 : M EV := (mComp (mIt (mCallF [false, false] fm_law_makers (mCons (mVar 1) (mCons (mVar 2) mNil)))) [3, 4] (gTp 2 (gsCons (gNm 3) (gsCons (gNm 4) gsNil))) (mB (mOp2 eqD (mCallB bLenX (mCons (mVar 4) mNil)) (M.pure (.val (.int 0))))) (mVar 3))
noncomputable def f_law_constant : MSt := (sRet (mTup (mCons (mFz (mCallF [true, false] fm_law_pick (mCons (mVar 0) (mCons (mFz f_law_constant_C1) mNil)))) mNil)))
noncomputable def fm_law_constant : M EV := fmOf 5 f_law_constant
theorem sc_law_constant : FnScope ["d", "kinds", "kind", "made", "fields"] ["d", "kinds", "kind"] (defScope (topS 20)) := ⟨rfl, rfl, rfl, by decide +kernel, rfl, by decide +kernel, by decide +kernel⟩
theorem good_law_constant {P : Program} {w : World} {K : PySem.W.Frag} {mg : Str → Option Value} {base : Heap} {f : Addr} {fd : FuncData} (F : Fun K "_law_constant" "_law_constant" (topS 20) f fd) (bd : Binds K fd ["d", "kinds", "kind"] []) (hm : mg "_law_constant" = some (.ref f)) (G_law_pick : FnGood P w K mg base "_law_pick" 2 2 fm_law_pick) (G_law_makers : FnGood P w K mg base "_law_makers" 2 1 fm_law_makers) (z_len : mg "len" = none) : FnGood P w K mg base "_law_constant" 3 3 fm_law_constant :=
  have sc := sc_law_constant
  good_mk F bd hm sc fun X W cdv A outer s H E hX hr tk po => by
    subst hX
    exact (mss_one (ms_ret (me_tup (xA (me_fz (xC [true, false] G_law_pick hr tk (xA (xV 0) (xA (me_fz (xL [("made", 3), ("fields", 4)] sc.nd (mi_it (xC [false, false] G_law_makers hr tk (xA (xV 1) (xA (xV 2) ma_nil)))) (blkOk_by (by rfl)) (fun _ _ _ _ _ => ((xGt (xGs (xG sc.nd) (xGs (xG sc.nd) mgs_nil)))).f) (fun _ _ _ _ _ => (pts1 (xCmT (o_eq hr.units) (xCB c_lenX z_len (xA (xV 4) ma_nil)) xI))) (fun _ _ _ _ _ => (xV 3)))) ma_nil)))) ma_nil))))
/-! ### _law_term -/
noncomputable def f_law_term_C1 (self : M EV) : M EV := (mComp (mIt (mVar 2)) [7, 8] (gTp 2 (gsCons (gNm 7) (gsCons (gNm 8) gsNil))) (mB (mOp2 eqD (mVar 8) (mVar 3))) (mVar 7))
noncomputable def f_law_term_C2 (self : M EV) : M EV := (mComp (mIt (mVar 5)) [10, 8] (gTp 2 (gsCons (gNm 10) (gsCons (gNm 8) gsNil))) (mB (mOp2 eqD (mVar 8) (mVar 3))) (mVar 10))
noncomputable def f_law_term_C3 (self : M EV) : M EV := (mComp (mIt (mCallF [false, false] fm_law_makers (mCons (mOp2 ixD (mVar 1) (M.pure (.val (.int 0)))) (mCons (mVar 3) mNil)))) [13, 14] (gTp 2 (gsCons (gNm 13) (gsCons (gNm 14) gsNil))) (M.pure true) (mTup (mCons (mVar 13) (mCons (mVar 14) mNil))))
noncomputable def f_law_term_C4 (self : M EV) : M EV := (mComp (mIt (mOp2 ixD (mVar 1) (M.pure (.val (.int 1))))) [7, 15, 16, 17] (gTp 4 (gsCons (gNm 7) (gsCons (gNm 15) (gsCons (gNm 16) (gsCons (gNm 17) gsNil))))) (mB (mOp2 eqD (mVar 16) (mVar 3))) (mTup (mCons (mVar 7) (mCons (mVar 15) mNil))))
noncomputable def f_law_term_E5 (self : M EV) : M EV := (mFz (mCallF [true, false, false, false, false, false] self (mCons (mVar 0) (mCons (mVar 1) (mCons (mVar 2) (mCons (mVar 19) (mCons (mOp2 (intOp iSub) (mVar 4) (M.pure (.val (.int 1)))) (mCons (mVar 5) mNil))))))))
noncomputable def f_law_term_C6 (self : M EV) : M EV := (mComp (mIt (mVar 14)) [19] (gNm 19) (M.pure true) (f_law_term_E5 self))
noncomputable def f_law_term (self : M EV) : MSt := (sSeq (sAsgN 6 (f_law_term_C1 self)) (sSeq (sAsgN 9 (f_law_term_C2 self)) (sSeq (sAsg 11 (mFz (mCallF [true, false] fm_law_draw (mCons (mVar 0) (mCons (M.pure (.val (.int 6))) mNil))))) (sSeq (sIf (mAndT (mB (mOp2 (intOp iGt) (mCallB bLenX (mCons (mVar 9) mNil)) (M.pure (.val (.int 0))))) (mB (mOp2 (intOp iLt) (mVar 11) (M.pure (.val (.int 3)))))) (sRet (mCallF [true, false] fm_law_pick (mCons (mVar 0) (mCons (mFz (mVar 9)) mNil)))) sNx) (sSeq (sIf (mAndT (mB (mOp2 (intOp iGt) (mCallB bLenX (mCons (mVar 6) mNil)) (M.pure (.val (.int 0))))) (mOrT (mB (mOp2 leD (mVar 4) (M.pure (.val (.int 0))))) (mB (mOp2 eqD (mVar 11) (M.pure (.val (.int 3))))))) (sRet (mCallF [true, false] fm_law_pick (mCons (mVar 0) (mCons (mFz (mVar 6)) mNil)))) sNx) (sSeq (sIf (mB (mOp2 leD (mVar 4) (M.pure (.val (.int 0))))) (sRet (mCallF [true, false, false] fm_law_constant (mCons (mVar 0) (mCons (mOp2 ixD (mVar 1) (M.pure (.val (.int 0)))) (mCons (mVar 3) mNil))))) sNx) (sSeq (sAsgN 12 (f_law_term_C3 self)) (sSeq (sAsg 12 (mFz (mOp2 addD (mVar 12) (f_law_term_C4 self)))) (sSeq (sUnp (gTp 2 (gsCons (gNm 18) (gsCons (gNm 14) gsNil))) (mCallF [true, false] fm_law_pick (mCons (mVar 0) (mCons (mFz (mVar 12)) mNil)))) (sRet (mOp2 addD (mTup (mCons (mVar 18) mNil)) (mCallB bTuple (mCons (f_law_term_C6 self) mNil)))))))))))))
noncomputable def fm_law_term : M EV := recM 20 f_law_term 60
theorem sc_law_term : FnScope ["d", "world", "known", "kind", "deep", "calls", "names", "name", "sort", "ready", "call", "turn", "heads", "made", "fields", "parameters", "result", "rules", "head", "field"] ["d", "world", "known", "kind", "deep", "calls"] (defScope (topS 21)) := ⟨rfl, rfl, rfl, by decide +kernel, rfl, by decide +kernel, by decide +kernel⟩
theorem good_law_term {P : Program} {w : World} {K : PySem.W.Frag} {mg : Str → Option Value} {base : Heap} {f : Addr} {fd : FuncData} (F : Fun K "_law_term" "_law_term" (topS 21) f fd) (bd : Binds K fd ["d", "world", "known", "kind", "deep", "calls"] []) (hm : mg "_law_term" = some (.ref f)) (G_law_draw : FnGood P w K mg base "_law_draw" 2 1 fm_law_draw) (G_law_pick : FnGood P w K mg base "_law_pick" 2 2 fm_law_pick) (G_law_makers : FnGood P w K mg base "_law_makers" 2 1 fm_law_makers) (G_law_constant : FnGood P w K mg base "_law_constant" 3 3 fm_law_constant) (z_len : mg "len" = none) (z_tuple : mg "tuple" = none) : FnGood P w K mg base "_law_term" 6 64 fm_law_term :=
  have sc := sc_law_term
  good_rec (k0 := 3) F bd hm sc (fun n self G_law_term X W cdv A outer s H E hX hr tk po => by
    subst hX
    exact (mss_cons (zAc 6 [("name", 7), ("sort", 8)] sc.nd (mi_it (xV 2)) (blkOk_by (by rfl)) (fun _ _ _ _ _ => ((xGt (xGs (xG sc.nd) (xGs (xG sc.nd) mgs_nil)))).f) (fun _ _ _ _ _ => (pts1 (xCmT (o_eq hr.units) (xV 8) (xV 3)))) (fun _ _ _ _ _ => (xV 7)))
    (mss_cons (zAc 9 [("call", 10), ("sort", 8)] sc.nd (mi_it (xV 5)) (blkOk_by (by rfl)) (fun _ _ _ _ _ => ((xGt (xGs (xG sc.nd) (xGs (xG sc.nd) mgs_nil)))).f) (fun _ _ _ _ _ => (pts1 (xCmT (o_eq hr.units) (xV 8) (xV 3)))) (fun _ _ _ _ _ => (xV 10)))
    (mss_cons (zAs 11 sc.nd (me_fz (xCo [true, false] G_law_draw hr tk (xA (xV 0) (xA xI ma_nil)))))
    (mss_cons (ms_if (xW (mw_and (xCmT o_igt (xCB c_lenX z_len (xA (xV 9) ma_nil)) xI) (mw_one (xCmT o_ilt (xV 11) xI)))) (mss_one (ms_ret (xCo [true, false] G_law_pick hr tk (xA (xV 0) (xA (me_fz (xV 9)) ma_nil))))) mss_nil)
    (mss_cons (ms_if (xW (mw_and (xCmT o_igt (xCB c_lenX z_len (xA (xV 6) ma_nil)) xI) (mw_one (xW (mw_or (xCmT o_le (xV 4) xI) (mw_one (xCmT (o_eq hr.units) (xV 11) xI))))))) (mss_one (ms_ret (xCo [true, false] G_law_pick hr tk (xA (xV 0) (xA (me_fz (xV 6)) ma_nil))))) mss_nil)
    (mss_cons (ms_if (xCmT o_le (xV 4) xI) (mss_one (ms_ret (xCo [true, false, false] G_law_constant hr tk (xA (xV 0) (xA (xIx (hu_of hr) (xV 1) xI) (xA (xV 3) ma_nil)))))) mss_nil)
    (mss_cons (zAc 12 [("made", 13), ("fields", 14)] sc.nd (mi_it (xCo [false, false] G_law_makers hr tk (xA (xIx (hu_of hr) (xV 1) xI) (xA (xV 3) ma_nil)))) (blkOk_by (by rfl)) (fun _ _ _ _ _ => ((xGt (xGs (xG sc.nd) (xGs (xG sc.nd) mgs_nil)))).f) (fun _ _ _ _ _ => pts0) (fun _ _ _ _ _ => (me_tup (xA (xV 13) (xA (xV 14) ma_nil)))))
    (mss_cons (zAs 12 sc.nd (me_fz (me_op2 o_add (xV 12) (xL [("name", 7), ("parameters", 15), ("result", 16), ("rules", 17)] sc.nd (mi_it (xIx (hu_of hr) (xV 1) xI)) (blkOk_by (by rfl)) (fun _ _ _ _ _ => ((xGt (xGs (xG sc.nd) (xGs (xG sc.nd) (xGs (xG sc.nd) (xGs (xG sc.nd) mgs_nil)))))).f) (fun _ _ _ _ _ => (pts1 (xCmT (o_eq hr.units) (xV 16) (xV 3)))) (fun _ _ _ _ _ => (me_tup (xA (xV 7) (xA (xV 15) ma_nil))))))))
    (mss_cons (zUn (xGt (xGs (xG sc.nd) (xGs (xG sc.nd) mgs_nil))) (xCo [true, false] G_law_pick hr tk (xA (xV 0) (xA (me_fz (xV 12)) ma_nil))))
    (mss_one (ms_ret (me_op2 o_add (me_tup (xA (xV 18) ma_nil)) (xCT c_tuple z_tuple (xA (xL [("field", 19)] sc.nd (mi_it (xV 14)) (blkOk_by (by rfl)) (fun _ _ _ _ _ => (xG sc.nd)) (fun _ _ _ _ _ => pts0) (fun _ _ _ _ _ => (me_fz (xCo [true, false, false, false, false, false] G_law_term hr (takes0 _) (xA (xV 0) (xA (xV 1) (xA (xV 2) (xA (xV 19) (xA (me_op2 o_isub (xV 4) xI) (xA (xV 5) ma_nil)))))))))) ma_nil))))))))))))))) 60
/-! ### _law_drawn_kinds -/
noncomputable def f_law_drawn_kinds_E1 : M EV := (mTup (mCons (mFz (mCallF [true, true] fm_law_pop (mCons (mVar 0) (mCons (mVar 2) mNil)))) (mCons (mTup mNil) mNil)))
noncomputable def f_law_drawn_kinds_C2 : M EV := (mComp (mRg1 (mOp2 addD (M.pure (.val (.int 2))) (mCallF [true, false] fm_law_draw (mCons (mVar 0) (mCons (M.pure (.val (.int 2))) mNil))))) [7] (gNm 7) (M.pure true) f_law_drawn_kinds_E1)
noncomputable def f_law_drawn_kinds : MSt := (sSeq (sAsg 3 (mFz (mCallF [true, true] fm_law_pop (mCons (mVar 0) (mCons (mVar 1) mNil))))) (sSeq (sAsg 4 (mFz (mCallF [true, true] fm_law_pop (mCons (mVar 0) (mCons (mVar 1) mNil))))) (sSeq (sAsg 5 (mFz (mCallF [true, true] fm_law_pop (mCons (mVar 0) (mCons (mVar 1) mNil))))) (sSeq (sAsg 6 (mTup (mCons (mVar 3) (mCons (mCallB bTuple (mCons f_law_drawn_kinds_C2 mNil)) mNil)))) (sSeq (sAsg 8 (mTup (mCons (mVar 4) (mCons (mTup (mCons (mTup (mCons (mFz (mCallF [true, true] fm_law_pop (mCons (mVar 0) (mCons (mVar 2) mNil)))) (mCons (mTup mNil) mNil))) (mCons (mTup (mCons (mFz (mCallF [true, true] fm_law_pop (mCons (mVar 0) (mCons (mVar 2) mNil)))) (mCons (mTup (mCons (mVar 4) mNil)) mNil))) mNil))) mNil)))) (sSeq (sAsg 9 (mLst (mCons (mTup (mCons (mFz (mCallF [true, true] fm_law_pop (mCons (mVar 0) (mCons (mVar 2) mNil)))) (mCons (mTup mNil) mNil))) mNil))) (sSeq (sAsg 10 (mFz (mCallF [true, false] fm_law_draw (mCons (mVar 0) (mCons (M.pure (.val (.int 4))) mNil))))) (sSeq (sExpr (mMeth "list" (fun _ => vals) gAppend 9 (mCons (mTup (mCons (mFz (mCallF [true, true] fm_law_pop (mCons (mVar 0) (mCons (mVar 2) mNil)))) (mCons (mOp2 ixD (mLst (mCons (mTup (mCons (mVar 4) (mCons (mVar 5) mNil))) (mCons (mTup (mCons (mVar 5) (mCons (mVar 5) mNil))) (mCons (mTup (mCons (mVar 3) (mCons (mVar 5) mNil))) (mCons (mTup (mCons (mVar 5) (mCons (mVar 4) (mCons (mVar 5) mNil)))) mNil))))) (mVar 10)) mNil))) mNil))) (sSeq (sIf (mTru (mCallF [true, false] fm_law_rare (mCons (mVar 0) (mCons (M.pure (.val (.int 3))) mNil)))) (sExpr (mMeth "list" (fun _ => vals) gAppend 9 (mCons (mTup (mCons (mFz (mCallF [true, true] fm_law_pop (mCons (mVar 0) (mCons (mVar 2) mNil)))) (mCons (mOp2 ixD (mLst (mCons (mTup (mCons (mVar 5) mNil)) (mCons (mTup (mCons (mVar 3) mNil)) (mCons (mTup (mCons (mVar 4) mNil)) mNil)))) (mCallF [true, false] fm_law_draw (mCons (mVar 0) (mCons (M.pure (.val (.int 3))) mNil)))) mNil))) mNil))) sNx) (sSeq (sAsg 11 (mFz (mLst (mCons (mVar 6) (mCons (mVar 8) (mCons (mTup (mCons (mVar 5) (mCons (mCallB bTuple (mCons (mCallF [true, false] fm_law_shuffled (mCons (mVar 0) (mCons (mFz (mVar 9)) mNil))) mNil)) mNil))) mNil)))))) (sRet (mTup (mCons (mCallB bTuple (mCons (mCallF [true, false] fm_law_shuffled (mCons (mVar 0) (mCons (mVar 11) mNil))) mNil)) (mCons (mVar 3) (mCons (mVar 4) (mCons (mVar 5) mNil))))))))))))))))
noncomputable def fm_law_drawn_kinds : M EV := fmOf 12 f_law_drawn_kinds
theorem sc_law_drawn_kinds : FnScope ["d", "names", "greats", "flat", "chain", "tree", "flat_row", "k", "chain_row", "makers", "shape", "rows"] ["d", "names", "greats"] (defScope (topS 22)) := ⟨rfl, rfl, rfl, by decide +kernel, rfl, by decide +kernel, by decide +kernel⟩
theorem good_law_drawn_kinds {P : Program} {w : World} {K : PySem.W.Frag} {mg : Str → Option Value} {base : Heap} {f : Addr} {fd : FuncData} (F : Fun K "_law_drawn_kinds" "_law_drawn_kinds" (topS 22) f fd) (bd : Binds K fd ["d", "names", "greats"] []) (hm : mg "_law_drawn_kinds" = some (.ref f)) (G_law_draw : FnGood P w K mg base "_law_draw" 2 1 fm_law_draw) (G_law_pop : FnGood P w K mg base "_law_pop" 2 2 fm_law_pop) (G_law_rare : FnGood P w K mg base "_law_rare" 2 2 fm_law_rare) (G_law_shuffled : FnGood P w K mg base "_law_shuffled" 2 2 fm_law_shuffled) (z_range : mg "range" = none) (z_tuple : mg "tuple" = none) : FnGood P w K mg base "_law_drawn_kinds" 3 3 fm_law_drawn_kinds :=
  have sc := sc_law_drawn_kinds
  good_mk F bd hm sc fun X W cdv A outer s H E hX hr tk po => by
    subst hX
    exact (mss_cons (zAs 3 sc.nd (me_fz (xC [true, true] G_law_pop hr tk (xA (xV 0) (xA (xV 1) ma_nil)))))
    (mss_cons (zAs 4 sc.nd (me_fz (xC [true, true] G_law_pop hr tk (xA (xV 0) (xA (xV 1) ma_nil)))))
    (mss_cons (zAs 5 sc.nd (me_fz (xC [true, true] G_law_pop hr tk (xA (xV 0) (xA (xV 1) ma_nil)))))
    (mss_cons (zAs 6 sc.nd (me_tup (xA (xV 3) (xA (xCT c_tuple z_tuple (xA (xL [("k", 7)] sc.nd (xR1 z_range (me_op2 o_add xI (xC [true, false] G_law_draw hr tk (xA (xV 0) (xA xI ma_nil))))) (blkOk_by (by rfl)) (fun _ _ _ _ _ => (xG sc.nd)) (fun _ _ _ _ _ => pts0) (fun _ _ _ _ _ => (me_tup (xA (me_fz (xC [true, true] G_law_pop hr (takes0 _) (xA (xV 0) (xA (xV 2) ma_nil)))) (xA (me_tup ma_nil) ma_nil))))) ma_nil)) ma_nil))))
    (mss_cons (zAs 8 sc.nd (me_tup (xA (xV 4) (xA (me_tup (xA (me_tup (xA (me_fz (xC [true, true] G_law_pop hr tk (xA (xV 0) (xA (xV 2) ma_nil)))) (xA (me_tup ma_nil) ma_nil))) (xA (me_tup (xA (me_fz (xC [true, true] G_law_pop hr tk (xA (xV 0) (xA (xV 2) ma_nil)))) (xA (me_tup (xA (xV 4) ma_nil)) ma_nil))) ma_nil))) ma_nil))))
    (mss_cons (zAs 9 sc.nd (me_lst (xA (me_tup (xA (me_fz (xC [true, true] G_law_pop hr tk (xA (xV 0) (xA (xV 2) ma_nil)))) (xA (me_tup ma_nil) ma_nil))) ma_nil)))
    (mss_cons (zAs 10 sc.nd (me_fz (xC [true, false] G_law_draw hr tk (xA (xV 0) (xA xI ma_nil)))))
    (mss_cons (zEx (xMV 9 m_append PySem.F.plainAttrs_list PySem.F.slot_list_append PySem.F.type_list_append (xA (me_tup (xA (me_fz (xC [true, true] G_law_pop hr tk (xA (xV 0) (xA (xV 2) ma_nil)))) (xA (xIx (hu_of hr) (me_lst (xA (me_tup (xA (xV 4) (xA (xV 5) ma_nil))) (xA (me_tup (xA (xV 5) (xA (xV 5) ma_nil))) (xA (me_tup (xA (xV 3) (xA (xV 5) ma_nil))) (xA (me_tup (xA (xV 5) (xA (xV 4) (xA (xV 5) ma_nil)))) ma_nil))))) (xV 10)) ma_nil))) ma_nil)))
    (mss_cons (ms_if (xTr (xC [true, false] G_law_rare hr tk (xA (xV 0) (xA xI ma_nil)))) (mss_one (zEx (xMV 9 m_append PySem.F.plainAttrs_list PySem.F.slot_list_append PySem.F.type_list_append (xA (me_tup (xA (me_fz (xC [true, true] G_law_pop hr tk (xA (xV 0) (xA (xV 2) ma_nil)))) (xA (xIx (hu_of hr) (me_lst (xA (me_tup (xA (xV 5) ma_nil)) (xA (me_tup (xA (xV 3) ma_nil)) (xA (me_tup (xA (xV 4) ma_nil)) ma_nil)))) (xC [true, false] G_law_draw hr tk (xA (xV 0) (xA xI ma_nil)))) ma_nil))) ma_nil)))) mss_nil)
    (mss_cons (zAs 11 sc.nd (me_fz (me_lst (xA (xV 6) (xA (xV 8) (xA (me_tup (xA (xV 5) (xA (xCT c_tuple z_tuple (xA (xC [true, false] G_law_shuffled hr tk (xA (xV 0) (xA (me_fz (xV 9)) ma_nil))) ma_nil)) ma_nil))) ma_nil))))))
    (mss_one (ms_ret (me_tup (xA (xCT c_tuple z_tuple (xA (xC [true, false] G_law_shuffled hr tk (xA (xV 0) (xA (xV 11) ma_nil))) ma_nil)) (xA (xV 3) (xA (xV 4) (xA (xV 5) ma_nil)))))))))))))))))
/-! ### _law_images_told -/
noncomputable def f_law_images_told : MSt := (sSeq (sIf (mB (mOp2 isD (mVar 1) (M.pure (.val .non)))) (sRet (mOp2 isD (mVar 0) (M.pure (.val .non)))) sNx) (sRet (mAnd (mCallB bIsIX (mCons (mVar 0) (mCons (M.pure (.val (.ty "dict"))) mNil))) (mOp2 eqDX (mVar 0) (mVar 1)))))
noncomputable def fm_law_images_told : M EV := fmOf 2 f_law_images_told
theorem sc_law_images_told : FnScope ["told", "due"] ["told", "due"] (defScope (topS 23)) := ⟨rfl, rfl, rfl, by decide +kernel, rfl, by decide +kernel, by decide +kernel⟩
theorem good_law_images_told {P : Program} {w : World} {K : PySem.W.Frag} {mg : Str → Option Value} {base : Heap} {f : Addr} {fd : FuncData} (F : Fun K "_law_images_told" "_law_images_told" (topS 23) f fd) (bd : Binds K fd ["told", "due"] []) (hm : mg "_law_images_told" = some (.ref f)) (z_dict : mg "dict" = none) (z_isinstance : mg "isinstance" = none) : FnGood P w K mg base "_law_images_told" 2 1 fm_law_images_told :=
  have sc := sc_law_images_told
  good_mk F bd hm sc fun X W cdv A outer s H E hX hr tk po => by
    subst hX
    exact (mss_cons (ms_if (xCmT o_is (xV 1) xN) (mss_one (ms_ret (xCm o_is (xV 0) xN))) mss_nil)
    (mss_one (ms_ret (me_and (xCB c_isiX z_isinstance (xA (xV 0) (xA (xTy z_dict) ma_nil))) (me_one (xCm (o_eqX hr.units) (xV 0) (xV 1)))))))
/-! ### _law_ask_match -/
noncomputable def f_law_ask_match_L1 : MSt := (sSeq (sAsg 5 (mFz (mCallF [false, false] fm_law_match (mCons (mTup (mCons (mOp2 ixD (mVar 0) (mVar 4)) mNil)) (mCons (mTup (mCons (mOp2 ixD (mVar 1) (mVar 4)) mNil)) mNil))))) (sIf (mNotT (mTru (mCallX 0 [true, false] fm_law_images_told (mCons (mCallF [false, false] fm_match_term (mCons (mOp2 ixD (mVar 0) (mVar 4)) (mCons (mOp2 ixD (mVar 1) (mVar 4)) mNil))) (mCons (mVar 5) mNil))))) (sRet (M.pure (.val (.bl false)))) sNx))
noncomputable def f_law_ask_match : MSt := (sSeq (sAsg 2 (mFz (mCallF [false, false] fm_law_match (mCons (mVar 0) (mCons (mVar 1) mNil))))) (sSeq (sAsg 3 (mCallF [false, false] fm_match_rows (mCons (mVar 0) (mCons (mVar 1) mNil)))) (sSeq (sIf (mNotT (mTru (mCallF [true, false] fm_law_images_told (mCons (mVar 3) (mCons (mVar 2) mNil))))) (sRet (M.pure (.val (.bl false)))) sNx) (sSeq (sIf (mB (mOp2 isnotD (mVar 2) (M.pure (.val .non)))) (sSeq (sSetI setO 3 (M.pure (.val (.str (Str.ofString "q7")))) (mTup (mCons (M.pure (.val (.str (Str.ofString "Q")))) mNil))) (sIf (mNotT (mTru (mCallX 0 [true, false] fm_law_images_told (mCons (mCallF [false, false] fm_match_rows (mCons (mVar 0) (mCons (mVar 1) mNil))) (mCons (mVar 2) mNil))))) (sRet (M.pure (.val (.bl false)))) sNx)) sNx) (sSeq (sFor (mRg1 (mCallB bMin (mCons (mCallB bLenX (mCons (mVar 0) mNil)) (mCons (mCallB bLenX (mCons (mVar 1) mNil)) mNil)))) (gNm 4) f_law_ask_match_L1) (sRet (M.pure (.val (.bl true)))))))))
noncomputable def fm_law_ask_match : M EV := fmOf 6 f_law_ask_match
theorem sc_law_ask_match : FnScope ["patterns", "terms", "due", "told", "k", "own"] ["patterns", "terms"] (defScope (topS 24)) := ⟨rfl, rfl, rfl, by decide +kernel, rfl, by decide +kernel, by decide +kernel⟩
theorem good_law_ask_match {P : Program} {w : World} {K : PySem.W.Frag} {mg : Str → Option Value} {base : Heap} {f : Addr} {fd : FuncData} (F : Fun K "_law_ask_match" "_law_ask_match" (topS 24) f fd) (bd : Binds K fd ["patterns", "terms"] []) (hm : mg "_law_ask_match" = some (.ref f)) (G_match_rows : FnGood P w K mg base "match_rows" 2 1 fm_match_rows) (G_match_term : FnGood P w K mg base "match_term" 2 2 fm_match_term) (G_law_match : FnGood P w K mg base "_law_match" 2 1 fm_law_match) (G_law_images_told : FnGood P w K mg base "_law_images_told" 2 1 fm_law_images_told) (z_len : mg "len" = none) (z_min : mg "min" = none) (z_range : mg "range" = none) : FnGood P w K mg base "_law_ask_match" 2 3 fm_law_ask_match :=
  have sc := sc_law_ask_match
  good_mk F bd hm sc fun X W cdv A outer s H E hX hr tk po => by
    subst hX
    exact (mss_cons (zAs 2 sc.nd (me_fz (xC [false, false] G_law_match hr tk (xA (xV 0) (xA (xV 1) ma_nil)))))
    (mss_cons (zAs 3 sc.nd (xC [false, false] G_match_rows hr tk (xA (xV 0) (xA (xV 1) ma_nil))))
    (mss_cons (ms_if (mt_not (xTr (xC [true, false] G_law_images_told hr tk (xA (xV 3) (xA (xV 2) ma_nil))))) (mss_one (ms_ret xB)) mss_nil)
    (mss_cons (ms_if (xCmT o_isnot (xV 2) xN) (mss_cons (zSe 3 (hu_of hr) (me_tup (xA xS ma_nil)) xS)
    (mss_one (ms_if (mt_not (xTr (xCX 0 [true, false] G_law_images_told hr tk (xA (xC [false, false] G_match_rows hr tk (xA (xV 0) (xA (xV 1) ma_nil))) (xA (xV 2) ma_nil))))) (mss_one (ms_ret xB)) mss_nil))) mss_nil)
    (mss_cons (zFo po (xR1 z_range (xCB (c_min rfl) z_min (xA (xCB c_lenX z_len (xA (xV 0) ma_nil)) (xA (xCB c_lenX z_len (xA (xV 1) ma_nil)) ma_nil)))) (xG sc.nd) (mss_cons (zAs 5 sc.nd (me_fz (xC [false, false] G_law_match hr tk (xA (me_tup (xA (xIx (hu_of hr) (xV 0) (xV 4)) ma_nil)) (xA (me_tup (xA (xIx (hu_of hr) (xV 1) (xV 4)) ma_nil)) ma_nil)))))
    (mss_one (ms_if (mt_not (xTr (xCX 0 [true, false] G_law_images_told hr tk (xA (xC [false, false] G_match_term hr tk (xA (xIx (hu_of hr) (xV 0) (xV 4)) (xA (xIx (hu_of hr) (xV 1) (xV 4)) ma_nil))) (xA (xV 5) ma_nil))))) (mss_one (ms_ret xB)) mss_nil))))
    (mss_one (ms_ret xB)))))))
/-! ### _law_drawn_heads -/
noncomputable def f_law_drawn_heads_E1 : M EV := (mFz (mCallF [true, false] fm_law_pick (mCons (mVar 0) (mCons (mVar 2) mNil))))
noncomputable def f_law_drawn_heads_C2 : M EV := (mComp (mRg1 (mCallF [true, false] fm_law_draw (mCons (mVar 0) (mCons (M.pure (.val (.int 3))) mNil)))) [6] (gNm 6) (M.pure true) f_law_drawn_heads_E1)
noncomputable def f_law_drawn_heads_L3 : MSt := (sSeq (sAsg 5 (mCallB bTuple (mCons f_law_drawn_heads_C2 mNil))) (sExpr (mMeth "list" (fun _ => vals) gAppend 3 (mCons (mTup (mCons (mFz (mCallF [true, true] fm_law_pop (mCons (mVar 0) (mCons (mVar 1) mNil)))) (mCons (mVar 5) (mCons (mFz (mCallF [true, false] fm_law_pick (mCons (mVar 0) (mCons (mVar 2) mNil)))) (mCons (mTup mNil) mNil))))) mNil))))
noncomputable def f_law_drawn_heads : MSt := (sSeq (sAsg 3 (mLst mNil)) (sSeq (sFor (mRg1 (mOp2 addD (M.pure (.val (.int 1))) (mCallF [true, false] fm_law_draw (mCons (mVar 0) (mCons (M.pure (.val (.int 3))) mNil))))) (gNm 4) f_law_drawn_heads_L3) (sRet (mCallB bTuple (mCons (mVar 3) mNil)))))
noncomputable def fm_law_drawn_heads : M EV := fmOf 7 f_law_drawn_heads
theorem sc_law_drawn_heads : FnScope ["d", "names", "sorts", "found", "k", "takes", "j"] ["d", "names", "sorts"] (defScope (topS 25)) := ⟨rfl, rfl, rfl, by decide +kernel, rfl, by decide +kernel, by decide +kernel⟩
theorem good_law_drawn_heads {P : Program} {w : World} {K : PySem.W.Frag} {mg : Str → Option Value} {base : Heap} {f : Addr} {fd : FuncData} (F : Fun K "_law_drawn_heads" "_law_drawn_heads" (topS 25) f fd) (bd : Binds K fd ["d", "names", "sorts"] []) (hm : mg "_law_drawn_heads" = some (.ref f)) (G_law_draw : FnGood P w K mg base "_law_draw" 2 1 fm_law_draw) (G_law_pick : FnGood P w K mg base "_law_pick" 2 2 fm_law_pick) (G_law_pop : FnGood P w K mg base "_law_pop" 2 2 fm_law_pop) (z_range : mg "range" = none) (z_tuple : mg "tuple" = none) : FnGood P w K mg base "_law_drawn_heads" 3 3 fm_law_drawn_heads :=
  have sc := sc_law_drawn_heads
  good_mk F bd hm sc fun X W cdv A outer s H E hX hr tk po => by
    subst hX
    exact (mss_cons (zAs 3 sc.nd (me_lst ma_nil))
    (mss_cons (zFo po (xR1 z_range (me_op2 o_add xI (xC [true, false] G_law_draw hr tk (xA (xV 0) (xA xI ma_nil))))) (xG sc.nd) (mss_cons (zAs 5 sc.nd (xCT c_tuple z_tuple (xA (xL [("j", 6)] sc.nd (xR1 z_range (xC [true, false] G_law_draw hr tk (xA (xV 0) (xA xI ma_nil)))) (blkOk_by (by rfl)) (fun _ _ _ _ _ => (xG sc.nd)) (fun _ _ _ _ _ => pts0) (fun _ _ _ _ _ => (me_fz (xC [true, false] G_law_pick hr (takes0 _) (xA (xV 0) (xA (xV 2) ma_nil)))))) ma_nil)))
    (mss_one (zEx (xMV 3 m_append PySem.F.plainAttrs_list PySem.F.slot_list_append PySem.F.type_list_append (xA (me_tup (xA (me_fz (xC [true, true] G_law_pop hr tk (xA (xV 0) (xA (xV 1) ma_nil)))) (xA (xV 5) (xA (me_fz (xC [true, false] G_law_pick hr tk (xA (xV 0) (xA (xV 2) ma_nil)))) (xA (me_tup ma_nil) ma_nil))))) ma_nil))))))
    (mss_one (ms_ret (xCT c_tuple z_tuple (xA (xV 3) ma_nil))))))
/-! ### _law_drawn_rows -/
noncomputable def f_law_drawn_rows_E1 : M EV := (mTup (mCons (mOp2 addD (M.pure (.val (.str (Str.ofString "u")))) (mCallB bStr (mCons (mVar 4) mNil))) (mCons (mFz (mCallF [true, false] fm_law_pick (mCons (mVar 0) (mCons (mVar 2) mNil)))) mNil)))
noncomputable def f_law_drawn_rows_C2 : M EV := (mComp (mRg1 (mOp2 addD (M.pure (.val (.int 1))) (mCallF [true, false] fm_law_draw (mCons (mVar 0) (mCons (M.pure (.val (.int 3))) mNil))))) [4] (gNm 4) (M.pure true) f_law_drawn_rows_E1)
noncomputable def f_law_drawn_rows_E3 : M EV := (mFz (mCallF [true, false, false, false, false, false] fm_law_term (mCons (mVar 0) (mCons (mVar 1) (mCons (mFz (mVar 3)) (mCons (mFz (mCallF [true, false] fm_law_pick (mCons (mVar 0) (mCons (mVar 2) mNil)))) (mCons (mFz (mCallF [true, false] fm_law_draw (mCons (mVar 0) (mCons (M.pure (.val (.int 3))) mNil)))) (mCons (mFz (mLst mNil)) mNil))))))))
noncomputable def f_law_drawn_rows_C4 : M EV := (mComp (mRg1 (mVar 5)) [4] (gNm 4) (M.pure true) f_law_drawn_rows_E3)
noncomputable def f_law_drawn_rows_A5 : M EV := (mFz (mOp2 addD (mSlice slD (mVar 3) (M.pure none) (mInt (M.pure (.val (.int 1))))) (mLst (mCons (mTup (mCons (M.pure (.val (.str (Str.ofString "y")))) (mCons (mOp2 ixD (mVar 2) (M.pure (.val (.int 0)))) mNil))) (mCons (mTup (mCons (M.pure (.val (.str (Str.ofString "z")))) (mCons (mOp2 ixD (mVar 2) (M.pure (.val (.int 1)))) mNil))) (mCons (mTup (mCons (M.pure (.val (.str (Str.ofString "t")))) (mCons (mOp2 ixD (mVar 2) (M.pure (.val (.int 2)))) mNil))) mNil))))))
noncomputable def f_law_drawn_rows_L6 : MSt := (sSetI setO 8 (mVar 9) (mCallF [true, false, false, false, false, false] fm_law_term (mCons (mVar 0) (mCons (mVar 1) (mCons (mVar 7) (mCons (mVar 10) (mCons (mFz (mCallF [true, false] fm_law_draw (mCons (mVar 0) (mCons (M.pure (.val (.int 3))) mNil)))) (mCons (mFz (mLst mNil)) mNil))))))))
noncomputable def f_law_drawn_rows_E7 : M EV := (mFz (mCallF [false, false] fm_law_put (mCons (mVar 12) (mCons (mFz (mVar 8)) mNil))))
noncomputable def f_law_drawn_rows_C8 : M EV := (mComp (mIt (mVar 6)) [12] (gNm 12) (M.pure true) f_law_drawn_rows_E7)
noncomputable def f_law_drawn_rows : MSt := (sSeq (sAsg 3 (mFz f_law_drawn_rows_C2)) (sSeq (sAsg 5 (mOp2 ixD (mLst (mCons (M.pure (.val (.int 1))) (mCons (M.pure (.val (.int 2))) (mCons (M.pure (.val (.int 0))) (mCons (M.pure (.val (.int 3))) (mCons (M.pure (.val (.int 1))) (mCons (M.pure (.val (.int 2))) (mCons (M.pure (.val (.int 6))) mNil)))))))) (mCallF [true, false] fm_law_draw (mCons (mVar 0) (mCons (M.pure (.val (.int 7))) mNil))))) (sSeq (sAsgN 6 f_law_drawn_rows_C4) (sSeq (sAsg 7 f_law_drawn_rows_A5) (sSeq (sAsg 8 (M.pure (.new (.dic false [] [])))) (sSeq (sFor (mIt (mVar 3)) (gTp 2 (gsCons (gNm 9) (gsCons (gNm 10) gsNil))) f_law_drawn_rows_L6) (sSeq (sAsgN 11 f_law_drawn_rows_C8) (sSeq (sAsg 13 (mFz (mCallF [true, false] fm_law_draw (mCons (mVar 0) (mCons (M.pure (.val (.int 8))) mNil))))) (sSeq (sIf (mAndT (mB (mOp2 (intOp iLt) (mVar 13) (M.pure (.val (.int 2))))) (mB (mOp2 (intOp iGt) (mVar 5) (M.pure (.val (.int 0)))))) (sSeq (sAsg 14 (mFz (mCallF [true, false] fm_law_draw (mCons (mVar 0) (mCons (mVar 5) mNil))))) (sSeq (sUnp (gTp 2 (gsCons (gNm 16) (gsCons (gNm 17) gsNil))) (mCallF [true, false] fm_law_pick (mCons (mVar 0) (mCons (mFz (mCallF [false] fm_law_places (mCons (mOp2 ixD (mVar 11) (mVar 14)) mNil))) mNil)))) (sSeq (sAsg 15 (mFz (mCallF [true, false, false, false, false, false] fm_law_term (mCons (mVar 0) (mCons (mVar 1) (mCons (mVar 7) (mCons (mFz (mCallF [true, false] fm_law_pick (mCons (mVar 0) (mCons (mVar 2) mNil)))) (mCons (mFz (mCallF [true, false] fm_law_draw (mCons (mVar 0) (mCons (M.pure (.val (.int 2))) mNil)))) (mCons (mFz (mLst mNil)) mNil))))))))) (sSetI setO 11 (mVar 14) (mCallF [false, false, false] fm_law_set (mCons (mOp2 ixD (mVar 11) (mVar 14)) (mCons (mVar 16) (mCons (mVar 15) mNil)))))))) (sIf (mB (mOp2 eqD (mVar 13) (M.pure (.val (.int 2))))) (sExpr (mMeth "list" (fun _ => vals) gInsert 11 (mCons (mFz (mCallF [true, false] fm_law_draw (mCons (mVar 0) (mCons (mOp2 addD (mVar 5) (M.pure (.val (.int 1)))) mNil)))) (mCons (M.pure (.val (.str (Str.ofString "y")))) mNil)))) (sIf (mAndT (mB (mOp2 eqD (mVar 13) (M.pure (.val (.int 3))))) (mB (mOp2 (intOp iGt) (mVar 5) (M.pure (.val (.int 0)))))) (sExpr (mMeth "list" rds gPopAt 11 (mCons (mCallF [true, false] fm_law_draw (mCons (mVar 0) (mCons (mVar 5) mNil))) mNil))) (sIf (mB (mOp2 eqD (mVar 13) (M.pure (.val (.int 4))))) (sAsg 11 (mRevL (mVar 11))) sNx)))) (sRet (mTup (mCons (mCallB bTuple (mCons (mVar 6) mNil)) (mCons (mCallB bTuple (mCons (mVar 11) mNil)) mNil)))))))))))))
noncomputable def fm_law_drawn_rows : M EV := fmOf 18 f_law_drawn_rows
theorem sc_law_drawn_rows : FnScope ["d", "world", "sorts", "known", "k", "many", "patterns", "other", "images", "name", "kind", "terms", "pattern", "way", "spot", "new", "path", "part"] ["d", "world", "sorts"] (defScope (topS 26)) := ⟨rfl, rfl, rfl, by decide +kernel, rfl, by decide +kernel, by decide +kernel⟩
theorem good_law_drawn_rows {P : Program} {w : World} {K : PySem.W.Frag} {mg : Str → Option Value} {base : Heap} {f : Addr} {fd : FuncData} (F : Fun K "_law_drawn_rows" "_law_drawn_rows" (topS 26) f fd) (bd : Binds K fd ["d", "world", "sorts"] []) (hm : mg "_law_drawn_rows" = some (.ref f)) (G_law_draw : FnGood P w K mg base "_law_draw" 2 1 fm_law_draw) (G_law_pick : FnGood P w K mg base "_law_pick" 2 2 fm_law_pick) (G_law_places : FnGood P w K mg base "_law_places" 1 1 fm_law_places) (G_law_set : FnGood P w K mg base "_law_set" 3 61 fm_law_set) (G_law_put : FnGood P w K mg base "_law_put" 2 61 fm_law_put) (G_law_term : FnGood P w K mg base "_law_term" 6 64 fm_law_term) (z_range : mg "range" = none) (z_str : mg "str" = none) (z_tuple : mg "tuple" = none) : FnGood P w K mg base "_law_drawn_rows" 3 65 fm_law_drawn_rows :=
  have sc := sc_law_drawn_rows
  good_mk F bd hm sc fun X W cdv A outer s H E hX hr tk po => by
    subst hX
    exact (mss_cons (zAs 3 sc.nd (me_fz (xL [("k", 4)] sc.nd (xR1 z_range (me_op2 o_add xI (xC [true, false] G_law_draw hr tk (xA (xV 0) (xA xI ma_nil))))) (blkOk_by (by rfl)) (fun _ _ _ _ _ => (xG sc.nd)) (fun _ _ _ _ _ => pts0) (fun _ _ _ _ _ => (me_tup (xA (me_op2 o_add xS (xCT c_str z_str (xA (xV 4) ma_nil))) (xA (me_fz (xC [true, false] G_law_pick hr (takes0 _) (xA (xV 0) (xA (xV 2) ma_nil)))) ma_nil)))))))
    (mss_cons (zAs 5 sc.nd (xIx (hu_of hr) (me_lst (xA xI (xA xI (xA xI (xA xI (xA xI (xA xI (xA xI ma_nil)))))))) (xC [true, false] G_law_draw hr tk (xA (xV 0) (xA xI ma_nil)))))
    (mss_cons (zAc 6 [("k", 4)] sc.nd (xR1 z_range (xV 5)) (blkOk_by (by rfl)) (fun _ _ _ _ _ => (xG sc.nd)) (fun _ _ _ _ _ => pts0) (fun _ _ _ _ _ => (me_fz (xC [true, false, false, false, false, false] G_law_term hr (takes0 _) (xA (xV 0) (xA (xV 1) (xA (me_fz (xV 3)) (xA (me_fz (xC [true, false] G_law_pick hr (takes0 _) (xA (xV 0) (xA (xV 2) ma_nil)))) (xA (me_fz (xC [true, false] G_law_draw hr (takes0 _) (xA (xV 0) (xA xI ma_nil)))) (xA (me_fz (me_lst ma_nil)) ma_nil))))))))))
    (mss_cons (zAs 7 sc.nd (me_fz (me_op2 o_add (xSl (xV 3) mo_none (mo_some xI)) (me_lst (xA (me_tup (xA xS (xA (xIx (hu_of hr) (xV 2) xI) ma_nil))) (xA (me_tup (xA xS (xA (xIx (hu_of hr) (xV 2) xI) ma_nil))) (xA (me_tup (xA xS (xA (xIx (hu_of hr) (xV 2) xI) ma_nil))) ma_nil)))))))
    (mss_cons (zAs 8 sc.nd (xDn false))
    (mss_cons (zFo po (mi_it (xV 3)) ((xGt (xGs (xG sc.nd) (xGs (xG sc.nd) mgs_nil)))).f (mss_one (zSe 8 (hu_of hr) (xC [true, false, false, false, false, false] G_law_term hr tk (xA (xV 0) (xA (xV 1) (xA (xV 7) (xA (xV 10) (xA (me_fz (xC [true, false] G_law_draw hr tk (xA (xV 0) (xA xI ma_nil)))) (xA (me_fz (me_lst ma_nil)) ma_nil))))))) (xV 9))))
    (mss_cons (zAc 11 [("pattern", 12)] sc.nd (mi_it (xV 6)) (blkOk_by (by rfl)) (fun _ _ _ _ _ => (xG sc.nd)) (fun _ _ _ _ _ => pts0) (fun _ _ _ _ _ => (me_fz (xC [false, false] G_law_put hr (takes0 _) (xA (xV 12) (xA (me_fz (xV 8)) ma_nil))))))
    (mss_cons (zAs 13 sc.nd (me_fz (xC [true, false] G_law_draw hr tk (xA (xV 0) (xA xI ma_nil)))))
    (mss_cons (ms_if (xW (mw_and (xCmT o_ilt (xV 13) xI) (mw_one (xCmT o_igt (xV 5) xI)))) (mss_cons (zAs 14 sc.nd (me_fz (xC [true, false] G_law_draw hr tk (xA (xV 0) (xA (xV 5) ma_nil)))))
    (mss_cons (zUn (xGt (xGs (xG sc.nd) (xGs (xG sc.nd) mgs_nil))) (xC [true, false] G_law_pick hr tk (xA (xV 0) (xA (me_fz (xC [false] G_law_places hr tk (xA (xIx (hu_of hr) (xV 11) (xV 14)) ma_nil))) ma_nil))))
    (mss_cons (zAs 15 sc.nd (me_fz (xC [true, false, false, false, false, false] G_law_term hr tk (xA (xV 0) (xA (xV 1) (xA (xV 7) (xA (me_fz (xC [true, false] G_law_pick hr tk (xA (xV 0) (xA (xV 2) ma_nil)))) (xA (me_fz (xC [true, false] G_law_draw hr tk (xA (xV 0) (xA xI ma_nil)))) (xA (me_fz (me_lst ma_nil)) ma_nil)))))))))
    (mss_one (zSe 11 (hu_of hr) (xC [false, false, false] G_law_set hr tk (xA (xIx (hu_of hr) (xV 11) (xV 14)) (xA (xV 16) (xA (xV 15) ma_nil)))) (xV 14)))))) (mss_one (ms_if (xCmT (o_eq hr.units) (xV 13) xI) (mss_one (zEx (xMV 11 m_insert PySem.F.plainAttrs_list PySem.F.slot_list_insert PySem.F.type_list_insert (xA (me_fz (xC [true, false] G_law_draw hr tk (xA (xV 0) (xA (me_op2 o_add (xV 5) xI) ma_nil)))) (xA xS ma_nil))))) (mss_one (ms_if (xW (mw_and (xCmT (o_eq hr.units) (xV 13) xI) (mw_one (xCmT o_igt (xV 5) xI)))) (mss_one (zEx (xMB 11 m_popAt PySem.F.plainAttrs_list PySem.F.slot_list_pop PySem.F.type_list_pop (xA (xC [true, false] G_law_draw hr tk (xA (xV 0) (xA (xV 5) ma_nil))) ma_nil)))) (mss_one (ms_if (xCmT (o_eq hr.units) (xV 13) xI) (mss_one (zAs 11 sc.nd (me_revL (xV 11)))) mss_nil)))))))
    (mss_one (ms_ret (me_tup (xA (xCT c_tuple z_tuple (xA (xV 6) ma_nil)) (xA (xCT c_tuple z_tuple (xA (xV 11) ma_nil)) ma_nil))))))))))))))
/-! ### _law_chain_of -/
noncomputable def f_law_chain_of_L1 : MSt := (sAsg 2 (mTup (mCons (mVar 0) (mCons (mVar 2) mNil))))
noncomputable def f_law_chain_of : MSt := (sSeq (sFor (mRg1 (mVar 1)) (gNm 3) f_law_chain_of_L1) (sRet (mVar 2)))
noncomputable def fm_law_chain_of : M EV := fmOf 4 f_law_chain_of
theorem sc_law_chain_of : FnScope ["head", "many", "inner", "k"] ["head", "many", "inner"] (defScope (topS 27)) := ⟨rfl, rfl, rfl, by decide +kernel, rfl, by decide +kernel, by decide +kernel⟩
theorem good_law_chain_of {P : Program} {w : World} {K : PySem.W.Frag} {mg : Str → Option Value} {base : Heap} {f : Addr} {fd : FuncData} (F : Fun K "_law_chain_of" "_law_chain_of" (topS 27) f fd) (bd : Binds K fd ["head", "many", "inner"] []) (hm : mg "_law_chain_of" = some (.ref f)) (z_range : mg "range" = none) : FnGood P w K mg base "_law_chain_of" 3 1 fm_law_chain_of :=
  have sc := sc_law_chain_of
  good_mk F bd hm sc fun X W cdv A outer s H E hX hr tk po => by
    subst hX
    exact (mss_cons (zFo po (xR1 z_range (xV 1)) (xG sc.nd) (mss_one (zAs 2 sc.nd (me_tup (xA (xV 0) (xA (xV 2) ma_nil))))))
    (mss_one (ms_ret (xV 2))))
/-! ### _law_full_tree -/
noncomputable def f_law_full_tree_L1 : MSt := (sAsg 2 (mTup (mCons (mVar 0) (mCons (mVar 2) (mCons (mVar 2) mNil)))))
noncomputable def f_law_full_tree : MSt := (sSeq (sFor (mRg1 (mVar 1)) (gNm 3) f_law_full_tree_L1) (sRet (mVar 2)))
noncomputable def fm_law_full_tree : M EV := fmOf 4 f_law_full_tree
theorem sc_law_full_tree : FnScope ["head", "deep", "leaf", "k"] ["head", "deep", "leaf"] (defScope (topS 28)) := ⟨rfl, rfl, rfl, by decide +kernel, rfl, by decide +kernel, by decide +kernel⟩
theorem good_law_full_tree {P : Program} {w : World} {K : PySem.W.Frag} {mg : Str → Option Value} {base : Heap} {f : Addr} {fd : FuncData} (F : Fun K "_law_full_tree" "_law_full_tree" (topS 28) f fd) (bd : Binds K fd ["head", "deep", "leaf"] []) (hm : mg "_law_full_tree" = some (.ref f)) (z_range : mg "range" = none) : FnGood P w K mg base "_law_full_tree" 3 1 fm_law_full_tree :=
  have sc := sc_law_full_tree
  good_mk F bd hm sc fun X W cdv A outer s H E hX hr tk po => by
    subst hX
    exact (mss_cons (zFo po (xR1 z_range (xV 1)) (xG sc.nd) (mss_one (zAs 2 sc.nd (me_tup (xA (xV 0) (xA (xV 2) (xA (xV 2) ma_nil)))))))
    (mss_one (ms_ret (xV 2))))
/-! ### _law_large_rows -/
noncomputable def f_law_large_rows_E1 : M EV := (mFz (mCallF [true, false] fm_law_draw (mCons (mVar 0) (mCons (M.pure (.val (.int 2))) mNil))))
noncomputable def f_law_large_rows_C2 : M EV := (mComp (mRg1 (mVar 8)) [10] (gNm 10) (M.pure true) f_law_large_rows_E1)
noncomputable def f_law_large_rows_R3 : M EV := (mTup (mCons (mTup (mCons (mFz (mCallF [false, false, false] fm_law_chain_of (mCons (mVar 2) (mCons (mVar 6) (mCons (M.pure (.val (.str (Str.ofString "x")))) mNil))))) (mCons (mFz (mCallF [false, false, false] fm_law_full_tree (mCons (mVar 3) (mCons (mVar 12) (mCons (mVar 11) mNil))))) mNil))) (mCons (mTup (mCons (mFz (mCallF [false, false, false] fm_law_chain_of (mCons (mVar 2) (mCons (mVar 7) (mCons (mVar 4) mNil))))) (mCons (mVar 9) mNil))) mNil)))
noncomputable def f_law_large_rows : MSt := (sSeq (sUnp (gTp 4 (gsCons (gNm 2) (gsCons (gNm 3) (gsCons (gNm 4) (gsCons (gNm 5) gsNil))))) (mTup (mCons (mOp2 ixD (mVar 1) (M.pure (.val (.int 0)))) (mCons (mOp2 ixD (mVar 1) (M.pure (.val (.int 1)))) (mCons (mTup (mCons (mOp2 ixD (mVar 1) (M.pure (.val (.int 2)))) mNil)) (mCons (mTup (mCons (mOp2 ixD (mVar 1) (M.pure (.val (.int 3)))) mNil)) mNil)))))) (sSeq (sAsg 6 (mFz (mCallF [true, false] fm_law_draw (mCons (mVar 0) (mCons (M.pure (.val (.int 40))) mNil))))) (sSeq (sAsg 7 (mOp2 ixD (mLst (mCons (mVar 6) (mCons (mCallB bMin (mCons (M.pure (.val (.int 39))) (mCons (mOp2 addD (mVar 6) (M.pure (.val (.int 1)))) mNil))) (mCons (mFz (mCallF [true, false] fm_law_draw (mCons (mVar 0) (mCons (M.pure (.val (.int 40))) mNil)))) (mCons (M.pure (.val (.int 39))) mNil))))) (mCallF [true, false] fm_law_draw (mCons (mVar 0) (mCons (M.pure (.val (.int 4))) mNil))))) (sSeq (sAsg 8 (mFz (mCallF [true, false] fm_law_draw (mCons (mVar 0) (mCons (M.pure (.val (.int 7))) mNil))))) (sSeq (sAsg 9 (mFz (mCallF [false, false, false] fm_law_full_tree (mCons (mVar 3) (mCons (mVar 8) (mCons (mVar 4) mNil)))))) (sSeq (sIf (mB (mOp2 eqD (mCallF [true, false] fm_law_draw (mCons (mVar 0) (mCons (M.pure (.val (.int 2))) mNil))) (M.pure (.val (.int 0))))) (sAsg 9 (mFz (mCallF [false, false, false] fm_law_set (mCons (mVar 9) (mCons (mCallB bTuple (mCons f_law_large_rows_C2 mNil)) (mCons (mVar 5) mNil)))))) sNx) (sSeq (sAsg 11 (mOp2 ixD (mLst (mCons (M.pure (.val (.str (Str.ofString "x")))) (mCons (M.pure (.val (.str (Str.ofString "y")))) mNil))) (mCallF [true, false] fm_law_draw (mCons (mVar 0) (mCons (M.pure (.val (.int 2))) mNil))))) (sSeq (sAsg 12 (mOp2 ixD (mLst (mCons (mVar 8) (mCons (mFz (mCallF [true, false] fm_law_draw (mCons (mVar 0) (mCons (M.pure (.val (.int 7))) mNil)))) (mCons (mFz (mCallF [true, false] fm_law_draw (mCons (mVar 0) (mCons (mOp2 addD (M.pure (.val (.int 1))) (mVar 8)) mNil)))) mNil)))) (mCallF [true, false] fm_law_draw (mCons (mVar 0) (mCons (M.pure (.val (.int 3))) mNil))))) (sRet f_law_large_rows_R3)))))))))
noncomputable def fm_law_large_rows : M EV := fmOf 13 f_law_large_rows
theorem sc_law_large_rows : FnScope ["d", "greats", "up", "node", "zero", "one", "deep", "more", "size", "tree", "k", "name", "part"] ["d", "greats"] (defScope (topS 29)) := ⟨rfl, rfl, rfl, by decide +kernel, rfl, by decide +kernel, by decide +kernel⟩
theorem good_law_large_rows {P : Program} {w : World} {K : PySem.W.Frag} {mg : Str → Option Value} {base : Heap} {f : Addr} {fd : FuncData} (F : Fun K "_law_large_rows" "_law_large_rows" (topS 29) f fd) (bd : Binds K fd ["d", "greats"] []) (hm : mg "_law_large_rows" = some (.ref f)) (G_law_draw : FnGood P w K mg base "_law_draw" 2 1 fm_law_draw) (G_law_set : FnGood P w K mg base "_law_set" 3 61 fm_law_set) (G_law_chain_of : FnGood P w K mg base "_law_chain_of" 3 1 fm_law_chain_of) (G_law_full_tree : FnGood P w K mg base "_law_full_tree" 3 1 fm_law_full_tree) (z_min : mg "min" = none) (z_range : mg "range" = none) (z_tuple : mg "tuple" = none) : FnGood P w K mg base "_law_large_rows" 2 62 fm_law_large_rows :=
  have sc := sc_law_large_rows
  good_mk F bd hm sc fun X W cdv A outer s H E hX hr tk po => by
    subst hX
    exact (mss_cons (zUn (xGt (xGs (xG sc.nd) (xGs (xG sc.nd) (xGs (xG sc.nd) (xGs (xG sc.nd) mgs_nil))))) (me_tup (xA (xIx (hu_of hr) (xV 1) xI) (xA (xIx (hu_of hr) (xV 1) xI) (xA (me_tup (xA (xIx (hu_of hr) (xV 1) xI) ma_nil)) (xA (me_tup (xA (xIx (hu_of hr) (xV 1) xI) ma_nil)) ma_nil))))))
    (mss_cons (zAs 6 sc.nd (me_fz (xC [true, false] G_law_draw hr tk (xA (xV 0) (xA xI ma_nil)))))
    (mss_cons (zAs 7 sc.nd (xIx (hu_of hr) (me_lst (xA (xV 6) (xA (xCB (c_min rfl) z_min (xA xI (xA (me_op2 o_add (xV 6) xI) ma_nil))) (xA (me_fz (xC [true, false] G_law_draw hr tk (xA (xV 0) (xA xI ma_nil)))) (xA xI ma_nil))))) (xC [true, false] G_law_draw hr tk (xA (xV 0) (xA xI ma_nil)))))
    (mss_cons (zAs 8 sc.nd (me_fz (xC [true, false] G_law_draw hr tk (xA (xV 0) (xA xI ma_nil)))))
    (mss_cons (zAs 9 sc.nd (me_fz (xC [false, false, false] G_law_full_tree hr tk (xA (xV 3) (xA (xV 8) (xA (xV 4) ma_nil))))))
    (mss_cons (ms_if (xCmT (o_eq hr.units) (xC [true, false] G_law_draw hr tk (xA (xV 0) (xA xI ma_nil))) xI) (mss_one (zAs 9 sc.nd (me_fz (xC [false, false, false] G_law_set hr tk (xA (xV 9) (xA (xCT c_tuple z_tuple (xA (xL [("k", 10)] sc.nd (xR1 z_range (xV 8)) (blkOk_by (by rfl)) (fun _ _ _ _ _ => (xG sc.nd)) (fun _ _ _ _ _ => pts0) (fun _ _ _ _ _ => (me_fz (xC [true, false] G_law_draw hr (takes0 _) (xA (xV 0) (xA xI ma_nil)))))) ma_nil)) (xA (xV 5) ma_nil))))))) mss_nil)
    (mss_cons (zAs 11 sc.nd (xIx (hu_of hr) (me_lst (xA xS (xA xS ma_nil))) (xC [true, false] G_law_draw hr tk (xA (xV 0) (xA xI ma_nil)))))
    (mss_cons (zAs 12 sc.nd (xIx (hu_of hr) (me_lst (xA (xV 8) (xA (me_fz (xC [true, false] G_law_draw hr tk (xA (xV 0) (xA xI ma_nil)))) (xA (me_fz (xC [true, false] G_law_draw hr tk (xA (xV 0) (xA (me_op2 o_add xI (xV 8)) ma_nil)))) ma_nil)))) (xC [true, false] G_law_draw hr tk (xA (xV 0) (xA xI ma_nil)))))
    (mss_one (ms_ret (me_tup (xA (me_tup (xA (me_fz (xC [false, false, false] G_law_chain_of hr tk (xA (xV 2) (xA (xV 6) (xA xS ma_nil))))) (xA (me_fz (xC [false, false, false] G_law_full_tree hr tk (xA (xV 3) (xA (xV 12) (xA (xV 11) ma_nil))))) ma_nil))) (xA (me_tup (xA (me_fz (xC [false, false, false] G_law_chain_of hr tk (xA (xV 2) (xA (xV 7) (xA (xV 4) ma_nil))))) (xA (xV 9) ma_nil))) ma_nil)))))))))))))
/-! ### _law_pattern -/
noncomputable def f_law_pattern_C1 (self : M EV) : M EV := (mComp (mIt (mCallF [false, false] fm_law_makers (mCons (mVar 1) (mCons (mVar 2) mNil)))) [6] (gNm 6) (mOrT (mB (mOp2 (intOp iGt) (mVar 3) (M.pure (.val (.int 1))))) (mB (mOp2 eqD (mCallB bLenX (mCons (mOp2 ixD (mVar 6) (M.pure (.val (.int 1)))) mNil)) (M.pure (.val (.int 0)))))) (mVar 6))
noncomputable def f_law_pattern_E2 (self : M EV) : M EV := (mFz (mCallF [true, false, false, false, true] self (mCons (mVar 0) (mCons (mVar 1) (mCons (mVar 9) (mCons (mOp2 (intOp iSub) (mVar 3) (M.pure (.val (.int 1)))) (mCons (mVar 4) mNil)))))))
noncomputable def f_law_pattern_C3 (self : M EV) : M EV := (mComp (mIt (mVar 8)) [9] (gNm 9) (M.pure true) (f_law_pattern_E2 self))
noncomputable def f_law_pattern (self : M EV) : MSt := (sSeq (sAsgN 5 (f_law_pattern_C1 self)) (sSeq (sIf (mB (mOp2 eqD (mCallF [true, false] fm_law_draw (mCons (mVar 0) (mCons (M.pure (.val (.int 3))) mNil))) (M.pure (.val (.int 0))))) (sRet (mMeth0 "list" gPop 4)) sNx) (sSeq (sUnp (gTp 2 (gsCons (gNm 7) (gsCons (gNm 8) gsNil))) (mCallF [true, false] fm_law_pick (mCons (mVar 0) (mCons (mFz (mVar 5)) mNil)))) (sRet (mOp2 addD (mTup (mCons (mVar 7) mNil)) (mCallB bTuple (mCons (f_law_pattern_C3 self) mNil)))))))
noncomputable def fm_law_pattern : M EV := recM 10 f_law_pattern 60
theorem sc_law_pattern : FnScope ["d", "kinds", "kind", "deep", "spare", "makers", "row", "made", "fields", "field"] ["d", "kinds", "kind", "deep", "spare"] (defScope (topS 30)) := ⟨rfl, rfl, rfl, by decide +kernel, rfl, by decide +kernel, by decide +kernel⟩
theorem good_law_pattern {P : Program} {w : World} {K : PySem.W.Frag} {mg : Str → Option Value} {base : Heap} {f : Addr} {fd : FuncData} (F : Fun K "_law_pattern" "_law_pattern" (topS 30) f fd) (bd : Binds K fd ["d", "kinds", "kind", "deep", "spare"] []) (hm : mg "_law_pattern" = some (.ref f)) (G_law_draw : FnGood P w K mg base "_law_draw" 2 1 fm_law_draw) (G_law_pick : FnGood P w K mg base "_law_pick" 2 2 fm_law_pick) (G_law_makers : FnGood P w K mg base "_law_makers" 2 1 fm_law_makers) (z_len : mg "len" = none) (z_tuple : mg "tuple" = none) : FnGood P w K mg base "_law_pattern" 5 63 fm_law_pattern :=
  have sc := sc_law_pattern
  good_rec (k0 := 2) F bd hm sc (fun n self G_law_pattern X W cdv A outer s H E hX hr tk po => by
    subst hX
    exact (mss_cons (zAc 5 [("row", 6)] sc.nd (mi_it (xCo [false, false] G_law_makers hr tk (xA (xV 1) (xA (xV 2) ma_nil)))) (blkOk_by (by rfl)) (fun _ _ _ _ _ => (xG sc.nd)) (fun _ _ _ _ _ => (pts1 (xW (mw_or (xCmT o_igt (xV 3) xI) (mw_one (xCmT (o_eq hr.units) (xCB c_lenX z_len (xA (xIx (hu_of hr) (xV 6) xI) ma_nil)) xI)))))) (fun _ _ _ _ _ => (xV 6)))
    (mss_cons (ms_if (xCmT (o_eq hr.units) (xCo [true, false] G_law_draw hr tk (xA (xV 0) (xA xI ma_nil))) xI) (mss_one (ms_ret (xM0 4 m_pop PySem.F.plainAttrs_list PySem.F.slot_list_pop PySem.F.type_list_pop))) mss_nil)
    (mss_cons (zUn (xGt (xGs (xG sc.nd) (xGs (xG sc.nd) mgs_nil))) (xCo [true, false] G_law_pick hr tk (xA (xV 0) (xA (me_fz (xV 5)) ma_nil))))
    (mss_one (ms_ret (me_op2 o_add (me_tup (xA (xV 7) ma_nil)) (xCT c_tuple z_tuple (xA (xL [("field", 9)] sc.nd (mi_it (xV 8)) (blkOk_by (by rfl)) (fun _ _ _ _ _ => (xG sc.nd)) (fun _ _ _ _ _ => pts0) (fun _ _ _ _ _ => (me_fz (xCo [true, false, false, false, true] G_law_pattern hr (takes0 _) (xA (xV 0) (xA (xV 1) (xA (xV 9) (xA (me_op2 o_isub (xV 3) xI) (xA (xV 4) ma_nil))))))))) ma_nil))))))))) 60
/-! ### _law_clash -/
noncomputable def f_law_clash_L1 : MSt := (sIf (mNotT (mTru (mCallB bIsIX (mCons (mVar 4) (mCons (M.pure (.val (.ty "str"))) mNil))))) (sSetI setO 2 (mVar 3) (mOp2 ixD (mVar 4) (M.pure (.val (.int 0))))) sNx)
noncomputable def f_law_clash_L2 : MSt := (sIf (mAndT (mNotT (mTru (mCallB bIsIX (mCons (mVar 4) (mCons (M.pure (.val (.ty "str"))) mNil))))) (mB (mOp2 neD (mGet2 (mVar 2) (mVar 3) (mOp2 ixD (mVar 4) (M.pure (.val (.int 0))))) (mOp2 ixD (mVar 4) (M.pure (.val (.int 0))))))) (sRet (M.pure (.val (.bl true)))) sNx)
noncomputable def f_law_clash : MSt := (sSeq (sAsg 2 (M.pure (.new (.dic true [] [])))) (sSeq (sFor (mIt (mCallF [false] fm_law_places (mCons (mVar 0) mNil))) (gTp 2 (gsCons (gNm 3) (gsCons (gNm 4) gsNil))) f_law_clash_L1) (sSeq (sFor (mIt (mCallF [false] fm_law_places (mCons (mVar 1) mNil))) (gTp 2 (gsCons (gNm 3) (gsCons (gNm 4) gsNil))) f_law_clash_L2) (sRet (M.pure (.val (.bl false)))))))
noncomputable def fm_law_clash : M EV := fmOf 5 f_law_clash
theorem sc_law_clash : FnScope ["first", "second", "heads", "path", "part"] ["first", "second"] (defScope (topS 31)) := ⟨rfl, rfl, rfl, by decide +kernel, rfl, by decide +kernel, by decide +kernel⟩
theorem good_law_clash {P : Program} {w : World} {K : PySem.W.Frag} {mg : Str → Option Value} {base : Heap} {f : Addr} {fd : FuncData} (F : Fun K "_law_clash" "_law_clash" (topS 31) f fd) (bd : Binds K fd ["first", "second"] []) (hm : mg "_law_clash" = some (.ref f)) (G_law_places : FnGood P w K mg base "_law_places" 1 1 fm_law_places) (z_isinstance : mg "isinstance" = none) (z_str : mg "str" = none) : FnGood P w K mg base "_law_clash" 2 2 fm_law_clash :=
  have sc := sc_law_clash
  good_mk F bd hm sc fun X W cdv A outer s H E hX hr tk po => by
    subst hX
    exact (mss_cons (zAs 2 sc.nd (xDn true))
    (mss_cons (zFo po (mi_it (xC [false] G_law_places hr tk (xA (xV 0) ma_nil))) ((xGt (xGs (xG sc.nd) (xGs (xG sc.nd) mgs_nil)))).f (mss_one (ms_if (mt_not (xTr (xCB c_isiX z_isinstance (xA (xV 4) (xA (xTy z_str) ma_nil))))) (mss_one (zSe 2 (hu_of hr) (xIx (hu_of hr) (xV 4) xI) (xV 3))) mss_nil)))
    (mss_cons (zFo po (mi_it (xC [false] G_law_places hr tk (xA (xV 1) ma_nil))) ((xGt (xGs (xG sc.nd) (xGs (xG sc.nd) mgs_nil)))).f (mss_one (ms_if (xW (mw_and (mt_not (xTr (xCB c_isiX z_isinstance (xA (xV 4) (xA (xTy z_str) ma_nil))))) (mw_one (xCmT (o_ne hr.units) (me_get2 (hu_of hr) (xV 2) (xV 3) (xIx (hu_of hr) (xV 4) xI) ⟨rfl, rfl, rfl, rfl⟩) (xIx (hu_of hr) (xV 4) xI))))) (mss_one (ms_ret xB)) mss_nil)))
    (mss_one (ms_ret xB)))))
/-! ### _law_meet -/
noncomputable def f_law_meet_L1 : MSt := (sIf (mAndT (mB (mOp2 isnotD (mCallF [false, false] fm_law_match (mCons (mTup (mCons (mVar 2) mNil)) (mCons (mTup (mCons (mVar 6) mNil)) mNil))) (M.pure (.val .non)))) (mB (mOp2 isnotD (mCallF [false, false] fm_law_match (mCons (mTup (mCons (mVar 3) mNil)) (mCons (mTup (mCons (mVar 6) mNil)) mNil))) (M.pure (.val .non))))) (sRet (M.pure (.val (.bl true)))) sNx)
noncomputable def f_law_meet_L2 : MSt := (sFor (mIt (mOp2 ixD (mVar 0) (mTup (mCons (mVar 1) (mCons (mVar 5) mNil))))) (gNm 6) f_law_meet_L1)
noncomputable def f_law_meet : MSt := (sSeq (sIf (mB (mOp2 (intOp iGt) (mVar 4) (M.pure (.val (.int 2))))) (sRet (mNot (mCallF [false, false] fm_law_clash (mCons (mVar 2) (mCons (mVar 3) mNil))))) sNx) (sSeq (sFor (mRg2 (M.pure (.val (.int 1))) (M.pure (.val (.int 5)))) (gNm 5) f_law_meet_L2) (sRet (M.pure (.val (.bl false))))))
noncomputable def fm_law_meet : M EV := fmOf 7 f_law_meet
theorem sc_law_meet : FnScope ["table", "kind", "first", "second", "deep", "size", "value"] ["table", "kind", "first", "second", "deep"] (defScope (topS 32)) := ⟨rfl, rfl, rfl, by decide +kernel, rfl, by decide +kernel, by decide +kernel⟩
theorem good_law_meet {P : Program} {w : World} {K : PySem.W.Frag} {mg : Str → Option Value} {base : Heap} {f : Addr} {fd : FuncData} (F : Fun K "_law_meet" "_law_meet" (topS 32) f fd) (bd : Binds K fd ["table", "kind", "first", "second", "deep"] []) (hm : mg "_law_meet" = some (.ref f)) (G_law_match : FnGood P w K mg base "_law_match" 2 1 fm_law_match) (G_law_clash : FnGood P w K mg base "_law_clash" 2 2 fm_law_clash) (z_range : mg "range" = none) : FnGood P w K mg base "_law_meet" 5 3 fm_law_meet :=
  have sc := sc_law_meet
  good_mk F bd hm sc fun X W cdv A outer s H E hX hr tk po => by
    subst hX
    exact (mss_cons (ms_if (xCmT o_igt (xV 4) xI) (mss_one (ms_ret (me_not (xC [false, false] G_law_clash hr tk (xA (xV 2) (xA (xV 3) ma_nil)))))) mss_nil)
    (mss_cons (zFo po (xR2 z_range xI xI) (xG sc.nd) (mss_one (zFo po (mi_it (xIx (hu_of hr) (xV 0) (me_tup (xA (xV 1) (xA (xV 5) ma_nil))))) (xG sc.nd) (mss_one (ms_if (xW (mw_and (xCmT o_isnot (xC [false, false] G_law_match hr tk (xA (me_tup (xA (xV 2) ma_nil)) (xA (me_tup (xA (xV 6) ma_nil)) ma_nil))) xN) (mw_one (xCmT o_isnot (xC [false, false] G_law_match hr tk (xA (me_tup (xA (xV 3) ma_nil)) (xA (me_tup (xA (xV 6) ma_nil)) ma_nil))) xN)))) (mss_one (ms_ret xB)) mss_nil)))))
    (mss_one (ms_ret xB))))
/-! ### _law_ask_meet -/
noncomputable def f_law_ask_meet_E1 : M EV := (mFz (mCallF [true, false] fm_law_pick (mCons (mVar 0) (mCons (mVar 2) mNil))))
noncomputable def f_law_ask_meet_C2 : M EV := (mComp (mRg1 (mOp2 ixD (mLst (mCons (M.pure (.val (.int 1))) (mCons (M.pure (.val (.int 2))) (mCons (M.pure (.val (.int 3))) (mCons (M.pure (.val (.int 0))) (mCons (M.pure (.val (.int 2))) (mCons (M.pure (.val (.int 1))) (mCons (M.pure (.val (.int 6))) mNil)))))))) (mCallF [true, false] fm_law_draw (mCons (mVar 0) (mCons (M.pure (.val (.int 7))) mNil))))) [4] (gNm 4) (M.pure true) f_law_ask_meet_E1)
noncomputable def f_law_ask_meet_E3 : M EV := (mOp2 addD (M.pure (.val (.str (Str.ofString "v")))) (mCallB bStr (mCons (mVar 4) mNil)))
noncomputable def f_law_ask_meet_C4 : M EV := (mComp (mRg1 (M.pure (.val (.int 90)))) [4] (gNm 4) (M.pure true) f_law_ask_meet_E3)
noncomputable def f_law_ask_meet_E5 : M EV := (mFz (mCallF [true, false, false, false, true] fm_law_pattern (mCons (mVar 0) (mCons (mVar 1) (mCons (mVar 8) (mCons (mVar 5) (mCons (mVar 6) mNil)))))))
noncomputable def f_law_ask_meet_C6 : M EV := (mComp (mIt (mVar 3)) [8] (gNm 8) (M.pure true) f_law_ask_meet_E5)
noncomputable def f_law_ask_meet_E7 : M EV := (mOp2 addD (M.pure (.val (.str (Str.ofString "v")))) (mCallB bStr (mCons (mVar 4) mNil)))
noncomputable def f_law_ask_meet_C8 : M EV := (mComp (mRg1 (M.pure (.val (.int 90)))) [4] (gNm 4) (M.pure true) f_law_ask_meet_E7)
noncomputable def f_law_ask_meet_E9 : M EV := (mFz (mCallF [true, false, false, false, true] fm_law_pattern (mCons (mVar 0) (mCons (mVar 1) (mCons (mVar 8) (mCons (mVar 5) (mCons (mVar 6) mNil)))))))
noncomputable def f_law_ask_meet_C10 : M EV := (mComp (mIt (mVar 3)) [8] (gNm 8) (M.pure true) f_law_ask_meet_E9)
noncomputable def f_law_ask_meet_E11 : M EV := (mOp2 addD (M.pure (.val (.str (Str.ofString "w")))) (mCallB bStr (mCons (mVar 4) mNil)))
noncomputable def f_law_ask_meet_C12 : M EV := (mComp (mRg1 (M.pure (.val (.int 30)))) [4] (gNm 4) (M.pure true) f_law_ask_meet_E11)
noncomputable def f_law_ask_meet_E13 : M EV := (mFz (mCallF [false, false, false, false, false] fm_law_meet (mCons (mVar 12) (mCons (mOp2 ixD (mVar 3) (mVar 4)) (mCons (mOp2 ixD (mVar 7) (mVar 4)) (mCons (mOp2 ixD (mVar 9) (mVar 4)) (mCons (mVar 5) mNil)))))))
noncomputable def f_law_ask_meet_C14 : M EV := (mComp (mRg1 (mCallB bLenX (mCons (mVar 3) mNil))) [4] (gNm 4) (M.pure true) f_law_ask_meet_E13)
noncomputable def f_law_ask_meet : MSt := (sSeq (sAsg 3 (mFz f_law_ask_meet_C2)) (sSeq (sAsg 5 (mFz (mOp2 addD (M.pure (.val (.int 2))) (mCallF [true, false] fm_law_draw (mCons (mVar 0) (mCons (M.pure (.val (.int 2))) mNil)))))) (sSeq (sAsg 6 f_law_ask_meet_C4) (sSeq (sAsg 7 (mFz f_law_ask_meet_C6)) (sSeq (sAsg 6 f_law_ask_meet_C8) (sSeq (sAsg 9 (mFz f_law_ask_meet_C10)) (sSeq (sIf (mAndT (mB (mOp2 eqD (mCallF [true, false] fm_law_draw (mCons (mVar 0) (mCons (M.pure (.val (.int 2))) mNil))) (M.pure (.val (.int 0))))) (mB (mOp2 (intOp iGt) (mCallB bLenX (mCons (mVar 3) mNil)) (M.pure (.val (.int 0)))))) (sSeq (sAsg 10 (mFz (mCallF [true, false] fm_law_draw (mCons (mVar 0) (mCons (mCallB bLenX (mCons (mVar 3) mNil)) mNil))))) (sSeq (sAsg 11 (mCallB bListX (mCons (mVar 7) mNil))) (sSeq (sSetI setO 11 (mVar 10) (mCallX 4 [true, false, false, false, true] fm_law_pattern (mCons (mVar 0) (mCons (mVar 1) (mCons (mOp2 ixD (mVar 3) (mVar 10)) (mCons (mVar 5) (mCons f_law_ask_meet_C12 mNil))))))) (sAsg 9 (mFz (mVar 11)))))) sNx) (sSeq (sAsg 12 (mFz (mCallF [false, false] fm_law_lists (mCons (mVar 1) (mCons (M.pure (.val (.int 4))) mNil))))) (sSeq (sAsg 13 (mCallB bAll (mCons f_law_ask_meet_C14 mNil))) (sSeq (sAsg 14 (mFz (mCallF [false, false] fm_patterns_meet (mCons (mCallB bTuple (mCons (mVar 7) mNil)) (mCons (mCallB bTuple (mCons (mVar 9) mNil)) mNil))))) (sSeq (sAsg 15 (mFz (mCallF [false, false] fm_patterns_meet (mCons (mCallB bTuple (mCons (mVar 9) mNil)) (mCons (mCallB bTuple (mCons (mVar 7) mNil)) mNil))))) (sRet (mAnd (mCallB bIsIX (mCons (mVar 14) (mCons (M.pure (.val (.ty "bool"))) mNil))) (mAnd (mOp2 eqD (mVar 14) (mVar 13)) (mAnd (mCallB bIsIX (mCons (mVar 15) (mCons (M.pure (.val (.ty "bool"))) mNil))) (mOp2 eqD (mVar 15) (mVar 13)))))))))))))))))
noncomputable def fm_law_ask_meet : M EV := fmOf 16 f_law_ask_meet
theorem sc_law_ask_meet : FnScope ["d", "kinds", "sorts", "takes", "k", "deep", "spare", "first", "kind", "second", "spot", "changed", "table", "due", "told", "back"] ["d", "kinds", "sorts"] (defScope (topS 33)) := ⟨rfl, rfl, rfl, by decide +kernel, rfl, by decide +kernel, by decide +kernel⟩
theorem good_law_ask_meet {P : Program} {w : World} {K : PySem.W.Frag} {mg : Str → Option Value} {base : Heap} {f : Addr} {fd : FuncData} (F : Fun K "_law_ask_meet" "_law_ask_meet" (topS 33) f fd) (bd : Binds K fd ["d", "kinds", "sorts"] []) (hm : mg "_law_ask_meet" = some (.ref f)) (G_patterns_meet : FnGood P w K mg base "patterns_meet" 2 1 fm_patterns_meet) (G_law_draw : FnGood P w K mg base "_law_draw" 2 1 fm_law_draw) (G_law_pick : FnGood P w K mg base "_law_pick" 2 2 fm_law_pick) (G_law_lists : FnGood P w K mg base "_law_lists" 2 62 fm_law_lists) (G_law_pattern : FnGood P w K mg base "_law_pattern" 5 63 fm_law_pattern) (G_law_meet : FnGood P w K mg base "_law_meet" 5 3 fm_law_meet) (z_all : mg "all" = none) (z_bool : mg "bool" = none) (z_isinstance : mg "isinstance" = none) (z_len : mg "len" = none) (z_list : mg "list" = none) (z_range : mg "range" = none) (z_str : mg "str" = none) (z_tuple : mg "tuple" = none) : FnGood P w K mg base "_law_ask_meet" 3 64 fm_law_ask_meet :=
  have sc := sc_law_ask_meet
  good_mk F bd hm sc fun X W cdv A outer s H E hX hr tk po => by
    subst hX
    exact (mss_cons (zAs 3 sc.nd (me_fz (xL [("k", 4)] sc.nd (xR1 z_range (xIx (hu_of hr) (me_lst (xA xI (xA xI (xA xI (xA xI (xA xI (xA xI (xA xI ma_nil)))))))) (xC [true, false] G_law_draw hr tk (xA (xV 0) (xA xI ma_nil))))) (blkOk_by (by rfl)) (fun _ _ _ _ _ => (xG sc.nd)) (fun _ _ _ _ _ => pts0) (fun _ _ _ _ _ => (me_fz (xC [true, false] G_law_pick hr (takes0 _) (xA (xV 0) (xA (xV 2) ma_nil))))))))
    (mss_cons (zAs 5 sc.nd (me_fz (me_op2 o_add xI (xC [true, false] G_law_draw hr tk (xA (xV 0) (xA xI ma_nil))))))
    (mss_cons (zAs 6 sc.nd (xL [("k", 4)] sc.nd (xR1 z_range xI) (blkOk_by (by rfl)) (fun _ _ _ _ _ => (xG sc.nd)) (fun _ _ _ _ _ => pts0) (fun _ _ _ _ _ => (me_op2 o_add xS (xCT c_str z_str (xA (xV 4) ma_nil))))))
    (mss_cons (zAs 7 sc.nd (me_fz (xL [("kind", 8)] sc.nd (mi_it (xV 3)) (blkOk_by (by rfl)) (fun _ _ _ _ _ => (xG sc.nd)) (fun _ _ _ _ _ => pts0) (fun _ _ _ _ _ => (me_fz (xC [true, false, false, false, true] G_law_pattern hr (takes0 _) (xA (xV 0) (xA (xV 1) (xA (xV 8) (xA (xV 5) (xA (xV 6) ma_nil)))))))))))
    (mss_cons (zAs 6 sc.nd (xL [("k", 4)] sc.nd (xR1 z_range xI) (blkOk_by (by rfl)) (fun _ _ _ _ _ => (xG sc.nd)) (fun _ _ _ _ _ => pts0) (fun _ _ _ _ _ => (me_op2 o_add xS (xCT c_str z_str (xA (xV 4) ma_nil))))))
    (mss_cons (zAs 9 sc.nd (me_fz (xL [("kind", 8)] sc.nd (mi_it (xV 3)) (blkOk_by (by rfl)) (fun _ _ _ _ _ => (xG sc.nd)) (fun _ _ _ _ _ => pts0) (fun _ _ _ _ _ => (me_fz (xC [true, false, false, false, true] G_law_pattern hr (takes0 _) (xA (xV 0) (xA (xV 1) (xA (xV 8) (xA (xV 5) (xA (xV 6) ma_nil)))))))))))
    (mss_cons (ms_if (xW (mw_and (xCmT (o_eq hr.units) (xC [true, false] G_law_draw hr tk (xA (xV 0) (xA xI ma_nil))) xI) (mw_one (xCmT o_igt (xCB c_lenX z_len (xA (xV 3) ma_nil)) xI)))) (mss_cons (zAs 10 sc.nd (me_fz (xC [true, false] G_law_draw hr tk (xA (xV 0) (xA (xCB c_lenX z_len (xA (xV 3) ma_nil)) ma_nil)))))
    (mss_cons (zAs 11 sc.nd (xCT (c_listX rfl) z_list (xA (xV 7) ma_nil)))
    (mss_cons (zSe 11 (hu_of hr) (xCX 4 [true, false, false, false, true] G_law_pattern hr tk (xA (xV 0) (xA (xV 1) (xA (xIx (hu_of hr) (xV 3) (xV 10)) (xA (xV 5) (xA (xL [("k", 4)] sc.nd (xR1 z_range xI) (blkOk_by (by rfl)) (fun _ _ _ _ _ => (xG sc.nd)) (fun _ _ _ _ _ => pts0) (fun _ _ _ _ _ => (me_op2 o_add xS (xCT c_str z_str (xA (xV 4) ma_nil))))) ma_nil)))))) (xV 10))
    (mss_one (zAs 9 sc.nd (me_fz (xV 11))))))) mss_nil)
    (mss_cons (zAs 12 sc.nd (me_fz (xC [false, false] G_law_lists hr tk (xA (xV 1) (xA xI ma_nil)))))
    (mss_cons (zAs 13 sc.nd (xCB (c_all rfl) z_all (xA (xL [("k", 4)] sc.nd (xR1 z_range (xCB c_lenX z_len (xA (xV 3) ma_nil))) (blkOk_by (by rfl)) (fun _ _ _ _ _ => (xG sc.nd)) (fun _ _ _ _ _ => pts0) (fun _ _ _ _ _ => (me_fz (xC [false, false, false, false, false] G_law_meet hr (takes0 _) (xA (xV 12) (xA (xIx (hu_of hr) (xV 3) (xV 4)) (xA (xIx (hu_of hr) (xV 7) (xV 4)) (xA (xIx (hu_of hr) (xV 9) (xV 4)) (xA (xV 5) ma_nil))))))))) ma_nil)))
    (mss_cons (zAs 14 sc.nd (me_fz (xC [false, false] G_patterns_meet hr tk (xA (xCT c_tuple z_tuple (xA (xV 7) ma_nil)) (xA (xCT c_tuple z_tuple (xA (xV 9) ma_nil)) ma_nil)))))
    (mss_cons (zAs 15 sc.nd (me_fz (xC [false, false] G_patterns_meet hr tk (xA (xCT c_tuple z_tuple (xA (xV 9) ma_nil)) (xA (xCT c_tuple z_tuple (xA (xV 7) ma_nil)) ma_nil)))))
    (mss_one (ms_ret (me_and (xCB c_isiX z_isinstance (xA (xV 14) (xA (xTy z_bool) ma_nil))) (me_and (xCm (o_eq hr.units) (xV 14) (xV 13)) (me_and (xCB c_isiX z_isinstance (xA (xV 15) (xA (xTy z_bool) ma_nil))) (me_one (xCm (o_eq hr.units) (xV 15) (xV 13)))))))))))))))))))
/-! ### law -/
noncomputable def f_law_L1 : MSt := (sIf (mNotT (mTru (mCallF [true, false, false] fm_law_ask_meet (mCons (mVar 1) (mCons (mVar 4) (mCons (mVar 8) mNil)))))) (sRet (M.pure (.val (.bl false)))) sNx)
noncomputable def f_law : MSt := (sSeq (sAsg 1 (mCallF [false] fm_law_begin (mCons (mVar 0) mNil))) (sSeq (sAsg 2 (mCallF [true, false] fm_law_shuffled (mCons (mVar 1) (mCons (mFz (mCallF [] fm_law_small_names mNil)) mNil)))) (sSeq (sAsg 3 (mCallF [true, false] fm_law_shuffled (mCons (mVar 1) (mCons (mFz (mCallF [] fm_law_great_names mNil)) mNil)))) (sSeq (sUnp (gTp 4 (gsCons (gNm 4) (gsCons (gNm 5) (gsCons (gNm 6) (gsCons (gNm 7) gsNil))))) (mCallF [true, true, true] fm_law_drawn_kinds (mCons (mVar 1) (mCons (mVar 2) (mCons (mVar 3) mNil))))) (sSeq (sAsg 8 (mFz (mLst (mCons (mVar 5) (mCons (mVar 6) (mCons (mVar 7) mNil)))))) (sSeq (sAsg 9 (mTup (mCons (mVar 4) (mCons (mFz (mCallF [true, true, false] fm_law_drawn_heads (mCons (mVar 1) (mCons (mVar 2) (mCons (mVar 8) mNil))))) mNil)))) (sSeq (sUnp (gTp 2 (gsCons (gNm 10) (gsCons (gNm 11) gsNil))) (mCallF [true, false, false] fm_law_drawn_rows (mCons (mVar 1) (mCons (mVar 9) (mCons (mVar 8) mNil))))) (sSeq (sIf (mNotT (mTru (mCallF [false, false] fm_law_ask_match (mCons (mVar 10) (mCons (mVar 11) mNil))))) (sRet (M.pure (.val (.bl false)))) sNx) (sSeq (sUnp (gTp 2 (gsCons (gNm 10) (gsCons (gNm 11) gsNil))) (mCallF [true, false] fm_law_large_rows (mCons (mVar 1) (mCons (mFz (mVar 3)) mNil)))) (sSeq (sIf (mNotT (mTru (mCallF [false, false] fm_law_ask_match (mCons (mVar 10) (mCons (mVar 11) mNil))))) (sRet (M.pure (.val (.bl false)))) sNx) (sSeq (sFor (mRg1 (M.pure (.val (.int 2)))) (gNm 12) f_law_L1) (sRet (M.pure (.val (.bl true)))))))))))))))
noncomputable def fm_law : M EV := fmOf 13 f_law
theorem sc_law : FnScope ["script", "d", "names", "greats", "kinds", "flat", "chain", "tree", "sorts", "world", "patterns", "terms", "turn"] ["script"] (defScope (topS 34)) := ⟨rfl, rfl, rfl, by decide +kernel, rfl, by decide +kernel, by decide +kernel⟩
theorem ok_law {P : Program} {w : World} {K : PySem.W.Frag} {mg : Str → Option Value} {base : Heap} {f : Addr} {fd : FuncData} (F : Fun K "law" "law" (topS 34) f fd) (G_law_begin : FnGood P w K mg base "_law_begin" 1 1 fm_law_begin) (G_law_shuffled : FnGood P w K mg base "_law_shuffled" 2 2 fm_law_shuffled) (G_law_small_names : FnGood P w K mg base "_law_small_names" 0 1 fm_law_small_names) (G_law_great_names : FnGood P w K mg base "_law_great_names" 0 1 fm_law_great_names) (G_law_drawn_kinds : FnGood P w K mg base "_law_drawn_kinds" 3 3 fm_law_drawn_kinds) (G_law_ask_match : FnGood P w K mg base "_law_ask_match" 2 3 fm_law_ask_match) (G_law_drawn_heads : FnGood P w K mg base "_law_drawn_heads" 3 3 fm_law_drawn_heads) (G_law_drawn_rows : FnGood P w K mg base "_law_drawn_rows" 3 65 fm_law_drawn_rows) (G_law_large_rows : FnGood P w K mg base "_law_large_rows" 2 62 fm_law_large_rows) (G_law_ask_meet : FnGood P w K mg base "_law_ask_meet" 3 64 fm_law_ask_meet) (z_range : mg "range" = none) : FnOk P w K mg base (L2.CX P w) 66 f fd ["script"] (spM K 1 fm_law) :=
  have sc := sc_law
  fn_ok F sc fun X W cdv A outer s H E hX hr tk po => by
    subst hX
    exact (mss_cons (zAs 1 sc.nd (xC [false] G_law_begin hr tk (xA (xV 0) ma_nil)))
    (mss_cons (zAs 2 sc.nd (xC [true, false] G_law_shuffled hr tk (xA (xV 1) (xA (me_fz (xC0 G_law_small_names hr tk)) ma_nil))))
    (mss_cons (zAs 3 sc.nd (xC [true, false] G_law_shuffled hr tk (xA (xV 1) (xA (me_fz (xC0 G_law_great_names hr tk)) ma_nil))))
    (mss_cons (zUn (xGt (xGs (xG sc.nd) (xGs (xG sc.nd) (xGs (xG sc.nd) (xGs (xG sc.nd) mgs_nil))))) (xC [true, true, true] G_law_drawn_kinds hr tk (xA (xV 1) (xA (xV 2) (xA (xV 3) ma_nil)))))
    (mss_cons (zAs 8 sc.nd (me_fz (me_lst (xA (xV 5) (xA (xV 6) (xA (xV 7) ma_nil))))))
    (mss_cons (zAs 9 sc.nd (me_tup (xA (xV 4) (xA (me_fz (xC [true, true, false] G_law_drawn_heads hr tk (xA (xV 1) (xA (xV 2) (xA (xV 8) ma_nil))))) ma_nil))))
    (mss_cons (zUn (xGt (xGs (xG sc.nd) (xGs (xG sc.nd) mgs_nil))) (xC [true, false, false] G_law_drawn_rows hr tk (xA (xV 1) (xA (xV 9) (xA (xV 8) ma_nil)))))
    (mss_cons (ms_if (mt_not (xTr (xC [false, false] G_law_ask_match hr tk (xA (xV 10) (xA (xV 11) ma_nil))))) (mss_one (ms_ret xB)) mss_nil)
    (mss_cons (zUn (xGt (xGs (xG sc.nd) (xGs (xG sc.nd) mgs_nil))) (xC [true, false] G_law_large_rows hr tk (xA (xV 1) (xA (me_fz (xV 3)) ma_nil))))
    (mss_cons (ms_if (mt_not (xTr (xC [false, false] G_law_ask_match hr tk (xA (xV 10) (xA (xV 11) ma_nil))))) (mss_one (ms_ret xB)) mss_nil)
    (mss_cons (zFo po (xR1 z_range xI) (xG sc.nd) (mss_one (ms_if (mt_not (xTr (xC [true, false, false] G_law_ask_meet hr tk (xA (xV 1) (xA (xV 4) (xA (xV 8) ma_nil)))))) (mss_one (ms_ret xB)) mss_nil)))
    (mss_one (ms_ret xB)))))))))))))
end Fw
set_option linter.all false
set_option maxRecDepth 100000
/-! terms: parts, places -/
namespace Fw
open PySem L2
@[simp] theorem rgL_len {lo : Int} {n : Nat} : (rgL lo n).length = n := by simp [rgL]
theorem rgL_get {n i : Nat} {d : D} (h : (rgL 0 n)[i]? = some d) : i < n ∧ d = .int (i : Nat) := by
  have hl := (List.getElem?_eq_some_iff.mp h).1
  rw [rgL_len] at hl
  refine ⟨hl, ?_⟩
  unfold rgL at h
  rw [List.getElem?_map, List.getElem?_range hl] at h
  simp at h
  rw [← h]
theorem rgL_mem {n : Nat} {d : D} (h : d ∈ rgL 0 n) : ∃ i, i < n ∧ d = .int (i : Nat) := by
  obtain ⟨i, hi, rfl⟩ := List.mem_map.mp h
  exact ⟨i, by simpa using hi, by simp⟩
theorem rgL_map {n : Nat} {α : Type} {v : D → α} : (rgL 0 n).map v = (List.range n).map fun i => v (.int (i : Nat)) := by
  simp [rgL, Function.comp_def]
theorem atI_nat' {α : Type} {l : List α} {i : Nat} {x : α} (h : l[i]? = some x) : L2.atI l (i : Nat) = some x := atI_ge (by omega) (by simpa using h)
theorem atI_map {α β : Type} {f : α → β} {l : List α} {i : Int} : L2.atI (l.map f) i = (L2.atI l i).map f := by
  unfold L2.atI
  rw [List.length_map]
  cases L2.ixN l.length i with
  | none => rfl
  | some j => simp
theorem flatten_rep {d : D} : ∀ c : Nat, (List.replicate c [d]).flatten = List.replicate c d
  | 0 => rfl
  | c + 1 => by rw [List.replicate_succ, List.flatten_cons, flatten_rep c]; rfl
theorem mulD_one {d : D} {c : Nat} (h : c ≤ 16777216) : mulD (.lst [d]) (.int (c : Nat)) = some (.new (.lst (List.replicate c d))) := by
  have e : mulD (.lst [d]) (.int (c : Nat)) = some (.new (.lst (List.replicate (c : Int).toNat [d]).flatten)) := if_pos ⟨by omega, by omega, by simp; omega⟩
  rw [e, Int.toNat_natCast, flatten_rep]
theorem setO_nat {ds : List D} {j : Nat} {d : D} (h : j < ds.length) : setO (.lst ds) (.int (j : Nat)) d = some (.lst (ds.set j d)) := by
  rw [setO_lst]
  unfold L2.ixN
  rw [if_pos (by omega), if_pos (by omega)]
  simp
theorem ixN_nat {n j : Nat} (h : j < n) : L2.ixN n (j : Nat) = some j := by
  unfold L2.ixN
  rw [if_pos (by omega), if_pos (by omega)]
  simp
theorem set_range {α : Type} {g : Nat → α} {c j : Nat} {v : α} : ((List.range c).map g).set j v = (List.range c).map fun k => if k = j then v else g k := by
  refine List.ext_getElem? fun i => ?_
  rw [List.getElem?_set, List.getElem?_map, List.getElem?_map]
  by_cases hi : i < c
  · rw [List.getElem?_range hi]
    by_cases hj : j = i
    · subst hj; simp [hi]
    · rw [if_neg hj]; simp; intro z; exact absurd z.symm hj
  · rw [List.getElem?_eq_none (l := List.range c) (by simp; omega)]
    by_cases hj : j = i
    · subst hj; simp; omega
    · rw [if_neg hj]; rfl
theorem gAppend_ok {ds : List D} {d : D} (h : ds.length < 16777216) : gAppend (.lst ds) [d] = some (.non, .lst (ds ++ [d])) := by
  exact if_pos h
@[simp] theorem tmD_v {x : Str} : tmD (.v x) = .str x := rfl
@[simp] theorem tmD_f {h : Str} {as : List Tm} : tmD (.f h as) = .tup (.str h :: as.map tmD) := by rw [tmD, tmDs_eq]
@[simp] theorem isi_ss {x : Str} : bIsI [.str x, .ty "str"] = some (.val (.bl true)) := rfl
@[simp] theorem isi_ts {ds : List D} : bIsI [.tup ds, .ty "str"] = some (.val (.bl false)) := rfl
@[simp] theorem cutD_1 {α : Type} {a : α} {as : List α} : cutD (a :: as) (some 1) none = as := by
  unfold cutD
  rw [HT.sIx_none, show HT.sIx (a :: as).length 0 (some 1) = 1 from by
    rw [show HT.sIx (a :: as).length 0 (some 1) = min 1 (a :: as).length from HT.sIx_nat _ 0 1]
    simp]
  simp
@[simp] theorem cutR_0 {α : Type} {a : α} {as : List α} : cutR (a :: as) (some 0) = as.reverse := by
  unfold cutR jR
  simp
theorem lent_tm {t : Tm} : allLent [.val (tmD t)] = true := rfl
theorem stack_len {S : List Tm} {u : Tm} {n m : Nat} (h : tszs (S ++ [u]) = n) (hm : n ≤ m) : S.length ≤ m ∧ tszs S + tsz u = n := by
  rw [tszs_app, tszs, tszs] at h
  have := len_tszs S
  omega
mutual
/-- the parts, from the left, outside first -/
def tpt : Tm → List Tm
  | .v x => [.v x]
  | .f h as => .f h as :: tpts as
def tpts : List Tm → List Tm
  | [] => []
  | a :: as => tpt a ++ tpts as
end
theorem tpts_app : ∀ {a b : List Tm}, tpts (a ++ b) = tpts a ++ tpts b
  | [], b => rfl
  | x :: a, b => by rw [List.cons_append, tpts, tpts, tpts_app, List.append_assoc]
theorem mem_tpts {p : Tm} : ∀ {S : List Tm}, p ∈ tpts S ↔ ∃ s, s ∈ S ∧ p ∈ tpt s
  | [] => by simp [tpts]
  | a :: S => by rw [tpts, List.mem_append, mem_tpts]; simp
theorem tpt_self : ∀ t : Tm, t ∈ tpt t
  | .v _ => by simp [tpt]
  | .f _ _ => by simp [tpt]
mutual
theorem tpt_len : ∀ t : Tm, (tpt t).length = tsz t
  | .v _ => by simp [tpt, tsz]
  | .f _ as => by simp [tpt, tsz, tpts_len as]; omega
theorem tpts_len : ∀ as : List Tm, (tpts as).length = tszs as
  | [] => rfl
  | a :: as => by simp [tpts, tszs, tpt_len a, tpts_len as]
end
mutual
theorem tpt_in {P : Str → Bool} : ∀ (t : Tm) {p : Tm}, p ∈ tpt t → tdp p ≤ tdp t ∧ tsz p ≤ tsz t ∧ (tall P t = true → tall P p = true)
  | .v x, p, h => by
    simp [tpt] at h; subst h
    exact ⟨Nat.le_refl _, Nat.le_refl _, id⟩
  | .f g as, p, h => by
    rw [tpt] at h
    rcases List.mem_cons.mp h with e | h
    · subst e; exact ⟨Nat.le_refl _, Nat.le_refl _, id⟩
    · obtain ⟨a, b, c⟩ := tpts_in (P := P) as h
      rw [tdp, tsz, tall, Bool.and_eq_true]
      exact ⟨by omega, by omega, fun z => c z.2⟩
theorem tpts_in {P : Str → Bool} : ∀ (as : List Tm) {p : Tm}, p ∈ tpts as → tdp p ≤ tdps as ∧ tsz p ≤ tszs as ∧ (talls P as = true → tall P p = true)
  | [], p, h => by simp [tpts] at h
  | a :: as, p, h => by
    rw [tpts] at h
    rw [tdps, tszs, talls, Bool.and_eq_true]
    rcases List.mem_append.mp h with h | h
    · obtain ⟨x, y, z⟩ := tpt_in (P := P) a h
      exact ⟨by omega, by omega, fun q => z q.1⟩
    · obtain ⟨x, y, z⟩ := tpts_in (P := P) as h
      exact ⟨by omega, by omega, fun q => z q.2⟩
end
/-- comparable -/
def Gd (t : Tm) : Prop := tdp t ≤ 60 ∧ tall stOk t = true
theorem Gd.sh {t : Tm} (h : Gd t) : shD 64 (tmD t) = true := sh_tm 64 t (by have := h.1; omega) h.2
theorem Gd.part {t p : Tm} (h : Gd t) (hp : p ∈ tpt t) : Gd p := by
  obtain ⟨a, _, c⟩ := tpt_in (P := stOk) t hp
  exact ⟨Nat.le_trans a h.1, c h.2⟩
theorem tdps_in : ∀ {as : List Tm} {a : Tm}, a ∈ as → tdp a ≤ tdps as
  | x :: as, a, h => by
    rw [tdps]
    rcases List.mem_cons.mp h with e | h
    · subst e; omega
    · have := tdps_in h; omega
theorem talls_iff {P : Str → Bool} : ∀ {as : List Tm}, talls P as = true ↔ ∀ a ∈ as, tall P a = true
  | [] => by simp [talls]
  | x :: as => by rw [talls, Bool.and_eq_true, talls_iff]; simp
theorem Gd.kid {g : Str} {as : List Tm} {a : Tm} (h : Gd (.f g as)) (ha : a ∈ as) : Gd a := by
  refine h.part ?_
  rw [tpt]
  exact List.mem_cons_of_mem _ (mem_tpts.mpr ⟨a, ha, tpt_self a⟩)
theorem Gd.kids {g : Str} {as : List Tm} (h : Gd (.f g as)) : (as.map tmD).all (shD 63) = true := by
  have h1 := h.1
  have h2 := h.2
  rw [tdp] at h1
  rw [tall, Bool.and_eq_true] at h2
  rw [← tmDs_eq]
  exact sh_tms 63 as (by omega) h2.2
mutual
/-- places: the way and the part -/
def spT (p : List Nat) : Tm → List (List Nat × Tm)
  | .v x => [(p, .v x)]
  | .f h as => (p, .f h as) :: spTs p 0 as
def spTs (p : List Nat) (k : Nat) : List Tm → List (List Nat × Tm)
  | [] => []
  | a :: as => spT (p ++ [k]) a ++ spTs p (k + 1) as
end
mutual
theorem spT_parts : ∀ (t : Tm) (p : List Nat), (spT p t).map (·.2) = tpt t
  | .v _, _ => rfl
  | .f h as, p => by rw [spT, List.map_cons, spTs_parts as p 0, tpt]
theorem spTs_parts : ∀ (as : List Tm) (p : List Nat) (k : Nat), (spTs p k as).map (·.2) = tpts as
  | [], _, _ => rfl
  | a :: as, p, k => by rw [spTs, List.map_append, spT_parts a, spTs_parts as, tpts]
end
def pathD (p : List Nat) : D := .tup (p.map fun n => .int (n : Nat))
/-- first of its like -/
def dd {α : Type} [DecidableEq α] : List α → List α → List α
  | acc, [] => acc
  | acc, x :: r => dd (if x ∈ acc then acc else acc ++ [x]) r
theorem dd_app {α : Type} [DecidableEq α] : ∀ {a b acc : List α}, dd acc (a ++ b) = dd (dd acc a) b
  | [], b, acc => rfl
  | x :: a, b, acc => by rw [List.cons_append, dd, dd, dd_app]
def varOf : Tm → Option Str
  | .v x => some x
  | .f _ _ => none
def headOf : Tm → Option Str
  | .v _ => none
  | .f h _ => some h
def great (h : Str) : Bool := match h.cps.toList with
  | c :: _ => decide (65 ≤ c ∧ c ≤ 90)
  | [] => false
/-- texts in a row of texts -/
theorem memD_strs {x : Str} {l : List Str} : memB (.str x) (.lst (l.map .str)) = some (decide (x ∈ l)) := by
  have h1 : inB (.str x) (.lst (l.map .str)) = some ((l.map D.str).any fun y => eqB y (.str x)) := by
    show (match seqD (.lst (l.map D.str)) with | some ds => _ | none => none) = _
    rw [seqD]
    exact if_pos ⟨rfl, by rw [List.all_map]; exact List.all_eq_true.mpr fun _ _ => rfl⟩
  unfold memB
  rw [h1]
  show some ((l.map D.str).any fun y => eqB y (.str x)) = _
  have e : ((l.map D.str).any fun y => eqB y (.str x)) = decide (x ∈ l) := by
    rw [List.any_map, Bool.eq_iff_iff]
    simp [eqB]
  rw [e]
theorem memD_strs_t {x : Str} {l : List Str} : memB (.str x) (.tup (l.map .str)) = some (decide (x ∈ l)) := by
  have h1 : inB (.str x) (.tup (l.map .str)) = some ((l.map D.str).any fun y => eqB y (.str x)) := by
    show (match seqD (.tup (l.map D.str)) with | some ds => _ | none => none) = _
    rw [seqD]
    exact if_pos ⟨rfl, by rw [List.all_map]; exact List.all_eq_true.mpr fun _ _ => rfl⟩
  unfold memB
  rw [h1]
  show some ((l.map D.str).any fun y => eqB y (.str x)) = _
  have e : ((l.map D.str).any fun y => eqB y (.str x)) = decide (x ∈ l) := by
    rw [List.any_map, Bool.eq_iff_iff]
    simp [eqB]
  rw [e]
theorem eqD_sh {a b : D} (ha : shD 64 a = true) (hb : shD 64 b = true) : eqD a b = some (.val (.bl (eqB a b))) := by
  cases a with
  | str x =>
    cases b with
    | str y => rfl
    | _ => simp only [eqD, ha, hb, and_self, if_true]
  | _ => simp only [eqD, ha, hb, and_self, if_true]
theorem neD_sh {a b : D} (ha : shD 64 a = true) (hb : shD 64 b = true) : neD a b = some (.val (.bl (!eqB a b))) := by
  cases a with
  | str x =>
    cases b with
    | str y => rfl
    | _ => simp only [neD, ha, hb, and_self, if_true]
  | _ => simp only [neD, ha, hb, and_self, if_true]
end Fw
set_option linter.all false
set_option maxRecDepth 100000
/-! places of terms -/
namespace Fw
open PySem L2
section
variable {ms : MS} {E : EX → MS → Prop} {a b c : M EV}
@[simp] theorem run_rg3 {Q : List D → MS → Prop} : Wp (mRg3 a b c) ms Q E = Wp a ms (fun ea ms1 => inK (fun i => Wp b ms1 (fun eb ms2 => inK (fun j => Wp c ms2 (fun ec ms3 => inK (fun k => (k = -1 ∧ -16777216 ≤ i ∧ i ≤ 16777216 ∧ -16777216 ≤ j ∧ j ≤ 16777216 ∧ i - j ≤ 16777216) ∧ Q (rgD i (i - j).toNat) ms3) ec) E) eb) E) ea) E := by
  unfold mRg3
  rw [Wp.bind, run_mI]; refine Wp.ext fun x ms1 => ?_
  cases x with
  | new o => rfl
  | bor o => rfl
  | val d =>
    cases d with
    | int i =>
      simp only [inK_int]
      rw [Wp.bind, run_mI]; refine Wp.ext fun y ms2 => ?_
      cases y with
      | new o => rfl
      | bor o => rfl
      | val d =>
        cases d with
        | int j =>
          simp only [inK_int]
          rw [Wp.bind, run_mI]; refine Wp.ext fun z ms3 => ?_
          cases z with
          | new o => rfl
          | bor o => rfl
          | val d =>
            cases d with
            | int k => simp only [inK_int, run_lift, opK_ite]
            | _ => rfl
        | _ => rfl
    | _ => rfl
end
@[simp] theorem rgD_len {hi : Int} {n : Nat} : (rgD hi n).length = n := by simp [rgD]
theorem rgD_get {hi : Int} {n i : Nat} {d : D} (h : (rgD hi n)[i]? = some d) : i < n ∧ d = .int (hi - (i : Nat)) := by
  have hl := (List.getElem?_eq_some_iff.mp h).1
  rw [rgD_len] at hl
  refine ⟨hl, ?_⟩
  unfold rgD at h
  rw [List.getElem?_map, List.getElem?_range hl] at h
  simp at h
  rw [← h]
/-- the children and the ways to them -/
def kp (p : List Nat) (k : Nat) : List Tm → List (Tm × List Nat)
  | [] => []
  | a :: as => (a, p ++ [k]) :: kp p (k + 1) as
theorem kp_len {p : List Nat} : ∀ {k : Nat} {as : List Tm}, (kp p k as).length = as.length
  | _, [] => rfl
  | k, a :: as => by rw [kp, List.length_cons, kp_len, List.length_cons]
theorem kp_get {p : List Nat} : ∀ {k i : Nat} {as : List Tm}, (kp p k as)[i]? = as[i]?.map fun a => (a, p ++ [k + i])
  | _, _, [] => rfl
  | k, 0, a :: as => rfl
  | k, i + 1, a :: as => by
    rw [kp, List.getElem?_cons_succ, List.getElem?_cons_succ, kp_get]
    have : k + 1 + i = k + (i + 1) := by omega
    rw [this]
theorem kp_fst {p : List Nat} : ∀ {k : Nat} {as : List Tm}, (kp p k as).map (·.1) = as
  | _, [] => rfl
  | k, a :: as => by rw [kp, List.map_cons, kp_fst]
def flS (S : List (Tm × List Nat)) : List (List Nat × Tm) := S.flatMap fun x => spT x.2 x.1
theorem flS_kp {p : List Nat} : ∀ {k : Nat} {as : List Tm}, flS (kp p k as) = spTs p k as
  | _, [] => rfl
  | k, a :: as => by
    show spT (p ++ [k]) a ++ flS (kp p (k + 1) as) = _
    rw [flS_kp, spTs]
theorem flS_app {a b : List (Tm × List Nat)} : flS (a ++ b) = flS a ++ flS b := by simp [flS]
theorem pathD_snoc {p : List Nat} {k : Nat} (h : p.length ≤ 100000) : addD (pathD p) (.tup [.int (k : Nat)]) = some (.val (pathD (p ++ [k]))) := by
  have e : addD (pathD p) (.tup [.int (k : Nat)]) = if (p.map fun n => D.int (n : Nat)).length + [D.int (k : Nat)].length ≤ 16777216 then some (.val (.tup (p.map (fun n => D.int (n : Nat)) ++ [.int (k : Nat)]))) else none := rfl
  rw [e, if_pos (by simp; omega)]
  simp [pathD]
end Fw
set_option linter.all false
set_option maxRecDepth 100000
/-! texts by their signs -/
namespace Fw
open PySem L2
theorem ixD_str {S : Str} {r : Nat} {c : Nat} (hl : S.length ≤ 16777216) (h : S.cps.toList[r]? = some c) : ixD (.str S) (.int (r : Nat)) = some (.val (.str ⟨#[c]⟩)) := by
  have e : ixD (.str S) (.int (r : Nat)) = if S.length ≤ 16777216 then (L2.atI S.cps.toList (r : Nat)).map (fun c => EV.val (D.str ⟨#[c]⟩)) else none := rfl
  rw [e, if_pos hl, atI_nat' h]; rfl
theorem addD_str {x y : Str} (h : x.length + y.length ≤ 16777216) : addD (.str x) (.str y) = some (.val (.str (x ++ y))) := if_pos h
theorem app_cps {x y : Str} : (x ++ y).cps.toList = x.cps.toList ++ y.cps.toList := by
  show (x.cps ++ y.cps).toList = _
  exact Array.toList_append
theorem str_len {x : Str} : x.length = x.cps.toList.length := by show x.cps.size = _; simp
theorem st_list {x : Str} : stOk x = true ↔ ∀ c ∈ x.cps.toList, c < 1114112 := by
  unfold stOk PyData.strOk
  rw [← Array.all_toList, List.all_eq_true]
  simp
theorem inS_one {c : Nat} {S : Str} : inS ⟨#[c]⟩ S = decide (c ∈ S.cps.toList) := PySem.StrLaws.found_one S c
theorem memD_one {c : Nat} {S : Str} : memD (.str ⟨#[c]⟩) (.str S) = some (.val (.bl (decide (c ∈ S.cps.toList)))) := by
  show some (EV.val (D.bl (inS ⟨#[c]⟩ S))) = _
  rw [inS_one]
theorem notMemD_one {c : Nat} {S : Str} : notMemD (.str ⟨#[c]⟩) (.str S) = some (.val (.bl (!decide (c ∈ S.cps.toList)))) := by
  show some (EV.val (D.bl (!(inS ⟨#[c]⟩ S)))) = _
  rw [inS_one]
theorem slD_str {z : Str} {lo hi : Option Int} (h : z.length ≤ 16777216) : slD (.str z) lo hi = some (.val (.str (cutS z lo hi))) := by
  have e : slD (.str z) lo hi = if z.length ≤ 16777216 then some (.val (.str (cutS z lo hi))) else none := rfl
  rw [e, if_pos h]
theorem cutS_list {z : Str} {lo hi : Option Int} : (cutS z lo hi).cps.toList = (z.cps.toList.drop (HT.sIx z.length 0 lo)).take (HT.sIx z.length z.length hi - HT.sIx z.length 0 lo) := by
  unfold cutS; simp
/-- signs below 128, not too many -/
def As (z : Str) (n : Nat) : Prop := (∀ c ∈ z.cps.toList, c < 128) ∧ z.length ≤ n
theorem As.le {z : Str} {n m : Nat} (h : As z n) (l : n ≤ m) : As z m := ⟨h.1, Nat.le_trans h.2 l⟩
theorem As.cut {z : Str} {n : Nat} {lo hi : Option Int} (h : As z n) : As (cutS z lo hi) n := by
  refine ⟨fun c hc => ?_, ?_⟩
  · rw [cutS_list] at hc
    exact h.1 c (List.mem_of_mem_drop (List.mem_of_mem_take hc))
  · rw [str_len, cutS_list, List.length_take, List.length_drop, ← str_len]
    have := h.2
    omega
theorem As.app {x y : Str} {n m : Nat} (h : As x n) (k : As y m) : As (x ++ y) (n + m) := by
  refine ⟨fun c hc => ?_, ?_⟩
  · rw [app_cps] at hc
    rcases List.mem_append.mp hc with z | z
    · exact h.1 c z
    · exact k.1 c z
  · have h1 := h.2
    have h2 := k.2
    rw [str_len] at h1 h2
    rw [str_len, app_cps, List.length_append]
    omega
theorem As.one {c : Nat} (h : c < 128) : As ⟨#[c]⟩ 1 := ⟨fun x hx => by simp at hx; omega, Nat.le_refl _⟩
theorem As.nil : As (Str.ofString "") 0 := by
  have e : (Str.ofString "").cps.toList = [] := by decide +kernel
  refine ⟨fun c hc => ?_, ?_⟩
  · rw [e] at hc; simp at hc
  · rw [str_len, e]; simp
/-- by running it -/
theorem As.by {z : Str} {n : Nat} (h : (z.cps.toList.all (fun c => decide (c < 128)) && decide (z.length ≤ n)) = true) : As z n := by
  rw [Bool.and_eq_true, List.all_eq_true, decide_eq_true_eq] at h
  exact ⟨fun c hc => by simpa using h.1 c hc, h.2⟩
abbrev lowS : Str := Str.ofString "abcdefghijklmnopqrstuvwxyz"
abbrev upS : Str := Str.ofString "ABCDEFGHIJKLMNOPQRSTUVWXYZ"
abbrev digS : Str := Str.ofString "0123456789"
theorem low_as : As lowS 26 := As.by (by decide +kernel)
theorem up_as : As upS 26 := As.by (by decide +kernel)
theorem dig_as : As digS 10 := As.by (by decide +kernel)
theorem low_len : lowS.cps.toList.length = 26 := by decide +kernel
theorem up_len : upS.cps.toList.length = 26 := by decide +kernel
theorem dig_len : digS.cps.toList.length = 10 := by decide +kernel
theorem As.at {z : Str} {n i : Nat} {c : Nat} (h : As z n) (hc : z.cps.toList[i]? = some c) : c < 128 := h.1 c (List.mem_of_getElem? hc)
/-- the item at a drawn place of a text -/
theorem ixD_draw {S : Str} {n : Nat} {r : Int} (h : As S n) (hn : n ≤ 16777216) (r0 : 0 ≤ r) (r1 : r < S.cps.toList.length) : ∃ c, c ∈ S.cps.toList ∧ c < 128 ∧ ixD (.str S) (.int r) = some (.val (.str ⟨#[c]⟩)) := by
  obtain ⟨k, rfl⟩ : ∃ k : Nat, r = k := ⟨r.toNat, by omega⟩
  have hk : k < S.cps.toList.length := by omega
  have hg := List.getElem?_eq_getElem hk
  exact ⟨_, List.getElem_mem hk, h.at hg, ixD_str (Nat.le_trans h.2 hn) hg⟩
end Fw
set_option linter.all false
set_option maxRecDepth 100000
/-! ways in terms: parts at a way, terms with a part put in -/
namespace Fw
open PySem L2
theorem addD_tup {a b : List D} (h : a.length + b.length ≤ 16777216) : addD (.tup a) (.tup b) = some (.val (.tup (a ++ b))) := if_pos h
theorem addD_lst' {a b : List D} (h : a.length + b.length ≤ 16777216) : addD (.lst a) (.lst b) = some (.new (.lst (a ++ b))) := if_pos h
theorem mulD_tup1 {d : D} {c : Nat} (h : c ≤ 1000) : mulD (.tup [d]) (.int (c : Nat)) = some (.val (.tup (List.replicate c d))) := by
  have e : mulD (.tup [d]) (.int (c : Nat)) = some (.val (.tup (List.replicate (c : Int).toNat [d]).flatten)) := if_pos ⟨by omega, by omega, by simp⟩
  rw [e, Int.toNat_natCast, flatten_rep]
@[simp] theorem leD_int {i j : Int} : leD (.int i) (.int j) = some (.val (.bl (decide (i ≤ j)))) := rfl
def rD2 (x : List Nat × Tm) : D := .tup [pathD x.1, tmD x.2]
/-- the part at a way -/
def atP : Tm → List Nat → Option Tm
  | t, [] => some t
  | .v _, _ :: _ => none
  | .f _ as, n :: p => match as[n]? with
    | some a => atP a p
    | none => none
/-- new at a way -/
def stP : Tm → List Nat → Tm → Tm
  | _, [], new => new
  | .v x, _ :: _, _ => .v x
  | .f h as, n :: p, new => match as[n]? with
    | some a => .f h (as.set n (stP a p new))
    | none => .f h as
theorem cut_hi {α : Type} {a : α} {as : List α} {n : Nat} : cutD (a :: as) none (some ((n : Int) + 1)) = a :: as.take n := by
  unfold cutD
  have e : HT.sIx (a :: as).length (a :: as).length (some ((n : Int) + 1)) = min (n + 1) (a :: as).length := by
    have := HT.sIx_nat (a :: as).length (a :: as).length (n + 1)
    simpa using this
  rw [HT.sIx_none, e]
  simp
theorem cut_lo {α : Type} {a : α} {as : List α} {n : Nat} : cutD (a :: as) (some ((n : Int) + 1 + 1)) none = as.drop (n + 1) := by
  unfold cutD
  have e : HT.sIx (a :: as).length 0 (some ((n : Int) + 1 + 1)) = min (n + 2) (a :: as).length := by
    have := HT.sIx_nat (a :: as).length 0 (n + 2)
    have e2 : ((n + 2 : Nat) : Int) = (n : Int) + 1 + 1 := by omega
    rw [e2] at this
    exact this
  rw [HT.sIx_none, e]
  by_cases h : n + 2 ≤ (a :: as).length
  · rw [Nat.min_eq_left h]
    rw [List.drop_succ_cons]
    exact List.take_of_length_le (by simp)
  · rw [Nat.min_eq_right (by omega)]
    simp
    simp at h
    omega
theorem eqD_path {p : List Nat} : eqD (pathD p) (.tup []) = some (.val (.bl (decide (p = [])))) := by
  cases p with
  | nil => rfl
  | cons n p =>
    have e : shD 64 (pathD (n :: p)) = true := by
      show ((n :: p).map fun n => D.int (n : Nat)).all (shD 63) = true
      rw [List.all_map]
      exact List.all_eq_true.mpr fun _ _ => rfl
    rw [eqD_sh e rfl]
    rfl
theorem set_split {α : Type} {as : List α} {n : Nat} {x : α} (h : n < as.length) : as.take n ++ x :: as.drop (n + 1) = as.set n x := by
  rw [List.set_eq_take_append_cons_drop, if_pos h]
theorem atP_some {t : Tm} {n : Nat} {p : List Nat} {w : Tm} (h : atP t (n :: p) = some w) : ∃ g as a, t = .f g as ∧ as[n]? = some a ∧ atP a p = some w := by
  cases t with
  | v x => cases h
  | f g as =>
    rw [atP] at h
    cases ha : as[n]? with
    | none => rw [ha] at h; cases h
    | some a => rw [ha] at h; exact ⟨g, as, a, rfl, ha, h⟩
theorem kid_sz {g : Str} {as : List Tm} {n : Nat} {a : Tm} (ha : as[n]? = some a) : tsz a < tsz (.f g as) := by
  have h2 := (tpts_in (P := stOk) as (mem_tpts.mpr ⟨a, List.mem_of_getElem? ha, tpt_self a⟩)).2.1
  rw [tsz]; omega
mutual
theorem sp_at : ∀ (t : Tm) (q : List Nat) (x : List Nat × Tm), x ∈ spT q t → ∃ r, x.1 = q ++ r ∧ atP t r = some x.2
  | .v y, q, x, h => by
    simp [spT] at h; subst h
    exact ⟨[], by simp, rfl⟩
  | .f g as, q, x, h => by
    rw [spT] at h
    rcases List.mem_cons.mp h with e | h
    · subst e; exact ⟨[], by simp, rfl⟩
    · obtain ⟨i, r, a, h1, h2, h3⟩ := sps_at as q 0 x h
      refine ⟨i :: r, by simpa using h1, ?_⟩
      rw [atP, h2]
      exact h3
theorem sps_at : ∀ (as : List Tm) (q : List Nat) (k : Nat) (x : List Nat × Tm), x ∈ spTs q k as → ∃ i r a, x.1 = q ++ (k + i) :: r ∧ as[i]? = some a ∧ atP a r = some x.2
  | [], _, _, _, h => by simp [spTs] at h
  | a :: as, q, k, x, h => by
    rw [spTs] at h
    rcases List.mem_append.mp h with h | h
    · obtain ⟨r, h1, h2⟩ := sp_at a (q ++ [k]) x h
      exact ⟨0, r, a, by simpa using h1, rfl, h2⟩
    · obtain ⟨i, r, b, h1, h2, h3⟩ := sps_at as q (k + 1) x h
      refine ⟨i + 1, r, b, ?_, by simpa using h2, h3⟩
      rw [h1]
      have : k + 1 + i = k + (i + 1) := by omega
      rw [this]
end
theorem tszs_rep {t : Tm} : ∀ n : Nat, tszs (List.replicate n t) = n * tsz t
  | 0 => by simp [tszs]
  | n + 1 => by rw [List.replicate_succ, tszs, tszs_rep n, Nat.succ_mul, Nat.add_comm]
theorem tdps_rep {t : Tm} : ∀ n : Nat, tdps (List.replicate n t) ≤ tdp t
  | 0 => by simp [tdps]
  | n + 1 => by have := tdps_rep (t := t) n; rw [List.replicate_succ, tdps]; omega
theorem pick_nat (L : List Nat) {r : Int} (h0 : 0 ≤ r) (h1 : r < L.length) (P : Nat → Prop) (hP : ∀ n ∈ L, P n) : ∃ n, P n ∧ L2.atI (L.map fun n => D.int (n : Nat)) r = some (.int (n : Nat)) := by
  have hr : r.toNat < L.length := by omega
  refine ⟨L[r.toNat], hP _ (List.getElem_mem hr), atI_ge h0 ?_⟩
  rw [List.getElem?_map, List.getElem?_eq_getElem hr]; rfl
theorem tszs_snoc {as : List Tm} {a : Tm} : tszs (as ++ [a]) = tszs as + tsz a := by rw [tszs_app, tszs, tszs]; rfl
theorem tdps_snoc {as : List Tm} {a : Tm} : tdps (as ++ [a]) = max (tdps as) (tdp a) := by
  induction as with
  | nil => simp [tdps]
  | cons b as ih => rw [List.cons_append, tdps, tdps, ih]; omega
theorem tdps_app {a b : List Tm} : tdps (a ++ b) = max (tdps a) (tdps b) := by
  induction a with
  | nil => simp [tdps]
  | cons x a ih => rw [List.cons_append, tdps, tdps, ih]; omega
mutual
theorem dp_sz : ∀ t : Tm, tdp t ≤ tsz t
  | .v _ => by rw [tdp, tsz]; omega
  | .f _ as => by have := dps_szs as; rw [tdp, tsz]; omega
theorem dps_szs : ∀ as : List Tm, tdps as ≤ tszs as
  | [] => Nat.le_refl _
  | a :: as => by have := dp_sz a; have := dps_szs as; rw [tdps, tszs]; omega
end
theorem tdp_pos : ∀ t : Tm, 0 < tdp t
  | .v _ => by rw [tdp]; omega
  | .f _ _ => by rw [tdp]; omega
def pD (p : Tm × Nat) : D := .tup [tmD p.1, .int (p.2 : Nat)]
end Fw
set_option linter.all false
set_option maxRecDepth 100000
/-! dicts, seen as what they hold -/
namespace Fw
open PySem L2
theorem eqB_key {t : Bool} {a b : D} (ha : okKey t a = true) (hb : okKey t b = true) : eqB a b = true ↔ a = b := by
  cases t with
  | false =>
    obtain ⟨k, hk⟩ := Option.isSome_iff_exists.mp (show (keyOf a).isSome = true from ha)
    obtain ⟨l, hl⟩ := Option.isSome_iff_exists.mp (show (keyOf b).isSome = true from hb)
    rw [keyOf_eq hk, keyOf_eq hl, eqB_kD, decide_eq_true_eq]
    constructor
    · intro h; rw [h]
    · intro h
      cases k <;> cases l <;> simp [kD] at h <;> simp [h]
  | true =>
    obtain ⟨k, hk⟩ := Option.isSome_iff_exists.mp (show (tkeyOf a).isSome = true from ha)
    obtain ⟨l, hl⟩ := Option.isSome_iff_exists.mp (show (tkeyOf b).isSome = true from hb)
    rw [tkeyOf_eq hk, tkeyOf_eq hl, eqB_ktD, decide_eq_true_eq]
    constructor
    · intro h; rw [h]
    · intro h
      have inj : ∀ (k l : List Key), k.map kD = l.map kD → k = l := by
        intro k
        induction k with
        | nil => intro l h; cases l <;> simp at h ⊢
        | cons a k ih =>
          intro l h
          cases l with
          | nil => simp at h
          | cons b l =>
            simp at h
            obtain ⟨h1, h2⟩ := h
            rw [ih l h2]
            congr 1
            cases a <;> cases b <;> simp [kD] at h1 <;> simp [h1]
      simp [ktD] at h
      exact inj k l h
/-- what a dict's keys and values hold -/
structure Dv (t : Bool) (ks vs : List D) (n : Nat) (g : D → Option D) : Prop where
  len : ks.length = vs.length
  keys : ∀ k ∈ ks, okKey t k = true
  find : ∀ q, okKey t q = true → dFind ks vs q = g q
  size : ks.length ≤ n
theorem Dv.nil {t : Bool} : Dv t [] [] 0 (fun _ => none) := ⟨rfl, by simp, fun _ _ => rfl, Nat.le_refl _⟩
theorem Dv.le {t : Bool} {ks vs : List D} {n m : Nat} {g : D → Option D} (h : Dv t ks vs n g) (l : n ≤ m) : Dv t ks vs m g := ⟨h.len, h.keys, h.find, Nat.le_trans h.size l⟩
theorem dHas_iff {t : Bool} {q : D} (hq : okKey t q = true) : ∀ {ks : List D}, (∀ k ∈ ks, okKey t k = true) → (dHas ks q = true ↔ q ∈ ks)
  | [], _ => by simp [dHas]
  | k :: ks, h => by
    rw [dHas, Bool.or_eq_true, dHas_iff hq fun x hx => h x (List.mem_cons_of_mem _ hx), eqB_key (h k (by simp)) hq, List.mem_cons]
    constructor
    · rintro (e | e)
      · exact .inl e.symm
      · exact .inr e
    · rintro (e | e)
      · exact .inl e.symm
      · exact .inr e
open Classical in
theorem dFind_repl {t : Bool} {q q' x : D} (hq : okKey t q = true) (hq' : okKey t q' = true) : ∀ {ks vs : List D}, ks.length = vs.length → (∀ k ∈ ks, okKey t k = true) →
    dFind ks (dRepl ks vs q x) q' = if q' = q ∧ q ∈ ks then some x else dFind ks vs q'
  | [], vs, _, _ => by simp [dFind]
  | k :: ks, [], h, _ => by simp at h
  | k :: ks, v :: vs, h, hk => by
    have ih := dFind_repl (x := x) hq hq' (ks := ks) (vs := vs) (by simpa using h) fun a ha => hk a (List.mem_cons_of_mem _ ha)
    have hk0 := hk k (by simp)
    rw [dRepl, dFind, dFind, ih]
    by_cases c1 : k = q'
    · subst c1
      rw [if_pos ((eqB_key hk0 hq').mpr rfl), if_pos ((eqB_key hk0 hq').mpr rfl)]
      by_cases c2 : k = q
      · subst c2
        rw [if_pos ((eqB_key hk0 hq).mpr rfl), if_pos ⟨rfl, by simp⟩]
      · rw [if_neg (fun z => c2 ((eqB_key hk0 hq).mp z)), if_neg (fun z => c2 z.1)]
    · rw [if_neg (fun z => c1 ((eqB_key hk0 hq').mp z)), if_neg (fun z => c1 ((eqB_key hk0 hq').mp z))]
      by_cases c2 : q' = q
      · subst c2
        have : q' ∈ k :: ks ↔ q' ∈ ks := by simp; intro z; exact absurd z.symm c1
        simp [this]
      · rw [if_neg (fun z => c2 z.1), if_neg (fun z => c2 z.1)]
open Classical in
theorem dFind_app {t : Bool} {q q' x : D} (hq : okKey t q = true) (hq' : okKey t q' = true) : ∀ {ks vs : List D}, ks.length = vs.length → (∀ k ∈ ks, okKey t k = true) → q ∉ ks →
    dFind (ks ++ [q]) (vs ++ [x]) q' = if q' = q then some x else dFind ks vs q'
  | [], [], _, _, _ => by
    show dFind [q] [x] q' = _
    rw [dFind]
    by_cases c : q' = q
    · subst c; rw [if_pos ((eqB_key hq hq).mpr rfl), if_pos rfl]
    · rw [if_neg (fun z => c ((eqB_key hq hq').mp z).symm), if_neg c]
  | [], v :: vs, h, _, _ => by simp at h
  | k :: ks, [], h, _, _ => by simp at h
  | k :: ks, v :: vs, h, hk, hn => by
    have ih := dFind_app (x := x) hq hq' (ks := ks) (vs := vs) (by simpa using h) (fun a ha => hk a (List.mem_cons_of_mem _ ha)) (fun z => hn (List.mem_cons_of_mem _ z))
    have hk0 := hk k (by simp)
    rw [List.cons_append, List.cons_append, dFind, dFind, ih]
    by_cases c1 : k = q'
    · subst c1
      rw [if_pos ((eqB_key hk0 hq').mpr rfl), if_pos ((eqB_key hk0 hq').mpr rfl), if_neg (fun z => hn (by simp [z]))]
    · rw [if_neg (fun z => c1 ((eqB_key hk0 hq').mp z)), if_neg (fun z => c1 ((eqB_key hk0 hq').mp z))]
theorem dRepl_len {q x : D} : ∀ {ks vs : List D}, ks.length = vs.length → (dRepl ks vs q x).length = vs.length
  | [], [], _ => rfl
  | [], v :: vs, h => by simp at h
  | k :: ks, [], h => by simp at h
  | k :: ks, v :: vs, h => by rw [dRepl, List.length_cons, List.length_cons, dRepl_len (by simpa using h)]
open Classical in
/-- what it holds behind d[q] = x -/
noncomputable def gPut (g : D → Option D) (q x : D) : D → Option D := fun q' => if q' = q then some x else g q'
@[simp] theorem gPut_same {g : D → Option D} {q x : D} : gPut g q x q = some x := if_pos rfl
theorem gPut_ne {g : D → Option D} {q q' x : D} (h : q' ≠ q) : gPut g q x q' = g q' := if_neg h
theorem Dv.put {t : Bool} {ks vs : List D} {n : Nat} {g : D → Option D} {q x : D} (h : Dv t ks vs n g) (hq : okKey t q = true) : Dv t (dPut ks vs q x).1 (dPut ks vs q x).2 (n + 1) (gPut g q x) := by
  unfold dPut
  by_cases c : dHas ks q = true
  · rw [if_pos c]
    have hin := (dHas_iff hq h.keys).mp c
    refine ⟨by rw [dRepl_len h.len]; exact h.len, h.keys, fun q' hq' => ?_, Nat.le_succ_of_le h.size⟩
    dsimp only
    rw [dFind_repl hq hq' h.len h.keys, h.find q' hq', gPut]
    by_cases e : q' = q
    · rw [if_pos ⟨e, hin⟩, if_pos e]
    · rw [if_neg (fun z => e z.1), if_neg e]
  · rw [if_neg c]
    have hin : q ∉ ks := fun z => c ((dHas_iff hq h.keys).mpr z)
    refine ⟨by simp [h.len], fun k hk => ?_, fun q' hq' => ?_, by have := h.size; simp; omega⟩
    · dsimp only at hk
      rcases List.mem_append.mp hk with z | z
      · exact h.keys k z
      · simp at z; subst z; exact hq
    · dsimp only
      rw [dFind_app hq hq' h.len h.keys hin, h.find q' hq', gPut]
theorem Dv.set {t : Bool} {ks vs : List D} {n : Nat} {g : D → Option D} {q x : D} (h : Dv t ks vs n g) (hq : okKey t q = true) (hn : n < 16777216) : ∃ ks' vs', setO (.dic t ks vs) q x = some (.dic t ks' vs') ∧ Dv t ks' vs' (n + 1) (gPut g q x) := by
  refine ⟨_, _, ?_, h.put hq⟩
  have e : setO (.dic t ks vs) q x = if okKey t q = true ∧ ks.length < 16777216 then some (.dic t (dPut ks vs q x).1 (dPut ks vs q x).2) else none := rfl
  rw [e, if_pos ⟨hq, by have := h.size; omega⟩]
theorem Dv.get {t : Bool} {ks vs : List D} {n : Nat} {g : D → Option D} {q x : D} (h : Dv t ks vs n g) (hq : okKey t q = true) (e : g q = some x) : ixD (.dct t ks vs) q = some (.val x) := by
  have e1 : ixD (.dct t ks vs) q = if okKey t q = true then (dFind ks vs q).map .val else none := by
    cases q <;> rfl
  rw [e1, if_pos hq, h.find q hq, e]; rfl
theorem okKey_ints {l : List Nat} : okKey true (pathD l) = true := by
  have : ∀ l : List Nat, keysOf (l.map fun n => D.int (n : Nat)) = some (l.map fun n => .inl ((n : Nat) : Int)) := by
    intro l
    induction l with
    | nil => rfl
    | cons a l ih => rw [List.map_cons, List.map_cons, keysOf, keyOf, ih]
  show (tkeyOf (pathD l)).isSome = true
  unfold pathD
  show (keysOf (l.map fun n => D.int (n : Nat))).isSome = true
  rw [this]; rfl
theorem pathD_inj {p q : List Nat} (h : pathD p = pathD q) : p = q := by
  have : ∀ p q : List Nat, (p.map fun n => D.int (n : Nat)) = q.map (fun n => D.int (n : Nat)) → p = q := by
    intro p
    induction p with
    | nil => intro q h; cases q <;> simp at h ⊢
    | cons a p ih =>
      intro q h
      cases q with
      | nil => simp at h
      | cons b q =>
        simp only [List.map_cons, List.cons.injEq, D.int.injEq] at h
        rw [ih q h.2]
        congr 1
        omega
  unfold pathD at h
  exact this p q (D.tup.inj h)
end Fw
set_option linter.all false
set_option maxRecDepth 100000
/-! images; dicts under a naming of keys and values (no law in sight) -/
namespace Fw
open PySem L2
variable {Q : EV → MS → Prop} {E : EX → MS → Prop}
theorem eqB_refl : ∀ (n : Nat) (d : D), shD n d = true → eqB d d = true := by
  have hs : ∀ (n : Nat), (∀ d, shD n d = true → eqB d d = true) → ∀ ds : List D, ds.all (shD n) = true → eqBs ds ds = true := by
    intro n ih ds
    induction ds with
    | nil => intro _; rfl
    | cons d ds ih2 =>
      intro h
      obtain ⟨a, b⟩ := shD_all h
      rw [eqBs, Bool.and_eq_true]
      exact ⟨ih d a, ih2 b⟩
  intro n
  induction n with
  | zero => intro d h; cases d <;> simp [shD] at h <;> simp [eqB]
  | succ n ih =>
    intro d h
    cases d <;> simp only [shD] at h <;> first | (simp [eqB]; done) | (rw [eqB]; exact hs n ih _ h) | cases h
theorem eqD_self {d : D} (h : shD 64 d = true) : eqD d d = some (.val (.bl true)) := by rw [eqD_sh h h, eqB_refl 64 d h]
theorem neD_self {d : D} (h : shD 64 d = true) : neD d d = some (.val (.bl false)) := by rw [neD_sh h h, eqB_refl 64 d h]; rfl
/-! images -/
section
variable {α : Type}
def imPut (im : List (Str × α)) (x : Str) (t : α) : List (Str × α) := if im.any (fun p => p.1 == x) then im.map (fun p => if p.1 == x then (p.1, t) else p) else im ++ [(x, t)]
/-- a dict of images, under a naming of its keys and values -/
def gO (k : Str → Str) (v : α → D) (im : List (Str × α)) : OV := .dic false (im.map fun p => .str (k p.1)) (im.map fun p => v p.2)
def gD (k : Str → Str) (v : α → D) (im : List (Str × α)) : D := .dct false (im.map fun p => .str (k p.1)) (im.map fun p => v p.2)
@[simp] theorem gO_d {k : Str → Str} {v : α → D} {im : List (Str × α)} : (gO k v im).d = gD k v im := rfl
abbrev Inj (k : Str → Str) : Prop := ∀ x y, k x = k y → x = y
theorem inj_id : Inj id := fun _ _ h => h
section
variable {k : Str → Str} {v : α → D} (hk : Inj k)
include hk
theorem key_eq {x y : Str} : eqB (.str (k x)) (.str (k y)) = (x == y) := by
  show (k x == k y) = _
  by_cases h : x = y
  · subst h; simp
  · have h1 : (x == y) = false := beq_eq_false_iff_ne.mpr h
    have h2 : (k x == k y) = false := beq_eq_false_iff_ne.mpr fun z => h (hk _ _ z)
    rw [h1, h2]
theorem dHas_g {x : Str} : ∀ {im : List (Str × α)}, dHas (im.map fun p => .str (k p.1)) (.str (k x)) = im.any fun p => p.1 == x
  | [] => rfl
  | p :: im => by rw [List.map_cons, dHas, dHas_g, List.any_cons, key_eq hk]
theorem dRepl_g {x : Str} {t : α} : ∀ {im : List (Str × α)}, dRepl (im.map fun p => .str (k p.1)) (im.map fun p => v p.2) (.str (k x)) (v t) = (im.map fun p => if p.1 == x then (p.1, t) else p).map fun p => v p.2
  | [] => rfl
  | p :: im => by
    rw [List.map_cons, List.map_cons, dRepl, dRepl_g, List.map_cons, List.map_cons, key_eq hk]
    congr 1
    split <;> rfl
theorem setO_g {im : List (Str × α)} {x : Str} {t : α} (h : im.length ≤ 1000) : setO (gO k v im) (.str (k x)) (v t) = some (gO k v (imPut im x t)) := by
  have e : setO (gO k v im) (.str (k x)) (v t) = if okKey false (.str (k x)) = true ∧ (im.map fun p => D.str (k p.1)).length < 16777216 then some (.dic false (dPut (im.map fun p => .str (k p.1)) (im.map fun p => v p.2) (.str (k x)) (v t)).1 (dPut (im.map fun p => .str (k p.1)) (im.map fun p => v p.2) (.str (k x)) (v t)).2) else none := rfl
  rw [e, if_pos ⟨rfl, by simp; omega⟩]
  unfold dPut imPut gO
  rw [dHas_g hk]
  by_cases hc : (im.any fun p => p.1 == x) = true
  · rw [if_pos hc, if_pos hc, dRepl_g hk]
    congr 2
    show im.map (fun p => D.str (k p.1)) = _
    rw [List.map_map]
    refine List.map_congr_left fun p _ => ?_
    show D.str (k p.1) = D.str (k (if (p.1 == x) = true then (p.1, t) else p).1)
    split <;> rfl
  · rw [if_neg hc, if_neg hc]
    simp
theorem dFind_g {x : Str} : ∀ {im : List (Str × α)}, dFind (im.map fun p => .str (k p.1)) (im.map fun p => v p.2) (.str (k x)) = (im.lookup x).map v
  | [] => rfl
  | (y, t) :: im => by
    rw [List.map_cons, List.map_cons, dFind, List.lookup_cons, key_eq hk]
    by_cases h : x = y
    · subst h; simp
    · have h1 : (y == x) = false := beq_eq_false_iff_ne.mpr (fun z => h z.symm)
      have h2 : (x == y) = false := beq_eq_false_iff_ne.mpr h
      rw [h1, h2]
      simp [dFind_g]
theorem ixD_g {im : List (Str × α)} {x : Str} {u : α} (h : im.lookup x = some u) : ixD (gD k v im) (.str (k x)) = some (.val (v u)) := by
  have e : ixD (gD k v im) (.str (k x)) = (dFind (im.map fun p => .str (k p.1)) (im.map fun p => v p.2) (.str (k x))).map .val := rfl
  rw [e, dFind_g hk, h]; rfl
theorem lookup_any {im : List (Str × α)} {x : Str} : (im.any fun p => p.1 == x) = (im.lookup x).isSome := by
  induction im with
  | nil => rfl
  | cons p im ih =>
    obtain ⟨y, t⟩ := p
    rw [List.any_cons, List.lookup_cons, ih]
    by_cases h : x = y
    · subst h; simp
    · have h1 : (y == x) = false := beq_eq_false_iff_ne.mpr (fun z => h z.symm)
      have h2 : (x == y) = false := beq_eq_false_iff_ne.mpr h
      simp [h1, h2]
theorem memD_g {im : List (Str × α)} {x : Str} : memD (.str (k x)) (gD k v im) = some (.val (.bl (im.lookup x).isSome)) := by
  have e : memD (.str (k x)) (gD k v im) = some (.val (.bl ((dFind (im.map fun p => .str (k p.1)) (im.map fun p => v p.2) (.str (k x))).isSome))) := rfl
  rw [e, dFind_g hk]; cases im.lookup x <;> rfl
end
def ImN (im : List (Str × α)) : Prop := (im.map (·.1)).Nodup
theorem lookup_mem {im : List (Str × α)} {x : Str} {t : α} (h : im.lookup x = some t) : (x, t) ∈ im := PySem.mem_of_lookup h
theorem lookup_of {im : List (Str × α)} (hn : ImN im) {x : Str} {t : α} (h : (x, t) ∈ im) : im.lookup x = some t := by
  induction im with
  | nil => simp at h
  | cons p im ih =>
    obtain ⟨y, u⟩ := p
    unfold ImN at hn
    rw [List.map_cons, List.nodup_cons] at hn
    rw [List.lookup_cons]
    rcases List.mem_cons.mp h with e | hm
    · cases e; simp
    · have : x ≠ y := fun z => hn.1 (List.mem_map.mpr ⟨_, hm, by simpa using z⟩)
      rw [beq_eq_false_iff_ne.mpr this]
      exact ih hn.2 hm
theorem lookup_none {im : List (Str × α)} {x : Str} (h : x ∉ im.map (·.1)) : im.lookup x = none := by
  cases hl : im.lookup x with
  | none => rfl
  | some t => exact absurd (List.mem_map.mpr ⟨_, lookup_mem hl, rfl⟩) h
theorem imPut_new {im : List (Str × α)} {x : Str} {t : α} (h : x ∉ im.map (·.1)) : imPut im x t = im ++ [(x, t)] := by
  unfold imPut
  rw [if_neg]
  rw [lookup_any inj_id, lookup_none h]; simp
theorem imPut_lookup {im : List (Str × α)} {x y : Str} {t : α} : (imPut im x t).lookup y = if y = x then some t else im.lookup y := by
  unfold imPut
  by_cases hc : (im.any fun p => p.1 == x) = true
  · rw [if_pos hc]
    induction im with
    | nil => simp at hc
    | cons p im ih =>
      obtain ⟨z, u⟩ := p
      rw [List.map_cons]
      by_cases h1 : z = x
      · subst h1
        rw [if_pos (by simp), List.lookup_cons, List.lookup_cons]
        by_cases h2 : y = z
        · subst h2; simp
        · rw [beq_eq_false_iff_ne.mpr h2, if_neg h2]
          dsimp only
          have : ∀ im : List (Str × α), (im.map fun p => if p.1 == z then (p.1, t) else p).lookup y = im.lookup y := by
            intro im
            induction im with
            | nil => rfl
            | cons p im ih =>
              obtain ⟨w, u⟩ := p
              rw [List.map_cons]
              by_cases h3 : w = z
              · subst h3
                rw [if_pos (by simp), List.lookup_cons, List.lookup_cons, ih, beq_eq_false_iff_ne.mpr h2]
              · rw [if_neg (by simp [h3]), List.lookup_cons, List.lookup_cons, ih]
          exact this im
      · rw [if_neg (by simp [h1]), List.lookup_cons, List.lookup_cons]
        have h3 : (z == x) = false := beq_eq_false_iff_ne.mpr h1
        by_cases h2 : y = z
        · subst h2; simp [h1]
        · rw [beq_eq_false_iff_ne.mpr h2]
          exact ih (by simpa [h3] using hc)
  · rw [if_neg hc, List.lookup_append]
    rw [lookup_any inj_id] at hc
    by_cases h2 : y = x
    · subst h2
      cases hl : im.lookup y with
      | none => simp [List.lookup]
      | some u => simp [hl] at hc
    · rw [if_neg h2]
      have : (List.lookup y [(x, t)]) = none := by simp [List.lookup, beq_eq_false_iff_ne.mpr h2]
      rw [this]; cases im.lookup y <;> rfl
theorem imPut_nd {im : List (Str × α)} {x : Str} {t : α} (h : ImN im) : ImN (imPut im x t) := by
  by_cases hc : x ∈ im.map (·.1)
  · have : (imPut im x t).map (·.1) = im.map (·.1) := by
      unfold imPut
      split
      · rw [List.map_map]
        refine List.map_congr_left fun p _ => ?_
        show (if (p.1 == x) = true then (p.1, t) else p).1 = _
        split <;> rfl
      · rename_i hn
        rw [lookup_any inj_id] at hn
        obtain ⟨p, hp, e⟩ := List.mem_map.mp hc
        have hh := lookup_of h hp
        rw [e] at hh
        rw [hh] at hn
        simp at hn
    unfold ImN; rw [this]; exact h
  · rw [imPut_new hc]
    unfold ImN
    rw [List.map_append, List.nodup_append]
    exact ⟨h, by simp, fun a ha b hb => by simp at hb; subst hb; rintro rfl; exact hc ha⟩
theorem imPut_len {im : List (Str × α)} {x : Str} {t : α} : (imPut im x t).length ≤ im.length + 1 := by
  unfold imPut
  split <;> simp
theorem imPut_mem {im : List (Str × α)} {x : Str} {t : α} {p : Str × α} (h : p ∈ imPut im x t) : p ∈ im ∨ (p.1 = x ∧ p.2 = t) := by
  unfold imPut at h
  split at h
  · obtain ⟨q, hq, rfl⟩ := List.mem_map.mp h
    by_cases c : (q.1 == x) = true
    · rw [if_pos c]; exact .inr ⟨eq_of_beq c, rfl⟩
    · rw [if_neg c]; exact .inl hq
  · rcases List.mem_append.mp h with z | z
    · exact .inl z
    · simp at z; subst z; exact .inr ⟨rfl, rfl⟩
end
/-- right images -/
abbrev Im := List (Str × Tm)
def imD (im : Im) : D := .dct false (im.map fun p => .str p.1) (im.map fun p => tmD p.2)
mutual
def sbT (im : Im) : Tm → Tm
  | .v x => (im.lookup x).getD (.v x)
  | .f h as => .f h (sbTs im as)
def sbTs (im : Im) : List Tm → List Tm
  | [] => []
  | a :: as => sbT im a :: sbTs im as
end
theorem sbTs_eq {im : Im} : ∀ {as : List Tm}, sbTs im as = as.map (sbT im)
  | [] => rfl
  | a :: as => by rw [sbTs, sbTs_eq]; rfl
theorem dFind_im {x : Str} : ∀ {im : Im}, dFind (im.map fun p => .str p.1) (im.map fun p => tmD p.2) (.str x) = (im.lookup x).map tmD
  | [] => rfl
  | (k, t) :: im => by
    rw [List.map_cons, List.map_cons, dFind, List.lookup_cons, eqB]
    by_cases h : x = k
    · subst h; simp
    · have h1 : (k == x) = false := beq_eq_false_iff_ne.mpr (fun z => h z.symm)
      have h2 : (x == k) = false := beq_eq_false_iff_ne.mpr h
      rw [h1, h2]
      simp [dFind_im]
theorem getD2_im {im : Im} {x : Str} : getD2 (imD im) (.str x) (.str x) = some (tmD (sbT im (.v x))) := by
  have e : getD2 (imD im) (.str x) (.str x) = some ((dFind (im.map fun p => .str p.1) (im.map fun p => tmD p.2) (.str x)).getD (.str x)) := rfl
  rw [e, dFind_im, sbT]
  cases im.lookup x <;> rfl
end Fw
set_option linter.all false
set_option maxRecDepth 100000
/-! comprehensions over a row of things -/
namespace Fw
open PySem L2
section
variable {ms : MS} {E : EX → MS → Prop} {QL : List D → MS → Prop} {m : M EV} {t : M Bool} {own : List Nat} {f : D → MS → Option MS} {α : Type}
/-- a comprehension that changes nothing -/
theorem run_compFI (e : α → D) (p : α → Bool) (v : α → D) : ∀ (l : List α) (acc : List D)
    (_ : ∀ a, a ∈ l → opK (fun ms1 => Wp t ms1 (fun k ms2 => k = p a ∧ (k = true → Wp m ms2 (fun ev ms3 => evD ev = some (v a) ∧ wipeM ms3 own = ms) E) ∧ (k = false → wipeM ms2 own = ms)) E) (f (e a) ms))
    (_ : QL (acc ++ (l.filter p).map v) ms), Wp (compL own f t m (l.map e) acc) ms QL E
  | [], acc, _, q => by rw [List.map_nil, run_compN]; simpa using q
  | a :: l, acc, step, q => by
    rw [List.map_cons, run_compC]
    obtain ⟨ms1, h1, h2⟩ := opK_ex.mp (step a (by simp))
    refine opK_of h1 (h2.imp fun k ms2 z => ?_)
    obtain ⟨hk, z1, z2⟩ := z
    refine ⟨fun k1 => (z1 k1).imp fun ev ms3 y => ?_, fun k0 => ?_⟩
    · refine opK_of y.1 ?_
      rw [y.2]
      refine run_compFI e p v l _ (fun b hb => step b (by simp [hb])) ?_
      rw [List.filter_cons_of_pos (by rw [← hk]; exact k1)] at q
      simpa using q
    · rw [z2 k0]
      refine run_compFI e p v l _ (fun b hb => step b (by simp [hb])) ?_
      rw [List.filter_cons_of_neg (by rw [← hk, k0]; simp)] at q
      exact q
/-- .. without a guard -/
theorem run_compMI (e : α → D) (v : α → D) (l : List α) (acc : List D)
    (step : ∀ a, a ∈ l → opK (fun ms1 => Wp m ms1 (fun ev ms3 => evD ev = some (v a) ∧ wipeM ms3 own = ms) E) (f (e a) ms))
    (q : QL (acc ++ l.map v) ms) : Wp (compL own f (M.pure true) m (l.map e) acc) ms QL E := by
  refine run_compFI e (fun _ => true) v l acc (fun a ha => ?_) (by rw [List.filter_eq_self.mpr fun _ _ => rfl]; exact q)
  obtain ⟨ms1, h1, h2⟩ := opK_ex.mp (step a ha)
  exact opK_of h1 ⟨rfl, fun _ => h2, fun z => nomatch z⟩
/-- a comprehension whose turns change the state: J holds ahead of each turn, R between each thing and its value -/
theorem run_compJ (e : α → D) (J : MS → Prop) (R : α → D → Prop) : ∀ (l : List α) (acc : List D) (ms : MS) (_ : J ms)
    (_ : ∀ a, a ∈ l → ∀ ms, J ms → opK (fun ms1 => Wp m ms1 (fun ev ms3 => ∃ y, evD ev = some y ∧ R a y ∧ Inv J (wipeM ms3 own)) E) (f (e a) ms))
    (_ : ∀ ys ms, Paired R l ys → J ms → QL (acc ++ ys) ms), Wp (compL own f (M.pure true) m (l.map e) acc) ms QL E
  | [], acc, ms, j, _, q => by rw [List.map_nil, run_compN]; simpa using q [] ms .nil j
  | a :: l, acc, ms, j, step, q => by
    rw [List.map_cons, run_compC]
    obtain ⟨ms1, h1, h2⟩ := opK_ex.mp (step a (by simp) ms j)
    refine opK_of h1 ⟨fun _ => h2.imp fun ev ms3 y => ?_, fun z => nomatch z⟩
    obtain ⟨y, e1, r, j'⟩ := y
    refine opK_of e1 ?_
    refine run_compJ e J R l _ _ j' (fun b hb => step b (by simp [hb])) fun ys ms hp hj => ?_
    have := q (y :: ys) ms (.cons r hp) hj
    simpa using this
end
theorem rgL_eq {n : Nat} : rgL 0 n = (List.range n).map fun i => D.int (i : Nat) := by
  unfold rgL
  simp
end Fw
set_option linter.all false
set_option maxRecDepth 100000
set_option maxHeartbeats 2000000
/-! numbers as texts; rows of texts; slices (no law in sight) -/
namespace Fw
open PySem L2
variable {Q : EV → MS → Prop} {E : EX → MS → Prop}
theorem istr_all : ((List.range 100).all fun k => decide ((istr (k : Nat)).length ≤ 2) && stOk (istr (k : Nat))) = true := by decide +kernel
theorem istr_len {k : Nat} (h : k < 100) : (istr (k : Nat)).length ≤ 2 := by
  have := List.all_eq_true.mp istr_all k (List.mem_range.mpr h)
  simp at this; exact this.1
theorem istr_st {k : Nat} (h : k < 100) : stOk (istr (k : Nat)) = true := by
  have := List.all_eq_true.mp istr_all k (List.mem_range.mpr h)
  simp at this; exact this.2
theorem istr_nd : ((List.range 100).map fun k => istr (k : Nat)).Nodup := by decide +kernel
theorem istr_inj {j k : Nat} (hj : j < 100) (hk : k < 100) (e : istr (j : Nat) = istr (k : Nat)) : j = k := by
  have h := List.pairwise_iff_getElem.mp istr_nd
  simp at h
  rcases Nat.lt_trichotomy j k with c | c | c
  · exact absurd e (h j k hj hk c)
  · exact c
  · exact absurd e.symm (h k j hk hj c)
/-- a slot without an object of its own -/
def nO (s : SV) : Prop := s = .unk ∨ ∃ d, s = .val d
theorem nO.lo {s : SV} (h : nO s) : lo s = true := by rcases h with rfl | ⟨d, rfl⟩ <;> rfl
theorem nO.nb {s : SV} (h : nO s) : noB (some s) = true := by rcases h with rfl | ⟨d, rfl⟩ <;> rfl
theorem nO.u : nO .unk := .inl rfl
theorem nO.v {d : D} : nO (.val d) := .inr ⟨_, rfl⟩
def px (k : Nat) : Str := Str.ofString "x" ++ istr (k : Nat)
theorem bStr_nat {k : Nat} (h : k < 100) : bStr [.int (k : Nat)] = some (.val (.str (istr (k : Nat)))) := bStr_int (by omega)
theorem addD_istr {z : Str} {k : Nat} (h : k < 100) (hz : z.length ≤ 1000) : addD (.str z) (.str (istr (k : Nat))) = some (.val (.str (z ++ istr (k : Nat)))) := by
  have := istr_len h
  exact addD_str (by omega)
theorem xS_len : (Str.ofString "x").length ≤ 1000 := by decide +kernel
theorem atI_strs {l : List Str} {k : Nat} (h : k < l.length) : L2.atI (l.map D.str) (k : Nat) = some (.str (l.getD k default)) := by
  refine atI_nat' ?_
  rw [List.getElem?_map, List.getElem?_eq_getElem h]
  simp [List.getD, h]
theorem map_getD {l : List Str} : (List.range l.length).map (fun k => l.getD k default) = l := by
  refine List.ext_getElem (by simp) fun i h1 h2 => ?_
  simp [List.getD, h2]
theorem atI_range {f : Nat → D} {n k : Nat} (h : k < n) : L2.atI ((List.range n).map f) (k : Nat) = some (f k) := by
  refine atI_nat' ?_
  rw [List.getElem?_map, List.getElem?_range h]; rfl
theorem cut_take {α : Type} {l : List α} {n : Nat} : cutD l none (some (n : Int)) = l.take n := by
  unfold cutD
  have e1 := HT.sIx_nat l.length l.length n
  rw [e1]
  show List.take (min n l.length - 0) (List.drop 0 l) = _
  rw [List.drop_zero, Nat.sub_zero]
  by_cases h : n ≤ l.length
  · rw [Nat.min_eq_left h]
  · rw [Nat.min_eq_right (by omega), List.take_length, List.take_of_length_le (by omega)]
theorem slD_take {l : List D} {n : Nat} : slD (.lst l) none (some (n : Int)) = some (.new (.lst (l.take n))) := by
  show some (EV.new (.lst (cutD l none (some (n : Int))))) = _
  rw [cut_take]
theorem slD_take2 {l : List D} : slD (.lst l) none (some 2) = some (.new (.lst (l.take 2))) := slD_take (n := 2)
end Fw
set_option linter.all false
set_option maxRecDepth 100000
/-! draws out of rows: _law_pop, _law_shuffled -/
namespace Fw
open PySem L2
variable {Q : EV → MS → Prop} {E : EX → MS → Prop}
theorem gPopAt_ok {ds : List D} {r : Int} (h0 : 0 ≤ r) (h1 : r < ds.length) (hl : ds.length ≤ 100000) : ∃ l d rr, ds = l ++ d :: rr ∧ gPopAt (.lst ds) [.int r] = some (d, .lst (l ++ rr)) := by
  obtain ⟨j, rfl⟩ : ∃ j : Nat, r = j := ⟨r.toNat, by omega⟩
  have hj : j < ds.length := by omega
  refine ⟨ds.take j, ds[j], ds.drop (j + 1), by rw [← List.drop_eq_getElem_cons hj, List.take_append_drop], ?_⟩
  unfold gPopAt
  dsimp only
  rw [if_pos ⟨by omega, by omega⟩, ixN_nat hj]
  simp [List.getElem?_eq_getElem hj, List.eraseIdx_eq_take_drop_succ]
/-- one of a row, taken out -/
theorem run_pop {o : OV} {ds : List D} (ho : DS o) (hne : ds ≠ []) (hl : ds.length ≤ 100000) (q : ∀ l d rr o', DS o' → ds = l ++ d :: rr → Q (.val d) [.own true o', .own true (.lst (l ++ rr))]) : Wp fm_law_pop [.own true o, .own true (.lst ds)] Q E := by
  unfold fm_law_pop
  rw [run_fm]
  refine ⟨rfl, ?_⟩
  unfold f_law_pop
  have hp : 0 < ds.length := List.length_pos_iff.mpr hne
  simp
  refine run_draw ho (by omega) fun r o' h' r0 r1 => ?_
  obtain ⟨l, d, rr, e, g⟩ := gPopAt_ok (ds := ds) r0 (by omega) hl
  simp [g]
  exact q l d rr o' h' e
theorem run_shuffled {o : OV} {row : D} {ds : List D} (ho : DS o) (hr : row = .lst ds ∨ row = .tup ds) (hl : ds.length ≤ 100000) (q : ∀ es o', DS o' → es.Perm ds → Q (.new (.lst es)) [.own true o', .unk]) : Wp fm_law_shuffled [.own true o, .val row] Q E := by
  unfold fm_law_shuffled
  rw [run_fm]
  refine ⟨by rcases hr with rfl | rfl <;> rfl, ?_⟩
  unfold f_law_shuffled
  have hb : bListX [row] = some (.new (.lst ds)) := by rcases hr with rfl | rfl <;> simp
  have hd0 : ∀ (as : List SV) (s : SV) (ms : MS), outS (.val row :: as) (s :: ms) = .unk :: outS as ms := fun _ _ _ => rfl
  simp [hb]
  refine ⟨by omega, ?_⟩
  refine loop_for (fun i ms => ∃ (o : OV) (left found : List D) (s4 : SV), DS o ∧ lo s4 = true ∧ left.length + i = ds.length ∧ (found ++ left).Perm ds ∧ ms = [.own true o, .val row, .own false (.lst left), .own false (.lst found), s4]) _ ⟨o, ds, [], .unk, ho, rfl, by omega, by simp, rfl⟩ (fun i d ms hd hI => ?_) (fun ms hI => ?_)
  · obtain ⟨o, left, found, s4, ho, h4, hlen, hp, em⟩ := hI
    subst em
    obtain ⟨hi, rfl⟩ := rgL_get hd
    have hi' : i < ds.length := by omega
    simp [h4, f_law_shuffled_L1]
    refine run_draw ho (by omega) fun r o' h' r0 r1 => ?_
    obtain ⟨l, d, rr, e, g⟩ := gPopAt_ok (ds := left) r0 (by omega) (by omega)
    have hpl := hp.length_eq
    rw [List.length_append] at hpl
    simp [g]
    refine opK_of (gAppend_ok (by omega)) ?_
    simp
    refine inv_of ⟨o', l ++ rr, found ++ [d], .val (.int (i : Nat)), h', rfl, ?_, ?_, rfl⟩
    · subst e; simp at hlen ⊢; omega
    · refine List.Perm.trans ?_ hp
      subst e
      rw [List.append_assoc]
      refine List.Perm.append_left found ?_
      rw [List.singleton_append]
      exact List.perm_middle.symm
  · obtain ⟨o, left, found, s4, ho, h4, hlen, hp, em⟩ := hI
    subst em
    rw [rgL_len] at hlen
    have : left = [] := List.length_eq_zero_iff.mp (by omega)
    subst this
    simp
    exact q _ _ ho (by simpa using hp)
end Fw
set_option linter.all false
set_option maxRecDepth 100000
set_option maxHeartbeats 1000000
/-! worlds: kinds, makers, functions; right terms -/
namespace Fw
open PySem L2
variable {Q : EV → MS → Prop} {E : EX → MS → Prop}
abbrev Mk := Str × List Str
abbrev Kd := Str × List Mk
abbrev Fnr := Str × List Str × Str × D
def mkD (m : Mk) : D := .tup [.str m.1, .tup (m.2.map .str)]
def kdD (k : Kd) : D := .tup [.str k.1, .tup (k.2.map mkD)]
def kdsD (ks : List Kd) : D := .tup (ks.map kdD)
def fnD (f : Fnr) : D := .tup [.str f.1, .tup (f.2.1.map .str), .str f.2.2.1, f.2.2.2]
def wldD (ks : List Kd) (fs : List Fnr) : D := .tup [kdsD ks, .tup (fs.map fnD)]
@[simp] theorem eqD_ss {x y : Str} : eqD (.str x) (.str y) = some (.val (.bl (x == y))) := rfl
@[simp] theorem neD_ss {x y : Str} : neD (.str x) (.str y) = some (.val (.bl (!(x == y)))) := rfl
theorem run_makers {ks : List Kd} {kind : Str} {ms : List Mk} (h : ks.lookup kind = some ms) (q : Q (.val (.tup (ms.map mkD))) [.unk, .unk]) : Wp fm_law_makers [.val (kdsD ks), .val (.str kind)] Q E := by
  unfold fm_law_makers
  rw [run_fm]
  refine ⟨rfl, ?_⟩
  unfold f_law_makers
  have go : ∀ (ks : List Kd), ks.lookup kind = some ms → ∀ (d0 : D) (s2 s3 : SV), lo s2 = true → lo s3 = true → ∀ (QS : Fl → MS → Prop) (E : EX → MS → Prop), (∀ s2 s3, QS (.rt (.val (.tup (ms.map mkD)))) [.val d0, .val (.str kind), s2, s3]) →
      Wp (forL (gTp 2 (gsCons (gNm 2) (gsCons (gNm 3) gsNil))) f_law_makers_L1 (ks.map kdD)) [.val d0, .val (.str kind), s2, s3] QS E := by
    intro ks
    induction ks with
    | nil => intro h; simp at h
    | cons k ks ih =>
      obtain ⟨n, mk⟩ := k
      intro h d0 s2 s3 l2 l3 QS E q
      rw [List.map_cons, run_forC]
      refine ⟨[.val d0, .val (.str kind), .val (.str n), .val (.tup (mk.map mkD))], by simp [kdD, l2, l3], ?_⟩
      unfold f_law_makers_L1
      rw [List.lookup_cons] at h
      by_cases c : n = kind
      · subst c
        simp at h
        subst h
        simp
        exact q _ _
      · have c' : (kind == n) = false := beq_eq_false_iff_ne.mpr (fun z => c z.symm)
        rw [c'] at h
        have := ih h d0 (.val (.str n)) (.val (.tup (mk.map mkD))) rfl rfl QS E q
        simp [c]
        exact this
  have hk : itemsX (.val (kdsD ks)) = some (ks.map kdD) := rfl
  simp [hk]
  refine go ks h _ _ _ rfl rfl _ _ fun _ _ => ?_
  simp
  exact q
/-- what the law's terms are drawn from -/
structure Wld (ks : List Kd) (fs : List Fnr) : Prop where
  nk : ks.length ≤ 10
  nm : ∀ k ∈ ks, k.2.length ≤ 10 ∧ ∀ m ∈ k.2, m.2.length ≤ 3 ∧ ∀ f ∈ m.2, f ∈ ks.map (·.1)
  cst : ∀ k ∈ ks, ∃ m ∈ k.2, m.2 = []
  nf : fs.length ≤ 10
  fn : ∀ f ∈ fs, f.2.1.length ≤ 3 ∧ f.2.2.1 ∈ ks.map (·.1) ∧ ∀ p ∈ f.2.1, p ∈ ks.map (·.1)
/-- heads with the kinds of their arguments and of the result -/
def hds (ks : List Kd) (fs : List Fnr) : List (Str × List Str × Str) := (ks.flatMap fun k => k.2.map fun m => (m.1, m.2, k.1)) ++ fs.map fun f => (f.1, f.2.1, f.2.2.1)
theorem lookup_of_key {α : Type} {kind : Str} : ∀ {ks : List (Str × α)}, kind ∈ ks.map (·.1) → ∃ ms, ks.lookup kind = some ms ∧ (kind, ms) ∈ ks
  | [], h => by simp at h
  | (n, mk) :: ks, h => by
    rw [List.lookup_cons]
    by_cases c : kind = n
    · subst c; exact ⟨mk, by simp, by simp⟩
    · have c' : (kind == n) = false := beq_eq_false_iff_ne.mpr c
      rw [c']
      obtain ⟨ms, h1, h2⟩ := lookup_of_key (ks := ks) (by simp at h; simp; exact h.resolve_left c)
      exact ⟨ms, h1, by simp [h2]⟩
mutual
/-- a right term of a kind: over known names, with calls that may stand as they are -/
def Tb (hs : List (Str × List Str × Str)) (kn : List (Str × Str)) (cl : List (Tm × Str)) : Tm → Str → Prop
  | .v x, k => (.v x, k) ∈ cl ∨ (x, k) ∈ kn
  | .f h as, k => (.f h as, k) ∈ cl ∨ ∃ fs, (h, fs, k) ∈ hs ∧ Tbs hs kn cl as fs
def Tbs (hs : List (Str × List Str × Str)) (kn : List (Str × Str)) (cl : List (Tm × Str)) : List Tm → List Str → Prop
  | [], fs => fs = []
  | a :: as, fs => ∃ f r, fs = f :: r ∧ Tb hs kn cl a f ∧ Tbs hs kn cl as r
end
def kpD (p : Str × Str) : D := .tup [.str p.1, .str p.2]
def cpD (p : Tm × Str) : D := .tup [tmD p.1, .str p.2]
theorem run_constant {ks : List Kd} {fs : List Fnr} {kind : Str} {o : OV} (W : Wld ks fs) (hk : kind ∈ ks.map (·.1)) (ho : DS o) (q : ∀ h o', DS o' → (h, [], kind) ∈ hds ks fs → Q (.val (tmD (.f h []))) [.own true o', .unk, .unk]) : Wp fm_law_constant [.own true o, .val (kdsD ks), .val (.str kind)] Q E := by
  unfold fm_law_constant
  rw [run_fm]
  refine ⟨rfl, ?_⟩
  unfold f_law_constant f_law_constant_C1
  obtain ⟨ms, h1, h2⟩ := lookup_of_key hk
  simp
  refine run_makers h1 ?_
  simp
  refine run_compFI mkD (fun m => decide (m.2.length = 0)) (fun m => .str m.1) ms [] (fun a ha => ?_) ?_
  · simp [mkD]
  · simp
    have hne : ((ms.filter fun m => decide (m.2.length = 0)).map fun m => D.str m.1) ≠ [] := by
      obtain ⟨m, m1, m2⟩ := W.cst _ h2
      intro z
      rw [List.map_eq_nil_iff, List.filter_eq_nil_iff] at z
      exact z m m1 (by simp [m2])
    have hlen : ((ms.filter fun m => decide (m.2.length = 0)).map fun m => D.str m.1).length < 1073741824 := by
      have := (W.nm _ h2).1
      have h3 := List.length_filter_le (fun m : Mk => decide (m.2.length = 0)) ms
      rw [List.length_map]
      simp at this
      omega
    refine run_pick ho (.inl rfl) (by simpa using hne) (by simpa using hlen) fun d o' h' hd => ?_
    simp at hd
    obtain ⟨a, h3, rfl⟩ := hd
    simp
    refine q a o' h' ?_
    unfold hds
    simp
    left
    exact ⟨_, _, h2, _, _, h3, rfl, rfl, rfl⟩
end Fw
set_option linter.all false
set_option maxRecDepth 100000
set_option maxHeartbeats 2000000
/-! _law_term -/
namespace Fw
open PySem L2
variable {Q : EV → MS → Prop} {E : EX → MS → Prop}
noncomputable def term_T6 (self : M EV) : MSt := (sSeq (sAsgN 12 (f_law_term_C3 self)) (sSeq (sAsg 12 (mFz (mOp2 addD (mVar 12) (f_law_term_C4 self)))) (sSeq (sUnp (gTp 2 (gsCons (gNm 18) (gsCons (gNm 14) gsNil))) (mCallF [true, false] fm_law_pick (mCons (mVar 0) (mCons (mFz (mVar 12)) mNil)))) (sRet (mOp2 addD (mTup (mCons (mVar 18) mNil)) (mCallB bTuple (mCons (f_law_term_C6 self) mNil)))))))
noncomputable def term_T5 (self : M EV) : MSt := (sSeq (sIf (mB (mOp2 leD (mVar 4) (M.pure (.val (.int 0))))) (sRet (mCallF [true, false, false] fm_law_constant (mCons (mVar 0) (mCons (mOp2 ixD (mVar 1) (M.pure (.val (.int 0)))) (mCons (mVar 3) mNil))))) sNx) (term_T6 self))
noncomputable def term_T4 (self : M EV) : MSt := (sSeq (sIf (mAndT (mB (mOp2 (intOp iGt) (mCallB bLenX (mCons (mVar 6) mNil)) (M.pure (.val (.int 0))))) (mOrT (mB (mOp2 leD (mVar 4) (M.pure (.val (.int 0))))) (mB (mOp2 eqD (mVar 11) (M.pure (.val (.int 3))))))) (sRet (mCallF [true, false] fm_law_pick (mCons (mVar 0) (mCons (mFz (mVar 6)) mNil)))) sNx) (term_T5 self))
theorem term_R {self : M EV} : f_law_term self = (sSeq (sAsgN 6 (f_law_term_C1 self)) (sSeq (sAsgN 9 (f_law_term_C2 self)) (sSeq (sAsg 11 (mFz (mCallF [true, false] fm_law_draw (mCons (mVar 0) (mCons (M.pure (.val (.int 6))) mNil))))) (sSeq (sIf (mAndT (mB (mOp2 (intOp iGt) (mCallB bLenX (mCons (mVar 9) mNil)) (M.pure (.val (.int 0))))) (mB (mOp2 (intOp iLt) (mVar 11) (M.pure (.val (.int 3)))))) (sRet (mCallF [true, false] fm_law_pick (mCons (mVar 0) (mCons (mFz (mVar 9)) mNil)))) sNx) (term_T4 self))))) := rfl
theorem Tb.name {hs : List (Str × List Str × Str)} {kn : List (Str × Str)} {cl : List (Tm × Str)} {x k : Str} (h : (x, k) ∈ kn) : Tb hs kn cl (.v x) k := by
  rw [Tb]; exact .inr h
theorem Tb.call {hs : List (Str × List Str × Str)} {kn : List (Str × Str)} {cl : List (Tm × Str)} {t : Tm} {k : Str} (h : (t, k) ∈ cl) : Tb hs kn cl t k := by
  cases t <;> (rw [Tb]; exact .inl h)
section
variable {ks : List Kd} {fs : List Fnr} {kn : List (Str × Str)} {cl : List (Tm × Str)} {known : D} {c s0 : Nat} {kind : Str} {o : OV} {n dp : Nat} {dd : Int} {QS : Fl → MS → Prop}
theorem heads_row (W : Wld ks fs) (hk : kind ∈ ks.map (·.1)) : ∃ ms, ks.lookup kind = some ms ∧ (kind, ms) ∈ ks ∧ ms ≠ [] ∧ ms.length ≤ 10 := by
  obtain ⟨ms, h1, h2⟩ := lookup_of_key hk
  obtain ⟨m, m1, m2⟩ := W.cst _ h2
  exact ⟨ms, h1, h2, fun z => by simp at m1; rw [z] at m1; simp at m1, (W.nm _ h2).1⟩
theorem four_pos {n s0 : Nat} (h : 1 ≤ s0) : 1 ≤ 4 ^ n * s0 := Nat.mul_pos (Nat.pow_pos (by decide)) h
theorem Tbs.of {hs : List (Str × List Str × Str)} {kn : List (Str × Str)} {cl : List (Tm × Str)} {B C : Nat} : ∀ {fs : List Str} {ys : List D}, Paired (fun f y => ∃ t, y = tmD t ∧ Tb hs kn cl t f ∧ tdp t ≤ B ∧ tsz t ≤ C) fs ys → ∃ as, ys = as.map tmD ∧ Tbs hs kn cl as fs ∧ tdps as ≤ B ∧ tszs as ≤ fs.length * C
  | _, _, .nil => ⟨[], rfl, by rw [Tbs], by simp [tdps], by simp [tszs]⟩
  | _, _, .cons h r => by
    obtain ⟨t, rfl, h1, h2, h3⟩ := h
    obtain ⟨as, rfl, h4, h5, h6⟩ := Tbs.of r
    refine ⟨t :: as, rfl, by rw [Tbs]; exact ⟨_, _, rfl, h1, h4⟩, by rw [tdps]; omega, ?_⟩
    rw [tszs, List.length_cons, Nat.succ_mul]; omega
theorem run_term6 (W : Wld ks fs) (hc : 1 ≤ c) (hs0 : 1 ≤ s0) {o : OV} (ho : DS o) (hk : kind ∈ ks.map (·.1)) {s6 s9 s11 : SV} {calls : D} (hdd : dd = ((dp + 1 : Nat) : Int))
    (ih : ∀ (kind : Str) (o : OV), DS o → kind ∈ ks.map (·.1) → ∀ (Q : EV → MS → Prop) (E : EX → MS → Prop), (∀ t o', DS o' → Tb (hds ks fs) kn cl t kind → tdp t ≤ dp + c → tsz t ≤ 4 ^ dp * s0 → Q (.val (tmD t)) [.own true o', .unk, .unk, .unk, .unk, .unk]) →
      Wp (recM 20 f_law_term n) [.own true o, .val (wldD ks fs), .val known, .val (.str kind), .val (.int dp), .val calls] Q E)
    (q : ∀ t o' rest, DS o' → Tb (hds ks fs) kn cl t kind → tdp t ≤ dp + 1 + c → tsz t ≤ 4 ^ (dp + 1) * s0 → QS (.rt (.val (tmD t))) (.own true o' :: .val (wldD ks fs) :: .val known :: .val (.str kind) :: .val (.int dd) :: .val calls :: rest)) :
    Wp (term_T6 (recM 20 f_law_term n)) [.own true o, .val (wldD ks fs), .val known, .val (.str kind), .val (.int dd), .val calls, s6, .unk, .unk, s9, .unk, s11, .unk, .unk, .unk, .unk, .unk, .unk, .unk, .unk] QS E := by
  obtain ⟨mks, m1, m2, m3, m4⟩ := heads_row W hk
  unfold term_T6 f_law_term_C3
  have hw0 : ixD (wldD ks fs) (.int 0) = some (.val (kdsD ks)) := by unfold wldD; simp
  have hw1 : ixD (wldD ks fs) (.int 1) = some (.val (.tup (fs.map fnD))) := by unfold wldD; simp
  simp [hw0]
  refine run_makers m1 ?_
  simp
  refine run_compMI mkD mkD mks [] (fun a ha => ?_) ?_
  · simp [mkD]
  · simp [f_law_term_C4, hw1]
    refine run_compFI fnD (fun f => f.2.2.1 == kind) (fun f => mkD (f.1, f.2.1)) fs [] (fun a ha => ?_) ?_
    · simp [fnD, mkD]
    · simp
      have hfl : ((fs.filter fun f => f.2.2.1 == kind).map fun f => mkD (f.1, f.2.1)).length ≤ 10 := by
        have := W.nf
        have h3 := List.length_filter_le (fun f : Fnr => f.2.2.1 == kind) fs
        rw [List.length_map]; omega
      rw [addD_lst' (by rw [List.length_map]; omega)]
      simp
      have hall : ∀ d ∈ (mks.map mkD ++ (fs.filter fun f => f.2.2.1 == kind).map fun f => mkD (f.1, f.2.1)), ∃ h as, d = mkD (h, as) ∧ (h, as, kind) ∈ hds ks fs ∧ as.length ≤ 3 ∧ ∀ f ∈ as, f ∈ ks.map (·.1) := by
        intro d hd
        rcases List.mem_append.mp hd with z | z
        · obtain ⟨m, hm, rfl⟩ := List.mem_map.mp z
          obtain ⟨e1, e2⟩ := (W.nm _ m2).2 m hm
          refine ⟨m.1, m.2, rfl, ?_, e1, e2⟩
          unfold hds
          refine List.mem_append_left _ (List.mem_flatMap.mpr ⟨_, m2, List.mem_map.mpr ⟨m, hm, rfl⟩⟩)
        · obtain ⟨f, hf, rfl⟩ := List.mem_map.mp z
          obtain ⟨h1, h2⟩ := List.mem_filter.mp hf
          obtain ⟨e1, e2, e3⟩ := W.fn f h1
          refine ⟨f.1, f.2.1, rfl, ?_, e1, e3⟩
          unfold hds
          refine List.mem_append_right _ (List.mem_map.mpr ⟨f, h1, ?_⟩)
          rw [eq_of_beq h2]
      refine run_pick ho (.inl rfl) (by simp [m3]) (by simp; simp at hfl; omega) fun d o' h' hd => ?_
      obtain ⟨hh, as, rfl, hin, hl3, hfs⟩ := hall d hd
      simp [mkD, f_law_term_C6]
      refine run_compJ D.str (fun ms => ∃ o', DS o' ∧ ms = [.own true o', .val (wldD ks fs), .val known, .val (.str kind), .val (.int dd), .val calls, s6, .unk, .unk, s9, .unk, s11, .val (.lst (mks.map mkD ++ (fs.filter fun f => f.2.2.1 == kind).map fun f => mkD (f.1, f.2.1))), .unk, .val (.tup (as.map .str)), .unk, .unk, .unk, .val (.str hh), .unk]) (fun f y => ∃ t, y = tmD t ∧ Tb (hds ks fs) kn cl t f ∧ tdp t ≤ dp + c ∧ tsz t ≤ 4 ^ dp * s0) as [] _ ⟨o', h', rfl⟩ (fun f hf ms hJ => ?_) fun ys ms hp hJ => ?_
      · obtain ⟨o', h', em⟩ := hJ
        subst em
        have hd1 : dd - 1 = (dp : Int) := by omega
        simp [f_law_term_E5, hd1]
        refine ih f o' h' (hfs f hf) _ _ fun t o'' h'' h1 h2 h3 => ?_
        simp
        exact ⟨⟨t, rfl, h1, h2, h3⟩, inv_of ⟨o'', h'', rfl⟩⟩
      · obtain ⟨o', h', em⟩ := hJ
        subst em
        obtain ⟨ts, rfl, h1, h2, h3⟩ := Tbs.of hp
        simp
        rw [addD_tup (by
          have := hp.length
          simp at this ⊢; omega)]
        simp
        rw [← tmD_f]
        refine q (.f hh ts) o' _ h' ?_ ?_ ?_
        · rw [Tb]; exact .inr ⟨as, hin, h1⟩
        · rw [tdp]; omega
        · rw [tsz]
          have h4 : as.length * (4 ^ dp * s0) ≤ 3 * (4 ^ dp * s0) := Nat.mul_le_mul_right _ hl3
          have h5 := four_pos (n := dp) hs0
          rw [Nat.pow_succ, Nat.mul_right_comm]
          omega
theorem run_term5 (W : Wld ks fs) (hc : 1 ≤ c) (hs0 : 1 ≤ s0) {o : OV} (ho : DS o) (hk : kind ∈ ks.map (·.1)) {s6 s9 s11 : SV} {calls : D} (hdd : dd = (dp : Int)) (hn : dp < n + 1)
    (ih : ∀ (dp : Nat), dp < n → ∀ (kind : Str) (o : OV), DS o → kind ∈ ks.map (·.1) → ∀ (Q : EV → MS → Prop) (E : EX → MS → Prop), (∀ t o', DS o' → Tb (hds ks fs) kn cl t kind → tdp t ≤ dp + c → tsz t ≤ 4 ^ dp * s0 → Q (.val (tmD t)) [.own true o', .unk, .unk, .unk, .unk, .unk]) →
      Wp (recM 20 f_law_term n) [.own true o, .val (wldD ks fs), .val known, .val (.str kind), .val (.int dp), .val calls] Q E)
    (q : ∀ t o' rest, DS o' → Tb (hds ks fs) kn cl t kind → tdp t ≤ dp + c → tsz t ≤ 4 ^ dp * s0 → QS (.rt (.val (tmD t))) (.own true o' :: .val (wldD ks fs) :: .val known :: .val (.str kind) :: .val (.int dd) :: .val calls :: rest)) :
    Wp (term_T5 (recM 20 f_law_term n)) [.own true o, .val (wldD ks fs), .val known, .val (.str kind), .val (.int dd), .val calls, s6, .unk, .unk, s9, .unk, s11, .unk, .unk, .unk, .unk, .unk, .unk, .unk, .unk] QS E := by
  unfold term_T5
  have hw0 : ixD (wldD ks fs) (.int 0) = some (.val (kdsD ks)) := by unfold wldD; simp
  have hf4 := four_pos (n := dp) hs0
  simp [hw0]
  refine ⟨fun h0 => ?_, fun h0 => ?_⟩
  · refine run_constant W hk ho fun h o' h' hin => ?_
    simp
    have := q (.f h []) o' [s6, .unk, .unk, s9, .unk, s11, .unk, .unk, .unk, .unk, .unk, .unk, .unk, .unk] h' (by rw [Tb]; exact .inr ⟨[], hin, by rw [Tbs]⟩) (by rw [tdp, tdps]; omega) (by rw [tsz, tszs]; exact hf4)
    simpa using this
  · obtain ⟨e, rfl⟩ : ∃ e, dp = e + 1 := ⟨dp - 1, by omega⟩
    refine run_term6 W hc hs0 ho hk hdd (fun kind o ho hk Q E q => ih e (by omega) kind o ho hk Q E q) q
theorem run_term4 (W : Wld ks fs) (hc : 1 ≤ c) (hs0 : 1 ≤ s0) {o : OV} (ho : DS o) (hk : kind ∈ ks.map (·.1)) (lk : kn.length ≤ 1000) {s9 : SV} {calls : D} {r : Int} (hdd : dd = (dp : Int)) (hn : dp < n + 1)
    (ih : ∀ (dp : Nat), dp < n → ∀ (kind : Str) (o : OV), DS o → kind ∈ ks.map (·.1) → ∀ (Q : EV → MS → Prop) (E : EX → MS → Prop), (∀ t o', DS o' → Tb (hds ks fs) kn cl t kind → tdp t ≤ dp + c → tsz t ≤ 4 ^ dp * s0 → Q (.val (tmD t)) [.own true o', .unk, .unk, .unk, .unk, .unk]) →
      Wp (recM 20 f_law_term n) [.own true o, .val (wldD ks fs), .val known, .val (.str kind), .val (.int dp), .val calls] Q E)
    (q : ∀ t o' rest, DS o' → Tb (hds ks fs) kn cl t kind → tdp t ≤ dp + c → tsz t ≤ 4 ^ dp * s0 → QS (.rt (.val (tmD t))) (.own true o' :: .val (wldD ks fs) :: .val known :: .val (.str kind) :: .val (.int dd) :: .val calls :: rest)) :
    Wp (term_T4 (recM 20 f_law_term n)) [.own true o, .val (wldD ks fs), .val known, .val (.str kind), .val (.int dd), .val calls, .own false (.lst ((kn.filter fun p => p.2 == kind).map fun p => .str p.1)), .unk, .unk, s9, .unk, .val (.int r), .unk, .unk, .unk, .unk, .unk, .unk, .unk, .unk] QS E := by
  unfold term_T4
  have hlen := List.length_filter_le (fun p : Str × Str => p.2 == kind) kn
  have hnm : ∀ d ∈ (kn.filter fun p => p.2 == kind).map fun p => D.str p.1, ∃ x, d = .str x ∧ (x, kind) ∈ kn := by
    intro d hd
    obtain ⟨p, hp, rfl⟩ := List.mem_map.mp hd
    obtain ⟨h1, h2⟩ := List.mem_filter.mp hp
    exact ⟨p.1, rfl, by rw [← eq_of_beq h2]; exact h1⟩
  have hf4 := four_pos (n := dp) hs0
  generalize hN : ((kn.filter fun p => p.2 == kind).map fun p => D.str p.1) = N at *
  have hlN : N.length ≤ 1000 := by rw [← hN, List.length_map]; omega
  have pick : ∀ (Q : EV → MS → Prop) (E : EX → MS → Prop), N ≠ [] → (∀ t o', DS o' → Tb (hds ks fs) kn cl t kind → tdp t ≤ dp + c → tsz t ≤ 4 ^ dp * s0 → Q (.val (tmD t)) [.own true o', .unk]) → Wp fm_law_pick [.own true o, .val (.lst N)] Q E := by
    intro Q E hne q
    refine run_pick ho (.inl rfl) hne (by omega) fun d o' h' hd => ?_
    obtain ⟨x, rfl, hx⟩ := hnm d hd
    exact q (.v x) o' h' (.name hx) (by rw [tdp]; omega) (by rw [tsz]; exact hf4)
  have five : ∀ (s6 : SV), Wp (term_T5 (recM 20 f_law_term n)) [.own true o, .val (wldD ks fs), .val known, .val (.str kind), .val (.int dd), .val calls, s6, .unk, .unk, s9, .unk, .val (.int r), .unk, .unk, .unk, .unk, .unk, .unk, .unk, .unk] QS E := fun s6 => run_term5 W hc hs0 ho hk hdd hn ih q
  generalize term_T5 (recM 20 f_law_term n) = T5 at five ⊢
  by_cases hN0 : N = []
  · subst hN0
    simp
    exact five _
  · have pN : 0 < N.length := List.length_pos_iff.mpr hN0
    simp [hN0, pN]
    refine ⟨fun _ => ?_, fun _ => ⟨fun _ => ?_, fun _ => five _⟩⟩
    all_goals
      refine pick _ _ hN0 fun t o' h' h1 h2 h3 => ?_
      simp
      exact q t o' _ h' h1 h2 h3
theorem run_termR (W : Wld ks fs) (hkn : known = .lst (kn.map kpD) ∨ known = .tup (kn.map kpD)) (lk : kn.length ≤ 1000) (lc : cl.length ≤ 1000) (hc : 1 ≤ c) (hs0 : 1 ≤ s0) (hcl : ∀ p ∈ cl, tdp p.1 ≤ c ∧ tsz p.1 ≤ s0) :
    ∀ (n dp : Nat) (kind : Str) (o : OV), dp < n → DS o → kind ∈ ks.map (·.1) → ∀ (Q : EV → MS → Prop) (E : EX → MS → Prop), (∀ t o', DS o' → Tb (hds ks fs) kn cl t kind → tdp t ≤ dp + c → tsz t ≤ 4 ^ dp * s0 → Q (.val (tmD t)) [.own true o', .unk, .unk, .unk, .unk, .unk]) →
      Wp (recM 20 f_law_term n) [.own true o, .val (wldD ks fs), .val known, .val (.str kind), .val (.int dp), .val (.lst (cl.map cpD))] Q E
  | 0, dp, kind, o, h, _, _, _, _, _ => by omega
  | n + 1, dp, kind, o, h, ho, hk, Q, E, q => by
    rw [recM, run_fm]
    have hik : itemsX (.val known) = some (kn.map kpD) := by rcases hkn with rfl | rfl <;> rfl
    have ih := fun (dp : Nat) (h : dp < n) (kind : Str) (o : OV) => run_termR W hkn lk lc hc hs0 hcl n dp kind o h
    have hdv : ∀ (as : List SV) (s : SV) (ms : MS), outS (.val known :: as) (s :: ms) = .unk :: outS as ms := fun _ _ _ => rfl
    refine ⟨by rcases hkn with rfl | rfl <;> rfl, ?_⟩
    rw [term_R]
    unfold f_law_term_C1
    simp [hik]
    refine run_compFI kpD (fun p => p.2 == kind) (fun p => .str p.1) kn [] (fun a ha => ?_) ?_
    · simp [kpD]
    · simp [f_law_term_C2]
      refine run_compFI cpD (fun p => p.2 == kind) (fun p => tmD p.1) cl [] (fun a ha => ?_) ?_
      · simp [cpD]
      · have hcm : ∀ d ∈ (cl.filter fun p => p.2 == kind).map fun p => tmD p.1, ∃ x, d = tmD x ∧ (x, kind) ∈ cl := by
          intro d hd
          obtain ⟨p, hp, rfl⟩ := List.mem_map.mp hd
          obtain ⟨h1, h2⟩ := List.mem_filter.mp hp
          exact ⟨p.1, rfl, by rw [← eq_of_beq h2]; exact h1⟩
        have hlc : ((cl.filter fun p => p.2 == kind).map fun p => tmD p.1).length ≤ 1000 := by
          have := List.length_filter_le (fun p : Tm × Str => p.2 == kind) cl
          rw [List.length_map]; omega
        generalize ((cl.filter fun p => p.2 == kind).map fun p => tmD p.1) = R at hcm hlc ⊢
        simp
        refine run_draw ho (by decide) fun r o' h' r0 r1 => ?_
        have four : ∀ (s9 : SV), Wp (term_T4 (recM 20 f_law_term n)) [.own true o', .val (wldD ks fs), .val known, .val (.str kind), .val (.int dp), .val (.lst (cl.map cpD)), .own false (.lst ((kn.filter fun p => p.2 == kind).map fun p => .str p.1)), .unk, .unk, s9, .unk, .val (.int r), .unk, .unk, .unk, .unk, .unk, .unk, .unk, .unk] (fun fl ms' => rtK [.own true o, .val (wldD ks fs), .val known, .val (.str kind), .val (.int dp), .val (.lst (cl.map cpD))] Q ms' fl) (fun x ms' => E x (outS [.own true o, .val (wldD ks fs), .val known, .val (.str kind), .val (.int dp), .val (.lst (cl.map cpD))] ms')) := fun s9 => by
          refine run_term4 W hc hs0 h' hk lk rfl h ih fun t o'' rest h'' h1 h2 h3 => ?_
          simp [wldD, hdv]
          exact q t o'' h'' h1 h2 h3
        generalize term_T4 (recM 20 f_law_term n) = T4 at four ⊢
        by_cases hR0 : R = []
        · subst hR0
          simp
          exact four _
        · have pR : 0 < R.length := List.length_pos_iff.mpr hR0
          simp [hR0, pR]
          refine ⟨fun _ => ?_, fun _ => four _⟩
          refine run_pick h' (.inl rfl) hR0 (by omega) fun d o'' h'' hd => ?_
          obtain ⟨t, rfl, ht⟩ := hcm d hd
          simp [wldD, hdv]
          obtain ⟨e1, e2⟩ := hcl _ ht
          refine q t o'' h'' (.call ht) (by simp at e1; omega) (Nat.le_trans e2 (Nat.le_mul_of_pos_left _ (Nat.pow_pos (by decide))))
/-- a drawn right term -/
theorem run_term (W : Wld ks fs) (hkn : known = .lst (kn.map kpD) ∨ known = .tup (kn.map kpD)) (lk : kn.length ≤ 1000) (lc : cl.length ≤ 1000) (hc : 1 ≤ c) (hs0 : 1 ≤ s0) (hcl : ∀ p ∈ cl, tdp p.1 ≤ c ∧ tsz p.1 ≤ s0) (hd : dp < 60) (ho : DS o) (hk : kind ∈ ks.map (·.1)) (hdd : dd = (dp : Int))
    (q : ∀ t o', DS o' → Tb (hds ks fs) kn cl t kind → tdp t ≤ dp + c → tsz t ≤ 4 ^ dp * s0 → Q (.val (tmD t)) [.own true o', .unk, .unk, .unk, .unk, .unk]) : Wp fm_law_term [.own true o, .val (wldD ks fs), .val known, .val (.str kind), .val (.int dd), .val (.lst (cl.map cpD))] Q E := by
  subst hdd
  exact run_termR W hkn lk lc hc hs0 hcl 60 dp kind o hd ho hk Q E q
/-- .. without calls -/
theorem run_term0 (W : Wld ks fs) (hkn : known = .lst (kn.map kpD) ∨ known = .tup (kn.map kpD)) (lk : kn.length ≤ 1000) (hd : dp < 60) (ho : DS o) (hk : kind ∈ ks.map (·.1)) (hdd : dd = (dp : Int))
    (q : ∀ t o', DS o' → Tb (hds ks fs) kn [] t kind → tdp t ≤ dp + 1 → tsz t ≤ 4 ^ dp → Q (.val (tmD t)) [.own true o', .unk, .unk, .unk, .unk, .unk]) : Wp fm_law_term [.own true o, .val (wldD ks fs), .val known, .val (.str kind), .val (.int dd), .val (.lst [])] Q E :=
  run_term (cl := []) (c := 1) (s0 := 1) W hkn lk (by simp) (Nat.le_refl _) (Nat.le_refl _) (by simp) hd ho hk hdd fun t o' h' h1 h2 h3 => q t o' h' h1 h2 (by simpa using h3)
end
end Fw
set_option linter.all false
set_option maxRecDepth 100000
set_option maxHeartbeats 2000000
/-! _law_drawn_kinds -/
namespace Fw
open PySem L2
variable {Q : EV → MS → Prop} {E : EX → MS → Prop}
theorem run_popS {o : OV} {ns : List Str} (ho : DS o) (hne : ns ≠ []) (hl : ns.length ≤ 1000) (q : ∀ x ns' o', DS o' → (x :: ns').Perm ns → Q (.val (.str x)) [.own true o', .own true (.lst (ns'.map .str))]) : Wp fm_law_pop [.own true o, .own true (.lst (ns.map .str))] Q E := by
  refine run_pop ho (by simpa using hne) (by rw [List.length_map]; omega) fun l d rr o' h' e => ?_
  obtain ⟨l', r', rfl, h1, h2⟩ := List.map_eq_append_iff.mp e
  obtain ⟨x, r2, rfl, h3, h4⟩ := List.map_eq_cons_iff.mp h2
  subst h1 h3 h4
  rw [← List.map_append]
  exact q x _ o' h' List.perm_middle.symm
theorem perm_map_inv {α β : Type} {f : α → β} {es m : List β} (h : es.Perm m) : ∀ l : List α, m = l.map f → ∃ l' : List α, l'.Perm l ∧ es = l'.map f := by
  induction h with
  | nil => intro l e; exact ⟨[], by cases l <;> simp at e ⊢, rfl⟩
  | cons x _ ih =>
    intro l e
    obtain ⟨y, l2, rfl, h3, h4⟩ := List.map_eq_cons_iff.mp e.symm
    obtain ⟨l', h5, h6⟩ := ih l2 h4.symm
    exact ⟨y :: l', h5.cons y, by rw [h6, ← h3]; rfl⟩
  | swap x y l0 =>
    intro l e
    obtain ⟨a, l2, rfl, h3, h4⟩ := List.map_eq_cons_iff.mp e.symm
    obtain ⟨b, l3, rfl, h5, h6⟩ := List.map_eq_cons_iff.mp h4
    exact ⟨b :: a :: l3, List.Perm.swap _ _ _, by rw [← h3, ← h5, ← h6]; rfl⟩
  | trans _ _ ih1 ih2 =>
    intro l e
    obtain ⟨l2, h1, h2⟩ := ih2 l e
    obtain ⟨l3, h3, h4⟩ := ih1 l2 h2
    exact ⟨l3, h3.trans h1, h4⟩
def shp1 (fl ch tr : Str) : List (List Str) := [[ch, tr], [tr, tr], [fl, tr], [tr, ch, tr]]
def shp2 (fl ch tr : Str) : List (List Str) := [[tr], [fl], [ch]]
/-- the kinds of a drawn world; gs: the heads ahead, gu: those left -/
def KS (ks : List Kd) (fl ch tr : Str) (gs gu : List Str) : Prop := ∃ (fm : List Str) (a b : Str) (tm tm0 : List Mk), ks.Perm [(fl, fm.map fun x => (x, [])), (ch, [(a, []), (b, [ch])]), (tr, tm)] ∧ 2 ≤ fm.length ∧ fm.length ≤ 3 ∧ tm.Perm tm0 ∧
  (∃ t0 t1 f1, f1 ∈ shp1 fl ch tr ∧ (tm0 = [(t0, []), (t1, f1)] ∨ ∃ t2 f2, f2 ∈ shp2 fl ch tr ∧ tm0 = [(t0, []), (t1, f1), (t2, f2)])) ∧ (fm ++ (a :: b :: (tm0.map (·.1) ++ gu))).Perm gs
noncomputable def dk_T9 : MSt := (sSeq (sAsg 11 (mFz (mLst (mCons (mVar 6) (mCons (mVar 8) (mCons (mTup (mCons (mVar 5) (mCons (mCallB bTuple (mCons (mCallF [true, false] fm_law_shuffled (mCons (mVar 0) (mCons (mFz (mVar 9)) mNil))) mNil)) mNil))) mNil)))))) (sRet (mTup (mCons (mCallB bTuple (mCons (mCallF [true, false] fm_law_shuffled (mCons (mVar 0) (mCons (mVar 11) mNil))) mNil)) (mCons (mVar 3) (mCons (mVar 4) (mCons (mVar 5) mNil)))))))
noncomputable def dk_T8 : MSt := (sSeq (sIf (mTru (mCallF [true, false] fm_law_rare (mCons (mVar 0) (mCons (M.pure (.val (.int 3))) mNil)))) (sExpr (mMeth "list" (fun _ => vals) gAppend 9 (mCons (mTup (mCons (mFz (mCallF [true, true] fm_law_pop (mCons (mVar 0) (mCons (mVar 2) mNil)))) (mCons (mOp2 ixD (mLst (mCons (mTup (mCons (mVar 5) mNil)) (mCons (mTup (mCons (mVar 3) mNil)) (mCons (mTup (mCons (mVar 4) mNil)) mNil)))) (mCallF [true, false] fm_law_draw (mCons (mVar 0) (mCons (M.pure (.val (.int 3))) mNil)))) mNil))) mNil))) sNx) dk_T9)
noncomputable def dk_T5 : MSt := (sSeq (sAsg 9 (mLst (mCons (mTup (mCons (mFz (mCallF [true, true] fm_law_pop (mCons (mVar 0) (mCons (mVar 2) mNil)))) (mCons (mTup mNil) mNil))) mNil))) (sSeq (sAsg 10 (mFz (mCallF [true, false] fm_law_draw (mCons (mVar 0) (mCons (M.pure (.val (.int 4))) mNil))))) (sSeq (sExpr (mMeth "list" (fun _ => vals) gAppend 9 (mCons (mTup (mCons (mFz (mCallF [true, true] fm_law_pop (mCons (mVar 0) (mCons (mVar 2) mNil)))) (mCons (mOp2 ixD (mLst (mCons (mTup (mCons (mVar 4) (mCons (mVar 5) mNil))) (mCons (mTup (mCons (mVar 5) (mCons (mVar 5) mNil))) (mCons (mTup (mCons (mVar 3) (mCons (mVar 5) mNil))) (mCons (mTup (mCons (mVar 5) (mCons (mVar 4) (mCons (mVar 5) mNil)))) mNil))))) (mVar 10)) mNil))) mNil))) dk_T8)))
noncomputable def dk_T4 : MSt := (sSeq (sAsg 8 (mTup (mCons (mVar 4) (mCons (mTup (mCons (mTup (mCons (mFz (mCallF [true, true] fm_law_pop (mCons (mVar 0) (mCons (mVar 2) mNil)))) (mCons (mTup mNil) mNil))) (mCons (mTup (mCons (mFz (mCallF [true, true] fm_law_pop (mCons (mVar 0) (mCons (mVar 2) mNil)))) (mCons (mTup (mCons (mVar 4) mNil)) mNil))) mNil))) mNil)))) dk_T5)
noncomputable def dk_T3 : MSt := (sSeq (sAsg 6 (mTup (mCons (mVar 3) (mCons (mCallB bTuple (mCons f_law_drawn_kinds_C2 mNil)) mNil)))) dk_T4)
theorem dk_R : f_law_drawn_kinds = (sSeq (sAsg 3 (mFz (mCallF [true, true] fm_law_pop (mCons (mVar 0) (mCons (mVar 1) mNil))))) (sSeq (sAsg 4 (mFz (mCallF [true, true] fm_law_pop (mCons (mVar 0) (mCons (mVar 1) mNil))))) (sSeq (sAsg 5 (mFz (mCallF [true, true] fm_law_pop (mCons (mVar 0) (mCons (mVar 1) mNil))))) dk_T3))) := rfl
section
variable {o : OV} {ns gs gu : List Str} {fl ch tr : Str} {QS : Fl → MS → Prop}
theorem run_dk9 {kf kc : Kd} {tm : List Mk} (ho : DS o) (hl : tm.length ≤ 1000) {s7 s10 : SV} {nl gl : OV}
    (q : ∀ ks tm' o', DS o' → tm'.Perm tm → ks.Perm [kf, kc, (tr, tm')] → ∀ rest, QS (.rt (.val (.tup [kdsD ks, .str fl, .str ch, .str tr]))) (.own true o' :: .own true nl :: .own true gl :: rest)) :
    Wp dk_T9 [.own true o, .own true nl, .own true gl, .val (.str fl), .val (.str ch), .val (.str tr), .val (kdD kf), s7, .val (kdD kc), .own false (.lst (tm.map mkD)), s10, .unk] QS E := by
  unfold dk_T9
  simp
  refine run_shuffled ho (.inl rfl) (by rw [List.length_map]; omega) fun es o' h' hp => ?_
  obtain ⟨tm', hp', rfl⟩ := perm_map_inv hp tm rfl
  simp
  have e : [kdD kf, kdD kc, D.tup [D.str tr, D.tup (tm'.map mkD)]] = [kf, kc, (tr, tm')].map kdD := rfl
  have eL : ([kdD kf, kdD kc, D.tup [D.str tr, D.tup (tm'.map mkD)]]).length ≤ 100000 := by simp
  generalize [kdD kf, kdD kc, D.tup [D.str tr, D.tup (tm'.map mkD)]] = L at e eL ⊢
  refine run_shuffled h' (.inl rfl) eL fun es o2 h2 hp2 => ?_
  obtain ⟨ks, hp3, rfl⟩ := perm_map_inv hp2 _ e
  simp
  exact q ks tm' o2 h2 hp' hp3 _
theorem pick4 {r : Int} (h0 : 0 ≤ r) (h1 : r < 4) : ∃ f, f ∈ shp1 fl ch tr ∧ L2.atI [D.tup [.str ch, .str tr], .tup [.str tr, .str tr], .tup [.str fl, .str tr], .tup [.str tr, .str ch, .str tr]] r = some (.tup (f.map .str)) := by
  have h5 : r = 0 ∨ r = 1 ∨ r = 2 ∨ r = 3 := by omega
  rcases h5 with rfl | rfl | rfl | rfl
  · exact ⟨[ch, tr], by simp [shp1], by simp⟩
  · exact ⟨[tr, tr], by simp [shp1], by simp⟩
  · exact ⟨[fl, tr], by simp [shp1], by simp⟩
  · exact ⟨[tr, ch, tr], by simp [shp1], by simp⟩
theorem pick3 {r : Int} (h0 : 0 ≤ r) (h1 : r < 3) : ∃ f, f ∈ shp2 fl ch tr ∧ L2.atI [D.tup [.str tr], .tup [.str fl], .tup [.str ch]] r = some (.tup (f.map .str)) := by
  have h5 : r = 0 ∨ r = 1 ∨ r = 2 := by omega
  rcases h5 with rfl | rfl | rfl
  · exact ⟨[tr], by simp [shp2], by simp⟩
  · exact ⟨[fl], by simp [shp2], by simp⟩
  · exact ⟨[ch], by simp [shp2], by simp⟩
theorem run_dk8 {kf kc : Kd} (ho : DS o) (hl : 1 ≤ gs.length) (hl2 : gs.length ≤ 1000) {tm : List Mk} (hlt : tm.length ≤ 900) {s7 s10 : SV} {nl : OV}
    (q : ∀ ks tm0 tm' gu o', DS o' → tm'.Perm (tm ++ tm0) → (tm0 = [] ∨ ∃ t2 f2, f2 ∈ shp2 fl ch tr ∧ tm0 = [(t2, f2)]) → (tm0.map (·.1) ++ gu).Perm gs →
      ks.Perm [kf, kc, (tr, tm')] → ∀ rest, QS (.rt (.val (.tup [kdsD ks, .str fl, .str ch, .str tr]))) (.own true o' :: .own true nl :: .own true (.lst (gu.map .str)) :: rest)) :
    Wp dk_T8 [.own true o, .own true nl, .own true (.lst (gs.map .str)), .val (.str fl), .val (.str ch), .val (.str tr), .val (kdD kf), s7, .val (kdD kc), .own false (.lst (tm.map mkD)), s10, .unk] QS E := by
  unfold dk_T8
  simp
  refine run_rare ho (by decide) fun b o4 h4 => ?_
  cases b
  · simp
    refine run_dk9 h4 (by omega) fun ks tm' o' h' hp hh rest => ?_
    exact q ks [] tm' gs o' h' (by simpa using hp) (.inl rfl) (by simp) hh rest
  · simp
    refine run_popS h4 (by intro z; rw [z] at hl; simp at hl) (by omega) fun t2 g3 o5 h5 p3 => ?_
    simp
    refine run_draw h5 (by decide) fun r' o6 h6 r0' r1' => ?_
    obtain ⟨f2, hf2, ef2⟩ := pick3 (fl := fl) (ch := ch) (tr := tr) r0' (by omega)
    simp
    refine opK_of ef2 ?_
    simp
    refine opK_of (gAppend_ok (by simp; omega)) ?_
    simp
    have e : tm.map mkD ++ [D.tup [D.str t2, D.tup (f2.map .str)]] = (tm ++ [(t2, f2)]).map mkD := by simp [mkD]
    rw [e]
    refine run_dk9 h6 (by simp; omega) fun ks tm' o' h' hp hh rest => ?_
    exact q ks [(t2, f2)] tm' g3 o' h' hp (.inr ⟨t2, f2, hf2, rfl⟩) (by simpa using p3) hh rest
theorem run_dk5 {kf kc : Kd} (ho : DS o) (hl : 3 ≤ gs.length) (hl2 : gs.length ≤ 1000) {s7 : SV} {nl : OV}
    (q : ∀ ks tm0 tm' gu o', DS o' → tm'.Perm tm0 → (∃ t0 t1 f1, f1 ∈ shp1 fl ch tr ∧ (tm0 = [(t0, []), (t1, f1)] ∨ ∃ t2 f2, f2 ∈ shp2 fl ch tr ∧ tm0 = [(t0, []), (t1, f1), (t2, f2)])) → (tm0.map (·.1) ++ gu).Perm gs →
      ks.Perm [kf, kc, (tr, tm')] → ∀ rest, QS (.rt (.val (.tup [kdsD ks, .str fl, .str ch, .str tr]))) (.own true o' :: .own true nl :: .own true (.lst (gu.map .str)) :: rest)) :
    Wp dk_T5 [.own true o, .own true nl, .own true (.lst (gs.map .str)), .val (.str fl), .val (.str ch), .val (.str tr), .val (kdD kf), s7, .val (kdD kc), .unk, .unk, .unk] QS E := by
  unfold dk_T5
  simp
  refine run_popS ho (by intro z; rw [z] at hl; simp at hl) hl2 fun t0 g1 o1 h1 p1 => ?_
  simp
  refine run_draw h1 (by decide) fun r o2 h2 r0 r1 => ?_
  have l1 := p1.length_eq
  simp at l1
  simp
  refine run_popS h2 (by intro z; rw [z] at l1; simp at l1; omega) (by omega) fun t1 g2 o3 h3 p2 => ?_
  have l2 := p2.length_eq
  simp at l2
  simp
  obtain ⟨f1, hf1, ef1⟩ := pick4 (fl := fl) (ch := ch) (tr := tr) r0 (by omega)
  refine opK_of ef1 ?_
  simp
  refine opK_of (gAppend_ok (by simp)) ?_
  simp
  have e : [D.tup [D.str t0, D.tup []], D.tup [D.str t1, D.tup (f1.map .str)]] = ([(t0, []), (t1, f1)] : List Mk).map mkD := rfl
  have lt : ([(t0, []), (t1, f1)] : List Mk).length ≤ 900 := by simp
  rw [e]
  generalize hT : ([(t0, []), (t1, f1)] : List Mk) = T at lt ⊢
  refine run_dk8 h3 (by omega) (by omega) lt fun ks tm0 tm' gu o' h' hp htm hpg hh rest => ?_
  subst hT
  refine q ks _ tm' gu o' h' hp ⟨t0, t1, f1, hf1, ?_⟩ ?_ hh rest
  · rcases htm with rfl | ⟨t2, f2, h5, rfl⟩
    · exact .inl rfl
    · exact .inr ⟨t2, f2, h5, rfl⟩
  · simp
    exact ((hpg.cons t1).trans p2).cons t0 |>.trans p1
theorem run_dk3 (ho : DS o) (hl : 8 ≤ gs.length) (hl2 : gs.length ≤ 1000) {nl : OV}
    (q : ∀ ks gu o', DS o' → KS ks fl ch tr gs gu → ∀ rest, QS (.rt (.val (.tup [kdsD ks, .str fl, .str ch, .str tr]))) (.own true o' :: .own true nl :: .own true (.lst (gu.map .str)) :: rest)) :
    Wp dk_T3 [.own true o, .own true nl, .own true (.lst (gs.map .str)), .val (.str fl), .val (.str ch), .val (.str tr), .unk, .unk, .unk, .unk, .unk, .unk] QS E := by
  unfold dk_T3 f_law_drawn_kinds_C2
  simp
  refine run_draw ho (by decide) fun r o1 h1 r0 r1 => ?_
  simp
  refine ⟨⟨by omega, by omega⟩, ?_⟩
  refine loop_comp (fun i acc ms => ∃ (xs gr : List Str) (o' : OV), DS o' ∧ acc = xs.map (fun x => mkD (x, [])) ∧ xs.length = i ∧ (xs ++ gr).Perm gs ∧ ms = [.own true o', .own true nl, .own true (.lst (gr.map .str)), .val (.str fl), .val (.str ch), .val (.str tr), .unk, .unk, .unk, .unk, .unk, .unk]) _ [] ⟨[], gs, o1, h1, rfl, rfl, by simp, rfl⟩ (fun i d acc ms hd hI => ?_) (fun acc ms hI => ?_)
  · obtain ⟨xs, gr, o', h', rfl, hx, hp, em⟩ := hI
    subst em
    obtain ⟨hi, rfl⟩ := rgL_get hd
    have l1 := hp.length_eq
    rw [List.length_append] at l1
    simp [f_law_drawn_kinds_E1]
    refine run_popS h' (by intro z; rw [z] at l1; simp at l1; omega) (by omega) fun x g1 o2 h2 p1 => ?_
    simp
    refine inv_of ⟨xs ++ [x], g1, o2, h2, by simp [mkD], by simp [hx], ?_, rfl⟩
    rw [List.append_assoc, List.singleton_append]
    exact (p1.append_left xs).trans hp
  · obtain ⟨xs, gr, o', h', rfl, hx, hp, em⟩ := hI
    subst em
    rw [rgL_len] at hx
    have l1 := hp.length_eq
    rw [List.length_append] at l1
    simp
    unfold dk_T4
    simp
    refine run_popS h' (by intro z; rw [z] at l1; simp at l1; omega) (by omega) fun a g1 o2 h2 p1 => ?_
    have l2 := p1.length_eq
    simp at l2
    simp
    refine run_popS h2 (by intro z; rw [z] at l2; simp at l2; omega) (by omega) fun b g2 o3 h3 p2 => ?_
    have l3 := p2.length_eq
    simp at l3
    simp
    have e1 : D.tup [D.str fl, D.tup (xs.map fun x => mkD (x, []))] = kdD (fl, xs.map fun x => (x, [])) := by simp [kdD]
    have e2 : D.tup [D.str ch, D.tup [D.tup [D.str a, D.tup []], D.tup [D.str b, D.tup [D.str ch]]]] = kdD (ch, [(a, []), (b, [ch])]) := by simp [kdD, mkD]
    rw [e1, e2]
    refine run_dk5 h3 (by omega) (by omega) fun ks tm0 tm' gu o' h' hp' htm hpg hh rest => ?_
    refine q ks gu o' h' ⟨xs, a, b, tm', tm0, hh, by omega, by omega, hp', htm, ?_⟩ rest
    refine List.Perm.trans (List.Perm.append_left xs ?_) hp
    exact ((hpg.cons b).trans p2).cons a |>.trans p1
/-- three kinds, their heads out of gs -/
theorem run_drawn_kinds (ho : DS o) (hn : 3 ≤ ns.length) (hn2 : ns.length ≤ 1000) (hl : 8 ≤ gs.length) (hl2 : gs.length ≤ 1000)
    (q : ∀ fl ch tr ks nu gu o', DS o' → (fl :: ch :: tr :: nu).Perm ns → KS ks fl ch tr gs gu → Q (.val (.tup [kdsD ks, .str fl, .str ch, .str tr])) [.own true o', .own true (.lst (nu.map .str)), .own true (.lst (gu.map .str))]) :
    Wp fm_law_drawn_kinds [.own true o, .own true (.lst (ns.map .str)), .own true (.lst (gs.map .str))] Q E := by
  unfold fm_law_drawn_kinds
  rw [run_fm, dk_R]
  refine ⟨rfl, ?_⟩
  simp
  refine run_popS ho (by intro z; rw [z] at hn; simp at hn) hn2 fun x1 n1 o1 h1 p1 => ?_
  have l1 := p1.length_eq
  simp at l1
  simp
  refine run_popS h1 (by intro z; rw [z] at l1; simp at l1; omega) (by omega) fun x2 n2 o2 h2 p2 => ?_
  have l2 := p2.length_eq
  simp at l2
  simp
  refine run_popS h2 (by intro z; rw [z] at l2; simp at l2; omega) (by omega) fun x3 n3 o3 h3 p3 => ?_
  simp
  refine run_dk3 h3 hl hl2 fun ks gu o' h' hk rest => ?_
  simp
  exact q x1 x2 x3 ks n3 gu o' h' (((p3.cons x2).trans p2).cons x1 |>.trans p1) hk
end
end Fw
set_option linter.all false
set_option maxRecDepth 100000
set_option maxHeartbeats 2000000
/-! names; what the drawn kinds are -/
namespace Fw
open PySem L2
variable {Q : EV → MS → Prop} {E : EX → MS → Prop}
@[irreducible] def smallN : List Str := [Str.ofString "a", Str.ofString "b2", Str.ofString "sum", Str.ofString "left", Str.ofString "r", Str.ofString "k0", Str.ofString "carry", Str.ofString "z9z", Str.ofString "full", Str.ofString "n", Str.ofString "m8", Str.ofString "aa", Str.ofString "p", Str.ofString "t4", Str.ofString "v", Str.ofString "go", Str.ofString "hop", Str.ofString "ix", Str.ofString "jam", Str.ofString "key", Str.ofString "low", Str.ofString "mid", Str.ofString "nub", Str.ofString "odd1", Str.ofString "pat", Str.ofString "qua", Str.ofString "rim", Str.ofString "sip", Str.ofString "tux", Str.ofString "ump", Str.ofString "vat", Str.ofString "wax", Str.ofString "yen", Str.ofString "zed"]
@[irreducible] def greatN : List Str := [Str.ofString "A", Str.ofString "Zero", Str.ofString "Succ", Str.ofString "Nil", Str.ofString "Cons", Str.ofString "Leaf", Str.ofString "Node", Str.ofString "T", Str.ofString "F", Str.ofString "Mid", Str.ofString "Red", Str.ofString "Blue", Str.ofString "Lo", Str.ofString "Hi", Str.ofString "Pair", Str.ofString "Box", Str.ofString "Unit", Str.ofString "K9", Str.ofString "Pp", Str.ofString "Stop"]
theorem smallN_ok : (decide smallN.Nodup && smallN.all (fun x => stOk x && decide (x.length ≤ 12) && decide (1 ≤ x.length)) && decide (smallN.length = 34)) = true := by decide +kernel
theorem greatN_ok : (decide greatN.Nodup && greatN.all (fun x => stOk x && decide (x.length ≤ 12) && decide (1 ≤ x.length)) && decide (greatN.length = 20)) = true := by decide +kernel
theorem run_small_names (q : Q (.new (.lst (smallN.map .str))) []) : Wp fm_law_small_names [] Q E := by
  unfold fm_law_small_names
  rw [run_fm]
  refine ⟨rfl, ?_⟩
  unfold f_law_small_names f_law_small_names_R1
  simp
  rw [smallN] at q
  exact q
theorem run_great_names (q : Q (.new (.lst (greatN.map .str))) []) : Wp fm_law_great_names [] Q E := by
  unfold fm_law_great_names
  rw [run_fm]
  refine ⟨rfl, ?_⟩
  unfold f_law_great_names f_law_great_names_R1
  simp
  rw [greatN] at q
  exact q
/-- the heads of kinds -/
def hk (ks : List Kd) : List Str := ks.flatMap fun k => k.2.map (·.1)
theorem hk_perm {a b : List Kd} (h : a.Perm b) : (hk a).Perm (hk b) := h.flatMap_right _
section
variable {ks : List Kd} {fl ch tr : Str} {gs gu : List Str} {fs : List Fnr}
theorem KS.heads (h : KS ks fl ch tr gs gu) : (hk ks ++ gu).Perm gs := by
  obtain ⟨fm, a, b, tm, tm0, hp, _, _, ht, _, hg⟩ := h
  refine List.Perm.trans ?_ hg
  have h1 := hk_perm hp
  have e : hk [(fl, fm.map fun x => (x, [])), (ch, [(a, []), (b, [ch])]), (tr, tm)] = fm ++ (a :: b :: tm.map (·.1)) := by
    simp [hk, Function.comp_def]
  rw [e] at h1
  refine (h1.append_right gu).trans ?_
  rw [List.append_assoc]
  refine List.Perm.append_left fm ?_
  simp
  exact (ht.map _).append_right gu
theorem KS.kinds (h : KS ks fl ch tr gs gu) : (ks.map (·.1)).Perm [fl, ch, tr] := by
  obtain ⟨fm, a, b, tm, tm0, hp, _⟩ := h
  exact hp.map _
theorem KS.mem (h : KS ks fl ch tr gs gu) {x : Str} : x ∈ ks.map (·.1) ↔ x = fl ∨ x = ch ∨ x = tr := by
  rw [h.kinds.mem_iff]; simp
theorem KS.wld (h : KS ks fl ch tr gs gu) (hf : fs.length ≤ 10) (hfn : ∀ f ∈ fs, f.2.1.length ≤ 3 ∧ f.2.2.1 ∈ ks.map (·.1) ∧ ∀ p ∈ f.2.1, p ∈ ks.map (·.1)) : Wld ks fs := by
  have hm := fun x => h.mem (x := x)
  obtain ⟨fm, a, b, tm, tm0, hp, h1, h2, ht, htm, hg⟩ := h
  have hlen := hp.length_eq
  have htl := ht.length_eq
  have htl0 : tm0.length ≤ 3 := by
    obtain ⟨t0, t1, f1, _, rfl | ⟨t2, f2, _, rfl⟩⟩ := htm <;> simp
  have htm0 : ∀ m ∈ tm0, m.2.length ≤ 3 ∧ ∀ f ∈ m.2, f = fl ∨ f = ch ∨ f = tr := by
    intro m hmm
    obtain ⟨t0, t1, f1, hf1, hh⟩ := htm
    have s1 : f1.length ≤ 3 ∧ ∀ f ∈ f1, f = fl ∨ f = ch ∨ f = tr := by
      simp [shp1] at hf1
      rcases hf1 with rfl | rfl | rfl | rfl <;> simp
    rcases hh with rfl | ⟨t2, f2, hf2, rfl⟩
    · simp at hmm
      rcases hmm with rfl | rfl
      · simp
      · exact s1
    · have s2 : f2.length ≤ 3 ∧ ∀ f ∈ f2, f = fl ∨ f = ch ∨ f = tr := by
        simp [shp2] at hf2
        rcases hf2 with rfl | rfl | rfl <;> simp
      simp at hmm
      rcases hmm with rfl | rfl | rfl
      · simp
      · exact s1
      · exact s2
  refine ⟨by rw [hlen]; simp, fun k hk => ?_, fun k hk => ?_, hf, hfn⟩
  · have hk := hp.mem_iff.mp hk
    simp at hk
    rcases hk with rfl | rfl | rfl
    · refine ⟨by simp; omega, fun m hm' => ?_⟩
      simp at hm'
      obtain ⟨x, _, rfl⟩ := hm'
      simp
    · refine ⟨by simp, fun m hm' => ?_⟩
      simp at hm'
      rcases hm' with rfl | rfl
      · simp
      · refine ⟨by simp, fun f hf => ?_⟩
        rw [hm]; simp at hf; simp [hf]
    · refine ⟨by simp; omega, fun m hm' => ?_⟩
      obtain ⟨e1, e2⟩ := htm0 m (ht.mem_iff.mp hm')
      exact ⟨e1, fun f hf => by rw [hm]; exact e2 f hf⟩
  · have hk := hp.mem_iff.mp hk
    simp at hk
    rcases hk with rfl | rfl | rfl
    · cases fm with
      | nil => simp at h1
      | cons x fm => exact ⟨(x, []), by simp, rfl⟩
    · exact ⟨(a, []), by simp, rfl⟩
    · obtain ⟨t0, t1, f1, _, hh⟩ := htm
      refine ⟨(t0, []), ht.mem_iff.mpr ?_, rfl⟩
      rcases hh with rfl | ⟨t2, f2, _, rfl⟩ <;> simp
end
end Fw
set_option linter.all false
set_option maxRecDepth 100000
set_option maxHeartbeats 2000000
/-! the law's own walks over terms: places, images, parts put in -/
namespace Fw
open PySem L2
variable {Q : EV → MS → Prop} {E : EX → MS → Prop}
theorem run_lplaces {t : Tm} (hs : tsz t ≤ 100000) (hdp : tdp t ≤ 1000) (q : Q (.new (.lst ((spT [] t).map rD2))) [.unk]) : Wp fm_law_places [.val (tmD t)] Q E := by
  unfold fm_law_places
  rw [run_fm]
  refine ⟨lent_tm, ?_⟩
  unfold f_law_places
  simp
  refine loop_while (fun n ms => ∃ (S : List (Tm × List Nat)) (done : List (List Nat × Tm)) (s3 s4 s5 : SV), (lo s3 = true ∧ lo s4 = true ∧ lo s5 = true) ∧ tszs (S.map (·.1)) = n ∧ n ≤ tsz t ∧ done ++ flS S.reverse = spT [] t ∧ (∀ x ∈ S, x.2.length + tdp x.1 ≤ 1001) ∧ ms = [.val (tmD t), .own false (.lst (done.map rD2)), .own false (.lst (S.map fun x => rD2 (x.2, x.1))), s3, s4, s5]) (tsz t) ⟨[(t, [])], [], .unk, .unk, .unk, by simp, by simp [tszs], Nat.le_refl _, by simp [flS], by simp; omega, by simp [rD2, pathD]⟩ (fun n ms ⟨S, done, s3, s4, s5, ⟨h3, h4, h5⟩, hn, hle, hdn, hpl, e⟩ => ?_)
  subst e
  rcases List.eq_nil_or_concat S with rfl | ⟨S', ⟨u, p⟩, rfl⟩
  · have : done = spT [] t := by simpa [flS] using hdn
    subst this
    simp [f_law_places_W2]
    exact q
  · rw [List.concat_eq_append] at hn hdn hpl ⊢
    rw [List.map_append] at hn
    obtain ⟨hl, hn2⟩ := stack_len (S := S'.map (·.1)) (u := u) hn (by omega : n ≤ 100000)
    rw [List.length_map] at hl
    have hp := hpl (u, p) (by simp)
    have hplS : ∀ x ∈ S', x.2.length + tdp x.1 ≤ 1001 := fun x hx => hpl x (by simp [hx])
    rw [List.reverse_append, List.reverse_singleton, List.singleton_append, show flS ((u, p) :: S'.reverse) = spT p u ++ flS S'.reverse from rfl] at hdn
    have hdl : done.length ≤ 100000 := by
      have e1 := congrArg List.length hdn
      have e2 := congrArg List.length (spT_parts t [])
      rw [List.length_map, tpt_len] at e2
      rw [List.length_append, e2] at e1
      omega
    have p1 : (0 : Int) < (S'.length : Int) + 1 := by omega
    have p2 : ¬ ((S'.length : Int) + 1 ≤ 0) := by omega
    cases u with
    | v x =>
      rw [tsz] at hn2
      have hdn' : (done ++ [(p, Tm.v x)]) ++ flS S'.reverse = spT [] t := by rw [← hdn, spT, List.append_assoc]
      simp [f_law_places_W2, f_law_places_L3, h3, h4, rD2, p1, p2]
      refine opK_of (gAppend_ok (by simp; omega)) ?_
      simp
      exact inv_of ⟨tszs (S'.map (·.1)), by omega, S', done ++ [(p, .v x)], .val (pathD p), .val (.str x), s5, ⟨rfl, rfl, h5⟩, rfl, by omega, hdn', hplS, by simp [rD2]⟩
    | f h as =>
      rw [tsz] at hn2
      have hla := len_tszs as
      simp only [] at hp
      rw [tdp] at hp
      have hdn' : (done ++ [(p, Tm.f h as)]) ++ flS (S' ++ (kp p 0 as).reverse).reverse = spT [] t := by
        rw [← hdn, spT, List.reverse_append, List.reverse_reverse, flS_app, flS_kp]; simp
      simp [f_law_places_W2, f_law_places_L3, h3, h4, rD2, p1, p2]
      refine opK_of (gAppend_ok (by simp; omega)) ?_
      simp
      refine ⟨by omega, ?_⟩
      refine loop_for (fun i ms => ∃ s5, lo s5 = true ∧ ms = [.val (tmD t), .own false (.lst (done.map rD2 ++ [.tup [pathD p, .tup (.str h :: as.map tmD)]])), .own false (.lst (S'.map (fun x => rD2 (x.2, x.1)) ++ ((kp p 0 as).reverse.take i).map fun x => rD2 (x.2, x.1))), .val (pathD p), .val (.tup (.str h :: as.map tmD)), s5]) _ ⟨s5, h5, by simp [rD2]⟩ (fun i e ms he ⟨s5, h5, em⟩ => ?_) (fun ms ⟨s5, h5, em⟩ => ?_)
      · subst em
        obtain ⟨hi, rfl⟩ := rgD_get he
        obtain ⟨num, hnum⟩ : ∃ num : Nat, num + 1 + i = as.length := ⟨as.length - 1 - i, by omega⟩
        have e1 : ((as.length : Int) + 1 - 2 - (i : Nat)) = (num : Nat) := by omega
        have hlt : num < as.length := by omega
        have hg : as[num]? = some as[num] := List.getElem?_eq_getElem hlt
        have e2 : L2.atI (D.str h :: as.map tmD) ((num : Int) + 1) = some (tmD as[num]) := by
          refine atI_ge (by omega) ?_
          have : ((num : Int) + 1).toNat = num + 1 := by omega
          rw [this, List.getElem?_cons_succ, List.getElem?_map, hg]; rfl
        have e3 : (kp p 0 as).reverse[i]? = some (as[num], p ++ [num]) := by
          rw [List.getElem?_reverse (by rw [kp_len]; omega), kp_get, kp_len]
          have : as.length - 1 - i = num := by omega
          rw [this, hg]
          simp
        rw [e1]
        simp [h5, f_law_places_L1, e2, pathD_snoc (p := p) (k := num) (by omega)]
        refine opK_of (gAppend_ok (by simp [kp_len]; omega)) (inv_of ⟨.val (.int (num : Nat)), rfl, ?_⟩)
        rw [List.take_add_one, e3]
        simp [rD2]
      · subst em
        have e4 : (rgD ((as.length : Int) + 1 - 2) ((as.length : Int) + 1 - 2 - -1).toNat).length = (kp p 0 as).reverse.length := by
          rw [rgD_len, List.length_reverse, kp_len]; omega
        rw [e4, List.take_length, bjK_nx]
        refine inv_of ⟨tszs (S'.map (·.1)) + tszs as, by omega, S' ++ (kp p 0 as).reverse, done ++ [(p, .f h as)], .val (pathD p), .val (.tup (.str h :: as.map tmD)), s5, ⟨rfl, rfl, h5⟩, ?_, by omega, hdn', fun x hx => ?_, by simp [rD2]⟩
        · rw [List.map_append, tszs_app, List.map_reverse, tszs_rev, kp_fst]
        · rcases List.mem_append.mp hx with z | z
          · exact hplS x z
          · obtain ⟨j, hj⟩ := List.getElem?_of_mem (List.mem_reverse.mp z)
            rw [kp_get] at hj
            obtain ⟨a, ha, rfl⟩ := Option.map_eq_some_iff.mp hj
            have := tdps_in (List.mem_of_getElem? ha)
            simp
            omega

theorem run_putR {im : Im} : ∀ (n : Nat) (t : Tm), tdp t ≤ n → tsz t ≤ 100000 → ∀ (Q : EV → MS → Prop) (E : EX → MS → Prop), Q (.val (tmD (sbT im t))) [.unk, .unk] → Wp (recM 3 f_law_put n) [.val (tmD t), .val (imD im)] Q E
  | 0, t, h, _, _, _, _ => by have := tdp_pos t; omega
  | n + 1, .v x, h, hs, Q, E, q => by
    rw [recM, run_fm]
    refine ⟨rfl, ?_⟩
    unfold f_law_put
    simp [getD2_im, show isDct (imD im) = true from rfl]
    exact q
  | n + 1, .f h as, hd, hs, Q, E, q => by
    rw [recM, run_fm]
    refine ⟨rfl, ?_⟩
    unfold f_law_put
    rw [tdp] at hd
    rw [tsz] at hs
    have hla := len_tszs as
    have fin : ∀ (T0 : D) (bs : List Tm), (∀ b ∈ bs, tdp b ≤ n ∧ tsz b ≤ 100000) → ∀ acc QL, QL (acc ++ bs.map fun b => tmD (sbT im b)) [.val T0, .val (imD im), .unk] → Wp (compL [2] (gNm 2) (M.pure true) (f_law_put_E1 (recM 3 f_law_put n)) (bs.map tmD) acc) [.val T0, .val (imD im), .unk] QL (fun _ _ => False) := by
      intro T0 bs
      induction bs with
      | nil => intro _ acc QL q; rw [List.map_nil, run_compN]; simpa using q
      | cons b bs ih =>
        intro hb acc QL q
        obtain ⟨g1, g2⟩ := hb b (by simp)
        have this := ih (fun b hb' => hb b (by simp [hb'])) (acc ++ [tmD (sbT im b)]) QL (by simpa using q)
        rw [List.map_cons, run_compC]
        generalize hX : compL [2] (gNm 2) (M.pure true) (f_law_put_E1 (recM 3 f_law_put n)) (bs.map tmD) = X at this ⊢
        simp [f_law_put_E1]
        refine run_putR n b g1 g2 _ _ ?_
        simp
        exact this
    have hk : ∀ b ∈ as, tdp b ≤ n ∧ tsz b ≤ 100000 := fun b hb => by
      have h1 := tdps_in hb
      have h2 := (tpts_in (P := stOk) as (mem_tpts.mpr ⟨b, hb, tpt_self b⟩)).2.1
      omega
    simp [f_law_put_C2]
    rw [cutD_1]
    refine fin _ as hk [] _ ?_
    simp
    rw [addD_tup (by simp; omega)]
    simp [sbT, sbTs_eq] at q
    simpa [Function.comp_def] using q
theorem run_put {im : Im} {t : Tm} (hd : tdp t ≤ 60) (hs : tsz t ≤ 100000) (q : Q (.val (tmD (sbT im t))) [.unk, .unk]) : Wp fm_law_put [.val (tmD t), .val (imD im)] Q E := run_putR 60 t hd hs Q E q
theorem run_setR {new : Tm} : ∀ (n : Nat) (t : Tm) (p : List Nat) (w : Tm), p.length < n → tsz t ≤ 100000 → atP t p = some w → ∀ (Q : EV → MS → Prop) (E : EX → MS → Prop), Q (.val (tmD (stP t p new))) [.unk, .unk, .unk] → Wp (recM 4 f_law_set n) [.val (tmD t), .val (pathD p), .val (tmD new)] Q E
  | 0, _, _, _, h, _, _, _, _, _ => by omega
  | n + 1, t, [], w, h, hs, ha, Q, E, q => by
    rw [recM, run_fm]
    refine ⟨rfl, ?_⟩
    unfold f_law_set
    have e := eqD_path (p := [])
    simp [e]
    rw [stP] at q; exact q
  | n + 1, t, m :: p, w, h, hs, ha, Q, E, q => by
    obtain ⟨g, as, a, rfl, hm, ha'⟩ := atP_some ha
    rw [recM, run_fm]
    refine ⟨rfl, ?_⟩
    unfold f_law_set
    have e := eqD_path (p := m :: p)
    have hlt : m < as.length := (List.getElem?_eq_some_iff.mp hm).1
    have hsz := kid_sz (g := g) hm
    have hla : as.length ≤ 100000 := by
      have := len_tszs as
      rw [tsz] at hs
      omega
    have e0 : ixD (pathD (m :: p)) (.int 0) = some (.val (.int (m : Nat))) := by
      show (L2.atI (D.int (m : Nat) :: _) 0).map EV.val = _
      rw [atI_0]; rfl
    have e1 : L2.atI (D.str g :: as.map tmD) ((m : Int) + 1) = some (tmD a) := by
      refine atI_ge (by omega) ?_
      have : ((m : Int) + 1).toNat = m + 1 := by omega
      rw [this, List.getElem?_cons_succ, List.getElem?_map, hm]; rfl
    have e2 : slD (pathD (m :: p)) (some 1) none = some (.val (pathD p)) := by
      show some (EV.val (.tup (cutD (D.int (m : Nat) :: p.map fun n => D.int (n : Nat)) (some 1) none))) = _
      rw [cutD_1]; rfl
    simp [e, e0, e1, e2]
    refine run_setR n a p w (by simp at h; omega) (by omega) ha' _ _ ?_
    simp [cut_hi, cut_lo]
    rw [addD_tup (by simp; omega)]
    simp [cut_lo]
    rw [addD_tup (by simp; omega)]
    simp
    rw [stP, hm] at q
    have e3 : as.take m ++ stP a p new :: as.drop (m + 1) = as.set m (stP a p new) := set_split hlt
    rw [tmD_f, ← e3] at q
    simpa using q
theorem run_set {t new w : Tm} {p : List Nat} (hp : p.length < 60) (hs : tsz t ≤ 100000) (ha : atP t p = some w) (q : Q (.val (tmD (stP t p new))) [.unk, .unk, .unk]) : Wp fm_law_set [.val (tmD t), .val (pathD p), .val (tmD new)] Q E :=
  run_setR 60 t p w hp hs ha Q E q
end Fw
set_option linter.all false
set_option maxRecDepth 100000
set_option maxHeartbeats 2000000
/-! law_k06: matching rows of patterns with rows of terms -/
namespace Fw
open PySem L2
variable {Q : EV → MS → Prop} {E : EX → MS → Prop}
def ppD (p : Tm × Tm) : D := .tup [tmD p.1, tmD p.2]
/-- matching: the pairs that wait (the next one ahead), the images so far -/
def mtc : Nat → List (Tm × Tm) → Im → Option Im
  | _, [], im => some im
  | 0, _ :: _, _ => none
  | n + 1, (.v x, t) :: S, im => match im.lookup x with
    | some u => if u = t then mtc n S im else none
    | none => mtc n S (im ++ [(x, t)])
  | n + 1, (.f g as, .v y) :: S, im => none
  | n + 1, (.f g as, .f h bs) :: S, im => if h = g ∧ bs.length = as.length then mtc n ((as.zip bs).reverse ++ S) im else none
def psz (S : List (Tm × Tm)) : Nat := tszs (S.map (·.1))
def mrows (ps ts : List Tm) : Option Im := if ps.length = ts.length then mtc (tszs ps) (ps.zip ts).reverse [] else none
def imR : Option Im → EV
  | none => .val .non
  | some im => .new (gO id tmD im)
theorem rgL_lo {lo : Int} {n : Nat} : rgL lo n = (List.range n).map fun i => D.int (lo + (i : Nat)) := rfl
theorem zip_fst {as bs : List Tm} (h : bs.length = as.length) : (as.zip bs).map (·.1) = as := by
  rw [List.map_fst_zip]; omega
theorem zip_snd {as bs : List Tm} (h : bs.length = as.length) : (as.zip bs).map (·.2) = bs := by
  rw [List.map_snd_zip]; omega
theorem psz_step {g : Str} {as bs : List Tm} {t : Tm} {S : List (Tm × Tm)} (h : bs.length = as.length) : psz ((as.zip bs).reverse ++ S) + 1 = psz ((.f g as, t) :: S) := by
  unfold psz
  rw [List.map_append, tszs_app, List.map_reverse, tszs_rev, zip_fst h, List.map_cons, tszs, tsz]
  omega
theorem psz_len {S : List (Tm × Tm)} : S.length ≤ psz S := by
  have := len_tszs (S.map (·.1))
  rw [List.length_map] at this
  exact this
theorem imPut_same {im : Im} {x : Str} {t : Tm} (nd : ImN im) (h : im.lookup x = some t) : imPut im x t = im := by
  unfold imPut
  have e : (im.any fun p => p.1 == x) = true := by rw [List.any_eq_true]; exact ⟨_, lookup_mem h, by simp⟩
  rw [if_pos e]
  simp
  have : ∀ p ∈ im, (if p.1 = x then (p.1, t) else p) = p := by
    intro p hp
    split
    · rename_i e
      have := lookup_of nd (x := p.1) (t := p.2) hp
      rw [e, h] at this
      cases this
      rfl
    · rfl
  rw [List.map_congr_left (g := id) this]
  simp
theorem set_im {im : Im} {x : Str} {t : Tm} (h : im.length ≤ 1000) : setO (gO id tmD im) (.str x) (tmD t) = some (gO id tmD (imPut im x t)) := setO_g (k := id) (v := tmD) inj_id h
/-- the state of a run -/
structure MtI (S : List (Tm × Tm)) (im : Im) (n : Nat) : Prop where
  sz : psz S = n
  tm : ∀ p ∈ S, Gd p.2
  nd : ImN im
  len : im.length + n ≤ 900
  gd : ∀ p ∈ im, Gd p.2
theorem MtI.put {x : Str} {t : Tm} {S : List (Tm × Tm)} {im : Im} {n : Nat} (h : MtI ((.v x, t) :: S) im (n + 1)) (hl : im.lookup x = none) : MtI S (im ++ [(x, t)]) n := by
  have hs := h.sz
  unfold psz at hs
  rw [List.map_cons, tszs, tsz] at hs
  have hx : x ∉ im.map (·.1) := fun hx => by
    obtain ⟨p, hp, e⟩ := List.mem_map.mp hx
    have := lookup_of h.nd (x := p.1) (t := p.2) hp
    rw [e, hl] at this; cases this
  refine ⟨by unfold psz; omega, fun p hp => h.tm p (by simp [hp]), ?_, by have := h.len; simp; omega, fun p hp => ?_⟩
  · rw [← imPut_new hx]; exact imPut_nd h.nd
  · rcases List.mem_append.mp hp with e | e
    · exact h.gd p e
    · simp at e; subst e; exact h.tm _ List.mem_cons_self
theorem MtI.keep {x : Str} {t : Tm} {S : List (Tm × Tm)} {im : Im} {n : Nat} (h : MtI ((.v x, t) :: S) im (n + 1)) : MtI S im n := by
  have hs := h.sz
  unfold psz at hs
  rw [List.map_cons, tszs, tsz] at hs
  exact ⟨by unfold psz; omega, fun p hp => h.tm p (by simp [hp]), h.nd, by have := h.len; omega, h.gd⟩
theorem MtI.open {g : Str} {as bs : List Tm} {h' : Str} {S : List (Tm × Tm)} {im : Im} {n : Nat} (h : MtI ((.f g as, .f h' bs) :: S) im (n + 1)) (hl : bs.length = as.length) : MtI ((as.zip bs).reverse ++ S) im n := by
  have := psz_step (g := g) (t := .f h' bs) (S := S) hl
  refine ⟨by have := h.sz; omega, fun p hp => ?_, h.nd, by have := h.len; omega, h.gd⟩
  rcases List.mem_append.mp hp with e | e
  · have hm := List.of_mem_zip (List.mem_reverse.mp e)
    exact (h.tm _ List.mem_cons_self).kid hm.2
  · exact h.tm p (by simp [e])
theorem MtI.pos {p : Tm × Tm} {S : List (Tm × Tm)} {im : Im} {n : Nat} (h : MtI (p :: S) im n) : ∃ m, n = m + 1 := by
  have hs := h.sz
  unfold psz at hs
  rw [List.map_cons, tszs] at hs
  have := tsz_pos p.1
  exact ⟨n - 1, by omega⟩
/-- the children of two terms, in pairs -/
theorem run_zip1 {ms : MS} {own : List Nat} {f : D → MS → Option MS} {m : M EV} {QL : List D → MS → Prop} {g h : Str} {as bs : List Tm} (hl : bs.length = as.length)
    (step : ∀ (i : Nat) (a b : D), L2.atI (D.str g :: as.map tmD) (1 + (i : Nat)) = some a → L2.atI (D.str h :: bs.map tmD) (1 + (i : Nat)) = some b → opK (fun ms1 => Wp m ms1 (fun ev ms3 => evD ev = some (.tup [a, b]) ∧ wipeM ms3 own = ms) E) (f (.int (1 + (i : Nat))) ms))
    (q : QL ((as.zip bs).map ppD) ms) : Wp (compL own f (M.pure true) m (rgL 1 bs.length) []) ms QL E := by
  rw [rgL_lo]
  have at1 : ∀ (z : Str) (l : List Tm) (i : Nat) (hi : i < l.length), L2.atI (D.str z :: l.map tmD) (1 + (i : Nat)) = some (tmD l[i]) := by
    intro z l i hi
    refine atI_ge (by omega) ?_
    have : (1 + (i : Int)).toNat = i + 1 := by omega
    rw [this, List.getElem?_cons_succ, List.getElem?_map, List.getElem?_eq_getElem hi]; rfl
  refine run_compMI (fun i : Nat => D.int (1 + (i : Nat))) (fun i => ppD (as.getD i (.v default), bs.getD i (.v default))) (List.range bs.length) [] (fun i hi => ?_) ?_
  · have hi := List.mem_range.mp hi
    have hia : i < as.length := by omega
    have := step i _ _ (at1 g as i hia) (at1 h bs i hi)
    have ea : as.getD i (.v default) = as[i] := by simp [List.getD, hia]
    have eb : bs.getD i (.v default) = bs[i] := by simp [List.getD, hi]
    rw [ea, eb]
    exact this
  · have e : (List.range bs.length).map (fun i => ppD (as.getD i (.v default), bs.getD i (.v default))) = (as.zip bs).map ppD := by
      refine List.ext_getElem (by simp; omega) fun i h1 h2 => ?_
      simp at h1
      simp [List.getD, h1, show i < as.length by omega]
    rw [e]
    simpa using q
theorem run_zip0 {ms : MS} {own : List Nat} {f : D → MS → Option MS} {m : M EV} {QL : List D → MS → Prop} {as bs : List Tm} (hl : bs.length = as.length) {n : Nat} (hn : n = bs.length)
    (step : ∀ (i : Nat) (a b : D), L2.atI (as.map tmD) (i : Nat) = some a → L2.atI (bs.map tmD) (i : Nat) = some b → opK (fun ms1 => Wp m ms1 (fun ev ms3 => evD ev = some (.tup [a, b]) ∧ wipeM ms3 own = ms) E) (f (.int (i : Nat)) ms))
    (q : QL ((as.zip bs).map ppD) ms) : Wp (compL own f (M.pure true) m (rgL 0 n) []) ms QL E := by
  subst hn
  rw [rgL_eq]
  have at1 : ∀ (l : List Tm) (i : Nat) (hi : i < l.length), L2.atI (l.map tmD) (i : Nat) = some (tmD l[i]) := by
    intro l i hi
    refine atI_nat' ?_
    rw [List.getElem?_map, List.getElem?_eq_getElem hi]; rfl
  refine run_compMI (fun i : Nat => D.int (i : Nat)) (fun i => ppD (as.getD i (.v default), bs.getD i (.v default))) (List.range bs.length) [] (fun i hi => ?_) ?_
  · have hi := List.mem_range.mp hi
    have hia : i < as.length := by omega
    have := step i _ _ (at1 as i hia) (at1 bs i hi)
    have ea : as.getD i (.v default) = as[i] := by simp [List.getD, hia]
    have eb : bs.getD i (.v default) = bs[i] := by simp [List.getD, hi]
    rw [ea, eb]
    exact this
  · have e : (List.range bs.length).map (fun i => ppD (as.getD i (.v default), bs.getD i (.v default))) = (as.zip bs).map ppD := by
      refine List.ext_getElem (by simp; omega) fun i h1 h2 => ?_
      simp at h1
      simp [List.getD, h1, show i < as.length by omega]
    rw [e]
    simpa using q
end Fw
set_option linter.all false
set_option maxRecDepth 100000
set_option maxHeartbeats 2000000
/-! law_k06: match_rows and the law's own match -/
namespace Fw
open PySem L2
variable {Q : EV → MS → Prop} {E : EX → MS → Prop}
theorem neD_tm {a b : Tm} (ha : Gd a) (hb : Gd b) : neD (tmD a) (tmD b) = some (.val (.bl (!decide (a = b)))) := by
  rw [neD_sh ha.sh hb.sh, eqB_tm']
theorem fst_tm {g : Str} {as : List Tm} : ixD (tmD (.f g as)) (.int 0) = some (.val (.str g)) := by simp
@[simp] theorem len_tm {g : Str} {as : List Tm} : bLenX [D.tup (.str g :: as.map tmD)] = some (.val (.int ((as.length : Int) + 1))) := by simp
theorem snoc_rev {S : List (Tm × Tm)} {p : Tm × Tm} : ((p :: S).reverse.map ppD) = S.reverse.map ppD ++ [ppD p] := by simp
theorem pop_pp {S : List (Tm × Tm)} {p : Tm × Tm} : gPop (.lst ((p :: S).reverse.map ppD)) [] = some (ppD p, .lst (S.reverse.map ppD)) := by
  rw [snoc_rev]; exact gPop_snoc
theorem run_match_rows {ps ts : List Tm} (hp : tszs ps ≤ 900) (ht : ∀ t ∈ ts, Gd t) (hl : ts.length ≤ 900) (q : Q (imR (mrows ps ts)) [.unk, .unk]) : Wp fm_match_rows [.val (.tup (ps.map tmD)), .val (.tup (ts.map tmD))] Q E := by
  have hpl := len_tszs ps
  unfold fm_match_rows
  rw [run_fm]
  refine ⟨rfl, ?_⟩
  unfold f_match_rows
  by_cases c : ps.length = ts.length
  case neg =>
    have c' : ¬ ((ps.length : Int) = ts.length) := by omega
    simp [c']
    simpa [mrows, c, imR] using q
  unfold mrows at q
  rw [if_pos c] at q
  simp [c, f_match_rows_C2]
  refine ⟨by omega, ?_⟩
  refine run_zip0 c.symm rfl (fun i a b ha hb => ?_) ?_
  · simp [f_match_rows_E1, ha, hb]
  simp
  have h0 : MtI (ps.zip ts).reverse [] (tszs ps) := by
    refine ⟨?_, fun p hp => ht _ (List.of_mem_zip (List.mem_reverse.mp hp)).2, List.nodup_nil, by simpa using hp, by simp⟩
    unfold psz
    rw [List.map_reverse, tszs_rev, zip_fst c.symm]
  generalize hR : mtc (tszs ps) (ps.zip ts).reverse [] = R at q
  have e0 : (ps.zip ts).map ppD = (ps.zip ts).reverse.reverse.map ppD := by simp
  rw [e0]
  generalize (ps.zip ts).reverse = S0 at h0 hR ⊢
  refine loop_while (fun n ms => ∃ (S : List (Tm × Tm)) (im : Im) (s5 s6 : SV), lo s5 = true ∧ lo s6 = true ∧ MtI S im n ∧ mtc n S im = R ∧ ms = [.val (.tup (ps.map tmD)), .val (.tup (ts.map tmD)), .own false (gO id tmD im), .own false (.lst (S.reverse.map ppD)), .unk, s5, s6]) _ ⟨S0, [], .unk, .unk, rfl, rfl, h0, hR, rfl⟩ (fun n ms hI => ?_)
  obtain ⟨S, im, s5, s6, h5, h6, I, hm, em⟩ := hI
  subst em
  cases S with
  | nil =>
    simp [f_match_rows_W5]
    cases n <;> (rw [mtc] at hm; subst hm; exact q)
  | cons p S =>
    obtain ⟨n, rfl⟩ := I.pos
    obtain ⟨p, t⟩ := p
    have hpop := pop_pp (S := S) (p := (p, t))
    have hgd : (gO id tmD im).d = gD id tmD im := rfl
    have ll := I.len
    have hne : ¬ ((((p, t) :: S).reverse.map ppD) = []) := by simp
    have him : im.length ≤ 1000 := by omega
    generalize hSL : (((p, t) :: S).reverse.map ppD) = SL at hpop hne ⊢
    cases p with
    | v x =>
      have hg := memD_g (k := id) (v := tmD) (im := im) inj_id (x := x)
      have hst := set_im him (x := x) (t := t)
      cases hlk : im.lookup x with
      | some u =>
        have hu := I.gd _ (lookup_mem hlk)
        have htt := I.tm _ List.mem_cons_self
        have hix := ixD_g (k := id) (v := tmD) inj_id hlk
        rw [mtc, hlk] at hm
        simp only at hm
        have hg : memD (.str x) (gD id tmD im) = some (.val (.bl true)) := by rw [← hgd]; have := hg; rw [hlk] at this; exact this
        have hix : ixD (gD id tmD im) (.str x) = some (.val (tmD u)) := hix
        by_cases ce : u = t
        · subst ce
          rw [if_pos rfl] at hm
          have e1 := neD_tm hu hu
          simp [f_match_rows_W5, f_match_rows_L6, hne, hpop, ppD, h5, h6, hgd, hg, hix, e1]
          exact inv_of ⟨n, by omega, S, im, .val (.str x), .val (tmD u), rfl, rfl, I.keep, hm, by simp⟩
        · rw [if_neg ce] at hm
          subst hm
          have e1 := neD_tm hu htt
          simp [f_match_rows_W5, f_match_rows_L6, hne, hpop, ppD, h5, h6, hgd, hg, hix, e1, ce]
          exact q
      | none =>
        rw [mtc, hlk] at hm
        simp only at hm
        have hg : memD (.str x) (gD id tmD im) = some (.val (.bl false)) := by have := hg; rw [hlk] at this; exact this
        have hx : x ∉ im.map (·.1) := fun hx => by
          obtain ⟨p, hp, e⟩ := List.mem_map.mp hx
          have := lookup_of I.nd (x := p.1) (t := p.2) hp
          rw [e, hlk] at this; cases this
        rw [imPut_new hx] at hst
        simp [f_match_rows_W5, f_match_rows_L6, hne, hpop, ppD, h5, h6, hgd, hg, hst]
        exact inv_of ⟨n, by omega, S, im ++ [(x, t)], .val (.str x), .val (tmD t), rfl, rfl, I.put hlk, hm, by simp⟩
    | f g as =>
      cases t with
      | v y =>
        rw [mtc] at hm
        subst hm
        simp [f_match_rows_W5, f_match_rows_L6, hne, hpop, ppD, h5, h6]
        exact q
      | f h bs =>
        rw [mtc] at hm
        by_cases c1 : h = g
        case neg =>
          rw [if_neg (fun z => c1 z.1)] at hm
          subst hm
          simp [f_match_rows_W5, f_match_rows_L6, hne, hpop, ppD, h5, h6, c1]
          exact q
        subst c1
        by_cases c2 : bs.length = as.length
        case neg =>
          rw [if_neg (fun z => c2 z.2)] at hm
          subst hm
          have c3 : ¬ ((bs.length : Int) = as.length) := by omega
          simp [f_match_rows_W5, f_match_rows_L6, hne, hpop, ppD, h5, h6, c2, c3]
          exact q
        rw [if_pos ⟨rfl, c2⟩] at hm
        have I2 := I.open c2
        have l2 := I2.len
        have hz := psz_len (S := (as.zip bs).reverse ++ S)
        rw [I2.sz] at hz
        simp at hz
        simp [f_match_rows_W5, f_match_rows_L6, hne, hpop, ppD, h5, h6, c2, f_match_rows_C4]
        have hzz : min as.length bs.length = as.length := by omega
        have e2 : ((as.length : Int) + 1 - 1).toNat = bs.length := by omega
        refine ⟨by omega, ?_⟩
        rw [e2]
        refine run_zip1 (g := h) (h := h) c2 (fun i a b ha hb => ?_) ?_
        · simp [f_match_rows_E3, ha, hb]
        · simp
          rw [gExtend_lst (by simp; omega)]
          simp
          exact inv_of ⟨n, by omega, _, im, .val (tmD (.f h as)), .val (tmD (.f h bs)), rfl, rfl, I2, hm, by simp⟩
theorem run_lmatch {ps ts : List Tm} (hp : tszs ps ≤ 900) (ht : ∀ t ∈ ts, Gd t) (hl : ts.length ≤ 900) (q : Q (imR (mrows ps ts)) [.unk, .unk]) : Wp fm_law_match [.val (.tup (ps.map tmD)), .val (.tup (ts.map tmD))] Q E := by
  have hpl := len_tszs ps
  unfold fm_law_match
  rw [run_fm]
  refine ⟨rfl, ?_⟩
  unfold f_law_match
  by_cases c : ps.length = ts.length
  case neg =>
    have c' : ¬ ((ps.length : Int) = ts.length) := by omega
    simp [c']
    simpa [mrows, c, imR] using q
  unfold mrows at q
  rw [if_pos c] at q
  simp [c, f_law_match_C2]
  refine ⟨by omega, ?_⟩
  refine run_zip0 c.symm rfl (fun i a b ha hb => ?_) ?_
  · simp [f_law_match_E1, ha, hb]
  simp
  have h0 : MtI (ps.zip ts).reverse [] (tszs ps) := by
    refine ⟨?_, fun p hp => ht _ (List.of_mem_zip (List.mem_reverse.mp hp)).2, List.nodup_nil, by simpa using hp, by simp⟩
    unfold psz
    rw [List.map_reverse, tszs_rev, zip_fst c.symm]
  generalize hR : mtc (tszs ps) (ps.zip ts).reverse [] = R at q
  have e0 : (ps.zip ts).map ppD = (ps.zip ts).reverse.reverse.map ppD := by simp
  rw [e0]
  generalize (ps.zip ts).reverse = S0 at h0 hR ⊢
  refine loop_while (fun n ms => ∃ (S : List (Tm × Tm)) (im : Im) (s5 s6 : SV), lo s5 = true ∧ lo s6 = true ∧ MtI S im n ∧ mtc n S im = R ∧ ms = [.val (.tup (ps.map tmD)), .val (.tup (ts.map tmD)), .own false (gO id tmD im), .own false (.lst (S.reverse.map ppD)), .unk, s5, s6]) _ ⟨S0, [], .unk, .unk, rfl, rfl, h0, hR, rfl⟩ (fun n ms hI => ?_)
  obtain ⟨S, im, s5, s6, h5, h6, I, hm, em⟩ := hI
  subst em
  cases S with
  | nil =>
    simp [f_law_match_W5]
    cases n <;> (rw [mtc] at hm; subst hm; exact q)
  | cons p S =>
    obtain ⟨n, rfl⟩ := I.pos
    obtain ⟨p, t⟩ := p
    have hpop := pop_pp (S := S) (p := (p, t))
    have hgd : (gO id tmD im).d = gD id tmD im := rfl
    have ll := I.len
    have hne : 0 < (((p, t) :: S).reverse.map ppD).length := by simp
    have hne2 : ¬ ((((p, t) :: S).reverse.map ppD) = []) := by simp
    have him : im.length ≤ 1000 := by omega
    generalize hSL : (((p, t) :: S).reverse.map ppD) = SL at hpop hne hne2 ⊢
    cases p with
    | v x =>
      have hgt : getD2 (gD id tmD im) (.str x) (tmD t) = some (((im.lookup x).map tmD).getD (tmD t)) := by
        have e : getD2 (gD id tmD im) (.str x) (tmD t) = some ((dFind (im.map fun p => .str (id p.1)) (im.map fun p => tmD p.2) (.str (id x))).getD (tmD t)) := rfl
        rw [e, dFind_g inj_id]
      have hdc : isDct (gD id tmD im) = true := rfl
      have hg := memD_g (k := id) (v := tmD) (im := im) inj_id (x := x)
      have hst := set_im him (x := x) (t := t)
      cases hlk : im.lookup x with
      | some u =>
        have hu := I.gd _ (lookup_mem hlk)
        have htt := I.tm _ List.mem_cons_self
        have hix := ixD_g (k := id) (v := tmD) inj_id hlk
        rw [mtc, hlk] at hm
        simp only at hm
        have hg : memD (.str x) (gD id tmD im) = some (.val (.bl true)) := by rw [← hgd]; have := hg; rw [hlk] at this; exact this
        have hix : ixD (gD id tmD im) (.str x) = some (.val (tmD u)) := hix
        by_cases ce : u = t
        · subst ce
          rw [if_pos rfl] at hm
          have e1 := neD_tm hu hu
          rw [hlk] at hgt
          rw [imPut_same I.nd hlk] at hst
          simp at hgt
          simp [f_law_match_W5, f_law_match_L6, hne, hne2, hpop, ppD, h5, h6, hgd, hgt, hdc, e1, hst]
          exact inv_of ⟨n, by omega, S, im, .val (.str x), .val (tmD u), rfl, rfl, I.keep, hm, by simp⟩
        · rw [if_neg ce] at hm
          subst hm
          have e1 := neD_tm hu htt
          rw [hlk] at hgt
          simp at hgt
          simp [f_law_match_W5, f_law_match_L6, hne, hne2, hpop, ppD, h5, h6, hgd, hgt, hdc, e1, ce]
          exact q
      | none =>
        rw [mtc, hlk] at hm
        simp only at hm
        have hg : memD (.str x) (gD id tmD im) = some (.val (.bl false)) := by have := hg; rw [hlk] at this; exact this
        have hx : x ∉ im.map (·.1) := fun hx => by
          obtain ⟨p, hp, e⟩ := List.mem_map.mp hx
          have := lookup_of I.nd (x := p.1) (t := p.2) hp
          rw [e, hlk] at this; cases this
        rw [imPut_new hx] at hst
        have htt := I.tm _ List.mem_cons_self
        have e1 := neD_tm htt htt
        rw [hlk] at hgt
        simp at hgt e1
        simp [f_law_match_W5, f_law_match_L6, hne, hne2, hpop, ppD, h5, h6, hgd, hgt, hdc, e1, hst]
        exact inv_of ⟨n, by omega, S, im ++ [(x, t)], .val (.str x), .val (tmD t), rfl, rfl, I.put hlk, hm, by simp⟩
    | f g as =>
      cases t with
      | v y =>
        rw [mtc] at hm
        subst hm
        simp [f_law_match_W5, f_law_match_L6, hne, hne2, hpop, ppD, h5, h6]
        exact q
      | f h bs =>
        rw [mtc] at hm
        by_cases c1 : h = g
        case neg =>
          rw [if_neg (fun z => c1 z.1)] at hm
          subst hm
          simp [f_law_match_W5, f_law_match_L6, hne, hne2, hpop, ppD, h5, h6, c1]
          exact q
        subst c1
        by_cases c2 : bs.length = as.length
        case neg =>
          rw [if_neg (fun z => c2 z.2)] at hm
          subst hm
          have c3 : ¬ ((bs.length : Int) = as.length) := by omega
          simp [f_law_match_W5, f_law_match_L6, hne, hne2, hpop, ppD, h5, h6, c2, c3]
          exact q
        rw [if_pos ⟨rfl, c2⟩] at hm
        have I2 := I.open c2
        have l2 := I2.len
        have hz := psz_len (S := (as.zip bs).reverse ++ S)
        rw [I2.sz] at hz
        simp at hz
        simp [f_law_match_W5, f_law_match_L6, hne, hne2, hpop, ppD, h5, h6, c2, f_law_match_C4]
        have hzz : min as.length bs.length = as.length := by omega
        have e2 : ((as.length : Int) + 1 - 1).toNat = bs.length := by omega
        refine ⟨by omega, ?_⟩
        rw [e2]
        refine run_zip1 (g := h) (h := h) c2 (fun i a b ha hb => ?_) ?_
        · simp [f_law_match_E3, ha, hb]
        · simp
          rw [gExtend_lst (by simp; omega)]
          simp
          exact inv_of ⟨n, by omega, _, im, .val (tmD (.f h as)), .val (tmD (.f h bs)), rfl, rfl, I2, hm, by simp⟩
end Fw
set_option linter.all false
set_option maxRecDepth 100000
set_option maxHeartbeats 2000000
/-! law_k06: what is asked of matches -/
namespace Fw
open PySem L2
variable {Q : EV → MS → Prop} {E : EX → MS → Prop}
theorem mtc_ok : ∀ (n : Nat) (S : List (Tm × Tm)) (im im' : Im), MtI S im n → mtc n S im = some im' → ImN im' ∧ im'.length ≤ 900 ∧ ∀ p ∈ im', Gd p.2
  | n, [], im, im', I, h => by
    have : some im = some im' := by cases n <;> exact h
    cases this
    exact ⟨I.nd, by have := I.len; omega, I.gd⟩
  | 0, p :: S, im, im', I, h => by obtain ⟨m, hm⟩ := I.pos; omega
  | n + 1, (.v x, t) :: S, im, im', I, h => by
    rw [mtc] at h
    cases hl : im.lookup x with
    | some u =>
      rw [hl] at h
      simp only at h
      split at h
      · exact mtc_ok n S im im' I.keep h
      · cases h
    | none =>
      rw [hl] at h
      exact mtc_ok n S _ im' (I.put hl) h
  | n + 1, (.f g as, .v y) :: S, im, im', I, h => by rw [mtc] at h; cases h
  | n + 1, (.f g as, .f h' bs) :: S, im, im', I, h => by
    rw [mtc] at h
    split at h
    · rename_i c
      exact mtc_ok n _ im im' (I.open c.2) h
    · cases h
theorem mrows_I {ps ts : List Tm} (hp : tszs ps ≤ 900) (ht : ∀ t ∈ ts, Gd t) (c : ps.length = ts.length) : MtI (ps.zip ts).reverse [] (tszs ps) := by
  refine ⟨?_, fun p hp => ht _ (List.of_mem_zip (List.mem_reverse.mp hp)).2, List.nodup_nil, by simpa using hp, by simp⟩
  unfold psz
  rw [List.map_reverse, tszs_rev, zip_fst c.symm]
theorem mrows_ok {ps ts : List Tm} (hp : tszs ps ≤ 900) (ht : ∀ t ∈ ts, Gd t) {im : Im} (h : mrows ps ts = some im) : ImN im ∧ im.length ≤ 900 ∧ ∀ p ∈ im, Gd p.2 := by
  unfold mrows at h
  split at h
  · rename_i c
    exact mtc_ok _ _ _ _ (mrows_I hp ht c) h
  · cases h
/-- what is handed on: None or a dict -/
def imS : Option Im → SV
  | none => .val .non
  | some im => .own true (gO id tmD im)
def imV : Option Im → D
  | none => .non
  | some im => gD id tmD im
def imL : Option Im → SV
  | none => .unk
  | some im => .own true (gO id tmD im)
def ImO (r : Option Im) : Prop := ∀ im, r = some im → ImN im ∧ im.length ≤ 900 ∧ ∀ p ∈ im, Gd p.2
theorem eqDict_selfK {α : Type} {v : α → D} {im : List (Str × α)} (hn : ImN im) (hv : ∀ p ∈ im, shD 63 (v p.2) = true) : eqDict (gD id v im) (gD id v im) = some true := by
  have h1 : (im.map fun p => v p.2).all (shD 63) = true := by
    rw [List.all_eq_true]
    intro d hd
    obtain ⟨p, hp, rfl⟩ := List.mem_map.mp hd
    exact hv p hp
  unfold gD eqDict
  dsimp only
  rw [if_pos ⟨h1, h1⟩]
  have go : ∀ (l : List (Str × α)), (∀ p ∈ l, p ∈ im) → eqKV (l.map fun p => .str (id p.1)) (l.map fun p => v p.2) (im.map fun p => .str (id p.1)) (im.map fun p => v p.2) = true := by
    intro l
    induction l with
    | nil => intro _; rfl
    | cons p l ih =>
      intro h
      rw [List.map_cons, List.map_cons, eqKV, dFind_g inj_id, lookup_of hn (h p (by simp))]
      show (eqB (v p.2) (v p.2) && _) = true
      rw [eqB_refl 63 _ (hv p (h p (by simp))), ih fun q hq => h q (by simp [hq])]
      rfl
  rw [go im fun p h => h]
  simp
theorem eqDX_im {im : Im} (h : ImN im) (hv : ∀ p ∈ im, Gd p.2) : eqDX (gD id tmD im) (gD id tmD im) = some (.val (.bl true)) := by
  have h := eqDict_selfK (v := tmD) h fun p hp => sh_tm 63 p.2 (by have := (hv p hp).1; omega) (hv p hp).2
  have e : eqD (gD id tmD im) (gD id tmD im) = none := by unfold gD eqD; simp [shD]
  unfold eqDX
  rw [e, h]; rfl
theorem run_images_told {r : Option Im} (hr : ImO r) (q : Q (.val (.bl true)) [imL r, .unk]) : Wp fm_law_images_told [imS r, .val (imV r)] Q E := by
  unfold fm_law_images_told
  rw [run_fm]
  cases r with
  | none =>
    refine ⟨rfl, ?_⟩
    unfold f_law_images_told
    have e : isD .non .non = some (.val (.bl true)) := rfl
    simp [imS, imV, e]
    exact q
  | some im =>
    refine ⟨rfl, ?_⟩
    unfold f_law_images_told
    obtain ⟨h1, h2, h3⟩ := hr im rfl
    have e : isD (gD id tmD im) .non = some (.val (.bl false)) := rfl
    have hgd : (gO id tmD im).d = gD id tmD im := rfl
    have hb : bIsIX [gD id tmD im, .ty "dict"] = some (.val (.bl true)) := rfl
    have ho : ∀ (as : List SV) (s : SV) (ms : MS), outS (.val (gD id tmD im) :: as) (s :: ms) = .unk :: outS as ms := fun _ _ _ => rfl
    simp [imS, imV, e, hgd, hb, eqDX_im h1 h3, ho]
    exact q
theorem run_match_term {p t : Tm} (hp : tsz p ≤ 900) (ht : Gd t) (q : Q (imR (mrows [p] [t])) [.unk, .unk]) : Wp fm_match_term [.val (tmD p), .val (tmD t)] Q E := by
  unfold fm_match_term
  rw [run_fm]
  refine ⟨by cases p <;> cases t <;> rfl, ?_⟩
  unfold f_match_term
  simp
  have ho : ∀ (d : D) (as : List SV) (s : SV) (ms : MS), outS (.val d :: as) (s :: ms) = .unk :: outS as ms := fun _ _ _ _ => rfl
  refine run_match_rows (ps := [p]) (ts := [t]) (by simp [tszs]; exact hp) (by simpa using ht) (by simp) ?_
  cases hm : mrows [p] [t] with
  | none => rw [hm] at q; simp [imR]; exact q
  | some im => rw [hm] at q; simp [imR]; exact q
theorem run_ask_match {ps ts : List Tm} (hp : tszs ps ≤ 900) (hts : ∀ t ∈ ts, Gd t) (hl : ts.length ≤ 900) (q : Q (.val (.bl true)) [.unk, .unk]) : Wp fm_law_ask_match [.val (.tup (ps.map tmD)), .val (.tup (ts.map tmD))] Q E := by
  have hpl := len_tszs ps
  have hO : ImO (mrows ps ts) := fun im h => mrows_ok hp hts h
  unfold fm_law_ask_match
  rw [run_fm]
  refine ⟨rfl, ?_⟩
  unfold f_law_ask_match
  -- the single pairs
  have loop : ∀ (d2 : D) (s3 : SV) (QS : Fl → MS → Prop) (E : EX → MS → Prop), (∀ s4 s5, QS .nx [.val (.tup (ps.map tmD)), .val (.tup (ts.map tmD)), .val d2, s3, s4, s5]) →
      Wp (forL (gNm 4) f_law_ask_match_L1 (rgL 0 (min ps.length ts.length))) [.val (.tup (ps.map tmD)), .val (.tup (ts.map tmD)), .val d2, s3, .unk, .unk] QS E := by
    intro d2 s3 QS E q
    refine loop_for (fun i ms => ∃ s4 s5, lo s4 = true ∧ lo s5 = true ∧ ms = [.val (.tup (ps.map tmD)), .val (.tup (ts.map tmD)), .val d2, s3, s4, s5]) _ ⟨.unk, .unk, rfl, rfl, rfl⟩ (fun i d ms hd hI => ?_) (fun ms hI => ?_)
    · obtain ⟨s4, s5, h4, h5, em⟩ := hI
      subst em
      obtain ⟨hi, rfl⟩ := rgL_get hd
      have hip : i < ps.length := by omega
      have hit : i < ts.length := by omega
      have e1 : L2.atI (ps.map tmD) (i : Int) = some (tmD ps[i]) := atI_nat' (by rw [List.getElem?_map, List.getElem?_eq_getElem hip]; rfl)
      have e2 : L2.atI (ts.map tmD) (i : Int) = some (tmD ts[i]) := atI_nat' (by rw [List.getElem?_map, List.getElem?_eq_getElem hit]; rfl)
      have hsz : tsz ps[i] ≤ 900 := by
        have := (tpts_in (P := stOk) ps (mem_tpts.mpr ⟨_, List.getElem_mem hip, tpt_self _⟩)).2.1
        omega
      have hg := hts _ (List.getElem_mem hit)
      generalize ps[i] = p at e1 hsz
      generalize ts[i] = t at e2 hg
      have hO1 : ImO (mrows [p] [t]) := fun im h => mrows_ok (by simp [tszs]; exact hsz) (by simpa using hg) h
      simp [h4, f_law_ask_match_L1, e1, e2]
      refine run_lmatch (ps := [p]) (ts := [t]) (by simp [tszs]; exact hsz) (by simpa using hg) (by simp) ?_
      have fin : ∀ (dd : D), Inv (fun ms => ∃ s4 s5, lo s4 = true ∧ lo s5 = true ∧ ms = [.val (.tup (ps.map tmD)), .val (.tup (ts.map tmD)), .val d2, s3, s4, s5]) [.val (.tup (ps.map tmD)), .val (.tup (ts.map tmD)), .val d2, s3, .val (.int (i : Nat)), .val dd] := fun dd => inv_of ⟨_, _, rfl, rfl, rfl⟩
      have mt := fun (Q : EV → MS → Prop) (E : EX → MS → Prop) => run_match_term (Q := Q) (E := E) hsz hg
      have it := fun (Q : EV → MS → Prop) (E : EX → MS → Prop) => run_images_told (Q := Q) (E := E) hO1
      generalize mrows [p] [t] = r at mt it ⊢
      cases r with
      | none =>
        simp [imR, h5, e1, e2]
        refine mt _ _ ?_
        simp [imR]
        refine it _ _ ?_
        simp
        exact fin _
      | some im =>
        have hgd : (gO id tmD im).d = gD id tmD im := rfl
        simp [imR, h5, hgd, e1, e2]
        refine mt _ _ ?_
        simp [imR]
        refine it _ _ ?_
        simp
        exact fin _
    · obtain ⟨s4, s5, h4, h5, em⟩ := hI
      subst em
      exact q _ _
  have hmin : (if ts.length < ps.length then (ts.length : Int) else ps.length) = ((min ps.length ts.length : Nat) : Int) := by split <;> omega
  have lm := fun (Q : EV → MS → Prop) (E : EX → MS → Prop) => run_lmatch (Q := Q) (E := E) hp hts hl
  have mt := fun (Q : EV → MS → Prop) (E : EX → MS → Prop) => run_match_rows (Q := Q) (E := E) hp hts hl
  have it := fun (Q : EV → MS → Prop) (E : EX → MS → Prop) => run_images_told (Q := Q) (E := E) hO
  simp
  refine lm _ _ ?_
  generalize mrows ps ts = r at mt it lm hO ⊢
  cases r with
  | none =>
    have e : isnotD .non .non = some (.val (.bl false)) := rfl
    simp [imR]
    refine mt _ _ ?_
    simp [imR]
    refine it _ _ ?_
    simp [e]
    rw [hmin, Int.toNat_natCast]
    refine ⟨⟨by omega, by omega⟩, loop _ _ _ _ fun s4 s5 => ?_⟩
    simp
    exact q
  | some im =>
    obtain ⟨n1, n2, n3⟩ := hO im rfl
    have e : isnotD (gD id tmD im) .non = some (.val (.bl true)) := rfl
    have hgd : (gO id tmD im).d = gD id tmD im := rfl
    have e7 : ∃ o', setO (gO id tmD im) (.str (Str.ofString "q7")) (.tup [.str (Str.ofString "Q")]) = some o' := by
      have := set_im (im := im) (x := Str.ofString "q7") (t := .f (Str.ofString "Q") []) (by omega)
      rw [tmD_f] at this
      exact ⟨_, this⟩
    obtain ⟨o', e7⟩ := e7
    simp [imR, hgd]
    refine mt _ _ ?_
    simp [imR]
    refine it _ _ ?_
    simp [imL, e, e7]
    refine mt _ _ ?_
    simp [imR]
    refine it _ _ ?_
    simp [imL]
    rw [hmin, Int.toNat_natCast]
    refine ⟨⟨by omega, by omega⟩, loop _ _ _ _ fun s4 s5 => ?_⟩
    simp
    exact q
end Fw
set_option linter.all false
set_option maxRecDepth 100000
set_option maxHeartbeats 2000000
/-! law_k06: drawn heads -/
namespace Fw
open PySem L2
variable {Q : EV → MS → Prop} {E : EX → MS → Prop}
section
variable {ks : List Kd} {fs : List Fnr} {o : OV} {fl ch tr : Str} {QS : Fl → MS → Prop}
def slD3 (fl ch tr : Str) : D := .lst [.str fl, .str ch, .str tr]
theorem run_sortL (hk : ∀ x ∈ [fl, ch, tr], x ∈ ks.map (·.1)) (ho : DS o) (q : ∀ k o', k ∈ ks.map (·.1) → DS o' → Q (.val (.str k)) [.own true o', .unk]) : Wp fm_law_pick [.own true o, .val (slD3 fl ch tr)] Q E := by
  refine run_pick ho (.inl rfl) (by simp) (by simp) fun d o' h' hd => ?_
  simp at hd
  rcases hd with rfl | rfl | rfl
  · exact q _ o' (hk _ (by simp)) h'
  · exact q _ o' (hk _ (by simp)) h'
  · exact q _ o' (hk _ (by simp)) h'
def FnH (ks : List Kd) (f : Fnr) : Prop := f.2.1.length ≤ 2 ∧ f.2.2.1 ∈ ks.map (·.1) ∧ ∀ p ∈ f.2.1, p ∈ ks.map (·.1)
theorem run_drawn_heads (hk : ∀ x ∈ [fl, ch, tr], x ∈ ks.map (·.1)) (ho : DS o) {ns : List Str} (hn : 3 ≤ ns.length) (hn2 : ns.length ≤ 100)
    (q : ∀ (fs : List Fnr) (nu : List Str) o', DS o' → fs.length ≤ 3 → (∀ f ∈ fs, FnH ks f) → (fs.map (·.1) ++ nu).Perm ns → Q (.val (.tup (fs.map fnD))) [.own true o', .own true (.lst (nu.map .str)), .unk]) :
    Wp fm_law_drawn_heads [.own true o, .own true (.lst (ns.map .str)), .val (slD3 fl ch tr)] Q E := by
  unfold fm_law_drawn_heads
  rw [run_fm]
  refine ⟨rfl, ?_⟩
  unfold f_law_drawn_heads
  simp
  refine run_draw ho (by decide) fun r o1 h1 r0 r1 => ?_
  simp
  refine ⟨⟨by omega, by omega⟩, ?_⟩
  refine loop_for (fun i ms => ∃ (fs : List Fnr) (nu : List Str) (o' : OV) (s4 s5 : SV), DS o' ∧ fs.length = i ∧ (∀ f ∈ fs, FnH ks f) ∧ (fs.map (·.1) ++ nu).Perm ns ∧ lo s4 = true ∧ lo s5 = true ∧ ms = [.own true o', .own true (.lst (nu.map .str)), .val (slD3 fl ch tr), .own false (.lst (fs.map fnD)), s4, s5, .unk]) _ ⟨[], ns, o1, .unk, .unk, h1, rfl, by simp, by simp, rfl, rfl, rfl⟩ (fun i d ms hd hI => ?_) (fun ms hI => ?_)
  · obtain ⟨fs, nu, o', s4, s5, h', hl, hf, hp, h4, h5, em⟩ := hI
    subst em
    obtain ⟨hi, rfl⟩ := rgL_get hd
    have lp := hp.length_eq
    simp at lp
    simp [h4, f_law_drawn_heads_L3, f_law_drawn_heads_C2]
    refine run_draw h' (by decide) fun r2 o2 h2 q0 q1 => ?_
    simp
    refine ⟨⟨by omega, by omega⟩, ?_⟩
    rw [rgL_eq]
    refine run_compJ (fun i : Nat => D.int (i : Nat)) (fun ms => ∃ o', DS o' ∧ ms = [.own true o', .own true (.lst (nu.map .str)), .val (slD3 fl ch tr), .own false (.lst (fs.map fnD)), .val (.int (i : Nat)), s5, .unk]) (fun _ y => ∃ k : Str, y = .str k ∧ k ∈ ks.map (·.1)) _ [] _ ⟨o2, h2, rfl⟩ (fun j hj ms hJ => ?_) fun ys ms hpp hJ => ?_
    · obtain ⟨o', h', em⟩ := hJ
      subst em
      simp [f_law_drawn_heads_E1]
      refine run_sortL hk h' fun k o3 hk3 h3 => ?_
      simp
      simp at hk3
      exact ⟨hk3, inv_of ⟨o3, h3, rfl⟩⟩
    · obtain ⟨o', h', em⟩ := hJ
      subst em
      have hlen := hpp.length
      obtain ⟨tk, rfl, htk⟩ : ∃ fr : List Str, ys = fr.map .str ∧ ∀ k ∈ fr, k ∈ ks.map (·.1) := by
        clear hlen
        generalize List.range r2.toNat = l at hpp
        induction hpp with
        | nil => exact ⟨[], rfl, by simp⟩
        | cons h _ ih =>
          obtain ⟨k, rfl, h1⟩ := h
          obtain ⟨es, rfl, h3⟩ := ih
          exact ⟨k :: es, rfl, fun y hy => by rcases List.mem_cons.mp hy with rfl | hy; exact h1; exact h3 y hy⟩
      simp at hlen
      simp [h5]
      refine run_popS h' (by intro z; rw [z] at lp; simp at lp; omega) (by omega) fun nm n1 o3 h3 p1 => ?_
      simp
      refine run_sortL hk h3 fun k o4 hk4 h4' => ?_
      simp
      refine opK_of (gAppend_ok (by simp; omega)) ?_
      simp
      refine inv_of ⟨fs ++ [(nm, tk, k, .tup [])], n1, o4, .val (.int (i : Nat)), .val (.tup (tk.map .str)), h4', by simp [hl], fun f hf' => ?_, ?_, rfl, rfl, by simp [fnD]⟩
      · rcases List.mem_append.mp hf' with e | e
        · exact hf f e
        · simp at e; subst e
          exact ⟨by simp; omega, hk4, htk⟩
      · refine List.Perm.trans ?_ hp
        rw [List.map_append, List.append_assoc]
        exact List.Perm.append_left _ p1
  · obtain ⟨fs, nu, o', s4, s5, h', hl, hf, hp, h4, h5, em⟩ := hI
    subst em
    rw [rgL_len] at hl
    simp [slD3]
    exact q fs nu o' h' (by omega) hf hp
end
end Fw
set_option linter.all false
set_option maxRecDepth 100000
set_option maxHeartbeats 2000000
/-! law_k06: drawn rows -/
namespace Fw
open PySem L2
variable {Q : EV → MS → Prop} {E : EX → MS → Prop}
theorem atP_dp {u : Tm} : ∀ {t : Tm} {p : List Nat}, atP t p = some u → p.length + tdp u ≤ tdp t
  | t, [], h => by
    have : atP t [] = some t := by cases t <;> rfl
    rw [this] at h; cases h; simp
  | t, n :: p, h => by
    obtain ⟨g, as, a, rfl, ha, h'⟩ := atP_some h
    have h1 := atP_dp h'
    have h2 := tdps_in (List.mem_of_getElem? ha)
    rw [tdp, List.length_cons]
    omega
theorem tdps_le {m : Nat} : ∀ {as : List Tm}, (∀ a ∈ as, tdp a ≤ m) → tdps as ≤ m
  | [], _ => Nat.zero_le _
  | a :: as, h => by
    rw [tdps]
    exact Nat.max_le.mpr ⟨h a (by simp), tdps_le fun b hb => h b (by simp [hb])⟩
theorem stP_gd {new w : Tm} (hn : tall stOk new = true) : ∀ {t : Tm} {p : List Nat}, atP t p = some w → tall stOk t = true → tdp (stP t p new) ≤ tdp t + tdp new ∧ tall stOk (stP t p new) = true
  | t, [], h, ht => by
    have : stP t [] new = new := by cases t <;> rfl
    rw [this]; exact ⟨by omega, hn⟩
  | t, n :: p, h, ht => by
    obtain ⟨g, as, a, rfl, ha, h'⟩ := atP_some h
    rw [tall, Bool.and_eq_true, talls_iff] at ht
    have hm := List.mem_of_getElem? ha
    obtain ⟨h1, h2⟩ := stP_gd hn h' (ht.2 a hm)
    rw [stP, ha]
    refine ⟨?_, ?_⟩
    · have hle : tdps (as.set n (stP a p new)) ≤ tdps as + tdp new := tdps_le fun b hb => by
        rcases List.mem_or_eq_of_mem_set hb with z | z
        · have := tdps_in z; omega
        · have := tdps_in hm; rw [z]; omega
      rw [tdp, tdp]
      omega
    · rw [tall, Bool.and_eq_true, talls_iff]
      refine ⟨ht.1, fun b hb => ?_⟩
      rcases List.mem_or_eq_of_mem_set hb with z | z
      · exact ht.2 b z
      · rw [z]; exact h2
noncomputable def dr_T7 : MSt := (sSeq (sAsg 13 (mFz (mCallF [true, false] fm_law_draw (mCons (mVar 0) (mCons (M.pure (.val (.int 8))) mNil))))) (sSeq (sIf (mAndT (mB (mOp2 (intOp iLt) (mVar 13) (M.pure (.val (.int 2))))) (mB (mOp2 (intOp iGt) (mVar 5) (M.pure (.val (.int 0)))))) (sSeq (sAsg 14 (mFz (mCallF [true, false] fm_law_draw (mCons (mVar 0) (mCons (mVar 5) mNil))))) (sSeq (sUnp (gTp 2 (gsCons (gNm 16) (gsCons (gNm 17) gsNil))) (mCallF [true, false] fm_law_pick (mCons (mVar 0) (mCons (mFz (mCallF [false] fm_law_places (mCons (mOp2 ixD (mVar 11) (mVar 14)) mNil))) mNil)))) (sSeq (sAsg 15 (mFz (mCallF [true, false, false, false, false, false] fm_law_term (mCons (mVar 0) (mCons (mVar 1) (mCons (mVar 7) (mCons (mFz (mCallF [true, false] fm_law_pick (mCons (mVar 0) (mCons (mVar 2) mNil)))) (mCons (mFz (mCallF [true, false] fm_law_draw (mCons (mVar 0) (mCons (M.pure (.val (.int 2))) mNil)))) (mCons (mFz (mLst mNil)) mNil))))))))) (sSetI setO 11 (mVar 14) (mCallF [false, false, false] fm_law_set (mCons (mOp2 ixD (mVar 11) (mVar 14)) (mCons (mVar 16) (mCons (mVar 15) mNil)))))))) (sIf (mB (mOp2 eqD (mVar 13) (M.pure (.val (.int 2))))) (sExpr (mMeth "list" (fun _ => vals) gInsert 11 (mCons (mFz (mCallF [true, false] fm_law_draw (mCons (mVar 0) (mCons (mOp2 addD (mVar 5) (M.pure (.val (.int 1)))) mNil)))) (mCons (M.pure (.val (.str (Str.ofString "y")))) mNil)))) (sIf (mAndT (mB (mOp2 eqD (mVar 13) (M.pure (.val (.int 3))))) (mB (mOp2 (intOp iGt) (mVar 5) (M.pure (.val (.int 0)))))) (sExpr (mMeth "list" rds gPopAt 11 (mCons (mCallF [true, false] fm_law_draw (mCons (mVar 0) (mCons (mVar 5) mNil))) mNil))) (sIf (mB (mOp2 eqD (mVar 13) (M.pure (.val (.int 4))))) (sAsg 11 (mRevL (mVar 11))) sNx)))) (sRet (mTup (mCons (mCallB bTuple (mCons (mVar 6) mNil)) (mCons (mCallB bTuple (mCons (mVar 11) mNil)) mNil))))))
noncomputable def dr_T3 : MSt := (sSeq (sAsg 7 f_law_drawn_rows_A5) (sSeq (sAsg 8 (M.pure (.new (.dic false [] [])))) (sSeq (sFor (mIt (mVar 3)) (gTp 2 (gsCons (gNm 9) (gsCons (gNm 10) gsNil))) f_law_drawn_rows_L6) (sSeq (sAsgN 11 f_law_drawn_rows_C8) dr_T7))))
theorem dr_R : f_law_drawn_rows = (sSeq (sAsg 3 (mFz f_law_drawn_rows_C2)) (sSeq (sAsg 5 (mOp2 ixD (mLst (mCons (M.pure (.val (.int 1))) (mCons (M.pure (.val (.int 2))) (mCons (M.pure (.val (.int 0))) (mCons (M.pure (.val (.int 3))) (mCons (M.pure (.val (.int 1))) (mCons (M.pure (.val (.int 2))) (mCons (M.pure (.val (.int 6))) mNil)))))))) (mCallF [true, false] fm_law_draw (mCons (mVar 0) (mCons (M.pure (.val (.int 7))) mNil))))) (sSeq (sAsgN 6 f_law_drawn_rows_C4) dr_T3))) := rfl
theorem slD_take1 {l : List D} : slD (.lst l) none (some 1) = some (.new (.lst (l.take 1))) := slD_take (n := 1)
mutual
theorem Tb.stc {hs : List (Str × List Str × Str)} {kn : List (Str × Str)} (hh : ∀ h ∈ hs, stOk h.1 = true) (h : ∀ p ∈ kn, stOk p.1 = true) : ∀ (t : Tm) (k : Str), Tb hs kn [] t k → tall stOk t = true
  | .v x, k, ht => by
    rw [Tb] at ht
    rw [tall]
    exact h _ (by simpa using ht)
  | .f hd as, k, ht => by
    rw [Tb] at ht
    obtain ⟨fs, h1, h2⟩ : ∃ fs, (hd, fs, k) ∈ hs ∧ Tbs hs kn [] as fs := by simpa using ht
    rw [tall, Bool.and_eq_true]
    exact ⟨hh _ h1, Tbs.stc hh h as fs h2⟩
theorem Tbs.stc {hs : List (Str × List Str × Str)} {kn : List (Str × Str)} (hh : ∀ h ∈ hs, stOk h.1 = true) (h : ∀ p ∈ kn, stOk p.1 = true) : ∀ (as : List Tm) (fs : List Str), Tbs hs kn [] as fs → talls stOk as = true
  | [], fs, ht => by rw [talls]
  | a :: as, fs, ht => by
    rw [Tbs] at ht
    obtain ⟨f, r, e, h1, h2⟩ := ht
    rw [talls, Bool.and_eq_true]
    exact ⟨Tb.stc hh h a f h1, Tbs.stc hh h as r h2⟩
end
mutual
theorem sb_szd {im : Im} {n m : Nat} (h : ∀ p ∈ im, tdp p.2 ≤ n ∧ tsz p.2 ≤ m ∧ tall stOk p.2 = true) (hn : 1 ≤ n) (hm : 1 ≤ m) : ∀ t : Tm, tall stOk t = true → tdp (sbT im t) ≤ tdp t + n ∧ tsz (sbT im t) ≤ tsz t * m ∧ tall stOk (sbT im t) = true
  | .v x, ht => by
    rw [sbT]
    cases hl : im.lookup x with
    | none => simp [tdp, tsz]; exact ⟨hm, ht⟩
    | some u =>
      obtain ⟨k1, k2, k3⟩ := h _ (lookup_mem hl)
      simp only at k1 k2 k3
      simp [tdp, tsz]
      exact ⟨by omega, k2, k3⟩
  | .f hd as, ht => by
    rw [tall, Bool.and_eq_true] at ht
    obtain ⟨h1, h2, h3⟩ := sbs_szd h hn hm as ht.2
    rw [sbT, tdp, tdp, tall, Bool.and_eq_true, tsz, tsz, Nat.add_mul]
    exact ⟨by omega, by omega, ht.1, h3⟩
theorem sbs_szd {im : Im} {n m : Nat} (h : ∀ p ∈ im, tdp p.2 ≤ n ∧ tsz p.2 ≤ m ∧ tall stOk p.2 = true) (hn : 1 ≤ n) (hm : 1 ≤ m) : ∀ as : List Tm, talls stOk as = true → tdps (sbTs im as) ≤ tdps as + n ∧ tszs (sbTs im as) ≤ tszs as * m ∧ talls stOk (sbTs im as) = true
  | [], _ => by simp [sbTs, tdps, tszs, talls]
  | a :: as, ht => by
    rw [talls, Bool.and_eq_true] at ht
    obtain ⟨a1, a2, a3⟩ := sb_szd h hn hm a ht.1
    obtain ⟨b1, b2, b3⟩ := sbs_szd h hn hm as ht.2
    rw [sbTs, tdps, tdps, tszs, tszs, talls, Bool.and_eq_true, Nat.add_mul]
    exact ⟨by omega, by omega, a3, b3⟩
end
/-- a world whose names may be compared -/
structure WK (ks : List Kd) (fs : List Fnr) (fl ch tr : Str) : Prop where
  w : Wld ks fs
  st : ∀ h ∈ hds ks fs, stOk h.1 = true
  k3 : ∀ x ∈ [fl, ch, tr], x ∈ ks.map (·.1)
section
variable {ks : List Kd} {fs : List Fnr} {o : OV} {fl ch tr : Str} {QS : Fl → MS → Prop}
def GdS (t : Tm) : Prop := tdp t ≤ 20 ∧ tsz t ≤ 1000 ∧ tall stOk t = true
theorem GdS.gd {t : Tm} (h : GdS t) : Gd t := ⟨by have := h.1; omega, h.2.2⟩
theorem run_dr7 (W : WK ks fs fl ch tr) (ho : DS o) {ps ts : List Tm} {kn : List (Str × Str)} (hkn : kn.length ≤ 10) (hks : ∀ p ∈ kn, stOk p.1 = true) (hts : ∀ t ∈ ts, GdS t) (hl : ts.length ≤ 6) (hl2 : ps.length = ts.length) {d3 : D} {s8 s9 s10 : SV}
    (q : ∀ (ts' : List Tm) o' rest, DS o' → (∀ t ∈ ts', Gd t) → ts'.length ≤ 7 → QS (.rt (.val (.tup [.tup (ps.map tmD), .tup (ts'.map tmD)]))) (.own true o' :: .val (wldD ks fs) :: .val (slD3 fl ch tr) :: rest)) :
    Wp dr_T7 [.own true o, .val (wldD ks fs), .val (slD3 fl ch tr), .val d3, .unk, .val (.int (ts.length : Nat)), .val (.lst (ps.map tmD)), .val (.lst (kn.map kpD)), s8, s9, s10, .own false (.lst (ts.map tmD)), .unk, .unk, .unk, .unk, .unk, .unk] QS E := by
  unfold dr_T7
  have hg : ∀ t ∈ ts, Gd t := fun t ht => (hts t ht).gd
  have yst : stOk (Str.ofString "y") = true := by decide +kernel
  have fin : ∀ (ts' : List Tm) o' (s3 s5 s8 s9 s10 s13 s14 s15 s16 s17 : SV) (e7 : SV), DS o' → (∀ t ∈ ts', Gd t) → ts'.length ≤ 7 → Wp (sRet (mTup (mCons (mCallB bTuple (mCons (mVar 6) mNil)) (mCons (mCallB bTuple (mCons (mVar 11) mNil)) mNil)))) [.own true o', .val (wldD ks fs), .val (slD3 fl ch tr), s3, .unk, s5, .val (.lst (ps.map tmD)), e7, s8, s9, s10, .own false (.lst (ts'.map tmD)), .unk, s13, s14, s15, s16, s17] QS E := by
    intro ts' o' s3 s5 s8 s9 s10 s13 s14 s15 s16 s17 e7 h' ht hl
    simp
    exact q ts' o' _ h' ht hl
  generalize sRet (mTup (mCons (mCallB bTuple (mCons (mVar 6) mNil)) (mCons (mCallB bTuple (mCons (mVar 11) mNil)) mNil))) = RT at fin ⊢
  simp
  refine run_draw ho (by decide) fun r o1 h1 r0 r1 => ?_
  by_cases c0 : ts = []
  · subst c0
    have c5 : r = 0 ∨ r = 1 ∨ r = 2 ∨ r = 3 ∨ r = 4 ∨ (5 ≤ r) := by omega
    have ins : ∀ {o2 : OV}, DS o2 → gInsert (.lst []) [.int 0, .str (Str.ofString "y")] = some (.non, .lst [.str (Str.ofString "y")]) := fun _ => rfl
    have e2 : [D.str (Str.ofString "y")] = [Tm.v (Str.ofString "y")].map tmD := rfl
    rcases c5 with rfl | rfl | rfl | rfl | rfl | c5
    · simp
      exact fin [] o1 _ _ _ _ _ _ _ _ _ _ _ h1 (by simp) (by simp)
    · simp
      exact fin [] o1 _ _ _ _ _ _ _ _ _ _ _ h1 (by simp) (by simp)
    · simp
      refine run_draw h1 (by decide) fun r2 o2 h2 q0 q1 => ?_
      have : r2 = 0 := by omega
      subst this
      simp [ins h2]
      rw [e2]
      exact fin _ o2 _ _ _ _ _ _ _ _ _ _ _ h2 (by intro t ht; simp at ht; subst ht; exact ⟨by simp [tdp], yst⟩) (by simp)
    · simp
      exact fin [] o1 _ _ _ _ _ _ _ _ _ _ _ h1 (by simp) (by simp)
    · simp
      exact fin [] o1 _ _ _ _ _ _ _ _ _ _ _ h1 (by simp) (by simp)
    · have a1 : ¬ r < 2 := by omega
      have a1' : 2 ≤ r := by omega
      have a2 : ¬ r = 2 := by omega
      have a3 : ¬ r = 3 := by omega
      have a4 : ¬ r = 4 := by omega
      simp [a1, a1', a2, a3, a4]
      exact fin [] o1 _ _ _ _ _ _ _ _ _ _ _ h1 (by simp) (by simp)
  · have c1 : 0 < ts.length := List.length_pos_iff.mpr c0
    by_cases c2 : r < 2
    · simp [c0, c1, c2]
      refine run_draw h1 (by omega) fun sp o2 h2 q0 q1 => ?_
      obtain ⟨j, rfl⟩ : ∃ j : Nat, sp = j := ⟨sp.toNat, by omega⟩
      have hj : j < ts.length := by omega
      have e1 : L2.atI (ts.map tmD) (j : Int) = some (tmD ts[j]) := atI_nat' (by rw [List.getElem?_map, List.getElem?_eq_getElem hj]; rfl)
      obtain ⟨t1, t2, t3⟩ := hts _ (List.getElem_mem hj)
      simp [e1]
      refine run_lplaces (by omega) (by omega) ?_
      have hne : (spT [] ts[j]).map rD2 ≠ [] := by
        have := tsz_pos ts[j]
        intro z
        have hlen := congrArg List.length z
        have h3 := congrArg List.length (spT_parts ts[j] [])
        rw [List.length_map, tpt_len] at h3
        simp [h3] at hlen; omega
      have hlen : ((spT [] ts[j]).map rD2).length < 1073741824 := by
        have h3 := congrArg List.length (spT_parts ts[j] [])
        rw [List.length_map, tpt_len] at h3
        rw [List.length_map, h3]; omega
      simp
      refine run_pick h2 (.inl rfl) hne hlen fun d o3 h3 hd => ?_
      obtain ⟨x, hx, rfl⟩ := List.mem_map.mp hd
      obtain ⟨p, e2, hat⟩ := sp_at _ _ _ hx
      simp at e2
      have hpl := atP_dp hat
      have hp0 := tdp_pos x.2
      simp [rD2]
      refine run_sortL W.k3 h3 fun k o4 hk h4 => ?_
      simp
      refine run_draw h4 (by decide) fun r3 o5 h5 p0 p1 => ?_
      obtain ⟨dp, rfl⟩ : ∃ dp : Nat, r3 = dp := ⟨r3.toNat, by omega⟩
      simp
      refine run_term0 W.w (.inl rfl) (by omega) (by omega : dp < 60) h5 hk rfl fun u o6 h6 u1 u2 u3 => ?_
      have ust := u1.stc W.st hks
      rw [e2]
      simp [e1]
      refine run_set (by omega) (by omega) hat ?_
      obtain ⟨g1, g2⟩ := stP_gd ust hat t3
      simp [setO_nat (show j < (ts.map tmD).length by simpa using hj)]
      have e3 : (ts.map tmD).set j (tmD (stP ts[j] p u)) = (ts.set j (stP ts[j] p u)).map tmD := by rw [List.map_set]
      rw [e3]
      refine fin _ o6 _ _ _ _ _ _ _ _ _ _ _ h6 (fun t ht => ?_) (by simp; omega)
      rcases List.mem_or_eq_of_mem_set ht with z | z
      · exact hg t z
      · rw [z]; exact ⟨by omega, g2⟩
    · have c2' : 2 ≤ r := by omega
      by_cases c3 : r = 2
      · simp [c0, c1, c2, c2', c3]
        refine run_draw h1 (by omega) fun r2 o2 h2 q0 q1 => ?_
        have ei : gInsert (.lst (ts.map tmD)) [.int r2, .str (Str.ofString "y")] = some (.non, .lst ((ts.take r2.toNat ++ [Tm.v (Str.ofString "y")] ++ ts.drop r2.toNat).map tmD)) := by
          unfold gInsert
          dsimp only
          rw [if_pos ⟨q0, by omega, by simp; omega⟩]
          simp
        simp only [List.map_append, List.map_take, List.map_drop, List.map_cons, List.map_nil] at ei
        simp [ei]
        have e3 : (ts.map tmD).take r2.toNat ++ .str (Str.ofString "y") :: (ts.map tmD).drop r2.toNat = (ts.take r2.toNat ++ Tm.v (Str.ofString "y") :: ts.drop r2.toNat).map tmD := by simp
        have := fin (ts.take r2.toNat ++ Tm.v (Str.ofString "y") :: ts.drop r2.toNat) o2 (.val d3) (.val (.int (ts.length : Nat))) s8 s9 s10 (.val (.int 2)) .unk .unk .unk .unk (.val (.lst (kn.map kpD))) h2 (fun t ht => ?_) (by simp; omega)
        · rw [← e3] at this
          simpa using this
        · rcases List.mem_append.mp ht with z | z
          · exact hg t (List.mem_of_mem_take z)
          · rcases List.mem_cons.mp z with z | z
            · subst z; exact ⟨by simp [tdp], yst⟩
            · exact hg t (List.mem_of_mem_drop z)
      · by_cases c4 : r = 3
        · simp [c0, c1, c2, c2', c3, c4]
          refine run_draw h1 (by omega) fun r2 o2 h2 q0 q1 => ?_
          obtain ⟨l, d, rr, e, g⟩ := gPopAt_ok (ds := ts.map tmD) (r := r2) q0 (by simp; omega) (by simp; omega)
          obtain ⟨l', r', rfl, z1, z2⟩ := List.map_eq_append_iff.mp e
          obtain ⟨x, r2', rfl, z3, z4⟩ := List.map_eq_cons_iff.mp z2
          subst z1 z3 z4
          rw [← List.map_append] at g
          simp at g
          simp [g]
          have := fin (l' ++ r2') o2 (.val d3) (.val (.int ((l' ++ x :: r2').length : Nat))) s8 s9 s10 (.val (.int 3)) .unk .unk .unk .unk (.val (.lst (kn.map kpD))) h2 (fun t ht => hg t (by
            rcases List.mem_append.mp ht with z | z
            · exact List.mem_append_left _ z
            · exact List.mem_append_right _ (List.mem_cons_of_mem _ z))) (by simp at hl ⊢; omega)
          simpa using this
        · by_cases c5 : r = 4
          · simp [c0, c1, c2, c2', c3, c4, c5]
            have := fin ts.reverse o1 (.val d3) (.val (.int (ts.length : Nat))) s8 s9 s10 (.val (.int 4)) .unk .unk .unk .unk (.val (.lst (kn.map kpD))) h1 (fun t ht => hg t (List.mem_reverse.mp ht)) (by simp; omega)
            rw [List.map_reverse] at this
            exact this
          · simp [c0, c1, c2, c2', c3, c4, c5]
            exact fin ts o1 _ _ _ _ _ _ _ _ _ _ _ h1 hg (by omega)
end
end Fw
set_option linter.all false
set_option maxRecDepth 100000
set_option maxHeartbeats 2000000
/-! law_k06: drawn rows, whole -/
namespace Fw
open PySem L2
variable {Q : EV → MS → Prop} {E : EX → MS → Prop}
section
variable {ks : List Kd} {fs : List Fnr} {o : OV} {fl ch tr : Str} {QS : Fl → MS → Prop}
theorem u_ok {k : Nat} (h : k < 100) : stOk (Str.ofString "u" ++ istr (k : Nat)) = true := by
  have h1 := istr_st h
  have h2 : stOk (Str.ofString "u") = true := by decide +kernel
  generalize istr (k : Nat) = z at h1 ⊢
  rw [st_list] at h1 h2 ⊢
  intro c hc
  rw [app_cps] at hc
  rcases List.mem_append.mp hc with e | e
  · exact h2 c e
  · exact h1 c e
theorem yzt_ok : (stOk (Str.ofString "y") && stOk (Str.ofString "z") && stOk (Str.ofString "t")) = true := by decide +kernel
theorem uS_len : (Str.ofString "u").length ≤ 1000 := by decide +kernel
def KnOk (ks : List Kd) (kn : List (Str × Str)) : Prop := ∀ p ∈ kn, stOk p.1 = true ∧ p.2 ∈ ks.map (·.1)
def ImS (im : Im) : Prop := ∀ p ∈ im, tdp p.2 ≤ 3 ∧ tsz p.2 ≤ 16 ∧ tall stOk p.2 = true
theorem run_dr3 (W : WK ks fs fl ch tr) (ho : DS o) {ps : List Tm} {kn : List (Str × Str)} (hkn : kn.length ≤ 4) (hks : KnOk ks kn) (hps : ∀ t ∈ ps, tdp t ≤ 3 ∧ tsz t ≤ 16 ∧ tall stOk t = true) (hl : ps.length ≤ 6)
    (q : ∀ (ts' : List Tm) o' rest, DS o' → (∀ t ∈ ts', Gd t) → ts'.length ≤ 7 → QS (.rt (.val (.tup [.tup (ps.map tmD), .tup (ts'.map tmD)]))) (.own true o' :: .val (wldD ks fs) :: .val (slD3 fl ch tr) :: rest)) :
    Wp dr_T3 [.own true o, .val (wldD ks fs), .val (slD3 fl ch tr), .val (.lst (kn.map kpD)), .unk, .val (.int (ps.length : Nat)), .own false (.lst (ps.map tmD)), .unk, .unk, .unk, .unk, .unk, .unk, .unk, .unk, .unk, .unk, .unk] QS E := by
  have yzt := yzt_ok
  simp only [Bool.and_eq_true] at yzt
  unfold dr_T3 f_law_drawn_rows_A5
  have hx : ∀ i, ixD (slD3 fl ch tr) (.int i) = (L2.atI [D.str fl, .str ch, .str tr] i).map .val := fun _ => rfl
  have e1 : addD (.lst ((kn.take 1).map kpD)) (.lst [.tup [.str (Str.ofString "y"), .str fl], .tup [.str (Str.ofString "z"), .str ch], .tup [.str (Str.ofString "t"), .str tr]]) = some (.new (.lst ((kn.take 1 ++ [(Str.ofString "y", fl), (Str.ofString "z", ch), (Str.ofString "t", tr)]).map kpD))) := by
    rw [addD_lst' (by simp; omega)]
    simp [kpD]
  rw [List.map_take] at e1
  simp [slD_take1, hx, e1]
  have e2 : (kn.take 1).map kpD ++ [kpD (Str.ofString "y", fl), kpD (Str.ofString "z", ch), kpD (Str.ofString "t", tr)] = (kn.take 1 ++ [(Str.ofString "y", fl), (Str.ofString "z", ch), (Str.ofString "t", tr)]).map kpD := by simp
  have hot : ∀ p ∈ kn.take 1 ++ [(Str.ofString "y", fl), (Str.ofString "z", ch), (Str.ofString "t", tr)], stOk p.1 = true := by
    intro p hp
    rcases List.mem_append.mp hp with z | z
    · exact (hks p (List.mem_of_mem_take z)).1
    · simp at z
      rcases z with rfl | rfl | rfl
      · exact yzt.1.1
      · exact yzt.1.2
      · exact yzt.2
  have hol : (kn.take 1 ++ [(Str.ofString "y", fl), (Str.ofString "z", ch), (Str.ofString "t", tr)]).length ≤ 4 := by simp; omega
  rw [List.map_take] at e2
  rw [e2]
  generalize kn.take 1 ++ [(Str.ofString "y", fl), (Str.ofString "z", ch), (Str.ofString "t", tr)] = ot at hot hol ⊢
  refine loop_for (fun i ms => ∃ (im : Im) (o' : OV) (s9 s10 : SV), DS o' ∧ im.length ≤ i ∧ ImS im ∧ lo s9 = true ∧ lo s10 = true ∧ ms = [.own true o', .val (wldD ks fs), .val (slD3 fl ch tr), .val (.lst (kn.map kpD)), .unk, .val (.int (ps.length : Nat)), .own false (.lst (ps.map tmD)), .val (.lst (ot.map kpD)), .own false (gO id tmD im), s9, s10, .unk, .unk, .unk, .unk, .unk, .unk, .unk]) _ ⟨[], o, .unk, .unk, ho, by simp, by intro p hp; simp at hp, rfl, rfl, rfl⟩ (fun i d ms hd hI => ?_) (fun ms hI => ?_)
  · obtain ⟨im, o', s9, s10, h', hil, him, h9, h10, em⟩ := hI
    subst em
    rw [List.getElem?_map] at hd
    obtain ⟨p, hp, rfl⟩ := Option.map_eq_some_iff.mp hd
    have hi := (List.getElem?_eq_some_iff.mp hp).1
    obtain ⟨x, k⟩ := p
    have hk := (hks _ (List.mem_of_getElem? hp)).2
    simp [kpD, h9, h10, f_law_drawn_rows_L6]
    refine run_draw h' (by decide) fun r o2 h2 r0 r1 => ?_
    obtain ⟨dp, rfl⟩ : ∃ dp : Nat, r = dp := ⟨r.toNat, by omega⟩
    have hdp : dp ≤ 2 := by omega
    simp
    refine run_term0 W.w (.inl rfl) (by omega) (by omega : dp < 60) h2 hk rfl fun t o3 h3 t1 t2 t3 => ?_
    have hp4 : 4 ^ dp ≤ 16 := Nat.le_trans (Nat.pow_le_pow_right (by decide) hdp) (by decide)
    have hst := set_im (im := im) (x := x) (t := t) (by omega)
    simp [hst]
    refine inv_of ⟨imPut im x t, o3, .val (.str x), .val (.str k), h3, Nat.le_trans imPut_len (by omega), fun p hp => ?_, rfl, rfl, rfl⟩
    rcases imPut_mem hp with e | ⟨_, e⟩
    · exact him p e
    · rw [e]; exact ⟨by omega, by omega, t1.stc W.st hot _ _⟩
  · obtain ⟨im, o', s9, s10, h', hil, him, h9, h10, em⟩ := hI
    subst em
    have hgd : (gO id tmD im).d = imD im := rfl
    have put1 : ∀ t ∈ ps, ∀ (Q : EV → MS → Prop) (E : EX → MS → Prop), Q (.val (tmD (sbT im t))) [.unk, .unk] → Wp fm_law_put [.val (tmD t), .val (imD im)] Q E := fun t ht Q E q => by
      obtain ⟨a1, a2, a3⟩ := hps t ht
      exact run_put (by omega) (by omega) q
    simp [f_law_drawn_rows_C8]
    refine loop_comp (fun i acc ms => ∃ (s8 : SV), (s8 = .own false (gO id tmD im) ∨ s8 = .val (imD im)) ∧ acc = (ps.take i).map (fun t => tmD (sbT im t)) ∧ ms = [.own true o', .val (wldD ks fs), .val (slD3 fl ch tr), .val (.lst (kn.map kpD)), .unk, .val (.int (ps.length : Nat)), .val (.lst (ps.map tmD)), .val (.lst (ot.map kpD)), s8, s9, s10, .unk, .unk, .unk, .unk, .unk, .unk, .unk]) _ [] ⟨_, .inl rfl, rfl, rfl⟩ (fun i d acc ms hd hI => ?_) (fun acc ms hI => ?_)
    · obtain ⟨s8, h8, rfl, em⟩ := hI
      subst em
      rw [List.getElem?_map] at hd
      obtain ⟨t, ht, rfl⟩ := Option.map_eq_some_iff.mp hd
      have fin : ∀ acc', acc' = (ps.take i).map (fun t => tmD (sbT im t)) ++ [tmD (sbT im t)] → Inv (fun ms => ∃ (s8 : SV), (s8 = .own false (gO id tmD im) ∨ s8 = .val (imD im)) ∧ acc' = (ps.take (i + 1)).map (fun t => tmD (sbT im t)) ∧ ms = [.own true o', .val (wldD ks fs), .val (slD3 fl ch tr), .val (.lst (kn.map kpD)), .unk, .val (.int (ps.length : Nat)), .val (.lst (ps.map tmD)), .val (.lst (ot.map kpD)), s8, s9, s10, .unk, .unk, .unk, .unk, .unk, .unk, .unk]) [.own true o', .val (wldD ks fs), .val (slD3 fl ch tr), .val (.lst (kn.map kpD)), .unk, .val (.int (ps.length : Nat)), .val (.lst (ps.map tmD)), .val (.lst (ot.map kpD)), .val (imD im), s9, s10, .unk, .unk, .unk, .unk, .unk, .unk, .unk] := by
        intro acc' ea
        refine inv_of ⟨_, .inr rfl, ?_, rfl⟩
        rw [ea, List.take_add_one, ht]; simp
      rcases h8 with rfl | rfl
      all_goals
        simp [f_law_drawn_rows_E7, hgd]
        refine put1 t (List.mem_of_getElem? ht) _ _ ?_
        simp
        exact fin _ rfl
    · obtain ⟨s8, h8, rfl, em⟩ := hI
      subst em
      have et : ((ps.take (ps.map tmD).length).map fun t => tmD (sbT im t)) = (ps.map (sbT im)).map tmD := by simp
      rw [et]
      simp
      have e5 : ((ps.map (sbT im)).length : Int) = ps.length := by simp
      rw [List.map_map] at et
      have := run_dr7 (QS := QS) (E := E) (s8 := s8) (s9 := s9) (s10 := s10) (ps := ps) (d3 := .lst (kn.map kpD)) W h' (ts := ps.map (sbT im)) (by omega) hot (fun t ht => ?_) (by simpa using hl) (by simp) q
      · rw [e5, List.map_map] at this
        rcases h8 with rfl | rfl
        all_goals simpa using this
      · obtain ⟨u, hu, rfl⟩ := List.mem_map.mp ht
        obtain ⟨a1, a2, a3⟩ := hps u hu
        obtain ⟨b1, b2, b3⟩ := sb_szd him (by decide) (by decide) u a3
        exact ⟨by omega, by omega, b3⟩
theorem run_drawn_rows (W : WK ks fs fl ch tr) (ho : DS o) (q : ∀ (ps ts : List Tm) o', DS o' → (∀ t ∈ ps, tdp t ≤ 3 ∧ tsz t ≤ 16 ∧ tall stOk t = true) → ps.length ≤ 6 → (∀ t ∈ ts, Gd t) → ts.length ≤ 7 → Q (.val (.tup [.tup (ps.map tmD), .tup (ts.map tmD)])) [.own true o', .unk, .unk]) :
    Wp fm_law_drawn_rows [.own true o, .val (wldD ks fs), .val (slD3 fl ch tr)] Q E := by
  unfold fm_law_drawn_rows
  rw [run_fm, dr_R]
  refine ⟨rfl, ?_⟩
  unfold f_law_drawn_rows_C2
  simp
  refine run_draw ho (by decide) fun r o1 h1 r0 r1 => ?_
  simp
  refine ⟨⟨by omega, by omega⟩, ?_⟩
  refine loop_comp (fun i acc ms => ∃ (kn : List (Str × Str)) (o' : OV), DS o' ∧ acc = kn.map kpD ∧ kn.length = i ∧ KnOk ks kn ∧ ms = [.own true o', .val (wldD ks fs), .val (slD3 fl ch tr), .unk, .unk, .unk, .unk, .unk, .unk, .unk, .unk, .unk, .unk, .unk, .unk, .unk, .unk, .unk]) _ [] ⟨[], o1, h1, rfl, rfl, by intro p hp; simp at hp, rfl⟩ (fun i d acc ms hd hI => ?_) (fun acc ms hI => ?_)
  · obtain ⟨kn, o', h', rfl, hl, hk, em⟩ := hI
    subst em
    obtain ⟨hi, rfl⟩ := rgL_get hd
    have b1 : bStr [.int (i : Nat)] = some (.val (.str (istr (i : Nat)))) := bStr_nat (by omega)
    have b2 : addD (.str (Str.ofString "u")) (.str (istr (i : Nat))) = some (.val (.str (Str.ofString "u" ++ istr (i : Nat)))) := addD_istr (by omega) uS_len
    have b3 := u_ok (k := i) (by omega)
    generalize istr (i : Nat) = W1 at b1 b2 b3
    simp [f_law_drawn_rows_E1, b1, b2]
    refine run_sortL W.k3 h' fun k o2 hk2 h2 => ?_
    simp
    refine inv_of ⟨kn ++ [(Str.ofString "u" ++ W1, k)], o2, h2, by simp [kpD], by simp [hl], fun p hp => ?_, rfl⟩
    rcases List.mem_append.mp hp with e | e
    · exact hk p e
    · simp at e; subst e; exact ⟨b3, hk2⟩
  · obtain ⟨kn, o', h', rfl, hl, hk, em⟩ := hI
    subst em
    rw [rgL_len] at hl
    have hkl : kn.length ≤ 3 := by omega
    simp
    refine run_draw h' (by decide) fun r2 o2 h2 q0 q1 => ?_
    have hm : ∃ m : Nat, m ≤ 6 ∧ L2.atI [D.int 1, .int 2, .int 0, .int 3, .int 1, .int 2, .int 6] r2 = some (.int (m : Nat)) := by
      have h5 : r2 = 0 ∨ r2 = 1 ∨ r2 = 2 ∨ r2 = 3 ∨ r2 = 4 ∨ r2 = 5 ∨ r2 = 6 := by omega
      rcases h5 with rfl | rfl | rfl | rfl | rfl | rfl | rfl
      · exact ⟨1, by omega, rfl⟩
      · exact ⟨2, by omega, rfl⟩
      · exact ⟨0, by omega, rfl⟩
      · exact ⟨3, by omega, rfl⟩
      · exact ⟨1, by omega, rfl⟩
      · exact ⟨2, by omega, rfl⟩
      · exact ⟨6, by omega, rfl⟩
    obtain ⟨m, hm6, hm⟩ := hm
    simp
    refine opK_of hm ?_
    simp [f_law_drawn_rows_C4]
    refine ⟨by omega, ?_⟩
    refine loop_comp (fun i acc ms => ∃ (ps : List Tm) (o' : OV), DS o' ∧ acc = ps.map tmD ∧ ps.length = i ∧ (∀ t ∈ ps, tdp t ≤ 3 ∧ tsz t ≤ 16 ∧ tall stOk t = true) ∧ ms = [.own true o', .val (wldD ks fs), .val (slD3 fl ch tr), .val (.lst (kn.map kpD)), .unk, .val (.int (m : Nat)), .unk, .unk, .unk, .unk, .unk, .unk, .unk, .unk, .unk, .unk, .unk, .unk]) _ [] ⟨[], o2, h2, rfl, rfl, by simp, rfl⟩ (fun i d acc ms hd hI => ?_) (fun acc ms hI => ?_)
    · obtain ⟨ps, o', h', rfl, hl, hps, em⟩ := hI
      subst em
      obtain ⟨hi, rfl⟩ := rgL_get hd
      simp [f_law_drawn_rows_E3]
      refine run_sortL W.k3 h' fun k o3 hk3 h3 => ?_
      simp
      refine run_draw h3 (by decide) fun r4 o4 h4 p0 p1 => ?_
      obtain ⟨dp, rfl⟩ : ∃ dp : Nat, r4 = dp := ⟨r4.toNat, by omega⟩
      have hdp : dp ≤ 2 := by omega
      have hp4 : 4 ^ dp ≤ 16 := Nat.le_trans (Nat.pow_le_pow_right (by decide) hdp) (by decide)
      simp
      refine run_term0 W.w (.inl rfl) (by omega) (by omega : dp < 60) h4 hk3 rfl fun t o5 h5 t1 t2 t3 => ?_
      simp
      refine inv_of ⟨ps ++ [t], o5, h5, by simp, by simp [hl], fun x hx => ?_, rfl⟩
      rcases List.mem_append.mp hx with e | e
      · exact hps x e
      · simp at e; subst e; exact ⟨by omega, by omega, t1.stc W.st (fun p hp => (hk p hp).1) _ _⟩
    · obtain ⟨ps, o', h', rfl, hl, hps, em⟩ := hI
      subst em
      rw [rgL_len] at hl
      have hl' : ps.length = m := by omega
      subst hl'
      simp
      refine run_dr3 W h' (by omega) hk hps hm6 fun ts o3 rest h3 ht htl => ?_
      simp [slD3, wldD]
      exact q ps ts o3 h3 hps hm6 ht htl
end
end Fw
set_option linter.all false
set_option maxRecDepth 100000
set_option maxHeartbeats 2000000
/-! law_k06: chains, full trees, large rows -/
namespace Fw
open PySem L2
variable {Q : EV → MS → Prop} {E : EX → MS → Prop}
noncomputable def lr_T7 : MSt := (sSeq (sAsg 12 (mOp2 ixD (mLst (mCons (mVar 8) (mCons (mFz (mCallF [true, false] fm_law_draw (mCons (mVar 0) (mCons (M.pure (.val (.int 7))) mNil)))) (mCons (mFz (mCallF [true, false] fm_law_draw (mCons (mVar 0) (mCons (mOp2 addD (M.pure (.val (.int 1))) (mVar 8)) mNil)))) mNil)))) (mCallF [true, false] fm_law_draw (mCons (mVar 0) (mCons (M.pure (.val (.int 3))) mNil))))) (sRet f_law_large_rows_R3))
noncomputable def lr_T6 : MSt := (sSeq (sAsg 11 (mOp2 ixD (mLst (mCons (M.pure (.val (.str (Str.ofString "x")))) (mCons (M.pure (.val (.str (Str.ofString "y")))) mNil))) (mCallF [true, false] fm_law_draw (mCons (mVar 0) (mCons (M.pure (.val (.int 2))) mNil))))) lr_T7)
noncomputable def lr_T4 : MSt := (sSeq (sAsg 9 (mFz (mCallF [false, false, false] fm_law_full_tree (mCons (mVar 3) (mCons (mVar 8) (mCons (mVar 4) mNil)))))) (sSeq (sIf (mB (mOp2 eqD (mCallF [true, false] fm_law_draw (mCons (mVar 0) (mCons (M.pure (.val (.int 2))) mNil))) (M.pure (.val (.int 0))))) (sAsg 9 (mFz (mCallF [false, false, false] fm_law_set (mCons (mVar 9) (mCons (mCallB bTuple (mCons f_law_large_rows_C2 mNil)) (mCons (mVar 5) mNil)))))) sNx) lr_T6))
noncomputable def lr_T1 : MSt := (sSeq (sAsg 6 (mFz (mCallF [true, false] fm_law_draw (mCons (mVar 0) (mCons (M.pure (.val (.int 40))) mNil))))) (sSeq (sAsg 7 (mOp2 ixD (mLst (mCons (mVar 6) (mCons (mCallB bMin (mCons (M.pure (.val (.int 39))) (mCons (mOp2 addD (mVar 6) (M.pure (.val (.int 1)))) mNil))) (mCons (mFz (mCallF [true, false] fm_law_draw (mCons (mVar 0) (mCons (M.pure (.val (.int 40))) mNil)))) (mCons (M.pure (.val (.int 39))) mNil))))) (mCallF [true, false] fm_law_draw (mCons (mVar 0) (mCons (M.pure (.val (.int 4))) mNil))))) (sSeq (sAsg 8 (mFz (mCallF [true, false] fm_law_draw (mCons (mVar 0) (mCons (M.pure (.val (.int 7))) mNil))))) lr_T4)))
theorem lr_R : f_law_large_rows = (sSeq (sUnp (gTp 4 (gsCons (gNm 2) (gsCons (gNm 3) (gsCons (gNm 4) (gsCons (gNm 5) gsNil))))) (mTup (mCons (mOp2 ixD (mVar 1) (M.pure (.val (.int 0)))) (mCons (mOp2 ixD (mVar 1) (M.pure (.val (.int 1)))) (mCons (mTup (mCons (mOp2 ixD (mVar 1) (M.pure (.val (.int 2)))) mNil)) (mCons (mTup (mCons (mOp2 ixD (mVar 1) (M.pure (.val (.int 3)))) mNil)) mNil)))))) lr_T1) := rfl
def chT (g : Str) : Nat → Tm → Tm
  | 0, t => t
  | n + 1, t => .f g [chT g n t]
def trT (g : Str) : Nat → Tm → Tm
  | 0, t => t
  | n + 1, t => .f g [trT g n t, trT g n t]
theorem chT_d {g : Str} {t : Tm} : ∀ n, tdp (chT g n t) = n + tdp t ∧ tsz (chT g n t) = n + tsz t
  | 0 => by simp [chT]
  | n + 1 => by
    obtain ⟨h1, h2⟩ := chT_d (g := g) (t := t) n
    rw [chT, tdp, tsz, tdps, tdps, tszs, tszs, h1, h2]
    omega
theorem trT_d {g : Str} {t : Tm} : ∀ n, tdp (trT g n t) = n + tdp t ∧ tsz (trT g n t) + 1 = 2 ^ n * (tsz t + 1)
  | 0 => by simp [trT]
  | n + 1 => by
    obtain ⟨h1, h2⟩ := trT_d (g := g) (t := t) n
    rw [trT, tdp, tsz, tdps, tdps, tdps, tszs, tszs, tszs, h1, Nat.pow_succ, Nat.mul_right_comm, ← h2]
    omega
theorem chT_st {g : Str} {t : Tm} (hg : stOk g = true) (ht : tall stOk t = true) : ∀ n, tall stOk (chT g n t) = true
  | 0 => ht
  | n + 1 => by rw [chT, tall, talls, talls, chT_st hg ht n, hg]; rfl
theorem trT_st {g : Str} {t : Tm} (hg : stOk g = true) (ht : tall stOk t = true) : ∀ n, tall stOk (trT g n t) = true
  | 0 => ht
  | n + 1 => by rw [trT, tall, talls, talls, talls, trT_st hg ht n, hg]; rfl
theorem trT_at {g : Str} {t : Tm} : ∀ (p : List Nat), (∀ k ∈ p, k < 2) → atP (trT g p.length t) p = some t
  | [], _ => by cases t <;> rfl
  | k :: p, h => by
    have h1 := h k (by simp)
    have ih := trT_at (g := g) (t := t) p fun k hk => h k (by simp [hk])
    rw [List.length_cons, trT]
    have : ([trT g p.length t, trT g p.length t])[k]? = some (trT g p.length t) := by
      have h2 : k = 0 ∨ k = 1 := by omega
      rcases h2 with rfl | rfl <;> rfl
    show (match ([trT g p.length t, trT g p.length t])[k]? with
      | some a => atP a p
      | none => none) = _
    rw [this]; exact ih
theorem lentT {d : D} {t : Tm} {n : Int} : allLent [.val d, .val (.int n), .val (tmD t)] = true := rfl
theorem run_chain_of {g : Str} {n : Nat} {t : Tm} (hn : n ≤ 1000) (q : Q (.val (tmD (chT g n t))) [.unk, .unk, .unk]) : Wp fm_law_chain_of [.val (.str g), .val (.int (n : Nat)), .val (tmD t)] Q E := by
  unfold fm_law_chain_of
  rw [run_fm]
  refine ⟨lentT, ?_⟩
  unfold f_law_chain_of
  have ho : ∀ (d : D) (as : List SV) (s : SV) (ms : MS), outS (.val d :: as) (s :: ms) = .unk :: outS as ms := fun _ _ _ _ => rfl
  simp
  refine ⟨by omega, ?_⟩
  refine loop_for (fun i ms => ∃ s3, lo s3 = true ∧ ms = [.val (.str g), .val (.int (n : Nat)), .val (tmD (chT g i t)), s3]) _ ⟨.unk, rfl, rfl⟩ (fun i d ms hd hI => ?_) (fun ms hI => ?_)
  · obtain ⟨s3, h3, em⟩ := hI
    subst em
    obtain ⟨hi, rfl⟩ := rgL_get hd
    simp [h3, f_law_chain_of_L1]
    exact inv_of ⟨_, rfl, by rw [chT, tmD_f]; rfl⟩
  · obtain ⟨s3, h3, em⟩ := hI
    subst em
    rw [rgL_len]
    simp [ho]
    exact q
theorem run_full_tree {g : Str} {n : Nat} {t : Tm} (hn : n ≤ 1000) (q : Q (.val (tmD (trT g n t))) [.unk, .unk, .unk]) : Wp fm_law_full_tree [.val (.str g), .val (.int (n : Nat)), .val (tmD t)] Q E := by
  unfold fm_law_full_tree
  rw [run_fm]
  refine ⟨lentT, ?_⟩
  unfold f_law_full_tree
  have ho : ∀ (d : D) (as : List SV) (s : SV) (ms : MS), outS (.val d :: as) (s :: ms) = .unk :: outS as ms := fun _ _ _ _ => rfl
  simp
  refine ⟨by omega, ?_⟩
  refine loop_for (fun i ms => ∃ s3, lo s3 = true ∧ ms = [.val (.str g), .val (.int (n : Nat)), .val (tmD (trT g i t)), s3]) _ ⟨.unk, rfl, rfl⟩ (fun i d ms hd hI => ?_) (fun ms hI => ?_)
  · obtain ⟨s3, h3, em⟩ := hI
    subst em
    obtain ⟨hi, rfl⟩ := rgL_get hd
    simp [h3, f_law_full_tree_L1]
    exact inv_of ⟨_, rfl, by rw [trT, tmD_f]; rfl⟩
  · obtain ⟨s3, h3, em⟩ := hI
    subst em
    rw [rgL_len]
    simp [ho]
    exact q
section
variable {o : OV} {QS : Fl → MS → Prop}
/-- a large row -/
def LrG (ps ts : List Tm) : Prop := tszs ps ≤ 900 ∧ (∀ t ∈ ts, Gd t) ∧ ts.length ≤ 900
theorem xy_ok : (stOk (Str.ofString "x") && stOk (Str.ofString "y")) = true := by decide +kernel
theorem run_lr7 {up node : Str} {z : Tm} {dg : D} {deep more size : Nat} {tree : Tm} {nm : Str} {s5 s10 : SV} (hu : stOk up = true) (hnode : stOk node = true) (hz : z = .f zs []) (hzs : stOk zs = true) (hd : deep < 40) (hm : more < 41) (hsz : size < 7) (ht : Gd tree) (hnm : stOk nm = true) (ho : DS o)
    (q : ∀ ps ts o' rest, DS o' → LrG ps ts → QS (.rt (.val (.tup [.tup (ps.map tmD), .tup (ts.map tmD)]))) (.own true o' :: .val dg :: rest)) :
    Wp lr_T7 [.own true o, .val dg, .val (.str up), .val (.str node), .val (tmD z), s5, .val (.int (deep : Nat)), .val (.int (more : Nat)), .val (.int (size : Nat)), .val (tmD tree), s10, .val (.str nm), .unk] QS E := by
  subst hz
  unfold lr_T7 f_law_large_rows_R3
  have xy := xy_ok
  simp only [Bool.and_eq_true] at xy
  simp
  refine run_draw ho (by decide) fun r1 o1 h1 a0 a1 => ?_
  obtain ⟨p1, rfl⟩ : ∃ k : Nat, r1 = k := ⟨r1.toNat, by omega⟩
  simp
  refine run_draw h1 (by omega) fun r2 o2 h2 b0 b1 => ?_
  obtain ⟨p2, rfl⟩ : ∃ k : Nat, r2 = k := ⟨r2.toNat, by omega⟩
  simp
  refine run_draw h2 (by decide) fun r3 o3 h3 c0 c1 => ?_
  have hpart : ∃ part : Nat, part < 7 ∧ L2.atI [D.int (size : Nat), .int (p1 : Nat), .int (p2 : Nat)] r3 = some (.int (part : Nat)) := by
    have h5 : r3 = 0 ∨ r3 = 1 ∨ r3 = 2 := by omega
    rcases h5 with rfl | rfl | rfl
    · exact ⟨size, hsz, by simp⟩
    · exact ⟨p1, by omega, by simp⟩
    · exact ⟨p2, by omega, by simp⟩
  obtain ⟨part, hp7, hpart⟩ := hpart
  simp
  refine opK_of hpart ?_
  have ex : D.str (Str.ofString "x") = tmD (.v (Str.ofString "x")) := rfl
  have en : D.str nm = tmD (.v nm) := rfl
  simp
  rw [ex]
  refine run_chain_of (by omega) ?_
  simp
  rw [en]
  refine run_full_tree (by omega) ?_
  simp
  have ez : D.tup [.str zs] = tmD (.f zs []) := by simp
  rw [ez]
  refine run_chain_of (by omega) ?_
  simp
  have := q [chT up deep (.v (Str.ofString "x")), trT node part (.v nm)] [chT up more (.f zs []), tree] o3 [.val (.str up), .val (.str node), .val (tmD (.f zs [])), s5, .val (.int (deep : Nat)), .val (.int (more : Nat)), .val (.int (size : Nat)), .val (tmD tree), s10, .val (.str nm), .val (.int (part : Nat))] h3 ?_
  · simpa using this
  · refine ⟨?_, fun t ht' => ?_, by simp⟩
    · obtain ⟨_, e1⟩ := chT_d (g := up) (t := .v (Str.ofString "x")) deep
      obtain ⟨_, e2⟩ := trT_d (g := node) (t := .v nm) part
      have e3 : 2 ^ part ≤ 64 := Nat.le_trans (Nat.pow_le_pow_right (by decide) (by omega : part ≤ 6)) (by decide)
      rw [tsz] at e1 e2
      rw [tszs, tszs, tszs, e1]
      omega
    · simp at ht'
      rcases ht' with rfl | rfl
      · refine ⟨?_, chT_st hu (by simp [tall, talls, hzs]) _⟩
        obtain ⟨e1, _⟩ := chT_d (g := up) (t := .f zs []) more
        rw [e1, tdp, tdps]; omega
      · exact ht
end
end Fw
set_option linter.all false
set_option maxRecDepth 100000
set_option maxHeartbeats 2000000
/-! law_k06: large rows, whole -/
namespace Fw
open PySem L2
variable {Q : EV → MS → Prop} {E : EX → MS → Prop}
section
variable {o : OV} {QS : Fl → MS → Prop}
theorem run_lr6 {up node zs : Str} {dg : D} {deep more size : Nat} {tree : Tm} {s5 s10 : SV} (hu : stOk up = true) (hnode : stOk node = true) (hzs : stOk zs = true) (hd : deep < 40) (hm : more < 41) (hsz : size < 7) (ht : Gd tree) (ho : DS o)
    (q : ∀ (ps ts : List Tm) o' rest, DS o' → LrG ps ts → QS (.rt (.val (.tup [.tup (ps.map tmD), .tup (ts.map tmD)]))) (.own true o' :: .val dg :: rest)) :
    Wp lr_T6 [.own true o, .val dg, .val (.str up), .val (.str node), .val (.tup [.str zs]), s5, .val (.int (deep : Nat)), .val (.int (more : Nat)), .val (.int (size : Nat)), .val (tmD tree), s10, .unk, .unk] QS E := by
  have xy := xy_ok
  simp only [Bool.and_eq_true] at xy
  have ez : D.tup [.str zs] = tmD (.f zs []) := by simp
  unfold lr_T6
  simp
  refine run_draw ho (by decide) fun r1 o1 h1 a0 a1 => ?_
  have hx : ∃ nm, stOk nm = true ∧ L2.atI [D.str (Str.ofString "x"), .str (Str.ofString "y")] r1 = some (.str nm) := by
    have h5 : r1 = 0 ∨ r1 = 1 := by omega
    rcases h5 with rfl | rfl
    · exact ⟨_, xy.1, by simp⟩
    · exact ⟨_, xy.2, by simp⟩
  obtain ⟨nm, hnm, hx⟩ := hx
  simp
  refine opK_of hx ?_
  simp
  rw [ez]
  exact run_lr7 hu hnode rfl hzs hd hm hsz ht hnm h1 q
theorem run_large_rows {gs : List Str} (hg : 4 ≤ gs.length) (hst : ∀ g ∈ gs, stOk g = true) (ho : DS o) (q : ∀ (ps ts : List Tm) o', DS o' → LrG ps ts → Q (.val (.tup [.tup (ps.map tmD), .tup (ts.map tmD)])) [.own true o', .unk]) :
    Wp fm_law_large_rows [.own true o, .val (.lst (gs.map .str))] Q E := by
  obtain ⟨up, node, zs, on, gr, rfl⟩ : ∃ a b c d r, gs = a :: b :: c :: d :: r := by
    match gs, hg with
    | a :: b :: c :: d :: r, _ => exact ⟨a, b, c, d, r, rfl⟩
  have s1 := hst up (by simp)
  have s2 := hst node (by simp)
  have s3 := hst zs (by simp)
  have s4 := hst on (by simp)
  unfold fm_law_large_rows
  rw [run_fm, lr_R]
  refine ⟨rfl, ?_⟩
  simp
  unfold lr_T1
  simp
  refine run_draw ho (by decide) fun r1 o1 h1 a0 a1 => ?_
  obtain ⟨deep, rfl⟩ : ∃ k : Nat, r1 = k := ⟨r1.toNat, by omega⟩
  simp
  refine run_draw h1 (by decide) fun r2 o2 h2 b0 b1 => ?_
  obtain ⟨p2, rfl⟩ : ∃ k : Nat, r2 = k := ⟨r2.toNat, by omega⟩
  simp
  refine run_draw h2 (by decide) fun r3 o3 h3 c0 c1 => ?_
  have hmore : ∃ more : Nat, more < 41 ∧ ∀ (m2 : Int), m2 = (if (deep : Int) + 1 < 39 then (deep : Int) + 1 else 39) → L2.atI [D.int (deep : Nat), .int m2, .int (p2 : Nat), .int 39] r3 = some (.int (more : Nat)) := by
    have h5 : r3 = 0 ∨ r3 = 1 ∨ r3 = 2 ∨ r3 = 3 := by omega
    rcases h5 with rfl | rfl | rfl | rfl
    · exact ⟨deep, by omega, fun m2 _ => by simp⟩
    · refine ⟨min (deep + 1) 39, by omega, fun m2 e => ?_⟩
      rw [atI_1]
      congr 2
      rw [e]; split <;> omega
    · exact ⟨p2, by omega, fun m2 _ => by simp⟩
    · exact ⟨39, by omega, fun m2 _ => by simp⟩
  obtain ⟨more, hm41, hmore⟩ := hmore
  simp
  refine opK_of (hmore _ rfl) ?_
  simp
  refine run_draw h3 (by decide) fun r4 o4 h4 d0 d1 => ?_
  obtain ⟨size, rfl⟩ : ∃ k : Nat, r4 = k := ⟨r4.toNat, by omega⟩
  simp
  unfold lr_T4
  have ez : D.tup [.str zs] = tmD (.f zs []) := by simp
  have et : ∀ (n : Nat) (z : Str), stOk z = true → n < 8 → Gd (trT node n (.f z [])) := fun n z hz hn => by
    refine ⟨?_, trT_st s2 (by simp [tall, talls, hz]) n⟩
    obtain ⟨e1, _⟩ := trT_d (g := node) (t := .f z []) n
    rw [e1, tdp, tdps]; omega
  simp
  rw [ez]
  refine run_full_tree (by omega) ?_
  simp
  refine run_draw h4 (by decide) fun r5 o5 h5 e0 e1 => ?_
  simp
  refine ⟨fun _ => ?_, fun _ => ?_⟩
  · simp [f_law_large_rows_C2]
    refine ⟨by omega, ?_⟩
    have hdv : ∀ (ds : List D), bTuple [D.lst ds] = some (.val (.tup ds)) := fun _ => rfl
    refine loop_comp (fun i acc ms => ∃ (p : List Nat) (o' : OV), DS o' ∧ acc = p.map (fun n => D.int (n : Nat)) ∧ p.length = i ∧ (∀ k ∈ p, k < 2) ∧ ms = [.own true o', .val (.lst (.str up :: .str node :: .str zs :: .str on :: gr.map .str)), .val (.str up), .val (.str node), .val (tmD (.f zs [])), .val (.tup [.str on]), .val (.int (deep : Nat)), .val (.int (more : Nat)), .val (.int (size : Nat)), .val (tmD (trT node size (.f zs []))), .unk, .unk, .unk]) _ [] ⟨[], o5, h5, rfl, rfl, by simp, by simp⟩ (fun i d acc ms hd hI => ?_) (fun acc ms hI => ?_)
    · obtain ⟨p, o', h', rfl, hl, hp, em⟩ := hI
      subst em
      obtain ⟨hi, rfl⟩ := rgL_get hd
      simp [f_law_large_rows_E1]
      refine run_draw h' (by decide) fun r6 o6 h6 f0 f1 => ?_
      simp
      refine inv_of ⟨p ++ [r6.toNat], o6, h6, ?_, by simp [hl], fun k hk => ?_, by simp⟩
      · simp; omega
      · rcases List.mem_append.mp hk with z | z
        · exact hp k z
        · simp at z; omega
    · obtain ⟨p, o', h', rfl, hl, hp, em⟩ := hI
      subst em
      rw [rgL_len] at hl
      subst hl
      have hat := trT_at (g := node) (t := .f zs []) p hp
      have eo : D.tup [.str on] = tmD (.f on []) := by simp
      have ep : D.tup (p.map fun n => D.int (n : Nat)) = pathD p := rfl
      have hts : tsz (trT node p.length (.f zs [])) ≤ 100000 := by
        obtain ⟨_, e2⟩ := trT_d (g := node) (t := .f zs []) p.length
        have e3 : 2 ^ p.length ≤ 64 := Nat.le_trans (Nat.pow_le_pow_right (by decide) (by omega : p.length ≤ 6)) (by decide)
        rw [tsz, tszs] at e2
        omega
      simp
      rw [ep, eo]
      refine run_set (by omega) hts hat ?_
      obtain ⟨g1, g2⟩ := stP_gd (new := .f on []) (by simp [tall, talls, s4]) hat (et p.length zs s3 (by omega)).2
      have ge : Gd (stP (trT node p.length (.f zs [])) p (.f on [])) := by
        refine ⟨?_, g2⟩
        obtain ⟨e1, _⟩ := trT_d (g := node) (t := .f zs []) p.length
        rw [e1, tdp, tdps, tdp, tdps] at g1
        omega
      generalize stP (trT node p.length (.f zs [])) p (.f on []) = tr at ge ⊢
      simp
      refine run_lr6 s1 s2 s3 (by omega) hm41 (by omega) ge h' fun ps ts o6 rest h6 hlr => ?_
      simp
      exact q ps ts o6 h6 hlr
  · have := run_lr6 (QS := fun fl ms' => rtK [.own true o, .val (.lst (.str up :: .str node :: .str zs :: .str on :: gr.map .str))] Q ms' fl) (E := fun x ms' => E x (outS [.own true o, .val (.lst (.str up :: .str node :: .str zs :: .str on :: gr.map .str))] ms')) (dg := .lst (.str up :: .str node :: .str zs :: .str on :: gr.map .str)) (deep := deep) (more := more) (size := size) (s5 := .val (.tup [.str on])) (s10 := .unk) s1 s2 s3 (by omega) hm41 (by omega) (et size zs s3 (by omega)) h5 fun ps ts o6 rest h6 hlr => ?_
    · exact this
    · simp
      exact q ps ts o6 h6 hlr
end
end Fw
set_option linter.all false
set_option maxRecDepth 100000
set_option maxHeartbeats 2000000
/-! law_k06: patterns that meet -/
namespace Fw
open PySem L2
variable {Q : EV → MS → Prop} {E : EX → MS → Prop}
mutual
def meetT : Tm → Tm → Bool
  | .f g as, .f h bs => g == h && meets as bs
  | .v _, _ => true
  | .f _ _, .v _ => true
def meets : List Tm → List Tm → Bool
  | a :: as, b :: bs => meetT a b && meets as bs
  | _, _ => true
end
theorem meets_zip : ∀ (as bs : List Tm), meets as bs = (as.zip bs).all fun p => meetT p.1 p.2
  | [], bs => by rw [meets]; rfl; simp
  | a :: as, [] => by rw [meets]; rfl; simp
  | a :: as, b :: bs => by rw [meets, meets_zip as bs]; rfl
mutual
theorem meet_comm : ∀ (a b : Tm), meetT a b = meetT b a
  | .f g as, .f h bs => by rw [meetT, meetT, meets_comm as bs, Bool.beq_comm]
  | .v _, .v _ => rfl
  | .v _, .f _ _ => rfl
  | .f _ _, .v _ => rfl
theorem meets_comm : ∀ (as bs : List Tm), meets as bs = meets bs as
  | [], [] => rfl
  | [], b :: bs => by rw [meets, meets] <;> simp
  | a :: as, [] => by rw [meets, meets] <;> simp
  | a :: as, b :: bs => by rw [meets, meets, meet_comm a b, meets_comm as bs]
end
theorem nd_unique {α β : Type} {l : List (α × β)} (h : (l.map (·.1)).Nodup) {a : α} {b c : β} (h1 : (a, b) ∈ l) (h2 : (a, c) ∈ l) : b = c := by
  induction l with
  | nil => simp at h1
  | cons x l ih =>
    rw [List.map_cons, List.nodup_cons] at h
    rcases List.mem_cons.mp h1 with e1 | e1 <;> rcases List.mem_cons.mp h2 with e2 | e2
    · rw [← e1] at e2; exact (Prod.mk.inj e2).2.symm
    · subst e1; exact absurd (List.mem_map.mpr ⟨_, e2, rfl⟩) h.1
    · subst e2; exact absurd (List.mem_map.mpr ⟨_, e1, rfl⟩) h.1
    · exact ih h.2 e1 e2
mutual
/-- a right pattern of a kind -/
def Pw (hs : List (Str × List Str × Str)) : Tm → Str → Prop
  | .v _, _ => True
  | .f h as, k => ∃ fs, (h, fs, k) ∈ hs ∧ Pws hs as fs
def Pws (hs : List (Str × List Str × Str)) : List Tm → List Str → Prop
  | [], fs => fs = []
  | a :: as, fs => ∃ f r, fs = f :: r ∧ Pw hs a f ∧ Pws hs as r
end
theorem Pws.len {hs : List (Str × List Str × Str)} : ∀ {as : List Tm} {fs : List Str}, Pws hs as fs → as.length = fs.length
  | [], fs, h => by rw [Pws] at h; subst h; rfl
  | a :: as, fs, h => by
    rw [Pws] at h
    obtain ⟨f, r, rfl, _, h2⟩ := h
    simp [h2.len]
theorem Pws.zip {hs : List (Str × List Str × Str)} : ∀ {as bs : List Tm} {fs : List Str}, Pws hs as fs → Pws hs bs fs → ∀ p ∈ as.zip bs, ∃ k, Pw hs p.1 k ∧ Pw hs p.2 k
  | [], bs, fs, _, _, p, hp => by simp at hp
  | a :: as, [], fs, _, _, p, hp => by simp at hp
  | a :: as, b :: bs, fs, h1, h2, p, hp => by
    rw [Pws] at h1 h2
    obtain ⟨f, r, rfl, a1, a2⟩ := h1
    obtain ⟨f', r', e, b1, b2⟩ := h2
    cases e
    rw [List.zip_cons_cons] at hp
    rcases List.mem_cons.mp hp with rfl | hp
    · exact ⟨f, a1, b1⟩
    · exact a2.zip b2 p hp
/-- two right patterns of one kind -/
def PwP (hs : List (Str × List Str × Str)) (p : Tm × Tm) : Prop := ∃ k, Pw hs p.1 k ∧ Pw hs p.2 k
theorem PwP.open {hs : List (Str × List Str × Str)} (nd : (hs.map (·.1)).Nodup) {g : Str} {as bs : List Tm} (h : PwP hs (.f g as, .f g bs)) : bs.length = as.length ∧ ∀ p ∈ as.zip bs, PwP hs p := by
  obtain ⟨k, h1, h2⟩ := h
  have h1 : Pw hs (.f g as) k := h1
  have h2 : Pw hs (.f g bs) k := h2
  rw [Pw] at h1 h2
  obtain ⟨fs, a1, a2⟩ := h1
  obtain ⟨fs', b1, b2⟩ := h2
  have := nd_unique nd a1 b1
  cases this
  exact ⟨by rw [a2.len, b2.len], a2.zip b2⟩
structure PmI (hs : List (Str × List Str × Str)) (S : List (Tm × Tm)) (n : Nat) : Prop where
  sz : psz S = n
  tm : ∀ p ∈ S, PwP hs p
  len : n ≤ 900
theorem run_patterns_meet {hs : List (Str × List Str × Str)} (nd : (hs.map (·.1)).Nodup) {ps qs : List Tm} (hp : tszs ps ≤ 900) (hl : qs.length = ps.length) (hw : ∀ p ∈ ps.zip qs, PwP hs p) (q : Q (.val (.bl ((ps.zip qs).all fun p => meetT p.1 p.2))) [.unk, .unk]) : Wp fm_patterns_meet [.val (.tup (ps.map tmD)), .val (.tup (qs.map tmD))] Q E := by
  have hpl := len_tszs ps
  unfold fm_patterns_meet
  rw [run_fm]
  refine ⟨rfl, ?_⟩
  unfold f_patterns_meet
  simp [f_patterns_meet_C2]
  refine ⟨by omega, ?_⟩
  refine run_zip0 hl hl.symm (fun i a b ha hb => ?_) ?_
  · simp [f_patterns_meet_E1, ha, hb]
  simp
  have h0 : PmI hs (ps.zip qs).reverse (tszs ps) := by
    refine ⟨?_, fun p hp => hw p (List.mem_reverse.mp hp), hp⟩
    unfold psz
    rw [List.map_reverse, tszs_rev, zip_fst hl]
  have hR : ((ps.zip qs).reverse.all fun p => meetT p.1 p.2) = (ps.zip qs).all fun p => meetT p.1 p.2 := by rw [List.all_reverse]
  generalize ((ps.zip qs).all fun p => meetT p.1 p.2) = R at q hR
  have e0 : (ps.zip qs).map ppD = (ps.zip qs).reverse.reverse.map ppD := by simp
  rw [e0]
  generalize (ps.zip qs).reverse = S0 at h0 hR ⊢
  refine loop_while (fun n ms => ∃ (S : List (Tm × Tm)) (s4 s5 : SV), lo s4 = true ∧ lo s5 = true ∧ PmI hs S n ∧ (S.all fun p => meetT p.1 p.2) = R ∧ ms = [.val (.tup (ps.map tmD)), .val (.tup (qs.map tmD)), .own false (.lst (S.reverse.map ppD)), .unk, s4, s5]) _ ⟨S0, .unk, .unk, rfl, rfl, h0, hR, rfl⟩ (fun n ms hI => ?_)
  obtain ⟨S, s4, s5, h4, h5, I, hm, em⟩ := hI
  subst em
  cases S with
  | nil =>
    have : R = true := by rw [← hm]; rfl
    subst this
    simp [f_patterns_meet_W5]
    exact q
  | cons p S =>
    obtain ⟨a, b⟩ := p
    have hsz := I.sz
    have hpsz : psz ((a, b) :: S) = tsz a + psz S := by unfold psz; rw [List.map_cons, tszs]
    rw [hpsz] at hsz
    have hpos := tsz_pos a
    have hln := I.len
    have hpop := pop_pp (S := S) (p := (a, b))
    have hne : ¬ ((((a, b) :: S).reverse.map ppD) = []) := by simp
    have keep : PmI hs S (psz S) := ⟨rfl, fun p hp => I.tm p (by simp [hp]), by omega⟩
    rw [List.all_cons] at hm
    generalize hSL : (((a, b) :: S).reverse.map ppD) = SL at hpop hne ⊢
    cases a with
    | v x =>
      rw [meetT, Bool.true_and] at hm
      simp [f_patterns_meet_W5, f_patterns_meet_L6, hne, hpop, ppD, h4, h5]
      exact inv_of ⟨psz S, by omega, S, .val (.str x), .val (tmD b), rfl, rfl, keep, hm, by simp⟩
    | f g as =>
      cases b with
      | v y =>
        rw [meetT, Bool.true_and] at hm
        simp [f_patterns_meet_W5, f_patterns_meet_L6, hne, hpop, ppD, h4, h5]
        exact inv_of ⟨psz S, by omega, S, .val (tmD (.f g as)), .val (.str y), rfl, rfl, keep, hm, by simp⟩
      | f h bs =>
        by_cases c1 : g = h
        case neg =>
          have : R = false := by
            rw [← hm, meetT]
            have : (g == h) = false := beq_eq_false_iff_ne.mpr c1
            rw [this]; rfl
          subst this
          simp [f_patterns_meet_W5, f_patterns_meet_L6, hne, hpop, ppD, h4, h5, c1]
          exact q
        subst c1
        obtain ⟨c2, c3⟩ := (I.tm _ List.mem_cons_self).open nd
        have hst := psz_step (g := g) (t := .f g bs) (S := S) c2
        rw [hpsz] at hst
        have I2 : PmI hs ((as.zip bs).reverse ++ S) (psz ((as.zip bs).reverse ++ S)) := by
          refine ⟨rfl, fun p hp => ?_, by omega⟩
          rcases List.mem_append.mp hp with e | e
          · exact c3 p (List.mem_reverse.mp e)
          · exact I.tm p (by simp [e])
        have hm2 : (((as.zip bs).reverse ++ S).all fun p => meetT p.1 p.2) = R := by
          rw [← hm, List.all_append, List.all_reverse, meetT, meets_zip]; simp
        have hz := psz_len (S := (as.zip bs).reverse ++ S)
        have hlt : psz ((as.zip bs).reverse ++ S) < n := by omega
        have hsl : ((as.zip bs).reverse ++ S).length ≤ 900 := by omega
        simp at hsl
        simp [f_patterns_meet_W5, f_patterns_meet_L6, hne, hpop, ppD, h4, h5, f_patterns_meet_C4]
        have e2 : ((as.length : Int) + 1 - 1).toNat = bs.length := by omega
        have hal := len_tszs as
        rw [tsz] at hsz
        refine ⟨by omega, ?_⟩
        rw [e2]
        refine run_zip1 (g := g) (h := g) c2 (fun i a b ha hb => ?_) ?_
        · simp [f_patterns_meet_E3, ha, hb]
        · simp
          rw [gExtend_lst (by simp; omega)]
          simp
          exact inv_of ⟨_, hlt, _, .val (tmD (.f g as)), .val (tmD (.f g bs)), rfl, rfl, I2, hm2, by simp⟩
end Fw
set_option linter.all false
set_option maxRecDepth 100000
set_option maxHeartbeats 2000000
/-! law_k06: drawn patterns -/
namespace Fw
open PySem L2
variable {Q : EV → MS → Prop} {E : EX → MS → Prop}
mutual
def tvs : Tm → List Str
  | .v x => [x]
  | .f _ as => tvss as
def tvss : List Tm → List Str
  | [] => []
  | a :: as => tvs a ++ tvss as
end
theorem tvss_app : ∀ {a b : List Tm}, tvss (a ++ b) = tvss a ++ tvss b
  | [], b => by rw [tvss]; rfl
  | x :: a, b => by rw [List.cons_append, tvss, tvss, tvss_app, List.append_assoc]
theorem Pws.snoc {hs : List (Str × List Str × Str)} : ∀ {as : List Tm} {fs : List Str} {a : Tm} {f : Str}, Pws hs as fs → Pw hs a f → Pws hs (as ++ [a]) (fs ++ [f])
  | [], fs, a, f, h, ha => by
    rw [Pws] at h; subst h
    rw [List.nil_append, Pws]
    exact ⟨f, [], rfl, ha, by rw [Pws]⟩
  | x :: as, fs, a, f, h, ha => by
    rw [Pws] at h
    obtain ⟨g, r, rfl, h1, h2⟩ := h
    rw [List.cons_append, Pws]
    exact ⟨g, r ++ [f], rfl, h1, h2.snoc ha⟩
theorem gPop_s {l : List Str} {x : Str} : gPop (.lst ((l ++ [x]).map .str)) [] = some (.str x, .lst (l.map .str)) := by
  rw [List.map_append]; exact gPop_snoc
section
variable {ks : List Kd} {o : OV}
/-- a drawn pattern of depth at most e + 1 -/
def PtG (ks : List Kd) (e : Nat) (kind : Str) (t : Tm) : Prop := Pw (hds ks []) t kind ∧ tdp t ≤ e + 1 ∧ tsz t ≤ 4 ^ e ∧ (tvs t).length ≤ 3 ^ e
theorem run_patternR (W : Wld ks []) : ∀ (n e : Nat) (kind : Str) (sp : List Str) (o : OV) (dd : Int), e < n → dd = ((e + 1 : Nat) : Int) → kind ∈ ks.map (·.1) → 3 ^ e ≤ sp.length → DS o → ∀ (Q : EV → MS → Prop) (E : EX → MS → Prop),
    (∀ t sp' o', DS o' → PtG ks e kind t → (tvs t ++ sp').Perm sp → Q (.val (tmD t)) [.own true o', .unk, .unk, .unk, .own true (.lst (sp'.map .str))]) →
    Wp (recM 10 f_law_pattern n) [.own true o, .val (kdsD ks), .val (.str kind), .val (.int dd), .own true (.lst (sp.map .str))] Q E
  | 0, e, kind, sp, o, dd, h, _, _, _, _, _, _, _ => by omega
  | n + 1, e, kind, sp, o, dd, h, hdd, hk, hsp, ho, Q, E, q => by
    rw [recM, run_fm]
    refine ⟨rfl, ?_⟩
    have ih := run_patternR W n
    generalize recM 10 f_law_pattern n = self at ih ⊢
    obtain ⟨ms, m1, m2, m3, m4⟩ := heads_row W hk
    unfold f_law_pattern f_law_pattern_C1
    simp
    refine run_makers m1 ?_
    simp
    refine run_compFI mkD (fun m => decide (1 < dd) || decide (m.2.length = 0)) mkD ms [] (fun m hm => ?_) ?_
    · by_cases c : 1 < dd
      · have c2 : ¬ dd ≤ 1 := by omega
        simp [c, c2]
      · have c2 : dd ≤ 1 := by omega
        simp [c, c2, mkD]
    have hfl := List.length_filter_le (fun m : Mk => decide (1 < dd) || decide (m.2.length = 0)) ms
    have hall : ∀ m ∈ ms.filter fun m => decide (1 < dd) || decide (m.2.length = 0), m ∈ ms ∧ (1 < dd ∨ m.2 = []) := fun m hm => by
      obtain ⟨h1, h2⟩ := List.mem_filter.mp hm
      refine ⟨h1, ?_⟩
      simp at h2
      exact h2
    have hne : (ms.filter fun m => decide (1 < dd) || decide (m.2.length = 0)).map mkD ≠ [] := by
      obtain ⟨m, a1, a2⟩ := W.cst _ m2
      intro z
      rw [List.map_eq_nil_iff, List.filter_eq_nil_iff] at z
      exact z m a1 (by simp [a2])
    generalize (ms.filter fun m => decide (1 < dd) || decide (m.2.length = 0)) = MS at hfl hall hne ⊢
    simp
    refine run_draw ho (by decide) fun r o1 h1 r0 r1 => ?_
    rcases List.eq_nil_or_concat sp with rfl | ⟨sp', x, rfl⟩
    · have := Nat.pow_pos (n := e) (show 0 < 3 by decide)
      simp at hsp
    rw [List.concat_eq_append] at *
    have hg := gPop_s (l := sp') (x := x)
    generalize hSP : (sp' ++ [x]).map D.str = SP at hg ⊢
    simp
    refine ⟨fun _ => ?_, fun _ => ?_⟩
    · simp [hg]
      refine q (.v x) sp' o1 h1 ⟨by rw [Pw]; trivial, by simp [tdp], ?_, ?_⟩ ?_
      · rw [tsz]; exact Nat.pow_pos (by decide)
      · simp [tvs]; exact Nat.pow_pos (by decide)
      · rw [tvs]; exact (List.perm_append_singleton x sp').symm
    · refine run_pick h1 (.inl rfl) hne (by rw [List.length_map]; omega) fun d o2 h2 hd => ?_
      obtain ⟨m, hm, rfl⟩ := List.mem_map.mp hd
      obtain ⟨a1, a2⟩ := hall m hm
      obtain ⟨f3, fk⟩ := (W.nm _ m2).2 m a1
      obtain ⟨made, fields⟩ := m
      simp only at f3 fk a2
      have hin : (made, fields, kind) ∈ hds ks [] := List.mem_append_left _ (List.mem_flatMap.mpr ⟨_, m2, List.mem_map.mpr ⟨_, a1, rfl⟩⟩)
      simp [mkD, f_law_pattern_C3]
      rw [← hSP]
      refine loop_comp (fun i acc ms => ∃ (as : List Tm) (sp2 : List Str) (o' : OV), DS o' ∧ acc = as.map tmD ∧ as.length = i ∧ Pws (hds ks []) as (fields.take i) ∧ tdps as ≤ e ∧ tszs as ≤ i * 4 ^ (e - 1) ∧ (tvss as).length ≤ i * 3 ^ (e - 1) ∧ (tvss as ++ sp2).Perm (sp' ++ [x]) ∧
        ms = [.own true o', .val (kdsD ks), .val (.str kind), .val (.int dd), .own true (.lst (sp2.map .str)), .val (.lst (MS.map mkD)), .unk, .val (.str made), .val (.tup (fields.map .str)), .unk]) _ [] ⟨[], sp' ++ [x], o2, h2, rfl, rfl, by simp [Pws], by simp [tdps], by simp [tszs], by simp [tvss], by simp [tvss], rfl⟩ (fun i d acc ms' hd' hI => ?_) (fun acc ms' hI => ?_)
      · obtain ⟨as, sp2, o', h', rfl, hl, hw, hdp, hsz, hv, hp, em⟩ := hI
        subst em
        rw [List.getElem?_map] at hd'
        obtain ⟨f, hf, rfl⟩ := Option.map_eq_some_iff.mp hd'
        have hi := (List.getElem?_eq_some_iff.mp hf).1
        obtain ⟨e', rfl⟩ : ∃ e', e = e' + 1 := by
          rcases a2 with z | z
          · exact ⟨e - 1, by omega⟩
          · rw [z] at hi; simp at hi
        have lp := hp.length_eq
        simp only [List.length_append] at lp hsp
        simp at hsp lp
        rw [Nat.add_sub_cancel] at hsz hv
        rw [Nat.pow_succ] at hsp
        have hmul : i * 3 ^ e' ≤ 2 * 3 ^ e' := Nat.mul_le_mul_right _ (by omega)
        simp [f_law_pattern_E2]
        refine ih e' f sp2 o' (dd - 1) (by omega) (by omega) (fk f (List.mem_of_getElem? hf)) (by omega) h' _ _ fun t sp3 o3 h3 hg3 hp3 => ?_
        obtain ⟨g1, g2, g3, g4⟩ := hg3
        simp
        refine inv_of ⟨as ++ [t], sp3, o3, h3, by simp, by simp [hl], ?_, ?_, ?_, ?_, ?_, by simp⟩
        · rw [List.take_add_one, hf]; exact hw.snoc g1
        · rw [tdps_app, tdps, tdps]; omega
        · rw [tszs_app, tszs, tszs, Nat.succ_mul]; omega
        · rw [tvss_app, tvss, tvss, List.append_nil, List.length_append, Nat.succ_mul]; omega
        · refine List.Perm.trans ?_ hp
          rw [tvss_app, tvss, tvss, List.append_nil, List.append_assoc]
          exact List.Perm.append_left _ hp3
      · obtain ⟨as, sp2, o', h', rfl, hl, hw, hdp, hsz, hv, hp, em⟩ := hI
        subst em
        rw [List.length_map] at hl hw hsz hv
        rw [List.take_of_length_le (Nat.le_refl _)] at hw
        simp
        rw [addD_tup (by simp; omega)]
        simp
        have := q (.f made as) sp2 o' h' ⟨by rw [Pw]; exact ⟨fields, hin, hw⟩, by rw [tdp]; omega, ?_, ?_⟩ (by rw [tvs]; exact hp)
        · simpa [kdsD] using this
        · rw [tsz]
          rcases a2 with z | z
          · obtain ⟨e', rfl⟩ : ∃ e', e = e' + 1 := ⟨e - 1, by omega⟩
            rw [Nat.add_sub_cancel] at hsz
            have h4 := Nat.pow_pos (n := e') (show 0 < 4 by decide)
            have hmul : fields.length * 4 ^ e' ≤ 3 * 4 ^ e' := Nat.mul_le_mul_right _ f3
            rw [Nat.pow_succ]; omega
          · rw [z] at hsz; simp at hsz
            have h4 := Nat.pow_pos (n := e) (show 0 < 4 by decide)
            omega
        · rw [tvs]
          rcases a2 with z | z
          · obtain ⟨e', rfl⟩ : ∃ e', e = e' + 1 := ⟨e - 1, by omega⟩
            rw [Nat.add_sub_cancel] at hv
            have hmul : fields.length * 3 ^ e' ≤ 3 * 3 ^ e' := Nat.mul_le_mul_right _ f3
            rw [Nat.pow_succ]; omega
          · rw [z] at hv; simp at hv
            rw [hv]; simp
theorem run_pattern (W : Wld ks []) {e : Nat} {kind : Str} {sp : List Str} {dd : Int} (he : e < 60) (hdd : dd = ((e + 1 : Nat) : Int)) (hk : kind ∈ ks.map (·.1)) (hsp : 3 ^ e ≤ sp.length) (ho : DS o)
    (q : ∀ t sp' o', DS o' → PtG ks e kind t → (tvs t ++ sp').Perm sp → Q (.val (tmD t)) [.own true o', .unk, .unk, .unk, .own true (.lst (sp'.map .str))]) :
    Wp fm_law_pattern [.own true o, .val (kdsD ks), .val (.str kind), .val (.int dd), .own true (.lst (sp.map .str))] Q E :=
  run_patternR W 60 e kind sp o dd he hdd hk hsp ho Q E q
end
end Fw
set_option linter.all false
set_option maxRecDepth 100000
set_option maxHeartbeats 2000000
/-! law_k06: clashes -/
namespace Fw
open PySem L2
variable {Q : EV → MS → Prop} {E : EX → MS → Prop}
mutual
theorem at_sp : ∀ (t : Tm) (q p : List Nat) (u : Tm), atP t p = some u → (q ++ p, u) ∈ spT q t
  | .v y, q, p, u, h => by
    cases p with
    | nil => have : atP (.v y) [] = some (.v y) := rfl; rw [this] at h; cases h; simp [spT]
    | cons n p => cases h
  | .f g as, q, p, u, h => by
    cases p with
    | nil => have : atP (.f g as) [] = some (.f g as) := rfl; rw [this] at h; cases h; rw [spT]; simp
    | cons n p =>
      obtain ⟨g', as', a, e, ha, h'⟩ := atP_some h
      cases e
      rw [spT]
      have := ats_sp as q 0 n p a u ha h'
      rw [Nat.zero_add] at this
      exact List.mem_cons_of_mem _ this
theorem ats_sp : ∀ (as : List Tm) (q : List Nat) (k n : Nat) (p : List Nat) (a u : Tm), as[n]? = some a → atP a p = some u → (q ++ (k + n) :: p, u) ∈ spTs q k as
  | [], q, k, n, p, a, u, h, _ => by simp at h
  | b :: as, q, k, 0, p, a, u, h, h' => by
    simp at h; subst h
    rw [spTs]
    refine List.mem_append_left _ ?_
    have := at_sp b (q ++ [k]) p u h'
    simpa using this
  | b :: as, q, k, n + 1, p, a, u, h, h' => by
    rw [spTs]
    refine List.mem_append_right _ ?_
    have := ats_sp as q (k + 1) n p a u (by simpa using h) h'
    rw [show k + (n + 1) = k + 1 + n by omega]
    exact this
end
theorem meets_at : ∀ {as bs : List Tm} {n : Nat} {a b : Tm}, meets as bs = true → as[n]? = some a → bs[n]? = some b → meetT a b = true
  | [], _, n, a, b, _, h, _ => by simp at h
  | _ :: _, [], n, a, b, _, _, h => by simp at h
  | x :: as, y :: bs, 0, a, b, hm, h1, h2 => by
    rw [meets, Bool.and_eq_true] at hm
    simp at h1 h2; subst h1 h2; exact hm.1
  | x :: as, y :: bs, n + 1, a, b, hm, h1, h2 => by
    rw [meets, Bool.and_eq_true] at hm
    exact meets_at hm.2 (by simpa using h1) (by simpa using h2)
theorem meet_at : ∀ (p : List Nat) {a b : Tm} {g h : Str} {as bs : List Tm}, meetT a b = true → atP a p = some (.f g as) → atP b p = some (.f h bs) → g = h
  | [], a, b, g, h, as, bs, hm, h1, h2 => by
    have e1 : atP a [] = some a := by cases a <;> rfl
    have e2 : atP b [] = some b := by cases b <;> rfl
    rw [e1] at h1; rw [e2] at h2; cases h1; cases h2
    rw [meetT, Bool.and_eq_true] at hm
    exact eq_of_beq hm.1
  | n :: p, a, b, g, h, as, bs, hm, h1, h2 => by
    obtain ⟨g1, as1, a1, rfl, ha, h1⟩ := atP_some h1
    obtain ⟨g2, as2, a2, rfl, hb, h2⟩ := atP_some h2
    rw [meetT, Bool.and_eq_true] at hm
    exact meet_at p (meets_at hm.2 ha hb) h1 h2
mutual
theorem clash_at : ∀ (a b : Tm), meetT a b = false → ∃ p g h as bs, atP a p = some (.f g as) ∧ atP b p = some (.f h bs) ∧ g ≠ h
  | .v x, b, hm => by rw [meetT] at hm; cases hm
  | .f g as, .v y, hm => by rw [meetT] at hm; cases hm
  | .f g as, .f h bs, hm => by
    by_cases c : g = h
    · subst c
      rw [meetT, beq_self_eq_true, Bool.true_and] at hm
      obtain ⟨n, a, b, ha, hb, p, g1, h1, as1, bs1, e1, e2, e3⟩ := clashs_at as bs hm
      refine ⟨n :: p, g1, h1, as1, bs1, ?_, ?_, e3⟩
      · show (match as[n]? with | some a => atP a p | none => none) = _
        rw [ha]; exact e1
      · show (match bs[n]? with | some a => atP a p | none => none) = _
        rw [hb]; exact e2
    · exact ⟨[], g, h, as, bs, rfl, rfl, c⟩
theorem clashs_at : ∀ (as bs : List Tm), meets as bs = false → ∃ (n : Nat) (a b : Tm), as[n]? = some a ∧ bs[n]? = some b ∧ ∃ p g h as bs, atP a p = some (.f g as) ∧ atP b p = some (.f h bs) ∧ g ≠ h
  | [], bs, hm => by rw [meets] at hm; cases hm; simp
  | a :: as, [], hm => by rw [meets] at hm; cases hm; simp
  | a :: as, b :: bs, hm => by
    rw [meets, Bool.and_eq_false_iff] at hm
    by_cases c : meetT a b = false
    · exact ⟨0, a, b, rfl, rfl, clash_at a b c⟩
    · have := hm.resolve_left c
      obtain ⟨n, x, y, h1, h2, h3⟩ := clashs_at as bs this
      exact ⟨n + 1, x, y, by simpa using h1, by simpa using h2, h3⟩
end
theorem run_clash {a b : Tm} (ha : tsz a ≤ 900) (hb : tsz b ≤ 900) (hda : tdp a ≤ 60) (hdb : tdp b ≤ 60) (q : Q (.val (.bl (!meetT a b))) [.unk, .unk]) : Wp fm_law_clash [.val (tmD a), .val (tmD b)] Q E := by
  have la : ((spT [] a).map rD2).length ≤ 900 := by
    have h3 := congrArg List.length (spT_parts a [])
    rw [List.length_map, tpt_len] at h3
    rw [List.length_map, h3]; exact ha
  unfold fm_law_clash
  rw [run_fm]
  refine ⟨by cases a <;> cases b <;> rfl, ?_⟩
  have ho : ∀ (d : D) (as : List SV) (s : SV) (ms : MS), outS (.val d :: as) (s :: ms) = .unk :: outS as ms := fun _ _ _ _ => rfl
  unfold f_law_clash
  simp
  refine run_lplaces (by omega) (by omega) ?_
  simp
  refine loop_for (fun i ms => ∃ (dk dv : List D) (gg : D → Option D) (s3 s4 : SV), Dv true dk dv i gg ∧ (∀ p, gg (pathD p) = none ∨ ∃ g as, gg (pathD p) = some (.str g) ∧ atP a p = some (.f g as)) ∧ (∀ x ∈ (spT [] a).take i, ∀ g as, x.2 = .f g as → gg (pathD x.1) = some (.str g)) ∧ lo s3 = true ∧ lo s4 = true ∧
    ms = [.val (tmD a), .val (tmD b), .own false (.dic true dk dv), s3, s4]) _ ⟨[], [], fun _ => none, .unk, .unk, Dv.nil, fun p => .inl rfl, by simp, rfl, rfl, rfl⟩ (fun i d ms hd hI => ?_) (fun ms hI => ?_)
  · obtain ⟨dk, dv, gg, s3, s4, hD, hg1, hg2, h3, h4, em⟩ := hI
    subst em
    rw [List.getElem?_map] at hd
    obtain ⟨x, hx, rfl⟩ := Option.map_eq_some_iff.mp hd
    have hi := (List.getElem?_eq_some_iff.mp hx).1
    rw [List.length_map] at la
    obtain ⟨p, u⟩ := x
    obtain ⟨p', e1, hat⟩ := sp_at _ _ _ (List.mem_of_getElem? hx)
    simp at e1
    subst e1
    have hat : atP a p = some u := hat
    have tk : (spT [] a).take (i + 1) = (spT [] a).take i ++ [(p, u)] := by rw [List.take_add_one, hx]; rfl
    cases u with
    | v y =>
      simp [rD2, h3, h4, f_law_clash_L1]
      refine inv_of ⟨dk, dv, gg, .val (pathD p), .val (.str y), hD.le (by omega), hg1, fun x hx g as e => ?_, rfl, rfl, by simp⟩
      rw [tk] at hx
      rcases List.mem_append.mp hx with z | z
      · exact hg2 x z g as e
      · simp at z; subst z; cases e
    | f h bs =>
      obtain ⟨dk', dv', e2, hD'⟩ := hD.set (x := .str h) (okKey_ints (l := p)) (by omega)
      simp [rD2, h3, h4, f_law_clash_L1, e2]
      refine inv_of ⟨dk', dv', _, .val (pathD p), .val (tmD (.f h bs)), hD', fun p2 => ?_, fun x hx g as e => ?_, rfl, rfl, by simp⟩
      · by_cases c : p2 = p
        · subst c
          exact .inr ⟨h, bs, gPut_same, hat⟩
        · rw [gPut_ne fun z => c (pathD_inj z)]
          exact hg1 p2
      · rw [tk] at hx
        rcases List.mem_append.mp hx with z | z
        · by_cases c : x.1 = p
          · obtain ⟨p3, e3, hat3⟩ := sp_at _ _ _ (List.mem_of_mem_take z)
            simp at e3
            rw [← e3, c, hat, e] at hat3
            cases hat3
            rw [c]; exact gPut_same
          · rw [gPut_ne fun z => c (pathD_inj z)]
            exact hg2 x z g as e
        · simp at z; subst z; cases e; exact gPut_same
  · obtain ⟨dk, dv, gg, s3, s4, hD, hg1, hg2, h3, h4, em⟩ := hI
    subst em
    rw [List.length_map, List.take_length] at hg2
    have gA : ∀ p g as, atP a p = some (.f g as) → gg (pathD p) = some (.str g) := fun p g as h => by
      have := at_sp a [] p _ h
      exact hg2 _ (by simpa using this) g as rfl
    simp
    refine run_lplaces (by omega) (by omega) ?_
    simp
    refine loop_for (fun i ms => ∃ (s3 s4 : SV), (∀ x ∈ (spT [] b).take i, ∀ h bs g as, x.2 = .f h bs → atP a x.1 = some (.f g as) → g = h) ∧ lo s3 = true ∧ lo s4 = true ∧ ms = [.val (tmD a), .val (tmD b), .own false (.dic true dk dv), s3, s4]) _ ⟨s3, s4, by simp, h3, h4, rfl⟩ (fun i d ms hd hI => ?_) (fun ms hI => ?_)
    · obtain ⟨s3, s4, hall, h3, h4, em⟩ := hI
      subst em
      rw [List.getElem?_map] at hd
      obtain ⟨x, hx, rfl⟩ := Option.map_eq_some_iff.mp hd
      obtain ⟨p, u⟩ := x
      obtain ⟨p', e1, hat⟩ := sp_at _ _ _ (List.mem_of_getElem? hx)
      simp at e1
      subst e1
      have hat : atP b p = some u := hat
      have tk : (spT [] b).take (i + 1) = (spT [] b).take i ++ [(p, u)] := by rw [List.take_add_one, hx]; rfl
      cases u with
      | v y =>
        simp [rD2, h3, h4, f_law_clash_L2]
        refine inv_of ⟨.val (pathD p), .val (.str y), fun x hx h bs g as e => ?_, rfl, rfl, by simp⟩
        rw [tk] at hx
        rcases List.mem_append.mp hx with z | z
        · exact hall x z h bs g as e
        · simp at z; subst z; cases e
      | f h bs =>
        have gd2 : getD2 (.dct true dk dv) (pathD p) (.str h) = some ((gg (pathD p)).getD (.str h)) := by
          have e : getD2 (.dct true dk dv) (pathD p) (.str h) = if okKey true (pathD p) = true then some ((dFind dk dv (pathD p)).getD (.str h)) else none := rfl
          rw [e, if_pos okKey_ints, hD.find _ okKey_ints]
        rcases hg1 p with c | ⟨g, as, c, hata⟩
        · rw [c] at gd2
          simp at gd2
          simp [rD2, h3, h4, f_law_clash_L2, gd2]
          refine inv_of ⟨.val (pathD p), .val (tmD (.f h bs)), fun x hx h' bs' g as e e2 => ?_, rfl, rfl, by simp⟩
          rw [tk] at hx
          rcases List.mem_append.mp hx with z | z
          · exact hall x z h' bs' g as e e2
          · simp at z; subst z
            rw [gA _ _ _ e2] at c; cases c
        · rw [c] at gd2
          simp at gd2
          by_cases ce : g = h
          · subst ce
            simp [rD2, h3, h4, f_law_clash_L2, gd2]
            refine inv_of ⟨.val (pathD p), .val (tmD (.f g bs)), fun x hx h' bs' g' as' e e2 => ?_, rfl, rfl, by simp⟩
            rw [tk] at hx
            rcases List.mem_append.mp hx with z | z
            · exact hall x z h' bs' g' as' e e2
            · simp at z; subst z
              cases e
              rw [hata] at e2
              cases e2; rfl
          · have hmf : meetT a b = false := by
              cases hm : meetT a b with
              | false => rfl
              | true => exact absurd (meet_at p hm hata hat) ce
            rw [hmf] at q
            simp [rD2, h3, h4, f_law_clash_L2, gd2, ce, ho]
            exact q
    · obtain ⟨s3, s4, hall, h3, h4, em⟩ := hI
      subst em
      rw [List.length_map, List.take_length] at hall
      have hmt : meetT a b = true := by
        cases hm : meetT a b with
        | true => rfl
        | false =>
          obtain ⟨p, g, h, as, bs, e1, e2, e3⟩ := clash_at a b hm
          have := at_sp b [] p _ e2
          exact absurd (hall _ (by simpa using this) h bs g as rfl (by simpa using e1)) e3
      rw [hmt] at q
      simp [ho]
      exact q
end Fw
set_option linter.all false
set_option maxRecDepth 100000
set_option maxHeartbeats 2000000
/-! law_k06: the law's lists of values -/
namespace Fw
open PySem L2
variable {Q : EV → MS → Prop} {E : EX → MS → Prop}
def rowsF (T : Str → Nat → List Tm) : List Str → Nat → List (List Tm)
  | [], total => if total = 0 then [[]] else []
  | f :: fs, total => (List.range total).flatMap fun i => (T f (i + 1)).flatMap fun v => (rowsF T fs (total - (i + 1))).map (v :: ·)
def mkV (ks : List Kd) (T : Str → Nat → List Tm) (k : Str) (n : Nat) : List Tm := ((ks.lookup k).getD []).flatMap fun m => (rowsF T m.2 n).map fun r => .f m.1 r
def tb (ks : List Kd) : Nat → Str → Nat → List Tm
  | 0, _, _ => []
  | n + 1, k, s => if s = n + 1 then mkV ks (tb ks n) k n else tb ks n k s
/-- all values of a kind with so many symbols -/
def TT (ks : List Kd) (k : Str) (s : Nat) : List Tm := tb ks s k s
theorem tb_TT {ks : List Kd} {k : Str} {s : Nat} : ∀ n, s ≤ n → tb ks n k s = TT ks k s
  | 0, h => by have : s = 0 := by omega
               subst this; rfl
  | n + 1, h => by
    rw [tb]
    split
    · rename_i e; subst e; unfold TT; rw [tb, if_pos rfl]
    · rename_i e
      exact tb_TT n (by omega)
theorem flat_congr {α β : Type} {g g' : α → List β} : ∀ {l : List α}, (∀ a ∈ l, g a = g' a) → l.flatMap g = l.flatMap g'
  | [], _ => rfl
  | a :: l, h => by rw [List.flatMap_cons, List.flatMap_cons, h a (by simp), flat_congr fun b hb => h b (by simp [hb])]
theorem rowsF_congr {T T' : Str → Nat → List Tm} : ∀ {fs : List Str} {total : Nat}, (∀ f i, i ≤ total → T f i = T' f i) → rowsF T fs total = rowsF T' fs total
  | [], total, _ => rfl
  | f :: fs, total, h => by
    rw [rowsF, rowsF]
    have e : ∀ i ∈ List.range total, ((T f (i + 1)).flatMap fun v => (rowsF T fs (total - (i + 1))).map (v :: ·)) = (T' f (i + 1)).flatMap fun v => (rowsF T' fs (total - (i + 1))).map (v :: ·) := by
      intro i hi
      have hi := List.mem_range.mp hi
      rw [h f (i + 1) (by omega), rowsF_congr (fs := fs) (total := total - (i + 1)) fun f j hj => h f j (by omega)]
    exact flat_congr e
theorem TT_succ {ks : List Kd} {k : Str} {n : Nat} : TT ks k (n + 1) = ((ks.lookup k).getD []).flatMap fun m => (rowsF (TT ks) m.2 n).map fun r => .f m.1 r := by
  have e : TT ks k (n + 1) = mkV ks (tb ks n) k n := by unfold TT; rw [tb, if_pos rfl]
  rw [e]
  unfold mkV
  congr 1
  funext m
  rw [rowsF_congr (T := tb ks n) (T' := TT ks) fun f i hi => tb_TT n hi]
/-! lengths -/
theorem prod_len {l : List Tm} {L : List (List Tm)} : (l.flatMap fun v => L.map (v :: ·)).length = l.length * L.length := by
  induction l with
  | nil => simp
  | cons a l ih => rw [List.flatMap_cons, List.length_append, ih, List.length_map, List.length_cons, Nat.succ_mul]; omega
theorem rows0 {T : Str → Nat → List Tm} : ∀ {fs : List Str}, (rowsF T fs 0).length ≤ 1
  | [] => by simp [rowsF]
  | f :: fs => by simp [rowsF]
theorem rows1 {T : Str → Nat → List Tm} (h1 : ∀ f, (T f 1).length ≤ 3) : ∀ {fs : List Str}, (rowsF T fs 1).length ≤ 3
  | [] => by simp [rowsF]
  | f :: fs => by
    have e : rowsF T (f :: fs) 1 = (T f 1).flatMap fun v => (rowsF T fs 0).map (v :: ·) := by rw [rowsF]; simp [List.range_succ]
    rw [e, prod_len]
    have := Nat.mul_le_mul (h1 f) (rows0 (T := T) (fs := fs))
    omega
theorem rows2 {T : Str → Nat → List Tm} (h1 : ∀ f, (T f 1).length ≤ 3) (h2 : ∀ f, (T f 2).length ≤ 9) : ∀ {fs : List Str}, (rowsF T fs 2).length ≤ 18
  | [] => by simp [rowsF]
  | f :: fs => by
    have e : rowsF T (f :: fs) 2 = ((T f 1).flatMap fun v => (rowsF T fs 1).map (v :: ·)) ++ (T f 2).flatMap fun v => (rowsF T fs 0).map (v :: ·) := by rw [rowsF]; simp [List.range_succ]
    rw [e, List.length_append, prod_len, prod_len]
    have a := Nat.mul_le_mul (h1 f) (rows1 h1 (fs := fs))
    have b := Nat.mul_le_mul (h2 f) (rows0 (T := T) (fs := fs))
    omega
theorem rows3 {T : Str → Nat → List Tm} (h1 : ∀ f, (T f 1).length ≤ 3) (h2 : ∀ f, (T f 2).length ≤ 9) (h3 : ∀ f, (T f 3).length ≤ 54) : ∀ {fs : List Str}, (rowsF T fs 3).length ≤ 135
  | [] => by simp [rowsF]
  | f :: fs => by
    have e : rowsF T (f :: fs) 3 = ((T f 1).flatMap fun v => (rowsF T fs 2).map (v :: ·)) ++ (((T f 2).flatMap fun v => (rowsF T fs 1).map (v :: ·)) ++ (T f 3).flatMap fun v => (rowsF T fs 0).map (v :: ·)) := by rw [rowsF]; simp [List.range_succ]
    rw [e, List.length_append, List.length_append, prod_len, prod_len, prod_len]
    have a := Nat.mul_le_mul (h1 f) (rows2 h1 h2 (fs := fs))
    have b := Nat.mul_le_mul (h2 f) (rows1 h1 (fs := fs))
    have c := Nat.mul_le_mul (h3 f) (rows0 (T := T) (fs := fs))
    omega
section
variable {ks : List Kd}
/-- at most three makers each -/
def M3 (ks : List Kd) : Prop := ∀ k ms, ks.lookup k = some ms → ms.length ≤ 3
theorem flat_len {α β : Type} {l : List α} {g : α → List β} {B : Nat} (h : ∀ a ∈ l, (g a).length ≤ B) : (l.flatMap g).length ≤ l.length * B := by
  induction l with
  | nil => simp
  | cons a l ih =>
    rw [List.flatMap_cons, List.length_append, List.length_cons, Nat.succ_mul]
    have := h a (by simp)
    have := ih fun b hb => h b (by simp [hb])
    omega
theorem TT_len (h : M3 ks) {k : Str} {n B : Nat} (hB : ∀ fs, (rowsF (TT ks) fs n).length ≤ B) : (TT ks k (n + 1)).length ≤ 3 * B := by
  rw [TT_succ]
  cases hl : ks.lookup k with
  | none => simp
  | some ms =>
    have := h k ms hl
    refine Nat.le_trans (flat_len (B := B) fun m _ => by rw [List.length_map]; exact hB _) (Nat.mul_le_mul_right _ this)
theorem TT1 (h : M3 ks) (k : Str) : (TT ks k 1).length ≤ 3 := TT_len h fun _ => rows0
theorem TT2 (h : M3 ks) (k : Str) : (TT ks k 2).length ≤ 9 := TT_len h fun _ => rows1 (TT1 h)
theorem TT3 (h : M3 ks) (k : Str) : (TT ks k 3).length ≤ 54 := TT_len h fun _ => rows2 (TT1 h) (TT2 h)
theorem TT4 (h : M3 ks) (k : Str) : (TT ks k 4).length ≤ 405 := TT_len h fun _ => rows3 (TT1 h) (TT2 h) (TT3 h)
theorem rows_len (h : M3 ks) {n : Nat} (hn : n ≤ 3) (fs : List Str) : (rowsF (TT ks) fs n).length ≤ 135 := by
  have h4 : n = 0 ∨ n = 1 ∨ n = 2 ∨ n = 3 := by omega
  rcases h4 with rfl | rfl | rfl | rfl
  · exact Nat.le_trans rows0 (by decide)
  · exact Nat.le_trans (rows1 (TT1 h)) (by decide)
  · exact Nat.le_trans (rows2 (TT1 h) (TT2 h)) (by decide)
  · exact rows3 (TT1 h) (TT2 h) (TT3 h)
/-! the table -/
def keyD (k : Str) (s : Nat) : D := .tup [.str k, .int (s : Nat)]
theorem key_ok {k : Str} {s : Nat} : okKey true (keyD k s) = true := rfl
theorem key_inj {k k' : Str} {s s' : Nat} (h : keyD k s = keyD k' s') : k = k' ∧ s = s' := by
  unfold keyD at h
  simp at h
  exact ⟨h.1, by omega⟩
def rowD (r : List Tm) : D := .tup (r.map tmD)
def TbOk (ks : List Kd) (gg : D → Option D) (n : Nat) : Prop := ∀ k ∈ ks.map (·.1), ∀ s, 1 ≤ s → s ≤ n → gg (keyD k s) = some (.lst ((TT ks k s).map tmD))
theorem range_split {α : Type} {g : Nat → List α} {n i : Nat} (h : i < n) : ∃ r, (List.range n).flatMap g = (List.range i).flatMap g ++ (g i ++ r) := by
  obtain ⟨m, rfl⟩ : ∃ m, n = i + 1 + m := ⟨n - (i + 1), by omega⟩
  rw [List.range_add, List.flatMap_append, List.range_succ, List.flatMap_append]
  exact ⟨((List.range m).map fun x => i + 1 + x).flatMap g, by simp⟩
theorem flat_split {α β : Type} {g : α → List β} {l : List α} {j : Nat} {a : α} (h : l[j]? = some a) : ∃ r, l.flatMap g = (l.take j).flatMap g ++ (g a ++ r) := by
  have hj := (List.getElem?_eq_some_iff.mp h)
  obtain ⟨hj, e⟩ := hj
  refine ⟨(l.drop (j + 1)).flatMap g, ?_⟩
  conv => lhs; rw [← List.take_append_drop j l, List.drop_eq_getElem_cons hj, e]
  rw [List.flatMap_append, List.flatMap_cons]
theorem rowsF_row {T : Str → Nat → List Tm} : ∀ {fs : List Str} {n : Nat} {r : List Tm}, r ∈ rowsF T fs n → r.length = fs.length
  | [], n, r, h => by
    rw [rowsF] at h
    split at h
    · simp at h; rw [h]; rfl
    · simp at h
  | f :: fs, n, r, h => by
    rw [rowsF] at h
    obtain ⟨i, _, h⟩ := List.mem_flatMap.mp h
    obtain ⟨v, _, h⟩ := List.mem_flatMap.mp h
    obtain ⟨r', h', rfl⟩ := List.mem_map.mp h
    rw [List.length_cons, List.length_cons, rowsF_row h']
noncomputable def rf_T1 (self : M EV) : MSt := (sSeq (sAsg 3 (mLst mNil)) (sSeq (sFor (mRg2 (M.pure (.val (.int 1))) (mOp2 addD (mVar 2) (M.pure (.val (.int 1))))) (gNm 4) (f_law_rows_from_L3 self)) (sRet (mVar 3))))
theorem rf_R {self : M EV} : f_law_rows_from self = (sSeq (sIf (mB (mOp2 eqD (mCallB bLenX (mCons (mVar 1) mNil)) (M.pure (.val (.int 0))))) (sRet (mIf (mB (mOp2 eqD (mVar 2) (M.pure (.val (.int 0))))) (mLst (mCons (mTup mNil) mNil)) (mLst mNil))) sNx) (rf_T1 self)) := rfl
theorem run_rf1 (h3 : M3 ks) {dk dv : List D} {N m : Nat} {gg : D → Option D} (hD : Dv true dk dv N gg) (hT : TbOk ks gg m) (hm : m ≤ 3) {self : M EV} {n : Nat} {f : Str} {fs : List Str} {total : Nat} (h : fs.length + 1 < n + 1) (hfl : fs.length + 1 ≤ 3) (ht : total ≤ m) (hfk : ∀ g ∈ f :: fs, g ∈ ks.map (·.1))
    (ih : ∀ (fs : List Str) (total : Nat), fs.length < n → fs.length ≤ 3 → total ≤ m → (∀ f ∈ fs, f ∈ ks.map (·.1)) → ∀ (Q : EV → MS → Prop) (E : EX → MS → Prop),
      Q (.new (.lst ((rowsF (TT ks) fs total).map rowD))) [.own true (.dic true dk dv), .unk, .unk] →
      Wp self [.own true (.dic true dk dv), .val (.tup (fs.map .str)), .val (.int (total : Nat))] Q E) {FD : D}
    (hFx : ixD FD (.int 0) = some (.val (.str f))) (hFs : slD FD (some 1) none = some (.val (.tup (fs.map .str)))) {QS : Fl → MS → Prop}
    (q : ∀ s4 s5 s6, QS (.rt (.bor 3)) [.own true (.dic true dk dv), .val FD, .val (.int (total : Nat)), .own false (.lst ((rowsF (TT ks) (f :: fs) total).map rowD)), s4, s5, s6, .unk]) :
    Wp (rf_T1 self) [.own true (.dic true dk dv), .val FD, .val (.int (total : Nat)), .unk, .unk, .unk, .unk, .unk] QS E := by
  unfold rf_T1
  have hR := rows_len h3 (show total ≤ 3 by omega) (f :: fs)
  rw [rowsF] at hR q
  have p2 : ((total : Int) + 1 - 1).toNat = total := by omega
  simp
  refine ⟨by omega, ?_⟩
  rw [p2, rgL_lo]
  refine loop_for (fun i ms => ∃ (s4 s5 s6 : SV), lo s4 = true ∧ lo s5 = true ∧ lo s6 = true ∧ ms = [.own true (.dic true dk dv), .val FD, .val (.int (total : Nat)), .own false (.lst (((List.range i).flatMap fun i => (TT ks f (i + 1)).flatMap fun v => (rowsF (TT ks) fs (total - (i + 1))).map (v :: ·)).map rowD)), s4, s5, s6, .unk]) _ ⟨.unk, .unk, .unk, rfl, rfl, rfl, rfl⟩ (fun i d ms hd hI => ?_) (fun ms hI => ?_)
  · obtain ⟨s4, s5, s6, h4, h5, h6, em⟩ := hI
    subst em
    rw [List.getElem?_map] at hd
    obtain ⟨i', hi', rfl⟩ := Option.map_eq_some_iff.mp hd
    have hi := (List.getElem?_eq_some_iff.mp hi').1
    simp at hi
    rw [List.getElem?_range hi] at hi'
    cases hi'
    obtain ⟨rr, hsp⟩ := range_split (g := fun i => (TT ks f (i + 1)).flatMap fun v => (rowsF (TT ks) fs (total - (i + 1))).map (v :: ·)) hi
    rw [hsp, List.length_append, List.length_append] at hR
    have esucc : ((List.range (i + 1)).flatMap fun i => (TT ks f (i + 1)).flatMap fun v => (rowsF (TT ks) fs (total - (i + 1))).map (v :: ·)) = ((List.range i).flatMap fun i => (TT ks f (i + 1)).flatMap fun v => (rowsF (TT ks) fs (total - (i + 1))).map (v :: ·)) ++ (TT ks f (i + 1)).flatMap fun v => (rowsF (TT ks) fs (total - (i + 1))).map (v :: ·) := by
      rw [List.range_succ, List.flatMap_append]; simp
    have etot : ((total : Int) - (1 + (i : Nat))) = ((total - (i + 1) : Nat) : Int) := by omega
    have ekey : D.tup [.str f, .int (1 + (i : Nat))] = keyD f (i + 1) := by unfold keyD; congr 3; congr 1; omega
    have hget := hD.get (q := keyD f (i + 1)) key_ok (hT f (hfk f (by simp)) (i + 1) (by omega) (by omega))
    simp [h4, f_law_rows_from_L3, hFs]
    rw [etot]
    refine ih fs (total - (i + 1)) (by omega) (by omega) (by omega) (fun g hg => hfk g (by simp [hg])) _ _ ?_
    generalize hF : ((List.range i).flatMap fun i => (TT ks f (i + 1)).flatMap fun v => (rowsF (TT ks) fs (total - (i + 1))).map (v :: ·)) = F at hR esucc ⊢
    generalize hB : rowsF (TT ks) fs (total - (i + 1)) = B at hR esucc ⊢
    by_cases cB : B = []
    · subst cB
      have ez : ((TT ks f (i + 1)).flatMap fun v => ([] : List (List Tm)).map (v :: ·)) = [] := by simp
      rw [ez, List.append_nil] at esucc
      simp [h5]
      exact inv_of ⟨.val (.int (1 + (i : Nat))), .val (.lst []), s6, rfl, rfl, h6, by rw [esucc]⟩
    · have cB2 : 0 < B.length := List.length_pos_iff.mpr cB
      simp [h5, cB2, cB, hFx, ekey, hget]
      refine loop_for (fun j ms => ∃ (s6 : SV), lo s6 = true ∧ ms = [.own true (.dic true dk dv), .val FD, .val (.int (total : Nat)), .own false (.lst ((F ++ ((TT ks f (i + 1)).take j).flatMap fun v => B.map (v :: ·)).map rowD)), .val (.int (1 + (i : Nat))), .val (.lst (B.map rowD)), s6, .unk]) _ ⟨s6, h6, by simp⟩ (fun j d ms hd hI => ?_) (fun ms hI => ?_)
      · obtain ⟨s6, h6, em⟩ := hI
        subst em
        rw [List.getElem?_map] at hd
        obtain ⟨v, hv, rfl⟩ := Option.map_eq_some_iff.mp hd
        obtain ⟨r2, hsp2⟩ := flat_split (g := fun v => B.map (v :: ·)) hv
        rw [hsp2, List.length_append, List.length_append, List.length_map] at hR
        simp [h6, f_law_rows_from_L2, f_law_rows_from_C1]
        refine run_compMI rowD (fun r => rowD (v :: r)) B [] (fun r hr => ?_) ?_
        · simp
          have hrl : r.length = fs.length := rowsF_row (by rw [hB]; exact hr)
          have e : addD (.tup [tmD v]) (rowD r) = some (.val (rowD (v :: r))) := by
            unfold rowD
            rw [addD_tup (by simp; omega)]; rfl
          simp [e]
        · simp
          rw [gExtend_lst (by simp; simp at hR; omega)]
          simp
          refine inv_of ⟨.val (tmD v), rfl, ?_⟩
          rw [List.take_add_one, hv, List.flatMap_append]
          simp
      · obtain ⟨s6, h6, em⟩ := hI
        subst em
        rw [List.length_map, List.take_length, ← esucc]
        rw [bjK_nx]
        exact inv_of ⟨_, _, s6, rfl, rfl, h6, rfl⟩
  · obtain ⟨s4, s5, s6, h4, h5, h6, em⟩ := hI
    subst em
    rw [List.length_map, List.length_range]
    simp
    exact q _ _ _
theorem run_rowsS (h3 : M3 ks) {dk dv : List D} {N m : Nat} {gg : D → Option D} (hD : Dv true dk dv N gg) (hT : TbOk ks gg m) (hm : m ≤ 3) {self : M EV} {n : Nat} {fs0 : List Str} {total : Nat} (h : fs0.length < n + 1) (hfl : fs0.length ≤ 3) (ht : total ≤ m) (hfk : ∀ f ∈ fs0, f ∈ ks.map (·.1))
    (ih : ∀ (fs : List Str) (total : Nat), fs.length < n → fs.length ≤ 3 → total ≤ m → (∀ f ∈ fs, f ∈ ks.map (·.1)) → ∀ (Q : EV → MS → Prop) (E : EX → MS → Prop),
      Q (.new (.lst ((rowsF (TT ks) fs total).map rowD))) [.own true (.dic true dk dv), .unk, .unk] →
      Wp self [.own true (.dic true dk dv), .val (.tup (fs.map .str)), .val (.int (total : Nat))] Q E)
    (q : Q (.new (.lst ((rowsF (TT ks) fs0 total).map rowD))) [.own true (.dic true dk dv), .unk, .unk]) :
    Wp (fmOf 8 (f_law_rows_from self)) [.own true (.dic true dk dv), .val (.tup (fs0.map .str)), .val (.int (total : Nat))] Q E := by
  rw [run_fm]
  refine ⟨rfl, ?_⟩
  by_cases c0 : fs0 = []
  · have hl0 : fs0.length = 0 := by rw [c0]; rfl
    have hr0 : rowsF (TT ks) fs0 total = if total = 0 then [[]] else [] := by rw [c0]; rfl
    rw [hr0] at q
    have hes : eqD (.int ((fs0.length : Nat) : Int)) (.int 0) = some (.val (.bl true)) := by rw [hl0]; rfl
    have hbl : bLenX [D.tup (fs0.map .str)] = some (.val (.int (fs0.length : Nat))) := by simp
    have hbo : ∀ (as : List SV) (s : SV) (ms : MS), outS (.val (.tup (fs0.map .str)) :: as) (s :: ms) = .unk :: outS as ms := fun _ _ _ => rfl
    generalize ((fs0.length : Nat) : Int) = ll at hes hbl
    generalize D.tup (fs0.map .str) = FD at hbl hbo ⊢
    rw [rf_R]
    generalize rf_T1 self = RR
    by_cases c : total = 0
    · have he : eqD (.int (total : Nat)) (.int 0) = some (.val (.bl true)) := by rw [c]; rfl
      rw [if_pos c] at q
      generalize (total : Int) = tt at he ⊢
      simp [hbl, hes, he, hbo]
      simpa [rowD] using q
    · have c' : ¬ ((total : Int) = 0) := by omega
      have he : eqD (.int (total : Nat)) (.int 0) = some (.val (.bl false)) := by rw [eqD_int, decide_eq_false c']
      rw [if_neg c] at q
      generalize (total : Int) = tt at he ⊢
      simp [hbl, hes, he, hbo]
      exact q
  obtain ⟨f, fs, rfl⟩ : ∃ f fs, fs0 = f :: fs := by
    cases fs0 with
    | nil => exact absurd rfl c0
    | cons f fs => exact ⟨f, fs, rfl⟩
  simp at hfl h
  have hFx : ixD (.tup ((f :: fs).map .str)) (.int 0) = some (.val (.str f)) := by simp
  have hFs : slD (.tup ((f :: fs).map .str)) (some 1) none = some (.val (.tup (fs.map .str))) := by simp
  have hFl : bLenX [D.tup ((f :: fs).map .str)] = some (.val (.int ((fs.length : Int) + 1))) := by simp
  have hFo : ∀ (as : List SV) (s : SV) (ms : MS), outS (.val (.tup ((f :: fs).map .str)) :: as) (s :: ms) = .unk :: outS as ms := fun _ _ _ => rfl
  generalize hFd : D.tup ((f :: fs).map .str) = FD at hFx hFs hFl hFo ⊢
  have p1 : ¬ ((fs.length : Int) + 1 = 0) := by omega
  have he : eqD (.int ((fs.length : Int) + 1)) (.int 0) = some (.val (.bl false)) := by rw [eqD_int, decide_eq_false p1]
  have T := fun (QS : Fl → MS → Prop) (E : EX → MS → Prop) => run_rf1 (QS := QS) (E := E) h3 hD hT hm (n := n) (by omega) (by omega) ht hfk ih hFx hFs
  generalize (fs.length : Int) + 1 = ll at hFl he
  rw [rf_R]
  generalize rf_T1 self = RR at T ⊢
  simp [hFl, he]
  refine T _ _ fun s4 s5 s6 => ?_
  simp [hFo]
  exact q
theorem run_rowsR (h3 : M3 ks) {dk dv : List D} {N m : Nat} {gg : D → Option D} (hD : Dv true dk dv N gg) (hT : TbOk ks gg m) (hm : m ≤ 3) : ∀ (n : Nat) (fs : List Str) (total : Nat), fs.length < n → fs.length ≤ 3 → total ≤ m → (∀ f ∈ fs, f ∈ ks.map (·.1)) → ∀ (Q : EV → MS → Prop) (E : EX → MS → Prop),
    Q (.new (.lst ((rowsF (TT ks) fs total).map rowD))) [.own true (.dic true dk dv), .unk, .unk] →
    Wp (recM 8 f_law_rows_from n) [.own true (.dic true dk dv), .val (.tup (fs.map .str)), .val (.int (total : Nat))] Q E := by
  intro n
  induction n with
  | zero => intro fs total h; omega
  | succ n ih =>
    intro fs total h hfl ht hfk Q E q
    rw [recM]
    exact run_rowsS h3 hD hT hm h hfl ht hfk ih q
end
end Fw
set_option linter.all false
set_option maxRecDepth 100000
set_option maxHeartbeats 2000000
/-! law_k06: matches as instances; values that two patterns share -/
namespace Fw
open PySem L2
mutual
/-- v is an instance of p, each variable seen alone -/
def inst : Tm → Tm → Prop
  | .v _, _ => True
  | .f g as, .f h bs => g = h ∧ insts as bs
  | .f _ _, .v _ => False
def insts : List Tm → List Tm → Prop
  | [], [] => True
  | a :: as, b :: bs => inst a b ∧ insts as bs
  | _, _ => False
end
theorem insts_len : ∀ {as bs : List Tm}, insts as bs → as.length = bs.length
  | [], [], _ => rfl
  | a :: as, b :: bs, h => by rw [insts] at h; rw [List.length_cons, List.length_cons, insts_len h.2]
  | [], b :: bs, h => by rw [insts] at h; exact h.elim; all_goals simp
  | a :: as, [], h => by rw [insts] at h; exact h.elim; all_goals simp
theorem insts_zip : ∀ {as bs : List Tm}, bs.length = as.length → ((∀ p ∈ as.zip bs, inst p.1 p.2) ↔ insts as bs)
  | [], [], _ => by simp [insts]
  | a :: as, b :: bs, h => by
    rw [insts, ← insts_zip (by simpa using h)]
    simp
  | [], b :: bs, h => by simp at h
  | a :: as, [], h => by simp at h
theorem mtc_inst : ∀ (n : Nat) (S : List (Tm × Tm)) (im im' : Im), mtc n S im = some im' → ∀ p ∈ S, inst p.1 p.2
  | n, [], im, im', h, p, hp => by simp at hp
  | 0, p :: S, im, im', h, _, _ => by rw [mtc] at h; cases h
  | n + 1, (.v x, t) :: S, im, im', h, p, hp => by
    rw [mtc] at h
    rcases List.mem_cons.mp hp with rfl | hp
    · rw [inst]; trivial
    · cases hl : im.lookup x with
      | some u =>
        rw [hl] at h
        simp only at h
        split at h
        · exact mtc_inst n S im im' h p hp
        · cases h
      | none =>
        rw [hl] at h
        exact mtc_inst n S _ im' h p hp
  | n + 1, (.f g as, .v y) :: S, im, im', h, p, hp => by rw [mtc] at h; cases h
  | n + 1, (.f g as, .f h' bs) :: S, im, im', h, p, hp => by
    rw [mtc] at h
    split at h
    · rename_i c
      have ih := mtc_inst n _ im im' h
      rcases List.mem_cons.mp hp with rfl | hp
      · show inst (.f g as) (.f h' bs)
        rw [inst]
        refine ⟨c.1.symm, (insts_zip c.2).mp fun q hq => ih q (List.mem_append_left _ (List.mem_reverse.mpr hq))⟩
      · exact ih p (List.mem_append_right _ hp)
    · cases h
/-- all variables of the patterns that wait -/
def svs (S : List (Tm × Tm)) : List Str := tvss (S.map (·.1))
theorem lookup_snoc_none {im : Im} {x y : Str} {t : Tm} (h : x ≠ y) (hn : im.lookup x = none) : (im ++ [(y, t)]).lookup x = none := by
  rw [List.lookup_append, hn]
  have : (x == y) = false := beq_eq_false_iff_ne.mpr h
  simp [List.lookup, this]
theorem tvss_perm {a b : List Tm} (h : a.Perm b) : (tvss a).Perm (tvss b) := by
  induction h with
  | nil => exact List.Perm.refl _
  | cons x _ ih => rw [tvss, tvss]; exact List.Perm.append_left _ ih
  | swap x y l =>
    rw [tvss, tvss, tvss, tvss, ← List.append_assoc, ← List.append_assoc]
    exact List.Perm.append_right _ List.perm_append_comm
  | trans _ _ h1 h2 => exact h1.trans h2
theorem inst_mtc : ∀ (n : Nat) (S : List (Tm × Tm)) (im : Im), psz S ≤ n → (svs S).Nodup → (∀ x ∈ svs S, im.lookup x = none) → (∀ p ∈ S, inst p.1 p.2) → ∃ im', mtc n S im = some im'
  | n, [], im, _, _, _, _ => ⟨im, by cases n <;> rfl⟩
  | 0, p :: S, im, hs, _, _, _ => by
    unfold psz at hs
    rw [List.map_cons, tszs] at hs
    have := tsz_pos p.1
    omega
  | n + 1, (.v x, t) :: S, im, hs, nd, hl, hi => by
    unfold psz at hs
    rw [List.map_cons, tszs, tsz] at hs
    unfold svs at nd hl
    rw [List.map_cons, tvss, tvs, List.singleton_append, List.nodup_cons] at nd
    rw [List.map_cons, tvss, tvs, List.singleton_append] at hl
    rw [mtc, hl x (by simp)]
    refine inst_mtc n S _ (by unfold psz; omega) nd.2 (fun y hy => ?_) fun p hp => hi p (by simp [hp])
    refine lookup_snoc_none (fun e => ?_) (hl y (by simp; exact .inr hy))
    subst e; exact nd.1 hy
  | n + 1, (.f g as, .v y) :: S, im, hs, nd, hl, hi => by
    have := hi _ List.mem_cons_self
    have : inst (.f g as) (.v y) := this
    rw [inst] at this; exact this.elim
  | n + 1, (.f g as, .f h bs) :: S, im, hs, nd, hl, hi => by
    have hy : inst (.f g as) (.f h bs) := hi _ List.mem_cons_self
    rw [inst] at hy
    obtain ⟨rfl, hz⟩ := hy
    have hlen := (insts_len hz).symm
    rw [mtc, if_pos ⟨rfl, hlen⟩]
    have hst := psz_step (g := g) (t := .f g bs) (S := S) hlen
    have hperm : (svs ((as.zip bs).reverse ++ S)).Perm (svs ((.f g as, .f g bs) :: S)) := by
      unfold svs
      rw [List.map_append, tvss_app, List.map_cons, tvss, tvs, List.map_reverse, zip_fst hlen]
      exact List.Perm.append_right _ (tvss_perm (List.reverse_perm as))
    refine inst_mtc n _ im (by omega) (hperm.nodup_iff.mpr nd) (fun x hx => hl x (hperm.mem_iff.mp hx)) fun p hp => ?_
    rcases List.mem_append.mp hp with e | e
    · exact (insts_zip hlen).mpr hz p (List.mem_reverse.mp e)
    · exact hi p (by simp [e])
theorem mrows1_inst {p v : Tm} {im : Im} (h : mrows [p] [v] = some im) : inst p v := by
  unfold mrows at h
  rw [if_pos (by rfl)] at h
  exact mtc_inst _ _ _ _ h (p, v) (by simp)
theorem inst_mrows1 {p v : Tm} (nd : (tvs p).Nodup) (h : inst p v) : ∃ im, mrows [p] [v] = some im := by
  unfold mrows
  rw [if_pos (by rfl)]
  refine inst_mtc _ _ _ (by simp [psz]) (by simpa [svs, tvss] using nd) (by simp) (by simpa using h)
mutual
theorem inst_meet : ∀ (p q v : Tm), inst p v → inst q v → meetT p q = true
  | .v x, q, v, _, _ => by rw [meetT]
  | .f g as, .v y, v, _, _ => by rw [meetT]
  | .f g as, .f h bs, .v y, h1, _ => by rw [inst] at h1; exact h1.elim
  | .f g as, .f h bs, .f k cs, h1, h2 => by
    rw [inst] at h1 h2
    rw [meetT, h1.1, h2.1, insts_meet as bs cs h1.2 h2.2]
    simp
theorem insts_meet : ∀ (as bs cs : List Tm), insts as cs → insts bs cs → meets as bs = true
  | [], bs, cs, _, _ => by rw [meets]; simp
  | a :: as, [], cs, _, _ => by rw [meets]; simp
  | a :: as, b :: bs, [], h1, _ => by rw [insts] at h1; exact h1.elim; all_goals simp
  | a :: as, b :: bs, c :: cs, h1, h2 => by
    rw [insts] at h1 h2
    rw [meets, inst_meet a b c h1.1 h2.1, insts_meet as bs cs h1.2 h2.2]
    rfl
end
/-! small patterns: a shared value -/
section
variable {ks : List Kd}
/-- each kind's constant -/
def CstOk (ks : List Kd) (c : Str → Str) : Prop := ∀ k ∈ ks.map (·.1), (c k, [], k) ∈ hds ks []
theorem cst_ex (W : Wld ks []) : ∃ c, CstOk ks c := by
  have : ∀ k, ∃ c, k ∈ ks.map (·.1) → (c, [], k) ∈ hds ks [] := by
    intro k
    by_cases h : k ∈ ks.map (·.1)
    · obtain ⟨ms, h1, h2⟩ := lookup_of_key h
      obtain ⟨m, m1, m2⟩ := W.cst _ h2
      refine ⟨m.1, fun _ => List.mem_append_left _ (List.mem_flatMap.mpr ⟨_, h2, List.mem_map.mpr ⟨m, m1, ?_⟩⟩)⟩
      rw [m2]
    · exact ⟨default, fun z => absurd z h⟩
  exact ⟨fun k => (this k).choose, fun k hk => (this k).choose_spec hk⟩
/-- a pattern of depth one is a variable or a constant -/
theorem flat1 {p : Tm} (h : tdp p ≤ 1) : (∃ x, p = .v x) ∨ ∃ c, p = .f c [] := by
  cases p with
  | v x => exact .inl ⟨x, rfl⟩
  | f c as =>
    right
    cases as with
    | nil => exact ⟨c, rfl⟩
    | cons a as =>
      rw [tdp, tdps] at h
      have := tdp_pos a
      omega
/-- constants of kinds -/
def Csts (ks : List Kd) : List Tm → List Str → Prop
  | [], fs => fs = []
  | v :: vs, fs => ∃ f r c, fs = f :: r ∧ v = .f c [] ∧ (c, [], f) ∈ hds ks [] ∧ Csts ks vs r
theorem share1 {c : Str → Str} (hc : CstOk ks c) : ∀ {as bs : List Tm} {fs : List Str}, Pws (hds ks []) as fs → Pws (hds ks []) bs fs → tdps as ≤ 1 → tdps bs ≤ 1 → (∀ f ∈ fs, f ∈ ks.map (·.1)) → meets as bs = true → ∃ vs, Csts ks vs fs ∧ insts as vs ∧ insts bs vs
  | [], bs, fs, ha, hb, _, _, _, _ => by
    rw [Pws] at ha; subst ha
    cases bs with
    | nil => exact ⟨[], by rw [Csts], by rw [insts]; trivial, by rw [insts]; trivial⟩
    | cons b bs => rw [Pws] at hb; obtain ⟨_, _, e, _⟩ := hb; cases e
  | a :: as, [], fs, ha, hb, _, _, _, _ => by
    rw [Pws] at hb; subst hb
    rw [Pws] at ha; obtain ⟨_, _, e, _⟩ := ha; cases e
  | a :: as, b :: bs, fs, ha, hb, da, db, hk, hm => by
    rw [Pws] at ha hb
    obtain ⟨f, r, rfl, a1, a2⟩ := ha
    obtain ⟨f', r', e, b1, b2⟩ := hb
    cases e
    rw [tdps] at da db
    rw [meets, Bool.and_eq_true] at hm
    obtain ⟨vs, h1, h2, h3⟩ := share1 hc a2 b2 (by omega) (by omega) (fun g hg => hk g (by simp [hg])) hm.2
    have hv : ∃ z, (z, [], f) ∈ hds ks [] ∧ inst a (.f z []) ∧ inst b (.f z []) := by
      rcases flat1 (p := a) (by omega) with ⟨x, rfl⟩ | ⟨x, rfl⟩ <;> rcases flat1 (p := b) (by omega) with ⟨y, rfl⟩ | ⟨y, rfl⟩
      · exact ⟨c f, hc f (hk f (by simp)), by rw [inst]; trivial, by rw [inst]; trivial⟩
      · rw [Pw] at b1
        obtain ⟨fs, b3, b4⟩ := b1
        rw [Pws] at b4; subst b4
        exact ⟨y, b3, by rw [inst]; trivial, by rw [inst, insts]; exact ⟨rfl, trivial⟩⟩
      · rw [Pw] at a1
        obtain ⟨fs, b3, b4⟩ := a1
        rw [Pws] at b4; subst b4
        exact ⟨x, b3, by rw [inst, insts]; exact ⟨rfl, trivial⟩, by rw [inst]; trivial⟩
      · have e := hm.1
        rw [meetT, Bool.and_eq_true] at e
        have e := eq_of_beq e.1
        subst e
        rw [Pw] at a1
        obtain ⟨fs, b3, b4⟩ := a1
        rw [Pws] at b4; subst b4
        exact ⟨x, b3, by rw [inst, insts]; exact ⟨rfl, trivial⟩, by rw [inst, insts]; exact ⟨rfl, trivial⟩⟩
    obtain ⟨z, z1, z2, z3⟩ := hv
    exact ⟨.f z [] :: vs, by rw [Csts]; exact ⟨f, r, z, rfl, rfl, z1, h1⟩, by rw [insts]; exact ⟨z2, h2⟩, by rw [insts]; exact ⟨z3, h3⟩⟩
theorem csts_any {c : Str → Str} (hc : CstOk ks c) : ∀ {as : List Tm} {fs : List Str}, Pws (hds ks []) as fs → tdps as ≤ 1 → (∀ f ∈ fs, f ∈ ks.map (·.1)) → ∃ vs, Csts ks vs fs ∧ insts as vs := by
  intro as fs ha da hk
  -- against variables
  have hb : Pws (hds ks []) (fs.map fun _ => Tm.v default) fs := by
    clear ha da hk
    induction fs with
    | nil => simp [Pws]
    | cons f fs ih => rw [List.map_cons, Pws]; exact ⟨f, fs, rfl, by rw [Pw]; trivial, ih⟩
  have hd : tdps (fs.map fun _ => Tm.v default) ≤ 1 := by
    clear ha da hk hb
    induction fs with
    | nil => simp [tdps]
    | cons f fs ih => rw [List.map_cons, tdps, tdp]; omega
  have hm : ∀ (as : List Tm) (fs : List Str), meets as (fs.map fun _ => Tm.v default) = true := by
    intro as
    induction as with
    | nil => intro fs; rw [meets]; simp
    | cons a as ih =>
      intro fs
      cases fs with
      | nil => rw [List.map_nil, meets]; simp
      | cons f fs =>
        rw [List.map_cons, meets, ih fs]
        cases a <;> rfl
  obtain ⟨vs, h1, h2, _⟩ := share1 hc ha hb da hd hk (hm as fs)
  exact ⟨vs, h1, h2⟩
end
end Fw
set_option linter.all false
set_option maxRecDepth 100000
set_option maxHeartbeats 2000000
/-! law_k06: what the lists hold -/
namespace Fw
open PySem L2
section
variable {ks : List Kd}
theorem TT_zero {k : Str} : TT ks k 0 = [] := rfl
theorem mem_rowsF {T : Str → Nat → List Tm} : ∀ {fs : List Str} {n : Nat} {r : List Tm}, r ∈ rowsF T fs n → ∀ t ∈ r, ∃ f i, i ≤ n ∧ t ∈ T f i
  | [], n, r, h, t, ht => by
    rw [rowsF] at h
    split at h
    · simp at h; subst h; simp at ht
    · simp at h
  | f :: fs, n, r, h, t, ht => by
    rw [rowsF] at h
    obtain ⟨i, hi, h⟩ := List.mem_flatMap.mp h
    obtain ⟨v, hv, h⟩ := List.mem_flatMap.mp h
    obtain ⟨r', h', rfl⟩ := List.mem_map.mp h
    have hi := List.mem_range.mp hi
    rcases List.mem_cons.mp ht with rfl | ht
    · exact ⟨f, i + 1, by omega, hv⟩
    · obtain ⟨g, j, hj, hg⟩ := mem_rowsF h' t ht
      exact ⟨g, j, by omega, hg⟩
theorem hds_of {k : Str} {ms : List Mk} (h : (k, ms) ∈ ks) {m : Mk} (hm : m ∈ ms) : (m.1, m.2, k) ∈ hds ks [] :=
  List.mem_append_left _ (List.mem_flatMap.mpr ⟨_, h, List.mem_map.mpr ⟨m, hm, rfl⟩⟩)
theorem of_hds {c k : Str} {fs : List Str} (h : (c, fs, k) ∈ hds ks []) : ∃ ms, (k, ms) ∈ ks ∧ (c, fs) ∈ ms := by
  unfold hds at h
  rw [List.map_nil, List.append_nil] at h
  obtain ⟨⟨k', ms⟩, h1, h2⟩ := List.mem_flatMap.mp h
  obtain ⟨m, h3, h4⟩ := List.mem_map.mp h2
  cases h4
  exact ⟨ms, h1, h3⟩
theorem TT_dp (hst : ∀ h ∈ hds ks [], stOk h.1 = true) : ∀ (s : Nat) (k : Str) (t : Tm), t ∈ TT ks k s → tdp t ≤ s ∧ tall stOk t = true
  | 0, k, t, h => by rw [TT_zero] at h; simp at h
  | n + 1, k, t, h => by
    have ih : ∀ i, i ≤ n → ∀ (k : Str) (t : Tm), t ∈ TT ks k i → tdp t ≤ i ∧ tall stOk t = true := fun i _ => TT_dp hst i
    rw [TT_succ] at h
    obtain ⟨m, hm, h⟩ := List.mem_flatMap.mp h
    obtain ⟨r, hr, rfl⟩ := List.mem_map.mp h
    cases hl : ks.lookup k with
    | none => rw [hl] at hm; simp at hm
    | some ms =>
      rw [hl] at hm
      have hh := hst _ (hds_of (lookup_mem hl) hm)
      have hr2 := mem_rowsF hr
      rw [tdp, tall, Bool.and_eq_true, talls_iff]
      refine ⟨?_, hh, fun t ht => ?_⟩
      · have := tdps_le (m := n) (as := r) fun t ht => by
          obtain ⟨f, i, hi, ht⟩ := hr2 t ht
          have := (ih i hi f t ht).1
          omega
        omega
      · obtain ⟨f, i, hi, ht⟩ := hr2 t ht
        exact (ih i hi f t ht).2
  termination_by s => s
theorem TT_const (nd : (ks.map (·.1)).Nodup) {c k : Str} (h : (c, [], k) ∈ hds ks []) : .f c [] ∈ TT ks k 1 := by
  obtain ⟨ms, h1, h2⟩ := of_hds h
  rw [TT_succ, lookup_of nd h1]
  exact List.mem_flatMap.mpr ⟨_, h2, List.mem_map.mpr ⟨[], by rw [rowsF]; simp, rfl⟩⟩
theorem rows_csts (nd : (ks.map (·.1)).Nodup) : ∀ {vs : List Tm} {fs : List Str}, Csts ks vs fs → vs ∈ rowsF (TT ks) fs fs.length
  | [], fs, h => by rw [Csts] at h; subst h; rw [rowsF]; simp
  | v :: vs, fs, h => by
    rw [Csts] at h
    obtain ⟨f, r, c, rfl, rfl, h1, h2⟩ := h
    rw [rowsF]
    refine List.mem_flatMap.mpr ⟨0, List.mem_range.mpr (by simp), List.mem_flatMap.mpr ⟨_, TT_const nd h1, List.mem_map.mpr ⟨vs, ?_, rfl⟩⟩⟩
    have := rows_csts nd h2
    simpa using this
theorem TT_flat (nd : (ks.map (·.1)).Nodup) {g k : Str} {fs : List Str} {cs : List Tm} (h : (g, fs, k) ∈ hds ks []) (hc : Csts ks cs fs) : .f g cs ∈ TT ks k (fs.length + 1) := by
  obtain ⟨ms, h1, h2⟩ := of_hds h
  rw [TT_succ, lookup_of nd h1]
  exact List.mem_flatMap.mpr ⟨_, h2, List.mem_map.mpr ⟨cs, rows_csts nd hc, rfl⟩⟩
/-- the plain law of small meets -/
theorem meet_value (W : Wld ks []) (nd : (ks.map (·.1)).Nodup) (ndh : ((hds ks []).map (·.1)).Nodup) {k : Str} {p q : Tm} (hk : k ∈ ks.map (·.1)) (hp : Pw (hds ks []) p k) (hq : Pw (hds ks []) q k) (dp : tdp p ≤ 2) (dq : tdp q ≤ 2) (np : (tvs p).Nodup) (nq : (tvs q).Nodup) (hm : meetT p q = true) :
    ∃ s, 1 ≤ s ∧ s ≤ 4 ∧ ∃ v ∈ TT ks k s, (∃ im, mrows [p] [v] = some im) ∧ ∃ im, mrows [q] [v] = some im := by
  suffices h : ∃ s, 1 ≤ s ∧ s ≤ 4 ∧ ∃ v ∈ TT ks k s, inst p v ∧ inst q v by
    obtain ⟨s, s1, s2, v, hv, h1, h2⟩ := h
    exact ⟨s, s1, s2, v, hv, inst_mrows1 np h1, inst_mrows1 nq h2⟩
  obtain ⟨c, hc⟩ := cst_ex W
  have fk : ∀ {g : Str} {fs : List Str}, (g, fs, k) ∈ hds ks [] → fs.length ≤ 3 ∧ ∀ f ∈ fs, f ∈ ks.map (·.1) := fun h => by
    obtain ⟨ms, h1, h2⟩ := of_hds h
    exact (W.nm _ h1).2 _ h2
  cases p with
  | v x =>
    cases q with
    | v y => exact ⟨1, by omega, by omega, _, TT_const nd (hc k hk), by rw [inst]; trivial, by rw [inst]; trivial⟩
    | f g bs =>
      rw [Pw] at hq
      obtain ⟨fs, h1, h2⟩ := hq
      obtain ⟨h3, h4⟩ := fk h1
      rw [tdp] at dq
      obtain ⟨vs, v1, v2⟩ := csts_any hc h2 (by omega) h4
      exact ⟨fs.length + 1, by omega, by omega, _, TT_flat nd h1 v1, by rw [inst]; trivial, by rw [inst]; exact ⟨rfl, v2⟩⟩
  | f g as =>
    rw [Pw] at hp
    obtain ⟨fs, h1, h2⟩ := hp
    obtain ⟨h3, h4⟩ := fk h1
    rw [tdp] at dp
    cases q with
    | v y =>
      obtain ⟨vs, v1, v2⟩ := csts_any hc h2 (by omega) h4
      exact ⟨fs.length + 1, by omega, by omega, _, TT_flat nd h1 v1, by rw [inst]; exact ⟨rfl, v2⟩, by rw [inst]; trivial⟩
    | f h bs =>
      rw [Pw] at hq
      obtain ⟨fs', h1', h2'⟩ := hq
      rw [tdp] at dq
      rw [meetT, Bool.and_eq_true] at hm
      have e := eq_of_beq hm.1
      subst e
      have := nd_unique ndh h1 h1'
      cases this
      obtain ⟨vs, v1, v2, v3⟩ := share1 hc h2 h2' (by omega) (by omega) h4 hm.2
      exact ⟨fs.length + 1, by omega, by omega, _, TT_flat nd h1 v1, by rw [inst]; exact ⟨rfl, v2⟩, by rw [inst]; exact ⟨rfl, v3⟩⟩
theorem value_meet {p q v : Tm} {im im' : Im} (h1 : mrows [p] [v] = some im) (h2 : mrows [q] [v] = some im') : meetT p q = true :=
  inst_meet p q v (mrows1_inst h1) (mrows1_inst h2)
end
end Fw
set_option linter.all false
set_option maxRecDepth 100000
set_option maxHeartbeats 2000000
/-! law_k06: the lists are built -/
namespace Fw
open PySem L2
variable {Q : EV → MS → Prop} {E : EX → MS → Prop}
section
variable {ks : List Kd}
theorem run_rows_from (h3 : M3 ks) {dk dv : List D} {N m : Nat} {gg : D → Option D} (hD : Dv true dk dv N gg) (hT : TbOk ks gg m) (hm : m ≤ 3) {fs : List Str} {total : Nat} (hfl : fs.length ≤ 3) (ht : total ≤ m) (hfk : ∀ f ∈ fs, f ∈ ks.map (·.1)) (q : Q (.new (.lst ((rowsF (TT ks) fs total).map rowD))) [.own true (.dic true dk dv), .unk, .unk]) :
    Wp fm_law_rows_from [.own true (.dic true dk dv), .val (.tup (fs.map .str)), .val (.int (total : Nat))] Q E :=
  run_rowsR h3 hD hT hm 60 fs total (by omega) hfl ht hfk Q E q
theorem run_lists3 (W : Wld ks []) (h3 : M3 ks) (nd : (ks.map (·.1)).Nodup) {dk dv : List D} {N n : Nat} {gg : D → Option D} (hD : Dv true dk dv N gg) (hN : N ≤ 1000) (hT : TbOk ks gg n) (hn : n ≤ 3) {k : Str} {ms : List Mk} (hk : (k, ms) ∈ ks) {s6 s7 s8 : SV} (h6 : lo s6 = true) (h7 : lo s7 = true) (h8 : lo s8 = true) {QS : Fl → MS → Prop}
    (q : ∀ dk' dv' gg' s6 s7 s8, Dv true dk' dv' (N + 1) gg' → (∀ k' s, (k' ≠ k ∨ s ≠ n + 1) → gg' (keyD k' s) = gg (keyD k' s)) → gg' (keyD k (n + 1)) = some (.lst ((TT ks k (n + 1)).map tmD)) → lo s6 = true → lo s7 = true → lo s8 = true →
      QS .nx [.val (kdsD ks), .val (.int 4), .own false (.dic true dk' dv'), .val (.int (1 + (n : Nat))), .val (.str k), .val (.tup (ms.map mkD)), s6, s7, s8, .unk]) :
    Wp f_law_lists_L3 [.val (kdsD ks), .val (.int 4), .own false (.dic true dk dv), .val (.int (1 + (n : Nat))), .val (.str k), .val (.tup (ms.map mkD)), s6, s7, s8, .unk] QS E := by
  unfold f_law_lists_L3
  have hlen : (TT ks k (n + 1)).length ≤ 405 := by
    have h4 : n = 0 ∨ n = 1 ∨ n = 2 ∨ n = 3 := by omega
    rcases h4 with rfl | rfl | rfl | rfl
    · exact Nat.le_trans (TT1 h3 k) (by decide)
    · exact Nat.le_trans (TT2 h3 k) (by decide)
    · exact Nat.le_trans (TT3 h3 k) (by decide)
    · exact TT4 h3 k
  have hTT : TT ks k (n + 1) = ms.flatMap fun m => (rowsF (TT ks) m.2 n).map fun r => .f m.1 r := by
    rw [TT_succ, lookup_of nd hk]; rfl
  have etot : (1 + (n : Int)) - 1 = ((n : Nat) : Int) := by omega
  have ekey : D.tup [.str k, .int (1 + (n : Nat))] = keyD k (n + 1) := by unfold keyD; congr 3; congr 1; omega
  simp [h6]
  refine loop_for (fun j st => ∃ (s7 s8 : SV), lo s7 = true ∧ lo s8 = true ∧ st = [.val (kdsD ks), .val (.int 4), .own false (.dic true dk dv), .val (.int (1 + (n : Nat))), .val (.str k), .val (.tup (ms.map mkD)), .own false (.lst (((ms.take j).flatMap fun m => (rowsF (TT ks) m.2 n).map fun r => Tm.f m.1 r).map tmD)), s7, s8, .unk]) _ ⟨s7, s8, h7, h8, by simp⟩ (fun j d st hd hI => ?_) (fun st hI => ?_)
  · obtain ⟨s7, s8, h7, h8, em⟩ := hI
    subst em
    rw [List.getElem?_map] at hd
    obtain ⟨m, hm, rfl⟩ := Option.map_eq_some_iff.mp hd
    obtain ⟨f3, fk⟩ := (W.nm _ hk).2 m (List.mem_of_getElem? hm)
    obtain ⟨r2, hsp⟩ := flat_split (g := fun m : Mk => (rowsF (TT ks) m.2 n).map fun r => Tm.f m.1 r) hm
    rw [hTT, hsp, List.length_append, List.length_append, List.length_map] at hlen
    simp [mkD, h7, h8, f_law_lists_L2, f_law_lists_C1]
    rw [etot]
    refine run_rows_from h3 hD hT hn f3 (Nat.le_refl _) fk ?_
    simp
    refine run_compMI rowD (fun r => tmD (.f m.1 r)) (rowsF (TT ks) m.2 n) [] (fun r hr => ?_) ?_
    · simp
      have hrl : r.length = m.2.length := rowsF_row hr
      have e : addD (.tup [.str m.1]) (rowD r) = some (.val (tmD (.f m.1 r))) := by
        unfold rowD
        rw [addD_tup (by simp; omega)]; simp
      simp [e]
    · simp
      rw [gExtend_lst (by simp; simp at hlen; omega)]
      simp
      refine inv_of ⟨.val (.str m.1), .val (.tup (m.2.map .str)), rfl, rfl, ?_⟩
      rw [List.take_add_one, hm, List.flatMap_append]
      simp
  · obtain ⟨s7, s8, h7, h8, em⟩ := hI
    subst em
    rw [List.length_map, List.take_length, ← hTT]
    obtain ⟨dk', dv', e1, hD'⟩ := hD.set (q := keyD k (n + 1)) (x := .lst ((TT ks k (n + 1)).map tmD)) key_ok (by omega)
    simp [ekey, e1]
    refine q dk' dv' _ _ _ _ hD' (fun k' s h => ?_) gPut_same rfl h7 h8
    refine gPut_ne fun z => ?_
    have := key_inj z
    rcases h with h | h
    · exact h this.1
    · exact h this.2
theorem run_lists (W : Wld ks []) (h3 : M3 ks) (nd : (ks.map (·.1)).Nodup) (q : ∀ dk dv gg N, Dv true dk dv N gg → TbOk ks gg 4 → Q (.new (.dic true dk dv)) [.unk, .unk]) :
    Wp fm_law_lists [.val (kdsD ks), .val (.int 4)] Q E := by
  unfold fm_law_lists
  rw [run_fm]
  refine ⟨rfl, ?_⟩
  have hnk := W.nk
  unfold f_law_lists
  simp
  rw [rgL_lo]
  refine loop_for (fun i st => ∃ (dk dv : List D) (gg : D → Option D) (N : Nat) (s3 s4 s5 s6 s7 s8 : SV), Dv true dk dv N gg ∧ N ≤ 10 * i ∧ TbOk ks gg i ∧ lo s3 = true ∧ lo s4 = true ∧ lo s5 = true ∧ lo s6 = true ∧ lo s7 = true ∧ lo s8 = true ∧ st = [.val (kdsD ks), .val (.int 4), .own false (.dic true dk dv), s3, s4, s5, s6, s7, s8, .unk]) _ ⟨[], [], fun _ => none, 0, .unk, .unk, .unk, .unk, .unk, .unk, Dv.nil, by omega, fun k _ s h1 h2 => by omega, rfl, rfl, rfl, rfl, rfl, rfl, rfl⟩ (fun i d st hd hI => ?_) (fun st hI => ?_)
  · obtain ⟨dk, dv, gg, N, s3, s4, s5, s6, s7, s8, hD, hN, hT, g3, g4, g5, g6, g7, g8, em⟩ := hI
    subst em
    rw [List.getElem?_map] at hd
    obtain ⟨i', hi', rfl⟩ := Option.map_eq_some_iff.mp hd
    have hi := (List.getElem?_eq_some_iff.mp hi').1
    simp at hi
    rw [List.getElem?_range hi] at hi'
    cases hi'
    simp [g3, f_law_lists_L4, kdsD]
    refine loop_for (fun j st => ∃ (dk dv : List D) (gg : D → Option D) (N : Nat) (s4 s5 s6 s7 s8 : SV), Dv true dk dv N gg ∧ N ≤ 10 * i + j ∧ TbOk ks gg i ∧ (∀ x ∈ ks.take j, gg (keyD x.1 (i + 1)) = some (.lst ((TT ks x.1 (i + 1)).map tmD))) ∧ lo s4 = true ∧ lo s5 = true ∧ lo s6 = true ∧ lo s7 = true ∧ lo s8 = true ∧ st = [.val (kdsD ks), .val (.int 4), .own false (.dic true dk dv), .val (.int (1 + (i : Nat))), s4, s5, s6, s7, s8, .unk]) _ ⟨dk, dv, gg, N, s4, s5, s6, s7, s8, hD, by omega, hT, by simp, g4, g5, g6, g7, g8, rfl⟩ (fun j d st hd hI => ?_) (fun st hI => ?_)
    · obtain ⟨dk, dv, gg, N, s4, s5, s6, s7, s8, hD, hN, hT, hd2, g4, g5, g6, g7, g8, em⟩ := hI
      subst em
      rw [List.getElem?_map] at hd
      obtain ⟨⟨k, ms⟩, hk, rfl⟩ := Option.map_eq_some_iff.mp hd
      have hj := (List.getElem?_eq_some_iff.mp hk).1
      have tk : ks.take (j + 1) = ks.take j ++ [(k, ms)] := by rw [List.take_add_one, hk]; rfl
      simp [kdD, g4, g5]
      refine run_lists3 W h3 nd hD (by omega) hT (by omega) (List.mem_of_getElem? hk) g6 g7 g8 fun dk' dv' gg' s6 s7 s8 hD' p1 p2 z6 z7 z8 => ?_
      simp
      refine inv_of ⟨dk', dv', gg', N + 1, _, _, s6, s7, s8, hD', by omega, fun k' hk' s hs1 hs2 => ?_, fun x hx => ?_, rfl, rfl, z6, z7, z8, rfl⟩
      · rw [p1 k' s (.inr (by omega))]
        exact hT k' hk' s hs1 hs2
      · by_cases c : x.1 = k
        · rw [c]; exact p2
        · rw [p1 x.1 (i + 1) (.inl c)]
          rw [tk] at hx
          rcases List.mem_append.mp hx with z | z
          · exact hd2 x z
          · simp at z; subst z; exact absurd rfl c
    · obtain ⟨dk, dv, gg, N, s4, s5, s6, s7, s8, hD, hN, hT, hd2, g4, g5, g6, g7, g8, em⟩ := hI
      subst em
      rw [List.length_map] at hN hd2
      rw [List.take_length] at hd2
      simp
      refine inv_of ⟨dk, dv, gg, N, _, s4, s5, s6, s7, s8, hD, by omega, fun k hk s h1 h2 => ?_, rfl, g4, g5, g6, g7, g8, rfl⟩
      by_cases c : s = i + 1
      · subst c
        obtain ⟨x, hx, rfl⟩ := List.mem_map.mp hk
        exact hd2 x hx
      · exact hT k hk s h1 (by omega)
  · obtain ⟨dk, dv, gg, N, s3, s4, s5, s6, s7, s8, hD, hN, hT, g3, g4, g5, g6, g7, g8, em⟩ := hI
    subst em
    rw [List.length_map, List.length_range] at hT
    simp
    exact q dk dv gg N hD hT
end
end Fw
set_option linter.all false
set_option maxRecDepth 100000
set_option maxHeartbeats 2000000
/-! law_k06: the law's own answer on meets -/
namespace Fw
open PySem L2
variable {Q : EV → MS → Prop} {E : EX → MS → Prop}
section
variable {ks : List Kd}
theorem run_meet (W : Wld ks []) (nd : (ks.map (·.1)).Nodup) (ndh : ((hds ks []).map (·.1)).Nodup) (hst : ∀ h ∈ hds ks [], stOk h.1 = true) {dk dv : List D} {N : Nat} {gg : D → Option D} (hD : Dv true dk dv N gg) (hT : TbOk ks gg 4) {k : Str} (hk : k ∈ ks.map (·.1)) {e : Nat} {dd : Int} (he : e = 1 ∨ e = 2) (hdd : dd = ((e + 1 : Nat) : Int)) {p q : Tm} (hp : PtG ks e k p) (hq : PtG ks e k q) (np : (tvs p).Nodup) (nq : (tvs q).Nodup) (qq : Q (.val (.bl (meetT p q))) [.unk, .unk, .unk, .unk, .unk]) :
    Wp fm_law_meet [.val (.dct true dk dv), .val (.str k), .val (tmD p), .val (tmD q), .val (.int dd)] Q E := by
  obtain ⟨p1, p2, p3, p4⟩ := hp
  obtain ⟨q1, q2, q3, q4⟩ := hq
  unfold fm_law_meet
  rw [run_fm]
  refine ⟨by cases p <;> cases q <;> rfl, ?_⟩
  have ho : ∀ (d : D) (as : List SV) (s : SV) (ms : MS), outS (.val d :: as) (s :: ms) = .unk :: outS as ms := fun _ _ _ _ => rfl
  unfold f_law_meet
  rcases he with rfl | rfl
  · have hd2 : ¬ (2 < dd) := by omega
    simp [hd2]
    refine loop_for (fun i ms => ∃ (s5 s6 : SV), lo s5 = true ∧ lo s6 = true ∧ (∀ s, 1 ≤ s → s ≤ i → ∀ v ∈ TT ks k s, ∀ im im', mrows [p] [v] = some im → mrows [q] [v] = some im' → False) ∧ ms = [.val (.dct true dk dv), .val (.str k), .val (tmD p), .val (tmD q), .val (.int dd), s5, s6]) _ ⟨.unk, .unk, rfl, rfl, fun s h1 h2 => by omega, rfl⟩ (fun i d ms hd hI => ?_) (fun ms hI => ?_)
    · obtain ⟨s5, s6, h5, h6, hno, em⟩ := hI
      subst em
      rw [rgL_lo, List.getElem?_map] at hd
      obtain ⟨i', hi', rfl⟩ := Option.map_eq_some_iff.mp hd
      have hi := (List.getElem?_eq_some_iff.mp hi').1
      simp at hi
      rw [List.getElem?_range hi] at hi'
      cases hi'
      have ekey : D.tup [.str k, .int (1 + (i : Nat))] = keyD k (i + 1) := by unfold keyD; congr 3; congr 1; omega
      have hget := hD.get (q := keyD k (i + 1)) key_ok (hT k hk (i + 1) (by omega) (by omega))
      simp [h5, f_law_meet_L2, ekey, hget]
      refine loop_for (fun j ms => ∃ (s6 : SV), lo s6 = true ∧ (∀ v ∈ (TT ks k (i + 1)).take j, ∀ im im', mrows [p] [v] = some im → mrows [q] [v] = some im' → False) ∧ ms = [.val (.dct true dk dv), .val (.str k), .val (tmD p), .val (tmD q), .val (.int dd), .val (.int (1 + (i : Nat))), s6]) _ ⟨s6, h6, by simp, rfl⟩ (fun j d ms hd hI => ?_) (fun ms hI => ?_)
      · obtain ⟨s6, h6, hn2, em⟩ := hI
        subst em
        rw [List.getElem?_map] at hd
        obtain ⟨v, hv, rfl⟩ := Option.map_eq_some_iff.mp hd
        have tk : (TT ks k (i + 1)).take (j + 1) = (TT ks k (i + 1)).take j ++ [v] := by rw [List.take_add_one, hv]; rfl
        have hg := TT_dp hst _ _ _ (List.mem_of_getElem? hv)
        have hg : Gd v := ⟨by omega, hg.2⟩
        have fin : (∀ im im', mrows [p] [v] = some im → mrows [q] [v] = some im' → False) → Inv (fun ms => ∃ (s6 : SV), lo s6 = true ∧ (∀ v ∈ (TT ks k (i + 1)).take (j + 1), ∀ im im', mrows [p] [v] = some im → mrows [q] [v] = some im' → False) ∧ ms = [.val (.dct true dk dv), .val (.str k), .val (tmD p), .val (tmD q), .val (.int dd), .val (.int (1 + (i : Nat))), s6]) [.val (.dct true dk dv), .val (.str k), .val (tmD p), .val (tmD q), .val (.int dd), .val (.int (1 + (i : Nat))), .val (tmD v)] := fun h => by
          refine inv_of ⟨_, rfl, fun w hw => ?_, rfl⟩
          rw [tk] at hw
          rcases List.mem_append.mp hw with z | z
          · exact hn2 w z
          · simp at z; subst z; exact h
        have vm := fun im im' => value_meet (p := p) (q := q) (v := v) (im := im) (im' := im')
        have i1 : isnotD .non .non = some (.val (.bl false)) := rfl
        have i2 : ∀ (o : OV), isnotD o.d .non = some (.val (.bl true)) := fun o => by cases o <;> rfl
        have i3 : ∀ im, isnotD (gD id tmD im) .non = some (.val (.bl true)) := fun _ => rfl
        simp [h6, f_law_meet_L1]
        refine run_lmatch (ps := [p]) (ts := [v]) (by simp [tszs]; omega) (by simpa using hg) (by simp) ?_
        have m2 := fun (Q : EV → MS → Prop) (E : EX → MS → Prop) => run_lmatch (Q := Q) (E := E) (ps := [q]) (ts := [v]) (by simp [tszs]; omega) (by simpa using hg) (by simp)
        generalize mrows [p] [v] = r1 at fin vm ⊢
        generalize mrows [q] [v] = r2 at fin vm m2 ⊢
        cases r1 with
        | none =>
          simp [imR, i1, i2, i3]
          exact fin fun im im' h => by cases h
        | some im =>
          simp [imR, i1, i2, i3]
          refine m2 _ _ ?_
          cases r2 with
          | none =>
            simp [imR, i1, i2, i3]
            exact fin fun im im' _ h => by cases h
          | some im' =>
            have := vm im im' rfl rfl
            rw [this] at qq
            simp [imR, ho, i1, i2, i3]
            exact qq
      · obtain ⟨s6, h6, hn2, em⟩ := hI
        subst em
        rw [List.length_map, List.take_length] at hn2
        simp
        refine inv_of ⟨_, s6, rfl, h6, fun s h1 h2 => ?_, rfl⟩
        by_cases c : s = i + 1
        · subst c; exact hn2
        · exact hno s h1 (by omega)
    · obtain ⟨s5, s6, h5, h6, hno, em⟩ := hI
      subst em
      have hm : meetT p q = false := by
        cases h : meetT p q with
        | false => rfl
        | true =>
          obtain ⟨s, a, b, v, hv, ⟨im, m1⟩, ⟨im', m2⟩⟩ := meet_value W nd ndh hk p1 q1 p2 q2 np nq h
          exact (hno s a (by rw [rgL_lo]; simpa using b) v hv im im' m1 m2).elim
      rw [hm] at qq
      simp [ho]
      exact qq
  · have hd2 : 2 < dd := by omega
    simp [hd2]
    refine run_clash (by omega) (by omega) (by omega) (by omega) ?_
    simp [ho]
    exact qq
end
end Fw
set_option linter.all false
set_option maxRecDepth 100000
set_option maxHeartbeats 2000000
/-! law_k06: questions about meets, part one -/
namespace Fw
open PySem L2
variable {Q : EV → MS → Prop} {E : EX → MS → Prop}
noncomputable def am_T8 : MSt := (sSeq (sAsg 13 (mCallB bAll (mCons f_law_ask_meet_C14 mNil))) (sSeq (sAsg 14 (mFz (mCallF [false, false] fm_patterns_meet (mCons (mCallB bTuple (mCons (mVar 7) mNil)) (mCons (mCallB bTuple (mCons (mVar 9) mNil)) mNil))))) (sSeq (sAsg 15 (mFz (mCallF [false, false] fm_patterns_meet (mCons (mCallB bTuple (mCons (mVar 9) mNil)) (mCons (mCallB bTuple (mCons (mVar 7) mNil)) mNil))))) (sRet (mAnd (mCallB bIsIX (mCons (mVar 14) (mCons (M.pure (.val (.ty "bool"))) mNil))) (mAnd (mOp2 eqD (mVar 14) (mVar 13)) (mAnd (mCallB bIsIX (mCons (mVar 15) (mCons (M.pure (.val (.ty "bool"))) mNil))) (mOp2 eqD (mVar 15) (mVar 13)))))))))
noncomputable def am_T7 : MSt := (sSeq (sAsg 12 (mFz (mCallF [false, false] fm_law_lists (mCons (mVar 1) (mCons (M.pure (.val (.int 4))) mNil))))) am_T8)
noncomputable def am_T6 : MSt := (sSeq (sIf (mAndT (mB (mOp2 eqD (mCallF [true, false] fm_law_draw (mCons (mVar 0) (mCons (M.pure (.val (.int 2))) mNil))) (M.pure (.val (.int 0))))) (mB (mOp2 (intOp iGt) (mCallB bLenX (mCons (mVar 3) mNil)) (M.pure (.val (.int 0)))))) (sSeq (sAsg 10 (mFz (mCallF [true, false] fm_law_draw (mCons (mVar 0) (mCons (mCallB bLenX (mCons (mVar 3) mNil)) mNil))))) (sSeq (sAsg 11 (mCallB bListX (mCons (mVar 7) mNil))) (sSeq (sSetI setO 11 (mVar 10) (mCallX 4 [true, false, false, false, true] fm_law_pattern (mCons (mVar 0) (mCons (mVar 1) (mCons (mOp2 ixD (mVar 3) (mVar 10)) (mCons (mVar 5) (mCons f_law_ask_meet_C12 mNil))))))) (sAsg 9 (mFz (mVar 11)))))) sNx) am_T7)
noncomputable def am_T4 : MSt := (sSeq (sAsg 6 f_law_ask_meet_C8) (sSeq (sAsg 9 (mFz f_law_ask_meet_C10)) am_T6))
noncomputable def am_T2 : MSt := (sSeq (sAsg 6 f_law_ask_meet_C4) (sSeq (sAsg 7 (mFz f_law_ask_meet_C6)) am_T4))
theorem am_R : f_law_ask_meet = (sSeq (sAsg 3 (mFz f_law_ask_meet_C2)) (sSeq (sAsg 5 (mFz (mOp2 addD (M.pure (.val (.int 2))) (mCallF [true, false] fm_law_draw (mCons (mVar 0) (mCons (M.pure (.val (.int 2))) mNil)))))) am_T2)) := rfl
theorem am_C8 : f_law_ask_meet_C8 = f_law_ask_meet_C4 := rfl
theorem am_C10 : f_law_ask_meet_C10 = f_law_ask_meet_C6 := rfl
def spN (z : Str) (n : Nat) : List Str := (List.range n).map fun i => z ++ istr (i : Nat)
theorem spN_inj {z : Str} {i j : Nat} (hi : i < 100) (hj : j < 100) (h : z ++ istr (i : Nat) = z ++ istr (j : Nat)) : i = j := by
  refine istr_inj hi hj ?_
  have e : (z ++ istr (i : Nat)).cps.toList = (z ++ istr (j : Nat)).cps.toList := by rw [h]
  rw [app_cps, app_cps] at e
  have := List.append_cancel_left e
  generalize istr (i : Nat) = a at this
  generalize istr (j : Nat) = b at this
  cases a; cases b
  simpa using this
theorem spN_len {z : Str} {n : Nat} : (spN z n).length = n := by unfold spN; simp
theorem spN_nd {z : Str} : ∀ {n : Nat}, n ≤ 100 → (spN z n).Nodup
  | 0, _ => List.nodup_nil
  | n + 1, h => by
    have ih := spN_nd (z := z) (n := n) (by omega)
    have e : spN z (n + 1) = spN z n ++ [z ++ istr (n : Nat)] := by unfold spN; rw [List.range_succ, List.map_append]; rfl
    rw [e, List.nodup_append]
    refine ⟨ih, by simp, fun a ha b hb hab => ?_⟩
    simp at hb
    subst hb
    subst hab
    unfold spN at ha
    obtain ⟨i, hi, he⟩ := List.mem_map.mp ha
    have hi := List.mem_range.mp hi
    have := spN_inj (by omega) (by omega) he
    omega
theorem vW_len : (Str.ofString "v").length ≤ 1000 ∧ (Str.ofString "w").length ≤ 1000 := by decide +kernel
section
variable {ks : List Kd} {o : OV} {QS : Fl → MS → Prop}
theorem run_spare {z : Str} (hz : z.length ≤ 1000) {n : Nat} (hn : n ≤ 100) {s0 s1 s2 s3 s5 s6 s7 s8 s9 s10 s11 s12 s13 s14 s15 : SV}
    (q : Q (.new (.lst ((spN z n).map .str))) [s0, s1, s2, s3, .unk, s5, s6, s7, s8, s9, s10, s11, s12, s13, s14, s15]) :
    Wp (mComp (mRg1 (M.pure (.val (.int (n : Nat))))) [4] (gNm 4) (M.pure true) (mOp2 addD (M.pure (.val (.str z))) (mCallB bStr (mCons (mVar 4) mNil)))) [s0, s1, s2, s3, .unk, s5, s6, s7, s8, s9, s10, s11, s12, s13, s14, s15] Q E := by
  have hn0 : ((n : Int)).toNat = n := by omega
  simp
  refine ⟨by omega, ?_⟩
  rw [rgL_lo]
  refine run_compMI (fun i : Nat => D.int (0 + (i : Nat))) (fun i => D.str (z ++ istr (i : Nat))) (List.range n) [] (fun i hi => ?_) ?_
  · have hi := List.mem_range.mp hi
    have b1 : bStr [.int (i : Nat)] = some (.val (.str (istr (i : Nat)))) := bStr_nat (by omega)
    have b2 := addD_istr (z := z) (k := i) (by omega) hz
    generalize istr (i : Nat) = W1 at b1 b2
    simp [b1, b2]
  · simp [spN] at q ⊢
    exact q
/-- patterns of the kinds -/
def PsG (ks : List Kd) (e : Nat) (ts : List Str) (ps : List Tm) : Prop := ps.length = ts.length ∧ ∀ (i : Nat) k p, ts[i]? = some k → ps[i]? = some p → PtG ks e k p ∧ (tvs p).Nodup
theorem run_am_C6 (W : Wld ks []) (ho : DS o) {e : Nat} (he : e ≤ 2) {dd : Int} (hdd : dd = ((e + 1 : Nat) : Int)) {ts : List Str} (hts : ∀ k ∈ ts, k ∈ ks.map (·.1)) (hl : ts.length ≤ 6) {sp : List Str} (hsp : ts.length * 3 ^ e ≤ sp.length) (nd : sp.Nodup) {d2 : D} {s7 s9 : SV}
    (q : ∀ (ps : List Tm) (sp' : List Str) (o' : OV), DS o' → PsG ks e ts ps → Q (.new (.lst (ps.map tmD))) [.own true o', .val (kdsD ks), .val d2, .val (.lst (ts.map .str)), .unk, .val (.int dd), .own false (.lst (sp'.map .str)), s7, .unk, s9, .unk, .unk, .unk, .unk, .unk, .unk]) :
    Wp f_law_ask_meet_C6 [.own true o, .val (kdsD ks), .val d2, .val (.lst (ts.map .str)), .unk, .val (.int dd), .own false (.lst (sp.map .str)), s7, .unk, s9, .unk, .unk, .unk, .unk, .unk, .unk] Q E := by
  unfold f_law_ask_meet_C6
  simp
  refine loop_comp (fun i acc ms => ∃ (ps : List Tm) (sp' : List Str) (o' : OV), DS o' ∧ acc = ps.map tmD ∧ ps.length = i ∧ (∀ (j : Nat) k p, ts[j]? = some k → ps[j]? = some p → PtG ks e k p ∧ (tvs p).Nodup) ∧ sp'.Nodup ∧ ts.length * 3 ^ e ≤ sp'.length + i * 3 ^ e ∧
    ms = [.own true o', .val (kdsD ks), .val d2, .val (.lst (ts.map .str)), .unk, .val (.int dd), .own false (.lst (sp'.map .str)), s7, .unk, s9, .unk, .unk, .unk, .unk, .unk, .unk]) _ [] ⟨[], sp, o, ho, rfl, rfl, by simp, nd, by omega, rfl⟩ (fun i d acc ms' hd' hI => ?_) (fun acc ms' hI => ?_)
  · obtain ⟨ps, sp', o', h', rfl, hpl, hps, nd', hsp', em⟩ := hI
    subst em
    rw [List.getElem?_map] at hd'
    obtain ⟨k, hk, rfl⟩ := Option.map_eq_some_iff.mp hd'
    have hi := (List.getElem?_eq_some_iff.mp hk).1
    have hmul : (i + 1) * 3 ^ e ≤ ts.length * 3 ^ e := Nat.mul_le_mul_right _ (by omega)
    rw [Nat.succ_mul] at hmul
    simp [f_law_ask_meet_E5]
    refine run_pattern W (by omega) hdd (hts k (List.mem_of_getElem? hk)) (by omega) h' fun t sp2 o2 h2 hg hp => ?_
    have hlen := hp.length_eq
    rw [List.length_append] at hlen
    have ndp := hp.nodup_iff.mpr nd'
    rw [List.nodup_append] at ndp
    have h4 := hg.2.2.2
    simp
    refine inv_of ⟨ps ++ [t], sp2, o2, h2, by simp, by simp [hpl], fun j k' p hj hp => ?_, ndp.2.1, by rw [Nat.succ_mul]; omega, by simp⟩
    rcases Nat.lt_trichotomy j ps.length with c | c | c
    · rw [List.getElem?_append_left c] at hp
      exact hps j k' p hj hp
    · subst c
      rw [hpl] at hj
      rw [hk] at hj; cases hj
      simp at hp; subst hp
      exact ⟨hg, ndp.1⟩
    · rw [List.getElem?_eq_none (by simp; omega)] at hp; cases hp
  · obtain ⟨ps, sp', o', h', rfl, hpl, hps, nd', hsp', em⟩ := hI
    subst em
    rw [List.length_map] at hpl
    simp
    have := q ps sp' o' h' ⟨hpl, hps⟩
    simpa [kdsD] using this
end
end Fw
set_option linter.all false
set_option maxRecDepth 100000
set_option maxHeartbeats 2000000
/-! law_k06: questions about meets, part two -/
namespace Fw
open PySem L2
variable {Q : EV → MS → Prop} {E : EX → MS → Prop}
theorem blsD_mapM {α : Type} {f : α → Bool} : ∀ {l : List α}, blsD (l.map fun x => D.bl (f x)) = some (l.map f)
  | [] => rfl
  | x :: l => by rw [List.map_cons, blsD, blsD_mapM]; rfl
theorem bAll_mapM {α : Type} {f : α → Bool} {l : List α} : bAll [.lst (l.map fun x => D.bl (f x))] = some (.val (.bl (l.all f))) := by
  show (blsD _).map _ = _
  rw [blsD_mapM]; simp [List.all_map, Function.comp_def]
theorem zip_range {ps qs : List Tm} (h : qs.length = ps.length) : ((ps.zip qs).all fun p => meetT p.1 p.2) = (List.range ps.length).all fun i => meetT (ps[i]?.getD (.v default)) (qs[i]?.getD (.v default)) := by
  induction ps generalizing qs with
  | nil => simp
  | cons a ps ih =>
    cases qs with
    | nil => simp at h
    | cons b qs =>
      rw [List.zip_cons_cons, List.all_cons, ih (by simpa using h), List.length_cons, List.range_succ_eq_map, List.all_cons, List.all_map]
      rfl
theorem zip_swap {ps qs : List Tm} : ((qs.zip ps).all fun p => meetT p.1 p.2) = (ps.zip qs).all fun p => meetT p.1 p.2 := by
  induction ps generalizing qs with
  | nil => simp
  | cons a ps ih =>
    cases qs with
    | nil => simp
    | cons b qs => rw [List.zip_cons_cons, List.zip_cons_cons, List.all_cons, List.all_cons, ih, meet_comm]
section
variable {ks : List Kd} {o : OV} {QS : Fl → MS → Prop}
theorem PsG.szs {e : Nat} (he : e ≤ 2) {ts : List Str} {ps : List Tm} (h : PsG ks e ts ps) (hl : ts.length ≤ 6) : tszs ps ≤ 900 := by
  have h4 : ∀ p ∈ ps, tsz p ≤ 16 := fun p hp => by
    obtain ⟨i, hi⟩ := List.mem_iff_getElem?.mp hp
    have hil := (List.getElem?_eq_some_iff.mp hi).1
    have hn := h.1
    have hit : i < ts.length := by omega
    have := (h.2 i ts[i] p (List.getElem?_eq_getElem _) hi).1.2.2.1
    have : 4 ^ e ≤ 4 ^ 2 := Nat.pow_le_pow_right (by omega) he
    omega
  have hn := h.1
  have go : ∀ (l : List Tm), (∀ p ∈ l, tsz p ≤ 16) → tszs l ≤ 16 * l.length := by
    intro l
    induction l with
    | nil => intro _; simp [tszs]
    | cons a l ih =>
      intro h
      have := ih fun p hp => h p (by simp [hp])
      have := h a (by simp)
      rw [tszs, List.length_cons]; omega
  have := go ps h4
  omega
theorem PsG.pw {e : Nat} {ts : List Str} {ps qs : List Tm} (h : PsG ks e ts ps) (h' : PsG ks e ts qs) : ∀ p ∈ ps.zip qs, PwP (hds ks []) p := by
  intro p hp
  obtain ⟨i, hi⟩ := List.mem_iff_getElem?.mp hp
  rw [List.getElem?_zip_eq_some] at hi
  have hil := (List.getElem?_eq_some_iff.mp hi.1).1
  have hit : i < ts.length := by have := h.1; omega
  exact ⟨ts[i], (h.2 i _ _ (List.getElem?_eq_getElem hit) hi.1).1.1, (h'.2 i _ _ (List.getElem?_eq_getElem hit) hi.2).1.1⟩
theorem PsG.set {e : Nat} {ts : List Str} {ps : List Tm} (h : PsG ks e ts ps) {r : Nat} {k : Str} {t : Tm} (hk : ts[r]? = some k) (ht : PtG ks e k t) (nt : (tvs t).Nodup) : PsG ks e ts (ps.set r t) := by
  refine ⟨by rw [List.length_set]; exact h.1, fun i k' p hi hp => ?_⟩
  rw [List.getElem?_set] at hp
  split at hp
  · rename_i c
    subst c
    split at hp
    · cases hp
      rw [hk] at hi; cases hi
      exact ⟨ht, nt⟩
    · cases hp
  · exact h.2 i k' p hi hp
theorem run_am8 (W : Wld ks []) (nd : (ks.map (·.1)).Nodup) (ndh : ((hds ks []).map (·.1)).Nodup) (hst : ∀ h ∈ hds ks [], stOk h.1 = true) {dk dv : List D} {N : Nat} {gg : D → Option D} (hD : Dv true dk dv N gg) (hT : TbOk ks gg 4) {e : Nat} (he : e = 1 ∨ e = 2) {dd : Int} (hdd : dd = ((e + 1 : Nat) : Int)) {ts : List Str} (hts : ∀ k ∈ ts, k ∈ ks.map (·.1)) (hl : ts.length ≤ 6) {ps qs : List Tm} (hp : PsG ks e ts ps) (hq : PsG ks e ts qs) {d2 : D} {s6 s10 s11 : SV}
    (q : ∀ rest, QS (.rt (.val (.bl true))) (.own true o :: .val (kdsD ks) :: .val d2 :: rest)) :
    Wp am_T8 [.own true o, .val (kdsD ks), .val d2, .val (.lst (ts.map .str)), .unk, .val (.int dd), s6, .val (.lst (ps.map tmD)), .unk, .val (.lst (qs.map tmD)), s10, s11, .val (.dct true dk dv), .unk, .unk, .unk] QS E := by
  unfold am_T8 f_law_ask_meet_C14
  have hpl := hp.1
  have hql := hq.1
  simp
  refine ⟨by omega, ?_⟩
  rw [rgL_lo]
  refine run_compMI (fun i : Nat => D.int (0 + (i : Nat))) (fun i => D.bl (meetT (ps[i]?.getD (.v default)) (qs[i]?.getD (.v default)))) (List.range ts.length) [] (fun i hi => ?_) ?_
  · have hi := List.mem_range.mp hi
    have e1 : L2.atI (ts.map D.str) (i : Int) = some (.str ts[i]) := atI_nat' (by rw [List.getElem?_map, List.getElem?_eq_getElem hi]; rfl)
    have hip : i < ps.length := by omega
    have hiq : i < qs.length := by omega
    have e2 : L2.atI (ps.map tmD) (i : Int) = some (tmD ps[i]) := atI_nat' (by rw [List.getElem?_map, List.getElem?_eq_getElem hip]; rfl)
    have e3 : L2.atI (qs.map tmD) (i : Int) = some (tmD qs[i]) := atI_nat' (by rw [List.getElem?_map, List.getElem?_eq_getElem hiq]; rfl)
    have g1 : ps[i]?.getD (.v default) = ps[i] := by rw [List.getElem?_eq_getElem hip]; rfl
    have g2 : qs[i]?.getD (.v default) = qs[i] := by rw [List.getElem?_eq_getElem hiq]; rfl
    obtain ⟨a1, a2⟩ := hp.2 i _ _ (List.getElem?_eq_getElem hi) (List.getElem?_eq_getElem hip)
    obtain ⟨b1, b2⟩ := hq.2 i _ _ (List.getElem?_eq_getElem hi) (List.getElem?_eq_getElem hiq)
    have hk := hts _ (List.getElem_mem hi)
    rw [g1, g2]
    generalize ts[i] = k at e1 a1 b1 hk
    generalize ps[i] = p at e2 a1 a2
    generalize qs[i] = r at e3 b1 b2
    simp [f_law_ask_meet_E13, e1, e2, e3]
    refine run_meet W nd ndh hst hD hT hk he hdd a1 b1 a2 b2 ?_
    simp
  · have hB := bAll_mapM (f := fun i => meetT (ps[i]?.getD (.v default)) (qs[i]?.getD (.v default))) (l := List.range ts.length)
    rw [← hpl, ← zip_range (by omega)] at hB
    rw [hpl] at hB
    simp only [List.nil_append]
    simp [hB]
    have pm := fun (Q : EV → MS → Prop) (E : EX → MS → Prop) => run_patterns_meet (Q := Q) (E := E) ndh (hp.szs (by omega) hl) (by omega) (hp.pw hq)
    have pm2 := fun (Q : EV → MS → Prop) (E : EX → MS → Prop) => run_patterns_meet (Q := Q) (E := E) ndh (hq.szs (by omega) hl) (by omega) (hq.pw hp)
    rw [zip_swap] at pm2
    refine pm _ _ ?_
    simp
    refine pm2 _ _ ?_
    simp
    exact q _
end
end Fw
set_option linter.all false
set_option maxRecDepth 100000
set_option maxHeartbeats 2000000
/-! law_k06: questions about meets, part three -/
namespace Fw
open PySem L2
variable {Q : EV → MS → Prop} {E : EX → MS → Prop}
/-- what the questions about meets need of the kinds -/
structure MeW (ks : List Kd) : Prop where
  w : Wld ks []
  m3 : M3 ks
  nd : (ks.map (·.1)).Nodup
  ndh : ((hds ks []).map (·.1)).Nodup
  st : ∀ h ∈ hds ks [], stOk h.1 = true
section
variable {ks : List Kd} {o : OV} {QS : Fl → MS → Prop} {fl ch tr : Str}
theorem run_am7 (W : MeW ks) {e : Nat} (he : e = 1 ∨ e = 2) {dd : Int} (hdd : dd = ((e + 1 : Nat) : Int)) {ts : List Str} (hts : ∀ k ∈ ts, k ∈ ks.map (·.1)) (hl : ts.length ≤ 6) {ps qs : List Tm} (hp : PsG ks e ts ps) (hq : PsG ks e ts qs) {d2 : D} {s6 s10 s11 : SV}
    (q : ∀ rest, QS (.rt (.val (.bl true))) (.own true o :: .val (kdsD ks) :: .val d2 :: rest)) :
    Wp am_T7 [.own true o, .val (kdsD ks), .val d2, .val (.lst (ts.map .str)), .unk, .val (.int dd), s6, .val (.lst (ps.map tmD)), .unk, .val (.lst (qs.map tmD)), s10, s11, .unk, .unk, .unk, .unk] QS E := by
  unfold am_T7
  simp
  refine run_lists W.w W.m3 W.nd fun dk dv gg N hD hT => ?_
  simp
  exact run_am8 W.w W.nd W.ndh W.st hD hT he hdd hts hl hp hq q
theorem run_am6 (W : MeW ks) (ho : DS o) {e : Nat} (he : e = 1 ∨ e = 2) {dd : Int} (hdd : dd = ((e + 1 : Nat) : Int)) {ts : List Str} (hts : ∀ k ∈ ts, k ∈ ks.map (·.1)) (hl : ts.length ≤ 6) {ps qs : List Tm} (hp : PsG ks e ts ps) (hq : PsG ks e ts qs) {d2 : D} {s6 : SV}
    (q : ∀ o' rest, DS o' → QS (.rt (.val (.bl true))) (.own true o' :: .val (kdsD ks) :: .val d2 :: rest)) :
    Wp am_T6 [.own true o, .val (kdsD ks), .val d2, .val (.lst (ts.map .str)), .unk, .val (.int dd), s6, .val (.lst (ps.map tmD)), .unk, .val (.lst (qs.map tmD)), .unk, .unk, .unk, .unk, .unk, .unk] QS E := by
  unfold am_T6
  simp
  refine run_draw ho (by decide) fun r o1 h1 r0 r1 => ?_
  have h30 : 3 ^ e ≤ (spN (Str.ofString "w") 30).length := by
    rw [spN_len]
    rcases he with rfl | rfl <;> decide
  have nd30 : (spN (Str.ofString "w") 30).Nodup := spN_nd (by decide)
  have hpl := hp.1
  have fin : ∀ (o1 : OV) (qs : List Tm) (s6 s10 s11 : SV), DS o1 → PsG ks e ts qs → Wp am_T7 [.own true o1, .val (kdsD ks), .val d2, .val (.lst (ts.map .str)), .unk, .val (.int dd), s6, .val (.lst (ps.map tmD)), .unk, .val (.lst (qs.map tmD)), s10, s11, .unk, .unk, .unk, .unk] QS E :=
    fun o1 qs s6 s10 s11 h1 hq => run_am7 W he hdd hts hl hp hq fun rest => q _ _ h1
  generalize am_T7 = RR at fin ⊢
  simp
  by_cases c : r = 0
  · subst c
    by_cases c2 : ts = []
    · simp [c2]
      have := fin o1 qs s6 .unk .unk h1 hq
      rw [c2] at this
      exact this
    · have c3 : 0 < ts.length := List.length_pos_iff.mpr c2
      simp [c2, c3]
      refine run_draw h1 (by omega) fun r2 o2 h2 q0 q1 => ?_
      have hr : r2.toNat < ts.length := by omega
      obtain ⟨m, rfl⟩ : ∃ m : Nat, r2 = (m : Nat) := ⟨r2.toNat, by omega⟩
      have hm : m < ts.length := by omega
      have e1 : L2.atI (ts.map D.str) (m : Int) = some (.str ts[m]) := atI_nat' (by rw [List.getElem?_map, List.getElem?_eq_getElem hm]; rfl)
      have e2 : L2.ixN ps.length (m : Int) = some m := ixN_nat (by omega)
      simp [e1]
      refine run_spare (z := Str.ofString "w") (n := 30) vW_len.2 (by decide) ?_
      have hk := hts _ (List.getElem_mem hm)
      have hg := fun t => hp.set (r := m) (k := ts[m]) (t := t) (List.getElem?_eq_getElem hm)
      generalize spN (Str.ofString "w") 30 = SP at h30 nd30 ⊢
      simp
      generalize ts[m] = k at e1 hk hg ⊢
      refine run_pattern W.w (by omega) hdd hk h30 h2 fun t sp2 o3 h3 hgt hperm => ?_
      have ndp := hperm.nodup_iff.mpr nd30
      rw [List.nodup_append] at ndp
      simp [e2]
      rw [← List.map_set]
      exact fin _ _ _ _ _ h3 (hg t hgt ndp.1)
  · simp [c]
    exact fin o1 qs s6 .unk .unk h1 hq
theorem run_am2 (W : MeW ks) (ho : DS o) {e : Nat} (he : e = 1 ∨ e = 2) {dd : Int} (hdd : dd = ((e + 1 : Nat) : Int)) {ts : List Str} (hts : ∀ k ∈ ts, k ∈ ks.map (·.1)) (hl : ts.length ≤ 6) {d2 : D}
    (q : ∀ o' rest, DS o' → QS (.rt (.val (.bl true))) (.own true o' :: .val (kdsD ks) :: .val d2 :: rest)) :
    Wp am_T2 [.own true o, .val (kdsD ks), .val d2, .val (.lst (ts.map .str)), .unk, .val (.int dd), .unk, .unk, .unk, .unk, .unk, .unk, .unk, .unk, .unk, .unk] QS E := by
  have h90 : ts.length * 3 ^ e ≤ (spN (Str.ofString "v") 90).length := by
    rw [spN_len]
    rcases he with rfl | rfl <;> omega
  have nd90 : (spN (Str.ofString "v") 90).Nodup := spN_nd (by decide)
  have sp := fun (s7 : SV) (o : OV) (s6 : SV) (Q : EV → MS → Prop) (E : EX → MS → Prop) (q : Q (.new (.lst ((spN (Str.ofString "v") 90).map .str))) [.own true o, .val (kdsD ks), .val d2, .val (.lst (ts.map .str)), .unk, .val (.int dd), s6, s7, .unk, .unk, .unk, .unk, .unk, .unk, .unk, .unk]) => (show Wp f_law_ask_meet_C4 [.own true o, .val (kdsD ks), .val d2, .val (.lst (ts.map .str)), .unk, .val (.int dd), s6, s7, .unk, .unk, .unk, .unk, .unk, .unk, .unk, .unk] Q E from run_spare (z := Str.ofString "v") (n := 90) vW_len.1 (by decide) q)
  unfold am_T2 am_T4
  rw [am_C8, am_C10]
  have c6 := fun (o : OV) (ho : DS o) (sp : List Str) (hsp : ts.length * 3 ^ e ≤ sp.length) (nd : sp.Nodup) (s7 s9 : SV) (Q : EV → MS → Prop) (E : EX → MS → Prop) => run_am_C6 (Q := Q) (E := E) W.w ho (by omega : e ≤ 2) hdd hts hl hsp nd (d2 := d2) (s7 := s7) (s9 := s9)
  generalize spN (Str.ofString "v") 90 = SP at h90 nd90 sp
  simp
  refine sp _ _ _ _ _ ?_
  simp
  refine c6 o ho SP h90 nd90 _ _ _ _ fun ps sp1 o1 h1 hp => ?_
  simp
  refine sp _ _ _ _ _ ?_
  simp
  refine c6 o1 h1 SP h90 nd90 _ _ _ _ fun qs sp2 o2 h2 hq => ?_
  simp
  exact run_am6 W h2 he hdd hts hl hp hq q
theorem run_ask_meet (W : MeW ks) (hk : ∀ x ∈ [fl, ch, tr], x ∈ ks.map (·.1)) (ho : DS o) (q : ∀ o', DS o' → Q (.val (.bl true)) [.own true o', .unk, .unk]) :
    Wp fm_law_ask_meet [.own true o, .val (kdsD ks), .val (slD3 fl ch tr)] Q E := by
  unfold fm_law_ask_meet
  rw [run_fm, am_R]
  refine ⟨rfl, ?_⟩
  unfold f_law_ask_meet_C2
  simp
  refine run_draw ho (by decide) fun r o1 h1 r0 r1 => ?_
  have hm : ∃ m : Nat, m ≤ 6 ∧ L2.atI [D.int 1, .int 2, .int 3, .int 0, .int 2, .int 1, .int 6] r = some (.int (m : Nat)) := by
    have h5 : r = 0 ∨ r = 1 ∨ r = 2 ∨ r = 3 ∨ r = 4 ∨ r = 5 ∨ r = 6 := by omega
    rcases h5 with rfl | rfl | rfl | rfl | rfl | rfl | rfl
    · exact ⟨1, by omega, rfl⟩
    · exact ⟨2, by omega, rfl⟩
    · exact ⟨3, by omega, rfl⟩
    · exact ⟨0, by omega, rfl⟩
    · exact ⟨2, by omega, rfl⟩
    · exact ⟨1, by omega, rfl⟩
    · exact ⟨6, by omega, rfl⟩
  obtain ⟨m, hm6, hm⟩ := hm
  simp
  refine opK_of hm ?_
  simp
  refine ⟨by omega, ?_⟩
  refine loop_comp (fun i acc ms => ∃ (ts : List Str) (o' : OV), DS o' ∧ acc = ts.map D.str ∧ ts.length = i ∧ (∀ k ∈ ts, k ∈ ks.map (·.1)) ∧ ms = [.own true o', .val (kdsD ks), .val (slD3 fl ch tr), .unk, .unk, .unk, .unk, .unk, .unk, .unk, .unk, .unk, .unk, .unk, .unk, .unk]) _ [] ⟨[], o1, h1, rfl, rfl, by simp, rfl⟩ (fun i d acc ms hd hI => ?_) (fun acc ms hI => ?_)
  · obtain ⟨ts, o', h', rfl, hl, hks, em⟩ := hI
    subst em
    obtain ⟨hi, rfl⟩ := rgL_get hd
    simp [f_law_ask_meet_E1]
    refine run_sortL hk h' fun k o2 hk2 h2 => ?_
    simp
    refine inv_of ⟨ts ++ [k], o2, h2, by simp, by simp [hl], fun x hx => ?_, rfl⟩
    rcases List.mem_append.mp hx with z | z
    · exact hks x z
    · simp at z; subst z; exact hk2
  · obtain ⟨ts, o', h', rfl, hl, hks, em⟩ := hI
    subst em
    rw [rgL_len] at hl
    simp
    refine run_draw h' (by decide) fun r2 o2 h2 q0 q1 => ?_
    simp
    refine run_am2 W h2 (e := (r2 + 1).toNat) (by omega) (by omega) hks (by omega) fun o3 rest h3 => ?_
    simp
    exact q _ h3
end
end Fw
set_option linter.all false
set_option maxRecDepth 100000
set_option maxHeartbeats 2000000
/-! law_k06: the law -/
namespace Fw
open PySem L2
variable {Q : EV → MS → Prop} {E : EX → MS → Prop}
noncomputable def la_T9 : MSt := (sSeq (sIf (mNotT (mTru (mCallF [false, false] fm_law_ask_match (mCons (mVar 10) (mCons (mVar 11) mNil))))) (sRet (M.pure (.val (.bl false)))) sNx) (sSeq (sFor (mRg1 (M.pure (.val (.int 2)))) (gNm 12) f_law_L1) (sRet (M.pure (.val (.bl true))))))
noncomputable def la_T7 : MSt := (sSeq (sIf (mNotT (mTru (mCallF [false, false] fm_law_ask_match (mCons (mVar 10) (mCons (mVar 11) mNil))))) (sRet (M.pure (.val (.bl false)))) sNx) (sSeq (sUnp (gTp 2 (gsCons (gNm 10) (gsCons (gNm 11) gsNil))) (mCallF [true, false] fm_law_large_rows (mCons (mVar 1) (mCons (mFz (mVar 3)) mNil)))) la_T9))
noncomputable def la_T5 : MSt := (sSeq (sAsg 9 (mTup (mCons (mVar 4) (mCons (mFz (mCallF [true, true, false] fm_law_drawn_heads (mCons (mVar 1) (mCons (mVar 2) (mCons (mVar 8) mNil))))) mNil)))) (sSeq (sUnp (gTp 2 (gsCons (gNm 10) (gsCons (gNm 11) gsNil))) (mCallF [true, false, false] fm_law_drawn_rows (mCons (mVar 1) (mCons (mVar 9) (mCons (mVar 8) mNil))))) la_T7))
noncomputable def la_T3 : MSt := (sSeq (sUnp (gTp 4 (gsCons (gNm 4) (gsCons (gNm 5) (gsCons (gNm 6) (gsCons (gNm 7) gsNil))))) (mCallF [true, true, true] fm_law_drawn_kinds (mCons (mVar 1) (mCons (mVar 2) (mCons (mVar 3) mNil))))) (sSeq (sAsg 8 (mFz (mLst (mCons (mVar 5) (mCons (mVar 6) (mCons (mVar 7) mNil)))))) la_T5))
theorem la_R : f_law = (sSeq (sAsg 1 (mCallF [false] fm_law_begin (mCons (mVar 0) mNil))) (sSeq (sAsg 2 (mCallF [true, false] fm_law_shuffled (mCons (mVar 1) (mCons (mFz (mCallF [] fm_law_small_names mNil)) mNil)))) (sSeq (sAsg 3 (mCallF [true, false] fm_law_shuffled (mCons (mVar 1) (mCons (mFz (mCallF [] fm_law_great_names mNil)) mNil)))) la_T3))) := rfl
section
variable {ks : List Kd} {o : OV} {QS : Fl → MS → Prop} {fl ch tr : Str} {gs gu : List Str}
theorem great_st {x : Str} (h : x ∈ greatN) : stOk x = true := by
  have g := greatN_ok
  rw [Bool.and_eq_true, Bool.and_eq_true, List.all_eq_true] at g
  have := g.1.2 x h
  rw [Bool.and_eq_true, Bool.and_eq_true] at this
  exact this.1.1
theorem small_st {x : Str} (h : x ∈ smallN) : stOk x = true := by
  have g := smallN_ok
  rw [Bool.and_eq_true, Bool.and_eq_true, List.all_eq_true] at g
  have := g.1.2 x h
  rw [Bool.and_eq_true, Bool.and_eq_true] at this
  exact this.1.1
theorem hds_hk : (hds ks []).map (·.1) = hk ks := by
  simp [hds, hk, List.map_flatMap, Function.comp_def]
theorem MeW.of (h : KS ks fl ch tr greatN gu) (nds : [fl, ch, tr].Nodup) : MeW ks where
  w := h.wld (fs := []) (by simp) (by simp)
  m3 := by
    intro k ms hl
    have hm := lookup_mem hl
    obtain ⟨fm, a, b, tm, tm0, hp, h1, h2, ht, htm, hg⟩ := h
    have htl := ht.length_eq
    have htl0 : tm0.length ≤ 3 := by
      obtain ⟨t0, t1, f1, _, rfl | ⟨t2, f2, _, rfl⟩⟩ := htm <;> simp
    have := hp.mem_iff.mp hm
    simp at this
    rcases this with ⟨_, rfl⟩ | ⟨_, rfl⟩ | ⟨_, rfl⟩
    · simpa using h2
    · simp
    · omega
  nd := h.kinds.nodup_iff.mpr nds
  ndh := by
    rw [hds_hk]
    have g := greatN_ok
    rw [Bool.and_eq_true, Bool.and_eq_true] at g
    have := h.heads.nodup_iff.mpr (by simpa using g.1.1)
    exact (List.nodup_append.mp this).1
  st := by
    intro x hx
    have : x.1 ∈ hk ks := by rw [← hds_hk]; exact List.mem_map.mpr ⟨x, hx, rfl⟩
    exact great_st (h.heads.mem_iff.mp (List.mem_append_left _ this))
theorem run_law {cells : List Int} {d : D} (hd : d = .lst (cells.map .int) ∨ d = .kls (cells.map .int)) (q : Q (.val (.bl true)) [.unk]) : Wp fm_law [.val d] Q E := by
  have s34 : smallN.length = 34 := by decide +kernel
  have g20 : greatN.length = 20 := by decide +kernel
  unfold fm_law
  rw [run_fm, la_R]
  refine ⟨by rcases hd with rfl | rfl <;> rfl, ?_⟩
  have ho : ∀ (as : List SV) (s : SV) (ms : MS), outS (.val d :: as) (s :: ms) = .unk :: outS as ms := fun _ _ _ => rfl
  have hs : smallN.length ≤ 100000 := by omega
  simp
  refine run_begin hd fun o1 h1 => ?_
  simp
  refine run_small_names ?_
  simp
  refine run_shuffled h1 (.inl rfl) (by simpa using hs) fun es o1 h1 hp1 => ?_
  obtain ⟨ns, hns, rfl⟩ := perm_map_inv hp1 _ rfl
  simp
  refine run_great_names ?_
  simp
  refine run_shuffled h1 (.inl rfl) (by rw [List.length_map]; omega) fun es o2 h2 hp2 => ?_
  obtain ⟨gs, hgs, rfl⟩ := perm_map_inv hp2 _ rfl
  have ln := hns.length_eq
  have lg := hgs.length_eq
  unfold la_T3
  simp
  refine run_drawn_kinds h2 (by omega) (by omega) (by omega) (by omega) fun fl ch tr ks nu gu o3 h3 hnu hks => ?_
  have hks : KS ks fl ch tr greatN gu := by
    obtain ⟨fm, a, b, tm, tm0, e1, e2, e3, e4, e5, e6⟩ := hks
    exact ⟨fm, a, b, tm, tm0, e1, e2, e3, e4, e5, e6.trans hgs⟩
  have hnu := hnu.trans hns
  have lnu := hnu.length_eq
  simp at lnu
  have ndn : (fl :: ch :: tr :: nu).Nodup := by
    have g := smallN_ok
    rw [Bool.and_eq_true, Bool.and_eq_true] at g
    exact hnu.nodup_iff.mpr (by simpa using g.1.1)
  have nds : [fl, ch, tr].Nodup := by
    have : (fl :: ch :: tr :: nu) = [fl, ch, tr] ++ nu := rfl
    rw [this] at ndn
    exact (List.nodup_append.mp ndn).1
  have W := MeW.of hks nds
  have k3 : ∀ x ∈ [fl, ch, tr], x ∈ ks.map (·.1) := fun x hx => by
    simp at hx
    exact hks.mem.mpr hx
  have es : D.lst [.str fl, .str ch, .str tr] = slD3 fl ch tr := rfl
  unfold la_T5
  simp
  rw [es]
  refine run_drawn_heads k3 h3 (by omega) (by omega) fun fs nu' o4 h4 hfl hfn hpn => ?_
  have WK : WK ks fs fl ch tr := by
    refine ⟨hks.wld (by omega) fun f hf => ⟨by have := (hfn f hf).1; omega, (hfn f hf).2⟩, fun x hx => ?_, k3⟩
    unfold hds at hx
    rcases List.mem_append.mp hx with z | z
    · exact W.st x (List.mem_append_left _ z)
    · obtain ⟨f, hf, rfl⟩ := List.mem_map.mp z
      refine small_st (hnu.mem_iff.mp ?_)
      have := hpn.mem_iff.mp (List.mem_append_left _ (List.mem_map.mpr ⟨f, hf, rfl⟩))
      simp [this]
  have hgu : 4 ≤ gu.length := by
    obtain ⟨fm, a, b, tm, tm0, e1, e2, e3, e4, e5, e6⟩ := hks
    have htl0 : tm0.length ≤ 3 := by
      obtain ⟨t0, t1, f1, _, rfl | ⟨t2, f2, _, rfl⟩⟩ := e5 <;> simp
    have := e6.length_eq
    simp at this
    omega
  have hgst : ∀ g ∈ gu, stOk g = true := fun g hg => great_st (hks.heads.mem_iff.mp (List.mem_append_right _ hg))
  simp
  refine run_drawn_rows WK h4 fun ps ts o5 h5 hps hpl hts htl => ?_
  have szs : tszs ps ≤ 900 := by
    have go : ∀ (l : List Tm), (∀ p ∈ l, tsz p ≤ 16) → tszs l ≤ 16 * l.length := by
      intro l
      induction l with
      | nil => intro _; simp [tszs]
      | cons a l ih =>
        intro h
        have := ih fun p hp => h p (by simp [hp])
        have := h a (by simp)
        rw [tszs, List.length_cons]; omega
    have := go ps fun p hp => (hps p hp).2.1
    omega
  unfold la_T7
  simp
  refine run_ask_match szs hts (by omega) ?_
  simp
  refine run_large_rows hgu hgst h5 fun ps2 ts2 o6 h6 g6 => ?_
  unfold la_T9
  simp
  refine run_ask_match g6.1 g6.2.1 g6.2.2 ?_
  simp
  refine loop_for (fun i ms => ∃ (o' : OV) (s12 : SV), DS o' ∧ lo s12 = true ∧ ms = [.val d, .own false o', .own false (.lst (nu'.map .str)), .val (.lst (gu.map .str)), .val (kdsD ks), .val (.str fl), .val (.str ch), .val (.str tr), .val (slD3 fl ch tr), .val (.tup [kdsD ks, .tup (fs.map fnD)]), .val (.tup (ps2.map tmD)), .val (.tup (ts2.map tmD)), s12]) _ ⟨o6, .unk, h6, rfl, rfl⟩ (fun i d' ms hd hI => ?_) (fun ms hI => ?_)
  · obtain ⟨o', s12, h', l12, em⟩ := hI
    subst em
    simp [l12, f_law_L1]
    refine run_ask_meet W k3 h' fun o2 h2 => ?_
    simp
    exact inv_of ⟨o2, _, h2, rfl, rfl⟩
  · obtain ⟨o', s12, h', l12, em⟩ := hI
    subst em
    simp [ho]
    exact q
end
end Fw
set_option Elab.async false
set_option linter.all false
set_option maxRecDepth 100000
set_option maxHeartbeats 4000000
namespace Fw
open PySem L2
theorem all_mk {l : PySem.W.OpenLaw} {w : World} {K : PySem.W.Frag} {h : Heap} {mg : Str → Option Value} {fa f1 f2 f3 f4 f5 f6 f7 f8 f9 f10 f11 f12 f13 f14 f15 f16 f17 f18 f19 f20 f21 f22 f23 f24 f25 f26 f27 f28 f29 f30 f31 f32 f33 : Addr} (X : K.In h) (G : h.Ns mainGlobals mg) (hfa : mg "law" = some (.ref fa))
    {od1 an1 od2 an2 od3 an3 od4 an4 od5 an5 od6 an6 od7 an7 od8 an8 od9 an9 od10 an10 od11 an11 od12 an12 od13 an13 od14 an14 od15 an15 od16 an16 od17 an17 od18 an18 od19 an19 od20 an20 od21 an21 od22 an22 od23 an23 od24 an24 od25 an25 od26 an26 od27 an27 od28 an28 od29 an29 od30 an30 od31 an31 od32 an32 od33 an33 : Option Addr} {sl1 sl2 sl3 sl4 sl5 sl6 sl7 sl8 sl9 sl10 sl11 sl12 sl13 sl14 sl15 sl16 sl17 sl18 sl19 sl20 sl21 sl22 sl23 sl24 sl25 sl26 sl27 sl28 sl29 sl30 sl31 sl32 sl33 : Array (Option Value)} {oc1 kV1 dc1 pm1 cd1 ct1 oc2 kV2 dc2 pm2 cd2 ct2 oc3 kV3 dc3 pm3 cd3 ct3 oc4 kV4 dc4 pm4 cd4 ct4 oc5 kV5 dc5 pm5 cd5 ct5 oc6 kV6 dc6 pm6 cd6 ct6 oc7 kV7 dc7 pm7 cd7 ct7 oc8 kV8 dc8 pm8 cd8 ct8 oc9 kV9 dc9 pm9 cd9 ct9 oc10 kV10 dc10 pm10 cd10 ct10 oc11 kV11 dc11 pm11 cd11 ct11 oc12 kV12 dc12 pm12 cd12 ct12 oc13 kV13 dc13 pm13 cd13 ct13 oc14 kV14 dc14 pm14 cd14 ct14 oc15 kV15 dc15 pm15 cd15 ct15 oc16 kV16 dc16 pm16 cd16 ct16 oc17 kV17 dc17 pm17 cd17 ct17 oc18 kV18 dc18 pm18 cd18 ct18 oc19 kV19 dc19 pm19 cd19 ct19 oc20 kV20 dc20 pm20 cd20 ct20 oc21 kV21 dc21 pm21 cd21 ct21 oc22 kV22 dc22 pm22 cd22 ct22 oc23 kV23 dc23 pm23 cd23 ct23 oc24 kV24 dc24 pm24 cd24 ct24 oc25 kV25 dc25 pm25 cd25 ct25 oc26 kV26 dc26 pm26 cd26 ct26 oc27 kV27 dc27 pm27 cd27 ct27 oc28 kV28 dc28 pm28 cd28 ct28 oc29 kV29 dc29 pm29 cd29 ct29 oc30 kV30 dc30 pm30 cd30 ct30 oc31 kV31 dc31 pm31 cd31 ct31 oc32 kV32 dc32 pm32 cd32 ct32 oc33 kV33 dc33 pm33 cd33 ct33 : Value}
    (a1 : PySem.W.nsIn K mainGlobals "match_rows" = some (some (.ref f1))) (l1 : K.lookup f1 = some ⟨oc1, od1, .func (PySem.W.fnOf "match_rows" "match_rows" (defArgs (topS 1)) (defBody (topS 1)) (defScope (topS 1)) .none kV1 dc1 pm1 an1 cd1 ct1), sl1⟩) (c1 : PySem.W.codeIn K cd1 "match_rows" = true) (k1 : PySem.W.keepIn K (.ref f1) = true)
    (a2 : PySem.W.nsIn K mainGlobals "match_term" = some (some (.ref f2))) (l2 : K.lookup f2 = some ⟨oc2, od2, .func (PySem.W.fnOf "match_term" "match_term" (defArgs (topS 2)) (defBody (topS 2)) (defScope (topS 2)) .none kV2 dc2 pm2 an2 cd2 ct2), sl2⟩) (c2 : PySem.W.codeIn K cd2 "match_term" = true) (k2 : PySem.W.keepIn K (.ref f2) = true)
    (a3 : PySem.W.nsIn K mainGlobals "patterns_meet" = some (some (.ref f3))) (l3 : K.lookup f3 = some ⟨oc3, od3, .func (PySem.W.fnOf "patterns_meet" "patterns_meet" (defArgs (topS 3)) (defBody (topS 3)) (defScope (topS 3)) .none kV3 dc3 pm3 an3 cd3 ct3), sl3⟩) (c3 : PySem.W.codeIn K cd3 "patterns_meet" = true) (k3 : PySem.W.keepIn K (.ref f3) = true)
    (a4 : PySem.W.nsIn K mainGlobals "_law_begin" = some (some (.ref f4))) (l4 : K.lookup f4 = some ⟨oc4, od4, .func (PySem.W.fnOf "_law_begin" "_law_begin" (defArgs (topS 5)) (defBody (topS 5)) (defScope (topS 5)) .none kV4 dc4 pm4 an4 cd4 ct4), sl4⟩) (c4 : PySem.W.codeIn K cd4 "_law_begin" = true) (k4 : PySem.W.keepIn K (.ref f4) = true)
    (a5 : PySem.W.nsIn K mainGlobals "_law_draw" = some (some (.ref f5))) (l5 : K.lookup f5 = some ⟨oc5, od5, .func (PySem.W.fnOf "_law_draw" "_law_draw" (defArgs (topS 6)) (defBody (topS 6)) (defScope (topS 6)) .none kV5 dc5 pm5 an5 cd5 ct5), sl5⟩) (c5 : PySem.W.codeIn K cd5 "_law_draw" = true) (k5 : PySem.W.keepIn K (.ref f5) = true)
    (a6 : PySem.W.nsIn K mainGlobals "_law_pick" = some (some (.ref f6))) (l6 : K.lookup f6 = some ⟨oc6, od6, .func (PySem.W.fnOf "_law_pick" "_law_pick" (defArgs (topS 7)) (defBody (topS 7)) (defScope (topS 7)) .none kV6 dc6 pm6 an6 cd6 ct6), sl6⟩) (c6 : PySem.W.codeIn K cd6 "_law_pick" = true) (k6 : PySem.W.keepIn K (.ref f6) = true)
    (a7 : PySem.W.nsIn K mainGlobals "_law_pop" = some (some (.ref f7))) (l7 : K.lookup f7 = some ⟨oc7, od7, .func (PySem.W.fnOf "_law_pop" "_law_pop" (defArgs (topS 8)) (defBody (topS 8)) (defScope (topS 8)) .none kV7 dc7 pm7 an7 cd7 ct7), sl7⟩) (c7 : PySem.W.codeIn K cd7 "_law_pop" = true) (k7 : PySem.W.keepIn K (.ref f7) = true)
    (a8 : PySem.W.nsIn K mainGlobals "_law_rare" = some (some (.ref f8))) (l8 : K.lookup f8 = some ⟨oc8, od8, .func (PySem.W.fnOf "_law_rare" "_law_rare" (defArgs (topS 9)) (defBody (topS 9)) (defScope (topS 9)) .none kV8 dc8 pm8 an8 cd8 ct8), sl8⟩) (c8 : PySem.W.codeIn K cd8 "_law_rare" = true) (k8 : PySem.W.keepIn K (.ref f8) = true)
    (a9 : PySem.W.nsIn K mainGlobals "_law_shuffled" = some (some (.ref f9))) (l9 : K.lookup f9 = some ⟨oc9, od9, .func (PySem.W.fnOf "_law_shuffled" "_law_shuffled" (defArgs (topS 10)) (defBody (topS 10)) (defScope (topS 10)) .none kV9 dc9 pm9 an9 cd9 ct9), sl9⟩) (c9 : PySem.W.codeIn K cd9 "_law_shuffled" = true) (k9 : PySem.W.keepIn K (.ref f9) = true)
    (a10 : PySem.W.nsIn K mainGlobals "_law_small_names" = some (some (.ref f10))) (l10 : K.lookup f10 = some ⟨oc10, od10, .func (PySem.W.fnOf "_law_small_names" "_law_small_names" (defArgs (topS 11)) (defBody (topS 11)) (defScope (topS 11)) .none kV10 dc10 pm10 an10 cd10 ct10), sl10⟩) (c10 : PySem.W.codeIn K cd10 "_law_small_names" = true) (k10 : PySem.W.keepIn K (.ref f10) = true)
    (a11 : PySem.W.nsIn K mainGlobals "_law_great_names" = some (some (.ref f11))) (l11 : K.lookup f11 = some ⟨oc11, od11, .func (PySem.W.fnOf "_law_great_names" "_law_great_names" (defArgs (topS 12)) (defBody (topS 12)) (defScope (topS 12)) .none kV11 dc11 pm11 an11 cd11 ct11), sl11⟩) (c11 : PySem.W.codeIn K cd11 "_law_great_names" = true) (k11 : PySem.W.keepIn K (.ref f11) = true)
    (a12 : PySem.W.nsIn K mainGlobals "_law_places" = some (some (.ref f12))) (l12 : K.lookup f12 = some ⟨oc12, od12, .func (PySem.W.fnOf "_law_places" "_law_places" (defArgs (topS 13)) (defBody (topS 13)) (defScope (topS 13)) .none kV12 dc12 pm12 an12 cd12 ct12), sl12⟩) (c12 : PySem.W.codeIn K cd12 "_law_places" = true) (k12 : PySem.W.keepIn K (.ref f12) = true)
    (a13 : PySem.W.nsIn K mainGlobals "_law_set" = some (some (.ref f13))) (l13 : K.lookup f13 = some ⟨oc13, od13, .func (PySem.W.fnOf "_law_set" "_law_set" (defArgs (topS 14)) (defBody (topS 14)) (defScope (topS 14)) .none kV13 dc13 pm13 an13 cd13 ct13), sl13⟩) (c13 : PySem.W.codeIn K cd13 "_law_set" = true) (k13 : PySem.W.keepIn K (.ref f13) = true)
    (a14 : PySem.W.nsIn K mainGlobals "_law_put" = some (some (.ref f14))) (l14 : K.lookup f14 = some ⟨oc14, od14, .func (PySem.W.fnOf "_law_put" "_law_put" (defArgs (topS 15)) (defBody (topS 15)) (defScope (topS 15)) .none kV14 dc14 pm14 an14 cd14 ct14), sl14⟩) (c14 : PySem.W.codeIn K cd14 "_law_put" = true) (k14 : PySem.W.keepIn K (.ref f14) = true)
    (a15 : PySem.W.nsIn K mainGlobals "_law_match" = some (some (.ref f15))) (l15 : K.lookup f15 = some ⟨oc15, od15, .func (PySem.W.fnOf "_law_match" "_law_match" (defArgs (topS 16)) (defBody (topS 16)) (defScope (topS 16)) .none kV15 dc15 pm15 an15 cd15 ct15), sl15⟩) (c15 : PySem.W.codeIn K cd15 "_law_match" = true) (k15 : PySem.W.keepIn K (.ref f15) = true)
    (a16 : PySem.W.nsIn K mainGlobals "_law_rows_from" = some (some (.ref f16))) (l16 : K.lookup f16 = some ⟨oc16, od16, .func (PySem.W.fnOf "_law_rows_from" "_law_rows_from" (defArgs (topS 17)) (defBody (topS 17)) (defScope (topS 17)) .none kV16 dc16 pm16 an16 cd16 ct16), sl16⟩) (c16 : PySem.W.codeIn K cd16 "_law_rows_from" = true) (k16 : PySem.W.keepIn K (.ref f16) = true)
    (a17 : PySem.W.nsIn K mainGlobals "_law_lists" = some (some (.ref f17))) (l17 : K.lookup f17 = some ⟨oc17, od17, .func (PySem.W.fnOf "_law_lists" "_law_lists" (defArgs (topS 18)) (defBody (topS 18)) (defScope (topS 18)) .none kV17 dc17 pm17 an17 cd17 ct17), sl17⟩) (c17 : PySem.W.codeIn K cd17 "_law_lists" = true) (k17 : PySem.W.keepIn K (.ref f17) = true)
    (a18 : PySem.W.nsIn K mainGlobals "_law_makers" = some (some (.ref f18))) (l18 : K.lookup f18 = some ⟨oc18, od18, .func (PySem.W.fnOf "_law_makers" "_law_makers" (defArgs (topS 19)) (defBody (topS 19)) (defScope (topS 19)) .none kV18 dc18 pm18 an18 cd18 ct18), sl18⟩) (c18 : PySem.W.codeIn K cd18 "_law_makers" = true) (k18 : PySem.W.keepIn K (.ref f18) = true)
    (a19 : PySem.W.nsIn K mainGlobals "_law_constant" = some (some (.ref f19))) (l19 : K.lookup f19 = some ⟨oc19, od19, .func (PySem.W.fnOf "_law_constant" "_law_constant" (defArgs (topS 20)) (defBody (topS 20)) (defScope (topS 20)) .none kV19 dc19 pm19 an19 cd19 ct19), sl19⟩) (c19 : PySem.W.codeIn K cd19 "_law_constant" = true) (k19 : PySem.W.keepIn K (.ref f19) = true)
    (a20 : PySem.W.nsIn K mainGlobals "_law_term" = some (some (.ref f20))) (l20 : K.lookup f20 = some ⟨oc20, od20, .func (PySem.W.fnOf "_law_term" "_law_term" (defArgs (topS 21)) (defBody (topS 21)) (defScope (topS 21)) .none kV20 dc20 pm20 an20 cd20 ct20), sl20⟩) (c20 : PySem.W.codeIn K cd20 "_law_term" = true) (k20 : PySem.W.keepIn K (.ref f20) = true)
    (a21 : PySem.W.nsIn K mainGlobals "_law_drawn_kinds" = some (some (.ref f21))) (l21 : K.lookup f21 = some ⟨oc21, od21, .func (PySem.W.fnOf "_law_drawn_kinds" "_law_drawn_kinds" (defArgs (topS 22)) (defBody (topS 22)) (defScope (topS 22)) .none kV21 dc21 pm21 an21 cd21 ct21), sl21⟩) (c21 : PySem.W.codeIn K cd21 "_law_drawn_kinds" = true) (k21 : PySem.W.keepIn K (.ref f21) = true)
    (a22 : PySem.W.nsIn K mainGlobals "_law_images_told" = some (some (.ref f22))) (l22 : K.lookup f22 = some ⟨oc22, od22, .func (PySem.W.fnOf "_law_images_told" "_law_images_told" (defArgs (topS 23)) (defBody (topS 23)) (defScope (topS 23)) .none kV22 dc22 pm22 an22 cd22 ct22), sl22⟩) (c22 : PySem.W.codeIn K cd22 "_law_images_told" = true) (k22 : PySem.W.keepIn K (.ref f22) = true)
    (a23 : PySem.W.nsIn K mainGlobals "_law_ask_match" = some (some (.ref f23))) (l23 : K.lookup f23 = some ⟨oc23, od23, .func (PySem.W.fnOf "_law_ask_match" "_law_ask_match" (defArgs (topS 24)) (defBody (topS 24)) (defScope (topS 24)) .none kV23 dc23 pm23 an23 cd23 ct23), sl23⟩) (c23 : PySem.W.codeIn K cd23 "_law_ask_match" = true) (k23 : PySem.W.keepIn K (.ref f23) = true)
    (a24 : PySem.W.nsIn K mainGlobals "_law_drawn_heads" = some (some (.ref f24))) (l24 : K.lookup f24 = some ⟨oc24, od24, .func (PySem.W.fnOf "_law_drawn_heads" "_law_drawn_heads" (defArgs (topS 25)) (defBody (topS 25)) (defScope (topS 25)) .none kV24 dc24 pm24 an24 cd24 ct24), sl24⟩) (c24 : PySem.W.codeIn K cd24 "_law_drawn_heads" = true) (k24 : PySem.W.keepIn K (.ref f24) = true)
    (a25 : PySem.W.nsIn K mainGlobals "_law_drawn_rows" = some (some (.ref f25))) (l25 : K.lookup f25 = some ⟨oc25, od25, .func (PySem.W.fnOf "_law_drawn_rows" "_law_drawn_rows" (defArgs (topS 26)) (defBody (topS 26)) (defScope (topS 26)) .none kV25 dc25 pm25 an25 cd25 ct25), sl25⟩) (c25 : PySem.W.codeIn K cd25 "_law_drawn_rows" = true) (k25 : PySem.W.keepIn K (.ref f25) = true)
    (a26 : PySem.W.nsIn K mainGlobals "_law_chain_of" = some (some (.ref f26))) (l26 : K.lookup f26 = some ⟨oc26, od26, .func (PySem.W.fnOf "_law_chain_of" "_law_chain_of" (defArgs (topS 27)) (defBody (topS 27)) (defScope (topS 27)) .none kV26 dc26 pm26 an26 cd26 ct26), sl26⟩) (c26 : PySem.W.codeIn K cd26 "_law_chain_of" = true) (k26 : PySem.W.keepIn K (.ref f26) = true)
    (a27 : PySem.W.nsIn K mainGlobals "_law_full_tree" = some (some (.ref f27))) (l27 : K.lookup f27 = some ⟨oc27, od27, .func (PySem.W.fnOf "_law_full_tree" "_law_full_tree" (defArgs (topS 28)) (defBody (topS 28)) (defScope (topS 28)) .none kV27 dc27 pm27 an27 cd27 ct27), sl27⟩) (c27 : PySem.W.codeIn K cd27 "_law_full_tree" = true) (k27 : PySem.W.keepIn K (.ref f27) = true)
    (a28 : PySem.W.nsIn K mainGlobals "_law_large_rows" = some (some (.ref f28))) (l28 : K.lookup f28 = some ⟨oc28, od28, .func (PySem.W.fnOf "_law_large_rows" "_law_large_rows" (defArgs (topS 29)) (defBody (topS 29)) (defScope (topS 29)) .none kV28 dc28 pm28 an28 cd28 ct28), sl28⟩) (c28 : PySem.W.codeIn K cd28 "_law_large_rows" = true) (k28 : PySem.W.keepIn K (.ref f28) = true)
    (a29 : PySem.W.nsIn K mainGlobals "_law_pattern" = some (some (.ref f29))) (l29 : K.lookup f29 = some ⟨oc29, od29, .func (PySem.W.fnOf "_law_pattern" "_law_pattern" (defArgs (topS 30)) (defBody (topS 30)) (defScope (topS 30)) .none kV29 dc29 pm29 an29 cd29 ct29), sl29⟩) (c29 : PySem.W.codeIn K cd29 "_law_pattern" = true) (k29 : PySem.W.keepIn K (.ref f29) = true)
    (a30 : PySem.W.nsIn K mainGlobals "_law_clash" = some (some (.ref f30))) (l30 : K.lookup f30 = some ⟨oc30, od30, .func (PySem.W.fnOf "_law_clash" "_law_clash" (defArgs (topS 31)) (defBody (topS 31)) (defScope (topS 31)) .none kV30 dc30 pm30 an30 cd30 ct30), sl30⟩) (c30 : PySem.W.codeIn K cd30 "_law_clash" = true) (k30 : PySem.W.keepIn K (.ref f30) = true)
    (a31 : PySem.W.nsIn K mainGlobals "_law_meet" = some (some (.ref f31))) (l31 : K.lookup f31 = some ⟨oc31, od31, .func (PySem.W.fnOf "_law_meet" "_law_meet" (defArgs (topS 32)) (defBody (topS 32)) (defScope (topS 32)) .none kV31 dc31 pm31 an31 cd31 ct31), sl31⟩) (c31 : PySem.W.codeIn K cd31 "_law_meet" = true) (k31 : PySem.W.keepIn K (.ref f31) = true)
    (a32 : PySem.W.nsIn K mainGlobals "_law_ask_meet" = some (some (.ref f32))) (l32 : K.lookup f32 = some ⟨oc32, od32, .func (PySem.W.fnOf "_law_ask_meet" "_law_ask_meet" (defArgs (topS 33)) (defBody (topS 33)) (defScope (topS 33)) .none kV32 dc32 pm32 an32 cd32 ct32), sl32⟩) (c32 : PySem.W.codeIn K cd32 "_law_ask_meet" = true) (k32 : PySem.W.keepIn K (.ref f32) = true)
    (a33 : PySem.W.nsIn K mainGlobals "law" = some (some (.ref f33))) (l33 : K.lookup f33 = some ⟨oc33, od33, .func (PySem.W.fnOf "law" "law" (defArgs (topS 34)) (defBody (topS 34)) (defScope (topS 34)) .none kV33 dc33 pm33 an33 cd33 ct33), sl33⟩) (c33 : PySem.W.codeIn K cd33 "law" = true) (k33 : PySem.W.keepIn K (.ref f33) = true)
    (z_abs : PySem.W.nsIn K mainGlobals "abs" = some none) (z_all : PySem.W.nsIn K mainGlobals "all" = some none) (z_bool : PySem.W.nsIn K mainGlobals "bool" = some none) (z_dict : PySem.W.nsIn K mainGlobals "dict" = some none) (z_int : PySem.W.nsIn K mainGlobals "int" = some none) (z_isinstance : PySem.W.nsIn K mainGlobals "isinstance" = some none) (z_len : PySem.W.nsIn K mainGlobals "len" = some none) (z_list : PySem.W.nsIn K mainGlobals "list" = some none) (z_max : PySem.W.nsIn K mainGlobals "max" = some none) (z_min : PySem.W.nsIn K mainGlobals "min" = some none) (z_range : PySem.W.nsIn K mainGlobals "range" = some none) (z_str : PySem.W.nsIn K mainGlobals "str" = some none) (z_tuple : PySem.W.nsIn K mainGlobals "tuple" = some none) :
    ∃ fd : FuncData, (∀ (s : Shared) (v : Value), BindsTo s fd ⟨[v], []⟩ [("script", v)]) ∧ ∀ base : Heap, K.In base → base.Ns mainGlobals mg → FnOk l.prog w K mg base (L2.CX l.prog w) 66 fa fd ["script"] (spM K 1 fm_law) := by
  have e := hfa.symm.trans (PySem.W.mg_of X G a33)
  cases e
  have y_abs := PySem.W.mg_none_of X G z_abs
  have y_all := PySem.W.mg_none_of X G z_all
  have y_bool := PySem.W.mg_none_of X G z_bool
  have y_dict := PySem.W.mg_none_of X G z_dict
  have y_int := PySem.W.mg_none_of X G z_int
  have y_isinstance := PySem.W.mg_none_of X G z_isinstance
  have y_len := PySem.W.mg_none_of X G z_len
  have y_list := PySem.W.mg_none_of X G z_list
  have y_max := PySem.W.mg_none_of X G z_max
  have y_min := PySem.W.mg_none_of X G z_min
  have y_range := PySem.W.mg_none_of X G z_range
  have y_str := PySem.W.mg_none_of X G z_str
  have y_tuple := PySem.W.mg_none_of X G z_tuple
  have F1 := fun_mk (st := (topS 1)) l1 c1 k1
  have b1 := F1.binds (ps := ["patterns", "terms"]) fun _ _ _ _ _ _ us hl => match us, hl with | [_, _], _ => rfl
  have F2 := fun_mk (st := (topS 2)) l2 c2 k2
  have b2 := F2.binds (ps := ["pattern", "term"]) fun _ _ _ _ _ _ us hl => match us, hl with | [_, _], _ => rfl
  have F3 := fun_mk (st := (topS 3)) l3 c3 k3
  have b3 := F3.binds (ps := ["first", "second"]) fun _ _ _ _ _ _ us hl => match us, hl with | [_, _], _ => rfl
  have F4 := fun_mk (st := (topS 5)) l4 c4 k4
  have b4 := F4.binds (ps := ["script"]) fun _ _ _ _ _ _ us hl => match us, hl with | [_], _ => rfl
  have F5 := fun_mk (st := (topS 6)) l5 c5 k5
  have b5 := F5.binds (ps := ["d", "many"]) fun _ _ _ _ _ _ us hl => match us, hl with | [_, _], _ => rfl
  have F6 := fun_mk (st := (topS 7)) l6 c6 k6
  have b6 := F6.binds (ps := ["d", "row"]) fun _ _ _ _ _ _ us hl => match us, hl with | [_, _], _ => rfl
  have F7 := fun_mk (st := (topS 8)) l7 c7 k7
  have b7 := F7.binds (ps := ["d", "row"]) fun _ _ _ _ _ _ us hl => match us, hl with | [_, _], _ => rfl
  have F8 := fun_mk (st := (topS 9)) l8 c8 k8
  have b8 := F8.binds (ps := ["d", "many"]) fun _ _ _ _ _ _ us hl => match us, hl with | [_, _], _ => rfl
  have F9 := fun_mk (st := (topS 10)) l9 c9 k9
  have b9 := F9.binds (ps := ["d", "row"]) fun _ _ _ _ _ _ us hl => match us, hl with | [_, _], _ => rfl
  have F10 := fun_mk (st := (topS 11)) l10 c10 k10
  have b10 := F10.binds (ps := []) fun _ _ _ _ _ _ us hl => match us, hl with | [], _ => rfl
  have F11 := fun_mk (st := (topS 12)) l11 c11 k11
  have b11 := F11.binds (ps := []) fun _ _ _ _ _ _ us hl => match us, hl with | [], _ => rfl
  have F12 := fun_mk (st := (topS 13)) l12 c12 k12
  have b12 := F12.binds (ps := ["term"]) fun _ _ _ _ _ _ us hl => match us, hl with | [_], _ => rfl
  have F13 := fun_mk (st := (topS 14)) l13 c13 k13
  have b13 := F13.binds (ps := ["term", "path", "new"]) fun _ _ _ _ _ _ us hl => match us, hl with | [_, _, _], _ => rfl
  have F14 := fun_mk (st := (topS 15)) l14 c14 k14
  have b14 := F14.binds (ps := ["term", "images"]) fun _ _ _ _ _ _ us hl => match us, hl with | [_, _], _ => rfl
  have F15 := fun_mk (st := (topS 16)) l15 c15 k15
  have b15 := F15.binds (ps := ["patterns", "terms"]) fun _ _ _ _ _ _ us hl => match us, hl with | [_, _], _ => rfl
  have F16 := fun_mk (st := (topS 17)) l16 c16 k16
  have b16 := F16.binds (ps := ["table", "fields", "total"]) fun _ _ _ _ _ _ us hl => match us, hl with | [_, _, _], _ => rfl
  have F17 := fun_mk (st := (topS 18)) l17 c17 k17
  have b17 := F17.binds (ps := ["kinds", "most"]) fun _ _ _ _ _ _ us hl => match us, hl with | [_, _], _ => rfl
  have F18 := fun_mk (st := (topS 19)) l18 c18 k18
  have b18 := F18.binds (ps := ["kinds", "kind"]) fun _ _ _ _ _ _ us hl => match us, hl with | [_, _], _ => rfl
  have F19 := fun_mk (st := (topS 20)) l19 c19 k19
  have b19 := F19.binds (ps := ["d", "kinds", "kind"]) fun _ _ _ _ _ _ us hl => match us, hl with | [_, _, _], _ => rfl
  have F20 := fun_mk (st := (topS 21)) l20 c20 k20
  have b20 := F20.binds (ps := ["d", "world", "known", "kind", "deep", "calls"]) fun _ _ _ _ _ _ us hl => match us, hl with | [_, _, _, _, _, _], _ => rfl
  have F21 := fun_mk (st := (topS 22)) l21 c21 k21
  have b21 := F21.binds (ps := ["d", "names", "greats"]) fun _ _ _ _ _ _ us hl => match us, hl with | [_, _, _], _ => rfl
  have F22 := fun_mk (st := (topS 23)) l22 c22 k22
  have b22 := F22.binds (ps := ["told", "due"]) fun _ _ _ _ _ _ us hl => match us, hl with | [_, _], _ => rfl
  have F23 := fun_mk (st := (topS 24)) l23 c23 k23
  have b23 := F23.binds (ps := ["patterns", "terms"]) fun _ _ _ _ _ _ us hl => match us, hl with | [_, _], _ => rfl
  have F24 := fun_mk (st := (topS 25)) l24 c24 k24
  have b24 := F24.binds (ps := ["d", "names", "sorts"]) fun _ _ _ _ _ _ us hl => match us, hl with | [_, _, _], _ => rfl
  have F25 := fun_mk (st := (topS 26)) l25 c25 k25
  have b25 := F25.binds (ps := ["d", "world", "sorts"]) fun _ _ _ _ _ _ us hl => match us, hl with | [_, _, _], _ => rfl
  have F26 := fun_mk (st := (topS 27)) l26 c26 k26
  have b26 := F26.binds (ps := ["head", "many", "inner"]) fun _ _ _ _ _ _ us hl => match us, hl with | [_, _, _], _ => rfl
  have F27 := fun_mk (st := (topS 28)) l27 c27 k27
  have b27 := F27.binds (ps := ["head", "deep", "leaf"]) fun _ _ _ _ _ _ us hl => match us, hl with | [_, _, _], _ => rfl
  have F28 := fun_mk (st := (topS 29)) l28 c28 k28
  have b28 := F28.binds (ps := ["d", "greats"]) fun _ _ _ _ _ _ us hl => match us, hl with | [_, _], _ => rfl
  have F29 := fun_mk (st := (topS 30)) l29 c29 k29
  have b29 := F29.binds (ps := ["d", "kinds", "kind", "deep", "spare"]) fun _ _ _ _ _ _ us hl => match us, hl with | [_, _, _, _, _], _ => rfl
  have F30 := fun_mk (st := (topS 31)) l30 c30 k30
  have b30 := F30.binds (ps := ["first", "second"]) fun _ _ _ _ _ _ us hl => match us, hl with | [_, _], _ => rfl
  have F31 := fun_mk (st := (topS 32)) l31 c31 k31
  have b31 := F31.binds (ps := ["table", "kind", "first", "second", "deep"]) fun _ _ _ _ _ _ us hl => match us, hl with | [_, _, _, _, _], _ => rfl
  have F32 := fun_mk (st := (topS 33)) l32 c32 k32
  have b32 := F32.binds (ps := ["d", "kinds", "sorts"]) fun _ _ _ _ _ _ us hl => match us, hl with | [_, _, _], _ => rfl
  have F33 := fun_mk (st := (topS 34)) l33 c33 k33
  refine ⟨PySem.W.fnOf "law" "law" (defArgs (topS 34)) (defBody (topS 34)) (defScope (topS 34)) .none kV33 dc33 pm33 an33 cd33 ct33, fun s v => .of_eq rfl, fun base _ _ => ?_⟩
  have g_match_rows := good_match_rows (P := l.prog) (w := w) (base := base) F1 b1 (PySem.W.mg_of X G a1) y_isinstance y_len y_range y_str
  have g_match_term := good_match_term (P := l.prog) (w := w) (base := base) F2 b2 (PySem.W.mg_of X G a2) g_match_rows
  have g_patterns_meet := good_patterns_meet (P := l.prog) (w := w) (base := base) F3 b3 (PySem.W.mg_of X G a3) y_isinstance y_len y_range y_str
  have g_law_begin := good_law_begin (P := l.prog) (w := w) (base := base) F4 b4 (PySem.W.mg_of X G a4) y_int
  have g_law_draw := good_law_draw (P := l.prog) (w := w) (base := base) F5 b5 (PySem.W.mg_of X G a5) y_abs y_int y_len y_max
  have g_law_pick := good_law_pick (P := l.prog) (w := w) (base := base) F6 b6 (PySem.W.mg_of X G a6) g_law_draw y_len
  have g_law_pop := good_law_pop (P := l.prog) (w := w) (base := base) F7 b7 (PySem.W.mg_of X G a7) g_law_draw y_len
  have g_law_rare := good_law_rare (P := l.prog) (w := w) (base := base) F8 b8 (PySem.W.mg_of X G a8) g_law_draw
  have g_law_shuffled := good_law_shuffled (P := l.prog) (w := w) (base := base) F9 b9 (PySem.W.mg_of X G a9) g_law_draw y_len y_list y_range
  have g_law_small_names := good_law_small_names (P := l.prog) (w := w) (base := base) F10 b10 (PySem.W.mg_of X G a10) 
  have g_law_great_names := good_law_great_names (P := l.prog) (w := w) (base := base) F11 b11 (PySem.W.mg_of X G a11) 
  have g_law_places := good_law_places (P := l.prog) (w := w) (base := base) F12 b12 (PySem.W.mg_of X G a12) y_isinstance y_len y_range y_str
  have g_law_set := good_law_set (P := l.prog) (w := w) (base := base) F13 b13 (PySem.W.mg_of X G a13) 
  have g_law_put := good_law_put (P := l.prog) (w := w) (base := base) F14 b14 (PySem.W.mg_of X G a14) y_isinstance y_str y_tuple
  have g_law_match := good_law_match (P := l.prog) (w := w) (base := base) F15 b15 (PySem.W.mg_of X G a15) y_isinstance y_len y_range y_str
  have g_law_rows_from := good_law_rows_from (P := l.prog) (w := w) (base := base) F16 b16 (PySem.W.mg_of X G a16) y_len y_range
  have g_law_lists := good_law_lists (P := l.prog) (w := w) (base := base) F17 b17 (PySem.W.mg_of X G a17) g_law_rows_from y_range
  have g_law_makers := good_law_makers (P := l.prog) (w := w) (base := base) F18 b18 (PySem.W.mg_of X G a18) 
  have g_law_constant := good_law_constant (P := l.prog) (w := w) (base := base) F19 b19 (PySem.W.mg_of X G a19) g_law_pick g_law_makers y_len
  have g_law_term := good_law_term (P := l.prog) (w := w) (base := base) F20 b20 (PySem.W.mg_of X G a20) g_law_draw g_law_pick g_law_makers g_law_constant y_len y_tuple
  have g_law_drawn_kinds := good_law_drawn_kinds (P := l.prog) (w := w) (base := base) F21 b21 (PySem.W.mg_of X G a21) g_law_draw g_law_pop g_law_rare g_law_shuffled y_range y_tuple
  have g_law_images_told := good_law_images_told (P := l.prog) (w := w) (base := base) F22 b22 (PySem.W.mg_of X G a22) y_dict y_isinstance
  have g_law_ask_match := good_law_ask_match (P := l.prog) (w := w) (base := base) F23 b23 (PySem.W.mg_of X G a23) g_match_rows g_match_term g_law_match g_law_images_told y_len y_min y_range
  have g_law_drawn_heads := good_law_drawn_heads (P := l.prog) (w := w) (base := base) F24 b24 (PySem.W.mg_of X G a24) g_law_draw g_law_pick g_law_pop y_range y_tuple
  have g_law_drawn_rows := good_law_drawn_rows (P := l.prog) (w := w) (base := base) F25 b25 (PySem.W.mg_of X G a25) g_law_draw g_law_pick g_law_places g_law_set g_law_put g_law_term y_range y_str y_tuple
  have g_law_chain_of := good_law_chain_of (P := l.prog) (w := w) (base := base) F26 b26 (PySem.W.mg_of X G a26) y_range
  have g_law_full_tree := good_law_full_tree (P := l.prog) (w := w) (base := base) F27 b27 (PySem.W.mg_of X G a27) y_range
  have g_law_large_rows := good_law_large_rows (P := l.prog) (w := w) (base := base) F28 b28 (PySem.W.mg_of X G a28) g_law_draw g_law_set g_law_chain_of g_law_full_tree y_min y_range y_tuple
  have g_law_pattern := good_law_pattern (P := l.prog) (w := w) (base := base) F29 b29 (PySem.W.mg_of X G a29) g_law_draw g_law_pick g_law_makers y_len y_tuple
  have g_law_clash := good_law_clash (P := l.prog) (w := w) (base := base) F30 b30 (PySem.W.mg_of X G a30) g_law_places y_isinstance y_str
  have g_law_meet := good_law_meet (P := l.prog) (w := w) (base := base) F31 b31 (PySem.W.mg_of X G a31) g_law_match g_law_clash y_range
  have g_law_ask_meet := good_law_ask_meet (P := l.prog) (w := w) (base := base) F32 b32 (PySem.W.mg_of X G a32) g_patterns_meet g_law_draw g_law_pick g_law_lists g_law_pattern g_law_meet y_all y_bool y_isinstance y_len y_list y_range y_str y_tuple
  exact ok_law F33 g_law_begin g_law_shuffled g_law_small_names g_law_great_names g_law_drawn_kinds g_law_ask_match g_law_drawn_heads g_law_drawn_rows g_law_large_rows g_law_ask_meet y_range
end Fw
open PySem PySem.W PyProof.Rows
set_option maxHeartbeats 0 in
theorem PySem.Challenge.cw_foldwarrant_k06_match_and_meet_holds : PySem.Challenge.rw_foldwarrant_k06_match_and_meet.Holds := by
  w_on; o_law; k_head; (case hw => w_witness2)
  k_fill
  refine L2.walk_of (l := PySem.Challenge.rw_foldwarrant_k06_match_and_meet) (n := 63) (k := 66) (x := "script") (CX := fun w => L2.CX PySem.Challenge.rw_foldwarrant_k06_match_and_meet.prog w) (sp := fun w => Fw.spM _ 1 Fw.fm_law) rfl (by decide) rfl ⟨rfl, by decide, by decide⟩ (fun w h Y => PySem.W.kIn_of Y) ?F (fun _ _ a ns hl hO hS => Fw.sp_law (fun _ _ hd _ _ q => Fw.run_law hd q) hO hS) (fun _ _ _ _ _ h => Fw.cx_none h)
  case F =>
    intro w mg fa h KX G hmg
    refine' Fw.all_mk KX G hmg ?a1 ?l1 ?c1 ?k1 ?a2 ?l2 ?c2 ?k2 ?a3 ?l3 ?c3 ?k3 ?a4 ?l4 ?c4 ?k4 ?a5 ?l5 ?c5 ?k5 ?a6 ?l6 ?c6 ?k6 ?a7 ?l7 ?c7 ?k7 ?a8 ?l8 ?c8 ?k8 ?a9 ?l9 ?c9 ?k9 ?a10 ?l10 ?c10 ?k10 ?a11 ?l11 ?c11 ?k11 ?a12 ?l12 ?c12 ?k12 ?a13 ?l13 ?c13 ?k13 ?a14 ?l14 ?c14 ?k14 ?a15 ?l15 ?c15 ?k15 ?a16 ?l16 ?c16 ?k16 ?a17 ?l17 ?c17 ?k17 ?a18 ?l18 ?c18 ?k18 ?a19 ?l19 ?c19 ?k19 ?a20 ?l20 ?c20 ?k20 ?a21 ?l21 ?c21 ?k21 ?a22 ?l22 ?c22 ?k22 ?a23 ?l23 ?c23 ?k23 ?a24 ?l24 ?c24 ?k24 ?a25 ?l25 ?c25 ?k25 ?a26 ?l26 ?c26 ?k26 ?a27 ?l27 ?c27 ?k27 ?a28 ?l28 ?c28 ?k28 ?a29 ?l29 ?c29 ?k29 ?a30 ?l30 ?c30 ?k30 ?a31 ?l31 ?c31 ?k31 ?a32 ?l32 ?c32 ?k32 ?a33 ?l33 ?c33 ?k33 ?z_abs ?z_all ?z_bool ?z_dict ?z_int ?z_isinstance ?z_len ?z_list ?z_max ?z_min ?z_range ?z_str ?z_tuple
    (case a1 => k_is); (case l1 => k_is); (case c1 => k_is); (case k1 => k_is); (case a2 => k_is); (case l2 => k_is); (case c2 => k_is); (case k2 => k_is); (case a3 => k_is); (case l3 => k_is); (case c3 => k_is); (case k3 => k_is); (case a4 => k_is); (case l4 => k_is); (case c4 => k_is); (case k4 => k_is); (case a5 => k_is); (case l5 => k_is); (case c5 => k_is); (case k5 => k_is); (case a6 => k_is); (case l6 => k_is); (case c6 => k_is); (case k6 => k_is); (case a7 => k_is); (case l7 => k_is); (case c7 => k_is); (case k7 => k_is); (case a8 => k_is); (case l8 => k_is); (case c8 => k_is); (case k8 => k_is); (case a9 => k_is); (case l9 => k_is); (case c9 => k_is); (case k9 => k_is); (case a10 => k_is); (case l10 => k_is); (case c10 => k_is); (case k10 => k_is); (case a11 => k_is); (case l11 => k_is); (case c11 => k_is); (case k11 => k_is); (case a12 => k_is); (case l12 => k_is); (case c12 => k_is); (case k12 => k_is); (case a13 => k_is); (case l13 => k_is); (case c13 => k_is); (case k13 => k_is); (case a14 => k_is); (case l14 => k_is); (case c14 => k_is); (case k14 => k_is); (case a15 => k_is); (case l15 => k_is); (case c15 => k_is); (case k15 => k_is); (case a16 => k_is); (case l16 => k_is); (case c16 => k_is); (case k16 => k_is); (case a17 => k_is); (case l17 => k_is); (case c17 => k_is); (case k17 => k_is); (case a18 => k_is); (case l18 => k_is); (case c18 => k_is); (case k18 => k_is); (case a19 => k_is); (case l19 => k_is); (case c19 => k_is); (case k19 => k_is); (case a20 => k_is); (case l20 => k_is); (case c20 => k_is); (case k20 => k_is); (case a21 => k_is); (case l21 => k_is); (case c21 => k_is); (case k21 => k_is); (case a22 => k_is); (case l22 => k_is); (case c22 => k_is); (case k22 => k_is); (case a23 => k_is); (case l23 => k_is); (case c23 => k_is); (case k23 => k_is); (case a24 => k_is); (case l24 => k_is); (case c24 => k_is); (case k24 => k_is); (case a25 => k_is); (case l25 => k_is); (case c25 => k_is); (case k25 => k_is); (case a26 => k_is); (case l26 => k_is); (case c26 => k_is); (case k26 => k_is); (case a27 => k_is); (case l27 => k_is); (case c27 => k_is); (case k27 => k_is); (case a28 => k_is); (case l28 => k_is); (case c28 => k_is); (case k28 => k_is); (case a29 => k_is); (case l29 => k_is); (case c29 => k_is); (case k29 => k_is); (case a30 => k_is); (case l30 => k_is); (case c30 => k_is); (case k30 => k_is); (case a31 => k_is); (case l31 => k_is); (case c31 => k_is); (case k31 => k_is); (case a32 => k_is); (case l32 => k_is); (case c32 => k_is); (case k32 => k_is); (case a33 => k_is); (case l33 => k_is); (case c33 => k_is); (case k33 => k_is); (case z_abs => k_is); (case z_all => k_is); (case z_bool => k_is); (case z_dict => k_is); (case z_int => k_is); (case z_isinstance => k_is); (case z_len => k_is); (case z_list => k_is); (case z_max => k_is); (case z_min => k_is); (case z_range => k_is); (case z_str => k_is); (case z_tuple => k_is)
