import PyProof.Rows.All
import Wide.All
import OpenK.AllK
import Wide.FinOn
import HandS.ForMost
import HandS.ForExc
import HandS.Walk
import HandS.Wide
import HandS.CallSlots
import HandS.Defaults
import KE.DataCmp
import HandS.TupMul
import HandS.TupAny
import KE.GoesEnum
import KE.GoesMore
import KE.DataMinMax
import HandS.Iter
import HandS.IsInst
import HandS.WideBits
import HandS.Struct
import KE.KMathG
import HandS.Zip
import HandS.NoneIn
import PyProof.AutoSeq1
import HandS.List
import HandS.TupLe
import HandS.ExcIs
import HandS.TryOnly
import HandS.ExcOwn
import KE.KExcInit
import HandS.Style
import HandS.Dict
import HandS.More
import HandS.Keys
import KE.BitLaws
import HandS.Text
import Flt.RightSqrt
import KE.SortData
import HandS.DeepEq
import HandS.StrMore
import HandS.ExcInit
import HandS.ExcField
import HandS.TryMany
import HandS.ExcCtx
import HandS.Flt
import HandS.Strs
import PySem.Challenge.RW_swarmwhole_k34_disk_that_falls

set_option Elab.async false
set_option linter.all false
set_option maxRecDepth 100000
/-! Mir: a deterministic mirror over the hand layer: plain data PV, an append-only heap of objects, one soundness lemma a construct. -/
namespace Mir
open PySem PySem.Spec PyProof.Rows L2

/-! ### data -/
inductive PV where
  | non | bl (b : Bool) | int (i : Int) | str (s : Str)
  | tup (xs : List PV) | lst (xs : List PV) | dct (ks : List Key) (vs : List PV) | ref (n : Nat)
inductive Ob where
  | lst (xs : List PV) | dct (ks : List Key) (vs : List PV) | ins (c : Str) (ns : List Str) (vs : List PV)
structure Xn where
  c : Str
  ns : List Str
  vs : List PV
abbrev Hh := List Ob
inductive Res (α : Type) where
  | ok (a : α) (h : Hh) | er (x : Xn) (h : Hh) | no
def Res.bind {α β : Type} (r : Res α) (f : α → Hh → Res β) : Res β := match r with
  | .ok a h => f a h
  | .er x h => .er x h
  | .no => .no
@[simp] theorem Res.bind_ok {α β : Type} (a : α) (h : Hh) (f : α → Hh → Res β) : (Res.ok a h).bind f = f a h := id rfl
@[simp] theorem Res.bind_er {α β : Type} (x : Xn) (h : Hh) (f : α → Hh → Res β) : (Res.er x h : Res α).bind f = .er x h := id rfl
@[simp] theorem Res.bind_no {α β : Type} (f : α → Hh → Res β) : (Res.no : Res α).bind f = .no := id rfl
inductive SV where
  | un | v (x : PV) | own (o : Ob) | ex (x : Xn)
abbrev En := List SV
abbrev ME := En → Hh → Res PV
abbrev MT := En → Hh → Res Bool
abbrev MA := En → Hh → Res (List PV)
inductive SR where
  | nx (env : En) (h : Hh) | rt (x : PV) (h : Hh) | bk (env : En) (h : Hh) | ct (env : En) (h : Hh) | er (x : Xn) (env : En) (h : Hh) | no
abbrev MS := En → Hh → SR

/-! ### what is what -/
structure Sx where
  K : PySem.W.Frag
  cA : Str → Option Addr
  ea : Addr
  ed : Option Addr
mutual
inductive PR (K : PySem.W.Frag) (Φ : Hp) (ad : List Addr) : PV → V → Prop
  | non : PR K Φ ad .non .non
  | bl (b : Bool) : PR K Φ ad (.bl b) (.bl b)
  | int (i : Int) : PR K Φ ad (.int i) (.int i)
  | str (x : Str) : PR K Φ ad (.str x) (.str x)
  | tup {a : Addr} {xs : List PV} {vs : List V} : SqT K Φ a vs → PRs K Φ ad xs vs → PR K Φ ad (.tup xs) (.ref a)
  | lst {a : Addr} {xs : List PV} {vs : List V} : SqL K Φ a vs → PRs K Φ ad xs vs → PR K Φ ad (.lst xs) (.ref a)
  | dct {a : Addr} {ks : List Key} {xs : List PV} {vs : List V} : ks.length = vs.length → Rd Φ a (.dK (ks.zip vs)) → PRs K Φ ad xs vs → PR K Φ ad (.dct ks xs) (.ref a)
  | ref {n : Nat} {a : Addr} : ad[n]? = some a → PR K Φ ad (.ref n) (.ref a)
inductive PRs (K : PySem.W.Frag) (Φ : Hp) (ad : List Addr) : List PV → List V → Prop
  | nil : PRs K Φ ad [] []
  | cons {x : PV} {v : V} {xs : List PV} {vs : List V} : PR K Φ ad x v → PRs K Φ ad xs vs → PRs K Φ ad (x :: xs) (v :: vs)
end
section
variable {K : PySem.W.Frag} {Φ Φ' : Hp} {ad ad' : List Addr}
theorem rd_mono (h : ∀ x o, Φ x = some o → Φ' x = some o) {a : Addr} {u : HO} (r : Rd Φ a u) : Rd Φ' a u := by
  rcases r with r | ⟨o, r⟩
  · exact .inl (h _ _ r)
  · exact .inr ⟨o, h _ _ r⟩
theorem sqT_mono (h : ∀ x o, Φ x = some o → Φ' x = some o) {a : Addr} {xs : List V} (r : SqT K Φ a xs) : SqT K Φ' a xs := r.imp (rd_mono h) id
theorem sqL_mono (h : ∀ x o, Φ x = some o → Φ' x = some o) {a : Addr} {xs : List V} (r : SqL K Φ a xs) : SqL K Φ' a xs := r.imp (rd_mono h) id
mutual
theorem PR.mono (h : ∀ x o, Φ x = some o → Φ' x = some o) (g : ∀ (n : Nat) (a : Addr), ad[n]? = some a → ad'[n]? = some a) : ∀ {x : PV} {v : V}, PR K Φ ad x v → PR K Φ' ad' x v
  | _, _, .non => .non
  | _, _, .bl b => .bl b
  | _, _, .int i => .int i
  | _, _, .str x => .str x
  | _, _, .tup r q => .tup (sqT_mono h r) (PRs.mono h g q)
  | _, _, .lst r q => .lst (sqL_mono h r) (PRs.mono h g q)
  | _, _, .dct e r q => .dct e (rd_mono h r) (PRs.mono h g q)
  | _, _, .ref e => .ref (g _ _ e)
theorem PRs.mono (h : ∀ x o, Φ x = some o → Φ' x = some o) (g : ∀ (n : Nat) (a : Addr), ad[n]? = some a → ad'[n]? = some a) : ∀ {xs : List PV} {vs : List V}, PRs K Φ ad xs vs → PRs K Φ' ad' xs vs
  | _, _, .nil => .nil
  | _, _, .cons r q => .cons (PR.mono h g r) (PRs.mono h g q)
end
theorem PRs.length : ∀ {xs : List PV} {vs : List V}, PRs K Φ ad xs vs → xs.length = vs.length
  | _, _, .nil => rfl
  | _, _, .cons _ q => by rw [List.length_cons, List.length_cons, PRs.length q]
theorem PRs.get : ∀ {xs : List PV} {vs : List V} {i : Nat} {x : PV}, PRs K Φ ad xs vs → xs[i]? = some x → ∃ v, vs[i]? = some v ∧ PR K Φ ad x v
  | _, _, _, _, .nil, e => by simp at e
  | _, _, 0, _, .cons r _, e => by simp at e; subst e; exact ⟨_, rfl, r⟩
  | _, _, i + 1, x, .cons _ q, e => by
    obtain ⟨v, h1, h2⟩ := PRs.get (i := i) (x := x) q (by simpa using e)
    exact ⟨v, by simpa using h1, h2⟩
theorem PRs.getV : ∀ {xs : List PV} {vs : List V} {i : Nat} {v : V}, PRs K Φ ad xs vs → vs[i]? = some v → ∃ x, xs[i]? = some x ∧ PR K Φ ad x v
  | _, _, _, _, .nil, e => by simp at e
  | _, _, 0, _, .cons r _, e => by simp at e; subst e; exact ⟨_, rfl, r⟩
  | _, _, i + 1, x, .cons _ q, e => by
    obtain ⟨v, h1, h2⟩ := PRs.getV (i := i) (v := x) q (by simpa using e)
    exact ⟨v, by simpa using h1, h2⟩
theorem PRs.append : ∀ {xs ys : List PV} {vs us : List V}, PRs K Φ ad xs vs → PRs K Φ ad ys us → PRs K Φ ad (xs ++ ys) (vs ++ us)
  | _, _, _, _, .nil, s => s
  | _, _, _, _, .cons r t, s => .cons r (PRs.append t s)
theorem PRs.take : ∀ {xs : List PV} {vs : List V} (n : Nat), PRs K Φ ad xs vs → PRs K Φ ad (xs.take n) (vs.take n)
  | _, _, 0, _ => .nil
  | _, _, _ + 1, .nil => .nil
  | _, _, n + 1, .cons r t => .cons r (PRs.take n t)
theorem PRs.drop : ∀ {xs : List PV} {vs : List V} (n : Nat), PRs K Φ ad xs vs → PRs K Φ ad (xs.drop n) (vs.drop n)
  | _, _, 0, r => r
  | _, _, _ + 1, .nil => .nil
  | _, _, n + 1, .cons _ t => PRs.drop n t
theorem PRs.set {x : PV} {v : V} (r : PR K Φ ad x v) : ∀ {xs : List PV} {vs : List V} (i : Nat), PRs K Φ ad xs vs → PRs K Φ ad (xs.set i x) (vs.set i v)
  | _, _, _, .nil => .nil
  | _, _, 0, .cons _ t => .cons r t
  | _, _, i + 1, .cons q t => .cons q (PRs.set r i t)
theorem PRs.ints : ∀ ns : List Int, PRs K Φ ad (ns.map PV.int) (ns.map V.int)
  | [] => .nil
  | n :: r => .cons (.int n) (PRs.ints r)
end

/-- a world: what is locked for ever, the abstract heap, where the objects stand -/
structure Wd where
  Φ : Hp
  H : Hp
  ad : List Addr
structure Ext (a b : Wd) : Prop where
  fz : ∀ x o, a.Φ x = some o → b.Φ x = some o
  ix : ∀ (n : Nat) (x : Addr), a.ad[n]? = some x → b.ad[n]? = some x
theorem Ext.refl (a : Wd) : Ext a a := ⟨fun _ _ e => e, fun _ _ e => e⟩
theorem Ext.trans {a b c : Wd} (s : Ext a b) (t : Ext b c) : Ext a c := ⟨fun x o e => t.fz x o (s.fz x o e), fun n x e => t.ix n x (s.ix n x e)⟩
structure Step (a b : Wd) : Prop where
  fz : ∀ x o, a.Φ x = some o → b.Φ x = some o
  ix : ∀ (n : Nat) (x : Addr), a.ad[n]? = some x → b.ad[n]? = some x
  nw : ∀ x ∈ b.ad, x ∈ a.ad ∨ a.H x = none
  kp : ∀ x o, a.H x = some o → x ∉ a.ad → b.H x = some o
  th : ∀ x, a.H x ≠ none → b.H x ≠ none
  fn : ∀ x o, b.Φ x = some o → a.Φ x = some o ∨ a.H x = none
theorem mem_ix {l : List Addr} {x : Addr} (h : x ∈ l) : ∃ n : Nat, l[n]? = some x := by
  obtain ⟨n, hn, e⟩ := List.getElem_of_mem h
  exact ⟨n, by rw [List.getElem?_eq_getElem hn, e]⟩
theorem Step.ext {a b : Wd} (s : Step a b) : Ext a b := ⟨s.fz, s.ix⟩
theorem Step.refl (a : Wd) : Step a a := ⟨fun _ _ e => e, fun _ _ e => e, fun _ h => .inl h, fun _ _ e _ => e, fun _ h => h, fun _ _ e => .inl e⟩
theorem Step.trans {a b c : Wd} (s : Step a b) (t : Step b c) : Step a c where
  fz := fun x o e => t.fz x o (s.fz x o e)
  ix := fun n x e => t.ix n x (s.ix n x e)
  nw := fun x hx => by
    rcases t.nw x hx with h | h
    · exact s.nw x h
    · refine .inr ?_
      cases e : a.H x with
      | none => rfl
      | some o => exact absurd h (s.th x (by rw [e]; simp))
  kp := fun x o e hx => t.kp x o (s.kp x o e hx) fun hb => by
    rcases s.nw x hb with h | h
    · exact hx h
    · rw [e] at h; cases h
  th := fun x h => t.th x (s.th x h)
  fn := fun x o e => by
    rcases t.fn x o e with h | h
    · exact s.fn x o h
    · refine .inr ?_
      cases q : a.H x with
      | none => rfl
      | some o => exact absurd h (s.th x (by rw [q]; simp))
abbrev PW' (S : Sx) (w : Wd) (x : PV) (v : V) : Prop := PR S.K w.Φ w.ad x v
abbrev PWs (S : Sx) (w : Wd) (xs : List PV) (vs : List V) : Prop := PRs S.K w.Φ w.ad xs vs
theorem Ext.pr {S : Sx} {a b : Wd} (s : Ext a b) {x : PV} {v : V} (r : PW' S a x v) : PW' S b x v := PR.mono s.fz s.ix r
theorem Ext.prs {S : Sx} {a b : Wd} (s : Ext a b) {x : List PV} {v : List V} (r : PWs S a x v) : PWs S b x v := PRs.mono s.fz s.ix r
theorem Step.pr {S : Sx} {a b : Wd} (s : Step a b) {x : PV} {v : V} (r : PW' S a x v) : PW' S b x v := PR.mono s.fz s.ix r
theorem Step.prs {S : Sx} {a b : Wd} (s : Step a b) {x : List PV} {v : List V} (r : PWs S a x v) : PWs S b x v := PRs.mono s.fz s.ix r

/-- an object at a -/
def RO (S : Sx) (w : Wd) (a : Addr) : Ob → Prop
  | .lst xs => ∃ vs, w.H a = some (.lst vs) ∧ PWs S w xs vs
  | .dct ks xs => ∃ vs, ks.length = vs.length ∧ w.H a = some (.dK (ks.zip vs)) ∧ PWs S w xs vs
  | .ins c ns xs => ∃ C dx vs, S.cA c = some C ∧ ns.length = vs.length ∧ w.H a = some (.ins C dx (ns.zip vs)) ∧ PWs S w xs vs
theorem RO.there {S : Sx} {w : Wd} {a : Addr} {o : Ob} (h : RO S w a o) : w.H a ≠ none := by
  cases o with
  | lst xs => obtain ⟨vs, e, _⟩ := h; rw [e]; simp
  | dct ks xs => obtain ⟨vs, _, e, _⟩ := h; rw [e]; simp
  | ins c ns xs => obtain ⟨C, dx, vs, _, _, e, _⟩ := h; rw [e]; simp
theorem RO.step {S : Sx} {w w' : Wd} {a : Addr} {o : Ob} (s : Step w w') (h : RO S w a o) (k : ∀ u, w.H a = some u → w'.H a = some u) : RO S w' a o := by
  cases o with
  | lst xs => obtain ⟨vs, e, r⟩ := h; exact ⟨vs, k _ e, s.prs r⟩
  | dct ks xs => obtain ⟨vs, l, e, r⟩ := h; exact ⟨vs, l, k _ e, s.prs r⟩
  | ins c ns xs => obtain ⟨C, dx, vs, c, l, e, r⟩ := h; exact ⟨C, dx, vs, c, l, k _ e, s.prs r⟩
/-- the objects stand -/
structure Hd (S : Sx) (w : Wd) (h : Hh) : Prop where
  sub : ∀ x o, w.Φ x = some o → w.H x = some o
  len : w.ad.length = h.length
  nd : w.ad.Nodup
  sep : ∀ x ∈ w.ad, w.Φ x = none
  obj : ∀ (n : Nat) (o : Ob) (a : Addr), h[n]? = some o → w.ad[n]? = some a → RO S w a o
theorem RO.conv {S S' : Sx} {w : Wd} {a : Addr} {o : Ob} (hK : S.K = S'.K) (hc : S.cA = S'.cA) (h : RO S w a o) : RO S' w a o := by
  obtain ⟨K, cA, e⟩ := S
  obtain ⟨K', cA', e'⟩ := S'
  simp only at hK hc
  subst hK hc
  cases o with
  | lst xs => exact h
  | dct ks xs => exact h
  | ins c ns xs => exact h
theorem Hd.conv {S S' : Sx} {w : Wd} {h : Hh} (hK : S.K = S'.K) (hc : S.cA = S'.cA) (d : Hd S w h) : Hd S' w h := ⟨d.sub, d.len, d.nd, d.sep, fun n o a e f => (d.obj n o a e f).conv hK hc⟩
/-- an exception's own dict -/
def XD (S : Sx) (w : Wd) (d : Option Addr) (x : Xn) : Prop := (x.ns = [] ∧ d = none) ∨ ∃ dd vs, d = some dd ∧ (x.ns ≠ [] ∧ x.ns.length = vs.length) ∧ w.H dd = some (.xd (x.ns.zip vs)) ∧ dd ∉ w.ad ∧ PWs S w x.vs vs
theorem XD.step {S : Sx} {w w' : Wd} {d : Option Addr} {x : Xn} (s : Step w w') (h : XD S w d x) : XD S w' d x := by
  rcases h with h | ⟨dd, vs, e1, e2, e3, e4, e5⟩
  · exact .inl h
  · refine .inr ⟨dd, vs, e1, e2, s.kp _ _ e3 e4, fun hb => ?_, s.prs e5⟩
    rcases s.nw dd hb with k | k
    · exact e4 k
    · rw [e3] at k; cases k
/-- the slots -/
structure Sl (S : Sx) (w0 w : Wd) (env : En) (σ : L2.St) : Prop where
  len : env.length = σ.length
  slot : ∀ (i : Nat) (x : PV), env[i]? = some (.v x) → ∃ v, σ[i]? = some (some v) ∧ PW' S w x v
  own : ∀ (i : Nat) (o : Ob), env[i]? = some (.own o) → ∃ a, σ[i]? = some (some (.ref a)) ∧ RO S w a o ∧ w.Φ a = none ∧ a ∉ w.ad ∧ w0.H a = none
  sep : ∀ (i j : Nat) (o o' : Ob) (a : Addr), env[i]? = some (.own o) → env[j]? = some (.own o') → σ[i]? = some (some (.ref a)) → σ[j]? = some (some (.ref a)) → i = j
  exq : ∀ (i : Nat) (x : Xn), env[i]? = some (.ex x) → σ[i]? = some (some (.ref S.ea)) ∧ XD S w S.ed x
theorem exq_set {S : Sx} {w : Wd} {env : En} {σ : L2.St} (s : ∀ (i : Nat) (x : Xn), env[i]? = some (.ex x) → σ[i]? = some (some (.ref S.ea)) ∧ XD S w S.ed x) (i : Nat) {x : SV} (hx : ∀ y, x ≠ .ex y) (u : Option V) : ∀ (j : Nat) (y : Xn), (env.set i x)[j]? = some (.ex y) → (σ.set i u)[j]? = some (some (.ref S.ea)) ∧ XD S w S.ed y := fun j y e => by
  by_cases hj : i = j
  · subst hj
    by_cases hl : i < env.length
    · rw [List.getElem?_set_self hl] at e; cases e; exact absurd rfl (hx y)
    · rw [List.getElem?_eq_none (by simpa using hl)] at e; cases e
  · rw [List.getElem?_set_ne hj] at e ⊢; exact s j y e
theorem Sl.step {S : Sx} {w0 w w' : Wd} {env : En} {σ : L2.St} (h : Sl S w0 w env σ) (s : Step w w') : Sl S w0 w' env σ where
  len := h.len
  slot := fun i x e => let ⟨v, a, b⟩ := h.slot i x e; ⟨v, a, s.pr b⟩
  own := fun i o e => by
    obtain ⟨a, e1, r, f, n, z⟩ := h.own i o e
    refine ⟨a, e1, r.step s fun u q => s.kp a u q n, ?_, fun hb => ?_, z⟩
    · cases q : w'.Φ a with
      | none => rfl
      | some o' =>
        rcases s.fn a o' q with k | k
        · rw [f] at k; cases k
        · exact absurd k r.there
    · rcases s.nw a hb with k | k
      · exact n k
      · exact absurd k r.there
  sep := h.sep
  exq := fun i x e => ⟨(h.exq i x e).1, (h.exq i x e).2.step s⟩
structure Rl (S : Sx) (w0 w : Wd) (env : En) (h : Hh) (σ : L2.St) : Prop where
  st : Step w0 w
  hd : Hd S w h
  sl : Sl S w0 w env σ
theorem Rl.step {S : Sx} {w0 w w' : Wd} {env : En} {h h' : Hh} {σ : L2.St} (r : Rl S w0 w env h σ) (s : Step w w') (d : Hd S w' h') : Rl S w0 w' env h' σ := ⟨r.st.trans s, d, r.sl.step s⟩
/-- an exception -/
def RX (S : Sx) (w : Wd) (x : Xn) (cls : Value) (d : Option Addr) : Prop :=
  ∃ C, S.cA x.c = some C ∧ cls = .ref C ∧ XD S w d x

/-! ### what follows a result -/
def PostE {α β : Type} (S : Sx) (W : WX) (w : Wd) (σ : L2.St) (R : Wd → Wd → α → β → Prop) (r : Res α) (Q : β → Hp → Prop) : Prop := match r with
  | .ok x h' => ∀ w' v, Step w w' → Hd S w' h' → R w w' x v → Q v w'.H
  | .er x h' => ∀ w' cls d, Step w w' → Hd S w' h' → RX S w' x cls d → W cls d σ w'.H
  | .no => False
/-- a relation of results by the state ahead and the state behind -/
abbrev RR (α β : Type) := Wd → Wd → α → β → Prop
class Back {α β : Type} (R : RR α β) : Prop where
  back : ∀ w w1 w' x v, Step w w1 → R w1 w' x v → R w w' x v
section
variable {α β γ δ : Type} {S : Sx} {W : WX} {w w1 : Wd} {σ : L2.St} {R : RR α β} {R1 : RR γ δ} {Q : β → Hp → Prop} {Q1 : δ → Hp → Prop}
theorem PostE.mono [b : Back R] {r : Res α} (s : Step w w1) (p : PostE S W w σ R r Q) : PostE S W w1 σ R r Q := by
  cases r with
  | ok x h' => exact fun w' v t d q => p w' v (s.trans t) d (b.back _ _ _ _ _ s q)
  | er x h' => exact fun w' c d t e q => p w' c d (s.trans t) e q
  | no => exact p
theorem PostE.bind [Back R] {r : Res γ} {f : γ → Hh → Res α} (p : PostE S W w σ R (r.bind f) Q)
    (k : ∀ x h1 w1 v, Step w w1 → Hd S w1 h1 → R1 w w1 x v → PostE S W w1 σ R (f x h1) Q → Q1 v w1.H) : PostE S W w σ R1 r Q1 := by
  cases r with
  | ok x h1 => exact fun w1 v s d q => k x h1 w1 v s d q (p.mono s)
  | er x h' => exact p
  | no => exact p
theorem PostE.bind0 {r : Res γ} {f : γ → Hh → Res α} (p : PostE S W w σ R (r.bind f) Q)
    (k : ∀ x h1 w1 v, Step w w1 → Hd S w1 h1 → R1 w w1 x v → PostE S W w σ R (f x h1) Q → Q1 v w1.H) : PostE S W w σ R1 r Q1 := by
  cases r with
  | ok x h1 => exact fun w1 v s d q => k x h1 w1 v s d q p
  | er x h' => exact p
  | no => exact p
theorem PostE.fin {x : α} {h : Hh} {v : β} (p : PostE S W w σ R (.ok x h) Q) (d : Hd S w h) (r : R w w x v) : Q v w.H := p w v (Step.refl w) d r
/-- the same results, seen otherwise -/
theorem PostE.imp {R' : RR α β} {r : Res α} (p : PostE S W w σ R r Q) (k : ∀ w' x v, R' w w' x v → R w w' x v) : PostE S W w σ R' r Q := by
  cases r with
  | ok x h' => exact fun w' v t d q => p w' v t d (k _ _ _ q)
  | er x h' => exact p
  | no => exact p
end
/-- a value that may be kept -/
abbrev RV (S : Sx) : RR PV V := fun _ w' x v => PW' S w' x v
abbrev RVs (S : Sx) : RR (List PV) (List V) := fun _ w' x v => PWs S w' x v
abbrev RB : RR Bool Bool := fun _ _ a b => a = b
/-- a value that may be read now: kept, or a list (a dict) of nobody's -/
inductive PB (S : Sx) (w : Wd) : PV → V → Prop
  | val {x : PV} {v : V} : PW' S w x v → PB S w x v
  | lst {a : Addr} {xs : List PV} {vs : List V} : w.H a = some (.lst vs) → a ∉ w.ad → PWs S w xs vs → PB S w (.lst xs) (.ref a)
  | dct {a : Addr} {ks : List Key} {xs : List PV} {vs : List V} : w.H a = some (.dK (ks.zip vs)) → ks.length = vs.length → a ∉ w.ad → PWs S w xs vs → PB S w (.dct ks xs) (.ref a)
/-- a value that is read at this very place: kept, or a list (a dict) of anybody's -/
inductive PB0 (S : Sx) (w : Wd) : PV → V → Prop
  | val {x : PV} {v : V} : PW' S w x v → PB0 S w x v
  | lst {a : Addr} {xs : List PV} {vs : List V} : w.H a = some (.lst vs) → PWs S w xs vs → PB0 S w (.lst xs) (.ref a)
  | dct {a : Addr} {ks : List Key} {xs : List PV} {vs : List V} : w.H a = some (.dK (ks.zip vs)) → ks.length = vs.length → PWs S w xs vs → PB0 S w (.dct ks xs) (.ref a)
theorem PB.z {S : Sx} {w : Wd} {x : PV} {v : V} (p : PB S w x v) : PB0 S w x v := by
  cases p with
  | val r => exact .val r
  | lst e n r => exact .lst e r
  | dct e l n r => exact .dct e l r
abbrev RBo (S : Sx) : RR PV V := fun _ w' x v => PB S w' x v
/-- a new list, nobody's -/
abbrev RN (S : Sx) : RR (List PV) V := fun w w' xs v => ∃ a vs, v = .ref a ∧ w'.H a = some (.lst vs) ∧ PWs S w' xs vs ∧ a ∉ w'.ad ∧ w'.Φ a = none ∧ w.H a = none
theorem Step.fr {a b : Wd} (s : Step a b) {x : Addr} (h : b.H x = none) : a.H x = none := by
  cases q : a.H x with
  | none => rfl
  | some o => exact absurd h (s.th x (by rw [q]; simp))
instance {S : Sx} : Back (RV S) := ⟨fun _ _ _ _ _ _ h => h⟩
instance {S : Sx} : Back (RVs S) := ⟨fun _ _ _ _ _ _ h => h⟩
instance : Back RB := ⟨fun _ _ _ _ _ _ h => h⟩
instance {S : Sx} : Back (RBo S) := ⟨fun _ _ _ _ _ _ h => h⟩
instance {S : Sx} : Back (RN S) := ⟨fun _ _ _ _ _ s ⟨a, vs, e, h, r, n, f, z⟩ => ⟨a, vs, e, h, r, n, f, s.fr z⟩⟩
theorem PB.step {S : Sx} {w w' : Wd} {x : PV} {v : V} (s : Step w w') (h : PB S w x v) : PB S w' x v := by
  cases h with
  | val r => exact .val (s.pr r)
  | @lst a xs vs e n r =>
    refine .lst (s.kp _ _ e n) (fun hb => ?_) (s.prs r)
    rcases s.nw _ hb with k | k
    · exact n k
    · rw [e] at k; cases k
  | @dct a ks xs vs e l n r =>
    refine .dct (s.kp _ _ e n) l (fun hb => ?_) (s.prs r)
    rcases s.nw _ hb with k | k
    · exact n k
    · rw [e] at k; cases k
/-- what follows a statement -/
def PostS (S : Sx) (W : WX) (w0 w : Wd) (r : SR) (D : Ends) : Prop := match r with
  | .nx env h => ∀ w' σ', Ext w w' → Rl S w0 w' env h σ' → D.nx σ' w'.H
  | .rt x h => ∀ w' v, Step w0 w' → Hd S w' h → PW' S w' x v → D.rt v w'.H
  | .bk env h => ∀ w' σ', Ext w w' → Rl S w0 w' env h σ' → D.bk σ' w'.H
  | .ct env h => ∀ w' σ', Ext w w' → Rl S w0 w' env h σ' → D.ct σ' w'.H
  | .er x env h => ∀ w' σ' cls d, Ext w w' → Rl S w0 w' env h σ' → RX S w' x cls d → W cls d σ' w'.H
  | .no => False
section
variable {S : Sx} {w : Wd} {h : Hh} {v : V}
theorem Hd.sqT (d : Hd S w h) {a : Addr} {xs : List V} (r : SqT S.K w.Φ a xs) : SqT S.K w.H a xs := sqT_mono d.sub r
theorem Hd.sqL (d : Hd S w h) {a : Addr} {xs : List V} (r : SqL S.K w.Φ a xs) : SqL S.K w.H a xs := sqL_mono d.sub r
theorem PB.ofNon (p : PB S w .non v) : v = .non := by cases p with | val r => cases r; rfl
theorem PB.ofBl {b : Bool} (p : PB S w (.bl b) v) : v = .bl b := by cases p with | val r => cases r; rfl
theorem PB.ofInt {b : Int} (p : PB S w (.int b) v) : v = .int b := by cases p with | val r => cases r; rfl
theorem PB.ofStr {b : Str} (p : PB S w (.str b) v) : v = .str b := by cases p with | val r => cases r; rfl
theorem PB.ofTup {xs : List PV} (d : Hd S w h) (p : PB S w (.tup xs) v) : ∃ a vs, v = .ref a ∧ SqT S.K w.H a vs ∧ PWs S w xs vs := by
  cases p with
  | val r => cases r with | tup q t => exact ⟨_, _, rfl, d.sqT q, t⟩
theorem PB.ofLst {xs : List PV} (d : Hd S w h) (p : PB S w (.lst xs) v) : ∃ a vs, v = .ref a ∧ SqL S.K w.H a vs ∧ PWs S w xs vs := by
  cases p with
  | val r => cases r with | lst q t => exact ⟨_, _, rfl, d.sqL q, t⟩
  | lst e n r => exact ⟨_, _, rfl, SqL.of e, r⟩
theorem PB.ofDct {ks : List Key} {xs : List PV} (d : Hd S w h) (p : PB S w (.dct ks xs) v) : ∃ a vs, v = .ref a ∧ ks.length = vs.length ∧ Rd w.H a (.dK (ks.zip vs)) ∧ PWs S w xs vs := by
  cases p with
  | val r => cases r with | dct l q t => exact ⟨_, _, rfl, l, rd_mono d.sub q, t⟩
  | dct e l n r => exact ⟨_, _, rfl, l, .inl e, r⟩
theorem PB.ofRef {n : Nat} (p : PB S w (.ref n) v) : ∃ a, v = .ref a ∧ w.ad[n]? = some a := by
  cases p with
  | val r => cases r with | ref e => exact ⟨_, rfl, e⟩
theorem PB0.ofNon (p : PB0 S w .non v) : v = .non := by cases p with | val r => cases r; rfl
theorem PB0.ofBl {b : Bool} (p : PB0 S w (.bl b) v) : v = .bl b := by cases p with | val r => cases r; rfl
theorem PB0.ofInt {b : Int} (p : PB0 S w (.int b) v) : v = .int b := by cases p with | val r => cases r; rfl
theorem PB0.ofStr {b : Str} (p : PB0 S w (.str b) v) : v = .str b := by cases p with | val r => cases r; rfl
theorem PB0.ofTup {xs : List PV} (d : Hd S w h) (p : PB0 S w (.tup xs) v) : ∃ a vs, v = .ref a ∧ SqT S.K w.H a vs ∧ PWs S w xs vs := by
  cases p with
  | val r => cases r with | tup q t => exact ⟨_, _, rfl, d.sqT q, t⟩
theorem PB0.ofLst {xs : List PV} (d : Hd S w h) (p : PB0 S w (.lst xs) v) : ∃ a vs, v = .ref a ∧ SqL S.K w.H a vs ∧ PWs S w xs vs := by
  cases p with
  | val r => cases r with | lst q t => exact ⟨_, _, rfl, d.sqL q, t⟩
  | lst e r => exact ⟨_, _, rfl, SqL.of e, r⟩
theorem PB0.ofDct {ks : List Key} {xs : List PV} (d : Hd S w h) (p : PB0 S w (.dct ks xs) v) : ∃ a vs, v = .ref a ∧ ks.length = vs.length ∧ Rd w.H a (.dK (ks.zip vs)) ∧ PWs S w xs vs := by
  cases p with
  | val r => cases r with | dct l q t => exact ⟨_, _, rfl, l, rd_mono d.sub q, t⟩
  | dct e l r => exact ⟨_, _, rfl, l, .inl e, r⟩
theorem PB0.ofRef {n : Nat} (p : PB0 S w (.ref n) v) : ∃ a, v = .ref a ∧ w.ad[n]? = some a := by
  cases p with
  | val r => cases r with | ref e => exact ⟨_, rfl, e⟩
/-- the object of a ref -/
theorem Hd.at (d : Hd S w h) {n : Nat} {o : Ob} {a : Addr} (e : h[n]? = some o) (f : w.ad[n]? = some a) : RO S w a o := d.obj n o a e f
/-- what stands at a ref to a list, a dict -/
def de (h : Hh) (x : PV) : PV := match x with
  | .ref n => match h[n]? with
    | some (.lst xs) => .lst xs
    | some (.dct ks vs) => .dct ks vs
    | _ => .ref n
  | x => x
theorem PB0.de (d : Hd S w h) {x : PV} (p : PB0 S w x v) : PB0 S w (Mir.de h x) v := by
  unfold Mir.de
  split
  · rename_i n
    obtain ⟨a, rfl, e⟩ := p.ofRef
    split
    · rename_i xs eh
      obtain ⟨vs, e1, r⟩ := d.obj n _ a eh e
      exact .lst e1 r
    · rename_i ks vs eh
      obtain ⟨us, l, e1, r⟩ := d.obj n _ a eh e
      exact .dct e1 l r
    · exact p
  · exact p
/-- a new locked object -/
def Wd.lock (w : Wd) (a : Addr) (o : HO) : Wd := ⟨upd w.Φ a o, upd w.H a o, w.ad⟩
theorem Hd.fresh (d : Hd S w h) {a : Addr} (z : w.H a = none) : w.Φ a = none := by
  cases e : w.Φ a with
  | none => rfl
  | some o => rw [d.sub a o e] at z; cases z
theorem Hd.notAd (d : Hd S w h) {a : Addr} (z : w.H a = none) : a ∉ w.ad := fun hm => by
  obtain ⟨n, e⟩ := mem_ix hm
  have hn : n < h.length := by rw [← d.len]; exact (List.getElem?_eq_some_iff.mp e).1
  exact (d.obj n _ a (List.getElem?_eq_getElem hn) e).there z
theorem upd_sub {Φ H : Hp} {a : Addr} {o : HO} (s : ∀ x o, Φ x = some o → H x = some o) : ∀ x u, upd Φ a o x = some u → upd H a o x = some u := fun x u e => by
  by_cases hx : x = a
  · subst hx; rw [upd_same] at e ⊢; exact e
  · rw [upd_ne hx] at e ⊢; exact s x u e
theorem Step.lock (d : Hd S w h) {a : Addr} {o : HO} (z : w.H a = none) : Step w (w.lock a o) where
  fz := fun x u e => by
    show upd w.Φ a o x = some u
    have : x ≠ a := fun q => by rw [q, d.fresh z] at e; cases e
    rw [upd_ne this]; exact e
  ix := fun _ _ e => e
  nw := fun _ hx => .inl hx
  kp := fun x u e _ => by
    show upd w.H a o x = some u
    have : x ≠ a := fun q => by rw [q, z] at e; cases e
    rw [upd_ne this]; exact e
  th := fun x e => by
    show upd w.H a o x ≠ Option.none
    by_cases hx : x = a
    · subst hx; rw [upd_same]; simp
    · rw [upd_ne hx]; exact e
  fn := fun x u e => by
    by_cases hx : x = a
    · subst hx; exact .inr z
    · have e' : upd w.Φ a o x = some u := e
      rw [upd_ne hx] at e'; exact .inl e'
theorem Hd.lock (d : Hd S w h) {a : Addr} {o : HO} (z : w.H a = none) : Hd S (w.lock a o) h where
  sub := upd_sub d.sub
  len := d.len
  nd := d.nd
  sep := fun x hx => by
    show upd w.Φ a o x = Option.none
    have : x ≠ a := fun q => d.notAd z (by rw [← q]; exact hx)
    rw [upd_ne this]; exact d.sep x hx
  obj := fun n ob x e f => (d.obj n ob x e f).step (Step.lock d z) fun u q => by
    show upd w.H a o x = some u
    have : x ≠ a := fun hq => by rw [hq, z] at q; cases q
    rw [upd_ne this]; exact q
/-- a new object that may be changed: the heap grows -/
def Wd.more (w : Wd) (a : Addr) (o : HO) : Wd := ⟨w.Φ, upd w.H a o, w.ad ++ [a]⟩
/-- a new object of nobody's -/
def Wd.put (w : Wd) (a : Addr) (o : HO) : Wd := ⟨w.Φ, upd w.H a o, w.ad⟩
end
end Mir

set_option Elab.async false
set_option linter.all false
set_option maxRecDepth 100000
namespace Mir
open PySem PySem.Spec PyProof.Rows L2

/-! ### a family of contexts: one term for all of them -/
structure Fam where
  ι : Type
  P : Program
  w : World
  K : PySem.W.Frag
  mg : Str → Option Value
  base : Heap
  N : List Str
  calm : Bool
  cA : Str → Option Addr
  ea : Addr
  ed : Option Addr
  k : Nat
  A : ι → Around
  s0 : ι → Shared
  H0 : ι → Hp
  env : ι → PySem.Env
  outer : ι → List PySem.Env
  stack : ι → List PySem.Env
  ex : ι → List Addr
  fn : ι → Str → Bool
  pn : ι → List (Addr × Obj)
  xe : ι → Value → Shared → Prop
  W : ι → WX
def Fam.X (F : Fam) (i : F.ι) : Cx where
  prog := F.P
  w := F.w
  K := F.K
  mg := F.mg
  base := F.base
  A := F.A i
  N := F.N
  s_0 := F.s0 i
  H_0 := F.H0 i
  env := F.env i
  outer := F.outer i
  stack := F.stack i
  ex := F.ex i
  fn := F.fn i
  calm := F.calm
  pn := F.pn i
  xe := F.xe i
abbrev Fam.S (F : Fam) : Sx := ⟨F.K, F.cA, F.ea, F.ed⟩
structure Fam.Ok (F : Fam) : Prop where
  tk : ∀ i, Takes (F.X i) (F.W i)
  hr : ∀ i, Room F.k (F.A i)
  nd : F.N.Nodup
  po : ∀ i, PassesOwn (model F.P F.w) (F.A i) (F.env i) (F.xe i)

/-! ### the judgements: a rule's term, its reading, its mirror -/
def RdG {α β : Type} (S : Sx) (R : RR α β) (W : WX) (t : L2.St → Hp → (β → Hp → Prop) → Prop) (m : En → Hh → Res α) : Prop :=
  ∀ (w0 w : Wd) (env : En) (h : Hh) (σ : L2.St) (Q : β → Hp → Prop), Rl S w0 w env h σ → PostE S W w σ R (m env h) Q → t σ w.H Q
/-- a value that may be kept -/
def SE (F : Fam) (e : Expr) (m : ME) : Prop := ∃ t : WX → TE, (∀ i, PE (F.X i) e (t (F.W i))) ∧ ∀ W, RdG F.S (RV F.S) W (t W) m
/-- a value that is read at once -/
def SB (F : Fam) (e : Expr) (m : ME) : Prop := ∃ t : WX → TE, (∀ i, PE (F.X i) e (t (F.W i))) ∧ ∀ W, RdG F.S (RBo F.S) W (t W) m
/-- a new list -/
def SN (F : Fam) (e : Expr) (m : MA) : Prop := ∃ t : WX → TE, (∀ i, PE (F.X i) e (t (F.W i))) ∧ ∀ W, RdG F.S (RN F.S) W (t W) m
/-- a test -/
def ST (F : Fam) (e : Expr) (m : MT) : Prop := ∃ t : WX → TT, (∀ i, PT (F.X i) e (t (F.W i))) ∧ ∀ W, RdG F.S RB W (t W) m
def SW (F : Fam) (e : Expr) (m : MT) : Prop := ∃ t : WX → TT, (∀ i, PW (F.X i) e (t (F.W i))) ∧ ∀ W, RdG F.S RB W (t W) m
/-- arguments that may be kept; that are read at once -/
def SA (F : Fam) (es : List Expr) (m : MA) : Prop := ∃ t : WX → TA, (∀ i, PA (F.X i) es (t (F.W i))) ∧ ∀ W, RdG F.S (RVs F.S) W (t W) m
inductive PBs (S : Sx) (w : Wd) : List PV → List V → Prop
  | nil : PBs S w [] []
  | cons {x : PV} {v : V} {xs : List PV} {vs : List V} : PB S w x v → PBs S w xs vs → PBs S w (x :: xs) (v :: vs)
abbrev RBs (S : Sx) : RR (List PV) (List V) := fun _ w' x v => PBs S w' x v
instance {S : Sx} : Back (RBs S) := ⟨fun _ _ _ _ _ _ h => h⟩
def SAB (F : Fam) (es : List Expr) (m : MA) : Prop := ∃ t : WX → TA, (∀ i, PA (F.X i) es (t (F.W i))) ∧ ∀ W, RdG F.S (RBs F.S) W (t W) m
inductive PB0s (S : Sx) (w : Wd) : List PV → List V → Prop
  | nil : PB0s S w [] []
  | cons {x : PV} {v : V} {xs : List PV} {vs : List V} : PB0 S w x v → PB0s S w xs vs → PB0s S w (x :: xs) (v :: vs)
theorem PBs.z {S : Sx} {w : Wd} : ∀ {xs : List PV} {vs : List V}, PBs S w xs vs → PB0s S w xs vs
  | _, _, .nil => .nil
  | _, _, .cons r t => .cons r.z (PBs.z t)
theorem PB0s.de {S : Sx} {w : Wd} {h : Hh} (d : Hd S w h) : ∀ {xs : List PV} {vs : List V}, PB0s S w xs vs → PB0s S w (xs.map (Mir.de h)) vs
  | _, _, .nil => .nil
  | _, _, .cons r t => .cons (r.de d) (PB0s.de d t)
theorem PBs.step {S : Sx} {w w' : Wd} (s : Step w w') : ∀ {xs : List PV} {vs : List V}, PBs S w xs vs → PBs S w' xs vs
  | _, _, .nil => .nil
  | _, _, .cons r t => .cons (r.step s) (PBs.step s t)

section
variable {F : Fam} {e ea eb ec : Expr} {pos : Pos}
theorem SE.b {m : ME} (h : SE F e m) : SB F e m := by
  obtain ⟨t, p, q⟩ := h
  exact ⟨t, p, fun W w0 w env h σ Q r po => q W w0 w env h σ Q r (po.imp fun _ _ _ z => .val z)⟩
def mFz (m : MA) : ME := fun env h => (m env h).bind fun xs h => .ok (.lst xs) h
/-- a new list that nobody has, locked -/
theorem lockN {S : Sx} {w0 w : Wd} {h : Hh} {a : Addr} {vs : List V} (d : Hd S w h) (e : w.H a = some (.lst vs)) (n : a ∉ w.ad) (f : w.Φ a = none) (z : w0.H a = none) (s : Step w0 w) :
    ∃ w', w'.H = w.H ∧ Step w0 w' ∧ Ext w w' ∧ Hd S w' h ∧ SqL S.K w'.Φ a vs ∧ w'.ad = w.ad := by
  refine ⟨⟨upd w.Φ a (.lst vs), w.H, w.ad⟩, rfl, ?_, ?_, ?_, .inl (.inl upd_same), rfl⟩
  · refine ⟨fun x o q => ?_, s.ix, s.nw, s.kp, s.th, fun x o q => ?_⟩
    · show upd w.Φ a (.lst vs) x = some o
      have : x ≠ a := fun hx => by rw [hx] at q; have := s.fz _ _ q; rw [f] at this; cases this
      rw [upd_ne this]; exact s.fz x o q
    · by_cases hx : x = a
      · subst hx; exact .inr z
      · have q' : upd w.Φ a (.lst vs) x = some o := q
        rw [upd_ne hx] at q'; exact s.fn x o q'
  · refine ⟨fun x o q => ?_, fun _ _ q => q⟩
    show upd w.Φ a (.lst vs) x = some o
    have : x ≠ a := fun hx => by rw [hx, f] at q; cases q
    rw [upd_ne this]; exact q
  · have ex : Ext w ⟨upd w.Φ a (.lst vs), w.H, w.ad⟩ := by
      refine ⟨fun x o q => ?_, fun _ _ q => q⟩
      show upd w.Φ a (.lst vs) x = some o
      have : x ≠ a := fun hx => by rw [hx, f] at q; cases q
      rw [upd_ne this]; exact q
    refine ⟨fun x o q => ?_, d.len, d.nd, fun x hx => ?_, fun k o x p q => ?_⟩
    · by_cases hx : x = a
      · subst hx
        have q' : upd w.Φ x (.lst vs) x = some o := q
        rw [upd_same] at q'; cases q'; exact e
      · have q' : upd w.Φ a (.lst vs) x = some o := q
        rw [upd_ne hx] at q'; exact d.sub x o q'
    · show upd w.Φ a (.lst vs) x = none
      have : x ≠ a := fun hq => n (by rw [← hq]; exact hx)
      rw [upd_ne this]; exact d.sep x hx
    · have r := d.obj k o x p q
      cases o with
      | lst xs => obtain ⟨us, e1, r1⟩ := r; exact ⟨us, e1, ex.prs r1⟩
      | dct ks xs => obtain ⟨us, l1, e1, r1⟩ := r; exact ⟨us, l1, e1, ex.prs r1⟩
      | ins cc ns xs => obtain ⟨C, dx, us, c1, l1, e1, r1⟩ := r; exact ⟨C, dx, us, c1, l1, e1, ex.prs r1⟩
theorem SN.fz {m : MA} (h : SN F e m) : SE F e (mFz m) := by
  obtain ⟨t, p, q⟩ := h
  refine ⟨t, p, fun W w0 w env h σ Q r po => q W w0 w env h σ Q r (PostE.bind0 po fun xs h1 w1 v s d ⟨a, vs, ev, ea, rs, n, f, z⟩ p1 => ?_)⟩
  subst ev
  obtain ⟨w2, eH, s2, x2, d2, sq, ead⟩ := lockN d ea n f z s
  rw [← eH]
  exact p1 w2 _ s2 d2 (.lst sq (x2.prs rs))
theorem SN.b {m : MA} (h : SN F e m) : SB F e (mFz m) := by
  obtain ⟨t, p, q⟩ := h
  refine ⟨t, p, fun W w0 w env h σ Q r po => q W w0 w env h σ Q r (PostE.bind0 po fun xs h1 w1 v s d ⟨a, vs, ev, ea, rs, n, f, z⟩ p1 => ?_)⟩
  subst ev
  exact p1 w1 _ s d (.lst ea n rs)
/-- a new list that may be changed, as an object -/
def mRf (m : MA) : ME := fun env h => (m env h).bind fun xs h => .ok (.ref h.length) (h ++ [.lst xs])
theorem SN.rf {m : MA} (h : SN F e m) : SE F e (mRf m) := by
  obtain ⟨t, p, q⟩ := h
  refine ⟨t, p, fun W w0 w env h σ Q r po => q W w0 w env h σ Q r (PostE.bind0 po fun xs h1 w1 v s d ⟨a, vs, ev, ea, rs, n, f, z⟩ p1 => ?_)⟩
  subst ev
  have ix : ∀ (k : Nat) (x : Addr), w1.ad[k]? = some x → (w1.ad ++ [a])[k]? = some x := fun k x q => by
    rw [List.getElem?_append_left (List.getElem?_eq_some_iff.mp q).1]; exact q
  refine p1 ⟨w1.Φ, w1.H, w1.ad ++ [a]⟩ (.ref a) ⟨s.fz, fun k x q => ix k x (s.ix k x q), fun x hx => ?_, s.kp, s.th, s.fn⟩ ⟨d.sub, ?_, ?_, fun x hx => ?_, fun k o x e1 e2 => ?_⟩ (.ref ?_)
  · rcases List.mem_append.mp hx with hx | hx
    · exact s.nw x hx
    · rw [List.mem_singleton.mp hx]; exact .inr z
  · rw [List.length_append, List.length_append, d.len]; rfl
  · exact List.nodup_append.mpr ⟨d.nd, by simp, fun x hx y hy => by rw [List.mem_singleton.mp hy]; exact fun q => n (q ▸ hx)⟩
  · rcases List.mem_append.mp hx with hx | hx
    · exact d.sep x hx
    · rw [List.mem_singleton.mp hx]; exact f
  · by_cases hk : k < h1.length
    · rw [List.getElem?_append_left hk] at e1
      have hk' : k < w1.ad.length := by rw [d.len]; exact hk
      have e2' : w1.ad[k]? = some x := by
        have : (w1.ad ++ [a])[k]? = some x := e2
        rw [List.getElem?_append_left hk'] at this; exact this
      have r := d.obj k o x e1 e2'
      cases o with
      | lst xs => obtain ⟨us, g1, r1⟩ := r; exact ⟨us, g1, r1.mono (fun _ _ q => q) ix⟩
      | dct ks xs => obtain ⟨us, l1, g1, r1⟩ := r; exact ⟨us, l1, g1, r1.mono (fun _ _ q => q) ix⟩
      | ins cc ns xs => obtain ⟨C, dx, us, c1, l1, g1, r1⟩ := r; exact ⟨C, dx, us, c1, l1, g1, r1.mono (fun _ _ q => q) ix⟩
    · have hl := (List.getElem?_eq_some_iff.mp e1).1
      rw [List.length_append] at hl
      have hk2 : k = h1.length := by simp at hl; omega
      subst hk2
      rw [List.getElem?_append_right (Nat.le_refl _), Nat.sub_self] at e1
      have e2' : (w1.ad ++ [a])[h1.length]? = some x := e2
      rw [← d.len, List.getElem?_append_right (Nat.le_refl _), Nat.sub_self] at e2'
      cases e1; cases e2'
      exact ⟨vs, ea, rs.mono (fun _ _ q => q) ix⟩
  · show (w1.ad ++ [a])[h1.length]? = some a
    rw [← d.len, List.getElem?_append_right (Nat.le_refl _), Nat.sub_self]; rfl
end

/-! ### names, constants -/
def mVar (i : Nat) : ME := fun env h => match env[i]? with
  | some (.v x) => .ok x h
  | _ => .no
def mOwn (i : Nat) : ME := fun env h => match env[i]? with
  | some (.v x) => .ok x h
  | some (.own (.lst xs)) => .ok (.lst xs) h
  | some (.own (.dct ks vs)) => .ok (.dct ks vs) h
  | _ => .no
def mC (x : PV) : ME := fun _ h => .ok x h
section
variable {F : Fam} {e ea eb ec : Expr} {pos : Pos}
theorem se_var (i : Nat) {x : Str} (hN : F.N[i]? = some x := by rfl) (hv : ∀ j, Vis (F.env j).scope x := by first | exact fun _ => Or.inl rfl | exact fun _ => Or.inr (Or.inl rfl) | exact fun _ => Or.inr (Or.inr rfl))
    (hd : (x == ("__debug__" : Str)) = false := by decide) (hcd : (x == ("__classdict__" : Str)) = false := by decide) : SE F (.Name x pos) (mVar i) := by
  refine ⟨fun _ => tVar i, fun j => pe_var (X := F.X j) hN (hv j) hd hcd, fun W w0 w env h σ Q r po => ?_⟩
  unfold mVar at po
  split at po
  · rename_i x e
    obtain ⟨v, e1, pr⟩ := r.sl.slot i x e
    exact ⟨v, e1, po.fin r.hd pr⟩
  · exact po.elim
theorem sb_var (i : Nat) {x : Str} (hN : F.N[i]? = some x := by rfl) (hv : ∀ j, Vis (F.env j).scope x := by first | exact fun _ => Or.inl rfl | exact fun _ => Or.inr (Or.inl rfl) | exact fun _ => Or.inr (Or.inr rfl))
    (hd : (x == ("__debug__" : Str)) = false := by decide) (hcd : (x == ("__classdict__" : Str)) = false := by decide) : SB F (.Name x pos) (mOwn i) := by
  refine ⟨fun _ => tVar i, fun j => pe_var (X := F.X j) hN (hv j) hd hcd, fun W w0 w env h σ Q r po => ?_⟩
  unfold mOwn at po
  split at po
  · rename_i x e
    obtain ⟨v, e1, pr⟩ := r.sl.slot i x e
    exact ⟨v, e1, po.fin r.hd (.val pr)⟩
  · rename_i xs e
    obtain ⟨a, e1, ⟨vs, ea, rs⟩, f, n, z⟩ := r.sl.own i _ e
    exact ⟨_, e1, po.fin r.hd (.lst ea n rs)⟩
  · rename_i ks xs e
    obtain ⟨a, e1, ⟨vs, l, ea, rs⟩, f, n, z⟩ := r.sl.own i _ e
    exact ⟨_, e1, po.fin r.hd (.dct ea l n rs)⟩
  · exact po.elim
theorem se_const {x : PV} {v : V} (hp : ∀ i, PE (F.X i) e (tC v)) (hr : ∀ w, PW' F.S w x v) : SE F e (mC x) :=
  ⟨fun _ => tC v, hp, fun W w0 w env h σ Q r po => PostE.fin po r.hd (hr w)⟩
theorem se_int {i : Int} {j} : SE F (.Constant (.int i) j pos) (mC (.int i)) := se_const (fun _ => pe_int) fun _ => .int i
theorem se_bl {b : Bool} {j} : SE F (.Constant (.bool b) j pos) (mC (.bl b)) := se_const (fun _ => pe_bl) fun _ => .bl b
theorem se_non {j} : SE F (.Constant .none j pos) (mC .non) := se_const (fun _ => pe_non) fun _ => .non
theorem se_str {x : Str} {j} : SE F (.Constant (.str x) j pos) (mC (.str x)) := se_const (fun _ => pe_str) fun _ => .str x
/-- a module's constant: an int, a text -/
theorem se_gint {x : Str} {i : Int} {t : Tok} (hm : F.mg x = some (.int i t)) (hg : ∀ j, Gl (F.X j) x := by intro _; rfl) (hd : (x == ("__debug__" : Str)) = false := by decide) : SE F (.Name x pos) (mC (.int i)) :=
  se_const (fun j => pe_glob (v := V.int i) (hg j) hm ⟨t, rfl⟩ hd) fun _ => .int i
theorem se_gstr {x y : Str} {t : Tok} (hm : F.mg x = some (.str y t)) (hg : ∀ j, Gl (F.X j) x := by intro _; rfl) (hd : (x == ("__debug__" : Str)) = false := by decide) : SE F (.Name x pos) (mC (.str y)) :=
  se_const (fun j => pe_glob (v := V.str y) (hg j) hm ⟨t, rfl⟩ hd) fun _ => .str y

/-! ### operations -/
def mOp (f : PV → PV → Hh → Res PV) (ma mb : ME) : ME := fun env h => (ma env h).bind fun x h => (mb env h).bind fun y h => f x y h
def mUn (f : PV → Hh → Res PV) (ma : ME) : ME := fun env h => (ma env h).bind fun x h => f x h
/-- an operation by values does what its mirror says -/
def Sim2 (S : Sx) (r : R2) (f : PV → PV → Hh → Res PV) : Prop := ∀ (W : WX) (σ : L2.St) (w : Wd) (h : Hh) (x y : PV) (v u : V) (Q : VK), Hd S w h → PB0 S w x v → PB0 S w y u → PostE S W w σ (RV S) (f x y h) Q → r v u w.H Q
def Sim1 (S : Sx) (r : V → Hp → VK → Prop) (f : PV → Hh → Res PV) : Prop := ∀ (W : WX) (σ : L2.St) (w : Wd) (h : Hh) (x : PV) (v : V) (Q : VK), Hd S w h → PB0 S w x v → PostE S W w σ (RV S) (f x h) Q → r v w.H Q
theorem rd_op {S : Sx} {W : WX} {ta tb : TE} {ma mb : ME} {r : R2} {f : PV → PV → Hh → Res PV} (hf : Sim2 S r f) (qa : RdG S (RBo S) W ta ma) (qb : RdG S (RBo S) W tb mb) : RdG S (RV S) W (tOp r ta tb) (mOp f ma mb) :=
  fun w0 w env h σ Q rl po => qa w0 w env h σ _ rl (PostE.bind po fun x h1 w1 v s1 d1 p1 po1 =>
    qb w0 w1 env h1 σ _ (rl.step s1 d1) (PostE.bind po1 fun y h2 w2 u s2 d2 p2 po2 => hf W σ w2 h2 x y v u Q d2 (p1.step s2).z p2.z po2))
theorem se_op {op : Operator} {ma mb : ME} {r : R2} {f : PV → PV → Hh → Res PV} (hf : Sim2 F.S r f) (ho : ∀ i, OpR (F.X i) (binaryOp op) r) (ha : SB F ea ma) (hb : SB F eb mb) : SE F (.BinOp ea op eb pos) (mOp f ma mb) := by
  obtain ⟨ta, pa, qa⟩ := ha
  obtain ⟨tb, pb, qb⟩ := hb
  exact ⟨fun W => tOp r (ta W) (tb W), fun i => pe_op (ho i) (pa i) (pb i), fun W => rd_op hf (qa W) (qb W)⟩
theorem se_un {op : UnaryOp} {ma : ME} {r : V → Hp → VK → Prop} {f : PV → Hh → Res PV} (hf : Sim1 F.S r f) (ho : ∀ i, UnR (F.X i) (unaryOp op) r) (ha : SB F ea ma) : SE F (.UnaryOp op ea pos) (mUn f ma) := by
  obtain ⟨ta, pa, qa⟩ := ha
  exact ⟨fun W => tUn r (ta W), fun i => pe_un (ho i) (pa i), fun W w0 w env h σ Q rl po => qa W w0 w env h σ _ rl (PostE.bind po fun x h1 w1 v s1 d1 p1 po1 => hf W σ w1 h1 x v Q d1 p1.z po1)⟩
/-- a comparison as a value, as a test -/
theorem se_cmp {op : CmpOp} {ma mb : ME} {r : R2} {f : PV → PV → Hh → Res PV} (hf : Sim2 F.S r f) (ho : ∀ i, OpR (F.X i) (compareOp op) r) (ha : SB F ea ma) (hb : SB F eb mb)
    (hm : behindInMarks op eb = false := by first | exact nomark _ | rfl) : SE F (.Compare ea [op] [eb] pos) (mOp f ma mb) := by
  obtain ⟨ta, pa, qa⟩ := ha
  obtain ⟨tb, pb, qb⟩ := hb
  exact ⟨fun W => tOp r (ta W) (tb W), fun i => pe_cmpR (ho i) (pa i) (pb i) hm, fun W => rd_op hf (qa W) (qb W)⟩
def toT (m : ME) : MT := fun env h => (m env h).bind fun x h => match x with
  | .bl b => .ok b h
  | _ => .no
theorem rd_test {S : Sx} {W : WX} {t : TE} {m : ME} (q : RdG S (RV S) W t m) : RdG S RB W (tTest t) (toT m) :=
  fun w0 w env h σ Q rl po => q w0 w env h σ _ rl (PostE.bind po fun x h1 w1 v s1 d1 p1 po1 => by
    cases x with
    | bl b => cases p1; exact ⟨b, rfl, po1.fin d1 rfl⟩
    | non => exact po1.elim
    | int _ => exact po1.elim
    | str _ => exact po1.elim
    | tup _ => exact po1.elim
    | lst _ => exact po1.elim
    | dct _ _ => exact po1.elim
    | ref _ => exact po1.elim)
theorem st_cmp {op : CmpOp} {ma mb : ME} {r : R2} {f : PV → PV → Hh → Res PV} (hf : Sim2 F.S r f) (ho : ∀ i, OpR (F.X i) (compareOp op) r) (ha : SB F ea ma) (hb : SB F eb mb)
    (hm : behindInMarks op eb = false := by first | exact nomark _ | rfl) : ST F (.Compare ea [op] [eb] pos) (toT (mOp f ma mb)) := by
  obtain ⟨ta, pa, qa⟩ := ha
  obtain ⟨tb, pb, qb⟩ := hb
  exact ⟨fun W => tTest (tOp r (ta W) (tb W)), fun i => pt_cmpR (ho i) (pa i) (pb i) hm, fun W => rd_test (rd_op hf (qa W) (qb W))⟩
end
end Mir

set_option Elab.async false
set_option linter.all false
set_option maxRecDepth 100000
set_option maxHeartbeats 1000000
namespace Mir
open PySem PySem.Spec PyProof.Rows L2

/-! ### ints -/
abbrev LIM : Nat := 16777216
theorem lim_line {n : Nat} (h : n ≤ 16777216) : n ≤ sizeLine := by rw [sizeLine_eq]; exact h
def mulOk (i j : Int) : Bool := decide (i.natAbs < 2 ^ 64) || decide (j.natAbs < 2 ^ 64) || decide (i.natAbs.log2 + j.natAbs.log2 < 130000000)
theorem mulOk_ok {i j : Int} (h : mulOk i j = true) : IntMulOk i j := by
  unfold mulOk at h
  simp only [Bool.or_eq_true, decide_eq_true_eq] at h
  rcases h with (h | h) | h
  · exact CMul.ok (.inl (by omega))
  · exact CMul.ok (.inr (by omega))
  · have b : ∀ x : Int, Builtin.Int.intBits x ≤ x.natAbs.log2 + 1 := fun x => by
      unfold Builtin.Int.intBits
      split <;> omega
    have h1 := b i
    have h2 := b j
    have e : bitsLine = 134217728 := by decide
    unfold IntMulOk
    intro z
    rw [Bool.and_eq_true] at z
    have z2 := z.2
    unfold Builtin.Int.intTooBig at z2
    have z3 := of_decide_eq_true z2
    rw [e] at z3
    omega
def CMulA (i j : Int) : Prop := mulOk i j = true
/-- // by a positive divisor -/
def divOk (j : Int) : Bool := decide (0 < j) && decide (j.natAbs.log2 < 9000)
def shlOk (i j : Int) : Bool := decide (0 ≤ j) && decide ((i.natAbs.log2 : Int) + j < 100000000)
def powOk (i j : Int) : Bool := decide (0 ≤ j) && decide (j ≤ 1000000) && decide (i.natAbs < 2 ^ 64)
section
variable {X : Cx}
theorem op_mulA : OpR X (binaryOp .Mult) (rI CMulA fun i j => .int (i * j)) := opI fun _ _ _ _ _ _ _ hc q => mul_int q (mulOk_ok hc)
theorem op_shlA : OpR X (binaryOp .LShift) (rI (fun i j => shlOk i j = true) fun i j => .int (i * 2 ^ j.toNat)) := opI fun i j _ _ _ _ _ hc q => by
  unfold shlOk at hc
  simp only [Bool.and_eq_true, decide_eq_true_eq] at hc
  refine lshift_int hc.1 ?_ q
  have b : Builtin.Int.intBits i ≤ i.natAbs.log2 + 1 := by
    unfold Builtin.Int.intBits
    split <;> omega
  omega
end
def oI (c : Int → Int → Bool) (g : Int → Int → PV) : PV → PV → Hh → Res PV := fun x y h => match x, y with
  | .int i, .int j => if c i j = true then .ok (g i j) h else .no
  | _, _ => .no
theorem sim_I {S : Sx} {C : Int → Int → Prop} {c : Int → Int → Bool} {g : Int → Int → V} {g' : Int → Int → PV} (hc : ∀ i j, c i j = true → C i j) (hg : ∀ (w : Wd) i j, PW' S w (g' i j) (g i j)) : Sim2 S (rI C g) (oI c g') := by
  intro W σ w h x y v u Q d px py po
  unfold oI at po
  split at po
  · rename_i i j
    split at po
    · rename_i hcc
      exact ⟨i, j, px.ofInt, py.ofInt, hc i j hcc, po.fin d (hg w i j)⟩
    · exact po.elim
  · exact po.elim
theorem sim_I0 {S : Sx} {g : Int → Int → V} {g' : Int → Int → PV} (hg : ∀ (w : Wd) i j, PW' S w (g' i j) (g i j)) : Sim2 S (rI0 g) (oI (fun _ _ => true) g') := by
  intro W σ w h x y v u Q d px py po
  unfold oI at po
  split at po
  · rename_i i j
    exact ⟨i, j, px.ofInt, py.ofInt, po.fin d (hg w i j)⟩
  · exact po.elim
/-- two readings of one operation, by what the operands are -/
theorem Sim2.or {S : Sx} {r r' : R2} {f f' : PV → PV → Hh → Res PV} (h : Sim2 S r f) (h' : Sim2 S r' f') {f2 : PV → PV → Hh → Res PV}
    (e : ∀ x y H, f2 x y H = f x y H ∨ f2 x y H = f' x y H) : Sim2 S (fun x y H Q => r x y H Q ∨ r' x y H Q) f2 := by
  intro W σ w H x y v u Q d px py po
  rcases e x y H with q | q
  · rw [q] at po; exact .inl (h W σ w H x y v u Q d px py po)
  · rw [q] at po; exact .inr (h' W σ w H x y v u Q d px py po)

/-! ### texts, tuples, lists -/
def oStr2 (c : Str → Str → Bool) (g : Str → Str → PV) : PV → PV → Hh → Res PV := fun x y h => match x, y with
  | .str i, .str j => if c i j = true then .ok (g i j) h else .no
  | _, _ => .no
def oTup2 (c : List PV → List PV → Bool) (g : List PV → List PV → PV) : PV → PV → Hh → Res PV := fun x y h => match x, y with
  | .tup i, .tup j => if c i j = true then .ok (g i j) h else .no
  | _, _ => .no
def oLst2 (c : List PV → List PV → Bool) (g : List PV → List PV → PV) : PV → PV → Hh → Res PV := fun x y h => match x, y with
  | .lst i, .lst j => if c i j = true then .ok (g i j) h else .no
  | _, _ => .no
section
variable {prog : Program} {w : World} {A : Around} {E : Value → Shared → Prop} {s : Shared}
theorem cat_tup0 {t b : Addr} {vs ws : List Value} {Q : Value → Shared → Prop} (ht : IsTup s.heap t vs.toArray) (hb : IsTup s.heap b ws.toArray) (hv : vs = []) (h1 : Q (.ref b) s) : wpAny (model prog w) A (binaryOp .Add (.ref t) (.ref b)) Q E s := by
  subst hv
  rcases ht with ⟨⟨_, d1, _, m1⟩, g1, k1, n1, z1⟩
  rcases hb with ⟨⟨_, d2, _, m2⟩, g2, k2, n2, z2⟩
  cases k1
  cases k2
  cases z1
  cases z2
  have run := tuple_addW0 t b #[] ws.toArray n1 n2 d1 d2 m1 m2 rfl
  have t1 : s.TypeIs (.ref t) "tuple" := ⟨_, g1, rfl⟩
  have t2 : s.TypeIs (.ref b) "tuple" := ⟨_, g2, rfl⟩
  apply concat_meets t1 t2 noFill_tuple_add seq_tuple_add PySem.F.slot_tuple_add PySem.F.entry_tuple_add (PySem.F.args_tuple_add_2 _ _) run
  exact ⟨g1, g2, h1⟩
theorem cat_lst {l b : Addr} {vs ws : List Value} {Q : Value → Shared → Prop} (hl : PlainL s.heap l vs.toArray) (hb : PlainL s.heap b ws.toArray)
    (h : Q (.ref s.heap.objs.size) { s with heap := s.heap.push { cls := .type "list", data := .seq (vs ++ ws).toArray } }) (hsz : vs.length + ws.length ≤ sizeLine) : wpAny (model prog w) A (binaryOp .Add (.ref l) (.ref b)) Q E s := by
  rcases hl with ⟨⟨_, d1, _, m1⟩, n1, g1, k1, _, z1⟩
  rcases hb with ⟨⟨_, d2, _, m2⟩, n2, g2, k2, _, z2⟩
  cases k1
  cases k2
  cases z1
  cases z2
  have fit : vs.toArray.size + ws.toArray.size ≤ sizeLine := by simpa using hsz
  have run := list_addW l b vs.toArray ws.toArray n1 n2 d1 d2 m1 m2 fit
  rw [List.append_toArray] at run
  have t1 : s.TypeIs (.ref l) "list" := ⟨_, g1, rfl⟩
  have t2 : s.TypeIs (.ref b) "list" := ⟨_, g2, rfl⟩
  apply concat_meets t1 t2 noFill_list_add seq_list_add PySem.F.slot_list_add PySem.F.entry_list_add (PySem.F.args_list_add_2 _ _) run
  exact ⟨g1, g2, h⟩
end
section
variable {X : Cx}
def rTupA (K : PySem.W.Frag) : R2 := fun x y H Q => ∃ a b xs ys, x = .ref a ∧ y = .ref b ∧ SqT K H a xs ∧ SqT K H b ys ∧ xs.length + ys.length ≤ sizeLine ∧
  (xs = [] → Q (.ref b) H) ∧ (xs ≠ [] → ys = [] → Q (.ref a) H) ∧ (xs ≠ [] → ys ≠ [] → ∀ p, H p = none → Q (.ref p) (upd H p (.tup (xs ++ ys))))
theorem op_addT : OpR X (binaryOp .Add) (rTupA X.K) := by
  rintro pins s σ H _ _ v u Q I rx ry ⟨a, b, xs, ys, rfl, rfl, ha, hb, fit, q0, q1, q2⟩
  rcases xs with _ | ⟨x, xs⟩
  · obtain ⟨us, r1, p1, _⟩ := I.tuple ha
    obtain ⟨ws, _, p2, _⟩ := I.tuple hb
    cases rx
    cases ry
    cases r1
    exact cat_tup0 p1 p2 rfl ⟨.ref b, H, I, rfl, q0 rfl⟩
  · have full : x :: xs ≠ [] := List.cons_ne_nil x xs
    exact op_catT pins s σ H (.ref a) (.ref b) v u Q I rx ry ⟨a, b, x :: xs, ys, rfl, rfl, ha, hb, full, fit, q1 full, q2 full⟩
def rLstA (K : PySem.W.Frag) : R2 := fun x y H Q => ∃ a b xs ys, x = .ref a ∧ y = .ref b ∧ SqL K H a xs ∧ SqL K H b ys ∧ xs.length + ys.length ≤ sizeLine ∧ ∀ p, H p = none → Q (.ref p) (upd H p (.lst (xs ++ ys)))
theorem op_addL : OpR X (binaryOp .Add) (rLstA X.K) := by
  intro pins s σ H x y v u Q I rx ry h
  obtain ⟨a, b, xs, ys, rfl, rfl, ha, hb, hz, q⟩ := h
  cases rx
  cases ry
  obtain ⟨its, r1, p1, _⟩ := I.list ha
  obtain ⟨its2, r2, p2, _⟩ := I.list hb
  refine cat_lst p1 p2 ?_ (by rw [← r1.length, ← r2.length]; exact hz)
  exact ⟨.ref _, _, I.lnew (t' := s.toks) (r1.append r2) (by rw [List.length_append]; exact hz), rfl, q _ I.fresh⟩
def rStrA : R2 := fun x y H Q => ∃ i j, x = .str i ∧ y = .str j ∧ i.length + j.length ≤ sizeLine ∧ Q (.str (i ++ j)) H
def rAddA (K : PySem.W.Frag) : R2 := fun x y H Q => rI0 (fun i j => .int (i + j)) x y H Q ∨ (rStrA x y H Q ∨ (rTupA K x y H Q ∨ rLstA K x y H Q))
theorem op_addA : OpR X (binaryOp .Add) (rAddA X.K) := op_add.or (op_add_str.or (op_addT.or op_addL))
end
def oAdd : PV → PV → Hh → Res PV := fun x y h => match x, y with
  | .int i, .int j => .ok (.int (i + j)) h
  | .str a, .str b => if a.length + b.length ≤ 16777216 then .ok (.str (a ++ b)) h else .no
  | .tup a, .tup b => if a.length + b.length ≤ 16777216 then .ok (.tup (a ++ b)) h else .no
  | .lst a, .lst b => if a.length + b.length ≤ 16777216 then .ok (.lst (a ++ b)) h else .no
  | _, _ => .no
theorem PRs.nil_iff {K : PySem.W.Frag} {Φ : Hp} {ad : List Addr} {xs : List PV} {vs : List V} (r : PRs K Φ ad xs vs) : vs = [] ↔ xs = [] := by
  cases r with
  | nil => simp
  | cons _ _ => simp
theorem sim_add {S : Sx} : Sim2 S (rAddA S.K) oAdd := by
  intro W σ w h x y v u Q d px py po
  unfold oAdd at po
  split at po
  · rename_i i j
    exact .inl ⟨i, j, px.ofInt, py.ofInt, po.fin d (.int _)⟩
  · rename_i a b
    split at po
    · rename_i hz
      exact .inr (.inl ⟨a, b, px.ofStr, py.ofStr, lim_line hz, po.fin d (.str _)⟩)
    · exact po.elim
  · rename_i xs ys
    split at po
    · rename_i hz
      obtain ⟨a, vs, rfl, ha, ra⟩ := px.ofTup d
      obtain ⟨b, us, rfl, hb, rb⟩ := py.ofTup d
      have hl1 := ra.length
      have hl2 := rb.length
      refine .inr (.inr (.inl ⟨a, b, vs, us, rfl, rfl, ha, hb, lim_line (by omega), fun e => ?_, fun _ e => ?_, fun n1 n2 p np => ?_⟩))
      · refine po.fin d ?_
        have ex : xs = [] := ra.nil_iff.mp e
        subst ex
        rcases py with ⟨r⟩
        exact r
      · refine po.fin d ?_
        have ex : ys = [] := rb.nil_iff.mp e
        subst ex
        rw [List.append_nil]
        rcases px with ⟨r⟩
        exact r
      · exact po (w.lock p (.tup (vs ++ us))) (.ref p) (Step.lock d np) (d.lock np) (.tup (.inl (.inl upd_same)) (((Step.lock d np).prs ra).append ((Step.lock d np).prs rb)))
    · exact po.elim
  · rename_i xs ys
    split at po
    · rename_i hz
      obtain ⟨a, vs, rfl, ha, ra⟩ := px.ofLst d
      obtain ⟨b, us, rfl, hb, rb⟩ := py.ofLst d
      have hl1 := ra.length
      have hl2 := rb.length
      refine .inr (.inr (.inr ⟨a, b, vs, us, rfl, rfl, ha, hb, lim_line (by omega), fun p np => ?_⟩))
      exact po (w.lock p (.lst (vs ++ us))) (.ref p) (Step.lock d np) (d.lock np) (.lst (.inl (.inl upd_same)) (((Step.lock d np).prs ra).append ((Step.lock d np).prs rb)))
    · exact po.elim
  · exact po.elim
end Mir

set_option Elab.async false
set_option linter.all false
set_option maxRecDepth 100000
set_option maxHeartbeats 1000000
namespace Mir
open PySem PySem.Spec PyProof.Rows L2

abbrev oSub := oI (fun _ _ => true) fun i j => PV.int (i - j)
abbrev oMul := oI mulOk fun i j => PV.int (i * j)
abbrev oDiv := oI (fun _ j => divOk j) fun i j => PV.int (i / j)
abbrev oMod := oI (fun _ j => decide (0 < j)) fun i j => PV.int (i % j)
abbrev oShl := oI shlOk fun i j => PV.int (i * 2 ^ j.toNat)
abbrev oShr := oI (fun _ j => decide (0 ≤ j)) fun i j => PV.int (i / 2 ^ j.toNat)
abbrev oPow := oI (fun i j => powOk i j) fun i j => PV.int (i ^ j.toNat)
abbrev oAnd := oI (fun _ _ => true) fun i j => PV.int (Builtin.bitAnd i j)
abbrev oOr := oI (fun _ _ => true) fun i j => PV.int (Builtin.bitOr i j)
abbrev oXor := oI (fun _ _ => true) fun i j => PV.int (Builtin.bitXor i j)
theorem divOk_ok {i j : Int} (h : divOk j = true) : CDivW i j := by
  unfold divOk at h
  simp only [Bool.and_eq_true, decide_eq_true_eq] at h
  exact h
theorem powOk_ok {i j : Int} (h : powOk i j = true) : CPow i j := by
  unfold powOk at h
  simp only [Bool.and_eq_true, decide_eq_true_eq] at h
  exact ⟨h.1.1, h.1.2, h.2⟩
section
variable {F : Fam} {ea eb : Expr} {pos : Pos} {ma mb : ME}
theorem se_add (ha : SB F ea ma) (hb : SB F eb mb) : SE F (.BinOp ea .Add eb pos) (mOp oAdd ma mb) := se_op sim_add (fun i => op_addA (X := F.X i)) ha hb
theorem se_sub (ha : SB F ea ma) (hb : SB F eb mb) : SE F (.BinOp ea .Sub eb pos) (mOp oSub ma mb) := se_op (sim_I0 fun _ _ _ => .int _) (fun _ => op_sub) ha hb
theorem se_mul (ha : SB F ea ma) (hb : SB F eb mb) : SE F (.BinOp ea .Mult eb pos) (mOp oMul ma mb) := se_op (sim_I (fun _ _ h => h) fun _ _ _ => .int _) (fun _ => op_mulA) ha hb
theorem se_div (ha : SB F ea ma) (hb : SB F eb mb) : SE F (.BinOp ea .FloorDiv eb pos) (mOp oDiv ma mb) := se_op (sim_I (fun _ _ h => divOk_ok h) fun _ _ _ => .int _) (fun _ => op_fdivW) ha hb
theorem se_mod (ha : SB F ea ma) (hb : SB F eb mb) : SE F (.BinOp ea .Mod eb pos) (mOp oMod ma mb) := se_op (sim_I (fun _ _ h => of_decide_eq_true h) fun _ _ _ => .int _) (fun _ => op_mod) ha hb
theorem se_shl (ha : SB F ea ma) (hb : SB F eb mb) : SE F (.BinOp ea .LShift eb pos) (mOp oShl ma mb) := se_op (sim_I (fun _ _ h => h) fun _ _ _ => .int _) (fun _ => op_shlA) ha hb
theorem se_shr (ha : SB F ea ma) (hb : SB F eb mb) : SE F (.BinOp ea .RShift eb pos) (mOp oShr ma mb) := se_op (sim_I (fun _ _ h => of_decide_eq_true h) fun _ _ _ => .int _) (fun _ => op_shr) ha hb
theorem se_pow (ha : SB F ea ma) (hb : SB F eb mb) : SE F (.BinOp ea .Pow eb pos) (mOp oPow ma mb) := se_op (sim_I (fun _ _ h => powOk_ok h) fun _ _ _ => .int _) (fun _ => op_pow) ha hb
theorem se_and (ha : SB F ea ma) (hb : SB F eb mb) : SE F (.BinOp ea .BitAnd eb pos) (mOp oAnd ma mb) := se_op (sim_I0 fun _ _ _ => .int _) (fun _ => op_and) ha hb
theorem se_or (ha : SB F ea ma) (hb : SB F eb mb) : SE F (.BinOp ea .BitOr eb pos) (mOp oOr ma mb) := se_op (sim_I0 fun _ _ _ => .int _) (fun _ => op_or) ha hb
theorem se_xor (ha : SB F ea ma) (hb : SB F eb mb) : SE F (.BinOp ea .BitXor eb pos) (mOp oXor ma mb) := se_op (sim_I0 fun _ _ _ => .int _) (fun _ => op_xor) ha hb
def oNeg : PV → Hh → Res PV := fun x h => match x with
  | .int i => .ok (.int (-i)) h
  | _ => .no
theorem se_neg (ha : SB F ea ma) : SE F (.UnaryOp .USub ea pos) (mUn oNeg ma) := se_un (r := rU fun i => .int (-i)) (fun W σ w h x v Q d p po => by
  unfold oNeg at po
  split at po
  · exact ⟨_, p.ofInt, po.fin d (.int _)⟩
  · exact po.elim) (fun _ => un_neg) ha
end

/-! ### data -/
mutual
def toD : PV → Option PyData
  | .non => some .none
  | .bl b => some (.bool b)
  | .int i => some (.int i)
  | .str s => some (.str s)
  | .tup xs => (toDs xs).map .tuple
  | .lst xs => (toDs xs).map .list
  | .dct _ _ => none
  | .ref _ => none
def toDs : List PV → Option (List PyData)
  | [] => some []
  | x :: r => match toD x, toDs r with
    | some d, some ds => some (d :: ds)
    | _, _ => none
end
section
variable {K : PySem.W.Frag} {Φ : Hp} {ad : List Addr}
mutual
theorem dp_of : ∀ {x : PV} {v : V} {d : PyData}, PR K Φ ad x v → toD x = some d → Dp K Φ v d
  | _, _, _, .non, e => by cases e; exact .non
  | _, _, _, .bl b, e => by cases e; exact .bl b
  | _, _, _, .int i, e => by cases e; exact .int i
  | _, _, _, .str s, e => by cases e; exact .str s
  | .tup xs, _, _, .tup q r, e => by
    rw [toD] at e
    obtain ⟨ds, e1, e2⟩ := Option.map_eq_some_iff.mp e
    subst e2
    exact .tup q (dps_of r e1)
  | .lst xs, _, _, .lst q r, e => by
    rw [toD] at e
    obtain ⟨ds, e1, e2⟩ := Option.map_eq_some_iff.mp e
    subst e2
    exact .lst q (dps_of r e1)
  | _, _, _, .dct _ _ _, e => by rw [toD] at e; cases e
  | _, _, _, .ref _, e => by rw [toD] at e; cases e
theorem dps_of : ∀ {xs : List PV} {vs : List V} {ds : List PyData}, PRs K Φ ad xs vs → toDs xs = some ds → DpAll K Φ vs ds
  | _, _, _, .nil, e => by cases e; exact .nil
  | x :: r, _, _, .cons p q, e => by
    rw [toDs] at e
    split at e
    · rename_i d ds e1 e2
      cases e
      exact .cons (dp_of p e1) (dps_of q e2)
    · cases e
end
mutual
theorem Dp.mono' {H H' : Hp} (h : ∀ x o, H x = some o → H' x = some o) : ∀ {v : V} {d : PyData}, Dp K H v d → Dp K H' v d
  | _, _, .non => .non
  | _, _, .bl b => .bl b
  | _, _, .int i => .int i
  | _, _, .str s => .str s
  | _, _, .lst q r => .lst (sqL_mono h q) (DpAll.mono' h r)
  | _, _, .tup q r => .tup (sqT_mono h q) (DpAll.mono' h r)
theorem DpAll.mono' {H H' : Hp} (h : ∀ x o, H x = some o → H' x = some o) : ∀ {v : List V} {d : List PyData}, DpAll K H v d → DpAll K H' v d
  | _, _, .nil => .nil
  | _, _, .cons p q => .cons (Dp.mono' h p) (DpAll.mono' h q)
end
end
theorem PB0.dp {S : Sx} {w : Wd} {h : Hh} (d : Hd S w h) {x : PV} {v : V} {e : PyData} (p : PB0 S w x v) (hx : toD x = some e) : Dp S.K w.H v e := by
  cases p with
  | val r => exact Dp.mono' d.sub (dp_of r hx)
  | lst e1 r =>
    rw [toD] at hx
    obtain ⟨ds, e2, e3⟩ := Option.map_eq_some_iff.mp hx
    subst e3
    exact .lst (SqL.of e1) (DpAll.mono' d.sub (dps_of r e2))
  | dct _ _ _ => rw [toD] at hx; cases hx
/-- a comparison of two data -/
def rOrdD (K : PySem.W.Frag) (f : PyData → PyData → Bool) : R2 := fun x y H Q => ∃ d e, Dp K H x d ∧ Dp K H y e ∧ PySem.W.alike d e = true ∧ d ≠ .none ∧ d.depth ≤ 64 ∧ Q (.bl (f d e)) H
section
variable {X : Cx}
theorem min_room {u : Nat} {a b : PyData} (h : a.depth ≤ 64) (hu : u + 64 < cLine) : u + min a.depth b.depth < cLine := by
  have : min a.depth b.depth ≤ a.depth := Nat.min_le_left _ _
  omega
theorem op_ltD (hu : X.A.units + 64 < cLine) : OpR X (compareOp .Lt) (rOrdD X.K fun a b => PySem.W.dataLt a b) := by
  intro pins s σ H x y v u Q I rx ry h
  obtain ⟨d, e, hd, he, ha, hn, hz, q⟩ := h
  obtain ⟨as, ra⟩ := Dp.reads I _ _ _ hd rx
  obtain ⟨bs, rb⟩ := Dp.reads I _ _ _ he ry
  exact PySem.W.lt_data ra rb ha hn (min_room hz hu) ⟨.bl _, H, I, rfl, q⟩
theorem op_gtD (hu : X.A.units + 64 < cLine) : OpR X (compareOp .Gt) (rOrdD X.K fun a b => PySem.W.dataLt b a) := by
  intro pins s σ H x y v u Q I rx ry h
  obtain ⟨d, e, hd, he, ha, hn, hz, q⟩ := h
  obtain ⟨as, ra⟩ := Dp.reads I _ _ _ hd rx
  obtain ⟨bs, rb⟩ := Dp.reads I _ _ _ he ry
  exact PySem.W.gt_data ra rb ha hn (min_room hz hu) ⟨.bl _, H, I, rfl, q⟩
theorem op_leD (hu : X.A.units + 64 < cLine) : OpR X (compareOp .LtE) (rOrdD X.K fun a b => !PySem.W.dataLt b a) := by
  intro pins s σ H x y v u Q I rx ry h
  obtain ⟨d, e, hd, he, ha, hn, hz, q⟩ := h
  obtain ⟨as, ra⟩ := Dp.reads I _ _ _ hd rx
  obtain ⟨bs, rb⟩ := Dp.reads I _ _ _ he ry
  exact PySem.W.le_data ra rb ha hn (min_room hz hu) ⟨.bl _, H, I, rfl, q⟩
theorem op_geD (hu : X.A.units + 64 < cLine) : OpR X (compareOp .GtE) (rOrdD X.K fun a b => !PySem.W.dataLt a b) := by
  intro pins s σ H x y v u Q I rx ry h
  obtain ⟨d, e, hd, he, ha, hn, hz, q⟩ := h
  obtain ⟨as, ra⟩ := Dp.reads I _ _ _ hd rx
  obtain ⟨bs, rb⟩ := Dp.reads I _ _ _ he ry
  exact PySem.W.ge_data ra rb ha hn (min_room hz hu) ⟨.bl _, H, I, rfl, q⟩
end
def dNN : PyData → Bool
  | .none => false
  | _ => true
theorem dNN_ne {a : PyData} (h : dNN a = true) : a ≠ .none := fun e => by subst e; cases h
/-- ints by ints, other data as data -/
def oOrd (ci : Int → Int → Bool) (cd : PyData → PyData → Bool) : PV → PV → Hh → Res PV := fun x y h => match x, y with
  | .int i, .int j => .ok (.bl (ci i j)) h
  | x, y => match toD x, toD y with
    | some a, some b => if (PySem.W.alike a b && dNN a && decide (a.depth ≤ 64)) = true then .ok (.bl (cd a b)) h else .no
    | _, _ => .no
def oLt := oOrd (fun i j => decide (i < j)) fun a b => PySem.W.dataLt a b
def oLe := oOrd (fun i j => decide (i ≤ j)) fun a b => !PySem.W.dataLt b a
def oGt := oOrd (fun i j => decide (j < i)) fun a b => PySem.W.dataLt b a
def oGe := oOrd (fun i j => decide (j ≤ i)) fun a b => !PySem.W.dataLt a b
def rOrd (K : PySem.W.Frag) (ci : Int → Int → Bool) (cd : PyData → PyData → Bool) : R2 := fun x y H Q => rI0 (fun i j => .bl (ci i j)) x y H Q ∨ rOrdD K cd x y H Q
theorem sim_ord {S : Sx} {ci : Int → Int → Bool} {cd : PyData → PyData → Bool} : Sim2 S (rOrd S.K ci cd) (oOrd ci cd) := by
  intro W σ w h x y v u Q d px py po
  unfold oOrd at po
  split at po
  · rename_i i j
    exact .inl ⟨i, j, px.ofInt, py.ofInt, po.fin d (.bl _)⟩
  · split at po
    · rename_i a b ea eb
      split at po
      · rename_i hc
        simp only [Bool.and_eq_true, decide_eq_true_eq] at hc
        exact .inr ⟨a, b, px.dp d ea, py.dp d eb, hc.1.1, dNN_ne hc.1.2, hc.2, po.fin d (.bl _)⟩
      · exact po.elim
    · exact po.elim
/-- equal scalars by themselves, other data as data -/
def sEq : PV → PV → Option Bool
  | .non, .non => some true
  | .int i, .int j => some (decide (i = j))
  | .bl i, .bl j => some (decide (i = j))
  | .str i, .str j => some (decide (i = j))
  | .non, .int _ => some false | .int _, .non => some false | .non, .bl _ => some false | .bl _, .non => some false | .non, .str _ => some false | .str _, .non => some false
  | .int _, .str _ => some false | .str _, .int _ => some false | .bl _, .str _ => some false | .str _, .bl _ => some false
  | _, _ => none
def oEqG (neg : Bool) : PV → PV → Hh → Res PV := fun x y h => match sEq x y with
  | some b => .ok (.bl (if neg then !b else b)) h
  | none => match toD x, toD y with
    | some a, some b => if (SeqAt.shaped a && SeqAt.shaped b) = true then .ok (.bl (if neg then !PyData.eqv a b else PyData.eqv a b)) h else .no
    | _, _ => .no
abbrev oEq := oEqG false
abbrev oNe := oEqG true
def rEqA (K : PySem.W.Frag) : R2 := fun x y H Q => rEq x y H Q ∨ rEqD K x y H Q
def rNeA (K : PySem.W.Frag) : R2 := fun x y H Q => rNe x y H Q ∨ rNeD K x y H Q
theorem sEq_sc {S : Sx} {w : Wd} {x y : PV} {v u : V} {b : Bool} (px : PB0 S w x v) (py : PB0 S w y u) (e : sEq x y = some b) : scal v u = true ∧ decide (v = u) = b := by
  cases x <;> cases y <;> simp only [sEq, Option.some.injEq, reduceCtorEq] at e <;> subst e <;>
    first
    | (have h1 := px.ofNon; have h2 := py.ofNon; subst h1 h2; exact ⟨rfl, by decide⟩)
    | (have h1 := px.ofInt; have h2 := py.ofInt; subst h1 h2; exact ⟨rfl, by simp⟩)
    | (have h1 := px.ofBl; have h2 := py.ofBl; subst h1 h2; exact ⟨rfl, by simp⟩)
    | (have h1 := px.ofStr; have h2 := py.ofStr; subst h1 h2; exact ⟨rfl, by simp⟩)
    | (have h1 := px.ofNon; have h2 := py.ofInt; subst h1 h2; exact ⟨rfl, by simp⟩)
    | (have h1 := px.ofInt; have h2 := py.ofNon; subst h1 h2; exact ⟨rfl, by simp⟩)
    | (have h1 := px.ofNon; have h2 := py.ofBl; subst h1 h2; exact ⟨rfl, by simp⟩)
    | (have h1 := px.ofBl; have h2 := py.ofNon; subst h1 h2; exact ⟨rfl, by simp⟩)
    | (have h1 := px.ofNon; have h2 := py.ofStr; subst h1 h2; exact ⟨rfl, by simp⟩)
    | (have h1 := px.ofStr; have h2 := py.ofNon; subst h1 h2; exact ⟨rfl, by simp⟩)
    | (have h1 := px.ofInt; have h2 := py.ofStr; subst h1 h2; exact ⟨rfl, by simp⟩)
    | (have h1 := px.ofStr; have h2 := py.ofInt; subst h1 h2; exact ⟨rfl, by simp⟩)
    | (have h1 := px.ofBl; have h2 := py.ofStr; subst h1 h2; exact ⟨rfl, by simp⟩)
    | (have h1 := px.ofStr; have h2 := py.ofBl; subst h1 h2; exact ⟨rfl, by simp⟩)
theorem sim_eq {S : Sx} : Sim2 S (rEqA S.K) oEq := by
  intro W σ w h x y v u Q d px py po
  unfold oEq oEqG at po
  split at po
  · rename_i b e
    obtain ⟨h1, h2⟩ := sEq_sc px py e
    exact .inl ⟨h1, by rw [h2]; exact po.fin d (.bl _)⟩
  · split at po
    · rename_i a b ea eb
      split at po
      · rename_i hc
        simp only [Bool.and_eq_true] at hc
        exact .inr ⟨a, b, px.dp d ea, py.dp d eb, hc.1, hc.2, po.fin d (.bl _)⟩
      · exact po.elim
    · exact po.elim
theorem sim_ne {S : Sx} : Sim2 S (rNeA S.K) oNe := by
  intro W σ w h x y v u Q d px py po
  unfold oNe oEqG at po
  split at po
  · rename_i b e
    obtain ⟨h1, h2⟩ := sEq_sc px py e
    exact .inl ⟨h1, by rw [h2]; exact po.fin d (.bl _)⟩
  · split at po
    · rename_i a b ea eb
      split at po
      · rename_i hc
        simp only [Bool.and_eq_true] at hc
        exact .inr ⟨a, b, px.dp d ea, py.dp d eb, hc.1, hc.2, po.fin d (.bl _)⟩
      · exact po.elim
    · exact po.elim
/-- is None -/
def isNon : PV → Bool
  | .non => true
  | _ => false
def oIsG (neg : Bool) : PV → PV → Hh → Res PV := fun x y h => match y with
  | .non => .ok (.bl (if neg then !isNon x else isNon x)) h
  | _ => .no
abbrev oIs := oIsG false
abbrev oIsNot := oIsG true
theorem isNon_iff {S : Sx} {w : Wd} {x : PV} {v : V} (p : PB0 S w x v) : decide (v = .non) = isNon x := by
  cases p with
  | val r => cases r <;> simp [isNon]
  | lst _ _ => simp [isNon]
  | dct _ _ _ => simp [isNon]
theorem sim_is {S : Sx} : Sim2 S (fun x y H Q => y = .non ∧ Q (.bl (decide (x = .non))) H) oIs := by
  intro W σ w h x y v u Q d px py po
  unfold oIs oIsG at po
  split at po
  · exact ⟨py.ofNon, by rw [isNon_iff px]; exact po.fin d (.bl _)⟩
  · exact po.elim
theorem sim_isNot {S : Sx} : Sim2 S (fun x y H Q => y = .non ∧ Q (.bl (!decide (x = .non))) H) oIsNot := by
  intro W σ w h x y v u Q d px py po
  unfold oIsNot oIsG at po
  split at po
  · exact ⟨py.ofNon, by rw [isNon_iff px]; exact po.fin d (.bl _)⟩
  · exact po.elim
/-- in, not in: a list, a tuple of flat things; a text -/
def flatP : PV → Bool
  | .non => true | .bl _ => true | .int _ => true | .str _ => true | _ => false
def eqP : PV → PV → Bool
  | .non, .non => true
  | .bl a, .bl b => a == b
  | .bl a, .int b => (if a then 1 else 0) == b
  | .int a, .bl b => a == (if b then 1 else 0)
  | .int a, .int b => a == b
  | .str a, .str b => a == b
  | _, _ => false
theorem flat_ok {K : PySem.W.Frag} {Φ : Hp} {ad : List Addr} {x : PV} {v : V} (p : PR K Φ ad x v) (h : flatP x = true) : flatV v = true := by
  cases p <;> first | rfl | cases h
theorem eqP_ok {K : PySem.W.Frag} {Φ : Hp} {ad : List Addr} {x y : PV} {v u : V} (p : PR K Φ ad x v) (q : PR K Φ ad y u) (h : flatP x = true) (h2 : flatP y = true) : eqV v u = eqP x y := by
  cases p <;> cases q <;> first | rfl | cases h | cases h2
theorem flats_ok {K : PySem.W.Frag} {Φ : Hp} {ad : List Addr} : ∀ {xs : List PV} {vs : List V}, PRs K Φ ad xs vs → xs.all flatP = true → vs.all flatV = true
  | _, _, .nil, _ => rfl
  | _, _, .cons p q, h => by
    rw [List.all_cons, Bool.and_eq_true] at h ⊢
    exact ⟨flat_ok p h.1, flats_ok q h.2⟩
def inP (x : PV) (xs : List PV) : Bool := xs.any fun y => eqP y x
theorem inP_ok {K : PySem.W.Frag} {Φ : Hp} {ad : List Addr} {x : PV} {v : V} (p : PR K Φ ad x v) (h : flatP x = true) : ∀ {xs : List PV} {vs : List V}, PRs K Φ ad xs vs → xs.all flatP = true → inV v vs = inP x xs
  | _, _, .nil, _ => rfl
  | _, _, .cons a b, hh => by
    rw [List.all_cons, Bool.and_eq_true] at hh
    have ih := inP_ok p h b hh.2
    unfold inV inP at ih ⊢
    rw [List.any_cons, List.any_cons, ih, eqP_ok a p hh.1 h]
def oInG (neg : Bool) : PV → PV → Hh → Res PV := fun x y h => match y with
  | .lst ys => if (flatP x && ys.all flatP) = true then .ok (.bl (if neg then !inP x ys else inP x ys)) h else .no
  | .tup ys => if (flatP x && ys.all flatP) = true then .ok (.bl (if neg then !inP x ys else inP x ys)) h else .no
  | _ => .no
abbrev oIn := oInG false
abbrev oNotIn := oInG true
theorem PB0.flat {S : Sx} {w : Wd} {x : PV} {v : V} (p : PB0 S w x v) (h : flatP x = true) : PW' S w x v := by
  cases p with
  | val r => exact r
  | lst _ _ => cases h
  | dct _ _ _ => cases h
theorem sim_in {S : Sx} {neg : Bool} : Sim2 S (rIn S.K neg) (oInG neg) := by
  intro W σ w h x y v u Q d px py po
  unfold oInG at po
  split at po
  · split at po
    · rename_i ys hc
      simp only [Bool.and_eq_true] at hc
      obtain ⟨a, vs, e, ha, ra⟩ := py.ofLst d
      refine ⟨a, vs, e, .inl ha, flat_ok (px.flat hc.1) hc.1, flats_ok ra hc.2, ?_⟩
      rw [inP_ok (px.flat hc.1) hc.1 ra hc.2]
      exact po.fin d (.bl _)
    · exact po.elim
  · split at po
    · rename_i ys hc
      simp only [Bool.and_eq_true] at hc
      obtain ⟨a, vs, e, ha, ra⟩ := py.ofTup d
      refine ⟨a, vs, e, .inr ha, flat_ok (px.flat hc.1) hc.1, flats_ok ra hc.2, ?_⟩
      rw [inP_ok (px.flat hc.1) hc.1 ra hc.2]
      exact po.fin d (.bl _)
    · exact po.elim
  · exact po.elim
/-- a text in a text -/
def oInS (neg : Bool) : PV → PV → Hh → Res PV := fun x y h => match x, y with
  | .str i, .str j => .ok (.bl (if neg then !(!(Builtin.Str.occurrences j i 0 j.length 1).isEmpty) else !(Builtin.Str.occurrences j i 0 j.length 1).isEmpty)) h
  | _, _ => .no
theorem sim_inS {S : Sx} : Sim2 S (fun x y H Q => ∃ i j, x = .str i ∧ y = .str j ∧ Q (.bl (!(Builtin.Str.occurrences j i 0 j.length 1).isEmpty)) H) (oInS false) := by
  intro W σ w h x y v u Q d px py po
  unfold oInS at po
  split at po
  · exact ⟨_, _, px.ofStr, py.ofStr, po.fin d (.bl _)⟩
  · exact po.elim
theorem sim_notInS {S : Sx} : Sim2 S (fun x y H Q => ∃ i j, x = .str i ∧ y = .str j ∧ Q (.bl (!(!(Builtin.Str.occurrences j i 0 j.length 1).isEmpty))) H) (oInS true) := by
  intro W σ w h x y v u Q d px py po
  unfold oInS at po
  split at po
  · exact ⟨_, _, px.ofStr, py.ofStr, po.fin d (.bl _)⟩
  · exact po.elim
section
variable {F : Fam} {ea eb : Expr} {pos : Pos} {ma mb : ME}
theorem Fam.Ok.u64 (ok : F.Ok) (i : F.ι) : (F.X i).A.units + 64 < cLine := (ok.hr i).units
/-- a comparison: its operation and its mirror -/
structure CmpOk (F : Fam) (op : CmpOp) (f : PV → PV → Hh → Res PV) : Prop where
  ex : ∃ r : R2, Sim2 F.S r f ∧ ∀ i, OpR (F.X i) (compareOp op) r
theorem c_lt (ok : F.Ok) : CmpOk F .Lt oLt := ⟨_, sim_ord, fun i => op_lt.or (op_ltD (X := F.X i) (ok.u64 i))⟩
theorem c_le (ok : F.Ok) : CmpOk F .LtE oLe := ⟨_, sim_ord, fun i => op_le.or (op_leD (X := F.X i) (ok.u64 i))⟩
theorem c_gt (ok : F.Ok) : CmpOk F .Gt oGt := ⟨_, sim_ord, fun i => op_gt.or (op_gtD (X := F.X i) (ok.u64 i))⟩
theorem c_ge (ok : F.Ok) : CmpOk F .GtE oGe := ⟨_, sim_ord, fun i => op_ge.or (op_geD (X := F.X i) (ok.u64 i))⟩
theorem c_eq (ok : F.Ok) : CmpOk F .Eq oEq := ⟨_, sim_eq, fun i => op_eq.or (op_eqD (X := F.X i) (ok.u64 i))⟩
theorem c_ne (ok : F.Ok) : CmpOk F .NotEq oNe := ⟨_, sim_ne, fun i => op_ne.or (op_neD (X := F.X i) (ok.u64 i))⟩
theorem c_is : CmpOk F .Is oIs := ⟨_, sim_is, fun _ => op_isN⟩
theorem c_isNot : CmpOk F .IsNot oIsNot := ⟨_, sim_isNot, fun _ => op_notN⟩
theorem c_in : CmpOk F .In oIn := ⟨_, sim_in, fun i => op_in_seq (X := F.X i)⟩
theorem c_notIn : CmpOk F .NotIn oNotIn := ⟨_, sim_in, fun i => op_notIn_seq (X := F.X i)⟩
theorem c_inS : CmpOk F .In (oInS false) := ⟨_, sim_inS, fun _ => op_in_str⟩
theorem c_notInS : CmpOk F .NotIn (oInS true) := ⟨_, sim_notInS, fun _ => op_notin_str⟩
theorem se_c {op : CmpOp} {f : PV → PV → Hh → Res PV} (c : CmpOk F op f) (ha : SB F ea ma) (hb : SB F eb mb) (hm : behindInMarks op eb = false := by first | exact nomark _ | rfl) : SE F (.Compare ea [op] [eb] pos) (mOp f ma mb) := by
  obtain ⟨r, hf, ho⟩ := c.ex
  exact se_cmp hf ho ha hb hm
theorem st_c {op : CmpOp} {f : PV → PV → Hh → Res PV} (c : CmpOk F op f) (ha : SB F ea ma) (hb : SB F eb mb) (hm : behindInMarks op eb = false := by first | exact nomark _ | rfl) : ST F (.Compare ea [op] [eb] pos) (toT (mOp f ma mb)) := by
  obtain ⟨r, hf, ho⟩ := c.ex
  exact st_cmp hf ho ha hb hm

/-! ### tests -/
def mNotT (m : MT) : MT := fun env h => (m env h).bind fun b h => .ok (!b) h
def mAndT (m n : MT) : MT := fun env h => (m env h).bind fun b h => if b = true then n env h else .ok false h
def mOrT (m n : MT) : MT := fun env h => (m env h).bind fun b h => if b = true then .ok true h else n env h
variable {mt mt' : MT} {rest : List Expr}
theorem SW.t (h : SW F ea mt) : ST F ea mt := by
  obtain ⟨t, p, q⟩ := h
  exact ⟨t, fun i => (p i).pt, q⟩
theorem st_not (h : ST F ea mt) : ST F (.UnaryOp .Not ea pos) (mNotT mt) := by
  obtain ⟨t, p, q⟩ := h
  exact ⟨fun W => tNot (t W), fun i => pt_not (p i), fun W w0 w env h σ Q r po => q W w0 w env h σ _ r (PostE.bind po fun b h1 w1 v s d e p1 => by
    subst e; exact p1.fin d rfl)⟩
theorem sw_and1 (h : ST F ea mt) : SW F (.BoolOp .And [ea] pos) mt := by
  obtain ⟨t, p, q⟩ := h
  exact ⟨t, fun i => pw_and1 (p i), q⟩
theorem sw_or1 (h : ST F ea mt) : SW F (.BoolOp .Or [ea] pos) mt := by
  obtain ⟨t, p, q⟩ := h
  exact ⟨t, fun i => pw_or1 (p i), q⟩
theorem sw_and (h : ST F ea mt) (h' : SW F (.BoolOp .And (eb :: rest) pos) mt') : SW F (.BoolOp .And (ea :: eb :: rest) pos) (mAndT mt mt') := by
  obtain ⟨t, p, q⟩ := h
  obtain ⟨t', p', q'⟩ := h'
  exact ⟨fun W => tAnd (t W) (t' W), fun i => pw_and (p i) (p' i), fun W w0 w env h σ Q r po => q W w0 w env h σ _ r (PostE.bind po fun b h1 w1 v s d e p1 => by
    subst e
    cases b with
    | true => rw [if_pos rfl] at p1 ⊢; exact q' W w0 w1 env h1 σ Q (r.step s d) p1
    | false => rw [if_neg Bool.false_ne_true] at p1 ⊢; exact p1.fin d rfl)⟩
theorem sw_or (h : ST F ea mt) (h' : SW F (.BoolOp .Or (eb :: rest) pos) mt') : SW F (.BoolOp .Or (ea :: eb :: rest) pos) (mOrT mt mt') := by
  obtain ⟨t, p, q⟩ := h
  obtain ⟨t', p', q'⟩ := h'
  exact ⟨fun W => tOr (t W) (t' W), fun i => pw_or (p i) (p' i), fun W w0 w env h σ Q r po => q W w0 w env h σ _ r (PostE.bind po fun b h1 w1 v s d e p1 => by
    subst e
    cases b with
    | true => rw [if_pos rfl] at p1 ⊢; exact p1.fin d rfl
    | false => rw [if_neg Bool.false_ne_true] at p1 ⊢; exact q' W w0 w1 env h1 σ Q (r.step s d) p1)⟩
/-- a value whose truth is asked -/
def truP : PV → Option Bool
  | .non => some false
  | .bl b => some b
  | .int i => some (i != 0)
  | .str s => if s.length ≤ 16777216 then some ((s.length : Int) != 0) else none
  | .tup xs => some (!xs.isEmpty)
  | .lst xs => some (!xs.isEmpty)
  | _ => none
def toTru (m : ME) : MT := fun env h => (m env h).bind fun x h => match truP x with
  | some b => .ok b h
  | none => .no
theorem PRs.empty {K : PySem.W.Frag} {Φ : Hp} {ad : List Addr} {xs : List PV} {vs : List V} (r : PRs K Φ ad xs vs) : vs.isEmpty = xs.isEmpty := by cases r <;> rfl
theorem tru_is {S : Sx} {w : Wd} {h : Hh} (d : Hd S w h) {x : PV} {v : V} {b : Bool} (p : PB0 S w x v) (e : truP x = some b) : TruV S.K v w.H b := by
  cases x with
  | non => cases e; rw [p.ofNon]; exact rfl
  | bl c => cases e; rw [p.ofBl]; exact rfl
  | int i => cases e; rw [p.ofInt]; exact rfl
  | str s =>
    have e' : (if s.length ≤ 16777216 then some ((s.length : Int) != 0) else none) = some b := e
    split at e'
    · rename_i hz; cases e'; rw [p.ofStr]; exact ⟨lim_line hz, rfl⟩
    · cases e'
  | tup xs =>
    cases e
    obtain ⟨a, vs, rfl, ha, ra⟩ := p.ofTup d
    exact .inr (.inl ⟨vs, ha, by rw [ra.empty]⟩)
  | lst xs =>
    cases e
    obtain ⟨a, vs, rfl, ha, ra⟩ := p.ofLst d
    exact .inl ⟨vs, ha, by rw [ra.empty]⟩
  | dct _ _ => cases e
  | ref _ => cases e
theorem st_tru (h : SB F ea ma) (he : ∀ i whole, isTrue ea (F.X i).env whole = (do let v ← whole; standAt ea.pos; holding [v] (truthy v)) := by intro _ _; rfl) : ST F ea (toTru ma) := by
  obtain ⟨t, p, q⟩ := h
  refine ⟨fun W σ H Q => t W σ H fun x H' => ∃ k, TruV F.K x H' k ∧ Q k H', fun i => pt_truth (p i) (he i), fun W w0 w env h σ Q r po => ?_⟩
  refine q W w0 w env h σ _ r (PostE.bind po fun x h1 w1 v s d e p1 => ?_)
  split at p1
  · rename_i b eb
    exact ⟨b, tru_is d e.z eb, p1.fin d rfl⟩
  · exact p1.elim
end
end Mir

set_option Elab.async false
set_option linter.all false
set_option maxRecDepth 100000
set_option maxHeartbeats 1000000
namespace Mir
open PySem PySem.Spec PyProof.Rows L2
section
variable {F : Fam} {e ea eb ec : Expr} {es rest : List Expr} {pos p : Pos} {m ma mb : ME} {mt : MT} {mr : MA}

/-! ### and, or, not, if as values -/
def mAndV (m n : ME) : ME := fun env h => (m env h).bind fun x h => match x with
  | .bl true => n env h
  | .bl false => .ok (.bl false) h
  | _ => .no
def mOrV (m n : ME) : ME := fun env h => (m env h).bind fun x h => match x with
  | .bl true => .ok (.bl true) h
  | .bl false => n env h
  | _ => .no
def mNotV (m : ME) : ME := fun env h => (m env h).bind fun x h => match x with
  | .bl b => .ok (.bl (!b)) h
  | _ => .no
def mIf (t : MT) (m n : ME) : ME := fun env h => (t env h).bind fun b h => if b = true then m env h else n env h
theorem sv_one {op} (h : SE F ea ma) : SE F (.BoolOp op [ea] pos) ma := by
  obtain ⟨t, p, q⟩ := h
  exact ⟨t, fun i => pe_one (p i), q⟩
theorem sv_and (h : SE F ea ma) (h' : SE F (.BoolOp .And (eb :: rest) pos) mb) : SE F (.BoolOp .And (ea :: eb :: rest) pos) (mAndV ma mb) := by
  obtain ⟨t, p, q⟩ := h
  obtain ⟨t', p', q'⟩ := h'
  refine ⟨fun W => tAndV (t W) (t' W), fun i => pe_and (p i) (p' i), fun W w0 w env h σ Q r po => q W w0 w env h σ _ r (PostE.bind po fun x h1 w1 v s d e p1 => ?_)⟩
  split at p1
  · cases e; exact ⟨true, rfl, by rw [if_pos rfl]; exact q' W w0 w1 env h1 σ Q (r.step s d) p1⟩
  · cases e; exact ⟨false, rfl, by rw [if_neg Bool.false_ne_true]; exact p1.fin d (.bl _)⟩
  · exact p1.elim
theorem sv_or (h : SE F ea ma) (h' : SE F (.BoolOp .Or (eb :: rest) pos) mb) : SE F (.BoolOp .Or (ea :: eb :: rest) pos) (mOrV ma mb) := by
  obtain ⟨t, p, q⟩ := h
  obtain ⟨t', p', q'⟩ := h'
  refine ⟨fun W => tOrV (t W) (t' W), fun i => pe_or (p i) (p' i), fun W w0 w env h σ Q r po => q W w0 w env h σ _ r (PostE.bind po fun x h1 w1 v s d e p1 => ?_)⟩
  split at p1
  · cases e; exact ⟨true, rfl, by rw [if_pos rfl]; exact p1.fin d (.bl _)⟩
  · cases e; exact ⟨false, rfl, by rw [if_neg Bool.false_ne_true]; exact q' W w0 w1 env h1 σ Q (r.step s d) p1⟩
  · exact p1.elim
theorem sv_not (h : SE F ea ma) : SE F (.UnaryOp .Not ea pos) (mNotV ma) := by
  obtain ⟨t, p, q⟩ := h
  refine ⟨fun W => tNotV (t W), fun i => pe_not (p i), fun W w0 w env h σ Q r po => q W w0 w env h σ _ r (PostE.bind po fun x h1 w1 v s d e p1 => ?_)⟩
  split at p1
  · cases e; exact ⟨_, rfl, p1.fin d (.bl _)⟩
  · exact p1.elim
theorem se_if (ht : ST F ec mt) (h : SE F ea ma) (h' : SE F eb mb) : SE F (.IfExp ec ea eb pos) (mIf mt ma mb) := by
  obtain ⟨tc, pc, qc⟩ := ht
  obtain ⟨t, p, q⟩ := h
  obtain ⟨t', p', q'⟩ := h'
  refine ⟨fun W => tIf (tc W) (t W) (t' W), fun i => pe_ifExp (pc i) (p i) (p' i), fun W w0 w env h σ Q r po => qc W w0 w env h σ _ r (PostE.bind po fun b h1 w1 v s d e p1 => ?_)⟩
  subst e
  cases b with
  | true => rw [if_pos rfl] at p1 ⊢; exact q W w0 w1 env h1 σ Q (r.step s d) p1
  | false => rw [if_neg Bool.false_ne_true] at p1 ⊢; exact q' W w0 w1 env h1 σ Q (r.step s d) p1

/-! ### arguments, displays -/
def mNil : MA := fun _ h => .ok [] h
def mCons (m : ME) (r : MA) : MA := fun env h => (m env h).bind fun x h => (r env h).bind fun xs h => .ok (x :: xs) h
theorem sa_nil : SA F [] mNil := ⟨fun _ => tNil, fun _ => pa_nil, fun W w0 w env h σ Q r po => PostE.fin po r.hd .nil⟩
theorem sa_cons (h : SE F e m) (h' : SA F es mr) (hs : ∀ i, starEach (e :: es) (F.X i).env = (false, eval e (F.X i).env) :: starEach es (F.X i).env := by intro _; rfl) : SA F (e :: es) (mCons m mr) := by
  obtain ⟨t, p, q⟩ := h
  obtain ⟨t', p', q'⟩ := h'
  exact ⟨fun W => tCons (t W) (t' W), fun i => pa_cons (p i) (p' i) (hs i), fun W w0 w env h σ Q r po => q W w0 w env h σ _ r (PostE.bind po fun x h1 w1 v s1 d1 e1 p1 =>
    q' W w0 w1 env h1 σ _ (r.step s1 d1) (PostE.bind p1 fun xs h2 w2 vs s2 d2 e2 p2 => p2.fin d2 (.cons (s2.pr e1) e2)))⟩
theorem sab_nil : SAB F [] mNil := ⟨fun _ => tNil, fun _ => pa_nil, fun W w0 w env h σ Q r po => PostE.fin po r.hd .nil⟩
theorem sab_cons (h : SB F e m) (h' : SAB F es mr) (hs : ∀ i, starEach (e :: es) (F.X i).env = (false, eval e (F.X i).env) :: starEach es (F.X i).env := by intro _; rfl) : SAB F (e :: es) (mCons m mr) := by
  obtain ⟨t, p, q⟩ := h
  obtain ⟨t', p', q'⟩ := h'
  exact ⟨fun W => tCons (t W) (t' W), fun i => pa_cons (p i) (p' i) (hs i), fun W w0 w env h σ Q r po => q W w0 w env h σ _ r (PostE.bind po fun x h1 w1 v s1 d1 e1 p1 =>
    q' W w0 w1 env h1 σ _ (r.step s1 d1) (PostE.bind p1 fun xs h2 w2 vs s2 d2 e2 p2 => p2.fin d2 (.cons (e1.step s2) e2)))⟩
def szc (m : MA) : MA := fun env h => (m env h).bind fun xs h => if xs.length ≤ 16777216 then .ok xs h else .no
def mTup (m : MA) : ME := fun env h => (m env h).bind fun xs h => if xs.length ≤ 16777216 then .ok (.tup xs) h else .no
theorem se_tup {k} (h : SA F es mr) : SE F (.Tuple es k pos) (mTup mr) := by
  obtain ⟨t, p, q⟩ := h
  refine ⟨fun W => tTup (t W), fun i => pe_tup (p i), fun W w0 w env h σ Q r po => q W w0 w env h σ _ r (PostE.bind po fun xs h1 w1 vs s1 d1 e1 p1 => ?_)⟩
  split at p1
  · rename_i hz
    exact ⟨lim_line (by rw [← e1.length]; exact hz), fun a na => p1 (w1.lock a (.tup vs)) (.ref a) (Step.lock d1 na) (d1.lock na) (.tup (.inl (.inl upd_same)) ((Step.lock d1 na).prs e1))⟩
  · exact p1.elim
/-- an object of nobody's is laid -/
theorem Step.put {S : Sx} {w : Wd} {h : Hh} (d : Hd S w h) {a : Addr} {o : HO} (z : w.H a = none) : Step w (w.put a o) where
  fz := fun _ _ e => e
  ix := fun _ _ e => e
  nw := fun _ hx => .inl hx
  kp := fun x u e _ => by
    show upd w.H a o x = some u
    have : x ≠ a := fun q => by rw [q, z] at e; cases e
    rw [upd_ne this]; exact e
  th := fun x e => by
    show upd w.H a o x ≠ Option.none
    by_cases hx : x = a
    · subst hx; rw [upd_same]; simp
    · rw [upd_ne hx]; exact e
  fn := fun x u e => .inl e
theorem Hd.put {S : Sx} {w : Wd} {h : Hh} (d : Hd S w h) {a : Addr} {o : HO} (z : w.H a = none) : Hd S (w.put a o) h where
  sub := fun x u e => by
    show upd w.H a o x = some u
    have e' : w.Φ x = some u := e
    have : x ≠ a := fun q => by rw [q, d.fresh z] at e'; cases e'
    rw [upd_ne this]; exact d.sub x u e'
  len := d.len
  nd := d.nd
  sep := d.sep
  obj := fun n ob x e f => (d.obj n ob x e f).step (Step.put d z) fun u q => by
    show upd w.H a o x = some u
    have : x ≠ a := fun hq => by rw [hq, z] at q; cases q
    rw [upd_ne this]; exact q
theorem sn_lst (h : SA F es mr) : SN F (.List es pos) (szc mr) := by
  obtain ⟨t, p, q⟩ := h
  refine ⟨fun W => tLst (t W), fun i => pe_lst (p i), fun W w0 w env h σ Q r po => q W w0 w env h σ _ r (PostE.bind0 po fun xs h1 w1 vs s1 d1 e1 p1 => ?_)⟩
  split at p1
  · rename_i hz
    refine ⟨lim_line (by rw [← e1.length]; exact hz), fun a na => p1 (w1.put a (.lst vs)) (.ref a) (s1.trans (Step.put d1 na)) (d1.put na) ⟨a, vs, rfl, upd_same, (Step.put d1 na).prs e1, d1.notAd na, d1.fresh na, s1.fr na⟩⟩
  · exact p1.elim

/-! ### built-in calls -/
def mCall (f : List PV → Hh → Res PV) (m : MA) : ME := fun env h => (m env h).bind fun xs h => f xs h
def SimC (S : Sx) (r : List V → Hp → VK → Prop) (f : List PV → Hh → Res PV) : Prop := ∀ (W : WX) (σ : L2.St) (w : Wd) (h : Hh) (xs : List PV) (vs : List V) (Q : VK), Hd S w h → PB0s S w xs vs → PostE S W w σ (RV S) (f xs h) Q → r vs w.H Q
theorem rd_call {S : Sx} {W : WX} {ta : TA} {r : List V → Hp → VK → Prop} {f : List PV → Hh → Res PV} (hf : SimC S r f) (q : RdG S (RBs S) W ta mr) : RdG S (RV S) W (tCB r ta) (mCall f mr) :=
  fun w0 w env h σ Q rl po => q w0 w env h σ _ rl (PostE.bind po fun xs h1 w1 vs s1 d1 p1 po1 => hf W σ w1 h1 xs vs Q d1 p1.z po1)
theorem se_callB {id : String} {x : Str} {r : List V → Hp → VK → Prop} {f : List PV → Hh → Res PV} (hf : SimC F.S r f) (hc : ∀ i, CallR (F.X i) (.builtin id) r) (hm : F.mg x = none) (hv : bootBuiltins x = some (.builtin id)) (ha : SAB F (e :: es) mr)
    (hg : ∀ i, Gl (F.X i) x := by intro _; rfl) (hn : x ≠ "__name__" := by decide) (hdb : (x == ("__debug__" : Str)) = false := by decide)
    (he : ∀ i, starEach (e :: es) (F.X i).env = (false, eval e (F.X i).env) :: starEach es (F.X i).env := by intro _; rfl) (hpl : ∀ i, (backTo pos (starEach es (F.X i).env)).any (·.1) = false := by intro _; rfl) : SE F (.Call (.Name x p) (e :: es) [] pos) (mCall f mr) := by
  obtain ⟨t, pa, q⟩ := ha
  exact ⟨fun W => tCB r (t W), fun i => pe_callB (hc i) (hg i) hm hv (pa i) hn hdb (he i) (hpl i), fun W => rd_call hf (q W)⟩
theorem se_callTy {T : String} {x : Str} {r : List V → Hp → VK → Prop} {f : List PV → Hh → Res PV} (hf : SimC F.S r f) (hc : ∀ i, CallR (F.X i) (.type T) r) (hm : F.mg x = none) (hv : bootBuiltins x = some (.type T)) (ha : SAB F (e :: es) mr)
    (hg : ∀ i, Gl (F.X i) x := by intro _; rfl) (hn : x ≠ "__name__" := by decide) (hdb : (x == ("__debug__" : Str)) = false := by decide)
    (he : ∀ i, starEach (e :: es) (F.X i).env = (false, eval e (F.X i).env) :: starEach es (F.X i).env := by intro _; rfl) (hpl : ∀ i, (backTo pos (starEach es (F.X i).env)).any (·.1) = false := by intro _; rfl) : SE F (.Call (.Name x p) (e :: es) [] pos) (mCall f mr) := by
  obtain ⟨t, pa, q⟩ := ha
  exact ⟨fun W => tCB r (t W), fun i => pe_callTy (hc i) (hg i) hm hv (pa i) hn hdb (he i) (hpl i), fun W => rd_call hf (q W)⟩
theorem PBs.one {S : Sx} {w : Wd} {x : PV} {vs : List V} (p : PBs S w [x] vs) : ∃ v, vs = [v] ∧ PB S w x v := by
  cases p with | cons a b => cases b; exact ⟨_, rfl, a⟩
theorem PBs.two {S : Sx} {w : Wd} {x y : PV} {vs : List V} (p : PBs S w [x, y] vs) : ∃ v u, vs = [v, u] ∧ PB S w x v ∧ PB S w y u := by
  cases p with | cons a b => obtain ⟨u, rfl, c⟩ := b.one; exact ⟨_, _, rfl, a, c⟩
theorem PB0s.one {S : Sx} {w : Wd} {x : PV} {vs : List V} (p : PB0s S w [x] vs) : ∃ v, vs = [v] ∧ PB0 S w x v := by
  cases p with | cons a b => cases b; exact ⟨_, rfl, a⟩
theorem PB0s.two {S : Sx} {w : Wd} {x y : PV} {vs : List V} (p : PB0s S w [x, y] vs) : ∃ v u, vs = [v, u] ∧ PB0 S w x v ∧ PB0 S w y u := by
  cases p with | cons a b => obtain ⟨u, rfl, c⟩ := b.one; exact ⟨_, _, rfl, a, c⟩
/-- len -/
def fLen : List PV → Hh → Res PV := fun xs h => match xs with
  | [.lst ys] => .ok (.int ys.length) h
  | [.tup ys] => .ok (.int ys.length) h
  | [.str s] => if s.length ≤ 16777216 then .ok (.int s.length) h else .no
  | _ => .no
theorem sim_len {S : Sx} : SimC S (fun xs H Q => ∃ x n, xs = [x] ∧ LenV S.K x H n ∧ Q (.int n) H) fLen := by
  intro W σ w h xs vs Q d px po
  unfold fLen at po
  split at po
  · obtain ⟨v, rfl, p1⟩ := px.one
    obtain ⟨a, us, rfl, ha, ra⟩ := p1.ofLst d
    refine ⟨_, us.length, rfl, .inl ⟨us, ha, rfl⟩, ?_⟩
    rw [← ra.length]; exact po.fin d (.int _)
  · obtain ⟨v, rfl, p1⟩ := px.one
    obtain ⟨a, us, rfl, ha, ra⟩ := p1.ofTup d
    refine ⟨_, us.length, rfl, .inr ⟨us, ha, rfl⟩, ?_⟩
    rw [← ra.length]; exact po.fin d (.int _)
  · obtain ⟨v, rfl, p1⟩ := px.one
    split at po
    · rename_i hz; rw [p1.ofStr]; exact ⟨_, _, rfl, ⟨lim_line hz, rfl⟩, po.fin d (.int _)⟩
    · exact po.elim
  · exact po.elim
theorem se_len (hm : F.mg "len" = none) (ha : SAB F [e] mr) (hg : ∀ i, Gl (F.X i) "len" := by intro _; rfl) (he : ∀ i, starEach [e] (F.X i).env = (false, eval e (F.X i).env) :: starEach [] (F.X i).env := by intro _; rfl) : SE F (.Call (.Name "len" p) [e] [] pos) (mCall fLen mr) :=
  se_callB sim_len (fun i => call_len (X := F.X i)) hm PySem.boot_len ha hg (by decide) (by decide) he (fun _ => rfl)
/-- int of an int or a bool -/
def fInt : List PV → Hh → Res PV := fun xs h => match xs with
  | [.int i] => .ok (.int i) h
  | [.bl b] => .ok (.int (if b then 1 else 0)) h
  | _ => .no
theorem se_intc (hm : F.mg "int" = none) (ha : SAB F [e] mr) (hg : ∀ i, Gl (F.X i) "int" := by intro _; rfl) (he : ∀ i, starEach [e] (F.X i).env = (false, eval e (F.X i).env) :: starEach [] (F.X i).env := by intro _; rfl) : SE F (.Call (.Name "int" p) [e] [] pos) (mCall fInt mr) :=
  se_callTy (fun W σ w h xs vs Q d px po => by
    unfold fInt at po
    split at po
    · obtain ⟨v, rfl, p1⟩ := px.one
      rw [p1.ofInt]; exact .inl ⟨_, rfl, po.fin d (.int _)⟩
    · obtain ⟨v, rfl, p1⟩ := px.one
      rw [p1.ofBl]; exact .inr ⟨_, rfl, po.fin d (.int _)⟩
    · exact po.elim) (fun _ => call_int1) hm (by decide +kernel) ha hg (by decide) (by decide) he (fun _ => rfl)
def fAbs : List PV → Hh → Res PV := fun xs h => match xs with
  | [.int i] => .ok (.int (if i < 0 then -i else i)) h
  | _ => .no
theorem se_abs (hm : F.mg "abs" = none) (ha : SAB F [e] mr) (hg : ∀ i, Gl (F.X i) "abs" := by intro _; rfl) (he : ∀ i, starEach [e] (F.X i).env = (false, eval e (F.X i).env) :: starEach [] (F.X i).env := by intro _; rfl) : SE F (.Call (.Name "abs" p) [e] [] pos) (mCall fAbs mr) :=
  se_callB (fun W σ w h xs vs Q d px po => by
    unfold fAbs at po
    split at po
    · obtain ⟨v, rfl, p1⟩ := px.one
      rw [p1.ofInt]; exact ⟨_, rfl, po.fin d (.int _)⟩
    · exact po.elim) (fun _ => call_abs) hm (by decide +kernel) ha hg (by decide) (by decide) he (fun _ => rfl)
def fMax2 : List PV → Hh → Res PV := fun xs h => match xs with
  | [.int i, .int j] => .ok (.int (if j > i then j else i)) h
  | _ => .no
def fMin2 : List PV → Hh → Res PV := fun xs h => match xs with
  | [.int i, .int j] => .ok (.int (if j < i then j else i)) h
  | _ => .no
theorem se_max2 (hc : F.calm = true) (hm : F.mg "max" = none) (ha : SAB F [ea, eb] mr) (hg : ∀ i, Gl (F.X i) "max" := by intro _; rfl) (he : ∀ i, starEach [ea, eb] (F.X i).env = (false, eval ea (F.X i).env) :: starEach [eb] (F.X i).env := by intro _; rfl)
    (hpl : ∀ i, (backTo pos (starEach [eb] (F.X i).env)).any (·.1) = false := by intro _; rfl) : SE F (.Call (.Name "max" p) [ea, eb] [] pos) (mCall fMax2 mr) :=
  se_callB (fun W σ w h xs vs Q d px po => by
    unfold fMax2 at po
    split at po
    · obtain ⟨v, u, rfl, p1, p2⟩ := px.two
      rw [p1.ofInt, p2.ofInt]; exact ⟨_, _, rfl, po.fin d (.int _)⟩
    · exact po.elim) (fun _ => call_max2 hc) hm (by decide +kernel) ha hg (by decide) (by decide) he hpl
theorem se_min2 (hc : F.calm = true) (hm : F.mg "min" = none) (ha : SAB F [ea, eb] mr) (hg : ∀ i, Gl (F.X i) "min" := by intro _; rfl) (he : ∀ i, starEach [ea, eb] (F.X i).env = (false, eval ea (F.X i).env) :: starEach [eb] (F.X i).env := by intro _; rfl)
    (hpl : ∀ i, (backTo pos (starEach [eb] (F.X i).env)).any (·.1) = false := by intro _; rfl) : SE F (.Call (.Name "min" p) [ea, eb] [] pos) (mCall fMin2 mr) :=
  se_callB (fun W σ w h xs vs Q d px po => by
    unfold fMin2 at po
    split at po
    · obtain ⟨v, u, rfl, p1, p2⟩ := px.two
      rw [p1.ofInt, p2.ofInt]; exact ⟨_, _, rfl, po.fin d (.int _)⟩
    · exact po.elim) (fun _ => call_min2 hc) hm (by decide +kernel) ha hg (by decide) (by decide) he hpl
end
end Mir

set_option Elab.async false
set_option linter.all false
set_option maxRecDepth 100000
set_option maxHeartbeats 1000000
namespace Mir
open PySem PySem.Spec PyProof.Rows L2
section
variable {F : Fam} {e ea eb ec : Expr} {es rest : List Expr} {pos p p2 : Pos} {m ma mb : ME} {mt : MT} {mr : MA}

/-! ### subscripts -/
theorem PRs.atI {K : PySem.W.Frag} {Φ : Hp} {ad : List Addr} {xs : List PV} {vs : List V} (r : PRs K Φ ad xs vs) {i : Int} {x : PV} (h : L2.atI xs i = some x) : ∃ v, L2.atI vs i = some v ∧ PR K Φ ad x v := by
  unfold L2.atI at h ⊢
  rw [r.length] at h
  cases e : ixN vs.length i with
  | none => rw [e] at h; cases h
  | some j =>
    rw [e] at h
    obtain ⟨v, h1, h2⟩ := r.get (i := j) h
    exact ⟨v, h1, h2⟩
def oIx : PV → PV → Hh → Res PV := fun x y h => match x, y with
  | .lst xs, .int i => match L2.atI xs i with
    | some z => .ok z h
    | none => .no
  | .tup xs, .int i => match L2.atI xs i with
    | some z => .ok z h
    | none => .no
  | .str s, .int i => if s.length ≤ 16777216 then match L2.atI s.cps.toList i with
    | some c => .ok (.str ⟨#[c]⟩) h
    | none => .no else .no
  | _, _ => .no
theorem sim_ix {S : Sx} : Sim2 S (rIx S.K) oIx := by
  intro W σ w h x y v u Q d px py po
  unfold oIx at po
  split at po
  · split at po
    · rename_i xs i _ z e
      obtain ⟨a, vs, rfl, ha, ra⟩ := px.ofLst d
      obtain ⟨zv, e1, r1⟩ := ra.atI e
      exact .inl ⟨a, vs, i, zv, rfl, py.ofInt, ha, e1, po.fin d r1⟩
    · exact po.elim
  · split at po
    · rename_i xs i _ z e
      obtain ⟨a, vs, rfl, ha, ra⟩ := px.ofTup d
      obtain ⟨zv, e1, r1⟩ := ra.atI e
      exact .inr (.inl ⟨a, vs, i, zv, rfl, py.ofInt, ha, e1, po.fin d r1⟩)
    · exact po.elim
  · split at po
    · rename_i hz
      split at po
      · rename_i c e
        exact .inr (.inr ⟨_, _, c, px.ofStr, py.ofInt, lim_line hz, e, po.fin d (.str _)⟩)
      · exact po.elim
    · exact po.elim
  · exact po.elim
theorem se_ix (ha : SB F ea ma) (hb : SB F eb mb) (hs : PlainIx eb := by exact fun _ _ => rfl) : SE F (.Subscript ea eb pos) (mOp oIx ma mb) := by
  obtain ⟨ta, pa, qa⟩ := ha
  obtain ⟨tb, pb, qb⟩ := hb
  exact ⟨fun W => tOp (rIx F.K) (ta W) (tb W), fun i => pe_ix (ix_seq (X := F.X i)) (pa i) (pb i) hs, fun W => rd_op sim_ix (qa W) (qb W)⟩

/-! ### slices -/
abbrev MO := En → Hh → Res (Option Int)
def SO (F : Fam) (e : Option Expr) (m : MO) : Prop := ∃ t : WX → TO, (∀ i, PO (F.X i) e (t (F.W i))) ∧ ∀ W, RdG F.S (fun _ _ (a b : Option Int) => a = b) W (t W) m
instance : Back (fun (_ _ : Wd) (a b : Option Int) => a = b) := ⟨fun _ _ _ _ _ _ h => h⟩
def mOn : MO := fun _ h => .ok none h
def mOs (m : ME) : MO := fun env h => (m env h).bind fun x h => match x with
  | .int i => .ok (some i) h
  | _ => .no
theorem so_none : SO F none mOn := ⟨fun _ => tNoPart, fun _ => po_none, fun W w0 w env h σ Q r po => PostE.fin po r.hd rfl⟩
theorem so_some (h : SB F e m) : SO F (some e) (mOs m) := by
  obtain ⟨t, p, q⟩ := h
  refine ⟨fun W => tPart (t W), fun i => po_some (p i), fun W w0 w env h σ Q r po => q W w0 w env h σ _ r (PostE.bind po fun x h1 w1 v s d e1 p1 => ?_)⟩
  split at p1
  · rw [e1.ofInt]; exact ⟨_, rfl, p1.fin d rfl⟩
  · exact p1.elim
def cutP (xs : List PV) (lo hi : Option Int) : List PV := (xs.drop (HT.sIx xs.length 0 lo)).take (HT.sIx xs.length xs.length hi - HT.sIx xs.length 0 lo)
theorem PRs.cut {K : PySem.W.Frag} {Φ : Hp} {ad : List Addr} {xs : List PV} {vs : List V} (r : PRs K Φ ad xs vs) (lo hi : Option Int) : PRs K Φ ad (cutP xs lo hi) (cutV vs lo hi) := by
  unfold cutP cutV
  rw [r.length]
  exact (r.drop _).take _
theorem cut_whole {xs : List PV} {lo hi : Option Int} (h : HT.sIx xs.length 0 lo = 0 ∧ HT.sIx xs.length xs.length hi = xs.length) : cutP xs lo hi = xs := by
  unfold cutP
  rw [h.1, h.2]
  simp
def oSl (x : PV) (lo hi : Option Int) (h : Hh) : Res PV := match x with
  | .lst xs => .ok (.lst (cutP xs lo hi)) h
  | .tup xs => .ok (.tup (cutP xs lo hi)) h
  | .str s => if s.length ≤ 16777216 then .ok (.str (cutS s lo hi)) h else .no
  | _ => .no
def mSl (m : ME) (lo hi : MO) : ME := fun env h => (m env h).bind fun x h => (lo env h).bind fun l h => (hi env h).bind fun u h => oSl x l u h
def rSlG (K : PySem.W.Frag) : V → Option Int → Option Int → Hp → VK → Prop := fun x lo hi H Q => rSlL K x lo hi H Q ∨ (rSlA K x lo hi H Q ∨ rSlS x lo hi H Q)
theorem se_sl {lo hi : Option Expr} {ml mh : MO} (h : SB F e m) (hl : SO F lo ml) (hh : SO F hi mh) : SE F (.Subscript e (.Slice lo hi none p2) pos) (mSl m ml mh) := by
  obtain ⟨t, p, q⟩ := h
  obtain ⟨tl, pl, ql⟩ := hl
  obtain ⟨th, ph, qh⟩ := hh
  refine ⟨fun W => tSl (rSlG F.K) (t W) (tl W) (th W), fun i => pe_slice ((sl_list (X := F.X i)).or (sl_tupA.or sl_str)) (p i) (pl i) (ph i), fun W w0 w env h σ Q r po => ?_⟩
  refine q W w0 w env h σ _ r (PostE.bind po fun x h1 w1 v s1 d1 e1 p1 => ql W w0 w1 env h1 σ _ (r.step s1 d1) (PostE.bind p1 fun l h2 w2 l' s2 d2 e2 p2 =>
    qh W w0 w2 env h2 σ _ ((r.step s1 d1).step s2 d2) (PostE.bind p2 fun u h3 w3 u' s3 d3 e3 p3 => ?_)))
  subst e2 e3
  have e1' := (e1.step s2).step s3
  unfold oSl at p3
  split at p3
  · obtain ⟨a, vs, rfl, ha, ra⟩ := e1'.ofLst d3
    exact .inl ⟨a, vs, rfl, ha, fun b nb => p3 (w3.lock b (.lst (cutV vs l u))) (.ref b) (Step.lock d3 nb) (d3.lock nb) (.lst (.inl (.inl upd_same)) ((Step.lock d3 nb).prs (ra.cut l u)))⟩
  · rename_i xs
    obtain ⟨a, vs, rfl, ha, ra⟩ := e1'.ofTup d3
    refine .inr (.inl ⟨a, vs, rfl, ha, fun hw => ?_, fun hn b nb => p3 (w3.lock b (.tup (cutV vs l u))) (.ref b) (Step.lock d3 nb) (d3.lock nb) (.tup (.inl (.inl upd_same)) ((Step.lock d3 nb).prs (ra.cut l u)))⟩)
    rw [← ra.length] at hw
    rw [cut_whole hw] at p3
    refine p3.fin d3 ?_
    rcases e1' with ⟨z⟩
    exact z
  · split at p3
    · rename_i hz
      exact .inr (.inr ⟨_, e1'.ofStr, lim_line hz, p3.fin d3 (.str _)⟩)
    · exact p3.elim
  · exact p3.elim
/-- a slice of a list, as a new list -/
def toLst (r : Res PV) : Res (List PV) := r.bind fun x h => match x with
  | .lst xs => .ok xs h
  | _ => .no
def mSlN (m : ME) (lo hi : MO) : MA := fun env h => (m env h).bind fun x h => (lo env h).bind fun l h => (hi env h).bind fun u h => match x with
  | .lst xs => .ok (cutP xs l u) h
  | _ => .no
theorem sn_sl {lo hi : Option Expr} {ml mh : MO} (h : SB F e m) (hl : SO F lo ml) (hh : SO F hi mh) : SN F (.Subscript e (.Slice lo hi none p2) pos) (mSlN m ml mh) := by
  obtain ⟨t, p, q⟩ := h
  obtain ⟨tl, pl, ql⟩ := hl
  obtain ⟨th, ph, qh⟩ := hh
  refine ⟨fun W => tSl (rSlL F.K) (t W) (tl W) (th W), fun i => pe_slice (sl_list (X := F.X i)) (p i) (pl i) (ph i), fun W w0 w env h σ Q r po => ?_⟩
  refine q W w0 w env h σ _ r (PostE.bind po fun x h1 w1 v s1 d1 e1 p1 => ql W w0 w1 env h1 σ _ (r.step s1 d1) (PostE.bind p1 fun l h2 w2 l' s2 d2 e2 p2 =>
    qh W w0 w2 env h2 σ _ ((r.step s1 d1).step s2 d2) (PostE.bind p2 fun u h3 w3 u' s3 d3 e3 p3 => ?_)))
  subst e2 e3
  have e1' := (e1.step s2).step s3
  split at p3
  · obtain ⟨a, vs, rfl, ha, ra⟩ := e1'.ofLst d3
    exact ⟨a, vs, rfl, ha, fun b nb => p3 (w3.put b (.lst (cutV vs l u))) (.ref b) (Step.put d3 nb) (d3.put nb) ⟨b, _, rfl, upd_same, (Step.put d3 nb).prs (ra.cut l u), d3.notAd nb, d3.fresh nb, nb⟩⟩
  · exact p3.elim

/-! ### tuple(..), list(..) -/
def fTuple : List PV → Hh → Res PV := fun xs h => match xs with
  | [.lst ys] => .ok (.tup ys) h
  | [.tup ys] => .ok (.tup ys) h
  | _ => .no
theorem se_tuple (hm : F.mg "tuple" = none) (ha : SAB F [e] mr) (hg : ∀ i, Gl (F.X i) "tuple" := by intro _; rfl) (he : ∀ i, starEach [e] (F.X i).env = (false, eval e (F.X i).env) :: starEach [] (F.X i).env := by intro _; rfl) : SE F (.Call (.Name "tuple" p) [e] [] pos) (mCall fTuple mr) :=
  se_callTy (r := fun xs H Q => ∃ p ys, xs = [.ref p] ∧ ((SqL F.K H p ys ∧ ∀ l, H l = none → Q (.ref l) (upd H l (.tup ys))) ∨ (SqT F.K H p ys ∧ Q (.ref p) H))) (fun W σ w h xs vs Q d px po => by
    unfold fTuple at po
    split at po
    · obtain ⟨v, rfl, p1⟩ := px.one
      obtain ⟨a, us, rfl, ha, ra⟩ := p1.ofLst d
      exact ⟨a, us, rfl, .inl ⟨ha, fun b nb => po (w.lock b (.tup us)) (.ref b) (Step.lock d nb) (d.lock nb) (.tup (.inl (.inl upd_same)) ((Step.lock d nb).prs ra))⟩⟩
    · obtain ⟨v, rfl, p1⟩ := px.one
      obtain ⟨a, us, rfl, ha, ra⟩ := p1.ofTup d
      refine ⟨a, us, rfl, .inr ⟨ha, po.fin d ?_⟩⟩
      rcases p1 with ⟨z⟩
      exact z
    · exact po.elim) (fun i => call_tuple_of (X := F.X i)) hm (by decide +kernel) ha hg (by decide) (by decide) he (fun _ => rfl)
/-- a new list from a call -/
def mCallN (f : List PV → Hh → Res (List PV)) (m : MA) : MA := fun env h => (m env h).bind fun xs h => f xs h
def SimN (S : Sx) (r : List V → Hp → VK → Prop) (f : List PV → Hh → Res (List PV)) : Prop := ∀ (W : WX) (σ : L2.St) (w : Wd) (h : Hh) (xs : List PV) (vs : List V) (Q : VK), Hd S w h → PB0s S w xs vs → PostE S W w σ (RN S) (f xs h) Q → r vs w.H Q
theorem sn_callB {id : String} {x : Str} {r : List V → Hp → VK → Prop} {f : List PV → Hh → Res (List PV)} (hf : SimN F.S r f) (hc : ∀ i, CallR (F.X i) (.builtin id) r) (hm : F.mg x = none) (hv : bootBuiltins x = some (.builtin id)) (ha : SAB F (e :: es) mr)
    (hg : ∀ i, Gl (F.X i) x := by intro _; rfl) (hn : x ≠ "__name__" := by decide) (hdb : (x == ("__debug__" : Str)) = false := by decide)
    (he : ∀ i, starEach (e :: es) (F.X i).env = (false, eval e (F.X i).env) :: starEach es (F.X i).env := by intro _; rfl) (hpl : ∀ i, (backTo pos (starEach es (F.X i).env)).any (·.1) = false := by intro _; rfl) : SN F (.Call (.Name x p) (e :: es) [] pos) (mCallN f mr) := by
  obtain ⟨t, pa, q⟩ := ha
  exact ⟨fun W => tCB r (t W), fun i => pe_callB (hc i) (hg i) hm hv (pa i) hn hdb (he i) (hpl i), fun W w0 w env h σ Q rl po => q W w0 w env h σ _ rl (PostE.bind po fun xs h1 w1 vs s1 d1 p1 po1 => hf W σ w1 h1 xs vs Q d1 p1.z po1)⟩
theorem sn_callTy {T : String} {x : Str} {r : List V → Hp → VK → Prop} {f : List PV → Hh → Res (List PV)} (hf : SimN F.S r f) (hc : ∀ i, CallR (F.X i) (.type T) r) (hm : F.mg x = none) (hv : bootBuiltins x = some (.type T)) (ha : SAB F (e :: es) mr)
    (hg : ∀ i, Gl (F.X i) x := by intro _; rfl) (hn : x ≠ "__name__" := by decide) (hdb : (x == ("__debug__" : Str)) = false := by decide)
    (he : ∀ i, starEach (e :: es) (F.X i).env = (false, eval e (F.X i).env) :: starEach es (F.X i).env := by intro _; rfl) (hpl : ∀ i, (backTo pos (starEach es (F.X i).env)).any (·.1) = false := by intro _; rfl) : SN F (.Call (.Name x p) (e :: es) [] pos) (mCallN f mr) := by
  obtain ⟨t, pa, q⟩ := ha
  exact ⟨fun W => tCB r (t W), fun i => pe_callTy (hc i) (hg i) hm hv (pa i) hn hdb (he i) (hpl i), fun W w0 w env h σ Q rl po => q W w0 w env h σ _ rl (PostE.bind po fun xs h1 w1 vs s1 d1 p1 po1 => hf W σ w1 h1 xs vs Q d1 p1.z po1)⟩
theorem putN {S : Sx} {W : WX} {σ : L2.St} {w : Wd} {h : Hh} {xs : List PV} {vs : List V} {Q : VK} (d : Hd S w h) (r : PWs S w xs vs) (po : PostE S W w σ (RN S) (.ok xs h) Q) {b : Addr} (nb : w.H b = none) : Q (.ref b) (upd w.H b (.lst vs)) :=
  po (w.put b (.lst vs)) (.ref b) (Step.put d nb) (d.put nb) ⟨b, _, rfl, upd_same, (Step.put d nb).prs r, d.notAd nb, d.fresh nb, nb⟩
def fList : List PV → Hh → Res (List PV) := fun xs h => match xs with
  | [.lst ys] => .ok ys h
  | [.tup ys] => .ok ys h
  | _ => .no
theorem sn_list (hm : F.mg "list" = none) (ha : SAB F [e] mr) (hg : ∀ i, Gl (F.X i) "list" := by intro _; rfl) (he : ∀ i, starEach [e] (F.X i).env = (false, eval e (F.X i).env) :: starEach [] (F.X i).env := by intro _; rfl) : SN F (.Call (.Name "list" p) [e] [] pos) (mCallN fList mr) :=
  sn_callTy (r := fun xs H Q => ∃ p ys, xs = [.ref p] ∧ (SqL F.K H p ys ∨ SqT F.K H p ys) ∧ ∀ l, H l = none → Q (.ref l) (upd H l (.lst ys))) (fun W σ w h xs vs Q d px po => by
    unfold fList at po
    split at po
    · obtain ⟨v, rfl, p1⟩ := px.one
      obtain ⟨a, us, rfl, ha, ra⟩ := p1.ofLst d
      exact ⟨a, us, rfl, .inl ha, fun b nb => putN d ra po nb⟩
    · obtain ⟨v, rfl, p1⟩ := px.one
      obtain ⟨a, us, rfl, ha, ra⟩ := p1.ofTup d
      exact ⟨a, us, rfl, .inr ha, fun b nb => putN d ra po nb⟩
    · exact po.elim) (fun i => call_list_of (X := F.X i)) hm (by decide +kernel) ha hg (by decide) (by decide) he (fun _ => rfl)
/-! ### all, any of a list of truth values -/
def boolsOf : List PV → Option (List Bool)
  | [] => some []
  | .bl b :: r => (boolsOf r).map (b :: ·)
  | _ :: _ => none
theorem bools_ok {K : PySem.W.Frag} {Φ : Hp} {ad : List Addr} : ∀ {xs : List PV} {vs : List V} {bs : List Bool}, PRs K Φ ad xs vs → boolsOf xs = some bs → vs = bs.map V.bl
  | [], _, _, .nil, e => by cases e; rfl
  | x :: r, _, bs, .cons p q, e => by
    cases p with
    | bl b =>
      unfold boolsOf at e
      obtain ⟨cs, e1, e2⟩ := Option.map_eq_some_iff.mp e
      subst e2
      rw [bools_ok q e1]; rfl
    | _ => cases e
def fAll : List PV → Hh → Res PV := fun xs h => match xs with
  | [.lst ys] => match boolsOf ys with
    | some bs => .ok (.bl (bs.all id)) h
    | none => .no
  | _ => .no
def fAny : List PV → Hh → Res PV := fun xs h => match xs with
  | [.lst ys] => match boolsOf ys with
    | some bs => .ok (.bl (bs.any id)) h
    | none => .no
  | _ => .no
theorem se_all (hc : F.calm = true) (hm : F.mg "all" = none) (ha : SAB F [e] mr) (hg : ∀ i, Gl (F.X i) "all" := by intro _; rfl) (he : ∀ i, starEach [e] (F.X i).env = (false, eval e (F.X i).env) :: starEach [] (F.X i).env := by intro _; rfl) : SE F (.Call (.Name "all" p) [e] [] pos) (mCall fAll mr) :=
  se_callB (r := rAll F.K) (fun W σ w h xs vs Q d px po => by
    unfold fAll at po
    split at po
    · split at po
      · rename_i bs eb
        obtain ⟨v, rfl, p1⟩ := px.one
        obtain ⟨a, us, rfl, ha, ra⟩ := p1.ofLst d
        have eu := bools_ok ra eb
        subst eu
        exact ⟨a, bs, rfl, ha, po.fin d (.bl _)⟩
      · exact po.elim
    · exact po.elim) (fun i => cr_all (X := F.X i) hc) hm (by decide +kernel) ha hg (by decide) (by decide) he (fun _ => rfl)
theorem se_any (hc : F.calm = true) (hm : F.mg "any" = none) (ha : SAB F [e] mr) (hg : ∀ i, Gl (F.X i) "any" := by intro _; rfl) (he : ∀ i, starEach [e] (F.X i).env = (false, eval e (F.X i).env) :: starEach [] (F.X i).env := by intro _; rfl) : SE F (.Call (.Name "any" p) [e] [] pos) (mCall fAny mr) :=
  se_callB (r := rAny F.K) (fun W σ w h xs vs Q d px po => by
    unfold fAny at po
    split at po
    · split at po
      · rename_i bs eb
        obtain ⟨v, rfl, p1⟩ := px.one
        obtain ⟨a, us, rfl, ha, ra⟩ := p1.ofLst d
        have eu := bools_ok ra eb
        subst eu
        exact ⟨a, bs, rfl, ha, po.fin d (.bl _)⟩
      · exact po.elim
    · exact po.elim) (fun i => cr_any (X := F.X i) hc) hm (by decide +kernel) ha hg (by decide) (by decide) he (fun _ => rfl)

/-! ### calls of defs -/
abbrev MF := List PV → Hh → Res PV
def PostC (S : Sx) (w : Wd) (r : Res PV) (Q : VK) (E : XK) : Prop := match r with
  | .ok x h' => ∀ w' v, Step w w' → Hd S w' h' → PW' S w' x v → Q v w'.H
  | .er x h' => ∀ w' cls d, Step w w' → Hd S w' h' → RX S w' x cls d → E cls d w'.H
  | .no => False
/-- a def's promise: it does what its mirror says -/
def Sx.nul (S : Sx) : Sx := ⟨S.K, S.cA, 0, none⟩
theorem Hd.nul {S : Sx} {w : Wd} {h : Hh} (d : Hd S w h) : Hd S.nul w h := Hd.conv (S := S) (S' := S.nul) rfl rfl d
theorem Hd.unnul {S : Sx} {w : Wd} {h : Hh} (d : Hd S.nul w h) : Hd S w h := Hd.conv (S := S.nul) (S' := S) rfl rfl d
def spM (S : Sx) (f : MF) : Sp := fun vs H Q E => ∃ w h args, w.H = H ∧ Hd S.nul w h ∧ PWs S.nul w args vs ∧ PostC S.nul w (f args h) Q E
theorem rd_calls {S : Sx} {W : WX} {mf : MF} {ta : TA} (q : RdG S (RVs S) W ta mr) : RdG S (RV S) W (tCallS (spM S mf) (WE W) ta) (mCall mf mr) :=
  fun w0 w env h σ Q rl po => q w0 w env h σ _ rl (PostE.bind po fun xs h1 w1 vs s1 d1 p1 po1 => by
    refine ⟨w1, h1, xs, rfl, d1.nul, p1, ?_⟩
    cases e : mf xs h1 with
    | ok x h' => rw [e] at po1; exact fun w' v s d r => po1 w' v s d.unnul r
    | er x h' => rw [e] at po1; exact fun w' c d s dd r => po1 w' c d s dd.unnul r
    | no => rw [e] at po1; exact po1)
theorem se_call {f : Addr} {fd : FuncData} {ps : List Str} {x : Str} {mf : MF} {k : Nat} (ok : F.Ok) (G : FnOk F.P F.w F.K F.mg F.base (L2.CX F.P F.w) k f fd ps (spM F.S mf)) (hk : k ≤ F.k) (hm : F.mg x = some (.ref f)) (hkp : PySem.W.keepIn F.K (.ref f) = true)
    (hb : Binds F.K fd ps []) (ha : SA F (e :: es) mr) (hg : ∀ i, Gl (F.X i) x := by intro _; rfl) (hdb : (x == ("__debug__" : Str)) = false := by decide)
    (he : ∀ i, starEach (e :: es) (F.X i).env = (false, eval e (F.X i).env) :: starEach es (F.X i).env := by intro _; rfl) (hpl : ∀ i, (backTo pos (starEach es (F.X i).env)).any (·.1) = false := by intro _; rfl) :
    SE F (.Call (.Name x p) (e :: es) [] pos) (mCall mf mr) := by
  obtain ⟨t, pa, q⟩ := ha
  exact ⟨fun W => tCallS (spM F.S mf) (WE W) (t W), fun i => pe_callS (X := F.X i) G ((ok.hr i).mono hk) (hg i) hm hkp hb (fun σ => passAt (ok.tk i) σ) (pa i) hdb (he i) (hpl i), fun W => rd_calls (q W)⟩
theorem pe_callS0 {X : Cx} {CX : CXT} {k : Nat} {f : Addr} {fd : FuncData} {ps : List Str} {sp : Sp} {E : L2.St → XK} {x : Str} (G : FnOk X.prog X.w X.K X.mg X.base CX k f fd ps sp) (hr : Room k X.A) (hg : Gl X x) (hm : X.mg x = some (.ref f)) (hk : PySem.W.keepIn X.K (.ref f) = true) (hb : Binds X.K fd ps []) (hx : ∀ σ, PassesAt CX X σ (E σ))
    (hdb : (x == ("__debug__" : Str)) = false := by decide) : PE X (.Call (.Name x p) [] [] pos) (tCallS sp E tNil) := by
  refine ⟨fun pins s σ H Q I h => ?_⟩
  refine wpAny_Call_Name_kw (ld_glob I hg hm ?_ hdb)
  exact PySem.W.callWith_K0 I.kIn hk (run_fnS (us := []) G hr hb (hx σ) I .nil h)
theorem se_call0 {f : Addr} {fd : FuncData} {ps : List Str} {x : Str} {mf : MF} {k : Nat} (ok : F.Ok) (G : FnOk F.P F.w F.K F.mg F.base (L2.CX F.P F.w) k f fd ps (spM F.S mf)) (hk : k ≤ F.k) (hm : F.mg x = some (.ref f)) (hkp : PySem.W.keepIn F.K (.ref f) = true)
    (hb : Binds F.K fd ps []) (hg : ∀ i, Gl (F.X i) x := by intro _; rfl) (hdb : (x == ("__debug__" : Str)) = false := by decide) :
    SE F (.Call (.Name x p) [] [] pos) (mCall mf mNil) :=
  ⟨fun W => tCallS (spM F.S mf) (WE W) tNil, fun i => pe_callS0 (X := F.X i) G ((ok.hr i).mono hk) (hg i) hm hkp hb (fun σ => passAt (ok.tk i) σ) hdb, fun W => rd_calls fun w0 w env h σ Q rl po => PostE.fin po rl.hd .nil⟩
/-- another mirror that says the same (or less) -/
theorem FnOk.mirror {P : Program} {w : World} {K : PySem.W.Frag} {mg : Str → Option Value} {base : Heap} {k : Nat} {f : Addr} {fd : FuncData} {ps : List Str} {S : Sx} {mf mf' : MF} (G : FnOk P w K mg base (L2.CX P w) k f fd ps (spM S mf))
    (h : ∀ args H, mf' args H ≠ .no → mf args H = mf' args H) : FnOk P w K mg base (L2.CX P w) k f fd ps (spM S mf') :=
  FnOk.imp G fun vs H Q E ⟨w, hh, args, e, d, r, po⟩ => ⟨w, hh, args, e, d, r, by
    rw [h args hh (fun z => by rw [z] at po; exact po)]; exact po⟩
end
end Mir

set_option Elab.async false
set_option linter.all false
set_option maxRecDepth 100000
set_option maxHeartbeats 1000000
namespace Mir
open PySem PySem.Spec PyProof.Rows L2

/-! ### statements -/
def RdS (S : Sx) (W : WX) (t : TS) (m : MS) : Prop := ∀ (w0 w : Wd) (env : En) (h : Hh) (σ : L2.St) (D : Ends), Rl S w0 w env h σ → PostS S W w0 w (m env h) D → t D σ w.H
def SS (F : Fam) (st : Stmt) (m : MS) : Prop := ∃ t : WX → TS, (∀ i, PS (F.X i) st (t (F.W i))) ∧ ∀ W, RdS F.S W (t W) m
def SSs (F : Fam) (sts : List Stmt) (m : MS) : Prop := ∃ t : WX → TS, (∀ i, PSs (F.X i) sts (t (F.W i))) ∧ ∀ W, RdS F.S W (t W) m
theorem PostS.mono {S : Sx} {W : WX} {w0 w w1 : Wd} {r : SR} {D : Ends} (x : Ext w w1) (p : PostS S W w0 w r D) : PostS S W w0 w1 r D := by
  cases r with
  | nx env h => exact fun w' σ' y r => p w' σ' (x.trans y) r
  | rt v h => exact p
  | bk env h => exact fun w' σ' y r => p w' σ' (x.trans y) r
  | ct env h => exact fun w' σ' y r => p w' σ' (x.trans y) r
  | er e env h => exact fun w' σ' c d y r q => p w' σ' c d (x.trans y) r q
  | no => exact p
/-- what a statement makes of an expression's result -/
def ofE {α : Type} (r : Res α) (env : En) (k : α → Hh → SR) : SR := match r with
  | .ok a h => k a h
  | .er x h => .er x env h
  | .no => .no
@[simp] theorem ofE_ok {α : Type} (a : α) (h : Hh) (env : En) (k : α → Hh → SR) : ofE (.ok a h) env k = k a h := id rfl
@[simp] theorem ofE_er {α : Type} (x : Xn) (h : Hh) (env : En) (k : α → Hh → SR) : ofE (.er x h : Res α) env k = .er x env h := id rfl
@[simp] theorem ofE_no {α : Type} (env : En) (k : α → Hh → SR) : ofE (.no : Res α) env k = .no := id rfl
theorem PostS.ofE {α β : Type} {S : Sx} {W : WX} {w0 w : Wd} {R : RR α β} {r : Res α} {env : En} {h : Hh} {σ : L2.St} {k : α → Hh → SR} {D : Ends} {Q : β → Hp → Prop} (rl : Rl S w0 w env h σ) (p : PostS S W w0 w (Mir.ofE r env k) D)
    (g : ∀ x h1 w1 v, Step w w1 → Hd S w1 h1 → R w w1 x v → PostS S W w0 w1 (k x h1) D → Q v w1.H) : PostE S W w σ R r Q := by
  cases r with
  | ok x h1 => exact fun w1 v s d q => g x h1 w1 v s d q (PostS.mono s.ext p)
  | er x h1 => exact fun w1 cls d s dd q => p w1 σ cls d s.ext (rl.step s dd) q
  | no => exact p
section
variable {F : Fam} {e ea eb ec : Expr} {es : List Expr} {st : Stmt} {rest sts : List Stmt} {pos p p2 pos' : Pos} {m : ME} {mt : MT} {ma : MA} {ms ms' : MS}
def mSkip : MS := fun env h => .nx env h
def mSeq (m n : MS) : MS := fun env h => match m env h with
  | .nx env h => n env h
  | r => r
theorem rd_seq {S : Sx} {W : WX} {t u : TS} (q : RdS S W t ms) (q' : RdS S W u ms') : RdS S W (tSeq t u) (mSeq ms ms') := by
  intro w0 w env h σ D rl po
  refine q w0 w env h σ _ rl ?_
  unfold mSeq at po
  cases em : ms env h with
  | nx env' h' => rw [em] at po; exact fun w' σ' x r => q' w0 w' env' h' σ' D r (PostS.mono x po)
  | rt v h' => rw [em] at po; exact po
  | bk env' h' => rw [em] at po; exact po
  | ct env' h' => rw [em] at po; exact po
  | er x env' h' => rw [em] at po; exact po
  | no => rw [em] at po; exact po
theorem sss_nil : SSs F [] mSkip := ⟨fun _ => tNext, fun _ => pss_nil, fun W w0 w env h σ D rl po => po w σ (Ext.refl w) rl⟩
theorem sss_cons (a : SS F st ms) (b : SSs F rest ms') : SSs F (st :: rest) (mSeq ms ms') := by
  obtain ⟨t, p, q⟩ := a
  obtain ⟨t', p', q'⟩ := b
  exact ⟨fun W => tSeq (t W) (t' W), fun i => pss_cons (p i) (p' i), fun W => rd_seq (q W) (q' W)⟩
theorem sss_one (a : SS F st ms) : SSs F [st] ms := by
  obtain ⟨t, p, q⟩ := a
  exact ⟨t, fun i => pss_one (p i), q⟩
theorem ss_pass : SS F (.Pass pos) mSkip := ⟨fun _ => tNext, fun _ => ps_pass, fun W w0 w env h σ D rl po => po w σ (Ext.refl w) rl⟩
def mBreak : MS := fun env h => .bk env h
def mCont : MS := fun env h => .ct env h
theorem ss_break : SS F (.Break pos) mBreak := ⟨fun _ => tBreak, fun _ => ps_break, fun W w0 w env h σ D rl po => po w σ (Ext.refl w) rl⟩
theorem ss_continue : SS F (.Continue pos) mCont := ⟨fun _ => tCont, fun _ => ps_continue, fun W w0 w env h σ D rl po => po w σ (Ext.refl w) rl⟩
def mDrop (m : ME) : MS := fun env h => ofE (m env h) env fun _ h => .nx env h
theorem ss_expr (a : SB F e m) (hs : ∀ i, swapsWith e none pos.line (F.X i).env = pure false := by intro _; rfl) : SS F (.Expr e pos) (mDrop m) := by
  obtain ⟨t, p, q⟩ := a
  exact ⟨fun W => tDrop (t W), fun i => ps_expr (p i) (hs i), fun W w0 w env h σ D rl po => q W w0 w env h σ _ rl (PostS.ofE rl po fun x h1 w1 v s d r p1 => p1 w1 σ (Ext.refl w1) (rl.step s d))⟩
def mRet (m : ME) : MS := fun env h => ofE (m env h) env fun x h => .rt x h
theorem ss_ret (a : SE F e m) : SS F (.Return (some e) pos) (mRet m) := by
  obtain ⟨t, p, q⟩ := a
  exact ⟨fun W => tRet (t W), fun i => ps_ret (p i), fun W w0 w env h σ D rl po => q W w0 w env h σ _ rl (PostS.ofE rl po fun x h1 w1 v s d r p1 => p1 w1 v (rl.st.trans s) d r)⟩
def mRetN : MS := fun _ h => .rt .non h
theorem ss_retN : SS F (.Return none pos) mRetN := ⟨fun _ => tRetN, fun _ => ps_retN, fun W w0 w env h σ D rl po => po w .non rl.st rl.hd .non⟩
/-- a list of nobody's, locked: the world -/
theorem Rl.lockOwn {S : Sx} {w0 w : Wd} {env : En} {h : Hh} {σ : L2.St} (rl : Rl S w0 w env h σ) {i : Nat} {xs : List PV} (e : env[i]? = some (.own (.lst xs))) :
    ∃ a vs w', σ[i]? = some (some (.ref a)) ∧ w'.H = w.H ∧ Step w0 w' ∧ Ext w w' ∧ Hd S w' h ∧ PW' S w' (.lst xs) (.ref a) ∧ w' = ⟨upd w.Φ a (.lst vs), w.H, w.ad⟩ := by
  obtain ⟨a, e1, ⟨vs, ea, rs⟩, f, n, z⟩ := rl.sl.own i _ e
  have x : Ext w ⟨upd w.Φ a (.lst vs), w.H, w.ad⟩ := by
    refine ⟨fun x o q => ?_, fun _ _ q => q⟩
    show upd w.Φ a (.lst vs) x = some o
    have : x ≠ a := fun hx => by rw [hx, f] at q; cases q
    rw [upd_ne this]; exact q
  refine ⟨a, vs, ⟨upd w.Φ a (.lst vs), w.H, w.ad⟩, e1, rfl, ⟨fun x' o q => x.fz x' o (rl.st.fz x' o q), rl.st.ix, rl.st.nw, rl.st.kp, rl.st.th, fun x' o q => ?_⟩, x, ⟨fun x' o q => ?_, rl.hd.len, rl.hd.nd, fun x' hx => ?_, fun k o x' p q => ?_⟩, .lst (.inl (.inl upd_same)) (x.prs rs), rfl⟩
  · by_cases hx : x' = a
    · subst hx; exact .inr z
    · have q' : upd w.Φ a (.lst vs) x' = some o := q
      rw [upd_ne hx] at q'; exact rl.st.fn x' o q'
  · by_cases hx : x' = a
    · subst hx
      have q' : upd w.Φ x' (.lst vs) x' = some o := q
      rw [upd_same] at q'; cases q'; exact ea
    · have q' : upd w.Φ a (.lst vs) x' = some o := q
      rw [upd_ne hx] at q'; exact rl.hd.sub x' o q'
  · show upd w.Φ a (.lst vs) x' = none
    have : x' ≠ a := fun hq => n (by rw [← hq]; exact hx)
    rw [upd_ne this]; exact rl.hd.sep x' hx
  · have r := rl.hd.obj k o x' p q
    cases o with
    | lst xs => obtain ⟨us, e1, r1⟩ := r; exact ⟨us, e1, x.prs r1⟩
    | dct ks xs => obtain ⟨us, l1, e1, r1⟩ := r; exact ⟨us, l1, e1, x.prs r1⟩
    | ins cc ns xs => obtain ⟨C, dx, us, c1, l1, e1, r1⟩ := r; exact ⟨C, dx, us, c1, l1, e1, x.prs r1⟩
/-- return a list of one's own -/
def mRetOwn (i : Nat) : MS := fun env h => match env[i]? with
  | some (.own (.lst xs)) => .rt (.lst xs) h
  | some (.v x) => .rt x h
  | _ => .no
theorem ss_retOwn (i : Nat) {x : Str} (hN : F.N[i]? = some x := by rfl) (hv : ∀ j, Vis (F.env j).scope x := by first | exact fun _ => Or.inl rfl | exact fun _ => Or.inr (Or.inl rfl) | exact fun _ => Or.inr (Or.inr rfl))
    (hd : (x == ("__debug__" : Str)) = false := by decide) (hcd : (x == ("__classdict__" : Str)) = false := by decide) : SS F (.Return (some (.Name x p)) pos) (mRetOwn i) := by
  refine ⟨fun _ => tRet (tVar i), fun j => ps_ret (pe_var (X := F.X j) hN (hv j) hd hcd), fun W w0 w env h σ D rl po => ?_⟩
  unfold mRetOwn at po
  split at po
  · rename_i xs e
    obtain ⟨a, vs, w', e1, eH, s, x, d, r, _⟩ := rl.lockOwn e
    refine ⟨_, e1, ?_⟩
    rw [← eH]
    exact po w' _ s d r
  · rename_i x e
    obtain ⟨v, e1, pr⟩ := rl.sl.slot i x e
    exact ⟨v, e1, po w v rl.st rl.hd pr⟩
  · exact po.elim
/-! ### storing -/
theorem set_get {α : Type} (l : List α) (i j : Nat) (a : α) {y : α} (h : (l.set i a)[j]? = some y) : (j = i ∧ y = a ∧ i < l.length) ∨ (j ≠ i ∧ l[j]? = some y) := by
  by_cases hj : i = j
  · subst hj
    by_cases hl : i < l.length
    · rw [List.getElem?_set_self hl] at h; cases h; exact .inl ⟨rfl, rfl, hl⟩
    · rw [List.getElem?_eq_none (by simpa using hl)] at h; cases h
  · rw [List.getElem?_set_ne hj] at h; exact .inr ⟨fun q => hj q.symm, h⟩
theorem Rl.set {S : Sx} {w0 w : Wd} {env : En} {h : Hh} {σ : L2.St} (rl : Rl S w0 w env h σ) (i : Nat) {x : PV} {v : V} (r : PW' S w x v) : Rl S w0 w (env.set i (.v x)) h (σ.set i (some v)) := by
  refine ⟨rl.st, rl.hd, by simp [rl.sl.len], fun j y e => ?_, fun j o e => ?_, fun j k o o' a e1 e2 f1 f2 => ?_, exq_set rl.sl.exq i (fun _ q => by cases q) _⟩
  · rcases set_get _ _ _ _ e with ⟨rfl, e1, hl⟩ | ⟨hj, e1⟩
    · cases e1
      exact ⟨v, by rw [List.getElem?_set_self (by rw [← rl.sl.len]; exact hl)], r⟩
    · rw [List.getElem?_set_ne (Ne.symm hj)]
      exact rl.sl.slot j y e1
  · rcases set_get _ _ _ _ e with ⟨rfl, e1, hl⟩ | ⟨hj, e1⟩
    · cases e1
    · rw [List.getElem?_set_ne (Ne.symm hj)]
      exact rl.sl.own j o e1
  · rcases set_get _ _ _ _ e1 with ⟨rfl, g, hl⟩ | ⟨hj, g⟩
    · cases g
    · rcases set_get _ _ _ _ e2 with ⟨rfl, g2, hl⟩ | ⟨hk, g2⟩
      · cases g2
      · rw [List.getElem?_set_ne (Ne.symm hj)] at f1
        rw [List.getElem?_set_ne (Ne.symm hk)] at f2
        exact rl.sl.sep j k o o' a g g2 f1 f2
def mSet (i : Nat) (m : ME) : MS := fun env h => ofE (m env h) env fun x h => .nx (env.set i (.v x)) h
theorem rd_set {S : Sx} {W : WX} {te : TE} (i : Nat) (q : RdG S (RV S) W te m) : RdS S W (tAsg te (gName i)) (mSet i m) :=
  fun w0 w env h σ D rl po => q w0 w env h σ _ rl (PostS.ofE rl po fun x h1 w1 v s d r p1 => p1 w1 _ (Ext.refl w1) ((rl.step s d).set i r))
theorem ss_set (i : Nat) {x : Str} (ok : F.Ok) (a : SE F e m) (hi : F.N[i]? = some x := by rfl) (hx : ∀ j, Loc (F.env j).scope x := by first | exact fun _ => Or.inl rfl | exact fun _ => Or.inr rfl)
    (hs : ∀ j, swapsWith e (some (.Name x pos')) pos.line (F.X j).env = pure false := by intro _; rfl) (hf : ∀ j, (F.X j).fn x = true ∨ (F.X j).env.scope.names.lookup x = some .local := by first | exact fun _ => Or.inl rfl | exact fun _ => Or.inr rfl) :
    SS F (.Assign [.Name x pos'] e pos) (mSet i m) := by
  obtain ⟨t, p, q⟩ := a
  exact ⟨fun W => tAsg (t W) (gName i), fun j => ps_set (X := F.X j) ok.nd hi (hx j) (p j) (hs j) (hf j), fun W => rd_set i (q W)⟩
/-- a new list of one's own -/
theorem Rl.setN {S : Sx} {w0 w wb : Wd} {env : En} {h : Hh} {σ : L2.St} (rl : Rl S w0 w env h σ) (st : Step w0 wb) (i : Nat) {xs : List PV} {vs : List V} {a : Addr} (ea : w.H a = some (.lst vs)) (r : PWs S w xs vs) (n : a ∉ w.ad) (f : w.Φ a = none) (z : wb.H a = none)
    (sb : Sl S w0 wb env σ) : Rl S w0 w (env.set i (.own (.lst xs))) h (σ.set i (some (.ref a))) := by
  have z0 : w0.H a = none := st.fr z
  have old : ∀ (j : Nat) (o : Ob), env[j]? = some (.own o) → σ[j]? ≠ some (some (.ref a)) := fun j o e q => by
    obtain ⟨b, e1, ro, _⟩ := sb.own j o e
    rw [q] at e1
    cases e1
    exact ro.there z
  refine ⟨rl.st, rl.hd, by simp [rl.sl.len], fun j y e => ?_, fun j o e => ?_, fun j k o o' b e1 e2 f1 f2 => ?_, exq_set rl.sl.exq i (fun _ q => by cases q) _⟩
  · rcases set_get _ _ _ _ e with ⟨rfl, e1, hl⟩ | ⟨hj, e1⟩
    · cases e1
    · rw [List.getElem?_set_ne (Ne.symm hj)]
      exact rl.sl.slot j y e1
  · rcases set_get _ _ _ _ e with ⟨rfl, e1, hl⟩ | ⟨hj, e1⟩
    · cases e1
      exact ⟨a, by rw [List.getElem?_set_self (by rw [← rl.sl.len]; exact hl)], ⟨vs, ea, r⟩, f, n, z0⟩
    · rw [List.getElem?_set_ne (Ne.symm hj)]
      exact rl.sl.own j o e1
  · rcases set_get _ _ _ _ e1 with ⟨rfl, g, hl⟩ | ⟨hj, g⟩
    · rcases set_get _ _ _ _ e2 with ⟨rfl, g2, hl2⟩ | ⟨hk, g2⟩
      · rfl
      · rw [List.getElem?_set_self (by rw [← rl.sl.len]; exact hl)] at f1
        cases f1
        rw [List.getElem?_set_ne (Ne.symm hk)] at f2
        exact absurd f2 (old k o' g2)
    · rcases set_get _ _ _ _ e2 with ⟨rfl, g2, hl2⟩ | ⟨hk, g2⟩
      · rw [List.getElem?_set_self (by rw [← rl.sl.len]; exact hl2)] at f2
        cases f2
        rw [List.getElem?_set_ne (Ne.symm hj)] at f1
        exact absurd f1 (old j o g)
      · rw [List.getElem?_set_ne (Ne.symm hj)] at f1
        rw [List.getElem?_set_ne (Ne.symm hk)] at f2
        exact rl.sl.sep j k o o' b g g2 f1 f2
def mSetN (i : Nat) (m : MA) : MS := fun env h => ofE (m env h) env fun xs h => .nx (env.set i (.own (.lst xs))) h
theorem rd_setN {S : Sx} {W : WX} {te : TE} (i : Nat) (q : RdG S (RN S) W te ma) : RdS S W (tAsg te (gName i)) (mSetN i ma) :=
  fun w0 w env h σ D rl po => q w0 w env h σ _ rl (PostS.ofE rl po fun x h1 w1 v s d ⟨a, vs, ev, ea, r, n, f, z⟩ p1 => by
    subst ev
    exact p1 w1 _ (Ext.refl w1) ((rl.step s d).setN rl.st i ea r n f z rl.sl))
theorem ss_setN (i : Nat) {x : Str} (ok : F.Ok) (a : SN F e ma) (hi : F.N[i]? = some x := by rfl) (hx : ∀ j, Loc (F.env j).scope x := by first | exact fun _ => Or.inl rfl | exact fun _ => Or.inr rfl)
    (hs : ∀ j, swapsWith e (some (.Name x pos')) pos.line (F.X j).env = pure false := by intro _; rfl) (hf : ∀ j, (F.X j).fn x = true ∨ (F.X j).env.scope.names.lookup x = some .local := by first | exact fun _ => Or.inl rfl | exact fun _ => Or.inr rfl) :
    SS F (.Assign [.Name x pos'] e pos) (mSetN i ma) := by
  obtain ⟨t, p, q⟩ := a
  exact ⟨fun W => tAsg (t W) (gName i), fun j => ps_set (X := F.X j) ok.nd hi (hx j) (p j) (hs j) (hf j), fun W => rd_setN i (q W)⟩
/-- the content of a list of one's own changes -/
theorem Rl.chg {S : Sx} {w0 w : Wd} {env : En} {h : Hh} {σ : L2.St} (rl : Rl S w0 w env h σ) {i : Nat} {xs ys : List PV} {us : List V} {a : Addr} (e : env[i]? = some (.own (.lst xs))) (ei : σ[i]? = some (some (.ref a))) (r : PWs S w ys us) :
    Rl S w0 ⟨w.Φ, upd w.H a (.lst us), w.ad⟩ (env.set i (.own (.lst ys))) h σ := by
  obtain ⟨b, e1, ⟨vs, ea, rs⟩, f, n, z⟩ := rl.sl.own i _ e
  rw [ei] at e1
  cases e1
  have st : Step w0 ⟨w.Φ, upd w.H a (.lst us), w.ad⟩ := by
    refine ⟨rl.st.fz, rl.st.ix, rl.st.nw, fun x o q hx => ?_, fun x q => ?_, rl.st.fn⟩
    · show upd w.H a (.lst us) x = some o
      have : x ≠ a := fun hq => by rw [hq, z] at q; cases q
      rw [upd_ne this]; exact rl.st.kp x o q hx
    · show upd w.H a (.lst us) x ≠ none
      by_cases hx : x = a
      · subst hx; rw [upd_same]; simp
      · rw [upd_ne hx]; exact rl.st.th x q
  have ro : ∀ {x : Addr} {o : Ob}, x ≠ a → RO S w x o → RO S ⟨w.Φ, upd w.H a (.lst us), w.ad⟩ x o := fun {x o} hx ro => by
    cases o with
    | lst xs => obtain ⟨us', e1, r1⟩ := ro; exact ⟨us', by rw [← e1]; exact upd_ne hx, r1⟩
    | dct ks xs => obtain ⟨us', l1, e1, r1⟩ := ro; exact ⟨us', l1, by rw [← e1]; exact upd_ne hx, r1⟩
    | ins cc ns xs => obtain ⟨C, dx, us', c1, l1, e1, r1⟩ := ro; exact ⟨C, dx, us', c1, l1, by rw [← e1]; exact upd_ne hx, r1⟩
  refine ⟨st, ⟨fun x o q => ?_, rl.hd.len, rl.hd.nd, rl.hd.sep, fun k o x p q => ro (fun hq => n (by rw [← hq]; exact List.mem_of_getElem? q)) (rl.hd.obj k o x p q)⟩, by simp [rl.sl.len], fun j y q => ?_, fun j o q => ?_, fun j k o o' b e1 e2 f1 f2 => ?_, fun j y q => ?_⟩
  rotate_left 4
  · rcases set_get _ _ _ _ q with ⟨rfl, e1, hl⟩ | ⟨hj, e1⟩
    · cases e1
    · obtain ⟨x1, x2⟩ := rl.sl.exq j y e1
      refine ⟨x1, ?_⟩
      rcases x2 with x2 | ⟨dd, ws, d1, d2, d3, d4, d5⟩
      · exact .inl x2
      · refine .inr ⟨dd, ws, d1, d2, ?_, d4, d5⟩
        show upd w.H a (.lst us) dd = _
        have : dd ≠ a := fun hq => by rw [hq, ea] at d3; cases d3
        rw [upd_ne this]; exact d3
  · show upd w.H a (.lst us) x = some o
    have q' : w.Φ x = some o := q
    have : x ≠ a := fun hq => by rw [hq, f] at q'; cases q'
    rw [upd_ne this]; exact rl.hd.sub x o q'
  · rcases set_get _ _ _ _ q with ⟨rfl, e1, hl⟩ | ⟨hj, e1⟩
    · cases e1
    · exact rl.sl.slot j y e1
  · rcases set_get _ _ _ _ q with ⟨rfl, e1, hl⟩ | ⟨hj, e1⟩
    · cases e1
      exact ⟨a, ei, ⟨us, upd_same, r⟩, f, n, z⟩
    · obtain ⟨b, e2, ro2, f2, n2, z2⟩ := rl.sl.own j o e1
      refine ⟨b, e2, ro (fun hq => hj ?_) ro2, f2, n2, z2⟩
      subst hq
      exact rl.sl.sep j i o _ b e1 e e2 ei
  · have g1 : ∃ o, env[j]? = some (.own o) := by
      rcases set_get _ _ _ _ e1 with ⟨rfl, g, hl⟩ | ⟨hj, g⟩
      · exact ⟨_, e⟩
      · exact ⟨_, g⟩
    have g2 : ∃ o, env[k]? = some (.own o) := by
      rcases set_get _ _ _ _ e2 with ⟨rfl, g, hl⟩ | ⟨hj, g⟩
      · exact ⟨_, e⟩
      · exact ⟨_, g⟩
    obtain ⟨o1, g1⟩ := g1
    obtain ⟨o2, g2⟩ := g2
    exact rl.sl.sep j k o1 o2 b g1 g2 f1 f2
end
end Mir

set_option Elab.async false
set_option linter.all false
set_option maxRecDepth 100000
set_option maxHeartbeats 1000000
namespace Mir
open PySem PySem.Spec PyProof.Rows L2
section
variable {F : Fam} {e ea eb ec tg iter : Expr} {es : List Expr} {st : Stmt} {rest sts body : List Stmt} {pos p p2 pos' cpos apos : Pos} {m mb' : ME} {mt : MT} {ma : MA} {ms ms' : MS}

/-! ### if -/
def mIfS (t : MT) (a b : MS) : MS := fun env h => ofE (t env h) env fun c h => if c = true then a env h else b env h
theorem ss_if (c : ST F ec mt) (a : SSs F sts ms) (b : SSs F rest ms') : SS F (.If ec sts rest pos) (mIfS mt ms ms') := by
  obtain ⟨tc, pc, qc⟩ := c
  obtain ⟨t, p, q⟩ := a
  obtain ⟨t', p', q'⟩ := b
  refine ⟨fun W => tIfS (tc W) (t W) (t' W), fun i => ps_if (pc i) (p i) (p' i), fun W w0 w env h σ D rl po => qc W w0 w env h σ _ rl (PostS.ofE rl po fun x h1 w1 v s d r p1 => ?_)⟩
  subst r
  cases x with
  | true => rw [if_pos rfl] at p1 ⊢; exact q W w0 w1 env h1 σ D (rl.step s d) p1
  | false => rw [if_neg Bool.false_ne_true] at p1 ⊢; exact q' W w0 w1 env h1 σ D (rl.step s d) p1

/-! ### append to a list of one's own -/
def mApp (i : Nat) (m : ME) : MS := fun env h => match env[i]? with
  | some (.own (.lst xs)) => ofE (m env h) env fun x h => if xs.length < 16777216 then .nx (env.set i (.own (.lst (xs ++ [x])))) h else .no
  | _ => .no
theorem ss_app (i : Nat) {x : Str} (a : SE F e m) (hN : F.N[i]? = some x := by rfl) (hv : ∀ j, Vis (F.env j).scope x := by first | exact fun _ => Or.inl rfl | exact fun _ => Or.inr (Or.inl rfl) | exact fun _ => Or.inr (Or.inr rfl))
    (hd : (x == ("__debug__" : Str)) = false := by decide) (hcd : (x == ("__classdict__" : Str)) = false := by decide)
    (hst : ∀ j, starEach [e] (F.X j).env = (false, eval e (F.X j).env) :: starEach [] (F.X j).env := by intro _; rfl)
    (hs : ∀ j, swapsWith (.Call (.Attribute (.Name x p) "append" apos) [e] [] cpos) none pos.line (F.X j).env = pure false := by intro _; rfl)
    (hm : ∀ j, PE (F.X j) (.Name x p) (tVar i) → PA (F.X j) [e] (tCons (Classical.choose a (F.W j)) tNil) → PE (F.X j) (.Call (.Attribute (.Name x p) "append" apos) [e] [] cpos) (tBM F.K "list" rAppend (tVar i) (tCons (Classical.choose a (F.W j)) tNil)) := by exact fun j h1 h2 => pe_bm PySem.F.plainAttrs_list PySem.F.slot_list_append PySem.F.type_list_append mt_append h1 h2) :
    SS F (.Expr (.Call (.Attribute (.Name x p) "append" apos) [e] [] cpos) pos) (mApp i m) := by
  have hp := (Classical.choose_spec a).1
  have hq := (Classical.choose_spec a).2
  refine ⟨fun W => tDrop (tBM F.K "list" rAppend (tVar i) (tCons (Classical.choose a W) tNil)), fun j => ps_expr (hm j (pe_var (X := F.X j) hN (hv j) hd hcd) (pa_cons (hp j) pa_nil (hst j))) (hs j), fun W w0 w env h σ D rl po => ?_⟩
  unfold mApp at po
  split at po
  · rename_i xs ee
    obtain ⟨a1, e1, ⟨vs, ea, rs⟩, f, n, z⟩ := rl.sl.own i _ ee
    refine ⟨_, e1, .inl ⟨rfl, _, SqL.of ea⟩, ?_⟩
    refine hq W w0 w env h σ _ rl (PostS.ofE rl po fun y h1 w1 v s d r p1 => ?_)
    have rl1 := rl.step s d
    obtain ⟨a2, e2, ⟨vs2, ea2, rs2⟩, f2, n2, z2⟩ := rl1.sl.own i _ ee
    rw [e1] at e2
    cases e2
    split at p1
    · rename_i hz
      refine ⟨a1, vs2, v, rfl, rfl, ea2, by rw [← rs2.length, sizeLine_eq]; exact hz, ?_⟩
      exact p1 ⟨w1.Φ, upd w1.H a1 (.lst (vs2 ++ [v])), w1.ad⟩ σ ⟨fun _ _ q => q, fun _ _ q => q⟩ (rl1.chg ee e1 (rs2.append (.cons r .nil)))
    · exact p1.elim
  · exact po.elim

/-! ### targets -/
abbrev MG := PV → En → Option En
/-- the slots is are stored, no others -/
def But (is : List Nat) (σ σ' : L2.St) : Prop := σ'.length = σ.length ∧ ∀ j : Nat, j ∉ is → σ'[j]? = σ[j]?
def RdT (S : Sx) (g : TG) (m : MG) (is : List Nat) : Prop := ∀ (w0 w : Wd) (env env' : En) (h : Hh) (σ : L2.St) (x : PV) (v : V) (Q : L2.St → Hp → Prop), Rl S w0 w env h σ → PW' S w x v → m x env = some env' → (∀ σ', Rl S w0 w env' h σ' → But is σ σ' → Q σ' w.H) → g v σ w.H Q
def SG (F : Fam) (tg : Expr) (m : MG) (is : List Nat) : Prop := ∃ g : TG, (∀ i, PG (F.X i) tg g) ∧ RdT F.S g m is
def gN (i : Nat) : MG := fun x env => some (env.set i (.v x))
theorem sg_name (i : Nat) {x : Str} (ok : F.Ok) (hi : F.N[i]? = some x := by rfl) (hx : ∀ j, Loc (F.env j).scope x := by first | exact fun _ => Or.inl rfl | exact fun _ => Or.inr rfl)
    (hf : ∀ j, (F.X j).fn x = true ∨ (F.X j).env.scope.names.lookup x = some .local := by first | exact fun _ => Or.inl rfl | exact fun _ => Or.inr rfl) : SG F (.Name x p) (gN i) [i] :=
  ⟨gName i, fun j => pg_name (X := F.X j) ok.nd hi (hx j) (hf j), fun w0 w env env' h σ x v Q rl r e q => by cases e; exact q _ (rl.set i r) ⟨by simp, fun j hj => List.getElem?_set_ne (fun z => hj (by simp [z]))⟩⟩
abbrev MGs := List PV → En → Option En
def RdTs (S : Sx) (g : TGs) (m : MGs) (is : List Nat) : Prop := ∀ (w0 w : Wd) (env env' : En) (h : Hh) (σ : L2.St) (x : List PV) (v : List V) (Q : L2.St → Hp → Prop), Rl S w0 w env h σ → PWs S w x v → m x env = some env' → (∀ σ', Rl S w0 w env' h σ' → But is σ σ' → Q σ' w.H) → g v σ w.H Q
def SGs (F : Fam) (ts : List Expr) (m : MGs) (is : List Nat) : Prop := ∃ g : TGs, (∀ i, PGs (F.X i) ts g) ∧ RdTs F.S g m is
def gNl : MGs := fun xs env => match xs with
  | [] => some env
  | _ => none
def gCs (g : MG) (r : MGs) : MGs := fun xs env => match xs with
  | x :: xs => (g x env).bind fun env => r xs env
  | [] => none
theorem sgs_nil : SGs F [] gNl [] := ⟨gNil, fun _ => pgs_nil, fun w0 w env env' h σ x v Q rl r e q => by
  cases r with
  | nil => cases e; exact ⟨rfl, q σ rl ⟨rfl, fun _ _ => rfl⟩⟩
  | cons _ _ => cases e⟩
theorem sgs_cons {g : MG} {r : MGs} {is is' : List Nat} (a : SG F e g is) (b : SGs F es r is') (hs : ∀ i, (assignEach (e :: es) (F.X i).env).map (·.2) = assign e (F.X i).env :: (assignEach es (F.X i).env).map (·.2) := by intro _; rfl) : SGs F (e :: es) (gCs g r) (is ++ is') := by
  obtain ⟨t, p, q⟩ := a
  obtain ⟨t', p', q'⟩ := b
  refine ⟨gCons t t', fun i => pgs_cons (p i) (p' i) (hs i), fun w0 w env env' h σ x v Q rl rr ee qq => ?_⟩
  cases rr with
  | nil => cases ee
  | cons r1 r2 =>
    obtain ⟨env1, e1, e2⟩ := Option.bind_eq_some_iff.mp ee
    exact ⟨_, _, rfl, q w0 w env env1 h σ _ _ _ rl r1 e1 fun σ' rl' b1 => q' w0 w env1 env' h σ' _ _ _ rl' r2 e2 fun σ2 rl2 b2 => qq σ2 rl2 ⟨b2.1.trans b1.1, fun j hj => (b2.2 j fun z => hj (List.mem_append_right _ z)).trans (b1.2 j fun z => hj (List.mem_append_left _ z))⟩⟩
def gTu (n : Nat) (r : MGs) : MG := fun x env => match x with
  | .tup xs => if xs.length = n then r xs env else none
  | _ => none
theorem sg_tup {r : MGs} {k n : Nat} {is : List Nat} (hc : F.calm = true) (b : SGs F es r is) (hn : ∀ i, (assignEach es (F.X i).env).length = n := by intro _; rfl) (hst : ∀ i, (assignEach es (F.X i).env).findIdx? (·.1) = none := by intro _; rfl) : SG F (.Tuple es k pos) (gTu n r) is := by
  obtain ⟨t, p, q⟩ := b
  refine ⟨gTup F.K n t, fun i => pg_tup (X := F.X i) hc (p i) (hn i) (hst i), fun w0 w env env' h σ x v Q rl rr ee qq => ?_⟩
  unfold gTu at ee
  split at ee
  · split at ee
    · rename_i xs hl
      cases rr with
      | tup s t' => exact ⟨_, _, rfl, rl.hd.sqT s, by rw [← t'.length]; exact hl, q w0 w env env' h σ _ _ Q rl t' ee qq⟩
    · cases ee
  · cases ee
def mAsg (m : ME) (g : MG) : MS := fun env h => ofE (m env h) env fun x h => match g x env with
  | some env => .nx env h
  | none => .no
theorem ss_asg {g : MG} {is : List Nat} (a : SE F e m) (b : SG F tg g is) (hs : ∀ i, swapsWithSole [tg] e pos.line (F.X i).env = pure false := by intro _; rfl) (hw : ∀ i, swappedStores [tg] e (F.X i).env = pure none := by intro _; rfl)
    (h1 : ∀ i, (assignEach [tg] (F.X i).env).map (·.2) = [assign tg (F.X i).env] := by intro _; rfl) : SS F (.Assign [tg] e pos) (mAsg m g) := by
  obtain ⟨t, p, q⟩ := a
  obtain ⟨t', p', q'⟩ := b
  refine ⟨fun W => tAsg (t W) t', fun i => ps_asg (p i) (p' i) (hs i) (hw i) (h1 i), fun W w0 w env h σ D rl po => q W w0 w env h σ _ rl (PostS.ofE rl po fun x h1 w1 v s d r p1 => ?_)⟩
  split at p1
  · rename_i env' eg
    exact q' w0 w1 env env' h1 σ x v _ (rl.step s d) r eg fun σ' rl' _ => p1 w1 σ' (Ext.refl w1) rl'
  · exact p1.elim

/-! ### what is walked -/
def YOk (S : Sx) (w : Wd) (x : PV) (v : V) (H' : Hp) : Prop := ∀ h, Hd S w h → ∃ w3, w3.H = H' ∧ Step w w3 ∧ Hd S w3 h ∧ PW' S w3 x v
/-- C: how the worlds of the turns come from the one at the start -/
def WalkOk (S : Sx) (C : Wd → Wd → Prop) (w : Wd) (J : It) (items : List PV) : Prop := ∃ G Y, Walk J items.length G Y ∧ (∀ w', C w w' → G w'.H) ∧ ∀ (i : Nat) w' H' x v, C w w' → items[i]? = some x → Y i w'.H v H' → YOk S w' x v H'
def RdI (S : Sx) (C : Wd → Wd → Prop) (W : WX) (wi : TI) (m : MA) : Prop := ∀ (w0 w : Wd) (env : En) (h : Hh) (σ : L2.St) (R : It → Hp → Prop), Rl S w0 w env h σ →
  (match m env h with
    | .ok xs h' => ∀ w' J, Step w w' → Hd S w' h' → WalkOk S C w' J xs → R J w'.H
    | .er x h' => ∀ w' cls d, Step w w' → Hd S w' h' → RX S w' x cls d → W cls d σ w'.H
    | .no => False) → wi σ w.H R
def CE' (S : Sx) (a b : Wd) : Prop := Ext a b ∧ ∃ h, Hd S b h
def CS' (S : Sx) (a b : Wd) : Prop := Step a b ∧ ∃ h, Hd S b h
def SI (F : Fam) (tg iter : Expr) (m : MA) : Prop := ∃ wi : WX → TI, (∀ i, PI (F.X i) tg iter (wi (F.W i))) ∧ ∀ W, RdI F.S (CE' F.S) W (wi W) m
def SIB (F : Fam) (tg iter : Expr) (m : MA) : Prop := ∃ wi : WX → TI, (∀ i, PI (F.X i) tg iter (wi (F.W i))) ∧ ∀ W, RdI F.S (CS' F.S) W (wi W) m
theorem SI.b (a : SI F tg iter ma) : SIB F tg iter ma := by
  obtain ⟨t, p, q⟩ := a
  refine ⟨t, p, fun W w0 w env h σ R rl po => q W w0 w env h σ R rl ?_⟩
  cases e : ma env h with
  | ok xs h' =>
    rw [e] at po
    exact fun w' J s d ⟨G, Y, wk, g, y⟩ => po w' J s d ⟨G, Y, wk, fun w'' c => g w'' ⟨c.1.ext, c.2⟩, fun i w'' H' x v c => y i w'' H' x v ⟨c.1.ext, c.2⟩⟩
  | er x h' => rw [e] at po; exact po
  | no => rw [e] at po; exact po
/-- the items of a list, of a tuple -/
def itL (m : ME) : MA := fun env h => (m env h).bind fun x h => match x with
  | .lst xs => .ok xs h
  | _ => .no
def itT (m : ME) : MA := fun env h => (m env h).bind fun x h => match x with
  | .tup xs => .ok xs h
  | _ => .no
theorem yok_at {S : Sx} {w : Wd} {xs : List PV} {vs : List V} (r : PWs S w xs vs) {w' : Wd} (x : Ext w w') {i : Nat} {y : PV} {v : V} {H' : Hp} (e : xs[i]? = some y) (h : YAt vs i w'.H v H') : YOk S w' y v H' := fun hh d => by
  obtain ⟨e1, e2⟩ := h
  obtain ⟨u, g1, g2⟩ := r.get e
  rw [e2] at g1
  cases g1
  exact ⟨w', e1.symm, Step.refl _, d, x.pr g2⟩
theorem si_list (a : SE F e m) : SI F tg e (itL m) := by
  obtain ⟨t, p, q⟩ := a
  refine ⟨fun W => iList F.K (t W), fun i => pi_list (p i), fun W w0 w env h σ R rl po => q W w0 w env h σ _ rl ?_⟩
  unfold itL at po
  cases em : m env h with
  | no => rw [em] at po; exact po
  | er x h' => rw [em] at po; exact po
  | ok x h' =>
    rw [em] at po
    intro w' v s d r
    cases r with
    | @lst a xs vs sq rs =>
      refine ⟨a, rfl, ⟨vs, d.sqL sq⟩, po w' _ s d ⟨_, _, by rw [rs.length]; exact walk_list, fun w'' c => ?_, fun i w'' H' y u c e1 e2 => yok_at rs c.1 e1 e2⟩⟩
      obtain ⟨c1, hh, c2⟩ := c
      exact c2.sqL (sqL_mono c1.fz sq)
    | _ => exact po.elim
theorem si_tup (a : SE F e m) : SI F tg e (itT m) := by
  obtain ⟨t, p, q⟩ := a
  refine ⟨fun W => iTup F.K (t W), fun i => pi_tup (p i), fun W w0 w env h σ R rl po => q W w0 w env h σ _ rl ?_⟩
  unfold itT at po
  cases em : m env h with
  | no => rw [em] at po; exact po
  | er x h' => rw [em] at po; exact po
  | ok x h' =>
    rw [em] at po
    intro w' v s d r
    cases r with
    | @tup a xs vs sq rs =>
      refine ⟨a, rfl, ⟨vs, d.sqT sq⟩, po w' _ s d ⟨_, _, by rw [rs.length]; exact walk_tup, fun w'' c => ?_, fun i w'' H' y u c e1 e2 => yok_at rs c.1 e1 e2⟩⟩
      obtain ⟨c1, hh, c2⟩ := c
      exact c2.sqT (sqT_mono c1.fz sq)
    | _ => exact po.elim
/-- a list that is read at once, for a comprehension -/
theorem sib_list (a : SB F e m) : SIB F tg e (itL m) := by
  obtain ⟨t, p, q⟩ := a
  refine ⟨fun W => iList F.K (t W), fun i => pi_list (p i), fun W w0 w env h σ R rl po => q W w0 w env h σ _ rl ?_⟩
  unfold itL at po
  cases em : m env h with
  | no => rw [em] at po; exact po
  | er x h' => rw [em] at po; exact po
  | ok x h' =>
    rw [em] at po
    intro w' v s d r
    cases x with
    | lst xs =>
      cases r with
      | val r' =>
        cases r' with
        | @lst a _ vs sq rs =>
          refine ⟨a, rfl, ⟨vs, d.sqL sq⟩, po w' _ s d ⟨_, _, by rw [rs.length]; exact walk_list, fun w'' c => ?_, fun i w'' H' y u c e1 e2 => yok_at rs c.1.ext e1 e2⟩⟩
          obtain ⟨c1, hh, c2⟩ := c
          exact c2.sqL (sqL_mono c1.fz sq)
      | @lst a _ vs ea n rs =>
        exact ⟨a, rfl, ⟨vs, SqL.of ea⟩, po w' _ s d ⟨_, _, by rw [rs.length]; exact walk_list, fun w'' c => SqL.of (c.1.kp _ _ ea n), fun i w'' H' y u c e1 e2 => yok_at rs c.1.ext e1 e2⟩⟩
    | _ => exact po.elim
def rngList (lo : Int) (n : Nat) : List PV := (List.range n).map fun i => PV.int (lo + (i : Nat))
theorem rng_get {lo : Int} {n i : Nat} {x : PV} (h : (rngList lo n)[i]? = some x) : x = .int (lo + (i : Nat)) := by
  unfold rngList at h
  rw [List.getElem?_map] at h
  obtain ⟨j, e1, e2⟩ := Option.map_eq_some_iff.mp h
  obtain ⟨h1, h2⟩ := List.getElem?_eq_some_iff.mp e1
  rw [List.getElem_range] at h2
  subst h2
  exact e2.symm
theorem rng_len (lo : Int) (n : Nat) : (rngList lo n).length = n := by unfold rngList; simp
def rngOk (i : Int) : Bool := decide (-(2 ^ 62) ≤ i) && decide (i < 2 ^ 62)
/-- range(n), range(a, b), range(a, b, c) -/
def itR1 (m : MA) : MA := fun env h => (m env h).bind fun xs h => match xs with
  | [.int j] => if rngOk j = true then .ok (rngList 0 j.toNat) h else .no
  | _ => .no
def itR2 (m : MA) : MA := fun env h => (m env h).bind fun xs h => match xs with
  | [.int i, .int j] => if (rngOk i && rngOk j) = true then .ok (rngList i (j - i).toNat) h else .no
  | _ => .no
theorem yok_fn {S : Sx} {w' : Wd} {x : PV} {v : V} {H' : Hp} {f : Nat → V} {i : Nat} (h : YFn f i w'.H v H') (r : PW' S w' x (f i)) : YOk S w' x v H' := fun hh d => by
  obtain ⟨e1, e2⟩ := h
  subst e2
  exact ⟨w', e1.symm, Step.refl _, d, r⟩
theorem si_range1 {ea : Expr} (hm : F.mg "range" = none) (a : SA F [ea] ma) (hg : ∀ i, Gl (F.X i) "range" := by intro _; rfl) (hs : ∀ i, starEach [ea] (F.X i).env = [(false, eval ea (F.X i).env)] := by intro _; rfl) : SI F tg (.Call (.Name "range" p) [ea] [] pos) (itR1 ma) := by
  obtain ⟨t, pa, q⟩ := a
  refine ⟨fun W => iRng1 (t W), fun i => pi_range1 (hg i) hm (pa i) (hs i), fun W w0 w env h σ R rl po => q W w0 w env h σ _ rl ?_⟩
  unfold itR1 at po
  cases em : ma env h with
  | no => rw [em] at po; exact po
  | er x h' => rw [em] at po; exact po
  | ok xs h' =>
    rw [em, Res.bind_ok] at po
    intro w' v s d r
    split at po
    · rename_i hx
      split at hx
      · split at hx
        · rename_i j hc
          cases hx
          unfold rngOk at hc
          simp only [Bool.and_eq_true, decide_eq_true_eq] at hc
          cases r with | cons r1 r2 =>
          cases r1; cases r2
          exact ⟨j, rfl, hc.1, hc.2, po w' _ s d ⟨_, _, by rw [rng_len]; exact walk_range, fun _ _ => trivial, fun i w'' H' y u c e1 e2 => yok_fn e2 (by rw [rng_get e1]; exact .int _)⟩⟩
        · cases hx
      · cases hx
    · rename_i hx
      split at hx
      · split at hx <;> cases hx
      · cases hx
    · exact po.elim
theorem si_range2 {ea eb : Expr} (hm : F.mg "range" = none) (a : SA F [ea, eb] ma) (hg : ∀ i, Gl (F.X i) "range" := by intro _; rfl) (hs : ∀ i, starEach [ea, eb] (F.X i).env = [(false, eval ea (F.X i).env), (false, eval eb (F.X i).env)] := by intro _; rfl)
    (hs2 : ∀ i, starEach [eb] (F.X i).env = [(false, eval eb (F.X i).env)] := by intro _; rfl) : SI F tg (.Call (.Name "range" p) [ea, eb] [] pos) (itR2 ma) := by
  obtain ⟨t, pa, q⟩ := a
  refine ⟨fun W => iRng2 (t W), fun i => pi_range2 (hg i) hm (pa i) (hs i) (hs2 i), fun W w0 w env h σ R rl po => q W w0 w env h σ _ rl ?_⟩
  unfold itR2 at po
  cases em : ma env h with
  | no => rw [em] at po; exact po
  | er x h' => rw [em] at po; exact po
  | ok xs h' =>
    rw [em, Res.bind_ok] at po
    intro w' v s d r
    split at po
    · rename_i hx
      split at hx
      · split at hx
        · rename_i i j hc
          cases hx
          unfold rngOk at hc
          simp only [Bool.and_eq_true, decide_eq_true_eq] at hc
          cases r with | cons r1 r2 =>
          cases r2 with | cons r2 r3 =>
          cases r1; cases r2; cases r3
          exact ⟨i, j, rfl, ⟨hc.1.1, hc.1.2, hc.2.1, hc.2.2⟩, po w' _ s d ⟨_, _, by rw [rng_len]; exact walk_range, fun _ _ => trivial, fun i w'' H' y u c e1 e2 => yok_fn e2 (by rw [rng_get e1]; exact .int _)⟩⟩
        · cases hx
      · cases hx
    · rename_i hx
      split at hx
      · split at hx <;> cases hx
      · cases hx
    · exact po.elim

/-! ### for, while -/
def forL (g : MG) (b : MS) : List PV → MS
  | [] => fun env h => .nx env h
  | x :: r => fun env h => match g x env with
    | none => .no
    | some env => match b env h with
      | .nx env h => forL g b r env h
      | .ct env h => forL g b r env h
      | .bk env h => .nx env h
      | z => z
def mFor (it : MA) (g : MG) (b : MS) : MS := fun env h => ofE (it env h) env fun xs h => forL g b xs env h
theorem rd_forL {S : Sx} {W : WX} {w0 w : Wd} {J : It} {items : List PV} {g : TG} {mg : MG} {tb : TS} {mb : MS} {D : Ends} {env : En} {h : Hh} {σ : L2.St} (wk : WalkOk S (CE' S) w J items) {is : List Nat} (hg : RdT S g mg is) (hb : RdS S W tb mb)
    (rl : Rl S w0 w env h σ) (po : PostS S W w0 w (forL mg mb items env h) D) :
    ∃ Wv : Nat → Nat → L2.St → Hp → Prop, (∃ m, Wv 0 m σ w.H) ∧ ∀ i m σ H, Wv i m σ H →
      (J.stop i H ∧ D.nx σ H) ∨ (J.go i H ∧ ∃ N : L2.St → Hp → Prop, (∀ σ' H', N σ' H' → ∃ m', m' < m ∧ Wv (i + 1) m' σ' H') ∧ ∀ x H', J.yld i H x H' → g x σ H' fun σ2 H2 => tb { D with nx := N, ct := N, bk := D.nx } σ2 H2) := by
  obtain ⟨G, Y, hw, hG, hY⟩ := wk
  refine for_it hw (fun i σ H => ∃ w' env' h', w'.H = H ∧ Ext w w' ∧ Rl S w0 w' env' h' σ ∧ PostS S W w0 w' (forL mg mb (items.drop i) env' h') D) ⟨w, env, h, rfl, Ext.refl w, rl, by rw [List.drop_zero]; exact po⟩ (fun i σ H hi ⟨w', env', h', e, x, r, p⟩ => by rw [← e]; exact hG w' ⟨x, h', r.hd⟩) (fun i v σ H H' hi ⟨w', env', h', e, x, r, p⟩ y => ?_) (fun σ H ⟨w', env', h', e, x, r, p⟩ => ?_)
  · subst e
    have ei : items[i]? = some items[i] := List.getElem?_eq_getElem hi
    obtain ⟨w3, e3, s3, d3, r3⟩ := hY i w' H' items[i] v ⟨x, h', r.hd⟩ ei y h' r.hd
    subst e3
    have r' : Rl S w0 w3 env' h' σ := r.step s3 d3
    rw [List.drop_eq_getElem_cons hi] at p
    unfold forL at p
    split at p
    · exact p.elim
    · rename_i env2 eg
      refine hg w0 w3 env' env2 h' σ items[i] v _ r' r3 eg fun σ2 r2 _ => hb w0 w3 env2 h' σ2 _ r2 ?_
      have x3 : Ext w w3 := x.trans s3.ext
      have p' := PostS.mono s3.ext p
      cases em : mb env2 h' with
      | nx e4 h4 => rw [em] at p'; exact fun w4 σ4 x4 r4 => ⟨w4, e4, h4, rfl, x3.trans x4, r4, PostS.mono x4 p'⟩
      | ct e4 h4 => rw [em] at p'; exact fun w4 σ4 x4 r4 => ⟨w4, e4, h4, rfl, x3.trans x4, r4, PostS.mono x4 p'⟩
      | bk e4 h4 => rw [em] at p'; exact p'
      | rt v4 h4 => rw [em] at p'; exact p'
      | er x4 e4 h4 => rw [em] at p'; exact p'
      | no => rw [em] at p'; exact p'
  · subst e
    rw [List.drop_length] at p
    exact p w' σ (Ext.refl w') r
theorem ss_for {g : MG} {is : List Nat} (ok : F.Ok) (hc : F.calm = true) (hi : SI F tg iter ma) (hg : SG F tg g is) (hb : SSs F body ms) (hs : ∀ i x, foldedSetIterable iter (F.X i).env x = pure x := by intro _ _; rfl) : SS F (.For tg iter body [] pos) (mFor ma g ms) := by
  obtain ⟨wi, pi, qi⟩ := hi
  obtain ⟨tg', pg, qg⟩ := hg
  obtain ⟨tb, pb, qb⟩ := hb
  refine ⟨fun W => tFor (wi W) tg' (tb W), fun i => ps_for (X := F.X i) (ok.po i) hc (pi i) (pg i) (pb i) (hs i), fun W w0 w env h σ D rl po => qi W w0 w env h σ _ rl ?_⟩
  unfold mFor at po
  cases em : ma env h with
  | no => rw [em] at po; exact po
  | er x h' => rw [em] at po; exact fun w' cls d s dd q => po w' σ cls d s.ext (rl.step s dd) q
  | ok xs h' =>
    rw [em] at po
    exact fun w' J s d wk => rd_forL wk qg (qb W) (rl.step s d) (PostS.mono s.ext po)
def whileL (t : MT) (b : MS) : Nat → MS
  | 0 => fun _ _ => .no
  | n + 1 => fun env h => ofE (t env h) env fun c h => if c = true then (match b env h with
      | .nx env h => whileL t b n env h
      | .ct env h => whileL t b n env h
      | .bk env h => .nx env h
      | z => z) else .nx env h
theorem ss_while (n : Nat) {ec : Expr} (ok : F.Ok) (hc : ST F ec mt) (hb : SSs F body ms) : SS F (.While ec body [] pos) (whileL mt ms n) := by
  obtain ⟨tc, pc, qc⟩ := hc
  obtain ⟨tb, pb, qb⟩ := hb
  refine ⟨fun W => tWhile (tc W) (tb W), fun i => ps_while (X := F.X i) (ok.po i) (pc i) (pb i), fun W w0 w env h σ D rl po => ?_⟩
  refine ⟨fun m σ H => ∃ w' env' h', w'.H = H ∧ Rl F.S w0 w' env' h' σ ∧ PostS F.S W w0 w' (whileL mt ms m env' h') D, ⟨n, w, env, h, rfl, rl, po⟩, fun m σ H ⟨w', env', h', e, r, p⟩ => ?_⟩
  subst e
  cases m with
  | zero => exact p.elim
  | succ m =>
    unfold whileL at p
    refine qc W w0 w' env' h' σ _ r (PostS.ofE r p fun x h1 w1 v s d q p1 => ?_)
    subst q
    cases x with
    | false => rw [if_neg Bool.false_ne_true] at p1 ⊢; exact p1 w1 σ (Ext.refl w1) (r.step s d)
    | true =>
      rw [if_pos rfl] at p1 ⊢
      refine ⟨fun σ' H' => ∃ w4 e4 h4, w4.H = H' ∧ Rl F.S w0 w4 e4 h4 σ' ∧ PostS F.S W w0 w4 (whileL mt ms m e4 h4) D, fun σ' H' ⟨w4, e4, h4, q⟩ => ⟨m, Nat.lt_succ_self m, w4, e4, h4, q⟩, qb W w0 w1 env' h1 σ _ (r.step s d) ?_⟩
      cases em : ms env' h1 with
      | nx e4 h4 => rw [em] at p1; exact fun w4 σ4 x4 r4 => ⟨w4, e4, h4, rfl, r4, PostS.mono x4 p1⟩
      | ct e4 h4 => rw [em] at p1; exact fun w4 σ4 x4 r4 => ⟨w4, e4, h4, rfl, r4, PostS.mono x4 p1⟩
      | bk e4 h4 => rw [em] at p1; exact p1
      | rt v4 h4 => rw [em] at p1; exact p1
      | er x4 e4 h4 => rw [em] at p1; exact p1
      | no => rw [em] at p1; exact p1
end
end Mir

set_option Elab.async false
set_option linter.all false
set_option maxRecDepth 100000
set_option maxHeartbeats 1000000
namespace Mir
open PySem PySem.Spec PyProof.Rows L2

/-! ### comprehensions -/
structure BlkIx (ι : Type) where
  i : ι
  s : Shared
  H : Hp
  C : Addr
  cl : List (Str × Addr)
  fp : List Addr
def Fam.blk (F : Fam) (scope : Scope) : Fam where
  ι := BlkIx F.ι
  P := F.P
  w := F.w
  K := F.K
  mg := F.mg
  base := F.base
  N := F.N
  calm := F.calm
  cA := F.cA
  ea := F.ea
  ed := F.ed
  k := F.k
  A := fun j => F.A j.i
  s0 := fun j => j.s
  H0 := fun j => j.H
  env := fun j => compEnvC scope j.cl j.C (F.env j.i)
  outer := fun j => F.stack j.i
  stack := fun j => F.stack j.i
  ex := fun j => j.fp
  fn := fun _ x => scope.names.lookup x == some .cell
  pn := fun _ => []
  xe := fun _ _ _ => False
  W := fun _ _ _ _ _ => False
theorem Fam.blk_ok {F : Fam} (ok : F.Ok) (scope : Scope) : (F.blk scope).Ok where
  tk := fun _ => takes0
  hr := fun j => ok.hr j.i
  nd := ok.nd
  po := fun _ => PassesOwn.never
theorem Fam.blk_X (F : Fam) (scope : Scope) (i : F.ι) (s : Shared) (H : Hp) (C : Addr) (cl : List (Str × Addr)) (fp : List Addr) : (F.blk scope).X ⟨i, s, H, C, cl, fp⟩ = (F.X i).blk s H scope (compEnvC scope cl C (F.X i).env) fp := rfl
def wipeE (env : En) : List Nat → En
  | [] => env
  | v :: vs => (wipeE env vs).set v .un
theorem Sl.un {S : Sx} {w0 w : Wd} {env : En} {σ : L2.St} (s : Sl S w0 w env σ) (i : Nat) : Sl S w0 w (env.set i .un) (σ.set i none) := by
  refine ⟨by simp [s.len], fun j y e => ?_, fun j o e => ?_, fun j k o o' a e1 e2 f1 f2 => ?_, exq_set s.exq i (fun _ q => by cases q) _⟩
  · rcases set_get _ _ _ _ e with ⟨rfl, e1, hl⟩ | ⟨hj, e1⟩
    · cases e1
    · rw [List.getElem?_set_ne (Ne.symm hj)]; exact s.slot j y e1
  · rcases set_get _ _ _ _ e with ⟨rfl, e1, hl⟩ | ⟨hj, e1⟩
    · cases e1
    · rw [List.getElem?_set_ne (Ne.symm hj)]; exact s.own j o e1
  · rcases set_get _ _ _ _ e1 with ⟨rfl, g, hl⟩ | ⟨hj, g⟩
    · cases g
    · rcases set_get _ _ _ _ e2 with ⟨rfl, g2, hl⟩ | ⟨hk, g2⟩
      · cases g2
      · rw [List.getElem?_set_ne (Ne.symm hj)] at f1
        rw [List.getElem?_set_ne (Ne.symm hk)] at f2
        exact s.sep j k o o' a g g2 f1 f2
theorem Sl.wipe {S : Sx} {w0 w : Wd} {env : En} {σ : L2.St} (s : Sl S w0 w env σ) : ∀ vs : List Nat, Sl S w0 w (wipeE env vs) (L2.wipe σ vs)
  | [] => s
  | v :: vs => (Sl.wipe s vs).un v
theorem wipe_at (σ : L2.St) {j : Nat} : ∀ {vs : List Nat}, j ∈ vs → (L2.wipe σ vs)[j]? = if j < σ.length then some none else none
  | v :: vs, h => by
    unfold L2.wipe
    by_cases e : v = j
    · subst e
      by_cases hl : v < σ.length
      · rw [List.getElem?_set_self (by rw [wipe_length]; exact hl), if_pos hl]
      · rw [List.getElem?_eq_none (by rw [List.length_set, wipe_length]; omega), if_neg hl]
    · rw [List.getElem?_set_ne e]
      rcases List.mem_cons.mp h with z | z
      · exact absurd z.symm e
      · exact wipe_at σ z
theorem wipe_but {σ σ' : L2.St} {is vs : List Nat} (b : But is (L2.wipe σ vs) σ') (hs : ∀ j ∈ is, j ∈ vs) : L2.wipe σ' vs = L2.wipe σ vs := by
  have hl : σ'.length = σ.length := by rw [b.1, wipe_length]
  refine List.ext_getElem? fun j => ?_
  by_cases hj : j ∈ vs
  · rw [wipe_at σ' hj, wipe_at σ hj, hl]
  · rw [wipe_out hj, b.2 j fun z => hj (hs j z)]
theorem Hd.updD {S : Sx} {w : Wd} {h : Hh} (d : Hd S w h) {D : Addr} {o : HO} (f : w.Φ D = none) (n : D ∉ w.ad) : Hd S ⟨w.Φ, upd w.H D o, w.ad⟩ h where
  sub := fun x u q => by
    show upd w.H D o x = some u
    have q' : w.Φ x = some u := q
    have : x ≠ D := fun hq => by rw [hq, f] at q'; cases q'
    rw [upd_ne this]; exact d.sub x u q'
  len := d.len
  nd := d.nd
  sep := d.sep
  obj := fun k ob x p q => by
    have hx : x ≠ D := fun hq => n (by rw [← hq]; exact List.mem_of_getElem? q)
    have ro := d.obj k ob x p q
    cases ob with
    | lst xs => obtain ⟨us', e1, r1⟩ := ro; exact ⟨us', by rw [← e1]; exact upd_ne hx, r1⟩
    | dct ks xs => obtain ⟨us', l1, e1, r1⟩ := ro; exact ⟨us', l1, by rw [← e1]; exact upd_ne hx, r1⟩
    | ins cc ns xs => obtain ⟨C, dx, us', c1, l1, e1, r1⟩ := ro; exact ⟨C, dx, us', c1, l1, by rw [← e1]; exact upd_ne hx, r1⟩
theorem Step.updD {w1 w : Wd} (s : Step w1 w) {D : Addr} {o : HO} (z : w1.H D = none) : Step w1 ⟨w.Φ, upd w.H D o, w.ad⟩ where
  fz := s.fz
  ix := s.ix
  nw := s.nw
  kp := fun x u q hx => by
    show upd w.H D o x = some u
    have : x ≠ D := fun hq => by rw [hq, z] at q; cases q
    rw [upd_ne this]; exact s.kp x u q hx
  th := fun x q => by
    show upd w.H D o x ≠ none
    by_cases hx : x = D
    · subst hx; rw [upd_same]; simp
    · rw [upd_ne hx]; exact s.th x q
  fn := s.fn
def lcL (g : MG) (t : MT) (e : ME) (env : En) : List PV → Hh → Res (List PV)
  | [], h => .ok [] h
  | x :: r, h => match g x env with
    | none => .no
    | some env2 => match t env2 h with
      | .ok true h => match e env2 h with
        | .ok y h => (lcL g t e env r h).bind fun ys h => .ok (y :: ys) h
        | _ => .no
      | .ok false h => lcL g t e env r h
      | _ => .no
def mLc (it : MA) (vs : List Nat) (g : MG) (t : MT) (e : ME) : MA := fun env h => (it env h).bind fun xs h => if xs.length ≤ 16777216 then lcL g t e (wipeE env vs) xs h else .no
def mYes : MT := fun _ h => .ok true h
def STs (F : Fam) (ifs : List Expr) (m : MT) : Prop := ∃ t : WX → TT, (∀ i, PTs (F.X i) ifs (t (F.W i))) ∧ ∀ W, RdG F.S RB W (t W) m
theorem sts_nil {F : Fam} : STs F [] mYes := ⟨fun _ => tYes, fun _ => pts_nil, fun W w0 w env h σ Q r po => PostE.fin po r.hd rfl⟩
theorem sts_one {F : Fam} {c : Expr} {m : MT} (a : ST F c m) : STs F [c] m := by
  obtain ⟨t, p, q⟩ := a
  exact ⟨t, fun i => pts_one (p i), q⟩
theorem rd_lc {S : Sx} {W W2 : WX} {wi : TI} {g : TG} {tt : TT} {te : TE} {vs is : List Nat} {mi : MA} {mg : MG} {mt : MT} {me : ME} (hi : RdI S (CS' S) W wi mi) (hg : RdT S g mg is) (hs : ∀ j ∈ is, j ∈ vs)
    (ht : RdG S RB W2 tt mt) (he : RdG S (RV S) W2 te me) : RdG S (RN S) W (tLc wi g tt te vs) (mLc mi vs mg mt me) := by
  intro w0 w env h σ Q rl po
  refine hi w0 w env h σ _ rl ?_
  unfold mLc at po
  cases em : mi env h with
  | no => rw [em] at po; exact po
  | er x h' => rw [em] at po; exact po
  | ok xs h' =>
    rw [em, Res.bind_ok] at po
    intro w1 J s1 d1 wk D nD
    split at po
    · rename_i hz
      obtain ⟨G, Y, hw, hG, hY⟩ := wk
      have rl1 := rl.step s1 d1
      refine lc_it hw (fun i H => ∃ w' h2 acc us, w'.H = H ∧ Step w1 w' ∧ Hd S w' h2 ∧ w'.H D = some (.lst us) ∧ PWs S w' acc us ∧ D ∉ w'.ad ∧ w'.Φ D = none ∧ acc.length ≤ i ∧
          PostE S W w σ (RN S) ((lcL mg mt me (wipeE env vs) (xs.drop i) h2).bind fun ys h => .ok (acc ++ ys) h) Q)
        ⟨w1.put D (.lst []), h', [], [], rfl, Step.put d1 nD, d1.put nD, upd_same, .nil, d1.notAd nD, d1.fresh nD, Nat.le_refl _, ?_⟩ (fun i H hi' ⟨w', h2, acc, us, e, s, d, _⟩ => by rw [← e]; exact hG w' ⟨s, h2, d⟩) (fun i v H H' hi' ⟨w', h2, acc, us, e, s, d, eD, rs, n, f, hl, p⟩ y => ?_) (fun H ⟨w', h2, acc, us, e, s, d, eD, rs, n, f, hl, p⟩ => ?_)
      · rw [List.drop_zero]
        cases el : lcL mg mt me (wipeE env vs) xs h' <;> (rw [el] at po; exact po)
      · subst e
        have ei : xs[i]? = some xs[i] := List.getElem?_eq_getElem hi'
        obtain ⟨w3, e3, s3, d3, r3⟩ := hY i w' H' xs[i] v ⟨s, h2, d⟩ ei y h2 d
        subst e3
        have sw : Rl S w0 w3 (wipeE env vs) h2 (L2.wipe σ vs) := ⟨(rl1.st.trans s).trans s3, d3, ((rl1.sl.step s).step s3).wipe vs⟩
        rw [List.drop_eq_getElem_cons hi'] at p
        unfold lcL at p
        have fresh3 : D ∉ w3.ad ∧ w3.Φ D = none ∧ w3.H D = some (.lst us) := by
          refine ⟨fun hb => ?_, ?_, s3.kp D _ eD n⟩
          · rcases s3.nw D hb with k | k
            · exact n k
            · rw [eD] at k; cases k
          · cases q : w3.Φ D with
            | none => rfl
            | some o =>
              rcases s3.fn D o q with k | k
              · rw [f] at k; cases k
              · rw [eD] at k; cases k
        split at p
        · exact p.elim
        · rename_i env2 eg
          refine hg w0 w3 (wipeE env vs) env2 h2 _ xs[i] v _ sw r3 eg fun σ2 r2 b2 => ⟨wipe_but b2 hs, ?_⟩
          refine ht w0 w3 env2 h2 σ2 _ r2 ?_
          cases et : mt env2 h2 with
          | no => rw [et] at p; exact p.elim
          | er x hx => rw [et] at p; exact p.elim
          | ok b h4 =>
            rw [et] at p
            intro w4 b' s4 d4 eb
            subst eb
            have fresh4 : D ∉ w4.ad ∧ w4.Φ D = none ∧ w4.H D = some (.lst us) := by
              refine ⟨fun hb => ?_, ?_, s4.kp D _ fresh3.2.2 fresh3.1⟩
              · rcases s4.nw D hb with k | k
                · exact fresh3.1 k
                · rw [fresh3.2.2] at k; cases k
              · cases q : w4.Φ D with
                | none => rfl
                | some o =>
                  rcases s4.fn D o q with k | k
                  · rw [fresh3.2.1] at k; cases k
                  · rw [fresh3.2.2] at k; cases k
            cases b with
            | false =>
              rw [if_neg Bool.false_ne_true]
              exact ⟨w4, h4, acc, us, rfl, (s.trans s3).trans s4, d4, fresh4.2.2, s4.prs (s3.prs rs), fresh4.1, fresh4.2.1, by omega, p⟩
            | true =>
              rw [if_pos rfl]
              refine he w0 w4 env2 h4 σ2 _ (r2.step s4 d4) ?_
              cases ee : me env2 h4 with
              | no => simp only [ee] at p; exact p.elim
              | er x hx => simp only [ee] at p; exact p.elim
              | ok y5 h5 =>
                simp only [ee] at p
                intro w5 u5 s5 d5 r5
                have fresh5 : D ∉ w5.ad ∧ w5.Φ D = none ∧ w5.H D = some (.lst us) := by
                  refine ⟨fun hb => ?_, ?_, s5.kp D _ fresh4.2.2 fresh4.1⟩
                  · rcases s5.nw D hb with k | k
                    · exact fresh4.1 k
                    · rw [fresh4.2.2] at k; cases k
                  · cases q : w5.Φ D with
                    | none => rfl
                    | some o =>
                      rcases s5.fn D o q with k | k
                      · rw [fresh4.2.1] at k; cases k
                      · rw [fresh4.2.2] at k; cases k
                have rs5 := s5.prs (s4.prs (s3.prs rs))
                refine ⟨us, fresh5.2.2, ?_, ⟨w5.Φ, upd w5.H D (.lst (us ++ [u5])), w5.ad⟩, h5, acc ++ [y5], us ++ [u5], rfl, (((s.trans s3).trans s4).trans s5).updD nD, d5.updD fresh5.2.1 fresh5.1, upd_same, rs5.append (.cons r5 .nil), fresh5.1, fresh5.2.1, by rw [List.length_append]; simp; omega, ?_⟩
                · rw [← rs.length, sizeLine_eq]; omega
                · cases el : lcL mg mt me (wipeE env vs) (xs.drop (i + 1)) h5 with
                  | no => rw [el] at p; exact p
                  | er x hx => rw [el] at p; exact p
                  | ok ys hy => rw [el] at p; simp only [Res.bind_ok] at p ⊢; rw [List.append_assoc]; exact p
      · subst e
        rw [List.drop_length] at p
        have p' : PostE S W w σ (RN S) (.ok (acc ++ []) h2) Q := p
        rw [List.append_nil] at p'
        exact p' w' (.ref D) (s1.trans s) d ⟨D, us, rfl, eD, rs, n, f, s1.fr nD⟩
    · exact po.elim
section
variable {F : Fam} {e ea eb ec elt tg iter : Expr} {ifs : List Expr} {scope : Scope} {own : List (Str × Nat)} {pos p p2 pos' spos : Pos} {me : ME} {mt : MT} {mi : MA} {mg : MG} {is : List Nat}
/-- [elt for tg in iter if ..] -/
theorem sn_lc (ok : F.Ok) (hc : F.calm = true) (hi : SIB F tg iter mi) (bo : ∀ i, BlkOk F.N (F.env i).scope scope own) (hg : SG (F.blk scope) tg mg is) (hs : ∀ j ∈ is, j ∈ own.map (·.2)) (ht : STs (F.blk scope) ifs mt) (he : SE (F.blk scope) elt me)
    (hf : ∀ i x, foldedSetIterable iter (F.X i).env x = pure x := by intro _ _; rfl) : SN F (.ListComp elt [⟨tg, iter, ifs, 0⟩] scope pos) (mLc mi (own.map (·.2)) mg mt me) := by
  obtain ⟨wi, pi, qi⟩ := hi
  obtain ⟨g, pg, qg⟩ := hg
  obtain ⟨tt, pt, qt⟩ := ht
  obtain ⟨te, pe, qe⟩ := he
  exact ⟨fun W => tLc (wi W) g (tt fun _ _ _ _ => False) (te fun _ _ _ _ => False) (own.map (·.2)), fun i => pe_lc (X := F.X i) (tt := tt fun _ _ _ _ => False) (te := te fun _ _ _ _ => False) hc ok.nd (pi i) (bo i) (fun s H C cl fp => pg ⟨i, s, H, C, cl, fp⟩) (fun s H C cl fp => pt ⟨i, s, H, C, cl, fp⟩) (fun s H C cl fp => pe ⟨i, s, H, C, cl, fp⟩) (hf i),
    fun W => rd_lc (qi W) qg hs (qt _) (qe _)⟩
/-- name = [..]: a list of one's own -/
theorem ss_setLcN (i : Nat) {y : Str} {py : Pos} (ok : F.Ok) (hc : F.calm = true) (hi : SIB F tg iter mi) (bo : ∀ i, BlkOk F.N (F.env i).scope scope own) (hg : SG (F.blk scope) tg mg is) (hs : ∀ j ∈ is, j ∈ own.map (·.2)) (ht : STs (F.blk scope) ifs mt) (he : SE (F.blk scope) elt me)
    (hy : F.N[i]? = some y := by rfl) (hyl : ∀ j, (F.env j).scope.names.lookup y = some .local := by intro _; rfl)
    (hsw : ∀ j, swapsWith (.ListComp elt [⟨tg, iter, ifs, 0⟩] scope pos) (some (.Name y py)) spos.line (F.X j).env = pure true := by exact fun _ => sw_true rfl rfl rfl (by decide +kernel))
    (hf : ∀ i x, foldedSetIterable iter (F.X i).env x = pure x := by intro _ _; rfl) : SS F (.Assign [.Name y py] (.ListComp elt [⟨tg, iter, ifs, 0⟩] scope pos) spos) (mSetN i (mLc mi (own.map (·.2)) mg mt me)) := by
  obtain ⟨wi, pi, qi⟩ := hi
  obtain ⟨g, pg, qg⟩ := hg
  obtain ⟨tt, pt, qt⟩ := ht
  obtain ⟨te, pe, qe⟩ := he
  exact ⟨fun W => tAsg (tLc (wi W) g (tt fun _ _ _ _ => False) (te fun _ _ _ _ => False) (own.map (·.2))) (gName i), fun j => ps_setLc (X := F.X j) (tt := tt fun _ _ _ _ => False) (te := te fun _ _ _ _ => False) hc ok.nd hy (hyl j) (hsw j) (pi j) (bo j) (fun s H C cl fp => pg ⟨j, s, H, C, cl, fp⟩) (fun s H C cl fp => pt ⟨j, s, H, C, cl, fp⟩) (fun s H C cl fp => pe ⟨j, s, H, C, cl, fp⟩) (hf j),
    fun W => rd_setN i (rd_lc (qi W) qg hs (qt _) (qe _))⟩
/-- a reading of a new list as one that is locked -/
theorem rd_fz {S : Sx} {W : WX} {te : TE} {m : MA} (q : RdG S (RN S) W te m) : RdG S (RV S) W te (mFz m) :=
  fun w0 w env h σ Q r po => q w0 w env h σ Q r (PostE.bind0 po fun xs h1 w1 v s d ⟨a, vs, ev, ea, rs, n, f, z⟩ p1 => by
    subst ev
    obtain ⟨w2, eH, s2, x2, d2, sq, ead⟩ := lockN d ea n f z s
    rw [← eH]
    exact p1 w2 _ s2 d2 (.lst sq (x2.prs rs)))
theorem ss_setLc (i : Nat) {y : Str} {py : Pos} (ok : F.Ok) (hc : F.calm = true) (hi : SIB F tg iter mi) (bo : ∀ i, BlkOk F.N (F.env i).scope scope own) (hg : SG (F.blk scope) tg mg is) (hs : ∀ j ∈ is, j ∈ own.map (·.2)) (ht : STs (F.blk scope) ifs mt) (he : SE (F.blk scope) elt me)
    (hy : F.N[i]? = some y := by rfl) (hyl : ∀ j, (F.env j).scope.names.lookup y = some .local := by intro _; rfl)
    (hsw : ∀ j, swapsWith (.ListComp elt [⟨tg, iter, ifs, 0⟩] scope pos) (some (.Name y py)) spos.line (F.X j).env = pure true := by exact fun _ => sw_true rfl rfl rfl (by decide +kernel))
    (hf : ∀ i x, foldedSetIterable iter (F.X i).env x = pure x := by intro _ _; rfl) : SS F (.Assign [.Name y py] (.ListComp elt [⟨tg, iter, ifs, 0⟩] scope pos) spos) (mSet i (mFz (mLc mi (own.map (·.2)) mg mt me))) := by
  obtain ⟨wi, pi, qi⟩ := hi
  obtain ⟨g, pg, qg⟩ := hg
  obtain ⟨tt, pt, qt⟩ := ht
  obtain ⟨te, pe, qe⟩ := he
  exact ⟨fun W => tAsg (tLc (wi W) g (tt fun _ _ _ _ => False) (te fun _ _ _ _ => False) (own.map (·.2))) (gName i), fun j => ps_setLc (X := F.X j) (tt := tt fun _ _ _ _ => False) (te := te fun _ _ _ _ => False) hc ok.nd hy (hyl j) (hsw j) (pi j) (bo j) (fun s H C cl fp => pg ⟨j, s, H, C, cl, fp⟩) (fun s H C cl fp => pt ⟨j, s, H, C, cl, fp⟩) (fun s H C cl fp => pe ⟨j, s, H, C, cl, fp⟩) (hf j),
    fun W => rd_set i (rd_fz (rd_lc (qi W) qg hs (qt _) (qe _)))⟩
end

/-! ### a def -/
def startE (n : Nat) (args : List PV) : En := args.map SV.v ++ List.replicate (n - args.length) .un
/-- a def's mirror from its body's: n slots, k parameters -/
def runD (n k : Nat) (b : MS) : MF := fun args h => if args.length = k then (match b (startE n args) h with
  | .nx _ h => .ok .non h
  | .rt x h => .ok x h
  | .er x _ h => .er x h
  | _ => .no) else .no
/-- the family of a def's body: one context -/
def defFam (P : Program) (w : World) (K : PySem.W.Frag) (mg : Str → Option Value) (base : Heap) (N : List Str) (qual : Str) (scope : Scope) (cA : Str → Option Addr) (k : Nat) (f : Addr) (cd : Value) (A : Around) (outer : List PySem.Env) (s : Shared) (H : Hp) (E : XK) : Fam where
  ι := Unit
  P := P
  w := w
  K := K
  mg := mg
  base := base
  N := N
  calm := true
  cA := cA
  ea := 0
  ed := none
  k := k
  A := fun _ => A.deeper (envOfC qual scope s.heap.objs.size f cd)
  s0 := fun _ => s
  H0 := fun _ => H
  env := fun _ => envOfC qual scope s.heap.objs.size f cd
  outer := fun _ => outer
  stack := fun _ => envOfC qual scope s.heap.objs.size f cd :: outer
  ex := fun _ => []
  fn := fun _ _ => true
  pn := fun _ => []
  xe := fun _ e s' => wpAny (model P w) (A.deeper (envOfC qual scope s.heap.objs.size f cd)) (leaving (envOfC qual scope s.heap.objs.size f cd) e) (fun _ s'' => L2.CX P w outer H s E e s'') (fun e' s'' => L2.CX P w outer H s E e' s'') s'
  W := fun _ cls d _ H => E cls d H
section
variable {P : Program} {w : World} {K : PySem.W.Frag} {mg : Str → Option Value} {base : Heap}
theorem defFam_X {N : List Str} {qual : Str} {scope : Scope} {cA : Str → Option Addr} {k : Nat} {f : Addr} {cd : Value} {A : Around} {outer : List PySem.Env} {s : Shared} {H : Hp} {E : XK} :
    (defFam P w K mg base N qual scope cA k f cd A outer s H E).X () = cxOf (L2.CX P w) P w K mg base N qual scope f cd A outer s H E := rfl
theorem defFam_ok {N : List Str} {qual : Str} {scope : Scope} {cA : Str → Option Addr} {k : Nat} {f : Addr} {cd : Value} {A : Around} {outer : List PySem.Env} {s : Shared} {H : Hp} {E : XK} (nd : N.Nodup) (hr : Room k (A.deeper (envOfC qual scope s.heap.objs.size f cd))) :
    (defFam P w K mg base N qual scope cA k f cd A outer s H E).Ok where
  tk := fun _ => takes_of (X := cxOf (L2.CX P w) P w K mg base N qual scope f cd A outer s H E) rfl rfl rfl rfl
  hr := fun _ => hr
  nd := nd
  po := fun _ => PassesOwn.leaving
theorem sl_start {S : Sx} {w0 : Wd} {args : List PV} {vs : List V} (r : PWs S w0 args vs) {N : List Str} : Sl S w0 w0 (startE N.length args) (L2.start N vs) := by
  unfold startE L2.start
  have hl := r.length
  refine ⟨by simp [hl], fun i x e => ?_, fun i o e => ?_, fun i j o o' a e1 => ?_, fun i x e => ?_⟩
  rotate_left 3
  · by_cases hi : i < args.length
    · rw [List.getElem?_append_left (by simpa using hi), List.getElem?_map] at e
      obtain ⟨y, e1, e2⟩ := Option.map_eq_some_iff.mp e
      cases e2
    · rw [List.getElem?_append_right (by simp; omega), List.getElem?_replicate] at e
      split at e <;> cases e
  · by_cases hi : i < args.length
    · rw [List.getElem?_append_left (by simpa using hi), List.getElem?_map] at e
      obtain ⟨y, e1, e2⟩ := Option.map_eq_some_iff.mp e
      cases e2
      obtain ⟨v, g1, g2⟩ := r.get e1
      exact ⟨v, by rw [List.getElem?_append_left (by simp; omega), List.getElem?_map, g1]; rfl, g2⟩
    · rw [List.getElem?_append_right (by simp; omega), List.getElem?_replicate] at e
      split at e <;> cases e
  · by_cases hi : i < args.length
    · rw [List.getElem?_append_left (by simpa using hi), List.getElem?_map] at e
      obtain ⟨y, e1, e2⟩ := Option.map_eq_some_iff.mp e
      cases e2
    · rw [List.getElem?_append_right (by simp; omega), List.getElem?_replicate] at e
      split at e <;> cases e
  · by_cases hi : i < args.length
    · rw [List.getElem?_append_left (by simpa using hi), List.getElem?_map] at e1
      obtain ⟨y, e1, e2⟩ := Option.map_eq_some_iff.mp e1
      cases e2
    · rw [List.getElem?_append_right (by simp; omega), List.getElem?_replicate] at e1
      split at e1 <;> cases e1
/-- THE RULE for a def -/
theorem ok_def {x qual : Str} {st : Stmt} {f : Addr} {fd : FuncData} {N ps : List Str} {k : Nat} {cA : Str → Option Addr} {b : MS} (Fn : Fun K x qual st f fd) (Sc : FnScope N ps (defScope st))
    (hb : ∀ (cdv : Value) (A : Around) (outer : List PySem.Env) (s : Shared) (H : Hp) (E : XK), (defFam P w K mg base N qual (defScope st) cA k f cdv A outer s H E).Ok → SSs (defFam P w K mg base N qual (defScope st) cA k f cdv A outer s H E) (defBody st) b) :
    FnOk P w K mg base (L2.CX P w) (k + 1) f fd ps (spM ⟨K, cA, 0, none⟩ (runD N.length ps.length b)) := by
  refine Fn.okX Sc (fun vs H Q E ⟨w0, h, args, e, d, r, po⟩ => ?_) (fun cdv A outer s H vs Q E hr ⟨w0, h, args, e, d, r, po⟩ => ?_)
  · unfold runD at po
    split at po
    · rename_i hl; rw [← r.length]; exact hl
    · exact po.elim
  · obtain ⟨t, p, q⟩ := hb cdv A outer s H E (defFam_ok Sc.nd hr)
    refine ⟨_, p (), ?_⟩
    rw [← e]
    refine q _ w0 w0 (startE N.length args) h (L2.start N vs) _ ⟨Step.refl w0, d, sl_start r⟩ ?_
    unfold runD at po
    split at po
    · cases eb : b (startE N.length args) h with
      | nx env' h' => rw [eb] at po; exact fun w' σ' x rl => po w' .non rl.st rl.hd .non
      | rt x h' => rw [eb] at po; exact po
      | bk env' h' => rw [eb] at po; exact po.elim
      | ct env' h' => rw [eb] at po; exact po.elim
      | er x env' h' => rw [eb] at po; exact fun w' σ' cls d' xx rl rx => po w' cls d' rl.st rl.hd rx
      | no => rw [eb] at po; exact po.elim
    · exact po.elim
end
end Mir

set_option Elab.async false
set_option linter.all false
set_option maxRecDepth 100000
set_option maxHeartbeats 2000000
/-! enumerate of a tuple; min of data. -/
namespace MirE
open PySem PySem.Spec PyProof.Rows L2
/-- what enumerate(v) leaves behind the iterator of v -/
abbrev enumCell (i : Addr) : Obj := ⟨.type "enumerate", none, .fields #[.none, .bool false, .ref i, rawInt 0, .none, .none], #[]⟩
theorem enumNew {v : Value} {o : Obj} {Pre : Heap → Prop} (start : Begins v o Pre) :
    Meets (Builtin.«enumerate.__new__» ⟨[.type "enumerate", v], []⟩) fun _ post s0 =>
      Pre s0.heap ∧ post (.ok (.ret (.ref (s0.heap.push o).objs.size))) { s0 with heap := (s0.heap.push o).push (enumCell s0.heap.objs.size) } := by
  refine .of_wp ?_
  rintro prog w A post ⟨m0, gl, dp, tk, ou⟩ ⟨pre, fin⟩
  have isEnum := sub_enumerate
  have first : ∀ {A1 : Around} {E1 Q1 : Value → Shared → Prop}, Q1 (.ref m0.objs.size) ⟨m0.push o, gl, dp, tk, ou⟩ → wpAny (model prog w) A1 (pyIter v) Q1 E1 ⟨m0, gl, dp, tk, ou⟩ :=
    start.iter prog w _ _ _ _ pre
  wp_walk using first
  apply wpAny_stack_any
  intro frames
  apply wpAny_pure
  split
  case _ c _ _ _ _ _ => cases hc : (c == Value.type "enumerate") <;> simp only [hc] <;> (wp_walk using first; exact ⟨_, rfl, fin⟩)
  all_goals (wp_walk using first; exact ⟨_, rfl, fin⟩)
theorem enumCall {prog : Program} {w : World} {A : Around} {E Q : Value → Shared → Prop} {s : Shared} {v : Value} {o : Obj} {Pre : Heap → Prop} (start : Begins v o Pre) (pre : Pre s.heap)
    (next : ∀ m, IsEnum m (s.heap.objs.size + 1) s.heap.objs.size 0 .none → m.get? s.heap.objs.size = some o → m.objs.size = s.heap.objs.size + 2 →
      (∀ b ob, s.heap.get? b = some ob → m.get? b = some ob) → Q (.ref (s.heap.objs.size + 1)) { s with heap := m }) :
    wpAny (model prog w) A (call (.type "enumerate") [v]) Q E s := by
  have n1 : (s.heap.push o).objs.size = s.heap.objs.size + 1 := Heap.size_push _ _
  have cell := Heap.get?_push_size (s.heap.push o) (o := enumCell s.heap.objs.size) rfl
  have goal := next ((s.heap.push o).push (enumCell s.heap.objs.size)) (n1 ▸ cell) (Heap.get?_push_of_some _ (Heap.get?_push_size _ start.free))
    (by simp only [Heap.size_push]) (fun _ _ z => Heap.get?_push_of_some _ (Heap.get?_push_of_some _ z))
  apply callType_new F.called_enumerate (by decide) (F.typeCall_enumerate_1 v) (F.newCall_enumerate_1 v) (fun ob => F.args_object_init_2 ob v)
    F.entry_enumerate_new (enumNew start)
  refine ⟨pre, ?_⟩
  rw [n1]
  exact ⟨⟨_, n1 ▸ cell, rfl⟩, goal⟩
/-- the tuple at a, each item in a new pair -/
def IteT (K : PySem.W.Frag) (a : Addr) : It :=
  ⟨fun i H => ∃ (xs : List V) (x : V), SqT K H a xs ∧ xs[i]? = some x, fun i H v H' => ∃ T x, v = .ref T ∧ H T = none ∧ H' = upd H T (.tup [.int (i : Nat), x]) ∧ ∀ xs, SqT K H a xs → xs[i]? = some x, fun i H => ∃ xs : List V, SqT K H a xs ∧ xs.length = i⟩
/-- a tuple that is enumerated: i pairs are out -/
structure TupEnum (a e it : Addr) (i : Nat) (m : Heap) : Prop where
  cell : ∃ old, IsEnum m e it ((i : Nat) : Int) old
  iter : m.IsTupleIter it a i
  two : e ≠ it
theorem TupEnum.apart {a e it : Addr} {i : Nat} {m : Heap} {its : Array Value} (st : TupEnum a e it i m) (p : m.IsTuple a its) : a ≠ it ∧ a ≠ e := by
  obtain ⟨t, ht, _, _, dt⟩ := p
  constructor
  · rintro rfl
    obtain ⟨c, hc, _, dc⟩ := st.iter
    have same := hc.symm.trans ht
    rw [Option.some.injEq] at same
    rw [same, dt] at dc
    exact nomatch dc
  · rintro rfl
    obtain ⟨old, hc⟩ := st.cell
    have same : some _ = some t := Eq.trans (Eq.symm hc) ht
    rw [Option.some.injEq] at same
    rw [← same] at dt
    exact nomatch dt
theorem turn_enumT {P : Program} {w : World} {K : PySem.W.Frag} {elts : List Expr} {kk : Nat} {tpos : Pos} (a e it : Addr) :
    Turn P w K (.Tuple elts kk tpos) (IteT K a) [e, it] e (TupEnum a e it) where
  mem := List.mem_cons_self
  self := fun A n m Q E st => wpAny_pyIter_enum st.cell.choose_spec
  keep := fun n m m' st k => ⟨st.cell.imp fun old c => k e List.mem_cons_self _ c, st.iter.at fun ob c => k it (List.mem_cons_of_mem _ List.mem_cons_self) ob c, st.two⟩
  obj := fun n m st b hb => by
    have hb : b = e ∨ b = it := by simpa using hb
    rcases hb with rfl | rfl
    · exact st.cell.elim fun old c => ⟨_, c, fun v q => nomatch q⟩
    · obtain ⟨ob, c, _, dc⟩ := st.iter
      refine ⟨ob, c, fun v q => ?_⟩
      rw [dc] at q
      exact nomatch q
  done := by
    rintro X rfl rfl rfl calm n pins s σ H E I fresh st ⟨xs, sq, rfl⟩
    obtain ⟨its, rv, p, _⟩ := I.tuple sq
    have D := Draws.tuple (prog := X.prog) (w := X.w) (A := X.A.in1) (I.ok.hd calm) it a (st.apart p).1 its.toArray
    have all : its.toArray.size = xs.length := by rw [List.size_toArray, rv.length]
    refine wpAny_pyNext_enum_endD D st.cell.choose_spec ⟨all ▸ st.iter, p⟩ fun m eb => ⟨rfl, ?_⟩
    obtain ⟨g0, g1, _, g3, g4, g5⟩ := fresh it (List.mem_cons_of_mem _ List.mem_cons_self)
    exact I.turned (t' := s.toks) eb g0 g1 g3 g4 g5
  item := by
    rintro X rfl rfl rfl calm n pins s σ H E I fresh st ⟨xs, x, sq, at_n⟩
    obtain ⟨its, rv, p, _⟩ := I.tuple sq
    have ne := st.apart p
    obtain ⟨u, at_u, rx⟩ := rv.get at_n
    have D := Draws.tuple (prog := X.prog) (w := X.w) (A := X.A.in1) (I.ok.hd calm) it a ne.1 its.toArray
    have inside : n < its.toArray.size := by
      rw [List.size_toArray]
      exact (List.getElem?_eq_some_iff.mp at_u).1
    have e_in : e < s.heap.objs.size := st.cell.elim fun old c => Heap.lt_size c
    have it_in : it < s.heap.objs.size := st.iter.elim fun ob c => Heap.lt_size c.1
    have outside : e ∉ [it, a] := by
      simp only [List.mem_cons, List.not_mem_nil, or_false, not_or]
      exact ⟨st.two, ne.2.symm⟩
    refine wpAny_pyNext_enum_itemD D st.cell.choose_spec ⟨st.iter, p⟩ inside st.two outside fun y m tk drawn out next pair _ old => ?_
    obtain rfl : y = u := by
      rw [List.getElem?_toArray] at drawn
      exact Option.some.inj (drawn.symm.trans at_u)
    refine ⟨_, rfl, wpAny_letOwnedTupleGo_enum (s := { s with heap := m, toks := tk + 1 }) out fun m2 cell2 same => ?_⟩
    have pair2 : m2.get? s.heap.objs.size = some { cls := .type "tuple", data := .seq #[.int n tk, y] } := by
      rw [same.2 _ (Nat.ne_of_gt e_in)]
      exact pair
    have ok2 : ObjOk X.prog X.w (upd H s.heap.objs.size (.tup [.int (n : Nat), x])) m2 s.heap.objs.size (.tup [.int (n : Nat), x]) := by
      refine ⟨?_, [.int n tk, y], .cons ⟨tk, rfl⟩ (.cons rx .nil), _, pair2, rfl, _, rfl⟩
      show 2 ≤ sizeLine
      decide
    have kept2 : ∀ b ob, b ∉ [e, it] → s.heap.get? b = some ob → m2.get? b = some ob := by
      intro b ob hb c
      simp only [List.mem_cons, List.not_mem_nil, or_false, not_or] at hb
      rw [same.2 b hb.1]
      exact old b ob (by simp [hb.1, hb.2]) (by simp [hb.1, hb.2]) c
    refine ⟨.ref s.heap.objs.size, _, I.turnedNew (ch := [e, it]) kept2 fresh (Nat.le_refl _) ok2, rfl, ⟨_, x, rfl, I.hok.fresh (Nat.le_refl _), rfl, ?_⟩, ⟨⟨y, ?_⟩, ?_, st.two⟩, ?_⟩
    · intro ys sq2
      rw [I.tuple_inj sq2 sq]
      exact at_n
    · rw [Int.natCast_succ]
      exact cell2
    · exact next.1.at fun ob c => (same.2 it st.two.symm).trans c
    · intro b hb
      have b_in : b ≠ s.heap.objs.size := by
        have hb : b = e ∨ b = it := by simpa using hb
        exact Nat.ne_of_lt (hb.elim (fun z => z ▸ e_in) fun z => z ▸ it_in)
      rw [upd_ne b_in]
      exact (fresh b hb).1
def iEnumA (K : PySem.W.Frag) (ta : TA) : TI := fun σ H R => ta σ H fun vs H1 => ∃ a xs, vs = [.ref a] ∧ ((SqL K H1 a xs ∧ R (Ite K a) H1) ∨ (SqT K H1 a xs ∧ R (IteT K a) H1))
theorem pi_enumA {X : Cx} {e : Expr} {ta : TA} {p pos tpos : Pos} {elts : List Expr} {kk : Nat} (hg : Gl X "enumerate") (hm : X.mg "enumerate" = none) (ha : PA X [e] ta) (hs : starEach [e] X.env = [(false, eval e X.env)] := by rfl) :
    PI X (.Tuple elts kk tpos) (.Call (.Name "enumerate" p) [e] [] pos) (iEnumA X.K ta) := by
  constructor
  intro pins s σ H R I h
  refine Call_ (ld_blt I hg hm boot_enumerate ?_)
  refine callWith_type1 (thn (ha.run pos pins s σ H _ I h) ?_) hs rfl
  rintro us t ⟨vs, H1, J, rel, a, xs, rfl, kind⟩
  obtain ⟨u, rfl, ru⟩ := vals1 rel
  cases ru
  have new : ∀ b, b = t.heap.objs.size + 1 ∨ b = t.heap.objs.size → FpOk X pins H1 b := by
    intro b hb
    have above : t.heap.objs.size ≤ b := by omega
    exact J.fpOk above (J.hok.fresh above)
  have news : ∀ b ∈ [t.heap.objs.size + 1, t.heap.objs.size], FpOk X pins H1 b := fun b hb => new b (by simpa using hb)
  rcases kind with ⟨sq, r⟩ | ⟨sq, r⟩
  · obtain ⟨its, _, isL, _⟩ := J.list sq
    refine call_enumerate_list isL.isList fun m cell iter _ keep => wpAny_pyIter_enum cell ?_
    exact ⟨_, [t.heap.objs.size + 1, t.heap.objs.size], _, _, H1, rfl, J.kept (t' := t.toks) keep, turn_enum a _ _, ⟨⟨.none, cell⟩, iter, Nat.succ_ne_self _⟩, news, r⟩
  · obtain ⟨its, _, isT, _⟩ := J.tuple sq
    refine enumCall (begins_tuple a its.toArray) isT fun m cell iter _ keep => wpAny_pyIter_enum cell ?_
    exact ⟨_, [t.heap.objs.size + 1, t.heap.objs.size], _, _, H1, rfl, J.kept (t' := t.toks) keep, turn_enumT a _ _, ⟨⟨.none, cell⟩, ⟨_, iter, rfl, rfl⟩, Nat.succ_ne_self _⟩, news, r⟩
theorem walk_enumT {K : PySem.W.Frag} {a : Addr} {xs : List V} : Walk (IteT K a) xs.length (fun H => SqT K H a xs) (YPair (fun i => some (.int (i : Nat))) (fun i => xs[i]?)) := by
  refine ⟨fun i _ hi q => ⟨xs, xs[i], q, by simp [hi]⟩, fun _ q => ⟨xs, q, rfl⟩, fun i H v H' _ q y => ?_⟩
  exact y.elim fun T z => z.elim fun x c => ⟨T, .int (i : Nat), x, c.1, c.2.1, c.2.2.1, rfl, c.2.2.2 xs q⟩
/-! ### min, max of data -/
section
variable {X : Cx}
def rMinD (K : PySem.W.Frag) : List V → Hp → VK → Prop := fun vs H Q => ∃ (a : Addr) (xs : List V) (d : PyData) (ds : List PyData), vs = [.ref a] ∧ (SqL K H a xs ∨ SqT K H a xs) ∧ DpAll K H xs (d :: ds) ∧ PySem.W.AlikeAll (d :: ds) ∧ PyData.depthAll (d :: ds) ≤ 60 ∧
  ∀ (j : Nat) (x : V), xs[j]? = some x → (d :: ds)[j]? = some (PySem.W.minD d ds) → Q x H
theorem DpAll.get {K : PySem.W.Frag} {H : Hp} : ∀ {xs : List V} {ds : List PyData} {j : Nat} {x : V}, DpAll K H xs ds → xs[j]? = some x → ∃ d, ds[j]? = some d ∧ Dp K H x d
  | _, _, _, _, .nil, e => by simp at e
  | _, _, 0, _, .cons r _, e => by simp at e; subst e; exact ⟨_, rfl, r⟩
  | _, _, j + 1, x, .cons _ q, e => by
    obtain ⟨d, h1, h2⟩ := DpAll.get (j := j) (x := x) q (by simpa using e)
    exact ⟨d, by simpa using h1, h2⟩
theorem cr_minD (hc : X.calm = true) (hu : X.A.units + 64 < cLine) : CallR X (.builtin "min") (rMinD X.K) := by
  intro pins s σ H vs us Q I r h
  obtain ⟨a, xs, d, ds, rfl, hq, hd, ha, hz, q⟩ := h
  obtain ⟨u, rfl, ru⟩ := vals1 r
  cases ru
  have key : ∀ (its : List Value), Vals xs its → ∃ as, ReadsAll s.heap its.toArray.toList (d :: ds) as := fun its rv => by
    obtain ⟨as, ra⟩ := Dp.readsAll I (d :: ds) xs its hd rv
    exact ⟨as, by simpa using ra⟩
  have fin : ∀ (its : List Value), Vals xs its → ∀ (i : Nat) (v : Value) (h' : Heap) (tk : Nat) (bs : List Addr), its.toArray[i]? = some v → Reads h' v (PySem.W.minD d ds) bs → (∀ b o, s.heap.get? b = some o → h'.get? b = some o) → EP X pins σ Q v { s with heap := h', toks := tk } := fun its rv i v h' tk bs e1 e2 e3 => by
    have I1 : Inv X pins σ H { s with heap := h', toks := tk } := I.kept e3
    have e1' : its[i]? = some v := by simpa using e1
    have hi : i < xs.length := by rw [rv.length]; exact (List.getElem?_eq_some_iff.mp e1').1
    obtain ⟨u, g1, g2⟩ := rv.get (List.getElem?_eq_getElem hi)
    rw [e1'] at g1
    cases g1
    obtain ⟨dj, k1, k2⟩ := MirE.DpAll.get hd (List.getElem?_eq_getElem hi)
    obtain ⟨as2, r2⟩ := Dp.reads I1 _ _ _ k2 g2
    have e4 := (PyProof.Rows.reads_det (h := h') (h' := h') (fun b o z _ => z) e2 r2).1
    exact ⟨xs[i], H, I1, g2, q i _ (List.getElem?_eq_getElem hi) (by rw [k1, e4])⟩
  rcases hq with hq | hq
  · obtain ⟨its, rv, p, _⟩ := I.list hq
    obtain ⟨as, ra⟩ := key its rv
    exact PySem.W.min_list_data (I.ok.hd hc) p.isList ra ha (by omega) fun i v h' tk bs e1 e2 e3 => fin its rv i v h' tk bs e1 e2 e3
  · obtain ⟨its, rv, p, _⟩ := I.tuple hq
    obtain ⟨as, ra⟩ := key its rv
    exact PySem.W.min_tuple_data (I.ok.hd hc) p ra ha (by omega) fun i v h' tk bs e1 e2 e3 => fin its rv i v h' tk bs e1 e2 e3
end
end MirE
namespace Mir
open PySem PySem.Spec PyProof.Rows L2
mutual
def fromD : PyData → PV
  | .none => .non
  | .bool b => .bl b
  | .int i => .int i
  | .str s => .str s
  | .list xs => .lst (fromDs xs)
  | .tuple xs => .tup (fromDs xs)
  | .dict _ => .non
def fromDs : List PyData → List PV
  | [] => []
  | d :: r => fromD d :: fromDs r
end
mutual
theorem from_to : ∀ {x : PV} {d : PyData}, toD x = some d → fromD d = x
  | .non, d, h => by rw [toD] at h; cases h; rw [fromD]
  | .bl b, d, h => by rw [toD] at h; cases h; rw [fromD]
  | .int i, d, h => by rw [toD] at h; cases h; rw [fromD]
  | .str s, d, h => by rw [toD] at h; cases h; rw [fromD]
  | .tup xs, d, h => by
    rw [toD] at h
    obtain ⟨ds, e1, e2⟩ := Option.map_eq_some_iff.mp h
    subst e2
    rw [fromD, froms_to e1]
  | .lst xs, d, h => by
    rw [toD] at h
    obtain ⟨ds, e1, e2⟩ := Option.map_eq_some_iff.mp h
    subst e2
    rw [fromD, froms_to e1]
  | .dct _ _, d, h => by rw [toD] at h; cases h
  | .ref _, d, h => by rw [toD] at h; cases h
theorem froms_to : ∀ {xs : List PV} {ds : List PyData}, toDs xs = some ds → fromDs ds = xs
  | [], ds, h => by rw [toDs] at h; cases h; rw [fromDs]
  | x :: r, ds, h => by
    rw [toDs] at h
    split at h
    · rename_i d es e1 e2
      cases h
      rw [fromDs, from_to e1, froms_to e2]
    · cases h
end
theorem toDs_get : ∀ {xs : List PV} {ds : List PyData} {j : Nat} {d : PyData}, toDs xs = some ds → ds[j]? = some d → ∃ x, xs[j]? = some x ∧ toD x = some d
  | [], ds, j, d, h, e => by rw [toDs] at h; cases h; simp at e
  | x :: r, ds, j, d, h, e => by
    rw [toDs] at h
    split at h
    · rename_i d' es e1 e2
      cases h
      cases j with
      | zero => simp at e; subst e; exact ⟨x, rfl, e1⟩
      | succ j => obtain ⟨y, g1, g2⟩ := toDs_get (j := j) e2 (by simpa using e); exact ⟨y, by simpa using g1, g2⟩
    · cases h
def alikeB (ds : List PyData) : Bool := (ds.all fun x => ds.all fun y => PySem.W.alike x y) && ds.all dNN
theorem alikeB_ok {ds : List PyData} (h : alikeB ds = true) : PySem.W.AlikeAll ds := by
  unfold alikeB at h
  simp only [Bool.and_eq_true, List.all_eq_true] at h
  exact ⟨fun x hx y hy => h.1 x hx y hy, fun x hx => dNN_ne (h.2 x hx)⟩
def minP (ys : List PV) : Option PV := match toDs ys with
  | some (d :: ds) => if (alikeB (d :: ds) && decide (PyData.depthAll (d :: ds) ≤ 60)) = true then some (fromD (PySem.W.minD d ds)) else none
  | _ => none
def fMin : List PV → Hh → Res PV := fun xs h => match xs with
  | [.lst ys] => match minP ys with
    | some x => .ok x h
    | none => .no
  | [.tup ys] => match minP ys with
    | some x => .ok x h
    | none => .no
  | _ => .no
theorem minP_ok {S : Sx} {W : WX} {σ : L2.St} {w : Wd} {h : Hh} (d : Hd S w h) {ys : List PV} {us : List V} {z : PV} {a : Addr} {Q : VK} (e : minP ys = some z) (r : PWs S w ys us) (hs : SqL S.K w.H a us ∨ SqT S.K w.H a us) (po : PostE S W w σ (RV S) (.ok z h) Q) : MirE.rMinD S.K [.ref a] w.H Q := by
  unfold minP at e
  split at e
  · rename_i d1 ds et
    split at e
    · rename_i hc
      simp only [Bool.and_eq_true, decide_eq_true_eq] at hc
      cases e
      refine ⟨a, us, d1, ds, rfl, hs, DpAll.mono' d.sub (dps_of r et), alikeB_ok hc.1, hc.2, fun j x e1 e2 => ?_⟩
      obtain ⟨y, g1, g2⟩ := toDs_get et e2
      obtain ⟨v, k1, k2⟩ := r.get g1
      rw [e1] at k1
      cases k1
      rw [from_to g2] at po
      exact po.fin d k2
    · cases e
  · cases e
section
variable {F : Fam} {e ea eb ec tg : Expr} {es : List Expr} {pos p p2 tpos : Pos} {mr ma : MA} {m : ME}
theorem se_min (ok : F.Ok) (hc : F.calm = true) (hm : F.mg "min" = none) (ha : SAB F [e] mr) (hg : ∀ i, Gl (F.X i) "min" := by intro _; rfl) (he : ∀ i, starEach [e] (F.X i).env = (false, eval e (F.X i).env) :: starEach [] (F.X i).env := by intro _; rfl) : SE F (.Call (.Name "min" p) [e] [] pos) (mCall fMin mr) :=
  se_callB (r := MirE.rMinD F.K) (fun W σ w h xs vs Q d px po => by
    unfold fMin at po
    split at po
    · split at po
      · rename_i z ez
        obtain ⟨v, rfl, p1⟩ := px.one
        obtain ⟨a, us, rfl, ha, ra⟩ := p1.ofLst d
        exact minP_ok d ez ra (.inl ha) po
      · exact po.elim
    · split at po
      · rename_i z ez
        obtain ⟨v, rfl, p1⟩ := px.one
        obtain ⟨a, us, rfl, ha, ra⟩ := p1.ofTup d
        exact minP_ok d ez ra (.inr ha) po
      · exact po.elim
    · exact po.elim) (fun i => MirE.cr_minD (X := F.X i) hc (ok.u64 i)) hm (by decide +kernel) ha hg (by decide) (by decide) he (fun _ => rfl)
/-- enumerate -/
def enumL (xs : List PV) : List PV := xs.mapIdx fun i x => .tup [.int (i : Nat), x]
def itE (m : MA) : MA := fun env h => (m env h).bind fun xs h => match xs with
  | [.lst ys] => .ok (enumL ys) h
  | [.tup ys] => .ok (enumL ys) h
  | _ => .no
theorem yok_pair {S : Sx} {w' : Wd} {a b : PV} {v : V} {H' : Hp} {xs ys : Nat → Option V} {i : Nat} (h : YPair xs ys i w'.H v H') (ra : ∀ va, xs i = some va → PW' S w' a va) (rb : ∀ vb, ys i = some vb → PW' S w' b vb) : YOk S w' (.tup [a, b]) v H' := fun hh d => by
  obtain ⟨T, va, vb, rfl, nT, rfl, e1, e2⟩ := h
  exact ⟨w'.lock T (.tup [va, vb]), rfl, Step.lock d nT, d.lock nT, .tup (.inl (.inl upd_same)) (.cons ((Step.lock d nT).pr (ra va e1)) (.cons ((Step.lock d nT).pr (rb vb e2)) .nil))⟩
theorem si_enum {elts : List Expr} {kk : Nat} (hm : F.mg "enumerate" = none) (a : SA F [e] ma) (hg : ∀ i, Gl (F.X i) "enumerate" := by intro _; rfl) (hs : ∀ i, starEach [e] (F.X i).env = [(false, eval e (F.X i).env)] := by intro _; rfl) :
    SI F (.Tuple elts kk tpos) (.Call (.Name "enumerate" p) [e] [] pos) (itE ma) := by
  obtain ⟨t, pa, q⟩ := a
  refine ⟨fun W => MirE.iEnumA F.K (t W), fun i => MirE.pi_enumA (hg i) hm (pa i) (hs i), fun W w0 w env h σ R rl po => q W w0 w env h σ _ rl ?_⟩
  unfold itE at po
  cases em : ma env h with
  | no => rw [em] at po; exact po
  | er x h' => rw [em] at po; exact po
  | ok xs h' =>
    rw [em, Res.bind_ok] at po
    intro w' v s d r
    split at po
    · rename_i ys hx
      split at hx
      · rename_i zs
        cases hx
        cases r with | cons r1 r2 =>
        cases r2
        cases r1 with | @lst a _ vs sq rs =>
        refine ⟨a, vs, rfl, .inl ⟨d.sqL sq, po w' _ s d ⟨_, _, by unfold enumL; rw [List.length_mapIdx, rs.length]; exact walk_enum, fun w'' c => ?_, fun i w'' H' y u c e1 e2 => ?_⟩⟩⟩
        · obtain ⟨c1, hh, c2⟩ := c
          exact c2.sqL (sqL_mono c1.fz sq)
        · unfold enumL at e1
          rw [List.getElem?_mapIdx] at e1
          obtain ⟨z, g1, g2⟩ := Option.map_eq_some_iff.mp e1
          subst g2
          refine yok_pair e2 (fun va ea => by cases ea; exact .int _) fun vb eb => ?_
          obtain ⟨v', k1, k2⟩ := rs.get g1
          rw [eb] at k1
          cases k1
          exact c.1.pr k2
      · rename_i zs
        cases hx
        cases r with | cons r1 r2 =>
        cases r2
        cases r1 with | @tup a _ vs sq rs =>
        refine ⟨a, vs, rfl, .inr ⟨d.sqT sq, po w' _ s d ⟨_, _, by unfold enumL; rw [List.length_mapIdx, rs.length]; exact MirE.walk_enumT, fun w'' c => ?_, fun i w'' H' y u c e1 e2 => ?_⟩⟩⟩
        · obtain ⟨c1, hh, c2⟩ := c
          exact c2.sqT (sqT_mono c1.fz sq)
        · unfold enumL at e1
          rw [List.getElem?_mapIdx] at e1
          obtain ⟨z, g1, g2⟩ := Option.map_eq_some_iff.mp e1
          subst g2
          refine yok_pair e2 (fun va ea => by cases ea; exact .int _) fun vb eb => ?_
          obtain ⟨v', k1, k2⟩ := rs.get g1
          rw [eb] at k1
          cases k1
          exact c.1.pr k2
      · cases hx
    · rename_i hx
      split at hx <;> cases hx
    · exact po.elim
end
end Mir

set_option Elab.async false
set_option linter.all false
set_option maxRecDepth 100000
set_option maxHeartbeats 2000000
namespace Mir
open PySem PySem.Spec PyProof.Rows L2

/-! ### a list or a tuple, walked -/
def iSeq (K : PySem.W.Frag) (tl : TE) : TI := fun σ H R => tl σ H fun x H1 => ∃ a, x = .ref a ∧ (((∃ xs, SqL K H1 a xs) ∧ R (Itl K a) H1) ∨ ((∃ xs, SqT K H1 a xs) ∧ R (Itt K a) H1))
theorem pi_seq {X : Cx} {tg l : Expr} {tl : TE} (hl : PE X l tl) : PI X tg l (iSeq X.K tl) := by
  constructor
  intro pins s σ H R I h
  refine thn (hl.run pins s σ H _ I h) ?_
  rintro _ t ⟨_, H1, J, rel, a, rfl, kind⟩
  cases rel
  have J1 : ∀ o : Obj, Inv X pins σ H1 { t with heap := t.heap.push o } := fun o => J.kept (t' := t.toks) fun _ _ z => Heap.get?_push_of_some _ z
  have new : ∀ b ∈ [t.heap.objs.size], FpOk X pins H1 b := fun b hb => by
    rw [List.mem_singleton.mp hb]
    exact J.fpOk (Nat.le_refl _) (J.hok.fresh (Nat.le_refl _))
  rcases kind with ⟨⟨xs, sq⟩, r⟩ | ⟨⟨xs, sq⟩, r⟩
  · obtain ⟨its, _, isL, _⟩ := J.list sq
    apply wpAny_pyIter_list isL.isList
    exact ⟨_, [t.heap.objs.size], _, _, H1, rfl, J1 _, turn_list a _, ⟨_, Heap.get?_push_size _ rfl, rfl, rfl⟩, new, r⟩
  · obtain ⟨its, _, isT, _⟩ := J.tuple sq
    apply wpAny_pyIter_tuple isT
    exact ⟨_, [t.heap.objs.size], _, _, H1, rfl, J1 _, turn_tuple a _, ⟨_, Heap.get?_push_size _ rfl, rfl, rfl⟩, new, r⟩
def itS (m : ME) : MA := fun env h => (m env h).bind fun x h => match x with
  | .lst xs => .ok xs h
  | .tup xs => .ok xs h
  | _ => .no
section
variable {F : Fam} {e tg : Expr} {m : ME}
theorem si_seq (a : SE F e m) : SI F tg e (itS m) := by
  obtain ⟨t, p, q⟩ := a
  refine ⟨fun W => iSeq F.K (t W), fun i => pi_seq (p i), fun W w0 w env h σ R rl po => q W w0 w env h σ _ rl ?_⟩
  unfold itS at po
  cases em : m env h with
  | no => rw [em] at po; exact po
  | er x h' => rw [em] at po; exact po
  | ok x h' =>
    rw [em] at po
    intro w' v s d r
    cases r with
    | @lst a xs vs sq rs =>
      refine ⟨a, rfl, .inl ⟨⟨vs, d.sqL sq⟩, po w' _ s d ⟨_, _, by rw [rs.length]; exact walk_list, fun w'' c => ?_, fun i w'' H' y u c e1 e2 => yok_at rs c.1 e1 e2⟩⟩⟩
      obtain ⟨c1, hh, c2⟩ := c
      exact c2.sqL (sqL_mono c1.fz sq)
    | @tup a xs vs sq rs =>
      refine ⟨a, rfl, .inr ⟨⟨vs, d.sqT sq⟩, po w' _ s d ⟨_, _, by rw [rs.length]; exact walk_tup, fun w'' c => ?_, fun i w'' H' y u c e1 e2 => yok_at rs c.1 e1 e2⟩⟩⟩
      obtain ⟨c1, hh, c2⟩ := c
      exact c2.sqT (sqT_mono c1.fz sq)
    | _ => exact po.elim
end

/-! ### defs by name -/
structure DefAt (K : PySem.W.Frag) (mg : Str → Option Value) (x : Str) (st : Stmt) : Prop where
  ex : ∃ f fd, Fun K x x st f fd ∧ mg x = some (.ref f)
structure DefOk (P : Program) (w : World) (K : PySem.W.Frag) (mg : Str → Option Value) (base : Heap) (cA : Str → Option Addr) (k : Nat) (x : Str) (ps : List Str) (m : MF) : Prop where
  ex : ∃ f fd, FnOk P w K mg base (L2.CX P w) k f fd ps (spM ⟨K, cA, 0, none⟩ m) ∧ mg x = some (.ref f) ∧ PySem.W.keepIn K (.ref f) = true ∧ Binds K fd ps []
section
variable {P : Program} {w : World} {K : PySem.W.Frag} {mg : Str → Option Value} {base : Heap} {cA : Str → Option Addr} {k : Nat} {x : Str} {ps : List Str} {m m' : MF}
theorem DefOk.mirror (G : DefOk P w K mg base cA k x ps m) (h : ∀ args H, m' args H ≠ .no → m args H = m' args H) : DefOk P w K mg base cA k x ps m' := by
  obtain ⟨f, fd, g, r⟩ := G.ex
  exact ⟨f, fd, FnOk.mirror g h, r⟩
theorem defAt_mk {st : Stmt} {h : Heap} {f : Addr} {oc : Value} {od an : Option Addr} {osl : Array (Option Value)} {kV doc pm cdv ct : Value} (X : K.In h) (G : h.Ns mainGlobals mg) (a : PySem.W.nsIn K mainGlobals x = some (some (.ref f)))
    (l : K.lookup f = some ⟨oc, od, .func (PySem.W.fnOf x x (defArgs st) (defBody st) (defScope st) .none kV doc pm an cdv ct), osl⟩) (c : PySem.W.codeIn K cdv x = true) (kp : PySem.W.keepIn K (.ref f) = true) : DefAt K mg x st :=
  ⟨f, _, fun_mk l c kp, PySem.W.mg_of X G a⟩
theorem zero_ok {f : Addr} {fd : FuncData} : FnOk P w K mg base (L2.CX P w) k f fd ps (spM ⟨K, cA, 0, none⟩ fun _ _ => .no) :=
  ⟨fun _ _ _ _ ⟨_, _, _, _, _, _, po⟩ => po.elim, fun _ _ _ _ _ _ _ _ _ _ _ _ _ ⟨_, _, _, _, _, _, po⟩ => po.elim⟩
/-- the law -/
def spL (K : PySem.W.Frag) : Sp := fun vs H Q _ => ∃ (a : Addr) (ns : List Int), vs = [.ref a] ∧ SqL K H a (ns.map V.int) ∧ ns.length ≤ 63 ∧ ∀ H', Q (.bl true) H'
theorem law_ok {f : Addr} {fd : FuncData} (G : FnOk P w K mg base (L2.CX P w) k f fd ps (spM ⟨K, cA, 0, none⟩ m)) (h : ∀ ns : List Int, ns.length ≤ 63 → ∃ h', m [.lst (ns.map PV.int)] [] = .ok (.bl true) h') : FnOk P w K mg base (L2.CX P w) k f fd ps (spL K) :=
  FnOk.imp G fun vs H Q E ⟨a, ns, ev, hs, hl, q⟩ => by
    subst ev
    obtain ⟨h', e⟩ := h ns hl
    refine ⟨⟨H, H, []⟩, [], [.lst (ns.map PV.int)], rfl, ⟨fun _ _ e => e, rfl, List.nodup_nil, fun x hx => absurd hx (by simp), fun n o a e => by simp at e⟩, .cons (.lst hs (PRs.ints ns)) .nil, ?_⟩
    rw [e]
    intro w' v _ _ r
    cases r
    exact q _
theorem DefAt.ok {st : Stmt} (A : DefAt K mg x st) (g : ∀ f fd, Fun K x x st f fd → FnOk P w K mg base (L2.CX P w) k f fd ps (spM ⟨K, cA, 0, none⟩ m))
    (b : ∀ (kV doc pm : Value) (an : Option Addr) (cdv ct : Value) (us : List Value), us.length = ps.length → bindArgs (PySem.W.fnOf x x (defArgs st) (defBody st) (defScope st) .none kV doc pm an cdv ct) ⟨us, []⟩ = pure (ps.zip us)) : DefOk P w K mg base cA k x ps m := by
  obtain ⟨f, fd, Fn, e⟩ := A.ex
  exact ⟨f, fd, g f fd Fn, e, Fn.kp, Fn.binds b⟩
theorem law_mk {st : Stmt} {fa : Addr} (A : DefAt K mg x st) (hfa : mg x = some (.ref fa)) (b : ∀ (kV doc pm : Value) (an : Option Addr) (cdv ct u : Value), bindArgs (PySem.W.fnOf x x (defArgs st) (defBody st) (defScope st) .none kV doc pm an cdv ct) ⟨[u], []⟩ = pure [(("_law_script" : Str), u)])
    (g : ∀ base : Heap, K.In base → base.Ns mainGlobals mg → ∀ f fd, Fun K x x st f fd → FnOk P w K mg base (L2.CX P w) k f fd ["_law_script"] (spM ⟨K, cA, 0, none⟩ m))
    (h : ∀ ns : List Int, ns.length ≤ 63 → ∃ h', m [.lst (ns.map PV.int)] [] = .ok (.bl true) h') :
    ∃ fd : FuncData, (∀ (s : Shared) (u : Value), BindsTo s fd ⟨[u], []⟩ [(("_law_script" : Str), u)]) ∧ ∀ base : Heap, K.In base → base.Ns mainGlobals mg → FnOk P w K mg base (L2.CX P w) k fa fd ["_law_script"] (spL K) := by
  obtain ⟨f, fd, Fn, e⟩ := A.ex
  rw [hfa] at e
  cases e
  obtain ⟨oc, od, kV, doc, pm, an, cdv, ct, osl, rfl, lk, hcd⟩ := id Fn.ex
  exact ⟨_, fun s u => .of_eq (b kV doc pm an cdv ct u), fun base kb nb => law_ok (g base kb nb _ _ Fn) h⟩
end
section
variable {F : Fam} {e : Expr} {es : List Expr} {pos p : Pos} {mr : MA} {k : Nat} {x : Str} {ps : List Str} {mf : MF}
theorem se_fn (ok : F.Ok) (G : DefOk F.P F.w F.K F.mg F.base F.cA k x ps mf) (hk : k ≤ F.k) (ha : SA F (e :: es) mr) (hg : ∀ i, Gl (F.X i) x := by intro _; rfl) (hdb : (x == ("__debug__" : Str)) = false := by decide)
    (he : ∀ i, starEach (e :: es) (F.X i).env = (false, eval e (F.X i).env) :: starEach es (F.X i).env := by intro _; rfl) (hpl : ∀ i, (backTo pos (starEach es (F.X i).env)).any (·.1) = false := by intro _; rfl) :
    SE F (.Call (.Name x p) (e :: es) [] pos) (mCall mf mr) := by
  obtain ⟨f, fd, g, hm, kp, b⟩ := G.ex
  exact se_call ok g hk hm kp b ha hg hdb he hpl
theorem se_fn0 (ok : F.Ok) (G : DefOk F.P F.w F.K F.mg F.base F.cA k x ps mf) (hk : k ≤ F.k) (hg : ∀ i, Gl (F.X i) x := by intro _; rfl) (hdb : (x == ("__debug__" : Str)) = false := by decide) :
    SE F (.Call (.Name x p) [] [] pos) (mCall mf mNil) := by
  obtain ⟨f, fd, g, hm, kp, b⟩ := G.ex
  exact se_call0 ok g hk hm kp b hg hdb
end
end Mir

set_option Elab.async false
set_option linter.all false
set_option maxRecDepth 100000
set_option maxHeartbeats 1000000
/-! plain laws of the mirror's words -/
namespace Mir
open PySem
theorem lcL_eq {α : Type} {g : MG} {t : MT} {e : ME} {env : En} {h : Hh} (F : α → PV) (p : α → Bool) (f : α → PV) : ∀ (l : List α), (∀ a ∈ l, ∃ env2, g (F a) env = some env2 ∧ t env2 h = .ok (p a) h ∧ (p a = true → e env2 h = .ok (f a) h)) → lcL g t e env (l.map F) h = .ok ((l.filter p).map f) h
  | [], _ => rfl
  | a :: r, H => by
    obtain ⟨env2, h1, h2, h3⟩ := H a (by simp)
    have ih := lcL_eq (g := g) (t := t) (e := e) (env := env) (h := h) F p f r fun b hb => H b (by simp [hb])
    rw [List.map_cons]
    unfold lcL
    simp only [h1, h2]
    cases hp : p a with
    | true => simp only [h3 hp, ih, Res.bind_ok, List.filter_cons, hp, if_true, List.map_cons]
    | false => simp only [ih, List.filter_cons, hp, Bool.false_eq_true, if_false]
theorem forL_inv {α : Type} {g : MG} {b : MS} {h : Hh} (F : α → PV) (I : List α → En → Prop) : ∀ (l pre : List α), (∀ pre' a post, pre ++ l = pre' ++ a :: post → ∀ env, I pre' env → ∃ env1 env2, g (F a) env = some env1 ∧ b env1 h = .nx env2 h ∧ I (pre' ++ [a]) env2) →
    ∀ env, I pre env → ∃ env', forL g b (l.map F) env h = .nx env' h ∧ I (pre ++ l) env'
  | [], pre, _, env, i => ⟨env, rfl, by rw [List.append_nil]; exact i⟩
  | a :: r, pre, H, env, i => by
    obtain ⟨env1, env2, h1, h2, i2⟩ := H pre a r rfl env i
    obtain ⟨env', e1, i3⟩ := forL_inv (g := g) (b := b) (h := h) F I r (pre ++ [a]) (fun pre' a' post e => H pre' a' post (by rw [← e]; simp)) env2 i2
    refine ⟨env', ?_, by simpa using i3⟩
    rw [List.map_cons]
    unfold forL
    simp only [h1, h2]
    exact e1
theorem enumL_eq (xs : List PV) : enumL xs = (List.range xs.length).map fun i => PV.tup [.int (i : Nat), xs.getD i .non] := by
  unfold enumL
  refine List.ext_getElem? fun i => ?_
  rw [List.getElem?_mapIdx, List.getElem?_map]
  by_cases hi : i < xs.length
  · rw [List.getElem?_range hi]
    simp [hi]
  · have h1 : xs.length ≤ i := Nat.le_of_not_lt hi
    simp [h1]
theorem toDs_map {α : Type} (F : α → PV) (G : α → PyData) : ∀ (l : List α), (∀ a ∈ l, toD (F a) = some (G a)) → toDs (l.map F) = some (l.map G)
  | [], _ => rfl
  | a :: r, H => by
    rw [List.map_cons, toDs, H a (by simp), toDs_map F G r fun b hb => H b (by simp [hb])]
    rfl
/-- data that == takes: at most n deep -/
def lv : Nat → PV → Bool
  | _, .non => true
  | _, .bl _ => true
  | _, .int _ => true
  | _, .str s => PySem.PyData.canLay0 (.str s)
  | n + 1, .tup xs => xs.all (lv n)
  | n + 1, .lst xs => xs.all (lv n)
  | _, _ => false
mutual
theorem lv_ok : ∀ (n : Nat) (x : PV), lv n x = true → ∃ d, toD x = some d ∧ d.canLay0 = true ∧ d.depth ≤ n
  | n, .non, _ => ⟨_, by rw [toD], by rw [PyData.canLay0], by rw [PyData.depth]; omega⟩
  | n, .bl b, _ => ⟨_, by rw [toD], by rw [PyData.canLay0], by rw [PyData.depth]; omega⟩
  | n, .int i, _ => ⟨_, by rw [toD], by rw [PyData.canLay0], by rw [PyData.depth]; omega⟩
  | n, .str s, h => ⟨_, by rw [toD], by unfold lv at h; exact h, by rw [PyData.depth]; omega⟩
  | 0, .tup xs, h => by unfold lv at h; cases h
  | 0, .lst xs, h => by unfold lv at h; cases h
  | n + 1, .tup xs, h => by
    unfold lv at h
    obtain ⟨ds, e, c, dd⟩ := lvs_ok n xs h
    exact ⟨.tuple ds, by rw [toD, e]; rfl, by rw [PyData.canLay0]; exact c, by rw [PyData.depth]; omega⟩
  | n + 1, .lst xs, h => by
    unfold lv at h
    obtain ⟨ds, e, c, dd⟩ := lvs_ok n xs h
    exact ⟨.list ds, by rw [toD, e]; rfl, by rw [PyData.canLay0]; exact c, by rw [PyData.depth]; omega⟩
  | 0, .dct _ _, h => by unfold lv at h; cases h
  | 0, .ref _, h => by unfold lv at h; cases h
  | n + 1, .dct _ _, h => by unfold lv at h; cases h
  | n + 1, .ref _, h => by unfold lv at h; cases h
theorem lvs_ok : ∀ (n : Nat) (xs : List PV), xs.all (lv n) = true → ∃ ds, toDs xs = some ds ∧ PyData.canLayAll0 ds = true ∧ PyData.depthAll ds ≤ n
  | n, [], _ => ⟨[], rfl, rfl, by rw [PyData.depthAll]; omega⟩
  | n, x :: r, h => by
    rw [List.all_cons, Bool.and_eq_true] at h
    obtain ⟨d, e1, c1, d1⟩ := lv_ok n x h.1
    obtain ⟨ds, e2, c2, d2⟩ := lvs_ok n r h.2
    exact ⟨d :: ds, by rw [toDs, e1, e2], by rw [PyData.canLayAll0, c1, c2]; rfl, by rw [PyData.depthAll]; omega⟩
end
theorem lv_shaped {n : Nat} {x : PV} (h : lv n x = true) (hn : n ≤ 64) : ∃ d, toD x = some d ∧ SeqAt.shaped d = true ∧ PyData.eqv d d = true := by
  obtain ⟨d, e, c, dd⟩ := lv_ok n x h
  exact ⟨d, e, by unfold SeqAt.shaped; rw [c, decide_eq_true (by omega)]; rfl, SeqAt.eqv_refl d c⟩
theorem sEq_self (x : PV) : sEq x x = some true ∨ sEq x x = none := by
  cases x <;> simp [sEq]
/-- what is equal to itself -/
theorem oNe_self {n : Nat} {x : PV} (h : Hh) (hx : lv n x = true) (hn : n ≤ 64 := by decide) : oNe x x h = .ok (.bl false) h := by
  obtain ⟨d, e, s, rf⟩ := lv_shaped hx hn
  unfold oNe oEqG
  rcases sEq_self x with q | q
  · rw [q]; rfl
  · rw [q]
    simp only [e, s, Bool.and_self, if_true, rf, Bool.not_true]
theorem oEq_self {n : Nat} {x : PV} (h : Hh) (hx : lv n x = true) (hn : n ≤ 64 := by decide) : oEq x x h = .ok (.bl true) h := by
  obtain ⟨d, e, s, rf⟩ := lv_shaped hx hn
  unfold oEq oEqG
  rcases sEq_self x with q | q
  · rw [q]; rfl
  · rw [q]
    simp only [e, s, Bool.and_self, if_true, rf, Bool.false_eq_true, if_false]
theorem inP_ints (i : Int) : ∀ ns : List Int, inP (.int i) (ns.map PV.int) = ns.contains i
  | [] => rfl
  | n :: r => by
    have ih := inP_ints i r
    unfold inP at ih ⊢
    rw [List.map_cons, List.any_cons, ih, List.contains_cons]
    simp only [eqP]
    congr 1
    exact Bool.beq_comm
theorem flat_ints : ∀ ns : List Int, (ns.map PV.int).all flatP = true
  | [] => rfl
  | n :: r => by rw [List.map_cons, List.all_cons, flat_ints r]; rfl
theorem atI_nat' {α : Type} {xs : List α} {j : Nat} (h : j < xs.length) : L2.atI xs (j : Int) = some xs[j] := L2.atI_nat (List.getElem?_eq_getElem h)

/-! ### the words, applied -/
section
variable (m n : ME) (t u : MT) (ma : MA) (a b : MS) (env : En) (h : Hh) (x y : PV) (i : Nat) (f : PV → PV → Hh → Res PV) (f1 : PV → Hh → Res PV) (fc : List PV → Hh → Res PV) (fn : List PV → Hh → Res (List PV)) (g : MG) (gs : MGs)
@[simp] theorem aSeq : mSeq a b env h = (match a env h with | .nx env h => b env h | r => r) := id rfl
@[simp] theorem aSkip : mSkip env h = .nx env h := id rfl
@[simp] theorem aSet : mSet i m env h = ofE (m env h) env fun x h => .nx (env.set i (.v x)) h := id rfl
@[simp] theorem aSetN : mSetN i ma env h = ofE (ma env h) env fun xs h => .nx (env.set i (.own (.lst xs))) h := id rfl
@[simp] theorem aOp : mOp f m n env h = (m env h).bind fun x h => (n env h).bind fun y h => f x y h := id rfl
@[simp] theorem aUn : mUn f1 m env h = (m env h).bind fun x h => f1 x h := id rfl
@[simp] theorem aVar : mVar i env h = (match env[i]? with | some (.v x) => .ok x h | _ => .no) := id rfl
@[simp] theorem aOwn : mOwn i env h = (match env[i]? with | some (.v x) => .ok x h | some (.own (.lst xs)) => .ok (.lst xs) h | some (.own (.dct ks vs)) => .ok (.dct ks vs) h | _ => .no) := id rfl
@[simp] theorem aC : mC x env h = .ok x h := id rfl
@[simp] theorem aCall : mCall fc ma env h = (ma env h).bind fun xs h => fc xs h := id rfl
@[simp] theorem aCallN : mCallN fn ma env h = (ma env h).bind fun xs h => fn xs h := id rfl
@[simp] theorem aNil : mNil env h = .ok [] h := id rfl
@[simp] theorem aCons : mCons m ma env h = (m env h).bind fun x h => (ma env h).bind fun xs h => .ok (x :: xs) h := id rfl
@[simp] theorem aRet : mRet m env h = ofE (m env h) env fun x h => .rt x h := id rfl
@[simp] theorem aRetN : mRetN env h = .rt .non h := id rfl
@[simp] theorem aRetOwn : mRetOwn i env h = (match env[i]? with | some (.own (.lst xs)) => .rt (.lst xs) h | some (.v x) => .rt x h | _ => .no) := id rfl
@[simp] theorem aIfS : mIfS t a b env h = ofE (t env h) env fun c h => if c = true then a env h else b env h := id rfl
@[simp] theorem aToT : toT m env h = (m env h).bind fun x h => (match x with | .bl b => .ok b h | _ => .no) := id rfl
@[simp] theorem aToTru : toTru m env h = (m env h).bind fun x h => (match truP x with | some b => .ok b h | none => .no) := id rfl
@[simp] theorem aNotT : mNotT t env h = (t env h).bind fun b h => .ok (!b) h := id rfl
@[simp] theorem aAndT : mAndT t u env h = (t env h).bind fun b h => if b = true then u env h else .ok false h := id rfl
@[simp] theorem aOrT : mOrT t u env h = (t env h).bind fun b h => if b = true then .ok true h else u env h := id rfl
@[simp] theorem aAndV : mAndV m n env h = (m env h).bind fun x h => (match x with | .bl true => n env h | .bl false => .ok (.bl false) h | _ => .no) := id rfl
@[simp] theorem aOrV : mOrV m n env h = (m env h).bind fun x h => (match x with | .bl true => .ok (.bl true) h | .bl false => n env h | _ => .no) := id rfl
@[simp] theorem aNotV : mNotV m env h = (m env h).bind fun x h => (match x with | .bl b => .ok (.bl (!b)) h | _ => .no) := id rfl
@[simp] theorem aIf : mIf t m n env h = (t env h).bind fun b h => if b = true then m env h else n env h := id rfl
@[simp] theorem aTup : mTup ma env h = (ma env h).bind fun xs h => if xs.length ≤ 16777216 then .ok (.tup xs) h else .no := id rfl
@[simp] theorem aSzc : szc ma env h = (ma env h).bind fun xs h => if xs.length ≤ 16777216 then .ok xs h else .no := id rfl
@[simp] theorem aFz : mFz ma env h = (ma env h).bind fun xs h => .ok (.lst xs) h := id rfl
@[simp] theorem aOn : mOn env h = .ok none h := id rfl
@[simp] theorem aOs : mOs m env h = (m env h).bind fun x h => (match x with | .int i => .ok (some i) h | _ => .no) := id rfl
@[simp] theorem aSl (lo hi : MO) : mSl m lo hi env h = (m env h).bind fun x h => (lo env h).bind fun l h => (hi env h).bind fun u h => oSl x l u h := id rfl
@[simp] theorem aFor : mFor ma g b env h = ofE (ma env h) env fun xs h => forL g b xs env h := id rfl
@[simp] theorem aR1 : itR1 ma env h = (ma env h).bind fun xs h => (match xs with | [.int j] => if rngOk j = true then .ok (rngList 0 j.toNat) h else .no | _ => .no) := id rfl
@[simp] theorem aR2 : itR2 ma env h = (ma env h).bind fun xs h => (match xs with | [.int i, .int j] => if (rngOk i && rngOk j) = true then .ok (rngList i (j - i).toNat) h else .no | _ => .no) := id rfl
@[simp] theorem aItE : itE ma env h = (ma env h).bind fun xs h => (match xs with | [.lst ys] => .ok (enumL ys) h | [.tup ys] => .ok (enumL ys) h | _ => .no) := id rfl
@[simp] theorem aItS : itS m env h = (m env h).bind fun x h => (match x with | .lst xs => .ok xs h | .tup xs => .ok xs h | _ => .no) := id rfl
@[simp] theorem aItL : itL m env h = (m env h).bind fun x h => (match x with | .lst xs => .ok xs h | _ => .no) := id rfl
@[simp] theorem aLc (vs : List Nat) : mLc ma vs g t m env h = (ma env h).bind fun xs h => if xs.length ≤ 16777216 then lcL g t m (wipeE env vs) xs h else .no := id rfl
@[simp] theorem aYes : mYes env h = .ok true h := id rfl
@[simp] theorem aApp : mApp i m env h = (match env[i]? with | some (.own (.lst xs)) => ofE (m env h) env fun x h => if xs.length < 16777216 then .nx (env.set i (.own (.lst (xs ++ [x])))) h else .no | _ => .no) := id rfl
@[simp] theorem aDrop : mDrop m env h = ofE (m env h) env fun _ h => .nx env h := id rfl
@[simp] theorem aAsg : mAsg m g env h = ofE (m env h) env fun x h => (match g x env with | some env => .nx env h | none => .no) := id rfl
@[simp] theorem aBreak : mBreak env h = .bk env h := id rfl
@[simp] theorem aCont : mCont env h = .ct env h := id rfl
@[simp] theorem aGN : gN i x env = some (env.set i (.v x)) := id rfl
@[simp] theorem aGTu (k : Nat) (xs : List PV) : gTu k gs (.tup xs) env = if xs.length = k then gs xs env else none := id rfl
@[simp] theorem aGCs (xs : List PV) : gCs g gs (x :: xs) env = (g x env).bind fun env => gs xs env := id rfl
@[simp] theorem aGNl : gNl [] env = some env := id rfl
@[simp] theorem aW0 : wipeE env [] = env := id rfl
@[simp] theorem aW1 (vs : List Nat) : wipeE env (i :: vs) = (wipeE env vs).set i .un := id rfl
@[simp] theorem lenI (xs : List PV) : fLen [.lst xs] h = .ok (.int xs.length) h := id rfl
@[simp] theorem lenT (xs : List PV) : fLen [.tup xs] h = .ok (.int xs.length) h := id rfl
@[simp] theorem intI (j : Int) : fInt [.int j] h = .ok (.int j) h := id rfl
@[simp] theorem intB (b : Bool) : fInt [.bl b] h = .ok (.int (if b then 1 else 0)) h := id rfl
@[simp] theorem tupL (xs : List PV) : fTuple [.lst xs] h = .ok (.tup xs) h := id rfl
@[simp] theorem tupT (xs : List PV) : fTuple [.tup xs] h = .ok (.tup xs) h := id rfl
@[simp] theorem listL (xs : List PV) : fList [.lst xs] h = .ok xs h := id rfl
@[simp] theorem listT (xs : List PV) : fList [.tup xs] h = .ok xs h := id rfl
@[simp] theorem addI (i j : Int) : oAdd (.int i) (.int j) h = .ok (.int (i + j)) h := id rfl
@[simp] theorem subI (i j : Int) : oSub (.int i) (.int j) h = .ok (.int (i - j)) h := id rfl
@[simp] theorem ltI (i j : Int) : oLt (.int i) (.int j) h = .ok (.bl (decide (i < j))) h := id rfl
@[simp] theorem leI (i j : Int) : oLe (.int i) (.int j) h = .ok (.bl (decide (i ≤ j))) h := id rfl
@[simp] theorem gtI (i j : Int) : oGt (.int i) (.int j) h = .ok (.bl (decide (j < i))) h := id rfl
@[simp] theorem geI (i j : Int) : oGe (.int i) (.int j) h = .ok (.bl (decide (j ≤ i))) h := id rfl
@[simp] theorem eqI (i j : Int) : oEq (.int i) (.int j) h = .ok (.bl (decide (i = j))) h := id rfl
@[simp] theorem neI (i j : Int) : oNe (.int i) (.int j) h = .ok (.bl (!decide (i = j))) h := id rfl
@[simp] theorem oIs_non : oIs x .non h = .ok (.bl (isNon x)) h := id rfl
@[simp] theorem oIsNot_non : oIsNot x .non h = .ok (.bl (!isNon x)) h := id rfl
@[simp] theorem isNon1 : isNon .non = true := id rfl
@[simp] theorem isNon2 (j : Int) : isNon (.int j) = false := id rfl
@[simp] theorem isNon3 (xs : List PV) : isNon (.tup xs) = false := id rfl
@[simp] theorem isNon4 (xs : List PV) : isNon (.lst xs) = false := id rfl
@[simp] theorem truB (b : Bool) : truP (.bl b) = some b := id rfl
@[simp] theorem truI (j : Int) : truP (.int j) = some (j != 0) := id rfl
@[simp] theorem truL (xs : List PV) : truP (.lst xs) = some (!xs.isEmpty) := id rfl
@[simp] theorem truT (xs : List PV) : truP (.tup xs) = some (!xs.isEmpty) := id rfl
@[simp] theorem max2I (i j : Int) : fMax2 [.int i, .int j] h = .ok (.int (if j > i then j else i)) h := id rfl
@[simp] theorem min2I (i j : Int) : fMin2 [.int i, .int j] h = .ok (.int (if j < i then j else i)) h := id rfl
@[simp] theorem absI (i : Int) : fAbs [.int i] h = .ok (.int (if i < 0 then -i else i)) h := id rfl
end
theorem mulI {i j : Int} (h : Hh) (c : mulOk i j = true) : oMul (.int i) (.int j) h = .ok (.int (i * j)) h := by simp [oMul, oI, c]
theorem mulOk_r {i j : Int} (c : j.natAbs < 2 ^ 64) : mulOk i j = true := by unfold mulOk; rw [decide_eq_true c]; simp
theorem mulOk_l {i j : Int} (c : i.natAbs < 2 ^ 64) : mulOk i j = true := by unfold mulOk; rw [decide_eq_true c]; simp
theorem modI {i j : Int} (h : Hh) (c : 0 < j) : oMod (.int i) (.int j) h = .ok (.int (i % j)) h := by simp [oMod, oI, c]
theorem divI {i j : Int} (h : Hh) (c : divOk j = true) : oDiv (.int i) (.int j) h = .ok (.int (i / j)) h := by simp [oDiv, oI, c]
theorem divOk_of {j : Int} (h : 0 < j) (h2 : j < 2 ^ 62) : divOk j = true := by
  unfold divOk
  have : j.natAbs.log2 < 9000 := by
    have h3 : j.natAbs < 2 ^ 62 := by omega
    have h4 : j.natAbs ≠ 0 := by omega
    have := (Nat.log2_lt h4).mpr h3
    omega
  rw [decide_eq_true h, decide_eq_true this]; rfl
theorem ixL {xs : List PV} {i : Int} {x : PV} (h : Hh) (e : L2.atI xs i = some x) : oIx (.lst xs) (.int i) h = .ok x h := by simp [oIx, e]
theorem ixT {xs : List PV} {i : Int} {x : PV} (h : Hh) (e : L2.atI xs i = some x) : oIx (.tup xs) (.int i) h = .ok x h := by simp [oIx, e]
theorem rngOk_of {i : Int} (h : -(2 ^ 62) ≤ i) (h2 : i < 2 ^ 62) : rngOk i = true := by unfold rngOk; rw [decide_eq_true h, decide_eq_true h2]; rfl
theorem rng_nat (n : Nat) : rngList 0 n = (List.range n).map fun (i : Nat) => PV.int (i : Int) := by
  unfold rngList
  simp
end Mir

set_option Elab.async false
set_option linter.all false
set_option maxRecDepth 100000
set_option maxHeartbeats 4000000
namespace Mir
open PySem PySem.Spec PyProof.Rows L2

/-! ### what is never reached -/
def mNever : MS := fun _ _ => .no
def mNeverE : ME := fun _ _ => .no
theorem ss_never {F : Fam} {st : Stmt} : SS F st mNever := ⟨fun _ _ _ _ => False, fun i => ⟨fun _ _ _ _ _ _ h => h.elim⟩, fun W w0 w env h σ D rl po => po⟩
theorem se_never {F : Fam} {e : Expr} : SE F e mNeverE := ⟨fun _ _ _ _ => False, fun i => ⟨fun _ _ _ _ _ _ h => h.elim⟩, fun W w0 w env h σ Q rl po => po⟩

/-! ### tuple * int, where nothing is laid anew or the new one is empty -/
/-- the tuple's object -/
abbrev tupObj (dd : Option Addr) (items : Array Value) (n : Nat) (sl : Array (Option Value)) : Obj := ⟨.type "tuple", dd, .seq items n, sl⟩
theorem small_index {x : Int} (h : x.natAbs ≤ 1000000) : ¬ (decide (x < -(2 ^ 63)) || decide (x ≥ 2 ^ 63)) = true := by
  simp only [Bool.or_eq_true, decide_eq_true_eq, not_or]
  omega
/-- itself: an empty tuple, or once -/
theorem mulSelf {l : Addr} {items : Array Value} {n : Nat} {dd : Option Addr} {sl : Array (Option Value)} {x : Int} {u : Tok} (fit : x.natAbs ≤ 1000000) (self : (items.isEmpty || x == 1) = true) :
    Meets (Builtin.«tuple.__mul__» ⟨[.ref l, .int x u], []⟩) fun _ post s => s.heap.get? l = some (tupObj dd items n sl) ∧ post (.ok (.ret (Value.ref l))) s := by
  refine .of_wp ?_
  rintro prog w A post ⟨m, gl, dp, tk, ou⟩ ⟨at_l, fin⟩
  have idx := AutoSeq1.idx_int
  have fit1 := small_index fit
  wp_walk using AutoSeq1.wpAny_loadPart' at_l
  repeat' first
    | exact ⟨_, rfl, fin⟩
    | (refine wpAny_ite_false (by simpa using fit1) ?_; wp_walk using AutoSeq1.wpAny_loadPart' at_l)
    | (refine wpAny_ite_true (by simpa using self) ?_; wp_walk using AutoSeq1.wpAny_loadPart' at_l)
/-- none of it -/
theorem mulNone {l : Addr} {items : Array Value} {n : Nat} {dd : Option Addr} {sl : Array (Option Value)} {x : Int} {u : Tok} (fit : x.natAbs ≤ 1000000) (full : items.isEmpty = false) (none_ : x ≤ 0) :
    Meets (Builtin.«tuple.__mul__» ⟨[.ref l, .int x u], []⟩) fun _ post s => s.heap.get? l = some (tupObj dd items n sl) ∧
      post (.ok (.ret (Value.ref s.heap.objs.size))) { s with heap := s.heap.push ⟨.type "tuple", none, .seq #[], #[]⟩ } := by
  refine .of_wp ?_
  rintro prog w A post ⟨m, gl, dp, tk, ou⟩ ⟨at_l, fin⟩
  have idx := AutoSeq1.idx_int
  have fit1 := small_index fit
  have once : ¬ (items.isEmpty || x == 1) = true := by
    rw [full, Bool.false_or, beq_iff_eq]
    omega
  have zero : (decide (x ≤ 0) || items.isEmpty) = true := by simp [none_]
  wp_walk using AutoSeq1.wpAny_loadPart' at_l
  repeat' first
    | exact ⟨_, rfl, fin⟩
    | (refine wpAny_ite_false (by simpa using fit1) ?_; wp_walk using AutoSeq1.wpAny_loadPart' at_l)
    | (refine wpAny_ite_false (by simpa using once) ?_; wp_walk using AutoSeq1.wpAny_loadPart' at_l)
    | (refine wpAny_ite_true (by simpa using zero) ?_; wp_walk using AutoSeq1.wpAny_loadPart' at_l)
def rRep1 (K : PySem.W.Frag) : R2 := fun x y H Q => ∃ l k xs, x = .ref l ∧ y = .int k ∧ SqT K H l xs ∧ (xs = [] ∨ k = 1) ∧ k.natAbs ≤ 1000000 ∧ Q (.ref l) H
def rRep0 (K : PySem.W.Frag) : R2 := fun x y H Q => ∃ l k xs, x = .ref l ∧ y = .int k ∧ SqT K H l xs ∧ xs ≠ [] ∧ k ≤ 0 ∧ k.natAbs ≤ 1000000 ∧ ∀ p, H p = none → Q (.ref p) (upd H p (.tup []))
section
variable {X : Cx}
/-- `t * k` is what tuple.__mul__ leaves -/
theorem mul_by {s : Shared} {l : Addr} {dd : Option Addr} {items : Array Value} {n : Nat} {sl : Array (Option Value)} {k : Int} {t : Tok} {E Q : Value → Shared → Prop} (at_l : s.heap.get? l = some (tupObj dd items n sl))
    (run : wpAny (model X.prog X.w) X.A (call (.builtin "tuple.__mul__") [.ref l, .int k t]) Q E s) : wpAny (model X.prog X.w) X.A (binaryOp .Mult (.ref l) (.int k t)) Q E s := by
  have isT : s.TypeIs (.ref l) "tuple" := ⟨_, at_l, rfl⟩
  have isI : ∀ s' : Shared, s'.TypeIs (.int k t) "int" := fun s' => typeIs_int s' k t
  have rmul := int_rmul_tuple k t l items n dd sl
  exact wpAny_binaryOp_repeat_ref (by decide) isT isI noFill_tuple_mul F.fills_int_mul F.slot_int_rmul repeat_tuple F.slot_int_index.lookup
    (call_meets F.slot_int_rmul (isI s) F.entry_int_rmul (F.args_int_rmul_2 _ _) rmul ⟨at_l, rfl, isT, run⟩)
theorem op_rep1 : OpR X (binaryOp .Mult) (rRep1 X.K) := by
  rintro pins s σ H _ _ v u Q I rx ry ⟨l, k, xs, rfl, rfl, sq, self, fit, q⟩
  obtain ⟨t, rfl⟩ := ry
  cases rx
  obtain ⟨its, rv, ⟨ob, at_l, isT, n, dat⟩, _⟩ := I.tuple sq
  cases ob
  cases isT
  cases dat
  refine mul_by at_l (call_meets F.slot_tuple_mul ⟨_, at_l, rfl⟩ F.entry_tuple_mul (F.args_tuple_mul_2 _ _) (mulSelf fit ?_) ⟨at_l, .ref l, H, I, rfl, q⟩)
  rcases self with rfl | rfl
  · cases rv
    rfl
  · rw [beq_self_eq_true, Bool.or_true]
theorem op_rep0 : OpR X (binaryOp .Mult) (rRep0 X.K) := by
  rintro pins s σ H _ _ v u Q I rx ry ⟨l, k, xs, rfl, rfl, sq, full, neg, fit, q⟩
  obtain ⟨t, rfl⟩ := ry
  cases rx
  obtain ⟨its, rv, ⟨ob, at_l, isT, n, dat⟩, _⟩ := I.tuple sq
  cases ob
  cases isT
  cases dat
  have full1 : its.toArray.isEmpty = false := by
    cases rv with
    | nil => exact absurd rfl full
    | cons _ _ => rfl
  have new : ObjOk X.prog X.w (upd H s.heap.objs.size (.tup [])) (s.heap.push ⟨.type "tuple", none, .seq #[], #[]⟩) s.heap.objs.size (.tup []) :=
    ⟨Nat.zero_le _, [], .nil, IsTup.new _ _⟩
  have I2 := I.laid (t' := s.toks) (o := .tup []) (fun b ob z => Heap.get?_push_of_some _ z) (Nat.le_refl _) new
  exact mul_by at_l (call_meets F.slot_tuple_mul ⟨_, at_l, rfl⟩ F.entry_tuple_mul (F.args_tuple_mul_2 _ _) (mulNone fit full1 neg)
    ⟨at_l, .ref s.heap.objs.size, _, I2, rfl, q _ (I.hok.fresh (Nat.le_refl _))⟩)
end
def repOk (xs : List PV) (k : Int) : Bool := decide (k.natAbs ≤ 1000000) && (decide (k ≤ 1) || xs.isEmpty || (decide (k ≤ 1000) && decide (xs.length ≤ 1000)))
def repP (xs : List PV) (k : Int) : List PV := (List.replicate k.toNat xs).flatten
def oMulA : PV → PV → Hh → Res PV := fun x y h => match x, y with
  | .tup xs, .int k => if repOk xs k = true then .ok (.tup (repP xs k)) h else .no
  | x, y => oMul x y h
theorem PRs.flat {K : PySem.W.Frag} {Φ : Hp} {ad : List Addr} {xs : List PV} {vs : List V} (r : PRs K Φ ad xs vs) : ∀ n : Nat, PRs K Φ ad (List.replicate n xs).flatten (List.replicate n vs).flatten
  | 0 => .nil
  | n + 1 => by
    rw [List.replicate_succ, List.replicate_succ, List.flatten_cons, List.flatten_cons]
    exact r.append (PRs.flat r n)
def rMulA (K : PySem.W.Frag) : R2 := fun x y H Q => rI CMulA (fun i j => .int (i * j)) x y H Q ∨ (rRepT K x y H Q ∨ (rRep1 K x y H Q ∨ rRep0 K x y H Q))
theorem flat_nil {α : Type} : ∀ n : Nat, (List.replicate n ([] : List α)).flatten = []
  | 0 => rfl
  | n + 1 => by rw [List.replicate_succ, List.flatten_cons, flat_nil n]; rfl
theorem sim_mulA {S : Sx} : Sim2 S (rMulA S.K) oMulA := by
  intro W σ w h x y v u Q d px py po
  unfold oMulA at po
  split at po
  · rename_i xs k
    split at po
    · rename_i hc
      obtain ⟨a, vs, rfl, ha, ra⟩ := px.ofTup d
      unfold repOk at hc
      simp only [Bool.and_eq_true, Bool.or_eq_true, decide_eq_true_eq, List.isEmpty_iff] at hc
      obtain ⟨hk, hc⟩ := hc
      by_cases he : xs = []
      · have hv : vs = [] := ra.nil_iff.mpr he
        refine .inr (.inr (.inl ⟨a, k, vs, rfl, py.ofInt, ha, .inl hv, hk, po.fin d ?_⟩))
        have e : repP xs k = xs := by unfold repP; rw [he, flat_nil]
        rw [e]
        rcases px with ⟨z⟩
        exact z
      · have hv : vs ≠ [] := fun z => he (ra.nil_iff.mp z)
        by_cases h0 : k ≤ 0
        · refine .inr (.inr (.inr ⟨a, k, vs, rfl, py.ofInt, ha, hv, h0, hk, fun p np => ?_⟩))
          have e : repP xs k = [] := by unfold repP; rw [Int.toNat_of_nonpos h0]; rfl
          rw [e] at po
          exact po (w.lock p (.tup [])) (.ref p) (Step.lock d np) (d.lock np) (.tup (.inl (.inl upd_same)) .nil)
        · by_cases h1 : k = 1
          · refine .inr (.inr (.inl ⟨a, k, vs, rfl, py.ofInt, ha, .inr h1, hk, po.fin d ?_⟩))
            have e : repP xs k = xs := by unfold repP; rw [h1]; simp
            rw [e]
            rcases px with ⟨z⟩
            exact z
          · have hz : k ≤ 1000 ∧ xs.length ≤ 1000 := by
              rcases hc with (hc | hc) | hc
              · omega
              · exact absurd hc he
              · exact hc
            refine .inr (.inl ⟨a, k, vs, rfl, py.ofInt, ha, hv, by omega, hz.1, by rw [← ra.length]; exact hz.2, fun p np => ?_⟩)
            exact po (w.lock p (.tup (List.replicate k.toNat vs).flatten)) (.ref p) (Step.lock d np) (d.lock np) (.tup (.inl (.inl upd_same)) (((Step.lock d np).prs ra).flat _))
    · exact po.elim
  · exact .inl (sim_I (S := S) (C := CMulA) (fun _ _ h => h) (fun _ _ _ => .int _) W σ w h x y v u Q d px py po)
theorem se_mulA {F : Fam} {ea eb : Expr} {pos : Pos} {ma mb : ME} (ha : SB F ea ma) (hb : SB F eb mb) : SE F (.BinOp ea .Mult eb pos) (mOp oMulA ma mb) :=
  se_op sim_mulA (fun i => (op_mulA (X := F.X i)).or (op_repT.or (op_rep1.or op_rep0))) ha hb

/-! ### isinstance of plain data -/
inductive Kd where
  | non | bool | int | str | tuple | list | dict
  deriving DecidableEq
def Kd.nm : Kd → String
  | .non => "NoneType" | .bool => "bool" | .int => "int" | .str => "str" | .tuple => "tuple" | .list => "list" | .dict => "dict"
def kdP : PV → Option Kd
  | .non => some .non | .bl _ => some .bool | .int _ => some .int | .str _ => some .str | .tup _ => some .tuple | .lst _ => some .list | .dct _ _ => some .dict | .ref _ => none
def isKd : Kd → Kd → Bool
  | .bool, .int => true
  | .non, .non => true | .bool, .bool => true | .int, .int => true | .str, .str => true | .tuple, .tuple => true | .list, .list => true | .dict, .dict => true
  | _, _ => false
theorem isKd_ok : ∀ a b : Kd, kitB a.nm b.nm = some (isKd a b) := by
  intro a b
  cases a <;> cases b <;> decide +kernel
theorem tyx_lst {K : PySem.W.Frag} {H : Hp} {a : Addr} {xs : List V} (h : SqL K H a xs) : TyX K H (.ref a) (.type "list") := by
  rcases h with (h | ⟨o, h⟩) | ⟨o, its, n, h1, h2, _⟩
  · exact .base (.lst h)
  · exact .base (.frz h)
  · exact .kList h1 h2
theorem tyx_tup {K : PySem.W.Frag} {H : Hp} {a : Addr} {xs : List V} (h : SqT K H a xs) : TyX K H (.ref a) (.type "tuple") := by
  rcases h with (h | ⟨o, h⟩) | ⟨o, its, n, h1, h2, _⟩
  · exact .base (.tup h)
  · exact .fTuple h
  · exact .kTuple h1 h2
theorem tyx_dct {K : PySem.W.Frag} {H : Hp} {a : Addr} {kvs : List (Key × V)} (h : Rd H a (.dK kvs)) : TyX K H (.ref a) (.type "dict") := by
  rcases h with h | ⟨o, h⟩
  · exact .base (.dK h)
  · exact .fDict h
theorem kd_tyx {S : Sx} {w : Wd} {h : Hh} {x : PV} {v : V} {k : Kd} (d : Hd S w h) (p : PB0 S w x v) (e : kdP x = some k) : TyX S.K w.H v (.type k.nm) := by
  cases x with
  | non => cases e; rw [p.ofNon]; exact .base .non
  | bl b => cases e; rw [p.ofBl]; exact .base (.bl b)
  | int i => cases e; rw [p.ofInt]; exact .base (.int i)
  | str s => cases e; rw [p.ofStr]; exact .base (.str s)
  | tup xs => cases e; obtain ⟨a, vs, rfl, ha, _⟩ := p.ofTup d; exact tyx_tup ha
  | lst xs => cases e; obtain ⟨a, vs, rfl, ha, _⟩ := p.ofLst d; exact tyx_lst ha
  | dct ks xs => cases e; obtain ⟨a, vs, rfl, _, ha, _⟩ := p.ofDct d; exact tyx_dct ha
  | ref n => cases e
def mIsi (k : Kd) (m : ME) : ME := fun env h => (m env h).bind fun x h => match kdP x with
  | some a => .ok (.bl (isKd a k)) h
  | none => .no
section
variable {F : Fam} {e ea eb ec : Expr} {es rest : List Expr} {pos p p2 p3 : Pos} {m ma mb : ME} {mt : MT} {mr : MA}
theorem se_isi (k : Kd) {x : Str} (hm : F.mg "isinstance" = none) (hm2 : F.mg x = none) (ha : SB F e m) (hv : bootBuiltins x = some (.type k.nm) := by decide +kernel) (hg : ∀ i, Gl (F.X i) "isinstance" := by intro _; rfl) (hg2 : ∀ i, Gl (F.X i) x := by intro _; rfl)
    (hn : x ≠ "__name__" := by decide) (hdb : (x == ("__debug__" : Str)) = false := by decide)
    (he : ∀ i, starEach [e, .Name x p2] (F.X i).env = (false, eval e (F.X i).env) :: starEach [.Name x p2] (F.X i).env := by intro _; rfl) (he2 : ∀ i, starEach [.Name x p2] (F.X i).env = (false, eval (.Name x p2) (F.X i).env) :: starEach [] (F.X i).env := by intro _; rfl) (hpl : ∀ i, (backTo pos (starEach [.Name x p2] (F.X i).env)).any (·.1) = false := by intro _; rfl) :
    SE F (.Call (.Name "isinstance" p) [e, .Name x p2] [] pos) (mIsi k m) := by
  obtain ⟨t, pa, q⟩ := ha
  refine ⟨fun W => tCB (rIsi F.K) (tCons (t W) (tCons (tC (.ty k.nm)) tNil)), fun i => pe_callB (X := F.X i) call_isi (hg i) hm (by decide +kernel) (pa_cons (pa i) (pa_cons (pe_bltn (hg2 i) hm2 hv rfl hn hdb) pa_nil (he2 i)) (he i)) (by decide) (by decide) (he i) (hpl i), fun W w0 w env h σ Q rl po => ?_⟩
  refine q W w0 w env h σ _ rl (PostE.bind po fun x h1 w1 v s1 d1 p1 po1 => ?_)
  split at po1
  · rename_i a ek
    exact ⟨v, .ty k.nm, _, _, _, rfl, .ty _, kd_tyx d1 p1.z ek, kit_ty (isKd_ok a k), po1.fin d1 (.bl _)⟩
  · exact po1.elim

/-! ### x.bit_length(), isqrt(x) -/
def bitsP (i : Int) : Int := (Builtin.Int.intBits i : Nat)
def oBits : PV → Hh → Res PV := fun x h => match x with
  | .int i => .ok (.int (bitsP i)) h
  | _ => .no
theorem se_bits {apos : Pos} (ha : SB F e m) (hbase : ∀ i, attributeBase e "bit_length" (F.X i).env (eval e (F.X i).env) = eval e (F.X i).env := by intro _; rfl) (hline : (apos.endLine == pos.line) = true := by rfl) : SE F (.Call (.Attribute e "bit_length" apos) [] [] pos) (mUn oBits m) := by
  obtain ⟨t, pa, q⟩ := ha
  refine ⟨fun W => tBits (t W), fun i => pe_bits (X := F.X i) (pa i) (hbase i) hline, fun W w0 w env h σ Q rl po => q W w0 w env h σ _ rl (PostE.bind po fun x h1 w1 v s1 d1 p1 po1 => ?_)⟩
  unfold oBits at po1
  split at po1
  · exact ⟨_, p1.ofInt, po1.fin d1 (.int _)⟩
  · exact po1.elim
def isqrtP (i : Int) : Int := (Float64.isqrt i.toNat : Nat)
def fIsqrt : List PV → Hh → Res PV := fun xs h => match xs with
  | [.int i] => if (decide (0 ≤ i) && decide (i.toNat.log2 < 10000)) = true then .ok (.int (isqrtP i)) h else .no
  | _ => .no
theorem call_isqrt {X : Cx} : CallR X (.builtin "math.isqrt") fun xs H Q => ∃ i : Int, xs = [.int i] ∧ 0 ≤ i ∧ i.toNat.log2 < 10000 ∧ Q (.int (isqrtP i)) H := by
  intro pins s σ H xs us Q I r h
  obtain ⟨i, rfl, h0, h1, q⟩ := h
  cases r with | cons r rr =>
  cases rr
  obtain ⟨t, rfl⟩ := r
  exact call_function_meets PySem.W.MGF.kind_isqrt PySem.W.MGF.plain_isqrt PySem.W.MGF.entry_isqrt (PySem.W.MGF.args_isqrt _) (PySem.W.mg_run_isqrt i t (by omega) (by omega) (by omega)).meets ⟨.int _, H, I.tok _, ⟨_, rfl⟩, q⟩
theorem se_isqrt {x : Str} (hm : F.mg x = some (.builtin "math.isqrt")) (ha : SAB F [e] mr) (hg : ∀ i, Gl (F.X i) x := by intro _; rfl) (hdb : (x == ("__debug__" : Str)) = false := by decide)
    (he : ∀ i, starEach [e] (F.X i).env = (false, eval e (F.X i).env) :: starEach [] (F.X i).env := by intro _; rfl) : SE F (.Call (.Name x p) [e] [] pos) (mCall fIsqrt mr) := by
  obtain ⟨t, pa, q⟩ := ha
  refine ⟨fun W => tCB _ (t W), fun i => StS.pe_callG (X := F.X i) call_isqrt (hg i) hm (pa i) hdb (he i), fun W => rd_call (fun W σ w h xs vs Q d px po => ?_) (q W)⟩
  unfold fIsqrt at po
  split at po
  · split at po
    · rename_i i hc
      simp only [Bool.and_eq_true, decide_eq_true_eq] at hc
      obtain ⟨v, rfl, p1⟩ := px.one
      rw [p1.ofInt]; exact ⟨_, rfl, hc.1, hc.2, po.fin d (.int _)⟩
    · exact po.elim
  · exact po.elim

/-! ### range(a, b, c) -/
def rng3Ok (i j c : Int) : Bool := decide (c ≠ 0) && decide (c.natAbs < 1073741824) && Builtin.Range.small i j c && decide (0 ≤ Builtin.Range.rangeSize i j c)
def rngC (i c : Int) (n : Nat) : List PV := (List.range n).map fun k => PV.int (i + (k : Nat) * c)
theorem rngC_get {lo c : Int} {n i : Nat} {x : PV} (h : (rngC lo c n)[i]? = some x) : x = .int (lo + (i : Nat) * c) := by
  unfold rngC at h
  rw [List.getElem?_map] at h
  obtain ⟨j, h1, h2⟩ := Option.map_eq_some_iff.mp h
  rw [List.getElem?_eq_some_iff] at h1
  obtain ⟨h3, h4⟩ := h1
  rw [List.getElem_range] at h4
  subst h4
  exact h2.symm
theorem rngC_len (lo c : Int) (n : Nat) : (rngC lo c n).length = n := by unfold rngC; simp
def itR3 (m : MA) : MA := fun env h => (m env h).bind fun xs h => match xs with
  | [.int i, .int j, .int c] => if rng3Ok i j c = true then .ok (rngC i c (Builtin.Range.rangeSize i j c).toNat) h else .no
  | _ => .no
theorem si_range3 {tg : Expr} {ma : MA} (hm : F.mg "range" = none) (a : SA F [ea, eb, ec] ma) (hg : ∀ i, Gl (F.X i) "range" := by intro _; rfl) (hs : ∀ i, starEach [ea, eb, ec] (F.X i).env = (false, eval ea (F.X i).env) :: starEach [eb, ec] (F.X i).env := by intro _; rfl)
    (hpl : ∀ i, (backTo pos (starEach [eb, ec] (F.X i).env)).any (·.1) = false := by intro _; rfl) : SI F tg (.Call (.Name "range" p) [ea, eb, ec] [] pos) (itR3 ma) := by
  obtain ⟨t, pa, q⟩ := a
  refine ⟨fun W => iRng3 (t W), fun i => pi_range3 (hg i) hm (pa i) (hs i) (hpl i), fun W w0 w env h σ R rl po => q W w0 w env h σ _ rl ?_⟩
  unfold itR3 at po
  cases em : ma env h with
  | no => rw [em] at po; exact po
  | er x h' => rw [em] at po; exact po
  | ok xs h' =>
    rw [em, Res.bind_ok] at po
    intro w' v s d r
    match xs, r, po with
    | [.int i, .int j, .int c], r, po =>
      simp only at po
      cases hc : rng3Ok i j c with
      | false => simp only [hc, Bool.false_eq_true, if_false] at po
      | true =>
        simp only [hc, if_true] at po
        unfold rng3Ok at hc
        simp only [Bool.and_eq_true, decide_eq_true_eq] at hc
        cases r with | cons r1 r2 =>
        cases r2 with | cons r2 r3 =>
        cases r3 with | cons r3 r4 =>
        cases r1; cases r2; cases r3
        cases r4
        exact ⟨i, j, c, _, rfl, ⟨hc.1.1.1, hc.1.1.2, hc.1.2, (Int.toNat_of_nonneg hc.2).symm⟩, po w' _ s d ⟨_, _, by rw [rngC_len]; exact walk_rangeC, fun _ _ => trivial, fun i w'' H' y u c e1 e2 => yok_fn e2 (by rw [rngC_get e1]; exact .int _)⟩⟩
    | [], _, po => exact po.elim
    | [_], _, po => simp at po
    | [_, _], _, po => simp at po
    | _ :: _ :: _ :: _ :: _, _, po => simp at po
/-! ### x += e -/
def mAug (i : Nat) (f : Int → Int → Int) (m : ME) : MS := fun env h => match env[i]? with
  | some (.v (.int a)) => ofE (m env h) env fun y h => match y with
    | .int b => .nx (env.set i (.v (.int (f a b)))) h
    | _ => .no
  | _ => .no
theorem rd_aug {S : Sx} {W : WX} {te : TE} (i : Nat) (f : Int → Int → Int) {m : ME} (q : RdG S (RBo S) W te m) : RdS S W (tAug i te (ipI f)) (mAug i f m) := by
  intro w0 w env h σ D rl po
  unfold mAug at po
  split at po
  · rename_i a e
    obtain ⟨v, e1, pr⟩ := rl.sl.slot i _ e
    cases pr
    refine ⟨_, e1, q w0 w env h σ _ rl (PostS.ofE rl po fun y h1 w1 u s d r p1 => ?_)⟩
    split at p1
    · exact ⟨a, _, rfl, r.ofInt, p1 w1 _ (Ext.refl w1) ((rl.step s d).set i (.int _))⟩
    · exact p1.elim
  · exact po.elim
section
variable {F : Fam} {e : Expr} {pos pos' : Pos} {m : ME}
theorem ss_augAdd (i : Nat) {x : Str} (ok : F.Ok) (a : SB F e m) (hi : F.N[i]? = some x := by rfl) (hx : ∀ j, Loc (F.env j).scope x := by first | exact fun _ => Or.inl rfl | exact fun _ => Or.inr rfl)
    (hf : ∀ j, (F.X j).fn x = true ∨ (F.X j).env.scope.names.lookup x = some .local := by first | exact fun _ => Or.inl rfl | exact fun _ => Or.inr rfl) : SS F (.AugAssign (.Name x pos') .Add e pos) (mAug i (fun a b => a + b) m) := by
  obtain ⟨t, p, q⟩ := a
  exact ⟨fun W => tAug i (t W) (ipI fun a b => a + b), fun j => ps_aug (X := F.X j) ok.nd hi (hx j) (p j) ip_add (hf j), fun W => rd_aug i _ (q W)⟩
theorem ss_augSub (i : Nat) {x : Str} (ok : F.Ok) (a : SB F e m) (hi : F.N[i]? = some x := by rfl) (hx : ∀ j, Loc (F.env j).scope x := by first | exact fun _ => Or.inl rfl | exact fun _ => Or.inr rfl)
    (hf : ∀ j, (F.X j).fn x = true ∨ (F.X j).env.scope.names.lookup x = some .local := by first | exact fun _ => Or.inl rfl | exact fun _ => Or.inr rfl) : SS F (.AugAssign (.Name x pos') .Sub e pos) (mAug i (fun a b => a - b) m) := by
  obtain ⟨t, p, q⟩ := a
  exact ⟨fun W => tAug i (t W) (ipI fun a b => a - b), fun j => ps_aug (X := F.X j) ok.nd hi (hx j) (p j) ip_sub (hf j), fun W => rd_aug i _ (q W)⟩
end
/-! ### calls with keywords -/
structure DefKB (P : Program) (w : World) (K : PySem.W.Frag) (mg : Str → Option Value) (base : Heap) (cA : Str → Option Addr) (k : Nat) (x : Str) (ps : List Str) (m : MF) (n : Nat) (ks : List Str) : Prop where
  ex : ∃ f fd, FnOk P w K mg base (L2.CX P w) k f fd ps (spM ⟨K, cA, 0, none⟩ m) ∧ mg x = some (.ref f) ∧ PySem.W.keepIn K (.ref f) = true ∧ KBn K fd ps n ks (fun us ws => us ++ ws) (fun vs zs => vs ++ zs)
theorem Vals.app : ∀ {vs : List V} {us : List Value} {zs : List V} {ws : List Value}, Vals vs us → Vals zs ws → Vals (vs ++ zs) (us ++ ws)
  | _, _, _, _, .nil, s => s
  | _, _, _, _, .cons r t, s => .cons r (Vals.app t s)
theorem DefAt.kb {P : Program} {w : World} {K : PySem.W.Frag} {mg : Str → Option Value} {base : Heap} {cA : Str → Option Addr} {k : Nat} {x : Str} {ps : List Str} {m : MF} {st : Stmt} {n : Nat} {ks : List Str} (A : DefAt K mg x st)
    (g : ∀ f fd, Fun K x x st f fd → FnOk P w K mg base (L2.CX P w) k f fd ps (spM ⟨K, cA, 0, none⟩ m))
    (b : ∀ (kV doc pm : Value) (an : Option Addr) (cdv ct : Value) (us ws : List Value), us.length = n → ws.length = ks.length → bindArgs (PySem.W.fnOf x x (defArgs st) (defBody st) (defScope st) .none kV doc pm an cdv ct) ⟨us, ks.zip ws⟩ = pure (ps.zip (us ++ ws))) :
    DefKB P w K mg base cA k x ps m n ks := by
  obtain ⟨f, fd, Fn, e⟩ := A.ex
  refine ⟨f, fd, g f fd Fn, e, Fn.kp, ?_⟩
  obtain ⟨oc, od, kV, doc, pm, an, cdv, ct, osl, rfl, lk, hcd⟩ := Fn.ex
  exact ⟨fun s us ws _ l1 l2 => .of_eq (b kV doc pm an cdv ct us ws l1 l2), fun r1 r2 => Vals.app r1 r2⟩
def SK (F : Fam) (kws : List Keyword) (m : MA) : Prop := ∃ t : WX → TA, (∀ i, PK (F.X i) kws (t (F.W i))) ∧ ∀ W, RdG F.S (RVs F.S) W (t W) m
theorem sk_nil : SK F [] mNil := ⟨fun _ => tNil, fun _ => pk_nil, fun W w0 w env h σ Q r po => PostE.fin po r.hd .nil⟩
theorem sk_cons {nm : Option Str} {kpos : Pos} {kws : List Keyword} (h : SE F e m) (h' : SK F kws mr) : SK F (⟨nm, e, kpos⟩ :: kws) (mCons m mr) := by
  obtain ⟨t, p, q⟩ := h
  obtain ⟨t', p', q'⟩ := h'
  exact ⟨fun W => tCons (t W) (t' W), fun i => pk_cons (p i) (p' i), fun W w0 w env h σ Q r po => q W w0 w env h σ _ r (PostE.bind po fun x h1 w1 v s1 d1 e1 p1 =>
    q' W w0 w1 env h1 σ _ (r.step s1 d1) (PostE.bind p1 fun xs h2 w2 vs s2 d2 e2 p2 => p2.fin d2 (.cons (s2.pr e1) e2)))⟩
/-- f(a, .., k = b, ..): the keywords stand in the parameters' order -/
theorem run_fnNS {X : Cx} {CX : CXT} {k n : Nat} {f : Addr} {fd : FuncData} {ps ks : List Str} {sp : Sp} {E : L2.St → XK} {g : List Value → List Value → List Value} {gV : List V → List V → List V} {pins : List (Addr × Obj)} {σ : L2.St} {H : Hp} {s : Shared} {Q : VK} {us ws : List Value} {vs zs : List V} (F : FnOk X.prog X.w X.K X.mg X.base CX k f fd ps sp) (hr : Room k X.A) (hb : KBn X.K fd ps n ks g gV) (hx : PassesAt CX X σ (E σ))
    (I : Inv X pins σ H s) (r : Vals vs us) (rz : Vals zs ws) (l1 : vs.length = n) (l2 : zs.length = ks.length) (h : sp (gV vs zs) H Q (E σ)) : wpAny (model X.prog X.w) X.A (PySem.call (.ref f) us (ks.zip ws)) (EP X pins σ Q) X.xe s := by
  have r2 := hb.rel r rz
  refine wpAny_call (codeAny_mono (F.run X.A X.stack s H ⟨us, ks.zip ws⟩ (g us ws) (gV vs zs) Q (E σ) hr I.env0 (hb.to s us ws I.kIn (r.length.symm.trans l1) (rz.length.symm.trans l2)) r2 h) fun r s' hq => ?_)
  cases r with
  | error e => exact hx pins H s e s' I hq
  | ok fl =>
    cases fl with
    | ret u => exact I.after hq
    | next => exact False.elim hq
    | brk => exact False.elim hq
    | cont => exact False.elim hq
def tCallNS (n m : Nat) (sp : Sp) (gV : List V → List V → List V) (E : L2.St → XK) (t tk : TA) : TE := fun σ H Q => t σ H fun vs H1 => tk σ H1 fun zs H2 => vs.length = n ∧ zs.length = m ∧ sp (gV vs zs) H2 Q (E σ)
def mCallK (n j : Nat) (f : MF) (ma mk : MA) : ME := fun env h => (ma env h).bind fun xs h => (mk env h).bind fun ys h => if xs.length = n ∧ ys.length = j then f (xs ++ ys) h else .no
theorem se_fnK {k n : Nat} {x : Str} {ps ks : List Str} {mf : MF} {mk : MA} {kws : List Keyword} (ok : F.Ok) (G : DefKB F.P F.w F.K F.mg F.base F.cA k x ps mf n ks) (hk : k ≤ F.k) (ha : SA F (e :: es) mr) (hkw : SK F kws mk)
    (hg : ∀ i, Gl (F.X i) x := by intro _; rfl) (hall : ∀ i, (backToKw pos (keywordEach kws (F.X i).env)).all (·.1.isSome) = true := by intro _; rfl) (hks : ∀ i, (backToKw pos (keywordEach kws (F.X i).env)).filterMap (·.1) = ks := by intro _; rfl)
    (hdb : (x == ("__debug__" : Str)) = false := by decide) (he : ∀ i, starEach (e :: es) (F.X i).env = (false, eval e (F.X i).env) :: starEach es (F.X i).env := by intro _; rfl)
    (hpl : ∀ i, ((backTo pos (starEach (e :: es) (F.X i).env)).any (·.1) || (backToKw pos (keywordEach kws (F.X i).env)).any (·.1.isNone)) = false := by intro _; rfl) :
    SE F (.Call (.Name x p) (e :: es) kws pos) (mCallK n ks.length mf mr mk) := by
  obtain ⟨f, fd, g, hm, kp, b⟩ := G.ex
  obtain ⟨t, pa, q⟩ := ha
  obtain ⟨tk, pk, qk⟩ := hkw
  refine ⟨fun W => tCallNS n ks.length (spM F.S mf) (fun vs zs => vs ++ zs) (WE W) (t W) (tk W), fun i => ⟨fun pins s σ H Q I hh => ?_⟩, fun W w0 w env h σ Q rl po => ?_⟩
  · refine wpAny_Call_Name_kw (ld_glob I (hg i) hm ?_ hdb)
    refine PySem.W.callWith_KW (h₀ := (F.X i).base) I.ok.mod.kin kp (hall i) (thn ((pa i).run pos pins s σ H _ I hh) fun us s1 ⟨vs, H1, I1, r, q⟩ => ?_) (hpl i) (he i)
    refine thn ((pk i).run pos pins s1 σ H1 _ I1 q) fun ws s2 ⟨zs, H2, I2, rz, l1, l2, q2⟩ => ⟨I2.kIn, ?_⟩
    rw [hks i]
    exact run_fnNS (X := F.X i) (CX := L2.CX F.P F.w) (E := WE (F.W i)) g ((ok.hr i).mono hk) b (passAt (ok.tk i) σ) I2 r rz l1 l2 q2
  · refine q W w0 w env h σ _ rl (PostE.bind po fun xs h1 w1 vs s1 d1 p1 po1 => qk W w0 w1 env h1 σ _ (rl.step s1 d1) (PostE.bind po1 fun ys h2 w2 zs s2 d2 p2 po2 => ?_))
    split at po2
    · rename_i hl
      refine ⟨p1.length.symm.trans hl.1, p2.length.symm.trans hl.2, w2, h2, xs ++ ys, rfl, d2.nul, (s2.prs p1).append p2, ?_⟩
      cases e : mf (xs ++ ys) h2 with
      | ok x h' => rw [e] at po2; exact fun w' v s d r => po2 w' v s d.unnul r
      | er x h' => rw [e] at po2; exact fun w' c d s dd r => po2 w' c d s dd.unnul r
      | no => rw [e] at po2; exact po2
    · exact po2.elim
/-! ### a recursive def: one promise for each depth -/
theorem DefOk.zero {k : Nat} {P : Program} {w : World} {K : PySem.W.Frag} {mg : Str → Option Value} {base : Heap} {cA : Str → Option Addr} {x : Str} {ps : List Str} {st : Stmt} (A : DefAt K mg x st)
    (b : ∀ (kV doc pm : Value) (an : Option Addr) (cdv ct : Value) (us : List Value), us.length = ps.length → bindArgs (PySem.W.fnOf x x (defArgs st) (defBody st) (defScope st) .none kV doc pm an cdv ct) ⟨us, []⟩ = pure (ps.zip us)) : DefOk P w K mg base cA k x ps fun _ _ => .no :=
  A.ok (fun f fd _ => zero_ok) b
end
end Mir

set_option Elab.async false
set_option linter.all false
set_option maxRecDepth 100000
set_option maxHeartbeats 4000000
namespace Mir
open PySem PySem.Spec PyProof.Rows L2

/-! ### zip of two lists, of two tuples -/
def zipL (xs ys : List PV) : List PV := List.zipWith (fun x y => PV.tup [x, y]) xs ys
theorem walk_zipT {K : PySem.W.Frag} {a b : Addr} {xs ys : List V} {n : Nat} (hn : n = min xs.length ys.length) : Walk (RZ.ItzT K a b) n (fun H => SqT K H a xs ∧ SqT K H b ys) (YPair (fun i => xs[i]?) (fun i => ys[i]?)) := by
  constructor
  · intro i _ hi ⟨ha, hb⟩
    rw [hn, Nat.lt_min] at hi
    exact ⟨xs, ys, _, _, ha, hb, List.getElem?_eq_getElem hi.1, List.getElem?_eq_getElem hi.2⟩
  · exact fun _ q => ⟨xs, ys, q.1, q.2, by omega⟩
  · rintro i H v H' _ ⟨ha, hb⟩ ⟨T, x, z, c1, c2, c3, c4, c5⟩
    exact ⟨T, x, z, c1, c2, c3, c4 xs ha, c5 ys hb⟩
def itZ (m : MA) : MA := fun env h => (m env h).bind fun xs h => match xs with
  | [.lst xs, .lst ys] => .ok (zipL xs ys) h
  | [.tup xs, .tup ys] => .ok (zipL xs ys) h
  | _ => .no
theorem zipL_get {xs ys : List PV} {i : Nat} {z : PV} (h : (zipL xs ys)[i]? = some z) : ∃ x y, xs[i]? = some x ∧ ys[i]? = some y ∧ z = .tup [x, y] := by
  unfold zipL at h
  rw [List.getElem?_zipWith] at h
  split at h
  · rename_i x y e1 e2
    cases h
    exact ⟨_, _, e1, e2, rfl⟩
  · cases h
section
variable {F : Fam} {e e2 : Expr} {p pos tpos : Pos} {ma : MA}
theorem si_zip {elts : List Expr} {kk : Nat} (hm : F.mg "zip" = none) (a : SA F [e, e2] ma) (hg : ∀ i, Gl (F.X i) "zip" := by intro _; rfl) (hs : ∀ i, starEach [e, e2] (F.X i).env = (false, eval e (F.X i).env) :: starEach [e2] (F.X i).env := by intro _; rfl)
    (hpl : ∀ i, (backTo pos (starEach [e2] (F.X i).env)).any (·.1) = false := by intro _; rfl) : SI F (.Tuple elts kk tpos) (.Call (.Name "zip" p) [e, e2] [] pos) (itZ ma) := by
  obtain ⟨t, pa, q⟩ := a
  refine ⟨fun W => RZ.iZipA F.K (t W), fun i => RZ.pi_zipA (hg i) hm (pa i) (hs i) (hpl i), fun W w0 w env h σ R rl po => q W w0 w env h σ _ rl ?_⟩
  unfold itZ at po
  cases em : ma env h with
  | no => rw [em] at po; exact po
  | er x h' => rw [em] at po; exact po
  | ok xs h' =>
    rw [em, Res.bind_ok] at po
    intro w' v s d r
    split at po
    · rename_i hx
      split at hx
      · rename_i xs ys
        cases hx
        cases r with | cons r1 r2 =>
        cases r2 with | cons r2 r3 =>
        cases r3
        cases r1 with | @lst a _ vs sq rs =>
        cases r2 with | @lst b _ us sq2 rs2 =>
        refine ⟨a, b, vs, us, rfl, .inl ⟨d.sqL sq, d.sqL sq2, po w' _ s d ⟨_, _, walk_zip (by unfold zipL; rw [List.length_zipWith, rs.length, rs2.length]), fun w'' c => ?_, fun i w'' H' y u c e1 e2 => ?_⟩⟩⟩
        · obtain ⟨c1, hh, c2⟩ := c
          exact ⟨c2.sqL (sqL_mono c1.fz sq), c2.sqL (sqL_mono c1.fz sq2)⟩
        · obtain ⟨z1, z2, g1, g2, rfl⟩ := zipL_get e1
          refine yok_pair e2 (fun va ea => ?_) fun vb eb => ?_
          · obtain ⟨v', k1, k2⟩ := rs.get g1
            rw [ea] at k1; cases k1
            exact c.1.pr k2
          · obtain ⟨v', k1, k2⟩ := rs2.get g2
            rw [eb] at k1; cases k1
            exact c.1.pr k2
      · rename_i xs ys
        cases hx
        cases r with | cons r1 r2 =>
        cases r2 with | cons r2 r3 =>
        cases r3
        cases r1 with | @tup a _ vs sq rs =>
        cases r2 with | @tup b _ us sq2 rs2 =>
        refine ⟨a, b, vs, us, rfl, .inr ⟨d.sqT sq, d.sqT sq2, po w' _ s d ⟨_, _, walk_zipT (by unfold zipL; rw [List.length_zipWith, rs.length, rs2.length]), fun w'' c => ?_, fun i w'' H' y u c e1 e2 => ?_⟩⟩⟩
        · obtain ⟨c1, hh, c2⟩ := c
          exact ⟨c2.sqT (sqT_mono c1.fz sq), c2.sqT (sqT_mono c1.fz sq2)⟩
        · obtain ⟨z1, z2, g1, g2, rfl⟩ := zipL_get e1
          refine yok_pair e2 (fun va ea => ?_) fun vb eb => ?_
          · obtain ⟨v', k1, k2⟩ := rs.get g1
            rw [ea] at k1; cases k1
            exact c.1.pr k2
          · obtain ⟨v', k1, k2⟩ := rs2.get g2
            rw [eb] at k1; cases k1
            exact c.1.pr k2
      · cases hx
    · rename_i hx
      split at hx <;> cases hx
    · exact po.elim
end
/-! ### (a, b, ..) = a tuple or a list -/
def gTuA (n : Nat) (r : MGs) : MG := fun x env => match x with
  | .tup xs => if xs.length = n then r xs env else none
  | .lst xs => if xs.length = n then r xs env else none
  | _ => none
theorem sg_tupA {F : Fam} {es : List Expr} {pos : Pos} {r : MGs} {k n : Nat} {is : List Nat} (hc : F.calm = true) (b : SGs F es r is) (hn : ∀ i, (assignEach es (F.X i).env).length = n := by intro _; rfl) (hst : ∀ i, (assignEach es (F.X i).env).findIdx? (·.1) = none := by intro _; rfl) : SG F (.Tuple es k pos) (gTuA n r) is := by
  obtain ⟨t, p, q⟩ := b
  refine ⟨fun v σ H Q => gTup F.K n t v σ H Q ∨ gUnl F.K n t v σ H Q, fun i => ⟨fun pins s σ H v u Q I r h => ?_⟩, fun w0 w env env' h σ x v Q rl rr ee qq => ?_⟩
  · rcases h with h | h
    · exact (pg_tup (X := F.X i) hc (p i) (hn i) (hst i)).run pins s σ H v u Q I r h
    · exact (pg_unl (X := F.X i) hc (p i) (hn i) (hst i)).run pins s σ H v u Q I r h
  · unfold gTuA at ee
    split at ee
    · split at ee
      · rename_i xs hl
        cases rr with
        | tup s t' => exact .inl ⟨_, _, rfl, rl.hd.sqT s, by rw [← t'.length]; exact hl, q w0 w env env' h σ _ _ Q rl t' ee qq⟩
      · cases ee
    · split at ee
      · rename_i xs hl
        cases rr with
        | lst s t' => exact .inr ⟨_, _, rfl, rl.hd.sqL s, by rw [← t'.length]; exact hl, q w0 w env env' h σ _ _ Q rl t' ee qq⟩
      · cases ee
    · cases ee
@[simp] theorem aItZ (ma : MA) (env : En) (h : Hh) : itZ ma env h = (ma env h).bind fun xs h => (match xs with | [.lst xs, .lst ys] => .ok (zipL xs ys) h | [.tup xs, .tup ys] => .ok (zipL xs ys) h | _ => .no) := id rfl
@[simp] theorem aGTuT (env : En) (gs : MGs) (k : Nat) (xs : List PV) : gTuA k gs (.tup xs) env = if xs.length = k then gs xs env else none := id rfl
@[simp] theorem aGTuL (env : En) (gs : MGs) (k : Nat) (xs : List PV) : gTuA k gs (.lst xs) env = if xs.length = k then gs xs env else none := id rfl
end Mir

set_option Elab.async false
set_option linter.all false
set_option maxRecDepth 100000
set_option maxHeartbeats 1000000
/-! MirI: instances of own classes: made, their fields read and set, their methods called; defaults -/
namespace Mir
open PySem PySem.Spec PyProof.Rows L2

def getF {α : Type} (f : Str) : List Str → List α → Option α
  | n :: ns, v :: vs => if n = f then some v else getF f ns vs
  | _, _ => none
def insN (f : Str) : List Str → List Str
  | [] => [f]
  | n :: ns => if n = f then n :: ns else n :: insN f ns
def insV {α : Type} (f : Str) (y : α) : List Str → List α → List α
  | n :: ns, v :: vs => if n = f then y :: vs else v :: insV f y ns vs
  | _, _ => [y]
theorem lookup_zip {f : Str} : ∀ {ns : List Str} {vs : List V}, (ns.zip vs).lookup f = getF f ns vs
  | [], vs => rfl
  | n :: ns, [] => rfl
  | n :: ns, v :: vs => by
    show List.lookup f ((n, v) :: ns.zip vs) = _
    unfold getF
    by_cases h : n = f
    · have hb : (f == n) = true := beq_iff_eq.mpr h.symm
      simp only [List.lookup, hb, if_pos h]
    · have hb : (f == n) = false := beq_eq_false_iff_ne.mpr (Ne.symm h)
      simp only [List.lookup, hb, if_neg h]
      exact lookup_zip
theorem putF_zip {f : Str} {y : V} : ∀ {ns : List Str} {vs : List V}, ns.length = vs.length → putF f y (ns.zip vs) = (insN f ns).zip (insV f y ns vs)
  | [], [], _ => rfl
  | [], _ :: _, h => by simp at h
  | n :: ns, [], h => by simp at h
  | n :: ns, v :: vs, h => by
    show putF f y ((n, v) :: ns.zip vs) = _
    unfold putF insN insV
    by_cases q : n = f
    · simp only [if_pos q]; rfl
    · simp only [if_neg q]
      rw [putF_zip (by simpa using h)]; rfl
theorem len_put {α : Type} {f : Str} {y : α} : ∀ {ns : List Str} {vs : List α}, ns.length = vs.length → (insN f ns).length = (insV f y ns vs).length
  | [], [], _ => rfl
  | [], _ :: _, h => by simp at h
  | n :: ns, [], h => by simp at h
  | n :: ns, v :: vs, h => by
    unfold insN insV
    by_cases q : n = f
    · simp only [if_pos q]; simpa using h
    · simp only [if_neg q]
      rw [List.length_cons, List.length_cons, len_put (by simpa using h)]
section
variable {K : PySem.W.Frag} {Φ : Hp} {ad : List Addr} {f : Str}
theorem getF_rel {x : PV} : ∀ {ns : List Str} {xs : List PV} {vs : List V}, PRs K Φ ad xs vs → getF f ns xs = some x → ∃ v, getF f ns vs = some v ∧ PR K Φ ad x v
  | [], xs, vs, r, e => by unfold getF at e; cases e
  | n :: ns, _, _, .nil, e => by unfold getF at e; cases e
  | n :: ns, _, _, .cons r t, e => by
    unfold getF at e ⊢
    by_cases q : n = f
    · simp only [if_pos q] at e ⊢; cases e; exact ⟨_, rfl, r⟩
    · simp only [if_neg q] at e ⊢; exact getF_rel t e
theorem getF_none : ∀ {ns : List Str} {xs : List PV} {vs : List V}, PRs K Φ ad xs vs → getF f ns xs = none → getF f ns vs = none
  | [], xs, vs, r, e => by unfold getF; rfl
  | n :: ns, _, _, .nil, e => by unfold getF; rfl
  | n :: ns, _, _, .cons r t, e => by
    unfold getF at e ⊢
    by_cases q : n = f
    · simp only [if_pos q] at e; cases e
    · simp only [if_neg q] at e ⊢; exact getF_none t e
theorem insV_rel {x : PV} {v : V} (p : PR K Φ ad x v) : ∀ {ns : List Str} {xs : List PV} {vs : List V}, PRs K Φ ad xs vs → PRs K Φ ad (insV f x ns xs) (insV f v ns vs)
  | [], xs, vs, r => by unfold insV; exact .cons p .nil
  | n :: ns, _, _, .nil => by unfold insV; exact .cons p .nil
  | n :: ns, _, _, .cons r t => by
    unfold insV
    by_cases q : n = f
    · simp only [if_pos q]; exact .cons p t
    · simp only [if_neg q]; exact .cons r (insV_rel p t)
end
/-! ### the world behind a store in an object, behind a new object -/
def Wd.wr (w : Wd) (a : Addr) (o : HO) : Wd := ⟨w.Φ, upd w.H a o, w.ad⟩
section
variable {S : Sx} {w : Wd} {h : Hh}
theorem Step.wr {a : Addr} {o : HO} (ha : a ∈ w.ad) : Step w (w.wr a o) where
  fz := fun _ _ e => e
  ix := fun _ _ e => e
  nw := fun _ hx => .inl hx
  kp := fun x u e hx => by
    show upd w.H a o x = some u
    have : x ≠ a := fun q => hx (by rw [q]; exact ha)
    rw [upd_ne this]; exact e
  th := fun x e => by
    show upd w.H a o x ≠ none
    by_cases hx : x = a
    · subst hx; rw [upd_same]; simp
    · rw [upd_ne hx]; exact e
  fn := fun _ _ e => .inl e
theorem Hd.wr (d : Hd S w h) {n : Nat} {a : Addr} {ob : Ob} {o : HO} (ea : w.ad[n]? = some a) (hr : RO S (w.wr a o) a ob) : Hd S (w.wr a o) (h.set n ob) where
  sub := fun x u q => by
    show upd w.H a o x = some u
    have q' : w.Φ x = some u := q
    have : x ≠ a := fun hx => by rw [hx, d.sep a (List.mem_of_getElem? ea)] at q'; cases q'
    rw [upd_ne this]; exact d.sub x u q'
  len := by rw [List.length_set]; exact d.len
  nd := d.nd
  sep := d.sep
  obj := fun k ob' x e f => by
    have f' : w.ad[k]? = some x := f
    by_cases hk : k = n
    · subst hk
      rw [f'] at ea; cases ea
      have hl : k < h.length := by
        have := (List.getElem?_eq_some_iff.mp e).1
        rw [List.length_set] at this; exact this
      rw [List.getElem?_set_self hl] at e
      cases e; exact hr
    · rw [List.getElem?_set_ne (Ne.symm hk)] at e
      have ha : a ∈ w.ad := List.mem_of_getElem? ea
      have hne : x ≠ a := fun hx => hk (by
        subst hx
        have h1 := (List.getElem?_eq_some_iff.mp f').1
        have h2 := (List.getElem?_eq_some_iff.mp ea).1
        exact (List.getElem?_inj h1 d.nd).mp (f'.trans ea.symm))
      exact (d.obj k ob' x e f').step (Step.wr ha) fun u q => by
        show upd w.H a o x = some u
        rw [upd_ne hne]; exact q
def Wd.ins (w : Wd) (x dx C : Addr) : Wd := ⟨w.Φ, upd (upd w.H dx (.own x)) x (.ins C dx []), w.ad ++ [x]⟩
theorem upd2_old {H : Hp} {x dx y : Addr} {o1 o2 u : HO} (zx : H x = none) (zd : H dx = none) (e : H y = some u) : upd (upd H dx o1) x o2 y = some u := by
  have h1 : y ≠ x := fun q => by rw [q, zx] at e; cases e
  have h2 : y ≠ dx := fun q => by rw [q, zd] at e; cases e
  rw [upd_ne h1, upd_ne h2]; exact e
theorem ix_app {ad : List Addr} {a : Addr} (k : Nat) (x : Addr) (q : ad[k]? = some x) : (ad ++ [a])[k]? = some x := by
  rw [List.getElem?_append_left (List.getElem?_eq_some_iff.mp q).1]; exact q
theorem Step.insMade {x dx C : Addr} (zx : w.H x = none) (zd : w.H dx = none) : Step w (w.ins x dx C) where
  fz := fun _ _ e => e
  ix := fun k y q => ix_app k y q
  nw := fun y hy => by
    rcases List.mem_append.mp hy with hy | hy
    · exact .inl hy
    · rw [List.mem_singleton.mp hy]; exact .inr zx
  kp := fun y u e _ => upd2_old zx zd e
  th := fun y e => by
    cases q : w.H y with
    | none => exact absurd q e
    | some u => show upd (upd w.H dx _) x _ y ≠ none; rw [upd2_old zx zd q]; simp
  fn := fun _ _ e => .inl e
theorem Hd.insMade (d : Hd S w h) {c : Str} {x dx C : Addr} (hc : S.cA c = some C) (zx : w.H x = none) (zd : w.H dx = none) : Hd S (w.ins x dx C) (h ++ [.ins c [] []]) where
  sub := fun y u q => upd2_old zx zd (d.sub y u q)
  len := by show (w.ad ++ [x]).length = _; rw [List.length_append, List.length_append, d.len]; rfl
  nd := List.nodup_append.mpr ⟨d.nd, by simp, fun y hy z hz => by rw [List.mem_singleton.mp hz]; exact fun q => d.notAd zx (q ▸ hy)⟩
  sep := fun y hy => by
    rcases List.mem_append.mp hy with hy | hy
    · exact d.sep y hy
    · rw [List.mem_singleton.mp hy]; exact d.fresh zx
  obj := fun k ob y e f => by
    by_cases hk : k < h.length
    · rw [List.getElem?_append_left hk] at e
      have f' : w.ad[k]? = some y := by
        have f2 : (w.ad ++ [x])[k]? = some y := f
        rw [List.getElem?_append_left (by rw [d.len]; exact hk)] at f2; exact f2
      exact (d.obj k ob y e f').step (Step.insMade zx zd) fun u q => upd2_old zx zd q
    · have hl := (List.getElem?_eq_some_iff.mp e).1
      rw [List.length_append] at hl
      have hk2 : k = h.length := by simp at hl; omega
      subst hk2
      rw [List.getElem?_append_right (Nat.le_refl _), Nat.sub_self] at e
      have f2 : (w.ad ++ [x])[h.length]? = some y := f
      rw [← d.len, List.getElem?_append_right (Nat.le_refl _), Nat.sub_self] at f2
      cases e; cases f2
      exact ⟨C, dx, [], hc, rfl, by show upd (upd w.H dx _) x _ x = _; rw [upd_same]; rfl, .nil⟩
end

/-! ### what the program's text gives of a class -/
/-- the class named c, its attributes' names fs -/
structure ClsAt (K : PySem.W.Frag) (mg : Str → Option Value) (cA : Str → Option Addr) (c : Str) (fs : List Str) : Prop where
  ex : ∃ C, mg c = some (.ref C) ∧ cA c = some C ∧ Cls K C ∧ ∀ f ∈ fs, NoAttr K C f
/-- the method m of the class c -/
structure MethAt (K : PySem.W.Frag) (mg : Str → Option Value) (c m qual : Str) (st : Stmt) : Prop where
  ex : ∃ C f fd, mg c = some (.ref C) ∧ Fun K m qual st f fd ∧ Meth K C m f
structure MakeAt (K : PySem.W.Frag) (mg : Str → Option Value) (c qual : Str) (st : Stmt) : Prop where
  ex : ∃ C f fd, mg c = some (.ref C) ∧ Fun K "__init__" qual st f fd ∧ Mk K C f
structure MethOk (P : Program) (w : World) (K : PySem.W.Frag) (mg : Str → Option Value) (base : Heap) (cA : Str → Option Addr) (k : Nat) (c m : Str) (ps : List Str) (mf : MF) : Prop where
  ex : ∃ C f fd, FnOk P w K mg base (L2.CX P w) k f fd ps (spM ⟨K, cA, 0, none⟩ mf) ∧ cA c = some C ∧ Cls K C ∧ Meth K C m f ∧ Binds K fd ps []
structure MakeOk (P : Program) (w : World) (K : PySem.W.Frag) (mg : Str → Option Value) (base : Heap) (cA : Str → Option Addr) (k : Nat) (c : Str) (ps : List Str) (mf : MF) : Prop where
  ex : ∃ C f fd, FnOk P w K mg base (L2.CX P w) k f fd ps (spM ⟨K, cA, 0, none⟩ mf) ∧ mg c = some (.ref C) ∧ cA c = some C ∧ Mk K C f ∧ Binds K fd ps []
section
variable {P : Program} {w : World} {K : PySem.W.Frag} {mg : Str → Option Value} {base : Heap} {cA : Str → Option Addr} {k : Nat} {c m qual : Str} {ps fs : List Str} {mf : MF} {st : Stmt}
theorem MethAt.ok (A : MethAt K mg c m qual st) (B : ClsAt K mg cA c fs) (g : ∀ f fd, Fun K m qual st f fd → FnOk P w K mg base (L2.CX P w) k f fd ps (spM ⟨K, cA, 0, none⟩ mf))
    (b : ∀ (kV doc pm : Value) (an : Option Addr) (cdv ct : Value) (us : List Value), us.length = ps.length → bindArgs (PySem.W.fnOf m qual (defArgs st) (defBody st) (defScope st) .none kV doc pm an cdv ct) ⟨us, []⟩ = pure (ps.zip us)) : MethOk P w K mg base cA k c m ps mf := by
  obtain ⟨C, f, fd, e, Fn, M⟩ := A.ex
  obtain ⟨C', e', ca, cl, _⟩ := B.ex
  rw [e] at e'; cases e'
  exact ⟨C, f, fd, g f fd Fn, ca, cl, M, Fn.binds b⟩
theorem MakeAt.ok (A : MakeAt K mg c qual st) (B : ClsAt K mg cA c fs) (g : ∀ f fd, Fun K "__init__" qual st f fd → FnOk P w K mg base (L2.CX P w) k f fd ps (spM ⟨K, cA, 0, none⟩ mf))
    (b : ∀ (kV doc pm : Value) (an : Option Addr) (cdv ct : Value) (us : List Value), us.length = ps.length → bindArgs (PySem.W.fnOf "__init__" qual (defArgs st) (defBody st) (defScope st) .none kV doc pm an cdv ct) ⟨us, []⟩ = pure (ps.zip us)) : MakeOk P w K mg base cA k c ps mf := by
  obtain ⟨C, f, fd, e, Fn, M⟩ := A.ex
  obtain ⟨C', e', ca, cl, _⟩ := B.ex
  rw [e] at e'; cases e'
  exact ⟨C, f, fd, g f fd Fn, e, ca, M, Fn.binds b⟩
end

/-! ### o.f -/
/-- the attribute f of an instance of one of the classes cs -/
def mFld (cs : List Str) (f : Str) (m : ME) : ME := fun env h => (m env h).bind fun x h => match x with
  | .ref n => match h[n]? with
    | some (.ins c ns vs) => if c ∈ cs then (match getF f ns vs with
      | some y => .ok y h
      | none => .no) else .no
    | _ => .no
  | _ => .no
def mSetF (cs : List Str) (f : Str) (mo mv : ME) : MS := fun env h => ofE (mv env h) env fun y h => ofE (mo env h) env fun x h => match x with
  | .ref n => match h[n]? with
    | some (.ins c ns vs) => if c ∈ cs ∧ ns.length < 1000 then .nx env (h.set n (.ins c (insN f ns) (insV f y ns vs))) else .no
    | _ => .no
  | _ => .no
/-- o.m(..), of an instance of the class c -/
def mMeth (c m : Str) (mf : MF) (mo : ME) (mr : MA) : ME := fun env h => (mo env h).bind fun x h => match x with
  | .ref n => match h[n]? with
    | some (.ins c' ns vs) => if c' = c then (match getF m ns vs with
      | none => (mr env h).bind fun xs h => mf (.ref n :: xs) h
      | some _ => .no) else .no
    | _ => .no
  | _ => .no
/-- c(..) -/
def mMake (c : Str) (mi : MF) (mr : MA) : ME := fun env h => (mr env h).bind fun xs h1 => (mi (.ref h1.length :: xs) (h1 ++ [.ins c [] []])).bind fun r h2 => match r with
  | .non => .ok (.ref h1.length) h2
  | _ => .no
section
variable {F : Fam} {o e value : Expr} {es : List Expr} {f c x m : Str} {cs fs ps : List Str} {p apos pos pos' : Pos} {mo mv me : ME} {mr : MA} {mf : MF} {k : Nat}
/-- what is at a ref -/
theorem PW'.ofRef {S : Sx} {w : Wd} {n : Nat} {v : V} (r : PW' S w (.ref n) v) : ∃ a, v = .ref a ∧ w.ad[n]? = some a := by
  cases r with | ref e => exact ⟨_, rfl, e⟩
theorem se_fld (a : SE F o mo) (hc : ∀ c ∈ cs, ∃ fs, ClsAt F.K F.mg F.cA c fs ∧ f ∈ fs) (hb : ∀ i, attributeBase o f (F.X i).env (eval o (F.X i).env) = eval o (F.X i).env := by intro _; rfl) : SE F (.Attribute o f pos) (mFld cs f mo) := by
  obtain ⟨t, p, q⟩ := a
  refine ⟨fun W => tFld F.K (t W) f, fun i => pe_fld (p i) (hb i), fun W w0 w env h σ Q rl po => q W w0 w env h σ _ rl (PostE.bind po fun x h1 w1 v s1 d1 r1 po1 => ?_)⟩
  cases x with
  | ref n =>
    obtain ⟨a, rfl, ea⟩ := PW'.ofRef r1
    simp only at po1
    split at po1
    · rename_i c ns vs eh
      split at po1
      · rename_i hcs
        split at po1
        · rename_i y ey
          obtain ⟨C, dx, us, ca, hl, eH, rs⟩ := d1.at eh ea
          obtain ⟨fs, ⟨C', _, ca', cl, na⟩, hf⟩ := hc c hcs
          have cb : F.cA c = some C := ca
          rw [ca'] at cb; cases cb
          obtain ⟨v, ev, rv⟩ := getF_rel rs ey
          exact ⟨a, C, dx, _, v, rfl, eH, cl, na f hf, lookup_zip.trans ev, po1.fin d1 rv⟩
        · exact po1.elim
      · exact po1.elim
    · exact po1.elim
  | _ => exact po1.elim
theorem ss_fld (a : SE F o mo) (b : SE F value mv) (hc : ∀ c ∈ cs, ∃ fs, ClsAt F.K F.mg F.cA c fs ∧ f ∈ fs) (hs : ∀ i, swapsWith value (some (.Attribute o f pos')) pos.line (F.X i).env = pure false := by intro _; rfl) : SS F (.Assign [.Attribute o f pos'] value pos) (mSetF cs f mo mv) := by
  obtain ⟨t, p, q⟩ := a
  obtain ⟨t', p', q'⟩ := b
  refine ⟨fun W => sFld F.K (t W) (t' W) f, fun i => ps_fld (p i) (p' i) (hs i), fun W w0 w env h σ D rl po => q' W w0 w env h σ _ rl (PostS.ofE (R := RV F.S) rl po fun y h1 w1 u s1 d1 r1 po1 => ?_)⟩
  have rl1 := rl.step s1 d1
  refine q W w0 w1 env h1 σ _ rl1 (PostS.ofE (R := RV F.S) rl1 po1 fun x h2 w2 v s2 d2 r2 po2 => ?_)
  cases x with
  | ref n =>
    obtain ⟨a, rfl, ea⟩ := PW'.ofRef r2
    simp only at po2
    split at po2
    · rename_i c ns vs eh
      split at po2
      · rename_i hcs
        obtain ⟨C, dx, us, ca, hl, eH, rs⟩ := d2.at eh ea
        obtain ⟨fs, ⟨C', _, ca', cl, na⟩, hf⟩ := hc c hcs.1
        have cb : F.cA c = some C := ca
        rw [ca'] at cb; cases cb
        have hm : a ∈ w2.ad := List.mem_of_getElem? ea
        refine ⟨a, C, dx, _, rfl, eH, cl, na f hf, ?_, ?_⟩
        · rw [List.length_zip, ← hl, Nat.min_self]; exact hcs.2
        · rw [putF_zip hl]
          have st := Step.wr (w := w2) (a := a) (o := .ins C dx ((insN f ns).zip (insV f u ns us))) hm
          refine po2 (w2.wr a _) σ st.ext ((rl1.step s2 d2).step st (d2.wr ea ⟨C, dx, insV f u ns us, ca', len_put hl, ?_, st.prs (insV_rel (s2.pr r1) rs)⟩))
          show upd w2.H a _ a = _
          rw [upd_same]
      · exact po2.elim
    · exact po2.elim
  | _ => exact po2.elim
/-- o.m(..), with exceptions -/
def tMethS (C : Addr) (m : Str) (sp : Sp) (E : L2.St → XK) (ta : TE) (t : TA) : TE := fun σ H Q => ta σ H fun x H1 => ∃ a dx fs, x = .ref a ∧ H1 a = some (.ins C dx fs) ∧ fs.lookup m = none ∧ t σ H1 fun vs H2 => sp (x :: vs) H2 Q (E σ)
theorem pe_methE {X : Cx} {CX : CXT} {k : Nat} {C g : Addr} {fd : FuncData} {sp : Sp} {E : L2.St → XK} {ta : TE} {t : TA} {pl : Sem Bool} (he : PE X o ta) (c : Cls X.K C) (hm : Meth X.K C m g) (G : FnOk X.prog X.w X.K X.mg X.base CX k g fd ps sp) (hr : Room k X.A) (hb : Binds X.K fd ps []) (hx : ∀ σ, PassesAt CX X σ (E σ)) (ha : PA X (e :: es) t)
    (hst : starEach (e :: es) X.env = (false, eval e X.env) :: starEach es X.env) (hpl : (backTo pos (starEach es X.env)).any (·.1) = false)
    (ht : eval (.Call (.Attribute o m apos) (e :: es) [] pos) X.env = (do
      let ov ← eval o X.env
      standAt apos.atName
      let (f, first) ← holding [ov] (getMethod ov m pl)
      callWith pos f first (backTo pos (starEach (e :: es) X.env)) (backToKw pos (keywordEach [] X.env)))) :
    PE X (.Call (.Attribute o m apos) (e :: es) [] pos) (tMethS C m sp E ta t) := by
  refine ⟨fun pins s σ H Q I h => ?_⟩
  refine PySem.W.methodCall_KW (pl := pl) (thn (he.run pins s σ H _ I h) fun u s1 ⟨x, H1, I1, rx, a, dx, fs, ex, ea, l, q⟩ => ?_) ht
  subst ex
  obtain rfl : u = Value.ref a := rx
  refine getmeth_ok I1 ea c hm l ?_
  refine PySem.W.callWith_K (first := [.ref a]) (h₀ := X.base) I.ok.mod.kin hm.kp (thn (ha.run pos pins s1 σ H1 _ I1 q) fun us s2 ⟨vs, H2, I2, r, q2⟩ => ⟨I2.kIn, ?_⟩) hst hpl
  exact run_fnS (us := .ref a :: us) (vs := .ref a :: vs) G hr hb (hx σ) I2 (.cons rfl r) q2
theorem pe_methE0 {X : Cx} {CX : CXT} {k : Nat} {C g : Addr} {fd : FuncData} {sp : Sp} {E : L2.St → XK} {ta : TE} {pl : Sem Bool} (he : PE X o ta) (c : Cls X.K C) (hm : Meth X.K C m g) (G : FnOk X.prog X.w X.K X.mg X.base CX k g fd ps sp) (hr : Room k X.A) (hb : Binds X.K fd ps []) (hx : ∀ σ, PassesAt CX X σ (E σ))
    (ht : eval (.Call (.Attribute o m apos) [] [] pos) X.env = (do
      let ov ← eval o X.env
      standAt apos.atName
      let (f, first) ← holding [ov] (getMethod ov m pl)
      callWith pos f first (backTo pos (starEach [] X.env)) (backToKw pos (keywordEach [] X.env)))) :
    PE X (.Call (.Attribute o m apos) [] [] pos) (tMethS C m sp E ta tNil) := by
  refine ⟨fun pins s σ H Q I h => ?_⟩
  refine PySem.W.methodCall_KW (pl := pl) (thn (he.run pins s σ H _ I h) fun u s1 ⟨x, H1, I1, rx, a, dx, fs, ex, ea, l, q⟩ => ?_) ht
  subst ex
  obtain rfl : u = Value.ref a := rx
  refine getmeth_ok I1 ea c hm l ?_
  exact PySem.W.callWith_K0 (first := [.ref a]) I1.kIn hm.kp (run_fnS (us := [.ref a]) (vs := [.ref a]) G hr hb (hx σ) I1 (.cons rfl .nil) q)
theorem rd_meth {S : Sx} {W : WX} {C : Addr} {ta : TE} {t : TA} (hc : S.cA c = some C) (q : RdG S (RV S) W ta mo) (q' : RdG S (RVs S) W t mr) : RdG S (RV S) W (tMethS C m (spM S mf) (WE W) ta t) (mMeth c m mf mo mr) :=
  fun w0 w env h σ Q rl po => q w0 w env h σ _ rl (PostE.bind po fun x h1 w1 v s1 d1 r1 po1 => by
    cases x with
    | ref n =>
      obtain ⟨a, rfl, ea⟩ := PW'.ofRef r1
      simp only at po1
      split at po1
      · rename_i c' ns vs eh
        split at po1
        · rename_i ec
          subst ec
          split at po1
          · rename_i en
            obtain ⟨C', dx, us, ca, hl, eH, rs⟩ := d1.at eh ea
            rw [hc] at ca; cases ca
            refine ⟨a, dx, _, rfl, eH, lookup_zip.trans (getF_none rs en), q' w0 w1 env h1 σ _ (rl.step s1 d1) (PostE.bind po1 fun xs h2 w2 vs2 s2 d2 p2 po2 => ?_)⟩
            refine ⟨w2, h2, .ref n :: xs, rfl, d2.nul, .cons (s2.pr r1) p2, ?_⟩
            cases e : mf (.ref n :: xs) h2 with
            | ok x h' => rw [e] at po2; exact fun w' v s d r => po2 w' v s d.unnul r
            | er x h' => rw [e] at po2; exact fun w' c d s dd r => po2 w' c d s dd.unnul r
            | no => rw [e] at po2; exact po2
          · exact po1.elim
        · exact po1.elim
      · exact po1.elim
    | _ => exact po1.elim)
theorem se_meth (ok : F.Ok) (a : SE F o mo) (G : MethOk F.P F.w F.K F.mg F.base F.cA k c m ps mf) (hk : k ≤ F.k) (ha : SA F (e :: es) mr)
    (hst : ∀ i, starEach (e :: es) (F.X i).env = (false, eval e (F.X i).env) :: starEach es (F.X i).env := by intro _; rfl) (hpl : ∀ i, (backTo pos (starEach es (F.X i).env)).any (·.1) = false := by intro _; rfl)
    (ht : ∀ i, ∃ pl : Sem Bool, eval (.Call (.Attribute o m apos) (e :: es) [] pos) (F.X i).env = (do
      let ov ← eval o (F.X i).env
      standAt apos.atName
      let (f, first) ← holding [ov] (getMethod ov m pl)
      callWith pos f first (backTo pos (starEach (e :: es) (F.X i).env)) (backToKw pos (keywordEach [] (F.X i).env))) := by exact fun _ => ⟨_, rfl⟩) :
    SE F (.Call (.Attribute o m apos) (e :: es) [] pos) (mMeth c m mf mo mr) := by
  obtain ⟨C, f, fd, g, ca, cl, M, b⟩ := G.ex
  obtain ⟨t, p, q⟩ := a
  obtain ⟨t', p', q'⟩ := ha
  exact ⟨fun W => tMethS C m (spM F.S mf) (WE W) (t W) (t' W), fun i => let ⟨pl, hp⟩ := ht i; pe_methE (X := F.X i) (pl := pl) (p i) cl M g ((ok.hr i).mono hk) b (fun σ => passAt (ok.tk i) σ) (p' i) (hst i) (hpl i) hp, fun W => rd_meth ca (q W) (q' W)⟩
theorem se_meth0 (ok : F.Ok) (a : SE F o mo) (G : MethOk F.P F.w F.K F.mg F.base F.cA k c m ps mf) (hk : k ≤ F.k)
    (ht : ∀ i, ∃ pl : Sem Bool, eval (.Call (.Attribute o m apos) [] [] pos) (F.X i).env = (do
      let ov ← eval o (F.X i).env
      standAt apos.atName
      let (f, first) ← holding [ov] (getMethod ov m pl)
      callWith pos f first (backTo pos (starEach [] (F.X i).env)) (backToKw pos (keywordEach [] (F.X i).env))) := by exact fun _ => ⟨_, rfl⟩) :
    SE F (.Call (.Attribute o m apos) [] [] pos) (mMeth c m mf mo mNil) := by
  obtain ⟨C, f, fd, g, ca, cl, M, b⟩ := G.ex
  obtain ⟨t, p, q⟩ := a
  exact ⟨fun W => tMethS C m (spM F.S mf) (WE W) (t W) tNil, fun i => let ⟨pl, hp⟩ := ht i; pe_methE0 (X := F.X i) (pl := pl) (p i) cl M g ((ok.hr i).mono hk) b (fun σ => passAt (ok.tk i) σ) hp, fun W => rd_meth ca (q W) fun w0 w env h σ Q rl po => PostE.fin po rl.hd .nil⟩
/-! ### c(..) -/
def tMakeS (C : Addr) (sp : Sp) (E : L2.St → XK) (t : TA) : TE := fun σ H Q => t σ H fun vs H1 => ∀ x dx, H1 x = none → H1 dx = none → dx ≠ x → sp (.ref x :: vs) (upd (upd H1 dx (.own x)) x (.ins C dx [])) (fun v H2 => v = .non ∧ Q (.ref x) H2) (E σ)
theorem run_makeS {X : Cx} {CX : CXT} {k : Nat} {C g : Addr} {fd : FuncData} {sp : Sp} {E : L2.St → XK} {σ : L2.St} {H : Hp} {s : Shared} {Q : VK} {pins : List (Addr × Obj)} {us : List Value} {vs : List V} (M : Mk X.K C g) (G : FnOk X.prog X.w X.K X.mg X.base CX k g fd ps sp) (hr : Room (k + 1) X.A) (hb : Binds X.K fd ps [])
    (hx : PassesAt CX X σ (E σ)) (I : Inv X pins σ H s) (r : Vals vs us)
    (h : ∀ x dx, H x = none → H dx = none → dx ≠ x → sp (.ref x :: vs) (upd (upd H dx (.own x)) x (.ins C dx [])) (fun v H2 => v = .non ∧ Q (.ref x) H2) (E σ)) :
    wpAny (model X.prog X.w) X.A (PySem.call (.ref C) us) (EP X pins σ Q) X.xe s := by
  have made := Inv.made (C := C) I
  have run := h _ _ (I.hok.fresh (Nat.le_succ s.heap.objs.size)) (I.hok.fresh (Nat.le_refl s.heap.objs.size)) (Nat.succ_ne_self s.heap.objs.size).symm
  have rel : Vals (V.ref (s.heap.objs.size + 1) :: vs) (Value.ref (s.heap.objs.size + 1) :: us) := .cons rfl r
  have count : (Value.ref (s.heap.objs.size + 1) :: us ++ []).length = ps.length := by
    rw [List.append_nil, ← rel.length]
    exact G.len _ _ _ _ run
  have bound := hb _ (Value.ref (s.heap.objs.size + 1) :: us) made.kIn count
  rw [List.append_nil] at bound
  refine wpAny_call (make_map (f := g) I.kIn M.makes M.init (beq_iff_eq.mp M.fn) ?_)
  refine codeAny_mono (G.run _ X.stack _ _ ⟨_ :: us, []⟩ _ _ _ (E σ) (hr.make C us []) (made.env0.make C us []) bound rel run) ?_
  rintro (c | fl) t after
  · exact hx pins _ _ c t made after
  · cases fl <;> first | exact False.elim after | skip
    obtain ⟨_, H2, J, rv, rfl, fin⟩ := made.after after
    exact ⟨rv, V.ref _, H2, J, rfl, fin⟩
theorem rd_make {S : Sx} {W : WX} {C : Addr} {t : TA} (hc : S.cA c = some C) (q' : RdG S (RVs S) W t mr) : RdG S (RV S) W (tMakeS C (spM S mf) (WE W) t) (mMake c mf mr) :=
  fun w0 w env h σ Q rl po => q' w0 w env h σ _ rl (PostE.bind po fun xs h1 w1 vs s1 d1 p1 po1 x dx zx zd ne => by
    have st := Step.insMade (w := w1) (C := C) zx zd
    refine ⟨w1.ins x dx C, h1 ++ [.ins c [] []], .ref h1.length :: xs, rfl, (d1.insMade hc zx zd).nul, .cons (.ref ?_) (st.prs p1), ?_⟩
    · show (w1.ad ++ [x])[h1.length]? = some x
      rw [← d1.len, List.getElem?_append_right (Nat.le_refl _), Nat.sub_self]; rfl
    · cases e : mf (.ref h1.length :: xs) (h1 ++ [.ins c [] []]) with
      | no => rw [e] at po1; exact po1
      | er x h' => rw [e] at po1; exact fun w' cls d s dd => po1 w' cls d (st.trans s) dd.unnul
      | ok y h' =>
        rw [e] at po1
        intro w' v s d r
        cases y with
        | non =>
          cases r
          refine ⟨rfl, po1 w' (.ref x) (st.trans s) d.unnul (.ref (s.ix _ _ ?_))⟩
          show (w1.ad ++ [x])[h1.length]? = some x
          rw [← d1.len, List.getElem?_append_right (Nat.le_refl _), Nat.sub_self]; rfl
        | _ => exact po1.elim)
theorem se_make (ok : F.Ok) (G : MakeOk F.P F.w F.K F.mg F.base F.cA k c ps mf) (hk : k + 1 ≤ F.k) (ha : SA F (e :: es) mr) (hg : ∀ i, Gl (F.X i) c := by intro _; rfl) (hdb : (c == ("__debug__" : Str)) = false := by decide)
    (he : ∀ i, starEach (e :: es) (F.X i).env = (false, eval e (F.X i).env) :: starEach es (F.X i).env := by intro _; rfl) (hpl : ∀ i, (backTo pos (starEach es (F.X i).env)).any (·.1) = false := by intro _; rfl) :
    SE F (.Call (.Name c p) (e :: es) [] pos) (mMake c mf mr) := by
  obtain ⟨C, f, fd, g, hm, ca, M, b⟩ := G.ex
  obtain ⟨t, pa, q⟩ := ha
  refine ⟨fun W => tMakeS C (spM F.S mf) (WE W) (t W), fun i => ⟨fun pins s σ H Q I h => ?_⟩, fun W => rd_make ca (q W)⟩
  refine wpAny_Call_Name_kw (ld_glob I (hg i) hm ?_ hdb)
  refine PySem.W.callWith_K (h₀ := (F.X i).base) I.ok.mod.kin M.kp (thn ((pa i).run pos pins s σ H _ I h) fun us s1 ⟨vs, H1, I1, r, q⟩ => ⟨I1.kIn, ?_⟩) (he i) (hpl i)
  exact run_makeS M g ((ok.hr i).mono hk) b (passAt (ok.tk i) σ) I1 r q
theorem se_make0 (ok : F.Ok) (G : MakeOk F.P F.w F.K F.mg F.base F.cA k c ps mf) (hk : k + 1 ≤ F.k) (hg : ∀ i, Gl (F.X i) c := by intro _; rfl) (hdb : (c == ("__debug__" : Str)) = false := by decide) :
    SE F (.Call (.Name c p) [] [] pos) (mMake c mf mNil) := by
  obtain ⟨C, f, fd, g, hm, ca, M, b⟩ := G.ex
  refine ⟨fun W => tMakeS C (spM F.S mf) (WE W) tNil, fun i => ⟨fun pins s σ H Q I h => ?_⟩, fun W => rd_make ca fun w0 w env h σ Q rl po => PostE.fin po rl.hd .nil⟩
  refine wpAny_Call_Name_kw (ld_glob I (hg i) hm ?_ hdb)
  exact PySem.W.callWith_K0 I.kIn M.kp (run_makeS (us := []) M g ((ok.hr i).mono hk) b (passAt (ok.tk i) σ) I .nil h)
end
end Mir

set_option Elab.async false
set_option linter.all false
set_option maxRecDepth 100000
set_option maxHeartbeats 1000000
/-! MirJ: own.extend(tuple or list) -/
namespace Mir
open PySem PySem.Spec PyProof.Rows L2
/-- own.extend(b): b's object, a list or a tuple -/
def Grown (l b : Addr) (old more : Array Value) (cb : Value) (n2 : Nat) (d : Option Addr) (sl : Array (Option Value)) (n : Nat) : PySem.Spec := fun _ post s =>
  s.heap.get? l = some ⟨.type "list", none, .seq old n, #[]⟩ ∧ s.heap.get? b = some ⟨cb, d, .seq more n2, sl⟩ ∧
    post (.ok (.ret Value.none)) { s with heap := s.heap.update l (Obj.mapSeq (· ++ more)) }
theorem grow_fit {old more : Array Value} (fit : old.size + more.size ≤ sizeLine) : (old ++ more).size ≤ sizeLine + 1 ∧ old.size ≤ sizeLine ∧ (!old.isEmpty && Builtin.List.listTooLong (old.size + more.size)) = false := by
  refine ⟨?_, by omega, ?_⟩
  · rw [Array.size_append]
    omega
  · simp only [notLongL fit, Bool.and_false]
theorem extendT {l b : Addr} {old more : Array Value} {n n2 : Nat} {d : Option Addr} {sl : Array (Option Value)} (fit : old.size + more.size ≤ sizeLine) :
    Meets (Builtin.«list.extend» ⟨[.ref l, .ref b], []⟩) (Grown l b old more (.type "tuple") n2 d sl n) := by
  refine .of_wp ?_
  rintro prog w A post ⟨m, gl, dp, tk, ou⟩ ⟨at_l, at_b, fin⟩
  obtain ⟨new_fit, old_fit, short⟩ := grow_fit fit
  have long : ¬ (!old.isEmpty && Builtin.List.listTooLong (old.size + more.size)) = true := by rw [short]; nofun
  have i1 := AutoSeq1.sub_tuple_list
  have i2 := AutoSeq1.sub_tuple_tuple
  have i3 := AutoSeq1.sub_list_list
  wp_walk using (wpAny_updateSeq at_l rfl (hz := old_fit) (_hz' := new_fit)), AutoSeq1.wpAny_loadPart' at_b, AutoSeq1.wpAny_loadPart' at_l
  exact ⟨_, rfl, fin⟩
theorem extendL {l b : Addr} {old more : Array Value} {n n2 : Nat} {d : Option Addr} {sl : Array (Option Value)} (fit : old.size + more.size ≤ sizeLine) :
    Meets (Builtin.«list.extend» ⟨[.ref l, .ref b], []⟩) (Grown l b old more (.type "list") n2 d sl n) := by
  refine .of_wp ?_
  rintro prog w A post ⟨m, gl, dp, tk, ou⟩ ⟨at_l, at_b, fin⟩
  obtain ⟨new_fit, old_fit, short⟩ := grow_fit fit
  have long : ¬ (!old.isEmpty && Builtin.List.listTooLong (old.size + more.size)) = true := by rw [short]; nofun
  have i1 := AutoSeq1.sub_list_tuple
  have i2 := AutoSeq1.sub_list_list
  wp_walk using (wpAny_updateSeq at_l rfl (hz := old_fit) (_hz' := new_fit)), AutoSeq1.wpAny_loadPart' at_b, AutoSeq1.wpAny_loadPart' at_l
  exact ⟨_, rfl, fin⟩
def rExtG (K : PySem.W.Frag) : V → List V → Hp → VK → Prop := fun x vs H Q => ∃ l b xs zs, x = .ref l ∧ vs = [.ref b] ∧ H l = some (.lst xs) ∧ (SqT K H b zs ∨ SqL K H b zs) ∧ xs.length + zs.length ≤ sizeLine ∧ Q .non (upd H l (.lst (xs ++ zs)))
theorem mt_extG {X : Cx} : MtM X "list.extend" (rExtG X.K) := by
  rintro pins s σ H _ _ v us Q I rx rv ⟨l, b, xs, zs, rfl, rfl, at_H, more, fit, q⟩
  cases rx
  obtain ⟨u, rfl, ru⟩ := rv.one
  cases ru
  obtain ⟨_, its, n, r, len, at_l⟩ := I.lstM at_H
  have isL : s.TypeIs (.ref l) "list" := ⟨_, at_l, rfl⟩
  have ready : ∀ ws, Vals zs ws → EP X pins σ Q .none { s with heap := s.heap.update l (Obj.mapSeq (· ++ ws.toArray)) } ∧ its.toArray.size + ws.toArray.size ≤ sizeLine := by
    intro ws rw_
    have ends : (its ++ ws).length ≤ sizeLine := by rw [List.length_append, ← r.length, ← rw_.length]; exact fit
    refine ⟨⟨.non, _, I.lset (its' := its ++ ws) at_H at_l (by simp) (r.append rw_) (by simpa using fit), rfl, q⟩, ?_⟩
    simpa using ends
  rcases more with sq | sq
  · obtain ⟨ws, rw_, ⟨ob, at_b, isT, n2, dat⟩, _⟩ := I.tuple sq
    cases ob
    cases isT
    cases dat
    exact call_meets PySem.F.slot_list_extend isL PySem.F.entry_list_extend (PySem.F.args_list_extend_2 _ _) (extendT (ready ws rw_).2) ⟨at_l, at_b, (ready ws rw_).1⟩
  · obtain ⟨ws, rw_, ⟨ob, n2, at_b, isL2, no, dat⟩, _⟩ := I.list sq
    cases ob
    cases isL2
    cases no
    cases dat
    exact call_meets PySem.F.slot_list_extend isL PySem.F.entry_list_extend (PySem.F.args_list_extend_2 _ _) (extendL (ready ws rw_).2) ⟨at_l, at_b, (ready ws rw_).1⟩
def mExt (i : Nat) (m : ME) : MS := fun env h => match env[i]? with
  | some (.own (.lst xs)) => ofE (m env h) env fun x h => match x with
    | .tup ys => if xs.length + ys.length ≤ 16777216 then .nx (env.set i (.own (.lst (xs ++ ys)))) h else .no
    | .lst ys => if xs.length + ys.length ≤ 16777216 then .nx (env.set i (.own (.lst (xs ++ ys)))) h else .no
    | _ => .no
  | _ => .no
section
variable {F : Fam} {e : Expr} {m : ME} {p apos cpos pos : Pos}
theorem ss_ext (i : Nat) {x : Str} (a : SB F e m) (hN : F.N[i]? = some x := by rfl) (hv : ∀ j, Vis (F.env j).scope x := by first | exact fun _ => Or.inl rfl | exact fun _ => Or.inr (Or.inl rfl) | exact fun _ => Or.inr (Or.inr rfl))
    (hd : (x == ("__debug__" : Str)) = false := by decide) (hcd : (x == ("__classdict__" : Str)) = false := by decide)
    (hst : ∀ j, starEach [e] (F.X j).env = (false, eval e (F.X j).env) :: starEach [] (F.X j).env := by intro _; rfl)
    (hs : ∀ j, swapsWith (.Call (.Attribute (.Name x p) "extend" apos) [e] [] cpos) none pos.line (F.X j).env = pure false := by intro _; rfl)
    (hm : ∀ j, PE (F.X j) (.Name x p) (tVar i) → PA (F.X j) [e] (tCons (Classical.choose a (F.W j)) tNil) → PE (F.X j) (.Call (.Attribute (.Name x p) "extend" apos) [e] [] cpos) (tBM F.K "list" (rExtG F.K) (tVar i) (tCons (Classical.choose a (F.W j)) tNil)) := by exact fun j h1 h2 => pe_bm PySem.F.plainAttrs_list PySem.F.slot_list_extend PySem.F.type_list_extend mt_extG h1 h2) :
    SS F (.Expr (.Call (.Attribute (.Name x p) "extend" apos) [e] [] cpos) pos) (mExt i m) := by
  have hp := (Classical.choose_spec a).1
  have hq := (Classical.choose_spec a).2
  refine ⟨fun W => tDrop (tBM F.K "list" (rExtG F.K) (tVar i) (tCons (Classical.choose a W) tNil)), fun j => ps_expr (hm j (pe_var (X := F.X j) hN (hv j) hd hcd) (pa_cons (hp j) pa_nil (hst j))) (hs j), fun W w0 w env h σ D rl po => ?_⟩
  unfold mExt at po
  split at po
  · rename_i xs ee
    obtain ⟨a1, e1, ⟨vs, ea, rs⟩, f, n, z⟩ := rl.sl.own i _ ee
    refine ⟨_, e1, .inl ⟨rfl, _, SqL.of ea⟩, ?_⟩
    refine hq W w0 w env h σ _ rl (PostS.ofE rl po fun y h1 w1 v s d r p1 => ?_)
    have rl1 := rl.step s d
    obtain ⟨a2, e2, ⟨vs2, ea2, rs2⟩, f2, n2, z2⟩ := rl1.sl.own i _ ee
    rw [e1] at e2
    cases e2
    cases y with
    | tup ys =>
      simp only at p1
      split at p1
      · rename_i hz
        obtain ⟨b, us, rfl, hb, rb⟩ := r.ofTup d
        refine ⟨a1, b, vs2, us, rfl, rfl, ea2, .inl hb, by rw [← rs2.length, ← rb.length, sizeLine_eq]; exact hz, ?_⟩
        exact p1 ⟨w1.Φ, upd w1.H a1 (.lst (vs2 ++ us)), w1.ad⟩ σ ⟨fun _ _ q => q, fun _ _ q => q⟩ (rl1.chg ee e1 (rs2.append rb))
      · exact p1.elim
    | lst ys =>
      simp only at p1
      split at p1
      · rename_i hz
        obtain ⟨b, us, rfl, hb, rb⟩ := r.ofLst d
        refine ⟨a1, b, vs2, us, rfl, rfl, ea2, .inr hb, by rw [← rs2.length, ← rb.length, sizeLine_eq]; exact hz, ?_⟩
        exact p1 ⟨w1.Φ, upd w1.H a1 (.lst (vs2 ++ us)), w1.ad⟩ σ ⟨fun _ _ q => q, fun _ _ q => q⟩ (rl1.chg ee e1 (rs2.append rb))
      · exact p1.elim
    | _ => exact p1.elim
  · exact po.elim
end
/-! ### facts of a class by what k_is finds -/
def cAof (mg : Str → Option Value) : Str → Option Addr := fun c => match mg c with
  | some (.ref C) => some C
  | _ => none
theorem cAof_of {mg : Str → Option Value} {c : Str} {C : Addr} (e : mg c = some (.ref C)) : cAof mg c = some C := by unfold cAof; rw [e]
def NoAttrs (K : PySem.W.Frag) (C : Addr) : List Str → Prop
  | [] => True
  | f :: fs => PySem.W.findIn K (.ref C) f = some none ∧ NoAttrs K C fs
theorem NoAttrs.all {K : PySem.W.Frag} {C : Addr} : ∀ {fs : List Str}, NoAttrs K C fs → ∀ f ∈ fs, NoAttr K C f
  | [], _, f, h => by simp at h
  | g :: gs, ⟨a, b⟩, f, h => by
    rcases List.mem_cons.mp h with e | h
    · subst e; exact a
    · exact NoAttrs.all b f h
section
variable {K : PySem.W.Frag} {mg : Str → Option Value} {h : Heap} {c m qual : Str} {C f : Addr} {fs : List Str} {st : Stmt}
theorem clsAt_mk (X : K.In h) (G : h.Ns mainGlobals mg) (a : PySem.W.nsIn K mainGlobals c = some (some (.ref C))) (pg : PySem.W.plainGet K C Str.empty = true) (hd : PySem.W.hasDictIn K C = true) (po : PySem.W.plainOver K C = true)
    (sa : PySem.W.findIn K (.ref C) "__setattr__" = some (some (.builtin "object.__setattr__"))) (na : NoAttrs K C fs) : ClsAt K mg (cAof mg) c fs :=
  ⟨C, PySem.W.mg_of X G a, cAof_of (PySem.W.mg_of X G a), ⟨pg, hd, po, sa⟩, na.all⟩
theorem methAt_mk {oc : Value} {od an : Option Addr} {osl : Array (Option Value)} {kV doc pm cdv ct : Value} (X : K.In h) (G : h.Ns mainGlobals mg) (a : PySem.W.nsIn K mainGlobals c = some (some (.ref C)))
    (b : PySem.W.findIn K (.ref C) m = some (some (.ref f))) (i : PySem.W.isFn K (.ref f) = true)
    (l : K.lookup f = some ⟨oc, od, .func (PySem.W.fnOf m qual (defArgs st) (defBody st) (defScope st) .none kV doc pm an cdv ct), osl⟩) (cd : PySem.W.codeIn K cdv qual = true) (kp : PySem.W.keepIn K (.ref f) = true) : MethAt K mg c m qual st :=
  ⟨C, f, _, PySem.W.mg_of X G a, fun_mk l cd kp, ⟨b, i, kp⟩⟩
theorem makeAt_mk {oc : Value} {od an : Option Addr} {osl : Array (Option Value)} {kV doc pm cdv ct : Value} (X : K.In h) (G : h.Ns mainGlobals mg) (a : PySem.W.nsIn K mainGlobals c = some (some (.ref C)))
    (b : PySem.W.findIn K (.ref C) "__init__" = some (some (.ref f))) (i : PySem.W.isFn K (.ref f) = true) (mk : PySem.W.makesIn K C = true) (kc : PySem.W.keepIn K (.ref C) = true)
    (l : K.lookup f = some ⟨oc, od, .func (PySem.W.fnOf "__init__" qual (defArgs st) (defBody st) (defScope st) .none kV doc pm an cdv ct), osl⟩) (cd : PySem.W.codeIn K cdv qual = true) (kp : PySem.W.keepIn K (.ref f) = true) : MakeAt K mg c qual st :=
  ⟨C, f, _, PySem.W.mg_of X G a, fun_mk l cd kp, ⟨mk, b, i, kc⟩⟩
/-- the classes of an attribute -/
theorem cl_nil {cA : Str → Option Addr} {f : Str} : ∀ c ∈ ([] : List Str), ∃ fs, ClsAt K mg cA c fs ∧ f ∈ fs := fun c h => by simp at h
theorem cl_cons {cA : Str → Option Addr} {f c0 : Str} {cs : List Str} (k : Nat) (A : ClsAt K mg cA c0 fs) (r : ∀ c ∈ cs, ∃ fs, ClsAt K mg cA c fs ∧ f ∈ fs) (hk : fs[k]? = some f := by rfl) : ∀ c ∈ c0 :: cs, ∃ fs, ClsAt K mg cA c fs ∧ f ∈ fs := fun c h => by
  rcases List.mem_cons.mp h with e | h
  · subst e; exact ⟨fs, A, List.mem_of_getElem? hk⟩
  · exact r c h
end
end Mir

set_option Elab.async false
set_option linter.all false
set_option maxRecDepth 100000
set_option maxHeartbeats 1000000
/-! MirL: x is True, x is not True -/
namespace Mir
open PySem PySem.Spec PyProof.Rows L2
def oIsBG (neg : Bool) : PV → PV → Hh → Res PV := fun x y h => match x, y with
  | .bl a, .bl b => .ok (.bl (if neg then !(decide (a = b)) else decide (a = b))) h
  | _, _ => .no
theorem sim_isB {S : Sx} : Sim2 S (fun x y H Q => ∃ a b, x = .bl a ∧ y = .bl b ∧ Q (.bl (decide (a = b))) H) (oIsBG false) := by
  intro W σ w h x y v u Q d px py po
  unfold oIsBG at po
  split at po
  · rename_i a b
    exact ⟨a, b, px.ofBl, py.ofBl, po.fin d (.bl _)⟩
  · exact po.elim
theorem sim_isNotB {S : Sx} : Sim2 S (fun x y H Q => ∃ a b, x = .bl a ∧ y = .bl b ∧ Q (.bl (!decide (a = b))) H) (oIsBG true) := by
  intro W σ w h x y v u Q d px py po
  unfold oIsBG at po
  split at po
  · rename_i a b
    exact ⟨a, b, px.ofBl, py.ofBl, po.fin d (.bl _)⟩
  · exact po.elim
variable {F : Fam}
theorem c_isB : CmpOk F .Is (oIsBG false) := ⟨_, sim_isB, fun _ => op_is_bl⟩
theorem c_isNotB : CmpOk F .IsNot (oIsBG true) := ⟨_, sim_isNotB, fun _ => op_isnot_bl⟩
@[simp] theorem isB_bl (a b : Bool) (h : Hh) : oIsBG false (.bl a) (.bl b) h = .ok (.bl (decide (a = b))) h := id rfl
@[simp] theorem isNotB_bl (a b : Bool) (h : Hh) : oIsBG true (.bl a) (.bl b) h = .ok (.bl (!decide (a = b))) h := id rfl
end Mir

set_option Elab.async false
set_option linter.all false
set_option maxRecDepth 100000
set_option maxHeartbeats 1000000
/-! MirX: raise of own classes, try .. except -/
namespace Mir
open PySem PySem.Spec PyProof.Rows L2

/-! ### raise C() -/
abbrev bmVE : List Value := [.type "ValueError", .type "Exception", .type "BaseException", .type "object"]
structure ExcAt (K : PySem.W.Frag) (mg : Str → Option Value) (cA : Str → Option Addr) (c : Str) : Prop where
  ex : ∃ C, mg c = some (.ref C) ∧ cA c = some C ∧ PySem.W.excIn K C bmVE "ValueError.__new__" = true ∧ PySem.W.keepIn K (.ref C) = true ∧ PySem.W.subIn K (.ref C) (.type "BaseException") = some true ∧ PySem.W.typeIn K (.ref C) = some (.type "type") ∧ PySem.W.isClsIn K C = true
theorem pmk_own0 {X : Cx} {C : Addr} {bmB : List Value} {B newId initId : String} {x : Str} {p pos : Pos} (F : ExcBaseFacts B newId initId bmB) (q : PySem.W.excIn X.K C bmB newId = true) (gC : X.mg x = some (.ref C)) (kC : PySem.W.keepIn X.K (.ref C) = true) (r : Raises X (.ref C)) (hg : Gl X x)
    (hdb : (x == ("__debug__" : Str)) = false := by decide) : PMk X (.Call (.Name x p) [] [] pos) (fun _ H Q => Q (.ref C) none H) := by
  intro pins s σ H Q I h
  refine wpAny_Call_Name_kw (ld_glob I hg gC ?_ hdb)
  refine PySem.W.callWith_K0 I.kIn kC ?_
  show wpAny _ _ (PySem.call (.ref C) []) _ _ _
  obtain ⟨bm, N, nm, qn, bs, hdct, sn, sub, ab, col, dd, k0, k1, k2, k3, k5, mN, hC, hN, hni, T⟩ := exc_obj I.kIn q
  refine wpAny_call_exc_subT F T hC hN hni (fun h' e hm => ?_) (by show 0 ≤ sizeLine; rw [sizeLine_eq]; omega)
  exact mk_of I hm r h (I.hok.gone hm.new)
def mRaise (c : Str) : MS := fun env h => .er ⟨c, [], []⟩ env h
section
variable {F : Fam} {c : Str} {p pos pos' : Pos}
theorem ss_raise (hc : F.calm = true) (ok : F.Ok) (E : ExcAt F.K F.mg F.cA c) (hg : ∀ i, Gl (F.X i) c := by intro _; rfl) (hdb : (c == ("__debug__" : Str)) = false := by decide) : SS F (.Raise (some (.Call (.Name c p) [] [] pos')) none pos) (mRaise c) := by
  obtain ⟨C, gC, ca, xC, kC, bC, tC', _⟩ := E.ex
  exact ⟨fun W => fun _ σ H => W (.ref C) none σ H, fun i => ps_raise (X := F.X i) hc (ok.tk i) (pmk_own0 PySem.F.excBase_ValueError xC gC kC (raises_own bC tC') (hg i) hdb),
    fun W w0 w env h σ D rl po => po w σ (.ref C) none (Ext.refl w) rl ⟨C, ca, rfl, .inl ⟨rfl, rfl⟩⟩⟩
end

/-! ### try -/
structure TrIx (F : Fam) where
  i : F.ι
  pn : List (Addr × Obj)
  xe : Value → Shared → Prop
  W : WX
  tk : Takes ((F.X i).tr pn xe) W
  po : PassesOwn (model F.P F.w) (F.A i) (F.env i) xe
def Fam.tr (F : Fam) : Fam where
  ι := TrIx F
  P := F.P
  w := F.w
  K := F.K
  mg := F.mg
  base := F.base
  N := F.N
  calm := F.calm
  cA := F.cA
  ea := F.ea
  ed := F.ed
  k := F.k
  A := fun j => F.A j.i
  s0 := fun j => F.s0 j.i
  H0 := fun j => F.H0 j.i
  env := fun j => F.env j.i
  outer := fun j => F.outer j.i
  stack := fun j => F.stack j.i
  ex := fun j => F.ex j.i
  fn := fun j => F.fn j.i
  pn := fun j => j.pn
  xe := fun j => j.xe
  W := fun j => j.W
theorem Fam.tr_ok {F : Fam} (ok : F.Ok) : F.tr.Ok where
  tk := fun j => j.tk
  hr := fun j => ok.hr j.i
  nd := ok.nd
  po := fun j => j.po
def Fam.su (F : Fam) (a : Addr) (oe : Obj) (d : Option Addr) : Fam where
  ι := F.ι × List (Addr × Obj)
  P := F.P
  w := F.w
  K := F.K
  mg := F.mg
  base := F.base
  N := F.N
  calm := false
  cA := F.cA
  ea := a
  ed := d
  k := F.k
  A := fun j => (F.A j.1).mark (some (.ref a))
  s0 := fun j => F.s0 j.1
  H0 := fun j => F.H0 j.1
  env := fun j => F.env j.1
  outer := fun j => F.outer j.1
  stack := fun j => F.stack j.1
  ex := fun j => F.ex j.1
  fn := fun j => F.fn j.1
  pn := fun j => (a, oe) :: j.2
  xe := fun _ _ _ => False
  W := fun _ _ _ _ _ => False
/-- a suite for an exception of one of the classes cs -/
def SSu (F : Fam) (cs : List Str) (sts : List Stmt) (ms : Xn → MS) : Prop :=
  ∀ (x : Xn), x.c ∈ cs → ∀ (C : Addr), F.cA x.c = some C → ∀ (a : Addr) (oe : Obj) (d : Option Addr), Zc (.ref C) d oe → (∃ vs, oe.data = .fields vs) → SSs (F.su a oe d) sts (ms x)
/-- except c: the classes cs are caught, the classes no are not -/
structure CatchAt (K : PySem.W.Frag) (mg : Str → Option Value) (cA : Str → Option Addr) (c : Str) (cs no : List Str) : Prop where
  ex : ∃ C, mg c = some (.ref C) ∧ (∀ c' ∈ cs, ∀ C', cA c' = some C' → PySem.W.exmOne K (.ref C') (.ref C) = some true) ∧ (∀ c' ∈ no, ∀ C', cA c' = some C' → PySem.W.exmOne K (.ref C') (.ref C) = some false)
def isEx : SV → Bool
  | .ex _ => true
  | _ => false
def noEx (env : En) : Bool := !(env.any isEx)
def mTryAs (cs no : List Str) (i : Nat) (mb : MS) (ms : Xn → MS) : MS := fun env h => match mb env h with
  | .er x env' h' => if x.c ∈ cs then (if noEx env' = true then (match ms x (env'.set i (.ex x)) h' with
      | .nx e2 h2 => if noEx (e2.set i .un) = true then .nx (e2.set i .un) h2 else .no
      | .rt v h2 => .rt v h2
      | .bk e2 h2 => if noEx (e2.set i .un) = true then .bk (e2.set i .un) h2 else .no
      | .ct e2 h2 => if noEx (e2.set i .un) = true then .ct (e2.set i .un) h2 else .no
      | _ => .no) else .no) else if x.c ∈ no then .er x env' h' else .no
  | r => r
def mTry (cs no : List Str) (mb : MS) (ms : Xn → MS) : MS := fun env h => match mb env h with
  | .er x env' h' => if x.c ∈ cs then (if noEx env' = true then (match ms x env' h' with
      | .nx e2 h2 => if noEx e2 = true then .nx e2 h2 else .no
      | .rt v h2 => .rt v h2
      | .bk e2 h2 => if noEx e2 = true then .bk e2 h2 else .no
      | .ct e2 h2 => if noEx e2 = true then .ct e2 h2 else .no
      | _ => .no) else .no) else if x.c ∈ no then .er x env' h' else .no
  | r => r
theorem noEx_at {env : En} (h : noEx env = true) {i : Nat} {x : Xn} (e : env[i]? = some (.ex x)) : False := by
  unfold noEx at h
  have : env.any isEx = true := List.any_eq_true.mpr ⟨_, List.mem_of_getElem? e, rfl⟩
  rw [this] at h; cases h
theorem Rl.conv {S S' : Sx} {w0 w : Wd} {env : En} {h : Hh} {σ : L2.St} (hK : S.K = S'.K) (hc : S.cA = S'.cA) (r : Rl S w0 w env h σ) (q : ∀ (i : Nat) (x : Xn), env[i]? = some (.ex x) → σ[i]? = some (some (.ref S'.ea)) ∧ XD S' w S'.ed x) : Rl S' w0 w env h σ := by
  refine ⟨r.st, r.hd.conv hK hc, r.sl.len, fun i x e => ?_, fun i o e => ?_, r.sl.sep, q⟩
  · obtain ⟨v, e1, e2⟩ := r.sl.slot i x e
    exact ⟨v, e1, by unfold PW'; rw [← hK]; exact e2⟩
  · obtain ⟨a, e1, ro, f, n, z⟩ := r.sl.own i o e
    exact ⟨a, e1, ro.conv hK hc, f, n, z⟩
theorem Sl.put_ex {S : Sx} {w0 w : Wd} {env : En} {σ : L2.St} (s : Sl S w0 w env σ) (i : Nat) {x : Xn} (hx : XD S w S.ed x) : Sl S w0 w (env.set i (.ex x)) (σ.set i (some (.ref S.ea))) := by
  refine ⟨by simp [s.len], fun j y e => ?_, fun j o e => ?_, fun j k o o' a e1 e2 f1 f2 => ?_, fun j y e => ?_⟩
  · rcases set_get _ _ _ _ e with ⟨rfl, e1, hl⟩ | ⟨hj, e1⟩
    · cases e1
    · rw [List.getElem?_set_ne (Ne.symm hj)]; exact s.slot j y e1
  · rcases set_get _ _ _ _ e with ⟨rfl, e1, hl⟩ | ⟨hj, e1⟩
    · cases e1
    · rw [List.getElem?_set_ne (Ne.symm hj)]; exact s.own j o e1
  · rcases set_get _ _ _ _ e1 with ⟨rfl, g, hl⟩ | ⟨hj, g⟩
    · cases g
    · rcases set_get _ _ _ _ e2 with ⟨rfl, g2, hl⟩ | ⟨hk, g2⟩
      · cases g2
      · rw [List.getElem?_set_ne (Ne.symm hj)] at f1
        rw [List.getElem?_set_ne (Ne.symm hk)] at f2
        exact s.sep j k o o' a g g2 f1 f2
  · rcases set_get _ _ _ _ e with ⟨rfl, e1, hl⟩ | ⟨hj, e1⟩
    · cases e1
      exact ⟨by rw [List.getElem?_set_self (by rw [← s.len]; exact hl)], hx⟩
    · rw [List.getElem?_set_ne (Ne.symm hj)]; exact s.exq j y e1
theorem XD.conv {S S' : Sx} {w : Wd} {d : Option Addr} {x : Xn} (hK : S.K = S'.K) (h : XD S w d x) : XD S' w d x := by
  rcases h with h | ⟨dd, vs, e1, e2, e3, e4, e5⟩
  · exact .inl h
  · exact .inr ⟨dd, vs, e1, e2, e3, e4, by unfold PWs; rw [← hK]; exact e5⟩
section
variable {F : Fam} {c n : Str} {cs no : List Str} {i : Nat} {body suite : List Stmt} {b0 : Stmt} {np pos pos' : Pos} {mb : MS} {ms : Xn → MS}
/-- the reading of a suite for whatever exception -/
def tSu (F : Fam) (cs : List Str) (sts : List Stmt) (ms : Xn → MS) (hs : SSu F cs sts ms) (a : Addr) (cls : Value) (d : Option Addr) : TS := fun D σ H =>
  ∃ (x : Xn) (C : Addr) (hx : x.c ∈ cs) (hC : F.cA x.c = some C), cls = .ref C ∧ ∀ (oe : Obj) (hz : Zc (.ref C) d oe) (hf : ∃ vs, oe.data = .fields vs), Classical.choose (hs x hx C hC a oe d hz hf) (fun _ _ _ _ => False) D σ H
theorem pss_su (hs : SSu F cs (b0 :: suite) ms) (i : F.ι) (a : Addr) (oe : Obj) (cls : Value) (d : Option Addr) (pn : List (Addr × Obj)) (hz : Zc cls d oe) (hf : ∃ vs, oe.data = .fields vs) : PSs ((F.X i).suite a ((a, oe) :: pn)) (b0 :: suite) (tSu F cs (b0 :: suite) ms hs a cls d) := by
  refine ⟨fun pins s σ H D I h => ?_⟩
  obtain ⟨x, C, hx, hC, rfl, h⟩ := h
  exact ((Classical.choose_spec (hs x hx C hC a oe d hz hf)).1 (i, pn)).run pins s σ H D I (h oe hz hf)
theorem ss_tryAs (ok : F.Ok) (cat : CatchAt F.K F.mg F.cA c cs no) (hb : SSs F.tr body mb) (hs : SSu F cs (b0 :: suite) ms)
    (hst : ∀ i, F.stack i = F.env i :: F.outer i := by intro _; rfl) (hfr : ∀ i, (F.env i).frame = some (F.env i).locals := by intro _; rfl) (hi : F.N[i]? = some n := by rfl) (hln : ∀ j, (F.env j).kindOf n = some .local := by intro _; rfl)
    (hg : ∀ i, Gl (F.X i) c := by intro _; rfl) (hdb : (c == ("__debug__" : Str)) = false := by decide) :
    SS F (.Try body [.ExceptHandler (some (.Name c np)) (some n) (b0 :: suite) pos'] [] [] pos) (mTryAs cs no i mb ms) := by
  obtain ⟨C, gC, yes, nay⟩ := cat.ex
  obtain ⟨tb, pb, qb⟩ := hb
  refine ⟨fun W => fun D σ H => tb (wAs F.K (.ref C) i (tSu F cs (b0 :: suite) ms hs) W D) D σ H, fun j => ps_try_as (X := F.X j) (hst j) (hfr j) ok.nd hi (hln j) ⟨hg j, hdb, .inl gC⟩ (ok.tk j)
    (fun W pn xe tk po => pb ⟨j, pn, xe, W, tk, po⟩) (fun a oe cls d pn hz hf => pss_su hs j a oe cls d pn hz hf), fun W w0 w env h σ D rl po => ?_⟩
  refine qb _ w0 w env h σ D rl ?_
  unfold mTryAs at po
  cases em : mb env h with
  | nx env' h' => rw [em] at po; exact po
  | rt v h' => rw [em] at po; exact po
  | bk env' h' => rw [em] at po; exact po
  | ct env' h' => rw [em] at po; exact po
  | no => rw [em] at po; exact po
  | er x env' h' =>
    rw [em] at po
    simp only at po
    intro w' σ' cls d xt rl' ⟨Cx, cx, ec, xd⟩
    subst ec
    split at po
    · rename_i hx
      split at po
      · rename_i hne
        refine ⟨true, yes x.c hx Cx cx, fun _ a na => ⟨x, Cx, hx, cx, rfl, fun oe hz hf => ?_⟩, fun q => Bool.noConfusion q⟩
        refine (Classical.choose_spec (hs x hx Cx cx a oe d hz hf)).2 (fun _ _ _ _ => False) w0 w' (env'.set i (.ex x)) h' _ _ ⟨rl'.st, (rl'.hd.conv (S := F.S) (S' := (F.su a oe d).S) rfl rfl), Sl.put_ex (S := (F.su a oe d).S) ?_ i (xd.conv (S := F.S) (S' := (F.su a oe d).S) rfl)⟩ ?_
        · exact (Rl.conv (S := F.S) (S' := (F.su a oe d).S) rfl rfl rl' fun j y e => (noEx_at hne e).elim).sl
        · cases es : ms x (env'.set i (.ex x)) h' with
          | nx e2 h2 =>
            rw [es] at po; simp only at po
            split at po
            · rename_i hn2
              exact fun w2 σ2 x2 r2 => po w2 (σ2.set i none) (xt.trans x2) (Rl.conv (S := (F.su a oe d).S) (S' := F.S) rfl rfl ⟨r2.st, r2.hd, r2.sl.un i⟩ fun j y e => (noEx_at hn2 e).elim)
            · exact po.elim
          | rt v h2 =>
            rw [es] at po
            exact fun w2 v2 s2 d2 p2 => po w2 v2 s2 (d2.conv (S := (F.su a oe d).S) (S' := F.S) rfl rfl) p2
          | bk e2 h2 =>
            rw [es] at po; simp only at po
            split at po
            · rename_i hn2
              exact fun w2 σ2 x2 r2 => po w2 (σ2.set i none) (xt.trans x2) (Rl.conv (S := (F.su a oe d).S) (S' := F.S) rfl rfl ⟨r2.st, r2.hd, r2.sl.un i⟩ fun j y e => (noEx_at hn2 e).elim)
            · exact po.elim
          | ct e2 h2 =>
            rw [es] at po; simp only at po
            split at po
            · rename_i hn2
              exact fun w2 σ2 x2 r2 => po w2 (σ2.set i none) (xt.trans x2) (Rl.conv (S := (F.su a oe d).S) (S' := F.S) rfl rfl ⟨r2.st, r2.hd, r2.sl.un i⟩ fun j y e => (noEx_at hn2 e).elim)
            · exact po.elim
          | er y e2 h2 => rw [es] at po; exact po.elim
          | no => rw [es] at po; exact po.elim
      · exact po.elim
    · split at po
      · rename_i hx
        exact ⟨false, nay x.c hx Cx cx, fun q => Bool.noConfusion q, fun _ => po w' σ' (.ref Cx) d xt rl' ⟨Cx, cx, rfl, xd⟩⟩
      · exact po.elim
theorem ss_try (ok : F.Ok) (cat : CatchAt F.K F.mg F.cA c cs no) (hb : SSs F.tr body mb) (hs : SSu F cs (b0 :: suite) ms)
    (hst : ∀ i, F.stack i = F.env i :: F.outer i := by intro _; rfl) (hfr : ∀ i, (F.env i).frame = some (F.env i).locals := by intro _; rfl)
    (hg : ∀ i, Gl (F.X i) c := by intro _; rfl) (hdb : (c == ("__debug__" : Str)) = false := by decide) :
    SS F (.Try body [.ExceptHandler (some (.Name c np)) none (b0 :: suite) pos'] [] [] pos) (mTry cs no mb ms) := by
  obtain ⟨C, gC, yes, nay⟩ := cat.ex
  obtain ⟨tb, pb, qb⟩ := hb
  refine ⟨fun W => fun D σ H => tb (wOnly F.K (.ref C) (tSu F cs (b0 :: suite) ms hs) W D) D σ H, fun j => ps_try_only (X := F.X j) (hst j) (hfr j) ⟨hg j, hdb, .inl gC⟩ (ok.tk j)
    (fun W pn xe tk po => pb ⟨j, pn, xe, W, tk, po⟩) (fun a oe cls d pn hz hf => pss_su hs j a oe cls d pn hz hf), fun W w0 w env h σ D rl po => ?_⟩
  refine qb _ w0 w env h σ D rl ?_
  unfold mTry at po
  cases em : mb env h with
  | nx env' h' => rw [em] at po; exact po
  | rt v h' => rw [em] at po; exact po
  | bk env' h' => rw [em] at po; exact po
  | ct env' h' => rw [em] at po; exact po
  | no => rw [em] at po; exact po
  | er x env' h' =>
    rw [em] at po
    simp only at po
    intro w' σ' cls d xt rl' ⟨Cx, cx, ec, xd⟩
    subst ec
    split at po
    · rename_i hx
      split at po
      · rename_i hne
        refine ⟨true, yes x.c hx Cx cx, fun _ a na => ⟨x, Cx, hx, cx, rfl, fun oe hz hf => ?_⟩, fun q => Bool.noConfusion q⟩
        refine (Classical.choose_spec (hs x hx Cx cx a oe d hz hf)).2 (fun _ _ _ _ => False) w0 w' env' h' _ _ (Rl.conv (S := F.S) (S' := (F.su a oe d).S) rfl rfl rl' fun j y e => (noEx_at hne e).elim) ?_
        cases es : ms x env' h' with
        | nx e2 h2 =>
          rw [es] at po; simp only at po
          split at po
          · rename_i hn2
            exact fun w2 σ2 x2 r2 => po w2 σ2 (xt.trans x2) (Rl.conv (S := (F.su a oe d).S) (S' := F.S) rfl rfl r2 fun j y e => (noEx_at hn2 e).elim)
          · exact po.elim
        | rt v h2 =>
          rw [es] at po
          exact fun w2 v2 s2 d2 p2 => po w2 v2 s2 (d2.conv (S := (F.su a oe d).S) (S' := F.S) rfl rfl) p2
        | bk e2 h2 =>
          rw [es] at po; simp only at po
          split at po
          · rename_i hn2
            exact fun w2 σ2 x2 r2 => po w2 σ2 (xt.trans x2) (Rl.conv (S := (F.su a oe d).S) (S' := F.S) rfl rfl r2 fun j y e => (noEx_at hn2 e).elim)
          · exact po.elim
        | ct e2 h2 =>
          rw [es] at po; simp only at po
          split at po
          · rename_i hn2
            exact fun w2 σ2 x2 r2 => po w2 σ2 (xt.trans x2) (Rl.conv (S := (F.su a oe d).S) (S' := F.S) rfl rfl r2 fun j y e => (noEx_at hn2 e).elim)
          · exact po.elim
        | er y e2 h2 => rw [es] at po; exact po.elim
        | no => rw [es] at po; exact po.elim
      · exact po.elim
    · split at po
      · rename_i hx
        exact ⟨false, nay x.c hx Cx cx, fun q => Bool.noConfusion q, fun _ => po w' σ' (.ref Cx) d xt rl' ⟨Cx, cx, rfl, xd⟩⟩
      · exact po.elim
end
end Mir

set_option Elab.async false
set_option linter.all false
set_option maxRecDepth 100000
set_option maxHeartbeats 1000000
/-! MirY: isinstance(e, C) in a suite; the facts of classes of exceptions -/
namespace Mir
open PySem PySem.Spec PyProof.Rows L2
/-- isinstance of an exception of the class c', asked of T -/
structure IsEAt (K : PySem.W.Frag) (mg : Str → Option Value) (cA : Str → Option Addr) (c' T : Str) (b : Bool) : Prop where
  ex : ∃ C' u, cA c' = some C' ∧ ((∃ CT, u = Value.ref CT ∧ mg T = some (.ref CT)) ∨ (∃ n : String, u = Value.type n ∧ mg T = none ∧ bootBuiltins T = some (.type n) ∧ T ≠ "__name__")) ∧ ExcC K C' ∧ PySem.W.kitOne K (.ref C') u = some b
def mIsE (i : Nat) (b : Bool) : ME := fun env h => match env[i]? with
  | some (.ex x) => if x.ns = [] then .ok (.bl b) h else .no
  | _ => .no
section
variable {F : Fam} {T n : Str} {cs : List Str} {p p1 p2 pos : Pos} {x : Xn} {C a : Addr} {oe : Obj} {d : Option Addr} {b : Bool}
theorem se_isE (i : Nat) (hm : F.mg "isinstance" = none) (hI : ∀ c' ∈ cs, IsEAt F.K F.mg F.cA c' T b) (hx : x.c ∈ cs) (hC : F.cA x.c = some C) (hz : Zc (.ref C) d oe) (hf : ∃ vs, oe.data = .fields vs)
    (hN : F.N[i]? = some n := by rfl) (hv : ∀ j, Vis (F.env j).scope n := by first | exact fun _ => Or.inl rfl | exact fun _ => Or.inr (Or.inl rfl) | exact fun _ => Or.inr (Or.inr rfl))
    (hd : (n == ("__debug__" : Str)) = false := by decide) (hcd : (n == ("__classdict__" : Str)) = false := by decide) (hg : ∀ i, Gl (F.X i) "isinstance" := by intro _; rfl) (hg2 : ∀ i, Gl (F.X i) T := by intro _; rfl) (hdT : (T == ("__debug__" : Str)) = false := by decide)
    (hst : ∀ j, starEach [.Name n p1, .Name T p2] (F.X j).env = (false, eval (.Name n p1) (F.X j).env) :: starEach [.Name T p2] (F.X j).env := by intro _; rfl)
    (hst2 : ∀ j, starEach [.Name T p2] (F.X j).env = (false, eval (.Name T p2) (F.X j).env) :: starEach [] (F.X j).env := by intro _; rfl)
    (hpl : ∀ j, (backTo pos (starEach [.Name T p2] (F.X j).env)).any (·.1) = false := by intro _; rfl) :
    SE (F.su a oe d) (.Call (.Name "isinstance" p) [.Name n p1, .Name T p2] [] pos) (mIsE i b) := by
  obtain ⟨C', u, ca, hu, eC, kit⟩ := (hI x.c hx).ex
  rw [hC] at ca; cases ca
  by_cases hd0 : d = none
  · subst hd0
    rcases hu with ⟨CT, rfl, mT⟩ | ⟨nm, rfl, mT, bT, nT⟩
    · refine ⟨fun _ => tCB (rIsE F.K C a) (tCons (tVar i) (tCons (tC (.ref CT)) tNil)), fun j => ?_, fun W w0 w env h σ Q r po => ?_⟩
      · have h1 : PE ((F.su a oe none).X j) (.Name n p1) (tVar i) := pe_var (X := (F.su a oe none).X j) hN (hv j.1) hd hcd
        have h2 : PE ((F.su a oe none).X j) (.Name T p2) (tC (.ref CT)) := pe_glob (X := (F.su a oe none).X j) (v := V.ref CT) (hg2 j.1) mT rfl hdT
        exact pe_callB (X := (F.su a oe none).X j) (call_isE (X := F.X j.1) (pn := j.2) eC hz hf) (hg j.1) hm (by decide +kernel) (pa_cons h1 (pa_cons h2 pa_nil (hst2 j.1)) (hst j.1)) (by decide) (by decide) (hst j.1) (hpl j.1)
      · unfold mIsE at po
        split at po
        · rename_i x e
          split at po
          · exact ⟨.ref a, (r.sl.exq i x e).1, .ref CT, .ref CT, b, rfl, fun u ru => ru, kit, po.fin r.hd (.bl b)⟩
          · exact po.elim
        · exact po.elim
    · refine ⟨fun _ => tCB (rIsE F.K C a) (tCons (tVar i) (tCons (tC (.ty nm)) tNil)), fun j => ?_, fun W w0 w env h σ Q r po => ?_⟩
      · have h1 : PE ((F.su a oe none).X j) (.Name n p1) (tVar i) := pe_var (X := (F.su a oe none).X j) hN (hv j.1) hd hcd
        have h2 : PE ((F.su a oe none).X j) (.Name T p2) (tC (.ty nm)) := pe_bltn (X := (F.su a oe none).X j) (v := V.ty nm) (hg2 j.1) mT bT rfl nT hdT
        exact pe_callB (X := (F.su a oe none).X j) (call_isE (X := F.X j.1) (pn := j.2) eC hz hf) (hg j.1) hm (by decide +kernel) (pa_cons h1 (pa_cons h2 pa_nil (hst2 j.1)) (hst j.1)) (by decide) (by decide) (hst j.1) (hpl j.1)
      · unfold mIsE at po
        split at po
        · rename_i x e
          split at po
          · exact ⟨.ref a, (r.sl.exq i x e).1, .ty nm, .type nm, b, rfl, fun u ru => ru, kit, po.fin r.hd (.bl b)⟩
          · exact po.elim
        · exact po.elim
  · refine ⟨fun _ _ _ _ => False, fun j => ⟨fun _ _ _ _ _ _ h => h.elim⟩, fun W w0 w env h σ Q r po => ?_⟩
    unfold mIsE at po
    split at po
    · rename_i x e
      split at po
      · rename_i hn
        rcases (r.sl.exq i x e).2 with ⟨_, k⟩ | ⟨dd, vs, k, ⟨k2, _⟩, _⟩
        · exact hd0 k
        · exact k2 hn
      · exact po.elim
    · exact po.elim
end
/-! ### facts by what k_is finds -/
section
variable {K : PySem.W.Frag} {mg : Str → Option Value} {h : Heap} {c c' T : Str} {C C' CT : Addr} {b : Bool} {cs no : List Str}
theorem excAt_mk (X : K.In h) (G : h.Ns mainGlobals mg) (a : PySem.W.nsIn K mainGlobals c = some (some (.ref C))) (x : PySem.W.excIn K C bmVE "ValueError.__new__" = true) (k : PySem.W.keepIn K (.ref C) = true) (s : PySem.W.subIn K (.ref C) (.type "BaseException") = some true) (t : PySem.W.typeIn K (.ref C) = some (.type "type")) (i : PySem.W.isClsIn K C = true) : ExcAt K mg (cAof mg) c :=
  ⟨C, PySem.W.mg_of X G a, cAof_of (PySem.W.mg_of X G a), x, k, s, t, i⟩
/-- c' is (not) a subclass of c -/
structure SubAt (K : PySem.W.Frag) (mg : Str → Option Value) (c' c : Str) (b : Bool) : Prop where
  ex : ∃ C' C, mg c' = some (.ref C') ∧ mg c = some (.ref C) ∧ PySem.W.subIn K (.ref C') (.ref C) = some b
theorem subAt_mk (X : K.In h) (G : h.Ns mainGlobals mg) (a : PySem.W.nsIn K mainGlobals c' = some (some (.ref C'))) (a2 : PySem.W.nsIn K mainGlobals c = some (some (.ref C))) (s : PySem.W.subIn K (.ref C') (.ref C) = some b) : SubAt K mg c' c b :=
  ⟨C', C, PySem.W.mg_of X G a, PySem.W.mg_of X G a2, s⟩
theorem exm_gen {t : Value} {S : Addr} (h1 : PySem.W.subIn K (.ref S) (.type "BaseException") = some true) (h2 : PySem.W.isClsIn K S = true) (h3 : PySem.W.typeIn K (.ref S) = some (.type "type")) (h4 : PySem.W.subIn K t (.ref S) = some b) : PySem.W.exmOne K t (.ref S) = some b := by
  have e1 : (PySem.W.subIn K (.ref S) (.type "BaseException") == some true) = true := by rw [h1] <;> rfl
  have e2 : ((PySem.W.clsIn K S).isSome && PySem.W.typeIn K (.ref S) == some (.type "type")) = true := by
    have h2' : (PySem.W.clsIn K S).isSome = true := h2
    rw [h2', h3] <;> rfl
  show (if (PySem.W.subIn K (.ref S) (.type "BaseException") == some true) = true then (if ((PySem.W.clsIn K S).isSome && PySem.W.typeIn K (.ref S) == some (.type "type")) = true then PySem.W.subIn K t (.ref S) else none) else none) = some b
  rw [if_pos e1, if_pos e2]
  exact h4
theorem cAof_inv {C : Addr} (e : cAof mg c = some C) : mg c = some (.ref C) := by
  unfold cAof at e
  split at e
  · rename_i C2 e2; cases e; exact e2
  · cases e
theorem catch_nil (E : ExcAt K mg (cAof mg) c) : CatchAt K mg (cAof mg) c [] [] :=
  let ⟨C, gC, _⟩ := E.ex
  ⟨C, gC, fun _ h => by simp at h, fun _ h => by simp at h⟩
theorem catch_yes (E : ExcAt K mg (cAof mg) c) (S : SubAt K mg c' c true) (r : CatchAt K mg (cAof mg) c cs no) : CatchAt K mg (cAof mg) c (c' :: cs) no := by
  obtain ⟨C, gC, r1, r2⟩ := r.ex
  obtain ⟨C1, gC1, _, _, _, h1, h3, h2⟩ := E.ex
  obtain ⟨D', D, gD', gD, s⟩ := S.ex
  rw [gC] at gC1 gD; cases gC1; cases gD
  refine ⟨C, gC, fun k hk C' e => ?_, r2⟩
  rcases List.mem_cons.mp hk with q | hk
  · subst q
    have := cAof_inv e
    rw [gD'] at this; cases this
    exact exm_gen h1 h2 h3 s
  · exact r1 k hk C' e
theorem catch_no (E : ExcAt K mg (cAof mg) c) (S : SubAt K mg c' c false) (r : CatchAt K mg (cAof mg) c cs no) : CatchAt K mg (cAof mg) c cs (c' :: no) := by
  obtain ⟨C, gC, r1, r2⟩ := r.ex
  obtain ⟨C1, gC1, _, _, _, h1, h3, h2⟩ := E.ex
  obtain ⟨D', D, gD', gD, s⟩ := S.ex
  rw [gC] at gC1 gD; cases gC1; cases gD
  refine ⟨C, gC, r1, fun k hk C' e => ?_⟩
  rcases List.mem_cons.mp hk with q | hk
  · subst q
    have := cAof_inv e
    rw [gD'] at this; cases this
    exact exm_gen h1 h2 h3 s
  · exact r2 k hk C' e
theorem excC_mk (hg : PySem.W.findIn K (.ref C) "__getattribute__" = some (some (.builtin "BaseException.__getattribute__"))) (hk : PySem.W.findIn K (.ref C) "__getattr__" = some none) (hs : PySem.W.subIn K (.ref C) (.type "BaseException") = some true) (hd : PySem.W.hasDictIn K C = true)
    (ha : PySem.W.findIn K (.ref C) "__class__" = some (some (.builtin "object.__class__"))) (hn : PySem.W.specialIn K (.builtin "object.__class__") "__get__" = some (some (.builtin "getset_descriptor.__get__"))) (ht : PySem.W.takesIn K (.builtin "object.__class__") = some true) (hm : PySem.W.mroIn K C (.type "object") = some true) : ExcC K C := ⟨hg, hk, hs, hd, ha, hn, ht, hm⟩
/-- the class c' as one whose instances isinstance may be asked of -/
structure ExcCAt (K : PySem.W.Frag) (mg : Str → Option Value) (c' : Str) : Prop where
  ex : ∃ C', mg c' = some (.ref C') ∧ ExcC K C'
theorem excCAt_mk (X : K.In h) (G : h.Ns mainGlobals mg) (a : PySem.W.nsIn K mainGlobals c' = some (some (.ref C'))) (e : ExcC K C') : ExcCAt K mg c' := ⟨C', PySem.W.mg_of X G a, e⟩
theorem isE_own (E : ExcCAt K mg c') (ET : ExcAt K mg (cAof mg) T) (S : SubAt K mg c' T b) (S0 : SubAt K mg c' c' true) : IsEAt K mg (cAof mg) c' T b := by
  obtain ⟨C', g', e⟩ := E.ex
  obtain ⟨CT, gT, _, _, _, _, h3, h2⟩ := ET.ex
  obtain ⟨D', D, gD', gD, s⟩ := S.ex
  rw [g'] at gD'; rw [gT] at gD; cases gD'; cases gD
  refine ⟨C', .ref CT, cAof_of g', .inl ⟨CT, rfl, gT⟩, e, ?_⟩
  unfold PySem.W.kitOne
  split
  · rename_i q
    have q' : C' = CT := by simpa using q
    subst q'
    obtain ⟨D1, D2, f1, f2, s0⟩ := S0.ex
    rw [g'] at f1 f2; cases f1; cases f2
    exact s0.symm.trans s
  · unfold PySem.W.kitCls
    have e2 : ((PySem.W.clsIn K CT).isSome && PySem.W.typeIn K (.ref CT) == some (.type "type")) = true := by
      have h2' : (PySem.W.clsIn K CT).isSome = true := h2
      rw [h2', h3] <;> rfl
    simp only [e2, if_true]
    exact s
theorem isE_blt {n : String} (E : ExcCAt K mg c') (mT : mg T = none) (bT : bootBuiltins T = some (.type n)) (nT : T ≠ "__name__") (km : PySem.W.kitMeta n = true) (s : ∀ C', mg c' = some (.ref C') → PySem.W.subIn K (.ref C') (.type n) = some b) : IsEAt K mg (cAof mg) c' T b := by
  obtain ⟨C', g', e⟩ := E.ex
  refine ⟨C', .type n, cAof_of g', .inr ⟨n, rfl, mT, bT, nT⟩, e, ?_⟩
  unfold PySem.W.kitOne
  rw [if_neg (by simp)]
  unfold PySem.W.kitCls
  simp only [km, if_true]
  exact s C' g'
end
@[simp] theorem aIsE (i : Nat) (b : Bool) (env : En) (h : Hh) : mIsE i b env h = (match env[i]? with
  | some (.ex x) => if x.ns = [] then .ok (.bl b) h else .no
  | _ => .no) := id rfl
@[simp] theorem aRaise (c : Str) (env : En) (h : Hh) : mRaise c env h = .er ⟨c, [], []⟩ env h := id rfl
end Mir

set_option Elab.async false
set_option linter.all false
set_option maxRecDepth 100000
set_option maxHeartbeats 1000000
/-! MirV: an own list is locked (ghost), xs[i] = v, a method's chain -/
namespace Mir
open PySem PySem.Spec PyProof.Rows L2
/-- the own list in slot i is a value from here on -/
def mFrz (i : Nat) : MS := fun env h => match env[i]? with
  | some (.own (.lst xs)) => .nx (env.set i (.v (.lst xs))) h
  | _ => .nx env h
theorem lockNF {S : Sx} {w0 w : Wd} {h : Hh} {a : Addr} {vs : List V} (d : Hd S w h) (e : w.H a = some (.lst vs)) (n : a ∉ w.ad) (f : w.Φ a = none) (z : w0.H a = none) (s : Step w0 w) :
    ∃ w', w'.H = w.H ∧ Step w0 w' ∧ Ext w w' ∧ Hd S w' h ∧ SqL S.K w'.Φ a vs ∧ w'.ad = w.ad ∧ w'.Φ = upd w.Φ a (.lst vs) := by
  refine ⟨⟨upd w.Φ a (.lst vs), w.H, w.ad⟩, rfl, ?_, ?_, ?_, .inl (.inl upd_same), rfl, rfl⟩
  · refine ⟨fun x o q => ?_, s.ix, s.nw, s.kp, s.th, fun x o q => ?_⟩
    · show upd w.Φ a (.lst vs) x = some o
      have : x ≠ a := fun hx => by rw [hx] at q; have := s.fz _ _ q; rw [f] at this; cases this
      rw [upd_ne this]; exact s.fz x o q
    · by_cases hx : x = a
      · subst hx; exact .inr z
      · have q' : upd w.Φ a (.lst vs) x = some o := q
        rw [upd_ne hx] at q'; exact s.fn x o q'
  · refine ⟨fun x o q => ?_, fun _ _ q => q⟩
    show upd w.Φ a (.lst vs) x = some o
    have : x ≠ a := fun hx => by rw [hx, f] at q; cases q
    rw [upd_ne this]; exact q
  · have ex : Ext w ⟨upd w.Φ a (.lst vs), w.H, w.ad⟩ := by
      refine ⟨fun x o q => ?_, fun _ _ q => q⟩
      show upd w.Φ a (.lst vs) x = some o
      have : x ≠ a := fun hx => by rw [hx, f] at q; cases q
      rw [upd_ne this]; exact q
    refine ⟨fun x o q => ?_, d.len, d.nd, fun x hx => ?_, fun k o x p q => ?_⟩
    · by_cases hx : x = a
      · subst hx
        have q' : upd w.Φ x (.lst vs) x = some o := q
        rw [upd_same] at q'; cases q'; exact e
      · have q' : upd w.Φ a (.lst vs) x = some o := q
        rw [upd_ne hx] at q'; exact d.sub x o q'
    · show upd w.Φ a (.lst vs) x = none
      have : x ≠ a := fun hq => n (by rw [← hq]; exact hx)
      rw [upd_ne this]; exact d.sep x hx
    · have r := d.obj k o x p q
      cases o with
      | lst xs => obtain ⟨us, e1, r1⟩ := r; exact ⟨us, e1, ex.prs r1⟩
      | dct ks xs => obtain ⟨us, l1, e1, r1⟩ := r; exact ⟨us, l1, e1, ex.prs r1⟩
      | ins cc ns xs => obtain ⟨C, dx, us, c1, l1, e1, r1⟩ := r; exact ⟨C, dx, us, c1, l1, e1, ex.prs r1⟩
theorem rl_frz {S : Sx} {w0 w : Wd} {env : En} {h : Hh} {σ : L2.St} (rl : Rl S w0 w env h σ) {i : Nat} {xs : List PV} (e : env[i]? = some (.own (.lst xs))) : ∃ w', w'.H = w.H ∧ Ext w w' ∧ Rl S w0 w' (env.set i (.v (.lst xs))) h σ := by
  obtain ⟨a, ei, ⟨vs, ea, rs⟩, f, n, z⟩ := rl.sl.own i _ e
  obtain ⟨w', eH, st, ex, d, sq, ead, eΦ⟩ := lockNF rl.hd ea n f z rl.st
  refine ⟨w', eH, ex, st, d, ?_⟩
  have hro : ∀ (b : Addr) (o : Ob), RO S w b o → RO S w' b o := fun b o ro => by
    cases o with
    | lst ys => obtain ⟨us, e1, r1⟩ := ro; exact ⟨us, by rw [eH]; exact e1, ex.prs r1⟩
    | dct ks ys => obtain ⟨us, l1, e1, r1⟩ := ro; exact ⟨us, l1, by rw [eH]; exact e1, ex.prs r1⟩
    | ins c ns ys => obtain ⟨C, dx, us, c1, l1, e1, r1⟩ := ro; exact ⟨C, dx, us, c1, l1, by rw [eH]; exact e1, ex.prs r1⟩
  refine ⟨by simp [rl.sl.len], fun j y q => ?_, fun j o q => ?_, fun j k o o' b e1 e2 f1 f2 => ?_, fun j y q => ?_⟩
  · rcases set_get _ _ _ _ q with ⟨rfl, e1, hl⟩ | ⟨hj, e1⟩
    · cases e1
      exact ⟨_, ei, .lst sq (ex.prs rs)⟩
    · obtain ⟨v, e2, r2⟩ := rl.sl.slot j y e1
      exact ⟨v, e2, ex.pr r2⟩
  · rcases set_get _ _ _ _ q with ⟨rfl, e1, hl⟩ | ⟨hj, e1⟩
    · cases e1
    · obtain ⟨b, e2, ro, f2, n2, z2⟩ := rl.sl.own j o e1
      refine ⟨b, e2, hro b o ro, ?_, by rw [ead]; exact n2, z2⟩
      have : b ≠ a := fun hq => hj (rl.sl.sep j i _ _ a e1 e (by rw [← hq]; exact e2) ei)
      rw [eΦ, upd_ne this]; exact f2
  · rcases set_get _ _ _ _ e1 with ⟨rfl, g, hl⟩ | ⟨hj, g⟩
    · cases g
    · rcases set_get _ _ _ _ e2 with ⟨rfl, g2, hl⟩ | ⟨hk, g2⟩
      · cases g2
      · exact rl.sl.sep j k o o' b g g2 f1 f2
  · rcases set_get _ _ _ _ q with ⟨rfl, e1, hl⟩ | ⟨hj, e1⟩
    · cases e1
    · obtain ⟨x1, x2⟩ := rl.sl.exq j y e1
      refine ⟨x1, ?_⟩
      rcases x2 with x2 | ⟨dd, ws, d1, d2, d3, d4, d5⟩
      · exact .inl x2
      · exact .inr ⟨dd, ws, d1, d2, by rw [eH]; exact d3, by rw [ead]; exact d4, ex.prs d5⟩
section
variable {F : Fam} {st : Stmt} {ms : MS} {e ei : Expr} {m mi : ME} {p p2 pos : Pos}
theorem ss_frz (i : Nat) (a : SS F st ms) : SS F st (mSeq (mFrz i) ms) := by
  obtain ⟨t, pp, q⟩ := a
  refine ⟨t, pp, fun W w0 w env h σ D rl po => ?_⟩
  unfold mSeq mFrz at po
  cases ee : env[i]? with
  | none => rw [ee] at po; exact q W w0 w env h σ D rl po
  | some s =>
    rw [ee] at po
    cases s with
    | own o =>
      cases o with
      | lst xs =>
        simp only at po
        obtain ⟨w', eH, ex, rl'⟩ := rl_frz rl ee
        rw [← eH]
        exact q W w0 w' _ h σ D rl' (PostS.mono ex po)
      | _ => exact q W w0 w env h σ D rl po
    | _ => exact q W w0 w env h σ D rl po
def mSetIx (i : Nat) (mi mv : ME) : MS := fun env h => ofE (mv env h) env fun y h => match env[i]? with
  | some (.own (.lst xs)) => ofE (mi env h) env fun k h => match k with
    | .int k => match L2.ixN xs.length k with
      | some j => .nx (env.set i (.own (.lst (xs.set j y)))) h
      | none => .no
    | _ => .no
  | _ => .no
theorem ss_setIx (i : Nat) {x : Str} (a : SE F e m) (b : SB F ei mi) (hN : F.N[i]? = some x := by rfl) (hv : ∀ j, Vis (F.env j).scope x := by first | exact fun _ => Or.inl rfl | exact fun _ => Or.inr (Or.inl rfl) | exact fun _ => Or.inr (Or.inr rfl))
    (hd : (x == ("__debug__" : Str)) = false := by decide) (hcd : (x == ("__classdict__" : Str)) = false := by decide)
    (hs : ∀ j, swapsWithSole [.Subscript (.Name x p) ei p2] e pos.line (F.X j).env = pure false := by intro _; rfl) (hw : ∀ j, swappedStores [.Subscript (.Name x p) ei p2] e (F.X j).env = pure none := by intro _; rfl)
    (h1 : ∀ j, (assignEach [.Subscript (.Name x p) ei p2] (F.X j).env).map (·.2) = [assign (.Subscript (.Name x p) ei p2) (F.X j).env] := by intro _; rfl)
    (ha : ∀ j v, assign (.Subscript (.Name x p) ei p2) (F.X j).env v = (do
      let ov ← holding [v] (eval (.Name x p) (F.X j).env)
      let iv ← holding [v, ov] (eval ei (F.X j).env)
      standAt p2
      holding [v, ov, iv] (setItem ov iv v)
      release [v, ov, iv] []) := by intro _ _; rfl) :
    SS F (.Assign [.Subscript (.Name x p) ei p2] e pos) (mSetIx i mi m) := by
  obtain ⟨t, pp, q⟩ := a
  obtain ⟨ti, pi, qi⟩ := b
  refine ⟨fun W => tAsg (t W) (gSub (tVar i) (ti W) rSetL), fun j => ps_asg (X := F.X j) (pp j) (pg_sub (X := F.X j) (pe_var (X := F.X j) hN (hv j) hd hcd) (pi j) set_list (ha j)) (hs j) (hw j) (h1 j), fun W w0 w env h σ D rl po => ?_⟩
  refine q W w0 w env h σ _ rl (PostS.ofE (R := RV F.S) rl po fun y h1 w1 v s d r p1 => ?_)
  have rl1 := rl.step s d
  split at p1
  · rename_i xs ee
    obtain ⟨a1, e1, ⟨vs, ea, rs⟩, f, n, z⟩ := rl1.sl.own i _ ee
    refine ⟨_, e1, ?_⟩
    refine qi W w0 w1 env h1 σ _ rl1 (PostS.ofE (R := RBo F.S) rl1 p1 fun k h2 w2 u s2 d2 r2 p2 => ?_)
    have rl2 := rl1.step s2 d2
    obtain ⟨a2, e2, ⟨vs2, ea2, rs2⟩, f2, n2, z2⟩ := rl2.sl.own i _ ee
    rw [e1] at e2
    cases e2
    cases k with
    | int k =>
      simp only at p2
      split at p2
      · rename_i j ej
        have eu := r2.ofInt
        subst eu
        refine ⟨a1, vs2, k, j, rfl, rfl, ea2, by rw [← rs2.length]; exact ej, ?_⟩
        exact p2 ⟨w2.Φ, upd w2.H a1 (.lst (vs2.set j v)), w2.ad⟩ σ ⟨fun _ _ q => q, fun _ _ q => q⟩ (rl2.chg ee e1 (PRs.set (s2.pr r) j rs2))
      · exact p2.elim
    | _ => exact p2.elim
  · exact p1.elim
theorem aSetIx (i : Nat) (mi mv : ME) (env : En) (h : Hh) : mSetIx i mi mv env h = ofE (mv env h) env fun y h => (match env[i]? with
  | some (.own (.lst xs)) => ofE (mi env h) env fun k h => (match k with
    | .int k => (match L2.ixN xs.length k with
      | some j => .nx (env.set i (.own (.lst (xs.set j y)))) h
      | none => .no)
    | _ => .no)
  | _ => .no) := id rfl
theorem aFrz (i : Nat) (env : En) (h : Hh) : mFrz i env h = (match env[i]? with
  | some (.own (.lst xs)) => .nx (env.set i (.v (.lst xs))) h
  | _ => .nx env h) := id rfl
end
end Mir

set_option Elab.async false
set_option linter.all false
set_option maxRecDepth 100000
set_option maxHeartbeats 1000000
/-! MirW: xs[::-1]; defs with keyword-only defaults, called without them -/
namespace Mir
open PySem PySem.Spec PyProof.Rows L2
def mRevN (m : ME) : MA := fun env h => (m env h).bind fun x h => match x with
  | .lst xs => .ok xs.reverse h
  | _ => .no
theorem PRs.rev {K : PySem.W.Frag} {Φ : Hp} {ad : List Addr} : ∀ {xs : List PV} {vs : List V}, PRs K Φ ad xs vs → PRs K Φ ad xs.reverse vs.reverse
  | _, _, .nil => .nil
  | _, _, .cons r t => by
    rw [List.reverse_cons, List.reverse_cons]
    exact (PRs.rev t).append (.cons r .nil)
section
variable {F : Fam} {e : Expr} {es : List Expr} {m : ME} {mr : MA} {k : Nat} {p p1 p2 p3 pos : Pos}
theorem sn_rev {j : Nat} (h : SB F e m) : SN F (.Subscript e (.Slice none none (some (.UnaryOp .USub (.Constant (.int 1) j p1) p2)) p3) pos) (mRevN m) := by
  obtain ⟨t, p, q⟩ := h
  refine ⟨fun W => tRevL F.K (t W), fun i => pe_revL (X := F.X i) (p i), fun W w0 w env h σ Q r po => ?_⟩
  refine q W w0 w env h σ _ r (PostE.bind po fun x h1 w1 v s1 d1 e1 p1 => ?_)
  split at p1
  · obtain ⟨a, vs, rfl, ha, ra⟩ := e1.ofLst d1
    exact ⟨a, vs, rfl, ha, fun b nb => p1 (w1.put b (.lst vs.reverse)) (.ref b) (Step.put d1 nb) (d1.put nb) ⟨b, _, rfl, upd_same, (Step.put d1 nb).prs ra.rev, d1.notAd nb, d1.fresh nb, nb⟩⟩
  · exact p1.elim
end
structure DefAtD (K : PySem.W.Frag) (mg : Str → Option Value) (x : Str) (st : Stmt) (kws : List (Str × V)) : Prop where
  ex : ∃ (f : Addr) (oc : Value) (od : Option Addr) (D : Addr) (doc pm : Value) (an : Option Addr) (cdv ct : Value) (osl : Array (Option Value)),
    K.lookup f = some ⟨oc, od, .func (PySem.W.fnOf x x (defArgs st) (defBody st) (defScope st) .none (.ref D) doc pm an cdv ct), osl⟩ ∧ PySem.W.codeIn K cdv x = true ∧ PySem.W.keepIn K (.ref f) = true ∧ mg x = some (.ref f) ∧ ∀ q ∈ kws, ∃ u, PySem.W.nsIn K D q.1 = some (some u) ∧ RelV q.2 u
structure DefOkD (P : Program) (w : World) (K : PySem.W.Frag) (mg : Str → Option Value) (base : Heap) (cA : Str → Option Addr) (k : Nat) (x : Str) (ps : List Str) (m : MF) (pvs : List PV) : Prop where
  ex : ∃ f fd ds dvs, FnOk P w K mg base (L2.CX P w) k f fd ps (spM ⟨K, cA, 0, none⟩ m) ∧ mg x = some (.ref f) ∧ PySem.W.keepIn K (.ref f) = true ∧ Binds K fd ps ds ∧ Vals dvs ds ∧ ∀ Φ ad, PRs K Φ ad pvs dvs
section
variable {P : Program} {w : World} {K : PySem.W.Frag} {mg : Str → Option Value} {base : Heap} {cA : Str → Option Addr} {k : Nat} {x : Str} {ps : List Str} {m : MF} {st : Stmt} {kws : List (Str × V)} {pvs : List PV}
theorem DefAtD.at (A : DefAtD K mg x st kws) : DefAt K mg x st := by
  obtain ⟨f, oc, od, D, doc, pm, an, cdv, ct, osl, l, c, kp, g, _⟩ := A.ex
  exact ⟨f, _, fun_mk l c kp, g⟩
theorem DefAtD.ok (A : DefAtD K mg x st kws) (n : Nat) (g : ∀ f fd, Fun K x x st f fd → FnOk P w K mg base (L2.CX P w) k f fd ps (spM ⟨K, cA, 0, none⟩ m)) (hk : kws ≠ []) (hn : n + kws.length = ps.length) (hp : ∀ Φ ad, PRs K Φ ad pvs (kws.map (·.2)))
    (b : ∀ (D : Addr) (doc pm : Value) (an : Option Addr) (cdv ct : Value) (us ks : List Value), us.length = n → ks.length = kws.length →
      KwChain D ((kws.map (·.1)).zip ks) (bindArgs (PySem.W.fnOf x x (defArgs st) (defBody st) (defScope st) .none (.ref D) doc pm an cdv ct) ⟨us, []⟩) (ps.zip (us ++ ks))) : DefOkD P w K mg base cA k x ps m pvs := by
  obtain ⟨f, oc, od, D, doc, pm, an, cdv, ct, osl, l, c, kp, gm, hq⟩ := A.ex
  have FD : FunD K x x (defArgs st) (defBody st) (defScope st) [] kws f _ := ⟨⟨oc, od, .none, .ref D, doc, pm, an, cdv, ct, osl, rfl, l, c, .inl ⟨rfl, rfl⟩, .inr ⟨D, rfl, hq⟩⟩, kp⟩
  obtain ⟨ds, hv, hb⟩ := FD.binds0 n hk hn b
  exact ⟨f, _, ds, kws.map (·.2), g f _ (fun_mk l c kp), gm, kp, hb, hv, hp⟩
end
theorem defAtD_mk1 {K : PySem.W.Frag} {mg : Str → Option Value} {x : Str} {st : Stmt} {h : Heap} {f D : Addr} {oc : Value} {od an : Option Addr} {osl : Array (Option Value)} {doc pm cdv ct : Value} {nm : Str} {v : V} {u : Value} (X : K.In h) (G : h.Ns mainGlobals mg) (a : PySem.W.nsIn K mainGlobals x = some (some (.ref f)))
    (l : K.lookup f = some ⟨oc, od, .func (PySem.W.fnOf x x (defArgs st) (defBody st) (defScope st) .none (.ref D) doc pm an cdv ct), osl⟩) (c : PySem.W.codeIn K cdv x = true) (kp : PySem.W.keepIn K (.ref f) = true) (d : PySem.W.nsIn K D nm = some (some u)) (r : RelV v u) : DefAtD K mg x st [(nm, v)] :=
  ⟨f, oc, od, D, doc, pm, an, cdv, ct, osl, l, c, kp, PySem.W.mg_of X G a, fun q hq => by rw [List.mem_singleton.mp hq]; exact ⟨u, d, r⟩⟩
def tCallD (sp : Sp) (dvs : List V) (E : L2.St → XK) (t : TA) : TE := fun σ H Q => t σ H fun vs H1 => sp (vs ++ dvs) H1 Q (E σ)
theorem run_fnSD {X : Cx} {CX : CXT} {k : Nat} {f : Addr} {fd : FuncData} {ps : List Str} {sp : Sp} {E : L2.St → XK} {pins : List (Addr × Obj)} {σ : L2.St} {H : Hp} {s : Shared} {Q : VK} {us ds : List Value} {vs dvs : List V} (F : FnOk X.prog X.w X.K X.mg X.base CX k f fd ps sp) (hr : Room k X.A) (hb : Binds X.K fd ps ds) (hd : Vals dvs ds) (hx : PassesAt CX X σ (E σ))
    (I : Inv X pins σ H s) (r : Vals vs us) (h : sp (vs ++ dvs) H Q (E σ)) : wpAny (model X.prog X.w) X.A (PySem.call (.ref f) us) (EP X pins σ Q) X.xe s := by
  have all := r.append hd
  have count : (us ++ ds).length = ps.length := (all.length).symm.trans (F.len _ _ _ _ h)
  have body := F.run X.A X.stack s H ⟨us, []⟩ _ _ Q (E σ) hr I.env0 (hb s us I.kIn count) all h
  apply wpAny_call
  refine codeAny_mono body ?_
  rintro (c | fl) t after
  · exact hx pins H s c t I after
  · cases fl <;> first | exact I.after after | exact False.elim after
/-- f(a, ..), its keyword-only parameters by their defaults -/
def mCallD (mf : MF) (pvs : List PV) (mr : MA) : ME := fun env h => (mr env h).bind fun xs h => mf (xs ++ pvs) h
section
variable {F : Fam} {e : Expr} {es : List Expr} {mr : MA} {k : Nat} {x : Str} {ps : List Str} {mf : MF} {pvs : List PV} {p pos : Pos}
theorem se_fnD (ok : F.Ok) (G : DefOkD F.P F.w F.K F.mg F.base F.cA k x ps mf pvs) (hk : k ≤ F.k) (ha : SA F (e :: es) mr) (hg : ∀ i, Gl (F.X i) x := by intro _; rfl) (hdb : (x == ("__debug__" : Str)) = false := by decide)
    (he : ∀ i, starEach (e :: es) (F.X i).env = (false, eval e (F.X i).env) :: starEach es (F.X i).env := by intro _; rfl) (hpl : ∀ i, (backTo pos (starEach es (F.X i).env)).any (·.1) = false := by intro _; rfl) :
    SE F (.Call (.Name x p) (e :: es) [] pos) (mCallD mf pvs mr) := by
  obtain ⟨f, fd, ds, dvs, g, hm, kp, b, hv, hpr⟩ := G.ex
  obtain ⟨t, pa, q⟩ := ha
  refine ⟨fun W => tCallD (spM F.S mf) dvs (WE W) (t W), fun i => ⟨fun pins s σ H Q I hh => ?_⟩, fun W w0 w env h σ Q rl po => ?_⟩
  · refine wpAny_Call_Name_kw (ld_glob I (hg i) hm ?_ hdb)
    refine PySem.W.callWith_K (h₀ := (F.X i).base) I.ok.mod.kin kp (thn ((pa i).run pos pins s σ H _ I hh) fun us s1 ⟨vs, H1, I1, r, q⟩ => ⟨I1.kIn, ?_⟩) (he i) (hpl i)
    exact run_fnSD (X := F.X i) (CX := L2.CX F.P F.w) (E := WE (F.W i)) g ((ok.hr i).mono hk) b hv (passAt (ok.tk i) σ) I1 r q
  · refine q W w0 w env h σ _ rl (PostE.bind po fun xs h1 w1 vs s1 d1 p1 po1 => ?_)
    refine ⟨w1, h1, xs ++ pvs, rfl, d1.nul, p1.append (hpr _ _), ?_⟩
    cases e : mf (xs ++ pvs) h1 with
    | ok x h' => rw [e] at po1; exact fun w' v s d r => po1 w' v s d.unnul r
    | er x h' => rw [e] at po1; exact fun w' c d s dd r => po1 w' c d s dd.unnul r
    | no => rw [e] at po1; exact po1
end
@[simp] theorem aCallD (mf : MF) (pvs : List PV) (mr : MA) (env : En) (h : Hh) : mCallD mf pvs mr env h = (mr env h).bind fun xs h => mf (xs ++ pvs) h := id rfl
@[simp] theorem aRevN (m : ME) (env : En) (h : Hh) : mRevN m env h = (m env h).bind fun x h => (match x with
  | .lst xs => .ok xs.reverse h
  | _ => .no) := id rfl
end Mir

set_option Elab.async false
set_option linter.all false
set_option maxRecDepth 100000
set_option maxHeartbeats 1000000
/-! MirU: t[::-1] of a tuple (and of a list, as a value) -/
namespace MirU
open PySem PySem.Spec PyProof.Rows HT
section
variable {prog : Program} {w : World} {A : Around} {E : Value → Shared → Prop} {s : Shared}
theorem count_back (n : Nat) : Builtin.Slice.slicePlaces ((n : Int) - 1) (-1) (-1) = n := by
  simp only [Builtin.Slice.slicePlaces, show ¬ ((-1 : Int) > 0) by decide, if_false, Int.neg_neg, Int.ediv_one]
  split <;> omega
/-- the bounds of [::-1] -/
theorem bounds_back {sl : Addr} {st : Value} {n : Nat} {Q : Int × Int × Nat → Shared → Prop} (isS : s.heap.IsSliceOf sl .none .none st) (step : IsPart st (some (-1)))
    (fin : Q ((n : Int) - 1, -1, n) s) : wpAny (model prog w) A (Builtin.Slice.sliceApplied (.ref sl) (pure (n : Int))) Q E s := by
  rcases isS with ⟨ob, at_sl, _, flds⟩
  have fld : ∀ (k : Nat) (x : Value) {E1 Q1 : Value → Shared → Prop}, (#[Value.none, .none, st])[k]? = some x → Q1 x s → wpAny (model prog w) A (field (.ref sl) k) Q1 E1 s :=
    fun k x _ _ hx q => wpAny_field at_sl flds hx q
  delta Builtin.Slice.sliceApplied Builtin.Slice.sliceFields
  apply wpAny_bind
  apply wpAny_bind
  apply fld 0 .none rfl
  apply wpAny_bind
  apply fld 1 .none rfl
  apply wpAny_bind
  apply fld 2 st rfl
  apply wpAny_pure
  apply wpAny_bind
  apply slicePart_ step
  show wpAny _ _ (if ((-1 : Int) == 0) = true then _ else _) _ _ s
  rw [if_neg (by decide)]
  apply wpAny_bind
  apply slicePart_none
  apply wpAny_bind
  apply slicePart_none
  apply wpAny_bind
  apply wpAny_pure
  apply wpAny_pure
  show Q ((n : Int) - 1, -1, Builtin.Slice.slicePlaces ((n : Int) - 1) (-1) (-1)) s
  rw [count_back]
  exact fin
theorem all_back (xs : Array Value) : ((List.range xs.size).filterMap fun (m : Nat) => xs[(((xs.size : Int) - 1) + (m : Int) * -1).toNat]?).toArray = xs.toList.reverse.toArray := by
  have at_m : (fun m : Nat => xs[(((xs.size : Int) - 1) + (m : Int) * -1).toNat]?) = (xs[·]?) ∘ fun m => xs.size - 1 - m := by
    funext m
    show _ = xs[xs.size - 1 - m]?
    congr 1
    omega
  rw [at_m, ← List.filterMap_map, PySem.W.krv_range, List.filterMap_reverse, PySem.W.krv_all]
/-- t[::-1] of a tuple -/
theorem item_back {t sl : Addr} {items : Array Value} {st : Value} {Q : Value → Shared → Prop} (isT : IsTup s.heap t items) (isS : s.heap.IsSliceOf sl .none .none st) (step : IsPart st (some (-1))) (fit : items.size ≤ sizeLine)
    (fin : Q (.ref s.heap.objs.size) { s with heap := s.heap.push ⟨.type "tuple", none, .seq items.toList.reverse.toArray, #[]⟩ }) : wpAny (model prog w) A (getItem (.ref t) (.ref sl)) Q E s := by
  have small : sizeOk (.seq items.toList.reverse.toArray) := by
    simpa [sizeOk] using fit
  have tS : s.TypeIs (.ref sl) "slice" := isS.elim fun ob z => ⟨ob, z.1, z.2.1⟩
  have other : ¬ (((items.size : Int) - 1) == 0 && (-1 : Int) == 1 && items.size == items.size) = true := by simp
  delta getItem
  apply wpAny_holding
  apply wpAny_bind
  apply wpAny_sequenceKey isT.typeIs (by decide)
  apply wpAny_bind
  apply wpAny_callSpecial?_slot (name := Str.ofString "__getitem__") isT.typeIs PyProof.Rows.slot_tuple_getitem
  apply wpAny_call_entry PyProof.Rows.slot_tuple_getitem isT.typeIs entry_tuple_getitem _ (args_tuple_getitem _ _)
  apply wpAny_bind (m := Builtin.Tuple.tupleItemsOf (.ref t))
  apply tupleItemsOf_ isT
  apply wpAny_bind
  apply wpAny_typeOf tS
  rw [if_pos (by decide)]
  apply wpAny_bind
  apply bounds_back isS step
  show wpAny _ _ (if (((items.size : Int) - 1) == 0 && (-1 : Int) == 1 && items.size == items.size) = true then _ else _) _ _ s
  rw [if_neg other, all_back]
  apply wpAny_bind (m := Builtin.Tuple.tupleExact _)
  exact wpAny_newObj_type (wpAny_pure ⟨_, rfl, wpAny_pure fin⟩) small
end
end MirU
namespace L2
open PySem PySem.Spec PyProof.Rows
def tRevA (K : PySem.W.Frag) (te : TE) : TE := fun σ H Q => te σ H fun x H1 => ∃ a xs, x = .ref a ∧ ((SqL K H1 a xs ∧ ∀ p, H1 p = none → Q (.ref p) (upd H1 p (.lst xs.reverse))) ∨ (SqT K H1 a xs ∧ ∀ p, H1 p = none → Q (.ref p) (upd H1 p (.tup xs.reverse))))
section
variable {X : Cx}
theorem pe_revA {e : Expr} {te : TE} {k : Nat} {p1 p2 p3 pos : Pos} (he : PE X e te) : PE X (.Subscript e (.Slice none none (some (.UnaryOp .USub (.Constant (.int 1) k p1) p2)) p3) pos) (tRevA X.K te) := by
  constructor
  intro pins s σ H Q I h
  apply Subscript_
  refine thn (he.run pins s σ H _ I h) ?_
  rintro _ s1 ⟨_, H1, I1, r1, a, xs, rfl, kind⟩
  cases r1
  have minus : PO X (some (.UnaryOp .USub (.Constant (.int 1) k p1) p2)) _ := po_some (pe_un un_neg (pe_int (i := 1)))
  apply wpAny_Slice
  refine thn (po_none.run pins s1 σ H1 (fun o H2 => o = none ∧ H2 = H1) I1 ⟨rfl, rfl⟩) ?_
  rintro lo s2 ⟨_, _, I2, part1, rfl, rfl⟩
  refine thn (po_none.run pins s2 σ _ (fun o H2 => o = none ∧ H2 = _) I2 ⟨rfl, rfl⟩) ?_
  rintro hi s3 ⟨_, _, I3, part2, rfl, rfl⟩
  refine thn (minus.run pins s3 σ _ (fun o H2 => o = some (-1) ∧ H2 = _) I3 ⟨1, rfl, -1, rfl, rfl, rfl⟩) ?_
  rintro st s4 ⟨_, _, I4, part3, rfl, rfl⟩
  let s5 : Shared := { s4 with heap := s4.heap.push ⟨.type "slice", none, .fields #[lo, hi, st], #[]⟩ }
  have I5 : Inv X pins σ _ s5 := I4.kept (t' := s4.toks) fun _ _ z => Heap.get?_push_of_some _ z
  have isS := Heap.IsSliceOf.new s4.heap lo hi st
  show wpAny (model X.prog X.w) X.A (subscriptTail e (.Slice none none (some (.UnaryOp .USub (.Constant (.int 1) k p1) p2)) p3) (.ref a) (.ref s4.heap.objs.size)) (EP X pins σ Q) X.xe s5
  have grown : ∀ {o : HO} (b : Obj), ObjOk X.prog X.w (upd _ s5.heap.objs.size o) (s5.heap.push b) s5.heap.objs.size o → Inv X pins σ (upd _ s5.heap.objs.size o) { s5 with heap := s5.heap.push b } :=
    fun b z => I5.laid (t' := s4.toks) (fun _ _ y => Heap.get?_push_of_some _ y) (Nat.le_refl _) z
  have free := I5.hok.fresh (Nat.le_refl _)
  rcases kind with ⟨sq, q⟩ | ⟨sq, q⟩
  · obtain ⟨its, rv, isL, fit⟩ := I5.list sq
    have fit1 : its.toArray.size ≤ sizeLine := by rw [List.size_toArray, ← rv.length]; exact fit
    apply tail_any (ops := [.ref a, .ref s4.heap.objs.size]) isL.isList.typeIs PySem.slot_list_getitem.lookup _ (by with_unfolding_all rfl)
    apply wpAny_getItem_list_slice isL.isList isS part1 part2 part3 (by decide) _ fit1
    rw [PySem.W.krv_pick]
    refine ⟨.ref _, _, grown (o := .lst xs.reverse) _ ⟨?_, _, 0, rv.reverse, Heap.get?_push_size _ rfl⟩, rfl, q _ free⟩
    rwa [List.length_reverse]
  · obtain ⟨its, rv, isT, fit⟩ := I5.tuple sq
    have fit1 : its.toArray.size ≤ sizeLine := by rw [List.size_toArray, ← rv.length]; exact fit
    cases part1
    cases part2
    apply tail_any (ops := [.ref a, .ref s4.heap.objs.size]) isT.typeIs PyProof.Rows.slot_tuple_getitem.lookup _ (by with_unfolding_all rfl)
    apply MirU.item_back isT isS part3 fit1
    refine ⟨.ref _, _, grown (o := .tup xs.reverse) _ ⟨?_, _, rv.reverse, IsTup.new _ _⟩, rfl, q _ free⟩
    rwa [List.length_reverse]
end
end L2
namespace Mir
open PySem PySem.Spec PyProof.Rows L2
def mRev (m : ME) : ME := fun env h => (m env h).bind fun x h => match x with
  | .lst xs => .ok (.lst xs.reverse) h
  | .tup xs => .ok (.tup xs.reverse) h
  | _ => .no
@[simp] theorem aRev (m : ME) (env : En) (h : Hh) : mRev m env h = (m env h).bind fun x h => (match x with
  | .lst xs => .ok (.lst xs.reverse) h
  | .tup xs => .ok (.tup xs.reverse) h
  | _ => .no) := id rfl
section
variable {F : Fam} {e : Expr} {m : ME} {k : Nat} {p p1 p2 p3 pos : Pos}
theorem se_rev {j : Nat} (h : SB F e m) : SE F (.Subscript e (.Slice none none (some (.UnaryOp .USub (.Constant (.int 1) j p1) p2)) p3) pos) (mRev m) := by
  obtain ⟨t, p, q⟩ := h
  refine ⟨fun W => tRevA F.K (t W), fun i => pe_revA (X := F.X i) (p i), fun W w0 w env h σ Q r po => ?_⟩
  refine q W w0 w env h σ _ r (PostE.bind po fun x h1 w1 v s1 d1 e1 p1 => ?_)
  split at p1
  · obtain ⟨a, vs, rfl, ha, ra⟩ := e1.ofLst d1
    exact ⟨a, vs, rfl, .inl ⟨ha, fun b nb => p1 (w1.lock b (.lst vs.reverse)) (.ref b) (Step.lock d1 nb) (d1.lock nb) (.lst (.inl (.inl upd_same)) ((Step.lock d1 nb).prs ra.rev))⟩⟩
  · obtain ⟨a, vs, rfl, ha, ra⟩ := e1.ofTup d1
    exact ⟨a, vs, rfl, .inr ⟨ha, fun b nb => p1 (w1.lock b (.tup vs.reverse)) (.ref b) (Step.lock d1 nb) (d1.lock nb) (.tup (.inl (.inl upd_same)) ((Step.lock d1 nb).prs ra.rev))⟩⟩
  · exact p1.elim
end
end Mir

set_option Elab.async false
set_option linter.all false
set_option maxRecDepth 100000
set_option maxHeartbeats 1000000
/-! MirQ: lists and dicts that stand as objects: read through their refs, changed in place; own fields op= -/
namespace Mir
open PySem PySem.Spec PyProof.Rows L2
/-! ### reading through a ref -/
def dX (f : PV → PV → Hh → Res PV) : PV → PV → Hh → Res PV := fun x y h => f (de h x) (de h y) h
def dU (f : PV → Hh → Res PV) : PV → Hh → Res PV := fun x h => f (de h x) h
def dC {α : Type} (f : List PV → Hh → Res α) : List PV → Hh → Res α := fun xs h => f (xs.map (de h)) h
section
variable {S : Sx}
theorem Sim2.de {r : R2} {f : PV → PV → Hh → Res PV} (s : Sim2 S r f) : Sim2 S r (dX f) := fun W σ w h _ _ v u Q d px py po => s W σ w h _ _ v u Q d (px.de d) (py.de d) po
theorem SimC.de {r : List V → Hp → VK → Prop} {f : List PV → Hh → Res PV} (s : SimC S r f) : SimC S r (dC f) := fun W σ w h _ vs Q d px po => s W σ w h _ vs Q d (px.de d) po
theorem SimN.de {r : List V → Hp → VK → Prop} {f : List PV → Hh → Res (List PV)} (s : SimN S r f) : SimN S r (dC f) := fun W σ w h _ vs Q d px po => s W σ w h _ vs Q d (px.de d) po
end
theorem CmpOk.de {F : Fam} {op : CmpOp} {f : PV → PV → Hh → Res PV} (c : CmpOk F op f) : CmpOk F op (dX f) := by
  obtain ⟨r, s, o⟩ := c.ex
  exact ⟨r, s.de, o⟩
@[simp] theorem dX_app (f : PV → PV → Hh → Res PV) (x y : PV) (h : Hh) : dX f x y h = f (de h x) (de h y) h := id rfl
@[simp] theorem dC_app {α : Type} (f : List PV → Hh → Res α) (xs : List PV) (h : Hh) : dC f xs h = f (xs.map (de h)) h := id rfl
section
variable {F : Fam} {e ea eb o value tg iter : Expr} {es : List Expr} {rest sts body : List Stmt} {pos p p1 p2 p3 pos' apos cpos tpos : Pos} {m ma mb mo mv mi : ME} {mr : MA} {ms : MS}
theorem se_ixD (ha : SB F ea ma) (hb : SB F eb mb) (hs : PlainIx eb := by exact fun _ _ => rfl) : SE F (.Subscript ea eb pos) (mOp (dX oIx) ma mb) := by
  obtain ⟨ta, pa, qa⟩ := ha
  obtain ⟨tb, pb, qb⟩ := hb
  exact ⟨fun W => tOp (rIx F.K) (ta W) (tb W), fun i => pe_ix (ix_seq (X := F.X i)) (pa i) (pb i) hs, fun W => rd_op sim_ix.de (qa W) (qb W)⟩
def mSlD (m : ME) (lo hi : MO) : ME := fun env h => (m env h).bind fun x h => (lo env h).bind fun l h => (hi env h).bind fun u h => oSl (de h x) l u h
theorem se_slD {lo hi : Option Expr} {ml mh : MO} (h : SB F e m) (hl : SO F lo ml) (hh : SO F hi mh) : SE F (.Subscript e (.Slice lo hi none p2) pos) (mSlD m ml mh) := by
  obtain ⟨t, p, q⟩ := h
  obtain ⟨tl, pl, ql⟩ := hl
  obtain ⟨th, ph, qh⟩ := hh
  refine ⟨fun W => tSl (rSlG F.K) (t W) (tl W) (th W), fun i => pe_slice ((sl_list (X := F.X i)).or (sl_tupA.or sl_str)) (p i) (pl i) (ph i), fun W w0 w env h σ Q r po => ?_⟩
  refine q W w0 w env h σ _ r (PostE.bind po fun x h1 w1 v s1 d1 e1 p1 => ql W w0 w1 env h1 σ _ (r.step s1 d1) (PostE.bind p1 fun l h2 w2 l' s2 d2 e2 p2 =>
    qh W w0 w2 env h2 σ _ ((r.step s1 d1).step s2 d2) (PostE.bind p2 fun u h3 w3 u' s3 d3 e3 p3 => ?_)))
  subst e2 e3
  have e1' : PB0 F.S w3 (de h3 x) v := ((e1.step s2).step s3).z.de d3
  unfold oSl at p3
  split at p3
  · rename_i xs ex
    rw [ex] at e1'
    obtain ⟨a, vs, rfl, ha, ra⟩ := e1'.ofLst d3
    exact .inl ⟨a, vs, rfl, ha, fun b nb => p3 (w3.lock b (.lst (cutV vs l u))) (.ref b) (Step.lock d3 nb) (d3.lock nb) (.lst (.inl (.inl upd_same)) ((Step.lock d3 nb).prs (ra.cut l u)))⟩
  · rename_i xs ex
    rw [ex] at e1'
    obtain ⟨a, vs, rfl, ha, ra⟩ := e1'.ofTup d3
    refine .inr (.inl ⟨a, vs, rfl, ha, fun hw => ?_, fun hn b nb => p3 (w3.lock b (.tup (cutV vs l u))) (.ref b) (Step.lock d3 nb) (d3.lock nb) (.tup (.inl (.inl upd_same)) ((Step.lock d3 nb).prs (ra.cut l u)))⟩)
    rw [← ra.length] at hw
    rw [cut_whole hw] at p3
    refine p3.fin d3 ?_
    rcases e1' with ⟨z⟩
    exact z
  · rename_i s ex
    rw [ex] at e1'
    split at p3
    · rename_i hz
      exact .inr (.inr ⟨_, e1'.ofStr, lim_line hz, p3.fin d3 (.str _)⟩)
    · exact p3.elim
  · exact p3.elim
@[simp] theorem aSlD (m : ME) (lo hi : MO) (env : En) (h : Hh) : mSlD m lo hi env h = (m env h).bind fun x h => (lo env h).bind fun l h => (hi env h).bind fun u h => oSl (de h x) l u h := id rfl
theorem se_lenD (hm : F.mg "len" = none) (ha : SAB F [e] mr) (hg : ∀ i, Gl (F.X i) "len" := by intro _; rfl) (he : ∀ i, starEach [e] (F.X i).env = (false, eval e (F.X i).env) :: starEach [] (F.X i).env := by intro _; rfl) : SE F (.Call (.Name "len" p) [e] [] pos) (mCall (dC fLen) mr) :=
  se_callB sim_len.de (fun i => call_len (X := F.X i)) hm PySem.boot_len ha hg (by decide) (by decide) he (fun _ => rfl)
theorem sn_listD (hm : F.mg "list" = none) (ha : SAB F [e] mr) (hg : ∀ i, Gl (F.X i) "list" := by intro _; rfl) (he : ∀ i, starEach [e] (F.X i).env = (false, eval e (F.X i).env) :: starEach [] (F.X i).env := by intro _; rfl) : SN F (.Call (.Name "list" p) [e] [] pos) (mCallN (dC fList) mr) :=
  sn_callTy (r := fun xs H Q => ∃ p ys, xs = [.ref p] ∧ (SqL F.K H p ys ∨ SqT F.K H p ys) ∧ ∀ l, H l = none → Q (.ref l) (upd H l (.lst ys))) (SimN.de fun W σ w h xs vs Q d px po => by
    unfold fList at po
    split at po
    · obtain ⟨v, rfl, p1⟩ := px.one
      obtain ⟨a, us, rfl, ha, ra⟩ := p1.ofLst d
      exact ⟨a, us, rfl, .inl ha, fun b nb => putN d ra po nb⟩
    · obtain ⟨v, rfl, p1⟩ := px.one
      obtain ⟨a, us, rfl, ha, ra⟩ := p1.ofTup d
      exact ⟨a, us, rfl, .inr ha, fun b nb => putN d ra po nb⟩
    · exact po.elim) (fun i => call_list_of (X := F.X i)) hm (by decide +kernel) ha hg (by decide) (by decide) he (fun _ => rfl)
theorem se_tupleD (hm : F.mg "tuple" = none) (ha : SAB F [e] mr) (hg : ∀ i, Gl (F.X i) "tuple" := by intro _; rfl) (he : ∀ i, starEach [e] (F.X i).env = (false, eval e (F.X i).env) :: starEach [] (F.X i).env := by intro _; rfl) : SE F (.Call (.Name "tuple" p) [e] [] pos) (mCall (dC fTuple) mr) :=
  se_callTy (r := fun xs H Q => ∃ p ys, xs = [.ref p] ∧ ((SqL F.K H p ys ∧ ∀ l, H l = none → Q (.ref l) (upd H l (.tup ys))) ∨ (SqT F.K H p ys ∧ Q (.ref p) H))) (SimC.de fun W σ w h xs vs Q d px po => by
    unfold fTuple at po
    split at po
    · obtain ⟨v, rfl, p1⟩ := px.one
      obtain ⟨a, us, rfl, ha, ra⟩ := p1.ofLst d
      exact ⟨a, us, rfl, .inl ⟨ha, fun b nb => po (w.lock b (.tup us)) (.ref b) (Step.lock d nb) (d.lock nb) (.tup (.inl (.inl upd_same)) ((Step.lock d nb).prs ra))⟩⟩
    · obtain ⟨v, rfl, p1⟩ := px.one
      obtain ⟨a, us, rfl, ha, ra⟩ := p1.ofTup d
      refine ⟨a, us, rfl, .inr ⟨ha, po.fin d ?_⟩⟩
      rcases p1 with ⟨z⟩
      exact z
    · exact po.elim) (fun i => call_tuple_of (X := F.X i)) hm (by decide +kernel) ha hg (by decide) (by decide) he (fun _ => rfl)
/-! ### lists as objects, changed -/
def mAppR (mo me : ME) : MS := fun env h => ofE (mo env h) env fun x h => match x with
  | .ref n => match h[n]? with
    | some (.lst _) => ofE (me env h) env fun y h => match h[n]? with
      | some (.lst xs) => if xs.length < 16777216 then .nx env (h.set n (.lst (xs ++ [y]))) else .no
      | _ => .no
    | _ => .no
  | _ => .no
@[simp] theorem aAppR (env : En) (h : Hh) : mAppR mo m env h = ofE (mo env h) env fun x h => (match x with
  | .ref n => (match h[n]? with
    | some (.lst _) => ofE (m env h) env fun y h => (match h[n]? with
      | some (.lst xs) => if xs.length < 16777216 then .nx env (h.set n (.lst (xs ++ [y]))) else .no
      | _ => .no)
    | _ => .no)
  | _ => .no) := id rfl
theorem ss_appR (a : SE F o mo) (b : SE F e m)
    (hst : ∀ j, starEach [e] (F.X j).env = (false, eval e (F.X j).env) :: starEach [] (F.X j).env := by intro _; rfl)
    (hs : ∀ j, swapsWith (.Call (.Attribute o "append" apos) [e] [] cpos) none pos.line (F.X j).env = pure false := by intro _; rfl)
    (hm : ∀ j to t, PE (F.X j) o to → PA (F.X j) [e] t → PE (F.X j) (.Call (.Attribute o "append" apos) [e] [] cpos) (tBM F.K "list" rAppend to t) := by exact fun j to t h1 h2 => pe_bm PySem.F.plainAttrs_list PySem.F.slot_list_append PySem.F.type_list_append mt_append h1 h2) :
    SS F (.Expr (.Call (.Attribute o "append" apos) [e] [] cpos) pos) (mAppR mo m) := by
  obtain ⟨to, po', qo⟩ := a
  obtain ⟨t, p, q⟩ := b
  refine ⟨fun W => tDrop (tBM F.K "list" rAppend (to W) (tCons (t W) tNil)), fun j => ps_expr (hm j _ _ (po' j) (pa_cons (p j) pa_nil (hst j))) (hs j), fun W w0 w env h σ D rl po => ?_⟩
  refine qo W w0 w env h σ _ rl (PostS.ofE (R := RV F.S) rl po fun x h1 w1 v s1 d1 r1 p1 => ?_)
  have rl1 := rl.step s1 d1
  cases x with
  | ref n =>
    obtain ⟨a, rfl, ea⟩ := PW'.ofRef r1
    simp only at p1
    split at p1
    · rename_i ys eh
      obtain ⟨vs0, ea0, _⟩ := d1.at eh ea
      refine ⟨.inl ⟨rfl, _, SqL.of ea0⟩, ?_⟩
      refine q W w0 w1 env h1 σ _ rl1 (PostS.ofE (R := RV F.S) rl1 p1 fun y h2 w2 u s2 d2 r2 p2 => ?_)
      have rl2 := rl1.step s2 d2
      have ea2 := s2.ix _ _ ea
      split at p2
      · rename_i xs eh2
        split at p2
        · rename_i hz
          obtain ⟨vs, eH, rs⟩ := d2.at eh2 ea2
          have hm : a ∈ w2.ad := List.mem_of_getElem? ea2
          refine ⟨a, vs, u, rfl, rfl, eH, by rw [← rs.length, sizeLine_eq]; exact hz, ?_⟩
          have st := Step.wr (w := w2) (a := a) (o := .lst (vs ++ [u])) hm
          exact p2 (w2.wr a _) σ st.ext (rl2.step st (d2.wr ea2 ⟨vs ++ [u], by show upd w2.H a _ a = _; rw [upd_same], st.prs (rs.append (.cons r2 .nil))⟩))
        · exact p2.elim
      · exact p2.elim
    · exact p1.elim
  | _ => exact p1.elim
def mSetIxR (mo mi mv : ME) : MS := fun env h => ofE (mv env h) env fun y h => ofE (mo env h) env fun x h => ofE (mi env h) env fun k h => match x with
  | .ref n => match h[n]? with
    | some (.lst xs) => match k with
      | .int k => match L2.ixN xs.length k with
        | some j => .nx env (h.set n (.lst (xs.set j y)))
        | none => .no
      | _ => .no
    | _ => .no
  | _ => .no
@[simp] theorem aSetIxR (env : En) (h : Hh) : mSetIxR mo mi mv env h = ofE (mv env h) env fun y h => ofE (mo env h) env fun x h => ofE (mi env h) env fun k h => (match x with
  | .ref n => (match h[n]? with
    | some (.lst xs) => (match k with
      | .int k => (match L2.ixN xs.length k with
        | some j => .nx env (h.set n (.lst (xs.set j y)))
        | none => .no)
      | _ => .no)
    | _ => .no)
  | _ => .no) := id rfl
theorem ss_setIxR (a : SE F e mv) (c : SE F o mo) (b : SB F eb mi)
    (hs : ∀ j, swapsWithSole [.Subscript o eb p2] e pos.line (F.X j).env = pure false := by intro _; rfl) (hw : ∀ j, swappedStores [.Subscript o eb p2] e (F.X j).env = pure none := by intro _; rfl)
    (h1 : ∀ j, (assignEach [.Subscript o eb p2] (F.X j).env).map (·.2) = [assign (.Subscript o eb p2) (F.X j).env] := by intro _; rfl)
    (ha : ∀ j v, assign (.Subscript o eb p2) (F.X j).env v = (do
      let ov ← holding [v] (eval o (F.X j).env)
      let iv ← holding [v, ov] (eval eb (F.X j).env)
      standAt p2
      holding [v, ov, iv] (setItem ov iv v)
      release [v, ov, iv] []) := by intro _ _; rfl) :
    SS F (.Assign [.Subscript o eb p2] e pos) (mSetIxR mo mi mv) := by
  obtain ⟨t, pp, q⟩ := a
  obtain ⟨ti, pi, qi⟩ := b
  obtain ⟨to, po', qo⟩ := c
  refine ⟨fun W => tAsg (t W) (gSub (to W) (ti W) rSetL), fun j => ps_asg (X := F.X j) (pp j) (pg_sub (X := F.X j) (po' j) (pi j) set_list (ha j)) (hs j) (hw j) (h1 j), fun W w0 w env h σ D rl po => ?_⟩
  refine q W w0 w env h σ _ rl (PostS.ofE (R := RV F.S) rl po fun y h1 w1 v s1 d1 r1 p1 => ?_)
  have rl1 := rl.step s1 d1
  refine qo W w0 w1 env h1 σ _ rl1 (PostS.ofE (R := RV F.S) rl1 p1 fun x h2 w2 u s2 d2 r2 p2 => ?_)
  have rl2 := rl1.step s2 d2
  refine qi W w0 w2 env h2 σ _ rl2 (PostS.ofE (R := RBo F.S) rl2 p2 fun k h3 w3 u3 s3 d3 r3 p3 => ?_)
  have rl3 := rl2.step s3 d3
  cases x with
  | ref n =>
    obtain ⟨a, rfl, ea⟩ := PW'.ofRef r2
    have ea3 := s3.ix _ _ ea
    simp only at p3
    split at p3
    · rename_i xs eh
      cases k with
      | int k =>
        simp only at p3
        split at p3
        · rename_i j ej
          have eu := r3.ofInt
          subst eu
          obtain ⟨vs, eH, rs⟩ := d3.at eh ea3
          have hm : a ∈ w3.ad := List.mem_of_getElem? ea3
          have st := Step.wr (w := w3) (a := a) (o := .lst (vs.set j v)) hm
          refine ⟨a, vs, k, j, rfl, rfl, eH, by rw [← rs.length]; exact ej, ?_⟩
          exact p3 (w3.wr a _) σ st.ext (rl3.step st (d3.wr ea3 ⟨vs.set j v, by show upd w3.H a _ a = _; rw [upd_same], st.prs (PRs.set (s3.pr (s2.pr r1)) j rs)⟩))
        · exact p3.elim
      | _ => exact p3.elim
    · exact p3.elim
  | _ => exact p3.elim
/-! ### o.f += e, o.f -= e, of ints -/
def mFldAug (cs : List Str) (f : Str) (g : Int → Int → Int) (mo mv : ME) : MS := fun env h => ofE (mo env h) env fun x h => match x with
  | .ref n => match h[n]? with
    | some (.ins c ns vs) => if c ∈ cs then (match getF f ns vs with
      | some (.int i) => ofE (mv env h) env fun y h => (match y with
        | .int j => (match h[n]? with
          | some (.ins c' ns' vs') => if c' = c ∧ ns'.length < 1000 then .nx env (h.set n (.ins c' (insN f ns') (insV f (.int (g i j)) ns' vs'))) else .no
          | _ => .no)
        | _ => .no)
      | _ => .no) else .no
    | _ => .no
  | _ => .no
@[simp] theorem aFldAug (cs : List Str) (f : Str) (g : Int → Int → Int) (env : En) (h : Hh) : mFldAug cs f g mo mv env h = ofE (mo env h) env fun x h => (match x with
  | .ref n => (match h[n]? with
    | some (.ins c ns vs) => if c ∈ cs then (match getF f ns vs with
      | some (.int i) => ofE (mv env h) env fun y h => (match y with
        | .int j => (match h[n]? with
          | some (.ins c' ns' vs') => if c' = c ∧ ns'.length < 1000 then .nx env (h.set n (.ins c' (insN f ns') (insV f (.int (g i j)) ns' vs'))) else .no
          | _ => .no)
        | _ => .no)
      | _ => .no) else .no
    | _ => .no)
  | _ => .no) := id rfl
theorem rd_fldaug {cs : List Str} {f : Str} {g : Int → Int → Int} {S : Sx} {W : WX} {to tv : TE} (hc : ∀ c ∈ cs, ∃ fs mg, ClsAt S.K mg S.cA c fs ∧ f ∈ fs) (qo : RdG S (RV S) W to mo) (qv : RdG S (RBo S) W tv mv) :
    RdS S W (sFldAug S.K to tv (fun x y H Q => ∃ i j, x = .int i ∧ y = .int j ∧ Q (.int (g i j)) H) f) (mFldAug cs f g mo mv) := fun w0 w env h σ D rl po => by
  refine qo w0 w env h σ _ rl (PostS.ofE (R := RV S) rl po fun x h1 w1 v s1 d1 r1 p1 => ?_)
  have rl1 := rl.step s1 d1
  cases x with
  | ref n =>
    obtain ⟨a, rfl, ea⟩ := PW'.ofRef r1
    simp only at p1
    split at p1
    · rename_i c ns vs eh
      split at p1
      · rename_i hcs
        split at p1
        · rename_i i ei
          obtain ⟨C, dx, us, ca, hl, eH, rs⟩ := d1.at eh ea
          obtain ⟨fs, mg, ⟨C', _, ca', cl, na⟩, hf⟩ := hc c hcs
          rw [ca'] at ca; cases ca
          obtain ⟨u, eu, ru⟩ := getF_rel rs ei
          cases ru
          refine ⟨a, C, dx, _, .int i, rfl, eH, cl, na f hf, lookup_zip.trans eu, ?_⟩
          refine qv w0 w1 env h1 σ _ rl1 (PostS.ofE (R := RBo S) rl1 p1 fun y h2 w2 u2 s2 d2 r2 p2 => ?_)
          have rl2 := rl1.step s2 d2
          have ea2 := s2.ix _ _ ea
          cases y with
          | int j =>
            have e2 := r2.ofInt
            subst e2
            simp only at p2
            split at p2
            · rename_i c' ns' vs' eh2
              split at p2
              · rename_i hcc
                obtain ⟨rfl, hn⟩ := hcc
                obtain ⟨C2, dx2, us2, ca2, hl2, eH2, rs2⟩ := d2.at eh2 ea2
                rw [ca'] at ca2; cases ca2
                refine ⟨i, j, rfl, rfl, dx2, _, eH2, ?_, ?_⟩
                · rw [List.length_zip, ← hl2, Nat.min_self]; exact hn
                · rw [putF_zip hl2]
                  have hm : a ∈ w2.ad := List.mem_of_getElem? ea2
                  have st := Step.wr (w := w2) (a := a) (o := .ins C dx2 ((insN f ns').zip (insV f (.int (g i j)) ns' us2))) hm
                  exact p2 (w2.wr a _) σ st.ext (rl2.step st (d2.wr ea2 ⟨C, dx2, insV f (.int (g i j)) ns' us2, ca', len_put hl2, by show upd w2.H a _ a = _; rw [upd_same], st.prs (insV_rel (.int _) rs2)⟩))
              · exact p2.elim
            · exact p2.elim
          | _ => exact p2.elim
        · exact p1.elim
      · exact p1.elim
    · exact p1.elim
  | _ => exact p1.elim
theorem ss_fldAdd {cs : List Str} {f : Str} (a : SE F o mo) (b : SB F value mv) (hc : ∀ c ∈ cs, ∃ fs, ClsAt F.K F.mg F.cA c fs ∧ f ∈ fs) : SS F (.AugAssign (.Attribute o f tpos) .Add value pos) (mFldAug cs f (· + ·) mo mv) := by
  obtain ⟨t, p, q⟩ := a
  obtain ⟨t', p', q'⟩ := b
  exact ⟨fun W => sFldAug F.K (t W) (t' W) rAdd f, fun i => ps_fldaug (p i) (p' i) in_add, fun W => rd_fldaug (S := F.S) (g := (· + ·)) (fun c h => let ⟨fs, x, y⟩ := hc c h; ⟨fs, F.mg, x, y⟩) (q W) (q' W)⟩
theorem ss_fldSub {cs : List Str} {f : Str} (a : SE F o mo) (b : SB F value mv) (hc : ∀ c ∈ cs, ∃ fs, ClsAt F.K F.mg F.cA c fs ∧ f ∈ fs) : SS F (.AugAssign (.Attribute o f tpos) .Sub value pos) (mFldAug cs f (· - ·) mo mv) := by
  obtain ⟨t, p, q⟩ := a
  obtain ⟨t', p', q'⟩ := b
  exact ⟨fun W => sFldAug F.K (t W) (t' W) rSub f, fun i => ps_fldaug (p i) (p' i) in_sub, fun W => rd_fldaug (S := F.S) (g := (· - ·)) (fun c h => let ⟨fs, x, y⟩ := hc c h; ⟨fs, F.mg, x, y⟩) (q W) (q' W)⟩
end
end Mir

set_option Elab.async false
set_option linter.all false
set_option maxRecDepth 100000
set_option maxHeartbeats 1000000
/-! MirD: dicts with int and text keys, as objects: made, read, changed -/
namespace Mir
open PySem PySem.Spec PyProof.Rows L2
def keyP : PV → Option Key
  | .int i => some (.inl i)
  | .str s => some (.inr s)
  | _ => none
@[simp] theorem keyP_int (i : Int) : keyP (.int i) = some (.inl i) := id rfl
@[simp] theorem keyP_str (s : Str) : keyP (.str s) = some (.inr s) := id rfl
def getK {α : Type} (k : Key) : List Key → List α → Option α
  | a :: ks, v :: vs => if a = k then some v else getK k ks vs
  | _, _ => none
def hasK (k : Key) (ks : List Key) : Bool := ks.any fun a => decide (a = k)
def insK (k : Key) (ks : List Key) : List Key := if hasK k ks = true then ks else ks ++ [k]
def repK {α : Type} (k : Key) (y : α) : List Key → List α → List α
  | a :: ks, v :: vs => (if a = k then y else v) :: repK k y ks vs
  | _, vs => vs
def insKV {α : Type} (k : Key) (y : α) (ks : List Key) (vs : List α) : List α := if hasK k ks = true then repK k y ks vs else vs ++ [y]
theorem valV_zip {k : Key} : ∀ {ks : List Key} {vs : List V}, valV (ks.zip vs) k = getK k ks vs
  | [], vs => rfl
  | a :: ks, [] => rfl
  | a :: ks, v :: vs => by
    show valV ((a, v) :: ks.zip vs) k = _
    unfold getK
    by_cases h : a = k
    · rw [valV_pos (p := (a, v)) h, if_pos h]
    · rw [valV_neg (p := (a, v)) h, if_neg h]; exact valV_zip
theorem any_zip {k : Key} : ∀ {ks : List Key} {vs : List V}, ks.length = vs.length → ((ks.zip vs).any fun kv => decide (kv.1 = k)) = hasK k ks
  | [], [], _ => rfl
  | [], _ :: _, h => by simp at h
  | a :: ks, [], h => by simp at h
  | a :: ks, v :: vs, h => by
    rw [List.zip_cons_cons, List.any_cons, any_zip (by simpa using h)]; rfl
theorem rep_zip {k : Key} {y : V} : ∀ {ks : List Key} {vs : List V}, ((ks.zip vs).map fun kv => if kv.1 = k then (kv.1, y) else kv) = ks.zip (repK k y ks vs)
  | [], vs => rfl
  | a :: ks, [] => rfl
  | a :: ks, v :: vs => by
    rw [List.zip_cons_cons, List.map_cons, rep_zip]
    show _ = (a :: ks).zip ((if a = k then y else v) :: repK k y ks vs)
    rw [List.zip_cons_cons]
    by_cases e : a = k
    · simp only [if_pos e]
    · simp only [if_neg e]
theorem repK_len {α : Type} {k : Key} {y : α} : ∀ {ks : List Key} {vs : List α}, (repK k y ks vs).length = vs.length
  | [], _ => rfl
  | _ :: _, [] => rfl
  | _ :: ks, _ :: vs => by unfold repK; rw [List.length_cons, List.length_cons, repK_len]
theorem insKV_len {α : Type} {k : Key} {y : α} {ks : List Key} {vs : List α} (h : ks.length = vs.length) : (insK k ks).length = (insKV k y ks vs).length := by
  unfold insK insKV
  by_cases c : hasK k ks = true
  · rw [if_pos c, if_pos c, repK_len]; exact h
  · rw [if_neg c, if_neg c, List.length_append, List.length_append, h]; rfl
theorem zip_snoc {α β : Type} : ∀ {ks : List α} {vs : List β} {k : α} {v : β}, ks.length = vs.length → (ks ++ [k]).zip (vs ++ [v]) = ks.zip vs ++ [(k, v)]
  | [], [], _, _, _ => rfl
  | [], _ :: _, _, _, h => by simp at h
  | _ :: _, [], _, _, h => by simp at h
  | a :: ks, b :: vs, k, v, h => by
    show (a, b) :: (ks ++ [k]).zip (vs ++ [v]) = _
    rw [zip_snoc (by simpa using h)]; rfl
theorem putK_zip {k : Key} {y : V} {ks : List Key} {vs : List V} (h : ks.length = vs.length) : putK (ks.zip vs) k y = (insK k ks).zip (insKV k y ks vs) := by
  unfold putK insK insKV
  rw [any_zip h]
  by_cases c : hasK k ks = true
  · rw [if_pos c, if_pos c, if_pos c, rep_zip]
  · rw [if_neg c, if_neg c, if_neg c, zip_snoc h]
section
variable {K : PySem.W.Frag} {Φ : Hp} {ad : List Addr} {k : Key}
theorem getK_rel {x : PV} : ∀ {ks : List Key} {xs : List PV} {vs : List V}, PRs K Φ ad xs vs → getK k ks xs = some x → ∃ v, getK k ks vs = some v ∧ PR K Φ ad x v
  | [], xs, vs, r, e => by unfold getK at e; cases e
  | n :: ns, _, _, .nil, e => by unfold getK at e; cases e
  | n :: ns, _, _, .cons r t, e => by
    unfold getK at e ⊢
    by_cases q : n = k
    · simp only [if_pos q] at e ⊢; cases e; exact ⟨_, rfl, r⟩
    · simp only [if_neg q] at e ⊢; exact getK_rel t e
theorem getK_none : ∀ {ks : List Key} {xs : List PV} {vs : List V}, PRs K Φ ad xs vs → getK k ks xs = none → getK k ks vs = none
  | [], xs, vs, r, e => by unfold getK; rfl
  | n :: ns, _, _, .nil, e => by unfold getK; rfl
  | n :: ns, _, _, .cons r t, e => by
    unfold getK at e ⊢
    by_cases q : n = k
    · simp only [if_pos q] at e; cases e
    · simp only [if_neg q] at e ⊢; exact getK_none t e
theorem repK_rel {x : PV} {v : V} (p : PR K Φ ad x v) : ∀ {ks : List Key} {xs : List PV} {vs : List V}, PRs K Φ ad xs vs → PRs K Φ ad (repK k x ks xs) (repK k v ks vs)
  | [], xs, vs, r => by unfold repK; exact r
  | n :: ns, _, _, .nil => by unfold repK; exact .nil
  | n :: ns, _, _, .cons r t => by
    unfold repK
    by_cases q : n = k
    · simp only [if_pos q]; exact .cons p (repK_rel p t)
    · simp only [if_neg q]; exact .cons r (repK_rel p t)
theorem insKV_rel {x : PV} {v : V} (p : PR K Φ ad x v) {ks : List Key} {xs : List PV} {vs : List V} (r : PRs K Φ ad xs vs) : PRs K Φ ad (insKV k x ks xs) (insKV k v ks vs) := by
  unfold insKV
  by_cases c : hasK k ks = true
  · rw [if_pos c, if_pos c]; exact repK_rel p r
  · rw [if_neg c, if_neg c]; exact r.append (.cons p .nil)
end
theorem keyP_rel {S : Sx} {w : Wd} {x : PV} {v : V} {k : Key} (p : PB0 S w x v) (e : keyP x = some k) : v = kV k := by
  cases x with
  | int i => rw [p.ofInt]; cases e; rfl
  | str s => rw [p.ofStr]; cases e; rfl
  | _ => cases e
/-! ### the mirrors -/
/-- d[k] -/
def oDGet : PV → PV → Hh → Res PV := fun x y h => match x with
  | .ref n => match h[n]? with
    | some (.dct ks vs) => match keyP y with
      | some k => match getK k ks vs with
        | some z => .ok z h
        | none => .no
      | none => .no
    | _ => .no
  | _ => .no
/-- k in d -/
def oDIn (neg : Bool) : PV → PV → Hh → Res PV := fun y x h => match x with
  | .ref n => match h[n]? with
    | some (.dct ks vs) => match keyP y with
      | some k => .ok (.bl (if neg then !(getK k ks vs).isSome else (getK k ks vs).isSome)) h
      | none => .no
    | _ => .no
  | _ => .no
def oDGetD : PV → PV → PV → Hh → Res PV := fun x y z h => match x with
  | .ref n => match h[n]? with
    | some (.dct ks vs) => match keyP y with
      | some k => .ok ((getK k ks vs).getD z) h
      | none => .no
    | _ => .no
  | _ => .no
def isDct (x : PV) (h : Hh) : Bool := match x with
  | .ref n => match h[n]? with
    | some (.dct _ _) => true
    | _ => false
  | _ => false
/-- d.get(k), d.get(k, x) -/
def mDGet1 (mo mk : ME) : ME := fun env h => (mo env h).bind fun x h => if isDct x h = true then (mk env h).bind fun y h => oDGetD x y .non h else .no
def mDGet2 (mo mk mx : ME) : ME := fun env h => (mo env h).bind fun x h => if isDct x h = true then (mk env h).bind fun y h => (mx env h).bind fun z h => oDGetD x y z h else .no
/-- d[k] = v -/
def mDPut (mo mk mv : ME) : MS := fun env h => ofE (mv env h) env fun y h => ofE (mo env h) env fun x h => ofE (mk env h) env fun k h => match x with
  | .ref n => match h[n]? with
    | some (.dct ks vs) => match keyP k with
      | some k => if ks.length < 16777216 then .nx env (h.set n (.dct (insK k ks) (insKV k y ks vs))) else .no
      | none => .no
    | _ => .no
  | _ => .no
/-- {k: v, ..}, the keys written -/
def mDisp (ks : List Key) (mr : MA) : ME := fun env h => (mr env h).bind fun vs h => if vs.length = ks.length then .ok (.ref h.length) (h ++ [.dct ks vs]) else .no
section
variable {mo mk mx mv : ME} {mr : MA}
@[simp] theorem aDGet1 (env : En) (h : Hh) : mDGet1 mo mk env h = (mo env h).bind fun x h => if isDct x h = true then (mk env h).bind fun y h => oDGetD x y .non h else .no := id rfl
@[simp] theorem aDGet2 (env : En) (h : Hh) : mDGet2 mo mk mx env h = (mo env h).bind fun x h => if isDct x h = true then (mk env h).bind fun y h => (mx env h).bind fun z h => oDGetD x y z h else .no := id rfl
@[simp] theorem aDPut (env : En) (h : Hh) : mDPut mo mk mv env h = ofE (mv env h) env fun y h => ofE (mo env h) env fun x h => ofE (mk env h) env fun k h => (match x with
  | .ref n => (match h[n]? with
    | some (.dct ks vs) => (match keyP k with
      | some k => if ks.length < 16777216 then .nx env (h.set n (.dct (insK k ks) (insKV k y ks vs))) else .no
      | none => .no)
    | _ => .no)
  | _ => .no) := id rfl
@[simp] theorem aDisp (ks : List Key) (env : En) (h : Hh) : mDisp ks mr env h = (mr env h).bind fun vs h => if vs.length = ks.length then .ok (.ref h.length) (h ++ [.dct ks vs]) else .no := id rfl
end
theorem oDGet_at {n : Nat} {h : Hh} {ks : List Key} {vs : List PV} {y z : PV} {k : Key} (e : h[n]? = some (.dct ks vs)) (ek : keyP y = some k) (g : getK k ks vs = some z) : oDGet (.ref n) y h = .ok z h := by
  simp only [oDGet, e, ek, g]
theorem oDGetD_at {n : Nat} {h : Hh} {ks : List Key} {vs : List PV} {y z : PV} {k : Key} (e : h[n]? = some (.dct ks vs)) (ek : keyP y = some k) : oDGetD (.ref n) y z h = .ok ((getK k ks vs).getD z) h := by
  simp only [oDGetD, e, ek]
theorem oDIn_at {n : Nat} {h : Hh} {ks : List Key} {vs : List PV} {y : PV} {k : Key} {neg : Bool} (e : h[n]? = some (.dct ks vs)) (ek : keyP y = some k) : oDIn neg y (.ref n) h = .ok (.bl (if neg then !(getK k ks vs).isSome else (getK k ks vs).isSome)) h := by
  simp only [oDIn, e, ek]
theorem isDct_at {n : Nat} {h : Hh} {ks : List Key} {vs : List PV} (e : h[n]? = some (.dct ks vs)) : isDct (.ref n) h = true := by simp only [isDct, e]
/-! ### their rules -/
section
variable {S : Sx}
theorem sim_dget : Sim2 S (fun x y H Q => ∃ a v, x = .ref a ∧ DGet H a y (some v) ∧ Q v H) oDGet := by
  intro W σ w h x y v u Q d px py po
  unfold oDGet at po
  split at po
  · rename_i n
    obtain ⟨a, rfl, ea⟩ := px.ofRef
    split at po
    · rename_i ks vs eh
      split at po
      · rename_i k ek
        split at po
        · rename_i z ez
          obtain ⟨us, hl, eH, rs⟩ := d.at eh ea
          obtain ⟨zv, g1, g2⟩ := getK_rel rs ez
          refine ⟨a, zv, rfl, ?_, po.fin d g2⟩
          rw [keyP_rel py ek, ← g1, ← valV_zip]
          exact DGet.k eH
        · exact po.elim
      · exact po.elim
    · exact po.elim
  · exact po.elim
theorem dGetD_rel {w : Wd} {h : Hh} {n : Nat} {a : Addr} {ks : List Key} {xs : List PV} {y : PV} {u : V} {k : Key} (d : Hd S w h) (ea : w.ad[n]? = some a) (eh : h[n]? = some (.dct ks xs)) (py : PB0 S w y u) (ek : keyP y = some k) {z : PV} {zv : V} (rz : PW' S w z zv) :
    ∃ o, DGet w.H a u o ∧ PW' S w ((getK k ks xs).getD z) (o.getD zv) ∧ o.isSome = (getK k ks xs).isSome := by
  obtain ⟨us, hl, eH, rs⟩ := d.at eh ea
  refine ⟨getK k ks us, ?_, ?_⟩
  · rw [keyP_rel py ek, ← valV_zip]; exact DGet.k eH
  · cases e : getK k ks xs with
    | none => rw [getK_none rs e]; exact ⟨rz, rfl⟩
    | some x =>
      obtain ⟨v, g1, g2⟩ := getK_rel rs e
      rw [g1]; exact ⟨g2, rfl⟩
theorem isD_rel {w : Wd} {h : Hh} {x : PV} {v : V} (d : Hd S w h) (p : PW' S w x v) (e : isDct x h = true) : ∃ n a, x = .ref n ∧ v = .ref a ∧ w.ad[n]? = some a ∧ IsD w.H a := by
  unfold isDct at e
  split at e
  · rename_i n
    obtain ⟨a, rfl, ea⟩ := PW'.ofRef p
    split at e
    · rename_i ks vs eh
      obtain ⟨us, hl, eH, rs⟩ := d.at eh ea
      exact ⟨n, a, rfl, rfl, ea, .inl ⟨_, .inl eH⟩⟩
    · cases e
  · cases e
end
section
variable {F : Fam} {e ea eb o value i : Expr} {pos p pos' apos cpos : Pos} {ma mb mo mk mx mv : ME} {mr : MA}
theorem Fam.Ok.u1 (ok : F.Ok) (i : F.ι) : (F.X i).A.units + 1 < cLine := by have := ok.u64 i; omega
theorem se_dget (ok : F.Ok) (ha : SE F o mo) (hb : SB F i mk) (hs : NoSl i := by exact fun _ _ => rfl) : SE F (.Subscript o i pos) (mOp oDGet mo mk) := by
  obtain ⟨ta, pa, qa⟩ := ha.b
  obtain ⟨tb, pb, qb⟩ := hb
  exact ⟨fun W => tDGet (ta W) (tb W), fun j => pe_dget (ok.u1 j) (pa j) (pb j) hs, fun W w0 w env h σ Q rl po => rd_op sim_dget (qa W) (qb W) w0 w env h σ Q rl po⟩
theorem rd_din {neg : Bool} {W : WX} {ty td : TE} (qy : RdG F.S (RBo F.S) W ty mk) (qd : RdG F.S (RV F.S) W td mo) :
    RdG F.S (RV F.S) W (fun σ H Q => ty σ H fun y H1 => td σ H1 fun x H2 => ∃ a o, x = .ref a ∧ DGet H2 a y o ∧ Q (.bl (if neg then !o.isSome else o.isSome)) H2) (mOp (oDIn neg) mk mo) := fun w0 w env h σ Q rl po => by
  refine qy w0 w env h σ _ rl (PostE.bind po fun y h1 w1 u s1 d1 r1 p1 => ?_)
  refine qd w0 w1 env h1 σ _ (rl.step s1 d1) (PostE.bind (R1 := RV F.S) p1 fun x h2 w2 v s2 d2 r2 p2 => ?_)
  unfold oDIn at p2
  split at p2
  · rename_i n
    obtain ⟨a, rfl, ea⟩ := PW'.ofRef r2
    split at p2
    · rename_i ks vs eh
      split at p2
      · rename_i k ek
        obtain ⟨o, g, _, gs⟩ := dGetD_rel d2 ea eh (r1.step s2).z ek (z := .non) (zv := .non) .non
        refine ⟨a, o, rfl, g, ?_⟩
        rw [gs]
        exact p2.fin d2 (.bl _)
      · exact p2.elim
    · exact p2.elim
  · exact p2.elim
theorem se_din (ok : F.Ok) (hb : SB F i mk) (ha : SE F o mo) (hm : behindInMarks .In o = false := by first | exact nomark _ | rfl) : SE F (.Compare i [.In] [o] pos) (mOp (oDIn false) mk mo) := by
  obtain ⟨ta, pa, qa⟩ := ha
  obtain ⟨tb, pb, qb⟩ := hb
  exact ⟨fun W => tDIn (tb W) (ta W), fun j => pe_cmp (pc_din (ok.u1 j) (pb j) (pa j)) hm, fun W => rd_din (neg := false) (qb W) (qa W)⟩
theorem se_dnin (ok : F.Ok) (hb : SB F i mk) (ha : SE F o mo) (hm : behindInMarks .NotIn o = false := by first | exact nomark _ | rfl) : SE F (.Compare i [.NotIn] [o] pos) (mOp (oDIn true) mk mo) := by
  obtain ⟨ta, pa, qa⟩ := ha
  obtain ⟨tb, pb, qb⟩ := hb
  exact ⟨fun W => tDNotIn (tb W) (ta W), fun j => pe_cmp (pc_dnotin (ok.u1 j) (pb j) (pa j)) hm, fun W => rd_din (neg := true) (qb W) (qa W)⟩
theorem st_din (ok : F.Ok) (hb : SB F i mk) (ha : SE F o mo) (hm : behindInMarks .In o = false := by first | exact nomark _ | rfl) : ST F (.Compare i [.In] [o] pos) (toT (mOp (oDIn false) mk mo)) := by
  obtain ⟨ta, pa, qa⟩ := ha
  obtain ⟨tb, pb, qb⟩ := hb
  exact ⟨fun W => tTest (tDIn (tb W) (ta W)), fun j => pt_cmp (pc_din (ok.u1 j) (pb j) (pa j)) hm, fun W => rd_test (rd_din (neg := false) (qb W) (qa W))⟩
theorem st_dnin (ok : F.Ok) (hb : SB F i mk) (ha : SE F o mo) (hm : behindInMarks .NotIn o = false := by first | exact nomark _ | rfl) : ST F (.Compare i [.NotIn] [o] pos) (toT (mOp (oDIn true) mk mo)) := by
  obtain ⟨ta, pa, qa⟩ := ha
  obtain ⟨tb, pb, qb⟩ := hb
  exact ⟨fun W => tTest (tDNotIn (tb W) (ta W)), fun j => pt_cmp (pc_dnotin (ok.u1 j) (pb j) (pa j)) hm, fun W => rd_test (rd_din (neg := true) (qb W) (qa W))⟩
theorem se_dget1 (ok : F.Ok) (ha : SE F o mo) (hb : SB F e mk) (hm : ∀ j, M1 (F.X j) o "get" apos e cpos := by exact fun _ => ⟨rfl, rfl, rfl, rfl⟩) : SE F (.Call (.Attribute o "get" apos) [e] [] cpos) (mDGet1 mo mk) := by
  obtain ⟨ta, pa, qa⟩ := ha
  obtain ⟨tb, pb, qb⟩ := hb
  refine ⟨fun W => tDGet1 (ta W) (tb W), fun j => pe_dget1 (ok.u1 j) (pa j) (pb j) (hm j), fun W w0 w env h σ Q rl po => ?_⟩
  refine qa W w0 w env h σ _ rl (PostE.bind (R1 := RV F.S) po fun x h1 w1 v s1 d1 r1 p1 => ?_)
  split at p1
  · rename_i hd
    obtain ⟨n, a, rfl, rfl, ea, isd⟩ := isD_rel d1 r1 hd
    refine ⟨a, rfl, isd, ?_⟩
    refine qb W w0 w1 env h1 σ _ (rl.step s1 d1) (PostE.bind (R1 := RBo F.S) p1 fun y h2 w2 u s2 d2 r2 p2 => ?_)
    have ea2 := s2.ix _ _ ea
    unfold oDGetD at p2
    simp only at p2
    split at p2
    · rename_i ks vs eh
      split at p2
      · rename_i k ek
        obtain ⟨o, g, gr, gs⟩ := dGetD_rel d2 ea2 eh r2.z ek (z := .non) (zv := .non) .non
        exact ⟨o, g, p2.fin d2 gr⟩
      · exact p2.elim
    · exact p2.elim
  · exact p1.elim
theorem se_dget2 (ok : F.Ok) (ha : SE F o mo) (hb : SB F e mk) (hc : SE F ea mx) (hm : ∀ j, M2 (F.X j) o "get" apos e ea cpos := by exact fun _ => ⟨rfl, rfl, rfl, rfl⟩) : SE F (.Call (.Attribute o "get" apos) [e, ea] [] cpos) (mDGet2 mo mk mx) := by
  obtain ⟨ta, pa, qa⟩ := ha
  obtain ⟨tb, pb, qb⟩ := hb
  obtain ⟨tc, pc, qc⟩ := hc
  refine ⟨fun W => tDGet2 (ta W) (tb W) (tc W), fun j => pe_dget2 (ok.u1 j) (pa j) (pb j) (pc j) (hm j), fun W w0 w env h σ Q rl po => ?_⟩
  refine qa W w0 w env h σ _ rl (PostE.bind (R1 := RV F.S) po fun x h1 w1 v s1 d1 r1 p1 => ?_)
  split at p1
  · rename_i hd
    obtain ⟨n, a, rfl, rfl, ea1, isd⟩ := isD_rel d1 r1 hd
    refine ⟨a, rfl, isd, ?_⟩
    refine qb W w0 w1 env h1 σ _ (rl.step s1 d1) (PostE.bind (R1 := RBo F.S) p1 fun y h2 w2 u s2 d2 r2 p2 => ?_)
    refine qc W w0 w2 env h2 σ _ ((rl.step s1 d1).step s2 d2) (PostE.bind (R1 := RV F.S) p2 fun z h3 w3 zv s3 d3 r3 p3 => ?_)
    have ea3 := s3.ix _ _ (s2.ix _ _ ea1)
    unfold oDGetD at p3
    simp only at p3
    split at p3
    · rename_i ks vs eh
      split at p3
      · rename_i k ek
        obtain ⟨o, g, gr, gs⟩ := dGetD_rel d3 ea3 eh (r2.step s3).z ek r3
        exact ⟨o, g, p3.fin d3 gr⟩
      · exact p3.elim
    · exact p3.elim
  · exact p1.elim
theorem ss_dput (ok : F.Ok) (hv : SE F value mv) (ha : SE F o mo) (hb : SB F i mk) (hs : ∀ j, swapsWith value (some (.Subscript o i pos')) pos.line (F.X j).env = pure false := by intro _; rfl) : SS F (.Assign [.Subscript o i pos'] value pos) (mDPut mo mk mv) := by
  obtain ⟨ta, pa, qa⟩ := ha
  obtain ⟨tb, pb, qb⟩ := hb
  obtain ⟨tv, pv, qv⟩ := hv
  refine ⟨fun W => sDPut (ta W) (tb W) (tv W), fun j => ps_dput (ok.u1 j) (pa j) (pb j) (pv j) (hs j), fun W w0 w env h σ D rl po => ?_⟩
  refine qv W w0 w env h σ _ rl (PostS.ofE (R := RV F.S) rl po fun y h1 w1 v s1 d1 r1 p1 => ?_)
  have rl1 := rl.step s1 d1
  refine qa W w0 w1 env h1 σ _ rl1 (PostS.ofE (R := RV F.S) rl1 p1 fun x h2 w2 u s2 d2 r2 p2 => ?_)
  have rl2 := rl1.step s2 d2
  refine qb W w0 w2 env h2 σ _ rl2 (PostS.ofE (R := RBo F.S) rl2 p2 fun k h3 w3 u3 s3 d3 r3 p3 => ?_)
  have rl3 := rl2.step s3 d3
  cases x with
  | ref n =>
    obtain ⟨a, rfl, ea⟩ := PW'.ofRef r2
    have ea3 := s3.ix _ _ ea
    simp only at p3
    split at p3
    · rename_i ks xs eh
      split at p3
      · rename_i kk ek
        split at p3
        · rename_i hz
          obtain ⟨us, hl, eH, rs⟩ := d3.at eh ea3
          have hm : a ∈ w3.ad := List.mem_of_getElem? ea3
          have st := Step.wr (w := w3) (a := a) (o := .dK ((insK kk ks).zip (insKV kk v ks us))) hm
          refine ⟨a, _, rfl, ?_, p3 (w3.wr a (.dK ((insK kk ks).zip (insKV kk v ks us)))) σ st.ext (rl3.step st (d3.wr ea3 ⟨insKV kk v ks us, insKV_len hl, by show upd w3.H a _ a = _; rw [upd_same], st.prs (insKV_rel (s3.pr (s2.pr r1)) rs)⟩))⟩
          rw [keyP_rel r3.z ek]
          show DPut w3.H a (kV kk) v (upd w3.H a (.dK ((insK kk ks).zip (insKV kk v ks us))))
          rw [← putK_zip hl]
          exact DPut.k eH (by rw [List.length_zip, ← hl, Nat.min_self, sizeLine_eq]; exact hz)
        · exact p3.elim
      · exact p3.elim
    · exact p3.elim
  | _ => exact p3.elim
/-! ### displays -/
def SPs (F : Fam) (keys : List (Option Expr)) (vals : List Expr) (ks : List Key) (mr : MA) : Prop := ∃ t : WX → List (TE × TE), (∀ i pos, PPs (F.X i) pos keys vals (t (F.W i))) ∧ ∀ W (w0 w : Wd) (env : En) (h : Hh) (σ : L2.St) (Q : List (V × V) → Hp → Prop), Rl F.S w0 w env h σ →
  PostE F.S W w σ (RVs F.S) (mr env h) (fun vs H => Q ((ks.zip vs).map fun kv => (kV kv.1, kv.2)) H) → tPairs (t W) σ w.H Q
theorem sps_nil : SPs F [] [] [] mNil := ⟨fun _ => [], fun _ _ => pps_nil, fun W w0 w env h σ Q rl po => po w [] (Step.refl w) rl.hd PRs.nil⟩
theorem sps_cons {k : Key} {ek ev : Expr} {keys : List (Option Expr)} {vals : List Expr} {ks : List Key} (hk : ∀ i, PE (F.X i) ek (tC (kV k))) (hv : SE F ev mv) (hr : SPs F keys vals ks mr) : SPs F (some ek :: keys) (ev :: vals) (k :: ks) (mCons mv mr) := by
  obtain ⟨t, p, q⟩ := hv
  obtain ⟨tr, pr, qr⟩ := hr
  refine ⟨fun W => (tC (kV k), t W) :: tr W, fun i pos => pps_cons (hk i) (p i) (pr i pos), fun W w0 w env h σ Q rl po => ?_⟩
  show t W σ w.H _
  refine q W w0 w env h σ _ rl (PostE.bind po fun x h1 w1 v s1 d1 r1 p1 => ?_)
  refine qr W w0 w1 env h1 σ _ (rl.step s1 d1) (PostE.bind (R1 := RVs F.S) p1 fun xs h2 w2 vs s2 d2 r2 p2 => ?_)
  exact p2.fin d2 (.cons (s2.pr r1) r2)
theorem sk_int {j : Int} {x} : ∀ i, PE (F.X i) (.Constant (.int j) x pos) (tC (kV (.inl j))) := fun _ => pe_int
theorem sk_str {z : Str} {x} : ∀ i, PE (F.X i) (.Constant (.str z) x pos) (tC (kV (.inr z))) := fun _ => pe_str
theorem putK_new {acc : List (Key × V)} {k : Key} {v : V} (h : k ∉ acc.map (·.1)) : putK acc k v = acc ++ [(k, v)] := by
  unfold putK
  rw [if_neg]
  intro q
  rw [List.any_eq_true] at q
  obtain ⟨p, hp, e⟩ := q
  exact h (List.mem_map.mpr ⟨p, hp, of_decide_eq_true e⟩)
theorem mergeK_nodup : ∀ (more acc : List (Key × V)), (acc.map (·.1) ++ more.map (·.1)).Nodup → mergeK acc more = acc ++ more
  | [], acc, _ => by show acc = _; rw [List.append_nil]
  | kv :: more, acc, h => by
    show mergeK (putK acc kv.1 kv.2) more = _
    have h1 : kv.1 ∉ acc.map (·.1) := fun q => by
      rw [List.map_cons, List.nodup_append] at h
      exact h.2.2 kv.1 q kv.1 (by simp) rfl
    rw [putK_new h1, mergeK_nodup more _ (by rw [List.map_append, List.append_assoc]; simpa using h), List.append_assoc]; rfl
/-- a new object of nobody's becomes one that may be changed -/
theorem addObj {S : Sx} {w w2 : Wd} {h2 : Hh} {p : Addr} {o' : HO} {ob : Ob} (z : w.H p = none) (s : Step (w.put p (.dK [])) w2) (d0 : Hd S w h2 ∨ True) (hnd : w.Φ p = none) (had : p ∉ w.ad) (d2 : Hd S w2 h2)
    (hr : ∀ w3 : Wd, Ext w2 w3 → w3.H p = some o' → RO S w3 p ob) : let w3 : Wd := ⟨w2.Φ, upd w2.H p o', w2.ad ++ [p]⟩
    Step w w3 ∧ Hd S w3 (h2 ++ [ob]) ∧ w3.ad[h2.length]? = some p := by
  intro w3
  have hp1 : (w.put p (.dK [])).H p = some (.dK []) := upd_same
  have hp2 : w2.H p = some (.dK []) := s.kp p _ hp1 had
  have had2 : p ∉ w2.ad := fun hm => by
    rcases s.nw p hm with k | k
    · exact had k
    · rw [hp1] at k; cases k
  have hf2 : w2.Φ p = none := by
    cases q : w2.Φ p with
    | none => rfl
    | some o =>
      rcases s.fn p o q with k | k
      · have k' : w.Φ p = some o := k
        rw [hnd] at k'; cases k'
      · rw [hp1] at k; cases k
  have hlen := d2.len
  have st : Step w w3 := {
    fz := fun x o q => s.fz x o q
    ix := fun k x q => ix_app k x (s.ix k x q)
    nw := fun x hx => by
      rcases List.mem_append.mp hx with hx | hx
      · rcases s.nw x hx with k | k
        · exact .inl k
        · refine .inr ?_
          by_cases e : x = p
          · rw [e]; exact z
          · have k' : upd w.H p (.dK []) x = none := k
            rw [upd_ne e] at k'; exact k'
      · rw [List.mem_singleton.mp hx]; exact .inr z
    kp := fun x o q hx => by
      have e : x ≠ p := fun e => by rw [e, z] at q; cases q
      show upd w2.H p o' x = some o
      rw [upd_ne e]
      exact s.kp x o (by show upd w.H p _ x = some o; rw [upd_ne e]; exact q) hx
    th := fun x q => by
      show upd w2.H p o' x ≠ none
      by_cases e : x = p
      · rw [e, upd_same]; simp
      · rw [upd_ne e]
        exact s.th x (by show upd w.H p _ x ≠ none; rw [upd_ne e]; exact q)
    fn := fun x o q => by
      rcases s.fn x o q with k | k
      · exact .inl k
      · refine .inr ?_
        by_cases e : x = p
        · rw [e]; exact z
        · have k' : upd w.H p (.dK []) x = none := k
          rw [upd_ne e] at k'; exact k' }
  have ex : Ext w2 w3 := ⟨fun _ _ q => q, fun k x q => ix_app k x q⟩
  refine ⟨st, ⟨fun x o q => ?_, ?_, ?_, fun x hx => ?_, fun k o x e f => ?_⟩, ?_⟩
  · have e : x ≠ p := fun e => by have q' : w2.Φ x = some o := q; rw [e, hf2] at q'; cases q'
    show upd w2.H p o' x = some o
    rw [upd_ne e]; exact d2.sub x o q
  · show (w2.ad ++ [p]).length = _
    rw [List.length_append, List.length_append, d2.len]; rfl
  · exact List.nodup_append.mpr ⟨d2.nd, by simp, fun x hx y hy => by rw [List.mem_singleton.mp hy]; exact fun q => had2 (q ▸ hx)⟩
  · rcases List.mem_append.mp hx with hx | hx
    · exact d2.sep x hx
    · rw [List.mem_singleton.mp hx]; exact hf2
  · by_cases hk : k < h2.length
    · rw [List.getElem?_append_left hk] at e
      have f' : w2.ad[k]? = some x := by
        have f2 : (w2.ad ++ [p])[k]? = some x := f
        rw [List.getElem?_append_left (by rw [d2.len]; exact hk)] at f2; exact f2
      have hxp : x ≠ p := fun q => had2 (by rw [← q]; exact List.mem_of_getElem? f')
      have r := d2.obj k o x e f'
      cases o with
      | lst xs => obtain ⟨us, g1, r1⟩ := r; exact ⟨us, by show upd w2.H p o' x = _; rw [upd_ne hxp]; exact g1, ex.prs r1⟩
      | dct ks xs => obtain ⟨us, l1, g1, r1⟩ := r; exact ⟨us, l1, by show upd w2.H p o' x = _; rw [upd_ne hxp]; exact g1, ex.prs r1⟩
      | ins cc ns xs => obtain ⟨C, dx, us, c1, l1, g1, r1⟩ := r; exact ⟨C, dx, us, c1, l1, by show upd w2.H p o' x = _; rw [upd_ne hxp]; exact g1, ex.prs r1⟩
    · have hl := (List.getElem?_eq_some_iff.mp e).1
      rw [List.length_append] at hl
      have hk2 : k = h2.length := by simp at hl; omega
      subst hk2
      rw [List.getElem?_append_right (Nat.le_refl _), Nat.sub_self] at e
      have f2 : (w2.ad ++ [p])[h2.length]? = some x := f
      rw [← d2.len, List.getElem?_append_right (Nat.le_refl _), Nat.sub_self] at f2
      cases e; cases f2
      exact hr w3 ex upd_same
  · show (w2.ad ++ [p])[h2.length]? = some p
    rw [← d2.len, List.getElem?_append_right (Nat.le_refl _), Nat.sub_self]; rfl
theorem se_disp {keys : List (Option Expr)} {vals : List Expr} {ks : List Key} (a : SPs F keys vals ks mr) (hn : ks.Nodup) (hk : ks.length ≤ 15) (hall : keys.all (·.isSome) = true) (hl : keys.length = vals.length) (h0 : keys ≠ []) (h15 : keys.length ≤ 15) : SE F (.Dict keys vals pos) (mDisp ks mr) := by
  obtain ⟨t, pp, q⟩ := a
  refine ⟨fun W => tDisp (t W), fun i => pe_disp (pp i pos) hall hl h0 h15, fun W w0 w env h σ Q rl po => fun p z => ?_⟩
  have hnd := rl.hd.fresh z
  have had := rl.hd.notAd z
  have st := Step.put (o := .dK []) rl.hd z
  refine q W w0 (w.put p (.dK [])) env h σ _ (rl.step st (rl.hd.put z)) ?_
  have po2 : PostE F.S W w σ (RV F.S) ((mr env h).bind fun vs h => if vs.length = ks.length then .ok (.ref h.length) (h ++ [.dct ks vs]) else .no) Q := po
  cases em : mr env h with
  | no => rw [em] at po2; exact po2
  | er x h' => rw [em] at po2; exact fun w' cls d s dd => po2 w' cls d (st.trans s) dd
  | ok xs h2 =>
  rw [em] at po2
  intro w2 vs s2 d2 r2
  have p2 : PostE F.S W w σ (RV F.S) (if xs.length = ks.length then .ok (.ref h2.length) (h2 ++ [.dct ks xs]) else .no) Q := po2
  have hp1 : (w.put p (.dK [])).H p = some (.dK []) := upd_same
  have hp2 : w2.H p = some (.dK []) := s2.kp p _ hp1 had
  refine ⟨hp2, ks.zip vs, rfl, by rw [List.length_zip]; omega, ?_⟩
  split at p2
  · rename_i hlen
    have hkl : ks.length = vs.length := by rw [← r2.length]; exact hlen.symm
    have hm : mergeK [] (ks.zip vs) = ks.zip vs := by
      rw [mergeK_nodup _ _ (by
        rw [List.map_nil, List.nil_append]
        have : (ks.zip vs).map (·.1) = ks := List.map_fst_zip (by omega)
        rw [this]; exact hn)]
      rfl
    rw [hm]
    obtain ⟨s3, d3, e3⟩ := addObj (S := F.S) (ob := .dct ks xs) (o' := .dK (ks.zip vs)) z s2 (.inr trivial) hnd had d2 (fun w3 x e => ⟨vs, hkl, e, x.prs r2⟩)
    exact p2 _ (.ref p) s3 d3 (.ref e3)
  · exact p2.elim
end
end Mir

set_option Elab.async false
set_option linter.all false
set_option maxRecDepth 100000
set_option maxHeartbeats 1000000
/-! MirC: a module's tuples and dicts; {}; walks over lists that stand as objects -/
namespace Mir
open PySem PySem.Spec PyProof.Rows L2
/-! ### {} -/
def mDNew : ME := fun _ h => .ok (.ref h.length) (h ++ [.dct [] []])
@[simp] theorem aDNew (env : En) (h : Hh) : mDNew env h = .ok (.ref h.length) (h ++ [.dct [] []]) := id rfl
section
variable {F : Fam} {e ea eb o value i tg iter : Expr} {es : List Expr} {body : List Stmt} {pos p p1 p2 p3 pos' apos cpos : Pos} {m ma mb mo mk mx mv : ME} {mr : MA} {ms : MS}
theorem se_dnew : SE F (.Dict [] [] pos) mDNew := by
  refine ⟨fun _ => tDNewK, fun i => pe_dnewK, fun W w0 w env h σ Q rl po => fun p z => ?_⟩
  obtain ⟨s3, d3, e3⟩ := addObj (S := F.S) (ob := .dct [] []) (o' := .dK []) z (Step.refl _) (.inr trivial) (rl.hd.fresh z) (rl.hd.notAd z) (rl.hd.put (o := .dK []) z) (fun w3 x e => ⟨[], rfl, e, .nil⟩)
  have := po _ (.ref p) s3 d3 (.ref e3)
  have e : upd (w.put p (.dK [])).H p (.dK []) = upd w.H p (.dK []) := by
    funext x
    show upd (upd w.H p (.dK [])) p (.dK []) x = upd w.H p (.dK []) x
    by_cases hx : x = p
    · subst hx; rw [upd_same, upd_same]
    · rw [upd_ne hx]
  rw [← e]; exact this
end
/-! ### a module's tuple -/
inductive KVals : List PV → List Value → Prop
  | nil : KVals [] []
  | int {i : Int} {t : Tok} {xs us} : KVals xs us → KVals (.int i :: xs) (.int i t :: us)
  | str {s : Str} {t : Tok} {xs us} : KVals xs us → KVals (.str s :: xs) (.str s t :: us)
theorem KVals.out {K : PySem.W.Frag} {Φ : Hp} {ad : List Addr} : ∀ {xs : List PV} {us : List Value}, KVals xs us → ∃ vs, Vals vs us ∧ ∀ Φ ad, PRs K Φ ad xs vs
  | _, _, .nil => ⟨[], .nil, fun _ _ => .nil⟩
  | _, _, .int (i := i) r => by
    obtain ⟨vs, a, b⟩ := KVals.out (K := K) (Φ := Φ) (ad := ad) r
    exact ⟨.int i :: vs, .cons ⟨_, rfl⟩ a, fun Φ ad => .cons (.int i) (b Φ ad)⟩
  | _, _, .str (s := s) r => by
    obtain ⟨vs, a, b⟩ := KVals.out (K := K) (Φ := Φ) (ad := ad) r
    exact ⟨.str s :: vs, .cons ⟨_, rfl⟩ a, fun Φ ad => .cons (.str s) (b Φ ad)⟩
structure KTupAt (K : PySem.W.Frag) (mg : Str → Option Value) (x : Str) (xs : List PV) : Prop where
  ex : ∃ a, mg x = some (.ref a) ∧ ∃ (o : Obj) (its : Array Value) (n : Nat), K.lookup a = some o ∧ o.cls = .type "tuple" ∧ o.data = .seq its n ∧ its.size ≤ sizeLine ∧ KVals xs its.toList ∧ o.dict = none
theorem kTupAt_mk {K : PySem.W.Frag} {mg : Str → Option Value} {x : Str} {xs : List PV} {h : Heap} {a : Addr} {us : List Value} {n : Nat} {sl : Array (Option Value)} (X : K.In h) (G : h.Ns mainGlobals mg) (e : PySem.W.nsIn K mainGlobals x = some (some (.ref a)))
    (l : K.lookup a = some ⟨.type "tuple", none, .seq us.toArray n, sl⟩) (k : KVals xs us) (hz : us.length ≤ 1000 := by decide) : KTupAt K mg x xs :=
  ⟨a, PySem.W.mg_of X G e, _, _, _, l, rfl, rfl, by rw [List.size_toArray, sizeLine_eq]; omega, by simpa using k, rfl⟩
section
variable {F : Fam} {pos : Pos}
theorem se_gtup {x : Str} {xs : List PV} (T : KTupAt F.K F.mg x xs) (hg : ∀ j, Gl (F.X j) x := by intro _; rfl) (hd : (x == ("__debug__" : Str)) = false := by decide) : SE F (.Name x pos) (mC (.tup xs)) := by
  obtain ⟨a, hm, ob, its, n, l, c, d, z, k, _⟩ := T.ex
  obtain ⟨vs, r1, r2⟩ := k.out (K := F.K) (Φ := fun _ => none) (ad := [])
  exact se_const (fun j => pe_glob (v := V.ref a) (hg j) hm rfl hd) fun w => .tup (.inr ⟨ob, its, n, l, c, d, z, r1⟩) (r2 _ _)
end
/-! ### a module's dict from texts to ints -/
inductive KEnt : List DictEntry → List (Str × Int) → Prop
  | nil : KEnt [] []
  | cons {x : Str} {i : Int} {t u : Tok} {hh : Int} {es kvs} : KEnt es kvs → KEnt (⟨hh, .str x t, .int i u⟩ :: es) ((x, i) :: kvs)
structure KDctAt (K : PySem.W.Frag) (w : World) (mg : Str → Option Value) (x : Str) (kvs : List (Str × Int)) : Prop where
  ex : ∃ d es n, mg x = some (.ref d) ∧ KDict K w d es n ∧ KEnt es.toList kvs
def lookS (z : Str) : List (Str × Int) → Option Int
  | [] => none
  | (x, i) :: r => if x = z then some i else lookS z r
theorem KEnt.find : ∀ {es : List DictEntry} {kvs : List (Str × Int)} (z : Str), KEnt es kvs → (match lookS z kvs with
    | some i => ∃ e t, es.find? (·.key.isStr z) = some e ∧ e.val = .int i t
    | none => es.find? (·.key.isStr z) = none) ∧ es.any (·.refKey) = false
  | _, _, z, .nil => ⟨rfl, rfl⟩
  | _, _, z, .cons (x := x) (i := i) (t := t) (u := u) (hh := hh) (es := es) (kvs := kvs) r => by
    obtain ⟨a, b⟩ := KEnt.find z r
    refine ⟨?_, by rw [List.any_cons, b]; rfl⟩
    unfold lookS
    by_cases e : x = z
    · rw [if_pos e]
      refine ⟨⟨hh, .str x t, .int i u⟩, u, ?_, rfl⟩
      rw [List.find?_cons]
      have : (Value.str x t).isStr z = true := by rw [e]; exact beq_self_eq_true _
      simp only [this]
    · rw [if_neg e]
      have : (Value.str x t).isStr z = false := beq_eq_false_iff_ne.mpr e
      rw [List.find?_cons]
      simp only [this]
      exact a
theorem KDctAt.look {K : PySem.W.Frag} {w : World} {mg : Str → Option Value} {x : Str} {kvs : List (Str × Int)} (T : KDctAt K w mg x kvs) : ∃ d es n, mg x = some (.ref d) ∧ KDict K w d es n ∧ ∀ z, ∃ r, PySem.W.nsIn K d z = some r ∧ (match lookS z kvs with
    | some i => ∃ t, r = some (.int i t)
    | none => r = none) := by
  obtain ⟨d, es, n, hm, D, E⟩ := T.ex
  refine ⟨d, es, n, hm, D, fun z => ?_⟩
  obtain ⟨a, b⟩ := E.find z
  unfold PySem.W.nsIn
  rw [D.at_]
  dsimp only
  cases hl : lookS z kvs with
  | none => rw [hl] at a; simp only at a; rw [a, b]; exact ⟨none, rfl, rfl⟩
  | some i => rw [hl] at a; obtain ⟨e, t, a1, a2⟩ := a; rw [a1]; exact ⟨some e.val, rfl, t, by rw [a2]⟩
/-- d.get(z), d[z], z in d, of the module's dict -/
def mKGet1 (kvs : List (Str × Int)) (m : ME) : ME := fun env h => (m env h).bind fun y h => match y with
  | .str z => match lookS z kvs with
    | some i => .ok (.int i) h
    | none => .ok .non h
  | _ => .no
@[simp] theorem aKGet1 (kvs : List (Str × Int)) (m : ME) (env : En) (h : Hh) : mKGet1 kvs m env h = (m env h).bind fun y h => (match y with
  | .str z => (match lookS z kvs with
    | some i => .ok (.int i) h
    | none => .ok .non h)
  | _ => .no) := id rfl
def tKGet1 (K : PySem.W.Frag) (d : Addr) (ty : TE) : TE := fun σ H Q => ty σ H fun y H1 => ∃ z r v, y = .str z ∧ PySem.W.nsIn K d z = some r ∧ RelV v (r.getD .none) ∧ Q v H1
theorem pe_kget1 {X : Cx} {x : Str} {d : Addr} {es : Array DictEntry} {n : Nat} {e : Expr} {ty : TE} {p apos cpos : Pos} (hg : Gl X x) (hm : X.mg x = some (.ref d)) (D : KDict X.K X.w d es n) (he : PE X e ty) (m : M1 X (.Name x p) "get" apos e cpos) (hdb : (x == ("__debug__" : Str)) = false := by decide) :
    PE X (.Call (.Attribute (.Name x p) "get" apos) [e] [] cpos) (tKGet1 X.K d ty) := by
  refine ⟨fun pins s σ H Q I h => ?_⟩
  have hd : PE X (.Name x p) (tC (.ref d)) := pe_glob hg hm rfl hdb
  refine wpAny_Call_method m.base m.few m.line PySem.F.plainAttrs_dict PySem.F.slot_dict_get PySem.F.type_dict_get (thn (hd.run pins s σ H (fun x H1 => x = .ref d ∧ H1 = H) I ⟨rfl, rfl⟩) fun u s1 ⟨x1, H1, I1, rx, ex, eh⟩ => ?_)
  subst ex eh
  obtain rfl : u = Value.ref d := rx
  refine ⟨kd_type D I1, fun b q => ?_, ?_⟩
  · cases q
    exact ⟨_, I1.kIn _ _ D.at_, rfl⟩
  rw [m.trees]
  refine Calls.callWith_builtin rfl (Calls.evalArgs_plain (Calls.spliced_cons (thn (he.run pins s1 σ H1 _ I1 h) fun iv s2 ⟨y, H2, I2, ry, z, r, v, ey, en, rv, q2⟩ => Calls.spliced_nil ?_)))
  subst ey
  obtain ⟨t, rfl⟩ := ry
  refine call_meetsIn PySem.F.slot_dict_get (kd_type D I2) PySem.F.entry_dict_get (PySem.F.args_dict_get_2 _ _) (meets_dict_get (strKind X.prog X.w) d (strKind_is X.prog X.w z t) D.low) ⟨_, PySem.W.mapOf_K (prog := X.prog) I2.kIn D.at_ D.lit, ?_⟩
  rw [PySem.W.find_K D.at_ en]
  exact ⟨v, H2, I2.tok _, rv, q2⟩
section
variable {F : Fam} {e ea eb o value i tg iter : Expr} {es : List Expr} {body : List Stmt} {pos p p1 p2 p3 pos' apos cpos : Pos} {m ma mb mo mk mx mv : ME} {mr : MA} {ms : MS}
theorem se_kget1 {x : Str} {kvs : List (Str × Int)} (T : KDctAt F.K F.w F.mg x kvs) (hb : SB F e m) (hg : ∀ j, Gl (F.X j) x := by intro _; rfl) (hd : (x == ("__debug__" : Str)) = false := by decide) (hm : ∀ j, M1 (F.X j) (.Name x p) "get" apos e cpos := by exact fun _ => ⟨rfl, rfl, rfl, rfl⟩) :
    SE F (.Call (.Attribute (.Name x p) "get" apos) [e] [] cpos) (mKGet1 kvs m) := by
  obtain ⟨d, es, n, hmg, D, L⟩ := T.look
  obtain ⟨t, pa, q⟩ := hb
  refine ⟨fun W => tKGet1 F.K d (t W), fun j => pe_kget1 (X := F.X j) (hg j) hmg D (pa j) (hm j) hd, fun W w0 w env h σ Q rl po => ?_⟩
  refine q W w0 w env h σ _ rl (PostE.bind (R1 := RBo F.S) po fun y h1 w1 u s1 d1 r1 p1 => ?_)
  split at p1
  · rename_i z
    obtain ⟨r, hr, hl⟩ := L z
    split at p1
    · rename_i i ei
      rw [ei] at hl
      obtain ⟨tk, rfl⟩ := hl
      exact ⟨z, _, .int i, r1.ofStr, hr, ⟨_, rfl⟩, p1.fin d1 (.int i)⟩
    · rename_i ei
      rw [ei] at hl
      subst hl
      exact ⟨z, _, .non, r1.ofStr, hr, rfl, p1.fin d1 .non⟩
  · exact p1.elim
end
end Mir
namespace Mir
open PySem PySem.Spec PyProof.Rows L2
theorem kDctAt_mk {K : PySem.W.Frag} {w : World} {mg : Str → Option Value} {x : Str} {kvs : List (Str × Int)} {h : Heap} {d : Addr} {es : Array DictEntry} {n : Nat} (X : K.In h) (G : h.Ns mainGlobals mg) (e : PySem.W.nsIn K mainGlobals x = some (some (.ref d)))
    (l : K.lookup d = some ⟨.type "dict", none, .dict es n, #[]⟩) (k : PySem.W.KeysLit w.params es.toList) (lo : (d == sysModules) = false) (en : KEnt es.toList kvs) : KDctAt K w mg x kvs :=
  ⟨d, es, n, PySem.W.mg_of X G e, ⟨l, k, lo⟩, en⟩
end Mir

set_option Elab.async false
set_option linter.all false
set_option maxRecDepth 100000
set_option maxHeartbeats 1000000
namespace Mir
open PySem PySem.Spec PyProof.Rows L2

/-! ### bits of ints that are not negative -/
theorem bitAnd_nat (a b : Nat) : Builtin.bitAnd (a : Int) (b : Int) = ((a &&& b : Nat) : Int) := by
  unfold Builtin.bitAnd
  simp
theorem bitOr_nat (a b : Nat) : Builtin.bitOr (a : Int) (b : Int) = ((a ||| b : Nat) : Int) := by
  unfold Builtin.bitOr Builtin.bitAnd Builtin.bitNot
  have h1 : decide ((0 : Int) ≤ -(a : Int) - 1) = false := decide_eq_false (by omega)
  have h2 : decide ((0 : Int) ≤ -(b : Int) - 1) = false := decide_eq_false (by omega)
  have h3 : (-(-(a : Int) - 1) - 1).toNat = a := by omega
  have h4 : (-(-(b : Int) - 1) - 1).toNat = b := by omega
  simp only [h1, h2, h3, h4]
  omega
theorem bitXor_nat (a b : Nat) : Builtin.bitXor (a : Int) (b : Int) = ((a ^^^ b : Nat) : Int) := by
  rw [PyProof.Rows.bitXor_and, bitAnd_nat]
  have := Bits.nat_xor_add_and a b
  omega
theorem shr_nat (a k : Nat) : (a : Int) / 2 ^ k = ((a >>> k : Nat) : Int) := by
  rw [Nat.shiftRight_eq_div_pow]; simp
theorem shl_nat (a k : Nat) : (a : Int) * 2 ^ k = ((a <<< k : Nat) : Int) := by
  rw [Nat.shiftLeft_eq]; simp

section
variable (h : Hh)
theorem andN (a b : Nat) : oAnd (.int a) (.int b) h = .ok (.int ((a &&& b : Nat) : Int)) h := by simp [oAnd, oI, bitAnd_nat]
theorem orN (a b : Nat) : oOr (.int a) (.int b) h = .ok (.int ((a ||| b : Nat) : Int)) h := by simp [oOr, oI, bitOr_nat]
theorem xorN (a b : Nat) : oXor (.int a) (.int b) h = .ok (.int ((a ^^^ b : Nat) : Int)) h := by simp [oXor, oI, bitXor_nat]
theorem andI (i j : Int) : oAnd (.int i) (.int j) h = .ok (.int (Builtin.bitAnd i j)) h := id rfl
theorem orI (i j : Int) : oOr (.int i) (.int j) h = .ok (.int (Builtin.bitOr i j)) h := id rfl
theorem xorI (i j : Int) : oXor (.int i) (.int j) h = .ok (.int (Builtin.bitXor i j)) h := id rfl
theorem shrI (i : Int) (k : Nat) : oShr (.int i) (.int (k : Int)) h = .ok (.int (i / 2 ^ k)) h := by simp [oShr, oI]
theorem shrN (a k : Nat) : oShr (.int a) (.int (k : Int)) h = .ok (.int ((a >>> k : Nat) : Int)) h := by rw [shrI, shr_nat]
theorem shlN {a k : Nat} (c : a.log2 + k < 100000000) : oShl (.int a) (.int (k : Int)) h = .ok (.int ((a <<< k : Nat) : Int)) h := by
  have : shlOk (a : Int) (k : Int) = true := by
    unfold shlOk
    simp only [Bool.and_eq_true, decide_eq_true_eq, Int.natAbs_natCast]
    omega
  simp only [oShl, oI, this, if_true, Int.toNat_natCast, shl_nat]
theorem mulAI {i j : Int} (c : mulOk i j = true) : oMulA (.int i) (.int j) h = .ok (.int (i * j)) h := mulI h c
theorem mulAN {a b : Nat} (c : a < 2 ^ 64 ∨ b < 2 ^ 64) : oMulA (.int (a : Int)) (.int (b : Int)) h = .ok (.int ((a * b : Nat) : Int)) h := by
  rw [mulAI h (by rcases c with c | c; exact mulOk_l (by omega); exact mulOk_r (by omega))]
  simp
theorem mulAT {xs : List PV} {k : Int} (c : repOk xs k = true) : oMulA (.tup xs) (.int k) h = .ok (.tup (repP xs k)) h := by simp only [oMulA, c, if_true]
@[simp] theorem addT {xs ys : List PV} (c : xs.length + ys.length ≤ 16777216) : oAdd (.tup xs) (.tup ys) h = .ok (.tup (xs ++ ys)) h := by simp only [oAdd, c, if_true]
theorem addL {xs ys : List PV} (c : xs.length + ys.length ≤ 16777216) : oAdd (.lst xs) (.lst ys) h = .ok (.lst (xs ++ ys)) h := by simp only [oAdd, c, if_true]
@[simp] theorem negI (i : Int) : oNeg (.int i) h = .ok (.int (-i)) h := id rfl
end
section
variable (m : ME) (k : Kd) (env : En) (h : Hh) (ma mk : MA) (f : MF) (n j i : Nat)
@[simp] theorem aIsi : mIsi k m env h = (m env h).bind fun x h => (match kdP x with | some a => .ok (.bl (isKd a k)) h | none => .no) := id rfl
@[simp] theorem aCallK : mCallK n j f ma mk env h = (ma env h).bind fun xs h => (mk env h).bind fun ys h => if xs.length = n ∧ ys.length = j then f (xs ++ ys) h else .no := id rfl
@[simp] theorem aR3 : itR3 ma env h = (ma env h).bind fun xs h => (match xs with | [.int i, .int j, .int c] => if rng3Ok i j c = true then .ok (rngC i c (Builtin.Range.rangeSize i j c).toNat) h else .no | _ => .no) := id rfl
@[simp] theorem kd_non : kdP .non = some .non := id rfl
@[simp] theorem kd_bl (b : Bool) : kdP (.bl b) = some .bool := id rfl
@[simp] theorem kd_int (j : Int) : kdP (.int j) = some .int := id rfl
@[simp] theorem kd_str (s : Str) : kdP (.str s) = some .str := id rfl
@[simp] theorem kd_tup (xs : List PV) : kdP (.tup xs) = some .tuple := id rfl
@[simp] theorem kd_lst (xs : List PV) : kdP (.lst xs) = some .list := id rfl
@[simp] theorem kd_dct (ks : List Key) (xs : List PV) : kdP (.dct ks xs) = some .dict := id rfl
end
section
open Kd
@[simp] theorem isKd_ti : isKd .tuple .int = false := id rfl
@[simp] theorem isKd_tb : isKd .tuple .bool = false := id rfl
@[simp] theorem isKd_ts : isKd .tuple .str = false := id rfl
@[simp] theorem isKd_tt : isKd .tuple .tuple = true := id rfl
@[simp] theorem isKd_tl : isKd .tuple .list = false := id rfl
@[simp] theorem isKd_td : isKd .tuple .dict = false := id rfl
@[simp] theorem isKd_li : isKd .list .int = false := id rfl
@[simp] theorem isKd_lb : isKd .list .bool = false := id rfl
@[simp] theorem isKd_ls : isKd .list .str = false := id rfl
@[simp] theorem isKd_lt : isKd .list .tuple = false := id rfl
@[simp] theorem isKd_ll : isKd .list .list = true := id rfl
@[simp] theorem isKd_ld : isKd .list .dict = false := id rfl
@[simp] theorem isKd_ii : isKd .int .int = true := id rfl
@[simp] theorem isKd_ib : isKd .int .bool = false := id rfl
@[simp] theorem isKd_is : isKd .int .str = false := id rfl
@[simp] theorem isKd_it : isKd .int .tuple = false := id rfl
@[simp] theorem isKd_il : isKd .int .list = false := id rfl
@[simp] theorem isKd_id : isKd .int .dict = false := id rfl
@[simp] theorem isKd_bi : isKd .bool .int = true := id rfl
@[simp] theorem isKd_bb : isKd .bool .bool = true := id rfl
@[simp] theorem isKd_bs : isKd .bool .str = false := id rfl
@[simp] theorem isKd_bt : isKd .bool .tuple = false := id rfl
@[simp] theorem isKd_bl : isKd .bool .list = false := id rfl
@[simp] theorem isKd_bd : isKd .bool .dict = false := id rfl
@[simp] theorem isKd_si : isKd .str .int = false := id rfl
@[simp] theorem isKd_sb : isKd .str .bool = false := id rfl
@[simp] theorem isKd_ss : isKd .str .str = true := id rfl
@[simp] theorem isKd_st : isKd .str .tuple = false := id rfl
@[simp] theorem isKd_sl : isKd .str .list = false := id rfl
@[simp] theorem isKd_sd : isKd .str .dict = false := id rfl
@[simp] theorem isKd_ni : isKd .non .int = false := id rfl
@[simp] theorem isKd_nb : isKd .non .bool = false := id rfl
@[simp] theorem isKd_ns : isKd .non .str = false := id rfl
@[simp] theorem isKd_nt : isKd .non .tuple = false := id rfl
@[simp] theorem isKd_nl : isKd .non .list = false := id rfl
@[simp] theorem isKd_nd : isKd .non .dict = false := id rfl
end
theorem filter_true {α : Type} (l : List α) : l.filter (fun _ => true) = l := List.filter_eq_self.mpr fun _ _ => rfl
theorem lcL_all {α : Type} {g : MG} {e : ME} {env : En} {h : Hh} (F : α → PV) (f : α → PV) (l : List α) (H : ∀ a ∈ l, ∃ env2, g (F a) env = some env2 ∧ e env2 h = .ok (f a) h) : lcL g mYes e env (l.map F) h = .ok (l.map f) h := by
  have := lcL_eq (g := g) (t := mYes) (e := e) (env := env) (h := h) F (fun _ => true) f l fun a ha => by
    obtain ⟨env2, h1, h2⟩ := H a ha
    exact ⟨env2, h1, rfl, fun _ => h2⟩
  rw [filter_true] at this
  exact this
theorem mod_range (r : Int) {n : Int} (h : 0 < n) : 0 ≤ r % n ∧ r % n < n := ⟨Int.emod_nonneg r (by omega), Int.emod_lt_of_pos r h⟩
theorem boolsOf_map {α : Type} (f : α → Bool) : ∀ l : List α, boolsOf (l.map fun a => PV.bl (f a)) = some (l.map f)
  | [] => rfl
  | a :: r => by rw [List.map_cons, boolsOf, boolsOf_map f r]; rfl
theorem all_bl {α : Type} (f : α → Bool) (l : List α) (h : Hh) : fAll [.lst (l.map fun a => PV.bl (f a))] h = .ok (.bl (l.all f)) h := by
  simp only [fAll, boolsOf_map, List.all_map]
  rfl
theorem lv_up : ∀ {n m : Nat} {x : PV}, n ≤ m → lv n x = true → lv m x = true
  | n, m, .non, _, _ => by unfold lv; rfl
  | n, m, .bl _, _, _ => by unfold lv; rfl
  | n, m, .int _, _, _ => by unfold lv; rfl
  | n, m, .str s, _, h => by unfold lv at h ⊢; exact h
  | 0, m, .tup xs, _, h => by unfold lv at h; cases h
  | 0, m, .lst xs, _, h => by unfold lv at h; cases h
  | n + 1, 0, .tup xs, h0, _ => by omega
  | n + 1, 0, .lst xs, h0, _ => by omega
  | n + 1, m + 1, .tup xs, h0, h => by
    unfold lv at h ⊢
    rw [List.all_eq_true] at h ⊢
    exact fun x hx => lv_up (by omega) (h x hx)
  | n + 1, m + 1, .lst xs, h0, h => by
    unfold lv at h ⊢
    rw [List.all_eq_true] at h ⊢
    exact fun x hx => lv_up (by omega) (h x hx)
  | 0, m, .dct _ _, _, h => by unfold lv at h; cases h
  | 0, m, .ref _, _, h => by unfold lv at h; cases h
  | n + 1, m, .dct _ _, _, h => by unfold lv at h; cases h
  | n + 1, m, .ref _, _, h => by unfold lv at h; cases h
theorem lv_ints (ns : List Int) : lv 1 (.lst (ns.map PV.int)) = true := by
  unfold lv
  simp [List.all_map, lv]
theorem lv_tints (ns : List Int) : lv 1 (.tup (ns.map PV.int)) = true := by
  unfold lv
  simp [List.all_map, lv]
end Mir

set_option Elab.async false
set_option linter.all false
set_option maxRecDepth 100000
set_option maxHeartbeats 1000000
namespace Mir
open PySem PySem.Spec PyProof.Rows L2

/-! ### octets: lists of small naturals -/
abbrev ob (bs : List Nat) : List PV := bs.map fun (b : Nat) => PV.int (b : Int)
theorem ob_ints (bs : List Nat) : ob bs = (bs.map fun (b : Nat) => (b : Int)).map PV.int := by rw [List.map_map]; rfl
theorem ob_len (bs : List Nat) : (ob bs).length = bs.length := List.length_map _
theorem ob_app (a b : List Nat) : ob a ++ ob b = ob (a ++ b) := (List.map_append).symm
theorem ob_rep (n : Nat) (a : List Nat) : (List.replicate n (ob a)).flatten = ob (List.replicate n a).flatten := by
  induction n with
  | zero => rfl
  | succ n ih => rw [List.replicate_succ, List.flatten_cons, ih, ob_app, List.replicate_succ, List.flatten_cons]
theorem repP_ob (n : Nat) (a : List Nat) : repP (ob a) (n : Int) = ob (List.replicate n a).flatten := by unfold repP; rw [Int.toNat_natCast, ob_rep]
theorem cutP_take (xs : List PV) (k : Nat) : cutP xs none (some (k : Int)) = xs.take k := by
  unfold cutP
  rw [HT.sIx_none, HT.sIx_nat, List.drop_zero, Nat.sub_zero]
  by_cases h : k ≤ xs.length
  · rw [Nat.min_eq_left h]
  · rw [Nat.min_eq_right (by omega), List.take_of_length_le (Nat.le_refl _), List.take_of_length_le (by omega)]
theorem cutP_drop (xs : List PV) (k : Nat) : cutP xs (some (k : Int)) none = xs.drop k := by
  unfold cutP
  rw [HT.sIx_none, HT.sIx_nat]
  by_cases h : k ≤ xs.length
  · rw [Nat.min_eq_left h, List.take_of_length_le (by rw [List.length_drop]; omega)]
  · rw [Nat.min_eq_right (by omega), List.drop_of_length_le (Nat.le_refl _), List.drop_of_length_le (by omega), List.take_nil]
theorem cutP_mid (xs : List PV) (i j : Nat) (h : i ≤ xs.length) (hj : j ≤ xs.length) : cutP xs (some (i : Int)) (some (j : Int)) = (xs.drop i).take (j - i) := by
  unfold cutP
  rw [HT.sIx_nat, HT.sIx_nat, Nat.min_eq_left h, Nat.min_eq_left hj]
theorem ob_take (bs : List Nat) (k : Nat) : (ob bs).take k = ob (bs.take k) := (List.map_take).symm
theorem ob_drop (bs : List Nat) (k : Nat) : (ob bs).drop k = ob (bs.drop k) := (List.map_drop).symm
def small8 (bs : List Nat) : Prop := ∀ b ∈ bs, b < 256
theorem small8.take {bs : List Nat} (h : small8 bs) (k : Nat) : small8 (bs.take k) := fun b hb => h b (List.mem_of_mem_take hb)
theorem small8.drop {bs : List Nat} (h : small8 bs) (k : Nat) : small8 (bs.drop k) := fun b hb => h b (List.mem_of_mem_drop hb)
theorem small8.rep {bs : List Nat} (h : small8 bs) (n : Nat) : small8 (List.replicate n bs).flatten := fun b hb => by
  obtain ⟨l, h1, h2⟩ := List.mem_flatten.mp hb
  rw [List.eq_of_mem_replicate h1] at h2
  exact h b h2
/-! ### a number of octets -/
def numF (bs : List Nat) : Nat := bs.foldl (fun n b => n * 256 + b) 0
theorem numF_snoc (bs : List Nat) (b : Nat) : numF (bs ++ [b]) = numF bs * 256 + b := by simp [numF]
theorem numF_go : ∀ (bs : List Nat) (n k : Nat), small8 bs → n < 256 ^ k → bs.foldl (fun n b => n * 256 + b) n < 256 ^ (k + bs.length)
  | [], n, k, _, hn => hn
  | b :: r, n, k, h, hn => by
    have h2 := h b (by simp)
    have h3 : n * 256 + b < 256 ^ (k + 1) := by
      rw [Nat.pow_succ]
      have : (n + 1) * 256 ≤ 256 ^ k * 256 := Nat.mul_le_mul_right _ hn
      omega
    have := numF_go r (n * 256 + b) (k + 1) (fun x hx => h x (by simp [hx])) h3
    rw [List.foldl_cons, List.length_cons]
    have e : k + 1 + r.length = k + (r.length + 1) := by omega
    rw [e] at this
    exact this
theorem numF_lt (bs : List Nat) (h : small8 bs) : numF bs < 256 ^ bs.length := by
  have := numF_go bs 0 0 h (by decide)
  rw [Nat.zero_add] at this
  exact this
theorem shl8_or {n b : Nat} (h : b < 256) : n <<< 8 ||| b = n * 256 + b := by
  rw [← Nat.shiftLeft_add_eq_or_of_lt (i := 8) h, Nat.shiftLeft_eq]
theorem log2_of_lt {n k : Nat} (h : n < 2 ^ k) : n.log2 ≤ k := by
  by_cases hn : n = 0
  · subst hn
    have : Nat.log2 0 = 0 := by decide
    omega
  · have := (Nat.log2_lt hn).mpr h
    omega
def be (s v : Nat) : List Nat := (List.range s).map fun k => v / 2 ^ (8 * (s - 1 - k)) % 256
theorem be_len (s v : Nat) : (be s v).length = s := by unfold be; simp
theorem be_small (s v : Nat) : small8 (be s v) := fun b hb => by
  unfold be at hb
  obtain ⟨k, _, rfl⟩ := List.mem_map.mp hb
  exact Nat.mod_lt _ (by decide)
theorem rng3_down (s : Nat) (hs : s < 2 ^ 60) : rng3Ok ((s : Int) - 1) (-1) (-1) = true ∧ (Builtin.Range.rangeSize ((s : Int) - 1) (-1) (-1)).toNat = s := by
  have e1 := PySem.W.small_down (a := (s : Int) - 1) (b := -1) (by omega) (by omega) (by decide) (by decide)
  have e2 := PySem.W.rangeSize_downNat ((s : Int) - 1) (-1)
  have e3 : ((s : Int) - 1 - -1).toNat = s := by omega
  rw [e3] at e2
  unfold rng3Ok
  rw [e1, e2]
  simp
theorem rngC_down (s : Nat) : rngC ((s : Int) - 1) (-1) s = (List.range s).map fun k => PV.int (((s - 1 - k : Nat) : Int)) := by
  unfold rngC
  refine List.map_congr_left fun k hk => ?_
  have := List.mem_range.mp hk
  congr 1
  omega
/-! ### words of 32 bits -/
def rotF (w c : Nat) : Nat := ((w >>> c) ||| (w <<< (32 - c))) &&& 4294967295
theorem rotF_lt (w c : Nat) : rotF w c < 2 ^ 32 := by
  unfold rotF
  have := Nat.and_le_right (n := (w >>> c) ||| (w <<< (32 - c))) (m := 4294967295)
  omega
theorem testBit_mask (i : Nat) : Nat.testBit 4294967295 i = decide (i < 32) := Nat.testBit_two_pow_sub_one 32 i
theorem rotF_bit {w c i : Nat} (hw : w < 2 ^ 32) (hc : c ≤ 32) (hi : i < 32) : (rotF w c).testBit i = w.testBit ((i + c) % 32) := by
  unfold rotF
  rw [Nat.testBit_and, Nat.testBit_or, Nat.testBit_shiftRight, Nat.testBit_shiftLeft, testBit_mask, decide_eq_true hi, Bool.and_true]
  by_cases h : i + c < 32
  · rw [Nat.mod_eq_of_lt h, decide_eq_false (by omega), Bool.false_and, Bool.or_false, Nat.add_comm]
  · have e1 : w.testBit (c + i) = false := Nat.testBit_lt_two_pow (Nat.lt_of_lt_of_le hw (Nat.pow_le_pow_right (by decide) (by omega)))
    have e2 : (i + c) % 32 = i - (32 - c) := by omega
    rw [e1, Bool.false_or, decide_eq_true (by omega), Bool.true_and, e2]
theorem rotF_back {w c : Nat} (hw : w < 2 ^ 32) (hc : c ≤ 32) : rotF (rotF w c) (32 - c) = w := by
  refine Nat.eq_of_testBit_eq fun i => ?_
  by_cases hi : i < 32
  · rw [rotF_bit (rotF_lt w c) (by omega) hi, rotF_bit hw hc (Nat.mod_lt _ (by decide))]
    congr 1
    omega
  · have p : 2 ^ 32 ≤ 2 ^ i := Nat.pow_le_pow_right (by decide) (by omega)
    rw [Nat.testBit_lt_two_pow (Nat.lt_of_lt_of_le (rotF_lt _ _) p), Nat.testBit_lt_two_pow (Nat.lt_of_lt_of_le hw p)]
end Mir

set_option Elab.async false
set_option linter.all false
set_option maxRecDepth 100000
set_option maxHeartbeats 1000000
namespace Mir
open PySem PySem.Spec PyProof.Rows L2

theorem whileL_succ (t : MT) (b : MS) (n : Nat) (env : En) (h : Hh) : whileL t b (n + 1) env h = ofE (t env h) env fun c h => if c = true then (match b env h with
      | .nx env h => whileL t b n env h
      | .ct env h => whileL t b n env h
      | .bk env h => .nx env h
      | z => z) else .nx env h := id rfl
/-! ### the first primes, by trial -/
def pStep (s : List Nat × Nat) : List Nat × Nat := (if s.1.all (fun p => decide (s.2 % p ≠ 0)) = true then s.1 ++ [s.2] else s.1, s.2 + 1)
def pIter : Nat → List Nat × Nat → List Nat × Nat
  | 0, s => s
  | n + 1, s => pIter n (pStep s)
def pLoop (c : Nat) : Nat → List Nat × Nat → Option (List Nat)
  | 0, _ => none
  | f + 1, s => if s.1.length < c then pLoop c f (pStep s) else some s.1
theorem pLoop_some {c : Nat} : ∀ (n f : Nat) (s : List Nat × Nat), n < f → c ≤ (pIter n s).1.length → ∃ l, pLoop c f s = some l
  | n, f + 1, s, h, e => by
    unfold pLoop
    by_cases hc : s.1.length < c
    · rw [if_pos hc]
      cases n with
      | zero => unfold pIter at e; omega
      | succ n => exact pLoop_some n f (pStep s) (by omega) (by rw [pIter] at e; exact e)
    · rw [if_neg hc]; exact ⟨_, rfl⟩
theorem pIter_348 : (pIter 348 ([], 2)).1.length = 70 := by decide +kernel
def pGood (s : List Nat × Nat) : Prop := (∀ p ∈ s.1, 2 ≤ p ∧ p < s.2) ∧ 2 ≤ s.2 ∧ s.1.length + 2 ≤ s.2
theorem pStep_good {s : List Nat × Nat} (h : pGood s) : pGood (pStep s) := by
  obtain ⟨h1, h2, h3⟩ := h
  unfold pStep pGood
  split
  · refine ⟨fun p hp => ?_, by show 2 ≤ s.2 + 1; omega, by simp; omega⟩
    rcases List.mem_append.mp hp with hp | hp
    · have := h1 p hp
      exact ⟨this.1, by show p < s.2 + 1; omega⟩
    · rw [List.mem_singleton.mp hp]; exact ⟨h2, Nat.lt_succ_self _⟩
  · exact ⟨fun p hp => ⟨(h1 p hp).1, by have := (h1 p hp).2; show p < s.2 + 1; omega⟩, by show 2 ≤ s.2 + 1; omega, by show s.1.length + 2 ≤ s.2 + 1; omega⟩
/-! ### roots from the top bit -/
theorem root_uniq {p n r s : Nat} (h1 : r ^ p ≤ n) (h2 : n < (r + 1) ^ p) (h3 : s ^ p ≤ n) (h4 : n < (s + 1) ^ p) : r = s := by
  by_cases h : r < s
  · have := Nat.pow_le_pow_left (show r + 1 ≤ s from h) p
    omega
  · by_cases h' : s < r
    · have := Nat.pow_le_pow_left (show s + 1 ≤ r from h') p
      omega
    · omega
theorem mulOk_big {a b : Nat} (h1 : a < 2 ^ 100000) (h2 : b < 2 ^ 100000) : mulOk (a : Int) (b : Int) = true := by
  have l1 := log2_of_lt h1
  have l2 := log2_of_lt h2
  unfold mulOk
  rw [Int.natAbs_natCast, Int.natAbs_natCast, decide_eq_true (show a.log2 + b.log2 < 130000000 by omega)]
  simp
theorem mulAB {a b : Nat} (h : Hh) (h1 : a < 2 ^ 100000) (h2 : b < 2 ^ 100000) : oMulA (.int (a : Int)) (.int (b : Int)) h = .ok (.int ((a * b : Nat) : Int)) h := by
  rw [mulAI h (mulOk_big h1 h2)]; simp
theorem big_of {a k : Nat} (h : a < 2 ^ k) (hk : k ≤ 100000) : a < 2 ^ 100000 := Nat.lt_of_lt_of_le h (Nat.pow_le_pow_right (by decide) hk)
theorem range_at {n a : Nat} {pre post : List Nat} (e : List.range n = pre ++ a :: post) : a = pre.length ∧ pre.length < n := by
  have hl : pre.length < n := by
    have := congrArg List.length e
    simp at this
    omega
  have h1 : (List.range n)[pre.length]? = some a := by rw [e]; simp
  rw [List.getElem?_range hl] at h1
  exact ⟨(Option.some.inj h1).symm, hl⟩
/-- one bit tried -/
def tryBit (p n b k : Nat) : Nat := if (b + 2 ^ k) ^ p ≤ n then b + 2 ^ k else b
theorem tryBit_ok {p n b k : Nat} (h1 : b ^ p ≤ n) (h2 : n < (b + 2 ^ (k + 1)) ^ p) : (tryBit p n b k) ^ p ≤ n ∧ n < (tryBit p n b k + 2 ^ k) ^ p := by
  unfold tryBit
  split
  · rename_i h
    refine ⟨h, ?_⟩
    have e : b + 2 ^ k + 2 ^ k = b + 2 ^ (k + 1) := by rw [Nat.pow_succ]; omega
    rw [e]; exact h2
  · rename_i h
    exact ⟨h1, by omega⟩
end Mir

set_option Elab.async false
set_option linter.all false
set_option maxRecDepth 100000
set_option maxHeartbeats 1000000
namespace Mir
open PySem PySem.Spec PyProof.Rows L2
/-! ### rings of 32 bits, written in three ways -/
theorem big_bit {x i : Nat} (hx : x < 2 ^ 32) (hi : 32 ≤ i) : x.testBit i = false := Nat.testBit_lt_two_pow (Nat.lt_of_lt_of_le hx (Nat.pow_le_pow_right (by decide) hi))
theorem eq_bits {x y : Nat} (hx : x < 2 ^ 32) (hy : y < 2 ^ 32) (h : ∀ i, i < 32 → x.testBit i = y.testBit i) : x = y := by
  refine Nat.eq_of_testBit_eq fun i => ?_
  by_cases hi : i < 32
  · exact h i hi
  · rw [big_bit hx (by omega), big_bit hy (by omega)]
def dbl (x : Nat) : Nat := x <<< 32 ||| x
theorem dbl_bit {x c i : Nat} (hx : x < 2 ^ 32) (hc : c ≤ 32) (hi : i < 32) : (dbl x >>> c).testBit i = x.testBit ((i + c) % 32) := by
  unfold dbl
  rw [Nat.testBit_shiftRight, Nat.testBit_or, Nat.testBit_shiftLeft]
  by_cases h : c + i < 32
  · rw [decide_eq_false (by omega), Bool.false_and, Bool.false_or, Nat.mod_eq_of_lt (by omega), Nat.add_comm]
  · rw [decide_eq_true (by omega), Bool.true_and, big_bit hx (show 32 ≤ c + i by omega), Bool.or_false]
    congr 1
    omega
theorem and_mask32 (x : Nat) : x &&& 4294967295 = x % 4294967296 := by
  rw [show (4294967295 : Nat) = 2 ^ 32 - 1 by decide, Nat.and_two_pow_sub_one_eq_mod]
def ringF (x c : Nat) : Nat := (x >>> c) + ((x % 2 ^ c) <<< (32 - c))
theorem ringF_lt {x c : Nat} (hx : x < 2 ^ 32) (hc : c ≤ 32) : ringF x c < 2 ^ 32 := by
  unfold ringF
  rw [Nat.shiftRight_eq_div_pow, Nat.shiftLeft_eq]
  have h1 : x / 2 ^ c < 2 ^ (32 - c) := by
    rw [Nat.div_lt_iff_lt_mul (Nat.two_pow_pos c), ← Nat.pow_add, show 32 - c + c = 32 by omega]
    exact hx
  have h2 : x % 2 ^ c < 2 ^ c := Nat.mod_lt _ (Nat.two_pow_pos c)
  have h3 : (x % 2 ^ c + 1) * 2 ^ (32 - c) ≤ 2 ^ c * 2 ^ (32 - c) := Nat.mul_le_mul_right _ h2
  rw [← Nat.pow_add, show c + (32 - c) = 32 by omega, Nat.add_mul, Nat.one_mul] at h3
  omega
theorem ringF_bit {x c i : Nat} (hx : x < 2 ^ 32) (hc : c ≤ 32) (hi : i < 32) : (ringF x c).testBit i = x.testBit ((i + c) % 32) := by
  have h1 : x >>> c < 2 ^ (32 - c) := by
    rw [Nat.shiftRight_eq_div_pow, Nat.div_lt_iff_lt_mul (Nat.two_pow_pos c), ← Nat.pow_add, show 32 - c + c = 32 by omega]
    exact hx
  unfold ringF
  rw [Nat.add_comm, Nat.shiftLeft_add_eq_or_of_lt h1, Nat.testBit_or, Nat.testBit_shiftLeft, Nat.testBit_shiftRight]
  by_cases h : c + i < 32
  · rw [decide_eq_false (by omega), Bool.false_and, Bool.false_or, Nat.mod_eq_of_lt (by omega), Nat.add_comm]
  · rw [decide_eq_true (by omega), Bool.true_and, big_bit hx (show 32 ≤ c + i by omega), Bool.or_false, Nat.testBit_mod_two_pow, decide_eq_true (by omega), Bool.true_and]
    congr 1
    omega
theorem ring_rot {x c : Nat} (hx : x < 2 ^ 32) (hc : c ≤ 32) : ringF x c = rotF x c :=
  eq_bits (ringF_lt hx hc) (rotF_lt x c) fun i hi => by rw [ringF_bit hx hc hi, rotF_bit hx hc hi]
/-- three rings of a word, by the doubled word -/
theorem and_lt32 (x : Nat) : x &&& 4294967295 < 2 ^ 32 := by
  have := Nat.and_le_right (n := x) (m := 4294967295)
  omega
theorem xor_lt32 {x y : Nat} (hx : x < 2 ^ 32) (hy : y < 2 ^ 32) : x ^^^ y < 2 ^ 32 := Nat.xor_lt_two_pow hx hy
theorem rings3 {x a b c : Nat} (hx : x < 2 ^ 32) (ha : a ≤ 32) (hb : b ≤ 32) (hc : c ≤ 32) : (dbl x >>> a ^^^ dbl x >>> b ^^^ dbl x >>> c) &&& 4294967295 = rotF x a ^^^ rotF x b ^^^ rotF x c :=
  eq_bits (and_lt32 _) (xor_lt32 (xor_lt32 (rotF_lt _ _) (rotF_lt _ _)) (rotF_lt _ _)) fun i hi => by
    rw [Nat.testBit_and, testBit_mask, decide_eq_true hi, Bool.and_true, Nat.testBit_xor, Nat.testBit_xor, Nat.testBit_xor, Nat.testBit_xor, dbl_bit hx ha hi, dbl_bit hx hb hi, dbl_bit hx hc hi, rotF_bit hx ha hi, rotF_bit hx hb hi, rotF_bit hx hc hi]
theorem rings2 {x a b c : Nat} (hx : x < 2 ^ 32) (ha : a ≤ 32) (hb : b ≤ 32) : (dbl x >>> a ^^^ dbl x >>> b ^^^ x >>> c) &&& 4294967295 = rotF x a ^^^ rotF x b ^^^ x >>> c :=
  eq_bits (and_lt32 _) (xor_lt32 (xor_lt32 (rotF_lt _ _) (rotF_lt _ _)) (Nat.lt_of_le_of_lt (Nat.shiftRight_le x c) hx)) fun i hi => by
    rw [Nat.testBit_and, testBit_mask, decide_eq_true hi, Bool.and_true, Nat.testBit_xor, Nat.testBit_xor, Nat.testBit_xor, Nat.testBit_xor, dbl_bit hx ha hi, dbl_bit hx hb hi, rotF_bit hx ha hi, rotF_bit hx hb hi]
theorem choose_eq {e f g : Nat} (he : e < 2 ^ 32) (hf : f < 2 ^ 32) (hg : g < 2 ^ 32) : g ^^^ (e &&& (f ^^^ g)) = (e &&& f) ^^^ ((4294967295 - e) &&& g) := by
  refine Nat.eq_of_testBit_eq fun i => ?_
  have hn : (4294967295 - e).testBit i = (decide (i < 32) && !e.testBit i) := by
    have := Nat.testBit_two_pow_sub_succ (n := 32) he i
    rw [show (2 : Nat) ^ 32 - (e + 1) = 4294967295 - e by omega] at this
    exact this
  rw [Nat.testBit_xor, Nat.testBit_and, Nat.testBit_xor, Nat.testBit_xor, Nat.testBit_and, Nat.testBit_and, hn]
  by_cases hi : i < 32
  · rw [decide_eq_true hi]
    cases e.testBit i <;> cases f.testBit i <;> cases g.testBit i <;> rfl
  · rw [decide_eq_false hi, big_bit he (by omega), big_bit hf (by omega), big_bit hg (by omega)]
    rfl
theorem major_eq (a b c : Nat) : (a &&& b) ||| (c &&& (a ||| b)) = (a &&& b) ^^^ (a &&& c) ^^^ (b &&& c) := by
  refine Nat.eq_of_testBit_eq fun i => ?_
  rw [Nat.testBit_or, Nat.testBit_and, Nat.testBit_and, Nat.testBit_or, Nat.testBit_xor, Nat.testBit_xor, Nat.testBit_and, Nat.testBit_and, Nat.testBit_and]
  cases a.testBit i <;> cases b.testBit i <;> cases c.testBit i <;> rfl
/-! ### the words of a block -/
def loF (x : Nat) : Nat := rotF x 7 ^^^ rotF x 18 ^^^ x >>> 3
def hiF (x : Nat) : Nat := rotF x 17 ^^^ rotF x 19 ^^^ x >>> 10
def nextW (l : List Nat) (k : Nat) : Nat := (l.getD (k - 16) 0 + loF (l.getD (k - 15) 0) + l.getD (k - 7) 0 + hiF (l.getD (k - 2) 0)) % 4294967296
def expW (ws : List Nat) : Nat → List Nat
  | 0 => ws
  | n + 1 => expW ws n ++ [nextW (expW ws n) (16 + n)]
def small32 (l : List Nat) : Prop := ∀ x ∈ l, x < 2 ^ 32
theorem nextW_lt (l : List Nat) (k : Nat) : nextW l k < 2 ^ 32 := Nat.mod_lt _ (by decide)
theorem expW_len (ws : List Nat) : ∀ n, (expW ws n).length = ws.length + n
  | 0 => rfl
  | n + 1 => by rw [expW, List.length_append, expW_len ws n, List.length_singleton]; omega
theorem expW_small {ws : List Nat} (h : small32 ws) : ∀ n, small32 (expW ws n)
  | 0 => h
  | n + 1 => fun x hx => by
    rw [expW] at hx
    rcases List.mem_append.mp hx with hx | hx
    · exact expW_small h n x hx
    · rw [List.mem_singleton.mp hx]; exact nextW_lt _ _
theorem getD_small {l : List Nat} (h : small32 l) (k : Nat) : l.getD k 0 < 2 ^ 32 := by
  by_cases hk : k < l.length
  · rw [List.getD_eq_getElem?_getD, List.getElem?_eq_getElem hk]; exact h _ (List.getElem_mem hk)
  · rw [List.getD_eq_getElem?_getD, List.getElem?_eq_none (by omega)]; decide
end Mir

set_option Elab.async false
set_option linter.all false
set_option maxRecDepth 100000
set_option maxHeartbeats 1000000
/-! MirK: plain laws of MirI's and MirJ's words -/
namespace Mir
open PySem
section
variable {env : En} {h : Hh} {m mo mv : ME} {ma mr : MA} {mf : MF} {c f mm : Str} {cs : List Str} {i : Nat}
theorem aFld : mFld cs f m env h = (m env h).bind fun x h => (match x with
  | .ref n => (match h[n]? with
    | some (.ins c ns vs) => if c ∈ cs then (match getF f ns vs with
      | some y => .ok y h
      | none => .no) else .no
    | _ => .no)
  | _ => .no) := id rfl
theorem aSetF : mSetF cs f mo mv env h = ofE (mv env h) env fun y h => ofE (mo env h) env fun x h => (match x with
  | .ref n => (match h[n]? with
    | some (.ins c ns vs) => if c ∈ cs ∧ ns.length < 1000 then .nx env (h.set n (.ins c (insN f ns) (insV f y ns vs))) else .no
    | _ => .no)
  | _ => .no) := id rfl
theorem aMeth : mMeth c mm mf mo mr env h = (mo env h).bind fun x h => (match x with
  | .ref n => (match h[n]? with
    | some (.ins c' ns vs) => if c' = c then (match getF mm ns vs with
      | none => (mr env h).bind fun xs h => mf (.ref n :: xs) h
      | some _ => .no) else .no
    | _ => .no)
  | _ => .no) := id rfl
theorem aMake : mMake c mf mr env h = (mr env h).bind fun xs h1 => (mf (.ref h1.length :: xs) (h1 ++ [.ins c [] []])).bind fun r h2 => (match r with
  | .non => .ok (.ref h1.length) h2
  | _ => .no) := id rfl
@[simp] theorem aExt : mExt i m env h = (match env[i]? with
  | some (.own (.lst xs)) => ofE (m env h) env fun x h => (match x with
    | .tup ys => if xs.length + ys.length ≤ 16777216 then .nx (env.set i (.own (.lst (xs ++ ys)))) h else .no
    | .lst ys => if xs.length + ys.length ≤ 16777216 then .nx (env.set i (.own (.lst (xs ++ ys)))) h else .no
    | _ => .no)
  | _ => .no) := id rfl
@[simp] theorem getF_nil {α : Type} (vs : List α) : getF f [] vs = none := by unfold getF; rfl
@[simp] theorem getF_cons {α : Type} (n : Str) (ns : List Str) (v : α) (vs : List α) : getF f (n :: ns) (v :: vs) = if n = f then some v else getF f ns vs := by rw [getF]
@[simp] theorem insN_nil : insN f [] = [f] := by unfold insN; rfl
@[simp] theorem insN_cons (n : Str) (ns : List Str) : insN f (n :: ns) = if n = f then n :: ns else n :: insN f ns := by rw [insN]
@[simp] theorem insV_nil {α : Type} (y : α) (vs : List α) : insV f y [] vs = [y] := by unfold insV; rfl
@[simp] theorem insV_cons {α : Type} (y : α) (n : Str) (ns : List Str) (v : α) (vs : List α) : insV f y (n :: ns) (v :: vs) = if n = f then y :: vs else v :: insV f y ns vs := by rw [insV]
/-- an attribute that is there -/
theorem fld_at {n : Nat} {ns : List Str} {vs : List PV} {y : PV} (hm : m env h = .ok (.ref n) h) (hn : h[n]? = some (.ins c ns vs)) (hc : c ∈ cs) (hy : getF f ns vs = some y) : mFld cs f m env h = .ok y h := by
  simp only [aFld, hm, Res.bind_ok, hn, hc, if_true, hy]
theorem meth_at {n : Nat} {ns : List Str} {vs : List PV} (hm : mo env h = .ok (.ref n) h) (hn : h[n]? = some (.ins c ns vs)) (hy : getF mm ns vs = none) : mMeth c mm mf mo mr env h = (mr env h).bind fun xs h => mf (.ref n :: xs) h := by
  simp only [aMeth, hm, Res.bind_ok, hn, if_true, hy]
theorem setF_at {n : Nat} {ns : List Str} {vs : List PV} {y : PV} (hv : mv env h = .ok y h) (hm : mo env h = .ok (.ref n) h) (hn : h[n]? = some (.ins c ns vs)) (hc : c ∈ cs) (hl : ns.length < 1000) : mSetF cs f mo mv env h = .nx env (h.set n (.ins c (insN f ns) (insV f y ns vs))) := by
  simp only [aSetF, hv, ofE_ok, hm, hn, hc, hl, and_self, if_true]
end
end Mir
namespace Mir
open PySem
theorem forL_invH {α : Type} {g : MG} {b : MS} (F : α → PV) (I : List α → En → Hh → Prop) : ∀ (l pre : List α), (∀ pre' a post, pre ++ l = pre' ++ a :: post → ∀ env h, I pre' env h → ∃ env1 env2 h2, g (F a) env = some env1 ∧ b env1 h = .nx env2 h2 ∧ I (pre' ++ [a]) env2 h2) →
    ∀ env h, I pre env h → ∃ env' h', forL g b (l.map F) env h = .nx env' h' ∧ I (pre ++ l) env' h'
  | [], pre, _, env, h, i => ⟨env, h, rfl, by rw [List.append_nil]; exact i⟩
  | a :: r, pre, H, env, h, i => by
    obtain ⟨env1, env2, h2, h1, h3, i2⟩ := H pre a r rfl env h i
    obtain ⟨env', h', e1, i3⟩ := forL_invH (g := g) (b := b) F I r (pre ++ [a]) (fun pre' a' post e => H pre' a' post (by rw [← e]; simp)) env2 h2 i2
    refine ⟨env', h', ?_, by simpa using i3⟩
    rw [List.map_cons]
    unfold forL
    simp only [h1, h3]
    exact e1
theorem set_last (h0 : Hh) (x y : Ob) : (h0 ++ [x]).set h0.length y = h0 ++ [y] := by
  rw [List.set_append_right _ _ (Nat.le_refl _), Nat.sub_self]; rfl
theorem get_last (h0 : Hh) (x : Ob) : (h0 ++ [x])[h0.length]? = some x := by
  rw [List.getElem?_append_right (Nat.le_refl _), Nat.sub_self]; rfl
theorem get_more {h0 : Hh} {n : Nat} {x : Ob} (e : h0[n]? = some x) (ys : Hh) : (h0 ++ ys)[n]? = some x := by
  rw [List.getElem?_append_left (List.getElem?_eq_some_iff.mp e).1]; exact e
theorem setF_last {h0 : Hh} {c f : Str} {ns : List Str} {vs : List PV} {env : En} {mo mv : ME} {y : PV} (hv : mv env (h0 ++ [.ins c ns vs]) = .ok y (h0 ++ [.ins c ns vs])) (hm : mo env (h0 ++ [.ins c ns vs]) = .ok (.ref h0.length) (h0 ++ [.ins c ns vs])) (hl : ns.length < 1000) :
    mSetF [c] f mo mv env (h0 ++ [.ins c ns vs]) = .nx env (h0 ++ [.ins c (insN f ns) (insV f y ns vs)]) := by
  rw [setF_at hv hm (get_last _ _) (by simp) hl, set_last]
end Mir

set_option Elab.async false
set_option linter.all false
set_option maxRecDepth 100000
set_option maxHeartbeats 1000000
/-! MirH: plain lemmas that many laws share -/
namespace Mir
open PySem
theorem slU (xs : List PV) (k : Nat) (h : Hh) : oSl (.tup xs) none (some (k : Int)) h = .ok (.tup (xs.take k)) h := by rw [oSl, cutP_take]
theorem slW (xs : List PV) (k : Nat) (h : Hh) : oSl (.tup xs) (some (k : Int)) none h = .ok (.tup (xs.drop k)) h := by rw [oSl, cutP_drop]
theorem slV (xs : List PV) (k : Nat) (h : Hh) : oSl (.tup xs) (some ((k : Int) + 1)) none h = .ok (.tup (xs.drop (k + 1))) h := by
  rw [show (k : Int) + 1 = ((k + 1 : Nat) : Int) by omega]; exact slW xs (k + 1) h
theorem slLU (xs : List PV) (k : Nat) (h : Hh) : oSl (.lst xs) none (some (k : Int)) h = .ok (.lst (xs.take k)) h := by rw [oSl, cutP_take]
theorem slLW (xs : List PV) (k : Nat) (h : Hh) : oSl (.lst xs) (some (k : Int)) none h = .ok (.lst (xs.drop k)) h := by rw [oSl, cutP_drop]
theorem ix_mem (L : List PV) (e : Int) (h0 : 0 ≤ e) (h1 : e < L.length) (h : Hh) : ∃ x, x ∈ L ∧ oIx (.lst L) (.int e) h = .ok x h := by
  obtain ⟨k, rfl⟩ : ∃ k : Nat, e = (k : Int) := ⟨e.toNat, by omega⟩
  have hk : k < L.length := by omega
  exact ⟨L[k], List.getElem_mem hk, ixL h (L2.atI_nat (List.getElem?_eq_getElem hk))⟩
theorem len0 : (([] : List PV).length ≤ 16777216) = True := eq_true (by simp)
theorem len1 (a : PV) : ([a].length ≤ 16777216) = True := eq_true (by simp)
theorem len2 (a b : PV) : ([a, b].length ≤ 16777216) = True := eq_true (by simp)
theorem len3 (a b c : PV) : ([a, b, c].length ≤ 16777216) = True := eq_true (by simp)
theorem len4 (a b c d : PV) : ([a, b, c, d].length ≤ 16777216) = True := eq_true (by simp)
theorem len5 (a b c d e : PV) : ([a, b, c, d, e].length ≤ 16777216) = True := eq_true (by simp)
theorem len6 (a b c d e f : PV) : ([a, b, c, d, e, f].length ≤ 16777216) = True := eq_true (by simp)
theorem len8 (a b c d e f g i : PV) : ([a, b, c, d, e, f, g, i].length ≤ 16777216) = True := eq_true (by simp)
theorem all_app {P : PV → Prop} {a b : List PV} (ha : ∀ x ∈ a, P x) (hb : ∀ x ∈ b, P x) : ∀ x ∈ a ++ b, P x := fun x hx => by
  rcases List.mem_append.mp hx with hx | hx
  · exact ha x hx
  · exact hb x hx
theorem all_take {P : PV → Prop} {a : List PV} (ha : ∀ x ∈ a, P x) (k : Nat) : ∀ x ∈ a.take k, P x := fun x hx => ha x (List.mem_of_mem_take hx)
theorem all_drop {P : PV → Prop} {a : List PV} (ha : ∀ x ∈ a, P x) (k : Nat) : ∀ x ∈ a.drop k, P x := fun x hx => ha x (List.mem_of_mem_drop hx)
theorem all_one {P : PV → Prop} {a : PV} (ha : P a) : ∀ x ∈ [a], P x := fun x hx => by rw [List.mem_singleton.mp hx]; exact ha
theorem addU (a b : List PV) (ha : a.length ≤ 1000) (hb : b.length ≤ 1000) (h : Hh) : oAdd (.tup a) (.tup b) h = .ok (.tup (a ++ b)) h := addT h (by omega)
theorem forL_or {g : MG} {b : MS} {h : Hh} (I : En → Prop) (R : PV → Prop) : ∀ l : List PV, (∀ x ∈ l, ∀ env, I env → ∃ env1, g x env = some env1 ∧ ((∃ env2, b env1 h = .nx env2 h ∧ I env2) ∨ ∃ v, b env1 h = .rt v h ∧ R v)) → ∀ env, I env → (∃ env2, forL g b l env h = .nx env2 h ∧ I env2) ∨ ∃ v, forL g b l env h = .rt v h ∧ R v
  | [], _, env, hi => .inl ⟨env, rfl, hi⟩
  | x :: l, hl, env, hi => by
    obtain ⟨env1, e1, e2⟩ := hl x (by simp) env hi
    unfold forL
    rw [e1]
    rcases e2 with ⟨env2, e2, hi2⟩ | ⟨v, e2, hv⟩
    · simp only [e2]
      exact forL_or I R l (fun y hy => hl y (by simp [hy])) env2 hi2
    · simp only [e2]
      exact .inr ⟨v, rfl, hv⟩
@[simp] theorem aRf (m : MA) (env : En) (h : Hh) : mRf m env h = (m env h).bind fun xs h => .ok (.ref h.length) (h ++ [.lst xs]) := id rfl
theorem de_ref {h : Hh} {n : Nat} {xs : List PV} (e : h[n]? = some (.lst xs)) : de h (.ref n) = .lst xs := by simp only [de, e]
@[simp] theorem de_lst (h : Hh) (xs : List PV) : de h (.lst xs) = .lst xs := id rfl
@[simp] theorem de_int (h : Hh) (i : Int) : de h (.int i) = .int i := id rfl
@[simp] theorem de_tup (h : Hh) (xs : List PV) : de h (.tup xs) = .tup xs := id rfl
@[simp] theorem de_str (h : Hh) (s : Str) : de h (.str s) = .str s := id rfl
@[simp] theorem de_non (h : Hh) : de h .non = .non := id rfl
@[simp] theorem de_bl (h : Hh) (b : Bool) : de h (.bl b) = .bl b := id rfl
theorem get_app {h : Hh} {n : Nat} {o : Ob} (e : h[n]? = some o) (t : Hh) : (h ++ t)[n]? = some o := by
  rw [List.getElem?_append_left (List.getElem?_eq_some_iff.mp e).1]; exact e
theorem get_end (h : Hh) (o : Ob) : (h ++ [o])[h.length]? = some o := by
  rw [List.getElem?_append_right (Nat.le_refl _), Nat.sub_self]; rfl
theorem get_set_ne {h : Hh} {n k : Nat} {o o' : Ob} (e : h[n]? = some o) (hk : k ≠ n) : (h.set k o')[n]? = some o := by
  rw [List.getElem?_set_ne hk]; exact e
theorem get_set_eq {h : Hh} {n : Nat} {o o' : Ob} (e : h[n]? = some o) : (h.set n o')[n]? = some o' := by
  rw [List.getElem?_set_self (List.getElem?_eq_some_iff.mp e).1]
/-- a table of texts and ints, as keys and values -/
theorem getK_look (z : Str) : ∀ kvs : List (Str × Int), getK (Sum.inr z) (kvs.map fun p => Sum.inr p.1) (kvs.map fun p => PV.int p.2) = (lookS z kvs).map PV.int
  | [] => rfl
  | (x, i) :: r => by
    rw [List.map_cons, List.map_cons]
    unfold getK lookS
    by_cases e : x = z
    · rw [if_pos (by rw [e]), if_pos e]; rfl
    · rw [if_neg (fun q => e (Sum.inr.inj q)), if_neg e]; exact getK_look z r
end Mir
namespace Mir
open PySem
theorem eqG_of {n : Nat} (hn : n ≤ 64) (neg : Bool) {x y : PV} {dx dy : PyData} (sx : sEq x y = none) (hx : lv n x = true) (hy : lv n y = true) (ex : toD x = some dx) (ey : toD y = some dy) (h : Hh) :
    oEqG neg x y h = .ok (.bl (if neg then !PyData.eqv dx dy else PyData.eqv dx dy)) h := by
  unfold oEqG
  rw [sx, ex, ey]
  obtain ⟨d1, e1, s1, _⟩ := lv_shaped hx hn
  obtain ⟨d2, e2, s2, _⟩ := lv_shaped hy hn
  rw [ex] at e1; cases e1
  rw [ey] at e2; cases e2
  simp only
  rw [s1, s2]; rfl
theorem ne_nil {n : Nat} (hn : n + 1 ≤ 64) (xs : List PV) (hx : ∀ x ∈ xs, lv n x = true) (h : Hh) : oNe (.lst xs) (.lst []) h = .ok (.bl (!xs.isEmpty)) h := by
  cases xs with
  | nil => rfl
  | cons x r =>
    have hl : lv (n + 1) (.lst (x :: r)) = true := by unfold lv; exact List.all_eq_true.mpr hx
    have hl0 : lv (n + 1) (.lst []) = true := by unfold lv; rfl
    obtain ⟨d, e1, _⟩ := lv_ok n x (hx x (by simp))
    obtain ⟨ds, e2, _⟩ := lvs_ok n r (List.all_eq_true.mpr fun y hy => hx y (by simp [hy]))
    have ex : toD (.lst (x :: r)) = some (.list (d :: ds)) := by rw [toD, toDs, e1, e2]; rfl
    have := eqG_of hn true (x := .lst (x :: r)) (y := .lst []) rfl hl hl0 ex (show toD (.lst []) = some (.list []) by rw [toD, toDs]; rfl) h
    simp only [PyData.eqv, PyData.eqvAll] at this
    exact this
theorem lv_no {n : Nat} {x : PV} (h : lv n x = true) : ∀ k ks vs, x ≠ .ref k ∧ x ≠ .dct ks vs := fun k ks vs => by
  constructor
  · rintro rfl; cases n <;> (unfold lv at h; cases h)
  · rintro rfl; cases n <;> (unfold lv at h; cases h)
end Mir
namespace Mir
open PySem
theorem atI_last {xs : List PV} {x : PV} (h : xs ≠ []) (e : xs.getLast? = some x) : L2.atI xs (-1) = some x := by
  have hl : 0 < xs.length := List.length_pos_iff.mpr h
  unfold L2.atI L2.ixN
  rw [if_neg (by decide), if_pos (by omega), Option.bind_some]
  rw [show ((-1 : Int) + (xs.length : Int)).toNat = xs.length - 1 by omega, ← List.getLast?_eq_getElem?, e]
theorem ix_last {xs : List PV} {x : PV} (h : Hh) (e : xs.getLast? = some x) : oIx (.lst xs) (.int (-1)) h = .ok x h := ixL h (atI_last (fun q => by rw [q] at e; cases e) e)
theorem cut_last (xs : List PV) : cutP xs none (some (-1)) = xs.take (xs.length - 1) := by
  unfold cutP
  have h1 : HT.sIx xs.length 0 none = 0 := rfl
  have h2 : HT.sIx xs.length xs.length (some (-1)) = xs.length - 1 := by
    have : HT.sIx xs.length xs.length (some (-1)) = (if (-1 : Int) < 0 then ((-1 : Int) + (xs.length : Int)).toNat else min (-1 : Int).toNat xs.length) := rfl
    rw [this, if_pos (by decide)]; omega
  rw [h1, h2]; simp
end Mir

set_option Elab.async false
set_option linter.all false
set_option maxRecDepth 100000
set_option maxHeartbeats 1000000
/-! MirT: sorted(a list) of data that are alike, of any length -/
namespace Mir
open PySem PySem.Spec PyProof.Rows L2
abbrev leD (x y : PyData) : Bool := PySem.W.dataLe false id x y
theorem leD_eq (x y : PyData) : leD x y = !PySem.W.dataLt y x := rfl
section
variable {X : Cx}
def zs (xs : List V) (ds : List PyData) : List (V × PyData) := (xs.zip ds).mergeSort (PySem.W.dataLe false fun b => b.2)
def rSortD (K : PySem.W.Frag) : List V → Hp → VK → Prop := fun vs H Q => ∃ (a : Addr) (xs : List V) (ds : List PyData), vs = [.ref a] ∧ SqL K H a xs ∧ DpAll K H xs ds ∧ PySem.W.AllAlike ds ∧ PySem.W.Sortable ds ∧ PyData.depthAll ds ≤ 60 ∧
  ∀ p, H p = none → Q (.ref p) (upd H p (.lst ((zs xs ds).map (·.1))))
theorem each_vals : ∀ {xs : List V} {us : List Value} {ds : List PyData}, Vals xs us → xs.length = ds.length → PySem.W.EachIs (fun v (b : V × PyData) => RelV b.1 v) us (xs.zip ds)
  | [], _, [], .nil, _ => .nil
  | [], _, _ :: _, _, h => by simp at h
  | _ :: _, _, [], _, h => by simp at h
  | x :: xs, _, d :: ds, .cons r t, h => .cons r (each_vals t (by simpa using h))
theorem vals_each : ∀ {us : List Value} {bs : List (V × PyData)}, PySem.W.EachIs (fun v (b : V × PyData) => RelV b.1 v) us bs → Vals (bs.map (·.1)) us
  | _, _, .nil => .nil
  | _, _, .cons r t => .cons r (vals_each t)
theorem dpLen {K : PySem.W.Frag} {H : Hp} : ∀ {xs : List V} {ds : List PyData}, DpAll K H xs ds → xs.length = ds.length
  | _, _, .nil => rfl
  | _, _, .cons _ q => by rw [List.length_cons, List.length_cons, dpLen q]
theorem depth_mem : ∀ {ds : List PyData} {d : PyData}, d ∈ ds → d.depth ≤ PyData.depthAll ds
  | x :: r, d, h => by
    rw [PyData.depthAll]
    rcases List.mem_cons.mp h with rfl | h
    · omega
    · have := depth_mem h; omega
theorem zs_len (xs : List V) (ds : List PyData) (h : xs.length = ds.length) : (zs xs ds).length = xs.length := by
  unfold zs
  rw [List.length_mergeSort, List.length_zip]; omega
theorem cr_sortD (hu : X.A.units + 64 < cLine) : CallR X (.builtin "sorted") (rSortD X.K) := by
  intro pins s σ H vs us Q I r h
  obtain ⟨a, xs, ds, rfl, hq, hd, ha, hs, hz, q⟩ := h
  obtain ⟨its, rv, hl, hz'⟩ := I.list hq
  rw [Vals.ref1 r]
  obtain ⟨as, ra⟩ := Dp.readsAll I ds xs its hd rv
  have hlen := dpLen hd
  have em : (xs.zip ds).map (fun b : V × PyData => b.2) = ds := List.map_snd_zip (by omega)
  have el : (xs.zip ds).length = xs.length := by rw [List.length_zip]; omega
  refine PySem.W.sorted_data (enc := fun b : V × PyData => b.2) (bs := xs.zip ds) (vs := its) hl.isList (each_vals rv hlen) (PySem.W.readsAll_each (fun b : V × PyData => b.2) (by rw [em]; exact ra)) (by rw [em]; exact ha) (by rw [em]; exact hs) (by rw [el]; exact hz') (fun b hb => ?_) fun out h1 h2 => ?_
  · have := depth_mem (List.of_mem_zip hb).2
    omega
  · obtain ⟨ep, he'⟩ := PyProof.Rows.sortedAll_at s.heap its out.toArray
    refine ⟨.ref _, upd H (s.heap.objs.size + 1) (.lst ((zs xs ds).map (·.1))), I.laid (t' := s.toks) (fun _ _ => PyProof.Rows.sortedAll_old) (Nat.le_succ _) ⟨?_, out, ep, vals_each h2, he'⟩, rfl, q _ (I.hok.fresh (Nat.le_succ _))⟩
    rw [List.length_map, zs_len _ _ hlen]; exact hz'
end
def isTupD : PyData → Bool
  | .tuple (_ :: _) => true
  | _ => false
def noTupD : PyData → Bool
  | .tuple _ => false
  | .none => false
  | _ => true
def sortB (ds : List PyData) : Bool := (ds.all fun x => ds.all fun y => PySem.W.alike x y) && (ds.all isTupD || ds.all noTupD) && decide (PyData.depthAll ds ≤ 60)
theorem sortB_ok {ds : List PyData} (h : sortB ds = true) : PySem.W.AllAlike ds ∧ PySem.W.Sortable ds ∧ PyData.depthAll ds ≤ 60 := by
  unfold sortB at h
  simp only [Bool.and_eq_true, List.all_eq_true, Bool.or_eq_true, decide_eq_true_eq] at h
  refine ⟨fun x hx y hy => h.1.1 x hx y hy, ?_, h.2⟩
  rcases h.1.2 with q | q
  · refine .inl fun d hd => ?_
    have := q d hd
    cases d with
    | tuple xs => cases xs with
      | nil => cases this
      | cons x r => exact ⟨x, r, rfl⟩
    | _ => cases this
  · refine .inr fun d hd => ?_
    have := q d hd
    cases d with
    | tuple xs => cases this
    | none => cases this
    | _ => exact ⟨by simp, by simp⟩
def fSorted : List PV → Hh → Res (List PV) := fun xs h => match xs with
  | [.lst ys] => match toDs ys with
    | some ds => if sortB ds = true then .ok ((ds.mergeSort leD).map fromD) h else .no
    | none => .no
  | _ => .no
theorem zip_rel {S : Sx} {w : Wd} : ∀ {xs : List PV} {vs : List V} {ds : List PyData}, PWs S w xs vs → toDs xs = some ds → ∀ p ∈ vs.zip ds, PW' S w (fromD p.2) p.1
  | [], _, _, .nil, _ => by simp
  | x :: r, _, ds, .cons p q, e => by
    rw [toDs] at e
    split at e
    · rename_i d es e1 e2
      cases e
      intro b hb
      rw [List.zip_cons_cons] at hb
      rcases List.mem_cons.mp hb with rfl | hb
      · show PW' S w (fromD d) _
        rw [from_to e1]; exact p
      · exact zip_rel q e2 b hb
    · cases e
theorem prs_of {S : Sx} {w : Wd} : ∀ (l : List (V × PyData)), (∀ p ∈ l, PW' S w (fromD p.2) p.1) → PWs S w (l.map fun b => fromD b.2) (l.map (·.1))
  | [], _ => .nil
  | p :: r, h => .cons (h p (by simp)) (prs_of r fun b hb => h b (by simp [hb]))
section
variable {F : Fam} {e : Expr} {pos p : Pos} {mr : MA}
theorem sim_sorted {S : Sx} : SimN S (rSortD S.K) fSorted := fun W σ w h xs vs Q d px po => by
  unfold fSorted at po
  split at po
  · split at po
    · rename_i ds et
      split at po
      · rename_i hb
        obtain ⟨v, rfl, p1⟩ := px.one
        obtain ⟨a, us, rfl, ha, ra⟩ := p1.ofLst d
        obtain ⟨b1, b2, b3⟩ := sortB_ok hb
        have hdp : DpAll S.K w.H us ds := DpAll.mono' d.sub (dps_of ra et)
        have hlen := dpLen hdp
        refine ⟨a, us, ds, rfl, ha, hdp, b1, b2, b3, fun b nb => ?_⟩
        have em : (us.zip ds).map (fun b : V × PyData => b.2) = ds := List.map_snd_zip (by omega)
        have e2 : (zs us ds).map (fun b : V × PyData => b.2) = ds.mergeSort leD := by
          unfold zs
          have := PySem.W.sort_maps (r := PySem.W.dataLe false fun b : V × PyData => b.2) (s := leD) (l := us.zip ds) (fun b : V × PyData => b.2) (fun _ _ _ _ => rfl)
          rw [this, em]
        have e3 : (ds.mergeSort leD).map fromD = (zs us ds).map fun b => fromD b.2 := by
          rw [← e2, List.map_map]; rfl
        rw [e3] at po
        exact putN d (prs_of _ fun q hq => zip_rel ra et q ((List.mergeSort_perm _ _).mem_iff.mp hq)) po nb
      · exact po.elim
    · exact po.elim
  · exact po.elim
theorem sn_sorted (ok : F.Ok) (hm : F.mg "sorted" = none) (ha : SAB F [e] mr) (hg : ∀ i, Gl (F.X i) "sorted" := by intro _; rfl) (he : ∀ i, starEach [e] (F.X i).env = (false, eval e (F.X i).env) :: starEach [] (F.X i).env := by intro _; rfl) : SN F (.Call (.Name "sorted" p) [e] [] pos) (mCallN fSorted mr) :=
  sn_callB sim_sorted (fun i => cr_sortD (X := F.X i) (ok.u64 i)) hm (by decide +kernel) ha hg (by decide) (by decide) he (fun _ => rfl)
theorem sn_sortedD (ok : F.Ok) (hm : F.mg "sorted" = none) (ha : SAB F [e] mr) (hg : ∀ i, Gl (F.X i) "sorted" := by intro _; rfl) (he : ∀ i, starEach [e] (F.X i).env = (false, eval e (F.X i).env) :: starEach [] (F.X i).env := by intro _; rfl) : SN F (.Call (.Name "sorted" p) [e] [] pos) (mCallN (dC fSorted) mr) :=
  sn_callB sim_sorted.de (fun i => cr_sortD (X := F.X i) (ok.u64 i)) hm (by decide +kernel) ha hg (by decide) (by decide) he (fun _ => rfl)
end
/-! plain laws -/
theorem fSorted_map {α : Type} (f : α → PV) (g : α → PyData) (l : List α) (h : Hh) (hf : ∀ a ∈ l, toD (f a) = some (g a)) (hb : sortB (l.map g) = true) :
    fSorted [.lst (l.map f)] h = .ok ((l.mergeSort fun a b => leD (g a) (g b)).map f) h := by
  have e1 := toDs_map f g l hf
  have e2 : ((l.map g).mergeSort leD) = (l.mergeSort fun a b => leD (g a) (g b)).map g := (PySem.W.sort_maps (s := leD) g fun _ _ _ _ => rfl).symm
  have e3 : ((l.mergeSort fun a b => leD (g a) (g b)).map g).map fromD = (l.mergeSort fun a b => leD (g a) (g b)).map f := by
    rw [List.map_map]
    refine List.map_congr_left fun a ha => ?_
    exact from_to (hf a ((List.mergeSort_perm _ _).mem_iff.mp ha))
  simp only [fSorted, e1, hb, if_true, e2, e3]
theorem leD_int (a b : Int) : leD (.int a) (.int b) = decide (a ≤ b) := congrFun (congrFun (PySem.W.dataLe_int (fun x : Int => x)) a) b
theorem depth_ints : ∀ ns : List Int, PyData.depthAll (ns.map PyData.int) = 0
  | [] => rfl
  | n :: r => by rw [List.map_cons, PyData.depthAll, depth_ints r, PyData.depth]; rfl
theorem sortB_ints (ns : List Int) : sortB (ns.map PyData.int) = true := by
  unfold sortB
  rw [depth_ints]
  simp only [Bool.and_eq_true, List.all_eq_true, Bool.or_eq_true, decide_eq_true_eq, List.mem_map, forall_exists_index, and_imp]
  exact ⟨⟨fun _ a _ e _ b _ e2 => by subst e e2; rfl, .inr fun _ a _ e => by subst e; rfl⟩, by omega⟩
abbrev sortI (ns : List Int) : List Int := ns.mergeSort fun a b => decide (a ≤ b)
theorem fSorted_ints (ns : List Int) (h : Hh) : fSorted [.lst (ns.map PV.int)] h = .ok ((sortI ns).map PV.int) h := by
  rw [fSorted_map PV.int PyData.int ns h (fun _ _ => by rw [toD]) (sortB_ints ns)]
  simp only [leD_int]
end Mir
namespace Mir
open PySem
/-! more plain laws -/
theorem mulP {i j : Int} (h : Hh) (c1 : -18446744073709551616 < j) (c2 : j < 18446744073709551616) : oMulA (.int i) (.int j) h = .ok (.int (i * j)) h := mulAI h (mulOk_r (by omega))
theorem mulQ {i j : Int} (h : Hh) (c1 : -18446744073709551616 < i) (c2 : i < 18446744073709551616) : oMulA (.int i) (.int j) h = .ok (.int (i * j)) h := mulAI h (mulOk_l (by omega))
theorem modP {i j : Int} (h : Hh) (c : 0 < j) : oMod (.int i) (.int j) h = .ok (.int (i % j)) h := modI h c
theorem divP {i j : Int} (h : Hh) (c : 0 < j) (c2 : j < 4611686018427387904) : oDiv (.int i) (.int j) h = .ok (.int (i / j)) h := divI h (divOk_of c (by omega))
theorem sortB_pairs {α : Type} (f g : α → Int) (l : List α) : sortB (l.map fun a => PyData.tuple [.int (f a), .int (g a)]) = true := by
  have hd : ∀ l : List α, PyData.depthAll (l.map fun a => PyData.tuple [.int (f a), .int (g a)]) ≤ 1 := by
    intro l
    induction l with
    | nil => rw [List.map_nil, PyData.depthAll]; omega
    | cons a r ih => rw [List.map_cons, PyData.depthAll, PyData.depth, PyData.depthAll, PyData.depthAll, PyData.depthAll, PyData.depth, PyData.depth]; omega
  have hd1 := hd l
  unfold sortB
  simp only [Bool.and_eq_true, List.all_eq_true, Bool.or_eq_true, decide_eq_true_eq, List.mem_map, forall_exists_index, and_imp]
  exact ⟨⟨fun _ a _ e _ b _ e2 => by subst e e2; rfl, .inl fun _ a _ e => by subst e; rfl⟩, by omega⟩
def oi : Option Int → PV
  | none => .non
  | some i => .int i
@[simp] theorem oi_none : oi none = .non := id rfl
@[simp] theorem oi_some (i : Int) : oi (some i) = .int i := id rfl
theorem alike_ints (n : Int) (ns : List Int) : alikeB ((n :: ns).map PyData.int) = true := by
  unfold alikeB
  simp only [Bool.and_eq_true, List.all_eq_true, List.mem_map, forall_exists_index, and_imp]
  exact ⟨fun _ a _ e _ b _ e2 => by subst e e2; rfl, fun _ a _ e => by subst e; rfl⟩
theorem fMin_ints (n : Int) (ns : List Int) (h : Hh) : fMin [.lst ((n :: ns).map PV.int)] h = .ok (.int (ns.foldl min n)) h := by
  have e : toDs ((n :: ns).map PV.int) = some ((n :: ns).map PyData.int) := toDs_map PV.int PyData.int (n :: ns) fun _ _ => by rw [toD]
  have m : minP ((n :: ns).map PV.int) = some (.int (ns.foldl min n)) := by
    unfold minP
    rw [e]
    have c : (alikeB ((n :: ns).map PyData.int) && decide (PyData.depthAll ((n :: ns).map PyData.int) ≤ 60)) = true := by
      rw [alike_ints, depth_ints]; rfl
    simp only [List.map_cons] at c ⊢
    rw [if_pos c, PySem.W.minD_ints, fromD]
  show (match minP ((n :: ns).map PV.int) with | some x => Res.ok x h | none => Res.no) = _
  rw [m]
theorem inI (i : Int) (ns : List Int) (h : Hh) : oIn (.int i) (.lst (ns.map PV.int)) h = .ok (.bl (ns.contains i)) h := by
  rw [← inP_ints]
  unfold oIn oInG
  simp only [flat_ints]
  rfl
theorem notInI (i : Int) (ns : List Int) (h : Hh) : oNotIn (.int i) (.lst (ns.map PV.int)) h = .ok (.bl (!ns.contains i)) h := by
  rw [← inP_ints]
  unfold oNotIn oInG
  simp only [flat_ints]
  rfl
theorem sortI_mem {a : Int} {l : List Int} : a ∈ sortI l ↔ a ∈ l := (List.mergeSort_perm _ _).mem_iff
theorem sortI_len (l : List Int) : (sortI l).length = l.length := List.length_mergeSort _
end Mir
namespace Mir
open PySem
theorem forL_range {g : MG} {b : MS} (n : Nat) (I : Nat → En → Hh → Prop) (H : ∀ i, i < n → ∀ env h, I i env h → ∃ env1 env2 h2, g (.int (i : Int)) env = some env1 ∧ b env1 h = .nx env2 h2 ∧ I (i + 1) env2 h2) {env : En} {h : Hh} (i0 : I 0 env h) :
    ∃ env' h', forL g b ((List.range n).map fun (k : Nat) => PV.int (k : Int)) env h = .nx env' h' ∧ I n env' h' := by
  obtain ⟨env', h', e, i⟩ := forL_invH (g := g) (b := b) (fun k : Nat => PV.int (k : Int)) (fun pre => I pre.length) (List.range n) [] (fun pre a post e env h i => by
    obtain ⟨rfl, hk⟩ := range_at e.symm.symm
    obtain ⟨env1, env2, h2, e1, e2, i2⟩ := H pre.length hk env h i
    exact ⟨env1, env2, h2, e1, e2, by rw [List.length_append]; exact i2⟩) env h i0
  rw [List.nil_append, List.length_range] at i
  exact ⟨env', h', e, i⟩
theorem hasK_iff {k : L2.Key} : ∀ {ks : List L2.Key}, hasK k ks = true ↔ k ∈ ks
  | [] => by simp [hasK]
  | a :: r => by
    have := hasK_iff (k := k) (ks := r)
    unfold hasK at this ⊢
    rw [List.any_cons, Bool.or_eq_true, this, decide_eq_true_eq, List.mem_cons]
    exact ⟨fun h => h.imp Eq.symm id, fun h => h.imp Eq.symm id⟩
theorem getK_app {k : L2.Key} {y : PV} {k' : L2.Key} : ∀ {ks : List L2.Key} {vs : List PV}, ks.length = vs.length → k ∉ ks → getK k' (ks ++ [k]) (vs ++ [y]) = if k = k' then some y else getK k' ks vs
  | [], [], _, _ => by simp [getK]
  | [], _ :: _, h, _ => by simp at h
  | _ :: _, [], h, _ => by simp at h
  | a :: r, v :: vs, h, hk => by
    rw [List.cons_append, List.cons_append, getK, getK, getK_app (by simpa using h) (fun q => hk (by simp [q]))]
    by_cases e : a = k'
    · rw [if_pos e, if_pos e, if_neg (fun q => hk (by rw [q, ← e]; simp))]
    · rw [if_neg e, if_neg e]
theorem getK_rep {k : L2.Key} {y : PV} {k' : L2.Key} : ∀ {ks : List L2.Key} {vs : List PV}, ks.length = vs.length → k ∈ ks → getK k' ks (repK k y ks vs) = if k = k' then some y else getK k' ks vs
  | [], _, _, hk => by cases hk
  | _ :: _, [], h, _ => by simp at h
  | a :: r, v :: vs, h, hk => by
    rw [repK, getK, getK]
    by_cases e : a = k
    · subst e
      rw [if_pos rfl]
      by_cases e2 : a = k'
      · rw [if_pos e2, if_pos e2]
      · rw [if_neg e2, if_neg e2, if_neg e2]
        have key : ∀ (ks : List L2.Key) (vs : List PV), ks.length = vs.length → getK k' ks (repK a y ks vs) = getK k' ks vs := by
          intro ks
          induction ks with
          | nil => intro vs _; simp [getK]
          | cons b r ih =>
            intro vs hl
            cases vs with
            | nil => simp at hl
            | cons v vs =>
              rw [repK, getK, getK, ih vs (by simpa using hl)]
              by_cases e3 : b = k'
              · rw [if_pos e3, if_pos e3, if_neg (fun q => e2 (by rw [← q, e3]))]
              · rw [if_neg e3, if_neg e3]
        exact key r vs (by simpa using h)
    · rw [if_neg e]
      by_cases e2 : a = k'
      · rw [if_pos e2, if_pos e2, if_neg (fun q => e (by rw [q, e2]))]
      · rw [if_neg e2, if_neg e2]
        rcases List.mem_cons.mp hk with q | q
        · exact absurd q.symm e
        · exact getK_rep (by simpa using h) q
/-- what stands in a dict behind a store -/
theorem getK_ins {k : L2.Key} {y : PV} {k' : L2.Key} {ks : List L2.Key} {vs : List PV} (h : ks.length = vs.length) : getK k' (insK k ks) (insKV k y ks vs) = if k = k' then some y else getK k' ks vs := by
  unfold insK insKV
  by_cases c : hasK k ks = true
  · rw [if_pos c, if_pos c, getK_rep h (hasK_iff.mp c)]
  · rw [if_neg c, if_neg c, getK_app h (fun q => c (hasK_iff.mpr q))]
theorem insK_le (k : L2.Key) (ks : List L2.Key) : (insK k ks).length ≤ ks.length + 1 := by
  unfold insK
  split
  · omega
  · rw [List.length_append]; simp
theorem rng0 (c : Int) (hc : 0 ≤ c) : rngList 0 c.toNat = (List.range c.toNat).map fun (k : Nat) => PV.int (k : Int) := rng_nat _
end Mir

set_option Elab.async false
set_option linter.all false
set_option maxRecDepth 100000
set_option maxHeartbeats 1000000
/-! MirN: == and != of what is surely equal: tuples, lists and dicts within one another, read through their refs; dict(d) -/
namespace MirN
open PySem PySem.Spec PyProof.Rows L2 PySem.SeqAt
open AutoSeq1 (wpAny_loadPart')
section
variable {pr : Program} {wo : World}
theorem zip_at {us vs : Array Value} {i : Nat} {y x : Value} {rest : List (Value × Value)} (hz : (y, x) :: rest = (us.toList.zip vs.toList).drop i) : ∃ (h1 : i < us.size) (h2 : i < vs.size), y = us[i] ∧ x = vs[i] ∧ rest = (us.toList.zip vs.toList).drop (i + 1) := by
  have hl : i < (us.toList.zip vs.toList).length := by
    rcases Nat.lt_or_ge i (us.toList.zip vs.toList).length with q | q
    · exact q
    · rw [List.drop_of_length_le q] at hz; cases hz
  have hl' : i < min us.size vs.size := by simpa using hl
  rw [List.drop_eq_getElem_cons hl] at hz
  injection hz with e1 e2
  refine ⟨by omega, by omega, ?_, ?_, e2⟩
  · have := congrArg Prod.fst e1; simpa using this
  · have := congrArg Prod.snd e1; simpa using this
/-- two tuples whose items are alike, pair by pair -/
def Pairwise (pr : Program) (wo : World) (p q : Addr) (us vs : Array Value) (c1 c2 : Nat) (d1 d2 : Option Addr) (m1 m2 : Array (Option Value)) (r : Bool) : PySem.Spec := fun A post s =>
  s.heap.get? p = some ⟨.type "tuple", d1, .seq us c1, m1⟩ ∧ s.heap.get? q = some ⟨.type "tuple", d2, .seq vs c2, m2⟩ ∧
    (∀ j (h1 : j < us.size) (h2 : j < vs.size), EqP pr wo A.in1 s us[j] vs[j] true) ∧ post (.ok (.ret (.bool r))) s
theorem neQ {p q : Addr} {us vs : Array Value} {c1 c2 : Nat} {d1 d2 : Option Addr} {m1 m2 : Array (Option Value)} (same : us.size = vs.size) :
    MeetsIn pr wo (Builtin.«tuple.__ne__» ⟨[.ref p, .ref q], []⟩) (Pairwise pr wo p q us vs c1 c2 d1 d2 m1 m2 false) := by
  refine .of_wp ?_
  rintro A post ⟨m, gl, dp, tk, ou⟩ ⟨at_p, at_q, alike, fin⟩
  have tt := AutoSeq1.sub_tuple_tuple
  wp_walk using wpAny_loadPart' at_p, wpAny_loadPart' at_q, wpAny_forIn_list _ (fun rest b s' => b.1 = none ∧ s' = ⟨m, gl, dp, tk, ou⟩ ∧ ∃ i, rest = (us.toList.zip vs.toList).drop i) _
  case h => exact ⟨rfl, rfl, 0, rfl⟩
  case fin =>
    rintro ⟨_, rest⟩ _ ⟨rfl, rfl, _⟩
    wp_walk
    refine ⟨_, rfl, ?_⟩
    simpa [Builtin.Tuple.tupleCompareSizes, bne, same] using fin
  case turn =>
    rintro ⟨y, x⟩ rest _ _ ⟨done, rfl, i, at_i⟩
    obtain ⟨in1, in2, rfl, rfl, more⟩ := zip_at at_i
    apply wpAny_bind
    apply alike i in1 in2
    wp_walk
    exact ⟨rfl, rfl, _, more⟩
theorem eqQ {p q : Addr} {us vs : Array Value} {c1 c2 : Nat} {d1 d2 : Option Addr} {m1 m2 : Array (Option Value)} (same : us.size = vs.size) :
    MeetsIn pr wo (Builtin.«tuple.__eq__» ⟨[.ref p, .ref q], []⟩) (Pairwise pr wo p q us vs c1 c2 d1 d2 m1 m2 true) := by
  refine .of_wp ?_
  rintro A post ⟨m, gl, dp, tk, ou⟩ ⟨at_p, at_q, alike, fin⟩
  have tt := AutoSeq1.sub_tuple_tuple
  wp_walk using wpAny_loadPart' at_p, wpAny_loadPart' at_q, wpAny_forIn_list _ (fun rest b s' => b.1 = none ∧ s' = ⟨m, gl, dp, tk, ou⟩ ∧ ∃ i, rest = (us.toList.zip vs.toList).drop i) _
  case h => exact ⟨rfl, rfl, 0, rfl⟩
  case fin =>
    rintro ⟨_, rest⟩ _ ⟨rfl, rfl, _⟩
    wp_walk
    refine ⟨_, rfl, ?_⟩
    simpa [Builtin.Tuple.tupleCompareSizes, bne, same] using fin
  case turn =>
    rintro ⟨y, x⟩ rest _ _ ⟨done, rfl, i, at_i⟩
    obtain ⟨in1, in2, rfl, rfl, more⟩ := zip_at at_i
    apply wpAny_bind
    apply alike i in1 in2
    wp_walk
    exact ⟨rfl, rfl, _, more⟩
variable {A : Around} {s : Shared}
theorem rc_neQ {l b : Addr} {us vs : Array Value} (at_l : s.heap.IsTuple l us) (at_b : s.heap.IsTuple b vs) (same : us.size = vs.size) (room : A.units < cLine) (alike : ∀ j (h1 : j < us.size) (h2 : j < vs.size), EqP pr wo A.in1 s us[j] vs[j] true)
    (E Q : Value → Shared → Prop) (fin : Q (.bool false) s) : wpAny (model pr wo) A (richCompare .NotEq (.ref l) (.ref b)) Q E s := by
  obtain ⟨o1, g1, k1, n1, z1⟩ := at_l
  obtain ⟨o2, g2, k2, n2, z2⟩ := at_b
  cases o1
  cases o2
  cases k1
  cases k2
  cases z1
  cases z2
  have t1 : s.TypeIs (.ref l) "tuple" := ⟨_, g1, rfl⟩
  have run := call_meetsIn F.slot_tuple_ne t1 F.entry_tuple_ne (F.args_tuple_ne_2 (.ref l) (.ref b)) (neQ same) (A := A) (E := E) (Q := fun v s' => v ≠ Value.notImplemented ∧ Q v s') (s := s) ⟨g1, g2, alike, nofun, fin⟩
  exact wpAny_richCompare_same_room t1 ⟨_, g2, rfl⟩ F.slot_tuple_ne run room
theorem rc_eqQ {l b : Addr} {us vs : Array Value} (at_l : s.heap.IsTuple l us) (at_b : s.heap.IsTuple b vs) (same : us.size = vs.size) (room : A.units < cLine) (alike : ∀ j (h1 : j < us.size) (h2 : j < vs.size), EqP pr wo A.in1 s us[j] vs[j] true)
    (E Q : Value → Shared → Prop) (fin : Q (.bool true) s) : wpAny (model pr wo) A (richCompare .Eq (.ref l) (.ref b)) Q E s := by
  obtain ⟨o1, g1, k1, n1, z1⟩ := at_l
  obtain ⟨o2, g2, k2, n2, z2⟩ := at_b
  cases o1
  cases o2
  cases k1
  cases k2
  cases z1
  cases z2
  have t1 : s.TypeIs (.ref l) "tuple" := ⟨_, g1, rfl⟩
  have run := call_meetsIn F.slot_tuple_eq t1 F.entry_tuple_eq (F.args_tuple_eq_2 (.ref l) (.ref b)) (eqQ same) (A := A) (E := E) (Q := fun v s' => v ≠ Value.notImplemented ∧ Q v s') (s := s) ⟨g1, g2, alike, nofun, fin⟩
  exact wpAny_richCompare_same_room t1 ⟨_, g2, rfl⟩ F.slot_tuple_eq run room
end
/-- two tuples, their items related -/
def TupsBy (K : PySem.W.Frag) (H : Hp) (F : V → V → Prop) (x y : V) : Prop := ∃ a b xs ys, x = .ref a ∧ y = .ref b ∧ SqT K H a xs ∧ SqT K H b ys ∧ Paired F xs ys
/-- surely equal, within n turns -/
def EqX (K : PySem.W.Frag) (H : Hp) : Nat → V → V → Prop
  | 0 => fun _ _ => False
  | n + 1 => fun x y => (x = y ∧ flatB x = true) ∨ (∃ a, x = .ref a ∧ y = .ref a) ∨ EqR K H (EqX K H n) x y ∨ TupsBy K H (EqX K H n) x y
section
variable {X : Cx} {σ : L2.St} {H : Hp} {pins : List (Addr × Obj)} {s : Shared}
theorem items_of (I : L2.Inv X pins σ H s) {A : Around} {F : V → V → Prop} (ih : ∀ x y v u, F x y → RelV x v → RelV y u → SeqAt.EqP X.prog X.w A.in1 s v u true) {a b : Addr} {xs ys : List V} (ha : SqT X.K H a xs) (hb : SqT X.K H b ys) (hp : Paired F xs ys) :
    ∃ us vs : Array Value, s.heap.IsTuple a us ∧ s.heap.IsTuple b vs ∧ us.size = vs.size ∧ ∀ j (h1 : j < us.size) (h2 : j < vs.size), EqP X.prog X.w A.in1 s us[j] vs[j] true := by
  rcases I.tuple ha with ⟨us, r1, p1, _⟩
  rcases I.tuple hb with ⟨ws, r2, p2, _⟩
  have each := items_run ih hp r1 r2
  refine ⟨_, _, p1, p2, ?_, ?_⟩
  · simp only [List.size_toArray]
    exact r1.length.symm.trans (hp.length.trans r2.length)
  · intro j h1 h2
    simpa using each j (by simpa using h1) (by simpa using h2)
theorem eqX_top (I : L2.Inv X pins σ H s) {A : Around} {F : V → V → Prop} (hu : A.units < cLine) (ih : ∀ x y v u, F x y → RelV x v → RelV y u → SeqAt.EqP X.prog X.w A.in1 s v u true) {x y : V} {v u : Value}
    (h : EqR X.K H F x y ∨ TupsBy X.K H F x y) (rx : RelV x v) (ry : RelV y u) (E Q : Value → Shared → Prop) (q : Q (.bool true) s) : wpAny (model X.prog X.w) A (richCompare .Eq v u) Q E s := by
  refine h.elim (fun z => eqR_run I hu ih z rx ry E Q q) ?_
  rintro ⟨a, b, xs, ys, rfl, rfl, ha, hb, hp⟩
  cases rx
  cases ry
  obtain ⟨us, vs, k1, k2, k3, k4⟩ := items_of I ih ha hb hp
  exact rc_eqQ k1 k2 k3 hu k4 E Q q
theorem refs_of {K : PySem.W.Frag} {F : V → V → Prop} {x y : V} (h : EqR K H F x y ∨ TupsBy K H F x y) : ∃ a b, x = .ref a ∧ y = .ref b := by
  rcases h with h | ⟨a, b, _, _, e1, e2, _⟩
  · rcases h with ⟨a, b, _, _, e1, e2, _⟩ | ⟨a, b, _, _, e1, e2, _⟩
    · exact ⟨a, b, e1, e2⟩
    · exact ⟨a, b, e1, e2⟩
  · exact ⟨a, b, e1, e2⟩
theorem eqX_run (I : L2.Inv X pins σ H s) (n : Nat) : ∀ (A : Around), A.units + n < cLine → ∀ (x y : V) (v u : Value), EqX X.K H n x y → RelV x v → RelV y u → SeqAt.EqP X.prog X.w A s v u true := by
  induction n with
  | zero => intro A _ x y v u h; exact False.elim h
  | succ n ih =>
    intro A hu x y v u h rx ry
    have deeper := ih A.in1 (by show A.units + 1 + n < cLine; omega)
    obtain ⟨rfl, flat⟩ | ⟨a, rfl, rfl⟩ | h := h
    · exact SeqAt.EqAt.eqP (eqAt_same rx ry flat)
    · cases rx
      cases ry
      exact SeqAt.EqAt.eqP (.same _)
    · have top := eqX_top I (A := A) (by omega) deeper h rx ry
      obtain ⟨a, b, rfl, rfl⟩ := refs_of h
      cases rx
      cases ry
      rcases Decidable.em (a = b) with rfl | apart
      · exact SeqAt.EqAt.eqP (.same _)
      · exact SeqAt.eqP_refs apart top
/-- x == y -/
def rEqX (K : PySem.W.Frag) : R2 := fun x y H Q => ∃ n, n ≤ 60 ∧ (EqR K H (EqX K H n) x y ∨ ∃ a b xs ys, x = .ref a ∧ y = .ref b ∧ SqT K H a xs ∧ SqT K H b ys ∧ Paired (EqX K H n) xs ys) ∧ Q (.bl true) H
theorem op_eqX (hu : X.A.units + 64 < cLine) : OpR X (compareOp .Eq) (rEqX X.K) := by
  rintro pins s σ H x y v u Q I rx ry ⟨n, hn, h, q⟩
  have deeper := eqX_run I n X.A.in1 (by show X.A.units + 1 + n < cLine; omega)
  exact eqX_top I (A := X.A) (by omega) deeper h rx ry _ _ ⟨.bl true, H, I, rfl, q⟩
/-- x != y, tuples -/
def rNeX (K : PySem.W.Frag) : R2 := fun x y H Q => ∃ n, n ≤ 60 ∧ (∃ a b xs ys, x = .ref a ∧ y = .ref b ∧ SqT K H a xs ∧ SqT K H b ys ∧ Paired (EqX K H n) xs ys) ∧ Q (.bl false) H
theorem op_neX (hu : X.A.units + 64 < cLine) : OpR X (compareOp .NotEq) (rNeX X.K) := by
  rintro pins s σ H _ _ v u Q I rx ry ⟨n, hn, ⟨a, b, xs, ys, rfl, rfl, ha, hb, hp⟩, q⟩
  cases rx
  cases ry
  have deeper := eqX_run I n X.A.in1 (by show X.A.units + 1 + n < cLine; omega)
  obtain ⟨us, vs, k1, k2, k3, k4⟩ := items_of I (A := X.A) deeper ha hb hp
  exact rc_neQ k1 k2 k3 (by omega) k4 _ _ ⟨.bl false, H, I, rfl, q⟩
end
end MirN
namespace Mir
open PySem PySem.Spec PyProof.Rows L2 MirN
/-! ### the mirror -/
def lstO (h : Hh) : PV → Option (List PV)
  | .lst xs => some xs
  | .ref n => match h[n]? with
    | some (.lst xs) => some xs
    | _ => none
  | _ => none
def dctO (h : Hh) : PV → Option (List L2.Key × List PV)
  | .ref n => match h[n]? with
    | some (.dct ks vs) => some (ks, vs)
    | _ => none
  | _ => none
def flE : PV → PV → Bool
  | .non, .non => true
  | .bl a, .bl b => decide (a = b)
  | .int a, .int b => decide (a = b)
  | .str a, .str b => decide (a = b)
  | _, _ => false
def pairB (f : PV → PV → Bool) : List PV → List PV → Bool
  | [], [] => true
  | x :: xs, y :: ys => f x y && pairB f xs ys
  | _, _ => false
def eqS (f : PV → PV → Bool) (h : Hh) (x y : PV) : Bool := match x, y with
  | .tup xs, .tup ys => pairB f xs ys
  | x, y => match lstO h x, lstO h y with
    | some xs, some ys => pairB f xs ys
    | _, _ => match dctO h x, dctO h y with
      | some (ks, vs), some (ls, us) => decide (ks.length = ls.length) && (ks.zip vs).all fun p => match getK p.1 ls us with
        | some u => f p.2 u
        | none => false
      | _, _ => false
/-- surely equal -/
def eqH : Nat → Hh → PV → PV → Bool
  | 0, _, _, _ => false
  | n + 1, h, x, y => flE x y || eqS (eqH n h) h x y
def oEqX : PV → PV → Hh → Res PV := fun x y h => if eqS (eqH 30 h) h x y = true then .ok (.bl true) h else .no
def oNeX : PV → PV → Hh → Res PV := fun x y h => match x, y with
  | .tup xs, .tup ys => if pairB (eqH 30 h) xs ys = true then .ok (.bl false) h else .no
  | _, _ => .no
section
variable {S : Sx} {w : Wd} {h : Hh}
theorem pair_rel {f : PV → PV → Bool} {E : V → V → Prop} (hf : ∀ x y v u, f x y = true → PW' S w x v → PW' S w y u → E v u) : ∀ {xs ys : List PV} {vs us : List V}, pairB f xs ys = true → PWs S w xs vs → PWs S w ys us → Paired E vs us
  | [], [], _, _, _, .nil, .nil => .nil
  | [], _ :: _, _, _, e, _, _ => by cases e
  | _ :: _, [], _, _, e, _, _ => by cases e
  | x :: xs, y :: ys, _, _, e, .cons p q, .cons p' q' => by
    rw [pairB, Bool.and_eq_true] at e
    exact .cons (hf _ _ _ _ e.1 p p') (pair_rel hf e.2 q q')
theorem lstO_rel (d : Hd S w h) {x : PV} {v : V} {xs : List PV} (e : lstO h x = some xs) (r : PW' S w x v) : ∃ a vs, v = .ref a ∧ SqL S.K w.H a vs ∧ PWs S w xs vs := by
  cases x with
  | lst ys => cases e; cases r with | lst q t => exact ⟨_, _, rfl, d.sqL q, t⟩
  | ref n =>
    obtain ⟨a, rfl, ea⟩ := PW'.ofRef r
    simp only [lstO] at e
    split at e
    · rename_i ys eh
      cases e
      obtain ⟨vs, e1, rs⟩ := d.at eh ea
      exact ⟨a, vs, rfl, SqL.of e1, rs⟩
    · cases e
  | _ => cases e
theorem dctO_rel (d : Hd S w h) {x : PV} {v : V} {ks : List L2.Key} {xs : List PV} (e : dctO h x = some (ks, xs)) (r : PW' S w x v) : ∃ a vs, v = .ref a ∧ ks.length = vs.length ∧ w.H a = some (.dK (ks.zip vs)) ∧ PWs S w xs vs := by
  cases x with
  | ref n =>
    obtain ⟨a, rfl, ea⟩ := PW'.ofRef r
    simp only [dctO] at e
    split at e
    · rename_i ks' ys eh
      cases e
      obtain ⟨vs, e0, e1, rs⟩ := d.at eh ea
      exact ⟨a, vs, rfl, e0, e1, rs⟩
    · cases e
  | _ => cases e
theorem zip_all {f : PV → PV → Bool} {E : V → V → Prop} (hf : ∀ x y v u, f x y = true → PW' S w x v → PW' S w y u → E v u) {ls : List L2.Key} {us : List PV} {zs : List V} (ru : PWs S w us zs) (hz : ls.length = zs.length) : ∀ {ks : List L2.Key} {xs : List PV} {vs : List V}, PWs S w xs vs →
    ((ks.zip xs).all fun p => match getK p.1 ls us with | some u => f p.2 u | none => false) = true → ∀ p ∈ ks.zip vs, ∃ u, valV (ls.zip zs) p.1 = some u ∧ E p.2 u
  | [], _, _, _, _, p, hp => by simp at hp
  | _ :: _, [], _, .nil, _, p, hp => by simp at hp
  | k :: ks, x :: xs, _, .cons r t, e, p, hp => by
    rw [List.zip_cons_cons, List.all_cons, Bool.and_eq_true] at e
    rw [List.zip_cons_cons] at hp
    rcases List.mem_cons.mp hp with rfl | hp
    · have e1 := e.1
      simp only at e1
      split at e1
      · rename_i u eu
        obtain ⟨z, g1, g2⟩ := getK_rel ru eu
        exact ⟨z, by rw [valV_zip]; exact g1, hf _ _ _ _ e1 r g2⟩
      · cases e1
    · exact zip_all hf ru hz t e.2 p hp
theorem eqS_rel {f : PV → PV → Bool} {E : V → V → Prop} (d : Hd S w h) (hf : ∀ x y v u, f x y = true → PW' S w x v → PW' S w y u → E v u) {x y : PV} {v u : V} (e : eqS f h x y = true) (rx : PW' S w x v) (ry : PW' S w y u) :
    EqR S.K w.H E v u ∨ ∃ a b xs ys, v = .ref a ∧ u = .ref b ∧ SqT S.K w.H a xs ∧ SqT S.K w.H b ys ∧ Paired E xs ys := by
  unfold eqS at e
  split at e
  · rename_i xs ys
    cases rx with
    | tup q t =>
      cases ry with
      | tup q' t' => exact .inr ⟨_, _, _, _, rfl, rfl, d.sqT q, d.sqT q', pair_rel hf e t t'⟩
  · split at e
    · rename_i xs ys e1 e2
      obtain ⟨a, vs, rfl, ha, ra⟩ := lstO_rel d e1 rx
      obtain ⟨b, us, rfl, hb, rb⟩ := lstO_rel d e2 ry
      exact .inl (.inl ⟨a, b, vs, us, rfl, rfl, ha, hb, pair_rel hf e ra rb⟩)
    · split at e
      · rename_i ks xs ls ys e1 e2
        obtain ⟨a, vs, rfl, la, ha, ra⟩ := dctO_rel d e1 rx
        obtain ⟨b, us, rfl, lb, hb, rb⟩ := dctO_rel d e2 ry
        rw [Bool.and_eq_true, decide_eq_true_eq] at e
        exact .inl (.inr ⟨a, b, _, _, rfl, rfl, ha, hb, by rw [List.length_zip, List.length_zip]; omega, zip_all hf rb lb ra e.2⟩)
      · cases e
theorem flE_rel {x y : PV} {v u : V} (e : flE x y = true) (rx : PW' S w x v) (ry : PW' S w y u) : v = u ∧ flatB v = true := by
  unfold flE at e
  split at e
  · cases rx; cases ry; exact ⟨rfl, rfl⟩
  · cases rx; cases ry; simp at e; subst e; exact ⟨rfl, rfl⟩
  · cases rx; cases ry; simp at e; subst e; exact ⟨rfl, rfl⟩
  · cases rx; cases ry; simp at e; subst e; exact ⟨rfl, rfl⟩
  · cases e
theorem eqH_rel (d : Hd S w h) : ∀ (n : Nat) {x y : PV} {v u : V}, eqH n h x y = true → PW' S w x v → PW' S w y u → EqX S.K w.H n v u
  | 0, _, _, _, _, e, _, _ => by cases e
  | n + 1, x, y, v, u, e, rx, ry => by
    rw [eqH, Bool.or_eq_true] at e
    rcases e with e | e
    · exact .inl (flE_rel e rx ry)
    · exact .inr (.inr (eqS_rel d (fun x y v u e' => eqH_rel d n e') e rx ry))
theorem lstO_relB (d : Hd S w h) {x : PV} {v : V} {xs : List PV} (e : lstO h x = some xs) (r : PB0 S w x v) : ∃ a vs, v = .ref a ∧ SqL S.K w.H a vs ∧ PWs S w xs vs := by
  cases r with
  | val r => exact lstO_rel d e r
  | lst e1 r => cases e; exact ⟨_, _, rfl, SqL.of e1, r⟩
  | dct e1 l r => cases e
theorem sim_eqX : Sim2 S (rEqX S.K) oEqX := by
  intro W σ w h x y v u Q d px py po
  unfold oEqX at po
  split at po
  · rename_i e
    refine ⟨30, by decide, ?_, po.fin d (.bl _)⟩
    have hf : ∀ x y v u, eqH 30 h x y = true → PW' S w x v → PW' S w y u → EqX S.K w.H 30 v u := fun x y v u e' => eqH_rel d 30 e'
    unfold eqS at e
    split at e
    · rename_i xs ys
      cases px with
      | val rx =>
        cases py with
        | val ry => exact eqS_rel d hf (x := .tup xs) (y := .tup ys) (by unfold eqS; exact e) rx ry
    · split at e
      · rename_i xs ys e1 e2
        obtain ⟨a, vs, rfl, ha, ra⟩ := lstO_relB d e1 px
        obtain ⟨b, us, rfl, hb, rb⟩ := lstO_relB d e2 py
        exact .inl (.inl ⟨a, b, vs, us, rfl, rfl, ha, hb, pair_rel hf e ra rb⟩)
      · split at e
        · rename_i ks xs ls ys e1 e2
          have px' : PW' S w x v := by cases px with | val r => exact r | lst _ _ => cases e1 | dct _ _ _ => cases e1
          have py' : PW' S w y u := by cases py with | val r => exact r | lst _ _ => cases e2 | dct _ _ _ => cases e2
          obtain ⟨a, vs, rfl, la, ha, ra⟩ := dctO_rel d e1 px'
          obtain ⟨b, us, rfl, lb, hb, rb⟩ := dctO_rel d e2 py'
          rw [Bool.and_eq_true, decide_eq_true_eq] at e
          exact .inl (.inr ⟨a, b, _, _, rfl, rfl, ha, hb, by rw [List.length_zip, List.length_zip]; omega, zip_all hf rb lb ra e.2⟩)
        · cases e
  · exact po.elim
theorem sim_neX : Sim2 S (rNeX S.K) oNeX := by
  intro W σ w h x y v u Q d px py po
  unfold oNeX at po
  split at po
  · split at po
    · rename_i xs ys e
      have hf : ∀ x y v u, eqH 30 h x y = true → PW' S w x v → PW' S w y u → EqX S.K w.H 30 v u := fun x y v u e' => eqH_rel d 30 e'
      obtain ⟨a, vs, rfl, ha, ra⟩ := px.ofTup d
      obtain ⟨b, us, rfl, hb, rb⟩ := py.ofTup d
      exact ⟨30, by decide, ⟨a, b, vs, us, rfl, rfl, ha, hb, pair_rel hf e ra rb⟩, po.fin d (.bl _)⟩
    · exact po.elim
  · exact po.elim
end
section
variable {F : Fam} {e o : Expr} {pos p cpos : Pos} {mo : ME}
theorem c_eqX (ok : F.Ok) : CmpOk F .Eq oEqX := ⟨_, sim_eqX, fun i => op_eqX (X := F.X i) (ok.u64 i)⟩
theorem c_neX (ok : F.Ok) : CmpOk F .NotEq oNeX := ⟨_, sim_neX, fun i => op_neX (X := F.X i) (ok.u64 i)⟩
/-! ### dict(d) -/
def mDCopy (mo : ME) : ME := fun env h => (mo env h).bind fun x h => match dctO h x with
  | some (ks, vs) => .ok (.ref h.length) (h ++ [.dct ks vs])
  | none => .no
@[simp] theorem aDCopy (env : En) (h : Hh) : mDCopy mo env h = (mo env h).bind fun x h => (match dctO h x with
  | some (ks, vs) => .ok (.ref h.length) (h ++ [.dct ks vs])
  | none => .no) := id rfl
end
theorem dctO_at {h : Hh} {n : Nat} {ks : List L2.Key} {vs : List PV} (e : h[n]? = some (.dct ks vs)) : dctO h (.ref n) = some (ks, vs) := by simp only [dctO, e]
theorem lstO_at {h : Hh} {n : Nat} {xs : List PV} (e : h[n]? = some (.lst xs)) : lstO h (.ref n) = some xs := by simp only [lstO, e]
theorem flE_self {x : PV} (h : ∀ n xs ks vs, x ≠ .ref n ∧ x ≠ .lst xs ∧ x ≠ .tup xs ∧ x ≠ .dct ks vs) : flE x x = true := by
  cases x with
  | non => rfl
  | bl b => simp [flE]
  | int i => simp [flE]
  | str s => simp [flE]
  | tup xs => exact absurd rfl (h 0 xs [] []).2.2.1
  | lst xs => exact absurd rfl (h 0 xs [] []).2.1
  | dct ks vs => exact absurd rfl (h 0 [] ks vs).2.2.2
  | ref n => exact absurd rfl (h n [] [] []).1
theorem pairB_self {f : PV → PV → Bool} : ∀ {xs : List PV}, (∀ x ∈ xs, f x x = true) → pairB f xs xs = true
  | [], _ => rfl
  | x :: xs, h => by rw [pairB, h x (by simp), pairB_self fun y hy => h y (by simp [hy])]; rfl
/-- plain data is equal to itself -/
theorem eqH_self (h : Hh) : ∀ (n : Nat) {x : PV}, lv n x = true → eqH (n + 1) h x x = true
  | n, .non, _ => by rw [eqH]; rfl
  | n, .bl b, _ => by rw [eqH]; simp [flE]
  | n, .int i, _ => by rw [eqH]; simp [flE]
  | n, .str s, _ => by rw [eqH]; simp [flE]
  | 0, .tup xs, e => by unfold lv at e; cases e
  | 0, .lst xs, e => by unfold lv at e; cases e
  | 0, .dct _ _, e => by unfold lv at e; cases e
  | 0, .ref _, e => by unfold lv at e; cases e
  | n + 1, .tup xs, e => by
    unfold lv at e
    rw [eqH, Bool.or_eq_true]
    exact .inr (by unfold eqS; exact pairB_self fun x hx => eqH_self h n (List.all_eq_true.mp e x hx))
  | n + 1, .lst xs, e => by
    unfold lv at e
    rw [eqH, Bool.or_eq_true]
    exact .inr (by unfold eqS; simp only [lstO]; exact pairB_self fun x hx => eqH_self h n (List.all_eq_true.mp e x hx))
  | n + 1, .dct _ _, e => by unfold lv at e; cases e
  | n + 1, .ref _, e => by unfold lv at e; cases e
section
variable {X : Cx}
theorem cr_dcopy : CallR X (.type "dict") (fun xs H Q => ∃ (a : Addr) (kvs : List (L2.Key × V)), xs = [.ref a] ∧ H a = some (.dK kvs) ∧ ∀ p, H p = none → Q (.ref p) (upd H p (.dK kvs))) := by
  intro pins s σ H vs us Q I r h
  obtain ⟨a, kvs, rfl, ha, q⟩ := h
  rw [Vals.ref1 r]
  exact d_copyOf I (.inl ha) fun p s' np I' => ⟨.ref p, _, I', rfl, q p np⟩
end
section
variable {F : Fam} {e o : Expr} {pos p cpos : Pos} {mo : ME}
theorem se_dcopy (hm : F.mg "dict" = none) (a : SE F e mo) (hg : ∀ i, Gl (F.X i) "dict" := by intro _; rfl) (he : ∀ i, starEach [e] (F.X i).env = (false, eval e (F.X i).env) :: starEach [] (F.X i).env := by intro _; rfl) : SE F (.Call (.Name "dict" p) [e] [] pos) (mDCopy mo) := by
  obtain ⟨t, pp, q⟩ := sa_cons a sa_nil he
  refine ⟨fun W => tCB _ (t W), fun i => pe_callTy (cr_dcopy (X := F.X i)) (hg i) hm (by decide +kernel) (pp i) (by decide) (by decide) (he i) rfl, fun W w0 w env h σ Q rl po => ?_⟩
  refine q W w0 w env h σ _ rl ?_
  unfold mDCopy at po
  show PostE F.S W w σ (RVs F.S) ((mo env h).bind fun x h => .ok [x] h) _
  cases em : mo env h with
  | no => rw [em] at po; exact po
  | er x h' => rw [em] at po; exact po
  | ok x h1 =>
    rw [em] at po
    simp only [Res.bind_ok] at po ⊢
    intro w1 vs s1 d1 r1
    cases r1 with
    | cons r1 r2 =>
      cases r2
      split at po
      · rename_i ks xs ed
        obtain ⟨a, us, rfl, la, ha, ra⟩ := dctO_rel d1 ed r1
        refine ⟨a, _, rfl, ha, fun p np => ?_⟩
        obtain ⟨s3, d3, e3⟩ := addObj (S := F.S) (ob := .dct ks xs) (o' := .dK (ks.zip us)) np (Step.refl _) (.inr trivial) (d1.fresh np) (d1.notAd np) (d1.put (o := .dK []) np) (fun w3 x e => ⟨us, la, e, PRs.mono x.fz x.ix ra⟩)
        have := po _ (.ref p) (s1.trans s3) d3 (.ref e3)
        have e : upd (w1.put p (.dK [])).H p (.dK (ks.zip us)) = upd w1.H p (.dK (ks.zip us)) := by
          funext x
          show upd (upd w1.H p (.dK [])) p (.dK (ks.zip us)) x = upd w1.H p (.dK (ks.zip us)) x
          by_cases hx : x = p
          · subst hx; rw [upd_same, upd_same]
          · rw [upd_ne hx, upd_ne hx, upd_ne hx]
        rw [← e]; exact this
      · exact po.elim
end
/-! plain laws of while, of slices of lists -/
theorem whileL_inv {t : MT} {b : MS} (I : Nat → En → Hh → Prop) (R : En → Hh → Prop) (H : ∀ m env h, I m env h → (t env h = .ok false h ∧ R env h) ∨ ∃ env2 h2, t env h = .ok true h ∧ b env h = .nx env2 h2 ∧ ∃ m', m' < m ∧ I m' env2 h2) :
    ∀ (n m : Nat) (env : En) (h : Hh), m < n → I m env h → ∃ env' h', whileL t b n env h = .nx env' h' ∧ R env' h'
  | 0, m, env, h, hn, i => by omega
  | n + 1, m, env, h, hn, i => by
    rw [whileL_succ]
    rcases H m env h i with ⟨e, r⟩ | ⟨env2, h2, e1, e2, m', hm, i2⟩
    · rw [e]; exact ⟨env, h, rfl, r⟩
    · rw [e1]
      simp only [ofE_ok, if_true, e2]
      exact whileL_inv I R H n m' env2 h2 (by omega) i2
theorem sl_to {xs ys : List PV} {i : Int} (h : Hh) (e : i = (xs.length : Int)) : oSl (.lst (xs ++ ys)) none (some i) h = .ok (.lst xs) h := by
  subst e
  rw [slLU, List.take_left]
theorem sl_from {xs ys : List PV} {i : Int} (h : Hh) (e : i = (xs.length : Int)) : oSl (.lst (xs ++ ys)) (some i) none h = .ok (.lst ys) h := by
  subst e
  rw [slLW, List.drop_left]
theorem ix_mid {xs ys : List PV} {y : PV} {i : Int} (h : Hh) (e : i = (xs.length : Int)) : oIx (.lst (xs ++ y :: ys)) (.int i) h = .ok y h := by
  subst e
  exact ixL h (L2.atI_nat (by simp))
theorem ix_0 {ys : List PV} {y : PV} (h : Hh) : oIx (.lst (y :: ys)) (.int 0) h = .ok y h := ixL h (L2.atI_nat (j := 0) rfl)
theorem ix_1 {ys : List PV} {x y : PV} (h : Hh) : oIx (.lst (x :: y :: ys)) (.int 1) h = .ok y h := ixL h (L2.atI_nat (j := 1) rfl)
theorem ixt_0 {ys : List PV} {y : PV} (h : Hh) : oIx (.tup (y :: ys)) (.int 0) h = .ok y h := ixT h (L2.atI_nat (j := 0) rfl)
theorem ixt_1 {ys : List PV} {x y : PV} (h : Hh) : oIx (.tup (x :: y :: ys)) (.int 1) h = .ok y h := ixT h (L2.atI_nat (j := 1) rfl)
theorem ixt_2 {ys : List PV} {x y z : PV} (h : Hh) : oIx (.tup (x :: y :: z :: ys)) (.int 2) h = .ok z h := ixT h (L2.atI_nat (j := 2) rfl)
theorem getK_nodup : ∀ {ks : List L2.Key} {vs : List PV}, ks.Nodup → ks.length = vs.length → ∀ p ∈ ks.zip vs, getK p.1 ks vs = some p.2
  | [], _, _, _, p, hp => by simp at hp
  | _ :: _, [], _, h, p, hp => by simp at h
  | k :: ks, v :: vs, hn, h, p, hp => by
    rw [List.zip_cons_cons] at hp
    rw [getK]
    rcases List.mem_cons.mp hp with rfl | hp
    · rw [if_pos rfl]
    · have hk := (List.nodup_cons.mp hn).1
      rw [if_neg (fun e => hk (by rw [e]; exact (List.of_mem_zip hp).1))]
      exact getK_nodup (List.nodup_cons.mp hn).2 (by simpa using h) p hp
/-- two dicts of the same plain entries -/
theorem eqH_dct {n : Nat} {h : Hh} {x y : PV} {ks : List L2.Key} {vs : List PV} (ex : dctO h x = some (ks, vs)) (ey : dctO h y = some (ks, vs)) (hn : ks.Nodup) (hl : ks.length = vs.length) (hv : ∀ x ∈ vs, lv n x = true) : eqH (n + 2) h x y = true := by
  rw [eqH, Bool.or_eq_true]
  refine .inr ?_
  have nl : ∀ z, dctO h z = some (ks, vs) → lstO h z = none ∧ ∀ xs, z ≠ .tup xs := fun z e => by
    cases z with
    | ref k =>
      simp only [dctO] at e
      refine ⟨?_, by simp⟩
      simp only [lstO]
      cases hk : h[k]? with
      | none => rfl
      | some o => rw [hk] at e; cases o with
        | dct _ _ => rfl
        | lst _ => cases e
        | ins _ _ _ => cases e
    | _ => cases e
  obtain ⟨l1, t1⟩ := nl x ex
  obtain ⟨l2, t2⟩ := nl y ey
  unfold eqS
  split
  · rename_i xs _; exact absurd rfl (t1 xs)
  · rw [l1, l2, ex, ey]
    simp only [decide_true, Bool.true_and, List.all_eq_true]
    intro p hp
    rw [getK_nodup hn hl p hp]
    exact eqH_self h n (hv p.2 (List.of_mem_zip hp).2)
def intOf : PV → Int
  | .int i => i
  | _ => 0
theorem forL_nil {g : MG} {b : MS} (env : En) (h : Hh) : forL g b [] env h = .nx env h := by rw [forL]
theorem forL_cons {g : MG} {b : MS} (x : PV) (r : List PV) (env : En) (h : Hh) : forL g b (x :: r) env h = (match g x env with
  | none => .no
  | some env => (match b env h with
    | .nx env h => forL g b r env h
    | .ct env h => forL g b r env h
    | .bk env h => .nx env h
    | z => z)) := by
  first
    | (rw [forL]; done)
    | (rw [forL]; show (match g x env with | none => SR.no | some env => _) = _; cases g x env <;> rfl)
/-- a dict of ints -/
theorem getK_ints {k : L2.Key} : ∀ {ks : List L2.Key} {vs : List PV}, (∀ x ∈ vs, ∃ i, x = .int i) → (getK k ks vs).getD (.int 0) = .int (((getK k ks vs).map intOf).getD 0)
  | [], vs, h => by simp [getK]
  | _ :: _, [], h => by simp [getK]
  | a :: ks, v :: vs, h => by
    rw [getK]
    by_cases e : a = k
    · rw [if_pos e]
      obtain ⟨i, rfl⟩ := h v (by simp)
      rfl
    · rw [if_neg e]; exact getK_ints fun x hx => h x (by simp [hx])
end Mir

set_option Elab.async false
set_option linter.all false
set_option maxRecDepth 100000
set_option maxHeartbeats 1000000
/-! MirR: texts (walked, joined, asked for a sign), ord, str, sum, max of a list -/
namespace Mir
open PySem PySem.Spec PyProof.Rows L2
def sgs (s : Str) : List PV := s.cps.toList.map fun c => .str ⟨#[c]⟩
/-! ### built-ins -/
def fOrd : List PV → Hh → Res PV := fun xs h => match xs with
  | [.str s] => match s.cps.toList with
    | [c] => .ok (.int (c : Nat)) h
    | _ => .no
  | _ => .no
def fStrI : List PV → Hh → Res PV := fun xs h => match xs with
  | [.int i] => if i.natAbs.log2 < 1920 then .ok (.str (toString i)) h else .no
  | _ => .no
def intsOf : List PV → Option (List Int)
  | [] => some []
  | .int b :: r => (intsOf r).map (b :: ·)
  | _ :: _ => none
theorem intsOf_ok {K : PySem.W.Frag} {Φ : Hp} {ad : List Addr} : ∀ {xs : List PV} {vs : List V} {bs : List Int}, PRs K Φ ad xs vs → intsOf xs = some bs → vs = bs.map V.int
  | [], _, _, .nil, e => by cases e; rfl
  | x :: r, _, bs, .cons p q, e => by
    cases p with
    | int b =>
      unfold intsOf at e
      obtain ⟨cs, e1, e2⟩ := Option.map_eq_some_iff.mp e
      subst e2
      rw [intsOf_ok q e1]; rfl
    | _ => cases e
theorem intsOf_map : ∀ ns : List Int, intsOf (ns.map PV.int) = some ns
  | [] => rfl
  | n :: r => by rw [List.map_cons, intsOf, intsOf_map r]; rfl
def fSum : List PV → Hh → Res PV := fun xs h => match xs with
  | [.lst ys] => match intsOf ys with
    | some ns => .ok (.int ns.sum) h
    | none => .no
  | _ => .no
def maxI : List Int → Int
  | [] => 0
  | a :: r => r.foldl max a
theorem maxI_spec : ∀ (r : List Int) (a : Int), r.foldl max a ∈ a :: r ∧ ∀ x ∈ a :: r, x ≤ r.foldl max a
  | [], a => by simp
  | b :: r, a => by
    rw [List.foldl_cons]
    obtain ⟨h1, h2⟩ := maxI_spec r (max a b)
    refine ⟨?_, fun x hx => ?_⟩
    · rcases List.mem_cons.mp h1 with e | e
      · rw [e]
        rcases Int.le_total a b with q | q
        · rw [Int.max_eq_right q]; simp
        · rw [Int.max_eq_left q]; simp
      · simp [e]
    · have hm := h2 (max a b) (by simp)
      rcases List.mem_cons.mp hx with e | e
      · omega
      · rcases List.mem_cons.mp e with e | e
        · omega
        · exact h2 x (by simp [e])
def fMaxL : List PV → Hh → Res PV := fun xs h => match xs with
  | [.lst ys] => match intsOf ys with
    | some (n :: ns) => .ok (.int (maxI (n :: ns))) h
    | _ => .no
  | _ => .no
section
variable {F : Fam} {e ea eb o tg : Expr} {es : List Expr} {pos p cpos apos : Pos} {m mo ma mb : ME} {mr : MA}
theorem se_ord (hm : F.mg "ord" = none) (ha : SAB F [e] mr) (hg : ∀ i, Gl (F.X i) "ord" := by intro _; rfl) (he : ∀ i, starEach [e] (F.X i).env = (false, eval e (F.X i).env) :: starEach [] (F.X i).env := by intro _; rfl) : SE F (.Call (.Name "ord" p) [e] [] pos) (mCall fOrd mr) :=
  se_callB (r := fun xs H Q => ∃ x, xs = [.str x] ∧ x.length = 1 ∧ Q (.int (x.cps.getD 0 0 : Nat)) H) (fun W σ w h xs vs Q d px po => by
    unfold fOrd at po
    split at po
    · rename_i s
      split at po
      · rename_i c hc
        obtain ⟨v, rfl, p1⟩ := px.one
        have e1 : s = ⟨#[c]⟩ := by
          cases s with | mk cps =>
          have : cps = #[c] := by rw [← Array.toList_inj]; exact hc
          rw [this]
        rw [p1.ofStr]
        subst e1
        exact ⟨_, rfl, rfl, po.fin d (.int _)⟩
      · exact po.elim
    · exact po.elim) (fun i => call_ord (X := F.X i)) hm (by decide +kernel) ha hg (by decide) (by decide) he (fun _ => rfl)
theorem se_strI (hm : F.mg "str" = none) (ha : SAB F [e] mr) (hg : ∀ i, Gl (F.X i) "str" := by intro _; rfl) (he : ∀ i, starEach [e] (F.X i).env = (false, eval e (F.X i).env) :: starEach [] (F.X i).env := by intro _; rfl) : SE F (.Call (.Name "str" p) [e] [] pos) (mCall fStrI mr) :=
  se_callTy (r := fun xs H Q => ∃ i, xs = [.int i] ∧ i.natAbs.log2 < 1920 ∧ Q (.str (toString i)) H) (fun W σ w h xs vs Q d px po => by
    unfold fStrI at po
    split at po
    · split at po
      · rename_i hz
        obtain ⟨v, rfl, p1⟩ := px.one
        rw [p1.ofInt]
        exact ⟨_, rfl, hz, po.fin d (.str _)⟩
      · exact po.elim
    · exact po.elim) (fun i => call_str_int (X := F.X i)) hm (by decide +kernel) ha hg (by decide) (by decide) he (fun _ => rfl)
theorem se_sum (hc : F.calm = true) (hm : F.mg "sum" = none) (ha : SAB F [e] mr) (hg : ∀ i, Gl (F.X i) "sum" := by intro _; rfl) (he : ∀ i, starEach [e] (F.X i).env = (false, eval e (F.X i).env) :: starEach [] (F.X i).env := by intro _; rfl) : SE F (.Call (.Name "sum" p) [e] [] pos) (mCall fSum mr) :=
  se_callB (r := rSum F.K) (fun W σ w h xs vs Q d px po => by
    unfold fSum at po
    split at po
    · split at po
      · rename_i ns en
        obtain ⟨v, rfl, p1⟩ := px.one
        obtain ⟨a, us, rfl, ha, ra⟩ := p1.ofLst d
        rw [intsOf_ok ra en] at ha
        exact ⟨a, ns, rfl, ha, po.fin d (.int _)⟩
      · exact po.elim
    · exact po.elim) (fun i => cr_sum (X := F.X i) hc) hm (by decide +kernel) ha hg (by decide) (by decide) he (fun _ => rfl)
theorem se_maxL (hc : F.calm = true) (hm : F.mg "max" = none) (ha : SAB F [e] mr) (hg : ∀ i, Gl (F.X i) "max" := by intro _; rfl) (he : ∀ i, starEach [e] (F.X i).env = (false, eval e (F.X i).env) :: starEach [] (F.X i).env := by intro _; rfl) : SE F (.Call (.Name "max" p) [e] [] pos) (mCall fMaxL mr) :=
  se_callB (r := rMax F.K) (fun W σ w h xs vs Q d px po => by
    unfold fMaxL at po
    split at po
    · split at po
      · rename_i n ns en
        obtain ⟨v, rfl, p1⟩ := px.one
        obtain ⟨a, us, rfl, ha, ra⟩ := p1.ofLst d
        rw [intsOf_ok ra en] at ha
        refine ⟨a, n :: ns, rfl, ha, by simp, fun x hx hy => ?_⟩
        obtain ⟨h1, h2⟩ := maxI_spec ns n
        have : x = maxI (n :: ns) := Int.le_antisymm (h2 x hx) (hy _ h1)
        rw [this]
        exact po.fin d (.int _)
      · exact po.elim
    · exact po.elim) (fun i => cr_max (X := F.X i) hc) hm (by decide +kernel) ha hg (by decide) (by decide) he (fun _ => rfl)
/-! ### a text that is walked -/
def itX (m : ME) : MA := fun env h => (m env h).bind fun x h => match x with
  | .str s => .ok (sgs s) h
  | _ => .no
@[simp] theorem aItX (env : En) (h : Hh) : itX m env h = (m env h).bind fun x h => (match x with
  | .str s => .ok (sgs s) h
  | _ => .no) := id rfl
theorem si_str (a : SE F e m) : SI F tg e (itX m) := by
  obtain ⟨t, p, q⟩ := a
  refine ⟨fun W => iStr (t W), fun i => pi_str (p i), fun W w0 w env h σ R rl po => q W w0 w env h σ _ rl ?_⟩
  unfold itX at po
  cases em : m env h with
  | no => rw [em] at po; exact po
  | er x h' => rw [em] at po; exact po
  | ok x h' =>
    rw [em] at po
    intro w' v s d r
    cases r with
    | str z =>
      refine ⟨z, rfl, po w' _ s d ⟨_, _, by rw [show (sgs z).length = z.cps.size by simp [sgs]]; exact walk_str, fun w'' c => trivial, fun i w'' H' y u c e1 e2 => ?_⟩⟩
      obtain ⟨rfl, cc, e3, rfl⟩ := e2
      have e4 : (sgs z)[i]? = some (.str ⟨#[cc]⟩) := by
        have : z.cps.toList[i]? = some cc := by rw [Array.getElem?_toList]; exact e3
        unfold sgs
        rw [List.getElem?_map, this]; rfl
      rw [e4] at e1
      cases e1
      exact fun hh dd => ⟨w'', rfl, Step.refl _, dd, .str _⟩
    | _ => exact po.elim
/-! ### a sign in a text -/
def oInG1 (neg : Bool) : PV → PV → Hh → Res PV := fun x y h => match x, y with
  | .str s, .str z => match s.cps.toList with
    | [c] => .ok (.bl (if neg then !decide (c ∈ z.cps.toList) else decide (c ∈ z.cps.toList))) h
    | _ => .no
  | _, _ => .no
theorem one_sg {s : Str} {c : Nat} (h : s.cps.toList = [c]) : s = ⟨#[c]⟩ := by
  cases s with | mk cps =>
  have : cps = #[c] := by rw [← Array.toList_inj]; exact h
  rw [this]
theorem c_inSg : CmpOk F .In (oInG1 false) := ⟨_, fun W σ w h x y v u Q d px py po => by
    unfold oInG1 at po
    split at po
    · split at po
      · rename_i c hc
        have := one_sg hc
        subst this
        exact ⟨c, _, px.ofStr, py.ofStr, po.fin d (.bl _)⟩
      · exact po.elim
    · exact po.elim, fun i => op_in_sign (X := F.X i)⟩
theorem c_notInSg : CmpOk F .NotIn (oInG1 true) := ⟨_, fun W σ w h x y v u Q d px py po => by
    unfold oInG1 at po
    split at po
    · split at po
      · rename_i c hc
        have := one_sg hc
        subst this
        exact ⟨c, _, px.ofStr, py.ofStr, po.fin d (.bl _)⟩
      · exact po.elim
    · exact po.elim, fun i => op_notIn_sign (X := F.X i)⟩
/-! ### sep.join(texts) -/
def strsOf : List PV → Option (List Str)
  | [] => some []
  | .str b :: r => (strsOf r).map (b :: ·)
  | _ :: _ => none
theorem strsOf_ok {K : PySem.W.Frag} {Φ : Hp} {ad : List Addr} : ∀ {xs : List PV} {vs : List V} {bs : List Str}, PRs K Φ ad xs vs → strsOf xs = some bs → vs = bs.map V.str
  | [], _, _, .nil, e => by cases e; rfl
  | x :: r, _, bs, .cons p q, e => by
    cases p with
    | str b =>
      unfold strsOf at e
      obtain ⟨cs, e1, e2⟩ := Option.map_eq_some_iff.mp e
      subst e2
      rw [strsOf_ok q e1]; rfl
    | _ => cases e
theorem strsOf_map : ∀ ns : List Str, strsOf (ns.map PV.str) = some ns
  | [] => rfl
  | n :: r => by rw [List.map_cons, strsOf, strsOf_map r]; rfl
def oJoin : PV → PV → Hh → Res PV := fun x y h => match x, y with
  | .str a, .lst ys => match strsOf ys with
    | some ss => if (ss.map (·.length)).sum + ss.length * a.length ≤ 16777216 then .ok (.str (Txt.join a ss)) h else .no
    | none => .no
  | _, _ => .no
def rJoin (K : PySem.W.Frag) : V → List V → Hp → VK → Prop := fun x xs H Q => ∃ a p, ∃ ys : List Str, x = .str a ∧ xs = [.ref p] ∧ (SqL K H p (ys.map V.str) ∨ SqT K H p (ys.map V.str)) ∧
      (ys.map (·.length)).sum + ys.length * a.length ≤ 16777216 ∧ Q (.str (Txt.join a ys)) H
def mJoin (mo me : ME) : ME := fun env h => (mo env h).bind fun x h => match x with
  | .str a => (me env h).bind fun y h => oJoin (.str a) y h
  | _ => .no
@[simp] theorem aJoin (me : ME) (env : En) (h : Hh) : mJoin mo me env h = (mo env h).bind fun x h => (match x with
  | .str a => (me env h).bind fun y h => oJoin (.str a) y h
  | _ => .no) := id rfl
theorem se_join (a : SE F o mo) (b : SB F e m) (hs : ∀ i, starEach [e] (F.X i).env = [(false, eval e (F.X i).env)] := by intro _; rfl) (hbase : ∀ i, attributeBase o "join" (F.X i).env (eval o (F.X i).env) = eval o (F.X i).env := by intro _; rfl) (hline : (apos.endLine == cpos.line) = true := by rfl) :
    SE F (.Call (.Attribute o "join" apos) [e] [] cpos) (mJoin mo m) := by
  obtain ⟨t, p, q⟩ := a
  obtain ⟨t', p', q'⟩ := b
  refine ⟨fun W => tM1 (rJoin F.K) (t W) (t' W), fun i => pe_join (p i) (p' i) (hs i) (hbase i) hline, fun W w0 w env h σ Q rl po => ?_⟩
  refine q W w0 w env h σ _ rl (PostE.bind (R1 := RV F.S) po fun x h1 w1 v s1 d1 r1 p1 => ?_)
  cases x with
  | str z =>
    cases r1
    refine ⟨⟨z, rfl⟩, q' W w0 w1 env h1 σ _ (rl.step s1 d1) (PostE.bind (R1 := RBo F.S) p1 fun y h2 w2 u s2 d2 r2 p2 => ?_)⟩
    unfold oJoin at p2
    split at p2
    · rename_i _ _ za ys ea
      injection ea with ea
      subst ea
      split at p2
      · rename_i ss es
        split at p2
        · rename_i hz
          obtain ⟨a, us, rfl, ha, ra⟩ := r2.ofLst d2
          rw [strsOf_ok ra es] at ha
          exact ⟨_, a, ss, rfl, rfl, .inl ha, hz, p2.fin d2 (.str _)⟩
        · exact p2.elim
      · exact p2.elim
    · exact p2.elim
  | _ => exact p1.elim
/-! ### text.index(sign), there -/
def oTIx : PV → PV → Hh → Res PV := fun x y h => match x, y with
  | .str a, .str b => match Txt.index0 a b with
    | some k => .ok (.int (k : Nat)) h
    | none => .no
  | _, _ => .no
def mTIx (mo me : ME) : ME := fun env h => (mo env h).bind fun x h => match x with
  | .str a => (me env h).bind fun y h => oTIx (.str a) y h
  | _ => .no
@[simp] theorem aTIx (me : ME) (env : En) (h : Hh) : mTIx mo me env h = (mo env h).bind fun x h => (match x with
  | .str a => (me env h).bind fun y h => oTIx (.str a) y h
  | _ => .no) := id rfl
theorem se_tindex (ok : F.Ok) (hc : F.calm = true) (a : SE F o mo) (b : SB F e m)
    (hst : ∀ j, starEach [e] (F.X j).env = (false, eval e (F.X j).env) :: starEach [] (F.X j).env := by intro _; rfl)
    (hm : ∀ j to t r, MtS (F.X j) "str.index" r → PE (F.X j) o to → PA (F.X j) [e] t → PE (F.X j) (.Call (.Attribute o "index" apos) [e] [] cpos) (tBMS F.K "str" r to t) := by exact fun j to t r h h1 h2 => pe_bmS PySem.F.plainAttrs_str PySem.F.slot_str_index PySem.F.type_str_index h h1 h2) :
    SE F (.Call (.Attribute o "index" apos) [e] [] cpos) (mTIx mo m) := by
  obtain ⟨t, p, q⟩ := a
  obtain ⟨t', p', q'⟩ := b
  refine ⟨fun W => tBMS F.K "str" (rIndexX W) (t W) (tCons (t' W) tNil), fun i => hm i _ _ _ (mt_indexX (X := F.X i) hc (ok.tk i)) (p i) (pa_cons (p' i) pa_nil (hst i)), fun W w0 w env h σ Q rl po => ?_⟩
  refine q W w0 w env h σ _ rl (PostE.bind (R1 := RV F.S) po fun x h1 w1 v s1 d1 r1 p1 => ?_)
  cases x with
  | str z =>
    cases r1
    refine ⟨rfl, q' W w0 w1 env h1 σ _ (rl.step s1 d1) (PostE.bind (R1 := RBo F.S) p1 fun y h2 w2 u s2 d2 r2 p2 => ?_)⟩
    unfold oTIx at p2
    split at p2
    · rename_i _ _ za b ea
      injection ea with ea
      subst ea
      split at p2
      · rename_i k ek
        exact ⟨_, b, rfl, by rw [r2.ofStr], fun k' e' => by rw [ek] at e'; cases e'; exact p2.fin d2 (.int _), fun e' => by rw [ek] at e'; cases e'⟩
      · exact p2.elim
    · exact p2.elim
  | _ => exact p1.elim
end
/-! ### a def known by another name -/
structure DefAtN (K : PySem.W.Frag) (mg : Str → Option Value) (x n : Str) (st : Stmt) : Prop where
  ex : ∃ f fd, Fun K n n st f fd ∧ mg x = some (.ref f)
section
variable {P : Program} {w : World} {K : PySem.W.Frag} {mg : Str → Option Value} {base : Heap} {cA : Str → Option Addr} {k : Nat} {x n : Str} {ps : List Str} {m m' : MF}
theorem defAtN_mk {st : Stmt} {h : Heap} {f : Addr} {oc : Value} {od an : Option Addr} {osl : Array (Option Value)} {kV doc pm cdv ct : Value} (X : K.In h) (G : h.Ns mainGlobals mg) (a : PySem.W.nsIn K mainGlobals x = some (some (.ref f)))
    (l : K.lookup f = some ⟨oc, od, .func (PySem.W.fnOf n n (defArgs st) (defBody st) (defScope st) .none kV doc pm an cdv ct), osl⟩) (c : PySem.W.codeIn K cdv n = true) (kp : PySem.W.keepIn K (.ref f) = true) : DefAtN K mg x n st :=
  ⟨f, _, fun_mk l c kp, PySem.W.mg_of X G a⟩
theorem DefAtN.ok {st : Stmt} (A : DefAtN K mg x n st) (g : ∀ f fd, Fun K n n st f fd → FnOk P w K mg base (L2.CX P w) k f fd ps (spM ⟨K, cA, 0, none⟩ m))
    (b : ∀ (kV doc pm : Value) (an : Option Addr) (cdv ct : Value) (us : List Value), us.length = ps.length → bindArgs (PySem.W.fnOf n n (defArgs st) (defBody st) (defScope st) .none kV doc pm an cdv ct) ⟨us, []⟩ = pure (ps.zip us)) : DefOk P w K mg base cA k x ps m := by
  obtain ⟨f, fd, Fn, e⟩ := A.ex
  exact ⟨f, fd, g f fd Fn, e, Fn.kp, Fn.binds b⟩
end
end Mir

set_option Elab.async false
set_option linter.all false
set_option maxRecDepth 100000
set_option maxHeartbeats 4000000
/-! MirA: own exceptions with one field that their own __init__ stores: made, raised, caught, asked -/
namespace MirA
open PySem PySem.W PySem.Spec PySem.Calls PyProof.Rows
section
variable {pr : Program} {wo : World} {A : Around} {E : Value → Shared → Prop} {s : Shared} {K : Frag} {x D : Addr} {ox : Obj} {od : Option Obj}
theorem fobj {nm : Str} {a g : Value} (h1 : (clsIn K D).isSome = true) (h2 : findIn K (.ref D) nm = some (some a)) (h3 : specialIn K a "__get__" = some (some g)) (h4 : takesIn K a = some true) : findObj K D od nm = some (.bind g a) := by
  obtain ⟨cd, e⟩ := Option.isSome_iff_exists.mp h1
  unfold findObj
  rw [e, Option.bind_some, h2, Option.bind_some]
  simp [h3, h4]
theorem cls_of (C : L2.ExcC K D) {Q : Option Value → Shared → Prop} (X : K.In s.heap) (I : InstAt s.heap x ox D od) (q : Q (some (.ref D)) { s with toks := s.toks + 1 }) : wpAny (model pr wo) A (getAttr? (.ref x) "__class__") Q E s := by
  have fo : findObj K D od "__class__" = some (.bind (.builtin "getset_descriptor.__get__") (.builtin "object.__class__")) := fobj (by obtain ⟨cd, e, _⟩ := any_some C.hd; rw [e]; rfl) C.ha C.hn C.ht
  obtain ⟨hp, g, d, t, os⟩ := s
  have A0 := I.type (M := model pr wo); have A1 := looks_findIn (M := model pr wo) X C.hg; have A2 := looks_findIn (M := model pr wo) X C.hk; have A3 := looks_find (M := model pr wo) X I fo
  have sb : Looks (model pr wo) hp (isInstance (.ref x) (.type "BaseException")) true := A0.andThen (looks_subIn X C.hs)
  have b0 : (false && onTheHeap (Value.builtin "BaseException.__getattribute__")) = false := rfl
  have b2 : (Value.builtin "BaseException.__getattribute__" == Value.builtin "object.__getattribute__") = false := by decide +kernel
  have b1 : (onTheHeap (Value.ref D) && Value.builtin "BaseException.__getattribute__" == Value.builtin "object.__getattribute__") = false := by rw [b2]; rfl
  unfold getAttr? getAttrBy? getAttrBy; refine wpAny_bind (wpAny_mkText (wpAny_bind (wpAny_attempt (wpAny_holding (wpAny_bind (A0.at (wpAny_bind (A1.at ?_))))))))
  show wpAny _ _ (if (onTheHeap (Value.ref D) && Value.builtin "BaseException.__getattribute__" == Value.builtin "object.__getattribute__") = true then _ else _) _ _ _; rw [b1, if_neg Bool.false_ne_true]
  unfold getAttrByItsOwn hookBefore; refine wpAny_bind ?_; rw [if_pos (show onTheHeap (Value.ref D) = true from rfl)]; refine A2.at ?_; refine wpAny_bind (wpAny_attempt (wpAny_holding ?_))
  unfold callGetattribute; rw [b0, if_neg Bool.false_ne_true]; unfold boundAndCalled; rw [PySem.F.excAttr_ValueError.ga.bind (.ref x)]; refine wpAny_bind (wpAny_pure ?_)
  show wpAny _ _ (call (.builtin "BaseException.__getattribute__") [.ref x, .str "__class__" t]) _ _ _; refine wpAny_call (codeAny_call_builtin PySem.F.excAttr_ValueError.ga.plain PySem.F.entry_bexc_ga ?_)
  refine @check_slot (model pr wo) _ _ ⟨hp, g, d, t + 1, os⟩ "BaseException.__getattribute__" "BaseException" "__getattribute__" (.ref x) [.str "__class__" t] [] _ (by decide +kernel) (by decide +kernel) sb (PySem.F.args_bexc_ga (.ref x) (.str "__class__" t)) ?_
  unfold Builtin.«object.__getattribute__»; refine wpAny_bind (wpAny_of_eq (a := ((Value.ref x : Value), [Value.str "__class__" t])) (by first | rfl | (simp only [slotArgs]; rfl)) ?_); refine wpAny_bind (wpAny_pure (wpAny_bind (A0.at (wpAny_bind (A3.at ?_)))))
  show wpAny _ _ (holding [Value.builtin "object.__class__"] (call (.builtin "getset_descriptor.__get__") [.builtin "object.__class__", .ref x, .ref D]) >>= ret) _ _ _; refine wpAny_bind (wpAny_holding (wpAny_call (class_get (s := ⟨hp, g, d, t + 1, os⟩) (ox := ox) (od := od) X I C.hm ?_)))
  refine wpAny_pure ?_; show wpAny _ _ (handedOut (.ref D)) _ _ _; rw [handedOut_of (v := .ref D) rfl]; first | exact wpAny_pure (wpAny_pure q) | exact wpAny_pure q | exact wpAny_pure (wpAny_bind (wpAny_pure (wpAny_pure q)))
theorem kx (C : L2.ExcC K D) : KitX K (.ref x) (.ref D) (fun h => InstAt h x ox D od) where
  ty := fun _ _ _ I => I.type
  it := fun _ _ X _ => by
    obtain ⟨cd, e, _⟩ := any_some C.hd; unfold clsIn at e
    split at e
    · rename_i c' d' cd' sl' ho; intro A' Q' E' s' k q; unfold isType loadHead; exact wpAny_bind (wpAny_loadPart (k _ _ (X _ _ ho)) (wpAny_pure q))
    · cases e
  ne := fun h tp dd its n sl X htp => by
    obtain ⟨cd, e, _⟩ := any_some C.hd; refine Bool.eq_false_iff.mpr fun q => ?_
    have z : D = tp := Value.ref.inj (beq_iff_eq.mp q); subst z; unfold clsIn at e
    split at e
    · rename_i c' d' cd' sl' ho; have z := (X _ _ ho).symm.trans htp; cases z
    · cases e
  ca := fun X I k => cls_of C X I k
end
end MirA
namespace L2
open PySem PySem.Spec PyProof.Rows
/-- isinstance(e, c), e with a dict -/
def rIsEd (K : PySem.W.Frag) (D a dd : Addr) : List V → Hp → VK → Prop := fun xs H Q => ∃ (c : V) (cv : Value) (b : Bool) (fs : List (Str × V)), H dd = some (.xd fs) ∧ xs = [.ref a, c] ∧ (∀ u, RelV c u → u = cv) ∧ PySem.W.kitOne K (.ref D) cv = some b ∧ Q (.bl b) H
theorem call_isEd {X : Cx} {a D dd : Addr} {oe : Obj} {pn : List (Addr × Obj)} (C : ExcC X.K D) (hz : Zc (.ref D) (some dd) oe) (hf : ∃ vs, oe.data = .fields vs) : CallR (X.suite a ((a, oe) :: pn)) (.builtin "isinstance") (rIsEd X.K D a dd) := by
  intro pins s σ H xs us Q I r h
  obtain ⟨c, cv, b, fs, hx, rfl, hcv, e, q⟩ := h
  cases r with
  | cons rx rr =>
    cases rr with
    | cons rt rr =>
      cases rr
      cases rx
      have ec := hcv _ rt
      subst ec
      have hget := (I.pin (a, oe) (List.mem_append_left _ List.mem_cons_self)).1
      obtain ⟨vs, hv⟩ := hf
      have hx' : ObjOk X.prog X.w H s.heap dd (.xd fs) := I.hok dd _ hx
      obtain ⟨mA, hns, hr⟩ := hx'
      obtain ⟨od, ho, hl⟩ := lookIn_ns hns
      have J : PySem.W.InstAt s.heap a oe D (some od) := ⟨hget, hz.1, by unfold PySem.W.notCls; rw [hv] <;> rfl, by rw [hz.2]; exact ho⟩
      exact PySem.W.kia_one (MirA.kx C) I.kIn J e (fun z => nomatch z) fun tk => ⟨.bl b, H, I.kept (t' := tk) fun _ _ z => z, rfl, q⟩
end L2
namespace Mir
open PySem PySem.Spec PyProof.Rows L2
/-! ### isinstance in a suite, whatever the exception holds -/
def mIsX (i : Nat) (b : Bool) : ME := fun env h => match env[i]? with
  | some (.ex _) => .ok (.bl b) h
  | _ => .no
@[simp] theorem aIsX (i : Nat) (b : Bool) (env : En) (h : Hh) : mIsX i b env h = (match env[i]? with
  | some (.ex _) => .ok (.bl b) h
  | _ => .no) := id rfl
section
variable {F : Fam} {T n : Str} {cs : List Str} {p p1 p2 pos : Pos} {x : Xn} {C a : Addr} {oe : Obj} {d : Option Addr} {b : Bool}
theorem se_isX (i : Nat) (hm : F.mg "isinstance" = none) (hI : ∀ c' ∈ cs, IsEAt F.K F.mg F.cA c' T b) (hx : x.c ∈ cs) (hC : F.cA x.c = some C) (hz : Zc (.ref C) d oe) (hf : ∃ vs, oe.data = .fields vs)
    (hN : F.N[i]? = some n := by rfl) (hv : ∀ j, Vis (F.env j).scope n := by first | exact fun _ => Or.inl rfl | exact fun _ => Or.inr (Or.inl rfl) | exact fun _ => Or.inr (Or.inr rfl))
    (hd : (n == ("__debug__" : Str)) = false := by decide) (hcd : (n == ("__classdict__" : Str)) = false := by decide) (hg : ∀ i, Gl (F.X i) "isinstance" := by intro _; rfl) (hg2 : ∀ i, Gl (F.X i) T := by intro _; rfl) (hdT : (T == ("__debug__" : Str)) = false := by decide)
    (hst : ∀ j, starEach [.Name n p1, .Name T p2] (F.X j).env = (false, eval (.Name n p1) (F.X j).env) :: starEach [.Name T p2] (F.X j).env := by intro _; rfl)
    (hst2 : ∀ j, starEach [.Name T p2] (F.X j).env = (false, eval (.Name T p2) (F.X j).env) :: starEach [] (F.X j).env := by intro _; rfl)
    (hpl : ∀ j, (backTo pos (starEach [.Name T p2] (F.X j).env)).any (·.1) = false := by intro _; rfl) :
    SE (F.su a oe d) (.Call (.Name "isinstance" p) [.Name n p1, .Name T p2] [] pos) (mIsX i b) := by
  cases d with
  | none =>
    obtain ⟨t, pp, q⟩ := se_isE (F := F) (T := T) (n := n) (cs := cs) (p := p) (p1 := p1) (p2 := p2) (pos := pos) (x := x) (C := C) (a := a) (oe := oe) (d := none) (b := b) i hm hI hx hC hz hf hN hv hd hcd hg hg2 hdT hst hst2 hpl
    refine ⟨t, pp, fun W w0 w env h σ Q r po => q W w0 w env h σ Q r ?_⟩
    unfold mIsX at po
    unfold mIsE
    split at po
    · rename_i y e
      rcases (r.sl.exq i y e).2 with ⟨k, _⟩ | ⟨dd, vs, k, _⟩
      · first
          | (rw [e]; simp only [k, if_true]; exact po)
          | (simp only [k, if_true]; exact po)
      · cases k
    · exact po.elim
  | some dd =>
    obtain ⟨C', u, ca, hu, eC, kit⟩ := (hI x.c hx).ex
    rw [hC] at ca; cases ca
    have key : ∀ (W : WX) (w0 w : Wd) (env : En) (h : Hh) (σ : L2.St) (Q : V → Hp → Prop) (c : V) (cv : Value), (∀ u, RelV c u → u = cv) → PySem.W.kitOne F.K (.ref C) cv = some b → Rl (F.su a oe (some dd)).S w0 w env h σ → PostE (F.su a oe (some dd)).S W w σ (RV (F.su a oe (some dd)).S) (mIsX i b env h) Q →
        tCB (rIsEd F.K C a dd) (tCons (tVar i) (tCons (tC c) tNil)) σ w.H Q := fun W w0 w env h σ Q c cv hcv hk r po => by
      unfold mIsX at po
      split at po
      · rename_i y e
        rcases (r.sl.exq i y e).2 with ⟨_, k⟩ | ⟨d', vs, k, _, k3, _⟩
        · cases k
        · cases k
          exact ⟨.ref a, (r.sl.exq i y e).1, c, cv, b, _, k3, rfl, hcv, hk, po.fin r.hd (.bl b)⟩
      · exact po.elim
    rcases hu with ⟨CT, rfl, mT⟩ | ⟨nm, rfl, mT, bT, nT⟩
    · refine ⟨fun _ => tCB (rIsEd F.K C a dd) (tCons (tVar i) (tCons (tC (.ref CT)) tNil)), fun j => ?_, fun W w0 w env h σ Q r po => key W w0 w env h σ Q _ _ (fun u ru => ru) kit r po⟩
      have h1 : PE ((F.su a oe (some dd)).X j) (.Name n p1) (tVar i) := pe_var (X := (F.su a oe (some dd)).X j) hN (hv j.1) hd hcd
      have h2 : PE ((F.su a oe (some dd)).X j) (.Name T p2) (tC (.ref CT)) := pe_glob (X := (F.su a oe (some dd)).X j) (v := V.ref CT) (hg2 j.1) mT rfl hdT
      exact pe_callB (X := (F.su a oe (some dd)).X j) (call_isEd (X := F.X j.1) (pn := j.2) eC hz hf) (hg j.1) hm (by decide +kernel) (pa_cons h1 (pa_cons h2 pa_nil (hst2 j.1)) (hst j.1)) (by decide) (by decide) (hst j.1) (hpl j.1)
    · refine ⟨fun _ => tCB (rIsEd F.K C a dd) (tCons (tVar i) (tCons (tC (.ty nm)) tNil)), fun j => ?_, fun W w0 w env h σ Q r po => key W w0 w env h σ Q _ _ (fun u ru => ru) kit r po⟩
      have h1 : PE ((F.su a oe (some dd)).X j) (.Name n p1) (tVar i) := pe_var (X := (F.su a oe (some dd)).X j) hN (hv j.1) hd hcd
      have h2 : PE ((F.su a oe (some dd)).X j) (.Name T p2) (tC (.ty nm)) := pe_bltn (X := (F.su a oe (some dd)).X j) (v := V.ty nm) (hg2 j.1) mT bT rfl nT hdT
      exact pe_callB (X := (F.su a oe (some dd)).X j) (call_isEd (X := F.X j.1) (pn := j.2) eC hz hf) (hg j.1) hm (by decide +kernel) (pa_cons h1 (pa_cons h2 pa_nil (hst2 j.1)) (hst j.1)) (by decide) (by decide) (hst j.1) (hpl j.1)
/-! ### e.f in a suite -/
structure XfAt (K : PySem.W.Frag) (cA : Str → Option Addr) (c f : Str) : Prop where
  ex : ∃ C, cA c = some C ∧ XfC K C ∧ PySem.W.findIn K (.ref C) f = some none
def mXf (i : Nat) (f : Str) : ME := fun env h => match env[i]? with
  | some (.ex x) => match getF f x.ns x.vs with
    | some y => .ok y h
    | none => .no
  | _ => .no
@[simp] theorem aXf (i : Nat) (f : Str) (env : En) (h : Hh) : mXf i f env h = (match env[i]? with
  | some (.ex x) => (match getF f x.ns x.vs with
    | some y => .ok y h
    | none => .no)
  | _ => .no) := id rfl
theorem se_xf (i : Nat) {f : Str} (hI : ∀ c' ∈ cs, XfAt F.K F.cA c' f) (hx : x.c ∈ cs) (hC : F.cA x.c = some C) (hz : Zc (.ref C) d oe) (hf : ∃ vs, oe.data = .fields vs)
    (hN : F.N[i]? = some n := by rfl) (hv : ∀ j, Vis (F.env j).scope n := by first | exact fun _ => Or.inl rfl | exact fun _ => Or.inr (Or.inl rfl) | exact fun _ => Or.inr (Or.inr rfl))
    (hd : (n == ("__debug__" : Str)) = false := by decide) (hcd : (n == ("__classdict__" : Str)) = false := by decide)
    (hb : ∀ j, attributeBase (.Name n p1) f (F.X j).env (eval (.Name n p1) (F.X j).env) = eval (.Name n p1) (F.X j).env := by intro _; rfl) :
    SE (F.su a oe d) (.Attribute (.Name n p1) f pos) (mXf i f) := by
  obtain ⟨C', ca, T, hno⟩ := (hI x.c hx).ex
  rw [hC] at ca; cases ca
  refine ⟨fun _ => tXf a (.ref C) d C f (tVar i), fun j => pe_xf (X := F.X j.1) (pn := j.2) T hno hz hf (pe_var (X := (F.su a oe d).X j) hN (hv j.1) hd hcd) (hb j.1), fun W w0 w env h σ Q r po => ?_⟩
  unfold mXf at po
  split at po
  · rename_i y e
    split at po
    · rename_i z ez
      rcases (r.sl.exq i y e).2 with ⟨k, _⟩ | ⟨d', vs, k, _, k3, _, k5⟩
      · rw [k] at ez; unfold getF at ez; cases ez
      · obtain ⟨u, g1, g2⟩ := getF_rel k5 ez
        exact ⟨.ref a, (r.sl.exq i y e).1, rfl, rfl, d', _, u, k, k3, by rw [lookup_zip]; exact g1, po.fin r.hd g2⟩
    · exact po.elim
  · exact po.elim
end
/-! ### raise C(e), C.__init__(self, x) stores x -/
def spI (K : PySem.W.Frag) (fld : Str) : Sp := fun vs H Q _ => ∃ (a C : Addr) (y : V), vs = [.ref a, y] ∧ OexC K C ∧ PySem.W.findIn K (.ref C) fld = some none ∧ H a = some (exo a C none) ∧ ∀ dx, H dx = none → dx ≠ a → Q .non (upd (upd H dx (exd dx [(fld, y)])) a (exo a C (some dx)))
structure XAt (K : PySem.W.Frag) (mg : Str → Option Value) (cA : Str → Option Addr) (c fld qual : Str) (st : Stmt) : Prop where
  ex : ∃ C fI fd, mg c = some (.ref C) ∧ cA c = some C ∧ OexC K C ∧ PySem.W.findIn K (.ref C) fld = some none ∧ PySem.W.findIn K (.ref C) "__init__" = some (some (.ref fI)) ∧ PySem.W.typeIn K (.ref fI) = some (.type "function") ∧ Fun K "__init__" qual st fI fd
structure XOk (P : Program) (w : World) (K : PySem.W.Frag) (mg : Str → Option Value) (base : Heap) (cA : Str → Option Addr) (c fld : Str) (ps : List Str) : Prop where
  ex : ∃ C fI fd, mg c = some (.ref C) ∧ cA c = some C ∧ OexC K C ∧ PySem.W.findIn K (.ref C) fld = some none ∧ PySem.W.findIn K (.ref C) "__init__" = some (some (.ref fI)) ∧ PySem.W.typeIn K (.ref fI) = some (.type "function") ∧
    FnOk P w K mg base (L2.CX P w) 1 fI fd ps (spI K fld) ∧ Binds K fd ps []
section
variable {P : Program} {w : World} {K : PySem.W.Frag} {mg : Str → Option Value} {base : Heap} {cA : Str → Option Addr} {c fld qual prm : Str}
theorem init_ok {st : Stmt} {f : Addr} {fd : FuncData} {p1 p2 p3 pos : Pos} (Fn : Fun K "__init__" qual st f fd) (Sc : FnScope ["self", prm] ["self", prm] (defScope st)) (hb : defBody st = [.Assign [.Attribute (.Name "self" p1) fld p2] (.Name prm p3) pos])
    (v1 : Vis (defScope st) "self") (v2 : Vis (defScope st) prm) (d1 : (prm == ("__debug__" : Str)) = false) (d2 : (prm == ("__classdict__" : Str)) = false) : FnOk P w K mg base (L2.CX P w) 1 f fd ["self", prm] (spI K fld) := by
  refine Fn.okX Sc (fun vs H Q E ⟨a, C, y, e, _⟩ => by rw [e]; rfl) (fun cdv A outer s H vs Q E hr ⟨a, C, y, e, T, hno, ha, q⟩ => ?_)
  subst e
  refine ⟨tOst K fld (tVar 0) (tVar 1), ?_, ?_⟩
  · rw [hb]
    exact pss_one (ps_ost (pe_var (i := 0) rfl v1) (pe_var (i := 1) rfl v2 d1 d2))
  · exact ⟨y, rfl, .ref a, rfl, a, C, rfl, T, hno, .inl ⟨ha, fun dx n ne => q dx n ne⟩⟩
theorem XAt.ok {st : Stmt} {p1 p2 p3 pos : Pos} (A : XAt K mg cA c fld qual st) (Sc : FnScope ["self", prm] ["self", prm] (defScope st)) (hb : defBody st = [.Assign [.Attribute (.Name "self" p1) fld p2] (.Name prm p3) pos])
    (v1 : Vis (defScope st) "self") (v2 : Vis (defScope st) prm) (d1 : (prm == ("__debug__" : Str)) = false) (d2 : (prm == ("__classdict__" : Str)) = false)
    (b : ∀ (kV doc pm : Value) (an : Option Addr) (cdv ct : Value) (us : List Value), us.length = (["self", prm] : List Str).length → bindArgs (PySem.W.fnOf "__init__" qual (defArgs st) (defBody st) (defScope st) .none kV doc pm an cdv ct) ⟨us, []⟩ = pure ((["self", prm] : List Str).zip us)) : XOk P w K mg base cA c fld ["self", prm] := by
  obtain ⟨C, fI, fd, h1, h2, h3, h4, h5, h6, Fn⟩ := A.ex
  exact ⟨C, fI, fd, h1, h2, h3, h4, h5, h6, init_ok Fn Sc hb v1 v2 d1 d2, Fn.binds b⟩
end
def mRaise1 (c fld : Str) (m : ME) : MS := fun env h => ofE (m env h) env fun x h => .er ⟨c, [fld], [x]⟩ env h
@[simp] theorem aRaise1 (c fld : Str) (m : ME) (env : En) (h : Hh) : mRaise1 c fld m env h = ofE (m env h) env fun x h => .er ⟨c, [fld], [x]⟩ env h := id rfl
section
variable {F : Fam} {c fld : Str} {ps : List Str} {e : Expr} {p pos pos' : Pos} {m : ME}
theorem ss_raise1 (hc : F.calm = true) (ok : F.Ok) (G : XOk F.P F.w F.K F.mg F.base F.cA c fld ps) (hk : 2 ≤ F.k) (b : SE F e m) (hg : ∀ i, Gl (F.X i) c := by intro _; rfl) (hdb : (c == ("__debug__" : Str)) = false := by decide)
    (he : ∀ i, starEach [e] (F.X i).env = (false, eval e (F.X i).env) :: starEach [] (F.X i).env := by intro _; rfl) (hpl : ∀ i, (backTo pos' (starEach [] (F.X i).env)).any (·.1) = false := by intro _; rfl) :
    SS F (.Raise (some (.Call (.Name c p) [e] [] pos')) none pos) (mRaise1 c fld m) := by
  obtain ⟨C, fI, fd, gC, ca, T, hno, iC, tI, F1, bd⟩ := G.ex
  obtain ⟨t, pp, q⟩ := b
  refine ⟨fun W => fun _ σ H => tMkO C (spI F.K fld) [] (tCons (t W) tNil) σ H fun cls d H' => W cls d σ H', fun i => ps_raise (X := F.X i) hc (ok.tk i) (pmk_oex (X := F.X i) T iC tI F1 ((ok.hr i).mono hk) bd .nil (fun _ _ _ _ _ _ _ z => by obtain ⟨_, _, _, _, _, _, _, _, _, _, _, _, z⟩ := z; exact z.elim) (hg i) gC (pa_cons (pp i) pa_nil (he i)) hdb (he i) (hpl i)), fun W w0 w env h σ D rl po => ?_⟩
  refine q W w0 w env h σ _ rl (PostS.ofE (R := RV F.S) rl po fun x h1 w1 v s1 d1 r1 p1 => ?_)
  refine ⟨by show ([v] : List V).length ≤ 1000; simp, fun a na => ⟨a, C, v, rfl, T, hno, upd_same, fun dx ndx hne => ⟨rfl, dx, [(fld, v)], upd_same, by rw [upd_ne hne, upd_same], by rw [upd_ne hne] at ndx; exact ndx, ?_⟩⟩⟩
  have ndx' : w1.H dx = none := by rw [upd_ne hne] at ndx; exact ndx
  have hH : upd (del (upd (upd (upd w1.H a (exo a C none)) dx (exd dx [(fld, v)])) a (exo a C (some dx))) a) dx (.xd [(fld, v)]) = (w1.put dx (.xd [(fld, v)])).H := by
    funext y
    show _ = upd w1.H dx (.xd [(fld, v)]) y
    by_cases h1 : y = dx
    · subst h1; rw [upd_same, upd_same]
    · rw [upd_ne h1, upd_ne h1]
      by_cases h2 : y = a
      · subst h2; rw [del_same]; exact na.symm
      · rw [del_ne h2, upd_ne h2, upd_ne h1, upd_ne h2]
  rw [hH]
  have st := Step.put (o := .xd [(fld, v)]) d1 ndx'
  exact p1 (w1.put dx (.xd [(fld, v)])) σ (.ref C) (some dx) st.ext ((rl.step s1 d1).step st (d1.put ndx')) ⟨C, ca, rfl, .inr ⟨dx, [v], rfl, ⟨by simp, rfl⟩, upd_same, d1.notAd ndx', .cons (st.pr r1) .nil⟩⟩
end
/-! ### facts by what k_is finds -/
section
variable {K : PySem.W.Frag} {mg : Str → Option Value} {h : Heap} {c fld qual : Str} {C fI : Addr}
def oexOb (C : Addr) : Obj → Bool
  | ⟨.type "type", _, .cls cd, sl⟩ => (match cd.mro, sl.toList with
    | .ref C' :: bm, [_, _, _, _, some (.builtin n), _] => C' == C && n == "ValueError.__new__" && !cd.hasDel && cd.hasDict && PySem.HandSPX.refsVE bm
    | _, _ => false)
  | _ => false
theorem oexC_mk {o : Obj} (l : K.lookup C = some o) (q : oexOb C o = true) (sa : PySem.W.findIn K (.ref C) "__setattr__" = some (some (.builtin "object.__setattr__"))) (s : PySem.W.subIn K (.ref C) (.type "BaseException") = some true)
    (t : PySem.W.typeIn K (.ref C) = some (.type "type")) (k : PySem.W.keepIn K (.ref C) = true) : OexC K C := by
  refine ⟨?_, sa, s, t, k⟩
  unfold oexOb at q
  split at q
  · rename_i dd cd sl
    split at q
    · rename_i C' bm k0 k1 k2 k3 n k5 hm hs
      simp only [Bool.and_eq_true, beq_iff_eq, Bool.not_eq_true'] at q
      obtain ⟨⟨⟨⟨rfl, rfl⟩, hdel⟩, hdc⟩, ht⟩ := q
      obtain ⟨nm, bs, mro, ns, qn, hd, sn, sub, ab, col, dl⟩ := cd
      dsimp only at hm hdel hdc
      subst hm hdel hdc
      have hsl : sl = #[k0, k1, k2, k3, some (.builtin "ValueError.__new__"), k5] := by
        rw [← Array.toList_inj]; exact hs
      subst hsl
      exact ⟨nm, qn, ns, bs, bm, sn, sub, ab, col, dd, k0, k1, k2, k3, k5, l, ht⟩
    · cases q
  · cases q
theorem xAt_mk {st : Stmt} {oc : Value} {od an : Option Addr} {osl : Array (Option Value)} {kV doc pm cdv ct : Value} (X : K.In h) (G : h.Ns mainGlobals mg) (a : PySem.W.nsIn K mainGlobals c = some (some (.ref C))) (T : OexC K C) (hno : PySem.W.findIn K (.ref C) fld = some none)
    (i : PySem.W.findIn K (.ref C) "__init__" = some (some (.ref fI))) (ty : PySem.W.typeIn K (.ref fI) = some (.type "function"))
    (l : K.lookup fI = some ⟨oc, od, .func (PySem.W.fnOf "__init__" qual (defArgs st) (defBody st) (defScope st) .none kV doc pm an cdv ct), osl⟩) (cd : PySem.W.codeIn K cdv qual = true) (kp : PySem.W.keepIn K (.ref fI) = true) : XAt K mg (cAof mg) c fld qual st :=
  ⟨C, fI, _, PySem.W.mg_of X G a, cAof_of (PySem.W.mg_of X G a), T, hno, i, ty, fun_mk l cd kp⟩
theorem xfAt_mk (X : K.In h) (G : h.Ns mainGlobals mg) (a : PySem.W.nsIn K mainGlobals c = some (some (.ref C))) (g1 : PySem.W.findIn K (.ref C) "__getattribute__" = some (some (.builtin "BaseException.__getattribute__"))) (g2 : PySem.W.findIn K (.ref C) "__getattr__" = some none)
    (s : PySem.W.subIn K (.ref C) (.type "BaseException") = some true) (hd : PySem.W.hasDictIn K C = true) (hno : PySem.W.findIn K (.ref C) fld = some none) : XfAt K (cAof mg) c fld :=
  ⟨C, cAof_of (PySem.W.mg_of X G a), ⟨g1, g2, s, hd⟩, hno⟩
end
/-! ### a class as one that is caught, asked of: no matter how it is made -/
structure HAt (K : PySem.W.Frag) (mg : Str → Option Value) (c : Str) : Prop where
  ex : ∃ C, mg c = some (.ref C) ∧ PySem.W.subIn K (.ref C) (.type "BaseException") = some true ∧ PySem.W.typeIn K (.ref C) = some (.type "type") ∧ PySem.W.isClsIn K C = true
section
variable {K : PySem.W.Frag} {mg : Str → Option Value} {h : Heap} {c c' T : Str} {C C' : Addr} {b : Bool} {cs no : List Str}
theorem hAt_mk (X : K.In h) (G : h.Ns mainGlobals mg) (a : PySem.W.nsIn K mainGlobals c = some (some (.ref C))) (s : PySem.W.subIn K (.ref C) (.type "BaseException") = some true) (t : PySem.W.typeIn K (.ref C) = some (.type "type")) (i : PySem.W.isClsIn K C = true) : HAt K mg c :=
  ⟨C, PySem.W.mg_of X G a, s, t, i⟩
theorem catchH_nil (E : HAt K mg c) : CatchAt K mg (cAof mg) c [] [] :=
  let ⟨C, gC, _⟩ := E.ex
  ⟨C, gC, fun _ h => by simp at h, fun _ h => by simp at h⟩
theorem catchH_yes (E : HAt K mg c) (S : SubAt K mg c' c true) (r : CatchAt K mg (cAof mg) c cs no) : CatchAt K mg (cAof mg) c (c' :: cs) no := by
  obtain ⟨C, gC, r1, r2⟩ := r.ex
  obtain ⟨C1, gC1, h1, h3, h2⟩ := E.ex
  obtain ⟨D', D, gD', gD, s⟩ := S.ex
  rw [gC] at gC1 gD; cases gC1; cases gD
  refine ⟨C, gC, fun k hk C' e => ?_, r2⟩
  rcases List.mem_cons.mp hk with q | hk
  · subst q
    have := cAof_inv e
    rw [gD'] at this; cases this
    exact exm_gen h1 h2 h3 s
  · exact r1 k hk C' e
theorem catchH_no (E : HAt K mg c) (S : SubAt K mg c' c false) (r : CatchAt K mg (cAof mg) c cs no) : CatchAt K mg (cAof mg) c cs (c' :: no) := by
  obtain ⟨C, gC, r1, r2⟩ := r.ex
  obtain ⟨C1, gC1, h1, h3, h2⟩ := E.ex
  obtain ⟨D', D, gD', gD, s⟩ := S.ex
  rw [gC] at gC1 gD; cases gC1; cases gD
  refine ⟨C, gC, r1, fun k hk C' e => ?_⟩
  rcases List.mem_cons.mp hk with q | hk
  · subst q
    have := cAof_inv e
    rw [gD'] at this; cases this
    exact exm_gen h1 h2 h3 s
  · exact r2 k hk C' e
theorem isH_own (E : ExcCAt K mg c') (ET : HAt K mg T) (S : SubAt K mg c' T b) (S0 : SubAt K mg c' c' true) : IsEAt K mg (cAof mg) c' T b := by
  obtain ⟨C', g', e⟩ := E.ex
  obtain ⟨CT, gT, _, h3, h2⟩ := ET.ex
  obtain ⟨D', D, gD', gD, s⟩ := S.ex
  rw [g'] at gD'; rw [gT] at gD; cases gD'; cases gD
  refine ⟨C', .ref CT, cAof_of g', .inl ⟨CT, rfl, gT⟩, e, ?_⟩
  unfold PySem.W.kitOne
  split
  · rename_i q
    have q' : C' = CT := by simpa using q
    subst q'
    obtain ⟨D1, D2, f1, f2, s0⟩ := S0.ex
    rw [g'] at f1 f2; cases f1; cases f2
    exact s0.symm.trans s
  · unfold PySem.W.kitCls
    have e2 : ((PySem.W.clsIn K CT).isSome && PySem.W.typeIn K (.ref CT) == some (.type "type")) = true := by
      have h2' : (PySem.W.clsIn K CT).isSome = true := h2
      rw [h2', h3] <;> rfl
    simp only [e2, if_true]
    exact s
end
end Mir
namespace Mir
open PySem
theorem eq_nil {n : Nat} (hn : n + 1 ≤ 64) (xs : List PV) (hx : ∀ x ∈ xs, lv n x = true) (h : Hh) : oEq (.lst xs) (.lst []) h = .ok (.bl xs.isEmpty) h := by
  obtain ⟨ds, e, _⟩ := lvs_ok n xs (List.all_eq_true.mpr hx)
  have q := eqG_of hn false (x := .lst xs) (y := .lst []) (dx := .list ds) (dy := .list []) rfl (by unfold lv; exact List.all_eq_true.mpr hx) (by unfold lv; rfl) (by rw [toD, e]; rfl) (by rw [toD, toDs]; rfl) h
  rw [oEq, q]
  cases xs with
  | nil => rw [toDs] at e; cases e; rfl
  | cons x r =>
    rw [toDs] at e
    split at e
    · cases e; rfl
    · cases e
end Mir

set_option Elab.async false
set_option linter.all false
set_option maxRecDepth 100000
set_option maxHeartbeats 1000000
/-! Mir10: try with several handlers (without names) -/
namespace Mir
open PySem PySem.Spec PyProof.Rows L2
/-- a clause: what it catches, what it does not, its suite -/
structure Hdl where
  cs : List Str
  no : List Str
  ms : Xn → MS
def mHs : List Hdl → Xn → MS
  | [], x, env, h => .er x env h
  | k :: r, x, env, h => if x.c ∈ k.cs then (if noEx env = true then (match k.ms x env h with
      | .nx e2 h2 => if noEx e2 = true then .nx e2 h2 else .no
      | .rt v h2 => .rt v h2
      | .bk e2 h2 => if noEx e2 = true then .bk e2 h2 else .no
      | .ct e2 h2 => if noEx e2 = true then .ct e2 h2 else .no
      | _ => .no) else .no) else if x.c ∈ k.no then mHs r x env h else .no
def mTryM (hs : List Hdl) (mb : MS) : MS := fun env h => match mb env h with
  | .er x env' h' => mHs hs x env' h'
  | r => r
section
variable {F : Fam} {c : Str} {cs no : List Str} {body suite : List Stmt} {b0 : Stmt} {np pos pos' : Pos} {mb : MS} {ms : Xn → MS}
def HsR (F : Fam) (hds : List ExceptHandler) (hs : List Hdl) : Prop := ∃ l : List (Value × (Addr → Value → Option Addr → TS)), (∀ j, HdsOk (F.X j) hds l) ∧
  ∀ (Wout : WX) (w0 w w' : Wd) (D : Ends) (x : Xn) (Cx : Addr) (d : Option Addr) (σ' : L2.St) (env' : En) (h' : Hh), Ext w w' → Rl F.S w0 w' env' h' σ' → F.cA x.c = some Cx → XD F.S w' d x →
    PostS F.S Wout w0 w (mHs hs x env' h') D → wMany F.K Wout D l (.ref Cx) d σ' w'.H
theorem hs_nil : HsR F [] [] := ⟨[], fun _ => .nil, fun Wout w0 w w' D x Cx d σ' env' h' xt rl cx xd po => po w' σ' (.ref Cx) d xt rl ⟨Cx, cx, rfl, xd⟩⟩
theorem hs_cons {hds : List ExceptHandler} {r : List Hdl} (cat : CatchAt F.K F.mg F.cA c cs no) (hs : SSu F cs (b0 :: suite) ms) (hr : HsR F hds r)
    (hg : ∀ i, Gl (F.X i) c := by intro _; rfl) (hdb : (c == ("__debug__" : Str)) = false := by decide) :
    HsR F (.ExceptHandler (some (.Name c np)) none (b0 :: suite) pos' :: hds) (⟨cs, no, ms⟩ :: r) := by
  obtain ⟨C, gC, yes, nay⟩ := cat.ex
  obtain ⟨l, hl, ql⟩ := hr
  refine ⟨(.ref C, tSu F cs (b0 :: suite) ms hs) :: l, fun j => .cons ⟨hg j, hdb, .inl gC⟩ (fun a oe cls d pn hz hf => pss_su hs j a oe cls d pn hz hf) (hl j), fun Wout w0 w w' D x Cx d σ' env' h' xt rl' cx xd po => ?_⟩
  rw [mHs] at po
  simp only at po
  by_cases hx : x.c ∈ cs
  · rw [if_pos hx] at po
    by_cases hne : noEx env' = true
    · rw [if_pos hne] at po
      refine ⟨true, yes x.c hx Cx cx, fun _ a na => ⟨x, Cx, hx, cx, rfl, fun oe hz hf => ?_⟩, fun q => Bool.noConfusion q⟩
      refine (Classical.choose_spec (hs x hx Cx cx a oe d hz hf)).2 (fun _ _ _ _ => False) w0 w' env' h' _ _ (Rl.conv (S := F.S) (S' := (F.su a oe d).S) rfl rfl rl' fun j y e => (noEx_at hne e).elim) ?_
      cases es : ms x env' h' with
      | nx e2 h2 =>
        rw [es] at po; simp only at po
        split at po
        · rename_i hn2
          exact fun w2 σ2 x2 r2 => po w2 σ2 (xt.trans x2) (Rl.conv (S := (F.su a oe d).S) (S' := F.S) rfl rfl r2 fun j y e => (noEx_at hn2 e).elim)
        · exact po.elim
      | rt v h2 =>
        rw [es] at po
        exact fun w2 v2 s2 d2 p2 => po w2 v2 s2 (d2.conv (S := (F.su a oe d).S) (S' := F.S) rfl rfl) p2
      | bk e2 h2 =>
        rw [es] at po; simp only at po
        split at po
        · rename_i hn2
          exact fun w2 σ2 x2 r2 => po w2 σ2 (xt.trans x2) (Rl.conv (S := (F.su a oe d).S) (S' := F.S) rfl rfl r2 fun j y e => (noEx_at hn2 e).elim)
        · exact po.elim
      | ct e2 h2 =>
        rw [es] at po; simp only at po
        split at po
        · rename_i hn2
          exact fun w2 σ2 x2 r2 => po w2 σ2 (xt.trans x2) (Rl.conv (S := (F.su a oe d).S) (S' := F.S) rfl rfl r2 fun j y e => (noEx_at hn2 e).elim)
        · exact po.elim
      | er y e2 h2 => rw [es] at po; exact po.elim
      | no => rw [es] at po; exact po.elim
    · rw [if_neg hne] at po; exact po.elim
  · rw [if_neg hx] at po
    by_cases hx2 : x.c ∈ no
    · rw [if_pos hx2] at po
      exact ⟨false, nay x.c hx2 Cx cx, fun q => Bool.noConfusion q, fun _ => ql Wout w0 w w' D x Cx d σ' env' h' xt rl' cx xd po⟩
    · rw [if_neg hx2] at po; exact po.elim
theorem ss_tryM {h0 : ExceptHandler} {hds : List ExceptHandler} {hs : List Hdl} (ok : F.Ok) (hb : SSs F.tr body mb) (hh : HsR F (h0 :: hds) hs)
    (hst : ∀ i, F.stack i = F.env i :: F.outer i := by intro _; rfl) (hfr : ∀ i, (F.env i).frame = some (F.env i).locals := by intro _; rfl) :
    SS F (.Try body (h0 :: hds) [] [] pos) (mTryM hs mb) := by
  obtain ⟨l, hl, ql⟩ := hh
  obtain ⟨tb, pb, qb⟩ := hb
  refine ⟨fun W => fun D σ H => tb (wMany F.K W D l) D σ H, fun j => ps_try_many (X := F.X j) (hst j) (hfr j) (ok.tk j)
    (fun W pn xe tk po => pb ⟨j, pn, xe, W, tk, po⟩) (hl j), fun W w0 w env h σ D rl po => ?_⟩
  refine qb _ w0 w env h σ D rl ?_
  unfold mTryM at po
  cases em : mb env h with
  | nx env' h' => rw [em] at po; exact po
  | rt v h' => rw [em] at po; exact po
  | bk env' h' => rw [em] at po; exact po
  | ct env' h' => rw [em] at po; exact po
  | no => rw [em] at po; exact po
  | er x env' h' =>
    rw [em] at po
    simp only at po
    intro w' σ' cls d xt rl' ⟨Cx, cx, ec, xd⟩
    subst ec
    exact ql W w0 w w' D x Cx d σ' env' h' xt rl' cx xd po
end
theorem tryM_ok {hs : List Hdl} {mb : MS} {env env' : En} {h h' : Hh} (e : mb env h = .nx env' h') : mTryM hs mb env h = .nx env' h' := by unfold mTryM; rw [e]
theorem tryM_rt {hs : List Hdl} {mb : MS} {env : En} {v : PV} {h h' : Hh} (e : mb env h = .rt v h') : mTryM hs mb env h = .rt v h' := by unfold mTryM; rw [e]
theorem tryM_er {hs : List Hdl} {mb : MS} {env env' : En} {x : Xn} {h h' : Hh} (e : mb env h = .er x env' h') : mTryM hs mb env h = mHs hs x env' h' := by unfold mTryM; rw [e]
end Mir

set_option Elab.async false
set_option linter.all false
set_option maxRecDepth 100000
set_option maxHeartbeats 1000000
/-! Mir11: max and min of three; index of a text among texts -/
namespace Mir
open PySem PySem.Spec PyProof.Rows L2
def mx2 (i j : Int) : Int := if j > i then j else i
def mn2 (i j : Int) : Int := if j < i then j else i
def fMax3 : List PV → Hh → Res PV := fun xs h => match xs with
  | [.int i, .int j, .int k] => .ok (.int (mx2 (mx2 i j) k)) h
  | _ => .no
def fMin3 : List PV → Hh → Res PV := fun xs h => match xs with
  | [.int i, .int j, .int k] => .ok (.int (mn2 (mn2 i j) k)) h
  | _ => .no
theorem nuMax2_int (i j : Int) : nuMax2 (.int i) (.int j) = some (.int (mx2 i j)) := by
  show (some (decide (i < j))).map _ = _
  unfold mx2
  by_cases h : i < j
  · rw [decide_eq_true h, if_pos h]; rfl
  · rw [decide_eq_false h, if_neg h]; rfl
theorem nuMin2_int (i j : Int) : nuMin2 (.int i) (.int j) = some (.int (mn2 i j)) := by
  show (some (decide (j < i))).map _ = _
  unfold mn2
  by_cases h : j < i
  · rw [decide_eq_true h, if_pos h]; rfl
  · rw [decide_eq_false h, if_neg h]; rfl
theorem nuMax3_int (i j k : Int) : nuMax3 (.int i) (.int j) (.int k) = some (.int (mx2 (mx2 i j) k)) := by
  unfold nuMax3
  rw [nuMax2_int, Option.bind_some, nuMax2_int]
theorem nuMin3_int (i j k : Int) : nuMin3 (.int i) (.int j) (.int k) = some (.int (mn2 (mn2 i j) k)) := by
  unfold nuMin3
  rw [nuMin2_int, Option.bind_some, nuMin2_int]
theorem PB0s.three {S : Sx} {w : Wd} {x y z : PV} {vs : List V} (p : PB0s S w [x, y, z] vs) : ∃ v u t, vs = [v, u, t] ∧ PB0 S w x v ∧ PB0 S w y u ∧ PB0 S w z t := by
  cases p with | cons a r =>
  cases r with | cons b r =>
  cases r with | cons c r =>
  cases r
  exact ⟨_, _, _, rfl, a, b, c⟩
section
variable {F : Fam} {ea eb ec : Expr} {p pos : Pos} {mr : MA}
theorem se_max3 (hc : F.calm = true) (hm : F.mg "max" = none) (ha : SAB F [ea, eb, ec] mr) (hg : ∀ i, Gl (F.X i) "max" := by intro _; rfl) (he : ∀ i, starEach [ea, eb, ec] (F.X i).env = (false, eval ea (F.X i).env) :: starEach [eb, ec] (F.X i).env := by intro _; rfl)
    (hpl : ∀ i, (backTo pos (starEach [eb, ec] (F.X i).env)).any (·.1) = false := by intro _; rfl) : SE F (.Call (.Name "max" p) [ea, eb, ec] [] pos) (mCall fMax3 mr) :=
  se_callB (fun W σ w h xs vs Q d px po => by
    unfold fMax3 at po
    split at po
    · obtain ⟨v, u, z, rfl, p1, p2, p3⟩ := px.three
      rw [p1.ofInt, p2.ofInt, p3.ofInt]; exact ⟨_, _, _, _, rfl, nuMax3_int _ _ _, po.fin d (.int _)⟩
    · exact po.elim) (fun _ => call_max3Nu hc) hm (by decide +kernel) ha hg (by decide) (by decide) he hpl
theorem se_min3 (hc : F.calm = true) (hm : F.mg "min" = none) (ha : SAB F [ea, eb, ec] mr) (hg : ∀ i, Gl (F.X i) "min" := by intro _; rfl) (he : ∀ i, starEach [ea, eb, ec] (F.X i).env = (false, eval ea (F.X i).env) :: starEach [eb, ec] (F.X i).env := by intro _; rfl)
    (hpl : ∀ i, (backTo pos (starEach [eb, ec] (F.X i).env)).any (·.1) = false := by intro _; rfl) : SE F (.Call (.Name "min" p) [ea, eb, ec] [] pos) (mCall fMin3 mr) :=
  se_callB (fun W σ w h xs vs Q d px po => by
    unfold fMin3 at po
    split at po
    · obtain ⟨v, u, z, rfl, p1, p2, p3⟩ := px.three
      rw [p1.ofInt, p2.ofInt, p3.ofInt]; exact ⟨_, _, _, _, rfl, nuMin3_int _ _ _, po.fin d (.int _)⟩
    · exact po.elim) (fun _ => call_min3Nu hc) hm (by decide +kernel) ha hg (by decide) (by decide) he hpl
@[simp] theorem max3I (h : Hh) (i j k : Int) : fMax3 [.int i, .int j, .int k] h = .ok (.int (mx2 (mx2 i j) k)) h := id rfl
@[simp] theorem min3I (h : Hh) (i j k : Int) : fMin3 [.int i, .int j, .int k] h = .ok (.int (mn2 (mn2 i j) k)) h := id rfl
end
/-! ### the place of a text among texts -/
def ixStr (z : Str) : List Str → Option Nat
  | [] => none
  | s :: r => if s = z then some 0 else (ixStr z r).map (· + 1)
theorem ixStr_ok {z : Str} : ∀ {ys : List Str} {j : Nat}, ixStr z ys = some j → ys[j]? = some z ∧ ∀ m, m < j → ys[m]? ≠ some z
  | [], j, h => by cases h
  | s :: r, j, h => by
    rw [ixStr] at h
    by_cases e : s = z
    · rw [if_pos e] at h; cases h
      exact ⟨by rw [e]; rfl, fun m hm => by omega⟩
    · rw [if_neg e] at h
      obtain ⟨k, hk, ek⟩ := Option.map_eq_some_iff.mp h
      subst ek
      obtain ⟨h1, h2⟩ := ixStr_ok hk
      refine ⟨by rw [List.getElem?_cons_succ]; exact h1, fun m hm => ?_⟩
      cases m with
      | zero => rw [List.getElem?_cons_zero]; intro q; exact e (Option.some.inj q)
      | succ m => rw [List.getElem?_cons_succ]; exact h2 m (by omega)
def rTupIx (K : PySem.W.Frag) : V → List V → Hp → VK → Prop := fun x xs H Q => ∃ p, ∃ ys : List Str, ∃ z j, x = .ref p ∧ xs = [.str z] ∧ SqT K H p (ys.map V.str) ∧ ys[j]? = some z ∧ (∀ m, m < j → ys[m]? ≠ some z) ∧ Q (.int (j : Nat)) H
def oIxS : PV → PV → Hh → Res PV := fun x y h => match x, y with
  | .tup xs, .str z => match strsOf xs with
    | some ss => match ixStr z ss with
      | some j => .ok (.int (j : Nat)) h
      | none => .no
    | none => .no
  | .lst xs, .str z => match strsOf xs with
    | some ss => match ixStr z ss with
      | some j => .ok (.int (j : Nat)) h
      | none => .no
    | none => .no
  | _, _ => .no
def mLIx (mo me : ME) : ME := fun env h => (mo env h).bind fun x h => match x with
  | .lst xs => (me env h).bind fun y h => oIxS (.lst xs) y h
  | _ => .no
@[simp] theorem aLIx (mo me : ME) (env : En) (h : Hh) : mLIx mo me env h = (mo env h).bind fun x h => (match x with
  | .lst xs => (me env h).bind fun y h => oIxS (.lst xs) y h
  | _ => .no) := id rfl
section
variable {F : Fam} {o e : Expr} {x : Str} {xs : List PV} {np apos cpos : Pos} {m mo : ME}
theorem se_gtindex (T : KTupAt F.K F.mg x xs) (b : SB F e m) (hg : ∀ j, Gl (F.X j) x := by intro _; rfl) (hd : (x == ("__debug__" : Str)) = false := by decide)
    (hst : ∀ j, starEach [e] (F.X j).env = (false, eval e (F.X j).env) :: starEach [] (F.X j).env := by intro _; rfl)
    (hm : ∀ j to t r, MtR (F.X j) "tuple.index" r → PE (F.X j) (.Name x np) to → PA (F.X j) [e] t → PE (F.X j) (.Call (.Attribute (.Name x np) "index" apos) [e] [] cpos) (tBM F.K "tuple" r to t) := by exact fun j to t r h h1 h2 => pe_bm PySem.F.plainAttrs_tuple PySem.F.slot_tuple_index PySem.F.type_tuple_index h h1 h2) :
    SE F (.Call (.Attribute (.Name x np) "index" apos) [e] [] cpos) (mOp oIxS (mC (.tup xs)) m) := by
  obtain ⟨a, gm, ob, its, n, l, c, dd, z, k, dn⟩ := T.ex
  obtain ⟨vs, r1, r2⟩ := k.out (K := F.K) (Φ := fun _ => none) (ad := [])
  obtain ⟨t', p', q'⟩ := b
  refine ⟨fun W => tBM F.K "tuple" (rTupIx F.K) (tC (.ref a)) (tCons (t' W) tNil), fun i => hm i _ _ _ (mt_tup_index (X := F.X i)) (pe_glob (v := V.ref a) (hg i) gm rfl hd) (pa_cons (p' i) pa_nil (hst i)), fun W w0 w env h σ Q rl po => ?_⟩
  refine ⟨.inr (.inl ⟨rfl, ob, l, c, dn⟩), q' W w0 w env h σ _ rl ?_⟩
  have po' : PostE F.S W w σ (RV F.S) ((m env h).bind fun y h => oIxS (.tup xs) y h) Q := po
  refine PostE.bind (R1 := RBo F.S) po' fun y h2 w2 u s2 d2 rr p2 => ?_
  unfold oIxS at p2
  split at p2
  · rename_i ys z2 ex
    cases ex
    split at p2
    · rename_i ss es
      split at p2
      · rename_i j ej
        obtain ⟨g1, g2⟩ := ixStr_ok ej
        have ev := strsOf_ok (r2 w2.Φ w2.ad) es
        refine ⟨a, ss, z2, j, rfl, by rw [rr.ofStr], ?_, g1, g2, p2.fin d2 (.int _)⟩
        rw [← ev]
        exact .inr ⟨ob, its, n, l, c, dd, z, r1⟩
      · exact p2.elim
    · exact p2.elim
  · rename_i ex; cases ex
  · exact p2.elim
theorem se_lindex (a : SE F o mo) (b : SB F e m)
    (hst : ∀ j, starEach [e] (F.X j).env = (false, eval e (F.X j).env) :: starEach [] (F.X j).env := by intro _; rfl)
    (hm : ∀ j to t r, MtR (F.X j) "list.index" r → PE (F.X j) o to → PA (F.X j) [e] t → PE (F.X j) (.Call (.Attribute o "index" apos) [e] [] cpos) (tBM F.K "list" r to t) := by exact fun j to t r h h1 h2 => pe_bm PySem.F.plainAttrs_list PySem.F.slot_list_index PySem.F.type_list_index h h1 h2) :
    SE F (.Call (.Attribute o "index" apos) [e] [] cpos) (mLIx mo m) := by
  obtain ⟨t, p, q⟩ := a
  obtain ⟨t', p', q'⟩ := b
  refine ⟨fun W => tBM F.K "list" (rIndex F.K) (t W) (tCons (t' W) tNil), fun i => hm i _ _ _ (mt_index (X := F.X i)) (p i) (pa_cons (p' i) pa_nil (hst i)), fun W w0 w env h σ Q rl po => ?_⟩
  refine q W w0 w env h σ _ rl (PostE.bind (R1 := RV F.S) po fun x h1 w1 v s1 d1 r1 p1 => ?_)
  cases x with
  | lst ys =>
    cases r1 with | @lst a _ vs sq rs =>
    refine ⟨.inl ⟨rfl, vs, d1.sqL sq⟩, q' W w0 w1 env h1 σ _ (rl.step s1 d1) (PostE.bind (R1 := RBo F.S) p1 fun y h2 w2 u s2 d2 rr p2 => ?_)⟩
    have r1' : PW' F.S w2 (.lst ys) (.ref a) := s2.pr (PR.lst sq rs)
    cases r1' with | @lst _ _ vs2 sq2 rs2 =>
    unfold oIxS at p2
    split at p2
    · rename_i ex; cases ex
    · rename_i ys' z2 ex
      cases ex
      split at p2
      · rename_i ss es
        split at p2
        · rename_i j ej
          obtain ⟨g1, g2⟩ := ixStr_ok ej
          have ev := strsOf_ok rs2 es
          refine ⟨a, vs2, .str z2, j, .str z2, rfl, by rw [rr.ofStr], d2.sqL sq2, rfl, by rw [ev]; exact flat_strs ss, by rw [ev, List.getElem?_map, g1]; rfl, by show (z2 == z2) = true; simp, fun k z' hk hz => ?_, p2.fin d2 (.int _)⟩
          rw [ev, List.getElem?_map] at hz
          obtain ⟨zz, h5, h6⟩ := Option.map_eq_some_iff.mp hz
          subst h6
          show (zz == z2) = false
          exact beq_eq_false_iff_ne.mpr fun q => g2 k hk (by rw [h5, q])
        · exact p2.elim
      · exact p2.elim
    · exact p2.elim
  | _ => exact p1.elim
end
end Mir

set_option Elab.async false
set_option linter.all false
set_option maxRecDepth 100000
set_option maxHeartbeats 1000000
/-! Mir12: a `for` over a list that stands as an object (flat items), a list or a tuple -/
namespace Mir
open PySem PySem.Spec PyProof.Rows L2
def itemsAt (x : PV) (h : Hh) : Option (List PV) := match x with
  | .lst xs => some xs
  | .tup xs => some xs
  | .ref n => match h[n]? with
    | some (.lst xs) => if xs.all flatP = true then some xs else none
    | _ => none
  | _ => none
open Classical in
noncomputable def forR (x : PV) (xs : List PV) (g : MG) (b : MS) : List PV → MS
  | [] => fun env h => if itemsAt x h = some xs then .nx env h else .no
  | y :: r => fun env h => if itemsAt x h = some xs then (match g y env with
    | none => .no
    | some env => match b env h with
      | .nx env h => forR x xs g b r env h
      | .ct env h => forR x xs g b r env h
      | .bk env h => .nx env h
      | z => z) else .no
noncomputable def mForR (m : ME) (g : MG) (b : MS) : MS := fun env h => ofE (m env h) env fun x h => match itemsAt x h with
  | some xs => forR x xs g b xs env h
  | none => .no
theorem PR.det {K : PySem.W.Frag} {Φ Φ' : Hp} {ad ad' : List Addr} {x : PV} {v u : V} (p : PR K Φ ad x v) (q : PR K Φ' ad' x u) (h : flatP x = true) : v = u := by
  cases p <;> first | (cases q; rfl) | cases h
theorem PRs.det {K : PySem.W.Frag} {Φ Φ' : Hp} {ad ad' : List Addr} : ∀ {xs : List PV} {vs us : List V}, PRs K Φ ad xs vs → PRs K Φ' ad' xs us → xs.all flatP = true → vs = us
  | _, _, _, .nil, .nil, _ => rfl
  | _, _, _, .cons a b, .cons c d, h => by
    rw [List.all_cons, Bool.and_eq_true] at h
    rw [PR.det a c h.1, PRs.det b d h.2]
/-- the worlds of the turns: the items stay -/
def CR' (S : Sx) (x : PV) (xs : List PV) (a b : Wd) : Prop := Ext a b ∧ ∃ h, Hd S b h ∧ itemsAt x h = some xs
section
variable {F : Fam} {e tg iter : Expr} {body : List Stmt} {pos : Pos} {m : ME} {ms : MS}
theorem rd_forR {S : Sx} {W : WX} {w0 w : Wd} {J : It} {x : PV} {items : List PV} {g : TG} {mg : MG} {tb : TS} {mb : MS} {D : Ends} {env : En} {h : Hh} {σ : L2.St} (wk : WalkOk S (CR' S x items) w J items) {is : List Nat} (hg : RdT S g mg is) (hb : RdS S W tb mb)
    (rl : Rl S w0 w env h σ) (po : PostS S W w0 w (forR x items mg mb items env h) D) :
    ∃ Wv : Nat → Nat → L2.St → Hp → Prop, (∃ m, Wv 0 m σ w.H) ∧ ∀ i m σ H, Wv i m σ H →
      (J.stop i H ∧ D.nx σ H) ∨ (J.go i H ∧ ∃ N : L2.St → Hp → Prop, (∀ σ' H', N σ' H' → ∃ m', m' < m ∧ Wv (i + 1) m' σ' H') ∧ ∀ x H', J.yld i H x H' → g x σ H' fun σ2 H2 => tb { D with nx := N, ct := N, bk := D.nx } σ2 H2) := by
  obtain ⟨G, Y, hw, hG, hY⟩ := wk
  have key : ∀ (l : List PV) env' h' w', PostS S W w0 w' (forR x items mg mb l env' h') D → itemsAt x h' = some items := fun l env' h' w' p => by
    cases l with
    | nil =>
      unfold forR at p
      split at p
      · assumption
      · exact p.elim
    | cons y r =>
      unfold forR at p
      split at p
      · assumption
      · exact p.elim
  refine for_it hw (fun i σ H => ∃ w' env' h', w'.H = H ∧ Ext w w' ∧ Rl S w0 w' env' h' σ ∧ PostS S W w0 w' (forR x items mg mb (items.drop i) env' h') D) ⟨w, env, h, rfl, Ext.refl w, rl, by rw [List.drop_zero]; exact po⟩ (fun i σ H hi ⟨w', env', h', e, xx, r, p⟩ => by rw [← e]; exact hG w' ⟨xx, h', r.hd, key _ _ _ _ p⟩) (fun i v σ H H' hi ⟨w', env', h', e, xx, r, p⟩ y => ?_) (fun σ H ⟨w', env', h', e, xx, r, p⟩ => ?_)
  · subst e
    have ei : items[i]? = some items[i] := List.getElem?_eq_getElem hi
    obtain ⟨w3, e3, s3, d3, r3⟩ := hY i w' H' items[i] v ⟨xx, h', r.hd, key _ _ _ _ p⟩ ei y h' r.hd
    subst e3
    have r' : Rl S w0 w3 env' h' σ := r.step s3 d3
    have ki := key _ _ _ _ p
    rw [List.drop_eq_getElem_cons hi] at p
    unfold forR at p
    rw [if_pos ki] at p
    split at p
    · exact p.elim
    · rename_i env2 eg
      refine hg w0 w3 env' env2 h' σ items[i] v _ r' r3 eg fun σ2 r2 _ => hb w0 w3 env2 h' σ2 _ r2 ?_
      have x3 : Ext w w3 := xx.trans s3.ext
      have p' := PostS.mono s3.ext p
      cases em : mb env2 h' with
      | nx e4 h4 => rw [em] at p'; exact fun w4 σ4 x4 r4 => ⟨w4, e4, h4, rfl, x3.trans x4, r4, PostS.mono x4 p'⟩
      | ct e4 h4 => rw [em] at p'; exact fun w4 σ4 x4 r4 => ⟨w4, e4, h4, rfl, x3.trans x4, r4, PostS.mono x4 p'⟩
      | bk e4 h4 => rw [em] at p'; exact p'
      | rt v4 h4 => rw [em] at p'; exact p'
      | er x4 e4 h4 => rw [em] at p'; exact p'
      | no => rw [em] at p'; exact p'
  · subst e
    have ki := key _ _ _ _ p
    rw [List.drop_length] at p
    unfold forR at p
    rw [if_pos ki] at p
    exact p w' σ (Ext.refl w') r
theorem ss_forR {g : MG} {is : List Nat} (ok : F.Ok) (hc : F.calm = true) (a : SE F iter m) (hg : SG F tg g is) (hb : SSs F body ms) (hs : ∀ i x, foldedSetIterable iter (F.X i).env x = pure x := by intro _ _; rfl) : SS F (.For tg iter body [] pos) (mForR m g ms) := by
  obtain ⟨t, p, q⟩ := a
  obtain ⟨tg', pg, qg⟩ := hg
  obtain ⟨tb, pb, qb⟩ := hb
  refine ⟨fun W => tFor (iSeq F.K (t W)) tg' (tb W), fun i => ps_for (X := F.X i) (ok.po i) hc (pi_seq (p i)) (pg i) (pb i) (hs i), fun W w0 w env h σ D rl po => q W w0 w env h σ _ rl ?_⟩
  unfold mForR at po
  cases em : m env h with
  | no => rw [em] at po; exact po
  | er x h' => rw [em] at po; exact fun w' cls d s dd qq => po w' σ cls d s.ext (rl.step s dd) qq
  | ok x h' =>
    rw [em] at po
    have po1 : PostS F.S W w0 w (match itemsAt x h' with | some xs => forR x xs g ms xs env h' | none => .no) D := po
    intro w' v s d r
    cases ei : itemsAt x h' with
    | none => rw [ei] at po1; exact po1.elim
    | some ys =>
      rw [ei] at po1
      have fin : ∀ J, WalkOk F.S (CR' F.S x ys) w' J ys → _ := fun J wk => rd_forR wk qg (qb W) (rl.step s d) (PostS.mono s.ext po1)
      cases r with
      | @lst a xs vs sq rs =>
        cases ei
        refine ⟨a, rfl, .inl ⟨⟨vs, d.sqL sq⟩, fin _ ⟨_, _, by rw [rs.length]; exact walk_list, fun w'' c => ?_, fun i w'' H' y u c e1 e2 => yok_at rs c.1 e1 e2⟩⟩⟩
        obtain ⟨c1, hh, c2, _⟩ := c
        exact c2.sqL (sqL_mono c1.fz sq)
      | @tup a xs vs sq rs =>
        cases ei
        refine ⟨a, rfl, .inr ⟨⟨vs, d.sqT sq⟩, fin _ ⟨_, _, by rw [rs.length]; exact walk_tup, fun w'' c => ?_, fun i w'' H' y u c e1 e2 => yok_at rs c.1 e1 e2⟩⟩⟩
        obtain ⟨c1, hh, c2, _⟩ := c
        exact c2.sqT (sqT_mono c1.fz sq)
      | @ref n a e =>
        have ei0 := ei
        unfold itemsAt at ei
        simp only at ei
        split at ei
        · rename_i xs eh
          split at ei
          · rename_i hf
            cases ei
            obtain ⟨vs, ea, rs⟩ := d.obj n _ a eh e
            have live : ∀ w'', CR' F.S (.ref n) ys w' w'' → w''.H a = some (.lst vs) := fun w'' ⟨c1, hh, c2, c3⟩ => by
              unfold itemsAt at c3
              simp only at c3
              split at c3
              · rename_i zs eh2
                split at c3
                · cases c3
                  obtain ⟨us, eb, rs2⟩ := c2.obj n _ a eh2 (c1.ix n a e)
                  rw [eb, PRs.det rs2 rs hf]
                · cases c3
              · cases c3
            refine ⟨a, rfl, .inl ⟨⟨vs, SqL.of ea⟩, fin _ ⟨_, _, by rw [rs.length]; exact walk_list, fun w'' c => SqL.of (live w'' c), fun i w'' H' y u c e1 e2 => yok_at rs c.1 e1 e2⟩⟩⟩
          · cases ei
        · cases ei
      | _ => cases ei
end
/-! ### words -/
section
variable {m : ME} {g : MG} {b : MS} {env : En}
@[simp] theorem aForR (h : Hh) : mForR m g b env h = ofE (m env h) env fun x h => (match itemsAt x h with
  | some xs => forR x xs g b xs env h
  | none => .no) := id rfl
@[simp] theorem itemsAt_lst (xs : List PV) (h : Hh) : itemsAt (.lst xs) h = some xs := id rfl
@[simp] theorem itemsAt_tup (xs : List PV) (h : Hh) : itemsAt (.tup xs) h = some xs := id rfl
theorem forR_plain {x : PV} {xs : List PV} (hx : ∀ h, itemsAt x h = some xs) : ∀ (l : List PV) (env : En) (h : Hh), forR x xs g b l env h = forL g b l env h
  | [], env, h => by unfold forR forL; rw [if_pos (hx h)]
  | y :: r, env, h => by
    unfold forR forL
    rw [if_pos (hx h)]
    cases g y env with
    | none => rfl
    | some e2 =>
      simp only
      cases b e2 h with
      | nx e3 h3 => exact forR_plain hx r e3 h3
      | ct e3 h3 => exact forR_plain hx r e3 h3
      | _ => rfl
@[simp] theorem forR_tup (xs l : List PV) (h : Hh) : forR (.tup xs) xs g b l env h = forL g b l env h := forR_plain (fun _ => rfl) l env h
@[simp] theorem forR_lst (xs l : List PV) (h : Hh) : forR (.lst xs) xs g b l env h = forL g b l env h := forR_plain (fun _ => rfl) l env h
theorem itemsAt_ref {n : Nat} {xs : List PV} {h : Hh} (e : h[n]? = some (.lst xs)) (hf : xs.all flatP = true) : itemsAt (.ref n) h = some xs := by
  unfold itemsAt; simp only [e, hf, if_true]
/-- a walk whose turns leave the heap -/
theorem forR_inv {α : Type} {h : Hh} {x : PV} {xs : List PV} (hx : itemsAt x h = some xs) (F : α → PV) (I : List α → En → Prop) : ∀ (l pre : List α), (∀ pre' a post, pre ++ l = pre' ++ a :: post → ∀ env, I pre' env → ∃ env1 env2, g (F a) env = some env1 ∧ b env1 h = .nx env2 h ∧ I (pre' ++ [a]) env2) →
    ∀ env, I pre env → ∃ env', forR x xs g b (l.map F) env h = .nx env' h ∧ I (pre ++ l) env'
  | [], pre, _, env, i => ⟨env, by rw [List.map_nil]; unfold forR; rw [if_pos hx], by rw [List.append_nil]; exact i⟩
  | a :: r, pre, H, env, i => by
    obtain ⟨env1, env2, h1, h2, i2⟩ := H pre a r rfl env i
    obtain ⟨env', e1, i3⟩ := forR_inv hx F I r (pre ++ [a]) (fun pre' a' post e => H pre' a' post (by rw [← e]; simp)) env2 i2
    refine ⟨env', ?_, by simpa using i3⟩
    rw [List.map_cons]
    unfold forR
    rw [if_pos hx]
    simp only [h1, h2]
    exact e1
end
end Mir

set_option Elab.async false
set_option linter.all false
set_option maxRecDepth 100000
set_option maxHeartbeats 1000000
/-! Mir13: a new list out of two -/
namespace Mir
open PySem PySem.Spec PyProof.Rows L2
def mAddN (ma mb : ME) : MA := fun env h => (ma env h).bind fun x h => (mb env h).bind fun y h => match x, y with
  | .lst a, .lst b => if a.length + b.length ≤ 16777216 then .ok (a ++ b) h else .no
  | _, _ => .no
section
variable {F : Fam} {ea eb : Expr} {pos : Pos} {ma mb : ME} {env : En}
theorem sn_add (ha : SB F ea ma) (hb : SB F eb mb) : SN F (.BinOp ea .Add eb pos) (mAddN ma mb) := by
  obtain ⟨ta, pa, qa⟩ := ha
  obtain ⟨tb, pb, qb⟩ := hb
  refine ⟨fun W => tOp (rAddA F.K) (ta W) (tb W), fun i => pe_op (op_addA (X := F.X i)) (pa i) (pb i), fun W w0 w env h σ Q rl po => ?_⟩
  refine qa W w0 w env h σ _ rl (PostE.bind po fun x h1 w1 v s1 d1 p1 po1 => qb W w0 w1 env h1 σ _ (rl.step s1 d1) (PostE.bind po1 fun y h2 w2 u s2 d2 p2 po2 => ?_))
  have px := p1.step s2
  split at po2
  · split at po2
    · rename_i xs ys hz
      obtain ⟨a, vs, rfl, ha, ra⟩ := px.ofLst d2
      obtain ⟨b, us, rfl, hb, rb⟩ := p2.ofLst d2
      have hl1 := ra.length
      have hl2 := rb.length
      exact .inr (.inr (.inr ⟨a, b, vs, us, rfl, rfl, ha, hb, lim_line (by omega), fun p np => po2 (w2.put p (.lst (vs ++ us))) (.ref p) (Step.put d2 np) (d2.put np) ⟨p, _, rfl, upd_same, ((Step.put d2 np).prs ra).append ((Step.put d2 np).prs rb), d2.notAd np, d2.fresh np, np⟩⟩))
    · exact po2.elim
  · exact po2.elim
@[simp] theorem aAddN (h : Hh) : mAddN ma mb env h = (ma env h).bind fun x h => (mb env h).bind fun y h => (match x, y with
  | .lst a, .lst b => if a.length + b.length ≤ 16777216 then .ok (a ++ b) h else .no
  | _, _ => .no) := id rfl
end
end Mir

set_option Elab.async false
set_option linter.all false
set_option maxRecDepth 100000
set_option maxHeartbeats 1000000
/-! Mir14: a new list many times -/
namespace Mir
open PySem PySem.Spec PyProof.Rows L2
def mRepN (ma : MA) (mb : ME) : MA := fun env h => (ma env h).bind fun a h => (mb env h).bind fun y h => match y with
  | .int k => if k.natAbs ≤ 1000000 ∧ a.length * k.toNat ≤ 16777216 then .ok (List.replicate k.toNat a).flatten h else .no
  | _ => .no
section
variable {F : Fam} {ea eb : Expr} {pos : Pos} {ma : MA} {mb : ME} {env : En}
theorem sn_rep (ha : SN F ea ma) (hb : SB F eb mb) : SN F (.BinOp ea .Mult eb pos) (mRepN ma mb) := by
  obtain ⟨ta, pa, qa⟩ := ha
  obtain ⟨tb, pb, qb⟩ := hb
  refine ⟨fun W => tOp rRep (ta W) (tb W), fun i => pe_op (op_rep (X := F.X i)) (pa i) (pb i), fun W w0 w env h σ Q rl po => ?_⟩
  refine qa W w0 w env h σ _ rl (PostE.bind po fun xs h1 w1 v s1 d1 ⟨a, vs, ev, ea, rs, na, fa, za⟩ po1 => ?_)
  subst ev
  refine qb W w0 w1 env h1 σ _ (rl.step s1 d1) (PostE.bind po1 fun y h2 w2 u s2 d2 p2 po2 => ?_)
  split at po2
  · rename_i k
    split at po2
    · rename_i hz
      have ea2 := s2.kp _ _ ea na
      have rs2 := s2.prs rs
      have hl := rs2.length
      exact ⟨a, k, vs, rfl, p2.ofInt, ea2, by omega, by omega, lim_line (by rw [← hl]; exact hz.2), fun p np => po2 (w2.put p (.lst (List.replicate k.toNat vs).flatten)) (.ref p) (Step.put d2 np) (d2.put np) ⟨p, _, rfl, upd_same, ((Step.put d2 np).prs rs2).flat _, d2.notAd np, d2.fresh np, np⟩⟩
    · exact po2.elim
  · exact po2.elim
@[simp] theorem aRepN (h : Hh) : mRepN ma mb env h = (ma env h).bind fun a h => (mb env h).bind fun y h => (match y with
  | .int k => if k.natAbs ≤ 1000000 ∧ a.length * k.toNat ≤ 16777216 then .ok (List.replicate k.toNat a).flatten h else .no
  | _ => .no) := id rfl
end
end Mir

set_option Elab.async false
set_option linter.all false
set_option maxRecDepth 100000
set_option maxHeartbeats 1000000
/-! Mir15: in, not in: a list of plain data -/
namespace Mir
open PySem PySem.Spec PyProof.Rows L2
/-- d is (or is not) among the items ds -/
def memB (neg : Bool) (d : PyData) (ds : List PyData) : Bool := if neg then !ds.any fun z => PyData.eqv z d else ds.any fun z => PyData.eqv z d
def cmpIn : Bool → CmpOp
  | false => .In
  | true => .NotIn
/-- both sides are plain data, the item not deep: what the answer is -/
def rInX (K : PySem.W.Frag) (neg : Bool) : R2 := fun x y H Q => ∃ (d : PyData) (ds : List PyData), (d.depth ≤ 32 ∧ SeqAt.shaped d = true ∧ SeqAt.shaped (.list ds) = true) ∧ (Dp K H x d ∧ Dp K H y (.list ds)) ∧ Q (.bl (memB neg d ds)) H
theorem op_memX {X : Cx} (neg : Bool) (room : X.A.units + 64 < cLine) : OpR X (compareOp (cmpIn neg)) (rInX X.K neg) := by
  rintro pins st σ H x y vx vy Q inv hvx hvy ⟨d, ds, ⟨deep, shd, shl⟩, ⟨dx, dy⟩, fin⟩
  have hroom : X.A.units + 1 + min (PyData.depthAll ds) d.depth < cLine := by
    have := Nat.min_le_right (PyData.depthAll ds) d.depth
    omega
  have layd := SeqAt.canLay_of_shaped shd
  have layl := SeqAt.canLay_of_shaped shl
  rcases Dp.reads inv d x vx dx hvx with ⟨_, readx⟩
  rcases Dp.reads inv (.list ds) y vy dy hvy with ⟨_, ready⟩
  cases neg
  · exact SeqAt.in_list_reads ready readx layl layd hroom ⟨.bl _, H, inv, rfl, fin⟩
  · exact SeqAt.notIn_list_reads ready readx layl layd hroom ⟨.bl _, H, inv, rfl, fin⟩
def oInX (neg : Bool) : PV → PV → Hh → Res PV := fun x y h => match toD x, toD y with
  | some d, some (.list ds) => if (SeqAt.shaped d && SeqAt.shaped (.list ds) && decide (d.depth ≤ 32)) = true then .ok (.bl (memB neg d ds)) h else .no
  | _, _ => .no
abbrev oInD := oInX false
abbrev oNotInD := oInX true
theorem sim_inX {S : Sx} {neg : Bool} : Sim2 S (rInX S.K neg) (oInX neg) := by
  intro W σ w h x y v u Q d px py po
  unfold oInX at po
  split at po
  · rename_i a ds ea eb
    split at po
    · rename_i hc
      simp only [Bool.and_eq_true, decide_eq_true_eq] at hc
      exact ⟨a, ds, ⟨hc.2, hc.1.1, hc.1.2⟩, ⟨px.dp d ea, py.dp d eb⟩, po.fin d (.bl _)⟩
    · exact po.elim
  · exact po.elim
section
variable {F : Fam}
theorem c_inD (ok : F.Ok) : CmpOk F .In oInD := ⟨_, sim_inX, fun i => op_memX (X := F.X i) false (ok.u64 i)⟩
theorem c_notInD (ok : F.Ok) : CmpOk F .NotIn oNotInD := ⟨_, sim_inX, fun i => op_memX (X := F.X i) true (ok.u64 i)⟩
end
end Mir

set_option Elab.async false
set_option linter.all false
set_option maxRecDepth 100000
set_option maxHeartbeats 1000000
/-! Mir16: a[i:j] = t, a list's slice out of a tuple -/
namespace Mir16
open PySem PySem.Spec PyProof.Rows HT L2
section
variable {w : World} {prog : Program} {A : Around} {s : Shared} {E : Value → Shared → Prop}
/-- what stands behind a[i:j] = t -/
abbrev spliced (l : Addr) (new : Array Value) (i j : Nat) (s : Shared) : Shared :=
  { s with heap := s.heap.update l (Obj.mapSeq fun xs => xs.extract 0 i ++ new ++ xs.extract j xs.size) }
theorem store {l t sl : Addr} {old new : Array Value} {n : Nat} {lo hi : Value} {i j : Nat} {Q : Unit → Shared → Prop}
    (at_l : s.heap.get? l = some ⟨.type "list", none, .seq old n, #[]⟩) (isT : s.heap.IsTuple t new) (isS : s.heap.IsSliceOf sl lo hi .none)
    (from_ : IsPart lo (some (i : Int))) (upto : IsPart hi (some (j : Int))) (le : i ≤ j) (inside : j ≤ old.size) (fit : old.size + new.size ≤ sizeLine)
    (fin : Q () (spliced l new i j s)) : wpAny (model prog w) A (setItem (.ref l) (.ref sl) (.ref t)) Q E s := by
  have tL : s.TypeIs (.ref l) "list" := ⟨_, at_l, rfl⟩
  rcases isT with ⟨ot, at_t, ct, nt, dt⟩
  have tT : s.TypeIs (.ref t) "tuple" := ⟨ot, at_t, ct⟩
  rcases isS with ⟨os, at_s, cs, flds⟩
  have tS : s.TypeIs (.ref sl) "slice" := ⟨os, at_s, cs⟩
  have apart : l ≠ t := by
    rintro rfl
    obtain rfl := Option.some.inj (at_l.symm.trans at_t)
    have other : ("list" : String) = "tuple" := Value.type.inj ct
    exact absurd other (by decide)
  delta setItem
  apply wpAny_holding
  apply wpAny_bind
  apply wpAny_sequenceKey tL (by decide)
  apply wpAny_bind
  apply wpAny_callSpecial?_slot (name := Str.ofString "__setitem__") tL slot_list_setitem
  apply wpAny_call_entry slot_list_setitem tL entry_list_setitem _ (args_list_setitem _ _ _)
  apply wpAny_bind (m := Builtin.List.listSubscript? (.ref sl))
  delta Builtin.List.listSubscript?
  apply wpAny_bind
  apply wpAny_specialOf tS slice_no_index
  apply wpAny_pure
  apply wpAny_bind (m := typeOf (.ref sl))
  apply wpAny_typeOf tS
  rw [if_neg (by decide), listSliceParts_eq]
  have fld : ∀ (k : Nat) (x : Value) {E1 Q1 : Value → Shared → Prop}, (#[lo, hi, .none] : Array Value)[k]? = some x → Q1 x s → wpAny (model prog w) A.in1 (field (.ref sl) k) Q1 E1 s :=
    fun k x _ _ hx q => wpAny_field at_s flds hx q
  have step1 : ¬ (rawPart none == rawInt 0) = true := by decide
  have different : Builtin.List.listSameRef (.ref l) (.ref t) = false := by
    simpa [Builtin.List.listSameRef] using apart
  apply wpAny_bind
  apply wpAny_bind
  apply fld 2 .none rfl
  apply wpAny_bind
  apply wpAny_listPart .none
  rw [if_neg step1]
  apply wpAny_bind
  apply fld 0 lo rfl
  apply wpAny_bind
  apply wpAny_listPart from_
  apply wpAny_bind
  apply fld 1 hi rfl
  apply wpAny_bind
  apply wpAny_listPart upto
  apply wpAny_pure
  dsimp only
  rw [if_neg (by rw [different]; nofun)]
  apply wpAny_bind (m := Builtin.List.listAllItems (.ref t) "must assign iterable to extended slice")
  delta Builtin.List.listAllItems
  apply wpAny_bind
  apply wpAny_typeOf tT
  rw [if_pos (by decide)]
  apply wpAny_listItems at_t dt
  apply wpAny_bind (m := Builtin.List.listItems (.ref l))
  apply wpAny_listItems at_l rfl
  rw [sliceIndices_raw (some (i : Int)) (some (j : Int)) none old.size nofun, bounds_run le inside]
  apply wpAny_bind
  apply wpAny_pure
  have upper : (max (i : Int) (j : Int)).toNat = j := by omega
  have short : ¬ Builtin.List.listTooLong (old.size + new.size) = true := by
    rw [notLongL fit]
    nofun
  have grown : ((fun xs : Array Value => xs.extract 0 i ++ new ++ xs.extract j xs.size) old).size ≤ sizeLine + 1 := by
    simp only [Array.size_extract, Array.size_append]
    omega
  dsimp only
  rw [if_pos (by decide)]
  apply wpAny_bind
  apply wpAny_rule
  rw [if_neg short, upper, Int.toNat_natCast]
  apply wpAny_bind (m := Builtin.List.listUpdate (.ref l) _)
  refine wpAny_updateSeq at_l rfl ?_ (Nat.le_trans (Nat.le_add_right _ _) fit) grown
  apply wpAny_bind
  apply wpAny_letGo
  exact wpAny_pure ⟨_, rfl, wpAny_pure fin⟩
end
end Mir16
namespace L2
open PySem PySem.Spec PyProof.Rows
/-- a[lo:hi] = t -/
def gSplice (K : PySem.W.Frag) (to : TE) (tl th : TO) : TG := fun v σ H Q => to σ H fun o H1 => tl σ H1 fun lo H2 => th σ H2 fun hi H3 =>
  ∃ l t xs ys, ∃ i j : Nat, o = .ref l ∧ v = .ref t ∧ lo = some (i : Int) ∧ hi = some (j : Int) ∧ H3 l = some (.lst xs) ∧ SqT K H3 t ys ∧ i ≤ j ∧ j ≤ xs.length ∧
    xs.length + ys.length ≤ sizeLine ∧ Q σ (upd H3 l (.lst (xs.take i ++ ys ++ xs.drop j)))
theorem pg_splice {X : Cx} {o elo ehi : Expr} {to : TE} {tl th : TO} {p2 pos : Pos} (ho : PE X o to) (hl : PO X (some elo) tl) (hu : PO X (some ehi) th)
    (ha : ∀ v, assign (.Subscript o (.Slice (some elo) (some ehi) none p2) pos) X.env v = (do
      let ov ← holding [v] (eval o X.env)
      let iv ← holding [v, ov] (eval (.Slice (some elo) (some ehi) none p2) X.env)
      standAt pos
      holding [v, ov, iv] (setItem ov iv v)
      release [iv, v, ov] []) := by intro _; rfl) : PG X (.Subscript o (.Slice (some elo) (some ehi) none p2) pos) (gSplice X.K to tl th) := by
  constructor
  intro pins s σ H v u Q I rel h
  rw [ha]
  apply wpAny_bind
  apply wpAny_holding
  refine thn (ho.run pins s σ H _ I h) ?_
  rintro ov s1 ⟨x, H1, I1, relx, q1⟩
  apply wpAny_bind
  apply wpAny_holding
  apply wpAny_Slice
  refine thn (hl.run pins s1 σ H1 _ I1 q1) ?_
  rintro lo s2 ⟨_, H2, I2, part1, q2⟩
  refine thn (hu.run pins s2 σ H2 _ I2 q2) ?_
  rintro hi s3 ⟨_, H3, I3, part2, l, t, xs, ys, i, j, rfl, rfl, rfl, rfl, at_l, sq, le, inside, fit, fin⟩
  cases relx
  cases rel
  rw [evalPart_none]
  apply wpAny_pure
  let s4 : Shared := { s3 with heap := s3.heap.push ⟨.type "slice", none, .fields #[lo, hi, .none], #[]⟩ }
  have I4 : Inv X pins σ H3 s4 := I3.kept (t' := s3.toks) fun _ _ z => Heap.get?_push_of_some _ z
  have isS : s4.heap.IsSliceOf s3.heap.objs.size lo hi .none := Heap.IsSliceOf.new s3.heap lo hi .none
  obtain ⟨_, old, n, rv, _, old_at⟩ := I4.lstM at_l
  obtain ⟨new, rw_, isT, _⟩ := I4.tuple sq
  have len1 := rv.length
  have len2 := rw_.length
  apply wpAny_bind
  apply wpAny_standAt
  apply wpAny_bind
  apply wpAny_holding
  refine Mir16.store (s := s4) old_at isT isS part1 part2 le ?_ ?_ ?_
  · rw [List.size_toArray, ← len1]
    exact inside
  · rw [List.size_toArray, List.size_toArray, ← len1, ← len2]
    exact fit
  · apply wpAny_release
    refine ⟨σ, _, I4.lset (its' := old.take i ++ new ++ old.drop j) (t' := s4.toks) at_l old_at (splice_eq old new i j) ?_ ?_, fin⟩
    · exact ((rv.take i).append rw_).append (rv.drop j)
    · simp only [List.length_append, List.length_take, List.length_drop]
      omega
end L2
namespace Mir
open PySem PySem.Spec PyProof.Rows L2
/-- xs with ys in the place of its a-th to b-th -/
def spliceP {α : Type} (xs ys : List α) (a b : Int) : List α := xs.take a.toNat ++ ys ++ xs.drop b.toNat
def spliceOk (n m : Nat) (a b : Int) : Bool := decide (0 ≤ a) && decide (a ≤ b) && decide (b ≤ n) && decide (n + m ≤ 16777216)
def mSplice (i : Nat) (ml mh : MO) (mv : ME) : MS := fun env h => ofE (mv env h) env fun y h => match env[i]? with
  | some (.own (.lst xs)) => ofE (ml env h) env fun lo h => ofE (mh env h) env fun hi h => match y, lo, hi with
    | .tup ys, some a, some b => if spliceOk xs.length ys.length a b = true then .nx (env.set i (.own (.lst (spliceP xs ys a b)))) h else .no
    | _, _, _ => .no
  | _ => .no
def mSpliceR (mo : ME) (ml mh : MO) (mv : ME) : MS := fun env h => ofE (mv env h) env fun y h => ofE (mo env h) env fun x h => ofE (ml env h) env fun lo h => ofE (mh env h) env fun hi h => match x, y, lo, hi with
  | .ref n, .tup ys, some a, some b => match h[n]? with
    | some (.lst xs) => if spliceOk xs.length ys.length a b = true then .nx env (h.set n (.lst (spliceP xs ys a b))) else .no
    | _ => .no
  | _, _, _, _ => .no
@[simp] theorem aSplice (i : Nat) (ml mh : MO) (mv : ME) (env : En) (h : Hh) : mSplice i ml mh mv env h = ofE (mv env h) env fun y h => (match env[i]? with
  | some (.own (.lst xs)) => ofE (ml env h) env fun lo h => ofE (mh env h) env fun hi h => (match y, lo, hi with
    | .tup ys, some a, some b => if spliceOk xs.length ys.length a b = true then .nx (env.set i (.own (.lst (spliceP xs ys a b)))) h else .no
    | _, _, _ => .no)
  | _ => .no) := id rfl
@[simp] theorem aSpliceR (mo : ME) (ml mh : MO) (mv : ME) (env : En) (h : Hh) : mSpliceR mo ml mh mv env h = ofE (mv env h) env fun y h => ofE (mo env h) env fun x h => ofE (ml env h) env fun lo h => ofE (mh env h) env fun hi h => (match x, y, lo, hi with
  | .ref n, .tup ys, some a, some b => (match h[n]? with
    | some (.lst xs) => if spliceOk xs.length ys.length a b = true then .nx env (h.set n (.lst (spliceP xs ys a b))) else .no
    | _ => .no)
  | _, _, _, _ => .no) := id rfl
theorem spliceOk_iff {n m : Nat} {a b : Int} (h : spliceOk n m a b = true) : ∃ i j : Nat, a = i ∧ b = j ∧ i ≤ j ∧ j ≤ n ∧ n + m ≤ sizeLine := by
  simp only [spliceOk, Bool.and_eq_true, decide_eq_true_eq] at h
  obtain ⟨⟨⟨h0, h1⟩, h2⟩, h3⟩ := h
  exact ⟨a.toNat, b.toNat, by omega, by omega, by omega, by omega, lim_line h3⟩
section
variable {F : Fam} {e o lo hi : Expr} {mo mv : ME} {ml mh : MO} {p p2 p3 pos : Pos}
theorem ss_splice (i : Nat) {x : Str} (a : SE F e mv) (l : SO F (some lo) ml) (u : SO F (some hi) mh) (hN : F.N[i]? = some x := by rfl)
    (hv : ∀ j, Vis (F.env j).scope x := by first | exact fun _ => Or.inl rfl | exact fun _ => Or.inr (Or.inl rfl) | exact fun _ => Or.inr (Or.inr rfl))
    (n1 : (x == ("__debug__" : Str)) = false := by decide) (n2 : (x == ("__classdict__" : Str)) = false := by decide)
    (w1 : ∀ j, swapsWithSole [.Subscript (.Name x p) (.Slice (some lo) (some hi) none p3) p2] e pos.line (F.X j).env = pure false := by intro _; rfl)
    (w2 : ∀ j, swappedStores [.Subscript (.Name x p) (.Slice (some lo) (some hi) none p3) p2] e (F.X j).env = pure none := by intro _; rfl)
    (w3 : ∀ j, (assignEach [.Subscript (.Name x p) (.Slice (some lo) (some hi) none p3) p2] (F.X j).env).map (·.2) = [assign (.Subscript (.Name x p) (.Slice (some lo) (some hi) none p3) p2) (F.X j).env] := by intro _; rfl)
    (w4 : ∀ j v, assign (.Subscript (.Name x p) (.Slice (some lo) (some hi) none p3) p2) (F.X j).env v = (do
      let ov ← holding [v] (eval (.Name x p) (F.X j).env)
      let iv ← holding [v, ov] (eval (.Slice (some lo) (some hi) none p3) (F.X j).env)
      standAt p2
      holding [v, ov, iv] (setItem ov iv v)
      release [iv, v, ov] []) := by intro _ _; rfl) :
    SS F (.Assign [.Subscript (.Name x p) (.Slice (some lo) (some hi) none p3) p2] e pos) (mSplice i ml mh mv) := by
  obtain ⟨t, pe, q⟩ := a
  obtain ⟨tl, pl, ql⟩ := l
  obtain ⟨tu, pu, qu⟩ := u
  refine ⟨fun W => tAsg (t W) (gSplice F.K (tVar i) (tl W) (tu W)), fun j => ps_asg (X := F.X j) (pe j) (pg_splice (X := F.X j) (pe_var (X := F.X j) hN (hv j) n1 n2) (pl j) (pu j) (w4 j)) (w1 j) (w2 j) (w3 j), ?_⟩
  intro W w0 w env h σ D rl po
  refine q W w0 w env h σ _ rl (PostS.ofE (R := RV F.S) rl po fun y h1 wa v sa da ra po1 => ?_)
  have rla := rl.step sa da
  split at po1
  · rename_i xs ee
    obtain ⟨b1, e1, _⟩ := rla.sl.own i _ ee
    refine ⟨_, e1, ?_⟩
    refine ql W w0 wa env h1 σ _ rla (PostS.ofE (R := fun _ _ (a b : Option Int) => a = b) rla po1 fun l' h2 wb l2 sb db el po2 => ?_)
    have rlb := rla.step sb db
    refine qu W w0 wb env h2 σ _ rlb (PostS.ofE (R := fun _ _ (a b : Option Int) => a = b) rlb po2 fun u' h3 wc u2 sc dc eu po3 => ?_)
    have rlc := rlb.step sc dc
    subst el eu
    split at po3
    · rename_i ys a b
      split at po3
      · rename_i ok
        obtain ⟨i', j', rfl, rfl, le, inside, fit⟩ := spliceOk_iff ok
        obtain ⟨b2, e2, ⟨vs, at_b, rs⟩, _⟩ := rlc.sl.own i _ ee
        obtain rfl : b1 = b2 := by
          rw [e1] at e2
          exact V.ref.inj (Option.some.inj (Option.some.inj e2))
        obtain ⟨c, us, rfl, sq, rt⟩ := PB.ofTup dc (.val (sc.pr (sb.pr ra)))
        rw [rs.length] at inside fit
        rw [rt.length] at fit
        refine ⟨b1, c, vs, us, i', j', rfl, rfl, rfl, rfl, at_b, sq, le, inside, fit, ?_⟩
        exact po3 ⟨wc.Φ, upd wc.H b1 _, wc.ad⟩ σ ⟨fun _ _ z => z, fun _ _ z => z⟩ (rlc.chg ee e1 (((rs.take i').append rt).append (rs.drop j')))
      · exact po3.elim
    · exact po3.elim
  · exact po1.elim
theorem ss_spliceR (a : SE F e mv) (c : SE F o mo) (l : SO F (some lo) ml) (u : SO F (some hi) mh)
    (w1 : ∀ j, swapsWithSole [.Subscript o (.Slice (some lo) (some hi) none p3) p2] e pos.line (F.X j).env = pure false := by intro _; rfl)
    (w2 : ∀ j, swappedStores [.Subscript o (.Slice (some lo) (some hi) none p3) p2] e (F.X j).env = pure none := by intro _; rfl)
    (w3 : ∀ j, (assignEach [.Subscript o (.Slice (some lo) (some hi) none p3) p2] (F.X j).env).map (·.2) = [assign (.Subscript o (.Slice (some lo) (some hi) none p3) p2) (F.X j).env] := by intro _; rfl)
    (w4 : ∀ j v, assign (.Subscript o (.Slice (some lo) (some hi) none p3) p2) (F.X j).env v = (do
      let ov ← holding [v] (eval o (F.X j).env)
      let iv ← holding [v, ov] (eval (.Slice (some lo) (some hi) none p3) (F.X j).env)
      standAt p2
      holding [v, ov, iv] (setItem ov iv v)
      release [iv, v, ov] []) := by intro _ _; rfl) :
    SS F (.Assign [.Subscript o (.Slice (some lo) (some hi) none p3) p2] e pos) (mSpliceR mo ml mh mv) := by
  obtain ⟨t, pe, q⟩ := a
  obtain ⟨tl, pl, ql⟩ := l
  obtain ⟨tu, pu, qu⟩ := u
  obtain ⟨to, po', qo⟩ := c
  refine ⟨fun W => tAsg (t W) (gSplice F.K (to W) (tl W) (tu W)), fun j => ps_asg (X := F.X j) (pe j) (pg_splice (X := F.X j) (po' j) (pl j) (pu j) (w4 j)) (w1 j) (w2 j) (w3 j), ?_⟩
  intro W w0 w env h σ D rl po
  refine q W w0 w env h σ _ rl (PostS.ofE (R := RV F.S) rl po fun y h1 wa v sa da ra po1 => ?_)
  have rla := rl.step sa da
  refine qo W w0 wa env h1 σ _ rla (PostS.ofE (R := RV F.S) rla po1 fun x h1 wo v2 so do_ ro po1 => ?_)
  have rlo := rla.step so do_
  refine ql W w0 wo env h1 σ _ rlo (PostS.ofE (R := fun _ _ (a b : Option Int) => a = b) rlo po1 fun l' h2 wb l2 sb db el po2 => ?_)
  have rlb := rlo.step sb db
  refine qu W w0 wb env h2 σ _ rlb (PostS.ofE (R := fun _ _ (a b : Option Int) => a = b) rlb po2 fun u' h3 wc u2 sc dc eu po3 => ?_)
  have rlc := rlb.step sc dc
  subst el eu
  split at po3
  · rename_i n ys a b
    split at po3
    · rename_i xs eh
      split at po3
      · rename_i ok
        obtain ⟨i', j', rfl, rfl, le, inside, fit⟩ := spliceOk_iff ok
        obtain ⟨b1, rfl, eb⟩ := PW'.ofRef (sc.pr (sb.pr ro))
        obtain ⟨vs, at_b, rs⟩ := dc.at eh eb
        obtain ⟨c, us, rfl, sq, rt⟩ := PB.ofTup dc (.val (sc.pr (sb.pr (so.pr ra))))
        rw [rs.length] at inside fit
        rw [rt.length] at fit
        have st := Step.wr (w := wc) (a := b1) (o := .lst (vs.take i' ++ us ++ vs.drop j')) (List.mem_of_getElem? eb)
        refine ⟨b1, c, vs, us, i', j', rfl, rfl, rfl, rfl, at_b, sq, le, inside, fit, ?_⟩
        refine po3 (wc.wr b1 _) σ st.ext (rlc.step st (dc.wr eb ⟨_, ?_, st.prs (((rs.take i').append rt).append (rs.drop j'))⟩))
        show upd wc.H b1 _ b1 = _
        rw [upd_same]
      · exact po3.elim
    · exact po3.elim
  · exact po3.elim
end
end Mir

set_option Elab.async false
set_option linter.all false
set_option maxRecDepth 100000
set_option maxHeartbeats 1000000
/-! Mir17: walks over lists that stand as objects, of any items: for, comprehensions, zip of a list with a tuple -/
namespace Mir17
open PySem PySem.Spec PyProof.Rows L2
def SqK (K : PySem.W.Frag) (H : Hp) : Bool → Addr → List V → Prop
  | false => SqL K H
  | true => SqT K H
def IsK (m : Heap) : Bool → Addr → Array Value → Prop
  | false => m.IsList
  | true => m.IsTuple
def IterK (m : Heap) : Bool → Addr → Addr → Nat → Prop
  | false => m.IsListIter
  | true => m.IsTupleIter
theorem IterK.moved {b : Bool} {m m' : Heap} {it a : Addr} {i : Nat} (st : IterK m b it a i) (k : ∀ o, m.get? it = some o → m'.get? it = some o) : IterK m' b it a i := by
  cases b
  · exact Heap.IsListIter.at st k
  · exact Heap.IsTupleIter.at st k
theorem IterK.cell {b : Bool} {m : Heap} {it a : Addr} {i : Nat} (st : IterK m b it a i) : ∃ o, m.get? it = some o ∧ ∃ vs, o.data = .fields vs := by
  cases b
  · exact st.elim fun o z => ⟨o, z.1, _, z.2.2⟩
  · exact st.elim fun o z => ⟨o, z.1, _, z.2.2⟩
theorem IsK.cell {b : Bool} {m : Heap} {a : Addr} {its : Array Value} (st : IsK m b a its) : ∃ o, m.get? a = some o ∧ ∃ n, o.data = .seq its n := by
  cases b
  · exact st.elim fun o z => ⟨o, z.1, z.2.2⟩
  · exact st.elim fun o z => ⟨o, z.1, z.2.2⟩
theorem apart_k {b : Bool} {m : Heap} {it a : Addr} {i : Nat} {its : Array Value} (st : IterK m b it a i) (p : IsK m b a its) : a ≠ it := by
  rintro rfl
  obtain ⟨o, g, vs, d⟩ := st.cell
  obtain ⟨o2, g2, n, d2⟩ := p.cell
  obtain rfl := Option.some.inj (g.symm.trans g2)
  rw [d] at d2
  exact nomatch d2
theorem draws_k {prog : Program} {w : World} {A : Around} (calm : A.handled = none) (b : Bool) {it a : Addr} (ne : a ≠ it) (its : Array Value) :
    Draws prog w A it [it, a] its.size (fun i v => its[i]? = some v) (fun i m => IterK m b it a i ∧ IsK m b a its) := by
  cases b
  · exact Draws.list calm it a ne its
  · exact Draws.tuple calm it a ne its
theorem seq_k {X : Cx} {pins : List (Addr × Obj)} {σ : L2.St} {H : Hp} {s : Shared} {b : Bool} {a : Addr} {xs : List V} (I : Inv X pins σ H s) (q : SqK X.K H b a xs) : ∃ its, Vals xs its ∧ IsK s.heap b a its.toArray := by
  cases b
  · obtain ⟨its, r, p, _⟩ := I.list q
    exact ⟨its, r, p.isList⟩
  · obtain ⟨its, r, p, _⟩ := I.tuple q
    exact ⟨its, r, p⟩
theorem seq_one {X : Cx} {pins : List (Addr × Obj)} {σ : L2.St} {H : Hp} {s : Shared} {b : Bool} {a : Addr} {xs ys : List V} (I : Inv X pins σ H s) (p : SqK X.K H b a xs) (q : SqK X.K H b a ys) : xs = ys := by
  cases b
  · exact I.list_inj p q
  · exact I.tuple_inj p q
/-- zip of what stands at a and c -/
def ItP (K : PySem.W.Frag) (b1 b2 : Bool) (a c : Addr) : It :=
  ⟨fun i H => ∃ xs ys x y, SqK K H b1 a xs ∧ SqK K H b2 c ys ∧ xs[i]? = some x ∧ ys[i]? = some y,
    fun i H v H' => ∃ T x y, v = .ref T ∧ H T = none ∧ H' = upd H T (.tup [x, y]) ∧ (∀ xs, SqK K H b1 a xs → xs[i]? = some x) ∧ ∀ ys, SqK K H b2 c ys → ys[i]? = some y,
    fun i H => ∃ xs ys, SqK K H b1 a xs ∧ SqK K H b2 c ys ∧ i = min xs.length ys.length⟩
structure ZipAt (b1 b2 : Bool) (z TI TO i1 i2 a c : Addr) (i : Nat) (m : Heap) : Prop where
  zip : IsZip m z TI TO .none
  ins : IsTupOf2 m TI (.ref i1) (.ref i2)
  outs : ∃ x y, IsTupOf2 m TO x y
  one : IterK m b1 i1 a i
  two : IterK m b2 i2 c i
theorem turn_pair {P : Program} {w : World} {K : PySem.W.Frag} {elts : List Expr} {kk : Nat} {tpos : Pos} {b1 b2 : Bool} {z TI TO i1 i2 a c : Addr} (S : ZipSep2 z TI TO i1 i2 [i1, a] [i2, c]) :
    Turn P w K (.Tuple elts kk tpos) (ItP K b1 b2 a c) [z, TI, TO, i1, i2] z (ZipAt b1 b2 z TI TO i1 i2 a c) where
  mem := List.mem_cons_self
  self := fun A n s Q E st => wpAny_pyIter_zip st.zip
  keep := fun n m m' st k => ⟨k z (by simp) _ st.zip, k TI (by simp) _ st.ins, st.outs.imp fun x => Exists.imp fun y h => k TO (by simp) _ h, st.one.moved (k i1 (by simp)), st.two.moved (k i2 (by simp))⟩
  obj := fun n m st b hb => by
    have kinds : b = z ∨ b = TI ∨ b = TO ∨ b = i1 ∨ b = i2 := by simpa using hb
    rcases kinds with rfl | rfl | rfl | rfl | rfl
    · exact ⟨_, st.zip, fun v q => nomatch q⟩
    · exact ⟨_, st.ins, fun v q => nomatch q⟩
    · obtain ⟨x, y, g⟩ := st.outs
      exact ⟨_, g, fun v q => nomatch q⟩
    · obtain ⟨o, g, vs, d⟩ := st.one.cell
      exact ⟨o, g, fun v q => nomatch (d.symm.trans q)⟩
    · obtain ⟨o, g, vs, d⟩ := st.two.cell
      exact ⟨o, g, fun v q => nomatch (d.symm.trans q)⟩
  item := by
    rintro X rfl rfl rfl calm n pins s σ H E I fresh st ⟨xs, ys, x, y, sq1, sq2, at1, at2⟩
    obtain ⟨us, r1, p1⟩ := seq_k I sq1
    obtain ⟨vs, r2, p2⟩ := seq_k I sq2
    obtain ⟨u, at_u, ru⟩ := r1.get at1
    obtain ⟨v, at_v, rv⟩ := r2.get at2
    have D1 := draws_k (prog := X.prog) (w := X.w) (A := X.A.in1) (I.ok.hd calm) b1 (apart_k st.one p1) us.toArray
    have D2 := draws_k (prog := X.prog) (w := X.w) (A := X.A.in1) (I.ok.hd calm) b2 (apart_k st.two p2) vs.toArray
    obtain ⟨x0, y0, outs⟩ := st.outs
    have z_in : z < s.heap.objs.size := Heap.lt_size st.zip
    have lt1 : n < us.toArray.size := by
      rw [List.size_toArray]
      exact (List.getElem?_eq_some_iff.mp at_u).1
    have lt2 : n < vs.toArray.size := by
      rw [List.size_toArray]
      exact (List.getElem?_eq_some_iff.mp at_v).1
    refine wpAny_pyNext_zipD2_item S D1 D2 st.zip st.ins outs ⟨st.one, p1⟩ ⟨st.two, p2⟩ lt1 lt2 fun y1 y2 m tk d1 d2 zip2 outs2 one2 two2 pair _ keep => ?_
    obtain rfl : u = y1 := by
      rw [List.getElem?_toArray] at d1
      exact Option.some.inj (at_u.symm.trans d1)
    obtain rfl : v = y2 := by
      rw [List.getElem?_toArray] at d2
      exact Option.some.inj (at_v.symm.trans d2)
    refine ⟨_, rfl, wpAny_letOwnedTupleGo_zip (s := { s with heap := m, toks := tk }) zip2 fun m2 zip3 same => ?_⟩
    have pair2 : m2.get? s.heap.objs.size = some { cls := .type "tuple", data := .seq #[u, v] } := by
      rw [same.2 _ (Nat.ne_of_gt z_in)]
      exact pair
    have ok2 : ObjOk X.prog X.w (upd H s.heap.objs.size (.tup [x, y])) m2 s.heap.objs.size (.tup [x, y]) := by
      refine ⟨?_, [u, v], .cons ru (.cons rv .nil), _, pair2, rfl, _, rfl⟩
      show 2 ≤ sizeLine
      decide
    have kept2 : ∀ b ob, b ∉ [z, TI, TO, i1, i2] → s.heap.get? b = some ob → m2.get? b = some ob := by
      intro b ob hb g
      simp only [List.mem_cons, List.not_mem_nil, not_or] at hb
      rw [same.2 b hb.1]
      exact keep b ob hb.1 hb.2.2.1 hb.2.2.2.1 hb.2.2.2.2.1 g
    refine ⟨.ref s.heap.objs.size, _, I.turnedNew (t' := tk) (ch := [z, TI, TO, i1, i2]) kept2 fresh (Nat.le_refl _) ok2, rfl, ⟨_, x, y, rfl, I.hok.fresh (Nat.le_refl _), rfl, ?_, ?_⟩, ⟨zip3, ?_, ⟨u, v, ?_⟩, ?_, ?_⟩, ?_⟩
    · intro l sq
      rw [seq_one I sq sq1]
      exact at1
    · intro l sq
      rw [seq_one I sq sq2]
      exact at2
    · exact (same.2 _ S.TIz).trans (keep _ _ S.TIz S.TITO S.TIi1 S.TIi2 st.ins)
    · exact (same.2 _ S.TOz).trans outs2
    · exact one2.1.moved fun o g => (same.2 _ S.zi1.symm).trans g
    · exact two2.1.moved fun o g => (same.2 _ S.zi2.symm).trans g
    · intro b hb
      have live : ∃ o, s.heap.get? b = some o := by
        have kinds : b = z ∨ b = TI ∨ b = TO ∨ b = i1 ∨ b = i2 := by simpa using hb
        rcases kinds with rfl | rfl | rfl | rfl | rfl
        · exact ⟨_, st.zip⟩
        · exact ⟨_, st.ins⟩
        · exact ⟨_, outs⟩
        · exact st.one.cell.imp fun o h => h.1
        · exact st.two.cell.imp fun o h => h.1
      obtain ⟨o, g⟩ := live
      rw [upd_ne (Nat.ne_of_lt (Heap.lt_size g))]
      exact (fresh b hb).1
  done := by
    rintro X rfl rfl rfl calm n pins s σ H E I fresh st ⟨xs, ys, sq1, sq2, ends⟩
    obtain ⟨us, r1, p1⟩ := seq_k I sq1
    obtain ⟨vs, r2, p2⟩ := seq_k I sq2
    have D1 := draws_k (prog := X.prog) (w := X.w) (A := X.A.in1) (I.ok.hd calm) b1 (apart_k st.one p1) us.toArray
    have D2 := draws_k (prog := X.prog) (w := X.w) (A := X.A.in1) (I.ok.hd calm) b2 (apart_k st.two p2) vs.toArray
    obtain ⟨x0, y0, outs⟩ := st.outs
    have n1 := r1.length
    have n2 := r2.length
    have s1 : us.toArray.size = us.length := List.size_toArray
    have s2 : vs.toArray.size = vs.length := List.size_toArray
    refine wpAny_pyNext_zipD2_end S D1 D2 st.zip st.ins outs ⟨st.one, p1⟩ ⟨st.two, p2⟩ (by omega) (by omega) (by omega) fun m tk keep => ⟨rfl, ?_⟩
    refine I.turnedL (t' := tk) (ch := [z, TI, TO, i1, i2]) (fun b ob hb g => ?_) fresh
    simp only [List.mem_cons, List.not_mem_nil, not_or] at hb
    exact keep b ob hb.1 hb.2.2.1 hb.2.2.2.1 hb.2.2.2.2.1 g
theorem begins_k (b : Bool) (a : Addr) (its : Array Value) : ∃ o : Obj, Begins (.ref a) o (fun m => IsK m b a its) ∧ ∀ m it, m.get? it = some o → IterK m b it a 0 := by
  cases b
  · exact ⟨_, begins_list a its, fun m it g => ⟨_, g, rfl, rfl⟩⟩
  · exact ⟨_, begins_tuple a its, fun m it g => ⟨_, g, rfl, rfl⟩⟩
def iPair (K : PySem.W.Frag) (ta : TA) : TI := fun σ H R => ta σ H fun vs H1 => ∃ a c b1 b2 xs ys, vs = [.ref a, .ref c] ∧ SqK K H1 b1 a xs ∧ SqK K H1 b2 c ys ∧ R (ItP K b1 b2 a c) H1
theorem pi_pair {X : Cx} {e e2 : Expr} {ta : TA} {p pos tpos : Pos} {elts : List Expr} {kk : Nat} (hg : Gl X "zip") (hm : X.mg "zip" = none) (ha : PA X [e, e2] ta)
    (hs : starEach [e, e2] X.env = (false, eval e X.env) :: starEach [e2] X.env := by rfl) (hpl : (backTo pos (starEach [e2] X.env)).any (·.1) = false := by rfl) :
    PI X (.Tuple elts kk tpos) (.Call (.Name "zip" p) [e, e2] [] pos) (iPair X.K ta) := by
  constructor
  intro pins s σ H R I h
  refine Call_ (ld_blt I hg hm boot_zip ?_)
  refine callWith_type1 (thn (ha.run pos pins s σ H _ I h) ?_) hs hpl
  rintro us t ⟨vs, H1, J, rel, a, c, b1, b2, xs, ys, rfl, sq1, sq2, r⟩
  cases rel with | cons r1 rel =>
  cases rel with | cons r2 rel =>
  cases rel
  cases r1
  cases r2
  obtain ⟨us, _, p1⟩ := seq_k J sq1
  obtain ⟨vs, _, p2⟩ := seq_k J sq2
  obtain ⟨o1, B1, first1⟩ := begins_k b1 a us.toArray
  obtain ⟨o2, B2, first2⟩ := begins_k b2 c vs.toArray
  have in1 : ∀ b ∈ [a], b < t.heap.objs.size := fun b hb => by
    rw [List.mem_singleton.mp hb]
    exact p1.cell.elim fun o z => Heap.lt_size z.1
  have in2 : ∀ b ∈ [c], b < t.heap.objs.size := fun b hb => by
    rw [List.mem_singleton.mp hb]
    exact p2.cell.elim fun o z => Heap.lt_size z.1
  refine zip_begins2 B1 B2 p1 p2 fun m zip ins outs g1 g2 _ keep => wpAny_pyIter_zip zip ?_
  refine ⟨_, _, _, _, H1, rfl, J.kept (t' := t.toks) keep, turn_pair (zip_sep2 in1 in2), ⟨zip, ins, ⟨_, _, outs⟩, first1 _ _ g1, first2 _ _ g2⟩, ?_, r⟩
  intro b hb
  have above : t.heap.objs.size ≤ b := by
    simp only [List.mem_cons, List.not_mem_nil, or_false] at hb
    rcases hb with rfl | rfl | rfl | rfl | rfl
    · exact Nat.le_add_right _ _
    · exact Nat.le_add_right _ _
    · exact Nat.le_add_right _ _
    · exact Nat.le_refl _
    · exact Nat.le_add_right _ _
  exact J.fpOk above (J.hok.fresh above)
end Mir17
namespace Mir
open PySem PySem.Spec PyProof.Rows L2
/-- items that are read anew at each turn -/
abbrev Src := Hh → Option (List PV)
def itemsOf (x : PV) : Src := fun h => match x with
  | .lst xs => some xs
  | .tup xs => some xs
  | .ref n => match h[n]? with
    | some (.lst xs) => some xs
    | _ => none
  | _ => none
def tupB : PV → Bool
  | .tup _ => true
  | _ => false
theorem itemsOf_at {S : Sx} {w : Wd} {x : PV} {v : V} {h : Hh} {xs : List PV} (r : PW' S w x v) (e : itemsOf x h = some xs) : ∃ a, v = .ref a ∧ ∀ w' h', Ext w w' → Hd S w' h' → ∀ ys, itemsOf x h' = some ys → ∃ vs, Mir17.SqK S.K w'.H (tupB x) a vs ∧ PWs S w' ys vs := by
  cases r with
  | @lst a zs vs sq rs =>
    refine ⟨a, rfl, fun w' h' x d ys e' => ?_⟩
    cases e'
    exact ⟨vs, d.sqL (sqL_mono x.fz sq), x.prs rs⟩
  | @tup a zs vs sq rs =>
    refine ⟨a, rfl, fun w' h' x d ys e' => ?_⟩
    cases e'
    exact ⟨vs, d.sqT (sqT_mono x.fz sq), x.prs rs⟩
  | @ref n a ea =>
    refine ⟨a, rfl, fun w' h' x d ys e' => ?_⟩
    unfold itemsOf at e'
    simp only at e'
    split at e'
    · rename_i zs eh
      cases e'
      obtain ⟨vs, at_a, rs⟩ := d.obj n _ a eh (x.ix n a ea)
      exact ⟨vs, SqL.of at_a, rs⟩
    · cases e'
  | _ => cases e
/-- the worlds of the turns: the source says the same -/
def CV (S : Sx) (src : Src) (xs : List PV) (a b : Wd) : Prop := Ext a b ∧ ∃ h, Hd S b h ∧ src h = some xs
def RdJ (S : Sx) (W : WX) (wi : TI) (m : En → Hh → Res Src) : Prop := ∀ (w0 w : Wd) (env : En) (h : Hh) (σ : L2.St) (R : It → Hp → Prop), Rl S w0 w env h σ →
  (match m env h with
    | .ok src h' => ∃ xs, src h' = some xs ∧ ∀ w' J, Step w w' → Hd S w' h' → WalkOk S (CV S src xs) w' J xs → R J w'.H
    | .er x h' => ∀ w' cls d, Step w w' → Hd S w' h' → RX S w' x cls d → W cls d σ w'.H
    | .no => False) → wi σ w.H R
def SIR (F : Fam) (tg iter : Expr) (m : En → Hh → Res Src) : Prop := ∃ wi : WX → TI, (∀ i, PI (F.X i) tg iter (wi (F.W i))) ∧ ∀ W, RdJ F.S W (wi W) m
def jSeq (m : ME) : En → Hh → Res Src := fun env h => (m env h).bind fun x h => .ok (itemsOf x) h
def zipS (x y : PV) : Src := fun h => match itemsOf x h, itemsOf y h with
  | some xs, some ys => some (zipL xs ys)
  | _, _ => none
def jZip (ma : MA) : En → Hh → Res Src := fun env h => (ma env h).bind fun xs h => match xs with
  | [x, y] => .ok (zipS x y) h
  | _ => .no
section
variable {F : Fam} {tg e e2 : Expr} {m : ME} {ma : MA} {p pos tpos : Pos}
theorem walk_anyL {K : PySem.W.Frag} {a : Addr} {n : Nat} : Walk (Itl K a) n (fun H => ∃ vs, vs.length = n ∧ SqL K H a vs) (fun i H v H' => H' = H ∧ ∀ vs, SqL K H a vs → vs[i]? = some v) where
  goes := fun i H lt g => g.elim fun vs z => ⟨vs, _, z.2, List.getElem?_eq_getElem (z.1.symm ▸ lt)⟩
  stops := fun H g => g.elim fun vs z => ⟨vs, z.2, Nat.le_of_eq z.1⟩
  yields := fun _ _ _ _ _ _ y => y
theorem walk_anyT {K : PySem.W.Frag} {a : Addr} {n : Nat} : Walk (Itt K a) n (fun H => ∃ vs, vs.length = n ∧ SqT K H a vs) (fun i H v H' => H' = H ∧ ∀ vs, SqT K H a vs → vs[i]? = some v) where
  goes := fun i H lt g => g.elim fun vs z => ⟨vs, _, z.2, List.getElem?_eq_getElem (z.1.symm ▸ lt)⟩
  stops := fun H g => g.elim fun vs z => ⟨vs, z.2, Nat.le_of_eq z.1⟩
  yields := fun _ _ _ _ _ _ y => y
theorem sir_seq (a : SE F e m) : SIR F tg e (jSeq m) := by
  obtain ⟨t, pe, q⟩ := a
  refine ⟨fun W => iSeq F.K (t W), fun i => pi_seq (pe i), fun W w0 w env h σ R rl po => q W w0 w env h σ _ rl ?_⟩
  unfold jSeq at po
  cases em : m env h with
  | no => rw [em] at po; exact po
  | er x h' => rw [em] at po; exact po
  | ok x h' =>
    rw [em] at po
    obtain ⟨xs, ex, po⟩ := po
    intro w1 v s1 d1 r1
    obtain ⟨a, rfl, at_a⟩ := itemsOf_at r1 ex
    obtain ⟨vs0, sq0, _⟩ := at_a w1 h' (Ext.refl _) d1 xs ex
    have each : ∀ w2, CV F.S (itemsOf x) xs w1 w2 → ∃ vs, Mir17.SqK F.K w2.H (tupB x) a vs ∧ PWs F.S w2 xs vs := fun w2 ⟨c1, hh, c2, c3⟩ => at_a w2 hh c1 c2 xs c3
    refine ⟨a, rfl, ?_⟩
    cases tb : tupB x
    · rw [tb] at sq0 each
      refine .inl ⟨⟨vs0, sq0⟩, po w1 _ s1 d1 ⟨_, _, walk_anyL, fun w2 c => ?_, fun i w2 H' y v c at_i y1 hh dd => ?_⟩⟩
      · obtain ⟨vs, sq, rs⟩ := each w2 c
        exact ⟨vs, rs.length.symm, sq⟩
      · obtain ⟨vs, sq, rs⟩ := each w2 c
        obtain ⟨u, at_u, ru⟩ := rs.get at_i
        rw [y1.2 vs sq] at at_u
        cases at_u
        exact ⟨w2, y1.1.symm, Step.refl _, dd, ru⟩
    · rw [tb] at sq0 each
      refine .inr ⟨⟨vs0, sq0⟩, po w1 _ s1 d1 ⟨_, _, walk_anyT, fun w2 c => ?_, fun i w2 H' y v c at_i y1 hh dd => ?_⟩⟩
      · obtain ⟨vs, sq, rs⟩ := each w2 c
        exact ⟨vs, rs.length.symm, sq⟩
      · obtain ⟨vs, sq, rs⟩ := each w2 c
        obtain ⟨u, at_u, ru⟩ := rs.get at_i
        rw [y1.2 vs sq] at at_u
        cases at_u
        exact ⟨w2, y1.1.symm, Step.refl _, dd, ru⟩
theorem walk_pair {K : PySem.W.Frag} {b1 b2 : Bool} {a c : Addr} {n : Nat} : Walk (Mir17.ItP K b1 b2 a c) n (fun H => ∃ vs us, min vs.length us.length = n ∧ Mir17.SqK K H b1 a vs ∧ Mir17.SqK K H b2 c us)
    (fun i H v H' => ∃ T x y, v = .ref T ∧ H T = none ∧ H' = upd H T (.tup [x, y]) ∧ (∀ xs, Mir17.SqK K H b1 a xs → xs[i]? = some x) ∧ ∀ ys, Mir17.SqK K H b2 c ys → ys[i]? = some y) where
  goes := by
    rintro i H lt ⟨vs, us, rfl, s1, s2⟩
    rw [Nat.lt_min] at lt
    exact ⟨vs, us, _, _, s1, s2, List.getElem?_eq_getElem lt.1, List.getElem?_eq_getElem lt.2⟩
  stops := by
    rintro H ⟨vs, us, rfl, s1, s2⟩
    exact ⟨vs, us, s1, s2, rfl⟩
  yields := fun _ _ _ _ _ _ y => y
theorem sir_zip {elts : List Expr} {kk : Nat} (hm : F.mg "zip" = none) (a : SA F [e, e2] ma) (hg : ∀ i, Gl (F.X i) "zip" := by intro _; rfl) (hs : ∀ i, starEach [e, e2] (F.X i).env = (false, eval e (F.X i).env) :: starEach [e2] (F.X i).env := by intro _; rfl)
    (hpl : ∀ i, (backTo pos (starEach [e2] (F.X i).env)).any (·.1) = false := by intro _; rfl) : SIR F (.Tuple elts kk tpos) (.Call (.Name "zip" p) [e, e2] [] pos) (jZip ma) := by
  obtain ⟨t, pa, q⟩ := a
  refine ⟨fun W => Mir17.iPair F.K (t W), fun i => Mir17.pi_pair (hg i) hm (pa i) (hs i) (hpl i), fun W w0 w env h σ R rl po => q W w0 w env h σ _ rl ?_⟩
  unfold jZip at po
  cases em : ma env h with
  | no => rw [em] at po; exact po
  | er x h' => rw [em] at po; exact po
  | ok xs h' =>
    rw [em, Res.bind_ok] at po
    intro w1 v s1 d1 r1
    split at po
    · rename_i eq
      split at eq
      · rename_i x y
        cases eq
        obtain ⟨xs, ex, po⟩ := po
        cases r1 with | cons r1 r2 =>
        cases r2 with | cons r2 r3 =>
        cases r3
        have both : ∀ hh zs, zipS x y hh = some zs → ∃ x1 y1, itemsOf x hh = some x1 ∧ itemsOf y hh = some y1 ∧ zs = zipL x1 y1 := by
          intro hh zs e
          unfold zipS at e
          split at e
          · cases e
            exact ⟨_, _, by assumption, by assumption, rfl⟩
          · cases e
        obtain ⟨x1, y1, ex1, ey1, _⟩ := both _ _ ex
        obtain ⟨a, rfl, at_a⟩ := itemsOf_at r1 ex1
        obtain ⟨c, rfl, at_c⟩ := itemsOf_at r2 ey1
        obtain ⟨vs0, sqa, _⟩ := at_a w1 _ (Ext.refl _) d1 _ ex1
        obtain ⟨us0, sqc, _⟩ := at_c w1 _ (Ext.refl _) d1 _ ey1
        have each : ∀ w2, CV F.S (zipS x y) xs w1 w2 → ∃ x2 y2 vs us, xs = zipL x2 y2 ∧ Mir17.SqK F.K w2.H (tupB x) a vs ∧ PWs F.S w2 x2 vs ∧ Mir17.SqK F.K w2.H (tupB y) c us ∧ PWs F.S w2 y2 us := by
          rintro w2 ⟨c1, hh, c2, c3⟩
          obtain ⟨x2, y2, ex2, ey2, ez⟩ := both _ _ c3
          obtain ⟨vs, k1, k2⟩ := at_a w2 hh c1 c2 x2 ex2
          obtain ⟨us, k3, k4⟩ := at_c w2 hh c1 c2 y2 ey2
          exact ⟨x2, y2, vs, us, ez, k1, k2, k3, k4⟩
        refine ⟨a, c, tupB x, tupB y, vs0, us0, rfl, sqa, sqc, po w1 _ s1 d1 ⟨_, _, walk_pair, fun w2 cv => ?_, fun i w2 H' z v cv at_i y1 hh dd => ?_⟩⟩
        · obtain ⟨x2, y2, vs, us, rfl, k1, k2, k3, k4⟩ := each w2 cv
          refine ⟨vs, us, ?_, k1, k3⟩
          unfold zipL
          rw [List.length_zipWith, k2.length, k4.length]
        · obtain ⟨x2, y2, vs, us, rfl, k1, k2, k3, k4⟩ := each w2 cv
          obtain ⟨z1, z2, g1, g2, rfl⟩ := zipL_get at_i
          obtain ⟨T, p1, p2, rfl, free, rfl, h1, h2⟩ := y1
          obtain ⟨u1, e1, ru1⟩ := k2.get g1
          obtain ⟨u2, e2, ru2⟩ := k4.get g2
          rw [h1 vs k1] at e1
          rw [h2 us k3] at e2
          cases e1
          cases e2
          have st := Step.lock (o := .tup [p1, p2]) dd free
          exact ⟨w2.lock T (.tup [p1, p2]), rfl, st, dd.lock free, .tup (.inl (.inl upd_same)) (.cons (st.pr ru1) (.cons (st.pr ru2) .nil))⟩
      · cases eq
    · rename_i eq
      split at eq <;> cases eq
    · exact po.elim
end
end Mir

set_option Elab.async false
set_option linter.all false
set_option maxRecDepth 100000
set_option maxHeartbeats 1000000
/-! Mir18: for and comprehensions over what is read anew at each turn -/
namespace Mir
open PySem PySem.Spec PyProof.Rows L2
open Classical in
noncomputable def forS (src : Src) (xs : List PV) (g : MG) (b : MS) : List PV → MS
  | [] => fun env h => if src h = some xs then .nx env h else .no
  | y :: r => fun env h => if src h = some xs then (match g y env with
    | none => .no
    | some env => match b env h with
      | .nx env h => forS src xs g b r env h
      | .ct env h => forS src xs g b r env h
      | .bk env h => .nx env h
      | z => z) else .no
noncomputable def mForS (j : En → Hh → Res Src) (g : MG) (b : MS) : MS := fun env h => ofE (j env h) env fun src h => match src h with
  | some xs => forS src xs g b xs env h
  | none => .no
open Classical in
noncomputable def lcS (src : Src) (xs0 : List PV) (g : MG) (t : MT) (e : ME) (env : En) : List PV → Hh → Res (List PV)
  | [], h => if src h = some xs0 then .ok [] h else .no
  | x :: r, h => if src h = some xs0 then (match g x env with
    | none => .no
    | some env2 => match t env2 h with
      | .ok true h => match e env2 h with
        | .ok y h => (lcS src xs0 g t e env r h).bind fun ys h => .ok (y :: ys) h
        | _ => .no
      | .ok false h => lcS src xs0 g t e env r h
      | _ => .no) else .no
noncomputable def mLcS (j : En → Hh → Res Src) (vs : List Nat) (g : MG) (t : MT) (e : ME) : MA := fun env h => (j env h).bind fun src h => match src h with
  | some xs => if xs.length ≤ 16777216 then lcS src xs g t e (wipeE env vs) xs h else .no
  | none => .no
section
variable {src : Src} {xs : List PV} {g : MG} {b : MS} {mt : MT} {me : ME}
theorem forS_src {S : Sx} {W : WX} {w0 w : Wd} {D : Ends} {l : List PV} {env : En} {h : Hh} (p : PostS S W w0 w (forS src xs g b l env h) D) : src h = some xs := by
  cases l <;> (unfold forS at p; split at p; assumption; exact p.elim)
theorem lcS_src {S : Sx} {W : WX} {w : Wd} {σ : L2.St} {l acc : List PV} {env : En} {h : Hh} {Q : V → Hp → Prop} (p : PostE S W w σ (RN S) ((lcS src xs g mt me env l h).bind fun ys h => .ok (acc ++ ys) h) Q) : src h = some xs := by
  cases l <;> (unfold lcS at p; split at p; assumption; exact p.elim)
end
theorem rd_forS {S : Sx} {W : WX} {w0 w : Wd} {J : It} {src : Src} {items : List PV} {g : TG} {mg : MG} {tb : TS} {mb : MS} {D : Ends} {env : En} {h : Hh} {σ : L2.St} (wk : WalkOk S (CV S src items) w J items) {is : List Nat} (hg : RdT S g mg is) (hb : RdS S W tb mb)
    (rl : Rl S w0 w env h σ) (po : PostS S W w0 w (forS src items mg mb items env h) D) :
    ∃ Wv : Nat → Nat → L2.St → Hp → Prop, (∃ m, Wv 0 m σ w.H) ∧ ∀ i m σ H, Wv i m σ H →
      (J.stop i H ∧ D.nx σ H) ∨ (J.go i H ∧ ∃ N : L2.St → Hp → Prop, (∀ σ' H', N σ' H' → ∃ m', m' < m ∧ Wv (i + 1) m' σ' H') ∧ ∀ x H', J.yld i H x H' → g x σ H' fun σ2 H2 => tb { D with nx := N, ct := N, bk := D.nx } σ2 H2) := by
  obtain ⟨G, Y, walk, hG, hY⟩ := wk
  refine for_it walk (fun i σ H => ∃ w' env' h', w'.H = H ∧ Ext w w' ∧ Rl S w0 w' env' h' σ ∧ PostS S W w0 w' (forS src items mg mb (items.drop i) env' h') D) ⟨w, env, h, rfl, Ext.refl w, rl, by rw [List.drop_zero]; exact po⟩ ?_ ?_ ?_
  · rintro i σ _ hi ⟨w', env', h', rfl, x1, r, p⟩
    exact hG w' ⟨x1, h', r.hd, forS_src p⟩
  · rintro i v σ _ H' hi ⟨w', env', h', rfl, x1, r, p⟩ y
    have same := forS_src p
    obtain ⟨w3, rfl, s3, d3, r3⟩ := hY i w' H' items[i] v ⟨x1, h', r.hd, same⟩ (List.getElem?_eq_getElem hi) y h' r.hd
    rw [List.drop_eq_getElem_cons hi] at p
    unfold forS at p
    rw [if_pos same] at p
    split at p
    · exact p.elim
    · rename_i env2 eg
      refine hg w0 w3 env' env2 h' σ items[i] v _ (r.step s3 d3) r3 eg fun σ2 r2 _ => hb w0 w3 env2 h' σ2 _ r2 ?_
      have p' := PostS.mono s3.ext p
      have x3 : Ext w w3 := x1.trans s3.ext
      cases em : mb env2 h' with
      | nx e4 h4 => rw [em] at p'; exact fun w4 σ4 x4 r4 => ⟨w4, e4, h4, rfl, x3.trans x4, r4, PostS.mono x4 p'⟩
      | ct e4 h4 => rw [em] at p'; exact fun w4 σ4 x4 r4 => ⟨w4, e4, h4, rfl, x3.trans x4, r4, PostS.mono x4 p'⟩
      | bk e4 h4 => rw [em] at p'; exact p'
      | rt v4 h4 => rw [em] at p'; exact p'
      | er x4 e4 h4 => rw [em] at p'; exact p'
      | no => rw [em] at p'; exact p'
  · rintro σ _ ⟨w', env', h', rfl, x1, r, p⟩
    have same := forS_src p
    rw [List.drop_length] at p
    unfold forS at p
    rw [if_pos same] at p
    exact p w' σ (Ext.refl w') r
/-- the new list's address is still nobody else's -/
theorem Step.mine {a b : Wd} (s : Step a b) {D : Addr} {us : List V} (h : D ∉ a.ad ∧ a.Φ D = none ∧ a.H D = some (.lst us)) : D ∉ b.ad ∧ b.Φ D = none ∧ b.H D = some (.lst us) := by
  obtain ⟨h1, h2, h3⟩ := h
  refine ⟨fun z => ?_, ?_, s.kp D _ h3 h1⟩
  · rcases s.nw D z with k | k
    · exact h1 k
    · rw [h3] at k; cases k
  · cases q : b.Φ D with
    | none => rfl
    | some o =>
      rcases s.fn D o q with k | k
      · rw [h2] at k; cases k
      · rw [h3] at k; cases k
theorem rd_lcS {S : Sx} {W W2 : WX} {wi : TI} {g : TG} {tt : TT} {te : TE} {vs is : List Nat} {mi : En → Hh → Res Src} {mg : MG} {mt : MT} {me : ME} (hi : RdJ S W wi mi) (hg : RdT S g mg is) (hs : ∀ j ∈ is, j ∈ vs)
    (ht : RdG S RB W2 tt mt) (he : RdG S (RV S) W2 te me) : RdG S (RN S) W (tLc wi g tt te vs) (mLcS mi vs mg mt me) := by
  intro w0 w env h σ Q rl po
  refine hi w0 w env h σ _ rl ?_
  unfold mLcS at po
  cases em : mi env h with
  | no => rw [em] at po; exact po
  | er x h' => rw [em] at po; exact po
  | ok src h' =>
    rw [em, Res.bind_ok] at po
    show ∃ xs, src h' = some xs ∧ _
    cases ex : src h' with
    | none => simp only [ex] at po; exact po.elim
    | some xs =>
    simp only [ex] at po
    refine ⟨xs, rfl, ?_⟩
    intro w1 J s1 d1 ⟨G, Y, walk, hG, hY⟩ D nD
    split at po
    · rename_i hz
      have rl1 := rl.step s1 d1
      refine lc_it walk (fun i H => ∃ w' h2 acc us, w'.H = H ∧ Step w1 w' ∧ Hd S w' h2 ∧ (D ∉ w'.ad ∧ w'.Φ D = none ∧ w'.H D = some (.lst us)) ∧ PWs S w' acc us ∧ acc.length ≤ i ∧
          PostE S W w σ (RN S) ((lcS src xs mg mt me (wipeE env vs) (xs.drop i) h2).bind fun ys h => .ok (acc ++ ys) h) Q)
        ⟨w1.put D (.lst []), h', [], [], rfl, Step.put d1 nD, d1.put nD, ⟨d1.notAd nD, d1.fresh nD, upd_same⟩, .nil, Nat.le_refl _, ?_⟩ ?_ ?_ ?_
      · rw [List.drop_zero]
        cases el : lcS src xs mg mt me (wipeE env vs) xs h' <;> (rw [el] at po; exact po)
      · rintro i _ hi' ⟨w', h2, acc, us, rfl, s, d, _, _, _, p⟩
        exact hG w' ⟨s.ext, h2, d, lcS_src p⟩
      · rintro i v _ H' hi' ⟨w', h2, acc, us, rfl, s, d, mine, rs, hl, p⟩ y
        have same := lcS_src p
        obtain ⟨w3, rfl, s3, d3, r3⟩ := hY i w' H' xs[i] v ⟨s.ext, h2, d, same⟩ (List.getElem?_eq_getElem hi') y h2 d
        have sw : Rl S w0 w3 (wipeE env vs) h2 (L2.wipe σ vs) := ⟨(rl1.st.trans s).trans s3, d3, ((rl1.sl.step s).step s3).wipe vs⟩
        rw [List.drop_eq_getElem_cons hi'] at p
        unfold lcS at p
        rw [if_pos same] at p
        have mine3 := s3.mine mine
        split at p
        · exact p.elim
        · rename_i env2 eg
          refine hg w0 w3 (wipeE env vs) env2 h2 _ xs[i] v _ sw r3 eg fun σ2 r2 b2 => ⟨wipe_but b2 hs, ?_⟩
          refine ht w0 w3 env2 h2 σ2 _ r2 ?_
          cases et : mt env2 h2 with
          | no => rw [et] at p; exact p.elim
          | er x hx => rw [et] at p; exact p.elim
          | ok b h4 =>
            rw [et] at p
            intro w4 b' s4 d4 eb
            subst eb
            have mine4 := s4.mine mine3
            cases b with
            | false =>
              rw [if_neg Bool.false_ne_true]
              exact ⟨w4, h4, acc, us, rfl, (s.trans s3).trans s4, d4, mine4, s4.prs (s3.prs rs), by omega, p⟩
            | true =>
              rw [if_pos rfl]
              refine he w0 w4 env2 h4 σ2 _ (r2.step s4 d4) ?_
              cases ee : me env2 h4 with
              | no => simp only [ee] at p; exact p.elim
              | er x hx => simp only [ee] at p; exact p.elim
              | ok y5 h5 =>
                simp only [ee] at p
                intro w5 u5 s5 d5 r5
                have mine5 := s5.mine mine4
                have rs5 := s5.prs (s4.prs (s3.prs rs))
                refine ⟨us, mine5.2.2, ?_, ⟨w5.Φ, upd w5.H D (.lst (us ++ [u5])), w5.ad⟩, h5, acc ++ [y5], us ++ [u5], rfl, (((s.trans s3).trans s4).trans s5).updD nD, d5.updD mine5.2.1 mine5.1, ⟨mine5.1, mine5.2.1, upd_same⟩, rs5.append (.cons r5 .nil), by rw [List.length_append]; simp; omega, ?_⟩
                · rw [← rs.length, sizeLine_eq]; omega
                · cases el : lcS src xs mg mt me (wipeE env vs) (xs.drop (i + 1)) h5 with
                  | no => rw [el] at p; exact p
                  | er x hx => rw [el] at p; exact p
                  | ok ys hy => rw [el] at p; simp only [Res.bind_ok] at p ⊢; rw [List.append_assoc]; exact p
      · rintro _ ⟨w', h2, acc, us, rfl, s, d, mine, rs, hl, p⟩
        have same := lcS_src p
        rw [List.drop_length] at p
        unfold lcS at p
        rw [if_pos same] at p
        have p' : PostE S W w σ (RN S) (.ok (acc ++ []) h2) Q := p
        rw [List.append_nil] at p'
        exact p' w' (.ref D) (s1.trans s) d ⟨D, us, rfl, mine.2.2, rs, mine.1, mine.2.1, s1.fr nD⟩
    · exact po.elim
section
variable {F : Fam} {e elt tg iter : Expr} {body : List Stmt} {ifs : List Expr} {scope : Scope} {own : List (Str × Nat)} {pos spos : Pos} {me : ME} {mt : MT} {mi : En → Hh → Res Src} {mg : MG} {ms : MS} {is : List Nat}
theorem ss_forS (ok : F.Ok) (hc : F.calm = true) (a : SIR F tg iter mi) (hg : SG F tg mg is) (hb : SSs F body ms) (hs : ∀ i x, foldedSetIterable iter (F.X i).env x = pure x := by intro _ _; rfl) : SS F (.For tg iter body [] pos) (mForS mi mg ms) := by
  obtain ⟨ti, pi, qi⟩ := a
  obtain ⟨tg', pg, qg⟩ := hg
  obtain ⟨tb, pb, qb⟩ := hb
  refine ⟨fun W => tFor (ti W) tg' (tb W), fun i => ps_for (X := F.X i) (ok.po i) hc (pi i) (pg i) (pb i) (hs i), fun W w0 w env h σ D rl po => qi W w0 w env h σ _ rl ?_⟩
  unfold mForS at po
  cases em : mi env h with
  | no => rw [em] at po; exact po
  | er x h' => rw [em] at po; exact fun w' cls d s dd qq => po w' σ cls d s.ext (rl.step s dd) qq
  | ok src h' =>
    rw [em] at po
    have po1 : PostS F.S W w0 w (match src h' with | some xs => forS src xs mg ms xs env h' | none => .no) D := po
    show ∃ xs, src h' = some xs ∧ _
    cases ex : src h' with
    | none => simp only [ex] at po1; exact po1.elim
    | some xs =>
      simp only [ex] at po1
      exact ⟨xs, rfl, fun w' J s d wk => rd_forS wk qg (qb W) (rl.step s d) (PostS.mono s.ext po1)⟩
theorem sn_lcS (ok : F.Ok) (hc : F.calm = true) (hi : SIR F tg iter mi) (bo : ∀ i, BlkOk F.N (F.env i).scope scope own) (hg : SG (F.blk scope) tg mg is) (hs : ∀ j ∈ is, j ∈ own.map (·.2)) (ht : STs (F.blk scope) ifs mt) (he : SE (F.blk scope) elt me)
    (hf : ∀ i x, foldedSetIterable iter (F.X i).env x = pure x := by intro _ _; rfl) : SN F (.ListComp elt [⟨tg, iter, ifs, 0⟩] scope pos) (mLcS mi (own.map (·.2)) mg mt me) := by
  obtain ⟨wi, pi, qi⟩ := hi
  obtain ⟨g, pg, qg⟩ := hg
  obtain ⟨tt, pt, qt⟩ := ht
  obtain ⟨te, pe, qe⟩ := he
  exact ⟨fun W => tLc (wi W) g (tt fun _ _ _ _ => False) (te fun _ _ _ _ => False) (own.map (·.2)), fun i => pe_lc (X := F.X i) (tt := tt fun _ _ _ _ => False) (te := te fun _ _ _ _ => False) hc ok.nd (pi i) (bo i) (fun s H C cl fp => pg ⟨i, s, H, C, cl, fp⟩) (fun s H C cl fp => pt ⟨i, s, H, C, cl, fp⟩) (fun s H C cl fp => pe ⟨i, s, H, C, cl, fp⟩) (hf i),
    fun W => rd_lcS (qi W) qg hs (qt _) (qe _)⟩
theorem ss_setLcNS (i : Nat) {y : Str} {py : Pos} (ok : F.Ok) (hc : F.calm = true) (hi : SIR F tg iter mi) (bo : ∀ i, BlkOk F.N (F.env i).scope scope own) (hg : SG (F.blk scope) tg mg is) (hs : ∀ j ∈ is, j ∈ own.map (·.2)) (ht : STs (F.blk scope) ifs mt) (he : SE (F.blk scope) elt me)
    (hy : F.N[i]? = some y := by rfl) (hyl : ∀ j, (F.env j).scope.names.lookup y = some .local := by intro _; rfl)
    (hsw : ∀ j, swapsWith (.ListComp elt [⟨tg, iter, ifs, 0⟩] scope pos) (some (.Name y py)) spos.line (F.X j).env = pure true := by exact fun _ => sw_true rfl rfl rfl (by decide +kernel))
    (hf : ∀ i x, foldedSetIterable iter (F.X i).env x = pure x := by intro _ _; rfl) : SS F (.Assign [.Name y py] (.ListComp elt [⟨tg, iter, ifs, 0⟩] scope pos) spos) (mSetN i (mLcS mi (own.map (·.2)) mg mt me)) := by
  obtain ⟨wi, pi, qi⟩ := hi
  obtain ⟨g, pg, qg⟩ := hg
  obtain ⟨tt, pt, qt⟩ := ht
  obtain ⟨te, pe, qe⟩ := he
  exact ⟨fun W => tAsg (tLc (wi W) g (tt fun _ _ _ _ => False) (te fun _ _ _ _ => False) (own.map (·.2))) (gName i), fun j => ps_setLc (X := F.X j) (tt := tt fun _ _ _ _ => False) (te := te fun _ _ _ _ => False) hc ok.nd hy (hyl j) (hsw j) (pi j) (bo j) (fun s H C cl fp => pg ⟨j, s, H, C, cl, fp⟩) (fun s H C cl fp => pt ⟨j, s, H, C, cl, fp⟩) (fun s H C cl fp => pe ⟨j, s, H, C, cl, fp⟩) (hf j),
    fun W => rd_setN i (rd_lcS (qi W) qg hs (qt _) (qe _))⟩
theorem ss_setLcS (i : Nat) {y : Str} {py : Pos} (ok : F.Ok) (hc : F.calm = true) (hi : SIR F tg iter mi) (bo : ∀ i, BlkOk F.N (F.env i).scope scope own) (hg : SG (F.blk scope) tg mg is) (hs : ∀ j ∈ is, j ∈ own.map (·.2)) (ht : STs (F.blk scope) ifs mt) (he : SE (F.blk scope) elt me)
    (hy : F.N[i]? = some y := by rfl) (hyl : ∀ j, (F.env j).scope.names.lookup y = some .local := by intro _; rfl)
    (hsw : ∀ j, swapsWith (.ListComp elt [⟨tg, iter, ifs, 0⟩] scope pos) (some (.Name y py)) spos.line (F.X j).env = pure true := by exact fun _ => sw_true rfl rfl rfl (by decide +kernel))
    (hf : ∀ i x, foldedSetIterable iter (F.X i).env x = pure x := by intro _ _; rfl) : SS F (.Assign [.Name y py] (.ListComp elt [⟨tg, iter, ifs, 0⟩] scope pos) spos) (mSet i (mFz (mLcS mi (own.map (·.2)) mg mt me))) := by
  obtain ⟨wi, pi, qi⟩ := hi
  obtain ⟨g, pg, qg⟩ := hg
  obtain ⟨tt, pt, qt⟩ := ht
  obtain ⟨te, pe, qe⟩ := he
  exact ⟨fun W => tAsg (tLc (wi W) g (tt fun _ _ _ _ => False) (te fun _ _ _ _ => False) (own.map (·.2))) (gName i), fun j => ps_setLc (X := F.X j) (tt := tt fun _ _ _ _ => False) (te := te fun _ _ _ _ => False) hc ok.nd hy (hyl j) (hsw j) (pi j) (bo j) (fun s H C cl fp => pg ⟨j, s, H, C, cl, fp⟩) (fun s H C cl fp => pt ⟨j, s, H, C, cl, fp⟩) (fun s H C cl fp => pe ⟨j, s, H, C, cl, fp⟩) (hf j),
    fun W => rd_set i (rd_fz (rd_lcS (qi W) qg hs (qt _) (qe _)))⟩
end
/-! ### words -/
section
variable {g : MG} {b : MS} {t : MT} {e : ME} {src : Src} {xs : List PV}
@[simp] theorem aForS (j : En → Hh → Res Src) (env : En) (h : Hh) : mForS j g b env h = ofE (j env h) env fun src h => (match src h with
  | some xs => forS src xs g b xs env h
  | none => .no) := id rfl
@[simp] theorem aLcS (j : En → Hh → Res Src) (vs : List Nat) (env : En) (h : Hh) : mLcS j vs g t e env h = (j env h).bind fun src h => (match src h with
  | some xs => if xs.length ≤ 16777216 then lcS src xs g t e (wipeE env vs) xs h else .no
  | none => .no) := id rfl
@[simp] theorem aJSeq (m : ME) (env : En) (h : Hh) : jSeq m env h = (m env h).bind fun x h => .ok (itemsOf x) h := id rfl
@[simp] theorem aJZip (ma : MA) (env : En) (h : Hh) : jZip ma env h = (ma env h).bind fun xs h => (match xs with
  | [x, y] => .ok (zipS x y) h
  | _ => .no) := id rfl
@[simp] theorem itemsOf_lst (xs : List PV) (h : Hh) : itemsOf (.lst xs) h = some xs := id rfl
@[simp] theorem itemsOf_tup (xs : List PV) (h : Hh) : itemsOf (.tup xs) h = some xs := id rfl
theorem itemsOf_ref {n : Nat} {h : Hh} (e : h[n]? = some (.lst xs)) : itemsOf (.ref n) h = some xs := by
  unfold itemsOf; simp only [e]
theorem zipS_eq {x y : PV} {h : Hh} {us vs : List PV} (e : itemsOf x h = some us) (f : itemsOf y h = some vs) : zipS x y h = some (zipL us vs) := by
  unfold zipS; simp only [e, f]
/-- a walk whose turns leave the source: what holds behind the turns so far -/
theorem forS_run (I : List PV → En → Hh → Prop) : ∀ (l pre : List PV),
    (∀ pre' a post, pre ++ l = pre' ++ a :: post → ∀ env h, I pre' env h → ∃ env1 env2 h2, g a env = some env1 ∧ (b env1 h = .nx env2 h2 ∨ b env1 h = .ct env2 h2) ∧ I (pre' ++ [a]) env2 h2) →
    (∀ p env h, I p env h → src h = some xs) → ∀ env h, I pre env h → ∃ env' h', forS src xs g b l env h = .nx env' h' ∧ I (pre ++ l) env' h'
  | [], pre, _, hs, env, h, i => ⟨env, h, by unfold forS; rw [if_pos (hs _ _ _ i)], by rw [List.append_nil]; exact i⟩
  | a :: r, pre, H, hs, env, h, i => by
    obtain ⟨env1, env2, h2, e1, e2, i2⟩ := H pre a r rfl env h i
    obtain ⟨env', h', e3, i3⟩ := forS_run I r (pre ++ [a]) (fun pre' a' post e => H pre' a' post (by rw [← e]; simp)) hs env2 h2 i2
    refine ⟨env', h', ?_, by simpa using i3⟩
    unfold forS
    rw [if_pos (hs _ _ _ i), e1]
    rcases e2 with e2 | e2 <;> (simp only [e2]; exact e3)
/-- a comprehension whose items leave the heap -/
theorem lcS_map {α : Type} {env : En} {h : Hh} (hs : src h = some xs) (A B : α → PV) : ∀ (l : List α), (∀ x ∈ l, ∃ env1, g (A x) env = some env1 ∧ t env1 h = .ok true h ∧ e env1 h = .ok (B x) h) → lcS src xs g t e env (l.map A) h = .ok (l.map B) h
  | [], _ => by rw [List.map_nil]; unfold lcS; rw [if_pos hs]; rfl
  | x :: r, H => by
    obtain ⟨env1, e1, e2, e3⟩ := H x List.mem_cons_self
    rw [List.map_cons]
    unfold lcS
    rw [if_pos hs, e1]
    simp only [e2, e3]
    rw [lcS_map hs A B r fun y hy => H y (List.mem_cons_of_mem _ hy)]
    rfl
end
end Mir
/-! ### list + list, read through their refs -/
namespace Mir
open PySem PySem.Spec PyProof.Rows L2
def mAddD (ma mb : ME) : MA := fun env h => (ma env h).bind fun x h => (mb env h).bind fun y h => match de h x, de h y with
  | .lst a, .lst b => if a.length + b.length ≤ 16777216 then .ok (a ++ b) h else .no
  | _, _ => .no
section
variable {F : Fam} {ea eb : Expr} {pos : Pos} {ma mb : ME}
theorem sn_addD (ha : SB F ea ma) (hb : SB F eb mb) : SN F (.BinOp ea .Add eb pos) (mAddD ma mb) := by
  obtain ⟨ta, pa, qa⟩ := ha
  obtain ⟨tb, pb, qb⟩ := hb
  refine ⟨fun W => tOp (rAddA F.K) (ta W) (tb W), fun i => pe_op (op_addA (X := F.X i)) (pa i) (pb i), fun W w0 w env h σ Q rl po => ?_⟩
  refine qa W w0 w env h σ _ rl (PostE.bind po fun x h1 w1 v s1 d1 p1 po1 => qb W w0 w1 env h1 σ _ (rl.step s1 d1) (PostE.bind po1 fun y h2 w2 u s2 d2 p2 po2 => ?_))
  have px := (p1.step s2).z.de d2
  have py := p2.z.de d2
  split at po2
  · rename_i xs ys ex ey
    rw [ex] at px
    rw [ey] at py
    split at po2
    · obtain ⟨a, vs, rfl, ha, ra⟩ := px.ofLst d2
      obtain ⟨b, us, rfl, hb, rb⟩ := py.ofLst d2
      have st : ∀ p, w2.H p = none → Step w2 (w2.put p (.lst (vs ++ us))) := fun p np => Step.put d2 np
      refine .inr (.inr (.inr ⟨a, b, vs, us, rfl, rfl, ha, hb, ?_, fun p np => po2 _ (.ref p) (st p np) (d2.put np) ⟨p, _, rfl, upd_same, ((st p np).prs ra).append ((st p np).prs rb), d2.notAd np, d2.fresh np, np⟩⟩))
      apply lim_line
      have l1 := ra.length
      have l2 := rb.length
      omega
    · exact po2.elim
  · exact po2.elim
@[simp] theorem aAddD (env : En) (h : Hh) : mAddD ma mb env h = (ma env h).bind fun x h => (mb env h).bind fun y h => (match de h x, de h y with
  | .lst a, .lst b => if a.length + b.length ≤ 16777216 then .ok (a ++ b) h else .no
  | _, _ => .no) := id rfl
end
end Mir

set_option Elab.async false
set_option linter.all false
set_option maxRecDepth 100000
set_option maxHeartbeats 1000000
/-! ### the text of the law, by gen.py -/
namespace Law
open PySem PySem.Spec PyProof.Rows L2 Mir
noncomputable section
def inC (s : Stmt) (j : Nat) : Stmt := match s with
  | .ClassDef (body := b) .. => b.getD j (.Pass ⟨0, 0, 0, 0⟩)
  | _ => .Pass ⟨0, 0, 0, 0⟩
def topS (i : Nat) : Stmt := PySem.Challenge.pw_swarmwhole_k34_disk_that_falls.main.body.getD i (.Pass ⟨0, 0, 0, 0⟩)
abbrev s_L_cell : Stmt := topS 6
def N_L_cell : List Str := ["_law_script", "_law_k"]
def P_L_cell : List Str := ["_law_script", "_law_k"]
theorem sc_L_cell : FnScope N_L_cell P_L_cell (defScope s_L_cell) := ⟨rfl, rfl, rfl, by decide +kernel, rfl, by decide +kernel, by decide +kernel⟩
abbrev s_Disk_init : Stmt := inC (topS 4) 0
def N_Disk_init : List Str := ["self", "size"]
def P_Disk_init : List Str := ["self", "size"]
theorem sc_Disk_init : FnScope N_Disk_init P_Disk_init (defScope s_Disk_init) := ⟨rfl, rfl, rfl, by decide +kernel, rfl, by decide +kernel, by decide +kernel⟩
abbrev s_L_draws : Stmt := topS 7
def N_L_draws : List Str := ["_law_script", "_law_start", "_law_most", "_law_draws_here", "_law_cell_here", "_law_number", "_law_mixed", "_law_k"]
def P_L_draws : List Str := ["_law_script", "_law_start", "_law_most"]
theorem sc_L_draws : FnScope N_L_draws P_L_draws (defScope s_L_draws) := ⟨rfl, rfl, rfl, by decide +kernel, rfl, by decide +kernel, by decide +kernel⟩
abbrev s_L_operate : Stmt := topS 11
def N_L_operate : List Str := ["_law_m"]
def P_L_operate : List Str := ["_law_m"]
theorem sc_L_operate : FnScope N_L_operate P_L_operate (defScope s_L_operate) := ⟨rfl, rfl, rfl, by decide +kernel, rfl, by decide +kernel, by decide +kernel⟩
abbrev s_Disk__operate : Stmt := inC (topS 4) 1
def N_Disk__operate : List Str := ["self"]
def P_Disk__operate : List Str := ["self"]
theorem sc_Disk__operate : FnScope N_Disk__operate P_Disk__operate (defScope s_Disk__operate) := ⟨rfl, rfl, rfl, by decide +kernel, rfl, by decide +kernel, by decide +kernel⟩
abbrev s_Disk_write : Stmt := inC (topS 4) 2
def N_Disk_write : List Str := ["self", "offset", "octets"]
def P_Disk_write : List Str := ["self", "offset", "octets"]
theorem sc_Disk_write : FnScope N_Disk_write P_Disk_write (defScope s_Disk_write) := ⟨rfl, rfl, rfl, by decide +kernel, rfl, by decide +kernel, by decide +kernel⟩
abbrev s_Disk__settle : Stmt := inC (topS 4) 5
def N_Disk__settle : List Str := ["self", "kept", "start", "octets", "count", "part"]
def P_Disk__settle : List Str := ["self", "kept"]
theorem sc_Disk__settle : FnScope N_Disk__settle P_Disk__settle (defScope s_Disk__settle) := ⟨rfl, rfl, rfl, by decide +kernel, rfl, by decide +kernel, by decide +kernel⟩
abbrev s_Disk_sync : Stmt := inC (topS 4) 4
def N_Disk_sync : List Str := ["self", "_", "octets"]
def P_Disk_sync : List Str := ["self"]
theorem sc_Disk_sync : FnScope N_Disk_sync P_Disk_sync (defScope s_Disk_sync) := ⟨rfl, rfl, rfl, by decide +kernel, rfl, by decide +kernel, by decide +kernel⟩
abbrev s_Disk_read : Stmt := inC (topS 4) 3
def N_Disk_read : List Str := ["self", "offset", "count", "found", "start", "octets"]
def P_Disk_read : List Str := ["self", "offset", "count"]
theorem sc_Disk_read : FnScope N_Disk_read P_Disk_read (defScope s_Disk_read) := ⟨rfl, rfl, rfl, by decide +kernel, rfl, by decide +kernel, by decide +kernel⟩
abbrev s_L_tried : Stmt := topS 8
def N_L_tried : List Str := ["_law_disk", "_law_act_here", "e"]
def P_L_tried : List Str := ["_law_disk", "_law_act_here"]
theorem sc_L_tried : FnScope N_L_tried P_L_tried (defScope s_L_tried) := ⟨rfl, rfl, rfl, by decide +kernel, rfl, by decide +kernel, by decide +kernel⟩
abbrev s_L_settle : Stmt := topS 10
def N_L_settle : List Str := ["_law_m", "_law_kept", "_law_k", "_law_start", "_law_part", "_law_octets"]
def P_L_settle : List Str := ["_law_m", "_law_kept"]
theorem sc_L_settle : FnScope N_L_settle P_L_settle (defScope s_L_settle) := ⟨rfl, rfl, rfl, by decide +kernel, rfl, by decide +kernel, by decide +kernel⟩
abbrev s_Disk_arm : Stmt := inC (topS 4) 6
def N_Disk_arm : List Str := ["self", "count"]
def P_Disk_arm : List Str := ["self", "count"]
theorem sc_Disk_arm : FnScope N_Disk_arm P_Disk_arm (defScope s_Disk_arm) := ⟨rfl, rfl, rfl, by decide +kernel, rfl, by decide +kernel, by decide +kernel⟩
abbrev s_Disk_fall : Stmt := inC (topS 4) 8
def N_Disk_fall : List Str := ["self", "kept"]
def P_Disk_fall : List Str := ["self", "kept"]
theorem sc_Disk_fall : FnScope N_Disk_fall P_Disk_fall (defScope s_Disk_fall) := ⟨rfl, rfl, rfl, by decide +kernel, rfl, by decide +kernel, by decide +kernel⟩
abbrev s_L_seen : Stmt := topS 9
def N_L_seen : List Str := ["_law_m", "_law_octets", "_law_start", "_law_part"]
def P_L_seen : List Str := ["_law_m"]
theorem sc_L_seen : FnScope N_L_seen P_L_seen (defScope s_L_seen) := ⟨rfl, rfl, rfl, by decide +kernel, rfl, by decide +kernel, by decide +kernel⟩
abbrev s_L_act : Stmt := topS 12
def N_L_act : List Str := ["_law_disk", "_law_m", "_law_number", "_law_kind", "_law_rest", "_law_size", "_law_start", "_law_count", "_law_due", "_law_part", "_law_kept", "_law_k", "_law_write"]
def P_L_act : List Str := ["_law_disk", "_law_m", "_law_number"]
theorem sc_L_act : FnScope N_L_act P_L_act (defScope s_L_act) := ⟨rfl, rfl, rfl, by decide +kernel, rfl, by decide +kernel, by decide +kernel⟩
abbrev s_Disk_pending : Stmt := inC (topS 4) 7
def N_Disk_pending : List Str := ["self"]
def P_Disk_pending : List Str := ["self"]
theorem sc_Disk_pending : FnScope N_Disk_pending P_Disk_pending (defScope s_Disk_pending) := ⟨rfl, rfl, rfl, by decide +kernel, rfl, by decide +kernel, by decide +kernel⟩
abbrev s_law : Stmt := topS 13
def N_law : List Str := ["_law_script", "_law_size", "_law_disk", "_law_m", "_law_draw", "_law_k"]
def P_law : List Str := ["_law_script"]
theorem sc_law : FnScope N_law P_law (defScope s_law) := ⟨rfl, rfl, rfl, by decide +kernel, rfl, by decide +kernel, by decide +kernel⟩
@[simp] theorem ne___init____down : (("__init__" : Str) = "_down") = False := eq_false (by decide)
@[simp] theorem ne___init____left : (("__init__" : Str) = "_left") = False := eq_false (by decide)
@[simp] theorem ne___init____octets : (("__init__" : Str) = "_octets") = False := eq_false (by decide)
@[simp] theorem ne___init____operate : (("__init__" : Str) = "_operate") = False := eq_false (by decide)
@[simp] theorem ne___init____settle : (("__init__" : Str) = "_settle") = False := eq_false (by decide)
@[simp] theorem ne___init____writes : (("__init__" : Str) = "_writes") = False := eq_false (by decide)
@[simp] theorem ne___init___arm : (("__init__" : Str) = "arm") = False := eq_false (by decide)
@[simp] theorem ne___init___fall : (("__init__" : Str) = "fall") = False := eq_false (by decide)
@[simp] theorem ne___init___pending : (("__init__" : Str) = "pending") = False := eq_false (by decide)
@[simp] theorem ne___init___read : (("__init__" : Str) = "read") = False := eq_false (by decide)
@[simp] theorem ne___init___sync : (("__init__" : Str) = "sync") = False := eq_false (by decide)
@[simp] theorem ne___init___write : (("__init__" : Str) = "write") = False := eq_false (by decide)
@[simp] theorem ne__down___init__ : (("_down" : Str) = "__init__") = False := eq_false (by decide)
@[simp] theorem ne__down__left : (("_down" : Str) = "_left") = False := eq_false (by decide)
@[simp] theorem ne__down__octets : (("_down" : Str) = "_octets") = False := eq_false (by decide)
@[simp] theorem ne__down__operate : (("_down" : Str) = "_operate") = False := eq_false (by decide)
@[simp] theorem ne__down__settle : (("_down" : Str) = "_settle") = False := eq_false (by decide)
@[simp] theorem ne__down__writes : (("_down" : Str) = "_writes") = False := eq_false (by decide)
@[simp] theorem ne__down_arm : (("_down" : Str) = "arm") = False := eq_false (by decide)
@[simp] theorem ne__down_fall : (("_down" : Str) = "fall") = False := eq_false (by decide)
@[simp] theorem ne__down_pending : (("_down" : Str) = "pending") = False := eq_false (by decide)
@[simp] theorem ne__down_read : (("_down" : Str) = "read") = False := eq_false (by decide)
@[simp] theorem ne__down_sync : (("_down" : Str) = "sync") = False := eq_false (by decide)
@[simp] theorem ne__down_write : (("_down" : Str) = "write") = False := eq_false (by decide)
@[simp] theorem ne__left___init__ : (("_left" : Str) = "__init__") = False := eq_false (by decide)
@[simp] theorem ne__left__down : (("_left" : Str) = "_down") = False := eq_false (by decide)
@[simp] theorem ne__left__octets : (("_left" : Str) = "_octets") = False := eq_false (by decide)
@[simp] theorem ne__left__operate : (("_left" : Str) = "_operate") = False := eq_false (by decide)
@[simp] theorem ne__left__settle : (("_left" : Str) = "_settle") = False := eq_false (by decide)
@[simp] theorem ne__left__writes : (("_left" : Str) = "_writes") = False := eq_false (by decide)
@[simp] theorem ne__left_arm : (("_left" : Str) = "arm") = False := eq_false (by decide)
@[simp] theorem ne__left_fall : (("_left" : Str) = "fall") = False := eq_false (by decide)
@[simp] theorem ne__left_pending : (("_left" : Str) = "pending") = False := eq_false (by decide)
@[simp] theorem ne__left_read : (("_left" : Str) = "read") = False := eq_false (by decide)
@[simp] theorem ne__left_sync : (("_left" : Str) = "sync") = False := eq_false (by decide)
@[simp] theorem ne__left_write : (("_left" : Str) = "write") = False := eq_false (by decide)
@[simp] theorem ne__octets___init__ : (("_octets" : Str) = "__init__") = False := eq_false (by decide)
@[simp] theorem ne__octets__down : (("_octets" : Str) = "_down") = False := eq_false (by decide)
@[simp] theorem ne__octets__left : (("_octets" : Str) = "_left") = False := eq_false (by decide)
@[simp] theorem ne__octets__operate : (("_octets" : Str) = "_operate") = False := eq_false (by decide)
@[simp] theorem ne__octets__settle : (("_octets" : Str) = "_settle") = False := eq_false (by decide)
@[simp] theorem ne__octets__writes : (("_octets" : Str) = "_writes") = False := eq_false (by decide)
@[simp] theorem ne__octets_arm : (("_octets" : Str) = "arm") = False := eq_false (by decide)
@[simp] theorem ne__octets_fall : (("_octets" : Str) = "fall") = False := eq_false (by decide)
@[simp] theorem ne__octets_pending : (("_octets" : Str) = "pending") = False := eq_false (by decide)
@[simp] theorem ne__octets_read : (("_octets" : Str) = "read") = False := eq_false (by decide)
@[simp] theorem ne__octets_sync : (("_octets" : Str) = "sync") = False := eq_false (by decide)
@[simp] theorem ne__octets_write : (("_octets" : Str) = "write") = False := eq_false (by decide)
@[simp] theorem ne__operate___init__ : (("_operate" : Str) = "__init__") = False := eq_false (by decide)
@[simp] theorem ne__operate__down : (("_operate" : Str) = "_down") = False := eq_false (by decide)
@[simp] theorem ne__operate__left : (("_operate" : Str) = "_left") = False := eq_false (by decide)
@[simp] theorem ne__operate__octets : (("_operate" : Str) = "_octets") = False := eq_false (by decide)
@[simp] theorem ne__operate__settle : (("_operate" : Str) = "_settle") = False := eq_false (by decide)
@[simp] theorem ne__operate__writes : (("_operate" : Str) = "_writes") = False := eq_false (by decide)
@[simp] theorem ne__operate_arm : (("_operate" : Str) = "arm") = False := eq_false (by decide)
@[simp] theorem ne__operate_fall : (("_operate" : Str) = "fall") = False := eq_false (by decide)
@[simp] theorem ne__operate_pending : (("_operate" : Str) = "pending") = False := eq_false (by decide)
@[simp] theorem ne__operate_read : (("_operate" : Str) = "read") = False := eq_false (by decide)
@[simp] theorem ne__operate_sync : (("_operate" : Str) = "sync") = False := eq_false (by decide)
@[simp] theorem ne__operate_write : (("_operate" : Str) = "write") = False := eq_false (by decide)
@[simp] theorem ne__settle___init__ : (("_settle" : Str) = "__init__") = False := eq_false (by decide)
@[simp] theorem ne__settle__down : (("_settle" : Str) = "_down") = False := eq_false (by decide)
@[simp] theorem ne__settle__left : (("_settle" : Str) = "_left") = False := eq_false (by decide)
@[simp] theorem ne__settle__octets : (("_settle" : Str) = "_octets") = False := eq_false (by decide)
@[simp] theorem ne__settle__operate : (("_settle" : Str) = "_operate") = False := eq_false (by decide)
@[simp] theorem ne__settle__writes : (("_settle" : Str) = "_writes") = False := eq_false (by decide)
@[simp] theorem ne__settle_arm : (("_settle" : Str) = "arm") = False := eq_false (by decide)
@[simp] theorem ne__settle_fall : (("_settle" : Str) = "fall") = False := eq_false (by decide)
@[simp] theorem ne__settle_pending : (("_settle" : Str) = "pending") = False := eq_false (by decide)
@[simp] theorem ne__settle_read : (("_settle" : Str) = "read") = False := eq_false (by decide)
@[simp] theorem ne__settle_sync : (("_settle" : Str) = "sync") = False := eq_false (by decide)
@[simp] theorem ne__settle_write : (("_settle" : Str) = "write") = False := eq_false (by decide)
@[simp] theorem ne__writes___init__ : (("_writes" : Str) = "__init__") = False := eq_false (by decide)
@[simp] theorem ne__writes__down : (("_writes" : Str) = "_down") = False := eq_false (by decide)
@[simp] theorem ne__writes__left : (("_writes" : Str) = "_left") = False := eq_false (by decide)
@[simp] theorem ne__writes__octets : (("_writes" : Str) = "_octets") = False := eq_false (by decide)
@[simp] theorem ne__writes__operate : (("_writes" : Str) = "_operate") = False := eq_false (by decide)
@[simp] theorem ne__writes__settle : (("_writes" : Str) = "_settle") = False := eq_false (by decide)
@[simp] theorem ne__writes_arm : (("_writes" : Str) = "arm") = False := eq_false (by decide)
@[simp] theorem ne__writes_fall : (("_writes" : Str) = "fall") = False := eq_false (by decide)
@[simp] theorem ne__writes_pending : (("_writes" : Str) = "pending") = False := eq_false (by decide)
@[simp] theorem ne__writes_read : (("_writes" : Str) = "read") = False := eq_false (by decide)
@[simp] theorem ne__writes_sync : (("_writes" : Str) = "sync") = False := eq_false (by decide)
@[simp] theorem ne__writes_write : (("_writes" : Str) = "write") = False := eq_false (by decide)
@[simp] theorem ne_arm___init__ : (("arm" : Str) = "__init__") = False := eq_false (by decide)
@[simp] theorem ne_arm__down : (("arm" : Str) = "_down") = False := eq_false (by decide)
@[simp] theorem ne_arm__left : (("arm" : Str) = "_left") = False := eq_false (by decide)
@[simp] theorem ne_arm__octets : (("arm" : Str) = "_octets") = False := eq_false (by decide)
@[simp] theorem ne_arm__operate : (("arm" : Str) = "_operate") = False := eq_false (by decide)
@[simp] theorem ne_arm__settle : (("arm" : Str) = "_settle") = False := eq_false (by decide)
@[simp] theorem ne_arm__writes : (("arm" : Str) = "_writes") = False := eq_false (by decide)
@[simp] theorem ne_arm_fall : (("arm" : Str) = "fall") = False := eq_false (by decide)
@[simp] theorem ne_arm_pending : (("arm" : Str) = "pending") = False := eq_false (by decide)
@[simp] theorem ne_arm_read : (("arm" : Str) = "read") = False := eq_false (by decide)
@[simp] theorem ne_arm_sync : (("arm" : Str) = "sync") = False := eq_false (by decide)
@[simp] theorem ne_arm_write : (("arm" : Str) = "write") = False := eq_false (by decide)
@[simp] theorem ne_fall___init__ : (("fall" : Str) = "__init__") = False := eq_false (by decide)
@[simp] theorem ne_fall__down : (("fall" : Str) = "_down") = False := eq_false (by decide)
@[simp] theorem ne_fall__left : (("fall" : Str) = "_left") = False := eq_false (by decide)
@[simp] theorem ne_fall__octets : (("fall" : Str) = "_octets") = False := eq_false (by decide)
@[simp] theorem ne_fall__operate : (("fall" : Str) = "_operate") = False := eq_false (by decide)
@[simp] theorem ne_fall__settle : (("fall" : Str) = "_settle") = False := eq_false (by decide)
@[simp] theorem ne_fall__writes : (("fall" : Str) = "_writes") = False := eq_false (by decide)
@[simp] theorem ne_fall_arm : (("fall" : Str) = "arm") = False := eq_false (by decide)
@[simp] theorem ne_fall_pending : (("fall" : Str) = "pending") = False := eq_false (by decide)
@[simp] theorem ne_fall_read : (("fall" : Str) = "read") = False := eq_false (by decide)
@[simp] theorem ne_fall_sync : (("fall" : Str) = "sync") = False := eq_false (by decide)
@[simp] theorem ne_fall_write : (("fall" : Str) = "write") = False := eq_false (by decide)
@[simp] theorem ne_pending___init__ : (("pending" : Str) = "__init__") = False := eq_false (by decide)
@[simp] theorem ne_pending__down : (("pending" : Str) = "_down") = False := eq_false (by decide)
@[simp] theorem ne_pending__left : (("pending" : Str) = "_left") = False := eq_false (by decide)
@[simp] theorem ne_pending__octets : (("pending" : Str) = "_octets") = False := eq_false (by decide)
@[simp] theorem ne_pending__operate : (("pending" : Str) = "_operate") = False := eq_false (by decide)
@[simp] theorem ne_pending__settle : (("pending" : Str) = "_settle") = False := eq_false (by decide)
@[simp] theorem ne_pending__writes : (("pending" : Str) = "_writes") = False := eq_false (by decide)
@[simp] theorem ne_pending_arm : (("pending" : Str) = "arm") = False := eq_false (by decide)
@[simp] theorem ne_pending_fall : (("pending" : Str) = "fall") = False := eq_false (by decide)
@[simp] theorem ne_pending_read : (("pending" : Str) = "read") = False := eq_false (by decide)
@[simp] theorem ne_pending_sync : (("pending" : Str) = "sync") = False := eq_false (by decide)
@[simp] theorem ne_pending_write : (("pending" : Str) = "write") = False := eq_false (by decide)
@[simp] theorem ne_read___init__ : (("read" : Str) = "__init__") = False := eq_false (by decide)
@[simp] theorem ne_read__down : (("read" : Str) = "_down") = False := eq_false (by decide)
@[simp] theorem ne_read__left : (("read" : Str) = "_left") = False := eq_false (by decide)
@[simp] theorem ne_read__octets : (("read" : Str) = "_octets") = False := eq_false (by decide)
@[simp] theorem ne_read__operate : (("read" : Str) = "_operate") = False := eq_false (by decide)
@[simp] theorem ne_read__settle : (("read" : Str) = "_settle") = False := eq_false (by decide)
@[simp] theorem ne_read__writes : (("read" : Str) = "_writes") = False := eq_false (by decide)
@[simp] theorem ne_read_arm : (("read" : Str) = "arm") = False := eq_false (by decide)
@[simp] theorem ne_read_fall : (("read" : Str) = "fall") = False := eq_false (by decide)
@[simp] theorem ne_read_pending : (("read" : Str) = "pending") = False := eq_false (by decide)
@[simp] theorem ne_read_sync : (("read" : Str) = "sync") = False := eq_false (by decide)
@[simp] theorem ne_read_write : (("read" : Str) = "write") = False := eq_false (by decide)
@[simp] theorem ne_sync___init__ : (("sync" : Str) = "__init__") = False := eq_false (by decide)
@[simp] theorem ne_sync__down : (("sync" : Str) = "_down") = False := eq_false (by decide)
@[simp] theorem ne_sync__left : (("sync" : Str) = "_left") = False := eq_false (by decide)
@[simp] theorem ne_sync__octets : (("sync" : Str) = "_octets") = False := eq_false (by decide)
@[simp] theorem ne_sync__operate : (("sync" : Str) = "_operate") = False := eq_false (by decide)
@[simp] theorem ne_sync__settle : (("sync" : Str) = "_settle") = False := eq_false (by decide)
@[simp] theorem ne_sync__writes : (("sync" : Str) = "_writes") = False := eq_false (by decide)
@[simp] theorem ne_sync_arm : (("sync" : Str) = "arm") = False := eq_false (by decide)
@[simp] theorem ne_sync_fall : (("sync" : Str) = "fall") = False := eq_false (by decide)
@[simp] theorem ne_sync_pending : (("sync" : Str) = "pending") = False := eq_false (by decide)
@[simp] theorem ne_sync_read : (("sync" : Str) = "read") = False := eq_false (by decide)
@[simp] theorem ne_sync_write : (("sync" : Str) = "write") = False := eq_false (by decide)
@[simp] theorem ne_write___init__ : (("write" : Str) = "__init__") = False := eq_false (by decide)
@[simp] theorem ne_write__down : (("write" : Str) = "_down") = False := eq_false (by decide)
@[simp] theorem ne_write__left : (("write" : Str) = "_left") = False := eq_false (by decide)
@[simp] theorem ne_write__octets : (("write" : Str) = "_octets") = False := eq_false (by decide)
@[simp] theorem ne_write__operate : (("write" : Str) = "_operate") = False := eq_false (by decide)
@[simp] theorem ne_write__settle : (("write" : Str) = "_settle") = False := eq_false (by decide)
@[simp] theorem ne_write__writes : (("write" : Str) = "_writes") = False := eq_false (by decide)
@[simp] theorem ne_write_arm : (("write" : Str) = "arm") = False := eq_false (by decide)
@[simp] theorem ne_write_fall : (("write" : Str) = "fall") = False := eq_false (by decide)
@[simp] theorem ne_write_pending : (("write" : Str) = "pending") = False := eq_false (by decide)
@[simp] theorem ne_write_read : (("write" : Str) = "read") = False := eq_false (by decide)
@[simp] theorem ne_write_sync : (("write" : Str) = "sync") = False := eq_false (by decide)
structure Tx (K : PySem.W.Frag) (mg : Str → Option Value) (cA : Str → Option Addr) : Prop where
  C_Disk : ClsAt K mg cA "Disk" ["_octets", "_writes", "_left", "_down"]
  E_DiskFell : ExcAt K mg cA "DiskFell"
  K_DiskFell_1 : CatchAt K mg cA "DiskFell" ["DiskFell"] []
  I_DiskFell_SwarmError : IsEAt K mg cA "DiskFell" "SwarmError" true
  b_abs : mg "abs" = none
  b_int : mg "int" = none
  b_isinstance : mg "isinstance" = none
  b_len : mg "len" = none
  b_list : mg "list" = none
  b_min : mg "min" = none
  b_range : mg "range" = none
  b_tuple : mg "tuple" = none
  b_zip : mg "zip" = none
def b_L_cell : MS := (mSeq (mIfS (toT (mOp oLt (mVar 1) (mCall fLen (mCons (mVar 0) mNil)))) (mRet (mCall fAbs (mCons (mCall fInt (mCons (mOp oIx (mVar 0) (mVar 1)) mNil)) mNil))) mSkip)
  (mRet (mC (.int 0))))
def m_L_cell : MF := runD N_L_cell.length P_L_cell.length b_L_cell
def b_Disk_init : MS := (mSeq (mSetF ["Disk"] "_octets" (mVar 0) (mRf (mRepN (szc (mCons (mC (.int 0)) mNil)) (mVar 1))))
  (mSeq (mSetF ["Disk"] "_writes" (mVar 0) (mRf (szc mNil)))
  (mSeq (mSetF ["Disk"] "_left" (mVar 0) (mC .non))
  (mSetF ["Disk"] "_down" (mVar 0) (mC (.bl false))))))
def m_Disk_init : MF := runD N_Disk_init.length P_Disk_init.length b_Disk_init
def b_L_draws_1 : MS := (mSeq (mIfS (toT (mOp oGt (mVar 5) (mC (.int 0)))) (mApp 3 (mOp oMod (mCall fInt (mCons (mVar 5) mNil)) (mC (.int 1000000)))) mSkip)
  (mSet 5 (mOp oDiv (mVar 5) (mC (.int 1000000)))))
def b_L_draws_2 : MS := (mSeq (mSet 5 (mCall fAbs (mCons (mCall fInt (mCons (mVar 4) mNil)) mNil)))
  (mIfS (toT (mOp oLt (mVar 5) (mOp oPow (mC (.int 10)) (mC (.int 18))))) (mSeq (mSet 6 (mOp oMod (mCall fInt (mCons (mOp oAdd (mOp oMulA (mVar 5) (mC (.int 39373))) (mC (.int 23))) mNil)) (mC (.int 2147483647))))
  (mSeq (mApp 3 (mVar 5))
  (mSeq (mApp 3 (mOp oDiv (mOp oMod (mCall fInt (mCons (mOp oAdd (mOp oAdd (mOp oMulA (mVar 6) (mC (.int 16807))) (mOp oDiv (mVar 5) (mC (.int 6)))) (mC (.int 3))) mNil)) (mC (.int 2147483399))) (mC (.int 3))))
  (mApp 3 (mOp oDiv (mOp oMod (mCall fInt (mCons (mOp oAdd (mOp oAdd (mOp oMulA (mVar 6) (mC (.int 69621))) (mOp oDiv (mVar 5) (mC (.int 11)))) (mC (.int 8))) mNil)) (mC (.int 2147483629))) (mC (.int 7))))))) (mFor (itR1 (mCons (mC (.int 24)) mNil)) (gN 7) b_L_draws_1)))
def b_L_draws : MS := (mSeq (mSetN 3 (szc mNil))
  (mSeq (mFor (itS (mSl (mVar 0) (mOs (mVar 1)) mOn)) (gN 4) b_L_draws_2)
  (mRet (mSl (mOwn 3) mOn (mOs (mVar 2))))))
def m_L_draws : MF := runD N_L_draws.length P_L_draws.length b_L_draws
def b_L_operate : MS := (mSeq (mIfS (toTru (mOp oDGet (mVar 0) (mC (.str "down")))) (mRet (mC (.bl false))) mSkip)
  (mSeq (mIfS (toT (mOp oEq (mOp oDGet (mVar 0) (mC (.str "left"))) (mC (.int 0)))) (mSeq (mDPut (mVar 0) (mC (.str "down")) (mC (.bl true)))
  (mRet (mC (.bl false)))) mSkip)
  (mSeq (mIfS (toT (mOp oGt (mOp oDGet (mVar 0) (mC (.str "left"))) (mC (.int 0)))) (mDPut (mVar 0) (mC (.str "left")) (mOp oSub (mOp oDGet (mVar 0) (mC (.str "left"))) (mC (.int 1)))) mSkip)
  (mRet (mC (.bl true))))))
def m_L_operate : MF := runD N_L_operate.length P_L_operate.length b_L_operate
def b_Disk__operate : MS := (mSeq (mIfS (toTru (mFld ["Disk"] "_down" (mVar 0))) (mRaise "DiskFell") mSkip)
  (mIfS (toT (mOp oIsNot (mFld ["Disk"] "_left" (mVar 0)) (mC .non))) (mSeq (mIfS (toT (mOp oEq (mFld ["Disk"] "_left" (mVar 0)) (mC (.int 0)))) (mSeq (mSetF ["Disk"] "_down" (mVar 0) (mC (.bl true)))
  (mRaise "DiskFell")) mSkip)
  (mFldAug ["Disk"] "_left" (fun a b => a - b) (mVar 0) (mC (.int 1)))) mSkip))
def m_Disk__operate : MF := runD N_Disk__operate.length P_Disk__operate.length b_Disk__operate
def b_Disk_write : MS := (mSeq (mDrop (mMeth "Disk" "_operate" m_Disk__operate (mVar 0) mNil))
  (mAppR (mFld ["Disk"] "_writes" (mVar 0)) (mTup (mCons (mVar 1) (mCons (mCall fTuple (mCons (mVar 2) mNil)) mNil)))))
def m_Disk_write : MF := runD N_Disk_write.length P_Disk_write.length b_Disk_write
def b_Disk__settle_1 : MS := (mSeq (mSet 5 (mSl (mVar 3) mOn (mOs (mVar 4))))
  (mSpliceR (mFld ["Disk"] "_octets" (mVar 0)) (mOs (mVar 2)) (mOs (mOp oAdd (mVar 2) (mCall fLen (mCons (mVar 5) mNil)))) (mVar 5)))
def b_Disk__settle : MS := (mSeq (mForS (jZip (mCons (mFld ["Disk"] "_writes" (mVar 0)) (mCons (mVar 1) mNil))) (gTuA 2 (gCs (gTuA 2 (gCs (gN 2) (gCs (gN 3) gNl))) (gCs (gN 4) gNl))) b_Disk__settle_1)
  (mSetF ["Disk"] "_writes" (mVar 0) (mRf (szc mNil))))
def m_Disk__settle : MF := runD N_Disk__settle.length P_Disk__settle.length b_Disk__settle
def b_Disk_sync : MS := (mSeq (mDrop (mMeth "Disk" "_operate" m_Disk__operate (mVar 0) mNil))
  (mDrop (mMeth "Disk" "_settle" m_Disk__settle (mVar 0) (mCons (mFz (mLcS (jSeq (mFld ["Disk"] "_writes" (mVar 0))) [1, 2] (gTuA 2 (gCs (gN 1) (gCs (gN 2) gNl))) mYes (mCall fLen (mCons (mVar 2) mNil)))) mNil))))
def m_Disk_sync : MF := runD N_Disk_sync.length P_Disk_sync.length b_Disk_sync
def b_Disk_read_1 : MS := (mSplice 3 (mOs (mVar 4)) (mOs (mOp oAdd (mVar 4) (mCall fLen (mCons (mVar 5) mNil)))) (mVar 5))
def b_Disk_read : MS := (mSeq (mIfS (toTru (mFld ["Disk"] "_down" (mVar 0))) (mRaise "DiskFell") mSkip)
  (mSeq (mSetN 3 (mCallN (dC fList) (mCons (mFld ["Disk"] "_octets" (mVar 0)) mNil)))
  (mSeq (mForS (jSeq (mFld ["Disk"] "_writes" (mVar 0))) (gTuA 2 (gCs (gN 4) (gCs (gN 5) gNl))) b_Disk_read_1)
  (mRet (mCall fTuple (mCons (mSl (mOwn 3) (mOs (mVar 1)) (mOs (mOp oAdd (mVar 1) (mVar 2)))) mNil))))))
def m_Disk_read : MF := runD N_Disk_read.length P_Disk_read.length b_Disk_read
def b_L_tried : MS := (mSeq (mTryAs ["DiskFell"] [] 2 (mIfS (toT (mOp oEq (mOp oIx (mVar 1) (mC (.int 0))) (mC (.str "write")))) (mDrop (mMeth "Disk" "write" m_Disk_write (mVar 0) (mCons (mOp oIx (mVar 1) (mC (.int 1))) (mCons (mOp oIx (mVar 1) (mC (.int 2))) mNil)))) (mIfS (toT (mOp oEq (mOp oIx (mVar 1) (mC (.int 0))) (mC (.str "sync")))) (mDrop (mMeth "Disk" "sync" m_Disk_sync (mVar 0) mNil)) (mRet (mMeth "Disk" "read" m_Disk_read (mVar 0) (mCons (mOp oIx (mVar 1) (mC (.int 1))) (mCons (mOp oIx (mVar 1) (mC (.int 2))) mNil)))))) (fun _ => (mIfS (toTru (mIsX 2 true)) (mRet (mC (.str "fell"))) mSkip)))
  (mRet (mC .non)))
def m_L_tried : MF := runD N_L_tried.length P_L_tried.length b_L_tried
def b_L_settle_1 : MS := (mSeq (mAsg (mOp (dX oIx) (mOp oDGet (mVar 0) (mC (.str "writes"))) (mVar 2)) (gTuA 2 (gCs (gN 3) (gCs (gN 4) gNl))))
  (mSeq (mSet 4 (mSl (mVar 4) mOn (mOs (mOp oIx (mVar 1) (mVar 2)))))
  (mSeq (mSet 5 (mOp oDGet (mVar 0) (mC (.str "octets"))))
  (mSpliceR (mVar 5) (mOs (mVar 3)) (mOs (mOp oAdd (mVar 3) (mCall fLen (mCons (mVar 4) mNil)))) (mVar 4)))))
def b_L_settle : MS := (mSeq (mFor (itR1 (mCons (mCall fMin2 (mCons (mCall fLen (mCons (mVar 1) mNil)) (mCons (mCall (dC fLen) (mCons (mOp oDGet (mVar 0) (mC (.str "writes"))) mNil)) mNil))) mNil)) (gN 2) b_L_settle_1)
  (mDPut (mVar 0) (mC (.str "writes")) (mRf (szc mNil))))
def m_L_settle : MF := runD N_L_settle.length P_L_settle.length b_L_settle
def b_Disk_arm : MS := (mIfS (mNotT (toTru (mFld ["Disk"] "_down" (mVar 0)))) (mSetF ["Disk"] "_left" (mVar 0) (mVar 1)) mSkip)
def m_Disk_arm : MF := runD N_Disk_arm.length P_Disk_arm.length b_Disk_arm
def b_Disk_fall : MS := (mSeq (mDrop (mMeth "Disk" "_settle" m_Disk__settle (mVar 0) (mCons (mVar 1) mNil)))
  (mSeq (mSetF ["Disk"] "_left" (mVar 0) (mC .non))
  (mSetF ["Disk"] "_down" (mVar 0) (mC (.bl false)))))
def m_Disk_fall : MF := runD N_Disk_fall.length P_Disk_fall.length b_Disk_fall
def b_L_seen_1 : MS := (mSplice 1 (mOs (mVar 2)) (mOs (mOp oAdd (mVar 2) (mCall fLen (mCons (mVar 3) mNil)))) (mVar 3))
def b_L_seen : MS := (mSeq (mSetN 1 (mCallN (dC fList) (mCons (mOp oDGet (mVar 0) (mC (.str "octets"))) mNil)))
  (mSeq (mForS (jSeq (mOp oDGet (mVar 0) (mC (.str "writes")))) (gTuA 2 (gCs (gN 2) (gCs (gN 3) gNl))) b_L_seen_1)
  (mRetOwn 1)))
def m_L_seen : MF := runD N_L_seen.length P_L_seen.length b_L_seen
def b_L_act : MS := (mSeq (mSet 3 (mOp oMod (mVar 2) (mC (.int 9))))
  (mSeq (mSet 4 (mOp oDiv (mVar 2) (mC (.int 9))))
  (mSeq (mSet 5 (mCall (dC fLen) (mCons (mOp oDGet (mVar 1) (mC (.str "octets"))) mNil)))
  (mSeq (mIfS (toT (mOp oLt (mVar 3) (mC (.int 4)))) (mSeq (mSet 7 (mCall fMin2 (mCons (mOp oMod (mVar 4) (mC (.int 13))) (mCons (mVar 5) mNil))))
  (mSeq (mSet 6 (mOp oMod (mOp oDiv (mVar 4) (mC (.int 13))) (mOp oAdd (mOp oSub (mVar 5) (mVar 7)) (mC (.int 1)))))
  (mSeq (mSet 9 (mCall fTuple (mCons (mFz (mLc (itR1 (mCons (mVar 7) mNil)) [11] (gN 11) mYes (mOp oMod (mCall fInt (mCons (mOp oAdd (mOp oDiv (mVar 4) (mC (.int 200))) (mOp oMulA (mC (.int 41)) (mVar 11))) mNil)) (mC (.int 256))))) mNil)))
  (mSeq (mSet 8 (mCall m_L_operate (mCons (mVar 1) mNil)))
  (mSeq (mIfS (toTru (mVar 8)) (mDPut (mVar 1) (mC (.str "writes")) (mRf (mAddD (mOp oDGet (mVar 1) (mC (.str "writes"))) (mFz (szc (mCons (mTup (mCons (mVar 6) (mCons (mVar 9) mNil))) mNil)))))) mSkip)
  (mRet (mOp oEq (mCall m_L_tried (mCons (mVar 0) (mCons (mTup (mCons (mC (.str "write")) (mCons (mVar 6) (mCons (mVar 9) mNil)))) mNil))) (mOp oIx (mFz (szc (mCons (mC .non) (mCons (mC (.str "fell")) mNil)))) (mCall fInt (mCons (mNotV (mVar 8)) mNil)))))))))) mSkip)
  (mSeq (mIfS (toT (mOp oEq (mVar 3) (mC (.int 4)))) (mSeq (mSet 8 (mCall m_L_operate (mCons (mVar 1) mNil)))
  (mSeq (mIfS (toTru (mVar 8)) (mDrop (mCall m_L_settle (mCons (mVar 1) (mCons (mFz (mLcS (jSeq (mOp oDGet (mVar 1) (mC (.str "writes")))) [12] (gN 12) mYes (mVar 5))) mNil)))) mSkip)
  (mRet (mOp oEq (mCall m_L_tried (mCons (mVar 0) (mCons (mTup (mCons (mC (.str "sync")) mNil)) mNil))) (mOp oIx (mFz (szc (mCons (mC .non) (mCons (mC (.str "fell")) mNil)))) (mCall fInt (mCons (mNotV (mVar 8)) mNil))))))) mSkip)
  (mSeq (mIfS (toT (mOp oEq (mVar 3) (mC (.int 5)))) (mSeq (mIfS (mNotT (toTru (mOp oDGet (mVar 1) (mC (.str "down"))))) (mDPut (mVar 1) (mC (.str "left")) (mOp oMod (mVar 4) (mC (.int 4)))) mSkip)
  (mRet (mOp oIs (mMeth "Disk" "arm" m_Disk_arm (mVar 0) (mCons (mOp oMod (mVar 4) (mC (.int 4))) mNil)) (mC .non)))) mSkip)
  (mSeq (mIfS (toT (mOp oEq (mVar 3) (mC (.int 6)))) (mSeq (mSet 10 (mFz (mLc (itR1 (mCons (mOp oMod (mOp oDiv (mVar 4) (mC (.int 7))) (mC (.int 6))) mNil)) [11] (gN 11) mYes (mOp oMod (mOp oDiv (mVar 4) (mOp oAdd (mC (.int 1)) (mOp oMulA (mC (.int 3)) (mVar 11)))) (mC (.int 14))))))
  (mSeq (mDrop (mCall m_L_settle (mCons (mVar 1) (mCons (mVar 10) mNil))))
  (mSeq (mDPut (mVar 1) (mC (.str "left")) (mUn oNeg (mC (.int 1))))
  (mSeq (mDPut (mVar 1) (mC (.str "down")) (mC (.bl false)))
  (mRet (mOp oIs (mMeth "Disk" "fall" m_Disk_fall (mVar 0) (mCons (mOp oIx (mFz (szc (mCons (mVar 10) (mCons (mCall fTuple (mCons (mVar 10) mNil)) mNil)))) (mOp oMod (mOp oDiv (mVar 4) (mC (.int 42))) (mC (.int 2)))) mNil)) (mC .non))))))) mSkip)
  (mSeq (mSet 6 (mOp oMod (mVar 4) (mOp oAdd (mVar 5) (mC (.int 1)))))
  (mSeq (mSet 7 (mOp oMod (mOp oDiv (mVar 4) (mC (.int 50))) (mOp oAdd (mOp oSub (mVar 5) (mVar 6)) (mC (.int 1)))))
  (mSeq (mSet 8 (mIf (toTru (mOp oDGet (mVar 1) (mC (.str "down")))) (mC (.str "fell")) (mCall fTuple (mCons (mSl (mCall m_L_seen (mCons (mVar 1) mNil)) (mOs (mVar 6)) (mOs (mOp oAdd (mVar 6) (mVar 7)))) mNil))))
  (mRet (mOp oEq (mCall m_L_tried (mCons (mVar 0) (mCons (mTup (mCons (mC (.str "read")) (mCons (mVar 6) (mCons (mVar 7) mNil)))) mNil))) (mVar 8)))))))))))))
def m_L_act : MF := runD N_L_act.length P_L_act.length b_L_act
def b_Disk_pending : MS := (mRet (mCall (dC fLen) (mCons (mFld ["Disk"] "_writes" (mVar 0)) mNil)))
def m_Disk_pending : MF := runD N_Disk_pending.length P_Disk_pending.length b_Disk_pending
def b_law_1 : MS := (mSeq (mIfS (mNotT (toTru (mCall m_L_act (mCons (mVar 2) (mCons (mVar 3) (mCons (mVar 4) mNil)))))) (mRet (mC (.bl false))) mSkip)
  (mSeq (mIfS (toT (mOp oNe (mMeth "Disk" "pending" m_Disk_pending (mVar 2) mNil) (mCall (dC fLen) (mCons (mOp oDGet (mVar 3) (mC (.str "writes"))) mNil)))) (mRet (mC (.bl false))) mSkip)
  (mIfS (mAndT (mNotT (toTru (mOp oDGet (mVar 3) (mC (.str "down"))))) (toT (mOp oNe (mMeth "Disk" "read" m_Disk_read (mVar 2) (mCons (mC (.int 0)) (mCons (mVar 1) mNil))) (mCall fTuple (mCons (mCall m_L_seen (mCons (mVar 3) mNil)) mNil))))) (mRet (mC (.bl false))) mSkip)))
def b_law : MS := (mSeq (mSet 1 (mOp oMod (mCall m_L_cell (mCons (mVar 0) (mCons (mC (.int 0)) mNil))) (mC (.int 41))))
  (mSeq (mSet 2 (mMake "Disk" m_Disk_init (mCons (mVar 1) mNil)))
  (mSeq (mSet 3 (mDisp [Sum.inr "octets", Sum.inr "writes", Sum.inr "left", Sum.inr "down"] (mCons (mRf (mLc (itR1 (mCons (mVar 1) mNil)) [5] (gN 5) mYes (mC (.int 0)))) (mCons (mRf (szc mNil)) (mCons (mUn oNeg (mC (.int 1))) (mCons (mC (.bl false)) mNil))))))
  (mSeq (mFor (itS (mCall m_L_draws (mCons (mVar 0) (mCons (mC (.int 1)) (mCons (mC (.int 60)) mNil))))) (gN 4) b_law_1)
  (mRet (mC (.bl true)))))))
def m_law : MF := runD N_law.length P_law.length b_law
section
variable {P : Program} {w : World} {K : PySem.W.Frag} {mg : Str → Option Value} {base : Heap} {cA : Str → Option Addr}
theorem f_L_cell (T : Tx K mg cA)  {f : Addr} {fd : FuncData} (Fn : Fun K "_law_cell" "_law_cell" s_L_cell f fd) : FnOk P w K mg base (L2.CX P w) 1 f fd P_L_cell (spM ⟨K, cA, 0, none⟩ (runD N_L_cell.length P_L_cell.length b_L_cell)) := by
  refine ok_def (b := b_L_cell) (N := N_L_cell) (ps := P_L_cell) (cA := cA) Fn sc_L_cell ?_
  intro cdv A outer s H E ok
  unfold b_L_cell
  exact (sss_cons (ss_if (st_c (c_lt ok) (SE.b (se_var 1)) (SE.b (se_len T.b_len (sab_cons (SE.b (se_var 0)) sab_nil)))) (sss_one (ss_ret (se_abs T.b_abs (sab_cons (SE.b (se_intc T.b_int (sab_cons (SE.b (se_ix (SE.b (se_var 0)) (SE.b (se_var 1)))) sab_nil))) sab_nil)))) sss_nil)
      (sss_one (ss_ret se_int)))
theorem d_L_cell (T : Tx K mg cA)  (A : DefAt K mg "_law_cell" s_L_cell) : DefOk P w K mg base cA 1 "_law_cell" P_L_cell m_L_cell :=
  A.ok (fun f fd Fn => f_L_cell T  Fn) (fun _ _ _ _ _ _ us hl => match us, hl with | [_, _], _ => rfl)
theorem f_Disk_init (T : Tx K mg cA)  {f : Addr} {fd : FuncData} (Fn : Fun K "__init__" "Disk.__init__" s_Disk_init f fd) : FnOk P w K mg base (L2.CX P w) 1 f fd P_Disk_init (spM ⟨K, cA, 0, none⟩ (runD N_Disk_init.length P_Disk_init.length b_Disk_init)) := by
  refine ok_def (b := b_Disk_init) (N := N_Disk_init) (ps := P_Disk_init) (cA := cA) Fn sc_Disk_init ?_
  intro cdv A outer s H E ok
  unfold b_Disk_init
  exact (sss_cons (ss_fld (cs := ["Disk"]) (se_var 0) (SN.rf (sn_rep (sn_lst (sa_cons se_int sa_nil)) (SE.b (se_var 1)))) (cl_cons 0 T.C_Disk cl_nil))
      (sss_cons (ss_fld (cs := ["Disk"]) (se_var 0) (SN.rf (sn_lst sa_nil)) (cl_cons 1 T.C_Disk cl_nil))
      (sss_cons (ss_fld (cs := ["Disk"]) (se_var 0) se_non (cl_cons 2 T.C_Disk cl_nil))
      (sss_one (ss_fld (cs := ["Disk"]) (se_var 0) se_bl (cl_cons 3 T.C_Disk cl_nil))))))
theorem di_Disk_init (T : Tx K mg cA)  (A : MakeAt K mg "Disk" "Disk.__init__" s_Disk_init) : MakeOk P w K mg base cA 1 "Disk" P_Disk_init m_Disk_init :=
  A.ok T.C_Disk (fun f fd Fn => f_Disk_init T  Fn) (fun _ _ _ _ _ _ us hl => match us, hl with | [_, _], _ => rfl)
theorem f_L_draws (T : Tx K mg cA)  {f : Addr} {fd : FuncData} (Fn : Fun K "_law_draws" "_law_draws" s_L_draws f fd) : FnOk P w K mg base (L2.CX P w) 1 f fd P_L_draws (spM ⟨K, cA, 0, none⟩ (runD N_L_draws.length P_L_draws.length b_L_draws)) := by
  refine ok_def (b := b_L_draws) (N := N_L_draws) (ps := P_L_draws) (cA := cA) Fn sc_L_draws ?_
  intro cdv A outer s H E ok
  unfold b_L_draws
  unfold b_L_draws_2 b_L_draws_1
  exact (sss_cons (ss_setN 3 ok (sn_lst sa_nil))
      (sss_cons (ss_for ok rfl (si_seq (se_sl (SE.b (se_var 0)) (so_some (SE.b (se_var 1))) so_none)) (sg_name 4 ok) (sss_cons (ss_set 5 ok (se_abs T.b_abs (sab_cons (SE.b (se_intc T.b_int (sab_cons (SE.b (se_var 4)) sab_nil))) sab_nil)))
      (sss_one (ss_if (st_c (c_lt ok) (SE.b (se_var 5)) (SE.b (se_pow (SE.b se_int) (SE.b se_int)))) (sss_cons (ss_set 6 ok (se_mod (SE.b (se_intc T.b_int (sab_cons (SE.b (se_add (SE.b (se_mulA (SE.b (se_var 5)) (SE.b se_int))) (SE.b se_int))) sab_nil))) (SE.b se_int)))
      (sss_cons (ss_app 3 (se_var 5))
      (sss_cons (ss_app 3 (se_div (SE.b (se_mod (SE.b (se_intc T.b_int (sab_cons (SE.b (se_add (SE.b (se_add (SE.b (se_mulA (SE.b (se_var 6)) (SE.b se_int))) (SE.b (se_div (SE.b (se_var 5)) (SE.b se_int))))) (SE.b se_int))) sab_nil))) (SE.b se_int))) (SE.b se_int)))
      (sss_one (ss_app 3 (se_div (SE.b (se_mod (SE.b (se_intc T.b_int (sab_cons (SE.b (se_add (SE.b (se_add (SE.b (se_mulA (SE.b (se_var 6)) (SE.b se_int))) (SE.b (se_div (SE.b (se_var 5)) (SE.b se_int))))) (SE.b se_int))) sab_nil))) (SE.b se_int))) (SE.b se_int))))))) (sss_one (ss_for ok rfl (si_range1 T.b_range (sa_cons se_int sa_nil)) (sg_name 7 ok) (sss_cons (ss_if (st_c (c_gt ok) (SE.b (se_var 5)) (SE.b se_int)) (sss_one (ss_app 3 (se_mod (SE.b (se_intc T.b_int (sab_cons (SE.b (se_var 5)) sab_nil))) (SE.b se_int)))) sss_nil)
      (sss_one (ss_set 5 ok (se_div (SE.b (se_var 5)) (SE.b se_int)))))))))))
      (sss_one (ss_ret (se_sl (sb_var 3) so_none (so_some (SE.b (se_var 2))))))))
theorem d_L_draws (T : Tx K mg cA)  (A : DefAt K mg "_law_draws" s_L_draws) : DefOk P w K mg base cA 1 "_law_draws" P_L_draws m_L_draws :=
  A.ok (fun f fd Fn => f_L_draws T  Fn) (fun _ _ _ _ _ _ us hl => match us, hl with | [_, _, _], _ => rfl)
theorem f_L_operate (T : Tx K mg cA)  {f : Addr} {fd : FuncData} (Fn : Fun K "_law_operate" "_law_operate" s_L_operate f fd) : FnOk P w K mg base (L2.CX P w) 1 f fd P_L_operate (spM ⟨K, cA, 0, none⟩ (runD N_L_operate.length P_L_operate.length b_L_operate)) := by
  refine ok_def (b := b_L_operate) (N := N_L_operate) (ps := P_L_operate) (cA := cA) Fn sc_L_operate ?_
  intro cdv A outer s H E ok
  unfold b_L_operate
  exact (sss_cons (ss_if (st_tru (SE.b (se_dget ok (se_var 0) (SE.b se_str)))) (sss_one (ss_ret se_bl)) sss_nil)
      (sss_cons (ss_if (st_c (c_eq ok) (SE.b (se_dget ok (se_var 0) (SE.b se_str))) (SE.b se_int)) (sss_cons (ss_dput ok se_bl (se_var 0) (SE.b se_str))
      (sss_one (ss_ret se_bl))) sss_nil)
      (sss_cons (ss_if (st_c (c_gt ok) (SE.b (se_dget ok (se_var 0) (SE.b se_str))) (SE.b se_int)) (sss_one (ss_dput ok (se_sub (SE.b (se_dget ok (se_var 0) (SE.b se_str))) (SE.b se_int)) (se_var 0) (SE.b se_str))) sss_nil)
      (sss_one (ss_ret se_bl)))))
theorem d_L_operate (T : Tx K mg cA)  (A : DefAt K mg "_law_operate" s_L_operate) : DefOk P w K mg base cA 1 "_law_operate" P_L_operate m_L_operate :=
  A.ok (fun f fd Fn => f_L_operate T  Fn) (fun _ _ _ _ _ _ us hl => match us, hl with | [_], _ => rfl)
theorem f_Disk__operate (T : Tx K mg cA)  {f : Addr} {fd : FuncData} (Fn : Fun K "_operate" "Disk._operate" s_Disk__operate f fd) : FnOk P w K mg base (L2.CX P w) 1 f fd P_Disk__operate (spM ⟨K, cA, 0, none⟩ (runD N_Disk__operate.length P_Disk__operate.length b_Disk__operate)) := by
  refine ok_def (b := b_Disk__operate) (N := N_Disk__operate) (ps := P_Disk__operate) (cA := cA) Fn sc_Disk__operate ?_
  intro cdv A outer s H E ok
  unfold b_Disk__operate
  exact (sss_cons (ss_if (st_tru (SE.b (se_fld (cs := ["Disk"]) (se_var 0) (cl_cons 3 T.C_Disk cl_nil)))) (sss_one (ss_raise rfl ok T.E_DiskFell)) sss_nil)
      (sss_one (ss_if (st_c c_isNot (SE.b (se_fld (cs := ["Disk"]) (se_var 0) (cl_cons 2 T.C_Disk cl_nil))) (SE.b se_non)) (sss_cons (ss_if (st_c (c_eq ok) (SE.b (se_fld (cs := ["Disk"]) (se_var 0) (cl_cons 2 T.C_Disk cl_nil))) (SE.b se_int)) (sss_cons (ss_fld (cs := ["Disk"]) (se_var 0) se_bl (cl_cons 3 T.C_Disk cl_nil))
      (sss_one (ss_raise rfl ok T.E_DiskFell))) sss_nil)
      (sss_one (ss_fldSub (cs := ["Disk"]) (se_var 0) (SE.b se_int) (cl_cons 2 T.C_Disk cl_nil)))) sss_nil)))
theorem dm_Disk__operate (T : Tx K mg cA)  (A : MethAt K mg "Disk" "_operate" "Disk._operate" s_Disk__operate) : MethOk P w K mg base cA 1 "Disk" "_operate" P_Disk__operate m_Disk__operate :=
  A.ok T.C_Disk (fun f fd Fn => f_Disk__operate T  Fn) (fun _ _ _ _ _ _ us hl => match us, hl with | [_], _ => rfl)
theorem f_Disk_write (T : Tx K mg cA) (GM_Disk__operate : MethOk P w K mg base cA 1 "Disk" "_operate" P_Disk__operate m_Disk__operate) {f : Addr} {fd : FuncData} (Fn : Fun K "write" "Disk.write" s_Disk_write f fd) : FnOk P w K mg base (L2.CX P w) 2 f fd P_Disk_write (spM ⟨K, cA, 0, none⟩ (runD N_Disk_write.length P_Disk_write.length b_Disk_write)) := by
  refine ok_def (b := b_Disk_write) (N := N_Disk_write) (ps := P_Disk_write) (cA := cA) Fn sc_Disk_write ?_
  intro cdv A outer s H E ok
  unfold b_Disk_write
  exact (sss_cons (ss_expr (SE.b (se_meth0 ok (se_var 0) GM_Disk__operate (Nat.le_of_ble_eq_true rfl))))
      (sss_one (ss_appR (se_fld (cs := ["Disk"]) (se_var 0) (cl_cons 1 T.C_Disk cl_nil)) (se_tup (sa_cons (se_var 1) (sa_cons (se_tuple T.b_tuple (sab_cons (SE.b (se_var 2)) sab_nil)) sa_nil))))))
theorem dm_Disk_write (T : Tx K mg cA) (GM_Disk__operate : MethOk P w K mg base cA 1 "Disk" "_operate" P_Disk__operate m_Disk__operate) (A : MethAt K mg "Disk" "write" "Disk.write" s_Disk_write) : MethOk P w K mg base cA 2 "Disk" "write" P_Disk_write m_Disk_write :=
  A.ok T.C_Disk (fun f fd Fn => f_Disk_write T GM_Disk__operate Fn) (fun _ _ _ _ _ _ us hl => match us, hl with | [_, _, _], _ => rfl)
theorem f_Disk__settle (T : Tx K mg cA)  {f : Addr} {fd : FuncData} (Fn : Fun K "_settle" "Disk._settle" s_Disk__settle f fd) : FnOk P w K mg base (L2.CX P w) 1 f fd P_Disk__settle (spM ⟨K, cA, 0, none⟩ (runD N_Disk__settle.length P_Disk__settle.length b_Disk__settle)) := by
  refine ok_def (b := b_Disk__settle) (N := N_Disk__settle) (ps := P_Disk__settle) (cA := cA) Fn sc_Disk__settle ?_
  intro cdv A outer s H E ok
  unfold b_Disk__settle
  unfold b_Disk__settle_1
  exact (sss_cons (ss_forS ok rfl (sir_zip T.b_zip (sa_cons (se_fld (cs := ["Disk"]) (se_var 0) (cl_cons 1 T.C_Disk cl_nil)) (sa_cons (se_var 1) sa_nil))) (sg_tupA rfl (sgs_cons (sg_tupA rfl (sgs_cons (sg_name 2 ok) (sgs_cons (sg_name 3 ok) sgs_nil))) (sgs_cons (sg_name 4 ok) sgs_nil))) (sss_cons (ss_set 5 ok (se_sl (SE.b (se_var 3)) so_none (so_some (SE.b (se_var 4)))))
      (sss_one (ss_spliceR (se_var 5) (se_fld (cs := ["Disk"]) (se_var 0) (cl_cons 0 T.C_Disk cl_nil)) (so_some (SE.b (se_var 2))) (so_some (SE.b (se_add (SE.b (se_var 2)) (SE.b (se_len T.b_len (sab_cons (SE.b (se_var 5)) sab_nil))))))))))
      (sss_one (ss_fld (cs := ["Disk"]) (se_var 0) (SN.rf (sn_lst sa_nil)) (cl_cons 1 T.C_Disk cl_nil))))
theorem dm_Disk__settle (T : Tx K mg cA)  (A : MethAt K mg "Disk" "_settle" "Disk._settle" s_Disk__settle) : MethOk P w K mg base cA 1 "Disk" "_settle" P_Disk__settle m_Disk__settle :=
  A.ok T.C_Disk (fun f fd Fn => f_Disk__settle T  Fn) (fun _ _ _ _ _ _ us hl => match us, hl with | [_, _], _ => rfl)
theorem f_Disk_sync (T : Tx K mg cA) (GM_Disk__operate : MethOk P w K mg base cA 1 "Disk" "_operate" P_Disk__operate m_Disk__operate) (GM_Disk__settle : MethOk P w K mg base cA 1 "Disk" "_settle" P_Disk__settle m_Disk__settle) {f : Addr} {fd : FuncData} (Fn : Fun K "sync" "Disk.sync" s_Disk_sync f fd) : FnOk P w K mg base (L2.CX P w) 2 f fd P_Disk_sync (spM ⟨K, cA, 0, none⟩ (runD N_Disk_sync.length P_Disk_sync.length b_Disk_sync)) := by
  refine ok_def (b := b_Disk_sync) (N := N_Disk_sync) (ps := P_Disk_sync) (cA := cA) Fn sc_Disk_sync ?_
  intro cdv A outer s H E ok
  unfold b_Disk_sync
  exact (sss_cons (ss_expr (SE.b (se_meth0 ok (se_var 0) GM_Disk__operate (Nat.le_of_ble_eq_true rfl))))
      (sss_one (ss_expr (SE.b (se_meth ok (se_var 0) GM_Disk__settle (Nat.le_of_ble_eq_true rfl) (sa_cons (SN.fz (sn_lcS (own := [(("_" : Str), 1), (("octets" : Str), 2)]) (is := [1, 2]) ok rfl (sir_seq (se_fld (cs := ["Disk"]) (se_var 0) (cl_cons 1 T.C_Disk cl_nil))) (fun _ => blkOk_by (by kernel_rfl)) (sg_tupA rfl (sgs_cons (sg_name 1 (Fam.blk_ok ok _)) (sgs_cons (sg_name 2 (Fam.blk_ok ok _)) sgs_nil))) (by decide) sts_nil (se_len T.b_len (sab_cons (SE.b (se_var 2)) sab_nil)))) sa_nil))))))
theorem dm_Disk_sync (T : Tx K mg cA) (GM_Disk__operate : MethOk P w K mg base cA 1 "Disk" "_operate" P_Disk__operate m_Disk__operate) (GM_Disk__settle : MethOk P w K mg base cA 1 "Disk" "_settle" P_Disk__settle m_Disk__settle) (A : MethAt K mg "Disk" "sync" "Disk.sync" s_Disk_sync) : MethOk P w K mg base cA 2 "Disk" "sync" P_Disk_sync m_Disk_sync :=
  A.ok T.C_Disk (fun f fd Fn => f_Disk_sync T GM_Disk__operate GM_Disk__settle Fn) (fun _ _ _ _ _ _ us hl => match us, hl with | [_], _ => rfl)
theorem f_Disk_read (T : Tx K mg cA)  {f : Addr} {fd : FuncData} (Fn : Fun K "read" "Disk.read" s_Disk_read f fd) : FnOk P w K mg base (L2.CX P w) 1 f fd P_Disk_read (spM ⟨K, cA, 0, none⟩ (runD N_Disk_read.length P_Disk_read.length b_Disk_read)) := by
  refine ok_def (b := b_Disk_read) (N := N_Disk_read) (ps := P_Disk_read) (cA := cA) Fn sc_Disk_read ?_
  intro cdv A outer s H E ok
  unfold b_Disk_read
  unfold b_Disk_read_1
  exact (sss_cons (ss_if (st_tru (SE.b (se_fld (cs := ["Disk"]) (se_var 0) (cl_cons 3 T.C_Disk cl_nil)))) (sss_one (ss_raise rfl ok T.E_DiskFell)) sss_nil)
      (sss_cons (ss_setN 3 ok (sn_listD T.b_list (sab_cons (SE.b (se_fld (cs := ["Disk"]) (se_var 0) (cl_cons 0 T.C_Disk cl_nil))) sab_nil)))
      (sss_cons (ss_forS ok rfl (sir_seq (se_fld (cs := ["Disk"]) (se_var 0) (cl_cons 1 T.C_Disk cl_nil))) (sg_tupA rfl (sgs_cons (sg_name 4 ok) (sgs_cons (sg_name 5 ok) sgs_nil))) (sss_one (ss_splice 3 (se_var 5) (so_some (SE.b (se_var 4))) (so_some (SE.b (se_add (SE.b (se_var 4)) (SE.b (se_len T.b_len (sab_cons (SE.b (se_var 5)) sab_nil)))))))))
      (sss_one (ss_ret (se_tuple T.b_tuple (sab_cons (SE.b (se_sl (sb_var 3) (so_some (SE.b (se_var 1))) (so_some (SE.b (se_add (SE.b (se_var 1)) (SE.b (se_var 2))))))) sab_nil)))))))
theorem dm_Disk_read (T : Tx K mg cA)  (A : MethAt K mg "Disk" "read" "Disk.read" s_Disk_read) : MethOk P w K mg base cA 1 "Disk" "read" P_Disk_read m_Disk_read :=
  A.ok T.C_Disk (fun f fd Fn => f_Disk_read T  Fn) (fun _ _ _ _ _ _ us hl => match us, hl with | [_, _, _], _ => rfl)
theorem f_L_tried (T : Tx K mg cA) (GM_Disk_write : MethOk P w K mg base cA 2 "Disk" "write" P_Disk_write m_Disk_write) (GM_Disk_sync : MethOk P w K mg base cA 2 "Disk" "sync" P_Disk_sync m_Disk_sync) (GM_Disk_read : MethOk P w K mg base cA 1 "Disk" "read" P_Disk_read m_Disk_read) {f : Addr} {fd : FuncData} (Fn : Fun K "_law_tried" "_law_tried" s_L_tried f fd) : FnOk P w K mg base (L2.CX P w) 3 f fd P_L_tried (spM ⟨K, cA, 0, none⟩ (runD N_L_tried.length P_L_tried.length b_L_tried)) := by
  refine ok_def (b := b_L_tried) (N := N_L_tried) (ps := P_L_tried) (cA := cA) Fn sc_L_tried ?_
  intro cdv A outer s H E ok
  unfold b_L_tried
  exact (sss_cons (ss_tryAs (cs := ["DiskFell"]) (no := []) (i := 2) ok T.K_DiskFell_1 (sss_one (ss_if (st_c (c_eq (Fam.tr_ok ok)) (SE.b (se_ix (SE.b (se_var 1)) (SE.b se_int))) (SE.b se_str)) (sss_one (ss_expr (SE.b (se_meth (Fam.tr_ok ok) (se_var 0) GM_Disk_write (Nat.le_of_ble_eq_true rfl) (sa_cons (se_ix (SE.b (se_var 1)) (SE.b se_int)) (sa_cons (se_ix (SE.b (se_var 1)) (SE.b se_int)) sa_nil)))))) (sss_one (ss_if (st_c (c_eq (Fam.tr_ok ok)) (SE.b (se_ix (SE.b (se_var 1)) (SE.b se_int))) (SE.b se_str)) (sss_one (ss_expr (SE.b (se_meth0 (Fam.tr_ok ok) (se_var 0) GM_Disk_sync (Nat.le_of_ble_eq_true rfl))))) (sss_one (ss_ret (se_meth (Fam.tr_ok ok) (se_var 0) GM_Disk_read (Nat.le_of_ble_eq_true rfl) (sa_cons (se_ix (SE.b (se_var 1)) (SE.b se_int)) (sa_cons (se_ix (SE.b (se_var 1)) (SE.b se_int)) sa_nil))))))))) (fun x hx C hC a oe d hz hf => (sss_one (ss_if (st_tru (SE.b (se_isX (cs := ["DiskFell"]) (b := true) 2 T.b_isinstance (List.forall_mem_cons.mpr ⟨T.I_DiskFell_SwarmError, (fun c h => by simp at h)⟩) hx hC hz hf))) (sss_one (ss_ret se_str)) sss_nil))))
      (sss_one (ss_ret se_non)))
theorem d_L_tried (T : Tx K mg cA) (GM_Disk_write : MethOk P w K mg base cA 2 "Disk" "write" P_Disk_write m_Disk_write) (GM_Disk_sync : MethOk P w K mg base cA 2 "Disk" "sync" P_Disk_sync m_Disk_sync) (GM_Disk_read : MethOk P w K mg base cA 1 "Disk" "read" P_Disk_read m_Disk_read) (A : DefAt K mg "_law_tried" s_L_tried) : DefOk P w K mg base cA 3 "_law_tried" P_L_tried m_L_tried :=
  A.ok (fun f fd Fn => f_L_tried T GM_Disk_write GM_Disk_sync GM_Disk_read Fn) (fun _ _ _ _ _ _ us hl => match us, hl with | [_, _], _ => rfl)
theorem f_L_settle (T : Tx K mg cA)  {f : Addr} {fd : FuncData} (Fn : Fun K "_law_settle" "_law_settle" s_L_settle f fd) : FnOk P w K mg base (L2.CX P w) 1 f fd P_L_settle (spM ⟨K, cA, 0, none⟩ (runD N_L_settle.length P_L_settle.length b_L_settle)) := by
  refine ok_def (b := b_L_settle) (N := N_L_settle) (ps := P_L_settle) (cA := cA) Fn sc_L_settle ?_
  intro cdv A outer s H E ok
  unfold b_L_settle
  unfold b_L_settle_1
  exact (sss_cons (ss_for ok rfl (si_range1 T.b_range (sa_cons (se_min2 rfl T.b_min (sab_cons (SE.b (se_len T.b_len (sab_cons (SE.b (se_var 1)) sab_nil))) (sab_cons (SE.b (se_lenD T.b_len (sab_cons (SE.b (se_dget ok (se_var 0) (SE.b se_str))) sab_nil))) sab_nil))) sa_nil)) (sg_name 2 ok) (sss_cons (ss_asg (se_ixD (SE.b (se_dget ok (se_var 0) (SE.b se_str))) (SE.b (se_var 2))) (sg_tupA rfl (sgs_cons (sg_name 3 ok) (sgs_cons (sg_name 4 ok) sgs_nil))))
      (sss_cons (ss_set 4 ok (se_sl (SE.b (se_var 4)) so_none (so_some (SE.b (se_ix (SE.b (se_var 1)) (SE.b (se_var 2)))))))
      (sss_cons (ss_set 5 ok (se_dget ok (se_var 0) (SE.b se_str)))
      (sss_one (ss_spliceR (se_var 4) (se_var 5) (so_some (SE.b (se_var 3))) (so_some (SE.b (se_add (SE.b (se_var 3)) (SE.b (se_len T.b_len (sab_cons (SE.b (se_var 4)) sab_nil))))))))))))
      (sss_one (ss_dput ok (SN.rf (sn_lst sa_nil)) (se_var 0) (SE.b se_str))))
theorem d_L_settle (T : Tx K mg cA)  (A : DefAt K mg "_law_settle" s_L_settle) : DefOk P w K mg base cA 1 "_law_settle" P_L_settle m_L_settle :=
  A.ok (fun f fd Fn => f_L_settle T  Fn) (fun _ _ _ _ _ _ us hl => match us, hl with | [_, _], _ => rfl)
theorem f_Disk_arm (T : Tx K mg cA)  {f : Addr} {fd : FuncData} (Fn : Fun K "arm" "Disk.arm" s_Disk_arm f fd) : FnOk P w K mg base (L2.CX P w) 1 f fd P_Disk_arm (spM ⟨K, cA, 0, none⟩ (runD N_Disk_arm.length P_Disk_arm.length b_Disk_arm)) := by
  refine ok_def (b := b_Disk_arm) (N := N_Disk_arm) (ps := P_Disk_arm) (cA := cA) Fn sc_Disk_arm ?_
  intro cdv A outer s H E ok
  unfold b_Disk_arm
  exact (sss_one (ss_if (st_not (st_tru (SE.b (se_fld (cs := ["Disk"]) (se_var 0) (cl_cons 3 T.C_Disk cl_nil))))) (sss_one (ss_fld (cs := ["Disk"]) (se_var 0) (se_var 1) (cl_cons 2 T.C_Disk cl_nil))) sss_nil))
theorem dm_Disk_arm (T : Tx K mg cA)  (A : MethAt K mg "Disk" "arm" "Disk.arm" s_Disk_arm) : MethOk P w K mg base cA 1 "Disk" "arm" P_Disk_arm m_Disk_arm :=
  A.ok T.C_Disk (fun f fd Fn => f_Disk_arm T  Fn) (fun _ _ _ _ _ _ us hl => match us, hl with | [_, _], _ => rfl)
theorem f_Disk_fall (T : Tx K mg cA) (GM_Disk__settle : MethOk P w K mg base cA 1 "Disk" "_settle" P_Disk__settle m_Disk__settle) {f : Addr} {fd : FuncData} (Fn : Fun K "fall" "Disk.fall" s_Disk_fall f fd) : FnOk P w K mg base (L2.CX P w) 2 f fd P_Disk_fall (spM ⟨K, cA, 0, none⟩ (runD N_Disk_fall.length P_Disk_fall.length b_Disk_fall)) := by
  refine ok_def (b := b_Disk_fall) (N := N_Disk_fall) (ps := P_Disk_fall) (cA := cA) Fn sc_Disk_fall ?_
  intro cdv A outer s H E ok
  unfold b_Disk_fall
  exact (sss_cons (ss_expr (SE.b (se_meth ok (se_var 0) GM_Disk__settle (Nat.le_of_ble_eq_true rfl) (sa_cons (se_var 1) sa_nil))))
      (sss_cons (ss_fld (cs := ["Disk"]) (se_var 0) se_non (cl_cons 2 T.C_Disk cl_nil))
      (sss_one (ss_fld (cs := ["Disk"]) (se_var 0) se_bl (cl_cons 3 T.C_Disk cl_nil)))))
theorem dm_Disk_fall (T : Tx K mg cA) (GM_Disk__settle : MethOk P w K mg base cA 1 "Disk" "_settle" P_Disk__settle m_Disk__settle) (A : MethAt K mg "Disk" "fall" "Disk.fall" s_Disk_fall) : MethOk P w K mg base cA 2 "Disk" "fall" P_Disk_fall m_Disk_fall :=
  A.ok T.C_Disk (fun f fd Fn => f_Disk_fall T GM_Disk__settle Fn) (fun _ _ _ _ _ _ us hl => match us, hl with | [_, _], _ => rfl)
theorem f_L_seen (T : Tx K mg cA)  {f : Addr} {fd : FuncData} (Fn : Fun K "_law_seen" "_law_seen" s_L_seen f fd) : FnOk P w K mg base (L2.CX P w) 1 f fd P_L_seen (spM ⟨K, cA, 0, none⟩ (runD N_L_seen.length P_L_seen.length b_L_seen)) := by
  refine ok_def (b := b_L_seen) (N := N_L_seen) (ps := P_L_seen) (cA := cA) Fn sc_L_seen ?_
  intro cdv A outer s H E ok
  unfold b_L_seen
  unfold b_L_seen_1
  exact (sss_cons (ss_setN 1 ok (sn_listD T.b_list (sab_cons (SE.b (se_dget ok (se_var 0) (SE.b se_str))) sab_nil)))
      (sss_cons (ss_forS ok rfl (sir_seq (se_dget ok (se_var 0) (SE.b se_str))) (sg_tupA rfl (sgs_cons (sg_name 2 ok) (sgs_cons (sg_name 3 ok) sgs_nil))) (sss_one (ss_splice 1 (se_var 3) (so_some (SE.b (se_var 2))) (so_some (SE.b (se_add (SE.b (se_var 2)) (SE.b (se_len T.b_len (sab_cons (SE.b (se_var 3)) sab_nil)))))))))
      (sss_one (ss_retOwn 1))))
theorem d_L_seen (T : Tx K mg cA)  (A : DefAt K mg "_law_seen" s_L_seen) : DefOk P w K mg base cA 1 "_law_seen" P_L_seen m_L_seen :=
  A.ok (fun f fd Fn => f_L_seen T  Fn) (fun _ _ _ _ _ _ us hl => match us, hl with | [_], _ => rfl)
theorem f_L_act (T : Tx K mg cA) (G_L_operate : DefOk P w K mg base cA 1 "_law_operate" P_L_operate m_L_operate) (G_L_tried : DefOk P w K mg base cA 3 "_law_tried" P_L_tried m_L_tried) (G_L_settle : DefOk P w K mg base cA 1 "_law_settle" P_L_settle m_L_settle) (GM_Disk_arm : MethOk P w K mg base cA 1 "Disk" "arm" P_Disk_arm m_Disk_arm) (GM_Disk_fall : MethOk P w K mg base cA 2 "Disk" "fall" P_Disk_fall m_Disk_fall) (G_L_seen : DefOk P w K mg base cA 1 "_law_seen" P_L_seen m_L_seen) {f : Addr} {fd : FuncData} (Fn : Fun K "_law_act" "_law_act" s_L_act f fd) : FnOk P w K mg base (L2.CX P w) 4 f fd P_L_act (spM ⟨K, cA, 0, none⟩ (runD N_L_act.length P_L_act.length b_L_act)) := by
  refine ok_def (b := b_L_act) (N := N_L_act) (ps := P_L_act) (cA := cA) Fn sc_L_act ?_
  intro cdv A outer s H E ok
  unfold b_L_act
  exact (sss_cons (ss_set 3 ok (se_mod (SE.b (se_var 2)) (SE.b se_int)))
      (sss_cons (ss_set 4 ok (se_div (SE.b (se_var 2)) (SE.b se_int)))
      (sss_cons (ss_set 5 ok (se_lenD T.b_len (sab_cons (SE.b (se_dget ok (se_var 1) (SE.b se_str))) sab_nil)))
      (sss_cons (ss_if (st_c (c_lt ok) (SE.b (se_var 3)) (SE.b se_int)) (sss_cons (ss_set 7 ok (se_min2 rfl T.b_min (sab_cons (SE.b (se_mod (SE.b (se_var 4)) (SE.b se_int))) (sab_cons (SE.b (se_var 5)) sab_nil))))
      (sss_cons (ss_set 6 ok (se_mod (SE.b (se_div (SE.b (se_var 4)) (SE.b se_int))) (SE.b (se_add (SE.b (se_sub (SE.b (se_var 5)) (SE.b (se_var 7)))) (SE.b se_int)))))
      (sss_cons (ss_set 9 ok (se_tuple T.b_tuple (sab_cons (SN.b (sn_lc (own := [(("_law_k" : Str), 11)]) (is := [11]) ok rfl (SI.b (si_range1 T.b_range (sa_cons (se_var 7) sa_nil))) (fun _ => blkOk_by (by kernel_rfl)) (sg_name 11 (Fam.blk_ok ok _)) (by decide) sts_nil (se_mod (SE.b (se_intc T.b_int (sab_cons (SE.b (se_add (SE.b (se_div (SE.b (se_var 4)) (SE.b se_int))) (SE.b (se_mulA (SE.b se_int) (SE.b (se_var 11)))))) sab_nil))) (SE.b se_int)))) sab_nil)))
      (sss_cons (ss_set 8 ok (se_fn ok G_L_operate (Nat.le_of_ble_eq_true rfl) (sa_cons (se_var 1) sa_nil)))
      (sss_cons (ss_if (st_tru (SE.b (se_var 8))) (sss_one (ss_dput ok (SN.rf (sn_addD (SE.b (se_dget ok (se_var 1) (SE.b se_str))) (SN.b (sn_lst (sa_cons (se_tup (sa_cons (se_var 6) (sa_cons (se_var 9) sa_nil))) sa_nil))))) (se_var 1) (SE.b se_str))) sss_nil)
      (sss_one (ss_ret (se_c (c_eq ok) (SE.b (se_fn ok G_L_tried (Nat.le_of_ble_eq_true rfl) (sa_cons (se_var 0) (sa_cons (se_tup (sa_cons se_str (sa_cons (se_var 6) (sa_cons (se_var 9) sa_nil)))) sa_nil)))) (SE.b (se_ix (SN.b (sn_lst (sa_cons se_non (sa_cons se_str sa_nil)))) (SE.b (se_intc T.b_int (sab_cons (SE.b (sv_not (se_var 8))) sab_nil))))))))))))) sss_nil)
      (sss_cons (ss_if (st_c (c_eq ok) (SE.b (se_var 3)) (SE.b se_int)) (sss_cons (ss_set 8 ok (se_fn ok G_L_operate (Nat.le_of_ble_eq_true rfl) (sa_cons (se_var 1) sa_nil)))
      (sss_cons (ss_if (st_tru (SE.b (se_var 8))) (sss_one (ss_expr (SE.b (se_fn ok G_L_settle (Nat.le_of_ble_eq_true rfl) (sa_cons (se_var 1) (sa_cons (SN.fz (sn_lcS (own := [(("_law_write" : Str), 12)]) (is := [12]) ok rfl (sir_seq (se_dget ok (se_var 1) (SE.b se_str))) (fun _ => blkOk_by (by kernel_rfl)) (sg_name 12 (Fam.blk_ok ok _)) (by decide) sts_nil (se_var 5))) sa_nil)))))) sss_nil)
      (sss_one (ss_ret (se_c (c_eq ok) (SE.b (se_fn ok G_L_tried (Nat.le_of_ble_eq_true rfl) (sa_cons (se_var 0) (sa_cons (se_tup (sa_cons se_str sa_nil)) sa_nil)))) (SE.b (se_ix (SN.b (sn_lst (sa_cons se_non (sa_cons se_str sa_nil)))) (SE.b (se_intc T.b_int (sab_cons (SE.b (sv_not (se_var 8))) sab_nil)))))))))) sss_nil)
      (sss_cons (ss_if (st_c (c_eq ok) (SE.b (se_var 3)) (SE.b se_int)) (sss_cons (ss_if (st_not (st_tru (SE.b (se_dget ok (se_var 1) (SE.b se_str))))) (sss_one (ss_dput ok (se_mod (SE.b (se_var 4)) (SE.b se_int)) (se_var 1) (SE.b se_str))) sss_nil)
      (sss_one (ss_ret (se_c c_is (SE.b (se_meth ok (se_var 0) GM_Disk_arm (Nat.le_of_ble_eq_true rfl) (sa_cons (se_mod (SE.b (se_var 4)) (SE.b se_int)) sa_nil))) (SE.b se_non))))) sss_nil)
      (sss_cons (ss_if (st_c (c_eq ok) (SE.b (se_var 3)) (SE.b se_int)) (sss_cons (ss_setLc (own := [(("_law_k" : Str), 11)]) (is := [11]) 10 ok rfl (SI.b (si_range1 T.b_range (sa_cons (se_mod (SE.b (se_div (SE.b (se_var 4)) (SE.b se_int))) (SE.b se_int)) sa_nil))) (fun _ => blkOk_by (by kernel_rfl)) (sg_name 11 (Fam.blk_ok ok _)) (by decide) sts_nil (se_mod (SE.b (se_div (SE.b (se_var 4)) (SE.b (se_add (SE.b se_int) (SE.b (se_mulA (SE.b se_int) (SE.b (se_var 11)))))))) (SE.b se_int)))
      (sss_cons (ss_expr (SE.b (se_fn ok G_L_settle (Nat.le_of_ble_eq_true rfl) (sa_cons (se_var 1) (sa_cons (se_var 10) sa_nil)))))
      (sss_cons (ss_dput ok (se_neg (SE.b se_int)) (se_var 1) (SE.b se_str))
      (sss_cons (ss_dput ok se_bl (se_var 1) (SE.b se_str))
      (sss_one (ss_ret (se_c c_is (SE.b (se_meth ok (se_var 0) GM_Disk_fall (Nat.le_of_ble_eq_true rfl) (sa_cons (se_ix (SN.b (sn_lst (sa_cons (se_var 10) (sa_cons (se_tuple T.b_tuple (sab_cons (SE.b (se_var 10)) sab_nil)) sa_nil)))) (SE.b (se_mod (SE.b (se_div (SE.b (se_var 4)) (SE.b se_int))) (SE.b se_int)))) sa_nil))) (SE.b se_non)))))))) sss_nil)
      (sss_cons (ss_set 6 ok (se_mod (SE.b (se_var 4)) (SE.b (se_add (SE.b (se_var 5)) (SE.b se_int)))))
      (sss_cons (ss_set 7 ok (se_mod (SE.b (se_div (SE.b (se_var 4)) (SE.b se_int))) (SE.b (se_add (SE.b (se_sub (SE.b (se_var 5)) (SE.b (se_var 6)))) (SE.b se_int)))))
      (sss_cons (ss_set 8 ok (se_if (st_tru (SE.b (se_dget ok (se_var 1) (SE.b se_str)))) se_str (se_tuple T.b_tuple (sab_cons (SE.b (se_sl (SE.b (se_fn ok G_L_seen (Nat.le_of_ble_eq_true rfl) (sa_cons (se_var 1) sa_nil))) (so_some (SE.b (se_var 6))) (so_some (SE.b (se_add (SE.b (se_var 6)) (SE.b (se_var 7))))))) sab_nil))))
      (sss_one (ss_ret (se_c (c_eq ok) (SE.b (se_fn ok G_L_tried (Nat.le_of_ble_eq_true rfl) (sa_cons (se_var 0) (sa_cons (se_tup (sa_cons se_str (sa_cons (se_var 6) (sa_cons (se_var 7) sa_nil)))) sa_nil)))) (SE.b (se_var 8)))))))))))))))
theorem d_L_act (T : Tx K mg cA) (G_L_operate : DefOk P w K mg base cA 1 "_law_operate" P_L_operate m_L_operate) (G_L_tried : DefOk P w K mg base cA 3 "_law_tried" P_L_tried m_L_tried) (G_L_settle : DefOk P w K mg base cA 1 "_law_settle" P_L_settle m_L_settle) (GM_Disk_arm : MethOk P w K mg base cA 1 "Disk" "arm" P_Disk_arm m_Disk_arm) (GM_Disk_fall : MethOk P w K mg base cA 2 "Disk" "fall" P_Disk_fall m_Disk_fall) (G_L_seen : DefOk P w K mg base cA 1 "_law_seen" P_L_seen m_L_seen) (A : DefAt K mg "_law_act" s_L_act) : DefOk P w K mg base cA 4 "_law_act" P_L_act m_L_act :=
  A.ok (fun f fd Fn => f_L_act T G_L_operate G_L_tried G_L_settle GM_Disk_arm GM_Disk_fall G_L_seen Fn) (fun _ _ _ _ _ _ us hl => match us, hl with | [_, _, _], _ => rfl)
theorem f_Disk_pending (T : Tx K mg cA)  {f : Addr} {fd : FuncData} (Fn : Fun K "pending" "Disk.pending" s_Disk_pending f fd) : FnOk P w K mg base (L2.CX P w) 1 f fd P_Disk_pending (spM ⟨K, cA, 0, none⟩ (runD N_Disk_pending.length P_Disk_pending.length b_Disk_pending)) := by
  refine ok_def (b := b_Disk_pending) (N := N_Disk_pending) (ps := P_Disk_pending) (cA := cA) Fn sc_Disk_pending ?_
  intro cdv A outer s H E ok
  unfold b_Disk_pending
  exact (sss_one (ss_ret (se_lenD T.b_len (sab_cons (SE.b (se_fld (cs := ["Disk"]) (se_var 0) (cl_cons 1 T.C_Disk cl_nil))) sab_nil))))
theorem dm_Disk_pending (T : Tx K mg cA)  (A : MethAt K mg "Disk" "pending" "Disk.pending" s_Disk_pending) : MethOk P w K mg base cA 1 "Disk" "pending" P_Disk_pending m_Disk_pending :=
  A.ok T.C_Disk (fun f fd Fn => f_Disk_pending T  Fn) (fun _ _ _ _ _ _ us hl => match us, hl with | [_], _ => rfl)
theorem f_law (T : Tx K mg cA) (G_L_cell : DefOk P w K mg base cA 1 "_law_cell" P_L_cell m_L_cell) (GI_Disk_init : MakeOk P w K mg base cA 1 "Disk" P_Disk_init m_Disk_init) (G_L_draws : DefOk P w K mg base cA 1 "_law_draws" P_L_draws m_L_draws) (G_L_act : DefOk P w K mg base cA 4 "_law_act" P_L_act m_L_act) (GM_Disk_pending : MethOk P w K mg base cA 1 "Disk" "pending" P_Disk_pending m_Disk_pending) (GM_Disk_read : MethOk P w K mg base cA 1 "Disk" "read" P_Disk_read m_Disk_read) (G_L_seen : DefOk P w K mg base cA 1 "_law_seen" P_L_seen m_L_seen) {f : Addr} {fd : FuncData} (Fn : Fun K "law" "law" s_law f fd) : FnOk P w K mg base (L2.CX P w) 5 f fd P_law (spM ⟨K, cA, 0, none⟩ (runD N_law.length P_law.length b_law)) := by
  refine ok_def (b := b_law) (N := N_law) (ps := P_law) (cA := cA) Fn sc_law ?_
  intro cdv A outer s H E ok
  unfold b_law
  unfold b_law_1
  exact (sss_cons (ss_set 1 ok (se_mod (SE.b (se_fn ok G_L_cell (Nat.le_of_ble_eq_true rfl) (sa_cons (se_var 0) (sa_cons se_int sa_nil)))) (SE.b se_int)))
      (sss_cons (ss_set 2 ok (se_make ok GI_Disk_init (Nat.le_of_ble_eq_true rfl) (sa_cons (se_var 1) sa_nil)))
      (sss_cons (ss_set 3 ok (se_disp (ks := [Sum.inr "octets", Sum.inr "writes", Sum.inr "left", Sum.inr "down"]) (sps_cons sk_str (SN.rf (sn_lc (own := [(("_law_k" : Str), 5)]) (is := [5]) ok rfl (SI.b (si_range1 T.b_range (sa_cons (se_var 1) sa_nil))) (fun _ => blkOk_by (by kernel_rfl)) (sg_name 5 (Fam.blk_ok ok _)) (by decide) sts_nil se_int)) (sps_cons sk_str (SN.rf (sn_lst sa_nil)) (sps_cons sk_str (se_neg (SE.b se_int)) (sps_cons sk_str se_bl sps_nil)))) (by decide) (by decide) rfl rfl (by simp) (by decide)))
      (sss_cons (ss_for ok rfl (si_seq (se_fn ok G_L_draws (Nat.le_of_ble_eq_true rfl) (sa_cons (se_var 0) (sa_cons se_int (sa_cons se_int sa_nil))))) (sg_name 4 ok) (sss_cons (ss_if (st_not (st_tru (SE.b (se_fn ok G_L_act (Nat.le_of_ble_eq_true rfl) (sa_cons (se_var 2) (sa_cons (se_var 3) (sa_cons (se_var 4) sa_nil))))))) (sss_one (ss_ret se_bl)) sss_nil)
      (sss_cons (ss_if (st_c (c_ne ok) (SE.b (se_meth0 ok (se_var 2) GM_Disk_pending (Nat.le_of_ble_eq_true rfl))) (SE.b (se_lenD T.b_len (sab_cons (SE.b (se_dget ok (se_var 3) (SE.b se_str))) sab_nil)))) (sss_one (ss_ret se_bl)) sss_nil)
      (sss_one (ss_if (SW.t (sw_and (st_not (st_tru (SE.b (se_dget ok (se_var 3) (SE.b se_str))))) (sw_and1 (st_c (c_ne ok) (SE.b (se_meth ok (se_var 2) GM_Disk_read (Nat.le_of_ble_eq_true rfl) (sa_cons se_int (sa_cons (se_var 1) sa_nil)))) (SE.b (se_tuple T.b_tuple (sab_cons (SE.b (se_fn ok G_L_seen (Nat.le_of_ble_eq_true rfl) (sa_cons (se_var 3) sa_nil))) sab_nil))))))) (sss_one (ss_ret se_bl)) sss_nil)))))
      (sss_one (ss_ret se_bl))))))
theorem d_law (T : Tx K mg cA) (G_L_cell : DefOk P w K mg base cA 1 "_law_cell" P_L_cell m_L_cell) (GI_Disk_init : MakeOk P w K mg base cA 1 "Disk" P_Disk_init m_Disk_init) (G_L_draws : DefOk P w K mg base cA 1 "_law_draws" P_L_draws m_L_draws) (G_L_act : DefOk P w K mg base cA 4 "_law_act" P_L_act m_L_act) (GM_Disk_pending : MethOk P w K mg base cA 1 "Disk" "pending" P_Disk_pending m_Disk_pending) (GM_Disk_read : MethOk P w K mg base cA 1 "Disk" "read" P_Disk_read m_Disk_read) (G_L_seen : DefOk P w K mg base cA 1 "_law_seen" P_L_seen m_L_seen) (A : DefAt K mg "law" s_law) : DefOk P w K mg base cA 5 "law" P_law m_law :=
  A.ok (fun f fd Fn => f_law T G_L_cell GI_Disk_init G_L_draws G_L_act GM_Disk_pending GM_Disk_read G_L_seen Fn) (fun _ _ _ _ _ _ us hl => match us, hl with | [_], _ => rfl)
end
end
end Law

set_option Elab.async false
set_option linter.all false
set_option maxRecDepth 100000
set_option maxHeartbeats 4000000
namespace Law
open PySem Mir
/-! ### disks: what they hold, as an object and as a dict -/
abbrev DNS : List Str := ["_octets", "_writes", "_left", "_down"]
abbrev KNS : List L2.Key := [Sum.inr "octets", Sum.inr "writes", Sum.inr "left", Sum.inr "down"]
def lfP : Option Nat → PV
  | none => .non
  | some n => .int (n : Int)
def lfI : Option Nat → Int
  | none => -1
  | some n => (n : Int)
def dOb (o w : Nat) (lf : Option Nat) (dn : Bool) : Ob := .ins "Disk" DNS [.ref o, .ref w, lfP lf, .bl dn]
def kOb (o w : Nat) (lf : Option Nat) (dn : Bool) : Ob := .dct KNS [.ref o, .ref w, .int (lfI lf), .bl dn]
def wP (q : Nat × List Nat) : PV := .tup [.int (q.1 : Int), .tup (ob q.2)]
structure DK (h : Hh) (d o w : Nat) (l : List Nat) (ws : List (Nat × List Nat)) (lf : Option Nat) (dn : Bool) : Prop where
  ins : h[d]? = some (dOb o w lf dn)
  oct : h[o]? = some (.lst (ob l))
  wrt : h[w]? = some (.lst (ws.map wP))
  ow : o ≠ w
  dno : d ≠ o
  dnw : d ≠ w
structure MK (h : Hh) (m o w : Nat) (l : List Nat) (ws : List (Nat × List Nat)) (lf : Option Nat) (dn : Bool) : Prop where
  dct : h[m]? = some (kOb o w lf dn)
  oct : h[o]? = some (.lst (ob l))
  wrt : h[w]? = some (.lst (ws.map wP))
  ow : o ≠ w
  mno : m ≠ o
  mnw : m ≠ w
/-- all but S stays -/
structure Fr (S : List Nat) (h h' : Hh) : Prop where
  len : h.length ≤ h'.length
  at_ : ∀ k < h.length, k ∉ S → h'[k]? = h[k]?
theorem Fr.refl (S : List Nat) (h : Hh) : Fr S h h := ⟨Nat.le_refl _, fun _ _ _ => rfl⟩
theorem Fr.set {S : List Nat} (h : Hh) {n : Nat} (o : Ob) (hn : n ∈ S) : Fr S h (h.set n o) :=
  ⟨by rw [List.length_set]; exact Nat.le_refl _, fun k _ hk => List.getElem?_set_ne fun (e : n = k) => hk (e ▸ hn)⟩
theorem Fr.app {S : List Nat} (h : Hh) (t : Hh) : Fr S h (h ++ t) :=
  ⟨by rw [List.length_append]; exact Nat.le_add_right _ _, fun k hk _ => List.getElem?_append_left hk⟩
theorem Fr.trans {S : List Nat} {h h1 h2 : Hh} (a : Fr S h h1) (b : Fr S h1 h2) : Fr S h h2 :=
  ⟨Nat.le_trans a.len b.len, fun k hk hs => (b.at_ k (Nat.lt_of_lt_of_le hk a.len) hs).trans (a.at_ k hk hs)⟩
theorem Fr.mono {S T : List Nat} {h h' : Hh} (a : Fr S h h') (st : ∀ k ∈ S, k ∈ T) : Fr T h h' := ⟨a.len, fun k hk hs => a.at_ k hk fun z => hs (st k z)⟩
/-- what is new may change -/
theorem Fr.new {S T : List Nat} {h h1 h2 : Hh} (a : Fr S h h1) (b : Fr T h1 h2) (st : ∀ k ∈ T, k ∈ S ∨ h.length ≤ k) : Fr S h h2 :=
  ⟨Nat.le_trans a.len b.len, fun k hk hs => (b.at_ k (Nat.lt_of_lt_of_le hk a.len) fun z => (st k z).elim hs fun q => by omega).trans (a.at_ k hk hs)⟩
theorem Fr.keep {S : List Nat} {h h' : Hh} (a : Fr S h h') {k : Nat} {o : Ob} (e : h[k]? = some o) (hk : k ∉ S) : h'[k]? = some o :=
  (a.at_ k (List.getElem?_eq_some_iff.mp e).1 hk).trans e
theorem lt_of_at {h : Hh} {k : Nat} {o : Ob} (e : h[k]? = some o) : k < h.length := (List.getElem?_eq_some_iff.mp e).1
section
variable {h h' : Hh} {d m o w : Nat} {l : List Nat} {ws : List (Nat × List Nat)} {lf : Option Nat} {dn : Bool} {S : List Nat}
theorem DK.fr (k : DK h d o w l ws lf dn) (f : Fr S h h') (hd : d ∉ S) (ho : o ∉ S) (hw : w ∉ S) : DK h' d o w l ws lf dn :=
  ⟨f.keep k.ins hd, f.keep k.oct ho, f.keep k.wrt hw, k.ow, k.dno, k.dnw⟩
theorem MK.fr (k : MK h m o w l ws lf dn) (f : Fr S h h') (hd : m ∉ S) (ho : o ∉ S) (hw : w ∉ S) : MK h' m o w l ws lf dn :=
  ⟨f.keep k.dct hd, f.keep k.oct ho, f.keep k.wrt hw, k.ow, k.mno, k.mnw⟩
theorem DK.state (k : DK h d o w l ws lf dn) (lf' : Option Nat) (dn' : Bool) : DK (h.set d (dOb o w lf' dn')) d o w l ws lf' dn' :=
  ⟨get_set_eq k.ins, get_set_ne k.oct k.dno, get_set_ne k.wrt k.dnw, k.ow, k.dno, k.dnw⟩
theorem MK.state (k : MK h m o w l ws lf dn) (lf' : Option Nat) (dn' : Bool) : MK (h.set m (kOb o w lf' dn')) m o w l ws lf' dn' :=
  ⟨get_set_eq k.dct, get_set_ne k.oct k.mno, get_set_ne k.wrt k.mnw, k.ow, k.mno, k.mnw⟩
end
/-! ### plain -/
/-- p in the place of l's octets from s on -/
def spl (l : List Nat) (s : Nat) (p : List Nat) : List Nat := l.take s ++ p ++ l.drop (s + p.length)
def seenF (l : List Nat) (ws : List (Nat × List Nat)) : List Nat := ws.foldl (fun l q => spl l q.1 q.2) l
def settleF (l : List Nat) (qs : List ((Nat × List Nat) × Nat)) : List Nat := qs.foldl (fun l q => spl l q.1.1 (q.1.2.take q.2)) l
def WOK (z : Nat) (ws : List (Nat × List Nat)) : Prop := ∀ q ∈ ws, q.1 + q.2.length ≤ z
theorem spl_len {l p : List Nat} {s : Nat} (h : s + p.length ≤ l.length) : (spl l s p).length = l.length := by
  unfold spl
  simp only [List.length_append, List.length_take, List.length_drop]
  omega
theorem seenF_len : ∀ {ws : List (Nat × List Nat)} {l : List Nat}, WOK l.length ws → (seenF l ws).length = l.length
  | [], l, _ => rfl
  | q :: r, l, h => by
    have h1 := spl_len (h q List.mem_cons_self)
    show (seenF (spl l q.1 q.2) r).length = _
    rw [seenF_len (by rw [h1]; exact fun x hx => h x (List.mem_cons_of_mem _ hx)), h1]
theorem take_fit {p : List Nat} {s k z : Nat} (h : s + p.length ≤ z) : s + (p.take k).length ≤ z := by
  rw [List.length_take]; omega
theorem settleF_len : ∀ {qs : List ((Nat × List Nat) × Nat)} {l : List Nat}, (∀ q ∈ qs, q.1.1 + q.1.2.length ≤ l.length) → (settleF l qs).length = l.length
  | [], l, _ => rfl
  | q :: r, l, h => by
    have h1 := spl_len (p := q.1.2.take q.2) (take_fit (h q List.mem_cons_self))
    show (settleF (spl l q.1.1 (q.1.2.take q.2)) r).length = _
    rw [settleF_len (by rw [h1]; exact fun x hx => h x (List.mem_cons_of_mem _ hx)), h1]
/-- all of each is kept -/
theorem settle_all (k : Nat × List Nat → Nat) : ∀ {ws : List (Nat × List Nat)} {l : List Nat}, (∀ q ∈ ws, q.2.length ≤ k q) → settleF l (ws.zip (ws.map k)) = seenF l ws
  | [], l, _ => rfl
  | q :: r, l, h => by
    show settleF (spl l q.1 (q.2.take (k q))) (r.zip (r.map k)) = seenF (spl l q.1 q.2) r
    rw [List.take_of_length_le (h q List.mem_cons_self), settle_all k fun x hx => h x (List.mem_cons_of_mem _ hx)]
theorem zip_take {α β : Type} : ∀ (a : List α) (b : List β), (a.zip b).take (min b.length a.length) = a.zip b := fun a b => by
  rw [List.take_of_length_le]
  rw [List.length_zip, Nat.min_comm]; exact Nat.le_refl _
theorem splice_ob {l p : List Nat} {s : Nat} : spliceP (ob l) (ob p) (s : Int) ((s : Int) + (p.length : Int)) = ob (spl l s p) := by
  have e : ((s : Int) + (p.length : Int)).toNat = s + p.length := by omega
  unfold spliceP spl
  rw [e, Int.toNat_natCast, ← ob_app, ← ob_app]
  unfold ob
  rw [List.map_take, List.map_drop]
theorem splice_ok {l p : List Nat} {s : Nat} (h : s + p.length ≤ l.length) (hl : l.length ≤ 100000) : spliceOk (ob l).length (ob p).length (s : Int) ((s : Int) + (p.length : Int)) = true := by
  rw [ob_len, ob_len]
  simp only [spliceOk, Bool.and_eq_true, decide_eq_true_eq]
  omega
/-- a walk in which each turn adds one -/
theorem forS_by {α : Type} {src : Src} {xs : List PV} {g : MG} {b : MS} (A : α → PV) (I : List α → En → Hh → Prop) : ∀ (l pre : List α),
    (∀ pre' a post, pre ++ l = pre' ++ a :: post → ∀ env h, I pre' env h → ∃ env1 env2 h2, g (A a) env = some env1 ∧ b env1 h = .nx env2 h2 ∧ I (pre' ++ [a]) env2 h2) →
    (∀ p env h, I p env h → src h = some xs) → ∀ env h, I pre env h → ∃ env' h', forS src xs g b (l.map A) env h = .nx env' h' ∧ I (pre ++ l) env' h'
  | [], pre, _, hs, env, h, i => ⟨env, h, by rw [List.map_nil]; unfold forS; rw [if_pos (hs _ _ _ i)], by rw [List.append_nil]; exact i⟩
  | a :: r, pre, H, hs, env, h, i => by
    obtain ⟨env1, env2, h2, e1, e2, i2⟩ := H pre a r rfl env h i
    obtain ⟨env', h', e3, i3⟩ := forS_by A I r (pre ++ [a]) (fun pre' a' post e => H pre' a' post (by rw [← e]; simp)) hs env2 h2 i2
    refine ⟨env', h', ?_, by simpa using i3⟩
    rw [List.map_cons]
    unfold forS
    rw [if_pos (hs _ _ _ i), e1]
    simp only [e2]
    exact e3
/-! ### operations: one is counted -/
def opS : Option Nat → Bool → Option Nat × Bool × Bool
  | lf, true => (lf, true, false)
  | none, false => (none, false, true)
  | some 0, false => (some 0, true, false)
  | some (n + 1), false => (some n, false, true)
def fell : Xn := ⟨"DiskFell", [], []⟩
def opR (ok : Bool) (h : Hh) : Res PV := if ok = true then .ok .non h else .er fell h
section
variable {h h' : Hh} {d m o w : Nat} {l : List Nat} {ws : List (Nat × List Nat)} {lf lf' : Option Nat} {dn dn' : Bool} {env : En} {mv : ME} {y : PV}
theorem dfld {f : Str} (e : h[d]? = some (dOb o w lf dn)) (he : env[0]? = some (.v (.ref d))) (hy : getF f DNS [.ref o, .ref w, lfP lf, .bl dn] = some y) : mFld ["Disk"] f (mVar 0) env h = .ok y h :=
  fld_at (n := d) (by simp only [aVar, he]) e (by simp) hy
theorem dset {f : Str} {o' w' : Nat} (hv : mv env h = .ok y h') (e : h'[d]? = some (dOb o w lf dn)) (he : env[0]? = some (.v (.ref d))) (hy : Ob.ins "Disk" (insN f DNS) (insV f y DNS [.ref o, .ref w, lfP lf, .bl dn]) = dOb o' w' lf' dn') :
    mSetF ["Disk"] f (mVar 0) mv env h = .nx env (h'.set d (dOb o' w' lf' dn')) := by
  rw [← hy]
  rw [aSetF, hv]
  unfold dOb at e
  simp only [ofE_ok, aVar, he, e]
  rfl
theorem oper_run (k : DK h d o w l ws lf dn) : ∃ h', m_Disk__operate [.ref d] h = opR (opS lf dn).2.2 h' ∧ DK h' d o w l ws (opS lf dn).1 (opS lf dn).2.1 ∧ Fr [d] h h' := by
  have e := k.ins
  have f1 : mFld ["Disk"] "_down" (mVar 0) [.v (.ref d)] h = .ok (.bl dn) h := dfld e rfl rfl
  have f2 : mFld ["Disk"] "_left" (mVar 0) [.v (.ref d)] h = .ok (lfP lf) h := dfld e rfl rfl
  have s1 : mSetF ["Disk"] "_down" (mVar 0) (mC (.bl true)) [.v (.ref d)] h = .nx [.v (.ref d)] (h.set d (dOb o w lf true)) := dset rfl e rfl rfl
  rw [m_Disk__operate, runD, if_pos (show ([.ref d] : List PV).length = P_Disk__operate.length from rfl), b_Disk__operate, show startE N_Disk__operate.length [.ref d] = [.v (.ref d)] from rfl]
  cases dn
  · rcases lf with _ | _ | n
    · refine ⟨h, ?_, k, Fr.refl _ _⟩
      simp only [max3I, min3I, aLIx, aForR, itemsAt_lst, itemsAt_tup, forR_tup, forR_lst, aAddN, aRepN, aSplice, aSpliceR, aForS, aLcS, aJSeq, aJZip, itemsOf_lst, itemsOf_tup, aAddD, ofE_ok, ofE_er, ofE_no, aIsX, aXf, aRaise1, addT, negI, aIsi, aCallK, aR3, kd_non, kd_bl, kd_int, kd_str, kd_tup, kd_lst, kd_dct, isKd_ti, isKd_tb, isKd_ts, isKd_tt, isKd_tl, isKd_td, isKd_li, isKd_lb, isKd_ls, isKd_lt, isKd_ll, isKd_ld, isKd_ii, isKd_ib, isKd_is, isKd_it, isKd_il, isKd_id, isKd_bi, isKd_bb, isKd_bs, isKd_bt, isKd_bl, isKd_bd, isKd_si, isKd_sb, isKd_ss, isKd_st, isKd_sl, isKd_sd, isKd_ni, isKd_nb, isKd_ns, isKd_nt, isKd_nl, isKd_nd, aDNew, aKGet1, keyP_int, keyP_str, aDGet1, aDGet2, aDPut, aDisp, aItZ, aGTuT, aGTuL, aRf, de_lst, de_int, de_tup, de_str, de_non, de_bl, aExt, getF_nil, getF_cons, insN_nil, insN_cons, insV_nil, insV_cons, isB_bl, isNotB_bl, aSeq, aSkip, aSet, aSetN, aOp, aUn, aVar, aOwn, aC, aCall, aCallN, aNil, aCons, aRet, aRetN, aRetOwn, aIfS, aToT, aToTru, aNotT, aAndT, aOrT, aAndV, aOrV, aNotV, aIf, aTup, aSzc, aFz, aOn, aOs, aSl, aFor, aR1, aR2, aItE, aItS, aItL, aLc, aYes, aApp, aDrop, aAsg, aBreak, aCont, aGN, aGTu, aGCs, aGNl, aW0, aW1, lenI, lenT, intI, intB, tupL, tupT, listL, listT, addI, subI, ltI, leI, gtI, geI, eqI, neI, oIs_non, oIsNot_non, isNon1, isNon2, isNon3, isNon4, truB, truI, truL, truT, max2I, min2I, absI, aDCopy, dX_app, dC_app, aSlD, aAppR, aSetIxR, aItX, aJoin, aTIx, oi_none, oi_some, aRev, aCallD, aRevN, aIsE, aRaise, aMeth, aMake, Res.bind_ok, Res.bind_er, Res.bind_no, Bool.true_eq_false, List.isEmpty_nil, List.isEmpty_cons, List.getElem?_cons_zero, List.getElem?_cons_succ, List.set_cons_zero, List.set_cons_succ, if_true, if_false, Bool.false_eq_true, Bool.not_true, Bool.not_false, len0, len1, len2, len3, len4, len5, len6, len8, decide_true, decide_false, decide_eq_true_eq, Bool.true_and, Bool.and_true, Bool.false_and, Bool.and_false, Bool.or_true, Bool.true_or, Bool.or_false, Bool.false_or, Option.bind_some, mulP, mulQ, modP, divP, List.cons_append, List.nil_append, not_true_eq_false, not_false_eq_true, Bool.not_eq_true', decide_eq_false_iff_not, List.length_cons, List.length_nil, Nat.reduceAdd, List.map_nil, Int.reduceLT, Int.reduceLE, Int.reduceNeg, Int.reduceAdd, Int.reduceSub, Int.reduceMul, Nat.reduceLT, Nat.reduceLeDiff, Nat.reduceSub, Nat.reduceEqDiff, reduceCtorEq, and_true, true_and, and_self, f1, f2, lfP]
      rfl
    · refine ⟨h.set d (dOb o w (some 0) true), ?_, k.state _ _, Fr.set _ _ (by simp)⟩
      simp only [max3I, min3I, aLIx, aForR, itemsAt_lst, itemsAt_tup, forR_tup, forR_lst, aAddN, aRepN, aSplice, aSpliceR, aForS, aLcS, aJSeq, aJZip, itemsOf_lst, itemsOf_tup, aAddD, ofE_ok, ofE_er, ofE_no, aIsX, aXf, aRaise1, addT, negI, aIsi, aCallK, aR3, kd_non, kd_bl, kd_int, kd_str, kd_tup, kd_lst, kd_dct, isKd_ti, isKd_tb, isKd_ts, isKd_tt, isKd_tl, isKd_td, isKd_li, isKd_lb, isKd_ls, isKd_lt, isKd_ll, isKd_ld, isKd_ii, isKd_ib, isKd_is, isKd_it, isKd_il, isKd_id, isKd_bi, isKd_bb, isKd_bs, isKd_bt, isKd_bl, isKd_bd, isKd_si, isKd_sb, isKd_ss, isKd_st, isKd_sl, isKd_sd, isKd_ni, isKd_nb, isKd_ns, isKd_nt, isKd_nl, isKd_nd, aDNew, aKGet1, keyP_int, keyP_str, aDGet1, aDGet2, aDPut, aDisp, aItZ, aGTuT, aGTuL, aRf, de_lst, de_int, de_tup, de_str, de_non, de_bl, aExt, getF_nil, getF_cons, insN_nil, insN_cons, insV_nil, insV_cons, isB_bl, isNotB_bl, aSeq, aSkip, aSet, aSetN, aOp, aUn, aVar, aOwn, aC, aCall, aCallN, aNil, aCons, aRet, aRetN, aRetOwn, aIfS, aToT, aToTru, aNotT, aAndT, aOrT, aAndV, aOrV, aNotV, aIf, aTup, aSzc, aFz, aOn, aOs, aSl, aFor, aR1, aR2, aItE, aItS, aItL, aLc, aYes, aApp, aDrop, aAsg, aBreak, aCont, aGN, aGTu, aGCs, aGNl, aW0, aW1, lenI, lenT, intI, intB, tupL, tupT, listL, listT, addI, subI, ltI, leI, gtI, geI, eqI, neI, oIs_non, oIsNot_non, isNon1, isNon2, isNon3, isNon4, truB, truI, truL, truT, max2I, min2I, absI, aDCopy, dX_app, dC_app, aSlD, aAppR, aSetIxR, aItX, aJoin, aTIx, oi_none, oi_some, aRev, aCallD, aRevN, aIsE, aRaise, aMeth, aMake, Res.bind_ok, Res.bind_er, Res.bind_no, Bool.true_eq_false, List.isEmpty_nil, List.isEmpty_cons, List.getElem?_cons_zero, List.getElem?_cons_succ, List.set_cons_zero, List.set_cons_succ, if_true, if_false, Bool.false_eq_true, Bool.not_true, Bool.not_false, len0, len1, len2, len3, len4, len5, len6, len8, decide_true, decide_false, decide_eq_true_eq, Bool.true_and, Bool.and_true, Bool.false_and, Bool.and_false, Bool.or_true, Bool.true_or, Bool.or_false, Bool.false_or, Option.bind_some, mulP, mulQ, modP, divP, List.cons_append, List.nil_append, not_true_eq_false, not_false_eq_true, Bool.not_eq_true', decide_eq_false_iff_not, List.length_cons, List.length_nil, Nat.reduceAdd, List.map_nil, Int.reduceLT, Int.reduceLE, Int.reduceNeg, Int.reduceAdd, Int.reduceSub, Int.reduceMul, Nat.reduceLT, Nat.reduceLeDiff, Nat.reduceSub, Nat.reduceEqDiff, reduceCtorEq, and_true, true_and, and_self, f1, f2, s1, lfP, Int.natCast_zero]
      rfl
    · have c0 : ¬ (((n + 1 : Nat) : Int) = 0) := by omega
      have c1 : ((n + 1 : Nat) : Int) - 1 = (n : Int) := by omega
      have s2 : mFldAug ["Disk"] "_left" (fun a b => a - b) (mVar 0) (mC (.int 1)) [.v (.ref d)] h = .nx [.v (.ref d)] (h.set d (dOb o w (some n) false)) := by
        unfold dOb at e
        simp only [aFldAug, aVar, List.getElem?_cons_zero, Res.bind_ok, ofE_ok, e, aC, lfP]
        simp only [show (Str.ofString "Disk" ∈ [Str.ofString "Disk"]) = True from eq_true (by simp), if_true, show getF (Str.ofString "_left") DNS [PV.ref o, PV.ref w, PV.int ((n + 1 : Nat) : Int), PV.bl false] = some (PV.int ((n + 1 : Nat) : Int)) from rfl]
        rw [c1]
        rfl
      refine ⟨h.set d (dOb o w (some n) false), ?_, k.state _ _, Fr.set _ _ (by simp)⟩
      simp only [max3I, min3I, aLIx, aForR, itemsAt_lst, itemsAt_tup, forR_tup, forR_lst, aAddN, aRepN, aSplice, aSpliceR, aForS, aLcS, aJSeq, aJZip, itemsOf_lst, itemsOf_tup, aAddD, ofE_ok, ofE_er, ofE_no, aIsX, aXf, aRaise1, addT, negI, aIsi, aCallK, aR3, kd_non, kd_bl, kd_int, kd_str, kd_tup, kd_lst, kd_dct, isKd_ti, isKd_tb, isKd_ts, isKd_tt, isKd_tl, isKd_td, isKd_li, isKd_lb, isKd_ls, isKd_lt, isKd_ll, isKd_ld, isKd_ii, isKd_ib, isKd_is, isKd_it, isKd_il, isKd_id, isKd_bi, isKd_bb, isKd_bs, isKd_bt, isKd_bl, isKd_bd, isKd_si, isKd_sb, isKd_ss, isKd_st, isKd_sl, isKd_sd, isKd_ni, isKd_nb, isKd_ns, isKd_nt, isKd_nl, isKd_nd, aDNew, aKGet1, keyP_int, keyP_str, aDGet1, aDGet2, aDPut, aDisp, aItZ, aGTuT, aGTuL, aRf, de_lst, de_int, de_tup, de_str, de_non, de_bl, aExt, getF_nil, getF_cons, insN_nil, insN_cons, insV_nil, insV_cons, isB_bl, isNotB_bl, aSeq, aSkip, aSet, aSetN, aOp, aUn, aVar, aOwn, aC, aCall, aCallN, aNil, aCons, aRet, aRetN, aRetOwn, aIfS, aToT, aToTru, aNotT, aAndT, aOrT, aAndV, aOrV, aNotV, aIf, aTup, aSzc, aFz, aOn, aOs, aSl, aFor, aR1, aR2, aItE, aItS, aItL, aLc, aYes, aApp, aDrop, aAsg, aBreak, aCont, aGN, aGTu, aGCs, aGNl, aW0, aW1, lenI, lenT, intI, intB, tupL, tupT, listL, listT, addI, subI, ltI, leI, gtI, geI, eqI, neI, oIs_non, oIsNot_non, isNon1, isNon2, isNon3, isNon4, truB, truI, truL, truT, max2I, min2I, absI, aDCopy, dX_app, dC_app, aSlD, aAppR, aSetIxR, aItX, aJoin, aTIx, oi_none, oi_some, aRev, aCallD, aRevN, aIsE, aRaise, aMeth, aMake, Res.bind_ok, Res.bind_er, Res.bind_no, Bool.true_eq_false, List.isEmpty_nil, List.isEmpty_cons, List.getElem?_cons_zero, List.getElem?_cons_succ, List.set_cons_zero, List.set_cons_succ, if_true, if_false, Bool.false_eq_true, Bool.not_true, Bool.not_false, len0, len1, len2, len3, len4, len5, len6, len8, decide_true, decide_false, decide_eq_true_eq, Bool.true_and, Bool.and_true, Bool.false_and, Bool.and_false, Bool.or_true, Bool.true_or, Bool.or_false, Bool.false_or, Option.bind_some, mulP, mulQ, modP, divP, List.cons_append, List.nil_append, not_true_eq_false, not_false_eq_true, Bool.not_eq_true', decide_eq_false_iff_not, List.length_cons, List.length_nil, Nat.reduceAdd, List.map_nil, Int.reduceLT, Int.reduceLE, Int.reduceNeg, Int.reduceAdd, Int.reduceSub, Int.reduceMul, Nat.reduceLT, Nat.reduceLeDiff, Nat.reduceSub, Nat.reduceEqDiff, reduceCtorEq, and_true, true_and, and_self, f1, f2, s2, lfP, c0]
      rfl
  · refine ⟨h, ?_, k, Fr.refl _ _⟩
    simp only [max3I, min3I, aLIx, aForR, itemsAt_lst, itemsAt_tup, forR_tup, forR_lst, aAddN, aRepN, aSplice, aSpliceR, aForS, aLcS, aJSeq, aJZip, itemsOf_lst, itemsOf_tup, aAddD, ofE_ok, ofE_er, ofE_no, aIsX, aXf, aRaise1, addT, negI, aIsi, aCallK, aR3, kd_non, kd_bl, kd_int, kd_str, kd_tup, kd_lst, kd_dct, isKd_ti, isKd_tb, isKd_ts, isKd_tt, isKd_tl, isKd_td, isKd_li, isKd_lb, isKd_ls, isKd_lt, isKd_ll, isKd_ld, isKd_ii, isKd_ib, isKd_is, isKd_it, isKd_il, isKd_id, isKd_bi, isKd_bb, isKd_bs, isKd_bt, isKd_bl, isKd_bd, isKd_si, isKd_sb, isKd_ss, isKd_st, isKd_sl, isKd_sd, isKd_ni, isKd_nb, isKd_ns, isKd_nt, isKd_nl, isKd_nd, aDNew, aKGet1, keyP_int, keyP_str, aDGet1, aDGet2, aDPut, aDisp, aItZ, aGTuT, aGTuL, aRf, de_lst, de_int, de_tup, de_str, de_non, de_bl, aExt, getF_nil, getF_cons, insN_nil, insN_cons, insV_nil, insV_cons, isB_bl, isNotB_bl, aSeq, aSkip, aSet, aSetN, aOp, aUn, aVar, aOwn, aC, aCall, aCallN, aNil, aCons, aRet, aRetN, aRetOwn, aIfS, aToT, aToTru, aNotT, aAndT, aOrT, aAndV, aOrV, aNotV, aIf, aTup, aSzc, aFz, aOn, aOs, aSl, aFor, aR1, aR2, aItE, aItS, aItL, aLc, aYes, aApp, aDrop, aAsg, aBreak, aCont, aGN, aGTu, aGCs, aGNl, aW0, aW1, lenI, lenT, intI, intB, tupL, tupT, listL, listT, addI, subI, ltI, leI, gtI, geI, eqI, neI, oIs_non, oIsNot_non, isNon1, isNon2, isNon3, isNon4, truB, truI, truL, truT, max2I, min2I, absI, aDCopy, dX_app, dC_app, aSlD, aAppR, aSetIxR, aItX, aJoin, aTIx, oi_none, oi_some, aRev, aCallD, aRevN, aIsE, aRaise, aMeth, aMake, Res.bind_ok, Res.bind_er, Res.bind_no, Bool.true_eq_false, List.isEmpty_nil, List.isEmpty_cons, List.getElem?_cons_zero, List.getElem?_cons_succ, List.set_cons_zero, List.set_cons_succ, if_true, if_false, Bool.false_eq_true, Bool.not_true, Bool.not_false, len0, len1, len2, len3, len4, len5, len6, len8, decide_true, decide_false, decide_eq_true_eq, Bool.true_and, Bool.and_true, Bool.false_and, Bool.and_false, Bool.or_true, Bool.true_or, Bool.or_false, Bool.false_or, Option.bind_some, mulP, mulQ, modP, divP, List.cons_append, List.nil_append, not_true_eq_false, not_false_eq_true, Bool.not_eq_true', decide_eq_false_iff_not, List.length_cons, List.length_nil, Nat.reduceAdd, List.map_nil, Int.reduceLT, Int.reduceLE, Int.reduceNeg, Int.reduceAdd, Int.reduceSub, Int.reduceMul, Nat.reduceLT, Nat.reduceLeDiff, Nat.reduceSub, Nat.reduceEqDiff, reduceCtorEq, and_true, true_and, and_self, f1]
    rfl
theorem mget {f : Str} (e : h[m]? = some (kOb o w lf dn)) (hy : getK (Sum.inr f) KNS [.ref o, .ref w, .int (lfI lf), .bl dn] = some y) : oDGet (.ref m) (.str f) h = .ok y h := oDGet_at e rfl hy
theorem mput {f : Str} {i : Nat} {o' w' : Nat} (hv : mv env h = .ok y h') (e : h'[m]? = some (kOb o w lf dn)) (he : env[i]? = some (.v (.ref m))) (hy : Ob.dct (insK (Sum.inr f) KNS) (insKV (Sum.inr f) y KNS [.ref o, .ref w, .int (lfI lf), .bl dn]) = kOb o' w' lf' dn') :
    mDPut (mVar i) (mC (.str f)) mv env h = .nx env (h'.set m (kOb o' w' lf' dn')) := by
  rw [← hy, aDPut, hv]
  unfold kOb at e
  simp only [ofE_ok, aVar, aC, he, e]
  rfl
theorem lop_run (k : MK h m o w l ws lf dn) : ∃ h', m_L_operate [.ref m] h = .ok (.bl (opS lf dn).2.2) h' ∧ MK h' m o w l ws (opS lf dn).1 (opS lf dn).2.1 ∧ Fr [m] h h' := by
  have e := k.dct
  have f1 : oDGet (.ref m) (.str "down") h = .ok (.bl dn) h := mget e rfl
  have f2 : oDGet (.ref m) (.str "left") h = .ok (.int (lfI lf)) h := mget e rfl
  have s1 : mDPut (mVar 0) (mC (.str "down")) (mC (.bl true)) [.v (.ref m)] h = .nx [.v (.ref m)] (h.set m (kOb o w lf true)) := mput rfl e rfl rfl
  rw [m_L_operate, runD, if_pos (show ([.ref m] : List PV).length = P_L_operate.length from rfl), b_L_operate, show startE N_L_operate.length [.ref m] = [.v (.ref m)] from rfl]
  cases dn
  · rcases lf with _ | _ | n
    · refine ⟨h, ?_, k, Fr.refl _ _⟩
      simp only [max3I, min3I, aLIx, aForR, itemsAt_lst, itemsAt_tup, forR_tup, forR_lst, aAddN, aRepN, aSplice, aSpliceR, aForS, aLcS, aJSeq, aJZip, itemsOf_lst, itemsOf_tup, aAddD, ofE_ok, ofE_er, ofE_no, aIsX, aXf, aRaise1, addT, negI, aIsi, aCallK, aR3, kd_non, kd_bl, kd_int, kd_str, kd_tup, kd_lst, kd_dct, isKd_ti, isKd_tb, isKd_ts, isKd_tt, isKd_tl, isKd_td, isKd_li, isKd_lb, isKd_ls, isKd_lt, isKd_ll, isKd_ld, isKd_ii, isKd_ib, isKd_is, isKd_it, isKd_il, isKd_id, isKd_bi, isKd_bb, isKd_bs, isKd_bt, isKd_bl, isKd_bd, isKd_si, isKd_sb, isKd_ss, isKd_st, isKd_sl, isKd_sd, isKd_ni, isKd_nb, isKd_ns, isKd_nt, isKd_nl, isKd_nd, aDNew, aKGet1, keyP_int, keyP_str, aDGet1, aDGet2, aDisp, aItZ, aGTuT, aGTuL, aRf, de_lst, de_int, de_tup, de_str, de_non, de_bl, aExt, getF_nil, getF_cons, insN_nil, insN_cons, insV_nil, insV_cons, isB_bl, isNotB_bl, aSeq, aSkip, aSet, aSetN, aOp, aUn, aVar, aOwn, aC, aCall, aCallN, aNil, aCons, aRet, aRetN, aRetOwn, aIfS, aToT, aToTru, aNotT, aAndT, aOrT, aAndV, aOrV, aNotV, aIf, aTup, aSzc, aFz, aOn, aOs, aSl, aFor, aR1, aR2, aItE, aItS, aItL, aLc, aYes, aApp, aDrop, aAsg, aBreak, aCont, aGN, aGTu, aGCs, aGNl, aW0, aW1, lenI, lenT, intI, intB, tupL, tupT, listL, listT, addI, subI, ltI, leI, gtI, geI, eqI, neI, oIs_non, oIsNot_non, isNon1, isNon2, isNon3, isNon4, truB, truI, truL, truT, max2I, min2I, absI, aDCopy, dX_app, dC_app, aSlD, aAppR, aSetIxR, aFldAug, aItX, aJoin, aTIx, oi_none, oi_some, aRev, aCallD, aRevN, aIsE, aRaise, aFld, aSetF, aMeth, aMake, Res.bind_ok, Res.bind_er, Res.bind_no, Bool.true_eq_false, List.isEmpty_nil, List.isEmpty_cons, List.getElem?_cons_zero, List.getElem?_cons_succ, List.set_cons_zero, List.set_cons_succ, if_true, if_false, Bool.false_eq_true, Bool.not_true, Bool.not_false, len0, len1, len2, len3, len4, len5, len6, len8, decide_true, decide_false, decide_eq_true_eq, Bool.true_and, Bool.and_true, Bool.false_and, Bool.and_false, Bool.or_true, Bool.true_or, Bool.or_false, Bool.false_or, Option.bind_some, mulP, mulQ, modP, divP, List.cons_append, List.nil_append, not_true_eq_false, not_false_eq_true, Bool.not_eq_true', decide_eq_false_iff_not, List.length_cons, List.length_nil, Nat.reduceAdd, List.map_nil, Int.reduceLT, Int.reduceLE, Int.reduceNeg, Int.reduceAdd, Int.reduceSub, Int.reduceMul, Nat.reduceLT, Nat.reduceLeDiff, Nat.reduceSub, Nat.reduceEqDiff, reduceCtorEq, and_true, true_and, and_self, f1, f2, lfI]
      rfl
    · refine ⟨h.set m (kOb o w (some 0) true), ?_, k.state _ _, Fr.set _ _ (by simp)⟩
      simp only [max3I, min3I, aLIx, aForR, itemsAt_lst, itemsAt_tup, forR_tup, forR_lst, aAddN, aRepN, aSplice, aSpliceR, aForS, aLcS, aJSeq, aJZip, itemsOf_lst, itemsOf_tup, aAddD, ofE_ok, ofE_er, ofE_no, aIsX, aXf, aRaise1, addT, negI, aIsi, aCallK, aR3, kd_non, kd_bl, kd_int, kd_str, kd_tup, kd_lst, kd_dct, isKd_ti, isKd_tb, isKd_ts, isKd_tt, isKd_tl, isKd_td, isKd_li, isKd_lb, isKd_ls, isKd_lt, isKd_ll, isKd_ld, isKd_ii, isKd_ib, isKd_is, isKd_it, isKd_il, isKd_id, isKd_bi, isKd_bb, isKd_bs, isKd_bt, isKd_bl, isKd_bd, isKd_si, isKd_sb, isKd_ss, isKd_st, isKd_sl, isKd_sd, isKd_ni, isKd_nb, isKd_ns, isKd_nt, isKd_nl, isKd_nd, aDNew, aKGet1, keyP_int, keyP_str, aDGet1, aDGet2, aDisp, aItZ, aGTuT, aGTuL, aRf, de_lst, de_int, de_tup, de_str, de_non, de_bl, aExt, getF_nil, getF_cons, insN_nil, insN_cons, insV_nil, insV_cons, isB_bl, isNotB_bl, aSeq, aSkip, aSet, aSetN, aOp, aUn, aVar, aOwn, aC, aCall, aCallN, aNil, aCons, aRet, aRetN, aRetOwn, aIfS, aToT, aToTru, aNotT, aAndT, aOrT, aAndV, aOrV, aNotV, aIf, aTup, aSzc, aFz, aOn, aOs, aSl, aFor, aR1, aR2, aItE, aItS, aItL, aLc, aYes, aApp, aDrop, aAsg, aBreak, aCont, aGN, aGTu, aGCs, aGNl, aW0, aW1, lenI, lenT, intI, intB, tupL, tupT, listL, listT, addI, subI, ltI, leI, gtI, geI, eqI, neI, oIs_non, oIsNot_non, isNon1, isNon2, isNon3, isNon4, truB, truI, truL, truT, max2I, min2I, absI, aDCopy, dX_app, dC_app, aSlD, aAppR, aSetIxR, aFldAug, aItX, aJoin, aTIx, oi_none, oi_some, aRev, aCallD, aRevN, aIsE, aRaise, aFld, aSetF, aMeth, aMake, Res.bind_ok, Res.bind_er, Res.bind_no, Bool.true_eq_false, List.isEmpty_nil, List.isEmpty_cons, List.getElem?_cons_zero, List.getElem?_cons_succ, List.set_cons_zero, List.set_cons_succ, if_true, if_false, Bool.false_eq_true, Bool.not_true, Bool.not_false, len0, len1, len2, len3, len4, len5, len6, len8, decide_true, decide_false, decide_eq_true_eq, Bool.true_and, Bool.and_true, Bool.false_and, Bool.and_false, Bool.or_true, Bool.true_or, Bool.or_false, Bool.false_or, Option.bind_some, mulP, mulQ, modP, divP, List.cons_append, List.nil_append, not_true_eq_false, not_false_eq_true, Bool.not_eq_true', decide_eq_false_iff_not, List.length_cons, List.length_nil, Nat.reduceAdd, List.map_nil, Int.reduceLT, Int.reduceLE, Int.reduceNeg, Int.reduceAdd, Int.reduceSub, Int.reduceMul, Nat.reduceLT, Nat.reduceLeDiff, Nat.reduceSub, Nat.reduceEqDiff, reduceCtorEq, and_true, true_and, and_self, f1, f2, s1, lfI, Int.natCast_zero]
      rfl
    · have c0 : ¬ (((n + 1 : Nat) : Int) = 0) := by omega
      have c2 : (0 : Int) < ((n + 1 : Nat) : Int) := by omega
      have c1 : ((n + 1 : Nat) : Int) - 1 = (n : Int) := by omega
      have s2 : mDPut (mVar 0) (mC (.str "left")) (mOp oSub (mOp oDGet (mVar 0) (mC (.str "left"))) (mC (.int 1))) [.v (.ref m)] h = .nx [.v (.ref m)] (h.set m (kOb o w (some n) false)) :=
        mput (y := .int (n : Int)) (by
          have f2' : oDGet (.ref m) (.str "left") h = .ok (.int ((n + 1 : Nat) : Int)) h := f2
          simp only [max3I, min3I, aLIx, aForR, itemsAt_lst, itemsAt_tup, forR_tup, forR_lst, aAddN, aRepN, aSplice, aSpliceR, aForS, aLcS, aJSeq, aJZip, itemsOf_lst, itemsOf_tup, aAddD, ofE_ok, ofE_er, ofE_no, aIsX, aXf, aRaise1, addT, negI, aIsi, aCallK, aR3, kd_non, kd_bl, kd_int, kd_str, kd_tup, kd_lst, kd_dct, isKd_ti, isKd_tb, isKd_ts, isKd_tt, isKd_tl, isKd_td, isKd_li, isKd_lb, isKd_ls, isKd_lt, isKd_ll, isKd_ld, isKd_ii, isKd_ib, isKd_is, isKd_it, isKd_il, isKd_id, isKd_bi, isKd_bb, isKd_bs, isKd_bt, isKd_bl, isKd_bd, isKd_si, isKd_sb, isKd_ss, isKd_st, isKd_sl, isKd_sd, isKd_ni, isKd_nb, isKd_ns, isKd_nt, isKd_nl, isKd_nd, aDNew, aKGet1, keyP_int, keyP_str, aDGet1, aDGet2, aDPut, aDisp, aItZ, aGTuT, aGTuL, aRf, de_lst, de_int, de_tup, de_str, de_non, de_bl, aExt, getF_nil, getF_cons, insN_nil, insN_cons, insV_nil, insV_cons, isB_bl, isNotB_bl, aSeq, aSkip, aSet, aSetN, aOp, aUn, aVar, aOwn, aC, aCall, aCallN, aNil, aCons, aRet, aRetN, aRetOwn, aIfS, aToT, aToTru, aNotT, aAndT, aOrT, aAndV, aOrV, aNotV, aIf, aTup, aSzc, aFz, aOn, aOs, aSl, aFor, aR1, aR2, aItE, aItS, aItL, aLc, aYes, aApp, aDrop, aAsg, aBreak, aCont, aGN, aGTu, aGCs, aGNl, aW0, aW1, lenI, lenT, intI, intB, tupL, tupT, listL, listT, addI, subI, ltI, leI, gtI, geI, eqI, neI, oIs_non, oIsNot_non, isNon1, isNon2, isNon3, isNon4, truB, truI, truL, truT, max2I, min2I, absI, aDCopy, dX_app, dC_app, aSlD, aAppR, aSetIxR, aFldAug, aItX, aJoin, aTIx, oi_none, oi_some, aRev, aCallD, aRevN, aIsE, aRaise, aFld, aSetF, aMeth, aMake, Res.bind_ok, Res.bind_er, Res.bind_no, Bool.true_eq_false, List.isEmpty_nil, List.isEmpty_cons, List.getElem?_cons_zero, List.getElem?_cons_succ, List.set_cons_zero, List.set_cons_succ, if_true, if_false, Bool.false_eq_true, Bool.not_true, Bool.not_false, len0, len1, len2, len3, len4, len5, len6, len8, decide_true, decide_false, decide_eq_true_eq, Bool.true_and, Bool.and_true, Bool.false_and, Bool.and_false, Bool.or_true, Bool.true_or, Bool.or_false, Bool.false_or, Option.bind_some, mulP, mulQ, modP, divP, List.cons_append, List.nil_append, not_true_eq_false, not_false_eq_true, Bool.not_eq_true', decide_eq_false_iff_not, List.length_cons, List.length_nil, Nat.reduceAdd, List.map_nil, Int.reduceLT, Int.reduceLE, Int.reduceNeg, Int.reduceAdd, Int.reduceSub, Int.reduceMul, Nat.reduceLT, Nat.reduceLeDiff, Nat.reduceSub, Nat.reduceEqDiff, reduceCtorEq, and_true, true_and, and_self, f2', c1]) e rfl rfl
      refine ⟨h.set m (kOb o w (some n) false), ?_, k.state _ _, Fr.set _ _ (by simp)⟩
      simp only [max3I, min3I, aLIx, aForR, itemsAt_lst, itemsAt_tup, forR_tup, forR_lst, aAddN, aRepN, aSplice, aSpliceR, aForS, aLcS, aJSeq, aJZip, itemsOf_lst, itemsOf_tup, aAddD, ofE_ok, ofE_er, ofE_no, aIsX, aXf, aRaise1, addT, negI, aIsi, aCallK, aR3, kd_non, kd_bl, kd_int, kd_str, kd_tup, kd_lst, kd_dct, isKd_ti, isKd_tb, isKd_ts, isKd_tt, isKd_tl, isKd_td, isKd_li, isKd_lb, isKd_ls, isKd_lt, isKd_ll, isKd_ld, isKd_ii, isKd_ib, isKd_is, isKd_it, isKd_il, isKd_id, isKd_bi, isKd_bb, isKd_bs, isKd_bt, isKd_bl, isKd_bd, isKd_si, isKd_sb, isKd_ss, isKd_st, isKd_sl, isKd_sd, isKd_ni, isKd_nb, isKd_ns, isKd_nt, isKd_nl, isKd_nd, aDNew, aKGet1, keyP_int, keyP_str, aDGet1, aDGet2, aDisp, aItZ, aGTuT, aGTuL, aRf, de_lst, de_int, de_tup, de_str, de_non, de_bl, aExt, getF_nil, getF_cons, insN_nil, insN_cons, insV_nil, insV_cons, isB_bl, isNotB_bl, aSeq, aSkip, aSet, aSetN, aOp, aUn, aVar, aOwn, aC, aCall, aCallN, aNil, aCons, aRet, aRetN, aRetOwn, aIfS, aToT, aToTru, aNotT, aAndT, aOrT, aAndV, aOrV, aNotV, aIf, aTup, aSzc, aFz, aOn, aOs, aSl, aFor, aR1, aR2, aItE, aItS, aItL, aLc, aYes, aApp, aDrop, aAsg, aBreak, aCont, aGN, aGTu, aGCs, aGNl, aW0, aW1, lenI, lenT, intI, intB, tupL, tupT, listL, listT, addI, subI, ltI, leI, gtI, geI, eqI, neI, oIs_non, oIsNot_non, isNon1, isNon2, isNon3, isNon4, truB, truI, truL, truT, max2I, min2I, absI, aDCopy, dX_app, dC_app, aSlD, aAppR, aSetIxR, aFldAug, aItX, aJoin, aTIx, oi_none, oi_some, aRev, aCallD, aRevN, aIsE, aRaise, aFld, aSetF, aMeth, aMake, Res.bind_ok, Res.bind_er, Res.bind_no, Bool.true_eq_false, List.isEmpty_nil, List.isEmpty_cons, List.getElem?_cons_zero, List.getElem?_cons_succ, List.set_cons_zero, List.set_cons_succ, if_true, if_false, Bool.false_eq_true, Bool.not_true, Bool.not_false, len0, len1, len2, len3, len4, len5, len6, len8, decide_true, decide_false, decide_eq_true_eq, Bool.true_and, Bool.and_true, Bool.false_and, Bool.and_false, Bool.or_true, Bool.true_or, Bool.or_false, Bool.false_or, Option.bind_some, mulP, mulQ, modP, divP, List.cons_append, List.nil_append, not_true_eq_false, not_false_eq_true, Bool.not_eq_true', decide_eq_false_iff_not, List.length_cons, List.length_nil, Nat.reduceAdd, List.map_nil, Int.reduceLT, Int.reduceLE, Int.reduceNeg, Int.reduceAdd, Int.reduceSub, Int.reduceMul, Nat.reduceLT, Nat.reduceLeDiff, Nat.reduceSub, Nat.reduceEqDiff, reduceCtorEq, and_true, true_and, and_self, f1, f2, s2, lfI, c0, c2]
      rfl
  · refine ⟨h, ?_, k, Fr.refl _ _⟩
    simp only [max3I, min3I, aLIx, aForR, itemsAt_lst, itemsAt_tup, forR_tup, forR_lst, aAddN, aRepN, aSplice, aSpliceR, aForS, aLcS, aJSeq, aJZip, itemsOf_lst, itemsOf_tup, aAddD, ofE_ok, ofE_er, ofE_no, aIsX, aXf, aRaise1, addT, negI, aIsi, aCallK, aR3, kd_non, kd_bl, kd_int, kd_str, kd_tup, kd_lst, kd_dct, isKd_ti, isKd_tb, isKd_ts, isKd_tt, isKd_tl, isKd_td, isKd_li, isKd_lb, isKd_ls, isKd_lt, isKd_ll, isKd_ld, isKd_ii, isKd_ib, isKd_is, isKd_it, isKd_il, isKd_id, isKd_bi, isKd_bb, isKd_bs, isKd_bt, isKd_bl, isKd_bd, isKd_si, isKd_sb, isKd_ss, isKd_st, isKd_sl, isKd_sd, isKd_ni, isKd_nb, isKd_ns, isKd_nt, isKd_nl, isKd_nd, aDNew, aKGet1, keyP_int, keyP_str, aDGet1, aDGet2, aDisp, aItZ, aGTuT, aGTuL, aRf, de_lst, de_int, de_tup, de_str, de_non, de_bl, aExt, getF_nil, getF_cons, insN_nil, insN_cons, insV_nil, insV_cons, isB_bl, isNotB_bl, aSeq, aSkip, aSet, aSetN, aOp, aUn, aVar, aOwn, aC, aCall, aCallN, aNil, aCons, aRet, aRetN, aRetOwn, aIfS, aToT, aToTru, aNotT, aAndT, aOrT, aAndV, aOrV, aNotV, aIf, aTup, aSzc, aFz, aOn, aOs, aSl, aFor, aR1, aR2, aItE, aItS, aItL, aLc, aYes, aApp, aDrop, aAsg, aBreak, aCont, aGN, aGTu, aGCs, aGNl, aW0, aW1, lenI, lenT, intI, intB, tupL, tupT, listL, listT, addI, subI, ltI, leI, gtI, geI, eqI, neI, oIs_non, oIsNot_non, isNon1, isNon2, isNon3, isNon4, truB, truI, truL, truT, max2I, min2I, absI, aDCopy, dX_app, dC_app, aSlD, aAppR, aSetIxR, aFldAug, aItX, aJoin, aTIx, oi_none, oi_some, aRev, aCallD, aRevN, aIsE, aRaise, aFld, aSetF, aMeth, aMake, Res.bind_ok, Res.bind_er, Res.bind_no, Bool.true_eq_false, List.isEmpty_nil, List.isEmpty_cons, List.getElem?_cons_zero, List.getElem?_cons_succ, List.set_cons_zero, List.set_cons_succ, if_true, if_false, Bool.false_eq_true, Bool.not_true, Bool.not_false, len0, len1, len2, len3, len4, len5, len6, len8, decide_true, decide_false, decide_eq_true_eq, Bool.true_and, Bool.and_true, Bool.false_and, Bool.and_false, Bool.or_true, Bool.true_or, Bool.or_false, Bool.false_or, Option.bind_some, mulP, mulQ, modP, divP, List.cons_append, List.nil_append, not_true_eq_false, not_false_eq_true, Bool.not_eq_true', decide_eq_false_iff_not, List.length_cons, List.length_nil, Nat.reduceAdd, List.map_nil, Int.reduceLT, Int.reduceLE, Int.reduceNeg, Int.reduceAdd, Int.reduceSub, Int.reduceMul, Nat.reduceLT, Nat.reduceLeDiff, Nat.reduceSub, Nat.reduceEqDiff, reduceCtorEq, and_true, true_and, and_self, f1]
    rfl
end
end Law

set_option Elab.async false
set_option linter.all false
set_option maxRecDepth 100000
set_option maxHeartbeats 4000000
namespace Law
open PySem Mir
/-! ### what was written is settled, read -/
theorem slN (x : List Nat) (k : Nat) (h : Hh) : oSl (.tup (ob x)) none (some (k : Int)) h = .ok (.tup (ob (x.take k))) h := by
  rw [oSl, cutP_take, ob_take]
theorem lenT (x : List Nat) (h : Hh) : fLen [.tup (ob x)] h = .ok (.int (x.length : Int)) h := by
  show Res.ok (PV.int ((ob x).length : Int)) h = _
  rw [ob_len]
theorem zipW (ws : List (Nat × List Nat)) (ks : List Nat) : zipL (ws.map wP) (ob ks) = (ws.zip ks).map fun q => PV.tup [wP q.1, .int (q.2 : Int)] := by
  unfold zipL ob
  rw [List.zipWith_map, List.zip, List.map_zipWith]
section
variable {h h' : Hh} {d m o w : Nat} {l : List Nat} {ws : List (Nat × List Nat)} {lf : Option Nat} {dn : Bool}
theorem settle_run (k : DK h d o w l ws lf dn) (hl : l.length ≤ 1000) (wok : WOK l.length ws) (kv : PV) (ks : List Nat) (hk : kv = .lst (ob ks) ∨ kv = .tup (ob ks)) :
    ∃ h', m_Disk__settle [.ref d, kv] h = .ok .non h' ∧ DK h' d o h.length (settleF l (ws.zip ks)) [] lf dn ∧ Fr [d, o] h h' := by
  have src : ∀ hh : Hh, hh[w]? = some (.lst (ws.map wP)) → zipS (.ref w) kv hh = some (zipL (ws.map wP) (ob ks)) := fun hh e => by
    refine zipS_eq (itemsOf_ref e) ?_
    rcases hk with rfl | rfl <;> rfl
  obtain ⟨env', h1, e1, t2, t3, t4, t5, rfl, q1, q2, q3⟩ := forS_by (src := zipS (.ref w) kv) (xs := zipL (ws.map wP) (ob ks)) (g := gTuA 2 (gCs (gTuA 2 (gCs (gN 2) (gCs (gN 3) gNl))) (gCs (gN 4) gNl))) (b := b_Disk__settle_1)
    (fun q : (Nat × List Nat) × Nat => PV.tup [wP q.1, .int (q.2 : Int)])
    (fun pre env hh => ∃ t2 t3 t4 t5, env = [.v (.ref d), .v kv, t2, t3, t4, t5] ∧ hh[o]? = some (.lst (ob (settleF l pre))) ∧ (∀ n, n ≠ o → hh[n]? = h[n]?) ∧ hh.length = h.length)
    (ws.zip ks) []
    (fun pre q post e env hh ⟨t2, t3, t4, t5, e1, q1, q2, q3⟩ => by
      subst e1
      rw [List.nil_append] at e
      have mem : ∀ x ∈ pre ++ q :: post, x.1.1 + x.1.2.length ≤ l.length := fun x hx => by
        rw [← e] at hx
        exact wok x.1 (List.of_mem_zip hx).1
      have len1 : (settleF l pre).length = l.length := settleF_len fun x hx => mem x (by simp [hx])
      have fit := take_fit (k := q.2) (mem q (by simp))
      rw [← len1] at fit
      have ed : hh[d]? = some (dOb o w lf dn) := (q2 d k.dno).trans k.ins
      obtain ⟨⟨s, p⟩, c⟩ := q
      obtain ⟨p', hp'⟩ : ∃ p', p' = p.take c := ⟨_, rfl⟩
      simp only [← hp'] at fit
      have sl := fun hh => slN p c hh
      rw [← hp'] at sl
      have ok := splice_ok fit (by omega)
      have sp := splice_ob (l := settleF l pre) (p := p') (s := s)
      have nx : settleF l (pre ++ [((s, p), c)]) = spl (settleF l pre) s p' := by
        rw [hp']; unfold settleF; rw [List.foldl_append]; rfl
      have fo : mFld ["Disk"] "_octets" (mVar 0) [.v (.ref d), .v kv, .v (.int (s : Int)), .v (.tup (ob p)), .v (.int (c : Int)), .v (.tup (ob p'))] hh = .ok (.ref o) hh := dfld ed rfl rfl
      refine ⟨[.v (.ref d), .v kv, .v (.int (s : Int)), .v (.tup (ob p)), .v (.int (c : Int)), t5], [.v (.ref d), .v kv, .v (.int (s : Int)), .v (.tup (ob p)), .v (.int (c : Int)), .v (.tup (ob p'))], hh.set o (.lst (ob (spl (settleF l pre) s p'))), rfl, ?_, ⟨_, _, _, _, rfl, by rw [nx]; exact get_set_eq q1, fun n hn => by rw [List.getElem?_set_ne (Ne.symm hn)]; exact q2 n hn, by rw [List.length_set]; exact q3⟩⟩
      rw [b_Disk__settle_1]
      have ln := lenT p' hh
      obtain ⟨P0, hP0⟩ : ∃ P, P = ob p := ⟨_, rfl⟩
      obtain ⟨P1, hP1⟩ : ∃ P, P = ob p' := ⟨_, rfl⟩
      obtain ⟨I0, hI0⟩ : ∃ i : Int, i = (s : Int) := ⟨_, rfl⟩
      obtain ⟨I1, hI1⟩ : ∃ i : Int, i = (c : Int) := ⟨_, rfl⟩
      obtain ⟨I2, hI2⟩ : ∃ i : Int, i = (p'.length : Int) := ⟨_, rfl⟩
      obtain ⟨L1, hL1⟩ : ∃ P, P = ob (settleF l pre) := ⟨_, rfl⟩
      simp only [← hP0, ← hP1, ← hI0, ← hI1, ← hI2, ← hL1] at *
      simp only [max3I, min3I, aLIx, aForR, itemsAt_lst, itemsAt_tup, forR_tup, forR_lst, aAddN, aRepN, aSplice, aSpliceR, aForS, aLcS, aJSeq, aJZip, itemsOf_lst, itemsOf_tup, aAddD, ofE_ok, ofE_er, ofE_no, aIsX, aXf, aRaise1, addT, negI, aIsi, aCallK, aR3, kd_non, kd_bl, kd_int, kd_str, kd_tup, kd_lst, kd_dct, isKd_ti, isKd_tb, isKd_ts, isKd_tt, isKd_tl, isKd_td, isKd_li, isKd_lb, isKd_ls, isKd_lt, isKd_ll, isKd_ld, isKd_ii, isKd_ib, isKd_is, isKd_it, isKd_il, isKd_id, isKd_bi, isKd_bb, isKd_bs, isKd_bt, isKd_bl, isKd_bd, isKd_si, isKd_sb, isKd_ss, isKd_st, isKd_sl, isKd_sd, isKd_ni, isKd_nb, isKd_ns, isKd_nt, isKd_nl, isKd_nd, aDNew, aKGet1, keyP_int, keyP_str, aDGet1, aDGet2, aDPut, aDisp, aItZ, aGTuT, aGTuL, aRf, de_lst, de_int, de_tup, de_str, de_non, de_bl, aExt, getF_nil, getF_cons, insN_nil, insN_cons, insV_nil, insV_cons, isB_bl, isNotB_bl, aSeq, aSkip, aSet, aSetN, aOp, aUn, aVar, aOwn, aC, aCall, aCallN, aNil, aCons, aRet, aRetN, aRetOwn, aIfS, aToT, aToTru, aNotT, aAndT, aOrT, aAndV, aOrV, aNotV, aIf, aTup, aSzc, aFz, aOn, aOs, aSl, aFor, aR1, aR2, aItE, aItS, aItL, aLc, aYes, aApp, aDrop, aAsg, aBreak, aCont, aGN, aGTu, aGCs, aGNl, aW0, aW1, lenI, lenT, intI, intB, tupL, tupT, listL, listT, addI, subI, ltI, leI, gtI, geI, eqI, neI, oIs_non, oIsNot_non, isNon1, isNon2, isNon3, isNon4, truB, truI, truL, truT, max2I, min2I, absI, aDCopy, dX_app, dC_app, aSlD, aAppR, aSetIxR, aFldAug, aItX, aJoin, aTIx, oi_none, oi_some, aRev, aCallD, aRevN, aIsE, aRaise, aSetF, aMeth, aMake, Res.bind_ok, Res.bind_er, Res.bind_no, Bool.true_eq_false, List.isEmpty_nil, List.isEmpty_cons, List.getElem?_cons_zero, List.getElem?_cons_succ, List.set_cons_zero, List.set_cons_succ, if_true, if_false, Bool.false_eq_true, Bool.not_true, Bool.not_false, len3, len4, len5, len6, len8, decide_true, decide_false, decide_eq_true_eq, Bool.true_and, Bool.and_true, Bool.false_and, Bool.and_false, Bool.or_true, Bool.true_or, Bool.or_false, Bool.false_or, Option.bind_some, mulP, mulQ, modP, divP, List.cons_append, List.nil_append, not_true_eq_false, not_false_eq_true, Bool.not_eq_true', decide_eq_false_iff_not, List.length_cons, List.length_nil, Nat.reduceAdd, List.map_nil, Int.reduceLT, Int.reduceLE, Int.reduceNeg, Int.reduceAdd, Int.reduceSub, Int.reduceMul, Nat.reduceLT, Nat.reduceLeDiff, Nat.reduceSub, Nat.reduceEqDiff, reduceCtorEq, and_true, true_and, and_self, sl, fo, ln, q1, ok, sp])
    (by
      rintro p env hh ⟨t2, t3, t4, t5, e1, q1, q2, q3⟩
      exact src hh ((q2 w (Ne.symm k.ow)).trans k.wrt))
    [.v (.ref d), .v kv, .un, .un, .un, .un] h ⟨_, _, _, _, rfl, k.oct, fun _ _ => rfl, rfl⟩
  rw [List.nil_append] at q1
  rw [← zipW] at e1
  have ed : h1[d]? = some (dOb o w lf dn) := (q2 d k.dno).trans k.ins
  have ea : (h1 ++ [Ob.lst []])[d]? = some (dOb o w lf dn) := get_app ed _
  have od : d < h1.length := lt_of_at ed
  have oo : o < h1.length := lt_of_at q1
  have fr1 : Fr [d, o] h h1 := ⟨by omega, fun n _ hn => q2 n (by simp at hn; exact hn.2)⟩
  have st : mSetF ["Disk"] "_writes" (mVar 0) (mRf (szc mNil)) [.v (.ref d), .v kv, t2, t3, t4, t5] h1 = .nx [.v (.ref d), .v kv, t2, t3, t4, t5] ((h1 ++ [Ob.lst []]).set d (dOb o h1.length lf dn)) :=
    dset (y := .ref h1.length) (h' := h1 ++ [Ob.lst []]) rfl ea rfl rfl
  have fw : mFld ["Disk"] "_writes" (mVar 0) [.v (.ref d), .v kv, .un, .un, .un, .un] h = .ok (.ref w) h := dfld k.ins rfl rfl
  refine ⟨(h1 ++ [Ob.lst []]).set d (dOb o h1.length lf dn), ?_, ?_, (fr1.trans (Fr.app _ _)).trans (Fr.set _ _ (by simp))⟩
  · have e0 := src h k.wrt
    rw [m_Disk__settle, runD, if_pos (show ([.ref d, kv] : List PV).length = P_Disk__settle.length from rfl), b_Disk__settle, show startE N_Disk__settle.length [.ref d, kv] = [.v (.ref d), .v kv, .un, .un, .un, .un] from rfl]
    obtain ⟨Z, hZ⟩ : ∃ Z, Z = zipL (ws.map wP) (ob ks) := ⟨_, rfl⟩
    obtain ⟨D1, hD1⟩ : ∃ D1, D1 = (h1 ++ [Ob.lst []]).set d (dOb o h1.length lf dn) := ⟨_, rfl⟩
    simp only [← hZ, ← hD1] at *
    simp only [max3I, min3I, aLIx, aForR, itemsAt_lst, itemsAt_tup, forR_tup, forR_lst, aAddN, aRepN, aSplice, aSpliceR, aForS, aLcS, aJSeq, aJZip, itemsOf_lst, itemsOf_tup, aAddD, ofE_ok, ofE_er, ofE_no, aIsX, aXf, aRaise1, addT, negI, aIsi, aCallK, aR3, kd_non, kd_bl, kd_int, kd_str, kd_tup, kd_lst, kd_dct, isKd_ti, isKd_tb, isKd_ts, isKd_tt, isKd_tl, isKd_td, isKd_li, isKd_lb, isKd_ls, isKd_lt, isKd_ll, isKd_ld, isKd_ii, isKd_ib, isKd_is, isKd_it, isKd_il, isKd_id, isKd_bi, isKd_bb, isKd_bs, isKd_bt, isKd_bl, isKd_bd, isKd_si, isKd_sb, isKd_ss, isKd_st, isKd_sl, isKd_sd, isKd_ni, isKd_nb, isKd_ns, isKd_nt, isKd_nl, isKd_nd, aDNew, aKGet1, keyP_int, keyP_str, aDGet1, aDGet2, aDPut, aDisp, aItZ, aGTuT, aGTuL, aRf, de_lst, de_int, de_tup, de_str, de_non, de_bl, aExt, getF_nil, getF_cons, insN_nil, insN_cons, insV_nil, insV_cons, isB_bl, isNotB_bl, aSeq, aSkip, aSet, aSetN, aOp, aUn, aVar, aOwn, aC, aCall, aCallN, aNil, aCons, aRet, aRetN, aRetOwn, aIfS, aToT, aToTru, aNotT, aAndT, aOrT, aAndV, aOrV, aNotV, aIf, aTup, aSzc, aFz, aOn, aOs, aSl, aFor, aR1, aR2, aItE, aItS, aItL, aLc, aYes, aApp, aDrop, aAsg, aBreak, aCont, aGN, aGTu, aGCs, aGNl, aW0, aW1, lenI, lenT, intI, intB, tupL, tupT, listL, listT, addI, subI, ltI, leI, gtI, geI, eqI, neI, oIs_non, oIsNot_non, isNon1, isNon2, isNon3, isNon4, truB, truI, truL, truT, max2I, min2I, absI, aDCopy, dX_app, dC_app, aSlD, aAppR, aSetIxR, aFldAug, aItX, aJoin, aTIx, oi_none, oi_some, aRev, aCallD, aRevN, aIsE, aRaise, aMeth, aMake, Res.bind_ok, Res.bind_er, Res.bind_no, Bool.true_eq_false, List.isEmpty_nil, List.isEmpty_cons, List.getElem?_cons_zero, List.getElem?_cons_succ, List.set_cons_zero, List.set_cons_succ, if_true, if_false, Bool.false_eq_true, Bool.not_true, Bool.not_false, len0, len1, len2, len3, len4, len5, len6, len8, decide_true, decide_false, decide_eq_true_eq, Bool.true_and, Bool.and_true, Bool.false_and, Bool.and_false, Bool.or_true, Bool.true_or, Bool.or_false, Bool.false_or, Option.bind_some, mulP, mulQ, modP, divP, List.cons_append, List.nil_append, not_true_eq_false, not_false_eq_true, Bool.not_eq_true', decide_eq_false_iff_not, List.length_cons, List.length_nil, Nat.reduceAdd, List.map_nil, Int.reduceLT, Int.reduceLE, Int.reduceNeg, Int.reduceAdd, Int.reduceSub, Int.reduceMul, Nat.reduceLT, Nat.reduceLeDiff, Nat.reduceSub, Nat.reduceEqDiff, reduceCtorEq, and_true, true_and, and_self, fw, e0, e1, st]
  · rw [← q3]
    exact ⟨get_set_eq ea, get_set_ne (get_app q1 _) k.dno, get_set_ne (get_end h1 (.lst [])) (Nat.ne_of_lt od), Nat.ne_of_lt oo, k.dno, Nat.ne_of_lt od⟩
end
end Law

set_option Elab.async false
set_option linter.all false
set_option maxRecDepth 100000
set_option maxHeartbeats 4000000
namespace Law
open PySem Mir
theorem cutP_two (xs : List PV) (i j : Nat) (hij : i ≤ j) : cutP xs (some (i : Int)) (some (j : Int)) = (xs.drop i).take (j - i) := by
  unfold cutP
  rw [HT.sIx_nat, HT.sIx_nat]
  by_cases h : i ≤ xs.length
  · rw [Nat.min_eq_left h]
    by_cases hj : j ≤ xs.length
    · rw [Nat.min_eq_left hj]
    · rw [Nat.min_eq_right (by omega), List.take_of_length_le (by rw [List.length_drop]; omega), List.take_of_length_le (by rw [List.length_drop]; omega)]
  · rw [Nat.min_eq_right (by omega), Nat.min_eq_right (by omega), Nat.sub_self, List.take_zero, List.drop_of_length_le (by omega), List.take_nil]
theorem slTwo (xs : List PV) (i j : Nat) (hij : i ≤ j) (h : Hh) : oSl (.lst xs) (some (i : Int)) (some (j : Int)) h = .ok (.lst ((xs.drop i).take (j - i))) h := by rw [oSl, cutP_two xs i j hij]
theorem slAB (x : List Nat) (a b : Nat) (h : Hh) : oSl (.lst (ob x)) (some (a : Int)) (some ((a : Int) + (b : Int))) h = .ok (.lst (ob ((x.drop a).take b))) h := by
  rw [show (a : Int) + (b : Int) = ((a + b : Nat) : Int) by omega, slTwo (ob x) a (a + b) (by omega) h]
  have e : a + b - a = b := by omega
  rw [e]
  unfold ob
  rw [List.map_take, List.map_drop]
section
variable {h : Hh} {d m o w : Nat} {l : List Nat} {ws : List (Nat × List Nat)} {lf : Option Nat} {dn : Bool}
/-- one more part laid over -/
theorem seen_walk {w : Nat} {g : MG} {b : MS} {h : Hh} {l : List Nat} {ws : List (Nat × List Nat)} (mk : List Nat → SV → SV → En) (e : h[w]? = some (.lst (ws.map wP)))
    (hl : l.length ≤ 1000) (wok : WOK l.length ws) (turn : ∀ (x : List Nat) (s : Nat) (p : List Nat), s + p.length ≤ x.length → x.length ≤ 1000 → ∀ t1 t2, ∃ env1 u1 u2, g (wP (s, p)) (mk x t1 t2) = some env1 ∧ b env1 h = .nx (mk (spl x s p) u1 u2) h) (t1 t2 : SV) :
    ∃ u1 u2, forS (itemsOf (.ref w)) (ws.map wP) g b (ws.map wP) (mk l t1 t2) h = .nx (mk (seenF l ws) u1 u2) h := by
  obtain ⟨env', h1, e1, u1, u2, rfl, rfl⟩ := forS_by (src := itemsOf (.ref w)) (xs := ws.map wP) (g := g) (b := b) wP
    (fun pre env hh => ∃ t1 t2, env = mk (seenF l pre) t1 t2 ∧ hh = h) ws []
    (fun pre q post e2 env hh ⟨t1, t2, e3, e4⟩ => by
      subst e3 e4
      rw [List.nil_append] at e2
      have len1 : (seenF l pre).length = l.length := seenF_len fun x hx => wok x (by rw [e2]; simp [hx])
      have fit := wok q (by rw [e2]; simp)
      rw [← len1] at fit
      obtain ⟨env1, u1, u2, k1, k2⟩ := turn (seenF l pre) q.1 q.2 fit (by omega) t1 t2
      refine ⟨env1, _, hh, k1, k2, u1, u2, ?_, rfl⟩
      unfold seenF
      rw [List.foldl_append]
      rfl)
    (fun p env hh ⟨_, _, _, e4⟩ => by subst e4; exact itemsOf_ref e) _ h ⟨t1, t2, rfl, rfl⟩
  rw [List.nil_append] at e1
  exact ⟨u1, u2, e1⟩
theorem read_turn (x0 x1 x2 : SV) (x : List Nat) (s : Nat) (p : List Nat) (fit : s + p.length ≤ x.length) (hx : x.length ≤ 1000) (t4 t5 : SV) : ∃ env1 u1 u2, (gTuA 2 (gCs (gN 4) (gCs (gN 5) gNl))) (wP (s, p)) [x0, x1, x2, .own (.lst (ob x)), t4, t5] = some env1 ∧
    b_Disk_read_1 env1 h = .nx [x0, x1, x2, .own (.lst (ob (spl x s p))), u1, u2] h := by
  refine ⟨[x0, x1, x2, .own (.lst (ob x)), .v (.int (s : Int)), .v (.tup (ob p))], .v (.int (s : Int)), .v (.tup (ob p)), rfl, ?_⟩
  rw [b_Disk_read_1]
  have ok := splice_ok fit (by omega)
  have sp := splice_ob (l := x) (p := p) (s := s)
  have ln := lenT p h
  obtain ⟨P0, hP0⟩ : ∃ P, P = ob p := ⟨_, rfl⟩
  obtain ⟨I0, hI0⟩ : ∃ i : Int, i = (s : Int) := ⟨_, rfl⟩
  obtain ⟨I2, hI2⟩ : ∃ i : Int, i = (p.length : Int) := ⟨_, rfl⟩
  obtain ⟨L1, hL1⟩ : ∃ P, P = ob x := ⟨_, rfl⟩
  simp only [← hP0, ← hI0, ← hI2, ← hL1] at *
  simp only [max3I, min3I, aLIx, aForR, itemsAt_lst, itemsAt_tup, forR_tup, forR_lst, aAddN, aRepN, aSplice, aSpliceR, aForS, aLcS, aJSeq, aJZip, itemsOf_lst, itemsOf_tup, aAddD, ofE_ok, ofE_er, ofE_no, aIsX, aXf, aRaise1, addT, negI, aIsi, aCallK, aR3, kd_non, kd_bl, kd_int, kd_str, kd_tup, kd_lst, kd_dct, isKd_ti, isKd_tb, isKd_ts, isKd_tt, isKd_tl, isKd_td, isKd_li, isKd_lb, isKd_ls, isKd_lt, isKd_ll, isKd_ld, isKd_ii, isKd_ib, isKd_is, isKd_it, isKd_il, isKd_id, isKd_bi, isKd_bb, isKd_bs, isKd_bt, isKd_bl, isKd_bd, isKd_si, isKd_sb, isKd_ss, isKd_st, isKd_sl, isKd_sd, isKd_ni, isKd_nb, isKd_ns, isKd_nt, isKd_nl, isKd_nd, aDNew, aKGet1, keyP_int, keyP_str, aDGet1, aDGet2, aDPut, aDisp, aItZ, aGTuT, aGTuL, aRf, de_lst, de_int, de_tup, de_str, de_non, de_bl, aExt, getF_nil, getF_cons, insN_nil, insN_cons, insV_nil, insV_cons, isB_bl, isNotB_bl, aSeq, aSkip, aSet, aSetN, aOp, aUn, aVar, aOwn, aC, aCall, aCallN, aNil, aCons, aRet, aRetN, aRetOwn, aIfS, aToT, aToTru, aNotT, aAndT, aOrT, aAndV, aOrV, aNotV, aIf, aTup, aSzc, aFz, aOn, aOs, aSl, aFor, aR1, aR2, aItE, aItS, aItL, aLc, aYes, aApp, aDrop, aAsg, aBreak, aCont, aGN, aGTu, aGCs, aGNl, aW0, aW1, lenI, lenT, intI, intB, tupL, tupT, listL, listT, addI, subI, ltI, leI, gtI, geI, eqI, neI, oIs_non, oIsNot_non, isNon1, isNon2, isNon3, isNon4, truB, truI, truL, truT, max2I, min2I, absI, aDCopy, dX_app, dC_app, aSlD, aAppR, aSetIxR, aFldAug, aItX, aJoin, aTIx, oi_none, oi_some, aRev, aCallD, aRevN, aIsE, aRaise, aFld, aSetF, aMeth, aMake, Res.bind_ok, Res.bind_er, Res.bind_no, Bool.true_eq_false, List.isEmpty_nil, List.isEmpty_cons, List.getElem?_cons_zero, List.getElem?_cons_succ, List.set_cons_zero, List.set_cons_succ, if_true, if_false, Bool.false_eq_true, Bool.not_true, Bool.not_false, len3, len4, len5, len6, len8, decide_true, decide_false, decide_eq_true_eq, Bool.true_and, Bool.and_true, Bool.false_and, Bool.and_false, Bool.or_true, Bool.true_or, Bool.or_false, Bool.false_or, Option.bind_some, mulP, mulQ, modP, divP, List.cons_append, List.nil_append, not_true_eq_false, not_false_eq_true, Bool.not_eq_true', decide_eq_false_iff_not, List.length_cons, List.length_nil, Nat.reduceAdd, List.map_nil, Int.reduceLT, Int.reduceLE, Int.reduceNeg, Int.reduceAdd, Int.reduceSub, Int.reduceMul, Nat.reduceLT, Nat.reduceLeDiff, Nat.reduceSub, Nat.reduceEqDiff, reduceCtorEq, and_true, true_and, and_self, ln, ok, sp]
theorem seen_turn (x0 : SV) (x : List Nat) (s : Nat) (p : List Nat) (fit : s + p.length ≤ x.length) (hx : x.length ≤ 1000) (t4 t5 : SV) : ∃ env1 u1 u2, (gTuA 2 (gCs (gN 2) (gCs (gN 3) gNl))) (wP (s, p)) [x0, .own (.lst (ob x)), t4, t5] = some env1 ∧
    b_L_seen_1 env1 h = .nx [x0, .own (.lst (ob (spl x s p))), u1, u2] h := by
  refine ⟨[x0, .own (.lst (ob x)), .v (.int (s : Int)), .v (.tup (ob p))], .v (.int (s : Int)), .v (.tup (ob p)), rfl, ?_⟩
  rw [b_L_seen_1]
  have ok := splice_ok fit (by omega)
  have sp := splice_ob (l := x) (p := p) (s := s)
  have ln := lenT p h
  obtain ⟨P0, hP0⟩ : ∃ P, P = ob p := ⟨_, rfl⟩
  obtain ⟨I0, hI0⟩ : ∃ i : Int, i = (s : Int) := ⟨_, rfl⟩
  obtain ⟨I2, hI2⟩ : ∃ i : Int, i = (p.length : Int) := ⟨_, rfl⟩
  obtain ⟨L1, hL1⟩ : ∃ P, P = ob x := ⟨_, rfl⟩
  simp only [← hP0, ← hI0, ← hI2, ← hL1] at *
  simp only [max3I, min3I, aLIx, aForR, itemsAt_lst, itemsAt_tup, forR_tup, forR_lst, aAddN, aRepN, aSplice, aSpliceR, aForS, aLcS, aJSeq, aJZip, itemsOf_lst, itemsOf_tup, aAddD, ofE_ok, ofE_er, ofE_no, aIsX, aXf, aRaise1, addT, negI, aIsi, aCallK, aR3, kd_non, kd_bl, kd_int, kd_str, kd_tup, kd_lst, kd_dct, isKd_ti, isKd_tb, isKd_ts, isKd_tt, isKd_tl, isKd_td, isKd_li, isKd_lb, isKd_ls, isKd_lt, isKd_ll, isKd_ld, isKd_ii, isKd_ib, isKd_is, isKd_it, isKd_il, isKd_id, isKd_bi, isKd_bb, isKd_bs, isKd_bt, isKd_bl, isKd_bd, isKd_si, isKd_sb, isKd_ss, isKd_st, isKd_sl, isKd_sd, isKd_ni, isKd_nb, isKd_ns, isKd_nt, isKd_nl, isKd_nd, aDNew, aKGet1, keyP_int, keyP_str, aDGet1, aDGet2, aDPut, aDisp, aItZ, aGTuT, aGTuL, aRf, de_lst, de_int, de_tup, de_str, de_non, de_bl, aExt, getF_nil, getF_cons, insN_nil, insN_cons, insV_nil, insV_cons, isB_bl, isNotB_bl, aSeq, aSkip, aSet, aSetN, aOp, aUn, aVar, aOwn, aC, aCall, aCallN, aNil, aCons, aRet, aRetN, aRetOwn, aIfS, aToT, aToTru, aNotT, aAndT, aOrT, aAndV, aOrV, aNotV, aIf, aTup, aSzc, aFz, aOn, aOs, aSl, aFor, aR1, aR2, aItE, aItS, aItL, aLc, aYes, aApp, aDrop, aAsg, aBreak, aCont, aGN, aGTu, aGCs, aGNl, aW0, aW1, lenI, lenT, intI, intB, tupL, tupT, listL, listT, addI, subI, ltI, leI, gtI, geI, eqI, neI, oIs_non, oIsNot_non, isNon1, isNon2, isNon3, isNon4, truB, truI, truL, truT, max2I, min2I, absI, aDCopy, dX_app, dC_app, aSlD, aAppR, aSetIxR, aFldAug, aItX, aJoin, aTIx, oi_none, oi_some, aRev, aCallD, aRevN, aIsE, aRaise, aFld, aSetF, aMeth, aMake, Res.bind_ok, Res.bind_er, Res.bind_no, Bool.true_eq_false, List.isEmpty_nil, List.isEmpty_cons, List.getElem?_cons_zero, List.getElem?_cons_succ, List.set_cons_zero, List.set_cons_succ, if_true, if_false, Bool.false_eq_true, Bool.not_true, Bool.not_false, len3, len4, len5, len6, len8, decide_true, decide_false, decide_eq_true_eq, Bool.true_and, Bool.and_true, Bool.false_and, Bool.and_false, Bool.or_true, Bool.true_or, Bool.or_false, Bool.false_or, Option.bind_some, mulP, mulQ, modP, divP, List.cons_append, List.nil_append, not_true_eq_false, not_false_eq_true, Bool.not_eq_true', decide_eq_false_iff_not, List.length_cons, List.length_nil, Nat.reduceAdd, List.map_nil, Int.reduceLT, Int.reduceLE, Int.reduceNeg, Int.reduceAdd, Int.reduceSub, Int.reduceMul, Nat.reduceLT, Nat.reduceLeDiff, Nat.reduceSub, Nat.reduceEqDiff, reduceCtorEq, and_true, true_and, and_self, ln, ok, sp]
theorem read_run (k : DK h d o w l ws lf dn) (hl : l.length ≤ 1000) (wok : WOK l.length ws) (a b : Nat) :
    m_Disk_read [.ref d, .int (a : Int), .int (b : Int)] h = if dn = true then .er fell h else .ok (.tup (ob (((seenF l ws).drop a).take b))) h := by
  have fd : mFld ["Disk"] "_down" (mVar 0) [.v (.ref d), .v (.int (a : Int)), .v (.int (b : Int)), .un, .un, .un] h = .ok (.bl dn) h := dfld k.ins rfl rfl
  rw [m_Disk_read, runD, if_pos (show ([.ref d, .int (a : Int), .int (b : Int)] : List PV).length = P_Disk_read.length from rfl), b_Disk_read, show startE N_Disk_read.length [.ref d, .int (a : Int), .int (b : Int)] = [.v (.ref d), .v (.int (a : Int)), .v (.int (b : Int)), .un, .un, .un] from rfl]
  cases dn
  · obtain ⟨u1, u2, e1⟩ := seen_walk (h := h) (fun x t1 t2 => [.v (.ref d), .v (.int (a : Int)), .v (.int (b : Int)), .own (.lst (ob x)), t1, t2]) k.wrt hl wok (fun x s p f1 f2 t1 t2 => read_turn _ _ _ x s p f1 f2 t1 t2) .un .un
    have fo : mFld ["Disk"] "_octets" (mVar 0) [.v (.ref d), .v (.int (a : Int)), .v (.int (b : Int)), .un, .un, .un] h = .ok (.ref o) h := dfld k.ins rfl rfl
    have fw : mFld ["Disk"] "_writes" (mVar 0) [.v (.ref d), .v (.int (a : Int)), .v (.int (b : Int)), .own (.lst (ob l)), .un, .un] h = .ok (.ref w) h := dfld k.ins rfl rfl
    have e0 : itemsOf (.ref w) h = some (ws.map wP) := itemsOf_ref k.wrt
    have hde : de h (.ref o) = .lst (ob l) := de_ref k.oct
    have sl := fun hh => slAB (seenF l ws) a b hh
    obtain ⟨I0, hI0⟩ : ∃ i : Int, i = (a : Int) := ⟨_, rfl⟩
    obtain ⟨I2, hI2⟩ : ∃ i : Int, i = (b : Int) := ⟨_, rfl⟩
    obtain ⟨WS, hWS⟩ : ∃ P, P = ws.map wP := ⟨_, rfl⟩
    simp only [← hI0, ← hI2, ← hWS] at *
    simp only [max3I, min3I, aLIx, aForR, itemsAt_lst, itemsAt_tup, forR_tup, forR_lst, aAddN, aRepN, aSplice, aSpliceR, aForS, aLcS, aJSeq, aJZip, itemsOf_lst, itemsOf_tup, aAddD, ofE_ok, ofE_er, ofE_no, aIsX, aXf, aRaise1, addT, negI, aIsi, aCallK, aR3, kd_non, kd_bl, kd_int, kd_str, kd_tup, kd_lst, kd_dct, isKd_ti, isKd_tb, isKd_ts, isKd_tt, isKd_tl, isKd_td, isKd_li, isKd_lb, isKd_ls, isKd_lt, isKd_ll, isKd_ld, isKd_ii, isKd_ib, isKd_is, isKd_it, isKd_il, isKd_id, isKd_bi, isKd_bb, isKd_bs, isKd_bt, isKd_bl, isKd_bd, isKd_si, isKd_sb, isKd_ss, isKd_st, isKd_sl, isKd_sd, isKd_ni, isKd_nb, isKd_ns, isKd_nt, isKd_nl, isKd_nd, aDNew, aKGet1, keyP_int, keyP_str, aDGet1, aDGet2, aDPut, aDisp, aItZ, aGTuT, aGTuL, aRf, de_lst, de_int, de_tup, de_str, de_non, de_bl, aExt, getF_nil, getF_cons, insN_nil, insN_cons, insV_nil, insV_cons, isB_bl, isNotB_bl, aSeq, aSkip, aSet, aSetN, aOp, aUn, aVar, aOwn, aC, aCall, aCallN, aNil, aCons, aRet, aRetN, aRetOwn, aIfS, aToT, aToTru, aNotT, aAndT, aOrT, aAndV, aOrV, aNotV, aIf, aTup, aSzc, aFz, aOn, aOs, aSl, aFor, aR1, aR2, aItE, aItS, aItL, aLc, aYes, aApp, aDrop, aAsg, aBreak, aCont, aGN, aGTu, aGCs, aGNl, aW0, aW1, lenI, lenT, intI, intB, tupL, tupT, listL, listT, addI, subI, ltI, leI, gtI, geI, eqI, neI, oIs_non, oIsNot_non, isNon1, isNon2, isNon3, isNon4, truB, truI, truL, truT, max2I, min2I, absI, aDCopy, dX_app, dC_app, aSlD, aAppR, aSetIxR, aFldAug, aItX, aJoin, aTIx, oi_none, oi_some, aRev, aCallD, aRevN, aIsE, aRaise, aSetF, aMeth, aMake, Res.bind_ok, Res.bind_er, Res.bind_no, Bool.true_eq_false, List.isEmpty_nil, List.isEmpty_cons, List.getElem?_cons_zero, List.getElem?_cons_succ, List.set_cons_zero, List.set_cons_succ, if_true, if_false, Bool.false_eq_true, Bool.not_true, Bool.not_false, len0, len1, len2, len3, len4, len5, len6, len8, decide_true, decide_false, decide_eq_true_eq, Bool.true_and, Bool.and_true, Bool.false_and, Bool.and_false, Bool.or_true, Bool.true_or, Bool.or_false, Bool.false_or, Option.bind_some, mulP, mulQ, modP, divP, List.cons_append, List.nil_append, not_true_eq_false, not_false_eq_true, Bool.not_eq_true', decide_eq_false_iff_not, List.length_cons, List.length_nil, Nat.reduceAdd, List.map_nil, Int.reduceLT, Int.reduceLE, Int.reduceNeg, Int.reduceAdd, Int.reduceSub, Int.reduceMul, Nat.reduceLT, Nat.reduceLeDiff, Nat.reduceSub, Nat.reduceEqDiff, reduceCtorEq, and_true, true_and, and_self, fd, fo, fw, e0, hde, e1, sl, List.map_cons]
  · simp only [max3I, min3I, aLIx, aForR, itemsAt_lst, itemsAt_tup, forR_tup, forR_lst, aAddN, aRepN, aSplice, aSpliceR, aForS, aLcS, aJSeq, aJZip, itemsOf_lst, itemsOf_tup, aAddD, ofE_ok, ofE_er, ofE_no, aIsX, aXf, aRaise1, addT, negI, aIsi, aCallK, aR3, kd_non, kd_bl, kd_int, kd_str, kd_tup, kd_lst, kd_dct, isKd_ti, isKd_tb, isKd_ts, isKd_tt, isKd_tl, isKd_td, isKd_li, isKd_lb, isKd_ls, isKd_lt, isKd_ll, isKd_ld, isKd_ii, isKd_ib, isKd_is, isKd_it, isKd_il, isKd_id, isKd_bi, isKd_bb, isKd_bs, isKd_bt, isKd_bl, isKd_bd, isKd_si, isKd_sb, isKd_ss, isKd_st, isKd_sl, isKd_sd, isKd_ni, isKd_nb, isKd_ns, isKd_nt, isKd_nl, isKd_nd, aDNew, aKGet1, keyP_int, keyP_str, aDGet1, aDGet2, aDPut, aDisp, aItZ, aGTuT, aGTuL, aRf, de_lst, de_int, de_tup, de_str, de_non, de_bl, aExt, getF_nil, getF_cons, insN_nil, insN_cons, insV_nil, insV_cons, isB_bl, isNotB_bl, aSeq, aSkip, aSet, aSetN, aOp, aUn, aVar, aOwn, aC, aCall, aCallN, aNil, aCons, aRet, aRetN, aRetOwn, aIfS, aToT, aToTru, aNotT, aAndT, aOrT, aAndV, aOrV, aNotV, aIf, aTup, aSzc, aFz, aOn, aOs, aSl, aFor, aR1, aR2, aItE, aItS, aItL, aLc, aYes, aApp, aDrop, aAsg, aBreak, aCont, aGN, aGTu, aGCs, aGNl, aW0, aW1, lenI, lenT, intI, intB, tupL, tupT, listL, listT, addI, subI, ltI, leI, gtI, geI, eqI, neI, oIs_non, oIsNot_non, isNon1, isNon2, isNon3, isNon4, truB, truI, truL, truT, max2I, min2I, absI, aDCopy, dX_app, dC_app, aSlD, aAppR, aSetIxR, aFldAug, aItX, aJoin, aTIx, oi_none, oi_some, aRev, aCallD, aRevN, aIsE, aRaise, aSetF, aMeth, aMake, Res.bind_ok, Res.bind_er, Res.bind_no, Bool.true_eq_false, List.isEmpty_nil, List.isEmpty_cons, List.getElem?_cons_zero, List.getElem?_cons_succ, List.set_cons_zero, List.set_cons_succ, if_true, if_false, Bool.false_eq_true, Bool.not_true, Bool.not_false, len0, len1, len2, len3, len4, len5, len6, len8, decide_true, decide_false, decide_eq_true_eq, Bool.true_and, Bool.and_true, Bool.false_and, Bool.and_false, Bool.or_true, Bool.true_or, Bool.or_false, Bool.false_or, Option.bind_some, mulP, mulQ, modP, divP, List.cons_append, List.nil_append, not_true_eq_false, not_false_eq_true, Bool.not_eq_true', decide_eq_false_iff_not, List.length_cons, List.length_nil, Nat.reduceAdd, List.map_nil, Int.reduceLT, Int.reduceLE, Int.reduceNeg, Int.reduceAdd, Int.reduceSub, Int.reduceMul, Nat.reduceLT, Nat.reduceLeDiff, Nat.reduceSub, Nat.reduceEqDiff, reduceCtorEq, and_true, true_and, and_self, fd]
    rfl
theorem seen_run (k : MK h m o w l ws lf dn) (hl : l.length ≤ 1000) (wok : WOK l.length ws) : m_L_seen [.ref m] h = .ok (.lst (ob (seenF l ws))) h := by
  obtain ⟨u1, u2, e1⟩ := seen_walk (h := h) (fun x t1 t2 => [.v (.ref m), .own (.lst (ob x)), t1, t2]) k.wrt hl wok (fun x s p f1 f2 t1 t2 => seen_turn _ x s p f1 f2 t1 t2) .un .un
  have fo : oDGet (.ref m) (.str "octets") h = .ok (.ref o) h := mget k.dct rfl
  have fw : oDGet (.ref m) (.str "writes") h = .ok (.ref w) h := mget k.dct rfl
  have e0 : itemsOf (.ref w) h = some (ws.map wP) := itemsOf_ref k.wrt
  have hde : de h (.ref o) = .lst (ob l) := de_ref k.oct
  rw [m_L_seen, runD, if_pos (show ([.ref m] : List PV).length = P_L_seen.length from rfl), b_L_seen, show startE N_L_seen.length [.ref m] = [.v (.ref m), .un, .un, .un] from rfl]
  obtain ⟨WS, hWS⟩ : ∃ P, P = ws.map wP := ⟨_, rfl⟩
  simp only [← hWS] at *
  simp only [max3I, min3I, aLIx, aForR, itemsAt_lst, itemsAt_tup, forR_tup, forR_lst, aAddN, aRepN, aSplice, aSpliceR, aForS, aLcS, aJSeq, aJZip, itemsOf_lst, itemsOf_tup, aAddD, ofE_ok, ofE_er, ofE_no, aIsX, aXf, aRaise1, addT, negI, aIsi, aCallK, aR3, kd_non, kd_bl, kd_int, kd_str, kd_tup, kd_lst, kd_dct, isKd_ti, isKd_tb, isKd_ts, isKd_tt, isKd_tl, isKd_td, isKd_li, isKd_lb, isKd_ls, isKd_lt, isKd_ll, isKd_ld, isKd_ii, isKd_ib, isKd_is, isKd_it, isKd_il, isKd_id, isKd_bi, isKd_bb, isKd_bs, isKd_bt, isKd_bl, isKd_bd, isKd_si, isKd_sb, isKd_ss, isKd_st, isKd_sl, isKd_sd, isKd_ni, isKd_nb, isKd_ns, isKd_nt, isKd_nl, isKd_nd, aDNew, aKGet1, keyP_int, keyP_str, aDGet1, aDGet2, aDPut, aDisp, aItZ, aGTuT, aGTuL, aRf, de_lst, de_int, de_tup, de_str, de_non, de_bl, aExt, getF_nil, getF_cons, insN_nil, insN_cons, insV_nil, insV_cons, isB_bl, isNotB_bl, aSeq, aSkip, aSet, aSetN, aOp, aUn, aVar, aOwn, aC, aCall, aCallN, aNil, aCons, aRet, aRetN, aRetOwn, aIfS, aToT, aToTru, aNotT, aAndT, aOrT, aAndV, aOrV, aNotV, aIf, aTup, aSzc, aFz, aOn, aOs, aSl, aFor, aR1, aR2, aItE, aItS, aItL, aLc, aYes, aApp, aDrop, aAsg, aBreak, aCont, aGN, aGTu, aGCs, aGNl, aW0, aW1, lenI, lenT, intI, intB, tupL, tupT, listL, listT, addI, subI, ltI, leI, gtI, geI, eqI, neI, oIs_non, oIsNot_non, isNon1, isNon2, isNon3, isNon4, truB, truI, truL, truT, max2I, min2I, absI, aDCopy, dX_app, dC_app, aSlD, aAppR, aSetIxR, aFldAug, aItX, aJoin, aTIx, oi_none, oi_some, aRev, aCallD, aRevN, aIsE, aRaise, aFld, aSetF, aMeth, aMake, Res.bind_ok, Res.bind_er, Res.bind_no, Bool.true_eq_false, List.isEmpty_nil, List.isEmpty_cons, List.getElem?_cons_zero, List.getElem?_cons_succ, List.set_cons_zero, List.set_cons_succ, if_true, if_false, Bool.false_eq_true, Bool.not_true, Bool.not_false, len0, len1, len2, len3, len4, len5, len6, len8, decide_true, decide_false, decide_eq_true_eq, Bool.true_and, Bool.and_true, Bool.false_and, Bool.and_false, Bool.or_true, Bool.true_or, Bool.or_false, Bool.false_or, Option.bind_some, mulP, mulQ, modP, divP, List.cons_append, List.nil_append, not_true_eq_false, not_false_eq_true, Bool.not_eq_true', decide_eq_false_iff_not, List.length_cons, List.length_nil, Nat.reduceAdd, List.map_nil, Int.reduceLT, Int.reduceLE, Int.reduceNeg, Int.reduceAdd, Int.reduceSub, Int.reduceMul, Nat.reduceLT, Nat.reduceLeDiff, Nat.reduceSub, Nat.reduceEqDiff, reduceCtorEq, and_true, true_and, and_self, fo, fw, e0, hde, e1, List.map_cons]
end
end Law

set_option Elab.async false
set_option linter.all false
set_option maxRecDepth 100000
set_option maxHeartbeats 4000000
namespace Law
open PySem Mir
section
variable {h : Hh} {d m o w : Nat} {l : List Nat} {ws : List (Nat × List Nat)} {lf : Option Nat} {dn : Bool} {env : En}
theorem wP_snoc (ws : List (Nat × List Nat)) (s : Nat) (p : List Nat) : ws.map wP ++ [PV.tup [.int (s : Int), .tup (ob p)]] = (ws ++ [(s, p)]).map wP := by
  rw [List.map_append]; rfl
theorem dmeth {mm : Str} {mf : MF} {mr : MA} (e : h[d]? = some (dOb o w lf dn)) (he : env[0]? = some (.v (.ref d))) (hy : getF mm DNS [.ref o, .ref w, lfP lf, .bl dn] = none) : mMeth "Disk" mm mf (mVar 0) mr env h = (mr env h).bind fun xs h => mf (.ref d :: xs) h :=
  meth_at (n := d) (by simp only [aVar, he]) e hy
/-- what a write leaves -/
def wrS (ok : Bool) (ws : List (Nat × List Nat)) (s : Nat) (p : List Nat) : List (Nat × List Nat) := if ok = true then ws ++ [(s, p)] else ws
theorem write_run (k : DK h d o w l ws lf dn) (hw : ws.length ≤ 100000) (s : Nat) (p : List Nat) : ∃ h', m_Disk_write [.ref d, .int (s : Int), .tup (ob p)] h = opR (opS lf dn).2.2 h' ∧
    DK h' d o w l (wrS (opS lf dn).2.2 ws s p) (opS lf dn).1 (opS lf dn).2.1 ∧ Fr [d, w] h h' := by
  obtain ⟨h1, e1, k1, f1⟩ := oper_run k
  have me : mMeth "Disk" "_operate" m_Disk__operate (mVar 0) mNil [.v (.ref d), .v (.int (s : Int)), .v (.tup (ob p))] h = opR (opS lf dn).2.2 h1 := by
    rw [dmeth k.ins rfl rfl]; exact e1
  rw [m_Disk_write, runD, if_pos (show ([.ref d, .int (s : Int), .tup (ob p)] : List PV).length = P_Disk_write.length from rfl), b_Disk_write, show startE N_Disk_write.length [.ref d, .int (s : Int), .tup (ob p)] = [.v (.ref d), .v (.int (s : Int)), .v (.tup (ob p))] from rfl]
  generalize opS lf dn = R at *
  obtain ⟨lf', dn', ok⟩ := R
  simp only at *
  cases ok
  · refine ⟨h1, ?_, k1, f1.mono (by simp)⟩
    simp only [aSeq, aDrop, me]
    rfl
  · have fw : mFld ["Disk"] "_writes" (mVar 0) [.v (.ref d), .v (.int (s : Int)), .v (.tup (ob p))] h1 = .ok (.ref w) h1 := dfld k1.ins rfl rfl
    have e2 := k1.wrt
    have hz : ((ws.map wP).length < 16777216) = True := eq_true (by rw [List.length_map]; omega)
    refine ⟨h1.set w (.lst ((ws ++ [(s, p)]).map wP)), ?_, ⟨get_set_ne k1.ins k1.dnw.symm, get_set_ne k1.oct k1.ow.symm, get_set_eq k1.wrt, k1.ow, k1.dno, k1.dnw⟩, (f1.mono (by simp)).trans (Fr.set _ _ (by simp))⟩
    rw [← wP_snoc]
    have me' : mMeth "Disk" "_operate" m_Disk__operate (mVar 0) mNil [.v (.ref d), .v (.int (s : Int)), .v (.tup (ob p))] h = .ok .non h1 := me
    obtain ⟨WS, hWS⟩ : ∃ P, P = ws.map wP := ⟨_, rfl⟩
    obtain ⟨P0, hP0⟩ : ∃ P, P = ob p := ⟨_, rfl⟩
    obtain ⟨I0, hI0⟩ : ∃ i : Int, i = (s : Int) := ⟨_, rfl⟩
    simp only [← hWS, ← hP0, ← hI0] at *
    simp only [max3I, min3I, aLIx, aForR, itemsAt_lst, itemsAt_tup, forR_tup, forR_lst, aAddN, aRepN, aSplice, aSpliceR, aForS, aLcS, aJSeq, aJZip, itemsOf_lst, itemsOf_tup, aAddD, ofE_ok, ofE_er, ofE_no, aIsX, aXf, aRaise1, addT, negI, aIsi, aCallK, aR3, kd_non, kd_bl, kd_int, kd_str, kd_tup, kd_lst, kd_dct, isKd_ti, isKd_tb, isKd_ts, isKd_tt, isKd_tl, isKd_td, isKd_li, isKd_lb, isKd_ls, isKd_lt, isKd_ll, isKd_ld, isKd_ii, isKd_ib, isKd_is, isKd_it, isKd_il, isKd_id, isKd_bi, isKd_bb, isKd_bs, isKd_bt, isKd_bl, isKd_bd, isKd_si, isKd_sb, isKd_ss, isKd_st, isKd_sl, isKd_sd, isKd_ni, isKd_nb, isKd_ns, isKd_nt, isKd_nl, isKd_nd, aDNew, aKGet1, keyP_int, keyP_str, aDGet1, aDGet2, aDPut, aDisp, aItZ, aGTuT, aGTuL, aRf, de_lst, de_int, de_tup, de_str, de_non, de_bl, aExt, getF_nil, getF_cons, insN_nil, insN_cons, insV_nil, insV_cons, isB_bl, isNotB_bl, aSeq, aSkip, aSet, aSetN, aOp, aUn, aVar, aOwn, aC, aCall, aCallN, aNil, aCons, aRet, aRetN, aRetOwn, aIfS, aToT, aToTru, aNotT, aAndT, aOrT, aAndV, aOrV, aNotV, aIf, aTup, aSzc, aFz, aOn, aOs, aSl, aFor, aR1, aR2, aItE, aItS, aItL, aLc, aYes, aApp, aDrop, aAsg, aBreak, aCont, aGN, aGTu, aGCs, aGNl, aW0, aW1, lenI, lenT, intI, intB, tupL, tupT, listL, listT, addI, subI, ltI, leI, gtI, geI, eqI, neI, oIs_non, oIsNot_non, isNon1, isNon2, isNon3, isNon4, truB, truI, truL, truT, max2I, min2I, absI, aDCopy, dX_app, dC_app, aSlD, aAppR, aSetIxR, aFldAug, aItX, aJoin, aTIx, oi_none, oi_some, aRev, aCallD, aRevN, aIsE, aRaise, aSetF, aMake, Res.bind_ok, Res.bind_er, Res.bind_no, Bool.true_eq_false, List.isEmpty_nil, List.isEmpty_cons, List.getElem?_cons_zero, List.getElem?_cons_succ, List.set_cons_zero, List.set_cons_succ, if_true, if_false, Bool.false_eq_true, Bool.not_true, Bool.not_false, len0, len1, len2, len3, len4, len5, len6, len8, decide_true, decide_false, decide_eq_true_eq, Bool.true_and, Bool.and_true, Bool.false_and, Bool.and_false, Bool.or_true, Bool.true_or, Bool.or_false, Bool.false_or, Option.bind_some, mulP, mulQ, modP, divP, List.cons_append, List.nil_append, not_true_eq_false, not_false_eq_true, Bool.not_eq_true', decide_eq_false_iff_not, List.length_cons, List.length_nil, Nat.reduceAdd, List.map_nil, Int.reduceLT, Int.reduceLE, Int.reduceNeg, Int.reduceAdd, Int.reduceSub, Int.reduceMul, Nat.reduceLT, Nat.reduceLeDiff, Nat.reduceSub, Nat.reduceEqDiff, reduceCtorEq, and_true, true_and, and_self, me', fw, e2, hz]
    rfl
theorem lens_run {tg1 : SV} {mm : ME} (hm : mm env h = .ok (.ref w) h) (hw : ws.length ≤ 100000) (e : h[w]? = some (.lst (ws.map wP))) (vs : List Nat) {g : MG} {el : ME} (B : Nat × List Nat → Nat)
    (turn : ∀ q, ∃ env1, g (wP q) (wipeE env vs) = some env1 ∧ el env1 h = .ok (.int (B q : Int)) h) : (mFz (mLcS (jSeq mm) vs g mYes el)) env h = .ok (.lst (ob (ws.map B))) h := by
  have e0 : itemsOf (.ref w) h = some (ws.map wP) := itemsOf_ref e
  have hz : ((ws.map wP).length ≤ 16777216) = True := eq_true (by rw [List.length_map]; omega)
  have run := lcS_map (src := itemsOf (.ref w)) (xs := ws.map wP) (g := g) (t := mYes) (e := el) (env := wipeE env vs) (h := h) e0 wP (fun q => PV.int (B q : Int)) ws fun q _ => (turn q).imp fun env1 z => ⟨z.1, rfl, z.2⟩
  have e2 : ob (ws.map B) = ws.map fun q => PV.int (B q : Int) := by unfold ob; rw [List.map_map]; rfl
  rw [e2]
  simp only [aFz, aLcS, aJSeq, hm, Res.bind_ok, e0, hz, if_true, run]
theorem sync_run (k : DK h d o w l ws lf dn) (hw : ws.length ≤ 100000) (hl : l.length ≤ 1000) (wok : WOK l.length ws) : ∃ h' w', m_Disk_sync [.ref d] h = opR (opS lf dn).2.2 h' ∧
    DK h' d o w' (if (opS lf dn).2.2 = true then seenF l ws else l) (if (opS lf dn).2.2 = true then [] else ws) (opS lf dn).1 (opS lf dn).2.1 ∧ Fr [d, o] h h' ∧ (w' = w ∨ h.length ≤ w') := by
  obtain ⟨h1, e1, k1, f1⟩ := oper_run k
  have me : mMeth "Disk" "_operate" m_Disk__operate (mVar 0) mNil [.v (.ref d), .un, .un] h = opR (opS lf dn).2.2 h1 := by
    rw [dmeth k.ins rfl rfl]; exact e1
  rw [m_Disk_sync, runD, if_pos (show ([.ref d] : List PV).length = P_Disk_sync.length from rfl), b_Disk_sync, show startE N_Disk_sync.length [.ref d] = [.v (.ref d), .un, .un] from rfl]
  generalize opS lf dn = R at *
  obtain ⟨lf', dn', ok⟩ := R
  simp only at *
  cases ok
  · refine ⟨h1, w, ?_, k1, f1.mono (by simp), .inl rfl⟩
    simp only [aSeq, aDrop, me]
    rfl
  · have fw : mFld ["Disk"] "_writes" (mVar 0) [.v (.ref d), .un, .un] h1 = .ok (.ref w) h1 := dfld k1.ins rfl rfl
    have ls := lens_run (tg1 := .un) fw hw k1.wrt [1, 2] (g := gTuA 2 (gCs (gN 1) (gCs (gN 2) gNl))) (el := mCall fLen (mCons (mVar 2) mNil)) (fun q => q.2.length) (fun q => ⟨_, rfl, by
      have ln := lenT q.2 h1
      simp only [max3I, min3I, aLIx, aForR, itemsAt_lst, itemsAt_tup, forR_tup, forR_lst, aAddN, aRepN, aSplice, aSpliceR, aForS, aLcS, aJSeq, aJZip, itemsOf_lst, itemsOf_tup, aAddD, ofE_ok, ofE_er, ofE_no, aIsX, aXf, aRaise1, addT, negI, aIsi, aCallK, aR3, kd_non, kd_bl, kd_int, kd_str, kd_tup, kd_lst, kd_dct, isKd_ti, isKd_tb, isKd_ts, isKd_tt, isKd_tl, isKd_td, isKd_li, isKd_lb, isKd_ls, isKd_lt, isKd_ll, isKd_ld, isKd_ii, isKd_ib, isKd_is, isKd_it, isKd_il, isKd_id, isKd_bi, isKd_bb, isKd_bs, isKd_bt, isKd_bl, isKd_bd, isKd_si, isKd_sb, isKd_ss, isKd_st, isKd_sl, isKd_sd, isKd_ni, isKd_nb, isKd_ns, isKd_nt, isKd_nl, isKd_nd, aDNew, aKGet1, keyP_int, keyP_str, aDGet1, aDGet2, aDPut, aDisp, aItZ, aGTuT, aGTuL, aRf, de_lst, de_int, de_tup, de_str, de_non, de_bl, aExt, getF_nil, getF_cons, insN_nil, insN_cons, insV_nil, insV_cons, isB_bl, isNotB_bl, aSeq, aSkip, aSet, aSetN, aOp, aUn, aVar, aOwn, aC, aCall, aCallN, aNil, aCons, aRet, aRetN, aRetOwn, aIfS, aToT, aToTru, aNotT, aAndT, aOrT, aAndV, aOrV, aNotV, aIf, aTup, aSzc, aFz, aOn, aOs, aSl, aFor, aR1, aR2, aItE, aItS, aItL, aLc, aYes, aApp, aDrop, aAsg, aBreak, aCont, aGN, aGTu, aGCs, aGNl, aW0, aW1, lenI, lenT, intI, intB, tupL, tupT, listL, listT, addI, subI, ltI, leI, gtI, geI, eqI, neI, oIs_non, oIsNot_non, isNon1, isNon2, isNon3, isNon4, truB, truI, truL, truT, max2I, min2I, absI, aDCopy, dX_app, dC_app, aSlD, aAppR, aSetIxR, aFldAug, aItX, aJoin, aTIx, oi_none, oi_some, aRev, aCallD, aRevN, aIsE, aRaise, aFld, aSetF, aMeth, aMake, Res.bind_ok, Res.bind_er, Res.bind_no, Bool.true_eq_false, List.isEmpty_nil, List.isEmpty_cons, List.getElem?_cons_zero, List.getElem?_cons_succ, List.set_cons_zero, List.set_cons_succ, if_true, if_false, Bool.false_eq_true, Bool.not_true, Bool.not_false, len0, len1, len2, len3, len4, len5, len6, len8, decide_true, decide_false, decide_eq_true_eq, Bool.true_and, Bool.and_true, Bool.false_and, Bool.and_false, Bool.or_true, Bool.true_or, Bool.or_false, Bool.false_or, Option.bind_some, mulP, mulQ, modP, divP, List.cons_append, List.nil_append, not_true_eq_false, not_false_eq_true, Bool.not_eq_true', decide_eq_false_iff_not, List.length_cons, List.length_nil, Nat.reduceAdd, List.map_nil, Int.reduceLT, Int.reduceLE, Int.reduceNeg, Int.reduceAdd, Int.reduceSub, Int.reduceMul, Nat.reduceLT, Nat.reduceLeDiff, Nat.reduceSub, Nat.reduceEqDiff, reduceCtorEq, and_true, true_and, and_self, wP, ln]⟩)
    obtain ⟨h2, e2, k2, f2⟩ := settle_run k1 hl wok (.lst (ob (ws.map fun q => q.2.length))) _ (.inl rfl)
    rw [settle_all (fun q => q.2.length) fun q _ => Nat.le_refl _] at k2
    have me' : mMeth "Disk" "_operate" m_Disk__operate (mVar 0) mNil [.v (.ref d), .un, .un] h = .ok .non h1 := me
    refine ⟨h2, h1.length, ?_, k2, (f1.mono (by simp)).trans f2, .inr f1.len⟩
    have ms : mMeth "Disk" "_settle" m_Disk__settle (mVar 0) (mCons (mFz (mLcS (jSeq (mFld ["Disk"] "_writes" (mVar 0))) [1, 2] (gTuA 2 (gCs (gN 1) (gCs (gN 2) gNl))) mYes (mCall fLen (mCons (mVar 2) mNil)))) mNil) [.v (.ref d), .un, .un] h1 = .ok .non h2 := by
      rw [dmeth k1.ins rfl rfl]
      simp only [aCons, aNil, ls, Res.bind_ok, e2]
    simp only [aSeq, aDrop, me', ofE_ok, ms]
    rfl
theorem arm_run (k : DK h d o w l ws lf dn) (n : Nat) : ∃ h', m_Disk_arm [.ref d, .int (n : Int)] h = .ok .non h' ∧ DK h' d o w l ws (if dn = true then lf else some n) dn ∧ Fr [d] h h' := by
  have fd : mFld ["Disk"] "_down" (mVar 0) [.v (.ref d), .v (.int (n : Int))] h = .ok (.bl dn) h := dfld k.ins rfl rfl
  rw [m_Disk_arm, runD, if_pos (show ([.ref d, .int (n : Int)] : List PV).length = P_Disk_arm.length from rfl), b_Disk_arm, show startE N_Disk_arm.length [.ref d, .int (n : Int)] = [.v (.ref d), .v (.int (n : Int))] from rfl]
  cases dn
  · have st : mSetF ["Disk"] "_left" (mVar 0) (mVar 1) [.v (.ref d), .v (.int (n : Int))] h = .nx [.v (.ref d), .v (.int (n : Int))] (h.set d (dOb o w (some n) false)) := dset (y := .int (n : Int)) rfl k.ins rfl rfl
    refine ⟨h.set d (dOb o w (some n) false), ?_, k.state _ _, Fr.set _ _ (by simp)⟩
    simp only [max3I, min3I, aLIx, aForR, itemsAt_lst, itemsAt_tup, forR_tup, forR_lst, aAddN, aRepN, aSplice, aSpliceR, aForS, aLcS, aJSeq, aJZip, itemsOf_lst, itemsOf_tup, aAddD, ofE_ok, ofE_er, ofE_no, aIsX, aXf, aRaise1, addT, negI, aIsi, aCallK, aR3, kd_non, kd_bl, kd_int, kd_str, kd_tup, kd_lst, kd_dct, isKd_ti, isKd_tb, isKd_ts, isKd_tt, isKd_tl, isKd_td, isKd_li, isKd_lb, isKd_ls, isKd_lt, isKd_ll, isKd_ld, isKd_ii, isKd_ib, isKd_is, isKd_it, isKd_il, isKd_id, isKd_bi, isKd_bb, isKd_bs, isKd_bt, isKd_bl, isKd_bd, isKd_si, isKd_sb, isKd_ss, isKd_st, isKd_sl, isKd_sd, isKd_ni, isKd_nb, isKd_ns, isKd_nt, isKd_nl, isKd_nd, aDNew, aKGet1, keyP_int, keyP_str, aDGet1, aDGet2, aDPut, aDisp, aItZ, aGTuT, aGTuL, aRf, de_lst, de_int, de_tup, de_str, de_non, de_bl, aExt, getF_nil, getF_cons, insN_nil, insN_cons, insV_nil, insV_cons, isB_bl, isNotB_bl, aSeq, aSkip, aSet, aSetN, aOp, aUn, aVar, aOwn, aC, aCall, aCallN, aNil, aCons, aRet, aRetN, aRetOwn, aIfS, aToT, aToTru, aNotT, aAndT, aOrT, aAndV, aOrV, aNotV, aIf, aTup, aSzc, aFz, aOn, aOs, aSl, aFor, aR1, aR2, aItE, aItS, aItL, aLc, aYes, aApp, aDrop, aAsg, aBreak, aCont, aGN, aGTu, aGCs, aGNl, aW0, aW1, lenI, lenT, intI, intB, tupL, tupT, listL, listT, addI, subI, ltI, leI, gtI, geI, eqI, neI, oIs_non, oIsNot_non, isNon1, isNon2, isNon3, isNon4, truB, truI, truL, truT, max2I, min2I, absI, aDCopy, dX_app, dC_app, aSlD, aAppR, aSetIxR, aFldAug, aItX, aJoin, aTIx, oi_none, oi_some, aRev, aCallD, aRevN, aIsE, aRaise, aMeth, aMake, Res.bind_ok, Res.bind_er, Res.bind_no, Bool.true_eq_false, List.isEmpty_nil, List.isEmpty_cons, List.getElem?_cons_zero, List.getElem?_cons_succ, List.set_cons_zero, List.set_cons_succ, if_true, if_false, Bool.false_eq_true, Bool.not_true, Bool.not_false, len0, len1, len2, len3, len4, len5, len6, len8, decide_true, decide_false, decide_eq_true_eq, Bool.true_and, Bool.and_true, Bool.false_and, Bool.and_false, Bool.or_true, Bool.true_or, Bool.or_false, Bool.false_or, Option.bind_some, mulP, mulQ, modP, divP, List.cons_append, List.nil_append, not_true_eq_false, not_false_eq_true, Bool.not_eq_true', decide_eq_false_iff_not, List.length_cons, List.length_nil, Nat.reduceAdd, List.map_nil, Int.reduceLT, Int.reduceLE, Int.reduceNeg, Int.reduceAdd, Int.reduceSub, Int.reduceMul, Nat.reduceLT, Nat.reduceLeDiff, Nat.reduceSub, Nat.reduceEqDiff, reduceCtorEq, and_true, true_and, and_self, fd, st]
  · refine ⟨h, ?_, k, Fr.refl _ _⟩
    simp only [max3I, min3I, aLIx, aForR, itemsAt_lst, itemsAt_tup, forR_tup, forR_lst, aAddN, aRepN, aSplice, aSpliceR, aForS, aLcS, aJSeq, aJZip, itemsOf_lst, itemsOf_tup, aAddD, ofE_ok, ofE_er, ofE_no, aIsX, aXf, aRaise1, addT, negI, aIsi, aCallK, aR3, kd_non, kd_bl, kd_int, kd_str, kd_tup, kd_lst, kd_dct, isKd_ti, isKd_tb, isKd_ts, isKd_tt, isKd_tl, isKd_td, isKd_li, isKd_lb, isKd_ls, isKd_lt, isKd_ll, isKd_ld, isKd_ii, isKd_ib, isKd_is, isKd_it, isKd_il, isKd_id, isKd_bi, isKd_bb, isKd_bs, isKd_bt, isKd_bl, isKd_bd, isKd_si, isKd_sb, isKd_ss, isKd_st, isKd_sl, isKd_sd, isKd_ni, isKd_nb, isKd_ns, isKd_nt, isKd_nl, isKd_nd, aDNew, aKGet1, keyP_int, keyP_str, aDGet1, aDGet2, aDPut, aDisp, aItZ, aGTuT, aGTuL, aRf, de_lst, de_int, de_tup, de_str, de_non, de_bl, aExt, getF_nil, getF_cons, insN_nil, insN_cons, insV_nil, insV_cons, isB_bl, isNotB_bl, aSeq, aSkip, aSet, aSetN, aOp, aUn, aVar, aOwn, aC, aCall, aCallN, aNil, aCons, aRet, aRetN, aRetOwn, aIfS, aToT, aToTru, aNotT, aAndT, aOrT, aAndV, aOrV, aNotV, aIf, aTup, aSzc, aFz, aOn, aOs, aSl, aFor, aR1, aR2, aItE, aItS, aItL, aLc, aYes, aApp, aDrop, aAsg, aBreak, aCont, aGN, aGTu, aGCs, aGNl, aW0, aW1, lenI, lenT, intI, intB, tupL, tupT, listL, listT, addI, subI, ltI, leI, gtI, geI, eqI, neI, oIs_non, oIsNot_non, isNon1, isNon2, isNon3, isNon4, truB, truI, truL, truT, max2I, min2I, absI, aDCopy, dX_app, dC_app, aSlD, aAppR, aSetIxR, aFldAug, aItX, aJoin, aTIx, oi_none, oi_some, aRev, aCallD, aRevN, aIsE, aRaise, aMeth, aMake, Res.bind_ok, Res.bind_er, Res.bind_no, Bool.true_eq_false, List.isEmpty_nil, List.isEmpty_cons, List.getElem?_cons_zero, List.getElem?_cons_succ, List.set_cons_zero, List.set_cons_succ, if_true, if_false, Bool.false_eq_true, Bool.not_true, Bool.not_false, len0, len1, len2, len3, len4, len5, len6, len8, decide_true, decide_false, decide_eq_true_eq, Bool.true_and, Bool.and_true, Bool.false_and, Bool.and_false, Bool.or_true, Bool.true_or, Bool.or_false, Bool.false_or, Option.bind_some, mulP, mulQ, modP, divP, List.cons_append, List.nil_append, not_true_eq_false, not_false_eq_true, Bool.not_eq_true', decide_eq_false_iff_not, List.length_cons, List.length_nil, Nat.reduceAdd, List.map_nil, Int.reduceLT, Int.reduceLE, Int.reduceNeg, Int.reduceAdd, Int.reduceSub, Int.reduceMul, Nat.reduceLT, Nat.reduceLeDiff, Nat.reduceSub, Nat.reduceEqDiff, reduceCtorEq, and_true, true_and, and_self, fd]
theorem fall_run (k : DK h d o w l ws lf dn) (hl : l.length ≤ 1000) (wok : WOK l.length ws) (kv : PV) (ks : List Nat) (hk : kv = .lst (ob ks) ∨ kv = .tup (ob ks)) : ∃ h', m_Disk_fall [.ref d, kv] h = .ok .non h' ∧
    DK h' d o h.length (settleF l (ws.zip ks)) [] none false ∧ Fr [d, o] h h' := by
  obtain ⟨h1, e1, k1, f1⟩ := settle_run k hl wok kv ks hk
  have ms : mMeth "Disk" "_settle" m_Disk__settle (mVar 0) (mCons (mVar 1) mNil) [.v (.ref d), .v kv] h = .ok .non h1 := by
    rw [dmeth k.ins rfl rfl]; exact e1
  have s1 : mSetF ["Disk"] "_left" (mVar 0) (mC .non) [.v (.ref d), .v kv] h1 = .nx [.v (.ref d), .v kv] (h1.set d (dOb o h.length none dn)) := dset (y := .non) rfl k1.ins rfl rfl
  have k2 := k1.state none dn
  have s2 : mSetF ["Disk"] "_down" (mVar 0) (mC (.bl false)) [.v (.ref d), .v kv] (h1.set d (dOb o h.length none dn)) = .nx [.v (.ref d), .v kv] ((h1.set d (dOb o h.length none dn)).set d (dOb o h.length none false)) := dset (y := .bl false) rfl k2.ins rfl rfl
  refine ⟨(h1.set d (dOb o h.length none dn)).set d (dOb o h.length none false), ?_, k2.state none false, (f1.trans (Fr.set _ _ (by simp))).trans (Fr.set _ _ (by simp))⟩
  rw [m_Disk_fall, runD, if_pos (show ([.ref d, kv] : List PV).length = P_Disk_fall.length from rfl), b_Disk_fall, show startE N_Disk_fall.length [.ref d, kv] = [.v (.ref d), .v kv] from rfl]
  simp only [aSeq, aDrop, ms, ofE_ok, s1, s2]
theorem pending_run (k : DK h d o w l ws lf dn) : m_Disk_pending [.ref d] h = .ok (.int (ws.length : Int)) h := by
  have fw : mFld ["Disk"] "_writes" (mVar 0) [.v (.ref d)] h = .ok (.ref w) h := dfld k.ins rfl rfl
  have hde : de h (.ref w) = .lst (ws.map wP) := de_ref k.wrt
  have ln : fLen [.lst (ws.map wP)] h = .ok (.int (ws.length : Int)) h := by
    show Res.ok (PV.int ((ws.map wP).length : Int)) h = _
    rw [List.length_map]
  rw [m_Disk_pending, runD, if_pos (show ([.ref d] : List PV).length = P_Disk_pending.length from rfl), b_Disk_pending, show startE N_Disk_pending.length [.ref d] = [.v (.ref d)] from rfl]
  obtain ⟨WS, hWS⟩ : ∃ P, P = ws.map wP := ⟨_, rfl⟩
  simp only [← hWS] at *
  simp only [max3I, min3I, aLIx, aForR, itemsAt_lst, itemsAt_tup, forR_tup, forR_lst, aAddN, aRepN, aSplice, aSpliceR, aForS, aLcS, aJSeq, aJZip, itemsOf_lst, itemsOf_tup, aAddD, ofE_ok, ofE_er, ofE_no, aIsX, aXf, aRaise1, addT, negI, aIsi, aCallK, aR3, kd_non, kd_bl, kd_int, kd_str, kd_tup, kd_lst, kd_dct, isKd_ti, isKd_tb, isKd_ts, isKd_tt, isKd_tl, isKd_td, isKd_li, isKd_lb, isKd_ls, isKd_lt, isKd_ll, isKd_ld, isKd_ii, isKd_ib, isKd_is, isKd_it, isKd_il, isKd_id, isKd_bi, isKd_bb, isKd_bs, isKd_bt, isKd_bl, isKd_bd, isKd_si, isKd_sb, isKd_ss, isKd_st, isKd_sl, isKd_sd, isKd_ni, isKd_nb, isKd_ns, isKd_nt, isKd_nl, isKd_nd, aDNew, aKGet1, keyP_int, keyP_str, aDGet1, aDGet2, aDPut, aDisp, aItZ, aGTuT, aGTuL, aRf, de_lst, de_int, de_tup, de_str, de_non, de_bl, aExt, getF_nil, getF_cons, insN_nil, insN_cons, insV_nil, insV_cons, isB_bl, isNotB_bl, aSeq, aSkip, aSet, aSetN, aOp, aUn, aVar, aOwn, aC, aCall, aCallN, aNil, aCons, aRet, aRetN, aRetOwn, aIfS, aToT, aToTru, aNotT, aAndT, aOrT, aAndV, aOrV, aNotV, aIf, aTup, aSzc, aFz, aOn, aOs, aSl, aFor, aR1, aR2, aItE, aItS, aItL, aLc, aYes, aApp, aDrop, aAsg, aBreak, aCont, aGN, aGTu, aGCs, aGNl, aW0, aW1, lenI, lenT, intI, intB, tupL, tupT, listL, listT, addI, subI, ltI, leI, gtI, geI, eqI, neI, oIs_non, oIsNot_non, isNon1, isNon2, isNon3, isNon4, truB, truI, truL, truT, max2I, min2I, absI, aDCopy, dX_app, dC_app, aSlD, aAppR, aSetIxR, aFldAug, aItX, aJoin, aTIx, oi_none, oi_some, aRev, aCallD, aRevN, aIsE, aRaise, aSetF, aMeth, aMake, Res.bind_ok, Res.bind_er, Res.bind_no, Bool.true_eq_false, List.isEmpty_nil, List.isEmpty_cons, List.getElem?_cons_zero, List.getElem?_cons_succ, List.set_cons_zero, List.set_cons_succ, if_true, if_false, Bool.false_eq_true, Bool.not_true, Bool.not_false, len0, len1, len2, len3, len4, len5, len6, len8, decide_true, decide_false, decide_eq_true_eq, Bool.true_and, Bool.and_true, Bool.false_and, Bool.and_false, Bool.or_true, Bool.true_or, Bool.or_false, Bool.false_or, Option.bind_some, mulP, mulQ, modP, divP, List.cons_append, List.nil_append, not_true_eq_false, not_false_eq_true, Bool.not_eq_true', decide_eq_false_iff_not, List.length_cons, List.length_nil, Nat.reduceAdd, List.map_nil, Int.reduceLT, Int.reduceLE, Int.reduceNeg, Int.reduceAdd, Int.reduceSub, Int.reduceMul, Nat.reduceLT, Nat.reduceLeDiff, Nat.reduceSub, Nat.reduceEqDiff, reduceCtorEq, and_true, true_and, and_self, fw, hde, ln, List.map_cons]
end
end Law

set_option Elab.async false
set_option linter.all false
set_option maxRecDepth 100000
set_option maxHeartbeats 4000000
namespace Law
open PySem Mir
section
variable {h : Hh} {d m o w : Nat} {l : List Nat} {ws : List (Nat × List Nat)} {lf : Option Nat} {dn : Bool} {env : En}
theorem lset_turn (k : MK h m o w l ws lf dn) (hl : l.length ≤ 1000) (wok : WOK l.length ws) (ks : List Nat) (i : Nat) (hi : i < (ws.zip ks).length) (t2 t3 t4 t5 : SV) : ∃ env1 env2 h', gN 2 (.int (i : Int)) [.v (.ref m), .v (.lst (ob ks)), t2, t3, t4, t5] = some env1 ∧ b_L_settle_1 env1 h = .nx env2 h' ∧
    (∃ t2 t3 t4 t5, env2 = [.v (.ref m), .v (.lst (ob ks)), t2, t3, t4, t5]) ∧ MK h' m o w (spl l (ws.zip ks)[i].1.1 ((ws.zip ks)[i].1.2.take (ws.zip ks)[i].2)) ws lf dn ∧ (∀ n, n ≠ o → h'[n]? = h[n]?) ∧ h'.length = h.length := by
  have hi2 : i < ws.length ∧ i < ks.length := by rw [List.length_zip] at hi; omega
  obtain ⟨⟨s, p⟩, hq⟩ : ∃ q, q = ws[i]'hi2.1 := ⟨_, rfl⟩
  obtain ⟨c, hc⟩ : ∃ c, c = ks[i]'hi2.2 := ⟨_, rfl⟩
  have ez : (ws.zip ks)[i] = ((s, p), c) := by rw [List.getElem_zip, ← hq, ← hc]
  rw [ez]
  have fit := take_fit (k := c) (wok (s, p) (by rw [hq]; exact List.getElem_mem _))
  obtain ⟨p', hp'⟩ : ∃ p', p' = p.take c := ⟨_, rfl⟩
  simp only [← hp'] at fit ⊢
  have sl := fun hh => slN p c hh
  rw [← hp'] at sl
  have ok := splice_ok fit (by omega)
  have sp := splice_ob (l := l) (p := p') (s := s)
  have fo : oDGet (.ref m) (.str "octets") h = .ok (.ref o) h := mget k.dct rfl
  have fw : oDGet (.ref m) (.str "writes") h = .ok (.ref w) h := mget k.dct rfl
  have hde : de h (.ref w) = .lst (ws.map wP) := de_ref k.wrt
  have dk : ∀ j : Int, de h (.int j) = .int j := fun _ => rfl
  have ix1 : ∀ hh, oIx (.lst (ws.map wP)) (.int (i : Int)) hh = .ok (.tup [.int (s : Int), .tup (ob p)]) hh := fun hh => ixL hh (by
    refine L2.atI_nat ?_
    rw [List.getElem?_map, List.getElem?_eq_getElem hi2.1, ← hq]
    rfl)
  have ix2 : ∀ hh, oIx (.lst (ob ks)) (.int (i : Int)) hh = .ok (.int (c : Int)) hh := fun hh => ixL hh (by
    refine L2.atI_nat ?_
    unfold ob
    rw [List.getElem?_map, List.getElem?_eq_getElem hi2.2, ← hc]
    rfl)
  have ln := lenT p' h
  have e2 := k.oct
  refine ⟨[.v (.ref m), .v (.lst (ob ks)), .v (.int (i : Int)), t3, t4, t5], [.v (.ref m), .v (.lst (ob ks)), .v (.int (i : Int)), .v (.int (s : Int)), .v (.tup (ob p')), .v (.ref o)], h.set o (.lst (ob (spl l s p'))), rfl, ?_, ⟨_, _, _, _, rfl⟩, ⟨get_set_ne k.dct k.mno.symm, get_set_eq k.oct, get_set_ne k.wrt k.ow, k.ow, k.mno, k.mnw⟩, fun n hn => List.getElem?_set_ne (Ne.symm hn), List.length_set⟩
  rw [b_L_settle_1]
  obtain ⟨P0, hP0⟩ : ∃ P, P = ob p := ⟨_, rfl⟩
  obtain ⟨P1, hP1⟩ : ∃ P, P = ob p' := ⟨_, rfl⟩
  obtain ⟨P2, hP2⟩ : ∃ P, P = ob ks := ⟨_, rfl⟩
  obtain ⟨WS, hWS⟩ : ∃ P, P = ws.map wP := ⟨_, rfl⟩
  obtain ⟨I0, hI0⟩ : ∃ i : Int, i = (s : Int) := ⟨_, rfl⟩
  obtain ⟨I1, hI1⟩ : ∃ i : Int, i = (c : Int) := ⟨_, rfl⟩
  obtain ⟨I2, hI2⟩ : ∃ i : Int, i = (p'.length : Int) := ⟨_, rfl⟩
  obtain ⟨I3, hI3⟩ : ∃ j : Int, j = (i : Int) := ⟨_, rfl⟩
  obtain ⟨L1, hL1⟩ : ∃ P, P = ob l := ⟨_, rfl⟩
  simp only [← hP0, ← hP1, ← hP2, ← hWS, ← hI0, ← hI1, ← hI2, ← hI3, ← hL1] at *
  simp only [max3I, min3I, aLIx, aForR, itemsAt_lst, itemsAt_tup, forR_tup, forR_lst, aAddN, aRepN, aSplice, aSpliceR, aForS, aLcS, aJSeq, aJZip, itemsOf_lst, itemsOf_tup, aAddD, ofE_ok, ofE_er, ofE_no, aIsX, aXf, aRaise1, addT, negI, aIsi, aCallK, aR3, kd_non, kd_bl, kd_int, kd_str, kd_tup, kd_lst, kd_dct, isKd_ti, isKd_tb, isKd_ts, isKd_tt, isKd_tl, isKd_td, isKd_li, isKd_lb, isKd_ls, isKd_lt, isKd_ll, isKd_ld, isKd_ii, isKd_ib, isKd_is, isKd_it, isKd_il, isKd_id, isKd_bi, isKd_bb, isKd_bs, isKd_bt, isKd_bl, isKd_bd, isKd_si, isKd_sb, isKd_ss, isKd_st, isKd_sl, isKd_sd, isKd_ni, isKd_nb, isKd_ns, isKd_nt, isKd_nl, isKd_nd, aDNew, aKGet1, keyP_int, keyP_str, aDGet1, aDGet2, aDPut, aDisp, aItZ, aGTuT, aGTuL, aRf, de_lst, de_int, de_tup, de_str, de_non, de_bl, aExt, getF_nil, getF_cons, insN_nil, insN_cons, insV_nil, insV_cons, isB_bl, isNotB_bl, aSeq, aSkip, aSet, aSetN, aOp, aUn, aVar, aOwn, aC, aCall, aCallN, aNil, aCons, aRet, aRetN, aRetOwn, aIfS, aToT, aToTru, aNotT, aAndT, aOrT, aAndV, aOrV, aNotV, aIf, aTup, aSzc, aFz, aOn, aOs, aSl, aFor, aR1, aR2, aItE, aItS, aItL, aLc, aYes, aApp, aDrop, aAsg, aBreak, aCont, aGN, aGTu, aGCs, aGNl, aW0, aW1, lenI, lenT, intI, intB, tupL, tupT, listL, listT, addI, subI, ltI, leI, gtI, geI, eqI, neI, oIs_non, oIsNot_non, isNon1, isNon2, isNon3, isNon4, truB, truI, truL, truT, max2I, min2I, absI, aDCopy, dX_app, dC_app, aSlD, aAppR, aSetIxR, aFldAug, aItX, aJoin, aTIx, oi_none, oi_some, aRev, aCallD, aRevN, aIsE, aRaise, aFld, aSetF, aMeth, aMake, Res.bind_ok, Res.bind_er, Res.bind_no, Bool.true_eq_false, List.isEmpty_nil, List.isEmpty_cons, List.getElem?_cons_zero, List.getElem?_cons_succ, List.set_cons_zero, List.set_cons_succ, if_true, if_false, Bool.false_eq_true, Bool.not_true, Bool.not_false, len3, len4, len5, len6, len8, decide_true, decide_false, decide_eq_true_eq, Bool.true_and, Bool.and_true, Bool.false_and, Bool.and_false, Bool.or_true, Bool.true_or, Bool.or_false, Bool.false_or, Option.bind_some, mulP, mulQ, modP, divP, List.cons_append, List.nil_append, not_true_eq_false, not_false_eq_true, Bool.not_eq_true', decide_eq_false_iff_not, List.length_cons, List.length_nil, Nat.reduceAdd, List.map_nil, Int.reduceLT, Int.reduceLE, Int.reduceNeg, Int.reduceAdd, Int.reduceSub, Int.reduceMul, Nat.reduceLT, Nat.reduceLeDiff, Nat.reduceSub, Nat.reduceEqDiff, reduceCtorEq, and_true, true_and, and_self, fo, fw, hde, dk, ix1, ix2, sl, ln, e2, ok, sp]
theorem lset_run (k : MK h m o w l ws lf dn) (hl : l.length ≤ 1000) (wok : WOK l.length ws) (ks : List Nat) (hn : ws.length ≤ 100000) :
    ∃ h', m_L_settle [.ref m, .lst (ob ks)] h = .ok .non h' ∧ MK h' m o h.length (settleF l (ws.zip ks)) [] lf dn ∧ Fr [m, o] h h' := by
  obtain ⟨n, hnz⟩ : ∃ n, n = (ws.zip ks).length := ⟨_, rfl⟩
  obtain ⟨env', h1, e1, ⟨t2, t3, t4, t5, rfl⟩, k1, q2, q3⟩ := forL_range (g := gN 2) (b := b_L_settle_1) n
    (fun i env hh => (∃ t2 t3 t4 t5, env = [.v (.ref m), .v (.lst (ob ks)), t2, t3, t4, t5]) ∧ MK hh m o w (settleF l ((ws.zip ks).take i)) ws lf dn ∧ (∀ n, n ≠ o → hh[n]? = h[n]?) ∧ hh.length = h.length)
    (fun i hi env hh ⟨⟨t2, t3, t4, t5, e⟩, k1, q2, q3⟩ => by
      subst e
      have hi' : i < (ws.zip ks).length := by omega
      have mem : ∀ x ∈ ws.zip ks, x.1.1 + x.1.2.length ≤ l.length := fun x hx => wok x.1 (List.of_mem_zip hx).1
      have len1 : (settleF l ((ws.zip ks).take i)).length = l.length := settleF_len fun x hx => mem x (List.mem_of_mem_take hx)
      obtain ⟨env1, env2, h', e1, e2, ⟨u2, u3, u4, u5, e3⟩, k2, r2, r3⟩ := lset_turn k1 (by omega) (by rw [len1]; exact wok) ks i hi' t2 t3 t4 t5
      refine ⟨env1, env2, h', e1, e2, ⟨u2, u3, u4, u5, e3⟩, ?_, fun x hx => (r2 x hx).trans (q2 x hx), r3.trans q3⟩
      have nx : settleF l ((ws.zip ks).take (i + 1)) = spl (settleF l ((ws.zip ks).take i)) (ws.zip ks)[i].1.1 ((ws.zip ks)[i].1.2.take (ws.zip ks)[i].2) := by
        rw [List.take_succ_eq_append_getElem hi']
        unfold settleF
        rw [List.foldl_append]
        rfl
      rw [nx]
      exact k2)
    (env := [.v (.ref m), .v (.lst (ob ks)), .un, .un, .un, .un]) (h := h) ⟨⟨_, _, _, _, rfl⟩, k, fun _ _ => rfl, rfl⟩
  rw [hnz, List.take_length] at k1
  have fr1 : Fr [m, o] h h1 := ⟨by omega, fun n _ hn => q2 n (by simp at hn; exact hn.2)⟩
  have ea : (h1 ++ [Ob.lst []])[m]? = some (kOb o w lf dn) := get_app k1.dct _
  have st : mDPut (mVar 0) (mC (.str "writes")) (mRf (szc mNil)) [.v (.ref m), .v (.lst (ob ks)), t2, t3, t4, t5] h1 = .nx [.v (.ref m), .v (.lst (ob ks)), t2, t3, t4, t5] ((h1 ++ [Ob.lst []]).set m (kOb o h1.length lf dn)) :=
    mput (y := .ref h1.length) (h' := h1 ++ [Ob.lst []]) rfl ea rfl rfl
  have od : m < h1.length := lt_of_at k1.dct
  have oo : o < h1.length := lt_of_at k1.oct
  refine ⟨(h1 ++ [Ob.lst []]).set m (kOb o h1.length lf dn), ?_, ?_, (fr1.trans (Fr.app _ _)).trans (Fr.set _ _ (by simp))⟩
  · have fw : oDGet (.ref m) (.str "writes") h = .ok (.ref w) h := mget k.dct rfl
    have hde : de h (.ref w) = .lst (ws.map wP) := de_ref k.wrt
    have l1 : fLen [.lst (ob ks)] h = .ok (.int (ks.length : Int)) h := by
      show Res.ok (PV.int ((ob ks).length : Int)) h = _
      rw [ob_len]
    have l2 : fLen [.lst (ws.map wP)] h = .ok (.int (ws.length : Int)) h := by
      show Res.ok (PV.int ((ws.map wP).length : Int)) h = _
      rw [List.length_map]
    have mn : (if (ws.length : Int) < (ks.length : Int) then (ws.length : Int) else (ks.length : Int)) = (n : Int) := by
      rw [hnz, List.length_zip]
      split <;> omega
    have rk : rngOk (n : Int) = true := by
      have : n ≤ 100000 := by rw [hnz, List.length_zip]; omega
      unfold rngOk
      simp only [Bool.and_eq_true, decide_eq_true_eq]
      omega
    have hr : rngList 0 (n : Int).toNat = (List.range n).map fun (k : Nat) => PV.int (k : Int) := by rw [Int.toNat_natCast]; exact rng_nat n
    rw [m_L_settle, runD, if_pos (show ([.ref m, .lst (ob ks)] : List PV).length = P_L_settle.length from rfl), b_L_settle, show startE N_L_settle.length [.ref m, .lst (ob ks)] = [.v (.ref m), .v (.lst (ob ks)), .un, .un, .un, .un] from rfl]
    obtain ⟨P2, hP2⟩ : ∃ P, P = ob ks := ⟨_, rfl⟩
    obtain ⟨WS, hWS⟩ : ∃ P, P = ws.map wP := ⟨_, rfl⟩
    obtain ⟨I1, hI1⟩ : ∃ i : Int, i = (ks.length : Int) := ⟨_, rfl⟩
    obtain ⟨I2, hI2⟩ : ∃ i : Int, i = (ws.length : Int) := ⟨_, rfl⟩
    obtain ⟨I3, hI3⟩ : ∃ i : Int, i = (n : Int) := ⟨_, rfl⟩
    obtain ⟨RL, hRL⟩ : ∃ P, P = (List.range n).map fun (k : Nat) => PV.int (k : Int) := ⟨_, rfl⟩
    simp only [← hP2, ← hWS, ← hI1, ← hI2, ← hI3, ← hRL] at *
    simp only [max3I, min3I, aLIx, aForR, itemsAt_lst, itemsAt_tup, forR_tup, forR_lst, aAddN, aRepN, aSplice, aSpliceR, aForS, aLcS, aJSeq, aJZip, itemsOf_lst, itemsOf_tup, aAddD, ofE_ok, ofE_er, ofE_no, aIsX, aXf, aRaise1, addT, negI, aIsi, aCallK, aR3, kd_non, kd_bl, kd_int, kd_str, kd_tup, kd_lst, kd_dct, isKd_ti, isKd_tb, isKd_ts, isKd_tt, isKd_tl, isKd_td, isKd_li, isKd_lb, isKd_ls, isKd_lt, isKd_ll, isKd_ld, isKd_ii, isKd_ib, isKd_is, isKd_it, isKd_il, isKd_id, isKd_bi, isKd_bb, isKd_bs, isKd_bt, isKd_bl, isKd_bd, isKd_si, isKd_sb, isKd_ss, isKd_st, isKd_sl, isKd_sd, isKd_ni, isKd_nb, isKd_ns, isKd_nt, isKd_nl, isKd_nd, aDNew, aKGet1, keyP_int, keyP_str, aDGet1, aDGet2, aDisp, aItZ, aGTuT, aGTuL, aRf, de_lst, de_int, de_tup, de_str, de_non, de_bl, aExt, getF_nil, getF_cons, insN_nil, insN_cons, insV_nil, insV_cons, isB_bl, isNotB_bl, aSeq, aSkip, aSet, aSetN, aOp, aUn, aVar, aOwn, aC, aCall, aCallN, aNil, aCons, aRet, aRetN, aRetOwn, aIfS, aToT, aToTru, aNotT, aAndT, aOrT, aAndV, aOrV, aNotV, aIf, aTup, aSzc, aFz, aOn, aOs, aSl, aFor, aR1, aR2, aItE, aItS, aItL, aLc, aYes, aApp, aDrop, aAsg, aBreak, aCont, aGN, aGTu, aGCs, aGNl, aW0, aW1, lenI, lenT, intI, intB, tupL, tupT, listL, listT, addI, subI, ltI, leI, gtI, geI, eqI, neI, oIs_non, oIsNot_non, isNon1, isNon2, isNon3, isNon4, truB, truI, truL, truT, max2I, min2I, absI, aDCopy, dX_app, dC_app, aSlD, aAppR, aSetIxR, aFldAug, aItX, aJoin, aTIx, oi_none, oi_some, aRev, aCallD, aRevN, aIsE, aRaise, aFld, aSetF, aMeth, aMake, Res.bind_ok, Res.bind_er, Res.bind_no, Bool.true_eq_false, List.isEmpty_nil, List.isEmpty_cons, List.getElem?_cons_zero, List.getElem?_cons_succ, List.set_cons_zero, List.set_cons_succ, if_true, if_false, Bool.false_eq_true, Bool.not_true, Bool.not_false, len0, len1, len2, len3, len4, len5, len6, len8, decide_true, decide_false, decide_eq_true_eq, Bool.true_and, Bool.and_true, Bool.false_and, Bool.and_false, Bool.or_true, Bool.true_or, Bool.or_false, Bool.false_or, Option.bind_some, mulP, mulQ, modP, divP, List.cons_append, List.nil_append, not_true_eq_false, not_false_eq_true, Bool.not_eq_true', decide_eq_false_iff_not, List.length_cons, List.length_nil, Nat.reduceAdd, List.map_nil, Int.reduceLT, Int.reduceLE, Int.reduceNeg, Int.reduceAdd, Int.reduceSub, Int.reduceMul, Nat.reduceLT, Nat.reduceLeDiff, Nat.reduceSub, Nat.reduceEqDiff, reduceCtorEq, and_true, true_and, and_self, fw, hde, l1, l2, mn, rk, hr, e1, st, List.map_cons]
  · rw [← q3]
    exact ⟨get_set_eq ea, get_set_ne (get_app k1.oct _) k.mno, get_set_ne (get_end h1 (.lst [])) (Nat.ne_of_lt od), Nat.ne_of_lt oo, k.mno, Nat.ne_of_lt od⟩
end
end Law

set_option Elab.async false
set_option linter.all false
set_option maxRecDepth 100000
set_option maxHeartbeats 4000000
namespace Law
open PySem Mir
/-! ### equal octets -/
abbrev dT (a : List Nat) : PyData := .tuple (a.map fun b : Nat => .int (b : Int))
theorem toD_ob (a : List Nat) : toD (.tup (ob a)) = some (dT a) := by
  rw [toD, toDs_map (fun b : Nat => PV.int (b : Int)) (fun b : Nat => PyData.int (b : Int)) a (fun b _ => by rw [toD])]; rfl
theorem eqv_ints : ∀ a b : List Nat, PyData.eqvAll (a.map fun b : Nat => .int (b : Int)) (b.map fun b : Nat => .int (b : Int)) = decide (a = b)
  | [], [] => by simp [PyData.eqvAll]
  | [], _ :: _ => by simp [PyData.eqvAll]
  | _ :: _, [] => by simp [PyData.eqvAll]
  | x :: r, y :: s => by
    rw [List.map_cons, List.map_cons]
    simp only [PyData.eqvAll, PyData.eqv, eqv_ints r s]
    by_cases e : x = y
    · subst e; simp
    · have : ¬ ((x : Int) = (y : Int)) := by omega
      simp [e, this]
theorem eqv_dT (a b : List Nat) : PyData.eqv (dT a) (dT b) = decide (a = b) := by
  simp only [PyData.eqv]; exact eqv_ints a b
theorem lv_ob (a : List Nat) : lv 1 (.tup (ob a)) = true := by rw [ob_ints]; exact lv_tints _
theorem shaped_of {n : Nat} {x : PV} {d : PyData} (hn : n ≤ 64) (h : lv n x = true) (e : toD x = some d) : SeqAt.shaped d = true := by
  obtain ⟨d', e', s, _⟩ := lv_shaped h hn
  rw [e] at e'; cases e'; exact s
theorem eqG_of {n : Nat} (hn : n ≤ 64) (neg : Bool) {x y : PV} {dx dy : PyData} (sx : sEq x y = none) (hx : lv n x = true) (hy : lv n y = true) (ex : toD x = some dx) (ey : toD y = some dy) (h : Hh) :
    oEqG neg x y h = .ok (.bl (if neg then !PyData.eqv dx dy else PyData.eqv dx dy)) h := by
  unfold oEqG
  rw [sx, ex, ey]
  simp only [shaped_of hn hx ex, shaped_of hn hy ey, Bool.and_self, if_true]
theorem eq_ob (a b : List Nat) (h : Hh) : oEq (.tup (ob a)) (.tup (ob b)) h = .ok (.bl (decide (a = b))) h := by
  have := eqG_of (n := 1) (by decide) false (x := .tup (ob a)) (y := .tup (ob b)) rfl (lv_ob a) (lv_ob b) (toD_ob a) (toD_ob b) h
  rw [eqv_dT] at this; exact this
theorem ne_ob (a b : List Nat) (h : Hh) : oNe (.tup (ob a)) (.tup (ob b)) h = .ok (.bl (!decide (a = b))) h := by
  have := eqG_of (n := 1) (by decide) true (x := .tup (ob a)) (y := .tup (ob b)) rfl (lv_ob a) (lv_ob b) (toD_ob a) (toD_ob b) h
  rw [eqv_dT] at this; exact this
theorem divN {a b : Nat} (hb : 0 < b) (hb2 : b < 1000000) (h : Hh) : oDiv (.int (a : Int)) (.int (b : Int)) h = .ok (.int ((a / b : Nat) : Int)) h := by
  rw [divP h (by omega) (by omega)]; rfl
theorem modL {a : Nat} (b : Nat) (hb : 0 < b) (h : Hh) : oMod (.int (a : Int)) (.int (b : Int)) h = .ok (.int ((a % b : Nat) : Int)) h := by
  have e := modP (i := (a : Int)) (j := (b : Int)) h (by omega)
  rw [e]; rfl
/-! ### the law's tries -/
section
variable {h : Hh} {d m o w : Nat} {l : List Nat} {ws : List (Nat × List Nat)} {lf : Option Nat} {dn : Bool} {env : En}
theorem try_fell {mb : MS} {x0 x1 : PV} {h' : Hh} (hb : mb [.v x0, .v x1, .un] h = .er fell [.v x0, .v x1, .un] h') : mTryAs ["DiskFell"] [] 2 mb (fun _ => mIfS (toTru (mIsX 2 true)) (mRet (mC (.str "fell"))) mSkip) [.v x0, .v x1, .un] h = .rt (.str "fell") h' := by
  unfold mTryAs
  rw [hb]
  rfl
theorem try_nx {cs no : List Str} {i : Nat} {mb : MS} {ms : Xn → MS} {env env' : En} {h' : Hh} (hb : mb env h = .nx env' h') : mTryAs cs no i mb ms env h = .nx env' h' := by
  unfold mTryAs
  rw [hb]
theorem try_rt {cs no : List Str} {i : Nat} {mb : MS} {ms : Xn → MS} {env : En} {v : PV} {h' : Hh} (hb : mb env h = .rt v h') : mTryAs cs no i mb ms env h = .rt v h' := by
  unfold mTryAs
  rw [hb]
def opV (ok : Bool) : PV := if ok = true then .non else .str "fell"
theorem tried_write (k : DK h d o w l ws lf dn) (hw : ws.length ≤ 100000) (s : Nat) (p : List Nat) : ∃ h', m_L_tried [.ref d, .tup [.str "write", .int (s : Int), .tup (ob p)]] h = .ok (opV (opS lf dn).2.2) h' ∧
    DK h' d o w l (wrS (opS lf dn).2.2 ws s p) (opS lf dn).1 (opS lf dn).2.1 ∧ Fr [d, w] h h' := by
  obtain ⟨h', e1, k1, f1⟩ := write_run k hw s p
  refine ⟨h', ?_, k1, f1⟩
  have i0 : ∀ hh, oIx (.tup [.str "write", .int (s : Int), .tup (ob p)]) (.int 0) hh = .ok (.str "write") hh := fun hh => ixT hh rfl
  have i1 : ∀ hh, oIx (.tup [.str "write", .int (s : Int), .tup (ob p)]) (.int 1) hh = .ok (.int (s : Int)) hh := fun hh => ixT hh rfl
  have i2 : ∀ hh, oIx (.tup [.str "write", .int (s : Int), .tup (ob p)]) (.int 2) hh = .ok (.tup (ob p)) hh := fun hh => ixT hh rfl
  have c0 : ∀ hh, oEq (.str "write") (.str "write") hh = .ok (.bl true) hh := fun _ => rfl
  rw [m_L_tried, runD, if_pos (show ([.ref d, .tup [.str "write", .int (s : Int), .tup (ob p)]] : List PV).length = P_L_tried.length from rfl), b_L_tried, show startE N_L_tried.length [.ref d, .tup [.str "write", .int (s : Int), .tup (ob p)]] = [.v (.ref d), .v (.tup [.str "write", .int (s : Int), .tup (ob p)]), .un] from rfl]
  obtain ⟨AV, hAV⟩ : ∃ A, A = PV.tup [.str "write", .int (s : Int), .tup (ob p)] := ⟨_, rfl⟩
  simp only [← hAV] at *
  have me : mMeth "Disk" "write" m_Disk_write (mVar 0) (mCons (mOp oIx (mVar 1) (mC (.int 1))) (mCons (mOp oIx (mVar 1) (mC (.int 2))) mNil)) [.v (.ref d), .v AV, .un] h = opR (opS lf dn).2.2 h' := by
    rw [dmeth k.ins rfl rfl]
    simp only [max3I, min3I, aLIx, aForR, itemsAt_lst, itemsAt_tup, forR_tup, forR_lst, aAddN, aRepN, aSplice, aSpliceR, aForS, aLcS, aJSeq, aJZip, itemsOf_lst, itemsOf_tup, aAddD, ofE_ok, ofE_er, ofE_no, aIsX, aXf, aRaise1, addT, negI, aIsi, aCallK, aR3, kd_non, kd_bl, kd_int, kd_str, kd_tup, kd_lst, kd_dct, isKd_ti, isKd_tb, isKd_ts, isKd_tt, isKd_tl, isKd_td, isKd_li, isKd_lb, isKd_ls, isKd_lt, isKd_ll, isKd_ld, isKd_ii, isKd_ib, isKd_is, isKd_it, isKd_il, isKd_id, isKd_bi, isKd_bb, isKd_bs, isKd_bt, isKd_bl, isKd_bd, isKd_si, isKd_sb, isKd_ss, isKd_st, isKd_sl, isKd_sd, isKd_ni, isKd_nb, isKd_ns, isKd_nt, isKd_nl, isKd_nd, aDNew, aKGet1, keyP_int, keyP_str, aDGet1, aDGet2, aDPut, aDisp, aItZ, aGTuT, aGTuL, aRf, de_lst, de_int, de_tup, de_str, de_non, de_bl, aExt, getF_nil, getF_cons, insN_nil, insN_cons, insV_nil, insV_cons, isB_bl, isNotB_bl, aSeq, aSkip, aSet, aSetN, aOp, aUn, aVar, aOwn, aC, aCall, aCallN, aNil, aCons, aRet, aRetN, aRetOwn, aIfS, aToT, aToTru, aNotT, aAndT, aOrT, aAndV, aOrV, aNotV, aIf, aTup, aSzc, aFz, aOn, aOs, aSl, aFor, aR1, aR2, aItE, aItS, aItL, aLc, aYes, aApp, aDrop, aAsg, aBreak, aCont, aGN, aGTu, aGCs, aGNl, aW0, aW1, lenI, lenT, intI, intB, tupL, tupT, listL, listT, addI, subI, ltI, leI, gtI, geI, eqI, neI, oIs_non, oIsNot_non, isNon1, isNon2, isNon3, isNon4, truB, truI, truL, truT, max2I, min2I, absI, aDCopy, dX_app, dC_app, aSlD, aAppR, aSetIxR, aFldAug, aItX, aJoin, aTIx, oi_none, oi_some, aRev, aCallD, aRevN, aIsE, aRaise, aFld, aSetF, aMeth, aMake, Res.bind_ok, Res.bind_er, Res.bind_no, Bool.true_eq_false, List.isEmpty_nil, List.isEmpty_cons, List.getElem?_cons_zero, List.getElem?_cons_succ, List.set_cons_zero, List.set_cons_succ, if_true, if_false, Bool.false_eq_true, Bool.not_true, Bool.not_false, len0, len1, len2, len3, len4, len5, len6, len8, decide_true, decide_false, decide_eq_true_eq, Bool.true_and, Bool.and_true, Bool.false_and, Bool.and_false, Bool.or_true, Bool.true_or, Bool.or_false, Bool.false_or, Option.bind_some, mulP, mulQ, modP, divP, List.cons_append, List.nil_append, not_true_eq_false, not_false_eq_true, Bool.not_eq_true', decide_eq_false_iff_not, List.length_cons, List.length_nil, Nat.reduceAdd, List.map_nil, Int.reduceLT, Int.reduceLE, Int.reduceNeg, Int.reduceAdd, Int.reduceSub, Int.reduceMul, Nat.reduceLT, Nat.reduceLeDiff, Nat.reduceSub, Nat.reduceEqDiff, reduceCtorEq, and_true, true_and, and_self, i1, i2]
    exact e1
  generalize opS lf dn = R at *
  obtain ⟨lf', dn', ok⟩ := R
  cases ok
  · have hb : (mIfS (toT (mOp oEq (mOp oIx (mVar 1) (mC (.int 0))) (mC (.str "write")))) (mDrop (mMeth "Disk" "write" m_Disk_write (mVar 0) (mCons (mOp oIx (mVar 1) (mC (.int 1))) (mCons (mOp oIx (mVar 1) (mC (.int 2))) mNil)))) (mIfS (toT (mOp oEq (mOp oIx (mVar 1) (mC (.int 0))) (mC (.str "sync")))) (mDrop (mMeth "Disk" "sync" m_Disk_sync (mVar 0) mNil)) (mRet (mMeth "Disk" "read" m_Disk_read (mVar 0) (mCons (mOp oIx (mVar 1) (mC (.int 1))) (mCons (mOp oIx (mVar 1) (mC (.int 2))) mNil)))))) [.v (.ref d), .v AV, .un] h = .er fell [.v (.ref d), .v AV, .un] h' := by
      simp only [max3I, min3I, aLIx, aForR, itemsAt_lst, itemsAt_tup, forR_tup, forR_lst, aAddN, aRepN, aSplice, aSpliceR, aForS, aLcS, aJSeq, aJZip, itemsOf_lst, itemsOf_tup, aAddD, ofE_ok, ofE_er, ofE_no, aIsX, aXf, aRaise1, addT, negI, aIsi, aCallK, aR3, kd_non, kd_bl, kd_int, kd_str, kd_tup, kd_lst, kd_dct, isKd_ti, isKd_tb, isKd_ts, isKd_tt, isKd_tl, isKd_td, isKd_li, isKd_lb, isKd_ls, isKd_lt, isKd_ll, isKd_ld, isKd_ii, isKd_ib, isKd_is, isKd_it, isKd_il, isKd_id, isKd_bi, isKd_bb, isKd_bs, isKd_bt, isKd_bl, isKd_bd, isKd_si, isKd_sb, isKd_ss, isKd_st, isKd_sl, isKd_sd, isKd_ni, isKd_nb, isKd_ns, isKd_nt, isKd_nl, isKd_nd, aDNew, aKGet1, keyP_int, keyP_str, aDGet1, aDGet2, aDPut, aDisp, aItZ, aGTuT, aGTuL, aRf, de_lst, de_int, de_tup, de_str, de_non, de_bl, aExt, getF_nil, getF_cons, insN_nil, insN_cons, insV_nil, insV_cons, isB_bl, isNotB_bl, aSeq, aSkip, aSet, aSetN, aOp, aUn, aVar, aOwn, aC, aCall, aCallN, aNil, aCons, aRet, aRetN, aRetOwn, aIfS, aToT, aToTru, aNotT, aAndT, aOrT, aAndV, aOrV, aNotV, aIf, aTup, aSzc, aFz, aOn, aOs, aSl, aFor, aR1, aR2, aItE, aItS, aItL, aLc, aYes, aApp, aDrop, aAsg, aBreak, aCont, aGN, aGTu, aGCs, aGNl, aW0, aW1, lenI, lenT, intI, intB, tupL, tupT, listL, listT, addI, subI, ltI, leI, gtI, geI, eqI, neI, oIs_non, oIsNot_non, isNon1, isNon2, isNon3, isNon4, truB, truI, truL, truT, max2I, min2I, absI, aDCopy, dX_app, dC_app, aSlD, aAppR, aSetIxR, aFldAug, aItX, aJoin, aTIx, oi_none, oi_some, aRev, aCallD, aRevN, aIsE, aRaise, aFld, aSetF, aMake, Res.bind_ok, Res.bind_er, Res.bind_no, Bool.true_eq_false, List.isEmpty_nil, List.isEmpty_cons, List.getElem?_cons_zero, List.getElem?_cons_succ, List.set_cons_zero, List.set_cons_succ, if_true, if_false, Bool.false_eq_true, Bool.not_true, Bool.not_false, len0, len1, len2, len3, len4, len5, len6, len8, decide_true, decide_false, decide_eq_true_eq, Bool.true_and, Bool.and_true, Bool.false_and, Bool.and_false, Bool.or_true, Bool.true_or, Bool.or_false, Bool.false_or, Option.bind_some, mulP, mulQ, modP, divP, List.cons_append, List.nil_append, not_true_eq_false, not_false_eq_true, Bool.not_eq_true', decide_eq_false_iff_not, List.length_cons, List.length_nil, Nat.reduceAdd, List.map_nil, Int.reduceLT, Int.reduceLE, Int.reduceNeg, Int.reduceAdd, Int.reduceSub, Int.reduceMul, Nat.reduceLT, Nat.reduceLeDiff, Nat.reduceSub, Nat.reduceEqDiff, reduceCtorEq, and_true, true_and, and_self, i0, c0, me, opR, fell]
    have ht := try_fell hb
    simp only [aSeq, ht]
    rfl
  · have hb : (mIfS (toT (mOp oEq (mOp oIx (mVar 1) (mC (.int 0))) (mC (.str "write")))) (mDrop (mMeth "Disk" "write" m_Disk_write (mVar 0) (mCons (mOp oIx (mVar 1) (mC (.int 1))) (mCons (mOp oIx (mVar 1) (mC (.int 2))) mNil)))) (mIfS (toT (mOp oEq (mOp oIx (mVar 1) (mC (.int 0))) (mC (.str "sync")))) (mDrop (mMeth "Disk" "sync" m_Disk_sync (mVar 0) mNil)) (mRet (mMeth "Disk" "read" m_Disk_read (mVar 0) (mCons (mOp oIx (mVar 1) (mC (.int 1))) (mCons (mOp oIx (mVar 1) (mC (.int 2))) mNil)))))) [.v (.ref d), .v AV, .un] h = .nx [.v (.ref d), .v AV, .un] h' := by
      simp only [max3I, min3I, aLIx, aForR, itemsAt_lst, itemsAt_tup, forR_tup, forR_lst, aAddN, aRepN, aSplice, aSpliceR, aForS, aLcS, aJSeq, aJZip, itemsOf_lst, itemsOf_tup, aAddD, ofE_ok, ofE_er, ofE_no, aIsX, aXf, aRaise1, addT, negI, aIsi, aCallK, aR3, kd_non, kd_bl, kd_int, kd_str, kd_tup, kd_lst, kd_dct, isKd_ti, isKd_tb, isKd_ts, isKd_tt, isKd_tl, isKd_td, isKd_li, isKd_lb, isKd_ls, isKd_lt, isKd_ll, isKd_ld, isKd_ii, isKd_ib, isKd_is, isKd_it, isKd_il, isKd_id, isKd_bi, isKd_bb, isKd_bs, isKd_bt, isKd_bl, isKd_bd, isKd_si, isKd_sb, isKd_ss, isKd_st, isKd_sl, isKd_sd, isKd_ni, isKd_nb, isKd_ns, isKd_nt, isKd_nl, isKd_nd, aDNew, aKGet1, keyP_int, keyP_str, aDGet1, aDGet2, aDPut, aDisp, aItZ, aGTuT, aGTuL, aRf, de_lst, de_int, de_tup, de_str, de_non, de_bl, aExt, getF_nil, getF_cons, insN_nil, insN_cons, insV_nil, insV_cons, isB_bl, isNotB_bl, aSeq, aSkip, aSet, aSetN, aOp, aUn, aVar, aOwn, aC, aCall, aCallN, aNil, aCons, aRet, aRetN, aRetOwn, aIfS, aToT, aToTru, aNotT, aAndT, aOrT, aAndV, aOrV, aNotV, aIf, aTup, aSzc, aFz, aOn, aOs, aSl, aFor, aR1, aR2, aItE, aItS, aItL, aLc, aYes, aApp, aDrop, aAsg, aBreak, aCont, aGN, aGTu, aGCs, aGNl, aW0, aW1, lenI, lenT, intI, intB, tupL, tupT, listL, listT, addI, subI, ltI, leI, gtI, geI, eqI, neI, oIs_non, oIsNot_non, isNon1, isNon2, isNon3, isNon4, truB, truI, truL, truT, max2I, min2I, absI, aDCopy, dX_app, dC_app, aSlD, aAppR, aSetIxR, aFldAug, aItX, aJoin, aTIx, oi_none, oi_some, aRev, aCallD, aRevN, aIsE, aRaise, aFld, aSetF, aMake, Res.bind_ok, Res.bind_er, Res.bind_no, Bool.true_eq_false, List.isEmpty_nil, List.isEmpty_cons, List.getElem?_cons_zero, List.getElem?_cons_succ, List.set_cons_zero, List.set_cons_succ, if_true, if_false, Bool.false_eq_true, Bool.not_true, Bool.not_false, len0, len1, len2, len3, len4, len5, len6, len8, decide_true, decide_false, decide_eq_true_eq, Bool.true_and, Bool.and_true, Bool.false_and, Bool.and_false, Bool.or_true, Bool.true_or, Bool.or_false, Bool.false_or, Option.bind_some, mulP, mulQ, modP, divP, List.cons_append, List.nil_append, not_true_eq_false, not_false_eq_true, Bool.not_eq_true', decide_eq_false_iff_not, List.length_cons, List.length_nil, Nat.reduceAdd, List.map_nil, Int.reduceLT, Int.reduceLE, Int.reduceNeg, Int.reduceAdd, Int.reduceSub, Int.reduceMul, Nat.reduceLT, Nat.reduceLeDiff, Nat.reduceSub, Nat.reduceEqDiff, reduceCtorEq, and_true, true_and, and_self, i0, c0, me, opR, fell]
    have ht := fun ms => try_nx (cs := ["DiskFell"]) (no := []) (i := 2) (ms := ms) hb
    simp only [aSeq, ht]
    rfl
theorem tried_sync (k : DK h d o w l ws lf dn) (hw : ws.length ≤ 100000) (hl : l.length ≤ 1000) (wok : WOK l.length ws) : ∃ h' w', m_L_tried [.ref d, .tup [.str "sync"]] h = .ok (opV (opS lf dn).2.2) h' ∧
    DK h' d o w' (if (opS lf dn).2.2 = true then seenF l ws else l) (if (opS lf dn).2.2 = true then [] else ws) (opS lf dn).1 (opS lf dn).2.1 ∧ Fr [d, o] h h' ∧ (w' = w ∨ h.length ≤ w') := by
  obtain ⟨h', w', e1, k1, f1, z1⟩ := sync_run k hw hl wok
  refine ⟨h', w', ?_, k1, f1, z1⟩
  have i0 : ∀ hh, oIx (.tup [.str "sync"]) (.int 0) hh = .ok (.str "sync") hh := fun hh => ixT hh rfl
  have c0 : ∀ hh, oEq (.str "sync") (.str "write") hh = .ok (.bl false) hh := fun _ => rfl
  have c1 : ∀ hh, oEq (.str "sync") (.str "sync") hh = .ok (.bl true) hh := fun _ => rfl
  rw [m_L_tried, runD, if_pos (show ([.ref d, .tup [.str "sync"]] : List PV).length = P_L_tried.length from rfl), b_L_tried, show startE N_L_tried.length [.ref d, .tup [.str "sync"]] = [.v (.ref d), .v (.tup [.str "sync"]), .un] from rfl]
  obtain ⟨AV, hAV⟩ : ∃ A, A = PV.tup [.str "sync"] := ⟨_, rfl⟩
  simp only [← hAV] at *
  have me : mMeth "Disk" "sync" m_Disk_sync (mVar 0) mNil [.v (.ref d), .v AV, .un] h = opR (opS lf dn).2.2 h' := by
    rw [dmeth k.ins rfl rfl]
    exact e1
  generalize opS lf dn = R at *
  obtain ⟨lf', dn', ok⟩ := R
  cases ok
  · have hb : (mIfS (toT (mOp oEq (mOp oIx (mVar 1) (mC (.int 0))) (mC (.str "write")))) (mDrop (mMeth "Disk" "write" m_Disk_write (mVar 0) (mCons (mOp oIx (mVar 1) (mC (.int 1))) (mCons (mOp oIx (mVar 1) (mC (.int 2))) mNil)))) (mIfS (toT (mOp oEq (mOp oIx (mVar 1) (mC (.int 0))) (mC (.str "sync")))) (mDrop (mMeth "Disk" "sync" m_Disk_sync (mVar 0) mNil)) (mRet (mMeth "Disk" "read" m_Disk_read (mVar 0) (mCons (mOp oIx (mVar 1) (mC (.int 1))) (mCons (mOp oIx (mVar 1) (mC (.int 2))) mNil)))))) [.v (.ref d), .v AV, .un] h = .er fell [.v (.ref d), .v AV, .un] h' := by
      simp only [max3I, min3I, aLIx, aForR, itemsAt_lst, itemsAt_tup, forR_tup, forR_lst, aAddN, aRepN, aSplice, aSpliceR, aForS, aLcS, aJSeq, aJZip, itemsOf_lst, itemsOf_tup, aAddD, ofE_ok, ofE_er, ofE_no, aIsX, aXf, aRaise1, addT, negI, aIsi, aCallK, aR3, kd_non, kd_bl, kd_int, kd_str, kd_tup, kd_lst, kd_dct, isKd_ti, isKd_tb, isKd_ts, isKd_tt, isKd_tl, isKd_td, isKd_li, isKd_lb, isKd_ls, isKd_lt, isKd_ll, isKd_ld, isKd_ii, isKd_ib, isKd_is, isKd_it, isKd_il, isKd_id, isKd_bi, isKd_bb, isKd_bs, isKd_bt, isKd_bl, isKd_bd, isKd_si, isKd_sb, isKd_ss, isKd_st, isKd_sl, isKd_sd, isKd_ni, isKd_nb, isKd_ns, isKd_nt, isKd_nl, isKd_nd, aDNew, aKGet1, keyP_int, keyP_str, aDGet1, aDGet2, aDPut, aDisp, aItZ, aGTuT, aGTuL, aRf, de_lst, de_int, de_tup, de_str, de_non, de_bl, aExt, getF_nil, getF_cons, insN_nil, insN_cons, insV_nil, insV_cons, isB_bl, isNotB_bl, aSeq, aSkip, aSet, aSetN, aOp, aUn, aVar, aOwn, aC, aCall, aCallN, aNil, aCons, aRet, aRetN, aRetOwn, aIfS, aToT, aToTru, aNotT, aAndT, aOrT, aAndV, aOrV, aNotV, aIf, aTup, aSzc, aFz, aOn, aOs, aSl, aFor, aR1, aR2, aItE, aItS, aItL, aLc, aYes, aApp, aDrop, aAsg, aBreak, aCont, aGN, aGTu, aGCs, aGNl, aW0, aW1, lenI, lenT, intI, intB, tupL, tupT, listL, listT, addI, subI, ltI, leI, gtI, geI, eqI, neI, oIs_non, oIsNot_non, isNon1, isNon2, isNon3, isNon4, truB, truI, truL, truT, max2I, min2I, absI, aDCopy, dX_app, dC_app, aSlD, aAppR, aSetIxR, aFldAug, aItX, aJoin, aTIx, oi_none, oi_some, aRev, aCallD, aRevN, aIsE, aRaise, aFld, aSetF, aMake, Res.bind_ok, Res.bind_er, Res.bind_no, Bool.true_eq_false, List.isEmpty_nil, List.isEmpty_cons, List.getElem?_cons_zero, List.getElem?_cons_succ, List.set_cons_zero, List.set_cons_succ, if_true, if_false, Bool.false_eq_true, Bool.not_true, Bool.not_false, len0, len1, len2, len3, len4, len5, len6, len8, decide_true, decide_false, decide_eq_true_eq, Bool.true_and, Bool.and_true, Bool.false_and, Bool.and_false, Bool.or_true, Bool.true_or, Bool.or_false, Bool.false_or, Option.bind_some, mulP, mulQ, modP, divP, List.cons_append, List.nil_append, not_true_eq_false, not_false_eq_true, Bool.not_eq_true', decide_eq_false_iff_not, List.length_cons, List.length_nil, Nat.reduceAdd, List.map_nil, Int.reduceLT, Int.reduceLE, Int.reduceNeg, Int.reduceAdd, Int.reduceSub, Int.reduceMul, Nat.reduceLT, Nat.reduceLeDiff, Nat.reduceSub, Nat.reduceEqDiff, reduceCtorEq, and_true, true_and, and_self, i0, c0, c1, me, opR, fell]
    have ht := try_fell hb
    simp only [aSeq, ht]
    rfl
  · have hb : (mIfS (toT (mOp oEq (mOp oIx (mVar 1) (mC (.int 0))) (mC (.str "write")))) (mDrop (mMeth "Disk" "write" m_Disk_write (mVar 0) (mCons (mOp oIx (mVar 1) (mC (.int 1))) (mCons (mOp oIx (mVar 1) (mC (.int 2))) mNil)))) (mIfS (toT (mOp oEq (mOp oIx (mVar 1) (mC (.int 0))) (mC (.str "sync")))) (mDrop (mMeth "Disk" "sync" m_Disk_sync (mVar 0) mNil)) (mRet (mMeth "Disk" "read" m_Disk_read (mVar 0) (mCons (mOp oIx (mVar 1) (mC (.int 1))) (mCons (mOp oIx (mVar 1) (mC (.int 2))) mNil)))))) [.v (.ref d), .v AV, .un] h = .nx [.v (.ref d), .v AV, .un] h' := by
      simp only [max3I, min3I, aLIx, aForR, itemsAt_lst, itemsAt_tup, forR_tup, forR_lst, aAddN, aRepN, aSplice, aSpliceR, aForS, aLcS, aJSeq, aJZip, itemsOf_lst, itemsOf_tup, aAddD, ofE_ok, ofE_er, ofE_no, aIsX, aXf, aRaise1, addT, negI, aIsi, aCallK, aR3, kd_non, kd_bl, kd_int, kd_str, kd_tup, kd_lst, kd_dct, isKd_ti, isKd_tb, isKd_ts, isKd_tt, isKd_tl, isKd_td, isKd_li, isKd_lb, isKd_ls, isKd_lt, isKd_ll, isKd_ld, isKd_ii, isKd_ib, isKd_is, isKd_it, isKd_il, isKd_id, isKd_bi, isKd_bb, isKd_bs, isKd_bt, isKd_bl, isKd_bd, isKd_si, isKd_sb, isKd_ss, isKd_st, isKd_sl, isKd_sd, isKd_ni, isKd_nb, isKd_ns, isKd_nt, isKd_nl, isKd_nd, aDNew, aKGet1, keyP_int, keyP_str, aDGet1, aDGet2, aDPut, aDisp, aItZ, aGTuT, aGTuL, aRf, de_lst, de_int, de_tup, de_str, de_non, de_bl, aExt, getF_nil, getF_cons, insN_nil, insN_cons, insV_nil, insV_cons, isB_bl, isNotB_bl, aSeq, aSkip, aSet, aSetN, aOp, aUn, aVar, aOwn, aC, aCall, aCallN, aNil, aCons, aRet, aRetN, aRetOwn, aIfS, aToT, aToTru, aNotT, aAndT, aOrT, aAndV, aOrV, aNotV, aIf, aTup, aSzc, aFz, aOn, aOs, aSl, aFor, aR1, aR2, aItE, aItS, aItL, aLc, aYes, aApp, aDrop, aAsg, aBreak, aCont, aGN, aGTu, aGCs, aGNl, aW0, aW1, lenI, lenT, intI, intB, tupL, tupT, listL, listT, addI, subI, ltI, leI, gtI, geI, eqI, neI, oIs_non, oIsNot_non, isNon1, isNon2, isNon3, isNon4, truB, truI, truL, truT, max2I, min2I, absI, aDCopy, dX_app, dC_app, aSlD, aAppR, aSetIxR, aFldAug, aItX, aJoin, aTIx, oi_none, oi_some, aRev, aCallD, aRevN, aIsE, aRaise, aFld, aSetF, aMake, Res.bind_ok, Res.bind_er, Res.bind_no, Bool.true_eq_false, List.isEmpty_nil, List.isEmpty_cons, List.getElem?_cons_zero, List.getElem?_cons_succ, List.set_cons_zero, List.set_cons_succ, if_true, if_false, Bool.false_eq_true, Bool.not_true, Bool.not_false, len0, len1, len2, len3, len4, len5, len6, len8, decide_true, decide_false, decide_eq_true_eq, Bool.true_and, Bool.and_true, Bool.false_and, Bool.and_false, Bool.or_true, Bool.true_or, Bool.or_false, Bool.false_or, Option.bind_some, mulP, mulQ, modP, divP, List.cons_append, List.nil_append, not_true_eq_false, not_false_eq_true, Bool.not_eq_true', decide_eq_false_iff_not, List.length_cons, List.length_nil, Nat.reduceAdd, List.map_nil, Int.reduceLT, Int.reduceLE, Int.reduceNeg, Int.reduceAdd, Int.reduceSub, Int.reduceMul, Nat.reduceLT, Nat.reduceLeDiff, Nat.reduceSub, Nat.reduceEqDiff, reduceCtorEq, and_true, true_and, and_self, i0, c0, c1, me, opR, fell]
    have ht := fun ms => try_nx (cs := ["DiskFell"]) (no := []) (i := 2) (ms := ms) hb
    simp only [aSeq, ht]
    rfl
theorem tried_read (k : DK h d o w l ws lf dn) (hl : l.length ≤ 1000) (wok : WOK l.length ws) (a b : Nat) : m_L_tried [.ref d, .tup [.str "read", .int (a : Int), .int (b : Int)]] h = .ok (if dn = true then .str "fell" else .tup (ob (((seenF l ws).drop a).take b))) h := by
  have e1 := read_run k hl wok a b
  have i0 : ∀ hh, oIx (.tup [.str "read", .int (a : Int), .int (b : Int)]) (.int 0) hh = .ok (.str "read") hh := fun hh => ixT hh rfl
  have i1 : ∀ hh, oIx (.tup [.str "read", .int (a : Int), .int (b : Int)]) (.int 1) hh = .ok (.int (a : Int)) hh := fun hh => ixT hh rfl
  have i2 : ∀ hh, oIx (.tup [.str "read", .int (a : Int), .int (b : Int)]) (.int 2) hh = .ok (.int (b : Int)) hh := fun hh => ixT hh rfl
  have c0 : ∀ hh, oEq (.str "read") (.str "write") hh = .ok (.bl false) hh := fun _ => rfl
  have c1 : ∀ hh, oEq (.str "read") (.str "sync") hh = .ok (.bl false) hh := fun _ => rfl
  rw [m_L_tried, runD, if_pos (show ([.ref d, .tup [.str "read", .int (a : Int), .int (b : Int)]] : List PV).length = P_L_tried.length from rfl), b_L_tried, show startE N_L_tried.length [.ref d, .tup [.str "read", .int (a : Int), .int (b : Int)]] = [.v (.ref d), .v (.tup [.str "read", .int (a : Int), .int (b : Int)]), .un] from rfl]
  obtain ⟨AV, hAV⟩ : ∃ A, A = PV.tup [.str "read", .int (a : Int), .int (b : Int)] := ⟨_, rfl⟩
  simp only [← hAV] at *
  have me : mMeth "Disk" "read" m_Disk_read (mVar 0) (mCons (mOp oIx (mVar 1) (mC (.int 1))) (mCons (mOp oIx (mVar 1) (mC (.int 2))) mNil)) [.v (.ref d), .v AV, .un] h = if dn = true then .er fell h else .ok (.tup (ob (((seenF l ws).drop a).take b))) h := by
    rw [dmeth k.ins rfl rfl]
    simp only [max3I, min3I, aLIx, aForR, itemsAt_lst, itemsAt_tup, forR_tup, forR_lst, aAddN, aRepN, aSplice, aSpliceR, aForS, aLcS, aJSeq, aJZip, itemsOf_lst, itemsOf_tup, aAddD, ofE_ok, ofE_er, ofE_no, aIsX, aXf, aRaise1, addT, negI, aIsi, aCallK, aR3, kd_non, kd_bl, kd_int, kd_str, kd_tup, kd_lst, kd_dct, isKd_ti, isKd_tb, isKd_ts, isKd_tt, isKd_tl, isKd_td, isKd_li, isKd_lb, isKd_ls, isKd_lt, isKd_ll, isKd_ld, isKd_ii, isKd_ib, isKd_is, isKd_it, isKd_il, isKd_id, isKd_bi, isKd_bb, isKd_bs, isKd_bt, isKd_bl, isKd_bd, isKd_si, isKd_sb, isKd_ss, isKd_st, isKd_sl, isKd_sd, isKd_ni, isKd_nb, isKd_ns, isKd_nt, isKd_nl, isKd_nd, aDNew, aKGet1, keyP_int, keyP_str, aDGet1, aDGet2, aDPut, aDisp, aItZ, aGTuT, aGTuL, aRf, de_lst, de_int, de_tup, de_str, de_non, de_bl, aExt, getF_nil, getF_cons, insN_nil, insN_cons, insV_nil, insV_cons, isB_bl, isNotB_bl, aSeq, aSkip, aSet, aSetN, aOp, aUn, aVar, aOwn, aC, aCall, aCallN, aNil, aCons, aRet, aRetN, aRetOwn, aIfS, aToT, aToTru, aNotT, aAndT, aOrT, aAndV, aOrV, aNotV, aIf, aTup, aSzc, aFz, aOn, aOs, aSl, aFor, aR1, aR2, aItE, aItS, aItL, aLc, aYes, aApp, aDrop, aAsg, aBreak, aCont, aGN, aGTu, aGCs, aGNl, aW0, aW1, lenI, lenT, intI, intB, tupL, tupT, listL, listT, addI, subI, ltI, leI, gtI, geI, eqI, neI, oIs_non, oIsNot_non, isNon1, isNon2, isNon3, isNon4, truB, truI, truL, truT, max2I, min2I, absI, aDCopy, dX_app, dC_app, aSlD, aAppR, aSetIxR, aFldAug, aItX, aJoin, aTIx, oi_none, oi_some, aRev, aCallD, aRevN, aIsE, aRaise, aFld, aSetF, aMeth, aMake, Res.bind_ok, Res.bind_er, Res.bind_no, Bool.true_eq_false, List.isEmpty_nil, List.isEmpty_cons, List.getElem?_cons_zero, List.getElem?_cons_succ, List.set_cons_zero, List.set_cons_succ, if_true, if_false, Bool.false_eq_true, Bool.not_true, Bool.not_false, len0, len1, len2, len3, len4, len5, len6, len8, decide_true, decide_false, decide_eq_true_eq, Bool.true_and, Bool.and_true, Bool.false_and, Bool.and_false, Bool.or_true, Bool.true_or, Bool.or_false, Bool.false_or, Option.bind_some, mulP, mulQ, modP, divP, List.cons_append, List.nil_append, not_true_eq_false, not_false_eq_true, Bool.not_eq_true', decide_eq_false_iff_not, List.length_cons, List.length_nil, Nat.reduceAdd, List.map_nil, Int.reduceLT, Int.reduceLE, Int.reduceNeg, Int.reduceAdd, Int.reduceSub, Int.reduceMul, Nat.reduceLT, Nat.reduceLeDiff, Nat.reduceSub, Nat.reduceEqDiff, reduceCtorEq, and_true, true_and, and_self, i1, i2]
    exact e1
  obtain ⟨RV, hRV⟩ : ∃ A, A = PV.tup (ob (((seenF l ws).drop a).take b)) := ⟨_, rfl⟩
  simp only [← hRV] at *
  cases dn
  · have hb : (mIfS (toT (mOp oEq (mOp oIx (mVar 1) (mC (.int 0))) (mC (.str "write")))) (mDrop (mMeth "Disk" "write" m_Disk_write (mVar 0) (mCons (mOp oIx (mVar 1) (mC (.int 1))) (mCons (mOp oIx (mVar 1) (mC (.int 2))) mNil)))) (mIfS (toT (mOp oEq (mOp oIx (mVar 1) (mC (.int 0))) (mC (.str "sync")))) (mDrop (mMeth "Disk" "sync" m_Disk_sync (mVar 0) mNil)) (mRet (mMeth "Disk" "read" m_Disk_read (mVar 0) (mCons (mOp oIx (mVar 1) (mC (.int 1))) (mCons (mOp oIx (mVar 1) (mC (.int 2))) mNil)))))) [.v (.ref d), .v AV, .un] h = .rt RV h := by
      simp only [max3I, min3I, aLIx, aForR, itemsAt_lst, itemsAt_tup, forR_tup, forR_lst, aAddN, aRepN, aSplice, aSpliceR, aForS, aLcS, aJSeq, aJZip, itemsOf_lst, itemsOf_tup, aAddD, ofE_ok, ofE_er, ofE_no, aIsX, aXf, aRaise1, addT, negI, aIsi, aCallK, aR3, kd_non, kd_bl, kd_int, kd_str, kd_tup, kd_lst, kd_dct, isKd_ti, isKd_tb, isKd_ts, isKd_tt, isKd_tl, isKd_td, isKd_li, isKd_lb, isKd_ls, isKd_lt, isKd_ll, isKd_ld, isKd_ii, isKd_ib, isKd_is, isKd_it, isKd_il, isKd_id, isKd_bi, isKd_bb, isKd_bs, isKd_bt, isKd_bl, isKd_bd, isKd_si, isKd_sb, isKd_ss, isKd_st, isKd_sl, isKd_sd, isKd_ni, isKd_nb, isKd_ns, isKd_nt, isKd_nl, isKd_nd, aDNew, aKGet1, keyP_int, keyP_str, aDGet1, aDGet2, aDPut, aDisp, aItZ, aGTuT, aGTuL, aRf, de_lst, de_int, de_tup, de_str, de_non, de_bl, aExt, getF_nil, getF_cons, insN_nil, insN_cons, insV_nil, insV_cons, isB_bl, isNotB_bl, aSeq, aSkip, aSet, aSetN, aOp, aUn, aVar, aOwn, aC, aCall, aCallN, aNil, aCons, aRet, aRetN, aRetOwn, aIfS, aToT, aToTru, aNotT, aAndT, aOrT, aAndV, aOrV, aNotV, aIf, aTup, aSzc, aFz, aOn, aOs, aSl, aFor, aR1, aR2, aItE, aItS, aItL, aLc, aYes, aApp, aDrop, aAsg, aBreak, aCont, aGN, aGTu, aGCs, aGNl, aW0, aW1, lenI, lenT, intI, intB, tupL, tupT, listL, listT, addI, subI, ltI, leI, gtI, geI, eqI, neI, oIs_non, oIsNot_non, isNon1, isNon2, isNon3, isNon4, truB, truI, truL, truT, max2I, min2I, absI, aDCopy, dX_app, dC_app, aSlD, aAppR, aSetIxR, aFldAug, aItX, aJoin, aTIx, oi_none, oi_some, aRev, aCallD, aRevN, aIsE, aRaise, aFld, aSetF, aMake, Res.bind_ok, Res.bind_er, Res.bind_no, Bool.true_eq_false, List.isEmpty_nil, List.isEmpty_cons, List.getElem?_cons_zero, List.getElem?_cons_succ, List.set_cons_zero, List.set_cons_succ, if_true, if_false, Bool.false_eq_true, Bool.not_true, Bool.not_false, len0, len1, len2, len3, len4, len5, len6, len8, decide_true, decide_false, decide_eq_true_eq, Bool.true_and, Bool.and_true, Bool.false_and, Bool.and_false, Bool.or_true, Bool.true_or, Bool.or_false, Bool.false_or, Option.bind_some, mulP, mulQ, modP, divP, List.cons_append, List.nil_append, not_true_eq_false, not_false_eq_true, Bool.not_eq_true', decide_eq_false_iff_not, List.length_cons, List.length_nil, Nat.reduceAdd, List.map_nil, Int.reduceLT, Int.reduceLE, Int.reduceNeg, Int.reduceAdd, Int.reduceSub, Int.reduceMul, Nat.reduceLT, Nat.reduceLeDiff, Nat.reduceSub, Nat.reduceEqDiff, reduceCtorEq, and_true, true_and, and_self, i0, c0, c1, me]
    have ht := fun ms => try_rt (cs := ["DiskFell"]) (no := []) (i := 2) (ms := ms) hb
    simp only [aSeq, ht]
    rfl
  · have hb : (mIfS (toT (mOp oEq (mOp oIx (mVar 1) (mC (.int 0))) (mC (.str "write")))) (mDrop (mMeth "Disk" "write" m_Disk_write (mVar 0) (mCons (mOp oIx (mVar 1) (mC (.int 1))) (mCons (mOp oIx (mVar 1) (mC (.int 2))) mNil)))) (mIfS (toT (mOp oEq (mOp oIx (mVar 1) (mC (.int 0))) (mC (.str "sync")))) (mDrop (mMeth "Disk" "sync" m_Disk_sync (mVar 0) mNil)) (mRet (mMeth "Disk" "read" m_Disk_read (mVar 0) (mCons (mOp oIx (mVar 1) (mC (.int 1))) (mCons (mOp oIx (mVar 1) (mC (.int 2))) mNil)))))) [.v (.ref d), .v AV, .un] h = .er fell [.v (.ref d), .v AV, .un] h := by
      simp only [max3I, min3I, aLIx, aForR, itemsAt_lst, itemsAt_tup, forR_tup, forR_lst, aAddN, aRepN, aSplice, aSpliceR, aForS, aLcS, aJSeq, aJZip, itemsOf_lst, itemsOf_tup, aAddD, ofE_ok, ofE_er, ofE_no, aIsX, aXf, aRaise1, addT, negI, aIsi, aCallK, aR3, kd_non, kd_bl, kd_int, kd_str, kd_tup, kd_lst, kd_dct, isKd_ti, isKd_tb, isKd_ts, isKd_tt, isKd_tl, isKd_td, isKd_li, isKd_lb, isKd_ls, isKd_lt, isKd_ll, isKd_ld, isKd_ii, isKd_ib, isKd_is, isKd_it, isKd_il, isKd_id, isKd_bi, isKd_bb, isKd_bs, isKd_bt, isKd_bl, isKd_bd, isKd_si, isKd_sb, isKd_ss, isKd_st, isKd_sl, isKd_sd, isKd_ni, isKd_nb, isKd_ns, isKd_nt, isKd_nl, isKd_nd, aDNew, aKGet1, keyP_int, keyP_str, aDGet1, aDGet2, aDPut, aDisp, aItZ, aGTuT, aGTuL, aRf, de_lst, de_int, de_tup, de_str, de_non, de_bl, aExt, getF_nil, getF_cons, insN_nil, insN_cons, insV_nil, insV_cons, isB_bl, isNotB_bl, aSeq, aSkip, aSet, aSetN, aOp, aUn, aVar, aOwn, aC, aCall, aCallN, aNil, aCons, aRet, aRetN, aRetOwn, aIfS, aToT, aToTru, aNotT, aAndT, aOrT, aAndV, aOrV, aNotV, aIf, aTup, aSzc, aFz, aOn, aOs, aSl, aFor, aR1, aR2, aItE, aItS, aItL, aLc, aYes, aApp, aDrop, aAsg, aBreak, aCont, aGN, aGTu, aGCs, aGNl, aW0, aW1, lenI, lenT, intI, intB, tupL, tupT, listL, listT, addI, subI, ltI, leI, gtI, geI, eqI, neI, oIs_non, oIsNot_non, isNon1, isNon2, isNon3, isNon4, truB, truI, truL, truT, max2I, min2I, absI, aDCopy, dX_app, dC_app, aSlD, aAppR, aSetIxR, aFldAug, aItX, aJoin, aTIx, oi_none, oi_some, aRev, aCallD, aRevN, aIsE, aRaise, aFld, aSetF, aMake, Res.bind_ok, Res.bind_er, Res.bind_no, Bool.true_eq_false, List.isEmpty_nil, List.isEmpty_cons, List.getElem?_cons_zero, List.getElem?_cons_succ, List.set_cons_zero, List.set_cons_succ, if_true, if_false, Bool.false_eq_true, Bool.not_true, Bool.not_false, len0, len1, len2, len3, len4, len5, len6, len8, decide_true, decide_false, decide_eq_true_eq, Bool.true_and, Bool.and_true, Bool.false_and, Bool.and_false, Bool.or_true, Bool.true_or, Bool.or_false, Bool.false_or, Option.bind_some, mulP, mulQ, modP, divP, List.cons_append, List.nil_append, not_true_eq_false, not_false_eq_true, Bool.not_eq_true', decide_eq_false_iff_not, List.length_cons, List.length_nil, Nat.reduceAdd, List.map_nil, Int.reduceLT, Int.reduceLE, Int.reduceNeg, Int.reduceAdd, Int.reduceSub, Int.reduceMul, Nat.reduceLT, Nat.reduceLeDiff, Nat.reduceSub, Nat.reduceEqDiff, reduceCtorEq, and_true, true_and, and_self, i0, c0, c1, me, fell]
    have ht := try_fell hb
    simp only [aSeq, ht]
    rfl
end
end Law

set_option Elab.async false
set_option linter.all false
set_option maxRecDepth 100000
set_option maxHeartbeats 4000000
namespace Law
open PySem Mir
/-! ### one act -/
structure SK (h : Hh) (d m o w o2 w2 : Nat) (l : List Nat) (ws : List (Nat × List Nat)) (lf : Option Nat) (dn : Bool) : Prop where
  D : DK h d o w l ws lf dn
  M : MK h m o2 w2 l ws lf dn
  sep : ∀ x ∈ [d, o, w], ∀ y ∈ [m, o2, w2], x ≠ y
def partF (r c : Nat) : List Nat := (List.range c).map fun k => (r / 200 + 41 * k) % 256
theorem partF_len (r c : Nat) : (partF r c).length = c := by unfold partF; simp
theorem ints_idx (h : Hh) : oIx (.lst [.non, .str "fell"]) (.int 0) h = .ok .non h := ixL h rfl
theorem ints_idx1 (h : Hh) : oIx (.lst [.non, .str "fell"]) (.int 1) h = .ok (.str "fell") h := ixL h rfl
section
variable {h : Hh} {d m o w o2 w2 : Nat} {l : List Nat} {ws : List (Nat × List Nat)} {lf : Option Nat} {dn : Bool}
theorem part_run (x0 x1 x2 x3 x5 x6 x8 x9 x10 x11 x12 : SV) (r c : Nat) (hc : c ≤ 1000) :
    (mLc (itR1 (mCons (mVar 7) mNil)) [11] (gN 11) mYes (mOp oMod (mCall fInt (mCons (mOp oAdd (mOp oDiv (mVar 4) (mC (.int 200))) (mOp oMulA (mC (.int 41)) (mVar 11))) mNil)) (mC (.int 256)))) [x0, x1, x2, x3, .v (.int (r : Int)), x5, x6, .v (.int (c : Int)), x8, x9, x10, x11, x12] h = .ok (ob (partF r c)) h := by
  have rk : rngOk (c : Int) = true := by
    unfold rngOk
    simp only [Bool.and_eq_true, decide_eq_true_eq]
    omega
  have hr : rngList 0 (c : Int).toNat = (List.range c).map fun (k : Nat) => PV.int (k : Int) := by rw [Int.toNat_natCast]; exact rng_nat c
  have each := lcL_all (g := gN 11) (e := mOp oMod (mCall fInt (mCons (mOp oAdd (mOp oDiv (mVar 4) (mC (.int 200))) (mOp oMulA (mC (.int 41)) (mVar 11))) mNil)) (mC (.int 256)))
    (env := [x0, x1, x2, x3, .v (.int (r : Int)), x5, x6, .v (.int (c : Int)), x8, x9, x10, .un, x12]) (h := h) (fun k : Nat => PV.int (k : Int)) (fun k : Nat => PV.int (((r / 200 + 41 * k) % 256 : Nat) : Int)) (List.range c) fun k hk => by
      have hk' : k < c := List.mem_range.mp hk
      refine ⟨[x0, x1, x2, x3, .v (.int (r : Int)), x5, x6, .v (.int (c : Int)), x8, x9, x10, .v (.int (k : Int)), x12], rfl, ?_⟩
      have e1 := divN (a := r) (b := 200) (by decide) (by decide) h
      have e2 := mulAN (h := h) (a := 41) (b := k) (.inl (by decide))
      have e3 : oAdd (.int ((r / 200 : Nat) : Int)) (.int ((41 * k : Nat) : Int)) h = .ok (.int ((r / 200 + 41 * k : Nat) : Int)) h := by
        show Res.ok (PV.int (((r / 200 : Nat) : Int) + ((41 * k : Nat) : Int))) h = _
        rw [← Int.natCast_add]
      have e4 := modL (a := r / 200 + 41 * k) 256 (by decide) h
      obtain ⟨I1, h1⟩ : ∃ i : Int, i = (r : Int) := ⟨_, rfl⟩
      obtain ⟨I2, h2⟩ : ∃ i : Int, i = ((r / 200 : Nat) : Int) := ⟨_, rfl⟩
      obtain ⟨I3, h3⟩ : ∃ i : Int, i = ((41 * k : Nat) : Int) := ⟨_, rfl⟩
      obtain ⟨I4, h4⟩ : ∃ i : Int, i = ((r / 200 + 41 * k : Nat) : Int) := ⟨_, rfl⟩
      obtain ⟨I5, h5⟩ : ∃ i : Int, i = (((r / 200 + 41 * k) % 256 : Nat) : Int) := ⟨_, rfl⟩
      obtain ⟨I6, h6⟩ : ∃ i : Int, i = (k : Int) := ⟨_, rfl⟩
      have e1' : oDiv (.int (r : Int)) (.int 200) h = .ok (.int ((r / 200 : Nat) : Int)) h := e1
      have e2' : oMulA (.int 41) (.int (k : Int)) h = .ok (.int ((41 * k : Nat) : Int)) h := e2
      have e4' : oMod (.int ((r / 200 + 41 * k : Nat) : Int)) (.int 256) h = .ok (.int (((r / 200 + 41 * k) % 256 : Nat) : Int)) h := e4
      clear e1 e2 e4
      simp only [← h1, ← h2, ← h3, ← h4, ← h5, ← h6] at *
      simp only [max3I, min3I, aLIx, aForR, itemsAt_lst, itemsAt_tup, forR_tup, forR_lst, aAddN, aRepN, aSplice, aSpliceR, aForS, aLcS, aJSeq, aJZip, itemsOf_lst, itemsOf_tup, aAddD, ofE_ok, ofE_er, ofE_no, aIsX, aXf, aRaise1, addT, negI, aIsi, aCallK, aR3, kd_non, kd_bl, kd_int, kd_str, kd_tup, kd_lst, kd_dct, isKd_ti, isKd_tb, isKd_ts, isKd_tt, isKd_tl, isKd_td, isKd_li, isKd_lb, isKd_ls, isKd_lt, isKd_ll, isKd_ld, isKd_ii, isKd_ib, isKd_is, isKd_it, isKd_il, isKd_id, isKd_bi, isKd_bb, isKd_bs, isKd_bt, isKd_bl, isKd_bd, isKd_si, isKd_sb, isKd_ss, isKd_st, isKd_sl, isKd_sd, isKd_ni, isKd_nb, isKd_ns, isKd_nt, isKd_nl, isKd_nd, aDNew, aKGet1, keyP_int, keyP_str, aDGet1, aDGet2, aDPut, aDisp, aItZ, aGTuT, aGTuL, aRf, de_lst, de_int, de_tup, de_str, de_non, de_bl, aExt, getF_nil, getF_cons, insN_nil, insN_cons, insV_nil, insV_cons, isB_bl, isNotB_bl, aSeq, aSkip, aSet, aSetN, aOp, aUn, aVar, aOwn, aC, aCall, aCallN, aNil, aCons, aRet, aRetN, aRetOwn, aIfS, aToT, aToTru, aNotT, aAndT, aOrT, aAndV, aOrV, aNotV, aIf, aTup, aSzc, aFz, aOn, aOs, aSl, aFor, aR1, aR2, aItE, aItS, aItL, aLc, aYes, aApp, aDrop, aAsg, aBreak, aCont, aGN, aGTu, aGCs, aGNl, aW0, aW1, lenI, lenT, intI, intB, tupL, tupT, listL, listT, subI, ltI, leI, gtI, geI, eqI, neI, oIs_non, oIsNot_non, isNon1, isNon2, isNon3, isNon4, truB, truI, truL, truT, max2I, min2I, absI, aDCopy, dX_app, dC_app, aSlD, aAppR, aSetIxR, aFldAug, aItX, aJoin, aTIx, oi_none, oi_some, aRev, aCallD, aRevN, aIsE, aRaise, aFld, aSetF, aMeth, aMake, Res.bind_ok, Res.bind_er, Res.bind_no, Bool.true_eq_false, List.isEmpty_nil, List.isEmpty_cons, List.getElem?_cons_zero, List.getElem?_cons_succ, List.set_cons_zero, List.set_cons_succ, if_true, if_false, Bool.false_eq_true, Bool.not_true, Bool.not_false, len0, len1, len2, len3, len4, len5, len6, len8, decide_true, decide_false, decide_eq_true_eq, Bool.true_and, Bool.and_true, Bool.false_and, Bool.and_false, Bool.or_true, Bool.true_or, Bool.or_false, Bool.false_or, Option.bind_some, List.cons_append, List.nil_append, not_true_eq_false, not_false_eq_true, Bool.not_eq_true', decide_eq_false_iff_not, List.length_cons, List.length_nil, Nat.reduceAdd, List.map_nil, Int.reduceLT, Int.reduceLE, Int.reduceNeg, Int.reduceAdd, Int.reduceSub, Int.reduceMul, Nat.reduceLT, Nat.reduceLeDiff, Nat.reduceSub, Nat.reduceEqDiff, reduceCtorEq, and_true, true_and, and_self, e1', e2', e3, e4', fInt]
  have e2 : ob (partF r c) = (List.range c).map fun k : Nat => PV.int (((r / 200 + 41 * k) % 256 : Nat) : Int) := by unfold ob partF; rw [List.map_map]; rfl
  rw [e2]
  have hz : (((List.range c).map fun (k : Nat) => PV.int (k : Int)).length ≤ 16777216) = True := eq_true (by rw [List.length_map, List.length_range]; omega)
  obtain ⟨RL, hRL⟩ : ∃ P, P = (List.range c).map fun (k : Nat) => PV.int (k : Int) := ⟨_, rfl⟩
  obtain ⟨I1, h1⟩ : ∃ i : Int, i = (c : Int) := ⟨_, rfl⟩
  simp only [← hRL, ← h1] at *
  simp only [max3I, min3I, aLIx, aForR, itemsAt_lst, itemsAt_tup, forR_tup, forR_lst, aAddN, aRepN, aSplice, aSpliceR, aForS, aLcS, aJSeq, aJZip, itemsOf_lst, itemsOf_tup, aAddD, ofE_ok, ofE_er, ofE_no, aIsX, aXf, aRaise1, addT, negI, aIsi, aCallK, aR3, kd_non, kd_bl, kd_int, kd_str, kd_tup, kd_lst, kd_dct, isKd_ti, isKd_tb, isKd_ts, isKd_tt, isKd_tl, isKd_td, isKd_li, isKd_lb, isKd_ls, isKd_lt, isKd_ll, isKd_ld, isKd_ii, isKd_ib, isKd_is, isKd_it, isKd_il, isKd_id, isKd_bi, isKd_bb, isKd_bs, isKd_bt, isKd_bl, isKd_bd, isKd_si, isKd_sb, isKd_ss, isKd_st, isKd_sl, isKd_sd, isKd_ni, isKd_nb, isKd_ns, isKd_nt, isKd_nl, isKd_nd, aDNew, aKGet1, keyP_int, keyP_str, aDGet1, aDGet2, aDPut, aDisp, aItZ, aGTuT, aGTuL, aRf, de_lst, de_int, de_tup, de_str, de_non, de_bl, aExt, getF_nil, getF_cons, insN_nil, insN_cons, insV_nil, insV_cons, isB_bl, isNotB_bl, aSeq, aSkip, aSet, aSetN, aOp, aUn, aVar, aOwn, aC, aCall, aCallN, aNil, aCons, aRet, aRetN, aRetOwn, aIfS, aToT, aToTru, aNotT, aAndT, aOrT, aAndV, aOrV, aNotV, aIf, aTup, aSzc, aFz, aOn, aOs, aSl, aFor, aR1, aR2, aItE, aItS, aItL, aLc, aYes, aApp, aDrop, aAsg, aBreak, aCont, aGN, aGTu, aGCs, aGNl, aW0, aW1, lenI, lenT, intI, intB, tupL, tupT, listL, listT, addI, subI, ltI, leI, gtI, geI, eqI, neI, oIs_non, oIsNot_non, isNon1, isNon2, isNon3, isNon4, truB, truI, truL, truT, max2I, min2I, absI, aDCopy, dX_app, dC_app, aSlD, aAppR, aSetIxR, aFldAug, aItX, aJoin, aTIx, oi_none, oi_some, aRev, aCallD, aRevN, aIsE, aRaise, aFld, aSetF, aMeth, aMake, Res.bind_ok, Res.bind_er, Res.bind_no, Bool.true_eq_false, List.isEmpty_nil, List.isEmpty_cons, List.getElem?_cons_zero, List.getElem?_cons_succ, List.set_cons_zero, List.set_cons_succ, if_true, if_false, Bool.false_eq_true, Bool.not_true, Bool.not_false, len0, len1, len2, len3, len4, len5, len6, len8, decide_true, decide_false, decide_eq_true_eq, Bool.true_and, Bool.and_true, Bool.false_and, Bool.and_false, Bool.or_true, Bool.true_or, Bool.or_false, Bool.false_or, Option.bind_some, mulP, mulQ, modP, divP, List.cons_append, List.nil_append, not_true_eq_false, not_false_eq_true, Bool.not_eq_true', decide_eq_false_iff_not, List.length_cons, List.length_nil, Nat.reduceAdd, List.map_nil, Int.reduceLT, Int.reduceLE, Int.reduceNeg, Int.reduceAdd, Int.reduceSub, Int.reduceMul, Nat.reduceLT, Nat.reduceLeDiff, Nat.reduceSub, Nat.reduceEqDiff, reduceCtorEq, and_true, true_and, and_self, rk, hr, hz, wipeE, each]
end
end Law

set_option Elab.async false
set_option linter.all false
set_option maxRecDepth 100000
set_option maxHeartbeats 4000000
namespace Law
open PySem Mir
section
variable {h : Hh} {d m o w o2 w2 : Nat} {l : List Nat} {ws : List (Nat × List Nat)} {lf : Option Nat} {dn : Bool}
theorem eqNon (h : Hh) : oEq .non .non h = .ok (.bl true) h := rfl
theorem eqFell (h : Hh) : oEq (.str "fell") (.str "fell") h = .ok (.bl true) h := rfl
theorem lenOct (k : MK h m o w l ws lf dn) : de h (.ref o) = .lst (ob l) ∧ fLen [.lst (ob l)] h = .ok (.int (l.length : Int)) h := by
  refine ⟨de_ref k.oct, ?_⟩
  show Res.ok (PV.int ((ob l).length : Int)) h = _
  rw [ob_len]
/-- what an act leaves -/
def Left (h : Hh) (d m o o2 z nw : Nat) (r : Res PV) : Prop := ∃ h' w w2 l ws lf dn, r = .ok (.bl true) h' ∧ SK h' d m o w o2 w2 l ws lf dn ∧ WOK z ws ∧ l.length = z ∧ ws.length ≤ nw + 1
theorem wrS_len (ok : Bool) (ws : List (Nat × List Nat)) (s : Nat) (p : List Nat) : (wrS ok ws s p).length ≤ ws.length + 1 := by
  unfold wrS
  split
  · rw [List.length_append]; exact Nat.le_refl _
  · omega
theorem act_write (k : SK h d m o w o2 w2 l ws lf dn) (hl : l.length ≤ 1000) (wok : WOK l.length ws) (hw : ws.length ≤ 1000) (n : Nat) (hk : n % 9 < 4) : Left h d m o o2 l.length ws.length (m_L_act [.ref d, .ref m, .int (n : Int)] h) := by
  obtain ⟨z, hz⟩ : ∃ z, z = l.length := ⟨_, rfl⟩
  obtain ⟨r, hr⟩ : ∃ r, r = n / 9 := ⟨_, rfl⟩
  obtain ⟨c, hc⟩ : ∃ c, c = min (r % 13) z := ⟨_, rfl⟩
  obtain ⟨s, hs⟩ : ∃ s, s = r / 13 % (z - c + 1) := ⟨_, rfl⟩
  have hcz : c ≤ z := by rw [hc]; exact Nat.min_le_right _ _
  have hsz : s + c ≤ z := by
    have : s < z - c + 1 := by rw [hs]; exact Nat.mod_lt _ (by omega)
    omega
  obtain ⟨p, hp⟩ : ∃ p, p = partF r c := ⟨_, rfl⟩
  have hpl : p.length = c := by rw [hp]; exact partF_len r c
  obtain ⟨h1, e1, M1, F1⟩ := lop_run k.M
  have D1 := k.D.fr F1 (by simpa using k.sep d (by simp) m (by simp)) (by simpa using k.sep o (by simp) m (by simp)) (by simpa using k.sep w (by simp) m (by simp))
  have e_k : oMod (.int (n : Int)) (.int 9) h = .ok (.int ((n % 9 : Nat) : Int)) h := modL 9 (by decide) h
  have e_r : oDiv (.int (n : Int)) (.int 9) h = .ok (.int (r : Int)) h := by rw [hr]; exact divN (b := 9) (by decide) (by decide) h
  have f_o : oDGet (.ref m) (.str "octets") h = .ok (.ref o2) h := mget k.M.dct rfl
  obtain ⟨f_d, f_l⟩ := lenOct k.M
  rw [← hz] at f_l
  have f_k : ((n % 9 : Nat) : Int) < 4 := by omega
  have e_a : oMod (.int (r : Int)) (.int 13) h = .ok (.int ((r % 13 : Nat) : Int)) h := modL 13 (by decide) h
  have e_c : (if (z : Int) < ((r % 13 : Nat) : Int) then (z : Int) else ((r % 13 : Nat) : Int)) = (c : Int) := by
    rw [hc]; split <;> omega
  have e_b : oDiv (.int (r : Int)) (.int 13) h = .ok (.int ((r / 13 : Nat) : Int)) h := divN (b := 13) (by decide) (by decide) h
  have e_z : (z : Int) - (c : Int) + 1 = ((z - c + 1 : Nat) : Int) := by omega
  have e_s : oMod (.int ((r / 13 : Nat) : Int)) (.int ((z - c + 1 : Nat) : Int)) h = .ok (.int (s : Int)) h := by rw [hs]; exact modL (z - c + 1) (by omega) h
  have e_p := part_run (h := h) (.v (.ref d)) (.v (.ref m)) (.v (.int (n : Int))) (.v (.int ((n % 9 : Nat) : Int))) (.v (.int (z : Int))) (.v (.int (s : Int))) .un .un .un .un .un r c (by omega)
  rw [← hp] at e_p
  have i0 := fun hh => ints_idx hh
  have i1 := fun hh => ints_idx1 hh
  generalize hop : opS lf dn = R at *
  obtain ⟨lf', dn', ok⟩ := R
  cases ok
  · obtain ⟨h3, e3, D3, F3⟩ := tried_write D1 (by omega) s p
    rw [hop] at e3 D3
    have M3 := M1.fr F3 (by simp; exact ⟨(k.sep d (by simp) m (by simp)).symm, (k.sep w (by simp) m (by simp)).symm⟩) (by simp; exact ⟨(k.sep d (by simp) o2 (by simp)).symm, (k.sep w (by simp) o2 (by simp)).symm⟩) (by simp; exact ⟨(k.sep d (by simp) w2 (by simp)).symm, (k.sep w (by simp) w2 (by simp)).symm⟩)
    refine ⟨h3, w, w2, l, ws, lf', dn', ?_, ⟨D3, M3, k.sep⟩, wok, rfl, by omega⟩
    have e3' : m_L_tried [.ref d, .tup [.str "write", .int (s : Int), .tup (ob p)]] h1 = .ok (.str "fell") h3 := e3
    clear hop hz hr hc hs hp hpl e3
    rw [m_L_act, runD, if_pos (show ([.ref d, .ref m, .int (n : Int)] : List PV).length = P_L_act.length from rfl), b_L_act, show startE N_L_act.length [.ref d, .ref m, .int (n : Int)] = [.v (.ref d), .v (.ref m), .v (.int (n : Int)), .un, .un, .un, .un, .un, .un, .un, .un, .un, .un] from rfl]
    obtain ⟨P0, hP0⟩ : ∃ P, P = ob p := ⟨_, rfl⟩
    obtain ⟨P1, hP1⟩ : ∃ P, P = ob l := ⟨_, rfl⟩
    obtain ⟨I0, hI0⟩ : ∃ i : Int, i = (n : Int) := ⟨_, rfl⟩
    obtain ⟨I1, hI1⟩ : ∃ i : Int, i = ((n % 9 : Nat) : Int) := ⟨_, rfl⟩
    obtain ⟨I2, hI2⟩ : ∃ i : Int, i = (r : Int) := ⟨_, rfl⟩
    obtain ⟨I3, hI3⟩ : ∃ i : Int, i = ((r % 13 : Nat) : Int) := ⟨_, rfl⟩
    obtain ⟨I4, hI4⟩ : ∃ i : Int, i = ((r / 13 : Nat) : Int) := ⟨_, rfl⟩
    obtain ⟨I5, hI5⟩ : ∃ i : Int, i = (z : Int) := ⟨_, rfl⟩
    obtain ⟨I6, hI6⟩ : ∃ i : Int, i = (c : Int) := ⟨_, rfl⟩
    obtain ⟨I7, hI7⟩ : ∃ i : Int, i = (s : Int) := ⟨_, rfl⟩
    obtain ⟨I8, hI8⟩ : ∃ i : Int, i = ((z - c + 1 : Nat) : Int) := ⟨_, rfl⟩
    simp only [← hP0, ← hP1, ← hI0, ← hI1, ← hI2, ← hI3, ← hI4, ← hI5, ← hI6, ← hI7, ← hI8] at *
    simp only [max3I, min3I, aLIx, aForR, itemsAt_lst, itemsAt_tup, forR_tup, forR_lst, aAddN, aRepN, aSplice, aSpliceR, aForS, aLcS, aJSeq, aJZip, itemsOf_lst, itemsOf_tup, aAddD, ofE_ok, ofE_er, ofE_no, aIsX, aXf, aRaise1, addT, negI, aIsi, aCallK, aR3, kd_non, kd_bl, kd_int, kd_str, kd_tup, kd_lst, kd_dct, isKd_ti, isKd_tb, isKd_ts, isKd_tt, isKd_tl, isKd_td, isKd_li, isKd_lb, isKd_ls, isKd_lt, isKd_ll, isKd_ld, isKd_ii, isKd_ib, isKd_is, isKd_it, isKd_il, isKd_id, isKd_bi, isKd_bb, isKd_bs, isKd_bt, isKd_bl, isKd_bd, isKd_si, isKd_sb, isKd_ss, isKd_st, isKd_sl, isKd_sd, isKd_ni, isKd_nb, isKd_ns, isKd_nt, isKd_nl, isKd_nd, aDNew, aKGet1, keyP_int, keyP_str, aDGet1, aDGet2, aDisp, aItZ, aGTuT, aGTuL, aRf, de_lst, de_int, de_tup, de_str, de_non, de_bl, aExt, getF_nil, getF_cons, insN_nil, insN_cons, insV_nil, insV_cons, isB_bl, isNotB_bl, aSeq, aSkip, aSet, aSetN, aOp, aUn, aVar, aOwn, aC, aCall, aCallN, aNil, aCons, aRet, aRetN, aRetOwn, aIfS, aToT, aToTru, aNotT, aAndT, aOrT, aAndV, aOrV, aNotV, aIf, aTup, aSzc, aFz, aOn, aOs, aSl, aFor, aR1, aR2, aItE, aItS, aItL, aYes, aApp, aDrop, aAsg, aBreak, aCont, aGN, aGTu, aGCs, aGNl, aW0, aW1, lenI, lenT, intI, intB, tupL, tupT, listL, listT, addI, subI, ltI, leI, gtI, geI, eqI, neI, oIs_non, oIsNot_non, isNon1, isNon2, isNon3, isNon4, truB, truI, truL, truT, max2I, min2I, absI, aDCopy, dX_app, dC_app, aSlD, aAppR, aSetIxR, aFldAug, aItX, aJoin, aTIx, oi_none, oi_some, aRev, aCallD, aRevN, aIsE, aRaise, aFld, aSetF, aMeth, aMake, Res.bind_ok, Res.bind_er, Res.bind_no, Bool.true_eq_false, List.isEmpty_nil, List.isEmpty_cons, List.getElem?_cons_zero, List.getElem?_cons_succ, List.set_cons_zero, List.set_cons_succ, if_true, if_false, Bool.false_eq_true, Bool.not_true, Bool.not_false, len0, len1, len2, len3, len4, len5, len6, len8, decide_true, decide_false, decide_eq_true_eq, Bool.true_and, Bool.and_true, Bool.false_and, Bool.and_false, Bool.or_true, Bool.true_or, Bool.or_false, Bool.false_or, Option.bind_some, List.cons_append, List.nil_append, not_true_eq_false, not_false_eq_true, Bool.not_eq_true', decide_eq_false_iff_not, List.length_cons, List.length_nil, Nat.reduceAdd, List.map_nil, Int.reduceLT, Int.reduceLE, Int.reduceNeg, Int.reduceAdd, Int.reduceSub, Int.reduceMul, Nat.reduceLT, Nat.reduceLeDiff, Nat.reduceSub, Nat.reduceEqDiff, reduceCtorEq, and_true, true_and, and_self, e_k, e_r, f_o, f_d, f_l, f_k, e_a, e_c, e_b, e_z, e_s, e_p, e1, e3', i0, i1, eqNon, eqFell, List.map_cons]
  · obtain ⟨W, hW⟩ : ∃ W, W = (ws ++ [(s, p)]).map wP := ⟨_, rfl⟩
    have gm : (h1 ++ [Ob.lst W])[m]? = some (kOb o2 w2 lf' dn') := get_app M1.dct _
    have lm : m < h1.length := lt_of_at M1.dct
    have lo : o2 < h1.length := lt_of_at M1.oct
    obtain ⟨h2, hh2⟩ : ∃ h2, h2 = (h1 ++ [Ob.lst W]).set m (kOb o2 h1.length lf' dn') := ⟨_, rfl⟩
    have F2 : Fr [m] h1 h2 := by rw [hh2]; exact (Fr.app _ _).trans (Fr.set _ _ (by simp))
    have M2 : MK h2 m o2 h1.length l (ws ++ [(s, p)]) lf' dn' := by
      rw [hh2]
      exact ⟨get_set_eq gm, get_set_ne (get_app M1.oct _) M1.mno, get_set_ne (by rw [hW]; exact get_end h1 _) (Nat.ne_of_lt lm), Nat.ne_of_lt lo, M1.mno, Nat.ne_of_lt lm⟩
    have D2 := D1.fr F2 (by simpa using k.sep d (by simp) m (by simp)) (by simpa using k.sep o (by simp) m (by simp)) (by simpa using k.sep w (by simp) m (by simp))
    obtain ⟨h3, e3, D3, F3⟩ := tried_write D2 (by omega) s p
    rw [hop] at e3 D3
    have ld : d < h1.length := lt_of_at D1.ins
    have lw : w < h1.length := lt_of_at D1.wrt
    have lo1 : o < h1.length := lt_of_at D1.oct
    have M3 := M2.fr F3 (by simp; exact ⟨(k.sep d (by simp) m (by simp)).symm, (k.sep w (by simp) m (by simp)).symm⟩) (by simp; exact ⟨(k.sep d (by simp) o2 (by simp)).symm, (k.sep w (by simp) o2 (by simp)).symm⟩) (by simp; exact ⟨Nat.ne_of_gt ld, Nat.ne_of_gt lw⟩)
    refine ⟨h3, w, h1.length, l, ws ++ [(s, p)], lf', dn', ?_, ⟨D3, M3, ?_⟩, ?_, rfl, by rw [List.length_append]; exact Nat.le_refl _⟩
    · have fw : oDGet (.ref m) (.str "writes") h1 = .ok (.ref w2) h1 := mget M1.dct rfl
      have f_w : de h1 (.ref w2) = .lst (ws.map wP) := de_ref M1.wrt
      have f_x : ∀ x : List PV, de h1 (.lst x) = .lst x := fun x => rfl
      have hlen : ((ws.map wP).length + 1 ≤ 16777216) = True := eq_true (by rw [List.length_map]; omega)
      have st : mDPut (mVar 1) (mC (.str "writes")) (mRf (mAddD (mOp oDGet (mVar 1) (mC (.str "writes"))) (mFz (szc (mCons (mTup (mCons (mVar 6) (mCons (mVar 9) mNil))) mNil))))) [.v (.ref d), .v (.ref m), .v (.int (n : Int)), .v (.int ((n % 9 : Nat) : Int)), .v (.int (r : Int)), .v (.int (z : Int)), .v (.int (s : Int)), .v (.int (c : Int)), .v (.bl true), .v (.tup (ob p)), .un, .un, .un] h1 =
          .nx [.v (.ref d), .v (.ref m), .v (.int (n : Int)), .v (.int ((n % 9 : Nat) : Int)), .v (.int (r : Int)), .v (.int (z : Int)), .v (.int (s : Int)), .v (.int (c : Int)), .v (.bl true), .v (.tup (ob p)), .un, .un, .un] h2 := by
        rw [hh2]
        refine mput (y := .ref h1.length) (h' := h1 ++ [Ob.lst W]) ?_ gm rfl rfl
        rw [hW, ← wP_snoc]
        obtain ⟨WS, hWS⟩ : ∃ P, P = ws.map wP := ⟨_, rfl⟩
        obtain ⟨P0, hP0⟩ : ∃ P, P = ob p := ⟨_, rfl⟩
        obtain ⟨I7, hI7⟩ : ∃ i : Int, i = (s : Int) := ⟨_, rfl⟩
        simp only [← hWS, ← hP0, ← hI7] at *
        simp only [max3I, min3I, aLIx, aForR, itemsAt_lst, itemsAt_tup, forR_tup, forR_lst, aAddN, aRepN, aSplice, aSpliceR, aForS, aLcS, aJSeq, aJZip, itemsOf_lst, itemsOf_tup, aAddD, ofE_ok, ofE_er, ofE_no, aIsX, aXf, aRaise1, addT, negI, aIsi, aCallK, aR3, kd_non, kd_bl, kd_int, kd_str, kd_tup, kd_lst, kd_dct, isKd_ti, isKd_tb, isKd_ts, isKd_tt, isKd_tl, isKd_td, isKd_li, isKd_lb, isKd_ls, isKd_lt, isKd_ll, isKd_ld, isKd_ii, isKd_ib, isKd_is, isKd_it, isKd_il, isKd_id, isKd_bi, isKd_bb, isKd_bs, isKd_bt, isKd_bl, isKd_bd, isKd_si, isKd_sb, isKd_ss, isKd_st, isKd_sl, isKd_sd, isKd_ni, isKd_nb, isKd_ns, isKd_nt, isKd_nl, isKd_nd, aDNew, aKGet1, keyP_int, keyP_str, aDGet1, aDGet2, aDPut, aDisp, aItZ, aGTuT, aGTuL, aRf, de_lst, de_int, de_tup, de_str, de_non, de_bl, aExt, getF_nil, getF_cons, insN_nil, insN_cons, insV_nil, insV_cons, isB_bl, isNotB_bl, aSeq, aSkip, aSet, aSetN, aOp, aUn, aVar, aOwn, aC, aCall, aCallN, aNil, aCons, aRet, aRetN, aRetOwn, aIfS, aToT, aToTru, aNotT, aAndT, aOrT, aAndV, aOrV, aNotV, aIf, aTup, aSzc, aFz, aOn, aOs, aSl, aFor, aR1, aR2, aItE, aItS, aItL, aLc, aYes, aApp, aDrop, aAsg, aBreak, aCont, aGN, aGTu, aGCs, aGNl, aW0, aW1, lenI, lenT, intI, intB, tupL, tupT, listL, listT, addI, subI, ltI, leI, gtI, geI, eqI, neI, oIs_non, oIsNot_non, isNon1, isNon2, isNon3, isNon4, truB, truI, truL, truT, max2I, min2I, absI, aDCopy, dX_app, dC_app, aSlD, aAppR, aSetIxR, aFldAug, aItX, aJoin, aTIx, oi_none, oi_some, aRev, aCallD, aRevN, aIsE, aRaise, aFld, aSetF, aMeth, aMake, Res.bind_ok, Res.bind_er, Res.bind_no, Bool.true_eq_false, List.isEmpty_nil, List.isEmpty_cons, List.getElem?_cons_zero, List.getElem?_cons_succ, List.set_cons_zero, List.set_cons_succ, if_true, if_false, Bool.false_eq_true, Bool.not_true, Bool.not_false, len0, len1, len2, len3, len4, len5, len6, len8, decide_true, decide_false, decide_eq_true_eq, Bool.true_and, Bool.and_true, Bool.false_and, Bool.and_false, Bool.or_true, Bool.true_or, Bool.or_false, Bool.false_or, Option.bind_some, mulP, mulQ, modP, divP, List.cons_append, List.nil_append, not_true_eq_false, not_false_eq_true, Bool.not_eq_true', decide_eq_false_iff_not, List.length_cons, List.length_nil, Nat.reduceAdd, List.map_nil, Int.reduceLT, Int.reduceLE, Int.reduceNeg, Int.reduceAdd, Int.reduceSub, Int.reduceMul, Nat.reduceLT, Nat.reduceLeDiff, Nat.reduceSub, Nat.reduceEqDiff, reduceCtorEq, and_true, true_and, and_self, fw, f_w, f_x, hlen]
      have e3' : m_L_tried [.ref d, .tup [.str "write", .int (s : Int), .tup (ob p)]] h2 = .ok .non h3 := e3
      clear hop hz hr hc hs hp hpl e3 hW hh2
      rw [m_L_act, runD, if_pos (show ([.ref d, .ref m, .int (n : Int)] : List PV).length = P_L_act.length from rfl), b_L_act, show startE N_L_act.length [.ref d, .ref m, .int (n : Int)] = [.v (.ref d), .v (.ref m), .v (.int (n : Int)), .un, .un, .un, .un, .un, .un, .un, .un, .un, .un] from rfl]
      obtain ⟨P0, hP0⟩ : ∃ P, P = ob p := ⟨_, rfl⟩
      obtain ⟨P1, hP1⟩ : ∃ P, P = ob l := ⟨_, rfl⟩
      obtain ⟨I0, hI0⟩ : ∃ i : Int, i = (n : Int) := ⟨_, rfl⟩
      obtain ⟨I1, hI1⟩ : ∃ i : Int, i = ((n % 9 : Nat) : Int) := ⟨_, rfl⟩
      obtain ⟨I2, hI2⟩ : ∃ i : Int, i = (r : Int) := ⟨_, rfl⟩
      obtain ⟨I3, hI3⟩ : ∃ i : Int, i = ((r % 13 : Nat) : Int) := ⟨_, rfl⟩
      obtain ⟨I4, hI4⟩ : ∃ i : Int, i = ((r / 13 : Nat) : Int) := ⟨_, rfl⟩
      obtain ⟨I5, hI5⟩ : ∃ i : Int, i = (z : Int) := ⟨_, rfl⟩
      obtain ⟨I6, hI6⟩ : ∃ i : Int, i = (c : Int) := ⟨_, rfl⟩
      obtain ⟨I7, hI7⟩ : ∃ i : Int, i = (s : Int) := ⟨_, rfl⟩
      obtain ⟨I8, hI8⟩ : ∃ i : Int, i = ((z - c + 1 : Nat) : Int) := ⟨_, rfl⟩
      simp only [← hP0, ← hP1, ← hI0, ← hI1, ← hI2, ← hI3, ← hI4, ← hI5, ← hI6, ← hI7, ← hI8] at *
      simp only [max3I, min3I, aLIx, aForR, itemsAt_lst, itemsAt_tup, forR_tup, forR_lst, aAddN, aRepN, aSplice, aSpliceR, aForS, aLcS, aJSeq, aJZip, itemsOf_lst, itemsOf_tup, aAddD, ofE_ok, ofE_er, ofE_no, aIsX, aXf, aRaise1, addT, negI, aIsi, aCallK, aR3, kd_non, kd_bl, kd_int, kd_str, kd_tup, kd_lst, kd_dct, isKd_ti, isKd_tb, isKd_ts, isKd_tt, isKd_tl, isKd_td, isKd_li, isKd_lb, isKd_ls, isKd_lt, isKd_ll, isKd_ld, isKd_ii, isKd_ib, isKd_is, isKd_it, isKd_il, isKd_id, isKd_bi, isKd_bb, isKd_bs, isKd_bt, isKd_bl, isKd_bd, isKd_si, isKd_sb, isKd_ss, isKd_st, isKd_sl, isKd_sd, isKd_ni, isKd_nb, isKd_ns, isKd_nt, isKd_nl, isKd_nd, aDNew, aKGet1, keyP_int, keyP_str, aDGet1, aDGet2, aDisp, aItZ, aGTuT, aGTuL, aRf, de_lst, de_int, de_tup, de_str, de_non, de_bl, aExt, getF_nil, getF_cons, insN_nil, insN_cons, insV_nil, insV_cons, isB_bl, isNotB_bl, aSeq, aSkip, aSet, aSetN, aOp, aUn, aVar, aOwn, aC, aCall, aCallN, aNil, aCons, aRet, aRetN, aRetOwn, aIfS, aToT, aToTru, aNotT, aAndT, aOrT, aAndV, aOrV, aNotV, aIf, aTup, aSzc, aFz, aOn, aOs, aSl, aFor, aR1, aR2, aItE, aItS, aItL, aYes, aApp, aDrop, aAsg, aBreak, aCont, aGN, aGTu, aGCs, aGNl, aW0, aW1, lenI, lenT, intI, intB, tupL, tupT, listL, listT, addI, subI, ltI, leI, gtI, geI, eqI, neI, oIs_non, oIsNot_non, isNon1, isNon2, isNon3, isNon4, truB, truI, truL, truT, max2I, min2I, absI, aDCopy, dX_app, dC_app, aSlD, aAppR, aSetIxR, aFldAug, aItX, aJoin, aTIx, oi_none, oi_some, aRev, aCallD, aRevN, aIsE, aRaise, aFld, aSetF, aMeth, aMake, Res.bind_ok, Res.bind_er, Res.bind_no, Bool.true_eq_false, List.isEmpty_nil, List.isEmpty_cons, List.getElem?_cons_zero, List.getElem?_cons_succ, List.set_cons_zero, List.set_cons_succ, if_true, if_false, Bool.false_eq_true, Bool.not_true, Bool.not_false, len0, len1, len2, len3, len4, len5, len6, len8, decide_true, decide_false, decide_eq_true_eq, Bool.true_and, Bool.and_true, Bool.false_and, Bool.and_false, Bool.or_true, Bool.true_or, Bool.or_false, Bool.false_or, Option.bind_some, List.cons_append, List.nil_append, not_true_eq_false, not_false_eq_true, Bool.not_eq_true', decide_eq_false_iff_not, List.length_cons, List.length_nil, Nat.reduceAdd, List.map_nil, Int.reduceLT, Int.reduceLE, Int.reduceNeg, Int.reduceAdd, Int.reduceSub, Int.reduceMul, Nat.reduceLT, Nat.reduceLeDiff, Nat.reduceSub, Nat.reduceEqDiff, reduceCtorEq, and_true, true_and, and_self, e_k, e_r, f_o, f_d, f_l, f_k, e_a, e_c, e_b, e_z, e_s, e_p, e1, st, e3', i0, i1, eqNon, eqFell, List.map_cons]
    · intro x hx y hy
      simp only [List.mem_cons, List.not_mem_nil, or_false] at hy
      rcases hy with rfl | rfl | rfl
      · exact k.sep x hx _ (by simp)
      · exact k.sep x hx _ (by simp)
      · simp only [List.mem_cons, List.not_mem_nil, or_false] at hx
        rcases hx with rfl | rfl | rfl
        · exact Nat.ne_of_lt ld
        · exact Nat.ne_of_lt lo1
        · exact Nat.ne_of_lt lw
    · intro q hq
      rcases List.mem_append.mp hq with z1 | z1
      · exact wok q z1
      · rw [List.mem_singleton.mp z1]
        show s + p.length ≤ l.length
        omega
end
end Law

set_option Elab.async false
set_option linter.all false
set_option maxRecDepth 100000
set_option maxHeartbeats 4000000
namespace Law
open PySem Mir
section
variable {h h' : Hh} {d m o w o2 w2 : Nat} {l : List Nat} {ws : List (Nat × List Nat)} {lf : Option Nat} {dn : Bool}
theorem SK.dm (k : SK h d m o w o2 w2 l ws lf dn) : d ≠ m ∧ d ≠ o2 ∧ d ≠ w2 ∧ o ≠ m ∧ o ≠ o2 ∧ o ≠ w2 ∧ w ≠ m ∧ w ≠ o2 ∧ w ≠ w2 :=
  ⟨k.sep d (by simp) m (by simp), k.sep d (by simp) o2 (by simp), k.sep d (by simp) w2 (by simp), k.sep o (by simp) m (by simp), k.sep o (by simp) o2 (by simp), k.sep o (by simp) w2 (by simp), k.sep w (by simp) m (by simp), k.sep w (by simp) o2 (by simp), k.sep w (by simp) w2 (by simp)⟩
theorem sep_of (h : d ≠ m ∧ d ≠ o2 ∧ d ≠ w2 ∧ o ≠ m ∧ o ≠ o2 ∧ o ≠ w2 ∧ w ≠ m ∧ w ≠ o2 ∧ w ≠ w2) : ∀ x ∈ [d, o, w], ∀ y ∈ [m, o2, w2], x ≠ y := by
  obtain ⟨h1, h2, h3, h4, h5, h6, h7, h8, h9⟩ := h
  intro x hx y hy
  simp only [List.mem_cons, List.not_mem_nil, or_false] at hx hy
  rcases hx with rfl | rfl | rfl <;> rcases hy with rfl | rfl | rfl <;> assumption
theorem act_sync (k : SK h d m o w o2 w2 l ws lf dn) (hl : l.length ≤ 1000) (wok : WOK l.length ws) (hw : ws.length ≤ 1000) (n : Nat) (hk : n % 9 = 4) : Left h d m o o2 l.length ws.length (m_L_act [.ref d, .ref m, .int (n : Int)] h) := by
  obtain ⟨q1, q2, q3, q4, q5, q6, q7, q8, q9⟩ := k.dm
  obtain ⟨z, hz⟩ : ∃ z, z = l.length := ⟨_, rfl⟩
  obtain ⟨h1, e1, M1, F1⟩ := lop_run k.M
  have D1 := k.D.fr F1 (by simpa using q1) (by simpa using q4) (by simpa using q7)
  have e_k : oMod (.int (n : Int)) (.int 9) h = .ok (.int ((n % 9 : Nat) : Int)) h := modL 9 (by decide) h
  have e_r : oDiv (.int (n : Int)) (.int 9) h = .ok (.int ((n / 9 : Nat) : Int)) h := divN (b := 9) (by decide) (by decide) h
  rw [hk] at e_k
  have f_o : oDGet (.ref m) (.str "octets") h = .ok (.ref o2) h := mget k.M.dct rfl
  obtain ⟨f_d, f_l⟩ := lenOct k.M
  rw [← hz] at f_l
  have i0 := fun hh => ints_idx hh
  have i1 := fun hh => ints_idx1 hh
  generalize hop : opS lf dn = R at *
  obtain ⟨lf', dn', ok⟩ := R
  cases ok
  · obtain ⟨h3, w3, e3, D3, F3, n3⟩ := tried_sync D1 (by omega) hl wok
    rw [hop] at e3 D3
    have M3 := M1.fr F3 (by simp; exact ⟨q1.symm, q4.symm⟩) (by simp; exact ⟨q2.symm, q5.symm⟩) (by simp; exact ⟨q3.symm, q6.symm⟩)
    have lm : m < h1.length := lt_of_at M1.dct
    have lo : o2 < h1.length := lt_of_at M1.oct
    have lw : w2 < h1.length := lt_of_at M1.wrt
    refine ⟨h3, w3, w2, l, ws, lf', dn', ?_, ⟨D3, M3, sep_of ⟨q1, q2, q3, q4, q5, q6, ?_, ?_, ?_⟩⟩, wok, rfl, by omega⟩
    · have e3' : m_L_tried [.ref d, .tup [.str "sync"]] h1 = .ok (.str "fell") h3 := e3
      clear hop hz e3
      rw [m_L_act, runD, if_pos (show ([.ref d, .ref m, .int (n : Int)] : List PV).length = P_L_act.length from rfl), b_L_act, show startE N_L_act.length [.ref d, .ref m, .int (n : Int)] = [.v (.ref d), .v (.ref m), .v (.int (n : Int)), .un, .un, .un, .un, .un, .un, .un, .un, .un, .un] from rfl]
      obtain ⟨P1, hP1⟩ : ∃ P, P = ob l := ⟨_, rfl⟩
      obtain ⟨I0, hI0⟩ : ∃ i : Int, i = (n : Int) := ⟨_, rfl⟩
      obtain ⟨I2, hI2⟩ : ∃ i : Int, i = ((n / 9 : Nat) : Int) := ⟨_, rfl⟩
      obtain ⟨I5, hI5⟩ : ∃ i : Int, i = (z : Int) := ⟨_, rfl⟩
      simp only [← hP1, ← hI0, ← hI2, ← hI5] at *
      simp only [max3I, min3I, aLIx, aForR, itemsAt_lst, itemsAt_tup, forR_tup, forR_lst, aAddN, aRepN, aSplice, aSpliceR, aForS, aLcS, aJSeq, aJZip, itemsOf_lst, itemsOf_tup, aAddD, ofE_ok, ofE_er, ofE_no, aIsX, aXf, aRaise1, addT, negI, aIsi, aCallK, aR3, kd_non, kd_bl, kd_int, kd_str, kd_tup, kd_lst, kd_dct, isKd_ti, isKd_tb, isKd_ts, isKd_tt, isKd_tl, isKd_td, isKd_li, isKd_lb, isKd_ls, isKd_lt, isKd_ll, isKd_ld, isKd_ii, isKd_ib, isKd_is, isKd_it, isKd_il, isKd_id, isKd_bi, isKd_bb, isKd_bs, isKd_bt, isKd_bl, isKd_bd, isKd_si, isKd_sb, isKd_ss, isKd_st, isKd_sl, isKd_sd, isKd_ni, isKd_nb, isKd_ns, isKd_nt, isKd_nl, isKd_nd, aDNew, aKGet1, keyP_int, keyP_str, aDGet1, aDGet2, aDisp, aItZ, aGTuT, aGTuL, aRf, de_lst, de_int, de_tup, de_str, de_non, de_bl, aExt, getF_nil, getF_cons, insN_nil, insN_cons, insV_nil, insV_cons, isB_bl, isNotB_bl, aSeq, aSkip, aSet, aSetN, aOp, aUn, aVar, aOwn, aC, aCall, aCallN, aNil, aCons, aRet, aRetN, aRetOwn, aIfS, aToT, aToTru, aNotT, aAndT, aOrT, aAndV, aOrV, aNotV, aIf, aTup, aSzc, aFz, aOn, aOs, aSl, aFor, aR1, aR2, aItE, aItS, aItL, aYes, aApp, aDrop, aAsg, aBreak, aCont, aGN, aGTu, aGCs, aGNl, aW0, aW1, lenI, lenT, intI, intB, tupL, tupT, listL, listT, addI, subI, ltI, leI, gtI, geI, eqI, neI, oIs_non, oIsNot_non, isNon1, isNon2, isNon3, isNon4, truB, truI, truL, truT, max2I, min2I, absI, aDCopy, dX_app, dC_app, aSlD, aAppR, aSetIxR, aFldAug, aItX, aJoin, aTIx, oi_none, oi_some, aRev, aCallD, aRevN, aIsE, aRaise, aFld, aSetF, aMeth, aMake, Res.bind_ok, Res.bind_er, Res.bind_no, Bool.true_eq_false, List.isEmpty_nil, List.isEmpty_cons, List.getElem?_cons_zero, List.getElem?_cons_succ, List.set_cons_zero, List.set_cons_succ, if_true, if_false, Bool.false_eq_true, Bool.not_true, Bool.not_false, len0, len1, len2, len3, len4, len5, len6, len8, decide_true, decide_false, decide_eq_true_eq, Bool.true_and, Bool.and_true, Bool.false_and, Bool.and_false, Bool.or_true, Bool.true_or, Bool.or_false, Bool.false_or, Option.bind_some, List.cons_append, List.nil_append, not_true_eq_false, not_false_eq_true, Bool.not_eq_true', decide_eq_false_iff_not, List.length_cons, List.length_nil, Nat.reduceAdd, List.map_nil, Int.reduceLT, Int.reduceLE, Int.reduceNeg, Int.reduceAdd, Int.reduceSub, Int.reduceMul, Nat.reduceLT, Nat.reduceLeDiff, Nat.reduceSub, Nat.reduceEqDiff, reduceCtorEq, and_true, true_and, and_self, e_k, e_r, f_o, f_d, f_l, e1, e3', i0, i1, eqNon, eqFell, List.map_cons, Int.cast_ofNat_Int]
    · rcases n3 with rfl | n3
      · exact q7
      · omega
    · rcases n3 with rfl | n3
      · exact q8
      · omega
    · rcases n3 with rfl | n3
      · exact q9
      · omega
  · have fw : ∀ env : En, env[1]? = some (.v (.ref m)) → (mOp oDGet (mVar 1) (mC (.str "writes"))) env h1 = .ok (.ref w2) h1 := fun env he => by
      have g : oDGet (.ref m) (.str "writes") h1 = .ok (.ref w2) h1 := mget M1.dct rfl
      simp only [aOp, aVar, he, aC, Res.bind_ok, g]
    have ls := lens_run (tg1 := .un) (fw [.v (.ref d), .v (.ref m), .v (.int (n : Int)), .v (.int 4), .v (.int ((n / 9 : Nat) : Int)), .v (.int (z : Int)), .un, .un, .v (.bl true), .un, .un, .un, .un] rfl) (by omega) M1.wrt [12] (g := gN 12) (el := mVar 5) (fun _ => z) (fun q => ⟨_, rfl, rfl⟩)
    obtain ⟨h2, e2, M2, F2⟩ := lset_run M1 hl wok (ws.map fun _ => z) (by omega)
    rw [settle_all (fun _ => z) fun q hq => by have := wok q hq; omega] at M2
    have D2 := D1.fr F2 (by simp; exact ⟨q1, q2⟩) (by simp; exact ⟨q4, q5⟩) (by simp; exact ⟨q7, q8⟩)
    obtain ⟨h3, w3, e3, D3, F3, n3⟩ := tried_sync D2 (by omega) hl wok
    rw [hop] at e3 D3
    have ld : d < h1.length := lt_of_at D1.ins
    have lo1 : o < h1.length := lt_of_at D1.oct
    have lw1 : w < h1.length := lt_of_at D1.wrt
    have lm : m < h2.length := lt_of_at M2.dct
    have lo : o2 < h2.length := lt_of_at M2.oct
    have lw : h1.length < h2.length := lt_of_at M2.wrt
    have M3 := M2.fr F3 (by simp; exact ⟨q1.symm, q4.symm⟩) (by simp; exact ⟨q2.symm, q5.symm⟩) (by simp; omega)
    refine ⟨h3, w3, h1.length, seenF l ws, [], lf', dn', ?_, ⟨D3, M3, sep_of ⟨q1, q2, by omega, q4, q5, by omega, ?_, ?_, ?_⟩⟩, by intro q hq; simp at hq, seenF_len wok, by simp⟩
    · have e3' : m_L_tried [.ref d, .tup [.str "sync"]] h2 = .ok .non h3 := e3
      clear hop hz e3
      rw [m_L_act, runD, if_pos (show ([.ref d, .ref m, .int (n : Int)] : List PV).length = P_L_act.length from rfl), b_L_act, show startE N_L_act.length [.ref d, .ref m, .int (n : Int)] = [.v (.ref d), .v (.ref m), .v (.int (n : Int)), .un, .un, .un, .un, .un, .un, .un, .un, .un, .un] from rfl]
      obtain ⟨P1, hP1⟩ : ∃ P, P = ob l := ⟨_, rfl⟩
      obtain ⟨P2, hP2⟩ : ∃ P, P = ob (ws.map fun _ => z) := ⟨_, rfl⟩
      obtain ⟨I0, hI0⟩ : ∃ i : Int, i = (n : Int) := ⟨_, rfl⟩
      obtain ⟨I2, hI2⟩ : ∃ i : Int, i = ((n / 9 : Nat) : Int) := ⟨_, rfl⟩
      obtain ⟨I5, hI5⟩ : ∃ i : Int, i = (z : Int) := ⟨_, rfl⟩
      simp only [← hP1, ← hP2, ← hI0, ← hI2, ← hI5] at *
      simp only [max3I, min3I, aLIx, aForR, itemsAt_lst, itemsAt_tup, forR_tup, forR_lst, aAddN, aRepN, aSplice, aSpliceR, aForS, aJSeq, aJZip, itemsOf_lst, itemsOf_tup, aAddD, ofE_ok, ofE_er, ofE_no, aIsX, aXf, aRaise1, addT, negI, aIsi, aCallK, aR3, kd_non, kd_bl, kd_int, kd_str, kd_tup, kd_lst, kd_dct, isKd_ti, isKd_tb, isKd_ts, isKd_tt, isKd_tl, isKd_td, isKd_li, isKd_lb, isKd_ls, isKd_lt, isKd_ll, isKd_ld, isKd_ii, isKd_ib, isKd_is, isKd_it, isKd_il, isKd_id, isKd_bi, isKd_bb, isKd_bs, isKd_bt, isKd_bl, isKd_bd, isKd_si, isKd_sb, isKd_ss, isKd_st, isKd_sl, isKd_sd, isKd_ni, isKd_nb, isKd_ns, isKd_nt, isKd_nl, isKd_nd, aDNew, aKGet1, keyP_int, keyP_str, aDGet1, aDGet2, aDisp, aItZ, aGTuT, aGTuL, aRf, de_lst, de_int, de_tup, de_str, de_non, de_bl, aExt, getF_nil, getF_cons, insN_nil, insN_cons, insV_nil, insV_cons, isB_bl, isNotB_bl, aSeq, aSkip, aSet, aSetN, aOp, aUn, aVar, aOwn, aC, aCall, aCallN, aNil, aCons, aRet, aRetN, aRetOwn, aIfS, aToT, aToTru, aNotT, aAndT, aOrT, aAndV, aOrV, aNotV, aIf, aTup, aSzc, aOn, aOs, aSl, aFor, aR1, aR2, aItE, aItS, aItL, aYes, aApp, aDrop, aAsg, aBreak, aCont, aGN, aGTu, aGCs, aGNl, aW0, aW1, lenI, lenT, intI, intB, tupL, tupT, listL, listT, addI, subI, ltI, leI, gtI, geI, eqI, neI, oIs_non, oIsNot_non, isNon1, isNon2, isNon3, isNon4, truB, truI, truL, truT, max2I, min2I, absI, aDCopy, dX_app, dC_app, aSlD, aAppR, aSetIxR, aFldAug, aItX, aJoin, aTIx, oi_none, oi_some, aRev, aCallD, aRevN, aIsE, aRaise, aFld, aSetF, aMeth, aMake, Res.bind_ok, Res.bind_er, Res.bind_no, Bool.true_eq_false, List.isEmpty_nil, List.isEmpty_cons, List.getElem?_cons_zero, List.getElem?_cons_succ, List.set_cons_zero, List.set_cons_succ, if_true, if_false, Bool.false_eq_true, Bool.not_true, Bool.not_false, len0, len1, len2, len3, len4, len5, len6, len8, decide_true, decide_false, decide_eq_true_eq, Bool.true_and, Bool.and_true, Bool.false_and, Bool.and_false, Bool.or_true, Bool.true_or, Bool.or_false, Bool.false_or, Option.bind_some, List.cons_append, List.nil_append, not_true_eq_false, not_false_eq_true, Bool.not_eq_true', decide_eq_false_iff_not, List.length_cons, List.length_nil, Nat.reduceAdd, List.map_nil, Int.reduceLT, Int.reduceLE, Int.reduceNeg, Int.reduceAdd, Int.reduceSub, Int.reduceMul, Nat.reduceLT, Nat.reduceLeDiff, Nat.reduceSub, Nat.reduceEqDiff, reduceCtorEq, and_true, true_and, and_self, e_k, e_r, f_o, f_d, f_l, e1, ls, e2, e3', i0, i1, eqNon, eqFell, List.map_cons, Int.cast_ofNat_Int]
      simp only [max3I, min3I, aLIx, aForR, itemsAt_lst, itemsAt_tup, forR_tup, forR_lst, aAddN, aRepN, aSplice, aSpliceR, aForS, aLcS, aJSeq, aJZip, itemsOf_lst, itemsOf_tup, aAddD, ofE_ok, ofE_er, ofE_no, aIsX, aXf, aRaise1, addT, negI, aIsi, aCallK, aR3, kd_non, kd_bl, kd_int, kd_str, kd_tup, kd_lst, kd_dct, isKd_ti, isKd_tb, isKd_ts, isKd_tt, isKd_tl, isKd_td, isKd_li, isKd_lb, isKd_ls, isKd_lt, isKd_ll, isKd_ld, isKd_ii, isKd_ib, isKd_is, isKd_it, isKd_il, isKd_id, isKd_bi, isKd_bb, isKd_bs, isKd_bt, isKd_bl, isKd_bd, isKd_si, isKd_sb, isKd_ss, isKd_st, isKd_sl, isKd_sd, isKd_ni, isKd_nb, isKd_ns, isKd_nt, isKd_nl, isKd_nd, aDNew, aKGet1, keyP_int, keyP_str, aDGet1, aDGet2, aDPut, aDisp, aItZ, aGTuT, aGTuL, aRf, de_lst, de_int, de_tup, de_str, de_non, de_bl, aExt, getF_nil, getF_cons, insN_nil, insN_cons, insV_nil, insV_cons, isB_bl, isNotB_bl, aSeq, aSkip, aSet, aSetN, aOp, aUn, aVar, aOwn, aC, aCall, aCallN, aNil, aCons, aRet, aRetN, aRetOwn, aIfS, aToT, aToTru, aNotT, aAndT, aOrT, aAndV, aOrV, aNotV, aIf, aTup, aSzc, aFz, aOn, aOs, aSl, aFor, aR1, aR2, aItE, aItS, aItL, aLc, aYes, aApp, aDrop, aAsg, aBreak, aCont, aGN, aGTu, aGCs, aGNl, aW0, aW1, lenI, lenT, intI, intB, tupL, tupT, listL, listT, addI, subI, ltI, leI, gtI, geI, eqI, neI, oIs_non, oIsNot_non, isNon1, isNon2, isNon3, isNon4, truB, truI, truL, truT, max2I, min2I, absI, aDCopy, dX_app, dC_app, aSlD, aAppR, aSetIxR, aFldAug, aItX, aJoin, aTIx, oi_none, oi_some, aRev, aCallD, aRevN, aIsE, aRaise, aFld, aSetF, aMeth, aMake, Res.bind_ok, Res.bind_er, Res.bind_no, Bool.true_eq_false, List.isEmpty_nil, List.isEmpty_cons, List.getElem?_cons_zero, List.getElem?_cons_succ, List.set_cons_zero, List.set_cons_succ, if_true, if_false, Bool.false_eq_true, Bool.not_true, Bool.not_false, len0, len1, len2, len3, len4, len5, len6, len8, decide_true, decide_false, decide_eq_true_eq, Bool.true_and, Bool.and_true, Bool.false_and, Bool.and_false, Bool.or_true, Bool.true_or, Bool.or_false, Bool.false_or, Option.bind_some, mulP, mulQ, modP, divP, List.cons_append, List.nil_append, not_true_eq_false, not_false_eq_true, Bool.not_eq_true', decide_eq_false_iff_not, List.length_cons, List.length_nil, Nat.reduceAdd, List.map_nil, Int.reduceLT, Int.reduceLE, Int.reduceNeg, Int.reduceAdd, Int.reduceSub, Int.reduceMul, Nat.reduceLT, Nat.reduceLeDiff, Nat.reduceSub, Nat.reduceEqDiff, reduceCtorEq, and_true, true_and, and_self]
      try rfl
    · rcases n3 with rfl | n3
      · exact q7
      · omega
    · rcases n3 with rfl | n3
      · exact q8
      · omega
    · rcases n3 with rfl | n3
      · omega
      · omega
end
end Law

set_option Elab.async false
set_option linter.all false
set_option maxRecDepth 100000
set_option maxHeartbeats 4000000
namespace Law
open PySem Mir
section
variable {h h' : Hh} {d m o w o2 w2 : Nat} {l : List Nat} {ws : List (Nat × List Nat)} {lf : Option Nat} {dn : Bool}
theorem act_arm (k : SK h d m o w o2 w2 l ws lf dn) (wok : WOK l.length ws) (n : Nat) (hk : n % 9 = 5) : Left h d m o o2 l.length ws.length (m_L_act [.ref d, .ref m, .int (n : Int)] h) := by
  obtain ⟨q1, q2, q3, q4, q5, q6, q7, q8, q9⟩ := k.dm
  obtain ⟨z, hz⟩ : ∃ z, z = l.length := ⟨_, rfl⟩
  obtain ⟨c, hc⟩ : ∃ c, c = n / 9 % 4 := ⟨_, rfl⟩
  have e_k : oMod (.int (n : Int)) (.int 9) h = .ok (.int ((n % 9 : Nat) : Int)) h := modL 9 (by decide) h
  have e_r : oDiv (.int (n : Int)) (.int 9) h = .ok (.int ((n / 9 : Nat) : Int)) h := divN (b := 9) (by decide) (by decide) h
  rw [hk] at e_k
  have e_c : ∀ hh, oMod (.int ((n / 9 : Nat) : Int)) (.int 4) hh = .ok (.int (c : Int)) hh := fun hh => by rw [hc]; exact modL 4 (by decide) hh
  have f_o : oDGet (.ref m) (.str "octets") h = .ok (.ref o2) h := mget k.M.dct rfl
  have f_n : oDGet (.ref m) (.str "down") h = .ok (.bl dn) h := mget k.M.dct rfl
  obtain ⟨f_d, f_l⟩ := lenOct k.M
  rw [← hz] at f_l
  have isN : ∀ hh, oIs .non .non hh = .ok (.bl true) hh := fun _ => rfl
  cases dn
  · obtain ⟨h1, hh1⟩ : ∃ h1, h1 = h.set m (kOb o2 w2 (some c) false) := ⟨_, rfl⟩
    have st : mDPut (mVar 1) (mC (.str "left")) (mOp oMod (mVar 4) (mC (.int 4))) [.v (.ref d), .v (.ref m), .v (.int (n : Int)), .v (.int 5), .v (.int ((n / 9 : Nat) : Int)), .v (.int (z : Int)), .un, .un, .un, .un, .un, .un, .un] h =
        .nx [.v (.ref d), .v (.ref m), .v (.int (n : Int)), .v (.int 5), .v (.int ((n / 9 : Nat) : Int)), .v (.int (z : Int)), .un, .un, .un, .un, .un, .un, .un] h1 := by
      rw [hh1]
      exact mput (y := .int (c : Int)) (h' := h) (by simp only [aOp, aVar, aC, List.getElem?_cons_zero, List.getElem?_cons_succ, Res.bind_ok, e_c]) k.M.dct rfl rfl
    have M1 : MK h1 m o2 w2 l ws (some c) false := by rw [hh1]; exact k.M.state _ _
    have F1 : Fr [m] h h1 := by rw [hh1]; exact Fr.set _ _ (by simp)
    have D1 := k.D.fr F1 (by simpa using q1) (by simpa using q4) (by simpa using q7)
    obtain ⟨h2, e2, D2, F2⟩ := arm_run D1 c
    have M2 := M1.fr F2 (by simpa using q1.symm) (by simpa using q2.symm) (by simpa using q3.symm)
    refine ⟨h2, w, w2, l, ws, some c, false, ?_, ⟨D2, M2, k.sep⟩, wok, rfl, by omega⟩
    have me : mMeth "Disk" "arm" m_Disk_arm (mVar 0) (mCons (mOp oMod (mVar 4) (mC (.int 4))) mNil) [.v (.ref d), .v (.ref m), .v (.int (n : Int)), .v (.int 5), .v (.int ((n / 9 : Nat) : Int)), .v (.int (z : Int)), .un, .un, .un, .un, .un, .un, .un] h1 = .ok .non h2 := by
      rw [dmeth D1.ins rfl rfl]
      simp only [aCons, aNil, aOp, aVar, aC, List.getElem?_cons_zero, List.getElem?_cons_succ, Res.bind_ok, e_c, e2]
    clear hz hc hh1
    rw [m_L_act, runD, if_pos (show ([.ref d, .ref m, .int (n : Int)] : List PV).length = P_L_act.length from rfl), b_L_act, show startE N_L_act.length [.ref d, .ref m, .int (n : Int)] = [.v (.ref d), .v (.ref m), .v (.int (n : Int)), .un, .un, .un, .un, .un, .un, .un, .un, .un, .un] from rfl]
    obtain ⟨P1, hP1⟩ : ∃ P, P = ob l := ⟨_, rfl⟩
    obtain ⟨I0, hI0⟩ : ∃ i : Int, i = (n : Int) := ⟨_, rfl⟩
    obtain ⟨I2, hI2⟩ : ∃ i : Int, i = ((n / 9 : Nat) : Int) := ⟨_, rfl⟩
    obtain ⟨I5, hI5⟩ : ∃ i : Int, i = (z : Int) := ⟨_, rfl⟩
    obtain ⟨I6, hI6⟩ : ∃ i : Int, i = (c : Int) := ⟨_, rfl⟩
    simp only [← hP1, ← hI0, ← hI2, ← hI5, ← hI6] at *
    simp only [max3I, min3I, aLIx, aForR, itemsAt_lst, itemsAt_tup, forR_tup, forR_lst, aAddN, aRepN, aSplice, aSpliceR, aForS, aLcS, aJSeq, aJZip, itemsOf_lst, itemsOf_tup, aAddD, ofE_ok, ofE_er, ofE_no, aIsX, aXf, aRaise1, addT, negI, aIsi, aCallK, aR3, kd_non, kd_bl, kd_int, kd_str, kd_tup, kd_lst, kd_dct, isKd_ti, isKd_tb, isKd_ts, isKd_tt, isKd_tl, isKd_td, isKd_li, isKd_lb, isKd_ls, isKd_lt, isKd_ll, isKd_ld, isKd_ii, isKd_ib, isKd_is, isKd_it, isKd_il, isKd_id, isKd_bi, isKd_bb, isKd_bs, isKd_bt, isKd_bl, isKd_bd, isKd_si, isKd_sb, isKd_ss, isKd_st, isKd_sl, isKd_sd, isKd_ni, isKd_nb, isKd_ns, isKd_nt, isKd_nl, isKd_nd, aDNew, aKGet1, keyP_int, keyP_str, aDGet1, aDGet2, aDisp, aItZ, aGTuT, aGTuL, aRf, de_lst, de_int, de_tup, de_str, de_non, de_bl, aExt, getF_nil, getF_cons, insN_nil, insN_cons, insV_nil, insV_cons, isB_bl, isNotB_bl, aSeq, aSkip, aSet, aSetN, aOp, aUn, aVar, aOwn, aC, aCall, aCallN, aNil, aCons, aRet, aRetN, aRetOwn, aIfS, aToT, aToTru, aNotT, aAndT, aOrT, aAndV, aOrV, aNotV, aIf, aTup, aSzc, aFz, aOn, aOs, aSl, aFor, aR1, aR2, aItE, aItS, aItL, aLc, aYes, aApp, aDrop, aAsg, aBreak, aCont, aGN, aGTu, aGCs, aGNl, aW0, aW1, lenI, lenT, intI, intB, tupL, tupT, listL, listT, addI, subI, ltI, leI, gtI, geI, eqI, neI, oIs_non, oIsNot_non, isNon1, isNon2, isNon3, isNon4, truB, truI, truL, truT, max2I, min2I, absI, aDCopy, dX_app, dC_app, aSlD, aAppR, aSetIxR, aFldAug, aItX, aJoin, aTIx, oi_none, oi_some, aRev, aCallD, aRevN, aIsE, aRaise, aFld, aSetF, aMake, Res.bind_ok, Res.bind_er, Res.bind_no, Bool.true_eq_false, List.isEmpty_nil, List.isEmpty_cons, List.getElem?_cons_zero, List.getElem?_cons_succ, List.set_cons_zero, List.set_cons_succ, if_true, if_false, Bool.false_eq_true, Bool.not_true, Bool.not_false, len0, len1, len2, len3, len4, len5, len6, len8, decide_true, decide_false, decide_eq_true_eq, Bool.true_and, Bool.and_true, Bool.false_and, Bool.and_false, Bool.or_true, Bool.true_or, Bool.or_false, Bool.false_or, Option.bind_some, List.cons_append, List.nil_append, not_true_eq_false, not_false_eq_true, Bool.not_eq_true', decide_eq_false_iff_not, List.length_cons, List.length_nil, Nat.reduceAdd, List.map_nil, Int.reduceLT, Int.reduceLE, Int.reduceNeg, Int.reduceAdd, Int.reduceSub, Int.reduceMul, Nat.reduceLT, Nat.reduceLeDiff, Nat.reduceSub, Nat.reduceEqDiff, reduceCtorEq, and_true, true_and, and_self, e_k, e_r, f_o, f_d, f_l, f_n, st, me, isN, List.map_cons, Int.cast_ofNat_Int, Int.reduceEq, truP]
  · obtain ⟨h2, e2, D2, F2⟩ := arm_run k.D c
    have M2 := k.M.fr F2 (by simpa using q1.symm) (by simpa using q2.symm) (by simpa using q3.symm)
    refine ⟨h2, w, w2, l, ws, lf, true, ?_, ⟨D2, M2, k.sep⟩, wok, rfl, by omega⟩
    have me : mMeth "Disk" "arm" m_Disk_arm (mVar 0) (mCons (mOp oMod (mVar 4) (mC (.int 4))) mNil) [.v (.ref d), .v (.ref m), .v (.int (n : Int)), .v (.int 5), .v (.int ((n / 9 : Nat) : Int)), .v (.int (z : Int)), .un, .un, .un, .un, .un, .un, .un] h = .ok .non h2 := by
      rw [dmeth k.D.ins rfl rfl]
      simp only [aCons, aNil, aOp, aVar, aC, List.getElem?_cons_zero, List.getElem?_cons_succ, Res.bind_ok, e_c, e2]
    clear hz hc
    rw [m_L_act, runD, if_pos (show ([.ref d, .ref m, .int (n : Int)] : List PV).length = P_L_act.length from rfl), b_L_act, show startE N_L_act.length [.ref d, .ref m, .int (n : Int)] = [.v (.ref d), .v (.ref m), .v (.int (n : Int)), .un, .un, .un, .un, .un, .un, .un, .un, .un, .un] from rfl]
    obtain ⟨P1, hP1⟩ : ∃ P, P = ob l := ⟨_, rfl⟩
    obtain ⟨I0, hI0⟩ : ∃ i : Int, i = (n : Int) := ⟨_, rfl⟩
    obtain ⟨I2, hI2⟩ : ∃ i : Int, i = ((n / 9 : Nat) : Int) := ⟨_, rfl⟩
    obtain ⟨I5, hI5⟩ : ∃ i : Int, i = (z : Int) := ⟨_, rfl⟩
    obtain ⟨I6, hI6⟩ : ∃ i : Int, i = (c : Int) := ⟨_, rfl⟩
    simp only [← hP1, ← hI0, ← hI2, ← hI5, ← hI6] at *
    simp only [max3I, min3I, aLIx, aForR, itemsAt_lst, itemsAt_tup, forR_tup, forR_lst, aAddN, aRepN, aSplice, aSpliceR, aForS, aLcS, aJSeq, aJZip, itemsOf_lst, itemsOf_tup, aAddD, ofE_ok, ofE_er, ofE_no, aIsX, aXf, aRaise1, addT, negI, aIsi, aCallK, aR3, kd_non, kd_bl, kd_int, kd_str, kd_tup, kd_lst, kd_dct, isKd_ti, isKd_tb, isKd_ts, isKd_tt, isKd_tl, isKd_td, isKd_li, isKd_lb, isKd_ls, isKd_lt, isKd_ll, isKd_ld, isKd_ii, isKd_ib, isKd_is, isKd_it, isKd_il, isKd_id, isKd_bi, isKd_bb, isKd_bs, isKd_bt, isKd_bl, isKd_bd, isKd_si, isKd_sb, isKd_ss, isKd_st, isKd_sl, isKd_sd, isKd_ni, isKd_nb, isKd_ns, isKd_nt, isKd_nl, isKd_nd, aDNew, aKGet1, keyP_int, keyP_str, aDGet1, aDGet2, aDisp, aItZ, aGTuT, aGTuL, aRf, de_lst, de_int, de_tup, de_str, de_non, de_bl, aExt, getF_nil, getF_cons, insN_nil, insN_cons, insV_nil, insV_cons, isB_bl, isNotB_bl, aSeq, aSkip, aSet, aSetN, aOp, aUn, aVar, aOwn, aC, aCall, aCallN, aNil, aCons, aRet, aRetN, aRetOwn, aIfS, aToT, aToTru, aNotT, aAndT, aOrT, aAndV, aOrV, aNotV, aIf, aTup, aSzc, aFz, aOn, aOs, aSl, aFor, aR1, aR2, aItE, aItS, aItL, aLc, aYes, aApp, aDrop, aAsg, aBreak, aCont, aGN, aGTu, aGCs, aGNl, aW0, aW1, lenI, lenT, intI, intB, tupL, tupT, listL, listT, addI, subI, ltI, leI, gtI, geI, eqI, neI, oIs_non, oIsNot_non, isNon1, isNon2, isNon3, isNon4, truB, truI, truL, truT, max2I, min2I, absI, aDCopy, dX_app, dC_app, aSlD, aAppR, aSetIxR, aFldAug, aItX, aJoin, aTIx, oi_none, oi_some, aRev, aCallD, aRevN, aIsE, aRaise, aFld, aSetF, aMake, Res.bind_ok, Res.bind_er, Res.bind_no, Bool.true_eq_false, List.isEmpty_nil, List.isEmpty_cons, List.getElem?_cons_zero, List.getElem?_cons_succ, List.set_cons_zero, List.set_cons_succ, if_true, if_false, Bool.false_eq_true, Bool.not_true, Bool.not_false, len0, len1, len2, len3, len4, len5, len6, len8, decide_true, decide_false, decide_eq_true_eq, Bool.true_and, Bool.and_true, Bool.false_and, Bool.and_false, Bool.or_true, Bool.true_or, Bool.or_false, Bool.false_or, Option.bind_some, List.cons_append, List.nil_append, not_true_eq_false, not_false_eq_true, Bool.not_eq_true', decide_eq_false_iff_not, List.length_cons, List.length_nil, Nat.reduceAdd, List.map_nil, Int.reduceLT, Int.reduceLE, Int.reduceNeg, Int.reduceAdd, Int.reduceSub, Int.reduceMul, Nat.reduceLT, Nat.reduceLeDiff, Nat.reduceSub, Nat.reduceEqDiff, reduceCtorEq, and_true, true_and, and_self, e_k, e_r, f_o, f_d, f_l, f_n, me, isN, List.map_cons, Int.cast_ofNat_Int, Int.reduceEq, truP]
theorem act_read (k : SK h d m o w o2 w2 l ws lf dn) (hl : l.length ≤ 1000) (wok : WOK l.length ws) (n : Nat) (hk : 7 ≤ n % 9) : Left h d m o o2 l.length ws.length (m_L_act [.ref d, .ref m, .int (n : Int)] h) := by
  obtain ⟨z, hz⟩ : ∃ z, z = l.length := ⟨_, rfl⟩
  obtain ⟨r, hr⟩ : ∃ r, r = n / 9 := ⟨_, rfl⟩
  obtain ⟨s, hs⟩ : ∃ s, s = r % (z + 1) := ⟨_, rfl⟩
  obtain ⟨c, hc⟩ : ∃ c, c = r / 50 % (z - s + 1) := ⟨_, rfl⟩
  have hsz : s ≤ z := by
    have : s < z + 1 := by rw [hs]; exact Nat.mod_lt _ (by omega)
    omega
  refine ⟨h, w, w2, l, ws, lf, dn, ?_, k, wok, rfl, by omega⟩
  have e_k : oMod (.int (n : Int)) (.int 9) h = .ok (.int ((n % 9 : Nat) : Int)) h := modL 9 (by decide) h
  have e_r : oDiv (.int (n : Int)) (.int 9) h = .ok (.int (r : Int)) h := by rw [hr]; exact divN (b := 9) (by decide) (by decide) h
  have f_o : oDGet (.ref m) (.str "octets") h = .ok (.ref o2) h := mget k.M.dct rfl
  have f_n : oDGet (.ref m) (.str "down") h = .ok (.bl dn) h := mget k.M.dct rfl
  obtain ⟨f_d, f_l⟩ := lenOct k.M
  rw [← hz] at f_l
  have k0 : (((n % 9 : Nat) : Int) < 4) = False := eq_false (by omega)
  have k1 : (((n % 9 : Nat) : Int) = 4) = False := eq_false (by omega)
  have k2 : (((n % 9 : Nat) : Int) = 5) = False := eq_false (by omega)
  have k3 : (((n % 9 : Nat) : Int) = 6) = False := eq_false (by omega)
  have e_z : (z : Int) + 1 = ((z + 1 : Nat) : Int) := by omega
  have e_s : oMod (.int (r : Int)) (.int ((z + 1 : Nat) : Int)) h = .ok (.int (s : Int)) h := by rw [hs]; exact modL (z + 1) (by omega) h
  have e_b : oDiv (.int (r : Int)) (.int 50) h = .ok (.int ((r / 50 : Nat) : Int)) h := divN (b := 50) (by decide) (by decide) h
  have e_y : (z : Int) - (s : Int) + 1 = ((z - s + 1 : Nat) : Int) := by omega
  have e_c : oMod (.int ((r / 50 : Nat) : Int)) (.int ((z - s + 1 : Nat) : Int)) h = .ok (.int (c : Int)) h := by rw [hc]; exact modL (z - s + 1) (by omega) h
  have e_t := tried_read k.D hl wok s c
  have e_n := seen_run k.M hl wok
  have e_l := fun hh => slAB (seenF l ws) s c hh
  have e_q : oEq (.tup (ob (((seenF l ws).drop s).take c))) (.tup (ob (((seenF l ws).drop s).take c))) h = .ok (.bl true) h := by
    rw [eq_ob]; simp
  clear hz hr hs hc hk
  rw [m_L_act, runD, if_pos (show ([.ref d, .ref m, .int (n : Int)] : List PV).length = P_L_act.length from rfl), b_L_act, show startE N_L_act.length [.ref d, .ref m, .int (n : Int)] = [.v (.ref d), .v (.ref m), .v (.int (n : Int)), .un, .un, .un, .un, .un, .un, .un, .un, .un, .un] from rfl]
  obtain ⟨P0, hP0⟩ : ∃ P, P = ob (((seenF l ws).drop s).take c) := ⟨_, rfl⟩
  obtain ⟨P1, hP1⟩ : ∃ P, P = ob l := ⟨_, rfl⟩
  obtain ⟨P2, hP2⟩ : ∃ P, P = ob (seenF l ws) := ⟨_, rfl⟩
  obtain ⟨I0, hI0⟩ : ∃ i : Int, i = (n : Int) := ⟨_, rfl⟩
  obtain ⟨I1, hI1⟩ : ∃ i : Int, i = ((n % 9 : Nat) : Int) := ⟨_, rfl⟩
  obtain ⟨I2, hI2⟩ : ∃ i : Int, i = (r : Int) := ⟨_, rfl⟩
  obtain ⟨I3, hI3⟩ : ∃ i : Int, i = ((r / 50 : Nat) : Int) := ⟨_, rfl⟩
  obtain ⟨I4, hI4⟩ : ∃ i : Int, i = ((z + 1 : Nat) : Int) := ⟨_, rfl⟩
  obtain ⟨I5, hI5⟩ : ∃ i : Int, i = (z : Int) := ⟨_, rfl⟩
  obtain ⟨I6, hI6⟩ : ∃ i : Int, i = (c : Int) := ⟨_, rfl⟩
  obtain ⟨I7, hI7⟩ : ∃ i : Int, i = (s : Int) := ⟨_, rfl⟩
  obtain ⟨I8, hI8⟩ : ∃ i : Int, i = ((z - s + 1 : Nat) : Int) := ⟨_, rfl⟩
  simp only [← hP0, ← hP1, ← hP2, ← hI0, ← hI1, ← hI2, ← hI3, ← hI4, ← hI5, ← hI6, ← hI7, ← hI8] at *
  cases dn
  · simp only [max3I, min3I, aLIx, aForR, itemsAt_lst, itemsAt_tup, forR_tup, forR_lst, aAddN, aRepN, aSplice, aSpliceR, aForS, aLcS, aJSeq, aJZip, itemsOf_lst, itemsOf_tup, aAddD, ofE_ok, ofE_er, ofE_no, aIsX, aXf, aRaise1, addT, negI, aIsi, aCallK, aR3, kd_non, kd_bl, kd_int, kd_str, kd_tup, kd_lst, kd_dct, isKd_ti, isKd_tb, isKd_ts, isKd_tt, isKd_tl, isKd_td, isKd_li, isKd_lb, isKd_ls, isKd_lt, isKd_ll, isKd_ld, isKd_ii, isKd_ib, isKd_is, isKd_it, isKd_il, isKd_id, isKd_bi, isKd_bb, isKd_bs, isKd_bt, isKd_bl, isKd_bd, isKd_si, isKd_sb, isKd_ss, isKd_st, isKd_sl, isKd_sd, isKd_ni, isKd_nb, isKd_ns, isKd_nt, isKd_nl, isKd_nd, aDNew, aKGet1, keyP_int, keyP_str, aDGet1, aDGet2, aDPut, aDisp, aItZ, aGTuT, aGTuL, aRf, de_lst, de_int, de_tup, de_str, de_non, de_bl, aExt, getF_nil, getF_cons, insN_nil, insN_cons, insV_nil, insV_cons, isB_bl, isNotB_bl, aSeq, aSkip, aSet, aSetN, aOp, aUn, aVar, aOwn, aC, aCall, aCallN, aNil, aCons, aRet, aRetN, aRetOwn, aIfS, aToT, aToTru, aNotT, aAndT, aOrT, aAndV, aOrV, aNotV, aIf, aTup, aSzc, aFz, aOn, aOs, aSl, aFor, aR1, aR2, aItE, aItS, aItL, aLc, aYes, aApp, aDrop, aAsg, aBreak, aCont, aGN, aGTu, aGCs, aGNl, aW0, aW1, lenI, lenT, intI, intB, tupL, tupT, listL, listT, addI, subI, ltI, leI, gtI, geI, eqI, neI, oIs_non, oIsNot_non, isNon1, isNon2, isNon3, isNon4, truB, truI, truL, truT, max2I, min2I, absI, aDCopy, dX_app, dC_app, aSlD, aAppR, aSetIxR, aFldAug, aItX, aJoin, aTIx, oi_none, oi_some, aRev, aCallD, aRevN, aIsE, aRaise, aFld, aSetF, aMeth, aMake, Res.bind_ok, Res.bind_er, Res.bind_no, Bool.true_eq_false, List.isEmpty_nil, List.isEmpty_cons, List.getElem?_cons_zero, List.getElem?_cons_succ, List.set_cons_zero, List.set_cons_succ, if_true, if_false, Bool.false_eq_true, Bool.not_true, Bool.not_false, len0, len1, len2, len3, len4, len5, len6, len8, decide_true, decide_false, decide_eq_true_eq, Bool.true_and, Bool.and_true, Bool.false_and, Bool.and_false, Bool.or_true, Bool.true_or, Bool.or_false, Bool.false_or, Option.bind_some, List.cons_append, List.nil_append, not_true_eq_false, not_false_eq_true, Bool.not_eq_true', decide_eq_false_iff_not, List.length_cons, List.length_nil, Nat.reduceAdd, List.map_nil, Int.reduceLT, Int.reduceLE, Int.reduceNeg, Int.reduceAdd, Int.reduceSub, Int.reduceMul, Nat.reduceLT, Nat.reduceLeDiff, Nat.reduceSub, Nat.reduceEqDiff, reduceCtorEq, and_true, true_and, and_self, e_k, e_r, f_o, f_d, f_l, f_n, k0, k1, k2, k3, e_z, e_s, e_b, e_y, e_c, e_t, e_n, e_l, e_q, List.map_cons, truP]
  · simp only [max3I, min3I, aLIx, aForR, itemsAt_lst, itemsAt_tup, forR_tup, forR_lst, aAddN, aRepN, aSplice, aSpliceR, aForS, aLcS, aJSeq, aJZip, itemsOf_lst, itemsOf_tup, aAddD, ofE_ok, ofE_er, ofE_no, aIsX, aXf, aRaise1, addT, negI, aIsi, aCallK, aR3, kd_non, kd_bl, kd_int, kd_str, kd_tup, kd_lst, kd_dct, isKd_ti, isKd_tb, isKd_ts, isKd_tt, isKd_tl, isKd_td, isKd_li, isKd_lb, isKd_ls, isKd_lt, isKd_ll, isKd_ld, isKd_ii, isKd_ib, isKd_is, isKd_it, isKd_il, isKd_id, isKd_bi, isKd_bb, isKd_bs, isKd_bt, isKd_bl, isKd_bd, isKd_si, isKd_sb, isKd_ss, isKd_st, isKd_sl, isKd_sd, isKd_ni, isKd_nb, isKd_ns, isKd_nt, isKd_nl, isKd_nd, aDNew, aKGet1, keyP_int, keyP_str, aDGet1, aDGet2, aDPut, aDisp, aItZ, aGTuT, aGTuL, aRf, de_lst, de_int, de_tup, de_str, de_non, de_bl, aExt, getF_nil, getF_cons, insN_nil, insN_cons, insV_nil, insV_cons, isB_bl, isNotB_bl, aSeq, aSkip, aSet, aSetN, aOp, aUn, aVar, aOwn, aC, aCall, aCallN, aNil, aCons, aRet, aRetN, aRetOwn, aIfS, aToT, aToTru, aNotT, aAndT, aOrT, aAndV, aOrV, aNotV, aIf, aTup, aSzc, aFz, aOn, aOs, aSl, aFor, aR1, aR2, aItE, aItS, aItL, aLc, aYes, aApp, aDrop, aAsg, aBreak, aCont, aGN, aGTu, aGCs, aGNl, aW0, aW1, lenI, lenT, intI, intB, tupL, tupT, listL, listT, addI, subI, ltI, leI, gtI, geI, eqI, neI, oIs_non, oIsNot_non, isNon1, isNon2, isNon3, isNon4, truB, truI, truL, truT, max2I, min2I, absI, aDCopy, dX_app, dC_app, aSlD, aAppR, aSetIxR, aFldAug, aItX, aJoin, aTIx, oi_none, oi_some, aRev, aCallD, aRevN, aIsE, aRaise, aFld, aSetF, aMeth, aMake, Res.bind_ok, Res.bind_er, Res.bind_no, Bool.true_eq_false, List.isEmpty_nil, List.isEmpty_cons, List.getElem?_cons_zero, List.getElem?_cons_succ, List.set_cons_zero, List.set_cons_succ, if_true, if_false, Bool.false_eq_true, Bool.not_true, Bool.not_false, len0, len1, len2, len3, len4, len5, len6, len8, decide_true, decide_false, decide_eq_true_eq, Bool.true_and, Bool.and_true, Bool.false_and, Bool.and_false, Bool.or_true, Bool.true_or, Bool.or_false, Bool.false_or, Option.bind_some, List.cons_append, List.nil_append, not_true_eq_false, not_false_eq_true, Bool.not_eq_true', decide_eq_false_iff_not, List.length_cons, List.length_nil, Nat.reduceAdd, List.map_nil, Int.reduceLT, Int.reduceLE, Int.reduceNeg, Int.reduceAdd, Int.reduceSub, Int.reduceMul, Nat.reduceLT, Nat.reduceLeDiff, Nat.reduceSub, Nat.reduceEqDiff, reduceCtorEq, and_true, true_and, and_self, e_k, e_r, f_o, f_d, f_l, f_n, k0, k1, k2, k3, e_z, e_s, e_b, e_y, e_c, e_t, e_n, e_l, e_q, eqFell, List.map_cons, truP]
end
end Law

set_option Elab.async false
set_option linter.all false
set_option maxRecDepth 100000
set_option maxHeartbeats 4000000
namespace Law
open PySem Mir
section
variable {h h' : Hh} {d m o w o2 w2 : Nat} {l : List Nat} {ws : List (Nat × List Nat)} {lf : Option Nat} {dn : Bool}
def keptF (r c : Nat) : List Nat := (List.range c).map fun k => r / (1 + 3 * k) % 14
theorem kept_run (x0 x1 x2 x3 x5 x6 x7 x8 x9 x10 x11 x12 : SV) (r c : Nat) (hc : c ≤ 6) (hc2 : ∀ hh, (mOp oMod (mOp oDiv (mVar 4) (mC (.int 7))) (mC (.int 6))) [x0, x1, x2, x3, .v (.int (r : Int)), x5, x6, x7, x8, x9, x10, x11, x12] hh = .ok (.int (c : Int)) hh) :
    (mLc (itR1 (mCons (mOp oMod (mOp oDiv (mVar 4) (mC (.int 7))) (mC (.int 6))) mNil)) [11] (gN 11) mYes (mOp oMod (mOp oDiv (mVar 4) (mOp oAdd (mC (.int 1)) (mOp oMulA (mC (.int 3)) (mVar 11)))) (mC (.int 14)))) [x0, x1, x2, x3, .v (.int (r : Int)), x5, x6, x7, x8, x9, x10, x11, x12] h = .ok (ob (keptF r c)) h := by
  have rk : rngOk (c : Int) = true := by
    unfold rngOk
    simp only [Bool.and_eq_true, decide_eq_true_eq]
    omega
  have hr : rngList 0 (c : Int).toNat = (List.range c).map fun (k : Nat) => PV.int (k : Int) := by rw [Int.toNat_natCast]; exact rng_nat c
  have each := lcL_all (g := gN 11) (e := mOp oMod (mOp oDiv (mVar 4) (mOp oAdd (mC (.int 1)) (mOp oMulA (mC (.int 3)) (mVar 11)))) (mC (.int 14)))
    (env := [x0, x1, x2, x3, .v (.int (r : Int)), x5, x6, x7, x8, x9, x10, .un, x12]) (h := h) (fun k : Nat => PV.int (k : Int)) (fun k : Nat => PV.int ((r / (1 + 3 * k) % 14 : Nat) : Int)) (List.range c) fun k hk => by
      have hk' : k < c := List.mem_range.mp hk
      refine ⟨[x0, x1, x2, x3, .v (.int (r : Int)), x5, x6, x7, x8, x9, x10, .v (.int (k : Int)), x12], rfl, ?_⟩
      have e2 : oMulA (.int 3) (.int (k : Int)) h = .ok (.int ((3 * k : Nat) : Int)) h := mulAN (h := h) (a := 3) (b := k) (.inl (by decide))
      have e3 : oAdd (.int 1) (.int ((3 * k : Nat) : Int)) h = .ok (.int ((1 + 3 * k : Nat) : Int)) h := by
        show Res.ok (PV.int (1 + ((3 * k : Nat) : Int))) h = _
        rw [Int.natCast_add]; rfl
      have e1 : oDiv (.int (r : Int)) (.int ((1 + 3 * k : Nat) : Int)) h = .ok (.int ((r / (1 + 3 * k) : Nat) : Int)) h := divN (by omega) (by omega) h
      have e4 : oMod (.int ((r / (1 + 3 * k) : Nat) : Int)) (.int 14) h = .ok (.int ((r / (1 + 3 * k) % 14 : Nat) : Int)) h := modL 14 (by decide) h
      obtain ⟨I1, h1⟩ : ∃ i : Int, i = (r : Int) := ⟨_, rfl⟩
      obtain ⟨I2, h2⟩ : ∃ i : Int, i = ((3 * k : Nat) : Int) := ⟨_, rfl⟩
      obtain ⟨I3, h3⟩ : ∃ i : Int, i = ((1 + 3 * k : Nat) : Int) := ⟨_, rfl⟩
      obtain ⟨I4, h4⟩ : ∃ i : Int, i = ((r / (1 + 3 * k) : Nat) : Int) := ⟨_, rfl⟩
      obtain ⟨I5, h5⟩ : ∃ i : Int, i = ((r / (1 + 3 * k) % 14 : Nat) : Int) := ⟨_, rfl⟩
      obtain ⟨I6, h6⟩ : ∃ i : Int, i = (k : Int) := ⟨_, rfl⟩
      simp only [← h1, ← h2, ← h3, ← h4, ← h5, ← h6] at *
      simp only [max3I, min3I, aLIx, aForR, itemsAt_lst, itemsAt_tup, forR_tup, forR_lst, aAddN, aRepN, aSplice, aSpliceR, aForS, aLcS, aJSeq, aJZip, itemsOf_lst, itemsOf_tup, aAddD, ofE_ok, ofE_er, ofE_no, aIsX, aXf, aRaise1, addT, negI, aIsi, aCallK, aR3, kd_non, kd_bl, kd_int, kd_str, kd_tup, kd_lst, kd_dct, isKd_ti, isKd_tb, isKd_ts, isKd_tt, isKd_tl, isKd_td, isKd_li, isKd_lb, isKd_ls, isKd_lt, isKd_ll, isKd_ld, isKd_ii, isKd_ib, isKd_is, isKd_it, isKd_il, isKd_id, isKd_bi, isKd_bb, isKd_bs, isKd_bt, isKd_bl, isKd_bd, isKd_si, isKd_sb, isKd_ss, isKd_st, isKd_sl, isKd_sd, isKd_ni, isKd_nb, isKd_ns, isKd_nt, isKd_nl, isKd_nd, aDNew, aKGet1, keyP_int, keyP_str, aDGet1, aDGet2, aDPut, aDisp, aItZ, aGTuT, aGTuL, aRf, de_lst, de_int, de_tup, de_str, de_non, de_bl, aExt, getF_nil, getF_cons, insN_nil, insN_cons, insV_nil, insV_cons, isB_bl, isNotB_bl, aSeq, aSkip, aSet, aSetN, aOp, aUn, aVar, aOwn, aC, aCall, aCallN, aNil, aCons, aRet, aRetN, aRetOwn, aIfS, aToT, aToTru, aNotT, aAndT, aOrT, aAndV, aOrV, aNotV, aIf, aTup, aSzc, aFz, aOn, aOs, aSl, aFor, aR1, aR2, aItE, aItS, aItL, aLc, aYes, aApp, aDrop, aAsg, aBreak, aCont, aGN, aGTu, aGCs, aGNl, aW0, aW1, lenI, lenT, intI, intB, tupL, tupT, listL, listT, subI, ltI, leI, gtI, geI, eqI, neI, oIs_non, oIsNot_non, isNon1, isNon2, isNon3, isNon4, truB, truI, truL, truT, max2I, min2I, absI, aDCopy, dX_app, dC_app, aSlD, aAppR, aSetIxR, aFldAug, aItX, aJoin, aTIx, oi_none, oi_some, aRev, aCallD, aRevN, aIsE, aRaise, aFld, aSetF, aMeth, aMake, Res.bind_ok, Res.bind_er, Res.bind_no, Bool.true_eq_false, List.isEmpty_nil, List.isEmpty_cons, List.getElem?_cons_zero, List.getElem?_cons_succ, List.set_cons_zero, List.set_cons_succ, if_true, if_false, Bool.false_eq_true, Bool.not_true, Bool.not_false, len0, len1, len2, len3, len4, len5, len6, len8, decide_true, decide_false, decide_eq_true_eq, Bool.true_and, Bool.and_true, Bool.false_and, Bool.and_false, Bool.or_true, Bool.true_or, Bool.or_false, Bool.false_or, Option.bind_some, List.cons_append, List.nil_append, not_true_eq_false, not_false_eq_true, Bool.not_eq_true', decide_eq_false_iff_not, List.length_cons, List.length_nil, Nat.reduceAdd, List.map_nil, Int.reduceLT, Int.reduceLE, Int.reduceNeg, Int.reduceAdd, Int.reduceSub, Int.reduceMul, Nat.reduceLT, Nat.reduceLeDiff, Nat.reduceSub, Nat.reduceEqDiff, reduceCtorEq, and_true, true_and, and_self, e1, e2, e3, e4]
  have e2 : ob (keptF r c) = (List.range c).map fun k : Nat => PV.int ((r / (1 + 3 * k) % 14 : Nat) : Int) := by unfold ob keptF; rw [List.map_map]; rfl
  rw [e2]
  have hz : (((List.range c).map fun (k : Nat) => PV.int (k : Int)).length ≤ 16777216) = True := eq_true (by rw [List.length_map, List.length_range]; omega)
  obtain ⟨RL, hRL⟩ : ∃ P, P = (List.range c).map fun (k : Nat) => PV.int (k : Int) := ⟨_, rfl⟩
  obtain ⟨I1, h1⟩ : ∃ i : Int, i = (c : Int) := ⟨_, rfl⟩
  simp only [← hRL, ← h1] at *
  simp only [max3I, min3I, aLIx, aForR, itemsAt_lst, itemsAt_tup, forR_tup, forR_lst, aAddN, aRepN, aSplice, aSpliceR, aForS, aLcS, aJSeq, aJZip, itemsOf_lst, itemsOf_tup, aAddD, ofE_ok, ofE_er, ofE_no, aIsX, aXf, aRaise1, addT, negI, aIsi, aCallK, aR3, kd_non, kd_bl, kd_int, kd_str, kd_tup, kd_lst, kd_dct, isKd_ti, isKd_tb, isKd_ts, isKd_tt, isKd_tl, isKd_td, isKd_li, isKd_lb, isKd_ls, isKd_lt, isKd_ll, isKd_ld, isKd_ii, isKd_ib, isKd_is, isKd_it, isKd_il, isKd_id, isKd_bi, isKd_bb, isKd_bs, isKd_bt, isKd_bl, isKd_bd, isKd_si, isKd_sb, isKd_ss, isKd_st, isKd_sl, isKd_sd, isKd_ni, isKd_nb, isKd_ns, isKd_nt, isKd_nl, isKd_nd, aDNew, aKGet1, keyP_int, keyP_str, aDGet1, aDGet2, aDPut, aDisp, aItZ, aGTuT, aGTuL, aRf, de_lst, de_int, de_tup, de_str, de_non, de_bl, aExt, getF_nil, getF_cons, insN_nil, insN_cons, insV_nil, insV_cons, isB_bl, isNotB_bl, aSeq, aSkip, aSet, aSetN, aUn, aVar, aOwn, aC, aCall, aCallN, aNil, aCons, aRet, aRetN, aRetOwn, aIfS, aToT, aToTru, aNotT, aAndT, aOrT, aAndV, aOrV, aNotV, aIf, aTup, aSzc, aFz, aOn, aOs, aSl, aFor, aR1, aR2, aItE, aItS, aItL, aLc, aYes, aApp, aDrop, aAsg, aBreak, aCont, aGN, aGTu, aGCs, aGNl, aW0, aW1, lenI, lenT, intI, intB, tupL, tupT, listL, listT, addI, subI, ltI, leI, gtI, geI, eqI, neI, oIs_non, oIsNot_non, isNon1, isNon2, isNon3, isNon4, truB, truI, truL, truT, max2I, min2I, absI, aDCopy, dX_app, dC_app, aSlD, aAppR, aSetIxR, aFldAug, aItX, aJoin, aTIx, oi_none, oi_some, aRev, aCallD, aRevN, aIsE, aRaise, aFld, aSetF, aMeth, aMake, Res.bind_ok, Res.bind_er, Res.bind_no, Bool.true_eq_false, List.isEmpty_nil, List.isEmpty_cons, List.getElem?_cons_zero, List.getElem?_cons_succ, List.set_cons_zero, List.set_cons_succ, if_true, if_false, Bool.false_eq_true, Bool.not_true, Bool.not_false, len0, len1, len2, len3, len4, len5, len6, len8, decide_true, decide_false, decide_eq_true_eq, Bool.true_and, Bool.and_true, Bool.false_and, Bool.and_false, Bool.or_true, Bool.true_or, Bool.or_false, Bool.false_or, Option.bind_some, mulP, mulQ, modP, divP, List.cons_append, List.nil_append, not_true_eq_false, not_false_eq_true, Bool.not_eq_true', decide_eq_false_iff_not, List.length_cons, List.length_nil, Nat.reduceAdd, List.map_nil, Int.reduceLT, Int.reduceLE, Int.reduceNeg, Int.reduceAdd, Int.reduceSub, Int.reduceMul, Nat.reduceLT, Nat.reduceLeDiff, Nat.reduceSub, Nat.reduceEqDiff, reduceCtorEq, and_true, true_and, and_self, rk, hr, hz, wipeE, each, hc2]
theorem act_fall (k : SK h d m o w o2 w2 l ws lf dn) (hl : l.length ≤ 1000) (wok : WOK l.length ws) (hw : ws.length ≤ 1000) (n : Nat) (hk : n % 9 = 6) : Left h d m o o2 l.length ws.length (m_L_act [.ref d, .ref m, .int (n : Int)] h) := by
  obtain ⟨q1, q2, q3, q4, q5, q6, q7, q8, q9⟩ := k.dm
  obtain ⟨z, hz⟩ : ∃ z, z = l.length := ⟨_, rfl⟩
  obtain ⟨r, hr⟩ : ∃ r, r = n / 9 := ⟨_, rfl⟩
  obtain ⟨c, hc⟩ : ∃ c, c = r / 7 % 6 := ⟨_, rfl⟩
  obtain ⟨b, hb⟩ : ∃ b, b = r / 42 % 2 := ⟨_, rfl⟩
  have hc6 : c ≤ 6 := by have : r / 7 % 6 < 6 := Nat.mod_lt _ (by decide); omega
  have hb2 : b = 0 ∨ b = 1 := by have : r / 42 % 2 < 2 := Nat.mod_lt _ (by decide); omega
  have e_k : oMod (.int (n : Int)) (.int 9) h = .ok (.int ((n % 9 : Nat) : Int)) h := modL 9 (by decide) h
  have e_r : oDiv (.int (n : Int)) (.int 9) h = .ok (.int (r : Int)) h := by rw [hr]; exact divN (b := 9) (by decide) (by decide) h
  rw [hk] at e_k
  have f_o : oDGet (.ref m) (.str "octets") h = .ok (.ref o2) h := mget k.M.dct rfl
  obtain ⟨f_d, f_l⟩ := lenOct k.M
  rw [← hz] at f_l
  have e_c : ∀ hh, oDiv (.int (r : Int)) (.int 7) hh = .ok (.int ((r / 7 : Nat) : Int)) hh := fun hh => divN (b := 7) (by decide) (by decide) hh
  have e_c2 : ∀ hh, oMod (.int ((r / 7 : Nat) : Int)) (.int 6) hh = .ok (.int (c : Int)) hh := fun hh => by rw [hc]; exact modL 6 (by decide) hh
  have e_b : ∀ hh, oDiv (.int (r : Int)) (.int 42) hh = .ok (.int ((r / 42 : Nat) : Int)) hh := fun hh => divN (b := 42) (by decide) (by decide) hh
  have e_b2 : ∀ hh, oMod (.int ((r / 42 : Nat) : Int)) (.int 2) hh = .ok (.int (b : Int)) hh := fun hh => by rw [hb]; exact modL 2 (by decide) hh
  obtain ⟨ks, hks⟩ : ∃ ks, ks = keptF r c := ⟨_, rfl⟩
  have e_ks := kept_run (h := h) (.v (.ref d)) (.v (.ref m)) (.v (.int (n : Int))) (.v (.int 6)) (.v (.int (z : Int))) .un .un .un .un .un .un .un r c hc6 (fun hh => by
    simp only [aOp, aVar, aC, List.getElem?_cons_zero, List.getElem?_cons_succ, Res.bind_ok, e_c, e_c2])
  rw [← hks] at e_ks
  obtain ⟨h1, e1, M1, F1⟩ := lset_run k.M hl wok ks (by omega)
  have D1 := k.D.fr F1 (by simp; exact ⟨q1, q2⟩) (by simp; exact ⟨q4, q5⟩) (by simp; exact ⟨q7, q8⟩)
  obtain ⟨env, henv⟩ : ∃ env, env = [SV.v (.ref d), .v (.ref m), .v (.int (n : Int)), .v (.int 6), .v (.int (r : Int)), .v (.int (z : Int)), .un, .un, .un, .un, .v (.lst (ob ks)), .un, .un] := ⟨_, rfl⟩
  have g0 : env[0]? = some (.v (.ref d)) := by rw [henv]; rfl
  have g1 : env[1]? = some (.v (.ref m)) := by rw [henv]; rfl
  have s1 : mDPut (mVar 1) (mC (.str "left")) (mUn oNeg (mC (.int 1))) env h1 = .nx env (h1.set m (kOb o2 h.length none dn)) := mput (y := .int (-1)) (h' := h1) rfl M1.dct g1 rfl
  have M2 := M1.state none dn
  obtain ⟨h2, hh2⟩ : ∃ h2, h2 = h1.set m (kOb o2 h.length none dn) := ⟨_, rfl⟩
  rw [← hh2] at s1 M2
  have s2 : mDPut (mVar 1) (mC (.str "down")) (mC (.bl false)) env h2 = .nx env (h2.set m (kOb o2 h.length none false)) := mput (y := .bl false) (h' := h2) rfl M2.dct g1 rfl
  have M3 := M2.state none false
  obtain ⟨h3, hh3⟩ : ∃ h3, h3 = h2.set m (kOb o2 h.length none false) := ⟨_, rfl⟩
  rw [← hh3] at s2 M3
  have F3 : Fr [m] h1 h3 := by rw [hh3, hh2]; exact (Fr.set _ _ (by simp)).trans (Fr.set _ _ (by simp))
  have D3 := D1.fr F3 (by simpa using q1) (by simpa using q4) (by simpa using q7)
  have lm : m < h3.length := lt_of_at M3.dct
  have lo : o2 < h3.length := lt_of_at M3.oct
  have lw : h.length < h3.length := lt_of_at M3.wrt
  have ld : d < h.length := lt_of_at k.D.ins
  have lo1 : o < h.length := lt_of_at k.D.oct
  have lw1 : w < h.length := lt_of_at k.D.wrt
  have len : (settleF l (ws.zip ks)).length = l.length := settleF_len fun x hx => wok x.1 (List.of_mem_zip hx).1
  have fin : ∀ kv, (kv = .lst (ob ks) ∨ kv = .tup (ob ks)) → (mOp oIx (mFz (szc (mCons (mVar 10) (mCons (mCall fTuple (mCons (mVar 10) mNil)) mNil)))) (mOp oMod (mOp oDiv (mVar 4) (mC (.int 42))) (mC (.int 2)))) env h3 = .ok kv h3 → Left h d m o o2 l.length ws.length (m_L_act [.ref d, .ref m, .int (n : Int)] h) := fun kv hkv hev => by
    obtain ⟨h4, e4, D4, F4⟩ := fall_run D3 hl wok kv ks hkv
    have M4 := M3.fr F4 (by simp; exact ⟨q1.symm, q4.symm⟩) (by simp; exact ⟨q2.symm, q5.symm⟩) (by simp; omega)
    refine ⟨h4, h3.length, h.length, settleF l (ws.zip ks), [], none, false, ?_, ⟨D4, M4, sep_of ⟨q1, q2, by omega, q4, q5, by omega, by omega, by omega, by omega⟩⟩, by intro q hq; simp at hq, len, by simp⟩
    have me : mMeth "Disk" "fall" m_Disk_fall (mVar 0) (mCons (mOp oIx (mFz (szc (mCons (mVar 10) (mCons (mCall fTuple (mCons (mVar 10) mNil)) mNil)))) (mOp oMod (mOp oDiv (mVar 4) (mC (.int 42))) (mC (.int 2)))) mNil) env h3 = .ok .non h4 := by
      rw [dmeth D3.ins g0 rfl]
      simp only [aCons, aNil, hev, Res.bind_ok, e4]
    have isN : ∀ hh, oIs .non .non hh = .ok (.bl true) hh := fun _ => rfl
    rw [henv] at s1 s2 me
    clear hz hr hc hb hks hh2 hh3 hev henv g0 g1
    rw [m_L_act, runD, if_pos (show ([.ref d, .ref m, .int (n : Int)] : List PV).length = P_L_act.length from rfl), b_L_act, show startE N_L_act.length [.ref d, .ref m, .int (n : Int)] = [.v (.ref d), .v (.ref m), .v (.int (n : Int)), .un, .un, .un, .un, .un, .un, .un, .un, .un, .un] from rfl]
    obtain ⟨P0, hP0⟩ : ∃ P, P = ob ks := ⟨_, rfl⟩
    obtain ⟨P1, hP1⟩ : ∃ P, P = ob l := ⟨_, rfl⟩
    obtain ⟨I0, hI0⟩ : ∃ i : Int, i = (n : Int) := ⟨_, rfl⟩
    obtain ⟨I2, hI2⟩ : ∃ i : Int, i = (r : Int) := ⟨_, rfl⟩
    obtain ⟨I5, hI5⟩ : ∃ i : Int, i = (z : Int) := ⟨_, rfl⟩
    simp only [← hP0, ← hP1, ← hI0, ← hI2, ← hI5] at *
    simp only [max3I, min3I, aLIx, aForR, itemsAt_lst, itemsAt_tup, forR_tup, forR_lst, aAddN, aRepN, aSplice, aSpliceR, aForS, aLcS, aJSeq, aJZip, itemsOf_lst, itemsOf_tup, aAddD, ofE_ok, ofE_er, ofE_no, aIsX, aXf, aRaise1, addT, negI, aIsi, aCallK, aR3, kd_non, kd_bl, kd_int, kd_str, kd_tup, kd_lst, kd_dct, isKd_ti, isKd_tb, isKd_ts, isKd_tt, isKd_tl, isKd_td, isKd_li, isKd_lb, isKd_ls, isKd_lt, isKd_ll, isKd_ld, isKd_ii, isKd_ib, isKd_is, isKd_it, isKd_il, isKd_id, isKd_bi, isKd_bb, isKd_bs, isKd_bt, isKd_bl, isKd_bd, isKd_si, isKd_sb, isKd_ss, isKd_st, isKd_sl, isKd_sd, isKd_ni, isKd_nb, isKd_ns, isKd_nt, isKd_nl, isKd_nd, aDNew, aKGet1, keyP_int, keyP_str, aDGet1, aDGet2, aDisp, aItZ, aGTuT, aGTuL, aRf, de_lst, de_int, de_tup, de_str, de_non, de_bl, aExt, getF_nil, getF_cons, insN_nil, insN_cons, insV_nil, insV_cons, isB_bl, isNotB_bl, aSeq, aSkip, aSet, aSetN, aOp, aUn, aVar, aOwn, aC, aCall, aCallN, aNil, aCons, aRet, aRetN, aRetOwn, aIfS, aToT, aToTru, aNotT, aAndT, aOrT, aAndV, aOrV, aNotV, aIf, aTup, aSzc, aFz, aOn, aOs, aSl, aFor, aR1, aR2, aItE, aItS, aItL, aYes, aApp, aDrop, aAsg, aBreak, aCont, aGN, aGTu, aGCs, aGNl, aW0, aW1, lenI, lenT, intI, intB, tupL, tupT, listL, listT, addI, subI, ltI, leI, gtI, geI, eqI, neI, oIs_non, oIsNot_non, isNon1, isNon2, isNon3, isNon4, truB, truI, truL, truT, max2I, min2I, absI, aDCopy, dX_app, dC_app, aSlD, aAppR, aSetIxR, aFldAug, aItX, aJoin, aTIx, oi_none, oi_some, aRev, aCallD, aRevN, aIsE, aRaise, aFld, aSetF, aMake, Res.bind_ok, Res.bind_er, Res.bind_no, Bool.true_eq_false, List.isEmpty_nil, List.isEmpty_cons, List.getElem?_cons_zero, List.getElem?_cons_succ, List.set_cons_zero, List.set_cons_succ, if_true, if_false, Bool.false_eq_true, Bool.not_true, Bool.not_false, len0, len1, len2, len3, len4, len5, len6, len8, decide_true, decide_false, decide_eq_true_eq, Bool.true_and, Bool.and_true, Bool.false_and, Bool.and_false, Bool.or_true, Bool.true_or, Bool.or_false, Bool.false_or, Option.bind_some, List.cons_append, List.nil_append, not_true_eq_false, not_false_eq_true, Bool.not_eq_true', decide_eq_false_iff_not, List.length_cons, List.length_nil, Nat.reduceAdd, List.map_nil, Int.reduceLT, Int.reduceLE, Int.reduceNeg, Int.reduceAdd, Int.reduceSub, Int.reduceMul, Nat.reduceLT, Nat.reduceLeDiff, Nat.reduceSub, Nat.reduceEqDiff, reduceCtorEq, and_true, true_and, and_self, e_k, e_r, f_o, f_d, f_l, e_ks, e1, s1, s2, me, isN, List.map_cons, Int.cast_ofNat_Int, Int.reduceEq]
  have pick : ∀ kv, oIx (.lst [.lst (ob ks), .tup (ob ks)]) (.int (b : Int)) h3 = .ok kv h3 → (mOp oIx (mFz (szc (mCons (mVar 10) (mCons (mCall fTuple (mCons (mVar 10) mNil)) mNil)))) (mOp oMod (mOp oDiv (mVar 4) (mC (.int 42))) (mC (.int 2)))) env h3 = .ok kv h3 := fun kv e => by
    rw [henv]
    simp only [max3I, min3I, aLIx, aForR, itemsAt_lst, itemsAt_tup, forR_tup, forR_lst, aAddN, aRepN, aSplice, aSpliceR, aForS, aLcS, aJSeq, aJZip, itemsOf_lst, itemsOf_tup, aAddD, ofE_ok, ofE_er, ofE_no, aIsX, aXf, aRaise1, addT, negI, aIsi, aCallK, aR3, kd_non, kd_bl, kd_int, kd_str, kd_tup, kd_lst, kd_dct, isKd_ti, isKd_tb, isKd_ts, isKd_tt, isKd_tl, isKd_td, isKd_li, isKd_lb, isKd_ls, isKd_lt, isKd_ll, isKd_ld, isKd_ii, isKd_ib, isKd_is, isKd_it, isKd_il, isKd_id, isKd_bi, isKd_bb, isKd_bs, isKd_bt, isKd_bl, isKd_bd, isKd_si, isKd_sb, isKd_ss, isKd_st, isKd_sl, isKd_sd, isKd_ni, isKd_nb, isKd_ns, isKd_nt, isKd_nl, isKd_nd, aDNew, aKGet1, keyP_int, keyP_str, aDGet1, aDGet2, aDPut, aDisp, aItZ, aGTuT, aGTuL, aRf, de_lst, de_int, de_tup, de_str, de_non, de_bl, aExt, getF_nil, getF_cons, insN_nil, insN_cons, insV_nil, insV_cons, isB_bl, isNotB_bl, aSeq, aSkip, aSet, aSetN, aOp, aUn, aVar, aOwn, aC, aCall, aCallN, aNil, aCons, aRet, aRetN, aRetOwn, aIfS, aToT, aToTru, aNotT, aAndT, aOrT, aAndV, aOrV, aNotV, aIf, aTup, aSzc, aFz, aOn, aOs, aSl, aFor, aR1, aR2, aItE, aItS, aItL, aLc, aYes, aApp, aDrop, aAsg, aBreak, aCont, aGN, aGTu, aGCs, aGNl, aW0, aW1, lenI, lenT, intI, intB, tupL, tupT, listL, listT, addI, subI, ltI, leI, gtI, geI, eqI, neI, oIs_non, oIsNot_non, isNon1, isNon2, isNon3, isNon4, truB, truI, truL, truT, max2I, min2I, absI, aDCopy, dX_app, dC_app, aSlD, aAppR, aSetIxR, aFldAug, aItX, aJoin, aTIx, oi_none, oi_some, aRev, aCallD, aRevN, aIsE, aRaise, aFld, aSetF, aMeth, aMake, Res.bind_ok, Res.bind_er, Res.bind_no, Bool.true_eq_false, List.isEmpty_nil, List.isEmpty_cons, List.getElem?_cons_zero, List.getElem?_cons_succ, List.set_cons_zero, List.set_cons_succ, if_true, if_false, Bool.false_eq_true, Bool.not_true, Bool.not_false, len0, len1, len2, len3, len4, len5, len6, len8, decide_true, decide_false, decide_eq_true_eq, Bool.true_and, Bool.and_true, Bool.false_and, Bool.and_false, Bool.or_true, Bool.true_or, Bool.or_false, Bool.false_or, Option.bind_some, mulP, mulQ, List.cons_append, List.nil_append, not_true_eq_false, not_false_eq_true, Bool.not_eq_true', decide_eq_false_iff_not, List.length_cons, List.length_nil, Nat.reduceAdd, List.map_nil, Int.reduceLT, Int.reduceLE, Int.reduceNeg, Int.reduceAdd, Int.reduceSub, Int.reduceMul, Nat.reduceLT, Nat.reduceLeDiff, Nat.reduceSub, Nat.reduceEqDiff, reduceCtorEq, and_true, true_and, and_self, e_b, e_b2, e]
  rcases hb2 with rfl | rfl
  · exact fin _ (.inl rfl) (pick _ (ixL h3 rfl))
  · exact fin _ (.inr rfl) (pick _ (ixL h3 rfl))
theorem act_run (k : SK h d m o w o2 w2 l ws lf dn) (hl : l.length ≤ 1000) (wok : WOK l.length ws) (hw : ws.length ≤ 1000) (n : Nat) : Left h d m o o2 l.length ws.length (m_L_act [.ref d, .ref m, .int (n : Int)] h) := by
  have : n % 9 < 9 := Nat.mod_lt _ (by decide)
  rcases Nat.lt_or_ge (n % 9) 4 with q | q
  · exact act_write k hl wok hw n q
  · by_cases q4 : n % 9 = 4
    · exact act_sync k hl wok hw n q4
    · by_cases q5 : n % 9 = 5
      · exact act_arm k wok n q5
      · by_cases q6 : n % 9 = 6
        · exact act_fall k hl wok hw n q6
        · exact act_read k hl wok n (by omega)
end
end Law

set_option Elab.async false
set_option linter.all false
set_option maxRecDepth 100000
set_option maxHeartbeats 4000000
namespace Law
open PySem Mir
/-! ### the law's draws -/
theorem pow18 (h : Hh) : oPow (.int 10) (.int 18) h = .ok (.int 1000000000000000000) h := rfl
theorem draws_1 (x : Nat) (fs : List Nat) (hf : fs.length ≤ 100000) (x0 x1 x2 x4 x6 x7 : SV) (h : Hh) : ∃ fs' : List Nat, fs'.length ≤ fs.length + 1 ∧ b_L_draws_1 [x0, x1, x2, .own (.lst (ob fs)), x4, .v (.int (x : Int)), x6, x7] h = .nx [x0, x1, x2, .own (.lst (ob fs')), x4, .v (.int ((x / 1000000 : Nat) : Int)), x6, x7] h := by
  have e1 : ∀ h, oMod (.int (x : Int)) (.int 1000000) h = .ok (.int ((x % 1000000 : Nat) : Int)) h := fun h => modL 1000000 (by decide) h
  have e2 : ∀ h, oDiv (.int (x : Int)) (.int 1000000) h = .ok (.int ((x / 1000000 : Nat) : Int)) h := fun h => by rw [divP h (by decide) (by decide)]; rfl
  have hz : (ob fs).length < 16777216 := by rw [ob_len]; omega
  by_cases c : 0 < x
  · refine ⟨fs ++ [x % 1000000], by simp, ?_⟩
    have c' : (0 : Int) < (x : Int) := by omega
    rw [← ob_app, show ob [x % 1000000] = [PV.int ((x % 1000000 : Nat) : Int)] from rfl, b_L_draws_1]
    generalize ((x % 1000000 : Nat) : Int) = X1 at *
    generalize ((x / 1000000 : Nat) : Int) = X2 at *
    generalize (x : Int) = X0 at *
    simp only [max3I, min3I, aLIx, aForR, itemsAt_lst, itemsAt_tup, forR_tup, forR_lst, aAddN, aRepN, aSplice, aSpliceR, aForS, aLcS, aJSeq, aJZip, itemsOf_lst, itemsOf_tup, aAddD, ofE_ok, ofE_er, ofE_no, aIsX, aXf, aRaise1, addT, negI, aIsi, aCallK, aR3, kd_non, kd_bl, kd_int, kd_str, kd_tup, kd_lst, kd_dct, isKd_ti, isKd_tb, isKd_ts, isKd_tt, isKd_tl, isKd_td, isKd_li, isKd_lb, isKd_ls, isKd_lt, isKd_ll, isKd_ld, isKd_ii, isKd_ib, isKd_is, isKd_it, isKd_il, isKd_id, isKd_bi, isKd_bb, isKd_bs, isKd_bt, isKd_bl, isKd_bd, isKd_si, isKd_sb, isKd_ss, isKd_st, isKd_sl, isKd_sd, isKd_ni, isKd_nb, isKd_ns, isKd_nt, isKd_nl, isKd_nd, aDNew, aKGet1, keyP_int, keyP_str, aDGet1, aDGet2, aDPut, aDisp, aItZ, aGTuT, aGTuL, aRf, de_lst, de_int, de_tup, de_str, de_non, de_bl, aExt, getF_nil, getF_cons, insN_nil, insN_cons, insV_nil, insV_cons, isB_bl, isNotB_bl, aSeq, aSkip, aSet, aSetN, aOp, aUn, aVar, aOwn, aC, aCall, aCallN, aNil, aCons, aRet, aRetN, aRetOwn, aIfS, aToT, aToTru, aNotT, aAndT, aOrT, aAndV, aOrV, aNotV, aIf, aTup, aSzc, aFz, aOn, aOs, aSl, aFor, aR1, aR2, aItE, aItS, aItL, aLc, aYes, aApp, aDrop, aAsg, aBreak, aCont, aGN, aGTu, aGCs, aGNl, aW0, aW1, lenI, lenT, intI, intB, tupL, tupT, listL, listT, addI, subI, ltI, leI, gtI, geI, eqI, neI, oIs_non, oIsNot_non, isNon1, isNon2, isNon3, isNon4, truB, truI, truL, truT, max2I, min2I, absI, aDCopy, dX_app, dC_app, aSlD, aAppR, aSetIxR, aFldAug, aItX, aJoin, aTIx, oi_none, oi_some, aRev, aCallD, aRevN, aIsE, aRaise, aFld, aSetF, aMeth, aMake, Res.bind_ok, Res.bind_er, Res.bind_no, Bool.true_eq_false, List.isEmpty_nil, List.isEmpty_cons, List.getElem?_cons_zero, List.getElem?_cons_succ, List.set_cons_zero, List.set_cons_succ, if_true, if_false, Bool.false_eq_true, Bool.not_true, Bool.not_false, len0, len1, len2, len3, len4, len5, len6, len8, decide_true, decide_false, decide_eq_true_eq, Bool.true_and, Bool.and_true, Bool.false_and, Bool.and_false, Bool.or_true, Bool.true_or, Bool.or_false, Bool.false_or, Option.bind_some, mulP, mulQ, List.cons_append, List.nil_append, not_true_eq_false, not_false_eq_true, Bool.not_eq_true', decide_eq_false_iff_not, List.length_cons, List.length_nil, Nat.reduceAdd, List.map_nil, Int.reduceLT, Int.reduceLE, Int.reduceNeg, Int.reduceAdd, Int.reduceSub, Int.reduceMul, Nat.reduceLT, Nat.reduceLeDiff, Nat.reduceSub, Nat.reduceEqDiff, reduceCtorEq, and_true, true_and, and_self, fInt, e1, e2, hz, c']
  · refine ⟨fs, by omega, ?_⟩
    have c' : ¬ (0 : Int) < (x : Int) := by omega
    rw [b_L_draws_1]
    generalize ((x % 1000000 : Nat) : Int) = X1 at *
    generalize ((x / 1000000 : Nat) : Int) = X2 at *
    generalize (x : Int) = X0 at *
    simp only [max3I, min3I, aLIx, aForR, itemsAt_lst, itemsAt_tup, forR_tup, forR_lst, aAddN, aRepN, aSplice, aSpliceR, aForS, aLcS, aJSeq, aJZip, itemsOf_lst, itemsOf_tup, aAddD, ofE_ok, ofE_er, ofE_no, aIsX, aXf, aRaise1, addT, negI, aIsi, aCallK, aR3, kd_non, kd_bl, kd_int, kd_str, kd_tup, kd_lst, kd_dct, isKd_ti, isKd_tb, isKd_ts, isKd_tt, isKd_tl, isKd_td, isKd_li, isKd_lb, isKd_ls, isKd_lt, isKd_ll, isKd_ld, isKd_ii, isKd_ib, isKd_is, isKd_it, isKd_il, isKd_id, isKd_bi, isKd_bb, isKd_bs, isKd_bt, isKd_bl, isKd_bd, isKd_si, isKd_sb, isKd_ss, isKd_st, isKd_sl, isKd_sd, isKd_ni, isKd_nb, isKd_ns, isKd_nt, isKd_nl, isKd_nd, aDNew, aKGet1, keyP_int, keyP_str, aDGet1, aDGet2, aDPut, aDisp, aItZ, aGTuT, aGTuL, aRf, de_lst, de_int, de_tup, de_str, de_non, de_bl, aExt, getF_nil, getF_cons, insN_nil, insN_cons, insV_nil, insV_cons, isB_bl, isNotB_bl, aSeq, aSkip, aSet, aSetN, aOp, aUn, aVar, aOwn, aC, aCall, aCallN, aNil, aCons, aRet, aRetN, aRetOwn, aIfS, aToT, aToTru, aNotT, aAndT, aOrT, aAndV, aOrV, aNotV, aIf, aTup, aSzc, aFz, aOn, aOs, aSl, aFor, aR1, aR2, aItE, aItS, aItL, aLc, aYes, aApp, aDrop, aAsg, aBreak, aCont, aGN, aGTu, aGCs, aGNl, aW0, aW1, lenI, lenT, intI, intB, tupL, tupT, listL, listT, addI, subI, ltI, leI, gtI, geI, eqI, neI, oIs_non, oIsNot_non, isNon1, isNon2, isNon3, isNon4, truB, truI, truL, truT, max2I, min2I, absI, aDCopy, dX_app, dC_app, aSlD, aAppR, aSetIxR, aFldAug, aItX, aJoin, aTIx, oi_none, oi_some, aRev, aCallD, aRevN, aIsE, aRaise, aFld, aSetF, aMeth, aMake, Res.bind_ok, Res.bind_er, Res.bind_no, Bool.true_eq_false, List.isEmpty_nil, List.isEmpty_cons, List.getElem?_cons_zero, List.getElem?_cons_succ, List.set_cons_zero, List.set_cons_succ, if_true, if_false, Bool.false_eq_true, Bool.not_true, Bool.not_false, len0, len1, len2, len3, len4, len5, len6, len8, decide_true, decide_false, decide_eq_true_eq, Bool.true_and, Bool.and_true, Bool.false_and, Bool.and_false, Bool.or_true, Bool.true_or, Bool.or_false, Bool.false_or, Option.bind_some, mulP, mulQ, List.cons_append, List.nil_append, not_true_eq_false, not_false_eq_true, Bool.not_eq_true', decide_eq_false_iff_not, List.length_cons, List.length_nil, Nat.reduceAdd, List.map_nil, Int.reduceLT, Int.reduceLE, Int.reduceNeg, Int.reduceAdd, Int.reduceSub, Int.reduceMul, Nat.reduceLT, Nat.reduceLeDiff, Nat.reduceSub, Nat.reduceEqDiff, reduceCtorEq, and_true, true_and, and_self, fInt, e1, e2, hz, c']
theorem absN (c : Int) (h : Hh) : fAbs [.int c] h = .ok (.int (c.natAbs : Int)) h := by
  show Res.ok (PV.int _) h = _
  congr 2
  omega
theorem draws_2 (c : Int) (f0 : List Nat) (hf0 : f0.length ≤ 90000) (x0 x1 x2 x5 x6 x7 : SV) (h : Hh) : ∃ fs : List Nat, fs.length ≤ f0.length + 24 ∧ ∃ y5 y6 y7, b_L_draws_2 [x0, x1, x2, .own (.lst (ob f0)), .v (.int c), x5, x6, x7] h = .nx [x0, x1, x2, .own (.lst (ob fs)), .v (.int c), y5, y6, y7] h := by
  have ha := absN c
  obtain ⟨x, hx⟩ : ∃ x, x = c.natAbs := ⟨_, rfl⟩
  rw [← hx] at ha
  by_cases q : x < 1000000000000000000
  · have q' : (x : Int) < 1000000000000000000 := by omega
    obtain ⟨y1, h_y1⟩ : ∃ y, y = x * 39373 := ⟨_, rfl⟩
    have e_y1 : ∀ h, oMulA (.int (x : Int)) (.int 39373) h = .ok (.int (y1 : Int)) h := fun h => by rw [h_y1]; exact mulAN (a := x) (b := 39373) h (.inr (by decide))
    obtain ⟨y2, h_y2⟩ : ∃ y, y = y1 + 23 := ⟨_, rfl⟩
    have e_y2 : ∀ h, oAdd (.int (y1 : Int)) (.int 23) h = .ok (.int (y2 : Int)) h := fun h => by rw [h_y2]; exact rfl
    obtain ⟨mx, h_mx⟩ : ∃ y, y = y2 % 2147483647 := ⟨_, rfl⟩
    have e_mx : ∀ h, oMod (.int (y2 : Int)) (.int 2147483647) h = .ok (.int (mx : Int)) h := fun h => by rw [h_mx]; exact modL 2147483647 (by decide) h
    obtain ⟨y3, h_y3⟩ : ∃ y, y = mx * 16807 := ⟨_, rfl⟩
    have e_y3 : ∀ h, oMulA (.int (mx : Int)) (.int 16807) h = .ok (.int (y3 : Int)) h := fun h => by rw [h_y3]; exact mulAN (a := mx) (b := 16807) h (.inr (by decide))
    obtain ⟨y4, h_y4⟩ : ∃ y, y = x / 6 := ⟨_, rfl⟩
    have e_y4 : ∀ h, oDiv (.int (x : Int)) (.int 6) h = .ok (.int (y4 : Int)) h := fun h => by rw [h_y4]; exact divN (b := 6) (by decide) (by decide) h
    obtain ⟨y5, h_y5⟩ : ∃ y, y = y3 + y4 := ⟨_, rfl⟩
    have e_y5 : ∀ h, oAdd (.int (y3 : Int)) (.int (y4 : Int)) h = .ok (.int (y5 : Int)) h := fun h => by rw [h_y5]; exact rfl
    obtain ⟨y6, h_y6⟩ : ∃ y, y = y5 + 3 := ⟨_, rfl⟩
    have e_y6 : ∀ h, oAdd (.int (y5 : Int)) (.int 3) h = .ok (.int (y6 : Int)) h := fun h => by rw [h_y6]; exact rfl
    obtain ⟨y7, h_y7⟩ : ∃ y, y = y6 % 2147483399 := ⟨_, rfl⟩
    have e_y7 : ∀ h, oMod (.int (y6 : Int)) (.int 2147483399) h = .ok (.int (y7 : Int)) h := fun h => by rw [h_y7]; exact modL 2147483399 (by decide) h
    obtain ⟨y8, h_y8⟩ : ∃ y, y = y7 / 3 := ⟨_, rfl⟩
    have e_y8 : ∀ h, oDiv (.int (y7 : Int)) (.int 3) h = .ok (.int (y8 : Int)) h := fun h => by rw [h_y8]; exact divN (b := 3) (by decide) (by decide) h
    obtain ⟨z3, h_z3⟩ : ∃ y, y = mx * 69621 := ⟨_, rfl⟩
    have e_z3 : ∀ h, oMulA (.int (mx : Int)) (.int 69621) h = .ok (.int (z3 : Int)) h := fun h => by rw [h_z3]; exact mulAN (a := mx) (b := 69621) h (.inr (by decide))
    obtain ⟨z4, h_z4⟩ : ∃ y, y = x / 11 := ⟨_, rfl⟩
    have e_z4 : ∀ h, oDiv (.int (x : Int)) (.int 11) h = .ok (.int (z4 : Int)) h := fun h => by rw [h_z4]; exact divN (b := 11) (by decide) (by decide) h
    obtain ⟨z5, h_z5⟩ : ∃ y, y = z3 + z4 := ⟨_, rfl⟩
    have e_z5 : ∀ h, oAdd (.int (z3 : Int)) (.int (z4 : Int)) h = .ok (.int (z5 : Int)) h := fun h => by rw [h_z5]; exact rfl
    obtain ⟨z6, h_z6⟩ : ∃ y, y = z5 + 8 := ⟨_, rfl⟩
    have e_z6 : ∀ h, oAdd (.int (z5 : Int)) (.int 8) h = .ok (.int (z6 : Int)) h := fun h => by rw [h_z6]; exact rfl
    obtain ⟨z7, h_z7⟩ : ∃ y, y = z6 % 2147483629 := ⟨_, rfl⟩
    have e_z7 : ∀ h, oMod (.int (z6 : Int)) (.int 2147483629) h = .ok (.int (z7 : Int)) h := fun h => by rw [h_z7]; exact modL 2147483629 (by decide) h
    obtain ⟨z8, h_z8⟩ : ∃ y, y = z7 / 7 := ⟨_, rfl⟩
    have e_z8 : ∀ h, oDiv (.int (z7 : Int)) (.int 7) h = .ok (.int (z8 : Int)) h := fun h => by rw [h_z8]; exact divN (b := 7) (by decide) (by decide) h
    refine ⟨f0 ++ [x, y8, z8], by simp, .v (.int (x : Int)), .v (.int (mx : Int)), x7, ?_⟩
    rw [show ob (f0 ++ [x, y8, z8]) = ob f0 ++ [PV.int (x : Int)] ++ [PV.int (y8 : Int)] ++ [PV.int (z8 : Int)] by rw [← ob_app, List.append_assoc, List.append_assoc]; rfl, b_L_draws_2]
    have hol : (ob f0).length ≤ 90000 := by rw [ob_len]; exact hf0
    generalize ob f0 = OB at *
    clear hx h_z8 h_z7 h_z6 h_z5 h_z4 h_z3 h_y8 h_y7 h_y6 h_y5 h_y4 h_y3 h_mx h_y2 h_y1
    generalize (y1 : Int) = Iy1 at *
    generalize (y2 : Int) = Iy2 at *
    generalize (mx : Int) = Imx at *
    generalize (y3 : Int) = Iy3 at *
    generalize (y4 : Int) = Iy4 at *
    generalize (y5 : Int) = Iy5 at *
    generalize (y6 : Int) = Iy6 at *
    generalize (y7 : Int) = Iy7 at *
    generalize (y8 : Int) = Iy8 at *
    generalize (z3 : Int) = Iz3 at *
    generalize (z4 : Int) = Iz4 at *
    generalize (z5 : Int) = Iz5 at *
    generalize (z6 : Int) = Iz6 at *
    generalize (z7 : Int) = Iz7 at *
    generalize (z8 : Int) = Iz8 at *
    generalize (x : Int) = Ix at *
    have z0 : (OB.length < 16777216) = True := eq_true (by omega)
    have z1 : ∀ a : PV, ((OB ++ [a]).length < 16777216) = True := fun a => eq_true (by simp; omega)
    have z2 : ∀ a b : PV, ((OB ++ [a] ++ [b]).length < 16777216) = True := fun a b => eq_true (by simp; omega)
    simp only [max3I, min3I, aLIx, aForR, itemsAt_lst, itemsAt_tup, forR_tup, forR_lst, aAddN, aRepN, aSplice, aSpliceR, aForS, aLcS, aJSeq, aJZip, itemsOf_lst, itemsOf_tup, aAddD, ofE_ok, ofE_er, ofE_no, aIsX, aXf, aRaise1, addT, negI, aIsi, aCallK, aR3, kd_non, kd_bl, kd_int, kd_str, kd_tup, kd_lst, kd_dct, isKd_ti, isKd_tb, isKd_ts, isKd_tt, isKd_tl, isKd_td, isKd_li, isKd_lb, isKd_ls, isKd_lt, isKd_ll, isKd_ld, isKd_ii, isKd_ib, isKd_is, isKd_it, isKd_il, isKd_id, isKd_bi, isKd_bb, isKd_bs, isKd_bt, isKd_bl, isKd_bd, isKd_si, isKd_sb, isKd_ss, isKd_st, isKd_sl, isKd_sd, isKd_ni, isKd_nb, isKd_ns, isKd_nt, isKd_nl, isKd_nd, aDNew, aKGet1, keyP_int, keyP_str, aDGet1, aDGet2, aDPut, aDisp, aItZ, aGTuT, aGTuL, aRf, de_lst, de_int, de_tup, de_str, de_non, de_bl, aExt, getF_nil, getF_cons, insN_nil, insN_cons, insV_nil, insV_cons, isB_bl, isNotB_bl, aSeq, aSkip, aSet, aSetN, aOp, aUn, aVar, aOwn, aC, aCall, aCallN, aNil, aCons, aRet, aRetN, aRetOwn, aIfS, aToT, aToTru, aNotT, aAndT, aOrT, aAndV, aOrV, aNotV, aIf, aTup, aSzc, aFz, aOn, aOs, aSl, aFor, aR1, aR2, aItE, aItS, aItL, aLc, aYes, aApp, aDrop, aAsg, aBreak, aCont, aGN, aGTu, aGCs, aGNl, aW0, aW1, lenI, lenT, intI, intB, tupL, tupT, listL, listT, subI, ltI, leI, gtI, geI, eqI, neI, oIs_non, oIsNot_non, isNon1, isNon2, isNon3, isNon4, truB, truI, truL, truT, max2I, min2I, absI, aDCopy, dX_app, dC_app, aSlD, aAppR, aSetIxR, aFldAug, aItX, aJoin, aTIx, oi_none, oi_some, aRev, aCallD, aRevN, aIsE, aRaise, aFld, aSetF, aMeth, aMake, Res.bind_ok, Res.bind_er, Res.bind_no, Bool.true_eq_false, List.isEmpty_nil, List.isEmpty_cons, List.getElem?_cons_zero, List.getElem?_cons_succ, List.set_cons_zero, List.set_cons_succ, if_true, if_false, Bool.false_eq_true, Bool.not_true, Bool.not_false, len3, len4, len5, len6, len8, decide_true, decide_false, decide_eq_true_eq, Bool.true_and, Bool.and_true, Bool.false_and, Bool.and_false, Bool.or_true, Bool.true_or, Bool.or_false, Bool.false_or, Option.bind_some, List.cons_append, List.nil_append, not_true_eq_false, not_false_eq_true, Bool.not_eq_true', decide_eq_false_iff_not, Nat.reduceAdd, List.map_nil, Int.reduceLT, Int.reduceLE, Int.reduceNeg, Int.reduceAdd, Int.reduceSub, Int.reduceMul, Nat.reduceLT, Nat.reduceLeDiff, Nat.reduceSub, Nat.reduceEqDiff, reduceCtorEq, and_true, true_and, and_self, fInt, ha, pow18, q', z0, z1, z2, e_y1, e_y2, e_mx, e_y3, e_y4, e_y5, e_y6, e_y7, e_y8, e_z3, e_z4, e_z5, e_z6, e_z7, e_z8]
  · have q' : ¬ (x : Int) < 1000000000000000000 := by omega
    have hr0 : rngList 0 (24 : Int).toNat = (List.range 24).map fun (k : Nat) => PV.int (k : Int) := rng_nat 24
    have rk : rngOk (24 : Int) = true := by decide
    obtain ⟨env', h2, e1, fs, t5, t7, hl, rfl, rfl⟩ := forL_range (g := gN 7) (b := b_L_draws_1) 24
      (fun i env hh => ∃ (fs : List Nat) (t5 : Nat) (t7 : SV), fs.length ≤ f0.length + i ∧ env = [x0, x1, x2, .own (.lst (ob fs)), .v (.int c), .v (.int (t5 : Int)), x6, t7] ∧ hh = h)
      (fun i hi env hh ⟨fs, t5, t7, hl, e, eh⟩ => by
        subst e eh
        obtain ⟨fs', hl', hb⟩ := draws_1 t5 fs (by omega) x0 x1 x2 (.v (.int c)) x6 (.v (.int (i : Int))) hh
        exact ⟨_, _, _, rfl, hb, fs', t5 / 1000000, .v (.int (i : Int)), by omega, rfl, rfl⟩)
      (env := [x0, x1, x2, .own (.lst (ob f0)), .v (.int c), .v (.int (x : Int)), x6, x7]) (h := h) ⟨f0, x, x7, by omega, rfl, rfl⟩
    refine ⟨fs, by omega, .v (.int (t5 : Int)), x6, t7, ?_⟩
    have e1' : forL (gN 7) b_L_draws_1 ((List.range 24).map fun (k : Nat) => PV.int (k : Int)) [x0, x1, x2, .own (.lst (ob f0)), .v (.int c), .v (.int (x : Int)), x6, x7] h2 = _ := e1
    clear e1 hx
    rw [b_L_draws_2]
    generalize (List.range 24).map (fun (k : Nat) => PV.int (k : Int)) = RL at *
    generalize (x : Int) = X0 at *
    simp only [max3I, min3I, aLIx, aForR, itemsAt_lst, itemsAt_tup, forR_tup, forR_lst, aAddN, aRepN, aSplice, aSpliceR, aForS, aLcS, aJSeq, aJZip, itemsOf_lst, itemsOf_tup, aAddD, ofE_ok, ofE_er, ofE_no, aIsX, aXf, aRaise1, addT, negI, aIsi, aCallK, aR3, kd_non, kd_bl, kd_int, kd_str, kd_tup, kd_lst, kd_dct, isKd_ti, isKd_tb, isKd_ts, isKd_tt, isKd_tl, isKd_td, isKd_li, isKd_lb, isKd_ls, isKd_lt, isKd_ll, isKd_ld, isKd_ii, isKd_ib, isKd_is, isKd_it, isKd_il, isKd_id, isKd_bi, isKd_bb, isKd_bs, isKd_bt, isKd_bl, isKd_bd, isKd_si, isKd_sb, isKd_ss, isKd_st, isKd_sl, isKd_sd, isKd_ni, isKd_nb, isKd_ns, isKd_nt, isKd_nl, isKd_nd, aDNew, aKGet1, keyP_int, keyP_str, aDGet1, aDGet2, aDPut, aDisp, aItZ, aGTuT, aGTuL, aRf, de_lst, de_int, de_tup, de_str, de_non, de_bl, aExt, getF_nil, getF_cons, insN_nil, insN_cons, insV_nil, insV_cons, isB_bl, isNotB_bl, aSeq, aSkip, aSet, aSetN, aOp, aUn, aVar, aOwn, aC, aCall, aCallN, aNil, aCons, aRet, aRetN, aRetOwn, aIfS, aToT, aToTru, aNotT, aAndT, aOrT, aAndV, aOrV, aNotV, aIf, aTup, aSzc, aFz, aOn, aOs, aSl, aFor, aR1, aR2, aItE, aItS, aItL, aLc, aYes, aApp, aDrop, aAsg, aBreak, aCont, aGN, aGTu, aGCs, aGNl, aW0, aW1, lenI, lenT, intI, intB, tupL, tupT, listL, listT, addI, subI, ltI, leI, gtI, geI, eqI, neI, oIs_non, oIsNot_non, isNon1, isNon2, isNon3, isNon4, truB, truI, truL, truT, max2I, min2I, absI, aDCopy, dX_app, dC_app, aSlD, aAppR, aSetIxR, aFldAug, aItX, aJoin, aTIx, oi_none, oi_some, aRev, aCallD, aRevN, aIsE, aRaise, aFld, aSetF, aMeth, aMake, Res.bind_ok, Res.bind_er, Res.bind_no, Bool.true_eq_false, List.isEmpty_nil, List.isEmpty_cons, List.getElem?_cons_zero, List.getElem?_cons_succ, List.set_cons_zero, List.set_cons_succ, if_true, if_false, Bool.false_eq_true, Bool.not_true, Bool.not_false, len0, len1, len2, len3, len4, len5, len6, len8, decide_true, decide_false, decide_eq_true_eq, Bool.true_and, Bool.and_true, Bool.false_and, Bool.and_false, Bool.or_true, Bool.true_or, Bool.or_false, Bool.false_or, Option.bind_some, mulP, mulQ, modP, divP, List.cons_append, List.nil_append, not_true_eq_false, not_false_eq_true, Bool.not_eq_true', decide_eq_false_iff_not, List.length_cons, List.length_nil, Nat.reduceAdd, List.map_nil, Int.reduceLT, Int.reduceLE, Int.reduceNeg, Int.reduceAdd, Int.reduceSub, Int.reduceMul, Nat.reduceLT, Nat.reduceLeDiff, Nat.reduceSub, Nat.reduceEqDiff, reduceCtorEq, and_true, true_and, and_self, fInt, ha, pow18, q', rk, hr0, e1']
theorem draws_most (ns : List Int) (hns : ns.length ≤ 63) (h : Hh) : ∃ fs : List Nat, fs.length ≤ 60 ∧ m_L_draws [.lst (ns.map PV.int), .int 1, .int 60] h = .ok (.lst (ob fs)) h := by
  obtain ⟨env', q1, fs, t4, y5, y6, y7, hl, q2⟩ := forL_inv (g := gN 4) (b := b_L_draws_2) (h := h) PV.int
    (fun pre env => ∃ (fs : List Nat) (t4 y5 y6 y7 : SV), fs.length ≤ 24 * pre.length ∧ env = [.v (.lst (ns.map PV.int)), .v (.int 1), .v (.int 60), .own (.lst (ob fs)), t4, y5, y6, y7]) (ns.drop 1) []
    (fun pre c post e env ⟨fs, t4, y5, y6, y7, hl, q2⟩ => by
      subst q2
      have hpl : pre.length ≤ 63 := by
        have : (ns.drop 1).length = pre.length + (c :: post).length := by rw [show ns.drop 1 = pre ++ c :: post from e, List.length_append]
        rw [List.length_drop] at this; omega
      obtain ⟨fs', hl', z5, z6, z7, hb⟩ := draws_2 c fs (by omega) (.v (.lst (ns.map PV.int))) (.v (.int 1)) (.v (.int 60)) y5 y6 y7 h
      exact ⟨_, _, rfl, hb, fs', _, _, _, _, by rw [List.length_append, List.length_singleton]; omega, rfl⟩)
    [.v (.lst (ns.map PV.int)), .v (.int 1), .v (.int 60), .own (.lst []), .un, .un, .un, .un] ⟨[], _, _, _, _, by simp, rfl⟩
  subst q2
  refine ⟨fs.take 60, by rw [List.length_take]; omega, ?_⟩
  have s0 : ∀ h, oSl (.lst (ns.map PV.int)) (some 1) none h = .ok (.lst ((ns.drop 1).map PV.int)) h := fun h => by
    have := cutP_drop (ns.map PV.int) 1
    rw [oSl, show (some (1 : Int)) = some (((1 : Nat)) : Int) from rfl, this, List.map_drop]
  have s1 : ∀ h, oSl (.lst (ob fs)) none (some 60) h = .ok (.lst (ob (fs.take 60))) h := fun h => by
    have := cutP_take (ob fs) 60
    rw [oSl, show (some (60 : Int)) = some (((60 : Nat)) : Int) from rfl, this, ob_take]
  have z0 : (([] : List PV).length ≤ 16777216) = True := eq_true (by simp)
  rw [m_L_draws, runD, if_pos (show ([.lst (ns.map PV.int), .int 1, .int 60] : List PV).length = P_L_draws.length from rfl), b_L_draws, show startE N_L_draws.length [.lst (ns.map PV.int), .int 1, .int 60] = [.v (.lst (ns.map PV.int)), .v (.int 1), .v (.int 60), .un, .un, .un, .un, .un] from rfl]
  generalize (ns.drop 1).map PV.int = ND at *
  generalize ns.map PV.int = NS at *
  simp only [max3I, min3I, aLIx, aForR, itemsAt_lst, itemsAt_tup, forR_tup, forR_lst, aAddN, aRepN, aSplice, aSpliceR, aForS, aLcS, aJSeq, aJZip, itemsOf_lst, itemsOf_tup, aAddD, ofE_ok, ofE_er, ofE_no, aIsX, aXf, aRaise1, addT, negI, aIsi, aCallK, aR3, kd_non, kd_bl, kd_int, kd_str, kd_tup, kd_lst, kd_dct, isKd_ti, isKd_tb, isKd_ts, isKd_tt, isKd_tl, isKd_td, isKd_li, isKd_lb, isKd_ls, isKd_lt, isKd_ll, isKd_ld, isKd_ii, isKd_ib, isKd_is, isKd_it, isKd_il, isKd_id, isKd_bi, isKd_bb, isKd_bs, isKd_bt, isKd_bl, isKd_bd, isKd_si, isKd_sb, isKd_ss, isKd_st, isKd_sl, isKd_sd, isKd_ni, isKd_nb, isKd_ns, isKd_nt, isKd_nl, isKd_nd, aDNew, aKGet1, keyP_int, keyP_str, aDGet1, aDGet2, aDPut, aDisp, aItZ, aGTuT, aGTuL, aRf, de_lst, de_int, de_tup, de_str, de_non, de_bl, aExt, getF_nil, getF_cons, insN_nil, insN_cons, insV_nil, insV_cons, isB_bl, isNotB_bl, aSeq, aSkip, aSet, aSetN, aOp, aUn, aVar, aOwn, aC, aCall, aCallN, aNil, aCons, aRet, aRetN, aRetOwn, aIfS, aToT, aToTru, aNotT, aAndT, aOrT, aAndV, aOrV, aNotV, aIf, aTup, aSzc, aFz, aOn, aOs, aSl, aFor, aR1, aR2, aItE, aItS, aItL, aLc, aYes, aApp, aDrop, aAsg, aBreak, aCont, aGN, aGTu, aGCs, aGNl, aW0, aW1, lenI, lenT, intI, intB, tupL, tupT, listL, listT, addI, subI, ltI, leI, gtI, geI, eqI, neI, oIs_non, oIsNot_non, isNon1, isNon2, isNon3, isNon4, truB, truI, truL, truT, max2I, min2I, absI, aDCopy, dX_app, dC_app, aSlD, aAppR, aSetIxR, aFldAug, aItX, aJoin, aTIx, oi_none, oi_some, aRev, aCallD, aRevN, aIsE, aRaise, aFld, aSetF, aMeth, aMake, Res.bind_ok, Res.bind_er, Res.bind_no, Bool.true_eq_false, List.isEmpty_nil, List.isEmpty_cons, List.getElem?_cons_zero, List.getElem?_cons_succ, List.set_cons_zero, List.set_cons_succ, if_true, if_false, Bool.false_eq_true, Bool.not_true, Bool.not_false, len0, len1, len2, len3, len4, len5, len6, len8, decide_true, decide_false, decide_eq_true_eq, Bool.true_and, Bool.and_true, Bool.false_and, Bool.and_false, Bool.or_true, Bool.true_or, Bool.or_false, Bool.false_or, Option.bind_some, mulP, mulQ, modP, divP, List.cons_append, List.nil_append, not_true_eq_false, not_false_eq_true, Bool.not_eq_true', decide_eq_false_iff_not, List.length_cons, List.length_nil, Nat.reduceAdd, List.map_nil, Int.reduceLT, Int.reduceLE, Int.reduceNeg, Int.reduceAdd, Int.reduceSub, Int.reduceMul, Nat.reduceLT, Nat.reduceLeDiff, Nat.reduceSub, Nat.reduceEqDiff, reduceCtorEq, and_true, true_and, and_self, s0, q1, z0, s1]
end Law

set_option Elab.async false
set_option linter.all false
set_option maxRecDepth 100000
set_option maxHeartbeats 4000000
namespace Law
open PySem Mir
theorem absN' (c : Int) (h : Hh) : fAbs [.int c] h = .ok (.int (c.natAbs : Int)) h := by
  show Res.ok (PV.int _) h = _
  congr 2
  omega
theorem ix_memD (L : List PV) (k : Int) (h0 : 0 ≤ k) (h1 : k < (L.length : Int)) (h : Hh) : ∃ x, x ∈ L ∧ oIx (.lst L) (.int k) h = .ok x h := by
  obtain ⟨j, rfl⟩ := Int.eq_ofNat_of_zero_le h0
  have hj : j < L.length := by omega
  exact ⟨L[j], List.getElem_mem hj, ixL h (L2.atI_nat (List.getElem?_eq_getElem hj))⟩
theorem cell_0 (ns : List Int) (h : Hh) : ∃ c : Nat, m_L_cell [.lst (ns.map PV.int), .int 0] h = .ok (.int (c : Int)) h := by
  by_cases q : (0 : Int) < (ns.length : Int)
  · obtain ⟨x, hx, e⟩ := ix_memD (ns.map PV.int) 0 (Int.le_refl 0) (by rw [List.length_map]; exact q) h
    obtain ⟨c, _, rfl⟩ := List.mem_map.mp hx
    refine ⟨c.natAbs, ?_⟩
    have ha := absN' c
    rw [m_L_cell, runD, if_pos (show ([.lst (ns.map PV.int), .int 0] : List PV).length = P_L_cell.length from rfl), b_L_cell, show startE N_L_cell.length [.lst (ns.map PV.int), .int 0] = [.v (.lst (ns.map PV.int)), .v (.int 0)] from rfl]
    have q' : 0 < ((ns.map PV.int).length : Int) := by rw [List.length_map]; exact q
    generalize (c.natAbs : Int) = CA at *
    simp only [max3I, min3I, aLIx, aForR, itemsAt_lst, itemsAt_tup, forR_tup, forR_lst, aAddN, aRepN, aSplice, aSpliceR, aForS, aLcS, aJSeq, aJZip, itemsOf_lst, itemsOf_tup, aAddD, ofE_ok, ofE_er, ofE_no, aIsX, aXf, aRaise1, addT, negI, aIsi, aCallK, aR3, kd_non, kd_bl, kd_int, kd_str, kd_tup, kd_lst, kd_dct, isKd_ti, isKd_tb, isKd_ts, isKd_tt, isKd_tl, isKd_td, isKd_li, isKd_lb, isKd_ls, isKd_lt, isKd_ll, isKd_ld, isKd_ii, isKd_ib, isKd_is, isKd_it, isKd_il, isKd_id, isKd_bi, isKd_bb, isKd_bs, isKd_bt, isKd_bl, isKd_bd, isKd_si, isKd_sb, isKd_ss, isKd_st, isKd_sl, isKd_sd, isKd_ni, isKd_nb, isKd_ns, isKd_nt, isKd_nl, isKd_nd, aDNew, aKGet1, keyP_int, keyP_str, aDGet1, aDGet2, aDPut, aDisp, aItZ, aGTuT, aGTuL, aRf, de_lst, de_int, de_tup, de_str, de_non, de_bl, aExt, getF_nil, getF_cons, insN_nil, insN_cons, insV_nil, insV_cons, isB_bl, isNotB_bl, aSeq, aSkip, aSet, aSetN, aOp, aUn, aVar, aOwn, aC, aCall, aCallN, aNil, aCons, aRet, aRetN, aRetOwn, aIfS, aToT, aToTru, aNotT, aAndT, aOrT, aAndV, aOrV, aNotV, aIf, aTup, aSzc, aFz, aOn, aOs, aSl, aFor, aR1, aR2, aItE, aItS, aItL, aLc, aYes, aApp, aDrop, aAsg, aBreak, aCont, aGN, aGTu, aGCs, aGNl, aW0, aW1, lenI, lenT, intI, intB, tupL, tupT, listL, listT, addI, subI, ltI, leI, gtI, geI, eqI, neI, oIs_non, oIsNot_non, isNon1, isNon2, isNon3, isNon4, truB, truI, truL, truT, max2I, min2I, absI, aDCopy, dX_app, dC_app, aSlD, aAppR, aSetIxR, aFldAug, aItX, aJoin, aTIx, oi_none, oi_some, aRev, aCallD, aRevN, aIsE, aRaise, aFld, aSetF, aMeth, aMake, Res.bind_ok, Res.bind_er, Res.bind_no, Bool.true_eq_false, List.isEmpty_nil, List.isEmpty_cons, List.getElem?_cons_zero, List.getElem?_cons_succ, List.set_cons_zero, List.set_cons_succ, if_true, if_false, Bool.false_eq_true, Bool.not_true, Bool.not_false, len0, len1, len2, len3, len4, len5, len6, len8, decide_true, decide_false, decide_eq_true_eq, Bool.true_and, Bool.and_true, Bool.false_and, Bool.and_false, Bool.or_true, Bool.true_or, Bool.or_false, Bool.false_or, Option.bind_some, mulP, mulQ, modP, divP, List.cons_append, List.nil_append, not_true_eq_false, not_false_eq_true, Bool.not_eq_true', decide_eq_false_iff_not, List.length_cons, List.length_nil, Nat.reduceAdd, List.map_nil, Int.reduceLT, Int.reduceLE, Int.reduceNeg, Int.reduceAdd, Int.reduceSub, Int.reduceMul, Nat.reduceLT, Nat.reduceLeDiff, Nat.reduceSub, Nat.reduceEqDiff, reduceCtorEq, and_true, true_and, and_self, q', e, fInt, ha]
  · refine ⟨0, ?_⟩
    rw [m_L_cell, runD, if_pos (show ([.lst (ns.map PV.int), .int 0] : List PV).length = P_L_cell.length from rfl), b_L_cell, show startE N_L_cell.length [.lst (ns.map PV.int), .int 0] = [.v (.lst (ns.map PV.int)), .v (.int 0)] from rfl]
    have q' : ¬ 0 < ((ns.map PV.int).length : Int) := by rw [List.length_map]; exact q
    simp only [max3I, min3I, aLIx, aForR, itemsAt_lst, itemsAt_tup, forR_tup, forR_lst, aAddN, aRepN, aSplice, aSpliceR, aForS, aLcS, aJSeq, aJZip, itemsOf_lst, itemsOf_tup, aAddD, ofE_ok, ofE_er, ofE_no, aIsX, aXf, aRaise1, addT, negI, aIsi, aCallK, aR3, kd_non, kd_bl, kd_int, kd_str, kd_tup, kd_lst, kd_dct, isKd_ti, isKd_tb, isKd_ts, isKd_tt, isKd_tl, isKd_td, isKd_li, isKd_lb, isKd_ls, isKd_lt, isKd_ll, isKd_ld, isKd_ii, isKd_ib, isKd_is, isKd_it, isKd_il, isKd_id, isKd_bi, isKd_bb, isKd_bs, isKd_bt, isKd_bl, isKd_bd, isKd_si, isKd_sb, isKd_ss, isKd_st, isKd_sl, isKd_sd, isKd_ni, isKd_nb, isKd_ns, isKd_nt, isKd_nl, isKd_nd, aDNew, aKGet1, keyP_int, keyP_str, aDGet1, aDGet2, aDPut, aDisp, aItZ, aGTuT, aGTuL, aRf, de_lst, de_int, de_tup, de_str, de_non, de_bl, aExt, getF_nil, getF_cons, insN_nil, insN_cons, insV_nil, insV_cons, isB_bl, isNotB_bl, aSeq, aSkip, aSet, aSetN, aOp, aUn, aVar, aOwn, aC, aCall, aCallN, aNil, aCons, aRet, aRetN, aRetOwn, aIfS, aToT, aToTru, aNotT, aAndT, aOrT, aAndV, aOrV, aNotV, aIf, aTup, aSzc, aFz, aOn, aOs, aSl, aFor, aR1, aR2, aItE, aItS, aItL, aLc, aYes, aApp, aDrop, aAsg, aBreak, aCont, aGN, aGTu, aGCs, aGNl, aW0, aW1, lenI, lenT, intI, intB, tupL, tupT, listL, listT, addI, subI, ltI, leI, gtI, geI, eqI, neI, oIs_non, oIsNot_non, isNon1, isNon2, isNon3, isNon4, truB, truI, truL, truT, max2I, min2I, absI, aDCopy, dX_app, dC_app, aSlD, aAppR, aSetIxR, aFldAug, aItX, aJoin, aTIx, oi_none, oi_some, aRev, aCallD, aRevN, aIsE, aRaise, aFld, aSetF, aMeth, aMake, Res.bind_ok, Res.bind_er, Res.bind_no, Bool.true_eq_false, List.isEmpty_nil, List.isEmpty_cons, List.getElem?_cons_zero, List.getElem?_cons_succ, List.set_cons_zero, List.set_cons_succ, if_true, if_false, Bool.false_eq_true, Bool.not_true, Bool.not_false, len0, len1, len2, len3, len4, len5, len6, len8, decide_true, decide_false, decide_eq_true_eq, Bool.true_and, Bool.and_true, Bool.false_and, Bool.and_false, Bool.or_true, Bool.true_or, Bool.or_false, Bool.false_or, Option.bind_some, mulP, mulQ, modP, divP, List.cons_append, List.nil_append, not_true_eq_false, not_false_eq_true, Bool.not_eq_true', decide_eq_false_iff_not, List.length_cons, List.length_nil, Nat.reduceAdd, List.map_nil, Int.reduceLT, Int.reduceLE, Int.reduceNeg, Int.reduceAdd, Int.reduceSub, Int.reduceMul, Nat.reduceLT, Nat.reduceLeDiff, Nat.reduceSub, Nat.reduceEqDiff, reduceCtorEq, and_true, true_and, and_self, q']
    rfl
theorem disk_init (z : Nat) (hz : z ≤ 1000) : m_Disk_init [.ref 0, .int (z : Int)] [Ob.ins "Disk" [] []] = .ok .non [dOb 1 2 none false, .lst (ob (List.replicate z 0)), .lst []] := by
  have rep : (mRepN (szc (mCons (mC (.int 0)) mNil)) (mVar 1)) [.v (.ref 0), .v (.int (z : Int))] [Ob.ins "Disk" [] []] = .ok (ob (List.replicate z 0)) [Ob.ins "Disk" [] []] := by
    have e : (List.replicate z [PV.int 0]).flatten = ob (List.replicate z 0) := by
      unfold ob
      rw [List.map_replicate]
      induction z with
      | zero => rfl
      | succ n ih => rw [List.replicate_succ, List.flatten_cons, ih (by omega), List.replicate_succ]; rfl
    have c1 : (((z : Int).natAbs ≤ 1000000 ∧ ([PV.int 0] : List PV).length * z ≤ 16777216)) = True := eq_true (by
      refine ⟨by omega, ?_⟩
      rw [List.length_singleton]
      omega)
    rw [← e, aRepN]
    simp only [aSzc, aCons, aNil, aC, Res.bind_ok, aVar, List.getElem?_cons_zero, List.getElem?_cons_succ, show (([PV.int 0] : List PV).length ≤ 16777216) = True from eq_true (by simp), if_true, c1, Int.toNat_natCast]
  rw [m_Disk_init, runD, if_pos (show ([.ref 0, .int (z : Int)] : List PV).length = P_Disk_init.length from rfl), b_Disk_init, show startE N_Disk_init.length [.ref 0, .int (z : Int)] = [.v (.ref 0), .v (.int (z : Int))] from rfl]
  obtain ⟨O, hO⟩ : ∃ O, O = ob (List.replicate z 0) := ⟨_, rfl⟩
  obtain ⟨I0, hI0⟩ : ∃ i : Int, i = (z : Int) := ⟨_, rfl⟩
  simp only [← hO, ← hI0] at *
  simp only [aSeq, aSetF, aRf, rep, ofE_ok, Res.bind_ok, aVar, aC, aSzc, aNil]
  rfl
def envL (ns : List Int) (z : Nat) (t : SV) : En := [.v (.lst (ns.map PV.int)), .v (.int (z : Int)), .v (.ref 0), .v (.ref 5), t, .un]
theorem law_turn (ns : List Int) (z : Nat) (hz : z ≤ 1000) {h : Hh} {w w2 : Nat} {l : List Nat} {ws : List (Nat × List Nat)} {lf : Option Nat} {dn : Bool} (k : SK h 0 5 1 w 3 w2 l ws lf dn) (hl : l.length = z) (wok : WOK z ws) (hw : ws.length ≤ 1000) (n : Nat) (t : SV) :
    ∃ h' w w2 l' ws' lf dn, b_law_1 (envL ns z (.v (.int (n : Int)))) h = .nx (envL ns z (.v (.int (n : Int)))) h' ∧ SK h' 0 5 1 w 3 w2 l' ws' lf dn ∧ WOK z ws' ∧ l'.length = z ∧ ws'.length ≤ ws.length + 1 := by
  rw [← hl] at wok
  obtain ⟨h', w', w2', l', ws', lf', dn', e1, k1, wok1, len1, n1⟩ := act_run k (by omega) wok hw n
  rw [hl] at wok1 len1
  refine ⟨h', w', w2', l', ws', lf', dn', ?_, k1, wok1, len1, n1⟩
  have wokl : WOK l'.length ws' := by rw [len1]; exact wok1
  have pe : ∀ env : En, env[2]? = some (.v (.ref 0)) → mMeth "Disk" "pending" m_Disk_pending (mVar 2) mNil env h' = .ok (.int (ws'.length : Int)) h' := fun env he => by
    rw [meth_at (n := 0) (by simp only [aVar, he]) k1.D.ins rfl]
    exact pending_run k1.D
  have rd : ∀ env : En, env[2]? = some (.v (.ref 0)) → env[1]? = some (.v (.int (z : Int))) → mMeth "Disk" "read" m_Disk_read (mVar 2) (mCons (mC (.int 0)) (mCons (mVar 1) mNil)) env h' = if dn' = true then .er fell h' else .ok (.tup (ob (seenF l' ws'))) h' := fun env he he1 => by
    rw [meth_at (n := 0) (by simp only [aVar, he]) k1.D.ins rfl]
    simp only [aCons, aNil, aC, aVar, he1, Res.bind_ok]
    have := read_run k1.D (by omega) wokl 0 z
    rw [List.drop_zero, List.take_of_length_le (by rw [seenF_len wokl, len1]; exact Nat.le_refl _)] at this
    exact this
  have se := seen_run k1.M (by omega) wokl
  have f_w : oDGet (.ref 5) (.str "writes") h' = .ok (.ref w2') h' := mget k1.M.dct rfl
  have f_n : oDGet (.ref 5) (.str "down") h' = .ok (.bl dn') h' := mget k1.M.dct rfl
  have f_d : de h' (.ref w2') = .lst (ws'.map wP) := de_ref k1.M.wrt
  have f_l : fLen [.lst (ws'.map wP)] h' = .ok (.int (ws'.length : Int)) h' := by
    show Res.ok (PV.int ((ws'.map wP).length : Int)) h' = _
    rw [List.length_map]
  have e_q : oNe (.tup (ob (seenF l' ws'))) (.tup (ob (seenF l' ws'))) h' = .ok (.bl false) h' := by
    rw [ne_ob]; simp
  have pe' := pe (envL ns z (.v (.int (n : Int)))) rfl
  have rd' := rd (envL ns z (.v (.int (n : Int)))) rfl rfl
  unfold envL at *
  rw [b_law_1]
  clear pe rd hl
  obtain ⟨P0, hP0⟩ : ∃ P, P = ob (seenF l' ws') := ⟨_, rfl⟩
  obtain ⟨P1, hP1⟩ : ∃ P, P = ws'.map wP := ⟨_, rfl⟩
  obtain ⟨I0, hI0⟩ : ∃ i : Int, i = (n : Int) := ⟨_, rfl⟩
  obtain ⟨I1, hI1⟩ : ∃ i : Int, i = (ws'.length : Int) := ⟨_, rfl⟩
  obtain ⟨I2, hI2⟩ : ∃ i : Int, i = (z : Int) := ⟨_, rfl⟩
  obtain ⟨NS, hNS⟩ : ∃ P, P = ns.map PV.int := ⟨_, rfl⟩
  simp only [← hP0, ← hP1, ← hI0, ← hI1, ← hI2, ← hNS] at *
  cases dn'
  · simp only [max3I, min3I, aLIx, aForR, itemsAt_lst, itemsAt_tup, forR_tup, forR_lst, aAddN, aRepN, aSplice, aSpliceR, aForS, aLcS, aJSeq, aJZip, itemsOf_lst, itemsOf_tup, aAddD, ofE_ok, ofE_er, ofE_no, aIsX, aXf, aRaise1, addT, negI, aIsi, aCallK, aR3, kd_non, kd_bl, kd_int, kd_str, kd_tup, kd_lst, kd_dct, isKd_ti, isKd_tb, isKd_ts, isKd_tt, isKd_tl, isKd_td, isKd_li, isKd_lb, isKd_ls, isKd_lt, isKd_ll, isKd_ld, isKd_ii, isKd_ib, isKd_is, isKd_it, isKd_il, isKd_id, isKd_bi, isKd_bb, isKd_bs, isKd_bt, isKd_bl, isKd_bd, isKd_si, isKd_sb, isKd_ss, isKd_st, isKd_sl, isKd_sd, isKd_ni, isKd_nb, isKd_ns, isKd_nt, isKd_nl, isKd_nd, aDNew, aKGet1, keyP_int, keyP_str, aDGet1, aDGet2, aDPut, aDisp, aItZ, aGTuT, aGTuL, aRf, de_lst, de_int, de_tup, de_str, de_non, de_bl, aExt, getF_nil, getF_cons, insN_nil, insN_cons, insV_nil, insV_cons, isB_bl, isNotB_bl, aSeq, aSkip, aSet, aSetN, aOp, aUn, aVar, aOwn, aC, aCall, aCallN, aNil, aCons, aRet, aRetN, aRetOwn, aIfS, aToT, aToTru, aNotT, aAndT, aOrT, aAndV, aOrV, aNotV, aIf, aTup, aSzc, aFz, aOn, aOs, aSl, aFor, aR1, aR2, aItE, aItS, aItL, aLc, aYes, aApp, aDrop, aAsg, aBreak, aCont, aGN, aGTu, aGCs, aGNl, aW0, aW1, lenI, lenT, intI, intB, tupL, tupT, listL, listT, addI, subI, ltI, leI, gtI, geI, eqI, neI, oIs_non, oIsNot_non, isNon1, isNon2, isNon3, isNon4, truB, truI, truL, truT, max2I, min2I, absI, aDCopy, dX_app, dC_app, aSlD, aAppR, aSetIxR, aFldAug, aItX, aJoin, aTIx, oi_none, oi_some, aRev, aCallD, aRevN, aIsE, aRaise, aFld, aSetF, aMake, Res.bind_ok, Res.bind_er, Res.bind_no, Bool.true_eq_false, List.isEmpty_nil, List.isEmpty_cons, List.getElem?_cons_zero, List.getElem?_cons_succ, List.set_cons_zero, List.set_cons_succ, if_true, if_false, Bool.false_eq_true, Bool.not_true, Bool.not_false, len0, len1, len2, len3, len4, len5, len6, len8, decide_true, decide_false, decide_eq_true_eq, Bool.true_and, Bool.and_true, Bool.false_and, Bool.and_false, Bool.or_true, Bool.true_or, Bool.or_false, Bool.false_or, Option.bind_some, mulP, mulQ, modP, divP, List.cons_append, List.nil_append, not_true_eq_false, not_false_eq_true, Bool.not_eq_true', decide_eq_false_iff_not, List.length_cons, List.length_nil, Nat.reduceAdd, List.map_nil, Int.reduceLT, Int.reduceLE, Int.reduceNeg, Int.reduceAdd, Int.reduceSub, Int.reduceMul, Nat.reduceLT, Nat.reduceLeDiff, Nat.reduceSub, Nat.reduceEqDiff, reduceCtorEq, and_true, true_and, and_self, e1, pe', rd', se, f_w, f_n, f_d, f_l, e_q, List.map_cons, truP]
  · simp only [max3I, min3I, aLIx, aForR, itemsAt_lst, itemsAt_tup, forR_tup, forR_lst, aAddN, aRepN, aSplice, aSpliceR, aForS, aLcS, aJSeq, aJZip, itemsOf_lst, itemsOf_tup, aAddD, ofE_ok, ofE_er, ofE_no, aIsX, aXf, aRaise1, addT, negI, aIsi, aCallK, aR3, kd_non, kd_bl, kd_int, kd_str, kd_tup, kd_lst, kd_dct, isKd_ti, isKd_tb, isKd_ts, isKd_tt, isKd_tl, isKd_td, isKd_li, isKd_lb, isKd_ls, isKd_lt, isKd_ll, isKd_ld, isKd_ii, isKd_ib, isKd_is, isKd_it, isKd_il, isKd_id, isKd_bi, isKd_bb, isKd_bs, isKd_bt, isKd_bl, isKd_bd, isKd_si, isKd_sb, isKd_ss, isKd_st, isKd_sl, isKd_sd, isKd_ni, isKd_nb, isKd_ns, isKd_nt, isKd_nl, isKd_nd, aDNew, aKGet1, keyP_int, keyP_str, aDGet1, aDGet2, aDPut, aDisp, aItZ, aGTuT, aGTuL, aRf, de_lst, de_int, de_tup, de_str, de_non, de_bl, aExt, getF_nil, getF_cons, insN_nil, insN_cons, insV_nil, insV_cons, isB_bl, isNotB_bl, aSeq, aSkip, aSet, aSetN, aOp, aUn, aVar, aOwn, aC, aCall, aCallN, aNil, aCons, aRet, aRetN, aRetOwn, aIfS, aToT, aToTru, aNotT, aAndT, aOrT, aAndV, aOrV, aNotV, aIf, aTup, aSzc, aFz, aOn, aOs, aSl, aFor, aR1, aR2, aItE, aItS, aItL, aLc, aYes, aApp, aDrop, aAsg, aBreak, aCont, aGN, aGTu, aGCs, aGNl, aW0, aW1, lenI, lenT, intI, intB, tupL, tupT, listL, listT, addI, subI, ltI, leI, gtI, geI, eqI, neI, oIs_non, oIsNot_non, isNon1, isNon2, isNon3, isNon4, truB, truI, truL, truT, max2I, min2I, absI, aDCopy, dX_app, dC_app, aSlD, aAppR, aSetIxR, aFldAug, aItX, aJoin, aTIx, oi_none, oi_some, aRev, aCallD, aRevN, aIsE, aRaise, aFld, aSetF, aMake, Res.bind_ok, Res.bind_er, Res.bind_no, Bool.true_eq_false, List.isEmpty_nil, List.isEmpty_cons, List.getElem?_cons_zero, List.getElem?_cons_succ, List.set_cons_zero, List.set_cons_succ, if_true, if_false, Bool.false_eq_true, Bool.not_true, Bool.not_false, len0, len1, len2, len3, len4, len5, len6, len8, decide_true, decide_false, decide_eq_true_eq, Bool.true_and, Bool.and_true, Bool.false_and, Bool.and_false, Bool.or_true, Bool.true_or, Bool.or_false, Bool.false_or, Option.bind_some, mulP, mulQ, modP, divP, List.cons_append, List.nil_append, not_true_eq_false, not_false_eq_true, Bool.not_eq_true', decide_eq_false_iff_not, List.length_cons, List.length_nil, Nat.reduceAdd, List.map_nil, Int.reduceLT, Int.reduceLE, Int.reduceNeg, Int.reduceAdd, Int.reduceSub, Int.reduceMul, Nat.reduceLT, Nat.reduceLeDiff, Nat.reduceSub, Nat.reduceEqDiff, reduceCtorEq, and_true, true_and, and_self, e1, pe', rd', se, f_w, f_n, f_d, f_l, e_q, List.map_cons, truP]
theorem law_true (ns : List Int) (hn : ns.length ≤ 63) : ∃ h', m_law [.lst (ns.map PV.int)] [] = .ok (.bl true) h' := by
  obtain ⟨c, hc⟩ := cell_0 ns []
  obtain ⟨z, hz⟩ : ∃ z, z = c % 41 := ⟨_, rfl⟩
  have hz41 : z < 41 := by rw [hz]; exact Nat.mod_lt _ (by decide)
  have e_z : oMod (.int (c : Int)) (.int 41) [] = .ok (.int (z : Int)) [] := by rw [hz]; exact modL 41 (by decide) []
  have e_i := disk_init z (by omega)
  obtain ⟨O, hO⟩ : ∃ O, O = List.replicate z 0 := ⟨_, rfl⟩
  have lO : O.length = z := by rw [hO, List.length_replicate]
  rw [← hO] at e_i
  obtain ⟨h1, hh1⟩ : ∃ h1 : Hh, h1 = [dOb 1 2 none false, .lst (ob O), .lst []] := ⟨_, rfl⟩
  obtain ⟨h2, hh2⟩ : ∃ h2 : Hh, h2 = [dOb 1 2 none false, .lst (ob O), .lst [], .lst (ob O), .lst [], kOb 3 4 none false] := ⟨_, rfl⟩
  have k0 : SK h2 0 5 1 2 3 4 O [] none false := by
    rw [hh2]
    exact ⟨⟨rfl, rfl, rfl, by decide, by decide, by decide⟩, ⟨rfl, rfl, rfl, by decide, by decide, by decide⟩, sep_of (by decide)⟩
  obtain ⟨fs, hf, e_d⟩ := draws_most ns hn h2
  have e_o : lcL (gN 5) mYes (mC (.int 0)) [.v (.lst (ns.map PV.int)), .v (.int (z : Int)), .v (.ref 0), .un, .un, .un] ((List.range z).map fun (k : Nat) => PV.int (k : Int)) h1 = .ok (ob O) h1 := by
    have := lcL_all (g := gN 5) (e := mC (.int 0)) (env := [.v (.lst (ns.map PV.int)), .v (.int (z : Int)), .v (.ref 0), .un, .un, .un]) (h := h1) (fun k : Nat => PV.int (k : Int)) (fun _ : Nat => PV.int 0) (List.range z) fun k _ => ⟨_, rfl, rfl⟩
    rw [this]
    congr 1
    rw [hO]
    unfold ob
    rw [List.map_replicate, List.map_const', List.length_range]
    rfl
  obtain ⟨env', h3, e_l, ⟨t, rfl⟩, _⟩ := forL_invH (g := gN 4) (b := b_law_1) (fun n : Nat => PV.int (n : Int))
    (fun pre env hh => (∃ t, env = envL ns z t) ∧ ∃ w w2 l ws lf dn, SK hh 0 5 1 w 3 w2 l ws lf dn ∧ WOK z ws ∧ l.length = z ∧ ws.length ≤ pre.length) fs []
    (fun pre n post e env hh ⟨⟨t, e2⟩, w, w2, l, ws, lf, dn, k1, wok, hl, hw⟩ => by
      subst e2
      have hp : pre.length < 60 := by
        have : fs.length = pre.length + (n :: post).length := by rw [show fs = pre ++ n :: post from e, List.length_append]
        rw [List.length_cons] at this
        omega
      obtain ⟨h', w', w2', l', ws', lf', dn', e1, k2, wok2, hl2, hw2⟩ := law_turn ns z (by omega) k1 hl wok (by omega) n t
      exact ⟨envL ns z (.v (.int (n : Int))), _, h', rfl, e1, ⟨_, rfl⟩, w', w2', l', ws', lf', dn', k2, wok2, hl2, by rw [List.length_append, List.length_singleton]; omega⟩)
    (envL ns z .un) h2 ⟨⟨_, rfl⟩, 2, 4, O, [], none, false, k0, by intro q hq; simp at hq, lO, by simp⟩
  refine ⟨h3, ?_⟩
  have rk : rngOk (z : Int) = true := by
    unfold rngOk
    simp only [Bool.and_eq_true, decide_eq_true_eq]
    omega
  have hr : rngList 0 (z : Int).toNat = (List.range z).map fun (k : Nat) => PV.int (k : Int) := by rw [Int.toNat_natCast]; exact rng_nat z
  have hlen : (((List.range z).map fun (k : Nat) => PV.int (k : Int)).length ≤ 16777216) = True := eq_true (by rw [List.length_map, List.length_range]; omega)
  have mk : mMake "Disk" m_Disk_init (mCons (mVar 1) mNil) [.v (.lst (ns.map PV.int)), .v (.int (z : Int)), .un, .un, .un, .un] [] = .ok (.ref 0) h1 := by
    rw [aMake]
    simp only [aCons, aNil, aVar, List.getElem?_cons_zero, List.getElem?_cons_succ, Res.bind_ok]
    rw [show ([] : Hh).length = 0 from rfl, List.nil_append, e_i, hh1]
    rfl
  have app : ∀ (a : Ob), h1 ++ [a] = [dOb 1 2 none false, .lst (ob O), .lst [], a] := fun a => by rw [hh1]; rfl
  have dsp : (mDisp [Sum.inr "octets", Sum.inr "writes", Sum.inr "left", Sum.inr "down"] (mCons (mRf (mLc (itR1 (mCons (mVar 1) mNil)) [5] (gN 5) mYes (mC (.int 0)))) (mCons (mRf (szc mNil)) (mCons (mUn oNeg (mC (.int 1))) (mCons (mC (.bl false)) mNil))))) [.v (.lst (ns.map PV.int)), .v (.int (z : Int)), .v (.ref 0), .un, .un, .un] h1 = .ok (.ref 5) h2 := by
    have lc : (mLc (itR1 (mCons (mVar 1) mNil)) [5] (gN 5) mYes (mC (.int 0))) [.v (.lst (ns.map PV.int)), .v (.int (z : Int)), .v (.ref 0), .un, .un, .un] h1 = .ok (ob O) h1 := by
      obtain ⟨RL, hRL⟩ : ∃ P, P = (List.range z).map fun (k : Nat) => PV.int (k : Int) := ⟨_, rfl⟩
      obtain ⟨I2, hI2⟩ : ∃ i : Int, i = (z : Int) := ⟨_, rfl⟩
      obtain ⟨NS, hNS⟩ : ∃ P, P = ns.map PV.int := ⟨_, rfl⟩
      simp only [← hRL, ← hI2, ← hNS] at *
      simp only [max3I, min3I, aLIx, aForR, itemsAt_lst, itemsAt_tup, forR_tup, forR_lst, aAddN, aRepN, aSplice, aSpliceR, aForS, aLcS, aJSeq, aJZip, itemsOf_lst, itemsOf_tup, aAddD, ofE_ok, ofE_er, ofE_no, aIsX, aXf, aRaise1, addT, negI, aIsi, aCallK, aR3, kd_non, kd_bl, kd_int, kd_str, kd_tup, kd_lst, kd_dct, isKd_ti, isKd_tb, isKd_ts, isKd_tt, isKd_tl, isKd_td, isKd_li, isKd_lb, isKd_ls, isKd_lt, isKd_ll, isKd_ld, isKd_ii, isKd_ib, isKd_is, isKd_it, isKd_il, isKd_id, isKd_bi, isKd_bb, isKd_bs, isKd_bt, isKd_bl, isKd_bd, isKd_si, isKd_sb, isKd_ss, isKd_st, isKd_sl, isKd_sd, isKd_ni, isKd_nb, isKd_ns, isKd_nt, isKd_nl, isKd_nd, aDNew, aKGet1, keyP_int, keyP_str, aDGet1, aDGet2, aDPut, aDisp, aItZ, aGTuT, aGTuL, aRf, de_lst, de_int, de_tup, de_str, de_non, de_bl, aExt, getF_nil, getF_cons, insN_nil, insN_cons, insV_nil, insV_cons, isB_bl, isNotB_bl, aSeq, aSkip, aSet, aSetN, aOp, aUn, aVar, aOwn, aC, aCall, aCallN, aNil, aCons, aRet, aRetN, aRetOwn, aIfS, aToT, aToTru, aNotT, aAndT, aOrT, aAndV, aOrV, aNotV, aIf, aTup, aSzc, aFz, aOn, aOs, aSl, aFor, aR1, aR2, aItE, aItS, aItL, aLc, aYes, aApp, aDrop, aAsg, aBreak, aCont, aGN, aGTu, aGCs, aGNl, aW0, aW1, lenI, lenT, intI, intB, tupL, tupT, listL, listT, addI, subI, ltI, leI, gtI, geI, eqI, neI, oIs_non, oIsNot_non, isNon1, isNon2, isNon3, isNon4, truB, truI, truL, truT, max2I, min2I, absI, aDCopy, dX_app, dC_app, aSlD, aAppR, aSetIxR, aFldAug, aItX, aJoin, aTIx, oi_none, oi_some, aRev, aCallD, aRevN, aIsE, aRaise, aFld, aSetF, aMeth, aMake, Res.bind_ok, Res.bind_er, Res.bind_no, Bool.true_eq_false, List.isEmpty_nil, List.isEmpty_cons, List.getElem?_cons_zero, List.getElem?_cons_succ, List.set_cons_zero, List.set_cons_succ, if_true, if_false, Bool.false_eq_true, Bool.not_true, Bool.not_false, len0, len1, len2, len3, len4, len5, len6, len8, decide_true, decide_false, decide_eq_true_eq, Bool.true_and, Bool.and_true, Bool.false_and, Bool.and_false, Bool.or_true, Bool.true_or, Bool.or_false, Bool.false_or, Option.bind_some, mulP, mulQ, modP, divP, List.cons_append, List.nil_append, not_true_eq_false, not_false_eq_true, Bool.not_eq_true', decide_eq_false_iff_not, List.length_cons, List.length_nil, Nat.reduceAdd, List.map_nil, Int.reduceLT, Int.reduceLE, Int.reduceNeg, Int.reduceAdd, Int.reduceSub, Int.reduceMul, Nat.reduceLT, Nat.reduceLeDiff, Nat.reduceSub, Nat.reduceEqDiff, reduceCtorEq, and_true, true_and, and_self, rk, hr, hlen, wipeE, e_o]
    have lc' : (mRf (mLc (itR1 (mCons (mVar 1) mNil)) [5] (gN 5) mYes (mC (.int 0)))) [.v (.lst (ns.map PV.int)), .v (.int (z : Int)), .v (.ref 0), .un, .un, .un] h1 = .ok (.ref 3) [dOb 1 2 none false, .lst (ob O), .lst [], .lst (ob O)] := by
      rw [aRf, lc, Res.bind_ok, app, hh1]
      rfl
    rw [aDisp, hh2]
    simp only [aCons, lc', Res.bind_ok]
    rfl
  have e_l' : forL (gN 4) b_law_1 (ob fs) [.v (.lst (ns.map PV.int)), .v (.int (z : Int)), .v (.ref 0), .v (.ref 5), .un, .un] h2 = .nx (envL ns z t) h3 := e_l
  clear e_l e_o hr rk hlen hh1 hh2 app e_i k0
  rw [m_law, runD, if_pos (show ([.lst (ns.map PV.int)] : List PV).length = P_law.length from rfl), b_law, show startE N_law.length [.lst (ns.map PV.int)] = [.v (.lst (ns.map PV.int)), .un, .un, .un, .un, .un] from rfl]
  obtain ⟨FS, hFS⟩ : ∃ P, P = ob fs := ⟨_, rfl⟩
  obtain ⟨I2, hI2⟩ : ∃ i : Int, i = (z : Int) := ⟨_, rfl⟩
  obtain ⟨I3, hI3⟩ : ∃ i : Int, i = (c : Int) := ⟨_, rfl⟩
  obtain ⟨NS, hNS⟩ : ∃ P, P = ns.map PV.int := ⟨_, rfl⟩
  simp only [← hFS, ← hI2, ← hI3, ← hNS] at *
  simp only [max3I, min3I, aLIx, aForR, itemsAt_lst, itemsAt_tup, forR_tup, forR_lst, aAddN, aRepN, aSplice, aSpliceR, aForS, aLcS, aJSeq, aJZip, itemsOf_lst, itemsOf_tup, aAddD, ofE_ok, ofE_er, ofE_no, aIsX, aXf, aRaise1, addT, negI, aIsi, aCallK, aR3, kd_non, kd_bl, kd_int, kd_str, kd_tup, kd_lst, kd_dct, isKd_ti, isKd_tb, isKd_ts, isKd_tt, isKd_tl, isKd_td, isKd_li, isKd_lb, isKd_ls, isKd_lt, isKd_ll, isKd_ld, isKd_ii, isKd_ib, isKd_is, isKd_it, isKd_il, isKd_id, isKd_bi, isKd_bb, isKd_bs, isKd_bt, isKd_bl, isKd_bd, isKd_si, isKd_sb, isKd_ss, isKd_st, isKd_sl, isKd_sd, isKd_ni, isKd_nb, isKd_ns, isKd_nt, isKd_nl, isKd_nd, aDNew, aKGet1, keyP_int, keyP_str, aDGet1, aDGet2, aDPut, aItZ, aGTuT, aGTuL, aRf, de_lst, de_int, de_tup, de_str, de_non, de_bl, aExt, getF_nil, getF_cons, insN_nil, insN_cons, insV_nil, insV_cons, isB_bl, isNotB_bl, aSeq, aSkip, aSet, aSetN, aOp, aUn, aVar, aOwn, aC, aCall, aCallN, aNil, aCons, aRet, aRetN, aRetOwn, aIfS, aToT, aToTru, aNotT, aAndT, aOrT, aAndV, aOrV, aNotV, aIf, aTup, aSzc, aFz, aOn, aOs, aSl, aFor, aR1, aR2, aItE, aItS, aItL, aLc, aYes, aApp, aDrop, aAsg, aBreak, aCont, aGN, aGTu, aGCs, aGNl, aW0, aW1, lenI, lenT, intI, intB, tupL, tupT, listL, listT, addI, subI, ltI, leI, gtI, geI, eqI, neI, oIs_non, oIsNot_non, isNon1, isNon2, isNon3, isNon4, truB, truI, truL, truT, max2I, min2I, absI, aDCopy, dX_app, dC_app, aSlD, aAppR, aSetIxR, aFldAug, aItX, aJoin, aTIx, oi_none, oi_some, aRev, aCallD, aRevN, aIsE, aRaise, aFld, aSetF, aMeth, Res.bind_ok, Res.bind_er, Res.bind_no, Bool.true_eq_false, List.isEmpty_nil, List.isEmpty_cons, List.getElem?_cons_zero, List.getElem?_cons_succ, List.set_cons_zero, List.set_cons_succ, if_true, if_false, Bool.false_eq_true, Bool.not_true, Bool.not_false, len0, len1, len2, len3, len4, len5, len6, len8, decide_true, decide_false, decide_eq_true_eq, Bool.true_and, Bool.and_true, Bool.false_and, Bool.and_false, Bool.or_true, Bool.true_or, Bool.or_false, Bool.false_or, Option.bind_some, mulP, mulQ, divP, List.cons_append, List.nil_append, not_true_eq_false, not_false_eq_true, Bool.not_eq_true', decide_eq_false_iff_not, List.length_cons, List.length_nil, Nat.reduceAdd, List.map_nil, Int.reduceLT, Int.reduceLE, Int.reduceNeg, Int.reduceAdd, Int.reduceSub, Int.reduceMul, Nat.reduceLT, Nat.reduceLeDiff, Nat.reduceSub, Nat.reduceEqDiff, reduceCtorEq, and_true, true_and, and_self, hc, e_z, mk, dsp, e_d, e_l']
end Law

set_option Elab.async false
set_option linter.all false
open PySem PySem.W PyProof.Rows
set_option maxRecDepth 100000 in
set_option maxHeartbeats 0 in
theorem PySem.Challenge.cw_swarmwhole_k34_disk_that_falls_holds : PySem.Challenge.rw_swarmwhole_k34_disk_that_falls.Holds := by
  w_on; o_law; k_head; (case hw => w_witness2)
  k_fill
  refine L2.walk_of (l := PySem.Challenge.rw_swarmwhole_k34_disk_that_falls) (n := 63) (k := 5) (x := "_law_script") (CX := fun w => L2.CX PySem.Challenge.rw_swarmwhole_k34_disk_that_falls.prog w) (sp := fun w => Mir.spL _) rfl (by decide) rfl ⟨rfl, by decide, by decide⟩ (fun w h Y => PySem.W.kIn_of Y) ?F (fun _ _ a ns hl _ hS => ⟨a, ns, rfl, hS, hl, fun _ => rfl⟩) (fun _ _ _ _ _ h => by obtain ⟨_, _, _, _, _, _, _, _, _, _, _, _, z⟩ := h; exact z)
  case F =>
    intro w mg fa h KX G hmg
    have A_L_cell : Mir.DefAt (L2.KOf KX) mg "_law_cell" Law.s_L_cell := by
      delta L2.KOf; refine' Mir.defAt_mk KX G ?a ?l ?c ?k; (case a => k_is); (case l => k_is); (case c => k_is); (case k => k_is)
    have A_Disk_init : Mir.MakeAt (L2.KOf KX) mg "Disk" "Disk.__init__" Law.s_Disk_init := by
      delta L2.KOf; refine' Mir.makeAt_mk KX G ?a ?b ?i ?mk ?kc ?l ?c ?k; (case a => k_is); (case b => k_is); (case i => k_is); (case mk => k_is); (case kc => k_is); (case l => k_is); (case c => k_is); (case k => k_is)
    have A_L_draws : Mir.DefAt (L2.KOf KX) mg "_law_draws" Law.s_L_draws := by
      delta L2.KOf; refine' Mir.defAt_mk KX G ?a ?l ?c ?k; (case a => k_is); (case l => k_is); (case c => k_is); (case k => k_is)
    have A_L_operate : Mir.DefAt (L2.KOf KX) mg "_law_operate" Law.s_L_operate := by
      delta L2.KOf; refine' Mir.defAt_mk KX G ?a ?l ?c ?k; (case a => k_is); (case l => k_is); (case c => k_is); (case k => k_is)
    have A_Disk__operate : Mir.MethAt (L2.KOf KX) mg "Disk" "_operate" "Disk._operate" Law.s_Disk__operate := by
      delta L2.KOf; refine' Mir.methAt_mk KX G ?a ?b ?i ?l ?c ?k; (case a => k_is); (case b => k_is); (case i => k_is); (case l => k_is); (case c => k_is); (case k => k_is)
    have A_Disk_write : Mir.MethAt (L2.KOf KX) mg "Disk" "write" "Disk.write" Law.s_Disk_write := by
      delta L2.KOf; refine' Mir.methAt_mk KX G ?a ?b ?i ?l ?c ?k; (case a => k_is); (case b => k_is); (case i => k_is); (case l => k_is); (case c => k_is); (case k => k_is)
    have A_Disk__settle : Mir.MethAt (L2.KOf KX) mg "Disk" "_settle" "Disk._settle" Law.s_Disk__settle := by
      delta L2.KOf; refine' Mir.methAt_mk KX G ?a ?b ?i ?l ?c ?k; (case a => k_is); (case b => k_is); (case i => k_is); (case l => k_is); (case c => k_is); (case k => k_is)
    have A_Disk_sync : Mir.MethAt (L2.KOf KX) mg "Disk" "sync" "Disk.sync" Law.s_Disk_sync := by
      delta L2.KOf; refine' Mir.methAt_mk KX G ?a ?b ?i ?l ?c ?k; (case a => k_is); (case b => k_is); (case i => k_is); (case l => k_is); (case c => k_is); (case k => k_is)
    have A_Disk_read : Mir.MethAt (L2.KOf KX) mg "Disk" "read" "Disk.read" Law.s_Disk_read := by
      delta L2.KOf; refine' Mir.methAt_mk KX G ?a ?b ?i ?l ?c ?k; (case a => k_is); (case b => k_is); (case i => k_is); (case l => k_is); (case c => k_is); (case k => k_is)
    have A_L_tried : Mir.DefAt (L2.KOf KX) mg "_law_tried" Law.s_L_tried := by
      delta L2.KOf; refine' Mir.defAt_mk KX G ?a ?l ?c ?k; (case a => k_is); (case l => k_is); (case c => k_is); (case k => k_is)
    have A_L_settle : Mir.DefAt (L2.KOf KX) mg "_law_settle" Law.s_L_settle := by
      delta L2.KOf; refine' Mir.defAt_mk KX G ?a ?l ?c ?k; (case a => k_is); (case l => k_is); (case c => k_is); (case k => k_is)
    have A_Disk_arm : Mir.MethAt (L2.KOf KX) mg "Disk" "arm" "Disk.arm" Law.s_Disk_arm := by
      delta L2.KOf; refine' Mir.methAt_mk KX G ?a ?b ?i ?l ?c ?k; (case a => k_is); (case b => k_is); (case i => k_is); (case l => k_is); (case c => k_is); (case k => k_is)
    have A_Disk_fall : Mir.MethAt (L2.KOf KX) mg "Disk" "fall" "Disk.fall" Law.s_Disk_fall := by
      delta L2.KOf; refine' Mir.methAt_mk KX G ?a ?b ?i ?l ?c ?k; (case a => k_is); (case b => k_is); (case i => k_is); (case l => k_is); (case c => k_is); (case k => k_is)
    have A_L_seen : Mir.DefAt (L2.KOf KX) mg "_law_seen" Law.s_L_seen := by
      delta L2.KOf; refine' Mir.defAt_mk KX G ?a ?l ?c ?k; (case a => k_is); (case l => k_is); (case c => k_is); (case k => k_is)
    have A_L_act : Mir.DefAt (L2.KOf KX) mg "_law_act" Law.s_L_act := by
      delta L2.KOf; refine' Mir.defAt_mk KX G ?a ?l ?c ?k; (case a => k_is); (case l => k_is); (case c => k_is); (case k => k_is)
    have A_Disk_pending : Mir.MethAt (L2.KOf KX) mg "Disk" "pending" "Disk.pending" Law.s_Disk_pending := by
      delta L2.KOf; refine' Mir.methAt_mk KX G ?a ?b ?i ?l ?c ?k; (case a => k_is); (case b => k_is); (case i => k_is); (case l => k_is); (case c => k_is); (case k => k_is)
    have A_law : Mir.DefAt (L2.KOf KX) mg "law" Law.s_law := by
      delta L2.KOf; refine' Mir.defAt_mk KX G ?a ?l ?c ?k; (case a => k_is); (case l => k_is); (case c => k_is); (case k => k_is)
    have C_Disk : Mir.ClsAt (L2.KOf KX) mg (Mir.cAof mg) "Disk" ["_octets", "_writes", "_left", "_down"] := by
      delta L2.KOf; refine' Mir.clsAt_mk KX G ?a ?pg ?hd ?po ?sa ⟨?f0, ?f1, ?f2, ?f3, True.intro⟩; (case a => k_is); (case pg => k_is); (case hd => k_is); (case po => k_is); (case sa => k_is); (case f0 => k_is); (case f1 => k_is); (case f2 => k_is); (case f3 => k_is)
    have H_DiskFell : Mir.HAt (L2.KOf KX) mg "DiskFell" := by
      delta L2.KOf; refine' Mir.hAt_mk KX G ?zz_a ?zz_s ?zz_t ?zz_i; (case zz_a => k_is); (case zz_s => k_is); (case zz_t => k_is); (case zz_i => k_is)
    have H_SwarmError : Mir.HAt (L2.KOf KX) mg "SwarmError" := by
      delta L2.KOf; refine' Mir.hAt_mk KX G ?zz_a ?zz_s ?zz_t ?zz_i; (case zz_a => k_is); (case zz_s => k_is); (case zz_t => k_is); (case zz_i => k_is)
    have E_DiskFell : Mir.ExcAt (L2.KOf KX) mg (Mir.cAof mg) "DiskFell" := by
      delta L2.KOf; refine' Mir.excAt_mk KX G ?a ?x ?k ?s ?t ?i; (case a => k_is); (case x => k_exc); (case k => k_is); (case s => k_is); (case t => k_is); (case i => k_is)
    have S_DiskFell_DiskFell : Mir.SubAt (L2.KOf KX) mg "DiskFell" "DiskFell" true := by
      delta L2.KOf; refine' Mir.subAt_mk KX G ?a ?b ?s; (case a => k_is); (case b => k_is); (case s => first | rfl | k_is)
    have S_DiskFell_SwarmError : Mir.SubAt (L2.KOf KX) mg "DiskFell" "SwarmError" true := by
      delta L2.KOf; refine' Mir.subAt_mk KX G ?a ?b ?s; (case a => k_is); (case b => k_is); (case s => first | rfl | k_is)
    have X_DiskFell : Mir.ExcCAt (L2.KOf KX) mg "DiskFell" := by
      delta L2.KOf; refine' Mir.excCAt_mk KX G ?a (Mir.excC_mk ?hg ?hk ?hs ?hd ?ha ?hn ?ht ?hm); (case a => k_is); (case hg => k_is); (case hk => k_is); (case hs => k_is); (case hd => k_is); (case ha => k_is); (case hn => k_is); (case ht => k_is); (case hm => first | rfl | k_is)
    have T : Law.Tx (L2.KOf KX) mg (Mir.cAof mg) := ⟨C_Disk,
      E_DiskFell,
      (Mir.catchH_yes H_DiskFell S_DiskFell_DiskFell (Mir.catchH_nil H_DiskFell)),
      (Mir.isH_own X_DiskFell H_SwarmError S_DiskFell_SwarmError S_DiskFell_DiskFell),
      by refine' PySem.W.mg_none_of KX G ?z; (case z => k_is),
      by refine' PySem.W.mg_none_of KX G ?z; (case z => k_is),
      by refine' PySem.W.mg_none_of KX G ?z; (case z => k_is),
      by refine' PySem.W.mg_none_of KX G ?z; (case z => k_is),
      by refine' PySem.W.mg_none_of KX G ?z; (case z => k_is),
      by refine' PySem.W.mg_none_of KX G ?z; (case z => k_is),
      by refine' PySem.W.mg_none_of KX G ?z; (case z => k_is),
      by refine' PySem.W.mg_none_of KX G ?z; (case z => k_is),
      by refine' PySem.W.mg_none_of KX G ?z; (case z => k_is)⟩
    refine Mir.law_mk (m := Law.m_law) (cA := Mir.cAof mg) A_law hmg (fun _ _ _ _ _ _ _ => rfl) (fun base _ _ f fd Fn => ?_) Law.law_true
    have G_L_cell := Law.d_L_cell (P := PySem.Challenge.rw_swarmwhole_k34_disk_that_falls.prog) (w := w) (base := base) (cA := Mir.cAof mg) T  A_L_cell
    have GI_Disk_init := Law.di_Disk_init (P := PySem.Challenge.rw_swarmwhole_k34_disk_that_falls.prog) (w := w) (base := base) (cA := Mir.cAof mg) T  A_Disk_init
    have G_L_draws := Law.d_L_draws (P := PySem.Challenge.rw_swarmwhole_k34_disk_that_falls.prog) (w := w) (base := base) (cA := Mir.cAof mg) T  A_L_draws
    have G_L_operate := Law.d_L_operate (P := PySem.Challenge.rw_swarmwhole_k34_disk_that_falls.prog) (w := w) (base := base) (cA := Mir.cAof mg) T  A_L_operate
    have GM_Disk__operate := Law.dm_Disk__operate (P := PySem.Challenge.rw_swarmwhole_k34_disk_that_falls.prog) (w := w) (base := base) (cA := Mir.cAof mg) T  A_Disk__operate
    have GM_Disk_write := Law.dm_Disk_write (P := PySem.Challenge.rw_swarmwhole_k34_disk_that_falls.prog) (w := w) (base := base) (cA := Mir.cAof mg) T GM_Disk__operate A_Disk_write
    have GM_Disk__settle := Law.dm_Disk__settle (P := PySem.Challenge.rw_swarmwhole_k34_disk_that_falls.prog) (w := w) (base := base) (cA := Mir.cAof mg) T  A_Disk__settle
    have GM_Disk_sync := Law.dm_Disk_sync (P := PySem.Challenge.rw_swarmwhole_k34_disk_that_falls.prog) (w := w) (base := base) (cA := Mir.cAof mg) T GM_Disk__operate GM_Disk__settle A_Disk_sync
    have GM_Disk_read := Law.dm_Disk_read (P := PySem.Challenge.rw_swarmwhole_k34_disk_that_falls.prog) (w := w) (base := base) (cA := Mir.cAof mg) T  A_Disk_read
    have G_L_tried := Law.d_L_tried (P := PySem.Challenge.rw_swarmwhole_k34_disk_that_falls.prog) (w := w) (base := base) (cA := Mir.cAof mg) T GM_Disk_write GM_Disk_sync GM_Disk_read A_L_tried
    have G_L_settle := Law.d_L_settle (P := PySem.Challenge.rw_swarmwhole_k34_disk_that_falls.prog) (w := w) (base := base) (cA := Mir.cAof mg) T  A_L_settle
    have GM_Disk_arm := Law.dm_Disk_arm (P := PySem.Challenge.rw_swarmwhole_k34_disk_that_falls.prog) (w := w) (base := base) (cA := Mir.cAof mg) T  A_Disk_arm
    have GM_Disk_fall := Law.dm_Disk_fall (P := PySem.Challenge.rw_swarmwhole_k34_disk_that_falls.prog) (w := w) (base := base) (cA := Mir.cAof mg) T GM_Disk__settle A_Disk_fall
    have G_L_seen := Law.d_L_seen (P := PySem.Challenge.rw_swarmwhole_k34_disk_that_falls.prog) (w := w) (base := base) (cA := Mir.cAof mg) T  A_L_seen
    have G_L_act := Law.d_L_act (P := PySem.Challenge.rw_swarmwhole_k34_disk_that_falls.prog) (w := w) (base := base) (cA := Mir.cAof mg) T G_L_operate G_L_tried G_L_settle GM_Disk_arm GM_Disk_fall G_L_seen A_L_act
    have GM_Disk_pending := Law.dm_Disk_pending (P := PySem.Challenge.rw_swarmwhole_k34_disk_that_falls.prog) (w := w) (base := base) (cA := Mir.cAof mg) T  A_Disk_pending
    exact Law.f_law T G_L_cell GI_Disk_init G_L_draws G_L_act GM_Disk_pending GM_Disk_read G_L_seen Fn

