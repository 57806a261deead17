import PyProof.Rows.All
import Wide.All
import OpenK.AllK
import Wide.FinOn
import HandS.ForMost
import HandS.ForExc
import HandS.Walk
import HandS.Wide
import HandS.CallSlots
import HandS.Defaults
import KE.DataCmp
import HandS.TupMul
import HandS.TupAny
import KE.GoesEnum
import KE.GoesMore
import KE.DataMinMax
import HandS.Iter
import HandS.IsInst
import HandS.WideBits
import HandS.Struct
import KE.KMathG
import HandS.Zip
import HandS.NoneIn
import PyProof.AutoSeq1
import HandS.List
import HandS.TupLe
import HandS.ExcIs
import HandS.TryOnly
import HandS.ExcOwn
import KE.KExcInit
import HandS.Style
import KE.BitLaws
import HandS.Text
import Flt.RightSqrt
import PySem.Challenge.RW_swarmwhole_k15_whole_forged_pieces_are_p

set_option Elab.async false
set_option linter.all false
set_option maxRecDepth 100000
/-! Mir: a deterministic mirror over the hand layer: plain data PV, an append-only heap of objects, one soundness lemma a construct. -/
namespace Mir
open PySem PySem.Spec PyProof.Rows L2

/-! ### data -/
inductive PV where
  | non | bl (b : Bool) | int (i : Int) | str (s : Str)
  | tup (xs : List PV) | lst (xs : List PV) | dct (ks : List Key) (vs : List PV) | ref (n : Nat)
inductive Ob where
  | lst (xs : List PV) | dct (ks : List Key) (vs : List PV) | ins (c : Str) (ns : List Str) (vs : List PV)
structure Xn where
  c : Str
  ns : List Str
  vs : List PV
abbrev Hh := List Ob
inductive Res (α : Type) where
  | ok (a : α) (h : Hh) | er (x : Xn) (h : Hh) | no
def Res.bind {α β : Type} (r : Res α) (f : α → Hh → Res β) : Res β := match r with
  | .ok a h => f a h
  | .er x h => .er x h
  | .no => .no
@[simp] theorem Res.bind_ok {α β : Type} (a : α) (h : Hh) (f : α → Hh → Res β) : (Res.ok a h).bind f = f a h := id rfl
@[simp] theorem Res.bind_er {α β : Type} (x : Xn) (h : Hh) (f : α → Hh → Res β) : (Res.er x h : Res α).bind f = .er x h := id rfl
@[simp] theorem Res.bind_no {α β : Type} (f : α → Hh → Res β) : (Res.no : Res α).bind f = .no := id rfl
inductive SV where
  | un | v (x : PV) | own (o : Ob) | ex (x : Xn)
abbrev En := List SV
abbrev ME := En → Hh → Res PV
abbrev MT := En → Hh → Res Bool
abbrev MA := En → Hh → Res (List PV)
inductive SR where
  | nx (env : En) (h : Hh) | rt (x : PV) (h : Hh) | bk (env : En) (h : Hh) | ct (env : En) (h : Hh) | er (x : Xn) (env : En) (h : Hh) | no
abbrev MS := En → Hh → SR

/-! ### what is what -/
structure Sx where
  K : PySem.W.Frag
  cA : Str → Option Addr
  ea : Addr
  ed : Option Addr
mutual
inductive PR (K : PySem.W.Frag) (Φ : Hp) (ad : List Addr) : PV → V → Prop
  | non : PR K Φ ad .non .non
  | bl (b : Bool) : PR K Φ ad (.bl b) (.bl b)
  | int (i : Int) : PR K Φ ad (.int i) (.int i)
  | str (x : Str) : PR K Φ ad (.str x) (.str x)
  | tup {a : Addr} {xs : List PV} {vs : List V} : SqT K Φ a vs → PRs K Φ ad xs vs → PR K Φ ad (.tup xs) (.ref a)
  | lst {a : Addr} {xs : List PV} {vs : List V} : SqL K Φ a vs → PRs K Φ ad xs vs → PR K Φ ad (.lst xs) (.ref a)
  | dct {a : Addr} {ks : List Key} {xs : List PV} {vs : List V} : ks.length = vs.length → Rd Φ a (.dK (ks.zip vs)) → PRs K Φ ad xs vs → PR K Φ ad (.dct ks xs) (.ref a)
  | ref {n : Nat} {a : Addr} : ad[n]? = some a → PR K Φ ad (.ref n) (.ref a)
inductive PRs (K : PySem.W.Frag) (Φ : Hp) (ad : List Addr) : List PV → List V → Prop
  | nil : PRs K Φ ad [] []
  | cons {x : PV} {v : V} {xs : List PV} {vs : List V} : PR K Φ ad x v → PRs K Φ ad xs vs → PRs K Φ ad (x :: xs) (v :: vs)
end
section
variable {K : PySem.W.Frag} {Φ Φ' : Hp} {ad ad' : List Addr}
theorem rd_mono (h : ∀ x o, Φ x = some o → Φ' x = some o) {a : Addr} {u : HO} (r : Rd Φ a u) : Rd Φ' a u := by
  rcases r with r | ⟨o, r⟩
  · exact .inl (h _ _ r)
  · exact .inr ⟨o, h _ _ r⟩
theorem sqT_mono (h : ∀ x o, Φ x = some o → Φ' x = some o) {a : Addr} {xs : List V} (r : SqT K Φ a xs) : SqT K Φ' a xs := r.imp (rd_mono h) id
theorem sqL_mono (h : ∀ x o, Φ x = some o → Φ' x = some o) {a : Addr} {xs : List V} (r : SqL K Φ a xs) : SqL K Φ' a xs := r.imp (rd_mono h) id
mutual
theorem PR.mono (h : ∀ x o, Φ x = some o → Φ' x = some o) (g : ∀ (n : Nat) (a : Addr), ad[n]? = some a → ad'[n]? = some a) : ∀ {x : PV} {v : V}, PR K Φ ad x v → PR K Φ' ad' x v
  | _, _, .non => .non
  | _, _, .bl b => .bl b
  | _, _, .int i => .int i
  | _, _, .str x => .str x
  | _, _, .tup r q => .tup (sqT_mono h r) (PRs.mono h g q)
  | _, _, .lst r q => .lst (sqL_mono h r) (PRs.mono h g q)
  | _, _, .dct e r q => .dct e (rd_mono h r) (PRs.mono h g q)
  | _, _, .ref e => .ref (g _ _ e)
theorem PRs.mono (h : ∀ x o, Φ x = some o → Φ' x = some o) (g : ∀ (n : Nat) (a : Addr), ad[n]? = some a → ad'[n]? = some a) : ∀ {xs : List PV} {vs : List V}, PRs K Φ ad xs vs → PRs K Φ' ad' xs vs
  | _, _, .nil => .nil
  | _, _, .cons r q => .cons (PR.mono h g r) (PRs.mono h g q)
end
theorem PRs.length : ∀ {xs : List PV} {vs : List V}, PRs K Φ ad xs vs → xs.length = vs.length
  | _, _, .nil => rfl
  | _, _, .cons _ q => by rw [List.length_cons, List.length_cons, PRs.length q]
theorem PRs.get : ∀ {xs : List PV} {vs : List V} {i : Nat} {x : PV}, PRs K Φ ad xs vs → xs[i]? = some x → ∃ v, vs[i]? = some v ∧ PR K Φ ad x v
  | _, _, _, _, .nil, e => by simp at e
  | _, _, 0, _, .cons r _, e => by simp at e; subst e; exact ⟨_, rfl, r⟩
  | _, _, i + 1, x, .cons _ q, e => by
    obtain ⟨v, h1, h2⟩ := PRs.get (i := i) (x := x) q (by simpa using e)
    exact ⟨v, by simpa using h1, h2⟩
theorem PRs.getV : ∀ {xs : List PV} {vs : List V} {i : Nat} {v : V}, PRs K Φ ad xs vs → vs[i]? = some v → ∃ x, xs[i]? = some x ∧ PR K Φ ad x v
  | _, _, _, _, .nil, e => by simp at e
  | _, _, 0, _, .cons r _, e => by simp at e; subst e; exact ⟨_, rfl, r⟩
  | _, _, i + 1, x, .cons _ q, e => by
    obtain ⟨v, h1, h2⟩ := PRs.getV (i := i) (v := x) q (by simpa using e)
    exact ⟨v, by simpa using h1, h2⟩
theorem PRs.append : ∀ {xs ys : List PV} {vs us : List V}, PRs K Φ ad xs vs → PRs K Φ ad ys us → PRs K Φ ad (xs ++ ys) (vs ++ us)
  | _, _, _, _, .nil, s => s
  | _, _, _, _, .cons r t, s => .cons r (PRs.append t s)
theorem PRs.take : ∀ {xs : List PV} {vs : List V} (n : Nat), PRs K Φ ad xs vs → PRs K Φ ad (xs.take n) (vs.take n)
  | _, _, 0, _ => .nil
  | _, _, _ + 1, .nil => .nil
  | _, _, n + 1, .cons r t => .cons r (PRs.take n t)
theorem PRs.drop : ∀ {xs : List PV} {vs : List V} (n : Nat), PRs K Φ ad xs vs → PRs K Φ ad (xs.drop n) (vs.drop n)
  | _, _, 0, r => r
  | _, _, _ + 1, .nil => .nil
  | _, _, n + 1, .cons _ t => PRs.drop n t
theorem PRs.set {x : PV} {v : V} (r : PR K Φ ad x v) : ∀ {xs : List PV} {vs : List V} (i : Nat), PRs K Φ ad xs vs → PRs K Φ ad (xs.set i x) (vs.set i v)
  | _, _, _, .nil => .nil
  | _, _, 0, .cons _ t => .cons r t
  | _, _, i + 1, .cons q t => .cons q (PRs.set r i t)
theorem PRs.ints : ∀ ns : List Int, PRs K Φ ad (ns.map PV.int) (ns.map V.int)
  | [] => .nil
  | n :: r => .cons (.int n) (PRs.ints r)
end

/-- a world: what is locked for ever, the abstract heap, where the objects stand -/
structure Wd where
  Φ : Hp
  H : Hp
  ad : List Addr
structure Ext (a b : Wd) : Prop where
  fz : ∀ x o, a.Φ x = some o → b.Φ x = some o
  ix : ∀ (n : Nat) (x : Addr), a.ad[n]? = some x → b.ad[n]? = some x
theorem Ext.refl (a : Wd) : Ext a a := ⟨fun _ _ e => e, fun _ _ e => e⟩
theorem Ext.trans {a b c : Wd} (s : Ext a b) (t : Ext b c) : Ext a c := ⟨fun x o e => t.fz x o (s.fz x o e), fun n x e => t.ix n x (s.ix n x e)⟩
structure Step (a b : Wd) : Prop where
  fz : ∀ x o, a.Φ x = some o → b.Φ x = some o
  ix : ∀ (n : Nat) (x : Addr), a.ad[n]? = some x → b.ad[n]? = some x
  nw : ∀ x ∈ b.ad, x ∈ a.ad ∨ a.H x = none
  kp : ∀ x o, a.H x = some o → x ∉ a.ad → b.H x = some o
  th : ∀ x, a.H x ≠ none → b.H x ≠ none
  fn : ∀ x o, b.Φ x = some o → a.Φ x = some o ∨ a.H x = none
theorem mem_ix {l : List Addr} {x : Addr} (h : x ∈ l) : ∃ n : Nat, l[n]? = some x := by
  obtain ⟨n, hn, e⟩ := List.getElem_of_mem h
  exact ⟨n, by rw [List.getElem?_eq_getElem hn, e]⟩
theorem Step.ext {a b : Wd} (s : Step a b) : Ext a b := ⟨s.fz, s.ix⟩
theorem Step.refl (a : Wd) : Step a a := ⟨fun _ _ e => e, fun _ _ e => e, fun _ h => .inl h, fun _ _ e _ => e, fun _ h => h, fun _ _ e => .inl e⟩
theorem Step.trans {a b c : Wd} (s : Step a b) (t : Step b c) : Step a c where
  fz := fun x o e => t.fz x o (s.fz x o e)
  ix := fun n x e => t.ix n x (s.ix n x e)
  nw := fun x hx => by
    rcases t.nw x hx with h | h
    · exact s.nw x h
    · refine .inr ?_
      cases e : a.H x with
      | none => rfl
      | some o => exact absurd h (s.th x (by rw [e]; simp))
  kp := fun x o e hx => t.kp x o (s.kp x o e hx) fun hb => by
    rcases s.nw x hb with h | h
    · exact hx h
    · rw [e] at h; cases h
  th := fun x h => t.th x (s.th x h)
  fn := fun x o e => by
    rcases t.fn x o e with h | h
    · exact s.fn x o h
    · refine .inr ?_
      cases q : a.H x with
      | none => rfl
      | some o => exact absurd h (s.th x (by rw [q]; simp))
abbrev PW' (S : Sx) (w : Wd) (x : PV) (v : V) : Prop := PR S.K w.Φ w.ad x v
abbrev PWs (S : Sx) (w : Wd) (xs : List PV) (vs : List V) : Prop := PRs S.K w.Φ w.ad xs vs
theorem Ext.pr {S : Sx} {a b : Wd} (s : Ext a b) {x : PV} {v : V} (r : PW' S a x v) : PW' S b x v := PR.mono s.fz s.ix r
theorem Ext.prs {S : Sx} {a b : Wd} (s : Ext a b) {x : List PV} {v : List V} (r : PWs S a x v) : PWs S b x v := PRs.mono s.fz s.ix r
theorem Step.pr {S : Sx} {a b : Wd} (s : Step a b) {x : PV} {v : V} (r : PW' S a x v) : PW' S b x v := PR.mono s.fz s.ix r
theorem Step.prs {S : Sx} {a b : Wd} (s : Step a b) {x : List PV} {v : List V} (r : PWs S a x v) : PWs S b x v := PRs.mono s.fz s.ix r

/-- an object at a -/
def RO (S : Sx) (w : Wd) (a : Addr) : Ob → Prop
  | .lst xs => ∃ vs, w.H a = some (.lst vs) ∧ PWs S w xs vs
  | .dct ks xs => ∃ vs, ks.length = vs.length ∧ w.H a = some (.dK (ks.zip vs)) ∧ PWs S w xs vs
  | .ins c ns xs => ∃ C dx vs, S.cA c = some C ∧ ns.length = vs.length ∧ w.H a = some (.ins C dx (ns.zip vs)) ∧ PWs S w xs vs
theorem RO.there {S : Sx} {w : Wd} {a : Addr} {o : Ob} (h : RO S w a o) : w.H a ≠ none := by
  cases o with
  | lst xs => obtain ⟨vs, e, _⟩ := h; rw [e]; simp
  | dct ks xs => obtain ⟨vs, _, e, _⟩ := h; rw [e]; simp
  | ins c ns xs => obtain ⟨C, dx, vs, _, _, e, _⟩ := h; rw [e]; simp
theorem RO.step {S : Sx} {w w' : Wd} {a : Addr} {o : Ob} (s : Step w w') (h : RO S w a o) (k : ∀ u, w.H a = some u → w'.H a = some u) : RO S w' a o := by
  cases o with
  | lst xs => obtain ⟨vs, e, r⟩ := h; exact ⟨vs, k _ e, s.prs r⟩
  | dct ks xs => obtain ⟨vs, l, e, r⟩ := h; exact ⟨vs, l, k _ e, s.prs r⟩
  | ins c ns xs => obtain ⟨C, dx, vs, c, l, e, r⟩ := h; exact ⟨C, dx, vs, c, l, k _ e, s.prs r⟩
/-- the objects stand -/
structure Hd (S : Sx) (w : Wd) (h : Hh) : Prop where
  sub : ∀ x o, w.Φ x = some o → w.H x = some o
  len : w.ad.length = h.length
  nd : w.ad.Nodup
  sep : ∀ x ∈ w.ad, w.Φ x = none
  obj : ∀ (n : Nat) (o : Ob) (a : Addr), h[n]? = some o → w.ad[n]? = some a → RO S w a o
theorem RO.conv {S S' : Sx} {w : Wd} {a : Addr} {o : Ob} (hK : S.K = S'.K) (hc : S.cA = S'.cA) (h : RO S w a o) : RO S' w a o := by
  obtain ⟨K, cA, e⟩ := S
  obtain ⟨K', cA', e'⟩ := S'
  simp only at hK hc
  subst hK hc
  cases o with
  | lst xs => exact h
  | dct ks xs => exact h
  | ins c ns xs => exact h
theorem Hd.conv {S S' : Sx} {w : Wd} {h : Hh} (hK : S.K = S'.K) (hc : S.cA = S'.cA) (d : Hd S w h) : Hd S' w h := ⟨d.sub, d.len, d.nd, d.sep, fun n o a e f => (d.obj n o a e f).conv hK hc⟩
/-- an exception's own dict -/
def XD (S : Sx) (w : Wd) (d : Option Addr) (x : Xn) : Prop := (x.ns = [] ∧ d = none) ∨ ∃ dd vs, d = some dd ∧ (x.ns ≠ [] ∧ x.ns.length = vs.length) ∧ w.H dd = some (.xd (x.ns.zip vs)) ∧ dd ∉ w.ad ∧ PWs S w x.vs vs
theorem XD.step {S : Sx} {w w' : Wd} {d : Option Addr} {x : Xn} (s : Step w w') (h : XD S w d x) : XD S w' d x := by
  rcases h with h | ⟨dd, vs, e1, e2, e3, e4, e5⟩
  · exact .inl h
  · refine .inr ⟨dd, vs, e1, e2, s.kp _ _ e3 e4, fun hb => ?_, s.prs e5⟩
    rcases s.nw dd hb with k | k
    · exact e4 k
    · rw [e3] at k; cases k
/-- the slots -/
structure Sl (S : Sx) (w0 w : Wd) (env : En) (σ : L2.St) : Prop where
  len : env.length = σ.length
  slot : ∀ (i : Nat) (x : PV), env[i]? = some (.v x) → ∃ v, σ[i]? = some (some v) ∧ PW' S w x v
  own : ∀ (i : Nat) (o : Ob), env[i]? = some (.own o) → ∃ a, σ[i]? = some (some (.ref a)) ∧ RO S w a o ∧ w.Φ a = none ∧ a ∉ w.ad ∧ w0.H a = none
  sep : ∀ (i j : Nat) (o o' : Ob) (a : Addr), env[i]? = some (.own o) → env[j]? = some (.own o') → σ[i]? = some (some (.ref a)) → σ[j]? = some (some (.ref a)) → i = j
  exq : ∀ (i : Nat) (x : Xn), env[i]? = some (.ex x) → σ[i]? = some (some (.ref S.ea)) ∧ XD S w S.ed x
theorem exq_set {S : Sx} {w : Wd} {env : En} {σ : L2.St} (s : ∀ (i : Nat) (x : Xn), env[i]? = some (.ex x) → σ[i]? = some (some (.ref S.ea)) ∧ XD S w S.ed x) (i : Nat) {x : SV} (hx : ∀ y, x ≠ .ex y) (u : Option V) : ∀ (j : Nat) (y : Xn), (env.set i x)[j]? = some (.ex y) → (σ.set i u)[j]? = some (some (.ref S.ea)) ∧ XD S w S.ed y := fun j y e => by
  by_cases hj : i = j
  · subst hj
    by_cases hl : i < env.length
    · rw [List.getElem?_set_self hl] at e; cases e; exact absurd rfl (hx y)
    · rw [List.getElem?_eq_none (by simpa using hl)] at e; cases e
  · rw [List.getElem?_set_ne hj] at e ⊢; exact s j y e
theorem Sl.step {S : Sx} {w0 w w' : Wd} {env : En} {σ : L2.St} (h : Sl S w0 w env σ) (s : Step w w') : Sl S w0 w' env σ where
  len := h.len
  slot := fun i x e => let ⟨v, a, b⟩ := h.slot i x e; ⟨v, a, s.pr b⟩
  own := fun i o e => by
    obtain ⟨a, e1, r, f, n, z⟩ := h.own i o e
    refine ⟨a, e1, r.step s fun u q => s.kp a u q n, ?_, fun hb => ?_, z⟩
    · cases q : w'.Φ a with
      | none => rfl
      | some o' =>
        rcases s.fn a o' q with k | k
        · rw [f] at k; cases k
        · exact absurd k r.there
    · rcases s.nw a hb with k | k
      · exact n k
      · exact absurd k r.there
  sep := h.sep
  exq := fun i x e => ⟨(h.exq i x e).1, (h.exq i x e).2.step s⟩
structure Rl (S : Sx) (w0 w : Wd) (env : En) (h : Hh) (σ : L2.St) : Prop where
  st : Step w0 w
  hd : Hd S w h
  sl : Sl S w0 w env σ
theorem Rl.step {S : Sx} {w0 w w' : Wd} {env : En} {h h' : Hh} {σ : L2.St} (r : Rl S w0 w env h σ) (s : Step w w') (d : Hd S w' h') : Rl S w0 w' env h' σ := ⟨r.st.trans s, d, r.sl.step s⟩
/-- an exception -/
def RX (S : Sx) (w : Wd) (x : Xn) (cls : Value) (d : Option Addr) : Prop :=
  ∃ C, S.cA x.c = some C ∧ cls = .ref C ∧ XD S w d x

/-! ### what follows a result -/
def PostE {α β : Type} (S : Sx) (W : WX) (w : Wd) (σ : L2.St) (R : Wd → Wd → α → β → Prop) (r : Res α) (Q : β → Hp → Prop) : Prop := match r with
  | .ok x h' => ∀ w' v, Step w w' → Hd S w' h' → R w w' x v → Q v w'.H
  | .er x h' => ∀ w' cls d, Step w w' → Hd S w' h' → RX S w' x cls d → W cls d σ w'.H
  | .no => False
/-- a relation of results by the state ahead and the state behind -/
abbrev RR (α β : Type) := Wd → Wd → α → β → Prop
class Back {α β : Type} (R : RR α β) : Prop where
  back : ∀ w w1 w' x v, Step w w1 → R w1 w' x v → R w w' x v
section
variable {α β γ δ : Type} {S : Sx} {W : WX} {w w1 : Wd} {σ : L2.St} {R : RR α β} {R1 : RR γ δ} {Q : β → Hp → Prop} {Q1 : δ → Hp → Prop}
theorem PostE.mono [b : Back R] {r : Res α} (s : Step w w1) (p : PostE S W w σ R r Q) : PostE S W w1 σ R r Q := by
  cases r with
  | ok x h' => exact fun w' v t d q => p w' v (s.trans t) d (b.back _ _ _ _ _ s q)
  | er x h' => exact fun w' c d t e q => p w' c d (s.trans t) e q
  | no => exact p
theorem PostE.bind [Back R] {r : Res γ} {f : γ → Hh → Res α} (p : PostE S W w σ R (r.bind f) Q)
    (k : ∀ x h1 w1 v, Step w w1 → Hd S w1 h1 → R1 w w1 x v → PostE S W w1 σ R (f x h1) Q → Q1 v w1.H) : PostE S W w σ R1 r Q1 := by
  cases r with
  | ok x h1 => exact fun w1 v s d q => k x h1 w1 v s d q (p.mono s)
  | er x h' => exact p
  | no => exact p
theorem PostE.bind0 {r : Res γ} {f : γ → Hh → Res α} (p : PostE S W w σ R (r.bind f) Q)
    (k : ∀ x h1 w1 v, Step w w1 → Hd S w1 h1 → R1 w w1 x v → PostE S W w σ R (f x h1) Q → Q1 v w1.H) : PostE S W w σ R1 r Q1 := by
  cases r with
  | ok x h1 => exact fun w1 v s d q => k x h1 w1 v s d q p
  | er x h' => exact p
  | no => exact p
theorem PostE.fin {x : α} {h : Hh} {v : β} (p : PostE S W w σ R (.ok x h) Q) (d : Hd S w h) (r : R w w x v) : Q v w.H := p w v (Step.refl w) d r
/-- the same results, seen otherwise -/
theorem PostE.imp {R' : RR α β} {r : Res α} (p : PostE S W w σ R r Q) (k : ∀ w' x v, R' w w' x v → R w w' x v) : PostE S W w σ R' r Q := by
  cases r with
  | ok x h' => exact fun w' v t d q => p w' v t d (k _ _ _ q)
  | er x h' => exact p
  | no => exact p
end
/-- a value that may be kept -/
abbrev RV (S : Sx) : RR PV V := fun _ w' x v => PW' S w' x v
abbrev RVs (S : Sx) : RR (List PV) (List V) := fun _ w' x v => PWs S w' x v
abbrev RB : RR Bool Bool := fun _ _ a b => a = b
/-- a value that may be read now: kept, or a list (a dict) of nobody's -/
inductive PB (S : Sx) (w : Wd) : PV → V → Prop
  | val {x : PV} {v : V} : PW' S w x v → PB S w x v
  | lst {a : Addr} {xs : List PV} {vs : List V} : w.H a = some (.lst vs) → a ∉ w.ad → PWs S w xs vs → PB S w (.lst xs) (.ref a)
  | dct {a : Addr} {ks : List Key} {xs : List PV} {vs : List V} : w.H a = some (.dK (ks.zip vs)) → ks.length = vs.length → a ∉ w.ad → PWs S w xs vs → PB S w (.dct ks xs) (.ref a)
abbrev RBo (S : Sx) : RR PV V := fun _ w' x v => PB S w' x v
/-- a new list, nobody's -/
abbrev RN (S : Sx) : RR (List PV) V := fun w w' xs v => ∃ a vs, v = .ref a ∧ w'.H a = some (.lst vs) ∧ PWs S w' xs vs ∧ a ∉ w'.ad ∧ w'.Φ a = none ∧ w.H a = none
theorem Step.fr {a b : Wd} (s : Step a b) {x : Addr} (h : b.H x = none) : a.H x = none := by
  cases q : a.H x with
  | none => rfl
  | some o => exact absurd h (s.th x (by rw [q]; simp))
instance {S : Sx} : Back (RV S) := ⟨fun _ _ _ _ _ _ h => h⟩
instance {S : Sx} : Back (RVs S) := ⟨fun _ _ _ _ _ _ h => h⟩
instance : Back RB := ⟨fun _ _ _ _ _ _ h => h⟩
instance {S : Sx} : Back (RBo S) := ⟨fun _ _ _ _ _ _ h => h⟩
instance {S : Sx} : Back (RN S) := ⟨fun _ _ _ _ _ s ⟨a, vs, e, h, r, n, f, z⟩ => ⟨a, vs, e, h, r, n, f, s.fr z⟩⟩
theorem PB.step {S : Sx} {w w' : Wd} {x : PV} {v : V} (s : Step w w') (h : PB S w x v) : PB S w' x v := by
  cases h with
  | val r => exact .val (s.pr r)
  | @lst a xs vs e n r =>
    refine .lst (s.kp _ _ e n) (fun hb => ?_) (s.prs r)
    rcases s.nw _ hb with k | k
    · exact n k
    · rw [e] at k; cases k
  | @dct a ks xs vs e l n r =>
    refine .dct (s.kp _ _ e n) l (fun hb => ?_) (s.prs r)
    rcases s.nw _ hb with k | k
    · exact n k
    · rw [e] at k; cases k
/-- what follows a statement -/
def PostS (S : Sx) (W : WX) (w0 w : Wd) (r : SR) (D : Ends) : Prop := match r with
  | .nx env h => ∀ w' σ', Ext w w' → Rl S w0 w' env h σ' → D.nx σ' w'.H
  | .rt x h => ∀ w' v, Step w0 w' → Hd S w' h → PW' S w' x v → D.rt v w'.H
  | .bk env h => ∀ w' σ', Ext w w' → Rl S w0 w' env h σ' → D.bk σ' w'.H
  | .ct env h => ∀ w' σ', Ext w w' → Rl S w0 w' env h σ' → D.ct σ' w'.H
  | .er x env h => ∀ w' σ' cls d, Ext w w' → Rl S w0 w' env h σ' → RX S w' x cls d → W cls d σ' w'.H
  | .no => False
section
variable {S : Sx} {w : Wd} {h : Hh} {v : V}
theorem Hd.sqT (d : Hd S w h) {a : Addr} {xs : List V} (r : SqT S.K w.Φ a xs) : SqT S.K w.H a xs := sqT_mono d.sub r
theorem Hd.sqL (d : Hd S w h) {a : Addr} {xs : List V} (r : SqL S.K w.Φ a xs) : SqL S.K w.H a xs := sqL_mono d.sub r
theorem PB.ofNon (p : PB S w .non v) : v = .non := by cases p with | val r => cases r; rfl
theorem PB.ofBl {b : Bool} (p : PB S w (.bl b) v) : v = .bl b := by cases p with | val r => cases r; rfl
theorem PB.ofInt {b : Int} (p : PB S w (.int b) v) : v = .int b := by cases p with | val r => cases r; rfl
theorem PB.ofStr {b : Str} (p : PB S w (.str b) v) : v = .str b := by cases p with | val r => cases r; rfl
theorem PB.ofTup {xs : List PV} (d : Hd S w h) (p : PB S w (.tup xs) v) : ∃ a vs, v = .ref a ∧ SqT S.K w.H a vs ∧ PWs S w xs vs := by
  cases p with
  | val r => cases r with | tup q t => exact ⟨_, _, rfl, d.sqT q, t⟩
theorem PB.ofLst {xs : List PV} (d : Hd S w h) (p : PB S w (.lst xs) v) : ∃ a vs, v = .ref a ∧ SqL S.K w.H a vs ∧ PWs S w xs vs := by
  cases p with
  | val r => cases r with | lst q t => exact ⟨_, _, rfl, d.sqL q, t⟩
  | lst e n r => exact ⟨_, _, rfl, SqL.of e, r⟩
theorem PB.ofDct {ks : List Key} {xs : List PV} (d : Hd S w h) (p : PB S w (.dct ks xs) v) : ∃ a vs, v = .ref a ∧ ks.length = vs.length ∧ Rd w.H a (.dK (ks.zip vs)) ∧ PWs S w xs vs := by
  cases p with
  | val r => cases r with | dct l q t => exact ⟨_, _, rfl, l, rd_mono d.sub q, t⟩
  | dct e l n r => exact ⟨_, _, rfl, l, .inl e, r⟩
theorem PB.ofRef {n : Nat} (p : PB S w (.ref n) v) : ∃ a, v = .ref a ∧ w.ad[n]? = some a := by
  cases p with
  | val r => cases r with | ref e => exact ⟨_, rfl, e⟩
/-- the object of a ref -/
theorem Hd.at (d : Hd S w h) {n : Nat} {o : Ob} {a : Addr} (e : h[n]? = some o) (f : w.ad[n]? = some a) : RO S w a o := d.obj n o a e f
/-- a new locked object -/
def Wd.lock (w : Wd) (a : Addr) (o : HO) : Wd := ⟨upd w.Φ a o, upd w.H a o, w.ad⟩
theorem Hd.fresh (d : Hd S w h) {a : Addr} (z : w.H a = none) : w.Φ a = none := by
  cases e : w.Φ a with
  | none => rfl
  | some o => rw [d.sub a o e] at z; cases z
theorem Hd.notAd (d : Hd S w h) {a : Addr} (z : w.H a = none) : a ∉ w.ad := fun hm => by
  obtain ⟨n, e⟩ := mem_ix hm
  have hn : n < h.length := by rw [← d.len]; exact (List.getElem?_eq_some_iff.mp e).1
  exact (d.obj n _ a (List.getElem?_eq_getElem hn) e).there z
theorem upd_sub {Φ H : Hp} {a : Addr} {o : HO} (s : ∀ x o, Φ x = some o → H x = some o) : ∀ x u, upd Φ a o x = some u → upd H a o x = some u := fun x u e => by
  by_cases hx : x = a
  · subst hx; rw [upd_same] at e ⊢; exact e
  · rw [upd_ne hx] at e ⊢; exact s x u e
theorem Step.lock (d : Hd S w h) {a : Addr} {o : HO} (z : w.H a = none) : Step w (w.lock a o) where
  fz := fun x u e => by
    show upd w.Φ a o x = some u
    have : x ≠ a := fun q => by rw [q, d.fresh z] at e; cases e
    rw [upd_ne this]; exact e
  ix := fun _ _ e => e
  nw := fun _ hx => .inl hx
  kp := fun x u e _ => by
    show upd w.H a o x = some u
    have : x ≠ a := fun q => by rw [q, z] at e; cases e
    rw [upd_ne this]; exact e
  th := fun x e => by
    show upd w.H a o x ≠ Option.none
    by_cases hx : x = a
    · subst hx; rw [upd_same]; simp
    · rw [upd_ne hx]; exact e
  fn := fun x u e => by
    by_cases hx : x = a
    · subst hx; exact .inr z
    · have e' : upd w.Φ a o x = some u := e
      rw [upd_ne hx] at e'; exact .inl e'
theorem Hd.lock (d : Hd S w h) {a : Addr} {o : HO} (z : w.H a = none) : Hd S (w.lock a o) h where
  sub := upd_sub d.sub
  len := d.len
  nd := d.nd
  sep := fun x hx => by
    show upd w.Φ a o x = Option.none
    have : x ≠ a := fun q => d.notAd z (by rw [← q]; exact hx)
    rw [upd_ne this]; exact d.sep x hx
  obj := fun n ob x e f => (d.obj n ob x e f).step (Step.lock d z) fun u q => by
    show upd w.H a o x = some u
    have : x ≠ a := fun hq => by rw [hq, z] at q; cases q
    rw [upd_ne this]; exact q
/-- a new object that may be changed: the heap grows -/
def Wd.more (w : Wd) (a : Addr) (o : HO) : Wd := ⟨w.Φ, upd w.H a o, w.ad ++ [a]⟩
/-- a new object of nobody's -/
def Wd.put (w : Wd) (a : Addr) (o : HO) : Wd := ⟨w.Φ, upd w.H a o, w.ad⟩
end
end Mir

set_option Elab.async false
set_option linter.all false
set_option maxRecDepth 100000
namespace Mir
open PySem PySem.Spec PyProof.Rows L2

/-! ### a family of contexts: one term for all of them -/
structure Fam where
  ι : Type
  P : Program
  w : World
  K : PySem.W.Frag
  mg : Str → Option Value
  base : Heap
  N : List Str
  calm : Bool
  cA : Str → Option Addr
  ea : Addr
  ed : Option Addr
  k : Nat
  A : ι → Around
  s0 : ι → Shared
  H0 : ι → Hp
  env : ι → PySem.Env
  outer : ι → List PySem.Env
  stack : ι → List PySem.Env
  ex : ι → List Addr
  fn : ι → Str → Bool
  pn : ι → List (Addr × Obj)
  xe : ι → Value → Shared → Prop
  W : ι → WX
def Fam.X (F : Fam) (i : F.ι) : Cx where
  prog := F.P
  w := F.w
  K := F.K
  mg := F.mg
  base := F.base
  A := F.A i
  N := F.N
  s_0 := F.s0 i
  H_0 := F.H0 i
  env := F.env i
  outer := F.outer i
  stack := F.stack i
  ex := F.ex i
  fn := F.fn i
  calm := F.calm
  pn := F.pn i
  xe := F.xe i
abbrev Fam.S (F : Fam) : Sx := ⟨F.K, F.cA, F.ea, F.ed⟩
structure Fam.Ok (F : Fam) : Prop where
  tk : ∀ i, Takes (F.X i) (F.W i)
  hr : ∀ i, Room F.k (F.A i)
  nd : F.N.Nodup
  po : ∀ i, PassesOwn (model F.P F.w) (F.A i) (F.env i) (F.xe i)

/-! ### the judgements: a rule's term, its reading, its mirror -/
def RdG {α β : Type} (S : Sx) (R : RR α β) (W : WX) (t : L2.St → Hp → (β → Hp → Prop) → Prop) (m : En → Hh → Res α) : Prop :=
  ∀ (w0 w : Wd) (env : En) (h : Hh) (σ : L2.St) (Q : β → Hp → Prop), Rl S w0 w env h σ → PostE S W w σ R (m env h) Q → t σ w.H Q
/-- a value that may be kept -/
def SE (F : Fam) (e : Expr) (m : ME) : Prop := ∃ t : WX → TE, (∀ i, PE (F.X i) e (t (F.W i))) ∧ ∀ W, RdG F.S (RV F.S) W (t W) m
/-- a value that is read at once -/
def SB (F : Fam) (e : Expr) (m : ME) : Prop := ∃ t : WX → TE, (∀ i, PE (F.X i) e (t (F.W i))) ∧ ∀ W, RdG F.S (RBo F.S) W (t W) m
/-- a new list -/
def SN (F : Fam) (e : Expr) (m : MA) : Prop := ∃ t : WX → TE, (∀ i, PE (F.X i) e (t (F.W i))) ∧ ∀ W, RdG F.S (RN F.S) W (t W) m
/-- a test -/
def ST (F : Fam) (e : Expr) (m : MT) : Prop := ∃ t : WX → TT, (∀ i, PT (F.X i) e (t (F.W i))) ∧ ∀ W, RdG F.S RB W (t W) m
def SW (F : Fam) (e : Expr) (m : MT) : Prop := ∃ t : WX → TT, (∀ i, PW (F.X i) e (t (F.W i))) ∧ ∀ W, RdG F.S RB W (t W) m
/-- arguments that may be kept; that are read at once -/
def SA (F : Fam) (es : List Expr) (m : MA) : Prop := ∃ t : WX → TA, (∀ i, PA (F.X i) es (t (F.W i))) ∧ ∀ W, RdG F.S (RVs F.S) W (t W) m
inductive PBs (S : Sx) (w : Wd) : List PV → List V → Prop
  | nil : PBs S w [] []
  | cons {x : PV} {v : V} {xs : List PV} {vs : List V} : PB S w x v → PBs S w xs vs → PBs S w (x :: xs) (v :: vs)
abbrev RBs (S : Sx) : RR (List PV) (List V) := fun _ w' x v => PBs S w' x v
instance {S : Sx} : Back (RBs S) := ⟨fun _ _ _ _ _ _ h => h⟩
def SAB (F : Fam) (es : List Expr) (m : MA) : Prop := ∃ t : WX → TA, (∀ i, PA (F.X i) es (t (F.W i))) ∧ ∀ W, RdG F.S (RBs F.S) W (t W) m
theorem PBs.step {S : Sx} {w w' : Wd} (s : Step w w') : ∀ {xs : List PV} {vs : List V}, PBs S w xs vs → PBs S w' xs vs
  | _, _, .nil => .nil
  | _, _, .cons r t => .cons (r.step s) (PBs.step s t)

section
variable {F : Fam} {e ea eb ec : Expr} {pos : Pos}
theorem SE.b {m : ME} (h : SE F e m) : SB F e m := by
  obtain ⟨t, p, q⟩ := h
  exact ⟨t, p, fun W w0 w env h σ Q r po => q W w0 w env h σ Q r (po.imp fun _ _ _ z => .val z)⟩
def mFz (m : MA) : ME := fun env h => (m env h).bind fun xs h => .ok (.lst xs) h
/-- a new list that nobody has, locked -/
theorem lockN {S : Sx} {w0 w : Wd} {h : Hh} {a : Addr} {vs : List V} (d : Hd S w h) (e : w.H a = some (.lst vs)) (n : a ∉ w.ad) (f : w.Φ a = none) (z : w0.H a = none) (s : Step w0 w) :
    ∃ w', w'.H = w.H ∧ Step w0 w' ∧ Ext w w' ∧ Hd S w' h ∧ SqL S.K w'.Φ a vs ∧ w'.ad = w.ad := by
  refine ⟨⟨upd w.Φ a (.lst vs), w.H, w.ad⟩, rfl, ?_, ?_, ?_, .inl (.inl upd_same), rfl⟩
  · refine ⟨fun x o q => ?_, s.ix, s.nw, s.kp, s.th, fun x o q => ?_⟩
    · show upd w.Φ a (.lst vs) x = some o
      have : x ≠ a := fun hx => by rw [hx] at q; have := s.fz _ _ q; rw [f] at this; cases this
      rw [upd_ne this]; exact s.fz x o q
    · by_cases hx : x = a
      · subst hx; exact .inr z
      · have q' : upd w.Φ a (.lst vs) x = some o := q
        rw [upd_ne hx] at q'; exact s.fn x o q'
  · refine ⟨fun x o q => ?_, fun _ _ q => q⟩
    show upd w.Φ a (.lst vs) x = some o
    have : x ≠ a := fun hx => by rw [hx, f] at q; cases q
    rw [upd_ne this]; exact q
  · have ex : Ext w ⟨upd w.Φ a (.lst vs), w.H, w.ad⟩ := by
      refine ⟨fun x o q => ?_, fun _ _ q => q⟩
      show upd w.Φ a (.lst vs) x = some o
      have : x ≠ a := fun hx => by rw [hx, f] at q; cases q
      rw [upd_ne this]; exact q
    refine ⟨fun x o q => ?_, d.len, d.nd, fun x hx => ?_, fun k o x p q => ?_⟩
    · by_cases hx : x = a
      · subst hx
        have q' : upd w.Φ x (.lst vs) x = some o := q
        rw [upd_same] at q'; cases q'; exact e
      · have q' : upd w.Φ a (.lst vs) x = some o := q
        rw [upd_ne hx] at q'; exact d.sub x o q'
    · show upd w.Φ a (.lst vs) x = none
      have : x ≠ a := fun hq => n (by rw [← hq]; exact hx)
      rw [upd_ne this]; exact d.sep x hx
    · have r := d.obj k o x p q
      cases o with
      | lst xs => obtain ⟨us, e1, r1⟩ := r; exact ⟨us, e1, ex.prs r1⟩
      | dct ks xs => obtain ⟨us, l1, e1, r1⟩ := r; exact ⟨us, l1, e1, ex.prs r1⟩
      | ins cc ns xs => obtain ⟨C, dx, us, c1, l1, e1, r1⟩ := r; exact ⟨C, dx, us, c1, l1, e1, ex.prs r1⟩
theorem SN.fz {m : MA} (h : SN F e m) : SE F e (mFz m) := by
  obtain ⟨t, p, q⟩ := h
  refine ⟨t, p, fun W w0 w env h σ Q r po => q W w0 w env h σ Q r (PostE.bind0 po fun xs h1 w1 v s d ⟨a, vs, ev, ea, rs, n, f, z⟩ p1 => ?_)⟩
  subst ev
  obtain ⟨w2, eH, s2, x2, d2, sq, ead⟩ := lockN d ea n f z s
  rw [← eH]
  exact p1 w2 _ s2 d2 (.lst sq (x2.prs rs))
theorem SN.b {m : MA} (h : SN F e m) : SB F e (mFz m) := by
  obtain ⟨t, p, q⟩ := h
  refine ⟨t, p, fun W w0 w env h σ Q r po => q W w0 w env h σ Q r (PostE.bind0 po fun xs h1 w1 v s d ⟨a, vs, ev, ea, rs, n, f, z⟩ p1 => ?_)⟩
  subst ev
  exact p1 w1 _ s d (.lst ea n rs)
/-- a new list that may be changed, as an object -/
def mRf (m : MA) : ME := fun env h => (m env h).bind fun xs h => .ok (.ref h.length) (h ++ [.lst xs])
theorem SN.rf {m : MA} (h : SN F e m) : SE F e (mRf m) := by
  obtain ⟨t, p, q⟩ := h
  refine ⟨t, p, fun W w0 w env h σ Q r po => q W w0 w env h σ Q r (PostE.bind0 po fun xs h1 w1 v s d ⟨a, vs, ev, ea, rs, n, f, z⟩ p1 => ?_)⟩
  subst ev
  have ix : ∀ (k : Nat) (x : Addr), w1.ad[k]? = some x → (w1.ad ++ [a])[k]? = some x := fun k x q => by
    rw [List.getElem?_append_left (List.getElem?_eq_some_iff.mp q).1]; exact q
  refine p1 ⟨w1.Φ, w1.H, w1.ad ++ [a]⟩ (.ref a) ⟨s.fz, fun k x q => ix k x (s.ix k x q), fun x hx => ?_, s.kp, s.th, s.fn⟩ ⟨d.sub, ?_, ?_, fun x hx => ?_, fun k o x e1 e2 => ?_⟩ (.ref ?_)
  · rcases List.mem_append.mp hx with hx | hx
    · exact s.nw x hx
    · rw [List.mem_singleton.mp hx]; exact .inr z
  · rw [List.length_append, List.length_append, d.len]; rfl
  · exact List.nodup_append.mpr ⟨d.nd, by simp, fun x hx y hy => by rw [List.mem_singleton.mp hy]; exact fun q => n (q ▸ hx)⟩
  · rcases List.mem_append.mp hx with hx | hx
    · exact d.sep x hx
    · rw [List.mem_singleton.mp hx]; exact f
  · by_cases hk : k < h1.length
    · rw [List.getElem?_append_left hk] at e1
      have hk' : k < w1.ad.length := by rw [d.len]; exact hk
      have e2' : w1.ad[k]? = some x := by
        have : (w1.ad ++ [a])[k]? = some x := e2
        rw [List.getElem?_append_left hk'] at this; exact this
      have r := d.obj k o x e1 e2'
      cases o with
      | lst xs => obtain ⟨us, g1, r1⟩ := r; exact ⟨us, g1, r1.mono (fun _ _ q => q) ix⟩
      | dct ks xs => obtain ⟨us, l1, g1, r1⟩ := r; exact ⟨us, l1, g1, r1.mono (fun _ _ q => q) ix⟩
      | ins cc ns xs => obtain ⟨C, dx, us, c1, l1, g1, r1⟩ := r; exact ⟨C, dx, us, c1, l1, g1, r1.mono (fun _ _ q => q) ix⟩
    · have hl := (List.getElem?_eq_some_iff.mp e1).1
      rw [List.length_append] at hl
      have hk2 : k = h1.length := by simp at hl; omega
      subst hk2
      rw [List.getElem?_append_right (Nat.le_refl _), Nat.sub_self] at e1
      have e2' : (w1.ad ++ [a])[h1.length]? = some x := e2
      rw [← d.len, List.getElem?_append_right (Nat.le_refl _), Nat.sub_self] at e2'
      cases e1; cases e2'
      exact ⟨vs, ea, rs.mono (fun _ _ q => q) ix⟩
  · show (w1.ad ++ [a])[h1.length]? = some a
    rw [← d.len, List.getElem?_append_right (Nat.le_refl _), Nat.sub_self]; rfl
end

/-! ### names, constants -/
def mVar (i : Nat) : ME := fun env h => match env[i]? with
  | some (.v x) => .ok x h
  | _ => .no
def mOwn (i : Nat) : ME := fun env h => match env[i]? with
  | some (.v x) => .ok x h
  | some (.own (.lst xs)) => .ok (.lst xs) h
  | some (.own (.dct ks vs)) => .ok (.dct ks vs) h
  | _ => .no
def mC (x : PV) : ME := fun _ h => .ok x h
section
variable {F : Fam} {e ea eb ec : Expr} {pos : Pos}
theorem se_var (i : Nat) {x : Str} (hN : F.N[i]? = some x := by rfl) (hv : ∀ j, Vis (F.env j).scope x := by first | exact fun _ => Or.inl rfl | exact fun _ => Or.inr (Or.inl rfl) | exact fun _ => Or.inr (Or.inr rfl))
    (hd : (x == ("__debug__" : Str)) = false := by decide) (hcd : (x == ("__classdict__" : Str)) = false := by decide) : SE F (.Name x pos) (mVar i) := by
  refine ⟨fun _ => tVar i, fun j => pe_var (X := F.X j) hN (hv j) hd hcd, fun W w0 w env h σ Q r po => ?_⟩
  unfold mVar at po
  split at po
  · rename_i x e
    obtain ⟨v, e1, pr⟩ := r.sl.slot i x e
    exact ⟨v, e1, po.fin r.hd pr⟩
  · exact po.elim
theorem sb_var (i : Nat) {x : Str} (hN : F.N[i]? = some x := by rfl) (hv : ∀ j, Vis (F.env j).scope x := by first | exact fun _ => Or.inl rfl | exact fun _ => Or.inr (Or.inl rfl) | exact fun _ => Or.inr (Or.inr rfl))
    (hd : (x == ("__debug__" : Str)) = false := by decide) (hcd : (x == ("__classdict__" : Str)) = false := by decide) : SB F (.Name x pos) (mOwn i) := by
  refine ⟨fun _ => tVar i, fun j => pe_var (X := F.X j) hN (hv j) hd hcd, fun W w0 w env h σ Q r po => ?_⟩
  unfold mOwn at po
  split at po
  · rename_i x e
    obtain ⟨v, e1, pr⟩ := r.sl.slot i x e
    exact ⟨v, e1, po.fin r.hd (.val pr)⟩
  · rename_i xs e
    obtain ⟨a, e1, ⟨vs, ea, rs⟩, f, n, z⟩ := r.sl.own i _ e
    exact ⟨_, e1, po.fin r.hd (.lst ea n rs)⟩
  · rename_i ks xs e
    obtain ⟨a, e1, ⟨vs, l, ea, rs⟩, f, n, z⟩ := r.sl.own i _ e
    exact ⟨_, e1, po.fin r.hd (.dct ea l n rs)⟩
  · exact po.elim
theorem se_const {x : PV} {v : V} (hp : ∀ i, PE (F.X i) e (tC v)) (hr : ∀ w, PW' F.S w x v) : SE F e (mC x) :=
  ⟨fun _ => tC v, hp, fun W w0 w env h σ Q r po => PostE.fin po r.hd (hr w)⟩
theorem se_int {i : Int} {j} : SE F (.Constant (.int i) j pos) (mC (.int i)) := se_const (fun _ => pe_int) fun _ => .int i
theorem se_bl {b : Bool} {j} : SE F (.Constant (.bool b) j pos) (mC (.bl b)) := se_const (fun _ => pe_bl) fun _ => .bl b
theorem se_non {j} : SE F (.Constant .none j pos) (mC .non) := se_const (fun _ => pe_non) fun _ => .non
theorem se_str {x : Str} {j} : SE F (.Constant (.str x) j pos) (mC (.str x)) := se_const (fun _ => pe_str) fun _ => .str x
/-- a module's constant: an int, a text -/
theorem se_gint {x : Str} {i : Int} {t : Tok} (hm : F.mg x = some (.int i t)) (hg : ∀ j, Gl (F.X j) x := by intro _; rfl) (hd : (x == ("__debug__" : Str)) = false := by decide) : SE F (.Name x pos) (mC (.int i)) :=
  se_const (fun j => pe_glob (v := V.int i) (hg j) hm ⟨t, rfl⟩ hd) fun _ => .int i
theorem se_gstr {x y : Str} {t : Tok} (hm : F.mg x = some (.str y t)) (hg : ∀ j, Gl (F.X j) x := by intro _; rfl) (hd : (x == ("__debug__" : Str)) = false := by decide) : SE F (.Name x pos) (mC (.str y)) :=
  se_const (fun j => pe_glob (v := V.str y) (hg j) hm ⟨t, rfl⟩ hd) fun _ => .str y

/-! ### operations -/
def mOp (f : PV → PV → Hh → Res PV) (ma mb : ME) : ME := fun env h => (ma env h).bind fun x h => (mb env h).bind fun y h => f x y h
def mUn (f : PV → Hh → Res PV) (ma : ME) : ME := fun env h => (ma env h).bind fun x h => f x h
/-- an operation by values does what its mirror says -/
def Sim2 (S : Sx) (r : R2) (f : PV → PV → Hh → Res PV) : Prop := ∀ (W : WX) (σ : L2.St) (w : Wd) (h : Hh) (x y : PV) (v u : V) (Q : VK), Hd S w h → PB S w x v → PB S w y u → PostE S W w σ (RV S) (f x y h) Q → r v u w.H Q
def Sim1 (S : Sx) (r : V → Hp → VK → Prop) (f : PV → Hh → Res PV) : Prop := ∀ (W : WX) (σ : L2.St) (w : Wd) (h : Hh) (x : PV) (v : V) (Q : VK), Hd S w h → PB S w x v → PostE S W w σ (RV S) (f x h) Q → r v w.H Q
theorem rd_op {S : Sx} {W : WX} {ta tb : TE} {ma mb : ME} {r : R2} {f : PV → PV → Hh → Res PV} (hf : Sim2 S r f) (qa : RdG S (RBo S) W ta ma) (qb : RdG S (RBo S) W tb mb) : RdG S (RV S) W (tOp r ta tb) (mOp f ma mb) :=
  fun w0 w env h σ Q rl po => qa w0 w env h σ _ rl (PostE.bind po fun x h1 w1 v s1 d1 p1 po1 =>
    qb w0 w1 env h1 σ _ (rl.step s1 d1) (PostE.bind po1 fun y h2 w2 u s2 d2 p2 po2 => hf W σ w2 h2 x y v u Q d2 (p1.step s2) p2 po2))
theorem se_op {op : Operator} {ma mb : ME} {r : R2} {f : PV → PV → Hh → Res PV} (hf : Sim2 F.S r f) (ho : ∀ i, OpR (F.X i) (binaryOp op) r) (ha : SB F ea ma) (hb : SB F eb mb) : SE F (.BinOp ea op eb pos) (mOp f ma mb) := by
  obtain ⟨ta, pa, qa⟩ := ha
  obtain ⟨tb, pb, qb⟩ := hb
  exact ⟨fun W => tOp r (ta W) (tb W), fun i => pe_op (ho i) (pa i) (pb i), fun W => rd_op hf (qa W) (qb W)⟩
theorem se_un {op : UnaryOp} {ma : ME} {r : V → Hp → VK → Prop} {f : PV → Hh → Res PV} (hf : Sim1 F.S r f) (ho : ∀ i, UnR (F.X i) (unaryOp op) r) (ha : SB F ea ma) : SE F (.UnaryOp op ea pos) (mUn f ma) := by
  obtain ⟨ta, pa, qa⟩ := ha
  exact ⟨fun W => tUn r (ta W), fun i => pe_un (ho i) (pa i), fun W w0 w env h σ Q rl po => qa W w0 w env h σ _ rl (PostE.bind po fun x h1 w1 v s1 d1 p1 po1 => hf W σ w1 h1 x v Q d1 p1 po1)⟩
/-- a comparison as a value, as a test -/
theorem se_cmp {op : CmpOp} {ma mb : ME} {r : R2} {f : PV → PV → Hh → Res PV} (hf : Sim2 F.S r f) (ho : ∀ i, OpR (F.X i) (compareOp op) r) (ha : SB F ea ma) (hb : SB F eb mb)
    (hm : behindInMarks op eb = false := by first | exact nomark _ | rfl) : SE F (.Compare ea [op] [eb] pos) (mOp f ma mb) := by
  obtain ⟨ta, pa, qa⟩ := ha
  obtain ⟨tb, pb, qb⟩ := hb
  exact ⟨fun W => tOp r (ta W) (tb W), fun i => pe_cmpR (ho i) (pa i) (pb i) hm, fun W => rd_op hf (qa W) (qb W)⟩
def toT (m : ME) : MT := fun env h => (m env h).bind fun x h => match x with
  | .bl b => .ok b h
  | _ => .no
theorem rd_test {S : Sx} {W : WX} {t : TE} {m : ME} (q : RdG S (RV S) W t m) : RdG S RB W (tTest t) (toT m) :=
  fun w0 w env h σ Q rl po => q w0 w env h σ _ rl (PostE.bind po fun x h1 w1 v s1 d1 p1 po1 => by
    cases x with
    | bl b => cases p1; exact ⟨b, rfl, po1.fin d1 rfl⟩
    | non => exact po1.elim
    | int _ => exact po1.elim
    | str _ => exact po1.elim
    | tup _ => exact po1.elim
    | lst _ => exact po1.elim
    | dct _ _ => exact po1.elim
    | ref _ => exact po1.elim)
theorem st_cmp {op : CmpOp} {ma mb : ME} {r : R2} {f : PV → PV → Hh → Res PV} (hf : Sim2 F.S r f) (ho : ∀ i, OpR (F.X i) (compareOp op) r) (ha : SB F ea ma) (hb : SB F eb mb)
    (hm : behindInMarks op eb = false := by first | exact nomark _ | rfl) : ST F (.Compare ea [op] [eb] pos) (toT (mOp f ma mb)) := by
  obtain ⟨ta, pa, qa⟩ := ha
  obtain ⟨tb, pb, qb⟩ := hb
  exact ⟨fun W => tTest (tOp r (ta W) (tb W)), fun i => pt_cmpR (ho i) (pa i) (pb i) hm, fun W => rd_test (rd_op hf (qa W) (qb W))⟩
end
end Mir

set_option Elab.async false
set_option linter.all false
set_option maxRecDepth 100000
set_option maxHeartbeats 1000000
namespace Mir
open PySem PySem.Spec PyProof.Rows L2

/-! ### ints -/
abbrev LIM : Nat := 16777216
theorem lim_line {n : Nat} (h : n ≤ 16777216) : n ≤ sizeLine := by rw [sizeLine_eq]; exact h
def mulOk (i j : Int) : Bool := decide (i.natAbs < 2 ^ 64) || decide (j.natAbs < 2 ^ 64) || decide (i.natAbs.log2 + j.natAbs.log2 < 130000000)
theorem mulOk_ok {i j : Int} (h : mulOk i j = true) : IntMulOk i j := by
  unfold mulOk at h
  simp only [Bool.or_eq_true, decide_eq_true_eq] at h
  rcases h with (h | h) | h
  · exact CMul.ok (.inl (by omega))
  · exact CMul.ok (.inr (by omega))
  · have b : ∀ x : Int, Builtin.Int.intBits x ≤ x.natAbs.log2 + 1 := fun x => by
      unfold Builtin.Int.intBits
      split <;> omega
    have h1 := b i
    have h2 := b j
    have e : bitsLine = 134217728 := by decide
    unfold IntMulOk
    intro z
    rw [Bool.and_eq_true] at z
    have z2 := z.2
    unfold Builtin.Int.intTooBig at z2
    have z3 := of_decide_eq_true z2
    rw [e] at z3
    omega
def CMulA (i j : Int) : Prop := mulOk i j = true
/-- // by a positive divisor -/
def divOk (j : Int) : Bool := decide (0 < j) && decide (j.natAbs.log2 < 9000)
def shlOk (i j : Int) : Bool := decide (0 ≤ j) && decide ((i.natAbs.log2 : Int) + j < 100000000)
def powOk (i j : Int) : Bool := decide (0 ≤ j) && decide (j ≤ 1000000) && decide (i.natAbs < 2 ^ 64)
section
variable {X : Cx}
theorem op_mulA : OpR X (binaryOp .Mult) (rI CMulA fun i j => .int (i * j)) := opI fun _ _ _ _ _ _ _ hc q => mul_int q (mulOk_ok hc)
theorem op_shlA : OpR X (binaryOp .LShift) (rI (fun i j => shlOk i j = true) fun i j => .int (i * 2 ^ j.toNat)) := opI fun i j _ _ _ _ _ hc q => by
  unfold shlOk at hc
  simp only [Bool.and_eq_true, decide_eq_true_eq] at hc
  refine lshift_int hc.1 ?_ q
  have b : Builtin.Int.intBits i ≤ i.natAbs.log2 + 1 := by
    unfold Builtin.Int.intBits
    split <;> omega
  omega
end
def oI (c : Int → Int → Bool) (g : Int → Int → PV) : PV → PV → Hh → Res PV := fun x y h => match x, y with
  | .int i, .int j => if c i j = true then .ok (g i j) h else .no
  | _, _ => .no
theorem sim_I {S : Sx} {C : Int → Int → Prop} {c : Int → Int → Bool} {g : Int → Int → V} {g' : Int → Int → PV} (hc : ∀ i j, c i j = true → C i j) (hg : ∀ (w : Wd) i j, PW' S w (g' i j) (g i j)) : Sim2 S (rI C g) (oI c g') := by
  intro W σ w h x y v u Q d px py po
  unfold oI at po
  split at po
  · rename_i i j
    split at po
    · rename_i hcc
      exact ⟨i, j, px.ofInt, py.ofInt, hc i j hcc, po.fin d (hg w i j)⟩
    · exact po.elim
  · exact po.elim
theorem sim_I0 {S : Sx} {g : Int → Int → V} {g' : Int → Int → PV} (hg : ∀ (w : Wd) i j, PW' S w (g' i j) (g i j)) : Sim2 S (rI0 g) (oI (fun _ _ => true) g') := by
  intro W σ w h x y v u Q d px py po
  unfold oI at po
  split at po
  · rename_i i j
    exact ⟨i, j, px.ofInt, py.ofInt, po.fin d (hg w i j)⟩
  · exact po.elim
/-- two readings of one operation, by what the operands are -/
theorem Sim2.or {S : Sx} {r r' : R2} {f f' : PV → PV → Hh → Res PV} (h : Sim2 S r f) (h' : Sim2 S r' f') {f2 : PV → PV → Hh → Res PV}
    (e : ∀ x y H, f2 x y H = f x y H ∨ f2 x y H = f' x y H) : Sim2 S (fun x y H Q => r x y H Q ∨ r' x y H Q) f2 := by
  intro W σ w H x y v u Q d px py po
  rcases e x y H with q | q
  · rw [q] at po; exact .inl (h W σ w H x y v u Q d px py po)
  · rw [q] at po; exact .inr (h' W σ w H x y v u Q d px py po)

/-! ### texts, tuples, lists -/
def oStr2 (c : Str → Str → Bool) (g : Str → Str → PV) : PV → PV → Hh → Res PV := fun x y h => match x, y with
  | .str i, .str j => if c i j = true then .ok (g i j) h else .no
  | _, _ => .no
def oTup2 (c : List PV → List PV → Bool) (g : List PV → List PV → PV) : PV → PV → Hh → Res PV := fun x y h => match x, y with
  | .tup i, .tup j => if c i j = true then .ok (g i j) h else .no
  | _, _ => .no
def oLst2 (c : List PV → List PV → Bool) (g : List PV → List PV → PV) : PV → PV → Hh → Res PV := fun x y h => match x, y with
  | .lst i, .lst j => if c i j = true then .ok (g i j) h else .no
  | _, _ => .no
section
variable {prog : Program} {w : World} {A : Around} {E : Value → Shared → Prop} {s : Shared}
theorem cat_tup0 {t b : Addr} {vs ws : List Value} {Q : Value → Shared → Prop} (ht : IsTup s.heap t vs.toArray) (hb : IsTup s.heap b ws.toArray) (hv : vs = []) (h1 : Q (.ref b) s) : wpAny (model prog w) A (binaryOp .Add (.ref t) (.ref b)) Q E s := by
  subst hv
  rcases ht with ⟨⟨_, d1, _, m1⟩, g1, k1, n1, z1⟩
  rcases hb with ⟨⟨_, d2, _, m2⟩, g2, k2, n2, z2⟩
  cases k1
  cases k2
  cases z1
  cases z2
  have run := tuple_addW0 t b #[] ws.toArray n1 n2 d1 d2 m1 m2 rfl
  have t1 : s.TypeIs (.ref t) "tuple" := ⟨_, g1, rfl⟩
  have t2 : s.TypeIs (.ref b) "tuple" := ⟨_, g2, rfl⟩
  apply concat_meets t1 t2 noFill_tuple_add seq_tuple_add PySem.F.slot_tuple_add PySem.F.entry_tuple_add (PySem.F.args_tuple_add_2 _ _) run
  exact ⟨g1, g2, h1⟩
theorem cat_lst {l b : Addr} {vs ws : List Value} {Q : Value → Shared → Prop} (hl : PlainL s.heap l vs.toArray) (hb : PlainL s.heap b ws.toArray)
    (h : Q (.ref s.heap.objs.size) { s with heap := s.heap.push { cls := .type "list", data := .seq (vs ++ ws).toArray } }) (hsz : vs.length + ws.length ≤ sizeLine) : wpAny (model prog w) A (binaryOp .Add (.ref l) (.ref b)) Q E s := by
  rcases hl with ⟨⟨_, d1, _, m1⟩, n1, g1, k1, _, z1⟩
  rcases hb with ⟨⟨_, d2, _, m2⟩, n2, g2, k2, _, z2⟩
  cases k1
  cases k2
  cases z1
  cases z2
  have fit : vs.toArray.size + ws.toArray.size ≤ sizeLine := by simpa using hsz
  have run := list_addW l b vs.toArray ws.toArray n1 n2 d1 d2 m1 m2 fit
  rw [List.append_toArray] at run
  have t1 : s.TypeIs (.ref l) "list" := ⟨_, g1, rfl⟩
  have t2 : s.TypeIs (.ref b) "list" := ⟨_, g2, rfl⟩
  apply concat_meets t1 t2 noFill_list_add seq_list_add PySem.F.slot_list_add PySem.F.entry_list_add (PySem.F.args_list_add_2 _ _) run
  exact ⟨g1, g2, h⟩
end
section
variable {X : Cx}
def rTupA (K : PySem.W.Frag) : R2 := fun x y H Q => ∃ a b xs ys, x = .ref a ∧ y = .ref b ∧ SqT K H a xs ∧ SqT K H b ys ∧ xs.length + ys.length ≤ sizeLine ∧
  (xs = [] → Q (.ref b) H) ∧ (xs ≠ [] → ys = [] → Q (.ref a) H) ∧ (xs ≠ [] → ys ≠ [] → ∀ p, H p = none → Q (.ref p) (upd H p (.tup (xs ++ ys))))
theorem op_addT : OpR X (binaryOp .Add) (rTupA X.K) := by
  rintro pins s σ H _ _ v u Q I rx ry ⟨a, b, xs, ys, rfl, rfl, ha, hb, fit, q0, q1, q2⟩
  rcases xs with _ | ⟨x, xs⟩
  · obtain ⟨us, r1, p1, _⟩ := I.tuple ha
    obtain ⟨ws, _, p2, _⟩ := I.tuple hb
    cases rx
    cases ry
    cases r1
    exact cat_tup0 p1 p2 rfl ⟨.ref b, H, I, rfl, q0 rfl⟩
  · have full : x :: xs ≠ [] := List.cons_ne_nil x xs
    exact op_catT pins s σ H (.ref a) (.ref b) v u Q I rx ry ⟨a, b, x :: xs, ys, rfl, rfl, ha, hb, full, fit, q1 full, q2 full⟩
def rLstA (K : PySem.W.Frag) : R2 := fun x y H Q => ∃ a b xs ys, x = .ref a ∧ y = .ref b ∧ SqL K H a xs ∧ SqL K H b ys ∧ xs.length + ys.length ≤ sizeLine ∧ ∀ p, H p = none → Q (.ref p) (upd H p (.lst (xs ++ ys)))
theorem op_addL : OpR X (binaryOp .Add) (rLstA X.K) := by
  intro pins s σ H x y v u Q I rx ry h
  obtain ⟨a, b, xs, ys, rfl, rfl, ha, hb, hz, q⟩ := h
  cases rx
  cases ry
  obtain ⟨its, r1, p1, _⟩ := I.list ha
  obtain ⟨its2, r2, p2, _⟩ := I.list hb
  refine cat_lst p1 p2 ?_ (by rw [← r1.length, ← r2.length]; exact hz)
  exact ⟨.ref _, _, I.lnew (t' := s.toks) (r1.append r2) (by rw [List.length_append]; exact hz), rfl, q _ I.fresh⟩
def rStrA : R2 := fun x y H Q => ∃ i j, x = .str i ∧ y = .str j ∧ i.length + j.length ≤ sizeLine ∧ Q (.str (i ++ j)) H
def rAddA (K : PySem.W.Frag) : R2 := fun x y H Q => rI0 (fun i j => .int (i + j)) x y H Q ∨ (rStrA x y H Q ∨ (rTupA K x y H Q ∨ rLstA K x y H Q))
theorem op_addA : OpR X (binaryOp .Add) (rAddA X.K) := op_add.or (op_add_str.or (op_addT.or op_addL))
end
def oAdd : PV → PV → Hh → Res PV := fun x y h => match x, y with
  | .int i, .int j => .ok (.int (i + j)) h
  | .str a, .str b => if a.length + b.length ≤ 16777216 then .ok (.str (a ++ b)) h else .no
  | .tup a, .tup b => if a.length + b.length ≤ 16777216 then .ok (.tup (a ++ b)) h else .no
  | .lst a, .lst b => if a.length + b.length ≤ 16777216 then .ok (.lst (a ++ b)) h else .no
  | _, _ => .no
theorem PRs.nil_iff {K : PySem.W.Frag} {Φ : Hp} {ad : List Addr} {xs : List PV} {vs : List V} (r : PRs K Φ ad xs vs) : vs = [] ↔ xs = [] := by
  cases r with
  | nil => simp
  | cons _ _ => simp
theorem sim_add {S : Sx} : Sim2 S (rAddA S.K) oAdd := by
  intro W σ w h x y v u Q d px py po
  unfold oAdd at po
  split at po
  · rename_i i j
    exact .inl ⟨i, j, px.ofInt, py.ofInt, po.fin d (.int _)⟩
  · rename_i a b
    split at po
    · rename_i hz
      exact .inr (.inl ⟨a, b, px.ofStr, py.ofStr, lim_line hz, po.fin d (.str _)⟩)
    · exact po.elim
  · rename_i xs ys
    split at po
    · rename_i hz
      obtain ⟨a, vs, rfl, ha, ra⟩ := px.ofTup d
      obtain ⟨b, us, rfl, hb, rb⟩ := py.ofTup d
      have hl1 := ra.length
      have hl2 := rb.length
      refine .inr (.inr (.inl ⟨a, b, vs, us, rfl, rfl, ha, hb, lim_line (by omega), fun e => ?_, fun _ e => ?_, fun n1 n2 p np => ?_⟩))
      · refine po.fin d ?_
        have ex : xs = [] := ra.nil_iff.mp e
        subst ex
        rcases py with ⟨r⟩
        exact r
      · refine po.fin d ?_
        have ex : ys = [] := rb.nil_iff.mp e
        subst ex
        rw [List.append_nil]
        rcases px with ⟨r⟩
        exact r
      · exact po (w.lock p (.tup (vs ++ us))) (.ref p) (Step.lock d np) (d.lock np) (.tup (.inl (.inl upd_same)) (((Step.lock d np).prs ra).append ((Step.lock d np).prs rb)))
    · exact po.elim
  · rename_i xs ys
    split at po
    · rename_i hz
      obtain ⟨a, vs, rfl, ha, ra⟩ := px.ofLst d
      obtain ⟨b, us, rfl, hb, rb⟩ := py.ofLst d
      have hl1 := ra.length
      have hl2 := rb.length
      refine .inr (.inr (.inr ⟨a, b, vs, us, rfl, rfl, ha, hb, lim_line (by omega), fun p np => ?_⟩))
      exact po (w.lock p (.lst (vs ++ us))) (.ref p) (Step.lock d np) (d.lock np) (.lst (.inl (.inl upd_same)) (((Step.lock d np).prs ra).append ((Step.lock d np).prs rb)))
    · exact po.elim
  · exact po.elim
end Mir

set_option Elab.async false
set_option linter.all false
set_option maxRecDepth 100000
set_option maxHeartbeats 1000000
namespace Mir
open PySem PySem.Spec PyProof.Rows L2

abbrev oSub := oI (fun _ _ => true) fun i j => PV.int (i - j)
abbrev oMul := oI mulOk fun i j => PV.int (i * j)
abbrev oDiv := oI (fun _ j => divOk j) fun i j => PV.int (i / j)
abbrev oMod := oI (fun _ j => decide (0 < j)) fun i j => PV.int (i % j)
abbrev oShl := oI shlOk fun i j => PV.int (i * 2 ^ j.toNat)
abbrev oShr := oI (fun _ j => decide (0 ≤ j)) fun i j => PV.int (i / 2 ^ j.toNat)
abbrev oPow := oI (fun i j => powOk i j) fun i j => PV.int (i ^ j.toNat)
abbrev oAnd := oI (fun _ _ => true) fun i j => PV.int (Builtin.bitAnd i j)
abbrev oOr := oI (fun _ _ => true) fun i j => PV.int (Builtin.bitOr i j)
abbrev oXor := oI (fun _ _ => true) fun i j => PV.int (Builtin.bitXor i j)
theorem divOk_ok {i j : Int} (h : divOk j = true) : CDivW i j := by
  unfold divOk at h
  simp only [Bool.and_eq_true, decide_eq_true_eq] at h
  exact h
theorem powOk_ok {i j : Int} (h : powOk i j = true) : CPow i j := by
  unfold powOk at h
  simp only [Bool.and_eq_true, decide_eq_true_eq] at h
  exact ⟨h.1.1, h.1.2, h.2⟩
section
variable {F : Fam} {ea eb : Expr} {pos : Pos} {ma mb : ME}
theorem se_add (ha : SB F ea ma) (hb : SB F eb mb) : SE F (.BinOp ea .Add eb pos) (mOp oAdd ma mb) := se_op sim_add (fun i => op_addA (X := F.X i)) ha hb
theorem se_sub (ha : SB F ea ma) (hb : SB F eb mb) : SE F (.BinOp ea .Sub eb pos) (mOp oSub ma mb) := se_op (sim_I0 fun _ _ _ => .int _) (fun _ => op_sub) ha hb
theorem se_mul (ha : SB F ea ma) (hb : SB F eb mb) : SE F (.BinOp ea .Mult eb pos) (mOp oMul ma mb) := se_op (sim_I (fun _ _ h => h) fun _ _ _ => .int _) (fun _ => op_mulA) ha hb
theorem se_div (ha : SB F ea ma) (hb : SB F eb mb) : SE F (.BinOp ea .FloorDiv eb pos) (mOp oDiv ma mb) := se_op (sim_I (fun _ _ h => divOk_ok h) fun _ _ _ => .int _) (fun _ => op_fdivW) ha hb
theorem se_mod (ha : SB F ea ma) (hb : SB F eb mb) : SE F (.BinOp ea .Mod eb pos) (mOp oMod ma mb) := se_op (sim_I (fun _ _ h => of_decide_eq_true h) fun _ _ _ => .int _) (fun _ => op_mod) ha hb
theorem se_shl (ha : SB F ea ma) (hb : SB F eb mb) : SE F (.BinOp ea .LShift eb pos) (mOp oShl ma mb) := se_op (sim_I (fun _ _ h => h) fun _ _ _ => .int _) (fun _ => op_shlA) ha hb
theorem se_shr (ha : SB F ea ma) (hb : SB F eb mb) : SE F (.BinOp ea .RShift eb pos) (mOp oShr ma mb) := se_op (sim_I (fun _ _ h => of_decide_eq_true h) fun _ _ _ => .int _) (fun _ => op_shr) ha hb
theorem se_pow (ha : SB F ea ma) (hb : SB F eb mb) : SE F (.BinOp ea .Pow eb pos) (mOp oPow ma mb) := se_op (sim_I (fun _ _ h => powOk_ok h) fun _ _ _ => .int _) (fun _ => op_pow) ha hb
theorem se_and (ha : SB F ea ma) (hb : SB F eb mb) : SE F (.BinOp ea .BitAnd eb pos) (mOp oAnd ma mb) := se_op (sim_I0 fun _ _ _ => .int _) (fun _ => op_and) ha hb
theorem se_or (ha : SB F ea ma) (hb : SB F eb mb) : SE F (.BinOp ea .BitOr eb pos) (mOp oOr ma mb) := se_op (sim_I0 fun _ _ _ => .int _) (fun _ => op_or) ha hb
theorem se_xor (ha : SB F ea ma) (hb : SB F eb mb) : SE F (.BinOp ea .BitXor eb pos) (mOp oXor ma mb) := se_op (sim_I0 fun _ _ _ => .int _) (fun _ => op_xor) ha hb
def oNeg : PV → Hh → Res PV := fun x h => match x with
  | .int i => .ok (.int (-i)) h
  | _ => .no
theorem se_neg (ha : SB F ea ma) : SE F (.UnaryOp .USub ea pos) (mUn oNeg ma) := se_un (r := rU fun i => .int (-i)) (fun W σ w h x v Q d p po => by
  unfold oNeg at po
  split at po
  · exact ⟨_, p.ofInt, po.fin d (.int _)⟩
  · exact po.elim) (fun _ => un_neg) ha
end

/-! ### data -/
mutual
def toD : PV → Option PyData
  | .non => some .none
  | .bl b => some (.bool b)
  | .int i => some (.int i)
  | .str s => some (.str s)
  | .tup xs => (toDs xs).map .tuple
  | .lst xs => (toDs xs).map .list
  | .dct _ _ => none
  | .ref _ => none
def toDs : List PV → Option (List PyData)
  | [] => some []
  | x :: r => match toD x, toDs r with
    | some d, some ds => some (d :: ds)
    | _, _ => none
end
section
variable {K : PySem.W.Frag} {Φ : Hp} {ad : List Addr}
mutual
theorem dp_of : ∀ {x : PV} {v : V} {d : PyData}, PR K Φ ad x v → toD x = some d → Dp K Φ v d
  | _, _, _, .non, e => by cases e; exact .non
  | _, _, _, .bl b, e => by cases e; exact .bl b
  | _, _, _, .int i, e => by cases e; exact .int i
  | _, _, _, .str s, e => by cases e; exact .str s
  | .tup xs, _, _, .tup q r, e => by
    rw [toD] at e
    obtain ⟨ds, e1, e2⟩ := Option.map_eq_some_iff.mp e
    subst e2
    exact .tup q (dps_of r e1)
  | .lst xs, _, _, .lst q r, e => by
    rw [toD] at e
    obtain ⟨ds, e1, e2⟩ := Option.map_eq_some_iff.mp e
    subst e2
    exact .lst q (dps_of r e1)
  | _, _, _, .dct _ _ _, e => by rw [toD] at e; cases e
  | _, _, _, .ref _, e => by rw [toD] at e; cases e
theorem dps_of : ∀ {xs : List PV} {vs : List V} {ds : List PyData}, PRs K Φ ad xs vs → toDs xs = some ds → DpAll K Φ vs ds
  | _, _, _, .nil, e => by cases e; exact .nil
  | x :: r, _, _, .cons p q, e => by
    rw [toDs] at e
    split at e
    · rename_i d ds e1 e2
      cases e
      exact .cons (dp_of p e1) (dps_of q e2)
    · cases e
end
mutual
theorem Dp.mono' {H H' : Hp} (h : ∀ x o, H x = some o → H' x = some o) : ∀ {v : V} {d : PyData}, Dp K H v d → Dp K H' v d
  | _, _, .non => .non
  | _, _, .bl b => .bl b
  | _, _, .int i => .int i
  | _, _, .str s => .str s
  | _, _, .lst q r => .lst (sqL_mono h q) (DpAll.mono' h r)
  | _, _, .tup q r => .tup (sqT_mono h q) (DpAll.mono' h r)
theorem DpAll.mono' {H H' : Hp} (h : ∀ x o, H x = some o → H' x = some o) : ∀ {v : List V} {d : List PyData}, DpAll K H v d → DpAll K H' v d
  | _, _, .nil => .nil
  | _, _, .cons p q => .cons (Dp.mono' h p) (DpAll.mono' h q)
end
end
theorem PB.dp {S : Sx} {w : Wd} {h : Hh} (d : Hd S w h) {x : PV} {v : V} {e : PyData} (p : PB S w x v) (hx : toD x = some e) : Dp S.K w.H v e := by
  cases p with
  | val r => exact Dp.mono' d.sub (dp_of r hx)
  | lst e1 n r =>
    rw [toD] at hx
    obtain ⟨ds, e2, e3⟩ := Option.map_eq_some_iff.mp hx
    subst e3
    exact .lst (SqL.of e1) (DpAll.mono' d.sub (dps_of r e2))
  | dct _ _ _ _ => rw [toD] at hx; cases hx
/-- a comparison of two data -/
def rOrdD (K : PySem.W.Frag) (f : PyData → PyData → Bool) : R2 := fun x y H Q => ∃ d e, Dp K H x d ∧ Dp K H y e ∧ PySem.W.alike d e = true ∧ d ≠ .none ∧ d.depth ≤ 64 ∧ Q (.bl (f d e)) H
section
variable {X : Cx}
theorem min_room {u : Nat} {a b : PyData} (h : a.depth ≤ 64) (hu : u + 64 < cLine) : u + min a.depth b.depth < cLine := by
  have : min a.depth b.depth ≤ a.depth := Nat.min_le_left _ _
  omega
theorem op_ltD (hu : X.A.units + 64 < cLine) : OpR X (compareOp .Lt) (rOrdD X.K fun a b => PySem.W.dataLt a b) := by
  intro pins s σ H x y v u Q I rx ry h
  obtain ⟨d, e, hd, he, ha, hn, hz, q⟩ := h
  obtain ⟨as, ra⟩ := Dp.reads I _ _ _ hd rx
  obtain ⟨bs, rb⟩ := Dp.reads I _ _ _ he ry
  exact PySem.W.lt_data ra rb ha hn (min_room hz hu) ⟨.bl _, H, I, rfl, q⟩
theorem op_gtD (hu : X.A.units + 64 < cLine) : OpR X (compareOp .Gt) (rOrdD X.K fun a b => PySem.W.dataLt b a) := by
  intro pins s σ H x y v u Q I rx ry h
  obtain ⟨d, e, hd, he, ha, hn, hz, q⟩ := h
  obtain ⟨as, ra⟩ := Dp.reads I _ _ _ hd rx
  obtain ⟨bs, rb⟩ := Dp.reads I _ _ _ he ry
  exact PySem.W.gt_data ra rb ha hn (min_room hz hu) ⟨.bl _, H, I, rfl, q⟩
theorem op_leD (hu : X.A.units + 64 < cLine) : OpR X (compareOp .LtE) (rOrdD X.K fun a b => !PySem.W.dataLt b a) := by
  intro pins s σ H x y v u Q I rx ry h
  obtain ⟨d, e, hd, he, ha, hn, hz, q⟩ := h
  obtain ⟨as, ra⟩ := Dp.reads I _ _ _ hd rx
  obtain ⟨bs, rb⟩ := Dp.reads I _ _ _ he ry
  exact PySem.W.le_data ra rb ha hn (min_room hz hu) ⟨.bl _, H, I, rfl, q⟩
theorem op_geD (hu : X.A.units + 64 < cLine) : OpR X (compareOp .GtE) (rOrdD X.K fun a b => !PySem.W.dataLt a b) := by
  intro pins s σ H x y v u Q I rx ry h
  obtain ⟨d, e, hd, he, ha, hn, hz, q⟩ := h
  obtain ⟨as, ra⟩ := Dp.reads I _ _ _ hd rx
  obtain ⟨bs, rb⟩ := Dp.reads I _ _ _ he ry
  exact PySem.W.ge_data ra rb ha hn (min_room hz hu) ⟨.bl _, H, I, rfl, q⟩
end
def dNN : PyData → Bool
  | .none => false
  | _ => true
theorem dNN_ne {a : PyData} (h : dNN a = true) : a ≠ .none := fun e => by subst e; cases h
/-- ints by ints, other data as data -/
def oOrd (ci : Int → Int → Bool) (cd : PyData → PyData → Bool) : PV → PV → Hh → Res PV := fun x y h => match x, y with
  | .int i, .int j => .ok (.bl (ci i j)) h
  | x, y => match toD x, toD y with
    | some a, some b => if (PySem.W.alike a b && dNN a && decide (a.depth ≤ 64)) = true then .ok (.bl (cd a b)) h else .no
    | _, _ => .no
def oLt := oOrd (fun i j => decide (i < j)) fun a b => PySem.W.dataLt a b
def oLe := oOrd (fun i j => decide (i ≤ j)) fun a b => !PySem.W.dataLt b a
def oGt := oOrd (fun i j => decide (j < i)) fun a b => PySem.W.dataLt b a
def oGe := oOrd (fun i j => decide (j ≤ i)) fun a b => !PySem.W.dataLt a b
def rOrd (K : PySem.W.Frag) (ci : Int → Int → Bool) (cd : PyData → PyData → Bool) : R2 := fun x y H Q => rI0 (fun i j => .bl (ci i j)) x y H Q ∨ rOrdD K cd x y H Q
theorem sim_ord {S : Sx} {ci : Int → Int → Bool} {cd : PyData → PyData → Bool} : Sim2 S (rOrd S.K ci cd) (oOrd ci cd) := by
  intro W σ w h x y v u Q d px py po
  unfold oOrd at po
  split at po
  · rename_i i j
    exact .inl ⟨i, j, px.ofInt, py.ofInt, po.fin d (.bl _)⟩
  · split at po
    · rename_i a b ea eb
      split at po
      · rename_i hc
        simp only [Bool.and_eq_true, decide_eq_true_eq] at hc
        exact .inr ⟨a, b, px.dp d ea, py.dp d eb, hc.1.1, dNN_ne hc.1.2, hc.2, po.fin d (.bl _)⟩
      · exact po.elim
    · exact po.elim
/-- equal scalars by themselves, other data as data -/
def sEq : PV → PV → Option Bool
  | .non, .non => some true
  | .int i, .int j => some (decide (i = j))
  | .bl i, .bl j => some (decide (i = j))
  | .str i, .str j => some (decide (i = j))
  | .non, .int _ => some false | .int _, .non => some false | .non, .bl _ => some false | .bl _, .non => some false | .non, .str _ => some false | .str _, .non => some false
  | .int _, .str _ => some false | .str _, .int _ => some false | .bl _, .str _ => some false | .str _, .bl _ => some false
  | _, _ => none
def oEqG (neg : Bool) : PV → PV → Hh → Res PV := fun x y h => match sEq x y with
  | some b => .ok (.bl (if neg then !b else b)) h
  | none => match toD x, toD y with
    | some a, some b => if (SeqAt.shaped a && SeqAt.shaped b) = true then .ok (.bl (if neg then !PyData.eqv a b else PyData.eqv a b)) h else .no
    | _, _ => .no
abbrev oEq := oEqG false
abbrev oNe := oEqG true
def rEqA (K : PySem.W.Frag) : R2 := fun x y H Q => rEq x y H Q ∨ rEqD K x y H Q
def rNeA (K : PySem.W.Frag) : R2 := fun x y H Q => rNe x y H Q ∨ rNeD K x y H Q
theorem sEq_sc {S : Sx} {w : Wd} {x y : PV} {v u : V} {b : Bool} (px : PB S w x v) (py : PB S w y u) (e : sEq x y = some b) : scal v u = true ∧ decide (v = u) = b := by
  cases x <;> cases y <;> simp only [sEq, Option.some.injEq, reduceCtorEq] at e <;> subst e <;>
    first
    | (have h1 := px.ofNon; have h2 := py.ofNon; subst h1 h2; exact ⟨rfl, by decide⟩)
    | (have h1 := px.ofInt; have h2 := py.ofInt; subst h1 h2; exact ⟨rfl, by simp⟩)
    | (have h1 := px.ofBl; have h2 := py.ofBl; subst h1 h2; exact ⟨rfl, by simp⟩)
    | (have h1 := px.ofStr; have h2 := py.ofStr; subst h1 h2; exact ⟨rfl, by simp⟩)
    | (have h1 := px.ofNon; have h2 := py.ofInt; subst h1 h2; exact ⟨rfl, by simp⟩)
    | (have h1 := px.ofInt; have h2 := py.ofNon; subst h1 h2; exact ⟨rfl, by simp⟩)
    | (have h1 := px.ofNon; have h2 := py.ofBl; subst h1 h2; exact ⟨rfl, by simp⟩)
    | (have h1 := px.ofBl; have h2 := py.ofNon; subst h1 h2; exact ⟨rfl, by simp⟩)
    | (have h1 := px.ofNon; have h2 := py.ofStr; subst h1 h2; exact ⟨rfl, by simp⟩)
    | (have h1 := px.ofStr; have h2 := py.ofNon; subst h1 h2; exact ⟨rfl, by simp⟩)
    | (have h1 := px.ofInt; have h2 := py.ofStr; subst h1 h2; exact ⟨rfl, by simp⟩)
    | (have h1 := px.ofStr; have h2 := py.ofInt; subst h1 h2; exact ⟨rfl, by simp⟩)
    | (have h1 := px.ofBl; have h2 := py.ofStr; subst h1 h2; exact ⟨rfl, by simp⟩)
    | (have h1 := px.ofStr; have h2 := py.ofBl; subst h1 h2; exact ⟨rfl, by simp⟩)
theorem sim_eq {S : Sx} : Sim2 S (rEqA S.K) oEq := by
  intro W σ w h x y v u Q d px py po
  unfold oEq oEqG at po
  split at po
  · rename_i b e
    obtain ⟨h1, h2⟩ := sEq_sc px py e
    exact .inl ⟨h1, by rw [h2]; exact po.fin d (.bl _)⟩
  · split at po
    · rename_i a b ea eb
      split at po
      · rename_i hc
        simp only [Bool.and_eq_true] at hc
        exact .inr ⟨a, b, px.dp d ea, py.dp d eb, hc.1, hc.2, po.fin d (.bl _)⟩
      · exact po.elim
    · exact po.elim
theorem sim_ne {S : Sx} : Sim2 S (rNeA S.K) oNe := by
  intro W σ w h x y v u Q d px py po
  unfold oNe oEqG at po
  split at po
  · rename_i b e
    obtain ⟨h1, h2⟩ := sEq_sc px py e
    exact .inl ⟨h1, by rw [h2]; exact po.fin d (.bl _)⟩
  · split at po
    · rename_i a b ea eb
      split at po
      · rename_i hc
        simp only [Bool.and_eq_true] at hc
        exact .inr ⟨a, b, px.dp d ea, py.dp d eb, hc.1, hc.2, po.fin d (.bl _)⟩
      · exact po.elim
    · exact po.elim
/-- is None -/
def isNon : PV → Bool
  | .non => true
  | _ => false
def oIsG (neg : Bool) : PV → PV → Hh → Res PV := fun x y h => match y with
  | .non => .ok (.bl (if neg then !isNon x else isNon x)) h
  | _ => .no
abbrev oIs := oIsG false
abbrev oIsNot := oIsG true
theorem isNon_iff {S : Sx} {w : Wd} {x : PV} {v : V} (p : PB S w x v) : decide (v = .non) = isNon x := by
  cases p with
  | val r => cases r <;> simp [isNon]
  | lst _ _ _ => simp [isNon]
  | dct _ _ _ _ => simp [isNon]
theorem sim_is {S : Sx} : Sim2 S (fun x y H Q => y = .non ∧ Q (.bl (decide (x = .non))) H) oIs := by
  intro W σ w h x y v u Q d px py po
  unfold oIs oIsG at po
  split at po
  · exact ⟨py.ofNon, by rw [isNon_iff px]; exact po.fin d (.bl _)⟩
  · exact po.elim
theorem sim_isNot {S : Sx} : Sim2 S (fun x y H Q => y = .non ∧ Q (.bl (!decide (x = .non))) H) oIsNot := by
  intro W σ w h x y v u Q d px py po
  unfold oIsNot oIsG at po
  split at po
  · exact ⟨py.ofNon, by rw [isNon_iff px]; exact po.fin d (.bl _)⟩
  · exact po.elim
/-- in, not in: a list, a tuple of flat things; a text -/
def flatP : PV → Bool
  | .non => true | .bl _ => true | .int _ => true | .str _ => true | _ => false
def eqP : PV → PV → Bool
  | .non, .non => true
  | .bl a, .bl b => a == b
  | .bl a, .int b => (if a then 1 else 0) == b
  | .int a, .bl b => a == (if b then 1 else 0)
  | .int a, .int b => a == b
  | .str a, .str b => a == b
  | _, _ => false
theorem flat_ok {K : PySem.W.Frag} {Φ : Hp} {ad : List Addr} {x : PV} {v : V} (p : PR K Φ ad x v) (h : flatP x = true) : flatV v = true := by
  cases p <;> first | rfl | cases h
theorem eqP_ok {K : PySem.W.Frag} {Φ : Hp} {ad : List Addr} {x y : PV} {v u : V} (p : PR K Φ ad x v) (q : PR K Φ ad y u) (h : flatP x = true) (h2 : flatP y = true) : eqV v u = eqP x y := by
  cases p <;> cases q <;> first | rfl | cases h | cases h2
theorem flats_ok {K : PySem.W.Frag} {Φ : Hp} {ad : List Addr} : ∀ {xs : List PV} {vs : List V}, PRs K Φ ad xs vs → xs.all flatP = true → vs.all flatV = true
  | _, _, .nil, _ => rfl
  | _, _, .cons p q, h => by
    rw [List.all_cons, Bool.and_eq_true] at h ⊢
    exact ⟨flat_ok p h.1, flats_ok q h.2⟩
def inP (x : PV) (xs : List PV) : Bool := xs.any fun y => eqP y x
theorem inP_ok {K : PySem.W.Frag} {Φ : Hp} {ad : List Addr} {x : PV} {v : V} (p : PR K Φ ad x v) (h : flatP x = true) : ∀ {xs : List PV} {vs : List V}, PRs K Φ ad xs vs → xs.all flatP = true → inV v vs = inP x xs
  | _, _, .nil, _ => rfl
  | _, _, .cons a b, hh => by
    rw [List.all_cons, Bool.and_eq_true] at hh
    have ih := inP_ok p h b hh.2
    unfold inV inP at ih ⊢
    rw [List.any_cons, List.any_cons, ih, eqP_ok a p hh.1 h]
def oInG (neg : Bool) : PV → PV → Hh → Res PV := fun x y h => match y with
  | .lst ys => if (flatP x && ys.all flatP) = true then .ok (.bl (if neg then !inP x ys else inP x ys)) h else .no
  | .tup ys => if (flatP x && ys.all flatP) = true then .ok (.bl (if neg then !inP x ys else inP x ys)) h else .no
  | _ => .no
abbrev oIn := oInG false
abbrev oNotIn := oInG true
theorem PB.flat {S : Sx} {w : Wd} {x : PV} {v : V} (p : PB S w x v) (h : flatP x = true) : PW' S w x v := by
  cases p with
  | val r => exact r
  | lst _ _ _ => cases h
  | dct _ _ _ _ => cases h
theorem sim_in {S : Sx} {neg : Bool} : Sim2 S (rIn S.K neg) (oInG neg) := by
  intro W σ w h x y v u Q d px py po
  unfold oInG at po
  split at po
  · split at po
    · rename_i ys hc
      simp only [Bool.and_eq_true] at hc
      obtain ⟨a, vs, e, ha, ra⟩ := py.ofLst d
      refine ⟨a, vs, e, .inl ha, flat_ok (px.flat hc.1) hc.1, flats_ok ra hc.2, ?_⟩
      rw [inP_ok (px.flat hc.1) hc.1 ra hc.2]
      exact po.fin d (.bl _)
    · exact po.elim
  · split at po
    · rename_i ys hc
      simp only [Bool.and_eq_true] at hc
      obtain ⟨a, vs, e, ha, ra⟩ := py.ofTup d
      refine ⟨a, vs, e, .inr ha, flat_ok (px.flat hc.1) hc.1, flats_ok ra hc.2, ?_⟩
      rw [inP_ok (px.flat hc.1) hc.1 ra hc.2]
      exact po.fin d (.bl _)
    · exact po.elim
  · exact po.elim
/-- a text in a text -/
def oInS (neg : Bool) : PV → PV → Hh → Res PV := fun x y h => match x, y with
  | .str i, .str j => .ok (.bl (if neg then !(!(Builtin.Str.occurrences j i 0 j.length 1).isEmpty) else !(Builtin.Str.occurrences j i 0 j.length 1).isEmpty)) h
  | _, _ => .no
theorem sim_inS {S : Sx} : Sim2 S (fun x y H Q => ∃ i j, x = .str i ∧ y = .str j ∧ Q (.bl (!(Builtin.Str.occurrences j i 0 j.length 1).isEmpty)) H) (oInS false) := by
  intro W σ w h x y v u Q d px py po
  unfold oInS at po
  split at po
  · exact ⟨_, _, px.ofStr, py.ofStr, po.fin d (.bl _)⟩
  · exact po.elim
theorem sim_notInS {S : Sx} : Sim2 S (fun x y H Q => ∃ i j, x = .str i ∧ y = .str j ∧ Q (.bl (!(!(Builtin.Str.occurrences j i 0 j.length 1).isEmpty))) H) (oInS true) := by
  intro W σ w h x y v u Q d px py po
  unfold oInS at po
  split at po
  · exact ⟨_, _, px.ofStr, py.ofStr, po.fin d (.bl _)⟩
  · exact po.elim
section
variable {F : Fam} {ea eb : Expr} {pos : Pos} {ma mb : ME}
theorem Fam.Ok.u64 (ok : F.Ok) (i : F.ι) : (F.X i).A.units + 64 < cLine := (ok.hr i).units
/-- a comparison: its operation and its mirror -/
structure CmpOk (F : Fam) (op : CmpOp) (f : PV → PV → Hh → Res PV) : Prop where
  ex : ∃ r : R2, Sim2 F.S r f ∧ ∀ i, OpR (F.X i) (compareOp op) r
theorem c_lt (ok : F.Ok) : CmpOk F .Lt oLt := ⟨_, sim_ord, fun i => op_lt.or (op_ltD (X := F.X i) (ok.u64 i))⟩
theorem c_le (ok : F.Ok) : CmpOk F .LtE oLe := ⟨_, sim_ord, fun i => op_le.or (op_leD (X := F.X i) (ok.u64 i))⟩
theorem c_gt (ok : F.Ok) : CmpOk F .Gt oGt := ⟨_, sim_ord, fun i => op_gt.or (op_gtD (X := F.X i) (ok.u64 i))⟩
theorem c_ge (ok : F.Ok) : CmpOk F .GtE oGe := ⟨_, sim_ord, fun i => op_ge.or (op_geD (X := F.X i) (ok.u64 i))⟩
theorem c_eq (ok : F.Ok) : CmpOk F .Eq oEq := ⟨_, sim_eq, fun i => op_eq.or (op_eqD (X := F.X i) (ok.u64 i))⟩
theorem c_ne (ok : F.Ok) : CmpOk F .NotEq oNe := ⟨_, sim_ne, fun i => op_ne.or (op_neD (X := F.X i) (ok.u64 i))⟩
theorem c_is : CmpOk F .Is oIs := ⟨_, sim_is, fun _ => op_isN⟩
theorem c_isNot : CmpOk F .IsNot oIsNot := ⟨_, sim_isNot, fun _ => op_notN⟩
theorem c_in : CmpOk F .In oIn := ⟨_, sim_in, fun i => op_in_seq (X := F.X i)⟩
theorem c_notIn : CmpOk F .NotIn oNotIn := ⟨_, sim_in, fun i => op_notIn_seq (X := F.X i)⟩
theorem c_inS : CmpOk F .In (oInS false) := ⟨_, sim_inS, fun _ => op_in_str⟩
theorem c_notInS : CmpOk F .NotIn (oInS true) := ⟨_, sim_notInS, fun _ => op_notin_str⟩
theorem se_c {op : CmpOp} {f : PV → PV → Hh → Res PV} (c : CmpOk F op f) (ha : SB F ea ma) (hb : SB F eb mb) (hm : behindInMarks op eb = false := by first | exact nomark _ | rfl) : SE F (.Compare ea [op] [eb] pos) (mOp f ma mb) := by
  obtain ⟨r, hf, ho⟩ := c.ex
  exact se_cmp hf ho ha hb hm
theorem st_c {op : CmpOp} {f : PV → PV → Hh → Res PV} (c : CmpOk F op f) (ha : SB F ea ma) (hb : SB F eb mb) (hm : behindInMarks op eb = false := by first | exact nomark _ | rfl) : ST F (.Compare ea [op] [eb] pos) (toT (mOp f ma mb)) := by
  obtain ⟨r, hf, ho⟩ := c.ex
  exact st_cmp hf ho ha hb hm

/-! ### tests -/
def mNotT (m : MT) : MT := fun env h => (m env h).bind fun b h => .ok (!b) h
def mAndT (m n : MT) : MT := fun env h => (m env h).bind fun b h => if b = true then n env h else .ok false h
def mOrT (m n : MT) : MT := fun env h => (m env h).bind fun b h => if b = true then .ok true h else n env h
variable {mt mt' : MT} {rest : List Expr}
theorem SW.t (h : SW F ea mt) : ST F ea mt := by
  obtain ⟨t, p, q⟩ := h
  exact ⟨t, fun i => (p i).pt, q⟩
theorem st_not (h : ST F ea mt) : ST F (.UnaryOp .Not ea pos) (mNotT mt) := by
  obtain ⟨t, p, q⟩ := h
  exact ⟨fun W => tNot (t W), fun i => pt_not (p i), fun W w0 w env h σ Q r po => q W w0 w env h σ _ r (PostE.bind po fun b h1 w1 v s d e p1 => by
    subst e; exact p1.fin d rfl)⟩
theorem sw_and1 (h : ST F ea mt) : SW F (.BoolOp .And [ea] pos) mt := by
  obtain ⟨t, p, q⟩ := h
  exact ⟨t, fun i => pw_and1 (p i), q⟩
theorem sw_or1 (h : ST F ea mt) : SW F (.BoolOp .Or [ea] pos) mt := by
  obtain ⟨t, p, q⟩ := h
  exact ⟨t, fun i => pw_or1 (p i), q⟩
theorem sw_and (h : ST F ea mt) (h' : SW F (.BoolOp .And (eb :: rest) pos) mt') : SW F (.BoolOp .And (ea :: eb :: rest) pos) (mAndT mt mt') := by
  obtain ⟨t, p, q⟩ := h
  obtain ⟨t', p', q'⟩ := h'
  exact ⟨fun W => tAnd (t W) (t' W), fun i => pw_and (p i) (p' i), fun W w0 w env h σ Q r po => q W w0 w env h σ _ r (PostE.bind po fun b h1 w1 v s d e p1 => by
    subst e
    cases b with
    | true => rw [if_pos rfl] at p1 ⊢; exact q' W w0 w1 env h1 σ Q (r.step s d) p1
    | false => rw [if_neg Bool.false_ne_true] at p1 ⊢; exact p1.fin d rfl)⟩
theorem sw_or (h : ST F ea mt) (h' : SW F (.BoolOp .Or (eb :: rest) pos) mt') : SW F (.BoolOp .Or (ea :: eb :: rest) pos) (mOrT mt mt') := by
  obtain ⟨t, p, q⟩ := h
  obtain ⟨t', p', q'⟩ := h'
  exact ⟨fun W => tOr (t W) (t' W), fun i => pw_or (p i) (p' i), fun W w0 w env h σ Q r po => q W w0 w env h σ _ r (PostE.bind po fun b h1 w1 v s d e p1 => by
    subst e
    cases b with
    | true => rw [if_pos rfl] at p1 ⊢; exact p1.fin d rfl
    | false => rw [if_neg Bool.false_ne_true] at p1 ⊢; exact q' W w0 w1 env h1 σ Q (r.step s d) p1)⟩
/-- a value whose truth is asked -/
def truP : PV → Option Bool
  | .non => some false
  | .bl b => some b
  | .int i => some (i != 0)
  | .str s => if s.length ≤ 16777216 then some ((s.length : Int) != 0) else none
  | .tup xs => some (!xs.isEmpty)
  | .lst xs => some (!xs.isEmpty)
  | _ => none
def toTru (m : ME) : MT := fun env h => (m env h).bind fun x h => match truP x with
  | some b => .ok b h
  | none => .no
theorem PRs.empty {K : PySem.W.Frag} {Φ : Hp} {ad : List Addr} {xs : List PV} {vs : List V} (r : PRs K Φ ad xs vs) : vs.isEmpty = xs.isEmpty := by cases r <;> rfl
theorem tru_is {S : Sx} {w : Wd} {h : Hh} (d : Hd S w h) {x : PV} {v : V} {b : Bool} (p : PB S w x v) (e : truP x = some b) : TruV S.K v w.H b := by
  cases x with
  | non => cases e; rw [p.ofNon]; exact rfl
  | bl c => cases e; rw [p.ofBl]; exact rfl
  | int i => cases e; rw [p.ofInt]; exact rfl
  | str s =>
    have e' : (if s.length ≤ 16777216 then some ((s.length : Int) != 0) else none) = some b := e
    split at e'
    · rename_i hz; cases e'; rw [p.ofStr]; exact ⟨lim_line hz, rfl⟩
    · cases e'
  | tup xs =>
    cases e
    obtain ⟨a, vs, rfl, ha, ra⟩ := p.ofTup d
    exact .inr (.inl ⟨vs, ha, by rw [ra.empty]⟩)
  | lst xs =>
    cases e
    obtain ⟨a, vs, rfl, ha, ra⟩ := p.ofLst d
    exact .inl ⟨vs, ha, by rw [ra.empty]⟩
  | dct _ _ => cases e
  | ref _ => cases e
theorem st_tru (h : SB F ea ma) (he : ∀ i whole, isTrue ea (F.X i).env whole = (do let v ← whole; standAt ea.pos; holding [v] (truthy v)) := by intro _ _; rfl) : ST F ea (toTru ma) := by
  obtain ⟨t, p, q⟩ := h
  refine ⟨fun W σ H Q => t W σ H fun x H' => ∃ k, TruV F.K x H' k ∧ Q k H', fun i => pt_truth (p i) (he i), fun W w0 w env h σ Q r po => ?_⟩
  refine q W w0 w env h σ _ r (PostE.bind po fun x h1 w1 v s d e p1 => ?_)
  split at p1
  · rename_i b eb
    exact ⟨b, tru_is d e eb, p1.fin d rfl⟩
  · exact p1.elim
end
end Mir

set_option Elab.async false
set_option linter.all false
set_option maxRecDepth 100000
set_option maxHeartbeats 1000000
namespace Mir
open PySem PySem.Spec PyProof.Rows L2
section
variable {F : Fam} {e ea eb ec : Expr} {es rest : List Expr} {pos p : Pos} {m ma mb : ME} {mt : MT} {mr : MA}

/-! ### and, or, not, if as values -/
def mAndV (m n : ME) : ME := fun env h => (m env h).bind fun x h => match x with
  | .bl true => n env h
  | .bl false => .ok (.bl false) h
  | _ => .no
def mOrV (m n : ME) : ME := fun env h => (m env h).bind fun x h => match x with
  | .bl true => .ok (.bl true) h
  | .bl false => n env h
  | _ => .no
def mNotV (m : ME) : ME := fun env h => (m env h).bind fun x h => match x with
  | .bl b => .ok (.bl (!b)) h
  | _ => .no
def mIf (t : MT) (m n : ME) : ME := fun env h => (t env h).bind fun b h => if b = true then m env h else n env h
theorem sv_one {op} (h : SE F ea ma) : SE F (.BoolOp op [ea] pos) ma := by
  obtain ⟨t, p, q⟩ := h
  exact ⟨t, fun i => pe_one (p i), q⟩
theorem sv_and (h : SE F ea ma) (h' : SE F (.BoolOp .And (eb :: rest) pos) mb) : SE F (.BoolOp .And (ea :: eb :: rest) pos) (mAndV ma mb) := by
  obtain ⟨t, p, q⟩ := h
  obtain ⟨t', p', q'⟩ := h'
  refine ⟨fun W => tAndV (t W) (t' W), fun i => pe_and (p i) (p' i), fun W w0 w env h σ Q r po => q W w0 w env h σ _ r (PostE.bind po fun x h1 w1 v s d e p1 => ?_)⟩
  split at p1
  · cases e; exact ⟨true, rfl, by rw [if_pos rfl]; exact q' W w0 w1 env h1 σ Q (r.step s d) p1⟩
  · cases e; exact ⟨false, rfl, by rw [if_neg Bool.false_ne_true]; exact p1.fin d (.bl _)⟩
  · exact p1.elim
theorem sv_or (h : SE F ea ma) (h' : SE F (.BoolOp .Or (eb :: rest) pos) mb) : SE F (.BoolOp .Or (ea :: eb :: rest) pos) (mOrV ma mb) := by
  obtain ⟨t, p, q⟩ := h
  obtain ⟨t', p', q'⟩ := h'
  refine ⟨fun W => tOrV (t W) (t' W), fun i => pe_or (p i) (p' i), fun W w0 w env h σ Q r po => q W w0 w env h σ _ r (PostE.bind po fun x h1 w1 v s d e p1 => ?_)⟩
  split at p1
  · cases e; exact ⟨true, rfl, by rw [if_pos rfl]; exact p1.fin d (.bl _)⟩
  · cases e; exact ⟨false, rfl, by rw [if_neg Bool.false_ne_true]; exact q' W w0 w1 env h1 σ Q (r.step s d) p1⟩
  · exact p1.elim
theorem sv_not (h : SE F ea ma) : SE F (.UnaryOp .Not ea pos) (mNotV ma) := by
  obtain ⟨t, p, q⟩ := h
  refine ⟨fun W => tNotV (t W), fun i => pe_not (p i), fun W w0 w env h σ Q r po => q W w0 w env h σ _ r (PostE.bind po fun x h1 w1 v s d e p1 => ?_)⟩
  split at p1
  · cases e; exact ⟨_, rfl, p1.fin d (.bl _)⟩
  · exact p1.elim
theorem se_if (ht : ST F ec mt) (h : SE F ea ma) (h' : SE F eb mb) : SE F (.IfExp ec ea eb pos) (mIf mt ma mb) := by
  obtain ⟨tc, pc, qc⟩ := ht
  obtain ⟨t, p, q⟩ := h
  obtain ⟨t', p', q'⟩ := h'
  refine ⟨fun W => tIf (tc W) (t W) (t' W), fun i => pe_ifExp (pc i) (p i) (p' i), fun W w0 w env h σ Q r po => qc W w0 w env h σ _ r (PostE.bind po fun b h1 w1 v s d e p1 => ?_)⟩
  subst e
  cases b with
  | true => rw [if_pos rfl] at p1 ⊢; exact q W w0 w1 env h1 σ Q (r.step s d) p1
  | false => rw [if_neg Bool.false_ne_true] at p1 ⊢; exact q' W w0 w1 env h1 σ Q (r.step s d) p1

/-! ### arguments, displays -/
def mNil : MA := fun _ h => .ok [] h
def mCons (m : ME) (r : MA) : MA := fun env h => (m env h).bind fun x h => (r env h).bind fun xs h => .ok (x :: xs) h
theorem sa_nil : SA F [] mNil := ⟨fun _ => tNil, fun _ => pa_nil, fun W w0 w env h σ Q r po => PostE.fin po r.hd .nil⟩
theorem sa_cons (h : SE F e m) (h' : SA F es mr) (hs : ∀ i, starEach (e :: es) (F.X i).env = (false, eval e (F.X i).env) :: starEach es (F.X i).env := by intro _; rfl) : SA F (e :: es) (mCons m mr) := by
  obtain ⟨t, p, q⟩ := h
  obtain ⟨t', p', q'⟩ := h'
  exact ⟨fun W => tCons (t W) (t' W), fun i => pa_cons (p i) (p' i) (hs i), fun W w0 w env h σ Q r po => q W w0 w env h σ _ r (PostE.bind po fun x h1 w1 v s1 d1 e1 p1 =>
    q' W w0 w1 env h1 σ _ (r.step s1 d1) (PostE.bind p1 fun xs h2 w2 vs s2 d2 e2 p2 => p2.fin d2 (.cons (s2.pr e1) e2)))⟩
theorem sab_nil : SAB F [] mNil := ⟨fun _ => tNil, fun _ => pa_nil, fun W w0 w env h σ Q r po => PostE.fin po r.hd .nil⟩
theorem sab_cons (h : SB F e m) (h' : SAB F es mr) (hs : ∀ i, starEach (e :: es) (F.X i).env = (false, eval e (F.X i).env) :: starEach es (F.X i).env := by intro _; rfl) : SAB F (e :: es) (mCons m mr) := by
  obtain ⟨t, p, q⟩ := h
  obtain ⟨t', p', q'⟩ := h'
  exact ⟨fun W => tCons (t W) (t' W), fun i => pa_cons (p i) (p' i) (hs i), fun W w0 w env h σ Q r po => q W w0 w env h σ _ r (PostE.bind po fun x h1 w1 v s1 d1 e1 p1 =>
    q' W w0 w1 env h1 σ _ (r.step s1 d1) (PostE.bind p1 fun xs h2 w2 vs s2 d2 e2 p2 => p2.fin d2 (.cons (e1.step s2) e2)))⟩
def szc (m : MA) : MA := fun env h => (m env h).bind fun xs h => if xs.length ≤ 16777216 then .ok xs h else .no
def mTup (m : MA) : ME := fun env h => (m env h).bind fun xs h => if xs.length ≤ 16777216 then .ok (.tup xs) h else .no
theorem se_tup {k} (h : SA F es mr) : SE F (.Tuple es k pos) (mTup mr) := by
  obtain ⟨t, p, q⟩ := h
  refine ⟨fun W => tTup (t W), fun i => pe_tup (p i), fun W w0 w env h σ Q r po => q W w0 w env h σ _ r (PostE.bind po fun xs h1 w1 vs s1 d1 e1 p1 => ?_)⟩
  split at p1
  · rename_i hz
    exact ⟨lim_line (by rw [← e1.length]; exact hz), fun a na => p1 (w1.lock a (.tup vs)) (.ref a) (Step.lock d1 na) (d1.lock na) (.tup (.inl (.inl upd_same)) ((Step.lock d1 na).prs e1))⟩
  · exact p1.elim
/-- an object of nobody's is laid -/
theorem Step.put {S : Sx} {w : Wd} {h : Hh} (d : Hd S w h) {a : Addr} {o : HO} (z : w.H a = none) : Step w (w.put a o) where
  fz := fun _ _ e => e
  ix := fun _ _ e => e
  nw := fun _ hx => .inl hx
  kp := fun x u e _ => by
    show upd w.H a o x = some u
    have : x ≠ a := fun q => by rw [q, z] at e; cases e
    rw [upd_ne this]; exact e
  th := fun x e => by
    show upd w.H a o x ≠ Option.none
    by_cases hx : x = a
    · subst hx; rw [upd_same]; simp
    · rw [upd_ne hx]; exact e
  fn := fun x u e => .inl e
theorem Hd.put {S : Sx} {w : Wd} {h : Hh} (d : Hd S w h) {a : Addr} {o : HO} (z : w.H a = none) : Hd S (w.put a o) h where
  sub := fun x u e => by
    show upd w.H a o x = some u
    have e' : w.Φ x = some u := e
    have : x ≠ a := fun q => by rw [q, d.fresh z] at e'; cases e'
    rw [upd_ne this]; exact d.sub x u e'
  len := d.len
  nd := d.nd
  sep := d.sep
  obj := fun n ob x e f => (d.obj n ob x e f).step (Step.put d z) fun u q => by
    show upd w.H a o x = some u
    have : x ≠ a := fun hq => by rw [hq, z] at q; cases q
    rw [upd_ne this]; exact q
theorem sn_lst (h : SA F es mr) : SN F (.List es pos) (szc mr) := by
  obtain ⟨t, p, q⟩ := h
  refine ⟨fun W => tLst (t W), fun i => pe_lst (p i), fun W w0 w env h σ Q r po => q W w0 w env h σ _ r (PostE.bind0 po fun xs h1 w1 vs s1 d1 e1 p1 => ?_)⟩
  split at p1
  · rename_i hz
    refine ⟨lim_line (by rw [← e1.length]; exact hz), fun a na => p1 (w1.put a (.lst vs)) (.ref a) (s1.trans (Step.put d1 na)) (d1.put na) ⟨a, vs, rfl, upd_same, (Step.put d1 na).prs e1, d1.notAd na, d1.fresh na, s1.fr na⟩⟩
  · exact p1.elim

/-! ### built-in calls -/
def mCall (f : List PV → Hh → Res PV) (m : MA) : ME := fun env h => (m env h).bind fun xs h => f xs h
def SimC (S : Sx) (r : List V → Hp → VK → Prop) (f : List PV → Hh → Res PV) : Prop := ∀ (W : WX) (σ : L2.St) (w : Wd) (h : Hh) (xs : List PV) (vs : List V) (Q : VK), Hd S w h → PBs S w xs vs → PostE S W w σ (RV S) (f xs h) Q → r vs w.H Q
theorem rd_call {S : Sx} {W : WX} {ta : TA} {r : List V → Hp → VK → Prop} {f : List PV → Hh → Res PV} (hf : SimC S r f) (q : RdG S (RBs S) W ta mr) : RdG S (RV S) W (tCB r ta) (mCall f mr) :=
  fun w0 w env h σ Q rl po => q w0 w env h σ _ rl (PostE.bind po fun xs h1 w1 vs s1 d1 p1 po1 => hf W σ w1 h1 xs vs Q d1 p1 po1)
theorem se_callB {id : String} {x : Str} {r : List V → Hp → VK → Prop} {f : List PV → Hh → Res PV} (hf : SimC F.S r f) (hc : ∀ i, CallR (F.X i) (.builtin id) r) (hm : F.mg x = none) (hv : bootBuiltins x = some (.builtin id)) (ha : SAB F (e :: es) mr)
    (hg : ∀ i, Gl (F.X i) x := by intro _; rfl) (hn : x ≠ "__name__" := by decide) (hdb : (x == ("__debug__" : Str)) = false := by decide)
    (he : ∀ i, starEach (e :: es) (F.X i).env = (false, eval e (F.X i).env) :: starEach es (F.X i).env := by intro _; rfl) (hpl : ∀ i, (backTo pos (starEach es (F.X i).env)).any (·.1) = false := by intro _; rfl) : SE F (.Call (.Name x p) (e :: es) [] pos) (mCall f mr) := by
  obtain ⟨t, pa, q⟩ := ha
  exact ⟨fun W => tCB r (t W), fun i => pe_callB (hc i) (hg i) hm hv (pa i) hn hdb (he i) (hpl i), fun W => rd_call hf (q W)⟩
theorem se_callTy {T : String} {x : Str} {r : List V → Hp → VK → Prop} {f : List PV → Hh → Res PV} (hf : SimC F.S r f) (hc : ∀ i, CallR (F.X i) (.type T) r) (hm : F.mg x = none) (hv : bootBuiltins x = some (.type T)) (ha : SAB F (e :: es) mr)
    (hg : ∀ i, Gl (F.X i) x := by intro _; rfl) (hn : x ≠ "__name__" := by decide) (hdb : (x == ("__debug__" : Str)) = false := by decide)
    (he : ∀ i, starEach (e :: es) (F.X i).env = (false, eval e (F.X i).env) :: starEach es (F.X i).env := by intro _; rfl) (hpl : ∀ i, (backTo pos (starEach es (F.X i).env)).any (·.1) = false := by intro _; rfl) : SE F (.Call (.Name x p) (e :: es) [] pos) (mCall f mr) := by
  obtain ⟨t, pa, q⟩ := ha
  exact ⟨fun W => tCB r (t W), fun i => pe_callTy (hc i) (hg i) hm hv (pa i) hn hdb (he i) (hpl i), fun W => rd_call hf (q W)⟩
theorem PBs.one {S : Sx} {w : Wd} {x : PV} {vs : List V} (p : PBs S w [x] vs) : ∃ v, vs = [v] ∧ PB S w x v := by
  cases p with | cons a b => cases b; exact ⟨_, rfl, a⟩
theorem PBs.two {S : Sx} {w : Wd} {x y : PV} {vs : List V} (p : PBs S w [x, y] vs) : ∃ v u, vs = [v, u] ∧ PB S w x v ∧ PB S w y u := by
  cases p with | cons a b => obtain ⟨u, rfl, c⟩ := b.one; exact ⟨_, _, rfl, a, c⟩
/-- len -/
def fLen : List PV → Hh → Res PV := fun xs h => match xs with
  | [.lst ys] => .ok (.int ys.length) h
  | [.tup ys] => .ok (.int ys.length) h
  | [.str s] => if s.length ≤ 16777216 then .ok (.int s.length) h else .no
  | _ => .no
theorem sim_len {S : Sx} : SimC S (fun xs H Q => ∃ x n, xs = [x] ∧ LenV S.K x H n ∧ Q (.int n) H) fLen := by
  intro W σ w h xs vs Q d px po
  unfold fLen at po
  split at po
  · obtain ⟨v, rfl, p1⟩ := px.one
    obtain ⟨a, us, rfl, ha, ra⟩ := p1.ofLst d
    refine ⟨_, us.length, rfl, .inl ⟨us, ha, rfl⟩, ?_⟩
    rw [← ra.length]; exact po.fin d (.int _)
  · obtain ⟨v, rfl, p1⟩ := px.one
    obtain ⟨a, us, rfl, ha, ra⟩ := p1.ofTup d
    refine ⟨_, us.length, rfl, .inr ⟨us, ha, rfl⟩, ?_⟩
    rw [← ra.length]; exact po.fin d (.int _)
  · obtain ⟨v, rfl, p1⟩ := px.one
    split at po
    · rename_i hz; rw [p1.ofStr]; exact ⟨_, _, rfl, ⟨lim_line hz, rfl⟩, po.fin d (.int _)⟩
    · exact po.elim
  · exact po.elim
theorem se_len (hm : F.mg "len" = none) (ha : SAB F [e] mr) (hg : ∀ i, Gl (F.X i) "len" := by intro _; rfl) (he : ∀ i, starEach [e] (F.X i).env = (false, eval e (F.X i).env) :: starEach [] (F.X i).env := by intro _; rfl) : SE F (.Call (.Name "len" p) [e] [] pos) (mCall fLen mr) :=
  se_callB sim_len (fun i => call_len (X := F.X i)) hm PySem.boot_len ha hg (by decide) (by decide) he (fun _ => rfl)
/-- int of an int or a bool -/
def fInt : List PV → Hh → Res PV := fun xs h => match xs with
  | [.int i] => .ok (.int i) h
  | [.bl b] => .ok (.int (if b then 1 else 0)) h
  | _ => .no
theorem se_intc (hm : F.mg "int" = none) (ha : SAB F [e] mr) (hg : ∀ i, Gl (F.X i) "int" := by intro _; rfl) (he : ∀ i, starEach [e] (F.X i).env = (false, eval e (F.X i).env) :: starEach [] (F.X i).env := by intro _; rfl) : SE F (.Call (.Name "int" p) [e] [] pos) (mCall fInt mr) :=
  se_callTy (fun W σ w h xs vs Q d px po => by
    unfold fInt at po
    split at po
    · obtain ⟨v, rfl, p1⟩ := px.one
      rw [p1.ofInt]; exact .inl ⟨_, rfl, po.fin d (.int _)⟩
    · obtain ⟨v, rfl, p1⟩ := px.one
      rw [p1.ofBl]; exact .inr ⟨_, rfl, po.fin d (.int _)⟩
    · exact po.elim) (fun _ => call_int1) hm (by decide +kernel) ha hg (by decide) (by decide) he (fun _ => rfl)
def fAbs : List PV → Hh → Res PV := fun xs h => match xs with
  | [.int i] => .ok (.int (if i < 0 then -i else i)) h
  | _ => .no
theorem se_abs (hm : F.mg "abs" = none) (ha : SAB F [e] mr) (hg : ∀ i, Gl (F.X i) "abs" := by intro _; rfl) (he : ∀ i, starEach [e] (F.X i).env = (false, eval e (F.X i).env) :: starEach [] (F.X i).env := by intro _; rfl) : SE F (.Call (.Name "abs" p) [e] [] pos) (mCall fAbs mr) :=
  se_callB (fun W σ w h xs vs Q d px po => by
    unfold fAbs at po
    split at po
    · obtain ⟨v, rfl, p1⟩ := px.one
      rw [p1.ofInt]; exact ⟨_, rfl, po.fin d (.int _)⟩
    · exact po.elim) (fun _ => call_abs) hm (by decide +kernel) ha hg (by decide) (by decide) he (fun _ => rfl)
def fMax2 : List PV → Hh → Res PV := fun xs h => match xs with
  | [.int i, .int j] => .ok (.int (if j > i then j else i)) h
  | _ => .no
def fMin2 : List PV → Hh → Res PV := fun xs h => match xs with
  | [.int i, .int j] => .ok (.int (if j < i then j else i)) h
  | _ => .no
theorem se_max2 (hc : F.calm = true) (hm : F.mg "max" = none) (ha : SAB F [ea, eb] mr) (hg : ∀ i, Gl (F.X i) "max" := by intro _; rfl) (he : ∀ i, starEach [ea, eb] (F.X i).env = (false, eval ea (F.X i).env) :: starEach [eb] (F.X i).env := by intro _; rfl)
    (hpl : ∀ i, (backTo pos (starEach [eb] (F.X i).env)).any (·.1) = false := by intro _; rfl) : SE F (.Call (.Name "max" p) [ea, eb] [] pos) (mCall fMax2 mr) :=
  se_callB (fun W σ w h xs vs Q d px po => by
    unfold fMax2 at po
    split at po
    · obtain ⟨v, u, rfl, p1, p2⟩ := px.two
      rw [p1.ofInt, p2.ofInt]; exact ⟨_, _, rfl, po.fin d (.int _)⟩
    · exact po.elim) (fun _ => call_max2 hc) hm (by decide +kernel) ha hg (by decide) (by decide) he hpl
theorem se_min2 (hc : F.calm = true) (hm : F.mg "min" = none) (ha : SAB F [ea, eb] mr) (hg : ∀ i, Gl (F.X i) "min" := by intro _; rfl) (he : ∀ i, starEach [ea, eb] (F.X i).env = (false, eval ea (F.X i).env) :: starEach [eb] (F.X i).env := by intro _; rfl)
    (hpl : ∀ i, (backTo pos (starEach [eb] (F.X i).env)).any (·.1) = false := by intro _; rfl) : SE F (.Call (.Name "min" p) [ea, eb] [] pos) (mCall fMin2 mr) :=
  se_callB (fun W σ w h xs vs Q d px po => by
    unfold fMin2 at po
    split at po
    · obtain ⟨v, u, rfl, p1, p2⟩ := px.two
      rw [p1.ofInt, p2.ofInt]; exact ⟨_, _, rfl, po.fin d (.int _)⟩
    · exact po.elim) (fun _ => call_min2 hc) hm (by decide +kernel) ha hg (by decide) (by decide) he hpl
end
end Mir

set_option Elab.async false
set_option linter.all false
set_option maxRecDepth 100000
set_option maxHeartbeats 1000000
namespace Mir
open PySem PySem.Spec PyProof.Rows L2
section
variable {F : Fam} {e ea eb ec : Expr} {es rest : List Expr} {pos p p2 : Pos} {m ma mb : ME} {mt : MT} {mr : MA}

/-! ### subscripts -/
theorem PRs.atI {K : PySem.W.Frag} {Φ : Hp} {ad : List Addr} {xs : List PV} {vs : List V} (r : PRs K Φ ad xs vs) {i : Int} {x : PV} (h : L2.atI xs i = some x) : ∃ v, L2.atI vs i = some v ∧ PR K Φ ad x v := by
  unfold L2.atI at h ⊢
  rw [r.length] at h
  cases e : ixN vs.length i with
  | none => rw [e] at h; cases h
  | some j =>
    rw [e] at h
    obtain ⟨v, h1, h2⟩ := r.get (i := j) h
    exact ⟨v, h1, h2⟩
def oIx : PV → PV → Hh → Res PV := fun x y h => match x, y with
  | .lst xs, .int i => match L2.atI xs i with
    | some z => .ok z h
    | none => .no
  | .tup xs, .int i => match L2.atI xs i with
    | some z => .ok z h
    | none => .no
  | .str s, .int i => if s.length ≤ 16777216 then match L2.atI s.cps.toList i with
    | some c => .ok (.str ⟨#[c]⟩) h
    | none => .no else .no
  | _, _ => .no
theorem sim_ix {S : Sx} : Sim2 S (rIx S.K) oIx := by
  intro W σ w h x y v u Q d px py po
  unfold oIx at po
  split at po
  · split at po
    · rename_i xs i _ z e
      obtain ⟨a, vs, rfl, ha, ra⟩ := px.ofLst d
      obtain ⟨zv, e1, r1⟩ := ra.atI e
      exact .inl ⟨a, vs, i, zv, rfl, py.ofInt, ha, e1, po.fin d r1⟩
    · exact po.elim
  · split at po
    · rename_i xs i _ z e
      obtain ⟨a, vs, rfl, ha, ra⟩ := px.ofTup d
      obtain ⟨zv, e1, r1⟩ := ra.atI e
      exact .inr (.inl ⟨a, vs, i, zv, rfl, py.ofInt, ha, e1, po.fin d r1⟩)
    · exact po.elim
  · split at po
    · rename_i hz
      split at po
      · rename_i c e
        exact .inr (.inr ⟨_, _, c, px.ofStr, py.ofInt, lim_line hz, e, po.fin d (.str _)⟩)
      · exact po.elim
    · exact po.elim
  · exact po.elim
theorem se_ix (ha : SB F ea ma) (hb : SB F eb mb) (hs : PlainIx eb := by exact fun _ _ => rfl) : SE F (.Subscript ea eb pos) (mOp oIx ma mb) := by
  obtain ⟨ta, pa, qa⟩ := ha
  obtain ⟨tb, pb, qb⟩ := hb
  exact ⟨fun W => tOp (rIx F.K) (ta W) (tb W), fun i => pe_ix (ix_seq (X := F.X i)) (pa i) (pb i) hs, fun W => rd_op sim_ix (qa W) (qb W)⟩

/-! ### slices -/
abbrev MO := En → Hh → Res (Option Int)
def SO (F : Fam) (e : Option Expr) (m : MO) : Prop := ∃ t : WX → TO, (∀ i, PO (F.X i) e (t (F.W i))) ∧ ∀ W, RdG F.S (fun _ _ (a b : Option Int) => a = b) W (t W) m
instance : Back (fun (_ _ : Wd) (a b : Option Int) => a = b) := ⟨fun _ _ _ _ _ _ h => h⟩
def mOn : MO := fun _ h => .ok none h
def mOs (m : ME) : MO := fun env h => (m env h).bind fun x h => match x with
  | .int i => .ok (some i) h
  | _ => .no
theorem so_none : SO F none mOn := ⟨fun _ => tNoPart, fun _ => po_none, fun W w0 w env h σ Q r po => PostE.fin po r.hd rfl⟩
theorem so_some (h : SB F e m) : SO F (some e) (mOs m) := by
  obtain ⟨t, p, q⟩ := h
  refine ⟨fun W => tPart (t W), fun i => po_some (p i), fun W w0 w env h σ Q r po => q W w0 w env h σ _ r (PostE.bind po fun x h1 w1 v s d e1 p1 => ?_)⟩
  split at p1
  · rw [e1.ofInt]; exact ⟨_, rfl, p1.fin d rfl⟩
  · exact p1.elim
def cutP (xs : List PV) (lo hi : Option Int) : List PV := (xs.drop (HT.sIx xs.length 0 lo)).take (HT.sIx xs.length xs.length hi - HT.sIx xs.length 0 lo)
theorem PRs.cut {K : PySem.W.Frag} {Φ : Hp} {ad : List Addr} {xs : List PV} {vs : List V} (r : PRs K Φ ad xs vs) (lo hi : Option Int) : PRs K Φ ad (cutP xs lo hi) (cutV vs lo hi) := by
  unfold cutP cutV
  rw [r.length]
  exact (r.drop _).take _
theorem cut_whole {xs : List PV} {lo hi : Option Int} (h : HT.sIx xs.length 0 lo = 0 ∧ HT.sIx xs.length xs.length hi = xs.length) : cutP xs lo hi = xs := by
  unfold cutP
  rw [h.1, h.2]
  simp
def oSl (x : PV) (lo hi : Option Int) (h : Hh) : Res PV := match x with
  | .lst xs => .ok (.lst (cutP xs lo hi)) h
  | .tup xs => .ok (.tup (cutP xs lo hi)) h
  | .str s => if s.length ≤ 16777216 then .ok (.str (cutS s lo hi)) h else .no
  | _ => .no
def mSl (m : ME) (lo hi : MO) : ME := fun env h => (m env h).bind fun x h => (lo env h).bind fun l h => (hi env h).bind fun u h => oSl x l u h
def rSlG (K : PySem.W.Frag) : V → Option Int → Option Int → Hp → VK → Prop := fun x lo hi H Q => rSlL K x lo hi H Q ∨ (rSlA K x lo hi H Q ∨ rSlS x lo hi H Q)
theorem se_sl {lo hi : Option Expr} {ml mh : MO} (h : SB F e m) (hl : SO F lo ml) (hh : SO F hi mh) : SE F (.Subscript e (.Slice lo hi none p2) pos) (mSl m ml mh) := by
  obtain ⟨t, p, q⟩ := h
  obtain ⟨tl, pl, ql⟩ := hl
  obtain ⟨th, ph, qh⟩ := hh
  refine ⟨fun W => tSl (rSlG F.K) (t W) (tl W) (th W), fun i => pe_slice ((sl_list (X := F.X i)).or (sl_tupA.or sl_str)) (p i) (pl i) (ph i), fun W w0 w env h σ Q r po => ?_⟩
  refine q W w0 w env h σ _ r (PostE.bind po fun x h1 w1 v s1 d1 e1 p1 => ql W w0 w1 env h1 σ _ (r.step s1 d1) (PostE.bind p1 fun l h2 w2 l' s2 d2 e2 p2 =>
    qh W w0 w2 env h2 σ _ ((r.step s1 d1).step s2 d2) (PostE.bind p2 fun u h3 w3 u' s3 d3 e3 p3 => ?_)))
  subst e2 e3
  have e1' := (e1.step s2).step s3
  unfold oSl at p3
  split at p3
  · obtain ⟨a, vs, rfl, ha, ra⟩ := e1'.ofLst d3
    exact .inl ⟨a, vs, rfl, ha, fun b nb => p3 (w3.lock b (.lst (cutV vs l u))) (.ref b) (Step.lock d3 nb) (d3.lock nb) (.lst (.inl (.inl upd_same)) ((Step.lock d3 nb).prs (ra.cut l u)))⟩
  · rename_i xs
    obtain ⟨a, vs, rfl, ha, ra⟩ := e1'.ofTup d3
    refine .inr (.inl ⟨a, vs, rfl, ha, fun hw => ?_, fun hn b nb => p3 (w3.lock b (.tup (cutV vs l u))) (.ref b) (Step.lock d3 nb) (d3.lock nb) (.tup (.inl (.inl upd_same)) ((Step.lock d3 nb).prs (ra.cut l u)))⟩)
    rw [← ra.length] at hw
    rw [cut_whole hw] at p3
    refine p3.fin d3 ?_
    rcases e1' with ⟨z⟩
    exact z
  · split at p3
    · rename_i hz
      exact .inr (.inr ⟨_, e1'.ofStr, lim_line hz, p3.fin d3 (.str _)⟩)
    · exact p3.elim
  · exact p3.elim
/-- a slice of a list, as a new list -/
def toLst (r : Res PV) : Res (List PV) := r.bind fun x h => match x with
  | .lst xs => .ok xs h
  | _ => .no
def mSlN (m : ME) (lo hi : MO) : MA := fun env h => (m env h).bind fun x h => (lo env h).bind fun l h => (hi env h).bind fun u h => match x with
  | .lst xs => .ok (cutP xs l u) h
  | _ => .no
theorem sn_sl {lo hi : Option Expr} {ml mh : MO} (h : SB F e m) (hl : SO F lo ml) (hh : SO F hi mh) : SN F (.Subscript e (.Slice lo hi none p2) pos) (mSlN m ml mh) := by
  obtain ⟨t, p, q⟩ := h
  obtain ⟨tl, pl, ql⟩ := hl
  obtain ⟨th, ph, qh⟩ := hh
  refine ⟨fun W => tSl (rSlL F.K) (t W) (tl W) (th W), fun i => pe_slice (sl_list (X := F.X i)) (p i) (pl i) (ph i), fun W w0 w env h σ Q r po => ?_⟩
  refine q W w0 w env h σ _ r (PostE.bind po fun x h1 w1 v s1 d1 e1 p1 => ql W w0 w1 env h1 σ _ (r.step s1 d1) (PostE.bind p1 fun l h2 w2 l' s2 d2 e2 p2 =>
    qh W w0 w2 env h2 σ _ ((r.step s1 d1).step s2 d2) (PostE.bind p2 fun u h3 w3 u' s3 d3 e3 p3 => ?_)))
  subst e2 e3
  have e1' := (e1.step s2).step s3
  split at p3
  · obtain ⟨a, vs, rfl, ha, ra⟩ := e1'.ofLst d3
    exact ⟨a, vs, rfl, ha, fun b nb => p3 (w3.put b (.lst (cutV vs l u))) (.ref b) (Step.put d3 nb) (d3.put nb) ⟨b, _, rfl, upd_same, (Step.put d3 nb).prs (ra.cut l u), d3.notAd nb, d3.fresh nb, nb⟩⟩
  · exact p3.elim

/-! ### tuple(..), list(..) -/
def fTuple : List PV → Hh → Res PV := fun xs h => match xs with
  | [.lst ys] => .ok (.tup ys) h
  | [.tup ys] => .ok (.tup ys) h
  | _ => .no
theorem se_tuple (hm : F.mg "tuple" = none) (ha : SAB F [e] mr) (hg : ∀ i, Gl (F.X i) "tuple" := by intro _; rfl) (he : ∀ i, starEach [e] (F.X i).env = (false, eval e (F.X i).env) :: starEach [] (F.X i).env := by intro _; rfl) : SE F (.Call (.Name "tuple" p) [e] [] pos) (mCall fTuple mr) :=
  se_callTy (r := fun xs H Q => ∃ p ys, xs = [.ref p] ∧ ((SqL F.K H p ys ∧ ∀ l, H l = none → Q (.ref l) (upd H l (.tup ys))) ∨ (SqT F.K H p ys ∧ Q (.ref p) H))) (fun W σ w h xs vs Q d px po => by
    unfold fTuple at po
    split at po
    · obtain ⟨v, rfl, p1⟩ := px.one
      obtain ⟨a, us, rfl, ha, ra⟩ := p1.ofLst d
      exact ⟨a, us, rfl, .inl ⟨ha, fun b nb => po (w.lock b (.tup us)) (.ref b) (Step.lock d nb) (d.lock nb) (.tup (.inl (.inl upd_same)) ((Step.lock d nb).prs ra))⟩⟩
    · obtain ⟨v, rfl, p1⟩ := px.one
      obtain ⟨a, us, rfl, ha, ra⟩ := p1.ofTup d
      refine ⟨a, us, rfl, .inr ⟨ha, po.fin d ?_⟩⟩
      rcases p1 with ⟨z⟩
      exact z
    · exact po.elim) (fun i => call_tuple_of (X := F.X i)) hm (by decide +kernel) ha hg (by decide) (by decide) he (fun _ => rfl)
/-- a new list from a call -/
def mCallN (f : List PV → Hh → Res (List PV)) (m : MA) : MA := fun env h => (m env h).bind fun xs h => f xs h
def SimN (S : Sx) (r : List V → Hp → VK → Prop) (f : List PV → Hh → Res (List PV)) : Prop := ∀ (W : WX) (σ : L2.St) (w : Wd) (h : Hh) (xs : List PV) (vs : List V) (Q : VK), Hd S w h → PBs S w xs vs → PostE S W w σ (RN S) (f xs h) Q → r vs w.H Q
theorem sn_callB {id : String} {x : Str} {r : List V → Hp → VK → Prop} {f : List PV → Hh → Res (List PV)} (hf : SimN F.S r f) (hc : ∀ i, CallR (F.X i) (.builtin id) r) (hm : F.mg x = none) (hv : bootBuiltins x = some (.builtin id)) (ha : SAB F (e :: es) mr)
    (hg : ∀ i, Gl (F.X i) x := by intro _; rfl) (hn : x ≠ "__name__" := by decide) (hdb : (x == ("__debug__" : Str)) = false := by decide)
    (he : ∀ i, starEach (e :: es) (F.X i).env = (false, eval e (F.X i).env) :: starEach es (F.X i).env := by intro _; rfl) (hpl : ∀ i, (backTo pos (starEach es (F.X i).env)).any (·.1) = false := by intro _; rfl) : SN F (.Call (.Name x p) (e :: es) [] pos) (mCallN f mr) := by
  obtain ⟨t, pa, q⟩ := ha
  exact ⟨fun W => tCB r (t W), fun i => pe_callB (hc i) (hg i) hm hv (pa i) hn hdb (he i) (hpl i), fun W w0 w env h σ Q rl po => q W w0 w env h σ _ rl (PostE.bind po fun xs h1 w1 vs s1 d1 p1 po1 => hf W σ w1 h1 xs vs Q d1 p1 po1)⟩
theorem sn_callTy {T : String} {x : Str} {r : List V → Hp → VK → Prop} {f : List PV → Hh → Res (List PV)} (hf : SimN F.S r f) (hc : ∀ i, CallR (F.X i) (.type T) r) (hm : F.mg x = none) (hv : bootBuiltins x = some (.type T)) (ha : SAB F (e :: es) mr)
    (hg : ∀ i, Gl (F.X i) x := by intro _; rfl) (hn : x ≠ "__name__" := by decide) (hdb : (x == ("__debug__" : Str)) = false := by decide)
    (he : ∀ i, starEach (e :: es) (F.X i).env = (false, eval e (F.X i).env) :: starEach es (F.X i).env := by intro _; rfl) (hpl : ∀ i, (backTo pos (starEach es (F.X i).env)).any (·.1) = false := by intro _; rfl) : SN F (.Call (.Name x p) (e :: es) [] pos) (mCallN f mr) := by
  obtain ⟨t, pa, q⟩ := ha
  exact ⟨fun W => tCB r (t W), fun i => pe_callTy (hc i) (hg i) hm hv (pa i) hn hdb (he i) (hpl i), fun W w0 w env h σ Q rl po => q W w0 w env h σ _ rl (PostE.bind po fun xs h1 w1 vs s1 d1 p1 po1 => hf W σ w1 h1 xs vs Q d1 p1 po1)⟩
theorem putN {S : Sx} {W : WX} {σ : L2.St} {w : Wd} {h : Hh} {xs : List PV} {vs : List V} {Q : VK} (d : Hd S w h) (r : PWs S w xs vs) (po : PostE S W w σ (RN S) (.ok xs h) Q) {b : Addr} (nb : w.H b = none) : Q (.ref b) (upd w.H b (.lst vs)) :=
  po (w.put b (.lst vs)) (.ref b) (Step.put d nb) (d.put nb) ⟨b, _, rfl, upd_same, (Step.put d nb).prs r, d.notAd nb, d.fresh nb, nb⟩
def fList : List PV → Hh → Res (List PV) := fun xs h => match xs with
  | [.lst ys] => .ok ys h
  | [.tup ys] => .ok ys h
  | _ => .no
theorem sn_list (hm : F.mg "list" = none) (ha : SAB F [e] mr) (hg : ∀ i, Gl (F.X i) "list" := by intro _; rfl) (he : ∀ i, starEach [e] (F.X i).env = (false, eval e (F.X i).env) :: starEach [] (F.X i).env := by intro _; rfl) : SN F (.Call (.Name "list" p) [e] [] pos) (mCallN fList mr) :=
  sn_callTy (r := fun xs H Q => ∃ p ys, xs = [.ref p] ∧ (SqL F.K H p ys ∨ SqT F.K H p ys) ∧ ∀ l, H l = none → Q (.ref l) (upd H l (.lst ys))) (fun W σ w h xs vs Q d px po => by
    unfold fList at po
    split at po
    · obtain ⟨v, rfl, p1⟩ := px.one
      obtain ⟨a, us, rfl, ha, ra⟩ := p1.ofLst d
      exact ⟨a, us, rfl, .inl ha, fun b nb => putN d ra po nb⟩
    · obtain ⟨v, rfl, p1⟩ := px.one
      obtain ⟨a, us, rfl, ha, ra⟩ := p1.ofTup d
      exact ⟨a, us, rfl, .inr ha, fun b nb => putN d ra po nb⟩
    · exact po.elim) (fun i => call_list_of (X := F.X i)) hm (by decide +kernel) ha hg (by decide) (by decide) he (fun _ => rfl)
/-! ### all, any of a list of truth values -/
def boolsOf : List PV → Option (List Bool)
  | [] => some []
  | .bl b :: r => (boolsOf r).map (b :: ·)
  | _ :: _ => none
theorem bools_ok {K : PySem.W.Frag} {Φ : Hp} {ad : List Addr} : ∀ {xs : List PV} {vs : List V} {bs : List Bool}, PRs K Φ ad xs vs → boolsOf xs = some bs → vs = bs.map V.bl
  | [], _, _, .nil, e => by cases e; rfl
  | x :: r, _, bs, .cons p q, e => by
    cases p with
    | bl b =>
      unfold boolsOf at e
      obtain ⟨cs, e1, e2⟩ := Option.map_eq_some_iff.mp e
      subst e2
      rw [bools_ok q e1]; rfl
    | _ => cases e
def fAll : List PV → Hh → Res PV := fun xs h => match xs with
  | [.lst ys] => match boolsOf ys with
    | some bs => .ok (.bl (bs.all id)) h
    | none => .no
  | _ => .no
def fAny : List PV → Hh → Res PV := fun xs h => match xs with
  | [.lst ys] => match boolsOf ys with
    | some bs => .ok (.bl (bs.any id)) h
    | none => .no
  | _ => .no
theorem se_all (hc : F.calm = true) (hm : F.mg "all" = none) (ha : SAB F [e] mr) (hg : ∀ i, Gl (F.X i) "all" := by intro _; rfl) (he : ∀ i, starEach [e] (F.X i).env = (false, eval e (F.X i).env) :: starEach [] (F.X i).env := by intro _; rfl) : SE F (.Call (.Name "all" p) [e] [] pos) (mCall fAll mr) :=
  se_callB (r := rAll F.K) (fun W σ w h xs vs Q d px po => by
    unfold fAll at po
    split at po
    · split at po
      · rename_i bs eb
        obtain ⟨v, rfl, p1⟩ := px.one
        obtain ⟨a, us, rfl, ha, ra⟩ := p1.ofLst d
        have eu := bools_ok ra eb
        subst eu
        exact ⟨a, bs, rfl, ha, po.fin d (.bl _)⟩
      · exact po.elim
    · exact po.elim) (fun i => cr_all (X := F.X i) hc) hm (by decide +kernel) ha hg (by decide) (by decide) he (fun _ => rfl)
theorem se_any (hc : F.calm = true) (hm : F.mg "any" = none) (ha : SAB F [e] mr) (hg : ∀ i, Gl (F.X i) "any" := by intro _; rfl) (he : ∀ i, starEach [e] (F.X i).env = (false, eval e (F.X i).env) :: starEach [] (F.X i).env := by intro _; rfl) : SE F (.Call (.Name "any" p) [e] [] pos) (mCall fAny mr) :=
  se_callB (r := rAny F.K) (fun W σ w h xs vs Q d px po => by
    unfold fAny at po
    split at po
    · split at po
      · rename_i bs eb
        obtain ⟨v, rfl, p1⟩ := px.one
        obtain ⟨a, us, rfl, ha, ra⟩ := p1.ofLst d
        have eu := bools_ok ra eb
        subst eu
        exact ⟨a, bs, rfl, ha, po.fin d (.bl _)⟩
      · exact po.elim
    · exact po.elim) (fun i => cr_any (X := F.X i) hc) hm (by decide +kernel) ha hg (by decide) (by decide) he (fun _ => rfl)

/-! ### calls of defs -/
abbrev MF := List PV → Hh → Res PV
def PostC (S : Sx) (w : Wd) (r : Res PV) (Q : VK) (E : XK) : Prop := match r with
  | .ok x h' => ∀ w' v, Step w w' → Hd S w' h' → PW' S w' x v → Q v w'.H
  | .er x h' => ∀ w' cls d, Step w w' → Hd S w' h' → RX S w' x cls d → E cls d w'.H
  | .no => False
/-- a def's promise: it does what its mirror says -/
def Sx.nul (S : Sx) : Sx := ⟨S.K, S.cA, 0, none⟩
theorem Hd.nul {S : Sx} {w : Wd} {h : Hh} (d : Hd S w h) : Hd S.nul w h := Hd.conv (S := S) (S' := S.nul) rfl rfl d
theorem Hd.unnul {S : Sx} {w : Wd} {h : Hh} (d : Hd S.nul w h) : Hd S w h := Hd.conv (S := S.nul) (S' := S) rfl rfl d
def spM (S : Sx) (f : MF) : Sp := fun vs H Q E => ∃ w h args, w.H = H ∧ Hd S.nul w h ∧ PWs S.nul w args vs ∧ PostC S.nul w (f args h) Q E
theorem rd_calls {S : Sx} {W : WX} {mf : MF} {ta : TA} (q : RdG S (RVs S) W ta mr) : RdG S (RV S) W (tCallS (spM S mf) (WE W) ta) (mCall mf mr) :=
  fun w0 w env h σ Q rl po => q w0 w env h σ _ rl (PostE.bind po fun xs h1 w1 vs s1 d1 p1 po1 => by
    refine ⟨w1, h1, xs, rfl, d1.nul, p1, ?_⟩
    cases e : mf xs h1 with
    | ok x h' => rw [e] at po1; exact fun w' v s d r => po1 w' v s d.unnul r
    | er x h' => rw [e] at po1; exact fun w' c d s dd r => po1 w' c d s dd.unnul r
    | no => rw [e] at po1; exact po1)
theorem se_call {f : Addr} {fd : FuncData} {ps : List Str} {x : Str} {mf : MF} {k : Nat} (ok : F.Ok) (G : FnOk F.P F.w F.K F.mg F.base (L2.CX F.P F.w) k f fd ps (spM F.S mf)) (hk : k ≤ F.k) (hm : F.mg x = some (.ref f)) (hkp : PySem.W.keepIn F.K (.ref f) = true)
    (hb : Binds F.K fd ps []) (ha : SA F (e :: es) mr) (hg : ∀ i, Gl (F.X i) x := by intro _; rfl) (hdb : (x == ("__debug__" : Str)) = false := by decide)
    (he : ∀ i, starEach (e :: es) (F.X i).env = (false, eval e (F.X i).env) :: starEach es (F.X i).env := by intro _; rfl) (hpl : ∀ i, (backTo pos (starEach es (F.X i).env)).any (·.1) = false := by intro _; rfl) :
    SE F (.Call (.Name x p) (e :: es) [] pos) (mCall mf mr) := by
  obtain ⟨t, pa, q⟩ := ha
  exact ⟨fun W => tCallS (spM F.S mf) (WE W) (t W), fun i => pe_callS (X := F.X i) G ((ok.hr i).mono hk) (hg i) hm hkp hb (fun σ => passAt (ok.tk i) σ) (pa i) hdb (he i) (hpl i), fun W => rd_calls (q W)⟩
theorem pe_callS0 {X : Cx} {CX : CXT} {k : Nat} {f : Addr} {fd : FuncData} {ps : List Str} {sp : Sp} {E : L2.St → XK} {x : Str} (G : FnOk X.prog X.w X.K X.mg X.base CX k f fd ps sp) (hr : Room k X.A) (hg : Gl X x) (hm : X.mg x = some (.ref f)) (hk : PySem.W.keepIn X.K (.ref f) = true) (hb : Binds X.K fd ps []) (hx : ∀ σ, PassesAt CX X σ (E σ))
    (hdb : (x == ("__debug__" : Str)) = false := by decide) : PE X (.Call (.Name x p) [] [] pos) (tCallS sp E tNil) := by
  refine ⟨fun pins s σ H Q I h => ?_⟩
  refine wpAny_Call_Name_kw (ld_glob I hg hm ?_ hdb)
  exact PySem.W.callWith_K0 I.kIn hk (run_fnS (us := []) G hr hb (hx σ) I .nil h)
theorem se_call0 {f : Addr} {fd : FuncData} {ps : List Str} {x : Str} {mf : MF} {k : Nat} (ok : F.Ok) (G : FnOk F.P F.w F.K F.mg F.base (L2.CX F.P F.w) k f fd ps (spM F.S mf)) (hk : k ≤ F.k) (hm : F.mg x = some (.ref f)) (hkp : PySem.W.keepIn F.K (.ref f) = true)
    (hb : Binds F.K fd ps []) (hg : ∀ i, Gl (F.X i) x := by intro _; rfl) (hdb : (x == ("__debug__" : Str)) = false := by decide) :
    SE F (.Call (.Name x p) [] [] pos) (mCall mf mNil) :=
  ⟨fun W => tCallS (spM F.S mf) (WE W) tNil, fun i => pe_callS0 (X := F.X i) G ((ok.hr i).mono hk) (hg i) hm hkp hb (fun σ => passAt (ok.tk i) σ) hdb, fun W => rd_calls fun w0 w env h σ Q rl po => PostE.fin po rl.hd .nil⟩
/-- another mirror that says the same (or less) -/
theorem FnOk.mirror {P : Program} {w : World} {K : PySem.W.Frag} {mg : Str → Option Value} {base : Heap} {k : Nat} {f : Addr} {fd : FuncData} {ps : List Str} {S : Sx} {mf mf' : MF} (G : FnOk P w K mg base (L2.CX P w) k f fd ps (spM S mf))
    (h : ∀ args H, mf' args H ≠ .no → mf args H = mf' args H) : FnOk P w K mg base (L2.CX P w) k f fd ps (spM S mf') :=
  FnOk.imp G fun vs H Q E ⟨w, hh, args, e, d, r, po⟩ => ⟨w, hh, args, e, d, r, by
    rw [h args hh (fun z => by rw [z] at po; exact po)]; exact po⟩
end
end Mir

set_option Elab.async false
set_option linter.all false
set_option maxRecDepth 100000
set_option maxHeartbeats 1000000
namespace Mir
open PySem PySem.Spec PyProof.Rows L2

/-! ### statements -/
def RdS (S : Sx) (W : WX) (t : TS) (m : MS) : Prop := ∀ (w0 w : Wd) (env : En) (h : Hh) (σ : L2.St) (D : Ends), Rl S w0 w env h σ → PostS S W w0 w (m env h) D → t D σ w.H
def SS (F : Fam) (st : Stmt) (m : MS) : Prop := ∃ t : WX → TS, (∀ i, PS (F.X i) st (t (F.W i))) ∧ ∀ W, RdS F.S W (t W) m
def SSs (F : Fam) (sts : List Stmt) (m : MS) : Prop := ∃ t : WX → TS, (∀ i, PSs (F.X i) sts (t (F.W i))) ∧ ∀ W, RdS F.S W (t W) m
theorem PostS.mono {S : Sx} {W : WX} {w0 w w1 : Wd} {r : SR} {D : Ends} (x : Ext w w1) (p : PostS S W w0 w r D) : PostS S W w0 w1 r D := by
  cases r with
  | nx env h => exact fun w' σ' y r => p w' σ' (x.trans y) r
  | rt v h => exact p
  | bk env h => exact fun w' σ' y r => p w' σ' (x.trans y) r
  | ct env h => exact fun w' σ' y r => p w' σ' (x.trans y) r
  | er e env h => exact fun w' σ' c d y r q => p w' σ' c d (x.trans y) r q
  | no => exact p
/-- what a statement makes of an expression's result -/
def ofE {α : Type} (r : Res α) (env : En) (k : α → Hh → SR) : SR := match r with
  | .ok a h => k a h
  | .er x h => .er x env h
  | .no => .no
@[simp] theorem ofE_ok {α : Type} (a : α) (h : Hh) (env : En) (k : α → Hh → SR) : ofE (.ok a h) env k = k a h := id rfl
@[simp] theorem ofE_er {α : Type} (x : Xn) (h : Hh) (env : En) (k : α → Hh → SR) : ofE (.er x h : Res α) env k = .er x env h := id rfl
@[simp] theorem ofE_no {α : Type} (env : En) (k : α → Hh → SR) : ofE (.no : Res α) env k = .no := id rfl
theorem PostS.ofE {α β : Type} {S : Sx} {W : WX} {w0 w : Wd} {R : RR α β} {r : Res α} {env : En} {h : Hh} {σ : L2.St} {k : α → Hh → SR} {D : Ends} {Q : β → Hp → Prop} (rl : Rl S w0 w env h σ) (p : PostS S W w0 w (Mir.ofE r env k) D)
    (g : ∀ x h1 w1 v, Step w w1 → Hd S w1 h1 → R w w1 x v → PostS S W w0 w1 (k x h1) D → Q v w1.H) : PostE S W w σ R r Q := by
  cases r with
  | ok x h1 => exact fun w1 v s d q => g x h1 w1 v s d q (PostS.mono s.ext p)
  | er x h1 => exact fun w1 cls d s dd q => p w1 σ cls d s.ext (rl.step s dd) q
  | no => exact p
section
variable {F : Fam} {e ea eb ec : Expr} {es : List Expr} {st : Stmt} {rest sts : List Stmt} {pos p p2 pos' : Pos} {m : ME} {mt : MT} {ma : MA} {ms ms' : MS}
def mSkip : MS := fun env h => .nx env h
def mSeq (m n : MS) : MS := fun env h => match m env h with
  | .nx env h => n env h
  | r => r
theorem rd_seq {S : Sx} {W : WX} {t u : TS} (q : RdS S W t ms) (q' : RdS S W u ms') : RdS S W (tSeq t u) (mSeq ms ms') := by
  intro w0 w env h σ D rl po
  refine q w0 w env h σ _ rl ?_
  unfold mSeq at po
  cases em : ms env h with
  | nx env' h' => rw [em] at po; exact fun w' σ' x r => q' w0 w' env' h' σ' D r (PostS.mono x po)
  | rt v h' => rw [em] at po; exact po
  | bk env' h' => rw [em] at po; exact po
  | ct env' h' => rw [em] at po; exact po
  | er x env' h' => rw [em] at po; exact po
  | no => rw [em] at po; exact po
theorem sss_nil : SSs F [] mSkip := ⟨fun _ => tNext, fun _ => pss_nil, fun W w0 w env h σ D rl po => po w σ (Ext.refl w) rl⟩
theorem sss_cons (a : SS F st ms) (b : SSs F rest ms') : SSs F (st :: rest) (mSeq ms ms') := by
  obtain ⟨t, p, q⟩ := a
  obtain ⟨t', p', q'⟩ := b
  exact ⟨fun W => tSeq (t W) (t' W), fun i => pss_cons (p i) (p' i), fun W => rd_seq (q W) (q' W)⟩
theorem sss_one (a : SS F st ms) : SSs F [st] ms := by
  obtain ⟨t, p, q⟩ := a
  exact ⟨t, fun i => pss_one (p i), q⟩
theorem ss_pass : SS F (.Pass pos) mSkip := ⟨fun _ => tNext, fun _ => ps_pass, fun W w0 w env h σ D rl po => po w σ (Ext.refl w) rl⟩
def mBreak : MS := fun env h => .bk env h
def mCont : MS := fun env h => .ct env h
theorem ss_break : SS F (.Break pos) mBreak := ⟨fun _ => tBreak, fun _ => ps_break, fun W w0 w env h σ D rl po => po w σ (Ext.refl w) rl⟩
theorem ss_continue : SS F (.Continue pos) mCont := ⟨fun _ => tCont, fun _ => ps_continue, fun W w0 w env h σ D rl po => po w σ (Ext.refl w) rl⟩
def mDrop (m : ME) : MS := fun env h => ofE (m env h) env fun _ h => .nx env h
theorem ss_expr (a : SB F e m) (hs : ∀ i, swapsWith e none pos.line (F.X i).env = pure false := by intro _; rfl) : SS F (.Expr e pos) (mDrop m) := by
  obtain ⟨t, p, q⟩ := a
  exact ⟨fun W => tDrop (t W), fun i => ps_expr (p i) (hs i), fun W w0 w env h σ D rl po => q W w0 w env h σ _ rl (PostS.ofE rl po fun x h1 w1 v s d r p1 => p1 w1 σ (Ext.refl w1) (rl.step s d))⟩
def mRet (m : ME) : MS := fun env h => ofE (m env h) env fun x h => .rt x h
theorem ss_ret (a : SE F e m) : SS F (.Return (some e) pos) (mRet m) := by
  obtain ⟨t, p, q⟩ := a
  exact ⟨fun W => tRet (t W), fun i => ps_ret (p i), fun W w0 w env h σ D rl po => q W w0 w env h σ _ rl (PostS.ofE rl po fun x h1 w1 v s d r p1 => p1 w1 v (rl.st.trans s) d r)⟩
def mRetN : MS := fun _ h => .rt .non h
theorem ss_retN : SS F (.Return none pos) mRetN := ⟨fun _ => tRetN, fun _ => ps_retN, fun W w0 w env h σ D rl po => po w .non rl.st rl.hd .non⟩
/-- a list of nobody's, locked: the world -/
theorem Rl.lockOwn {S : Sx} {w0 w : Wd} {env : En} {h : Hh} {σ : L2.St} (rl : Rl S w0 w env h σ) {i : Nat} {xs : List PV} (e : env[i]? = some (.own (.lst xs))) :
    ∃ a vs w', σ[i]? = some (some (.ref a)) ∧ w'.H = w.H ∧ Step w0 w' ∧ Ext w w' ∧ Hd S w' h ∧ PW' S w' (.lst xs) (.ref a) ∧ w' = ⟨upd w.Φ a (.lst vs), w.H, w.ad⟩ := by
  obtain ⟨a, e1, ⟨vs, ea, rs⟩, f, n, z⟩ := rl.sl.own i _ e
  have x : Ext w ⟨upd w.Φ a (.lst vs), w.H, w.ad⟩ := by
    refine ⟨fun x o q => ?_, fun _ _ q => q⟩
    show upd w.Φ a (.lst vs) x = some o
    have : x ≠ a := fun hx => by rw [hx, f] at q; cases q
    rw [upd_ne this]; exact q
  refine ⟨a, vs, ⟨upd w.Φ a (.lst vs), w.H, w.ad⟩, e1, rfl, ⟨fun x' o q => x.fz x' o (rl.st.fz x' o q), rl.st.ix, rl.st.nw, rl.st.kp, rl.st.th, fun x' o q => ?_⟩, x, ⟨fun x' o q => ?_, rl.hd.len, rl.hd.nd, fun x' hx => ?_, fun k o x' p q => ?_⟩, .lst (.inl (.inl upd_same)) (x.prs rs), rfl⟩
  · by_cases hx : x' = a
    · subst hx; exact .inr z
    · have q' : upd w.Φ a (.lst vs) x' = some o := q
      rw [upd_ne hx] at q'; exact rl.st.fn x' o q'
  · by_cases hx : x' = a
    · subst hx
      have q' : upd w.Φ x' (.lst vs) x' = some o := q
      rw [upd_same] at q'; cases q'; exact ea
    · have q' : upd w.Φ a (.lst vs) x' = some o := q
      rw [upd_ne hx] at q'; exact rl.hd.sub x' o q'
  · show upd w.Φ a (.lst vs) x' = none
    have : x' ≠ a := fun hq => n (by rw [← hq]; exact hx)
    rw [upd_ne this]; exact rl.hd.sep x' hx
  · have r := rl.hd.obj k o x' p q
    cases o with
    | lst xs => obtain ⟨us, e1, r1⟩ := r; exact ⟨us, e1, x.prs r1⟩
    | dct ks xs => obtain ⟨us, l1, e1, r1⟩ := r; exact ⟨us, l1, e1, x.prs r1⟩
    | ins cc ns xs => obtain ⟨C, dx, us, c1, l1, e1, r1⟩ := r; exact ⟨C, dx, us, c1, l1, e1, x.prs r1⟩
/-- return a list of one's own -/
def mRetOwn (i : Nat) : MS := fun env h => match env[i]? with
  | some (.own (.lst xs)) => .rt (.lst xs) h
  | some (.v x) => .rt x h
  | _ => .no
theorem ss_retOwn (i : Nat) {x : Str} (hN : F.N[i]? = some x := by rfl) (hv : ∀ j, Vis (F.env j).scope x := by first | exact fun _ => Or.inl rfl | exact fun _ => Or.inr (Or.inl rfl) | exact fun _ => Or.inr (Or.inr rfl))
    (hd : (x == ("__debug__" : Str)) = false := by decide) (hcd : (x == ("__classdict__" : Str)) = false := by decide) : SS F (.Return (some (.Name x p)) pos) (mRetOwn i) := by
  refine ⟨fun _ => tRet (tVar i), fun j => ps_ret (pe_var (X := F.X j) hN (hv j) hd hcd), fun W w0 w env h σ D rl po => ?_⟩
  unfold mRetOwn at po
  split at po
  · rename_i xs e
    obtain ⟨a, vs, w', e1, eH, s, x, d, r, _⟩ := rl.lockOwn e
    refine ⟨_, e1, ?_⟩
    rw [← eH]
    exact po w' _ s d r
  · rename_i x e
    obtain ⟨v, e1, pr⟩ := rl.sl.slot i x e
    exact ⟨v, e1, po w v rl.st rl.hd pr⟩
  · exact po.elim
/-! ### storing -/
theorem set_get {α : Type} (l : List α) (i j : Nat) (a : α) {y : α} (h : (l.set i a)[j]? = some y) : (j = i ∧ y = a ∧ i < l.length) ∨ (j ≠ i ∧ l[j]? = some y) := by
  by_cases hj : i = j
  · subst hj
    by_cases hl : i < l.length
    · rw [List.getElem?_set_self hl] at h; cases h; exact .inl ⟨rfl, rfl, hl⟩
    · rw [List.getElem?_eq_none (by simpa using hl)] at h; cases h
  · rw [List.getElem?_set_ne hj] at h; exact .inr ⟨fun q => hj q.symm, h⟩
theorem Rl.set {S : Sx} {w0 w : Wd} {env : En} {h : Hh} {σ : L2.St} (rl : Rl S w0 w env h σ) (i : Nat) {x : PV} {v : V} (r : PW' S w x v) : Rl S w0 w (env.set i (.v x)) h (σ.set i (some v)) := by
  refine ⟨rl.st, rl.hd, by simp [rl.sl.len], fun j y e => ?_, fun j o e => ?_, fun j k o o' a e1 e2 f1 f2 => ?_, exq_set rl.sl.exq i (fun _ q => by cases q) _⟩
  · rcases set_get _ _ _ _ e with ⟨rfl, e1, hl⟩ | ⟨hj, e1⟩
    · cases e1
      exact ⟨v, by rw [List.getElem?_set_self (by rw [← rl.sl.len]; exact hl)], r⟩
    · rw [List.getElem?_set_ne (Ne.symm hj)]
      exact rl.sl.slot j y e1
  · rcases set_get _ _ _ _ e with ⟨rfl, e1, hl⟩ | ⟨hj, e1⟩
    · cases e1
    · rw [List.getElem?_set_ne (Ne.symm hj)]
      exact rl.sl.own j o e1
  · rcases set_get _ _ _ _ e1 with ⟨rfl, g, hl⟩ | ⟨hj, g⟩
    · cases g
    · rcases set_get _ _ _ _ e2 with ⟨rfl, g2, hl⟩ | ⟨hk, g2⟩
      · cases g2
      · rw [List.getElem?_set_ne (Ne.symm hj)] at f1
        rw [List.getElem?_set_ne (Ne.symm hk)] at f2
        exact rl.sl.sep j k o o' a g g2 f1 f2
def mSet (i : Nat) (m : ME) : MS := fun env h => ofE (m env h) env fun x h => .nx (env.set i (.v x)) h
theorem rd_set {S : Sx} {W : WX} {te : TE} (i : Nat) (q : RdG S (RV S) W te m) : RdS S W (tAsg te (gName i)) (mSet i m) :=
  fun w0 w env h σ D rl po => q w0 w env h σ _ rl (PostS.ofE rl po fun x h1 w1 v s d r p1 => p1 w1 _ (Ext.refl w1) ((rl.step s d).set i r))
theorem ss_set (i : Nat) {x : Str} (ok : F.Ok) (a : SE F e m) (hi : F.N[i]? = some x := by rfl) (hx : ∀ j, Loc (F.env j).scope x := by first | exact fun _ => Or.inl rfl | exact fun _ => Or.inr rfl)
    (hs : ∀ j, swapsWith e (some (.Name x pos')) pos.line (F.X j).env = pure false := by intro _; rfl) (hf : ∀ j, (F.X j).fn x = true ∨ (F.X j).env.scope.names.lookup x = some .local := by first | exact fun _ => Or.inl rfl | exact fun _ => Or.inr rfl) :
    SS F (.Assign [.Name x pos'] e pos) (mSet i m) := by
  obtain ⟨t, p, q⟩ := a
  exact ⟨fun W => tAsg (t W) (gName i), fun j => ps_set (X := F.X j) ok.nd hi (hx j) (p j) (hs j) (hf j), fun W => rd_set i (q W)⟩
/-- a new list of one's own -/
theorem Rl.setN {S : Sx} {w0 w wb : Wd} {env : En} {h : Hh} {σ : L2.St} (rl : Rl S w0 w env h σ) (st : Step w0 wb) (i : Nat) {xs : List PV} {vs : List V} {a : Addr} (ea : w.H a = some (.lst vs)) (r : PWs S w xs vs) (n : a ∉ w.ad) (f : w.Φ a = none) (z : wb.H a = none)
    (sb : Sl S w0 wb env σ) : Rl S w0 w (env.set i (.own (.lst xs))) h (σ.set i (some (.ref a))) := by
  have z0 : w0.H a = none := st.fr z
  have old : ∀ (j : Nat) (o : Ob), env[j]? = some (.own o) → σ[j]? ≠ some (some (.ref a)) := fun j o e q => by
    obtain ⟨b, e1, ro, _⟩ := sb.own j o e
    rw [q] at e1
    cases e1
    exact ro.there z
  refine ⟨rl.st, rl.hd, by simp [rl.sl.len], fun j y e => ?_, fun j o e => ?_, fun j k o o' b e1 e2 f1 f2 => ?_, exq_set rl.sl.exq i (fun _ q => by cases q) _⟩
  · rcases set_get _ _ _ _ e with ⟨rfl, e1, hl⟩ | ⟨hj, e1⟩
    · cases e1
    · rw [List.getElem?_set_ne (Ne.symm hj)]
      exact rl.sl.slot j y e1
  · rcases set_get _ _ _ _ e with ⟨rfl, e1, hl⟩ | ⟨hj, e1⟩
    · cases e1
      exact ⟨a, by rw [List.getElem?_set_self (by rw [← rl.sl.len]; exact hl)], ⟨vs, ea, r⟩, f, n, z0⟩
    · rw [List.getElem?_set_ne (Ne.symm hj)]
      exact rl.sl.own j o e1
  · rcases set_get _ _ _ _ e1 with ⟨rfl, g, hl⟩ | ⟨hj, g⟩
    · rcases set_get _ _ _ _ e2 with ⟨rfl, g2, hl2⟩ | ⟨hk, g2⟩
      · rfl
      · rw [List.getElem?_set_self (by rw [← rl.sl.len]; exact hl)] at f1
        cases f1
        rw [List.getElem?_set_ne (Ne.symm hk)] at f2
        exact absurd f2 (old k o' g2)
    · rcases set_get _ _ _ _ e2 with ⟨rfl, g2, hl2⟩ | ⟨hk, g2⟩
      · rw [List.getElem?_set_self (by rw [← rl.sl.len]; exact hl2)] at f2
        cases f2
        rw [List.getElem?_set_ne (Ne.symm hj)] at f1
        exact absurd f1 (old j o g)
      · rw [List.getElem?_set_ne (Ne.symm hj)] at f1
        rw [List.getElem?_set_ne (Ne.symm hk)] at f2
        exact rl.sl.sep j k o o' b g g2 f1 f2
def mSetN (i : Nat) (m : MA) : MS := fun env h => ofE (m env h) env fun xs h => .nx (env.set i (.own (.lst xs))) h
theorem rd_setN {S : Sx} {W : WX} {te : TE} (i : Nat) (q : RdG S (RN S) W te ma) : RdS S W (tAsg te (gName i)) (mSetN i ma) :=
  fun w0 w env h σ D rl po => q w0 w env h σ _ rl (PostS.ofE rl po fun x h1 w1 v s d ⟨a, vs, ev, ea, r, n, f, z⟩ p1 => by
    subst ev
    exact p1 w1 _ (Ext.refl w1) ((rl.step s d).setN rl.st i ea r n f z rl.sl))
theorem ss_setN (i : Nat) {x : Str} (ok : F.Ok) (a : SN F e ma) (hi : F.N[i]? = some x := by rfl) (hx : ∀ j, Loc (F.env j).scope x := by first | exact fun _ => Or.inl rfl | exact fun _ => Or.inr rfl)
    (hs : ∀ j, swapsWith e (some (.Name x pos')) pos.line (F.X j).env = pure false := by intro _; rfl) (hf : ∀ j, (F.X j).fn x = true ∨ (F.X j).env.scope.names.lookup x = some .local := by first | exact fun _ => Or.inl rfl | exact fun _ => Or.inr rfl) :
    SS F (.Assign [.Name x pos'] e pos) (mSetN i ma) := by
  obtain ⟨t, p, q⟩ := a
  exact ⟨fun W => tAsg (t W) (gName i), fun j => ps_set (X := F.X j) ok.nd hi (hx j) (p j) (hs j) (hf j), fun W => rd_setN i (q W)⟩
/-- the content of a list of one's own changes -/
theorem Rl.chg {S : Sx} {w0 w : Wd} {env : En} {h : Hh} {σ : L2.St} (rl : Rl S w0 w env h σ) {i : Nat} {xs ys : List PV} {us : List V} {a : Addr} (e : env[i]? = some (.own (.lst xs))) (ei : σ[i]? = some (some (.ref a))) (r : PWs S w ys us) :
    Rl S w0 ⟨w.Φ, upd w.H a (.lst us), w.ad⟩ (env.set i (.own (.lst ys))) h σ := by
  obtain ⟨b, e1, ⟨vs, ea, rs⟩, f, n, z⟩ := rl.sl.own i _ e
  rw [ei] at e1
  cases e1
  have st : Step w0 ⟨w.Φ, upd w.H a (.lst us), w.ad⟩ := by
    refine ⟨rl.st.fz, rl.st.ix, rl.st.nw, fun x o q hx => ?_, fun x q => ?_, rl.st.fn⟩
    · show upd w.H a (.lst us) x = some o
      have : x ≠ a := fun hq => by rw [hq, z] at q; cases q
      rw [upd_ne this]; exact rl.st.kp x o q hx
    · show upd w.H a (.lst us) x ≠ none
      by_cases hx : x = a
      · subst hx; rw [upd_same]; simp
      · rw [upd_ne hx]; exact rl.st.th x q
  have ro : ∀ {x : Addr} {o : Ob}, x ≠ a → RO S w x o → RO S ⟨w.Φ, upd w.H a (.lst us), w.ad⟩ x o := fun {x o} hx ro => by
    cases o with
    | lst xs => obtain ⟨us', e1, r1⟩ := ro; exact ⟨us', by rw [← e1]; exact upd_ne hx, r1⟩
    | dct ks xs => obtain ⟨us', l1, e1, r1⟩ := ro; exact ⟨us', l1, by rw [← e1]; exact upd_ne hx, r1⟩
    | ins cc ns xs => obtain ⟨C, dx, us', c1, l1, e1, r1⟩ := ro; exact ⟨C, dx, us', c1, l1, by rw [← e1]; exact upd_ne hx, r1⟩
  refine ⟨st, ⟨fun x o q => ?_, rl.hd.len, rl.hd.nd, rl.hd.sep, fun k o x p q => ro (fun hq => n (by rw [← hq]; exact List.mem_of_getElem? q)) (rl.hd.obj k o x p q)⟩, by simp [rl.sl.len], fun j y q => ?_, fun j o q => ?_, fun j k o o' b e1 e2 f1 f2 => ?_, fun j y q => ?_⟩
  rotate_left 4
  · rcases set_get _ _ _ _ q with ⟨rfl, e1, hl⟩ | ⟨hj, e1⟩
    · cases e1
    · obtain ⟨x1, x2⟩ := rl.sl.exq j y e1
      refine ⟨x1, ?_⟩
      rcases x2 with x2 | ⟨dd, ws, d1, d2, d3, d4, d5⟩
      · exact .inl x2
      · refine .inr ⟨dd, ws, d1, d2, ?_, d4, d5⟩
        show upd w.H a (.lst us) dd = _
        have : dd ≠ a := fun hq => by rw [hq, ea] at d3; cases d3
        rw [upd_ne this]; exact d3
  · show upd w.H a (.lst us) x = some o
    have q' : w.Φ x = some o := q
    have : x ≠ a := fun hq => by rw [hq, f] at q'; cases q'
    rw [upd_ne this]; exact rl.hd.sub x o q'
  · rcases set_get _ _ _ _ q with ⟨rfl, e1, hl⟩ | ⟨hj, e1⟩
    · cases e1
    · exact rl.sl.slot j y e1
  · rcases set_get _ _ _ _ q with ⟨rfl, e1, hl⟩ | ⟨hj, e1⟩
    · cases e1
      exact ⟨a, ei, ⟨us, upd_same, r⟩, f, n, z⟩
    · obtain ⟨b, e2, ro2, f2, n2, z2⟩ := rl.sl.own j o e1
      refine ⟨b, e2, ro (fun hq => hj ?_) ro2, f2, n2, z2⟩
      subst hq
      exact rl.sl.sep j i o _ b e1 e e2 ei
  · have g1 : ∃ o, env[j]? = some (.own o) := by
      rcases set_get _ _ _ _ e1 with ⟨rfl, g, hl⟩ | ⟨hj, g⟩
      · exact ⟨_, e⟩
      · exact ⟨_, g⟩
    have g2 : ∃ o, env[k]? = some (.own o) := by
      rcases set_get _ _ _ _ e2 with ⟨rfl, g, hl⟩ | ⟨hj, g⟩
      · exact ⟨_, e⟩
      · exact ⟨_, g⟩
    obtain ⟨o1, g1⟩ := g1
    obtain ⟨o2, g2⟩ := g2
    exact rl.sl.sep j k o1 o2 b g1 g2 f1 f2
end
end Mir

set_option Elab.async false
set_option linter.all false
set_option maxRecDepth 100000
set_option maxHeartbeats 1000000
namespace Mir
open PySem PySem.Spec PyProof.Rows L2
section
variable {F : Fam} {e ea eb ec tg iter : Expr} {es : List Expr} {st : Stmt} {rest sts body : List Stmt} {pos p p2 pos' cpos apos : Pos} {m mb' : ME} {mt : MT} {ma : MA} {ms ms' : MS}

/-! ### if -/
def mIfS (t : MT) (a b : MS) : MS := fun env h => ofE (t env h) env fun c h => if c = true then a env h else b env h
theorem ss_if (c : ST F ec mt) (a : SSs F sts ms) (b : SSs F rest ms') : SS F (.If ec sts rest pos) (mIfS mt ms ms') := by
  obtain ⟨tc, pc, qc⟩ := c
  obtain ⟨t, p, q⟩ := a
  obtain ⟨t', p', q'⟩ := b
  refine ⟨fun W => tIfS (tc W) (t W) (t' W), fun i => ps_if (pc i) (p i) (p' i), fun W w0 w env h σ D rl po => qc W w0 w env h σ _ rl (PostS.ofE rl po fun x h1 w1 v s d r p1 => ?_)⟩
  subst r
  cases x with
  | true => rw [if_pos rfl] at p1 ⊢; exact q W w0 w1 env h1 σ D (rl.step s d) p1
  | false => rw [if_neg Bool.false_ne_true] at p1 ⊢; exact q' W w0 w1 env h1 σ D (rl.step s d) p1

/-! ### append to a list of one's own -/
def mApp (i : Nat) (m : ME) : MS := fun env h => match env[i]? with
  | some (.own (.lst xs)) => ofE (m env h) env fun x h => if xs.length < 16777216 then .nx (env.set i (.own (.lst (xs ++ [x])))) h else .no
  | _ => .no
theorem ss_app (i : Nat) {x : Str} (a : SE F e m) (hN : F.N[i]? = some x := by rfl) (hv : ∀ j, Vis (F.env j).scope x := by first | exact fun _ => Or.inl rfl | exact fun _ => Or.inr (Or.inl rfl) | exact fun _ => Or.inr (Or.inr rfl))
    (hd : (x == ("__debug__" : Str)) = false := by decide) (hcd : (x == ("__classdict__" : Str)) = false := by decide)
    (hst : ∀ j, starEach [e] (F.X j).env = (false, eval e (F.X j).env) :: starEach [] (F.X j).env := by intro _; rfl)
    (hs : ∀ j, swapsWith (.Call (.Attribute (.Name x p) "append" apos) [e] [] cpos) none pos.line (F.X j).env = pure false := by intro _; rfl)
    (hm : ∀ j, PE (F.X j) (.Name x p) (tVar i) → PA (F.X j) [e] (tCons (Classical.choose a (F.W j)) tNil) → PE (F.X j) (.Call (.Attribute (.Name x p) "append" apos) [e] [] cpos) (tBM F.K "list" rAppend (tVar i) (tCons (Classical.choose a (F.W j)) tNil)) := by exact fun j h1 h2 => pe_bm PySem.F.plainAttrs_list PySem.F.slot_list_append PySem.F.type_list_append mt_append h1 h2) :
    SS F (.Expr (.Call (.Attribute (.Name x p) "append" apos) [e] [] cpos) pos) (mApp i m) := by
  have hp := (Classical.choose_spec a).1
  have hq := (Classical.choose_spec a).2
  refine ⟨fun W => tDrop (tBM F.K "list" rAppend (tVar i) (tCons (Classical.choose a W) tNil)), fun j => ps_expr (hm j (pe_var (X := F.X j) hN (hv j) hd hcd) (pa_cons (hp j) pa_nil (hst j))) (hs j), fun W w0 w env h σ D rl po => ?_⟩
  unfold mApp at po
  split at po
  · rename_i xs ee
    obtain ⟨a1, e1, ⟨vs, ea, rs⟩, f, n, z⟩ := rl.sl.own i _ ee
    refine ⟨_, e1, .inl ⟨rfl, _, SqL.of ea⟩, ?_⟩
    refine hq W w0 w env h σ _ rl (PostS.ofE rl po fun y h1 w1 v s d r p1 => ?_)
    have rl1 := rl.step s d
    obtain ⟨a2, e2, ⟨vs2, ea2, rs2⟩, f2, n2, z2⟩ := rl1.sl.own i _ ee
    rw [e1] at e2
    cases e2
    split at p1
    · rename_i hz
      refine ⟨a1, vs2, v, rfl, rfl, ea2, by rw [← rs2.length, sizeLine_eq]; exact hz, ?_⟩
      exact p1 ⟨w1.Φ, upd w1.H a1 (.lst (vs2 ++ [v])), w1.ad⟩ σ ⟨fun _ _ q => q, fun _ _ q => q⟩ (rl1.chg ee e1 (rs2.append (.cons r .nil)))
    · exact p1.elim
  · exact po.elim

/-! ### targets -/
abbrev MG := PV → En → Option En
/-- the slots is are stored, no others -/
def But (is : List Nat) (σ σ' : L2.St) : Prop := σ'.length = σ.length ∧ ∀ j : Nat, j ∉ is → σ'[j]? = σ[j]?
def RdT (S : Sx) (g : TG) (m : MG) (is : List Nat) : Prop := ∀ (w0 w : Wd) (env env' : En) (h : Hh) (σ : L2.St) (x : PV) (v : V) (Q : L2.St → Hp → Prop), Rl S w0 w env h σ → PW' S w x v → m x env = some env' → (∀ σ', Rl S w0 w env' h σ' → But is σ σ' → Q σ' w.H) → g v σ w.H Q
def SG (F : Fam) (tg : Expr) (m : MG) (is : List Nat) : Prop := ∃ g : TG, (∀ i, PG (F.X i) tg g) ∧ RdT F.S g m is
def gN (i : Nat) : MG := fun x env => some (env.set i (.v x))
theorem sg_name (i : Nat) {x : Str} (ok : F.Ok) (hi : F.N[i]? = some x := by rfl) (hx : ∀ j, Loc (F.env j).scope x := by first | exact fun _ => Or.inl rfl | exact fun _ => Or.inr rfl)
    (hf : ∀ j, (F.X j).fn x = true ∨ (F.X j).env.scope.names.lookup x = some .local := by first | exact fun _ => Or.inl rfl | exact fun _ => Or.inr rfl) : SG F (.Name x p) (gN i) [i] :=
  ⟨gName i, fun j => pg_name (X := F.X j) ok.nd hi (hx j) (hf j), fun w0 w env env' h σ x v Q rl r e q => by cases e; exact q _ (rl.set i r) ⟨by simp, fun j hj => List.getElem?_set_ne (fun z => hj (by simp [z]))⟩⟩
abbrev MGs := List PV → En → Option En
def RdTs (S : Sx) (g : TGs) (m : MGs) (is : List Nat) : Prop := ∀ (w0 w : Wd) (env env' : En) (h : Hh) (σ : L2.St) (x : List PV) (v : List V) (Q : L2.St → Hp → Prop), Rl S w0 w env h σ → PWs S w x v → m x env = some env' → (∀ σ', Rl S w0 w env' h σ' → But is σ σ' → Q σ' w.H) → g v σ w.H Q
def SGs (F : Fam) (ts : List Expr) (m : MGs) (is : List Nat) : Prop := ∃ g : TGs, (∀ i, PGs (F.X i) ts g) ∧ RdTs F.S g m is
def gNl : MGs := fun xs env => match xs with
  | [] => some env
  | _ => none
def gCs (g : MG) (r : MGs) : MGs := fun xs env => match xs with
  | x :: xs => (g x env).bind fun env => r xs env
  | [] => none
theorem sgs_nil : SGs F [] gNl [] := ⟨gNil, fun _ => pgs_nil, fun w0 w env env' h σ x v Q rl r e q => by
  cases r with
  | nil => cases e; exact ⟨rfl, q σ rl ⟨rfl, fun _ _ => rfl⟩⟩
  | cons _ _ => cases e⟩
theorem sgs_cons {g : MG} {r : MGs} {is is' : List Nat} (a : SG F e g is) (b : SGs F es r is') (hs : ∀ i, (assignEach (e :: es) (F.X i).env).map (·.2) = assign e (F.X i).env :: (assignEach es (F.X i).env).map (·.2) := by intro _; rfl) : SGs F (e :: es) (gCs g r) (is ++ is') := by
  obtain ⟨t, p, q⟩ := a
  obtain ⟨t', p', q'⟩ := b
  refine ⟨gCons t t', fun i => pgs_cons (p i) (p' i) (hs i), fun w0 w env env' h σ x v Q rl rr ee qq => ?_⟩
  cases rr with
  | nil => cases ee
  | cons r1 r2 =>
    obtain ⟨env1, e1, e2⟩ := Option.bind_eq_some_iff.mp ee
    exact ⟨_, _, rfl, q w0 w env env1 h σ _ _ _ rl r1 e1 fun σ' rl' b1 => q' w0 w env1 env' h σ' _ _ _ rl' r2 e2 fun σ2 rl2 b2 => qq σ2 rl2 ⟨b2.1.trans b1.1, fun j hj => (b2.2 j fun z => hj (List.mem_append_right _ z)).trans (b1.2 j fun z => hj (List.mem_append_left _ z))⟩⟩
def gTu (n : Nat) (r : MGs) : MG := fun x env => match x with
  | .tup xs => if xs.length = n then r xs env else none
  | _ => none
theorem sg_tup {r : MGs} {k n : Nat} {is : List Nat} (hc : F.calm = true) (b : SGs F es r is) (hn : ∀ i, (assignEach es (F.X i).env).length = n := by intro _; rfl) (hst : ∀ i, (assignEach es (F.X i).env).findIdx? (·.1) = none := by intro _; rfl) : SG F (.Tuple es k pos) (gTu n r) is := by
  obtain ⟨t, p, q⟩ := b
  refine ⟨gTup F.K n t, fun i => pg_tup (X := F.X i) hc (p i) (hn i) (hst i), fun w0 w env env' h σ x v Q rl rr ee qq => ?_⟩
  unfold gTu at ee
  split at ee
  · split at ee
    · rename_i xs hl
      cases rr with
      | tup s t' => exact ⟨_, _, rfl, rl.hd.sqT s, by rw [← t'.length]; exact hl, q w0 w env env' h σ _ _ Q rl t' ee qq⟩
    · cases ee
  · cases ee
def mAsg (m : ME) (g : MG) : MS := fun env h => ofE (m env h) env fun x h => match g x env with
  | some env => .nx env h
  | none => .no
theorem ss_asg {g : MG} {is : List Nat} (a : SE F e m) (b : SG F tg g is) (hs : ∀ i, swapsWithSole [tg] e pos.line (F.X i).env = pure false := by intro _; rfl) (hw : ∀ i, swappedStores [tg] e (F.X i).env = pure none := by intro _; rfl)
    (h1 : ∀ i, (assignEach [tg] (F.X i).env).map (·.2) = [assign tg (F.X i).env] := by intro _; rfl) : SS F (.Assign [tg] e pos) (mAsg m g) := by
  obtain ⟨t, p, q⟩ := a
  obtain ⟨t', p', q'⟩ := b
  refine ⟨fun W => tAsg (t W) t', fun i => ps_asg (p i) (p' i) (hs i) (hw i) (h1 i), fun W w0 w env h σ D rl po => q W w0 w env h σ _ rl (PostS.ofE rl po fun x h1 w1 v s d r p1 => ?_)⟩
  split at p1
  · rename_i env' eg
    exact q' w0 w1 env env' h1 σ x v _ (rl.step s d) r eg fun σ' rl' _ => p1 w1 σ' (Ext.refl w1) rl'
  · exact p1.elim

/-! ### what is walked -/
def YOk (S : Sx) (w : Wd) (x : PV) (v : V) (H' : Hp) : Prop := ∀ h, Hd S w h → ∃ w3, w3.H = H' ∧ Step w w3 ∧ Hd S w3 h ∧ PW' S w3 x v
/-- C: how the worlds of the turns come from the one at the start -/
def WalkOk (S : Sx) (C : Wd → Wd → Prop) (w : Wd) (J : It) (items : List PV) : Prop := ∃ G Y, Walk J items.length G Y ∧ (∀ w', C w w' → G w'.H) ∧ ∀ (i : Nat) w' H' x v, C w w' → items[i]? = some x → Y i w'.H v H' → YOk S w' x v H'
def RdI (S : Sx) (C : Wd → Wd → Prop) (W : WX) (wi : TI) (m : MA) : Prop := ∀ (w0 w : Wd) (env : En) (h : Hh) (σ : L2.St) (R : It → Hp → Prop), Rl S w0 w env h σ →
  (match m env h with
    | .ok xs h' => ∀ w' J, Step w w' → Hd S w' h' → WalkOk S C w' J xs → R J w'.H
    | .er x h' => ∀ w' cls d, Step w w' → Hd S w' h' → RX S w' x cls d → W cls d σ w'.H
    | .no => False) → wi σ w.H R
def CE' (S : Sx) (a b : Wd) : Prop := Ext a b ∧ ∃ h, Hd S b h
def CS' (S : Sx) (a b : Wd) : Prop := Step a b ∧ ∃ h, Hd S b h
def SI (F : Fam) (tg iter : Expr) (m : MA) : Prop := ∃ wi : WX → TI, (∀ i, PI (F.X i) tg iter (wi (F.W i))) ∧ ∀ W, RdI F.S (CE' F.S) W (wi W) m
def SIB (F : Fam) (tg iter : Expr) (m : MA) : Prop := ∃ wi : WX → TI, (∀ i, PI (F.X i) tg iter (wi (F.W i))) ∧ ∀ W, RdI F.S (CS' F.S) W (wi W) m
theorem SI.b (a : SI F tg iter ma) : SIB F tg iter ma := by
  obtain ⟨t, p, q⟩ := a
  refine ⟨t, p, fun W w0 w env h σ R rl po => q W w0 w env h σ R rl ?_⟩
  cases e : ma env h with
  | ok xs h' =>
    rw [e] at po
    exact fun w' J s d ⟨G, Y, wk, g, y⟩ => po w' J s d ⟨G, Y, wk, fun w'' c => g w'' ⟨c.1.ext, c.2⟩, fun i w'' H' x v c => y i w'' H' x v ⟨c.1.ext, c.2⟩⟩
  | er x h' => rw [e] at po; exact po
  | no => rw [e] at po; exact po
/-- the items of a list, of a tuple -/
def itL (m : ME) : MA := fun env h => (m env h).bind fun x h => match x with
  | .lst xs => .ok xs h
  | _ => .no
def itT (m : ME) : MA := fun env h => (m env h).bind fun x h => match x with
  | .tup xs => .ok xs h
  | _ => .no
theorem yok_at {S : Sx} {w : Wd} {xs : List PV} {vs : List V} (r : PWs S w xs vs) {w' : Wd} (x : Ext w w') {i : Nat} {y : PV} {v : V} {H' : Hp} (e : xs[i]? = some y) (h : YAt vs i w'.H v H') : YOk S w' y v H' := fun hh d => by
  obtain ⟨e1, e2⟩ := h
  obtain ⟨u, g1, g2⟩ := r.get e
  rw [e2] at g1
  cases g1
  exact ⟨w', e1.symm, Step.refl _, d, x.pr g2⟩
theorem si_list (a : SE F e m) : SI F tg e (itL m) := by
  obtain ⟨t, p, q⟩ := a
  refine ⟨fun W => iList F.K (t W), fun i => pi_list (p i), fun W w0 w env h σ R rl po => q W w0 w env h σ _ rl ?_⟩
  unfold itL at po
  cases em : m env h with
  | no => rw [em] at po; exact po
  | er x h' => rw [em] at po; exact po
  | ok x h' =>
    rw [em] at po
    intro w' v s d r
    cases r with
    | @lst a xs vs sq rs =>
      refine ⟨a, rfl, ⟨vs, d.sqL sq⟩, po w' _ s d ⟨_, _, by rw [rs.length]; exact walk_list, fun w'' c => ?_, fun i w'' H' y u c e1 e2 => yok_at rs c.1 e1 e2⟩⟩
      obtain ⟨c1, hh, c2⟩ := c
      exact c2.sqL (sqL_mono c1.fz sq)
    | _ => exact po.elim
theorem si_tup (a : SE F e m) : SI F tg e (itT m) := by
  obtain ⟨t, p, q⟩ := a
  refine ⟨fun W => iTup F.K (t W), fun i => pi_tup (p i), fun W w0 w env h σ R rl po => q W w0 w env h σ _ rl ?_⟩
  unfold itT at po
  cases em : m env h with
  | no => rw [em] at po; exact po
  | er x h' => rw [em] at po; exact po
  | ok x h' =>
    rw [em] at po
    intro w' v s d r
    cases r with
    | @tup a xs vs sq rs =>
      refine ⟨a, rfl, ⟨vs, d.sqT sq⟩, po w' _ s d ⟨_, _, by rw [rs.length]; exact walk_tup, fun w'' c => ?_, fun i w'' H' y u c e1 e2 => yok_at rs c.1 e1 e2⟩⟩
      obtain ⟨c1, hh, c2⟩ := c
      exact c2.sqT (sqT_mono c1.fz sq)
    | _ => exact po.elim
/-- a list that is read at once, for a comprehension -/
theorem sib_list (a : SB F e m) : SIB F tg e (itL m) := by
  obtain ⟨t, p, q⟩ := a
  refine ⟨fun W => iList F.K (t W), fun i => pi_list (p i), fun W w0 w env h σ R rl po => q W w0 w env h σ _ rl ?_⟩
  unfold itL at po
  cases em : m env h with
  | no => rw [em] at po; exact po
  | er x h' => rw [em] at po; exact po
  | ok x h' =>
    rw [em] at po
    intro w' v s d r
    cases x with
    | lst xs =>
      cases r with
      | val r' =>
        cases r' with
        | @lst a _ vs sq rs =>
          refine ⟨a, rfl, ⟨vs, d.sqL sq⟩, po w' _ s d ⟨_, _, by rw [rs.length]; exact walk_list, fun w'' c => ?_, fun i w'' H' y u c e1 e2 => yok_at rs c.1.ext e1 e2⟩⟩
          obtain ⟨c1, hh, c2⟩ := c
          exact c2.sqL (sqL_mono c1.fz sq)
      | @lst a _ vs ea n rs =>
        exact ⟨a, rfl, ⟨vs, SqL.of ea⟩, po w' _ s d ⟨_, _, by rw [rs.length]; exact walk_list, fun w'' c => SqL.of (c.1.kp _ _ ea n), fun i w'' H' y u c e1 e2 => yok_at rs c.1.ext e1 e2⟩⟩
    | _ => exact po.elim
def rngList (lo : Int) (n : Nat) : List PV := (List.range n).map fun i => PV.int (lo + (i : Nat))
theorem rng_get {lo : Int} {n i : Nat} {x : PV} (h : (rngList lo n)[i]? = some x) : x = .int (lo + (i : Nat)) := by
  unfold rngList at h
  rw [List.getElem?_map] at h
  obtain ⟨j, e1, e2⟩ := Option.map_eq_some_iff.mp h
  obtain ⟨h1, h2⟩ := List.getElem?_eq_some_iff.mp e1
  rw [List.getElem_range] at h2
  subst h2
  exact e2.symm
theorem rng_len (lo : Int) (n : Nat) : (rngList lo n).length = n := by unfold rngList; simp
def rngOk (i : Int) : Bool := decide (-(2 ^ 62) ≤ i) && decide (i < 2 ^ 62)
/-- range(n), range(a, b), range(a, b, c) -/
def itR1 (m : MA) : MA := fun env h => (m env h).bind fun xs h => match xs with
  | [.int j] => if rngOk j = true then .ok (rngList 0 j.toNat) h else .no
  | _ => .no
def itR2 (m : MA) : MA := fun env h => (m env h).bind fun xs h => match xs with
  | [.int i, .int j] => if (rngOk i && rngOk j) = true then .ok (rngList i (j - i).toNat) h else .no
  | _ => .no
theorem yok_fn {S : Sx} {w' : Wd} {x : PV} {v : V} {H' : Hp} {f : Nat → V} {i : Nat} (h : YFn f i w'.H v H') (r : PW' S w' x (f i)) : YOk S w' x v H' := fun hh d => by
  obtain ⟨e1, e2⟩ := h
  subst e2
  exact ⟨w', e1.symm, Step.refl _, d, r⟩
theorem si_range1 {ea : Expr} (hm : F.mg "range" = none) (a : SA F [ea] ma) (hg : ∀ i, Gl (F.X i) "range" := by intro _; rfl) (hs : ∀ i, starEach [ea] (F.X i).env = [(false, eval ea (F.X i).env)] := by intro _; rfl) : SI F tg (.Call (.Name "range" p) [ea] [] pos) (itR1 ma) := by
  obtain ⟨t, pa, q⟩ := a
  refine ⟨fun W => iRng1 (t W), fun i => pi_range1 (hg i) hm (pa i) (hs i), fun W w0 w env h σ R rl po => q W w0 w env h σ _ rl ?_⟩
  unfold itR1 at po
  cases em : ma env h with
  | no => rw [em] at po; exact po
  | er x h' => rw [em] at po; exact po
  | ok xs h' =>
    rw [em, Res.bind_ok] at po
    intro w' v s d r
    split at po
    · rename_i hx
      split at hx
      · split at hx
        · rename_i j hc
          cases hx
          unfold rngOk at hc
          simp only [Bool.and_eq_true, decide_eq_true_eq] at hc
          cases r with | cons r1 r2 =>
          cases r1; cases r2
          exact ⟨j, rfl, hc.1, hc.2, po w' _ s d ⟨_, _, by rw [rng_len]; exact walk_range, fun _ _ => trivial, fun i w'' H' y u c e1 e2 => yok_fn e2 (by rw [rng_get e1]; exact .int _)⟩⟩
        · cases hx
      · cases hx
    · rename_i hx
      split at hx
      · split at hx <;> cases hx
      · cases hx
    · exact po.elim
theorem si_range2 {ea eb : Expr} (hm : F.mg "range" = none) (a : SA F [ea, eb] ma) (hg : ∀ i, Gl (F.X i) "range" := by intro _; rfl) (hs : ∀ i, starEach [ea, eb] (F.X i).env = [(false, eval ea (F.X i).env), (false, eval eb (F.X i).env)] := by intro _; rfl)
    (hs2 : ∀ i, starEach [eb] (F.X i).env = [(false, eval eb (F.X i).env)] := by intro _; rfl) : SI F tg (.Call (.Name "range" p) [ea, eb] [] pos) (itR2 ma) := by
  obtain ⟨t, pa, q⟩ := a
  refine ⟨fun W => iRng2 (t W), fun i => pi_range2 (hg i) hm (pa i) (hs i) (hs2 i), fun W w0 w env h σ R rl po => q W w0 w env h σ _ rl ?_⟩
  unfold itR2 at po
  cases em : ma env h with
  | no => rw [em] at po; exact po
  | er x h' => rw [em] at po; exact po
  | ok xs h' =>
    rw [em, Res.bind_ok] at po
    intro w' v s d r
    split at po
    · rename_i hx
      split at hx
      · split at hx
        · rename_i i j hc
          cases hx
          unfold rngOk at hc
          simp only [Bool.and_eq_true, decide_eq_true_eq] at hc
          cases r with | cons r1 r2 =>
          cases r2 with | cons r2 r3 =>
          cases r1; cases r2; cases r3
          exact ⟨i, j, rfl, ⟨hc.1.1, hc.1.2, hc.2.1, hc.2.2⟩, po w' _ s d ⟨_, _, by rw [rng_len]; exact walk_range, fun _ _ => trivial, fun i w'' H' y u c e1 e2 => yok_fn e2 (by rw [rng_get e1]; exact .int _)⟩⟩
        · cases hx
      · cases hx
    · rename_i hx
      split at hx
      · split at hx <;> cases hx
      · cases hx
    · exact po.elim

/-! ### for, while -/
def forL (g : MG) (b : MS) : List PV → MS
  | [] => fun env h => .nx env h
  | x :: r => fun env h => match g x env with
    | none => .no
    | some env => match b env h with
      | .nx env h => forL g b r env h
      | .ct env h => forL g b r env h
      | .bk env h => .nx env h
      | z => z
def mFor (it : MA) (g : MG) (b : MS) : MS := fun env h => ofE (it env h) env fun xs h => forL g b xs env h
theorem rd_forL {S : Sx} {W : WX} {w0 w : Wd} {J : It} {items : List PV} {g : TG} {mg : MG} {tb : TS} {mb : MS} {D : Ends} {env : En} {h : Hh} {σ : L2.St} (wk : WalkOk S (CE' S) w J items) {is : List Nat} (hg : RdT S g mg is) (hb : RdS S W tb mb)
    (rl : Rl S w0 w env h σ) (po : PostS S W w0 w (forL mg mb items env h) D) :
    ∃ Wv : Nat → Nat → L2.St → Hp → Prop, (∃ m, Wv 0 m σ w.H) ∧ ∀ i m σ H, Wv i m σ H →
      (J.stop i H ∧ D.nx σ H) ∨ (J.go i H ∧ ∃ N : L2.St → Hp → Prop, (∀ σ' H', N σ' H' → ∃ m', m' < m ∧ Wv (i + 1) m' σ' H') ∧ ∀ x H', J.yld i H x H' → g x σ H' fun σ2 H2 => tb { D with nx := N, ct := N, bk := D.nx } σ2 H2) := by
  obtain ⟨G, Y, hw, hG, hY⟩ := wk
  refine for_it hw (fun i σ H => ∃ w' env' h', w'.H = H ∧ Ext w w' ∧ Rl S w0 w' env' h' σ ∧ PostS S W w0 w' (forL mg mb (items.drop i) env' h') D) ⟨w, env, h, rfl, Ext.refl w, rl, by rw [List.drop_zero]; exact po⟩ (fun i σ H hi ⟨w', env', h', e, x, r, p⟩ => by rw [← e]; exact hG w' ⟨x, h', r.hd⟩) (fun i v σ H H' hi ⟨w', env', h', e, x, r, p⟩ y => ?_) (fun σ H ⟨w', env', h', e, x, r, p⟩ => ?_)
  · subst e
    have ei : items[i]? = some items[i] := List.getElem?_eq_getElem hi
    obtain ⟨w3, e3, s3, d3, r3⟩ := hY i w' H' items[i] v ⟨x, h', r.hd⟩ ei y h' r.hd
    subst e3
    have r' : Rl S w0 w3 env' h' σ := r.step s3 d3
    rw [List.drop_eq_getElem_cons hi] at p
    unfold forL at p
    split at p
    · exact p.elim
    · rename_i env2 eg
      refine hg w0 w3 env' env2 h' σ items[i] v _ r' r3 eg fun σ2 r2 _ => hb w0 w3 env2 h' σ2 _ r2 ?_
      have x3 : Ext w w3 := x.trans s3.ext
      have p' := PostS.mono s3.ext p
      cases em : mb env2 h' with
      | nx e4 h4 => rw [em] at p'; exact fun w4 σ4 x4 r4 => ⟨w4, e4, h4, rfl, x3.trans x4, r4, PostS.mono x4 p'⟩
      | ct e4 h4 => rw [em] at p'; exact fun w4 σ4 x4 r4 => ⟨w4, e4, h4, rfl, x3.trans x4, r4, PostS.mono x4 p'⟩
      | bk e4 h4 => rw [em] at p'; exact p'
      | rt v4 h4 => rw [em] at p'; exact p'
      | er x4 e4 h4 => rw [em] at p'; exact p'
      | no => rw [em] at p'; exact p'
  · subst e
    rw [List.drop_length] at p
    exact p w' σ (Ext.refl w') r
theorem ss_for {g : MG} {is : List Nat} (ok : F.Ok) (hc : F.calm = true) (hi : SI F tg iter ma) (hg : SG F tg g is) (hb : SSs F body ms) (hs : ∀ i x, foldedSetIterable iter (F.X i).env x = pure x := by intro _ _; rfl) : SS F (.For tg iter body [] pos) (mFor ma g ms) := by
  obtain ⟨wi, pi, qi⟩ := hi
  obtain ⟨tg', pg, qg⟩ := hg
  obtain ⟨tb, pb, qb⟩ := hb
  refine ⟨fun W => tFor (wi W) tg' (tb W), fun i => ps_for (X := F.X i) (ok.po i) hc (pi i) (pg i) (pb i) (hs i), fun W w0 w env h σ D rl po => qi W w0 w env h σ _ rl ?_⟩
  unfold mFor at po
  cases em : ma env h with
  | no => rw [em] at po; exact po
  | er x h' => rw [em] at po; exact fun w' cls d s dd q => po w' σ cls d s.ext (rl.step s dd) q
  | ok xs h' =>
    rw [em] at po
    exact fun w' J s d wk => rd_forL wk qg (qb W) (rl.step s d) (PostS.mono s.ext po)
def whileL (t : MT) (b : MS) : Nat → MS
  | 0 => fun _ _ => .no
  | n + 1 => fun env h => ofE (t env h) env fun c h => if c = true then (match b env h with
      | .nx env h => whileL t b n env h
      | .ct env h => whileL t b n env h
      | .bk env h => .nx env h
      | z => z) else .nx env h
theorem ss_while (n : Nat) {ec : Expr} (ok : F.Ok) (hc : ST F ec mt) (hb : SSs F body ms) : SS F (.While ec body [] pos) (whileL mt ms n) := by
  obtain ⟨tc, pc, qc⟩ := hc
  obtain ⟨tb, pb, qb⟩ := hb
  refine ⟨fun W => tWhile (tc W) (tb W), fun i => ps_while (X := F.X i) (ok.po i) (pc i) (pb i), fun W w0 w env h σ D rl po => ?_⟩
  refine ⟨fun m σ H => ∃ w' env' h', w'.H = H ∧ Rl F.S w0 w' env' h' σ ∧ PostS F.S W w0 w' (whileL mt ms m env' h') D, ⟨n, w, env, h, rfl, rl, po⟩, fun m σ H ⟨w', env', h', e, r, p⟩ => ?_⟩
  subst e
  cases m with
  | zero => exact p.elim
  | succ m =>
    unfold whileL at p
    refine qc W w0 w' env' h' σ _ r (PostS.ofE r p fun x h1 w1 v s d q p1 => ?_)
    subst q
    cases x with
    | false => rw [if_neg Bool.false_ne_true] at p1 ⊢; exact p1 w1 σ (Ext.refl w1) (r.step s d)
    | true =>
      rw [if_pos rfl] at p1 ⊢
      refine ⟨fun σ' H' => ∃ w4 e4 h4, w4.H = H' ∧ Rl F.S w0 w4 e4 h4 σ' ∧ PostS F.S W w0 w4 (whileL mt ms m e4 h4) D, fun σ' H' ⟨w4, e4, h4, q⟩ => ⟨m, Nat.lt_succ_self m, w4, e4, h4, q⟩, qb W w0 w1 env' h1 σ _ (r.step s d) ?_⟩
      cases em : ms env' h1 with
      | nx e4 h4 => rw [em] at p1; exact fun w4 σ4 x4 r4 => ⟨w4, e4, h4, rfl, r4, PostS.mono x4 p1⟩
      | ct e4 h4 => rw [em] at p1; exact fun w4 σ4 x4 r4 => ⟨w4, e4, h4, rfl, r4, PostS.mono x4 p1⟩
      | bk e4 h4 => rw [em] at p1; exact p1
      | rt v4 h4 => rw [em] at p1; exact p1
      | er x4 e4 h4 => rw [em] at p1; exact p1
      | no => rw [em] at p1; exact p1
end
end Mir

set_option Elab.async false
set_option linter.all false
set_option maxRecDepth 100000
set_option maxHeartbeats 1000000
namespace Mir
open PySem PySem.Spec PyProof.Rows L2

/-! ### comprehensions -/
structure BlkIx (ι : Type) where
  i : ι
  s : Shared
  H : Hp
  C : Addr
  cl : List (Str × Addr)
  fp : List Addr
def Fam.blk (F : Fam) (scope : Scope) : Fam where
  ι := BlkIx F.ι
  P := F.P
  w := F.w
  K := F.K
  mg := F.mg
  base := F.base
  N := F.N
  calm := F.calm
  cA := F.cA
  ea := F.ea
  ed := F.ed
  k := F.k
  A := fun j => F.A j.i
  s0 := fun j => j.s
  H0 := fun j => j.H
  env := fun j => compEnvC scope j.cl j.C (F.env j.i)
  outer := fun j => F.stack j.i
  stack := fun j => F.stack j.i
  ex := fun j => j.fp
  fn := fun _ x => scope.names.lookup x == some .cell
  pn := fun _ => []
  xe := fun _ _ _ => False
  W := fun _ _ _ _ _ => False
theorem Fam.blk_ok {F : Fam} (ok : F.Ok) (scope : Scope) : (F.blk scope).Ok where
  tk := fun _ => takes0
  hr := fun j => ok.hr j.i
  nd := ok.nd
  po := fun _ => PassesOwn.never
theorem Fam.blk_X (F : Fam) (scope : Scope) (i : F.ι) (s : Shared) (H : Hp) (C : Addr) (cl : List (Str × Addr)) (fp : List Addr) : (F.blk scope).X ⟨i, s, H, C, cl, fp⟩ = (F.X i).blk s H scope (compEnvC scope cl C (F.X i).env) fp := rfl
def wipeE (env : En) : List Nat → En
  | [] => env
  | v :: vs => (wipeE env vs).set v .un
theorem Sl.un {S : Sx} {w0 w : Wd} {env : En} {σ : L2.St} (s : Sl S w0 w env σ) (i : Nat) : Sl S w0 w (env.set i .un) (σ.set i none) := by
  refine ⟨by simp [s.len], fun j y e => ?_, fun j o e => ?_, fun j k o o' a e1 e2 f1 f2 => ?_, exq_set s.exq i (fun _ q => by cases q) _⟩
  · rcases set_get _ _ _ _ e with ⟨rfl, e1, hl⟩ | ⟨hj, e1⟩
    · cases e1
    · rw [List.getElem?_set_ne (Ne.symm hj)]; exact s.slot j y e1
  · rcases set_get _ _ _ _ e with ⟨rfl, e1, hl⟩ | ⟨hj, e1⟩
    · cases e1
    · rw [List.getElem?_set_ne (Ne.symm hj)]; exact s.own j o e1
  · rcases set_get _ _ _ _ e1 with ⟨rfl, g, hl⟩ | ⟨hj, g⟩
    · cases g
    · rcases set_get _ _ _ _ e2 with ⟨rfl, g2, hl⟩ | ⟨hk, g2⟩
      · cases g2
      · rw [List.getElem?_set_ne (Ne.symm hj)] at f1
        rw [List.getElem?_set_ne (Ne.symm hk)] at f2
        exact s.sep j k o o' a g g2 f1 f2
theorem Sl.wipe {S : Sx} {w0 w : Wd} {env : En} {σ : L2.St} (s : Sl S w0 w env σ) : ∀ vs : List Nat, Sl S w0 w (wipeE env vs) (L2.wipe σ vs)
  | [] => s
  | v :: vs => (Sl.wipe s vs).un v
theorem wipe_at (σ : L2.St) {j : Nat} : ∀ {vs : List Nat}, j ∈ vs → (L2.wipe σ vs)[j]? = if j < σ.length then some none else none
  | v :: vs, h => by
    unfold L2.wipe
    by_cases e : v = j
    · subst e
      by_cases hl : v < σ.length
      · rw [List.getElem?_set_self (by rw [wipe_length]; exact hl), if_pos hl]
      · rw [List.getElem?_eq_none (by rw [List.length_set, wipe_length]; omega), if_neg hl]
    · rw [List.getElem?_set_ne e]
      rcases List.mem_cons.mp h with z | z
      · exact absurd z.symm e
      · exact wipe_at σ z
theorem wipe_but {σ σ' : L2.St} {is vs : List Nat} (b : But is (L2.wipe σ vs) σ') (hs : ∀ j ∈ is, j ∈ vs) : L2.wipe σ' vs = L2.wipe σ vs := by
  have hl : σ'.length = σ.length := by rw [b.1, wipe_length]
  refine List.ext_getElem? fun j => ?_
  by_cases hj : j ∈ vs
  · rw [wipe_at σ' hj, wipe_at σ hj, hl]
  · rw [wipe_out hj, b.2 j fun z => hj (hs j z)]
theorem Hd.updD {S : Sx} {w : Wd} {h : Hh} (d : Hd S w h) {D : Addr} {o : HO} (f : w.Φ D = none) (n : D ∉ w.ad) : Hd S ⟨w.Φ, upd w.H D o, w.ad⟩ h where
  sub := fun x u q => by
    show upd w.H D o x = some u
    have q' : w.Φ x = some u := q
    have : x ≠ D := fun hq => by rw [hq, f] at q'; cases q'
    rw [upd_ne this]; exact d.sub x u q'
  len := d.len
  nd := d.nd
  sep := d.sep
  obj := fun k ob x p q => by
    have hx : x ≠ D := fun hq => n (by rw [← hq]; exact List.mem_of_getElem? q)
    have ro := d.obj k ob x p q
    cases ob with
    | lst xs => obtain ⟨us', e1, r1⟩ := ro; exact ⟨us', by rw [← e1]; exact upd_ne hx, r1⟩
    | dct ks xs => obtain ⟨us', l1, e1, r1⟩ := ro; exact ⟨us', l1, by rw [← e1]; exact upd_ne hx, r1⟩
    | ins cc ns xs => obtain ⟨C, dx, us', c1, l1, e1, r1⟩ := ro; exact ⟨C, dx, us', c1, l1, by rw [← e1]; exact upd_ne hx, r1⟩
theorem Step.updD {w1 w : Wd} (s : Step w1 w) {D : Addr} {o : HO} (z : w1.H D = none) : Step w1 ⟨w.Φ, upd w.H D o, w.ad⟩ where
  fz := s.fz
  ix := s.ix
  nw := s.nw
  kp := fun x u q hx => by
    show upd w.H D o x = some u
    have : x ≠ D := fun hq => by rw [hq, z] at q; cases q
    rw [upd_ne this]; exact s.kp x u q hx
  th := fun x q => by
    show upd w.H D o x ≠ none
    by_cases hx : x = D
    · subst hx; rw [upd_same]; simp
    · rw [upd_ne hx]; exact s.th x q
  fn := s.fn
def lcL (g : MG) (t : MT) (e : ME) (env : En) : List PV → Hh → Res (List PV)
  | [], h => .ok [] h
  | x :: r, h => match g x env with
    | none => .no
    | some env2 => match t env2 h with
      | .ok true h => match e env2 h with
        | .ok y h => (lcL g t e env r h).bind fun ys h => .ok (y :: ys) h
        | _ => .no
      | .ok false h => lcL g t e env r h
      | _ => .no
def mLc (it : MA) (vs : List Nat) (g : MG) (t : MT) (e : ME) : MA := fun env h => (it env h).bind fun xs h => if xs.length ≤ 16777216 then lcL g t e (wipeE env vs) xs h else .no
def mYes : MT := fun _ h => .ok true h
def STs (F : Fam) (ifs : List Expr) (m : MT) : Prop := ∃ t : WX → TT, (∀ i, PTs (F.X i) ifs (t (F.W i))) ∧ ∀ W, RdG F.S RB W (t W) m
theorem sts_nil {F : Fam} : STs F [] mYes := ⟨fun _ => tYes, fun _ => pts_nil, fun W w0 w env h σ Q r po => PostE.fin po r.hd rfl⟩
theorem sts_one {F : Fam} {c : Expr} {m : MT} (a : ST F c m) : STs F [c] m := by
  obtain ⟨t, p, q⟩ := a
  exact ⟨t, fun i => pts_one (p i), q⟩
theorem rd_lc {S : Sx} {W W2 : WX} {wi : TI} {g : TG} {tt : TT} {te : TE} {vs is : List Nat} {mi : MA} {mg : MG} {mt : MT} {me : ME} (hi : RdI S (CS' S) W wi mi) (hg : RdT S g mg is) (hs : ∀ j ∈ is, j ∈ vs)
    (ht : RdG S RB W2 tt mt) (he : RdG S (RV S) W2 te me) : RdG S (RN S) W (tLc wi g tt te vs) (mLc mi vs mg mt me) := by
  intro w0 w env h σ Q rl po
  refine hi w0 w env h σ _ rl ?_
  unfold mLc at po
  cases em : mi env h with
  | no => rw [em] at po; exact po
  | er x h' => rw [em] at po; exact po
  | ok xs h' =>
    rw [em, Res.bind_ok] at po
    intro w1 J s1 d1 wk D nD
    split at po
    · rename_i hz
      obtain ⟨G, Y, hw, hG, hY⟩ := wk
      have rl1 := rl.step s1 d1
      refine lc_it hw (fun i H => ∃ w' h2 acc us, w'.H = H ∧ Step w1 w' ∧ Hd S w' h2 ∧ w'.H D = some (.lst us) ∧ PWs S w' acc us ∧ D ∉ w'.ad ∧ w'.Φ D = none ∧ acc.length ≤ i ∧
          PostE S W w σ (RN S) ((lcL mg mt me (wipeE env vs) (xs.drop i) h2).bind fun ys h => .ok (acc ++ ys) h) Q)
        ⟨w1.put D (.lst []), h', [], [], rfl, Step.put d1 nD, d1.put nD, upd_same, .nil, d1.notAd nD, d1.fresh nD, Nat.le_refl _, ?_⟩ (fun i H hi' ⟨w', h2, acc, us, e, s, d, _⟩ => by rw [← e]; exact hG w' ⟨s, h2, d⟩) (fun i v H H' hi' ⟨w', h2, acc, us, e, s, d, eD, rs, n, f, hl, p⟩ y => ?_) (fun H ⟨w', h2, acc, us, e, s, d, eD, rs, n, f, hl, p⟩ => ?_)
      · rw [List.drop_zero]
        cases el : lcL mg mt me (wipeE env vs) xs h' <;> (rw [el] at po; exact po)
      · subst e
        have ei : xs[i]? = some xs[i] := List.getElem?_eq_getElem hi'
        obtain ⟨w3, e3, s3, d3, r3⟩ := hY i w' H' xs[i] v ⟨s, h2, d⟩ ei y h2 d
        subst e3
        have sw : Rl S w0 w3 (wipeE env vs) h2 (L2.wipe σ vs) := ⟨(rl1.st.trans s).trans s3, d3, ((rl1.sl.step s).step s3).wipe vs⟩
        rw [List.drop_eq_getElem_cons hi'] at p
        unfold lcL at p
        have fresh3 : D ∉ w3.ad ∧ w3.Φ D = none ∧ w3.H D = some (.lst us) := by
          refine ⟨fun hb => ?_, ?_, s3.kp D _ eD n⟩
          · rcases s3.nw D hb with k | k
            · exact n k
            · rw [eD] at k; cases k
          · cases q : w3.Φ D with
            | none => rfl
            | some o =>
              rcases s3.fn D o q with k | k
              · rw [f] at k; cases k
              · rw [eD] at k; cases k
        split at p
        · exact p.elim
        · rename_i env2 eg
          refine hg w0 w3 (wipeE env vs) env2 h2 _ xs[i] v _ sw r3 eg fun σ2 r2 b2 => ⟨wipe_but b2 hs, ?_⟩
          refine ht w0 w3 env2 h2 σ2 _ r2 ?_
          cases et : mt env2 h2 with
          | no => rw [et] at p; exact p.elim
          | er x hx => rw [et] at p; exact p.elim
          | ok b h4 =>
            rw [et] at p
            intro w4 b' s4 d4 eb
            subst eb
            have fresh4 : D ∉ w4.ad ∧ w4.Φ D = none ∧ w4.H D = some (.lst us) := by
              refine ⟨fun hb => ?_, ?_, s4.kp D _ fresh3.2.2 fresh3.1⟩
              · rcases s4.nw D hb with k | k
                · exact fresh3.1 k
                · rw [fresh3.2.2] at k; cases k
              · cases q : w4.Φ D with
                | none => rfl
                | some o =>
                  rcases s4.fn D o q with k | k
                  · rw [fresh3.2.1] at k; cases k
                  · rw [fresh3.2.2] at k; cases k
            cases b with
            | false =>
              rw [if_neg Bool.false_ne_true]
              exact ⟨w4, h4, acc, us, rfl, (s.trans s3).trans s4, d4, fresh4.2.2, s4.prs (s3.prs rs), fresh4.1, fresh4.2.1, by omega, p⟩
            | true =>
              rw [if_pos rfl]
              refine he w0 w4 env2 h4 σ2 _ (r2.step s4 d4) ?_
              cases ee : me env2 h4 with
              | no => simp only [ee] at p; exact p.elim
              | er x hx => simp only [ee] at p; exact p.elim
              | ok y5 h5 =>
                simp only [ee] at p
                intro w5 u5 s5 d5 r5
                have fresh5 : D ∉ w5.ad ∧ w5.Φ D = none ∧ w5.H D = some (.lst us) := by
                  refine ⟨fun hb => ?_, ?_, s5.kp D _ fresh4.2.2 fresh4.1⟩
                  · rcases s5.nw D hb with k | k
                    · exact fresh4.1 k
                    · rw [fresh4.2.2] at k; cases k
                  · cases q : w5.Φ D with
                    | none => rfl
                    | some o =>
                      rcases s5.fn D o q with k | k
                      · rw [fresh4.2.1] at k; cases k
                      · rw [fresh4.2.2] at k; cases k
                have rs5 := s5.prs (s4.prs (s3.prs rs))
                refine ⟨us, fresh5.2.2, ?_, ⟨w5.Φ, upd w5.H D (.lst (us ++ [u5])), w5.ad⟩, h5, acc ++ [y5], us ++ [u5], rfl, (((s.trans s3).trans s4).trans s5).updD nD, d5.updD fresh5.2.1 fresh5.1, upd_same, rs5.append (.cons r5 .nil), fresh5.1, fresh5.2.1, by rw [List.length_append]; simp; omega, ?_⟩
                · rw [← rs.length, sizeLine_eq]; omega
                · cases el : lcL mg mt me (wipeE env vs) (xs.drop (i + 1)) h5 with
                  | no => rw [el] at p; exact p
                  | er x hx => rw [el] at p; exact p
                  | ok ys hy => rw [el] at p; simp only [Res.bind_ok] at p ⊢; rw [List.append_assoc]; exact p
      · subst e
        rw [List.drop_length] at p
        have p' : PostE S W w σ (RN S) (.ok (acc ++ []) h2) Q := p
        rw [List.append_nil] at p'
        exact p' w' (.ref D) (s1.trans s) d ⟨D, us, rfl, eD, rs, n, f, s1.fr nD⟩
    · exact po.elim
section
variable {F : Fam} {e ea eb ec elt tg iter : Expr} {ifs : List Expr} {scope : Scope} {own : List (Str × Nat)} {pos p p2 pos' spos : Pos} {me : ME} {mt : MT} {mi : MA} {mg : MG} {is : List Nat}
/-- [elt for tg in iter if ..] -/
theorem sn_lc (ok : F.Ok) (hc : F.calm = true) (hi : SIB F tg iter mi) (bo : ∀ i, BlkOk F.N (F.env i).scope scope own) (hg : SG (F.blk scope) tg mg is) (hs : ∀ j ∈ is, j ∈ own.map (·.2)) (ht : STs (F.blk scope) ifs mt) (he : SE (F.blk scope) elt me)
    (hf : ∀ i x, foldedSetIterable iter (F.X i).env x = pure x := by intro _ _; rfl) : SN F (.ListComp elt [⟨tg, iter, ifs, 0⟩] scope pos) (mLc mi (own.map (·.2)) mg mt me) := by
  obtain ⟨wi, pi, qi⟩ := hi
  obtain ⟨g, pg, qg⟩ := hg
  obtain ⟨tt, pt, qt⟩ := ht
  obtain ⟨te, pe, qe⟩ := he
  exact ⟨fun W => tLc (wi W) g (tt fun _ _ _ _ => False) (te fun _ _ _ _ => False) (own.map (·.2)), fun i => pe_lc (X := F.X i) (tt := tt fun _ _ _ _ => False) (te := te fun _ _ _ _ => False) hc ok.nd (pi i) (bo i) (fun s H C cl fp => pg ⟨i, s, H, C, cl, fp⟩) (fun s H C cl fp => pt ⟨i, s, H, C, cl, fp⟩) (fun s H C cl fp => pe ⟨i, s, H, C, cl, fp⟩) (hf i),
    fun W => rd_lc (qi W) qg hs (qt _) (qe _)⟩
/-- name = [..]: a list of one's own -/
theorem ss_setLcN (i : Nat) {y : Str} {py : Pos} (ok : F.Ok) (hc : F.calm = true) (hi : SIB F tg iter mi) (bo : ∀ i, BlkOk F.N (F.env i).scope scope own) (hg : SG (F.blk scope) tg mg is) (hs : ∀ j ∈ is, j ∈ own.map (·.2)) (ht : STs (F.blk scope) ifs mt) (he : SE (F.blk scope) elt me)
    (hy : F.N[i]? = some y := by rfl) (hyl : ∀ j, (F.env j).scope.names.lookup y = some .local := by intro _; rfl)
    (hsw : ∀ j, swapsWith (.ListComp elt [⟨tg, iter, ifs, 0⟩] scope pos) (some (.Name y py)) spos.line (F.X j).env = pure true := by exact fun _ => sw_true rfl rfl rfl (by decide +kernel))
    (hf : ∀ i x, foldedSetIterable iter (F.X i).env x = pure x := by intro _ _; rfl) : SS F (.Assign [.Name y py] (.ListComp elt [⟨tg, iter, ifs, 0⟩] scope pos) spos) (mSetN i (mLc mi (own.map (·.2)) mg mt me)) := by
  obtain ⟨wi, pi, qi⟩ := hi
  obtain ⟨g, pg, qg⟩ := hg
  obtain ⟨tt, pt, qt⟩ := ht
  obtain ⟨te, pe, qe⟩ := he
  exact ⟨fun W => tAsg (tLc (wi W) g (tt fun _ _ _ _ => False) (te fun _ _ _ _ => False) (own.map (·.2))) (gName i), fun j => ps_setLc (X := F.X j) (tt := tt fun _ _ _ _ => False) (te := te fun _ _ _ _ => False) hc ok.nd hy (hyl j) (hsw j) (pi j) (bo j) (fun s H C cl fp => pg ⟨j, s, H, C, cl, fp⟩) (fun s H C cl fp => pt ⟨j, s, H, C, cl, fp⟩) (fun s H C cl fp => pe ⟨j, s, H, C, cl, fp⟩) (hf j),
    fun W => rd_setN i (rd_lc (qi W) qg hs (qt _) (qe _))⟩
/-- a reading of a new list as one that is locked -/
theorem rd_fz {S : Sx} {W : WX} {te : TE} {m : MA} (q : RdG S (RN S) W te m) : RdG S (RV S) W te (mFz m) :=
  fun w0 w env h σ Q r po => q w0 w env h σ Q r (PostE.bind0 po fun xs h1 w1 v s d ⟨a, vs, ev, ea, rs, n, f, z⟩ p1 => by
    subst ev
    obtain ⟨w2, eH, s2, x2, d2, sq, ead⟩ := lockN d ea n f z s
    rw [← eH]
    exact p1 w2 _ s2 d2 (.lst sq (x2.prs rs)))
theorem ss_setLc (i : Nat) {y : Str} {py : Pos} (ok : F.Ok) (hc : F.calm = true) (hi : SIB F tg iter mi) (bo : ∀ i, BlkOk F.N (F.env i).scope scope own) (hg : SG (F.blk scope) tg mg is) (hs : ∀ j ∈ is, j ∈ own.map (·.2)) (ht : STs (F.blk scope) ifs mt) (he : SE (F.blk scope) elt me)
    (hy : F.N[i]? = some y := by rfl) (hyl : ∀ j, (F.env j).scope.names.lookup y = some .local := by intro _; rfl)
    (hsw : ∀ j, swapsWith (.ListComp elt [⟨tg, iter, ifs, 0⟩] scope pos) (some (.Name y py)) spos.line (F.X j).env = pure true := by exact fun _ => sw_true rfl rfl rfl (by decide +kernel))
    (hf : ∀ i x, foldedSetIterable iter (F.X i).env x = pure x := by intro _ _; rfl) : SS F (.Assign [.Name y py] (.ListComp elt [⟨tg, iter, ifs, 0⟩] scope pos) spos) (mSet i (mFz (mLc mi (own.map (·.2)) mg mt me))) := by
  obtain ⟨wi, pi, qi⟩ := hi
  obtain ⟨g, pg, qg⟩ := hg
  obtain ⟨tt, pt, qt⟩ := ht
  obtain ⟨te, pe, qe⟩ := he
  exact ⟨fun W => tAsg (tLc (wi W) g (tt fun _ _ _ _ => False) (te fun _ _ _ _ => False) (own.map (·.2))) (gName i), fun j => ps_setLc (X := F.X j) (tt := tt fun _ _ _ _ => False) (te := te fun _ _ _ _ => False) hc ok.nd hy (hyl j) (hsw j) (pi j) (bo j) (fun s H C cl fp => pg ⟨j, s, H, C, cl, fp⟩) (fun s H C cl fp => pt ⟨j, s, H, C, cl, fp⟩) (fun s H C cl fp => pe ⟨j, s, H, C, cl, fp⟩) (hf j),
    fun W => rd_set i (rd_fz (rd_lc (qi W) qg hs (qt _) (qe _)))⟩
end

/-! ### a def -/
def startE (n : Nat) (args : List PV) : En := args.map SV.v ++ List.replicate (n - args.length) .un
/-- a def's mirror from its body's: n slots, k parameters -/
def runD (n k : Nat) (b : MS) : MF := fun args h => if args.length = k then (match b (startE n args) h with
  | .nx _ h => .ok .non h
  | .rt x h => .ok x h
  | .er x _ h => .er x h
  | _ => .no) else .no
/-- the family of a def's body: one context -/
def defFam (P : Program) (w : World) (K : PySem.W.Frag) (mg : Str → Option Value) (base : Heap) (N : List Str) (qual : Str) (scope : Scope) (cA : Str → Option Addr) (k : Nat) (f : Addr) (cd : Value) (A : Around) (outer : List PySem.Env) (s : Shared) (H : Hp) (E : XK) : Fam where
  ι := Unit
  P := P
  w := w
  K := K
  mg := mg
  base := base
  N := N
  calm := true
  cA := cA
  ea := 0
  ed := none
  k := k
  A := fun _ => A.deeper (envOfC qual scope s.heap.objs.size f cd)
  s0 := fun _ => s
  H0 := fun _ => H
  env := fun _ => envOfC qual scope s.heap.objs.size f cd
  outer := fun _ => outer
  stack := fun _ => envOfC qual scope s.heap.objs.size f cd :: outer
  ex := fun _ => []
  fn := fun _ _ => true
  pn := fun _ => []
  xe := fun _ e s' => wpAny (model P w) (A.deeper (envOfC qual scope s.heap.objs.size f cd)) (leaving (envOfC qual scope s.heap.objs.size f cd) e) (fun _ s'' => L2.CX P w outer H s E e s'') (fun e' s'' => L2.CX P w outer H s E e' s'') s'
  W := fun _ cls d _ H => E cls d H
section
variable {P : Program} {w : World} {K : PySem.W.Frag} {mg : Str → Option Value} {base : Heap}
theorem defFam_X {N : List Str} {qual : Str} {scope : Scope} {cA : Str → Option Addr} {k : Nat} {f : Addr} {cd : Value} {A : Around} {outer : List PySem.Env} {s : Shared} {H : Hp} {E : XK} :
    (defFam P w K mg base N qual scope cA k f cd A outer s H E).X () = cxOf (L2.CX P w) P w K mg base N qual scope f cd A outer s H E := rfl
theorem defFam_ok {N : List Str} {qual : Str} {scope : Scope} {cA : Str → Option Addr} {k : Nat} {f : Addr} {cd : Value} {A : Around} {outer : List PySem.Env} {s : Shared} {H : Hp} {E : XK} (nd : N.Nodup) (hr : Room k (A.deeper (envOfC qual scope s.heap.objs.size f cd))) :
    (defFam P w K mg base N qual scope cA k f cd A outer s H E).Ok where
  tk := fun _ => takes_of (X := cxOf (L2.CX P w) P w K mg base N qual scope f cd A outer s H E) rfl rfl rfl rfl
  hr := fun _ => hr
  nd := nd
  po := fun _ => PassesOwn.leaving
theorem sl_start {S : Sx} {w0 : Wd} {args : List PV} {vs : List V} (r : PWs S w0 args vs) {N : List Str} : Sl S w0 w0 (startE N.length args) (L2.start N vs) := by
  unfold startE L2.start
  have hl := r.length
  refine ⟨by simp [hl], fun i x e => ?_, fun i o e => ?_, fun i j o o' a e1 => ?_, fun i x e => ?_⟩
  rotate_left 3
  · by_cases hi : i < args.length
    · rw [List.getElem?_append_left (by simpa using hi), List.getElem?_map] at e
      obtain ⟨y, e1, e2⟩ := Option.map_eq_some_iff.mp e
      cases e2
    · rw [List.getElem?_append_right (by simp; omega), List.getElem?_replicate] at e
      split at e <;> cases e
  · by_cases hi : i < args.length
    · rw [List.getElem?_append_left (by simpa using hi), List.getElem?_map] at e
      obtain ⟨y, e1, e2⟩ := Option.map_eq_some_iff.mp e
      cases e2
      obtain ⟨v, g1, g2⟩ := r.get e1
      exact ⟨v, by rw [List.getElem?_append_left (by simp; omega), List.getElem?_map, g1]; rfl, g2⟩
    · rw [List.getElem?_append_right (by simp; omega), List.getElem?_replicate] at e
      split at e <;> cases e
  · by_cases hi : i < args.length
    · rw [List.getElem?_append_left (by simpa using hi), List.getElem?_map] at e
      obtain ⟨y, e1, e2⟩ := Option.map_eq_some_iff.mp e
      cases e2
    · rw [List.getElem?_append_right (by simp; omega), List.getElem?_replicate] at e
      split at e <;> cases e
  · by_cases hi : i < args.length
    · rw [List.getElem?_append_left (by simpa using hi), List.getElem?_map] at e1
      obtain ⟨y, e1, e2⟩ := Option.map_eq_some_iff.mp e1
      cases e2
    · rw [List.getElem?_append_right (by simp; omega), List.getElem?_replicate] at e1
      split at e1 <;> cases e1
/-- THE RULE for a def -/
theorem ok_def {x qual : Str} {st : Stmt} {f : Addr} {fd : FuncData} {N ps : List Str} {k : Nat} {cA : Str → Option Addr} {b : MS} (Fn : Fun K x qual st f fd) (Sc : FnScope N ps (defScope st))
    (hb : ∀ (cdv : Value) (A : Around) (outer : List PySem.Env) (s : Shared) (H : Hp) (E : XK), (defFam P w K mg base N qual (defScope st) cA k f cdv A outer s H E).Ok → SSs (defFam P w K mg base N qual (defScope st) cA k f cdv A outer s H E) (defBody st) b) :
    FnOk P w K mg base (L2.CX P w) (k + 1) f fd ps (spM ⟨K, cA, 0, none⟩ (runD N.length ps.length b)) := by
  refine Fn.okX Sc (fun vs H Q E ⟨w0, h, args, e, d, r, po⟩ => ?_) (fun cdv A outer s H vs Q E hr ⟨w0, h, args, e, d, r, po⟩ => ?_)
  · unfold runD at po
    split at po
    · rename_i hl; rw [← r.length]; exact hl
    · exact po.elim
  · obtain ⟨t, p, q⟩ := hb cdv A outer s H E (defFam_ok Sc.nd hr)
    refine ⟨_, p (), ?_⟩
    rw [← e]
    refine q _ w0 w0 (startE N.length args) h (L2.start N vs) _ ⟨Step.refl w0, d, sl_start r⟩ ?_
    unfold runD at po
    split at po
    · cases eb : b (startE N.length args) h with
      | nx env' h' => rw [eb] at po; exact fun w' σ' x rl => po w' .non rl.st rl.hd .non
      | rt x h' => rw [eb] at po; exact po
      | bk env' h' => rw [eb] at po; exact po.elim
      | ct env' h' => rw [eb] at po; exact po.elim
      | er x env' h' => rw [eb] at po; exact fun w' σ' cls d' xx rl rx => po w' cls d' rl.st rl.hd rx
      | no => rw [eb] at po; exact po.elim
    · exact po.elim
end
end Mir

set_option Elab.async false
set_option linter.all false
set_option maxRecDepth 100000
set_option maxHeartbeats 2000000
/-! enumerate of a tuple; min of data. -/
namespace MirE
open PySem PySem.Spec PyProof.Rows L2
/-- what enumerate(v) leaves behind the iterator of v -/
abbrev enumCell (i : Addr) : Obj := ⟨.type "enumerate", none, .fields #[.none, .bool false, .ref i, rawInt 0, .none, .none], #[]⟩
theorem enumNew {v : Value} {o : Obj} {Pre : Heap → Prop} (start : Begins v o Pre) :
    Meets (Builtin.«enumerate.__new__» ⟨[.type "enumerate", v], []⟩) fun _ post s0 =>
      Pre s0.heap ∧ post (.ok (.ret (.ref (s0.heap.push o).objs.size))) { s0 with heap := (s0.heap.push o).push (enumCell s0.heap.objs.size) } := by
  refine .of_wp ?_
  rintro prog w A post ⟨m0, gl, dp, tk, ou⟩ ⟨pre, fin⟩
  have isEnum := sub_enumerate
  have first : ∀ {A1 : Around} {E1 Q1 : Value → Shared → Prop}, Q1 (.ref m0.objs.size) ⟨m0.push o, gl, dp, tk, ou⟩ → wpAny (model prog w) A1 (pyIter v) Q1 E1 ⟨m0, gl, dp, tk, ou⟩ :=
    start.iter prog w _ _ _ _ pre
  wp_walk using first
  apply wpAny_stack_any
  intro frames
  apply wpAny_pure
  split
  case _ c _ _ _ _ _ => cases hc : (c == Value.type "enumerate") <;> simp only [hc] <;> (wp_walk using first; exact ⟨_, rfl, fin⟩)
  all_goals (wp_walk using first; exact ⟨_, rfl, fin⟩)
theorem enumCall {prog : Program} {w : World} {A : Around} {E Q : Value → Shared → Prop} {s : Shared} {v : Value} {o : Obj} {Pre : Heap → Prop} (start : Begins v o Pre) (pre : Pre s.heap)
    (next : ∀ m, IsEnum m (s.heap.objs.size + 1) s.heap.objs.size 0 .none → m.get? s.heap.objs.size = some o → m.objs.size = s.heap.objs.size + 2 →
      (∀ b ob, s.heap.get? b = some ob → m.get? b = some ob) → Q (.ref (s.heap.objs.size + 1)) { s with heap := m }) :
    wpAny (model prog w) A (call (.type "enumerate") [v]) Q E s := by
  have n1 : (s.heap.push o).objs.size = s.heap.objs.size + 1 := Heap.size_push _ _
  have cell := Heap.get?_push_size (s.heap.push o) (o := enumCell s.heap.objs.size) rfl
  have goal := next ((s.heap.push o).push (enumCell s.heap.objs.size)) (n1 ▸ cell) (Heap.get?_push_of_some _ (Heap.get?_push_size _ start.free))
    (by simp only [Heap.size_push]) (fun _ _ z => Heap.get?_push_of_some _ (Heap.get?_push_of_some _ z))
  apply callType_new F.called_enumerate (by decide) (F.typeCall_enumerate_1 v) (F.newCall_enumerate_1 v) (fun ob => F.args_object_init_2 ob v)
    F.entry_enumerate_new (enumNew start)
  refine ⟨pre, ?_⟩
  rw [n1]
  exact ⟨⟨_, n1 ▸ cell, rfl⟩, goal⟩
/-- the tuple at a, each item in a new pair -/
def IteT (K : PySem.W.Frag) (a : Addr) : It :=
  ⟨fun i H => ∃ (xs : List V) (x : V), SqT K H a xs ∧ xs[i]? = some x, fun i H v H' => ∃ T x, v = .ref T ∧ H T = none ∧ H' = upd H T (.tup [.int (i : Nat), x]) ∧ ∀ xs, SqT K H a xs → xs[i]? = some x, fun i H => ∃ xs : List V, SqT K H a xs ∧ xs.length = i⟩
/-- a tuple that is enumerated: i pairs are out -/
structure TupEnum (a e it : Addr) (i : Nat) (m : Heap) : Prop where
  cell : ∃ old, IsEnum m e it ((i : Nat) : Int) old
  iter : m.IsTupleIter it a i
  two : e ≠ it
theorem TupEnum.apart {a e it : Addr} {i : Nat} {m : Heap} {its : Array Value} (st : TupEnum a e it i m) (p : m.IsTuple a its) : a ≠ it ∧ a ≠ e := by
  obtain ⟨t, ht, _, _, dt⟩ := p
  constructor
  · rintro rfl
    obtain ⟨c, hc, _, dc⟩ := st.iter
    have same := hc.symm.trans ht
    rw [Option.some.injEq] at same
    rw [same, dt] at dc
    exact nomatch dc
  · rintro rfl
    obtain ⟨old, hc⟩ := st.cell
    have same : some _ = some t := Eq.trans (Eq.symm hc) ht
    rw [Option.some.injEq] at same
    rw [← same] at dt
    exact nomatch dt
theorem turn_enumT {P : Program} {w : World} {K : PySem.W.Frag} {elts : List Expr} {kk : Nat} {tpos : Pos} (a e it : Addr) :
    Turn P w K (.Tuple elts kk tpos) (IteT K a) [e, it] e (TupEnum a e it) where
  mem := List.mem_cons_self
  self := fun A n m Q E st => wpAny_pyIter_enum st.cell.choose_spec
  keep := fun n m m' st k => ⟨st.cell.imp fun old c => k e List.mem_cons_self _ c, st.iter.at fun ob c => k it (List.mem_cons_of_mem _ List.mem_cons_self) ob c, st.two⟩
  obj := fun n m st b hb => by
    have hb : b = e ∨ b = it := by simpa using hb
    rcases hb with rfl | rfl
    · exact st.cell.elim fun old c => ⟨_, c, fun v q => nomatch q⟩
    · obtain ⟨ob, c, _, dc⟩ := st.iter
      refine ⟨ob, c, fun v q => ?_⟩
      rw [dc] at q
      exact nomatch q
  done := by
    rintro X rfl rfl rfl calm n pins s σ H E I fresh st ⟨xs, sq, rfl⟩
    obtain ⟨its, rv, p, _⟩ := I.tuple sq
    have D := Draws.tuple (prog := X.prog) (w := X.w) (A := X.A.in1) (I.ok.hd calm) it a (st.apart p).1 its.toArray
    have all : its.toArray.size = xs.length := by rw [List.size_toArray, rv.length]
    refine wpAny_pyNext_enum_endD D st.cell.choose_spec ⟨all ▸ st.iter, p⟩ fun m eb => ⟨rfl, ?_⟩
    obtain ⟨g0, g1, _, g3, g4, g5⟩ := fresh it (List.mem_cons_of_mem _ List.mem_cons_self)
    exact I.turned (t' := s.toks) eb g0 g1 g3 g4 g5
  item := by
    rintro X rfl rfl rfl calm n pins s σ H E I fresh st ⟨xs, x, sq, at_n⟩
    obtain ⟨its, rv, p, _⟩ := I.tuple sq
    have ne := st.apart p
    obtain ⟨u, at_u, rx⟩ := rv.get at_n
    have D := Draws.tuple (prog := X.prog) (w := X.w) (A := X.A.in1) (I.ok.hd calm) it a ne.1 its.toArray
    have inside : n < its.toArray.size := by
      rw [List.size_toArray]
      exact (List.getElem?_eq_some_iff.mp at_u).1
    have e_in : e < s.heap.objs.size := st.cell.elim fun old c => Heap.lt_size c
    have it_in : it < s.heap.objs.size := st.iter.elim fun ob c => Heap.lt_size c.1
    have outside : e ∉ [it, a] := by
      simp only [List.mem_cons, List.not_mem_nil, or_false, not_or]
      exact ⟨st.two, ne.2.symm⟩
    refine wpAny_pyNext_enum_itemD D st.cell.choose_spec ⟨st.iter, p⟩ inside st.two outside fun y m tk drawn out next pair _ old => ?_
    obtain rfl : y = u := by
      rw [List.getElem?_toArray] at drawn
      exact Option.some.inj (drawn.symm.trans at_u)
    refine ⟨_, rfl, wpAny_letOwnedTupleGo_enum (s := { s with heap := m, toks := tk + 1 }) out fun m2 cell2 same => ?_⟩
    have pair2 : m2.get? s.heap.objs.size = some { cls := .type "tuple", data := .seq #[.int n tk, y] } := by
      rw [same.2 _ (Nat.ne_of_gt e_in)]
      exact pair
    have ok2 : ObjOk X.prog X.w (upd H s.heap.objs.size (.tup [.int (n : Nat), x])) m2 s.heap.objs.size (.tup [.int (n : Nat), x]) := by
      refine ⟨?_, [.int n tk, y], .cons ⟨tk, rfl⟩ (.cons rx .nil), _, pair2, rfl, _, rfl⟩
      show 2 ≤ sizeLine
      decide
    have kept2 : ∀ b ob, b ∉ [e, it] → s.heap.get? b = some ob → m2.get? b = some ob := by
      intro b ob hb c
      simp only [List.mem_cons, List.not_mem_nil, or_false, not_or] at hb
      rw [same.2 b hb.1]
      exact old b ob (by simp [hb.1, hb.2]) (by simp [hb.1, hb.2]) c
    refine ⟨.ref s.heap.objs.size, _, I.turnedNew (ch := [e, it]) kept2 fresh (Nat.le_refl _) ok2, rfl, ⟨_, x, rfl, I.hok.fresh (Nat.le_refl _), rfl, ?_⟩, ⟨⟨y, ?_⟩, ?_, st.two⟩, ?_⟩
    · intro ys sq2
      rw [I.tuple_inj sq2 sq]
      exact at_n
    · rw [Int.natCast_succ]
      exact cell2
    · exact next.1.at fun ob c => (same.2 it st.two.symm).trans c
    · intro b hb
      have b_in : b ≠ s.heap.objs.size := by
        have hb : b = e ∨ b = it := by simpa using hb
        exact Nat.ne_of_lt (hb.elim (fun z => z ▸ e_in) fun z => z ▸ it_in)
      rw [upd_ne b_in]
      exact (fresh b hb).1
def iEnumA (K : PySem.W.Frag) (ta : TA) : TI := fun σ H R => ta σ H fun vs H1 => ∃ a xs, vs = [.ref a] ∧ ((SqL K H1 a xs ∧ R (Ite K a) H1) ∨ (SqT K H1 a xs ∧ R (IteT K a) H1))
theorem pi_enumA {X : Cx} {e : Expr} {ta : TA} {p pos tpos : Pos} {elts : List Expr} {kk : Nat} (hg : Gl X "enumerate") (hm : X.mg "enumerate" = none) (ha : PA X [e] ta) (hs : starEach [e] X.env = [(false, eval e X.env)] := by rfl) :
    PI X (.Tuple elts kk tpos) (.Call (.Name "enumerate" p) [e] [] pos) (iEnumA X.K ta) := by
  constructor
  intro pins s σ H R I h
  refine Call_ (ld_blt I hg hm boot_enumerate ?_)
  refine callWith_type1 (thn (ha.run pos pins s σ H _ I h) ?_) hs rfl
  rintro us t ⟨vs, H1, J, rel, a, xs, rfl, kind⟩
  obtain ⟨u, rfl, ru⟩ := vals1 rel
  cases ru
  have new : ∀ b, b = t.heap.objs.size + 1 ∨ b = t.heap.objs.size → FpOk X pins H1 b := by
    intro b hb
    have above : t.heap.objs.size ≤ b := by omega
    exact J.fpOk above (J.hok.fresh above)
  have news : ∀ b ∈ [t.heap.objs.size + 1, t.heap.objs.size], FpOk X pins H1 b := fun b hb => new b (by simpa using hb)
  rcases kind with ⟨sq, r⟩ | ⟨sq, r⟩
  · obtain ⟨its, _, isL, _⟩ := J.list sq
    refine call_enumerate_list isL.isList fun m cell iter _ keep => wpAny_pyIter_enum cell ?_
    exact ⟨_, [t.heap.objs.size + 1, t.heap.objs.size], _, _, H1, rfl, J.kept (t' := t.toks) keep, turn_enum a _ _, ⟨⟨.none, cell⟩, iter, Nat.succ_ne_self _⟩, news, r⟩
  · obtain ⟨its, _, isT, _⟩ := J.tuple sq
    refine enumCall (begins_tuple a its.toArray) isT fun m cell iter _ keep => wpAny_pyIter_enum cell ?_
    exact ⟨_, [t.heap.objs.size + 1, t.heap.objs.size], _, _, H1, rfl, J.kept (t' := t.toks) keep, turn_enumT a _ _, ⟨⟨.none, cell⟩, ⟨_, iter, rfl, rfl⟩, Nat.succ_ne_self _⟩, news, r⟩
theorem walk_enumT {K : PySem.W.Frag} {a : Addr} {xs : List V} : Walk (IteT K a) xs.length (fun H => SqT K H a xs) (YPair (fun i => some (.int (i : Nat))) (fun i => xs[i]?)) := by
  refine ⟨fun i _ hi q => ⟨xs, xs[i], q, by simp [hi]⟩, fun _ q => ⟨xs, q, rfl⟩, fun i H v H' _ q y => ?_⟩
  exact y.elim fun T z => z.elim fun x c => ⟨T, .int (i : Nat), x, c.1, c.2.1, c.2.2.1, rfl, c.2.2.2 xs q⟩
/-! ### min, max of data -/
section
variable {X : Cx}
def rMinD (K : PySem.W.Frag) : List V → Hp → VK → Prop := fun vs H Q => ∃ (a : Addr) (xs : List V) (d : PyData) (ds : List PyData), vs = [.ref a] ∧ (SqL K H a xs ∨ SqT K H a xs) ∧ DpAll K H xs (d :: ds) ∧ PySem.W.AlikeAll (d :: ds) ∧ PyData.depthAll (d :: ds) ≤ 60 ∧
  ∀ (j : Nat) (x : V), xs[j]? = some x → (d :: ds)[j]? = some (PySem.W.minD d ds) → Q x H
theorem DpAll.get {K : PySem.W.Frag} {H : Hp} : ∀ {xs : List V} {ds : List PyData} {j : Nat} {x : V}, DpAll K H xs ds → xs[j]? = some x → ∃ d, ds[j]? = some d ∧ Dp K H x d
  | _, _, _, _, .nil, e => by simp at e
  | _, _, 0, _, .cons r _, e => by simp at e; subst e; exact ⟨_, rfl, r⟩
  | _, _, j + 1, x, .cons _ q, e => by
    obtain ⟨d, h1, h2⟩ := DpAll.get (j := j) (x := x) q (by simpa using e)
    exact ⟨d, by simpa using h1, h2⟩
theorem cr_minD (hc : X.calm = true) (hu : X.A.units + 64 < cLine) : CallR X (.builtin "min") (rMinD X.K) := by
  intro pins s σ H vs us Q I r h
  obtain ⟨a, xs, d, ds, rfl, hq, hd, ha, hz, q⟩ := h
  obtain ⟨u, rfl, ru⟩ := vals1 r
  cases ru
  have key : ∀ (its : List Value), Vals xs its → ∃ as, ReadsAll s.heap its.toArray.toList (d :: ds) as := fun its rv => by
    obtain ⟨as, ra⟩ := Dp.readsAll I (d :: ds) xs its hd rv
    exact ⟨as, by simpa using ra⟩
  have fin : ∀ (its : List Value), Vals xs its → ∀ (i : Nat) (v : Value) (h' : Heap) (tk : Nat) (bs : List Addr), its.toArray[i]? = some v → Reads h' v (PySem.W.minD d ds) bs → (∀ b o, s.heap.get? b = some o → h'.get? b = some o) → EP X pins σ Q v { s with heap := h', toks := tk } := fun its rv i v h' tk bs e1 e2 e3 => by
    have I1 : Inv X pins σ H { s with heap := h', toks := tk } := I.kept e3
    have e1' : its[i]? = some v := by simpa using e1
    have hi : i < xs.length := by rw [rv.length]; exact (List.getElem?_eq_some_iff.mp e1').1
    obtain ⟨u, g1, g2⟩ := rv.get (List.getElem?_eq_getElem hi)
    rw [e1'] at g1
    cases g1
    obtain ⟨dj, k1, k2⟩ := MirE.DpAll.get hd (List.getElem?_eq_getElem hi)
    obtain ⟨as2, r2⟩ := Dp.reads I1 _ _ _ k2 g2
    have e4 := (PyProof.Rows.reads_det (h := h') (h' := h') (fun b o z _ => z) e2 r2).1
    exact ⟨xs[i], H, I1, g2, q i _ (List.getElem?_eq_getElem hi) (by rw [k1, e4])⟩
  rcases hq with hq | hq
  · obtain ⟨its, rv, p, _⟩ := I.list hq
    obtain ⟨as, ra⟩ := key its rv
    exact PySem.W.min_list_data (I.ok.hd hc) p.isList ra ha (by omega) fun i v h' tk bs e1 e2 e3 => fin its rv i v h' tk bs e1 e2 e3
  · obtain ⟨its, rv, p, _⟩ := I.tuple hq
    obtain ⟨as, ra⟩ := key its rv
    exact PySem.W.min_tuple_data (I.ok.hd hc) p ra ha (by omega) fun i v h' tk bs e1 e2 e3 => fin its rv i v h' tk bs e1 e2 e3
end
end MirE
namespace Mir
open PySem PySem.Spec PyProof.Rows L2
mutual
def fromD : PyData → PV
  | .none => .non
  | .bool b => .bl b
  | .int i => .int i
  | .str s => .str s
  | .list xs => .lst (fromDs xs)
  | .tuple xs => .tup (fromDs xs)
  | .dict _ => .non
def fromDs : List PyData → List PV
  | [] => []
  | d :: r => fromD d :: fromDs r
end
mutual
theorem from_to : ∀ {x : PV} {d : PyData}, toD x = some d → fromD d = x
  | .non, d, h => by rw [toD] at h; cases h; rw [fromD]
  | .bl b, d, h => by rw [toD] at h; cases h; rw [fromD]
  | .int i, d, h => by rw [toD] at h; cases h; rw [fromD]
  | .str s, d, h => by rw [toD] at h; cases h; rw [fromD]
  | .tup xs, d, h => by
    rw [toD] at h
    obtain ⟨ds, e1, e2⟩ := Option.map_eq_some_iff.mp h
    subst e2
    rw [fromD, froms_to e1]
  | .lst xs, d, h => by
    rw [toD] at h
    obtain ⟨ds, e1, e2⟩ := Option.map_eq_some_iff.mp h
    subst e2
    rw [fromD, froms_to e1]
  | .dct _ _, d, h => by rw [toD] at h; cases h
  | .ref _, d, h => by rw [toD] at h; cases h
theorem froms_to : ∀ {xs : List PV} {ds : List PyData}, toDs xs = some ds → fromDs ds = xs
  | [], ds, h => by rw [toDs] at h; cases h; rw [fromDs]
  | x :: r, ds, h => by
    rw [toDs] at h
    split at h
    · rename_i d es e1 e2
      cases h
      rw [fromDs, from_to e1, froms_to e2]
    · cases h
end
theorem toDs_get : ∀ {xs : List PV} {ds : List PyData} {j : Nat} {d : PyData}, toDs xs = some ds → ds[j]? = some d → ∃ x, xs[j]? = some x ∧ toD x = some d
  | [], ds, j, d, h, e => by rw [toDs] at h; cases h; simp at e
  | x :: r, ds, j, d, h, e => by
    rw [toDs] at h
    split at h
    · rename_i d' es e1 e2
      cases h
      cases j with
      | zero => simp at e; subst e; exact ⟨x, rfl, e1⟩
      | succ j => obtain ⟨y, g1, g2⟩ := toDs_get (j := j) e2 (by simpa using e); exact ⟨y, by simpa using g1, g2⟩
    · cases h
def alikeB (ds : List PyData) : Bool := (ds.all fun x => ds.all fun y => PySem.W.alike x y) && ds.all dNN
theorem alikeB_ok {ds : List PyData} (h : alikeB ds = true) : PySem.W.AlikeAll ds := by
  unfold alikeB at h
  simp only [Bool.and_eq_true, List.all_eq_true] at h
  exact ⟨fun x hx y hy => h.1 x hx y hy, fun x hx => dNN_ne (h.2 x hx)⟩
def minP (ys : List PV) : Option PV := match toDs ys with
  | some (d :: ds) => if (alikeB (d :: ds) && decide (PyData.depthAll (d :: ds) ≤ 60)) = true then some (fromD (PySem.W.minD d ds)) else none
  | _ => none
def fMin : List PV → Hh → Res PV := fun xs h => match xs with
  | [.lst ys] => match minP ys with
    | some x => .ok x h
    | none => .no
  | [.tup ys] => match minP ys with
    | some x => .ok x h
    | none => .no
  | _ => .no
theorem minP_ok {S : Sx} {W : WX} {σ : L2.St} {w : Wd} {h : Hh} (d : Hd S w h) {ys : List PV} {us : List V} {z : PV} {a : Addr} {Q : VK} (e : minP ys = some z) (r : PWs S w ys us) (hs : SqL S.K w.H a us ∨ SqT S.K w.H a us) (po : PostE S W w σ (RV S) (.ok z h) Q) : MirE.rMinD S.K [.ref a] w.H Q := by
  unfold minP at e
  split at e
  · rename_i d1 ds et
    split at e
    · rename_i hc
      simp only [Bool.and_eq_true, decide_eq_true_eq] at hc
      cases e
      refine ⟨a, us, d1, ds, rfl, hs, DpAll.mono' d.sub (dps_of r et), alikeB_ok hc.1, hc.2, fun j x e1 e2 => ?_⟩
      obtain ⟨y, g1, g2⟩ := toDs_get et e2
      obtain ⟨v, k1, k2⟩ := r.get g1
      rw [e1] at k1
      cases k1
      rw [from_to g2] at po
      exact po.fin d k2
    · cases e
  · cases e
section
variable {F : Fam} {e ea eb ec tg : Expr} {es : List Expr} {pos p p2 tpos : Pos} {mr ma : MA} {m : ME}
theorem se_min (ok : F.Ok) (hc : F.calm = true) (hm : F.mg "min" = none) (ha : SAB F [e] mr) (hg : ∀ i, Gl (F.X i) "min" := by intro _; rfl) (he : ∀ i, starEach [e] (F.X i).env = (false, eval e (F.X i).env) :: starEach [] (F.X i).env := by intro _; rfl) : SE F (.Call (.Name "min" p) [e] [] pos) (mCall fMin mr) :=
  se_callB (r := MirE.rMinD F.K) (fun W σ w h xs vs Q d px po => by
    unfold fMin at po
    split at po
    · split at po
      · rename_i z ez
        obtain ⟨v, rfl, p1⟩ := px.one
        obtain ⟨a, us, rfl, ha, ra⟩ := p1.ofLst d
        exact minP_ok d ez ra (.inl ha) po
      · exact po.elim
    · split at po
      · rename_i z ez
        obtain ⟨v, rfl, p1⟩ := px.one
        obtain ⟨a, us, rfl, ha, ra⟩ := p1.ofTup d
        exact minP_ok d ez ra (.inr ha) po
      · exact po.elim
    · exact po.elim) (fun i => MirE.cr_minD (X := F.X i) hc (ok.u64 i)) hm (by decide +kernel) ha hg (by decide) (by decide) he (fun _ => rfl)
/-- enumerate -/
def enumL (xs : List PV) : List PV := xs.mapIdx fun i x => .tup [.int (i : Nat), x]
def itE (m : MA) : MA := fun env h => (m env h).bind fun xs h => match xs with
  | [.lst ys] => .ok (enumL ys) h
  | [.tup ys] => .ok (enumL ys) h
  | _ => .no
theorem yok_pair {S : Sx} {w' : Wd} {a b : PV} {v : V} {H' : Hp} {xs ys : Nat → Option V} {i : Nat} (h : YPair xs ys i w'.H v H') (ra : ∀ va, xs i = some va → PW' S w' a va) (rb : ∀ vb, ys i = some vb → PW' S w' b vb) : YOk S w' (.tup [a, b]) v H' := fun hh d => by
  obtain ⟨T, va, vb, rfl, nT, rfl, e1, e2⟩ := h
  exact ⟨w'.lock T (.tup [va, vb]), rfl, Step.lock d nT, d.lock nT, .tup (.inl (.inl upd_same)) (.cons ((Step.lock d nT).pr (ra va e1)) (.cons ((Step.lock d nT).pr (rb vb e2)) .nil))⟩
theorem si_enum {elts : List Expr} {kk : Nat} (hm : F.mg "enumerate" = none) (a : SA F [e] ma) (hg : ∀ i, Gl (F.X i) "enumerate" := by intro _; rfl) (hs : ∀ i, starEach [e] (F.X i).env = [(false, eval e (F.X i).env)] := by intro _; rfl) :
    SI F (.Tuple elts kk tpos) (.Call (.Name "enumerate" p) [e] [] pos) (itE ma) := by
  obtain ⟨t, pa, q⟩ := a
  refine ⟨fun W => MirE.iEnumA F.K (t W), fun i => MirE.pi_enumA (hg i) hm (pa i) (hs i), fun W w0 w env h σ R rl po => q W w0 w env h σ _ rl ?_⟩
  unfold itE at po
  cases em : ma env h with
  | no => rw [em] at po; exact po
  | er x h' => rw [em] at po; exact po
  | ok xs h' =>
    rw [em, Res.bind_ok] at po
    intro w' v s d r
    split at po
    · rename_i ys hx
      split at hx
      · rename_i zs
        cases hx
        cases r with | cons r1 r2 =>
        cases r2
        cases r1 with | @lst a _ vs sq rs =>
        refine ⟨a, vs, rfl, .inl ⟨d.sqL sq, po w' _ s d ⟨_, _, by unfold enumL; rw [List.length_mapIdx, rs.length]; exact walk_enum, fun w'' c => ?_, fun i w'' H' y u c e1 e2 => ?_⟩⟩⟩
        · obtain ⟨c1, hh, c2⟩ := c
          exact c2.sqL (sqL_mono c1.fz sq)
        · unfold enumL at e1
          rw [List.getElem?_mapIdx] at e1
          obtain ⟨z, g1, g2⟩ := Option.map_eq_some_iff.mp e1
          subst g2
          refine yok_pair e2 (fun va ea => by cases ea; exact .int _) fun vb eb => ?_
          obtain ⟨v', k1, k2⟩ := rs.get g1
          rw [eb] at k1
          cases k1
          exact c.1.pr k2
      · rename_i zs
        cases hx
        cases r with | cons r1 r2 =>
        cases r2
        cases r1 with | @tup a _ vs sq rs =>
        refine ⟨a, vs, rfl, .inr ⟨d.sqT sq, po w' _ s d ⟨_, _, by unfold enumL; rw [List.length_mapIdx, rs.length]; exact MirE.walk_enumT, fun w'' c => ?_, fun i w'' H' y u c e1 e2 => ?_⟩⟩⟩
        · obtain ⟨c1, hh, c2⟩ := c
          exact c2.sqT (sqT_mono c1.fz sq)
        · unfold enumL at e1
          rw [List.getElem?_mapIdx] at e1
          obtain ⟨z, g1, g2⟩ := Option.map_eq_some_iff.mp e1
          subst g2
          refine yok_pair e2 (fun va ea => by cases ea; exact .int _) fun vb eb => ?_
          obtain ⟨v', k1, k2⟩ := rs.get g1
          rw [eb] at k1
          cases k1
          exact c.1.pr k2
      · cases hx
    · rename_i hx
      split at hx <;> cases hx
    · exact po.elim
end
end Mir

set_option Elab.async false
set_option linter.all false
set_option maxRecDepth 100000
set_option maxHeartbeats 2000000
namespace Mir
open PySem PySem.Spec PyProof.Rows L2

/-! ### a list or a tuple, walked -/
def iSeq (K : PySem.W.Frag) (tl : TE) : TI := fun σ H R => tl σ H fun x H1 => ∃ a, x = .ref a ∧ (((∃ xs, SqL K H1 a xs) ∧ R (Itl K a) H1) ∨ ((∃ xs, SqT K H1 a xs) ∧ R (Itt K a) H1))
theorem pi_seq {X : Cx} {tg l : Expr} {tl : TE} (hl : PE X l tl) : PI X tg l (iSeq X.K tl) := by
  constructor
  intro pins s σ H R I h
  refine thn (hl.run pins s σ H _ I h) ?_
  rintro _ t ⟨_, H1, J, rel, a, rfl, kind⟩
  cases rel
  have J1 : ∀ o : Obj, Inv X pins σ H1 { t with heap := t.heap.push o } := fun o => J.kept (t' := t.toks) fun _ _ z => Heap.get?_push_of_some _ z
  have new : ∀ b ∈ [t.heap.objs.size], FpOk X pins H1 b := fun b hb => by
    rw [List.mem_singleton.mp hb]
    exact J.fpOk (Nat.le_refl _) (J.hok.fresh (Nat.le_refl _))
  rcases kind with ⟨⟨xs, sq⟩, r⟩ | ⟨⟨xs, sq⟩, r⟩
  · obtain ⟨its, _, isL, _⟩ := J.list sq
    apply wpAny_pyIter_list isL.isList
    exact ⟨_, [t.heap.objs.size], _, _, H1, rfl, J1 _, turn_list a _, ⟨_, Heap.get?_push_size _ rfl, rfl, rfl⟩, new, r⟩
  · obtain ⟨its, _, isT, _⟩ := J.tuple sq
    apply wpAny_pyIter_tuple isT
    exact ⟨_, [t.heap.objs.size], _, _, H1, rfl, J1 _, turn_tuple a _, ⟨_, Heap.get?_push_size _ rfl, rfl, rfl⟩, new, r⟩
def itS (m : ME) : MA := fun env h => (m env h).bind fun x h => match x with
  | .lst xs => .ok xs h
  | .tup xs => .ok xs h
  | _ => .no
section
variable {F : Fam} {e tg : Expr} {m : ME}
theorem si_seq (a : SE F e m) : SI F tg e (itS m) := by
  obtain ⟨t, p, q⟩ := a
  refine ⟨fun W => iSeq F.K (t W), fun i => pi_seq (p i), fun W w0 w env h σ R rl po => q W w0 w env h σ _ rl ?_⟩
  unfold itS at po
  cases em : m env h with
  | no => rw [em] at po; exact po
  | er x h' => rw [em] at po; exact po
  | ok x h' =>
    rw [em] at po
    intro w' v s d r
    cases r with
    | @lst a xs vs sq rs =>
      refine ⟨a, rfl, .inl ⟨⟨vs, d.sqL sq⟩, po w' _ s d ⟨_, _, by rw [rs.length]; exact walk_list, fun w'' c => ?_, fun i w'' H' y u c e1 e2 => yok_at rs c.1 e1 e2⟩⟩⟩
      obtain ⟨c1, hh, c2⟩ := c
      exact c2.sqL (sqL_mono c1.fz sq)
    | @tup a xs vs sq rs =>
      refine ⟨a, rfl, .inr ⟨⟨vs, d.sqT sq⟩, po w' _ s d ⟨_, _, by rw [rs.length]; exact walk_tup, fun w'' c => ?_, fun i w'' H' y u c e1 e2 => yok_at rs c.1 e1 e2⟩⟩⟩
      obtain ⟨c1, hh, c2⟩ := c
      exact c2.sqT (sqT_mono c1.fz sq)
    | _ => exact po.elim
end

/-! ### defs by name -/
structure DefAt (K : PySem.W.Frag) (mg : Str → Option Value) (x : Str) (st : Stmt) : Prop where
  ex : ∃ f fd, Fun K x x st f fd ∧ mg x = some (.ref f)
structure DefOk (P : Program) (w : World) (K : PySem.W.Frag) (mg : Str → Option Value) (base : Heap) (cA : Str → Option Addr) (k : Nat) (x : Str) (ps : List Str) (m : MF) : Prop where
  ex : ∃ f fd, FnOk P w K mg base (L2.CX P w) k f fd ps (spM ⟨K, cA, 0, none⟩ m) ∧ mg x = some (.ref f) ∧ PySem.W.keepIn K (.ref f) = true ∧ Binds K fd ps []
section
variable {P : Program} {w : World} {K : PySem.W.Frag} {mg : Str → Option Value} {base : Heap} {cA : Str → Option Addr} {k : Nat} {x : Str} {ps : List Str} {m m' : MF}
theorem DefOk.mirror (G : DefOk P w K mg base cA k x ps m) (h : ∀ args H, m' args H ≠ .no → m args H = m' args H) : DefOk P w K mg base cA k x ps m' := by
  obtain ⟨f, fd, g, r⟩ := G.ex
  exact ⟨f, fd, FnOk.mirror g h, r⟩
theorem defAt_mk {st : Stmt} {h : Heap} {f : Addr} {oc : Value} {od an : Option Addr} {osl : Array (Option Value)} {kV doc pm cdv ct : Value} (X : K.In h) (G : h.Ns mainGlobals mg) (a : PySem.W.nsIn K mainGlobals x = some (some (.ref f)))
    (l : K.lookup f = some ⟨oc, od, .func (PySem.W.fnOf x x (defArgs st) (defBody st) (defScope st) .none kV doc pm an cdv ct), osl⟩) (c : PySem.W.codeIn K cdv x = true) (kp : PySem.W.keepIn K (.ref f) = true) : DefAt K mg x st :=
  ⟨f, _, fun_mk l c kp, PySem.W.mg_of X G a⟩
theorem zero_ok {f : Addr} {fd : FuncData} : FnOk P w K mg base (L2.CX P w) k f fd ps (spM ⟨K, cA, 0, none⟩ fun _ _ => .no) :=
  ⟨fun _ _ _ _ ⟨_, _, _, _, _, _, po⟩ => po.elim, fun _ _ _ _ _ _ _ _ _ _ _ _ _ ⟨_, _, _, _, _, _, po⟩ => po.elim⟩
/-- the law -/
def spL (K : PySem.W.Frag) : Sp := fun vs H Q _ => ∃ (a : Addr) (ns : List Int), vs = [.ref a] ∧ SqL K H a (ns.map V.int) ∧ ns.length ≤ 63 ∧ ∀ H', Q (.bl true) H'
theorem law_ok {f : Addr} {fd : FuncData} (G : FnOk P w K mg base (L2.CX P w) k f fd ps (spM ⟨K, cA, 0, none⟩ m)) (h : ∀ ns : List Int, ns.length ≤ 63 → ∃ h', m [.lst (ns.map PV.int)] [] = .ok (.bl true) h') : FnOk P w K mg base (L2.CX P w) k f fd ps (spL K) :=
  FnOk.imp G fun vs H Q E ⟨a, ns, ev, hs, hl, q⟩ => by
    subst ev
    obtain ⟨h', e⟩ := h ns hl
    refine ⟨⟨H, H, []⟩, [], [.lst (ns.map PV.int)], rfl, ⟨fun _ _ e => e, rfl, List.nodup_nil, fun x hx => absurd hx (by simp), fun n o a e => by simp at e⟩, .cons (.lst hs (PRs.ints ns)) .nil, ?_⟩
    rw [e]
    intro w' v _ _ r
    cases r
    exact q _
theorem DefAt.ok {st : Stmt} (A : DefAt K mg x st) (g : ∀ f fd, Fun K x x st f fd → FnOk P w K mg base (L2.CX P w) k f fd ps (spM ⟨K, cA, 0, none⟩ m))
    (b : ∀ (kV doc pm : Value) (an : Option Addr) (cdv ct : Value) (us : List Value), us.length = ps.length → bindArgs (PySem.W.fnOf x x (defArgs st) (defBody st) (defScope st) .none kV doc pm an cdv ct) ⟨us, []⟩ = pure (ps.zip us)) : DefOk P w K mg base cA k x ps m := by
  obtain ⟨f, fd, Fn, e⟩ := A.ex
  exact ⟨f, fd, g f fd Fn, e, Fn.kp, Fn.binds b⟩
theorem law_mk {st : Stmt} {fa : Addr} (A : DefAt K mg x st) (hfa : mg x = some (.ref fa)) (b : ∀ (kV doc pm : Value) (an : Option Addr) (cdv ct u : Value), bindArgs (PySem.W.fnOf x x (defArgs st) (defBody st) (defScope st) .none kV doc pm an cdv ct) ⟨[u], []⟩ = pure [(("_law_script" : Str), u)])
    (g : ∀ base : Heap, K.In base → base.Ns mainGlobals mg → ∀ f fd, Fun K x x st f fd → FnOk P w K mg base (L2.CX P w) k f fd ["_law_script"] (spM ⟨K, cA, 0, none⟩ m))
    (h : ∀ ns : List Int, ns.length ≤ 63 → ∃ h', m [.lst (ns.map PV.int)] [] = .ok (.bl true) h') :
    ∃ fd : FuncData, (∀ (s : Shared) (u : Value), BindsTo s fd ⟨[u], []⟩ [(("_law_script" : Str), u)]) ∧ ∀ base : Heap, K.In base → base.Ns mainGlobals mg → FnOk P w K mg base (L2.CX P w) k fa fd ["_law_script"] (spL K) := by
  obtain ⟨f, fd, Fn, e⟩ := A.ex
  rw [hfa] at e
  cases e
  obtain ⟨oc, od, kV, doc, pm, an, cdv, ct, osl, rfl, lk, hcd⟩ := id Fn.ex
  exact ⟨_, fun s u => .of_eq (b kV doc pm an cdv ct u), fun base kb nb => law_ok (g base kb nb _ _ Fn) h⟩
end
section
variable {F : Fam} {e : Expr} {es : List Expr} {pos p : Pos} {mr : MA} {k : Nat} {x : Str} {ps : List Str} {mf : MF}
theorem se_fn (ok : F.Ok) (G : DefOk F.P F.w F.K F.mg F.base F.cA k x ps mf) (hk : k ≤ F.k) (ha : SA F (e :: es) mr) (hg : ∀ i, Gl (F.X i) x := by intro _; rfl) (hdb : (x == ("__debug__" : Str)) = false := by decide)
    (he : ∀ i, starEach (e :: es) (F.X i).env = (false, eval e (F.X i).env) :: starEach es (F.X i).env := by intro _; rfl) (hpl : ∀ i, (backTo pos (starEach es (F.X i).env)).any (·.1) = false := by intro _; rfl) :
    SE F (.Call (.Name x p) (e :: es) [] pos) (mCall mf mr) := by
  obtain ⟨f, fd, g, hm, kp, b⟩ := G.ex
  exact se_call ok g hk hm kp b ha hg hdb he hpl
theorem se_fn0 (ok : F.Ok) (G : DefOk F.P F.w F.K F.mg F.base F.cA k x ps mf) (hk : k ≤ F.k) (hg : ∀ i, Gl (F.X i) x := by intro _; rfl) (hdb : (x == ("__debug__" : Str)) = false := by decide) :
    SE F (.Call (.Name x p) [] [] pos) (mCall mf mNil) := by
  obtain ⟨f, fd, g, hm, kp, b⟩ := G.ex
  exact se_call0 ok g hk hm kp b hg hdb
end
end Mir

set_option Elab.async false
set_option linter.all false
set_option maxRecDepth 100000
set_option maxHeartbeats 1000000
/-! plain laws of the mirror's words -/
namespace Mir
open PySem
theorem lcL_eq {α : Type} {g : MG} {t : MT} {e : ME} {env : En} {h : Hh} (F : α → PV) (p : α → Bool) (f : α → PV) : ∀ (l : List α), (∀ a ∈ l, ∃ env2, g (F a) env = some env2 ∧ t env2 h = .ok (p a) h ∧ (p a = true → e env2 h = .ok (f a) h)) → lcL g t e env (l.map F) h = .ok ((l.filter p).map f) h
  | [], _ => rfl
  | a :: r, H => by
    obtain ⟨env2, h1, h2, h3⟩ := H a (by simp)
    have ih := lcL_eq (g := g) (t := t) (e := e) (env := env) (h := h) F p f r fun b hb => H b (by simp [hb])
    rw [List.map_cons]
    unfold lcL
    simp only [h1, h2]
    cases hp : p a with
    | true => simp only [h3 hp, ih, Res.bind_ok, List.filter_cons, hp, if_true, List.map_cons]
    | false => simp only [ih, List.filter_cons, hp, Bool.false_eq_true, if_false]
theorem forL_inv {α : Type} {g : MG} {b : MS} {h : Hh} (F : α → PV) (I : List α → En → Prop) : ∀ (l pre : List α), (∀ pre' a post, pre ++ l = pre' ++ a :: post → ∀ env, I pre' env → ∃ env1 env2, g (F a) env = some env1 ∧ b env1 h = .nx env2 h ∧ I (pre' ++ [a]) env2) →
    ∀ env, I pre env → ∃ env', forL g b (l.map F) env h = .nx env' h ∧ I (pre ++ l) env'
  | [], pre, _, env, i => ⟨env, rfl, by rw [List.append_nil]; exact i⟩
  | a :: r, pre, H, env, i => by
    obtain ⟨env1, env2, h1, h2, i2⟩ := H pre a r rfl env i
    obtain ⟨env', e1, i3⟩ := forL_inv (g := g) (b := b) (h := h) F I r (pre ++ [a]) (fun pre' a' post e => H pre' a' post (by rw [← e]; simp)) env2 i2
    refine ⟨env', ?_, by simpa using i3⟩
    rw [List.map_cons]
    unfold forL
    simp only [h1, h2]
    exact e1
theorem enumL_eq (xs : List PV) : enumL xs = (List.range xs.length).map fun i => PV.tup [.int (i : Nat), xs.getD i .non] := by
  unfold enumL
  refine List.ext_getElem? fun i => ?_
  rw [List.getElem?_mapIdx, List.getElem?_map]
  by_cases hi : i < xs.length
  · rw [List.getElem?_range hi]
    simp [hi]
  · have h1 : xs.length ≤ i := Nat.le_of_not_lt hi
    simp [h1]
theorem toDs_map {α : Type} (F : α → PV) (G : α → PyData) : ∀ (l : List α), (∀ a ∈ l, toD (F a) = some (G a)) → toDs (l.map F) = some (l.map G)
  | [], _ => rfl
  | a :: r, H => by
    rw [List.map_cons, toDs, H a (by simp), toDs_map F G r fun b hb => H b (by simp [hb])]
    rfl
/-- data that == takes: at most n deep -/
def lv : Nat → PV → Bool
  | _, .non => true
  | _, .bl _ => true
  | _, .int _ => true
  | _, .str s => PySem.PyData.canLay0 (.str s)
  | n + 1, .tup xs => xs.all (lv n)
  | n + 1, .lst xs => xs.all (lv n)
  | _, _ => false
mutual
theorem lv_ok : ∀ (n : Nat) (x : PV), lv n x = true → ∃ d, toD x = some d ∧ d.canLay0 = true ∧ d.depth ≤ n
  | n, .non, _ => ⟨_, by rw [toD], by rw [PyData.canLay0], by rw [PyData.depth]; omega⟩
  | n, .bl b, _ => ⟨_, by rw [toD], by rw [PyData.canLay0], by rw [PyData.depth]; omega⟩
  | n, .int i, _ => ⟨_, by rw [toD], by rw [PyData.canLay0], by rw [PyData.depth]; omega⟩
  | n, .str s, h => ⟨_, by rw [toD], by unfold lv at h; exact h, by rw [PyData.depth]; omega⟩
  | 0, .tup xs, h => by unfold lv at h; cases h
  | 0, .lst xs, h => by unfold lv at h; cases h
  | n + 1, .tup xs, h => by
    unfold lv at h
    obtain ⟨ds, e, c, dd⟩ := lvs_ok n xs h
    exact ⟨.tuple ds, by rw [toD, e]; rfl, by rw [PyData.canLay0]; exact c, by rw [PyData.depth]; omega⟩
  | n + 1, .lst xs, h => by
    unfold lv at h
    obtain ⟨ds, e, c, dd⟩ := lvs_ok n xs h
    exact ⟨.list ds, by rw [toD, e]; rfl, by rw [PyData.canLay0]; exact c, by rw [PyData.depth]; omega⟩
  | 0, .dct _ _, h => by unfold lv at h; cases h
  | 0, .ref _, h => by unfold lv at h; cases h
  | n + 1, .dct _ _, h => by unfold lv at h; cases h
  | n + 1, .ref _, h => by unfold lv at h; cases h
theorem lvs_ok : ∀ (n : Nat) (xs : List PV), xs.all (lv n) = true → ∃ ds, toDs xs = some ds ∧ PyData.canLayAll0 ds = true ∧ PyData.depthAll ds ≤ n
  | n, [], _ => ⟨[], rfl, rfl, by rw [PyData.depthAll]; omega⟩
  | n, x :: r, h => by
    rw [List.all_cons, Bool.and_eq_true] at h
    obtain ⟨d, e1, c1, d1⟩ := lv_ok n x h.1
    obtain ⟨ds, e2, c2, d2⟩ := lvs_ok n r h.2
    exact ⟨d :: ds, by rw [toDs, e1, e2], by rw [PyData.canLayAll0, c1, c2]; rfl, by rw [PyData.depthAll]; omega⟩
end
theorem lv_shaped {n : Nat} {x : PV} (h : lv n x = true) (hn : n ≤ 64) : ∃ d, toD x = some d ∧ SeqAt.shaped d = true ∧ PyData.eqv d d = true := by
  obtain ⟨d, e, c, dd⟩ := lv_ok n x h
  exact ⟨d, e, by unfold SeqAt.shaped; rw [c, decide_eq_true (by omega)]; rfl, SeqAt.eqv_refl d c⟩
theorem sEq_self (x : PV) : sEq x x = some true ∨ sEq x x = none := by
  cases x <;> simp [sEq]
/-- what is equal to itself -/
theorem oNe_self {n : Nat} {x : PV} (h : Hh) (hx : lv n x = true) (hn : n ≤ 64 := by decide) : oNe x x h = .ok (.bl false) h := by
  obtain ⟨d, e, s, rf⟩ := lv_shaped hx hn
  unfold oNe oEqG
  rcases sEq_self x with q | q
  · rw [q]; rfl
  · rw [q]
    simp only [e, s, Bool.and_self, if_true, rf, Bool.not_true]
theorem oEq_self {n : Nat} {x : PV} (h : Hh) (hx : lv n x = true) (hn : n ≤ 64 := by decide) : oEq x x h = .ok (.bl true) h := by
  obtain ⟨d, e, s, rf⟩ := lv_shaped hx hn
  unfold oEq oEqG
  rcases sEq_self x with q | q
  · rw [q]; rfl
  · rw [q]
    simp only [e, s, Bool.and_self, if_true, rf, Bool.false_eq_true, if_false]
theorem inP_ints (i : Int) : ∀ ns : List Int, inP (.int i) (ns.map PV.int) = ns.contains i
  | [] => rfl
  | n :: r => by
    have ih := inP_ints i r
    unfold inP at ih ⊢
    rw [List.map_cons, List.any_cons, ih, List.contains_cons]
    simp only [eqP]
    congr 1
    exact Bool.beq_comm
theorem flat_ints : ∀ ns : List Int, (ns.map PV.int).all flatP = true
  | [] => rfl
  | n :: r => by rw [List.map_cons, List.all_cons, flat_ints r]; rfl
theorem atI_nat' {α : Type} {xs : List α} {j : Nat} (h : j < xs.length) : L2.atI xs (j : Int) = some xs[j] := L2.atI_nat (List.getElem?_eq_getElem h)

/-! ### the words, applied -/
section
variable (m n : ME) (t u : MT) (ma : MA) (a b : MS) (env : En) (h : Hh) (x y : PV) (i : Nat) (f : PV → PV → Hh → Res PV) (f1 : PV → Hh → Res PV) (fc : List PV → Hh → Res PV) (fn : List PV → Hh → Res (List PV)) (g : MG) (gs : MGs)
@[simp] theorem aSeq : mSeq a b env h = (match a env h with | .nx env h => b env h | r => r) := id rfl
@[simp] theorem aSkip : mSkip env h = .nx env h := id rfl
@[simp] theorem aSet : mSet i m env h = ofE (m env h) env fun x h => .nx (env.set i (.v x)) h := id rfl
@[simp] theorem aSetN : mSetN i ma env h = ofE (ma env h) env fun xs h => .nx (env.set i (.own (.lst xs))) h := id rfl
@[simp] theorem aOp : mOp f m n env h = (m env h).bind fun x h => (n env h).bind fun y h => f x y h := id rfl
@[simp] theorem aUn : mUn f1 m env h = (m env h).bind fun x h => f1 x h := id rfl
@[simp] theorem aVar : mVar i env h = (match env[i]? with | some (.v x) => .ok x h | _ => .no) := id rfl
@[simp] theorem aOwn : mOwn i env h = (match env[i]? with | some (.v x) => .ok x h | some (.own (.lst xs)) => .ok (.lst xs) h | some (.own (.dct ks vs)) => .ok (.dct ks vs) h | _ => .no) := id rfl
@[simp] theorem aC : mC x env h = .ok x h := id rfl
@[simp] theorem aCall : mCall fc ma env h = (ma env h).bind fun xs h => fc xs h := id rfl
@[simp] theorem aCallN : mCallN fn ma env h = (ma env h).bind fun xs h => fn xs h := id rfl
@[simp] theorem aNil : mNil env h = .ok [] h := id rfl
@[simp] theorem aCons : mCons m ma env h = (m env h).bind fun x h => (ma env h).bind fun xs h => .ok (x :: xs) h := id rfl
@[simp] theorem aRet : mRet m env h = ofE (m env h) env fun x h => .rt x h := id rfl
@[simp] theorem aRetN : mRetN env h = .rt .non h := id rfl
@[simp] theorem aRetOwn : mRetOwn i env h = (match env[i]? with | some (.own (.lst xs)) => .rt (.lst xs) h | some (.v x) => .rt x h | _ => .no) := id rfl
@[simp] theorem aIfS : mIfS t a b env h = ofE (t env h) env fun c h => if c = true then a env h else b env h := id rfl
@[simp] theorem aToT : toT m env h = (m env h).bind fun x h => (match x with | .bl b => .ok b h | _ => .no) := id rfl
@[simp] theorem aToTru : toTru m env h = (m env h).bind fun x h => (match truP x with | some b => .ok b h | none => .no) := id rfl
@[simp] theorem aNotT : mNotT t env h = (t env h).bind fun b h => .ok (!b) h := id rfl
@[simp] theorem aAndT : mAndT t u env h = (t env h).bind fun b h => if b = true then u env h else .ok false h := id rfl
@[simp] theorem aOrT : mOrT t u env h = (t env h).bind fun b h => if b = true then .ok true h else u env h := id rfl
@[simp] theorem aAndV : mAndV m n env h = (m env h).bind fun x h => (match x with | .bl true => n env h | .bl false => .ok (.bl false) h | _ => .no) := id rfl
@[simp] theorem aOrV : mOrV m n env h = (m env h).bind fun x h => (match x with | .bl true => .ok (.bl true) h | .bl false => n env h | _ => .no) := id rfl
@[simp] theorem aNotV : mNotV m env h = (m env h).bind fun x h => (match x with | .bl b => .ok (.bl (!b)) h | _ => .no) := id rfl
@[simp] theorem aIf : mIf t m n env h = (t env h).bind fun b h => if b = true then m env h else n env h := id rfl
@[simp] theorem aTup : mTup ma env h = (ma env h).bind fun xs h => if xs.length ≤ 16777216 then .ok (.tup xs) h else .no := id rfl
@[simp] theorem aSzc : szc ma env h = (ma env h).bind fun xs h => if xs.length ≤ 16777216 then .ok xs h else .no := id rfl
@[simp] theorem aFz : mFz ma env h = (ma env h).bind fun xs h => .ok (.lst xs) h := id rfl
@[simp] theorem aOn : mOn env h = .ok none h := id rfl
@[simp] theorem aOs : mOs m env h = (m env h).bind fun x h => (match x with | .int i => .ok (some i) h | _ => .no) := id rfl
@[simp] theorem aSl (lo hi : MO) : mSl m lo hi env h = (m env h).bind fun x h => (lo env h).bind fun l h => (hi env h).bind fun u h => oSl x l u h := id rfl
@[simp] theorem aFor : mFor ma g b env h = ofE (ma env h) env fun xs h => forL g b xs env h := id rfl
@[simp] theorem aR1 : itR1 ma env h = (ma env h).bind fun xs h => (match xs with | [.int j] => if rngOk j = true then .ok (rngList 0 j.toNat) h else .no | _ => .no) := id rfl
@[simp] theorem aR2 : itR2 ma env h = (ma env h).bind fun xs h => (match xs with | [.int i, .int j] => if (rngOk i && rngOk j) = true then .ok (rngList i (j - i).toNat) h else .no | _ => .no) := id rfl
@[simp] theorem aItE : itE ma env h = (ma env h).bind fun xs h => (match xs with | [.lst ys] => .ok (enumL ys) h | [.tup ys] => .ok (enumL ys) h | _ => .no) := id rfl
@[simp] theorem aItS : itS m env h = (m env h).bind fun x h => (match x with | .lst xs => .ok xs h | .tup xs => .ok xs h | _ => .no) := id rfl
@[simp] theorem aItL : itL m env h = (m env h).bind fun x h => (match x with | .lst xs => .ok xs h | _ => .no) := id rfl
@[simp] theorem aLc (vs : List Nat) : mLc ma vs g t m env h = (ma env h).bind fun xs h => if xs.length ≤ 16777216 then lcL g t m (wipeE env vs) xs h else .no := id rfl
@[simp] theorem aYes : mYes env h = .ok true h := id rfl
@[simp] theorem aApp : mApp i m env h = (match env[i]? with | some (.own (.lst xs)) => ofE (m env h) env fun x h => if xs.length < 16777216 then .nx (env.set i (.own (.lst (xs ++ [x])))) h else .no | _ => .no) := id rfl
@[simp] theorem aDrop : mDrop m env h = ofE (m env h) env fun _ h => .nx env h := id rfl
@[simp] theorem aAsg : mAsg m g env h = ofE (m env h) env fun x h => (match g x env with | some env => .nx env h | none => .no) := id rfl
@[simp] theorem aBreak : mBreak env h = .bk env h := id rfl
@[simp] theorem aCont : mCont env h = .ct env h := id rfl
@[simp] theorem aGN : gN i x env = some (env.set i (.v x)) := id rfl
@[simp] theorem aGTu (k : Nat) (xs : List PV) : gTu k gs (.tup xs) env = if xs.length = k then gs xs env else none := id rfl
@[simp] theorem aGCs (xs : List PV) : gCs g gs (x :: xs) env = (g x env).bind fun env => gs xs env := id rfl
@[simp] theorem aGNl : gNl [] env = some env := id rfl
@[simp] theorem aW0 : wipeE env [] = env := id rfl
@[simp] theorem aW1 (vs : List Nat) : wipeE env (i :: vs) = (wipeE env vs).set i .un := id rfl
@[simp] theorem lenI (xs : List PV) : fLen [.lst xs] h = .ok (.int xs.length) h := id rfl
@[simp] theorem lenT (xs : List PV) : fLen [.tup xs] h = .ok (.int xs.length) h := id rfl
@[simp] theorem intI (j : Int) : fInt [.int j] h = .ok (.int j) h := id rfl
@[simp] theorem intB (b : Bool) : fInt [.bl b] h = .ok (.int (if b then 1 else 0)) h := id rfl
@[simp] theorem tupL (xs : List PV) : fTuple [.lst xs] h = .ok (.tup xs) h := id rfl
@[simp] theorem tupT (xs : List PV) : fTuple [.tup xs] h = .ok (.tup xs) h := id rfl
@[simp] theorem listL (xs : List PV) : fList [.lst xs] h = .ok xs h := id rfl
@[simp] theorem listT (xs : List PV) : fList [.tup xs] h = .ok xs h := id rfl
@[simp] theorem addI (i j : Int) : oAdd (.int i) (.int j) h = .ok (.int (i + j)) h := id rfl
@[simp] theorem subI (i j : Int) : oSub (.int i) (.int j) h = .ok (.int (i - j)) h := id rfl
@[simp] theorem ltI (i j : Int) : oLt (.int i) (.int j) h = .ok (.bl (decide (i < j))) h := id rfl
@[simp] theorem leI (i j : Int) : oLe (.int i) (.int j) h = .ok (.bl (decide (i ≤ j))) h := id rfl
@[simp] theorem gtI (i j : Int) : oGt (.int i) (.int j) h = .ok (.bl (decide (j < i))) h := id rfl
@[simp] theorem geI (i j : Int) : oGe (.int i) (.int j) h = .ok (.bl (decide (j ≤ i))) h := id rfl
@[simp] theorem eqI (i j : Int) : oEq (.int i) (.int j) h = .ok (.bl (decide (i = j))) h := id rfl
@[simp] theorem neI (i j : Int) : oNe (.int i) (.int j) h = .ok (.bl (!decide (i = j))) h := id rfl
@[simp] theorem oIs_non : oIs x .non h = .ok (.bl (isNon x)) h := id rfl
@[simp] theorem oIsNot_non : oIsNot x .non h = .ok (.bl (!isNon x)) h := id rfl
@[simp] theorem isNon1 : isNon .non = true := id rfl
@[simp] theorem isNon2 (j : Int) : isNon (.int j) = false := id rfl
@[simp] theorem isNon3 (xs : List PV) : isNon (.tup xs) = false := id rfl
@[simp] theorem isNon4 (xs : List PV) : isNon (.lst xs) = false := id rfl
@[simp] theorem truB (b : Bool) : truP (.bl b) = some b := id rfl
@[simp] theorem truI (j : Int) : truP (.int j) = some (j != 0) := id rfl
@[simp] theorem truL (xs : List PV) : truP (.lst xs) = some (!xs.isEmpty) := id rfl
@[simp] theorem truT (xs : List PV) : truP (.tup xs) = some (!xs.isEmpty) := id rfl
@[simp] theorem max2I (i j : Int) : fMax2 [.int i, .int j] h = .ok (.int (if j > i then j else i)) h := id rfl
@[simp] theorem min2I (i j : Int) : fMin2 [.int i, .int j] h = .ok (.int (if j < i then j else i)) h := id rfl
@[simp] theorem absI (i : Int) : fAbs [.int i] h = .ok (.int (if i < 0 then -i else i)) h := id rfl
end
theorem mulI {i j : Int} (h : Hh) (c : mulOk i j = true) : oMul (.int i) (.int j) h = .ok (.int (i * j)) h := by simp [oMul, oI, c]
theorem mulOk_r {i j : Int} (c : j.natAbs < 2 ^ 64) : mulOk i j = true := by unfold mulOk; rw [decide_eq_true c]; simp
theorem mulOk_l {i j : Int} (c : i.natAbs < 2 ^ 64) : mulOk i j = true := by unfold mulOk; rw [decide_eq_true c]; simp
theorem modI {i j : Int} (h : Hh) (c : 0 < j) : oMod (.int i) (.int j) h = .ok (.int (i % j)) h := by simp [oMod, oI, c]
theorem divI {i j : Int} (h : Hh) (c : divOk j = true) : oDiv (.int i) (.int j) h = .ok (.int (i / j)) h := by simp [oDiv, oI, c]
theorem divOk_of {j : Int} (h : 0 < j) (h2 : j < 2 ^ 62) : divOk j = true := by
  unfold divOk
  have : j.natAbs.log2 < 9000 := by
    have h3 : j.natAbs < 2 ^ 62 := by omega
    have h4 : j.natAbs ≠ 0 := by omega
    have := (Nat.log2_lt h4).mpr h3
    omega
  rw [decide_eq_true h, decide_eq_true this]; rfl
theorem ixL {xs : List PV} {i : Int} {x : PV} (h : Hh) (e : L2.atI xs i = some x) : oIx (.lst xs) (.int i) h = .ok x h := by simp [oIx, e]
theorem ixT {xs : List PV} {i : Int} {x : PV} (h : Hh) (e : L2.atI xs i = some x) : oIx (.tup xs) (.int i) h = .ok x h := by simp [oIx, e]
theorem rngOk_of {i : Int} (h : -(2 ^ 62) ≤ i) (h2 : i < 2 ^ 62) : rngOk i = true := by unfold rngOk; rw [decide_eq_true h, decide_eq_true h2]; rfl
theorem rng_nat (n : Nat) : rngList 0 n = (List.range n).map fun (i : Nat) => PV.int (i : Int) := by
  unfold rngList
  simp
end Mir

set_option Elab.async false
set_option linter.all false
set_option maxRecDepth 100000
set_option maxHeartbeats 4000000
namespace Mir
open PySem PySem.Spec PyProof.Rows L2

/-! ### what is never reached -/
def mNever : MS := fun _ _ => .no
def mNeverE : ME := fun _ _ => .no
theorem ss_never {F : Fam} {st : Stmt} : SS F st mNever := ⟨fun _ _ _ _ => False, fun i => ⟨fun _ _ _ _ _ _ h => h.elim⟩, fun W w0 w env h σ D rl po => po⟩
theorem se_never {F : Fam} {e : Expr} : SE F e mNeverE := ⟨fun _ _ _ _ => False, fun i => ⟨fun _ _ _ _ _ _ h => h.elim⟩, fun W w0 w env h σ Q rl po => po⟩

/-! ### tuple * int, where nothing is laid anew or the new one is empty -/
/-- the tuple's object -/
abbrev tupObj (dd : Option Addr) (items : Array Value) (n : Nat) (sl : Array (Option Value)) : Obj := ⟨.type "tuple", dd, .seq items n, sl⟩
theorem small_index {x : Int} (h : x.natAbs ≤ 1000000) : ¬ (decide (x < -(2 ^ 63)) || decide (x ≥ 2 ^ 63)) = true := by
  simp only [Bool.or_eq_true, decide_eq_true_eq, not_or]
  omega
/-- itself: an empty tuple, or once -/
theorem mulSelf {l : Addr} {items : Array Value} {n : Nat} {dd : Option Addr} {sl : Array (Option Value)} {x : Int} {u : Tok} (fit : x.natAbs ≤ 1000000) (self : (items.isEmpty || x == 1) = true) :
    Meets (Builtin.«tuple.__mul__» ⟨[.ref l, .int x u], []⟩) fun _ post s => s.heap.get? l = some (tupObj dd items n sl) ∧ post (.ok (.ret (Value.ref l))) s := by
  refine .of_wp ?_
  rintro prog w A post ⟨m, gl, dp, tk, ou⟩ ⟨at_l, fin⟩
  have idx := AutoSeq1.idx_int
  have fit1 := small_index fit
  wp_walk using AutoSeq1.wpAny_loadPart' at_l
  repeat' first
    | exact ⟨_, rfl, fin⟩
    | (refine wpAny_ite_false (by simpa using fit1) ?_; wp_walk using AutoSeq1.wpAny_loadPart' at_l)
    | (refine wpAny_ite_true (by simpa using self) ?_; wp_walk using AutoSeq1.wpAny_loadPart' at_l)
/-- none of it -/
theorem mulNone {l : Addr} {items : Array Value} {n : Nat} {dd : Option Addr} {sl : Array (Option Value)} {x : Int} {u : Tok} (fit : x.natAbs ≤ 1000000) (full : items.isEmpty = false) (none_ : x ≤ 0) :
    Meets (Builtin.«tuple.__mul__» ⟨[.ref l, .int x u], []⟩) fun _ post s => s.heap.get? l = some (tupObj dd items n sl) ∧
      post (.ok (.ret (Value.ref s.heap.objs.size))) { s with heap := s.heap.push ⟨.type "tuple", none, .seq #[], #[]⟩ } := by
  refine .of_wp ?_
  rintro prog w A post ⟨m, gl, dp, tk, ou⟩ ⟨at_l, fin⟩
  have idx := AutoSeq1.idx_int
  have fit1 := small_index fit
  have once : ¬ (items.isEmpty || x == 1) = true := by
    rw [full, Bool.false_or, beq_iff_eq]
    omega
  have zero : (decide (x ≤ 0) || items.isEmpty) = true := by simp [none_]
  wp_walk using AutoSeq1.wpAny_loadPart' at_l
  repeat' first
    | exact ⟨_, rfl, fin⟩
    | (refine wpAny_ite_false (by simpa using fit1) ?_; wp_walk using AutoSeq1.wpAny_loadPart' at_l)
    | (refine wpAny_ite_false (by simpa using once) ?_; wp_walk using AutoSeq1.wpAny_loadPart' at_l)
    | (refine wpAny_ite_true (by simpa using zero) ?_; wp_walk using AutoSeq1.wpAny_loadPart' at_l)
def rRep1 (K : PySem.W.Frag) : R2 := fun x y H Q => ∃ l k xs, x = .ref l ∧ y = .int k ∧ SqT K H l xs ∧ (xs = [] ∨ k = 1) ∧ k.natAbs ≤ 1000000 ∧ Q (.ref l) H
def rRep0 (K : PySem.W.Frag) : R2 := fun x y H Q => ∃ l k xs, x = .ref l ∧ y = .int k ∧ SqT K H l xs ∧ xs ≠ [] ∧ k ≤ 0 ∧ k.natAbs ≤ 1000000 ∧ ∀ p, H p = none → Q (.ref p) (upd H p (.tup []))
section
variable {X : Cx}
/-- `t * k` is what tuple.__mul__ leaves -/
theorem mul_by {s : Shared} {l : Addr} {dd : Option Addr} {items : Array Value} {n : Nat} {sl : Array (Option Value)} {k : Int} {t : Tok} {E Q : Value → Shared → Prop} (at_l : s.heap.get? l = some (tupObj dd items n sl))
    (run : wpAny (model X.prog X.w) X.A (call (.builtin "tuple.__mul__") [.ref l, .int k t]) Q E s) : wpAny (model X.prog X.w) X.A (binaryOp .Mult (.ref l) (.int k t)) Q E s := by
  have isT : s.TypeIs (.ref l) "tuple" := ⟨_, at_l, rfl⟩
  have isI : ∀ s' : Shared, s'.TypeIs (.int k t) "int" := fun s' => typeIs_int s' k t
  have rmul := int_rmul_tuple k t l items n dd sl
  exact wpAny_binaryOp_repeat_ref (by decide) isT isI noFill_tuple_mul F.fills_int_mul F.slot_int_rmul repeat_tuple F.slot_int_index.lookup
    (call_meets F.slot_int_rmul (isI s) F.entry_int_rmul (F.args_int_rmul_2 _ _) rmul ⟨at_l, rfl, isT, run⟩)
theorem op_rep1 : OpR X (binaryOp .Mult) (rRep1 X.K) := by
  rintro pins s σ H _ _ v u Q I rx ry ⟨l, k, xs, rfl, rfl, sq, self, fit, q⟩
  obtain ⟨t, rfl⟩ := ry
  cases rx
  obtain ⟨its, rv, ⟨ob, at_l, isT, n, dat⟩, _⟩ := I.tuple sq
  cases ob
  cases isT
  cases dat
  refine mul_by at_l (call_meets F.slot_tuple_mul ⟨_, at_l, rfl⟩ F.entry_tuple_mul (F.args_tuple_mul_2 _ _) (mulSelf fit ?_) ⟨at_l, .ref l, H, I, rfl, q⟩)
  rcases self with rfl | rfl
  · cases rv
    rfl
  · rw [beq_self_eq_true, Bool.or_true]
theorem op_rep0 : OpR X (binaryOp .Mult) (rRep0 X.K) := by
  rintro pins s σ H _ _ v u Q I rx ry ⟨l, k, xs, rfl, rfl, sq, full, neg, fit, q⟩
  obtain ⟨t, rfl⟩ := ry
  cases rx
  obtain ⟨its, rv, ⟨ob, at_l, isT, n, dat⟩, _⟩ := I.tuple sq
  cases ob
  cases isT
  cases dat
  have full1 : its.toArray.isEmpty = false := by
    cases rv with
    | nil => exact absurd rfl full
    | cons _ _ => rfl
  have new : ObjOk X.prog X.w (upd H s.heap.objs.size (.tup [])) (s.heap.push ⟨.type "tuple", none, .seq #[], #[]⟩) s.heap.objs.size (.tup []) :=
    ⟨Nat.zero_le _, [], .nil, IsTup.new _ _⟩
  have I2 := I.laid (t' := s.toks) (o := .tup []) (fun b ob z => Heap.get?_push_of_some _ z) (Nat.le_refl _) new
  exact mul_by at_l (call_meets F.slot_tuple_mul ⟨_, at_l, rfl⟩ F.entry_tuple_mul (F.args_tuple_mul_2 _ _) (mulNone fit full1 neg)
    ⟨at_l, .ref s.heap.objs.size, _, I2, rfl, q _ (I.hok.fresh (Nat.le_refl _))⟩)
end
def repOk (xs : List PV) (k : Int) : Bool := decide (k.natAbs ≤ 1000000) && (decide (k ≤ 1) || xs.isEmpty || (decide (k ≤ 1000) && decide (xs.length ≤ 1000)))
def repP (xs : List PV) (k : Int) : List PV := (List.replicate k.toNat xs).flatten
def oMulA : PV → PV → Hh → Res PV := fun x y h => match x, y with
  | .tup xs, .int k => if repOk xs k = true then .ok (.tup (repP xs k)) h else .no
  | x, y => oMul x y h
theorem PRs.flat {K : PySem.W.Frag} {Φ : Hp} {ad : List Addr} {xs : List PV} {vs : List V} (r : PRs K Φ ad xs vs) : ∀ n : Nat, PRs K Φ ad (List.replicate n xs).flatten (List.replicate n vs).flatten
  | 0 => .nil
  | n + 1 => by
    rw [List.replicate_succ, List.replicate_succ, List.flatten_cons, List.flatten_cons]
    exact r.append (PRs.flat r n)
def rMulA (K : PySem.W.Frag) : R2 := fun x y H Q => rI CMulA (fun i j => .int (i * j)) x y H Q ∨ (rRepT K x y H Q ∨ (rRep1 K x y H Q ∨ rRep0 K x y H Q))
theorem flat_nil {α : Type} : ∀ n : Nat, (List.replicate n ([] : List α)).flatten = []
  | 0 => rfl
  | n + 1 => by rw [List.replicate_succ, List.flatten_cons, flat_nil n]; rfl
theorem sim_mulA {S : Sx} : Sim2 S (rMulA S.K) oMulA := by
  intro W σ w h x y v u Q d px py po
  unfold oMulA at po
  split at po
  · rename_i xs k
    split at po
    · rename_i hc
      obtain ⟨a, vs, rfl, ha, ra⟩ := px.ofTup d
      unfold repOk at hc
      simp only [Bool.and_eq_true, Bool.or_eq_true, decide_eq_true_eq, List.isEmpty_iff] at hc
      obtain ⟨hk, hc⟩ := hc
      by_cases he : xs = []
      · have hv : vs = [] := ra.nil_iff.mpr he
        refine .inr (.inr (.inl ⟨a, k, vs, rfl, py.ofInt, ha, .inl hv, hk, po.fin d ?_⟩))
        have e : repP xs k = xs := by unfold repP; rw [he, flat_nil]
        rw [e]
        rcases px with ⟨z⟩
        exact z
      · have hv : vs ≠ [] := fun z => he (ra.nil_iff.mp z)
        by_cases h0 : k ≤ 0
        · refine .inr (.inr (.inr ⟨a, k, vs, rfl, py.ofInt, ha, hv, h0, hk, fun p np => ?_⟩))
          have e : repP xs k = [] := by unfold repP; rw [Int.toNat_of_nonpos h0]; rfl
          rw [e] at po
          exact po (w.lock p (.tup [])) (.ref p) (Step.lock d np) (d.lock np) (.tup (.inl (.inl upd_same)) .nil)
        · by_cases h1 : k = 1
          · refine .inr (.inr (.inl ⟨a, k, vs, rfl, py.ofInt, ha, .inr h1, hk, po.fin d ?_⟩))
            have e : repP xs k = xs := by unfold repP; rw [h1]; simp
            rw [e]
            rcases px with ⟨z⟩
            exact z
          · have hz : k ≤ 1000 ∧ xs.length ≤ 1000 := by
              rcases hc with (hc | hc) | hc
              · omega
              · exact absurd hc he
              · exact hc
            refine .inr (.inl ⟨a, k, vs, rfl, py.ofInt, ha, hv, by omega, hz.1, by rw [← ra.length]; exact hz.2, fun p np => ?_⟩)
            exact po (w.lock p (.tup (List.replicate k.toNat vs).flatten)) (.ref p) (Step.lock d np) (d.lock np) (.tup (.inl (.inl upd_same)) (((Step.lock d np).prs ra).flat _))
    · exact po.elim
  · exact .inl (sim_I (S := S) (C := CMulA) (fun _ _ h => h) (fun _ _ _ => .int _) W σ w h x y v u Q d px py po)
theorem se_mulA {F : Fam} {ea eb : Expr} {pos : Pos} {ma mb : ME} (ha : SB F ea ma) (hb : SB F eb mb) : SE F (.BinOp ea .Mult eb pos) (mOp oMulA ma mb) :=
  se_op sim_mulA (fun i => (op_mulA (X := F.X i)).or (op_repT.or (op_rep1.or op_rep0))) ha hb

/-! ### isinstance of plain data -/
inductive Kd where
  | non | bool | int | str | tuple | list | dict
  deriving DecidableEq
def Kd.nm : Kd → String
  | .non => "NoneType" | .bool => "bool" | .int => "int" | .str => "str" | .tuple => "tuple" | .list => "list" | .dict => "dict"
def kdP : PV → Option Kd
  | .non => some .non | .bl _ => some .bool | .int _ => some .int | .str _ => some .str | .tup _ => some .tuple | .lst _ => some .list | .dct _ _ => some .dict | .ref _ => none
def isKd : Kd → Kd → Bool
  | .bool, .int => true
  | .non, .non => true | .bool, .bool => true | .int, .int => true | .str, .str => true | .tuple, .tuple => true | .list, .list => true | .dict, .dict => true
  | _, _ => false
theorem isKd_ok : ∀ a b : Kd, kitB a.nm b.nm = some (isKd a b) := by
  intro a b
  cases a <;> cases b <;> decide +kernel
theorem tyx_lst {K : PySem.W.Frag} {H : Hp} {a : Addr} {xs : List V} (h : SqL K H a xs) : TyX K H (.ref a) (.type "list") := by
  rcases h with (h | ⟨o, h⟩) | ⟨o, its, n, h1, h2, _⟩
  · exact .base (.lst h)
  · exact .base (.frz h)
  · exact .kList h1 h2
theorem tyx_tup {K : PySem.W.Frag} {H : Hp} {a : Addr} {xs : List V} (h : SqT K H a xs) : TyX K H (.ref a) (.type "tuple") := by
  rcases h with (h | ⟨o, h⟩) | ⟨o, its, n, h1, h2, _⟩
  · exact .base (.tup h)
  · exact .fTuple h
  · exact .kTuple h1 h2
theorem tyx_dct {K : PySem.W.Frag} {H : Hp} {a : Addr} {kvs : List (Key × V)} (h : Rd H a (.dK kvs)) : TyX K H (.ref a) (.type "dict") := by
  rcases h with h | ⟨o, h⟩
  · exact .base (.dK h)
  · exact .fDict h
theorem kd_tyx {S : Sx} {w : Wd} {h : Hh} {x : PV} {v : V} {k : Kd} (d : Hd S w h) (p : PB S w x v) (e : kdP x = some k) : TyX S.K w.H v (.type k.nm) := by
  cases x with
  | non => cases e; rw [p.ofNon]; exact .base .non
  | bl b => cases e; rw [p.ofBl]; exact .base (.bl b)
  | int i => cases e; rw [p.ofInt]; exact .base (.int i)
  | str s => cases e; rw [p.ofStr]; exact .base (.str s)
  | tup xs => cases e; obtain ⟨a, vs, rfl, ha, _⟩ := p.ofTup d; exact tyx_tup ha
  | lst xs => cases e; obtain ⟨a, vs, rfl, ha, _⟩ := p.ofLst d; exact tyx_lst ha
  | dct ks xs => cases e; obtain ⟨a, vs, rfl, _, ha, _⟩ := p.ofDct d; exact tyx_dct ha
  | ref n => cases e
def mIsi (k : Kd) (m : ME) : ME := fun env h => (m env h).bind fun x h => match kdP x with
  | some a => .ok (.bl (isKd a k)) h
  | none => .no
section
variable {F : Fam} {e ea eb ec : Expr} {es rest : List Expr} {pos p p2 p3 : Pos} {m ma mb : ME} {mt : MT} {mr : MA}
theorem se_isi (k : Kd) {x : Str} (hm : F.mg "isinstance" = none) (hm2 : F.mg x = none) (ha : SB F e m) (hv : bootBuiltins x = some (.type k.nm) := by decide +kernel) (hg : ∀ i, Gl (F.X i) "isinstance" := by intro _; rfl) (hg2 : ∀ i, Gl (F.X i) x := by intro _; rfl)
    (hn : x ≠ "__name__" := by decide) (hdb : (x == ("__debug__" : Str)) = false := by decide)
    (he : ∀ i, starEach [e, .Name x p2] (F.X i).env = (false, eval e (F.X i).env) :: starEach [.Name x p2] (F.X i).env := by intro _; rfl) (he2 : ∀ i, starEach [.Name x p2] (F.X i).env = (false, eval (.Name x p2) (F.X i).env) :: starEach [] (F.X i).env := by intro _; rfl) (hpl : ∀ i, (backTo pos (starEach [.Name x p2] (F.X i).env)).any (·.1) = false := by intro _; rfl) :
    SE F (.Call (.Name "isinstance" p) [e, .Name x p2] [] pos) (mIsi k m) := by
  obtain ⟨t, pa, q⟩ := ha
  refine ⟨fun W => tCB (rIsi F.K) (tCons (t W) (tCons (tC (.ty k.nm)) tNil)), fun i => pe_callB (X := F.X i) call_isi (hg i) hm (by decide +kernel) (pa_cons (pa i) (pa_cons (pe_bltn (hg2 i) hm2 hv rfl hn hdb) pa_nil (he2 i)) (he i)) (by decide) (by decide) (he i) (hpl i), fun W w0 w env h σ Q rl po => ?_⟩
  refine q W w0 w env h σ _ rl (PostE.bind po fun x h1 w1 v s1 d1 p1 po1 => ?_)
  split at po1
  · rename_i a ek
    exact ⟨v, .ty k.nm, _, _, _, rfl, .ty _, kd_tyx d1 p1 ek, kit_ty (isKd_ok a k), po1.fin d1 (.bl _)⟩
  · exact po1.elim

/-! ### x.bit_length(), isqrt(x) -/
def bitsP (i : Int) : Int := (Builtin.Int.intBits i : Nat)
def oBits : PV → Hh → Res PV := fun x h => match x with
  | .int i => .ok (.int (bitsP i)) h
  | _ => .no
theorem se_bits {apos : Pos} (ha : SB F e m) (hbase : ∀ i, attributeBase e "bit_length" (F.X i).env (eval e (F.X i).env) = eval e (F.X i).env := by intro _; rfl) (hline : (apos.endLine == pos.line) = true := by rfl) : SE F (.Call (.Attribute e "bit_length" apos) [] [] pos) (mUn oBits m) := by
  obtain ⟨t, pa, q⟩ := ha
  refine ⟨fun W => tBits (t W), fun i => pe_bits (X := F.X i) (pa i) (hbase i) hline, fun W w0 w env h σ Q rl po => q W w0 w env h σ _ rl (PostE.bind po fun x h1 w1 v s1 d1 p1 po1 => ?_)⟩
  unfold oBits at po1
  split at po1
  · exact ⟨_, p1.ofInt, po1.fin d1 (.int _)⟩
  · exact po1.elim
def isqrtP (i : Int) : Int := (Float64.isqrt i.toNat : Nat)
def fIsqrt : List PV → Hh → Res PV := fun xs h => match xs with
  | [.int i] => if (decide (0 ≤ i) && decide (i.toNat.log2 < 10000)) = true then .ok (.int (isqrtP i)) h else .no
  | _ => .no
theorem call_isqrt {X : Cx} : CallR X (.builtin "math.isqrt") fun xs H Q => ∃ i : Int, xs = [.int i] ∧ 0 ≤ i ∧ i.toNat.log2 < 10000 ∧ Q (.int (isqrtP i)) H := by
  intro pins s σ H xs us Q I r h
  obtain ⟨i, rfl, h0, h1, q⟩ := h
  cases r with | cons r rr =>
  cases rr
  obtain ⟨t, rfl⟩ := r
  exact call_function_meets PySem.W.MGF.kind_isqrt PySem.W.MGF.plain_isqrt PySem.W.MGF.entry_isqrt (PySem.W.MGF.args_isqrt _) (PySem.W.mg_run_isqrt i t (by omega) (by omega) (by omega)).meets ⟨.int _, H, I.tok _, ⟨_, rfl⟩, q⟩
theorem se_isqrt {x : Str} (hm : F.mg x = some (.builtin "math.isqrt")) (ha : SAB F [e] mr) (hg : ∀ i, Gl (F.X i) x := by intro _; rfl) (hdb : (x == ("__debug__" : Str)) = false := by decide)
    (he : ∀ i, starEach [e] (F.X i).env = (false, eval e (F.X i).env) :: starEach [] (F.X i).env := by intro _; rfl) : SE F (.Call (.Name x p) [e] [] pos) (mCall fIsqrt mr) := by
  obtain ⟨t, pa, q⟩ := ha
  refine ⟨fun W => tCB _ (t W), fun i => StS.pe_callG (X := F.X i) call_isqrt (hg i) hm (pa i) hdb (he i), fun W => rd_call (fun W σ w h xs vs Q d px po => ?_) (q W)⟩
  unfold fIsqrt at po
  split at po
  · split at po
    · rename_i i hc
      simp only [Bool.and_eq_true, decide_eq_true_eq] at hc
      obtain ⟨v, rfl, p1⟩ := px.one
      rw [p1.ofInt]; exact ⟨_, rfl, hc.1, hc.2, po.fin d (.int _)⟩
    · exact po.elim
  · exact po.elim

/-! ### range(a, b, c) -/
def rng3Ok (i j c : Int) : Bool := decide (c ≠ 0) && decide (c.natAbs < 1073741824) && Builtin.Range.small i j c && decide (0 ≤ Builtin.Range.rangeSize i j c)
def rngC (i c : Int) (n : Nat) : List PV := (List.range n).map fun k => PV.int (i + (k : Nat) * c)
theorem rngC_get {lo c : Int} {n i : Nat} {x : PV} (h : (rngC lo c n)[i]? = some x) : x = .int (lo + (i : Nat) * c) := by
  unfold rngC at h
  rw [List.getElem?_map] at h
  obtain ⟨j, h1, h2⟩ := Option.map_eq_some_iff.mp h
  rw [List.getElem?_eq_some_iff] at h1
  obtain ⟨h3, h4⟩ := h1
  rw [List.getElem_range] at h4
  subst h4
  exact h2.symm
theorem rngC_len (lo c : Int) (n : Nat) : (rngC lo c n).length = n := by unfold rngC; simp
def itR3 (m : MA) : MA := fun env h => (m env h).bind fun xs h => match xs with
  | [.int i, .int j, .int c] => if rng3Ok i j c = true then .ok (rngC i c (Builtin.Range.rangeSize i j c).toNat) h else .no
  | _ => .no
theorem si_range3 {tg : Expr} {ma : MA} (hm : F.mg "range" = none) (a : SA F [ea, eb, ec] ma) (hg : ∀ i, Gl (F.X i) "range" := by intro _; rfl) (hs : ∀ i, starEach [ea, eb, ec] (F.X i).env = (false, eval ea (F.X i).env) :: starEach [eb, ec] (F.X i).env := by intro _; rfl)
    (hpl : ∀ i, (backTo pos (starEach [eb, ec] (F.X i).env)).any (·.1) = false := by intro _; rfl) : SI F tg (.Call (.Name "range" p) [ea, eb, ec] [] pos) (itR3 ma) := by
  obtain ⟨t, pa, q⟩ := a
  refine ⟨fun W => iRng3 (t W), fun i => pi_range3 (hg i) hm (pa i) (hs i) (hpl i), fun W w0 w env h σ R rl po => q W w0 w env h σ _ rl ?_⟩
  unfold itR3 at po
  cases em : ma env h with
  | no => rw [em] at po; exact po
  | er x h' => rw [em] at po; exact po
  | ok xs h' =>
    rw [em, Res.bind_ok] at po
    intro w' v s d r
    match xs, r, po with
    | [.int i, .int j, .int c], r, po =>
      simp only at po
      cases hc : rng3Ok i j c with
      | false => simp only [hc, Bool.false_eq_true, if_false] at po
      | true =>
        simp only [hc, if_true] at po
        unfold rng3Ok at hc
        simp only [Bool.and_eq_true, decide_eq_true_eq] at hc
        cases r with | cons r1 r2 =>
        cases r2 with | cons r2 r3 =>
        cases r3 with | cons r3 r4 =>
        cases r1; cases r2; cases r3
        cases r4
        exact ⟨i, j, c, _, rfl, ⟨hc.1.1.1, hc.1.1.2, hc.1.2, (Int.toNat_of_nonneg hc.2).symm⟩, po w' _ s d ⟨_, _, by rw [rngC_len]; exact walk_rangeC, fun _ _ => trivial, fun i w'' H' y u c e1 e2 => yok_fn e2 (by rw [rngC_get e1]; exact .int _)⟩⟩
    | [], _, po => exact po.elim
    | [_], _, po => simp at po
    | [_, _], _, po => simp at po
    | _ :: _ :: _ :: _ :: _, _, po => simp at po
/-! ### x += e -/
def mAug (i : Nat) (f : Int → Int → Int) (m : ME) : MS := fun env h => match env[i]? with
  | some (.v (.int a)) => ofE (m env h) env fun y h => match y with
    | .int b => .nx (env.set i (.v (.int (f a b)))) h
    | _ => .no
  | _ => .no
theorem rd_aug {S : Sx} {W : WX} {te : TE} (i : Nat) (f : Int → Int → Int) {m : ME} (q : RdG S (RBo S) W te m) : RdS S W (tAug i te (ipI f)) (mAug i f m) := by
  intro w0 w env h σ D rl po
  unfold mAug at po
  split at po
  · rename_i a e
    obtain ⟨v, e1, pr⟩ := rl.sl.slot i _ e
    cases pr
    refine ⟨_, e1, q w0 w env h σ _ rl (PostS.ofE rl po fun y h1 w1 u s d r p1 => ?_)⟩
    split at p1
    · exact ⟨a, _, rfl, r.ofInt, p1 w1 _ (Ext.refl w1) ((rl.step s d).set i (.int _))⟩
    · exact p1.elim
  · exact po.elim
section
variable {F : Fam} {e : Expr} {pos pos' : Pos} {m : ME}
theorem ss_augAdd (i : Nat) {x : Str} (ok : F.Ok) (a : SB F e m) (hi : F.N[i]? = some x := by rfl) (hx : ∀ j, Loc (F.env j).scope x := by first | exact fun _ => Or.inl rfl | exact fun _ => Or.inr rfl)
    (hf : ∀ j, (F.X j).fn x = true ∨ (F.X j).env.scope.names.lookup x = some .local := by first | exact fun _ => Or.inl rfl | exact fun _ => Or.inr rfl) : SS F (.AugAssign (.Name x pos') .Add e pos) (mAug i (fun a b => a + b) m) := by
  obtain ⟨t, p, q⟩ := a
  exact ⟨fun W => tAug i (t W) (ipI fun a b => a + b), fun j => ps_aug (X := F.X j) ok.nd hi (hx j) (p j) ip_add (hf j), fun W => rd_aug i _ (q W)⟩
theorem ss_augSub (i : Nat) {x : Str} (ok : F.Ok) (a : SB F e m) (hi : F.N[i]? = some x := by rfl) (hx : ∀ j, Loc (F.env j).scope x := by first | exact fun _ => Or.inl rfl | exact fun _ => Or.inr rfl)
    (hf : ∀ j, (F.X j).fn x = true ∨ (F.X j).env.scope.names.lookup x = some .local := by first | exact fun _ => Or.inl rfl | exact fun _ => Or.inr rfl) : SS F (.AugAssign (.Name x pos') .Sub e pos) (mAug i (fun a b => a - b) m) := by
  obtain ⟨t, p, q⟩ := a
  exact ⟨fun W => tAug i (t W) (ipI fun a b => a - b), fun j => ps_aug (X := F.X j) ok.nd hi (hx j) (p j) ip_sub (hf j), fun W => rd_aug i _ (q W)⟩
end
/-! ### calls with keywords -/
structure DefKB (P : Program) (w : World) (K : PySem.W.Frag) (mg : Str → Option Value) (base : Heap) (cA : Str → Option Addr) (k : Nat) (x : Str) (ps : List Str) (m : MF) (n : Nat) (ks : List Str) : Prop where
  ex : ∃ f fd, FnOk P w K mg base (L2.CX P w) k f fd ps (spM ⟨K, cA, 0, none⟩ m) ∧ mg x = some (.ref f) ∧ PySem.W.keepIn K (.ref f) = true ∧ KBn K fd ps n ks (fun us ws => us ++ ws) (fun vs zs => vs ++ zs)
theorem Vals.app : ∀ {vs : List V} {us : List Value} {zs : List V} {ws : List Value}, Vals vs us → Vals zs ws → Vals (vs ++ zs) (us ++ ws)
  | _, _, _, _, .nil, s => s
  | _, _, _, _, .cons r t, s => .cons r (Vals.app t s)
theorem DefAt.kb {P : Program} {w : World} {K : PySem.W.Frag} {mg : Str → Option Value} {base : Heap} {cA : Str → Option Addr} {k : Nat} {x : Str} {ps : List Str} {m : MF} {st : Stmt} {n : Nat} {ks : List Str} (A : DefAt K mg x st)
    (g : ∀ f fd, Fun K x x st f fd → FnOk P w K mg base (L2.CX P w) k f fd ps (spM ⟨K, cA, 0, none⟩ m))
    (b : ∀ (kV doc pm : Value) (an : Option Addr) (cdv ct : Value) (us ws : List Value), us.length = n → ws.length = ks.length → bindArgs (PySem.W.fnOf x x (defArgs st) (defBody st) (defScope st) .none kV doc pm an cdv ct) ⟨us, ks.zip ws⟩ = pure (ps.zip (us ++ ws))) :
    DefKB P w K mg base cA k x ps m n ks := by
  obtain ⟨f, fd, Fn, e⟩ := A.ex
  refine ⟨f, fd, g f fd Fn, e, Fn.kp, ?_⟩
  obtain ⟨oc, od, kV, doc, pm, an, cdv, ct, osl, rfl, lk, hcd⟩ := Fn.ex
  exact ⟨fun s us ws _ l1 l2 => .of_eq (b kV doc pm an cdv ct us ws l1 l2), fun r1 r2 => Vals.app r1 r2⟩
def SK (F : Fam) (kws : List Keyword) (m : MA) : Prop := ∃ t : WX → TA, (∀ i, PK (F.X i) kws (t (F.W i))) ∧ ∀ W, RdG F.S (RVs F.S) W (t W) m
theorem sk_nil : SK F [] mNil := ⟨fun _ => tNil, fun _ => pk_nil, fun W w0 w env h σ Q r po => PostE.fin po r.hd .nil⟩
theorem sk_cons {nm : Option Str} {kpos : Pos} {kws : List Keyword} (h : SE F e m) (h' : SK F kws mr) : SK F (⟨nm, e, kpos⟩ :: kws) (mCons m mr) := by
  obtain ⟨t, p, q⟩ := h
  obtain ⟨t', p', q'⟩ := h'
  exact ⟨fun W => tCons (t W) (t' W), fun i => pk_cons (p i) (p' i), fun W w0 w env h σ Q r po => q W w0 w env h σ _ r (PostE.bind po fun x h1 w1 v s1 d1 e1 p1 =>
    q' W w0 w1 env h1 σ _ (r.step s1 d1) (PostE.bind p1 fun xs h2 w2 vs s2 d2 e2 p2 => p2.fin d2 (.cons (s2.pr e1) e2)))⟩
/-- f(a, .., k = b, ..): the keywords stand in the parameters' order -/
theorem run_fnNS {X : Cx} {CX : CXT} {k n : Nat} {f : Addr} {fd : FuncData} {ps ks : List Str} {sp : Sp} {E : L2.St → XK} {g : List Value → List Value → List Value} {gV : List V → List V → List V} {pins : List (Addr × Obj)} {σ : L2.St} {H : Hp} {s : Shared} {Q : VK} {us ws : List Value} {vs zs : List V} (F : FnOk X.prog X.w X.K X.mg X.base CX k f fd ps sp) (hr : Room k X.A) (hb : KBn X.K fd ps n ks g gV) (hx : PassesAt CX X σ (E σ))
    (I : Inv X pins σ H s) (r : Vals vs us) (rz : Vals zs ws) (l1 : vs.length = n) (l2 : zs.length = ks.length) (h : sp (gV vs zs) H Q (E σ)) : wpAny (model X.prog X.w) X.A (PySem.call (.ref f) us (ks.zip ws)) (EP X pins σ Q) X.xe s := by
  have r2 := hb.rel r rz
  refine wpAny_call (codeAny_mono (F.run X.A X.stack s H ⟨us, ks.zip ws⟩ (g us ws) (gV vs zs) Q (E σ) hr I.env0 (hb.to s us ws I.kIn (r.length.symm.trans l1) (rz.length.symm.trans l2)) r2 h) fun r s' hq => ?_)
  cases r with
  | error e => exact hx pins H s e s' I hq
  | ok fl =>
    cases fl with
    | ret u => exact I.after hq
    | next => exact False.elim hq
    | brk => exact False.elim hq
    | cont => exact False.elim hq
def tCallNS (n m : Nat) (sp : Sp) (gV : List V → List V → List V) (E : L2.St → XK) (t tk : TA) : TE := fun σ H Q => t σ H fun vs H1 => tk σ H1 fun zs H2 => vs.length = n ∧ zs.length = m ∧ sp (gV vs zs) H2 Q (E σ)
def mCallK (n j : Nat) (f : MF) (ma mk : MA) : ME := fun env h => (ma env h).bind fun xs h => (mk env h).bind fun ys h => if xs.length = n ∧ ys.length = j then f (xs ++ ys) h else .no
theorem se_fnK {k n : Nat} {x : Str} {ps ks : List Str} {mf : MF} {mk : MA} {kws : List Keyword} (ok : F.Ok) (G : DefKB F.P F.w F.K F.mg F.base F.cA k x ps mf n ks) (hk : k ≤ F.k) (ha : SA F (e :: es) mr) (hkw : SK F kws mk)
    (hg : ∀ i, Gl (F.X i) x := by intro _; rfl) (hall : ∀ i, (backToKw pos (keywordEach kws (F.X i).env)).all (·.1.isSome) = true := by intro _; rfl) (hks : ∀ i, (backToKw pos (keywordEach kws (F.X i).env)).filterMap (·.1) = ks := by intro _; rfl)
    (hdb : (x == ("__debug__" : Str)) = false := by decide) (he : ∀ i, starEach (e :: es) (F.X i).env = (false, eval e (F.X i).env) :: starEach es (F.X i).env := by intro _; rfl)
    (hpl : ∀ i, ((backTo pos (starEach (e :: es) (F.X i).env)).any (·.1) || (backToKw pos (keywordEach kws (F.X i).env)).any (·.1.isNone)) = false := by intro _; rfl) :
    SE F (.Call (.Name x p) (e :: es) kws pos) (mCallK n ks.length mf mr mk) := by
  obtain ⟨f, fd, g, hm, kp, b⟩ := G.ex
  obtain ⟨t, pa, q⟩ := ha
  obtain ⟨tk, pk, qk⟩ := hkw
  refine ⟨fun W => tCallNS n ks.length (spM F.S mf) (fun vs zs => vs ++ zs) (WE W) (t W) (tk W), fun i => ⟨fun pins s σ H Q I hh => ?_⟩, fun W w0 w env h σ Q rl po => ?_⟩
  · refine wpAny_Call_Name_kw (ld_glob I (hg i) hm ?_ hdb)
    refine PySem.W.callWith_KW (h₀ := (F.X i).base) I.ok.mod.kin kp (hall i) (thn ((pa i).run pos pins s σ H _ I hh) fun us s1 ⟨vs, H1, I1, r, q⟩ => ?_) (hpl i) (he i)
    refine thn ((pk i).run pos pins s1 σ H1 _ I1 q) fun ws s2 ⟨zs, H2, I2, rz, l1, l2, q2⟩ => ⟨I2.kIn, ?_⟩
    rw [hks i]
    exact run_fnNS (X := F.X i) (CX := L2.CX F.P F.w) (E := WE (F.W i)) g ((ok.hr i).mono hk) b (passAt (ok.tk i) σ) I2 r rz l1 l2 q2
  · refine q W w0 w env h σ _ rl (PostE.bind po fun xs h1 w1 vs s1 d1 p1 po1 => qk W w0 w1 env h1 σ _ (rl.step s1 d1) (PostE.bind po1 fun ys h2 w2 zs s2 d2 p2 po2 => ?_))
    split at po2
    · rename_i hl
      refine ⟨p1.length.symm.trans hl.1, p2.length.symm.trans hl.2, w2, h2, xs ++ ys, rfl, d2.nul, (s2.prs p1).append p2, ?_⟩
      cases e : mf (xs ++ ys) h2 with
      | ok x h' => rw [e] at po2; exact fun w' v s d r => po2 w' v s d.unnul r
      | er x h' => rw [e] at po2; exact fun w' c d s dd r => po2 w' c d s dd.unnul r
      | no => rw [e] at po2; exact po2
    · exact po2.elim
/-! ### a recursive def: one promise for each depth -/
theorem DefOk.zero {k : Nat} {P : Program} {w : World} {K : PySem.W.Frag} {mg : Str → Option Value} {base : Heap} {cA : Str → Option Addr} {x : Str} {ps : List Str} {st : Stmt} (A : DefAt K mg x st)
    (b : ∀ (kV doc pm : Value) (an : Option Addr) (cdv ct : Value) (us : List Value), us.length = ps.length → bindArgs (PySem.W.fnOf x x (defArgs st) (defBody st) (defScope st) .none kV doc pm an cdv ct) ⟨us, []⟩ = pure (ps.zip us)) : DefOk P w K mg base cA k x ps fun _ _ => .no :=
  A.ok (fun f fd _ => zero_ok) b
end
end Mir

set_option Elab.async false
set_option linter.all false
set_option maxRecDepth 100000
set_option maxHeartbeats 4000000
namespace Mir
open PySem PySem.Spec PyProof.Rows L2

/-! ### zip of two lists, of two tuples -/
def zipL (xs ys : List PV) : List PV := List.zipWith (fun x y => PV.tup [x, y]) xs ys
theorem walk_zipT {K : PySem.W.Frag} {a b : Addr} {xs ys : List V} {n : Nat} (hn : n = min xs.length ys.length) : Walk (RZ.ItzT K a b) n (fun H => SqT K H a xs ∧ SqT K H b ys) (YPair (fun i => xs[i]?) (fun i => ys[i]?)) := by
  constructor
  · intro i _ hi ⟨ha, hb⟩
    rw [hn, Nat.lt_min] at hi
    exact ⟨xs, ys, _, _, ha, hb, List.getElem?_eq_getElem hi.1, List.getElem?_eq_getElem hi.2⟩
  · exact fun _ q => ⟨xs, ys, q.1, q.2, by omega⟩
  · rintro i H v H' _ ⟨ha, hb⟩ ⟨T, x, z, c1, c2, c3, c4, c5⟩
    exact ⟨T, x, z, c1, c2, c3, c4 xs ha, c5 ys hb⟩
def itZ (m : MA) : MA := fun env h => (m env h).bind fun xs h => match xs with
  | [.lst xs, .lst ys] => .ok (zipL xs ys) h
  | [.tup xs, .tup ys] => .ok (zipL xs ys) h
  | _ => .no
theorem zipL_get {xs ys : List PV} {i : Nat} {z : PV} (h : (zipL xs ys)[i]? = some z) : ∃ x y, xs[i]? = some x ∧ ys[i]? = some y ∧ z = .tup [x, y] := by
  unfold zipL at h
  rw [List.getElem?_zipWith] at h
  split at h
  · rename_i x y e1 e2
    cases h
    exact ⟨_, _, e1, e2, rfl⟩
  · cases h
section
variable {F : Fam} {e e2 : Expr} {p pos tpos : Pos} {ma : MA}
theorem si_zip {elts : List Expr} {kk : Nat} (hm : F.mg "zip" = none) (a : SA F [e, e2] ma) (hg : ∀ i, Gl (F.X i) "zip" := by intro _; rfl) (hs : ∀ i, starEach [e, e2] (F.X i).env = (false, eval e (F.X i).env) :: starEach [e2] (F.X i).env := by intro _; rfl)
    (hpl : ∀ i, (backTo pos (starEach [e2] (F.X i).env)).any (·.1) = false := by intro _; rfl) : SI F (.Tuple elts kk tpos) (.Call (.Name "zip" p) [e, e2] [] pos) (itZ ma) := by
  obtain ⟨t, pa, q⟩ := a
  refine ⟨fun W => RZ.iZipA F.K (t W), fun i => RZ.pi_zipA (hg i) hm (pa i) (hs i) (hpl i), fun W w0 w env h σ R rl po => q W w0 w env h σ _ rl ?_⟩
  unfold itZ at po
  cases em : ma env h with
  | no => rw [em] at po; exact po
  | er x h' => rw [em] at po; exact po
  | ok xs h' =>
    rw [em, Res.bind_ok] at po
    intro w' v s d r
    split at po
    · rename_i hx
      split at hx
      · rename_i xs ys
        cases hx
        cases r with | cons r1 r2 =>
        cases r2 with | cons r2 r3 =>
        cases r3
        cases r1 with | @lst a _ vs sq rs =>
        cases r2 with | @lst b _ us sq2 rs2 =>
        refine ⟨a, b, vs, us, rfl, .inl ⟨d.sqL sq, d.sqL sq2, po w' _ s d ⟨_, _, walk_zip (by unfold zipL; rw [List.length_zipWith, rs.length, rs2.length]), fun w'' c => ?_, fun i w'' H' y u c e1 e2 => ?_⟩⟩⟩
        · obtain ⟨c1, hh, c2⟩ := c
          exact ⟨c2.sqL (sqL_mono c1.fz sq), c2.sqL (sqL_mono c1.fz sq2)⟩
        · obtain ⟨z1, z2, g1, g2, rfl⟩ := zipL_get e1
          refine yok_pair e2 (fun va ea => ?_) fun vb eb => ?_
          · obtain ⟨v', k1, k2⟩ := rs.get g1
            rw [ea] at k1; cases k1
            exact c.1.pr k2
          · obtain ⟨v', k1, k2⟩ := rs2.get g2
            rw [eb] at k1; cases k1
            exact c.1.pr k2
      · rename_i xs ys
        cases hx
        cases r with | cons r1 r2 =>
        cases r2 with | cons r2 r3 =>
        cases r3
        cases r1 with | @tup a _ vs sq rs =>
        cases r2 with | @tup b _ us sq2 rs2 =>
        refine ⟨a, b, vs, us, rfl, .inr ⟨d.sqT sq, d.sqT sq2, po w' _ s d ⟨_, _, walk_zipT (by unfold zipL; rw [List.length_zipWith, rs.length, rs2.length]), fun w'' c => ?_, fun i w'' H' y u c e1 e2 => ?_⟩⟩⟩
        · obtain ⟨c1, hh, c2⟩ := c
          exact ⟨c2.sqT (sqT_mono c1.fz sq), c2.sqT (sqT_mono c1.fz sq2)⟩
        · obtain ⟨z1, z2, g1, g2, rfl⟩ := zipL_get e1
          refine yok_pair e2 (fun va ea => ?_) fun vb eb => ?_
          · obtain ⟨v', k1, k2⟩ := rs.get g1
            rw [ea] at k1; cases k1
            exact c.1.pr k2
          · obtain ⟨v', k1, k2⟩ := rs2.get g2
            rw [eb] at k1; cases k1
            exact c.1.pr k2
      · cases hx
    · rename_i hx
      split at hx <;> cases hx
    · exact po.elim
end
/-! ### (a, b, ..) = a tuple or a list -/
def gTuA (n : Nat) (r : MGs) : MG := fun x env => match x with
  | .tup xs => if xs.length = n then r xs env else none
  | .lst xs => if xs.length = n then r xs env else none
  | _ => none
theorem sg_tupA {F : Fam} {es : List Expr} {pos : Pos} {r : MGs} {k n : Nat} {is : List Nat} (hc : F.calm = true) (b : SGs F es r is) (hn : ∀ i, (assignEach es (F.X i).env).length = n := by intro _; rfl) (hst : ∀ i, (assignEach es (F.X i).env).findIdx? (·.1) = none := by intro _; rfl) : SG F (.Tuple es k pos) (gTuA n r) is := by
  obtain ⟨t, p, q⟩ := b
  refine ⟨fun v σ H Q => gTup F.K n t v σ H Q ∨ gUnl F.K n t v σ H Q, fun i => ⟨fun pins s σ H v u Q I r h => ?_⟩, fun w0 w env env' h σ x v Q rl rr ee qq => ?_⟩
  · rcases h with h | h
    · exact (pg_tup (X := F.X i) hc (p i) (hn i) (hst i)).run pins s σ H v u Q I r h
    · exact (pg_unl (X := F.X i) hc (p i) (hn i) (hst i)).run pins s σ H v u Q I r h
  · unfold gTuA at ee
    split at ee
    · split at ee
      · rename_i xs hl
        cases rr with
        | tup s t' => exact .inl ⟨_, _, rfl, rl.hd.sqT s, by rw [← t'.length]; exact hl, q w0 w env env' h σ _ _ Q rl t' ee qq⟩
      · cases ee
    · split at ee
      · rename_i xs hl
        cases rr with
        | lst s t' => exact .inr ⟨_, _, rfl, rl.hd.sqL s, by rw [← t'.length]; exact hl, q w0 w env env' h σ _ _ Q rl t' ee qq⟩
      · cases ee
    · cases ee
@[simp] theorem aItZ (ma : MA) (env : En) (h : Hh) : itZ ma env h = (ma env h).bind fun xs h => (match xs with | [.lst xs, .lst ys] => .ok (zipL xs ys) h | [.tup xs, .tup ys] => .ok (zipL xs ys) h | _ => .no) := id rfl
@[simp] theorem aGTuT (env : En) (gs : MGs) (k : Nat) (xs : List PV) : gTuA k gs (.tup xs) env = if xs.length = k then gs xs env else none := id rfl
@[simp] theorem aGTuL (env : En) (gs : MGs) (k : Nat) (xs : List PV) : gTuA k gs (.lst xs) env = if xs.length = k then gs xs env else none := id rfl
end Mir

set_option Elab.async false
set_option linter.all false
set_option maxRecDepth 100000
set_option maxHeartbeats 1000000
/-! MirI: instances of own classes: made, their fields read and set, their methods called; defaults -/
namespace Mir
open PySem PySem.Spec PyProof.Rows L2

def getF {α : Type} (f : Str) : List Str → List α → Option α
  | n :: ns, v :: vs => if n = f then some v else getF f ns vs
  | _, _ => none
def insN (f : Str) : List Str → List Str
  | [] => [f]
  | n :: ns => if n = f then n :: ns else n :: insN f ns
def insV {α : Type} (f : Str) (y : α) : List Str → List α → List α
  | n :: ns, v :: vs => if n = f then y :: vs else v :: insV f y ns vs
  | _, _ => [y]
theorem lookup_zip {f : Str} : ∀ {ns : List Str} {vs : List V}, (ns.zip vs).lookup f = getF f ns vs
  | [], vs => rfl
  | n :: ns, [] => rfl
  | n :: ns, v :: vs => by
    show List.lookup f ((n, v) :: ns.zip vs) = _
    unfold getF
    by_cases h : n = f
    · have hb : (f == n) = true := beq_iff_eq.mpr h.symm
      simp only [List.lookup, hb, if_pos h]
    · have hb : (f == n) = false := beq_eq_false_iff_ne.mpr (Ne.symm h)
      simp only [List.lookup, hb, if_neg h]
      exact lookup_zip
theorem putF_zip {f : Str} {y : V} : ∀ {ns : List Str} {vs : List V}, ns.length = vs.length → putF f y (ns.zip vs) = (insN f ns).zip (insV f y ns vs)
  | [], [], _ => rfl
  | [], _ :: _, h => by simp at h
  | n :: ns, [], h => by simp at h
  | n :: ns, v :: vs, h => by
    show putF f y ((n, v) :: ns.zip vs) = _
    unfold putF insN insV
    by_cases q : n = f
    · simp only [if_pos q]; rfl
    · simp only [if_neg q]
      rw [putF_zip (by simpa using h)]; rfl
theorem len_put {α : Type} {f : Str} {y : α} : ∀ {ns : List Str} {vs : List α}, ns.length = vs.length → (insN f ns).length = (insV f y ns vs).length
  | [], [], _ => rfl
  | [], _ :: _, h => by simp at h
  | n :: ns, [], h => by simp at h
  | n :: ns, v :: vs, h => by
    unfold insN insV
    by_cases q : n = f
    · simp only [if_pos q]; simpa using h
    · simp only [if_neg q]
      rw [List.length_cons, List.length_cons, len_put (by simpa using h)]
section
variable {K : PySem.W.Frag} {Φ : Hp} {ad : List Addr} {f : Str}
theorem getF_rel {x : PV} : ∀ {ns : List Str} {xs : List PV} {vs : List V}, PRs K Φ ad xs vs → getF f ns xs = some x → ∃ v, getF f ns vs = some v ∧ PR K Φ ad x v
  | [], xs, vs, r, e => by unfold getF at e; cases e
  | n :: ns, _, _, .nil, e => by unfold getF at e; cases e
  | n :: ns, _, _, .cons r t, e => by
    unfold getF at e ⊢
    by_cases q : n = f
    · simp only [if_pos q] at e ⊢; cases e; exact ⟨_, rfl, r⟩
    · simp only [if_neg q] at e ⊢; exact getF_rel t e
theorem getF_none : ∀ {ns : List Str} {xs : List PV} {vs : List V}, PRs K Φ ad xs vs → getF f ns xs = none → getF f ns vs = none
  | [], xs, vs, r, e => by unfold getF; rfl
  | n :: ns, _, _, .nil, e => by unfold getF; rfl
  | n :: ns, _, _, .cons r t, e => by
    unfold getF at e ⊢
    by_cases q : n = f
    · simp only [if_pos q] at e; cases e
    · simp only [if_neg q] at e ⊢; exact getF_none t e
theorem insV_rel {x : PV} {v : V} (p : PR K Φ ad x v) : ∀ {ns : List Str} {xs : List PV} {vs : List V}, PRs K Φ ad xs vs → PRs K Φ ad (insV f x ns xs) (insV f v ns vs)
  | [], xs, vs, r => by unfold insV; exact .cons p .nil
  | n :: ns, _, _, .nil => by unfold insV; exact .cons p .nil
  | n :: ns, _, _, .cons r t => by
    unfold insV
    by_cases q : n = f
    · simp only [if_pos q]; exact .cons p t
    · simp only [if_neg q]; exact .cons r (insV_rel p t)
end
/-! ### the world behind a store in an object, behind a new object -/
def Wd.wr (w : Wd) (a : Addr) (o : HO) : Wd := ⟨w.Φ, upd w.H a o, w.ad⟩
section
variable {S : Sx} {w : Wd} {h : Hh}
theorem Step.wr {a : Addr} {o : HO} (ha : a ∈ w.ad) : Step w (w.wr a o) where
  fz := fun _ _ e => e
  ix := fun _ _ e => e
  nw := fun _ hx => .inl hx
  kp := fun x u e hx => by
    show upd w.H a o x = some u
    have : x ≠ a := fun q => hx (by rw [q]; exact ha)
    rw [upd_ne this]; exact e
  th := fun x e => by
    show upd w.H a o x ≠ none
    by_cases hx : x = a
    · subst hx; rw [upd_same]; simp
    · rw [upd_ne hx]; exact e
  fn := fun _ _ e => .inl e
theorem Hd.wr (d : Hd S w h) {n : Nat} {a : Addr} {ob : Ob} {o : HO} (ea : w.ad[n]? = some a) (hr : RO S (w.wr a o) a ob) : Hd S (w.wr a o) (h.set n ob) where
  sub := fun x u q => by
    show upd w.H a o x = some u
    have q' : w.Φ x = some u := q
    have : x ≠ a := fun hx => by rw [hx, d.sep a (List.mem_of_getElem? ea)] at q'; cases q'
    rw [upd_ne this]; exact d.sub x u q'
  len := by rw [List.length_set]; exact d.len
  nd := d.nd
  sep := d.sep
  obj := fun k ob' x e f => by
    have f' : w.ad[k]? = some x := f
    by_cases hk : k = n
    · subst hk
      rw [f'] at ea; cases ea
      have hl : k < h.length := by
        have := (List.getElem?_eq_some_iff.mp e).1
        rw [List.length_set] at this; exact this
      rw [List.getElem?_set_self hl] at e
      cases e; exact hr
    · rw [List.getElem?_set_ne (Ne.symm hk)] at e
      have ha : a ∈ w.ad := List.mem_of_getElem? ea
      have hne : x ≠ a := fun hx => hk (by
        subst hx
        have h1 := (List.getElem?_eq_some_iff.mp f').1
        have h2 := (List.getElem?_eq_some_iff.mp ea).1
        exact (List.getElem?_inj h1 d.nd).mp (f'.trans ea.symm))
      exact (d.obj k ob' x e f').step (Step.wr ha) fun u q => by
        show upd w.H a o x = some u
        rw [upd_ne hne]; exact q
def Wd.ins (w : Wd) (x dx C : Addr) : Wd := ⟨w.Φ, upd (upd w.H dx (.own x)) x (.ins C dx []), w.ad ++ [x]⟩
theorem upd2_old {H : Hp} {x dx y : Addr} {o1 o2 u : HO} (zx : H x = none) (zd : H dx = none) (e : H y = some u) : upd (upd H dx o1) x o2 y = some u := by
  have h1 : y ≠ x := fun q => by rw [q, zx] at e; cases e
  have h2 : y ≠ dx := fun q => by rw [q, zd] at e; cases e
  rw [upd_ne h1, upd_ne h2]; exact e
theorem ix_app {ad : List Addr} {a : Addr} (k : Nat) (x : Addr) (q : ad[k]? = some x) : (ad ++ [a])[k]? = some x := by
  rw [List.getElem?_append_left (List.getElem?_eq_some_iff.mp q).1]; exact q
theorem Step.insMade {x dx C : Addr} (zx : w.H x = none) (zd : w.H dx = none) : Step w (w.ins x dx C) where
  fz := fun _ _ e => e
  ix := fun k y q => ix_app k y q
  nw := fun y hy => by
    rcases List.mem_append.mp hy with hy | hy
    · exact .inl hy
    · rw [List.mem_singleton.mp hy]; exact .inr zx
  kp := fun y u e _ => upd2_old zx zd e
  th := fun y e => by
    cases q : w.H y with
    | none => exact absurd q e
    | some u => show upd (upd w.H dx _) x _ y ≠ none; rw [upd2_old zx zd q]; simp
  fn := fun _ _ e => .inl e
theorem Hd.insMade (d : Hd S w h) {c : Str} {x dx C : Addr} (hc : S.cA c = some C) (zx : w.H x = none) (zd : w.H dx = none) : Hd S (w.ins x dx C) (h ++ [.ins c [] []]) where
  sub := fun y u q => upd2_old zx zd (d.sub y u q)
  len := by show (w.ad ++ [x]).length = _; rw [List.length_append, List.length_append, d.len]; rfl
  nd := List.nodup_append.mpr ⟨d.nd, by simp, fun y hy z hz => by rw [List.mem_singleton.mp hz]; exact fun q => d.notAd zx (q ▸ hy)⟩
  sep := fun y hy => by
    rcases List.mem_append.mp hy with hy | hy
    · exact d.sep y hy
    · rw [List.mem_singleton.mp hy]; exact d.fresh zx
  obj := fun k ob y e f => by
    by_cases hk : k < h.length
    · rw [List.getElem?_append_left hk] at e
      have f' : w.ad[k]? = some y := by
        have f2 : (w.ad ++ [x])[k]? = some y := f
        rw [List.getElem?_append_left (by rw [d.len]; exact hk)] at f2; exact f2
      exact (d.obj k ob y e f').step (Step.insMade zx zd) fun u q => upd2_old zx zd q
    · have hl := (List.getElem?_eq_some_iff.mp e).1
      rw [List.length_append] at hl
      have hk2 : k = h.length := by simp at hl; omega
      subst hk2
      rw [List.getElem?_append_right (Nat.le_refl _), Nat.sub_self] at e
      have f2 : (w.ad ++ [x])[h.length]? = some y := f
      rw [← d.len, List.getElem?_append_right (Nat.le_refl _), Nat.sub_self] at f2
      cases e; cases f2
      exact ⟨C, dx, [], hc, rfl, by show upd (upd w.H dx _) x _ x = _; rw [upd_same]; rfl, .nil⟩
end

/-! ### what the program's text gives of a class -/
/-- the class named c, its attributes' names fs -/
structure ClsAt (K : PySem.W.Frag) (mg : Str → Option Value) (cA : Str → Option Addr) (c : Str) (fs : List Str) : Prop where
  ex : ∃ C, mg c = some (.ref C) ∧ cA c = some C ∧ Cls K C ∧ ∀ f ∈ fs, NoAttr K C f
/-- the method m of the class c -/
structure MethAt (K : PySem.W.Frag) (mg : Str → Option Value) (c m qual : Str) (st : Stmt) : Prop where
  ex : ∃ C f fd, mg c = some (.ref C) ∧ Fun K m qual st f fd ∧ Meth K C m f
structure MakeAt (K : PySem.W.Frag) (mg : Str → Option Value) (c qual : Str) (st : Stmt) : Prop where
  ex : ∃ C f fd, mg c = some (.ref C) ∧ Fun K "__init__" qual st f fd ∧ Mk K C f
structure MethOk (P : Program) (w : World) (K : PySem.W.Frag) (mg : Str → Option Value) (base : Heap) (cA : Str → Option Addr) (k : Nat) (c m : Str) (ps : List Str) (mf : MF) : Prop where
  ex : ∃ C f fd, FnOk P w K mg base (L2.CX P w) k f fd ps (spM ⟨K, cA, 0, none⟩ mf) ∧ cA c = some C ∧ Cls K C ∧ Meth K C m f ∧ Binds K fd ps []
structure MakeOk (P : Program) (w : World) (K : PySem.W.Frag) (mg : Str → Option Value) (base : Heap) (cA : Str → Option Addr) (k : Nat) (c : Str) (ps : List Str) (mf : MF) : Prop where
  ex : ∃ C f fd, FnOk P w K mg base (L2.CX P w) k f fd ps (spM ⟨K, cA, 0, none⟩ mf) ∧ mg c = some (.ref C) ∧ cA c = some C ∧ Mk K C f ∧ Binds K fd ps []
section
variable {P : Program} {w : World} {K : PySem.W.Frag} {mg : Str → Option Value} {base : Heap} {cA : Str → Option Addr} {k : Nat} {c m qual : Str} {ps fs : List Str} {mf : MF} {st : Stmt}
theorem MethAt.ok (A : MethAt K mg c m qual st) (B : ClsAt K mg cA c fs) (g : ∀ f fd, Fun K m qual st f fd → FnOk P w K mg base (L2.CX P w) k f fd ps (spM ⟨K, cA, 0, none⟩ mf))
    (b : ∀ (kV doc pm : Value) (an : Option Addr) (cdv ct : Value) (us : List Value), us.length = ps.length → bindArgs (PySem.W.fnOf m qual (defArgs st) (defBody st) (defScope st) .none kV doc pm an cdv ct) ⟨us, []⟩ = pure (ps.zip us)) : MethOk P w K mg base cA k c m ps mf := by
  obtain ⟨C, f, fd, e, Fn, M⟩ := A.ex
  obtain ⟨C', e', ca, cl, _⟩ := B.ex
  rw [e] at e'; cases e'
  exact ⟨C, f, fd, g f fd Fn, ca, cl, M, Fn.binds b⟩
theorem MakeAt.ok (A : MakeAt K mg c qual st) (B : ClsAt K mg cA c fs) (g : ∀ f fd, Fun K "__init__" qual st f fd → FnOk P w K mg base (L2.CX P w) k f fd ps (spM ⟨K, cA, 0, none⟩ mf))
    (b : ∀ (kV doc pm : Value) (an : Option Addr) (cdv ct : Value) (us : List Value), us.length = ps.length → bindArgs (PySem.W.fnOf "__init__" qual (defArgs st) (defBody st) (defScope st) .none kV doc pm an cdv ct) ⟨us, []⟩ = pure (ps.zip us)) : MakeOk P w K mg base cA k c ps mf := by
  obtain ⟨C, f, fd, e, Fn, M⟩ := A.ex
  obtain ⟨C', e', ca, cl, _⟩ := B.ex
  rw [e] at e'; cases e'
  exact ⟨C, f, fd, g f fd Fn, e, ca, M, Fn.binds b⟩
end

/-! ### o.f -/
/-- the attribute f of an instance of one of the classes cs -/
def mFld (cs : List Str) (f : Str) (m : ME) : ME := fun env h => (m env h).bind fun x h => match x with
  | .ref n => match h[n]? with
    | some (.ins c ns vs) => if c ∈ cs then (match getF f ns vs with
      | some y => .ok y h
      | none => .no) else .no
    | _ => .no
  | _ => .no
def mSetF (cs : List Str) (f : Str) (mo mv : ME) : MS := fun env h => ofE (mv env h) env fun y h => ofE (mo env h) env fun x h => match x with
  | .ref n => match h[n]? with
    | some (.ins c ns vs) => if c ∈ cs ∧ ns.length < 1000 then .nx env (h.set n (.ins c (insN f ns) (insV f y ns vs))) else .no
    | _ => .no
  | _ => .no
/-- o.m(..), of an instance of the class c -/
def mMeth (c m : Str) (mf : MF) (mo : ME) (mr : MA) : ME := fun env h => (mo env h).bind fun x h => match x with
  | .ref n => match h[n]? with
    | some (.ins c' ns vs) => if c' = c then (match getF m ns vs with
      | none => (mr env h).bind fun xs h => mf (.ref n :: xs) h
      | some _ => .no) else .no
    | _ => .no
  | _ => .no
/-- c(..) -/
def mMake (c : Str) (mi : MF) (mr : MA) : ME := fun env h => (mr env h).bind fun xs h1 => (mi (.ref h1.length :: xs) (h1 ++ [.ins c [] []])).bind fun r h2 => match r with
  | .non => .ok (.ref h1.length) h2
  | _ => .no
section
variable {F : Fam} {o e value : Expr} {es : List Expr} {f c x m : Str} {cs fs ps : List Str} {p apos pos pos' : Pos} {mo mv me : ME} {mr : MA} {mf : MF} {k : Nat}
/-- what is at a ref -/
theorem PW'.ofRef {S : Sx} {w : Wd} {n : Nat} {v : V} (r : PW' S w (.ref n) v) : ∃ a, v = .ref a ∧ w.ad[n]? = some a := by
  cases r with | ref e => exact ⟨_, rfl, e⟩
theorem se_fld (a : SE F o mo) (hc : ∀ c ∈ cs, ∃ fs, ClsAt F.K F.mg F.cA c fs ∧ f ∈ fs) (hb : ∀ i, attributeBase o f (F.X i).env (eval o (F.X i).env) = eval o (F.X i).env := by intro _; rfl) : SE F (.Attribute o f pos) (mFld cs f mo) := by
  obtain ⟨t, p, q⟩ := a
  refine ⟨fun W => tFld F.K (t W) f, fun i => pe_fld (p i) (hb i), fun W w0 w env h σ Q rl po => q W w0 w env h σ _ rl (PostE.bind po fun x h1 w1 v s1 d1 r1 po1 => ?_)⟩
  cases x with
  | ref n =>
    obtain ⟨a, rfl, ea⟩ := PW'.ofRef r1
    simp only at po1
    split at po1
    · rename_i c ns vs eh
      split at po1
      · rename_i hcs
        split at po1
        · rename_i y ey
          obtain ⟨C, dx, us, ca, hl, eH, rs⟩ := d1.at eh ea
          obtain ⟨fs, ⟨C', _, ca', cl, na⟩, hf⟩ := hc c hcs
          have cb : F.cA c = some C := ca
          rw [ca'] at cb; cases cb
          obtain ⟨v, ev, rv⟩ := getF_rel rs ey
          exact ⟨a, C, dx, _, v, rfl, eH, cl, na f hf, lookup_zip.trans ev, po1.fin d1 rv⟩
        · exact po1.elim
      · exact po1.elim
    · exact po1.elim
  | _ => exact po1.elim
theorem ss_fld (a : SE F o mo) (b : SE F value mv) (hc : ∀ c ∈ cs, ∃ fs, ClsAt F.K F.mg F.cA c fs ∧ f ∈ fs) (hs : ∀ i, swapsWith value (some (.Attribute o f pos')) pos.line (F.X i).env = pure false := by intro _; rfl) : SS F (.Assign [.Attribute o f pos'] value pos) (mSetF cs f mo mv) := by
  obtain ⟨t, p, q⟩ := a
  obtain ⟨t', p', q'⟩ := b
  refine ⟨fun W => sFld F.K (t W) (t' W) f, fun i => ps_fld (p i) (p' i) (hs i), fun W w0 w env h σ D rl po => q' W w0 w env h σ _ rl (PostS.ofE (R := RV F.S) rl po fun y h1 w1 u s1 d1 r1 po1 => ?_)⟩
  have rl1 := rl.step s1 d1
  refine q W w0 w1 env h1 σ _ rl1 (PostS.ofE (R := RV F.S) rl1 po1 fun x h2 w2 v s2 d2 r2 po2 => ?_)
  cases x with
  | ref n =>
    obtain ⟨a, rfl, ea⟩ := PW'.ofRef r2
    simp only at po2
    split at po2
    · rename_i c ns vs eh
      split at po2
      · rename_i hcs
        obtain ⟨C, dx, us, ca, hl, eH, rs⟩ := d2.at eh ea
        obtain ⟨fs, ⟨C', _, ca', cl, na⟩, hf⟩ := hc c hcs.1
        have cb : F.cA c = some C := ca
        rw [ca'] at cb; cases cb
        have hm : a ∈ w2.ad := List.mem_of_getElem? ea
        refine ⟨a, C, dx, _, rfl, eH, cl, na f hf, ?_, ?_⟩
        · rw [List.length_zip, ← hl, Nat.min_self]; exact hcs.2
        · rw [putF_zip hl]
          have st := Step.wr (w := w2) (a := a) (o := .ins C dx ((insN f ns).zip (insV f u ns us))) hm
          refine po2 (w2.wr a _) σ st.ext ((rl1.step s2 d2).step st (d2.wr ea ⟨C, dx, insV f u ns us, ca', len_put hl, ?_, st.prs (insV_rel (s2.pr r1) rs)⟩))
          show upd w2.H a _ a = _
          rw [upd_same]
      · exact po2.elim
    · exact po2.elim
  | _ => exact po2.elim
/-- o.m(..), with exceptions -/
def tMethS (C : Addr) (m : Str) (sp : Sp) (E : L2.St → XK) (ta : TE) (t : TA) : TE := fun σ H Q => ta σ H fun x H1 => ∃ a dx fs, x = .ref a ∧ H1 a = some (.ins C dx fs) ∧ fs.lookup m = none ∧ t σ H1 fun vs H2 => sp (x :: vs) H2 Q (E σ)
theorem pe_methE {X : Cx} {CX : CXT} {k : Nat} {C g : Addr} {fd : FuncData} {sp : Sp} {E : L2.St → XK} {ta : TE} {t : TA} {pl : Sem Bool} (he : PE X o ta) (c : Cls X.K C) (hm : Meth X.K C m g) (G : FnOk X.prog X.w X.K X.mg X.base CX k g fd ps sp) (hr : Room k X.A) (hb : Binds X.K fd ps []) (hx : ∀ σ, PassesAt CX X σ (E σ)) (ha : PA X (e :: es) t)
    (hst : starEach (e :: es) X.env = (false, eval e X.env) :: starEach es X.env) (hpl : (backTo pos (starEach es X.env)).any (·.1) = false)
    (ht : eval (.Call (.Attribute o m apos) (e :: es) [] pos) X.env = (do
      let ov ← eval o X.env
      standAt apos.atName
      let (f, first) ← holding [ov] (getMethod ov m pl)
      callWith pos f first (backTo pos (starEach (e :: es) X.env)) (backToKw pos (keywordEach [] X.env)))) :
    PE X (.Call (.Attribute o m apos) (e :: es) [] pos) (tMethS C m sp E ta t) := by
  refine ⟨fun pins s σ H Q I h => ?_⟩
  refine PySem.W.methodCall_KW (pl := pl) (thn (he.run pins s σ H _ I h) fun u s1 ⟨x, H1, I1, rx, a, dx, fs, ex, ea, l, q⟩ => ?_) ht
  subst ex
  obtain rfl : u = Value.ref a := rx
  refine getmeth_ok I1 ea c hm l ?_
  refine PySem.W.callWith_K (first := [.ref a]) (h₀ := X.base) I.ok.mod.kin hm.kp (thn (ha.run pos pins s1 σ H1 _ I1 q) fun us s2 ⟨vs, H2, I2, r, q2⟩ => ⟨I2.kIn, ?_⟩) hst hpl
  exact run_fnS (us := .ref a :: us) (vs := .ref a :: vs) G hr hb (hx σ) I2 (.cons rfl r) q2
theorem pe_methE0 {X : Cx} {CX : CXT} {k : Nat} {C g : Addr} {fd : FuncData} {sp : Sp} {E : L2.St → XK} {ta : TE} {pl : Sem Bool} (he : PE X o ta) (c : Cls X.K C) (hm : Meth X.K C m g) (G : FnOk X.prog X.w X.K X.mg X.base CX k g fd ps sp) (hr : Room k X.A) (hb : Binds X.K fd ps []) (hx : ∀ σ, PassesAt CX X σ (E σ))
    (ht : eval (.Call (.Attribute o m apos) [] [] pos) X.env = (do
      let ov ← eval o X.env
      standAt apos.atName
      let (f, first) ← holding [ov] (getMethod ov m pl)
      callWith pos f first (backTo pos (starEach [] X.env)) (backToKw pos (keywordEach [] X.env)))) :
    PE X (.Call (.Attribute o m apos) [] [] pos) (tMethS C m sp E ta tNil) := by
  refine ⟨fun pins s σ H Q I h => ?_⟩
  refine PySem.W.methodCall_KW (pl := pl) (thn (he.run pins s σ H _ I h) fun u s1 ⟨x, H1, I1, rx, a, dx, fs, ex, ea, l, q⟩ => ?_) ht
  subst ex
  obtain rfl : u = Value.ref a := rx
  refine getmeth_ok I1 ea c hm l ?_
  exact PySem.W.callWith_K0 (first := [.ref a]) I1.kIn hm.kp (run_fnS (us := [.ref a]) (vs := [.ref a]) G hr hb (hx σ) I1 (.cons rfl .nil) q)
theorem rd_meth {S : Sx} {W : WX} {C : Addr} {ta : TE} {t : TA} (hc : S.cA c = some C) (q : RdG S (RV S) W ta mo) (q' : RdG S (RVs S) W t mr) : RdG S (RV S) W (tMethS C m (spM S mf) (WE W) ta t) (mMeth c m mf mo mr) :=
  fun w0 w env h σ Q rl po => q w0 w env h σ _ rl (PostE.bind po fun x h1 w1 v s1 d1 r1 po1 => by
    cases x with
    | ref n =>
      obtain ⟨a, rfl, ea⟩ := PW'.ofRef r1
      simp only at po1
      split at po1
      · rename_i c' ns vs eh
        split at po1
        · rename_i ec
          subst ec
          split at po1
          · rename_i en
            obtain ⟨C', dx, us, ca, hl, eH, rs⟩ := d1.at eh ea
            rw [hc] at ca; cases ca
            refine ⟨a, dx, _, rfl, eH, lookup_zip.trans (getF_none rs en), q' w0 w1 env h1 σ _ (rl.step s1 d1) (PostE.bind po1 fun xs h2 w2 vs2 s2 d2 p2 po2 => ?_)⟩
            refine ⟨w2, h2, .ref n :: xs, rfl, d2.nul, .cons (s2.pr r1) p2, ?_⟩
            cases e : mf (.ref n :: xs) h2 with
            | ok x h' => rw [e] at po2; exact fun w' v s d r => po2 w' v s d.unnul r
            | er x h' => rw [e] at po2; exact fun w' c d s dd r => po2 w' c d s dd.unnul r
            | no => rw [e] at po2; exact po2
          · exact po1.elim
        · exact po1.elim
      · exact po1.elim
    | _ => exact po1.elim)
theorem se_meth (ok : F.Ok) (a : SE F o mo) (G : MethOk F.P F.w F.K F.mg F.base F.cA k c m ps mf) (hk : k ≤ F.k) (ha : SA F (e :: es) mr)
    (hst : ∀ i, starEach (e :: es) (F.X i).env = (false, eval e (F.X i).env) :: starEach es (F.X i).env := by intro _; rfl) (hpl : ∀ i, (backTo pos (starEach es (F.X i).env)).any (·.1) = false := by intro _; rfl)
    (ht : ∀ i, ∃ pl : Sem Bool, eval (.Call (.Attribute o m apos) (e :: es) [] pos) (F.X i).env = (do
      let ov ← eval o (F.X i).env
      standAt apos.atName
      let (f, first) ← holding [ov] (getMethod ov m pl)
      callWith pos f first (backTo pos (starEach (e :: es) (F.X i).env)) (backToKw pos (keywordEach [] (F.X i).env))) := by exact fun _ => ⟨_, rfl⟩) :
    SE F (.Call (.Attribute o m apos) (e :: es) [] pos) (mMeth c m mf mo mr) := by
  obtain ⟨C, f, fd, g, ca, cl, M, b⟩ := G.ex
  obtain ⟨t, p, q⟩ := a
  obtain ⟨t', p', q'⟩ := ha
  exact ⟨fun W => tMethS C m (spM F.S mf) (WE W) (t W) (t' W), fun i => let ⟨pl, hp⟩ := ht i; pe_methE (X := F.X i) (pl := pl) (p i) cl M g ((ok.hr i).mono hk) b (fun σ => passAt (ok.tk i) σ) (p' i) (hst i) (hpl i) hp, fun W => rd_meth ca (q W) (q' W)⟩
theorem se_meth0 (ok : F.Ok) (a : SE F o mo) (G : MethOk F.P F.w F.K F.mg F.base F.cA k c m ps mf) (hk : k ≤ F.k)
    (ht : ∀ i, ∃ pl : Sem Bool, eval (.Call (.Attribute o m apos) [] [] pos) (F.X i).env = (do
      let ov ← eval o (F.X i).env
      standAt apos.atName
      let (f, first) ← holding [ov] (getMethod ov m pl)
      callWith pos f first (backTo pos (starEach [] (F.X i).env)) (backToKw pos (keywordEach [] (F.X i).env))) := by exact fun _ => ⟨_, rfl⟩) :
    SE F (.Call (.Attribute o m apos) [] [] pos) (mMeth c m mf mo mNil) := by
  obtain ⟨C, f, fd, g, ca, cl, M, b⟩ := G.ex
  obtain ⟨t, p, q⟩ := a
  exact ⟨fun W => tMethS C m (spM F.S mf) (WE W) (t W) tNil, fun i => let ⟨pl, hp⟩ := ht i; pe_methE0 (X := F.X i) (pl := pl) (p i) cl M g ((ok.hr i).mono hk) b (fun σ => passAt (ok.tk i) σ) hp, fun W => rd_meth ca (q W) fun w0 w env h σ Q rl po => PostE.fin po rl.hd .nil⟩
/-! ### c(..) -/
def tMakeS (C : Addr) (sp : Sp) (E : L2.St → XK) (t : TA) : TE := fun σ H Q => t σ H fun vs H1 => ∀ x dx, H1 x = none → H1 dx = none → dx ≠ x → sp (.ref x :: vs) (upd (upd H1 dx (.own x)) x (.ins C dx [])) (fun v H2 => v = .non ∧ Q (.ref x) H2) (E σ)
theorem run_makeS {X : Cx} {CX : CXT} {k : Nat} {C g : Addr} {fd : FuncData} {sp : Sp} {E : L2.St → XK} {σ : L2.St} {H : Hp} {s : Shared} {Q : VK} {pins : List (Addr × Obj)} {us : List Value} {vs : List V} (M : Mk X.K C g) (G : FnOk X.prog X.w X.K X.mg X.base CX k g fd ps sp) (hr : Room (k + 1) X.A) (hb : Binds X.K fd ps [])
    (hx : PassesAt CX X σ (E σ)) (I : Inv X pins σ H s) (r : Vals vs us)
    (h : ∀ x dx, H x = none → H dx = none → dx ≠ x → sp (.ref x :: vs) (upd (upd H dx (.own x)) x (.ins C dx [])) (fun v H2 => v = .non ∧ Q (.ref x) H2) (E σ)) :
    wpAny (model X.prog X.w) X.A (PySem.call (.ref C) us) (EP X pins σ Q) X.xe s := by
  have made := Inv.made (C := C) I
  have run := h _ _ (I.hok.fresh (Nat.le_succ s.heap.objs.size)) (I.hok.fresh (Nat.le_refl s.heap.objs.size)) (Nat.succ_ne_self s.heap.objs.size).symm
  have rel : Vals (V.ref (s.heap.objs.size + 1) :: vs) (Value.ref (s.heap.objs.size + 1) :: us) := .cons rfl r
  have count : (Value.ref (s.heap.objs.size + 1) :: us ++ []).length = ps.length := by
    rw [List.append_nil, ← rel.length]
    exact G.len _ _ _ _ run
  have bound := hb _ (Value.ref (s.heap.objs.size + 1) :: us) made.kIn count
  rw [List.append_nil] at bound
  refine wpAny_call (make_map (f := g) I.kIn M.makes M.init (beq_iff_eq.mp M.fn) ?_)
  refine codeAny_mono (G.run _ X.stack _ _ ⟨_ :: us, []⟩ _ _ _ (E σ) (hr.make C us []) (made.env0.make C us []) bound rel run) ?_
  rintro (c | fl) t after
  · exact hx pins _ _ c t made after
  · cases fl <;> first | exact False.elim after | skip
    obtain ⟨_, H2, J, rv, rfl, fin⟩ := made.after after
    exact ⟨rv, V.ref _, H2, J, rfl, fin⟩
theorem rd_make {S : Sx} {W : WX} {C : Addr} {t : TA} (hc : S.cA c = some C) (q' : RdG S (RVs S) W t mr) : RdG S (RV S) W (tMakeS C (spM S mf) (WE W) t) (mMake c mf mr) :=
  fun w0 w env h σ Q rl po => q' w0 w env h σ _ rl (PostE.bind po fun xs h1 w1 vs s1 d1 p1 po1 x dx zx zd ne => by
    have st := Step.insMade (w := w1) (C := C) zx zd
    refine ⟨w1.ins x dx C, h1 ++ [.ins c [] []], .ref h1.length :: xs, rfl, (d1.insMade hc zx zd).nul, .cons (.ref ?_) (st.prs p1), ?_⟩
    · show (w1.ad ++ [x])[h1.length]? = some x
      rw [← d1.len, List.getElem?_append_right (Nat.le_refl _), Nat.sub_self]; rfl
    · cases e : mf (.ref h1.length :: xs) (h1 ++ [.ins c [] []]) with
      | no => rw [e] at po1; exact po1
      | er x h' => rw [e] at po1; exact fun w' cls d s dd => po1 w' cls d (st.trans s) dd.unnul
      | ok y h' =>
        rw [e] at po1
        intro w' v s d r
        cases y with
        | non =>
          cases r
          refine ⟨rfl, po1 w' (.ref x) (st.trans s) d.unnul (.ref (s.ix _ _ ?_))⟩
          show (w1.ad ++ [x])[h1.length]? = some x
          rw [← d1.len, List.getElem?_append_right (Nat.le_refl _), Nat.sub_self]; rfl
        | _ => exact po1.elim)
theorem se_make (ok : F.Ok) (G : MakeOk F.P F.w F.K F.mg F.base F.cA k c ps mf) (hk : k + 1 ≤ F.k) (ha : SA F (e :: es) mr) (hg : ∀ i, Gl (F.X i) c := by intro _; rfl) (hdb : (c == ("__debug__" : Str)) = false := by decide)
    (he : ∀ i, starEach (e :: es) (F.X i).env = (false, eval e (F.X i).env) :: starEach es (F.X i).env := by intro _; rfl) (hpl : ∀ i, (backTo pos (starEach es (F.X i).env)).any (·.1) = false := by intro _; rfl) :
    SE F (.Call (.Name c p) (e :: es) [] pos) (mMake c mf mr) := by
  obtain ⟨C, f, fd, g, hm, ca, M, b⟩ := G.ex
  obtain ⟨t, pa, q⟩ := ha
  refine ⟨fun W => tMakeS C (spM F.S mf) (WE W) (t W), fun i => ⟨fun pins s σ H Q I h => ?_⟩, fun W => rd_make ca (q W)⟩
  refine wpAny_Call_Name_kw (ld_glob I (hg i) hm ?_ hdb)
  refine PySem.W.callWith_K (h₀ := (F.X i).base) I.ok.mod.kin M.kp (thn ((pa i).run pos pins s σ H _ I h) fun us s1 ⟨vs, H1, I1, r, q⟩ => ⟨I1.kIn, ?_⟩) (he i) (hpl i)
  exact run_makeS M g ((ok.hr i).mono hk) b (passAt (ok.tk i) σ) I1 r q
theorem se_make0 (ok : F.Ok) (G : MakeOk F.P F.w F.K F.mg F.base F.cA k c ps mf) (hk : k + 1 ≤ F.k) (hg : ∀ i, Gl (F.X i) c := by intro _; rfl) (hdb : (c == ("__debug__" : Str)) = false := by decide) :
    SE F (.Call (.Name c p) [] [] pos) (mMake c mf mNil) := by
  obtain ⟨C, f, fd, g, hm, ca, M, b⟩ := G.ex
  refine ⟨fun W => tMakeS C (spM F.S mf) (WE W) tNil, fun i => ⟨fun pins s σ H Q I h => ?_⟩, fun W => rd_make ca fun w0 w env h σ Q rl po => PostE.fin po rl.hd .nil⟩
  refine wpAny_Call_Name_kw (ld_glob I (hg i) hm ?_ hdb)
  exact PySem.W.callWith_K0 I.kIn M.kp (run_makeS (us := []) M g ((ok.hr i).mono hk) b (passAt (ok.tk i) σ) I .nil h)
end
end Mir

set_option Elab.async false
set_option linter.all false
set_option maxRecDepth 100000
set_option maxHeartbeats 1000000
/-! MirJ: own.extend(tuple or list) -/
namespace Mir
open PySem PySem.Spec PyProof.Rows L2
/-- own.extend(b): b's object, a list or a tuple -/
def Grown (l b : Addr) (old more : Array Value) (cb : Value) (n2 : Nat) (d : Option Addr) (sl : Array (Option Value)) (n : Nat) : PySem.Spec := fun _ post s =>
  s.heap.get? l = some ⟨.type "list", none, .seq old n, #[]⟩ ∧ s.heap.get? b = some ⟨cb, d, .seq more n2, sl⟩ ∧
    post (.ok (.ret Value.none)) { s with heap := s.heap.update l (Obj.mapSeq (· ++ more)) }
theorem grow_fit {old more : Array Value} (fit : old.size + more.size ≤ sizeLine) : (old ++ more).size ≤ sizeLine + 1 ∧ old.size ≤ sizeLine ∧ (!old.isEmpty && Builtin.List.listTooLong (old.size + more.size)) = false := by
  refine ⟨?_, by omega, ?_⟩
  · rw [Array.size_append]
    omega
  · simp only [notLongL fit, Bool.and_false]
theorem extendT {l b : Addr} {old more : Array Value} {n n2 : Nat} {d : Option Addr} {sl : Array (Option Value)} (fit : old.size + more.size ≤ sizeLine) :
    Meets (Builtin.«list.extend» ⟨[.ref l, .ref b], []⟩) (Grown l b old more (.type "tuple") n2 d sl n) := by
  refine .of_wp ?_
  rintro prog w A post ⟨m, gl, dp, tk, ou⟩ ⟨at_l, at_b, fin⟩
  obtain ⟨new_fit, old_fit, short⟩ := grow_fit fit
  have long : ¬ (!old.isEmpty && Builtin.List.listTooLong (old.size + more.size)) = true := by rw [short]; nofun
  have i1 := AutoSeq1.sub_tuple_list
  have i2 := AutoSeq1.sub_tuple_tuple
  have i3 := AutoSeq1.sub_list_list
  wp_walk using (wpAny_updateSeq at_l rfl (hz := old_fit) (_hz' := new_fit)), AutoSeq1.wpAny_loadPart' at_b, AutoSeq1.wpAny_loadPart' at_l
  exact ⟨_, rfl, fin⟩
theorem extendL {l b : Addr} {old more : Array Value} {n n2 : Nat} {d : Option Addr} {sl : Array (Option Value)} (fit : old.size + more.size ≤ sizeLine) :
    Meets (Builtin.«list.extend» ⟨[.ref l, .ref b], []⟩) (Grown l b old more (.type "list") n2 d sl n) := by
  refine .of_wp ?_
  rintro prog w A post ⟨m, gl, dp, tk, ou⟩ ⟨at_l, at_b, fin⟩
  obtain ⟨new_fit, old_fit, short⟩ := grow_fit fit
  have long : ¬ (!old.isEmpty && Builtin.List.listTooLong (old.size + more.size)) = true := by rw [short]; nofun
  have i1 := AutoSeq1.sub_list_tuple
  have i2 := AutoSeq1.sub_list_list
  wp_walk using (wpAny_updateSeq at_l rfl (hz := old_fit) (_hz' := new_fit)), AutoSeq1.wpAny_loadPart' at_b, AutoSeq1.wpAny_loadPart' at_l
  exact ⟨_, rfl, fin⟩
def rExtG (K : PySem.W.Frag) : V → List V → Hp → VK → Prop := fun x vs H Q => ∃ l b xs zs, x = .ref l ∧ vs = [.ref b] ∧ H l = some (.lst xs) ∧ (SqT K H b zs ∨ SqL K H b zs) ∧ xs.length + zs.length ≤ sizeLine ∧ Q .non (upd H l (.lst (xs ++ zs)))
theorem mt_extG {X : Cx} : MtM X "list.extend" (rExtG X.K) := by
  rintro pins s σ H _ _ v us Q I rx rv ⟨l, b, xs, zs, rfl, rfl, at_H, more, fit, q⟩
  cases rx
  obtain ⟨u, rfl, ru⟩ := rv.one
  cases ru
  obtain ⟨_, its, n, r, len, at_l⟩ := I.lstM at_H
  have isL : s.TypeIs (.ref l) "list" := ⟨_, at_l, rfl⟩
  have ready : ∀ ws, Vals zs ws → EP X pins σ Q .none { s with heap := s.heap.update l (Obj.mapSeq (· ++ ws.toArray)) } ∧ its.toArray.size + ws.toArray.size ≤ sizeLine := by
    intro ws rw_
    have ends : (its ++ ws).length ≤ sizeLine := by rw [List.length_append, ← r.length, ← rw_.length]; exact fit
    refine ⟨⟨.non, _, I.lset (its' := its ++ ws) at_H at_l (by simp) (r.append rw_) (by simpa using fit), rfl, q⟩, ?_⟩
    simpa using ends
  rcases more with sq | sq
  · obtain ⟨ws, rw_, ⟨ob, at_b, isT, n2, dat⟩, _⟩ := I.tuple sq
    cases ob
    cases isT
    cases dat
    exact call_meets PySem.F.slot_list_extend isL PySem.F.entry_list_extend (PySem.F.args_list_extend_2 _ _) (extendT (ready ws rw_).2) ⟨at_l, at_b, (ready ws rw_).1⟩
  · obtain ⟨ws, rw_, ⟨ob, n2, at_b, isL2, no, dat⟩, _⟩ := I.list sq
    cases ob
    cases isL2
    cases no
    cases dat
    exact call_meets PySem.F.slot_list_extend isL PySem.F.entry_list_extend (PySem.F.args_list_extend_2 _ _) (extendL (ready ws rw_).2) ⟨at_l, at_b, (ready ws rw_).1⟩
def mExt (i : Nat) (m : ME) : MS := fun env h => match env[i]? with
  | some (.own (.lst xs)) => ofE (m env h) env fun x h => match x with
    | .tup ys => if xs.length + ys.length ≤ 16777216 then .nx (env.set i (.own (.lst (xs ++ ys)))) h else .no
    | .lst ys => if xs.length + ys.length ≤ 16777216 then .nx (env.set i (.own (.lst (xs ++ ys)))) h else .no
    | _ => .no
  | _ => .no
section
variable {F : Fam} {e : Expr} {m : ME} {p apos cpos pos : Pos}
theorem ss_ext (i : Nat) {x : Str} (a : SB F e m) (hN : F.N[i]? = some x := by rfl) (hv : ∀ j, Vis (F.env j).scope x := by first | exact fun _ => Or.inl rfl | exact fun _ => Or.inr (Or.inl rfl) | exact fun _ => Or.inr (Or.inr rfl))
    (hd : (x == ("__debug__" : Str)) = false := by decide) (hcd : (x == ("__classdict__" : Str)) = false := by decide)
    (hst : ∀ j, starEach [e] (F.X j).env = (false, eval e (F.X j).env) :: starEach [] (F.X j).env := by intro _; rfl)
    (hs : ∀ j, swapsWith (.Call (.Attribute (.Name x p) "extend" apos) [e] [] cpos) none pos.line (F.X j).env = pure false := by intro _; rfl)
    (hm : ∀ j, PE (F.X j) (.Name x p) (tVar i) → PA (F.X j) [e] (tCons (Classical.choose a (F.W j)) tNil) → PE (F.X j) (.Call (.Attribute (.Name x p) "extend" apos) [e] [] cpos) (tBM F.K "list" (rExtG F.K) (tVar i) (tCons (Classical.choose a (F.W j)) tNil)) := by exact fun j h1 h2 => pe_bm PySem.F.plainAttrs_list PySem.F.slot_list_extend PySem.F.type_list_extend mt_extG h1 h2) :
    SS F (.Expr (.Call (.Attribute (.Name x p) "extend" apos) [e] [] cpos) pos) (mExt i m) := by
  have hp := (Classical.choose_spec a).1
  have hq := (Classical.choose_spec a).2
  refine ⟨fun W => tDrop (tBM F.K "list" (rExtG F.K) (tVar i) (tCons (Classical.choose a W) tNil)), fun j => ps_expr (hm j (pe_var (X := F.X j) hN (hv j) hd hcd) (pa_cons (hp j) pa_nil (hst j))) (hs j), fun W w0 w env h σ D rl po => ?_⟩
  unfold mExt at po
  split at po
  · rename_i xs ee
    obtain ⟨a1, e1, ⟨vs, ea, rs⟩, f, n, z⟩ := rl.sl.own i _ ee
    refine ⟨_, e1, .inl ⟨rfl, _, SqL.of ea⟩, ?_⟩
    refine hq W w0 w env h σ _ rl (PostS.ofE rl po fun y h1 w1 v s d r p1 => ?_)
    have rl1 := rl.step s d
    obtain ⟨a2, e2, ⟨vs2, ea2, rs2⟩, f2, n2, z2⟩ := rl1.sl.own i _ ee
    rw [e1] at e2
    cases e2
    cases y with
    | tup ys =>
      simp only at p1
      split at p1
      · rename_i hz
        obtain ⟨b, us, rfl, hb, rb⟩ := r.ofTup d
        refine ⟨a1, b, vs2, us, rfl, rfl, ea2, .inl hb, by rw [← rs2.length, ← rb.length, sizeLine_eq]; exact hz, ?_⟩
        exact p1 ⟨w1.Φ, upd w1.H a1 (.lst (vs2 ++ us)), w1.ad⟩ σ ⟨fun _ _ q => q, fun _ _ q => q⟩ (rl1.chg ee e1 (rs2.append rb))
      · exact p1.elim
    | lst ys =>
      simp only at p1
      split at p1
      · rename_i hz
        obtain ⟨b, us, rfl, hb, rb⟩ := r.ofLst d
        refine ⟨a1, b, vs2, us, rfl, rfl, ea2, .inr hb, by rw [← rs2.length, ← rb.length, sizeLine_eq]; exact hz, ?_⟩
        exact p1 ⟨w1.Φ, upd w1.H a1 (.lst (vs2 ++ us)), w1.ad⟩ σ ⟨fun _ _ q => q, fun _ _ q => q⟩ (rl1.chg ee e1 (rs2.append rb))
      · exact p1.elim
    | _ => exact p1.elim
  · exact po.elim
end
/-! ### facts of a class by what k_is finds -/
def cAof (mg : Str → Option Value) : Str → Option Addr := fun c => match mg c with
  | some (.ref C) => some C
  | _ => none
theorem cAof_of {mg : Str → Option Value} {c : Str} {C : Addr} (e : mg c = some (.ref C)) : cAof mg c = some C := by unfold cAof; rw [e]
def NoAttrs (K : PySem.W.Frag) (C : Addr) : List Str → Prop
  | [] => True
  | f :: fs => PySem.W.findIn K (.ref C) f = some none ∧ NoAttrs K C fs
theorem NoAttrs.all {K : PySem.W.Frag} {C : Addr} : ∀ {fs : List Str}, NoAttrs K C fs → ∀ f ∈ fs, NoAttr K C f
  | [], _, f, h => by simp at h
  | g :: gs, ⟨a, b⟩, f, h => by
    rcases List.mem_cons.mp h with e | h
    · subst e; exact a
    · exact NoAttrs.all b f h
section
variable {K : PySem.W.Frag} {mg : Str → Option Value} {h : Heap} {c m qual : Str} {C f : Addr} {fs : List Str} {st : Stmt}
theorem clsAt_mk (X : K.In h) (G : h.Ns mainGlobals mg) (a : PySem.W.nsIn K mainGlobals c = some (some (.ref C))) (pg : PySem.W.plainGet K C Str.empty = true) (hd : PySem.W.hasDictIn K C = true) (po : PySem.W.plainOver K C = true)
    (sa : PySem.W.findIn K (.ref C) "__setattr__" = some (some (.builtin "object.__setattr__"))) (na : NoAttrs K C fs) : ClsAt K mg (cAof mg) c fs :=
  ⟨C, PySem.W.mg_of X G a, cAof_of (PySem.W.mg_of X G a), ⟨pg, hd, po, sa⟩, na.all⟩
theorem methAt_mk {oc : Value} {od an : Option Addr} {osl : Array (Option Value)} {kV doc pm cdv ct : Value} (X : K.In h) (G : h.Ns mainGlobals mg) (a : PySem.W.nsIn K mainGlobals c = some (some (.ref C)))
    (b : PySem.W.findIn K (.ref C) m = some (some (.ref f))) (i : PySem.W.isFn K (.ref f) = true)
    (l : K.lookup f = some ⟨oc, od, .func (PySem.W.fnOf m qual (defArgs st) (defBody st) (defScope st) .none kV doc pm an cdv ct), osl⟩) (cd : PySem.W.codeIn K cdv qual = true) (kp : PySem.W.keepIn K (.ref f) = true) : MethAt K mg c m qual st :=
  ⟨C, f, _, PySem.W.mg_of X G a, fun_mk l cd kp, ⟨b, i, kp⟩⟩
theorem makeAt_mk {oc : Value} {od an : Option Addr} {osl : Array (Option Value)} {kV doc pm cdv ct : Value} (X : K.In h) (G : h.Ns mainGlobals mg) (a : PySem.W.nsIn K mainGlobals c = some (some (.ref C)))
    (b : PySem.W.findIn K (.ref C) "__init__" = some (some (.ref f))) (i : PySem.W.isFn K (.ref f) = true) (mk : PySem.W.makesIn K C = true) (kc : PySem.W.keepIn K (.ref C) = true)
    (l : K.lookup f = some ⟨oc, od, .func (PySem.W.fnOf "__init__" qual (defArgs st) (defBody st) (defScope st) .none kV doc pm an cdv ct), osl⟩) (cd : PySem.W.codeIn K cdv qual = true) (kp : PySem.W.keepIn K (.ref f) = true) : MakeAt K mg c qual st :=
  ⟨C, f, _, PySem.W.mg_of X G a, fun_mk l cd kp, ⟨mk, b, i, kc⟩⟩
/-- the classes of an attribute -/
theorem cl_nil {cA : Str → Option Addr} {f : Str} : ∀ c ∈ ([] : List Str), ∃ fs, ClsAt K mg cA c fs ∧ f ∈ fs := fun c h => by simp at h
theorem cl_cons {cA : Str → Option Addr} {f c0 : Str} {cs : List Str} (k : Nat) (A : ClsAt K mg cA c0 fs) (r : ∀ c ∈ cs, ∃ fs, ClsAt K mg cA c fs ∧ f ∈ fs) (hk : fs[k]? = some f := by rfl) : ∀ c ∈ c0 :: cs, ∃ fs, ClsAt K mg cA c fs ∧ f ∈ fs := fun c h => by
  rcases List.mem_cons.mp h with e | h
  · subst e; exact ⟨fs, A, List.mem_of_getElem? hk⟩
  · exact r c h
end
end Mir

set_option Elab.async false
set_option linter.all false
set_option maxRecDepth 100000
set_option maxHeartbeats 1000000
/-! MirL: x is True, x is not True -/
namespace Mir
open PySem PySem.Spec PyProof.Rows L2
def oIsBG (neg : Bool) : PV → PV → Hh → Res PV := fun x y h => match x, y with
  | .bl a, .bl b => .ok (.bl (if neg then !(decide (a = b)) else decide (a = b))) h
  | _, _ => .no
theorem sim_isB {S : Sx} : Sim2 S (fun x y H Q => ∃ a b, x = .bl a ∧ y = .bl b ∧ Q (.bl (decide (a = b))) H) (oIsBG false) := by
  intro W σ w h x y v u Q d px py po
  unfold oIsBG at po
  split at po
  · rename_i a b
    exact ⟨a, b, px.ofBl, py.ofBl, po.fin d (.bl _)⟩
  · exact po.elim
theorem sim_isNotB {S : Sx} : Sim2 S (fun x y H Q => ∃ a b, x = .bl a ∧ y = .bl b ∧ Q (.bl (!decide (a = b))) H) (oIsBG true) := by
  intro W σ w h x y v u Q d px py po
  unfold oIsBG at po
  split at po
  · rename_i a b
    exact ⟨a, b, px.ofBl, py.ofBl, po.fin d (.bl _)⟩
  · exact po.elim
variable {F : Fam}
theorem c_isB : CmpOk F .Is (oIsBG false) := ⟨_, sim_isB, fun _ => op_is_bl⟩
theorem c_isNotB : CmpOk F .IsNot (oIsBG true) := ⟨_, sim_isNotB, fun _ => op_isnot_bl⟩
@[simp] theorem isB_bl (a b : Bool) (h : Hh) : oIsBG false (.bl a) (.bl b) h = .ok (.bl (decide (a = b))) h := id rfl
@[simp] theorem isNotB_bl (a b : Bool) (h : Hh) : oIsBG true (.bl a) (.bl b) h = .ok (.bl (!decide (a = b))) h := id rfl
end Mir

set_option Elab.async false
set_option linter.all false
set_option maxRecDepth 100000
set_option maxHeartbeats 1000000
/-! MirX: raise of own classes, try .. except -/
namespace Mir
open PySem PySem.Spec PyProof.Rows L2

/-! ### raise C() -/
abbrev bmVE : List Value := [.type "ValueError", .type "Exception", .type "BaseException", .type "object"]
structure ExcAt (K : PySem.W.Frag) (mg : Str → Option Value) (cA : Str → Option Addr) (c : Str) : Prop where
  ex : ∃ C, mg c = some (.ref C) ∧ cA c = some C ∧ PySem.W.excIn K C bmVE "ValueError.__new__" = true ∧ PySem.W.keepIn K (.ref C) = true ∧ PySem.W.subIn K (.ref C) (.type "BaseException") = some true ∧ PySem.W.typeIn K (.ref C) = some (.type "type") ∧ PySem.W.isClsIn K C = true
theorem pmk_own0 {X : Cx} {C : Addr} {bmB : List Value} {B newId initId : String} {x : Str} {p pos : Pos} (F : ExcBaseFacts B newId initId bmB) (q : PySem.W.excIn X.K C bmB newId = true) (gC : X.mg x = some (.ref C)) (kC : PySem.W.keepIn X.K (.ref C) = true) (r : Raises X (.ref C)) (hg : Gl X x)
    (hdb : (x == ("__debug__" : Str)) = false := by decide) : PMk X (.Call (.Name x p) [] [] pos) (fun _ H Q => Q (.ref C) none H) := by
  intro pins s σ H Q I h
  refine wpAny_Call_Name_kw (ld_glob I hg gC ?_ hdb)
  refine PySem.W.callWith_K0 I.kIn kC ?_
  show wpAny _ _ (PySem.call (.ref C) []) _ _ _
  obtain ⟨bm, N, nm, qn, bs, hdct, sn, sub, ab, col, dd, k0, k1, k2, k3, k5, mN, hC, hN, hni, T⟩ := exc_obj I.kIn q
  refine wpAny_call_exc_subT F T hC hN hni (fun h' e hm => ?_) (by show 0 ≤ sizeLine; rw [sizeLine_eq]; omega)
  exact mk_of I hm r h (I.hok.gone hm.new)
def mRaise (c : Str) : MS := fun env h => .er ⟨c, [], []⟩ env h
section
variable {F : Fam} {c : Str} {p pos pos' : Pos}
theorem ss_raise (hc : F.calm = true) (ok : F.Ok) (E : ExcAt F.K F.mg F.cA c) (hg : ∀ i, Gl (F.X i) c := by intro _; rfl) (hdb : (c == ("__debug__" : Str)) = false := by decide) : SS F (.Raise (some (.Call (.Name c p) [] [] pos')) none pos) (mRaise c) := by
  obtain ⟨C, gC, ca, xC, kC, bC, tC', _⟩ := E.ex
  exact ⟨fun W => fun _ σ H => W (.ref C) none σ H, fun i => ps_raise (X := F.X i) hc (ok.tk i) (pmk_own0 PySem.F.excBase_ValueError xC gC kC (raises_own bC tC') (hg i) hdb),
    fun W w0 w env h σ D rl po => po w σ (.ref C) none (Ext.refl w) rl ⟨C, ca, rfl, .inl ⟨rfl, rfl⟩⟩⟩
end

/-! ### try -/
structure TrIx (F : Fam) where
  i : F.ι
  pn : List (Addr × Obj)
  xe : Value → Shared → Prop
  W : WX
  tk : Takes ((F.X i).tr pn xe) W
  po : PassesOwn (model F.P F.w) (F.A i) (F.env i) xe
def Fam.tr (F : Fam) : Fam where
  ι := TrIx F
  P := F.P
  w := F.w
  K := F.K
  mg := F.mg
  base := F.base
  N := F.N
  calm := F.calm
  cA := F.cA
  ea := F.ea
  ed := F.ed
  k := F.k
  A := fun j => F.A j.i
  s0 := fun j => F.s0 j.i
  H0 := fun j => F.H0 j.i
  env := fun j => F.env j.i
  outer := fun j => F.outer j.i
  stack := fun j => F.stack j.i
  ex := fun j => F.ex j.i
  fn := fun j => F.fn j.i
  pn := fun j => j.pn
  xe := fun j => j.xe
  W := fun j => j.W
theorem Fam.tr_ok {F : Fam} (ok : F.Ok) : F.tr.Ok where
  tk := fun j => j.tk
  hr := fun j => ok.hr j.i
  nd := ok.nd
  po := fun j => j.po
def Fam.su (F : Fam) (a : Addr) (oe : Obj) (d : Option Addr) : Fam where
  ι := F.ι × List (Addr × Obj)
  P := F.P
  w := F.w
  K := F.K
  mg := F.mg
  base := F.base
  N := F.N
  calm := false
  cA := F.cA
  ea := a
  ed := d
  k := F.k
  A := fun j => (F.A j.1).mark (some (.ref a))
  s0 := fun j => F.s0 j.1
  H0 := fun j => F.H0 j.1
  env := fun j => F.env j.1
  outer := fun j => F.outer j.1
  stack := fun j => F.stack j.1
  ex := fun j => F.ex j.1
  fn := fun j => F.fn j.1
  pn := fun j => (a, oe) :: j.2
  xe := fun _ _ _ => False
  W := fun _ _ _ _ _ => False
/-- a suite for an exception of one of the classes cs -/
def SSu (F : Fam) (cs : List Str) (sts : List Stmt) (ms : Xn → MS) : Prop :=
  ∀ (x : Xn), x.c ∈ cs → ∀ (C : Addr), F.cA x.c = some C → ∀ (a : Addr) (oe : Obj) (d : Option Addr), Zc (.ref C) d oe → (∃ vs, oe.data = .fields vs) → SSs (F.su a oe d) sts (ms x)
/-- except c: the classes cs are caught, the classes no are not -/
structure CatchAt (K : PySem.W.Frag) (mg : Str → Option Value) (cA : Str → Option Addr) (c : Str) (cs no : List Str) : Prop where
  ex : ∃ C, mg c = some (.ref C) ∧ (∀ c' ∈ cs, ∀ C', cA c' = some C' → PySem.W.exmOne K (.ref C') (.ref C) = some true) ∧ (∀ c' ∈ no, ∀ C', cA c' = some C' → PySem.W.exmOne K (.ref C') (.ref C) = some false)
def isEx : SV → Bool
  | .ex _ => true
  | _ => false
def noEx (env : En) : Bool := !(env.any isEx)
def mTryAs (cs no : List Str) (i : Nat) (mb : MS) (ms : Xn → MS) : MS := fun env h => match mb env h with
  | .er x env' h' => if x.c ∈ cs then (if noEx env' = true then (match ms x (env'.set i (.ex x)) h' with
      | .nx e2 h2 => if noEx (e2.set i .un) = true then .nx (e2.set i .un) h2 else .no
      | .rt v h2 => .rt v h2
      | .bk e2 h2 => if noEx (e2.set i .un) = true then .bk (e2.set i .un) h2 else .no
      | .ct e2 h2 => if noEx (e2.set i .un) = true then .ct (e2.set i .un) h2 else .no
      | _ => .no) else .no) else if x.c ∈ no then .er x env' h' else .no
  | r => r
def mTry (cs no : List Str) (mb : MS) (ms : Xn → MS) : MS := fun env h => match mb env h with
  | .er x env' h' => if x.c ∈ cs then (if noEx env' = true then (match ms x env' h' with
      | .nx e2 h2 => if noEx e2 = true then .nx e2 h2 else .no
      | .rt v h2 => .rt v h2
      | .bk e2 h2 => if noEx e2 = true then .bk e2 h2 else .no
      | .ct e2 h2 => if noEx e2 = true then .ct e2 h2 else .no
      | _ => .no) else .no) else if x.c ∈ no then .er x env' h' else .no
  | r => r
theorem noEx_at {env : En} (h : noEx env = true) {i : Nat} {x : Xn} (e : env[i]? = some (.ex x)) : False := by
  unfold noEx at h
  have : env.any isEx = true := List.any_eq_true.mpr ⟨_, List.mem_of_getElem? e, rfl⟩
  rw [this] at h; cases h
theorem Rl.conv {S S' : Sx} {w0 w : Wd} {env : En} {h : Hh} {σ : L2.St} (hK : S.K = S'.K) (hc : S.cA = S'.cA) (r : Rl S w0 w env h σ) (q : ∀ (i : Nat) (x : Xn), env[i]? = some (.ex x) → σ[i]? = some (some (.ref S'.ea)) ∧ XD S' w S'.ed x) : Rl S' w0 w env h σ := by
  refine ⟨r.st, r.hd.conv hK hc, r.sl.len, fun i x e => ?_, fun i o e => ?_, r.sl.sep, q⟩
  · obtain ⟨v, e1, e2⟩ := r.sl.slot i x e
    exact ⟨v, e1, by unfold PW'; rw [← hK]; exact e2⟩
  · obtain ⟨a, e1, ro, f, n, z⟩ := r.sl.own i o e
    exact ⟨a, e1, ro.conv hK hc, f, n, z⟩
theorem Sl.put_ex {S : Sx} {w0 w : Wd} {env : En} {σ : L2.St} (s : Sl S w0 w env σ) (i : Nat) {x : Xn} (hx : XD S w S.ed x) : Sl S w0 w (env.set i (.ex x)) (σ.set i (some (.ref S.ea))) := by
  refine ⟨by simp [s.len], fun j y e => ?_, fun j o e => ?_, fun j k o o' a e1 e2 f1 f2 => ?_, fun j y e => ?_⟩
  · rcases set_get _ _ _ _ e with ⟨rfl, e1, hl⟩ | ⟨hj, e1⟩
    · cases e1
    · rw [List.getElem?_set_ne (Ne.symm hj)]; exact s.slot j y e1
  · rcases set_get _ _ _ _ e with ⟨rfl, e1, hl⟩ | ⟨hj, e1⟩
    · cases e1
    · rw [List.getElem?_set_ne (Ne.symm hj)]; exact s.own j o e1
  · rcases set_get _ _ _ _ e1 with ⟨rfl, g, hl⟩ | ⟨hj, g⟩
    · cases g
    · rcases set_get _ _ _ _ e2 with ⟨rfl, g2, hl⟩ | ⟨hk, g2⟩
      · cases g2
      · rw [List.getElem?_set_ne (Ne.symm hj)] at f1
        rw [List.getElem?_set_ne (Ne.symm hk)] at f2
        exact s.sep j k o o' a g g2 f1 f2
  · rcases set_get _ _ _ _ e with ⟨rfl, e1, hl⟩ | ⟨hj, e1⟩
    · cases e1
      exact ⟨by rw [List.getElem?_set_self (by rw [← s.len]; exact hl)], hx⟩
    · rw [List.getElem?_set_ne (Ne.symm hj)]; exact s.exq j y e1
theorem XD.conv {S S' : Sx} {w : Wd} {d : Option Addr} {x : Xn} (hK : S.K = S'.K) (h : XD S w d x) : XD S' w d x := by
  rcases h with h | ⟨dd, vs, e1, e2, e3, e4, e5⟩
  · exact .inl h
  · exact .inr ⟨dd, vs, e1, e2, e3, e4, by unfold PWs; rw [← hK]; exact e5⟩
section
variable {F : Fam} {c n : Str} {cs no : List Str} {i : Nat} {body suite : List Stmt} {b0 : Stmt} {np pos pos' : Pos} {mb : MS} {ms : Xn → MS}
/-- the reading of a suite for whatever exception -/
def tSu (F : Fam) (cs : List Str) (sts : List Stmt) (ms : Xn → MS) (hs : SSu F cs sts ms) (a : Addr) (cls : Value) (d : Option Addr) : TS := fun D σ H =>
  ∃ (x : Xn) (C : Addr) (hx : x.c ∈ cs) (hC : F.cA x.c = some C), cls = .ref C ∧ ∀ (oe : Obj) (hz : Zc (.ref C) d oe) (hf : ∃ vs, oe.data = .fields vs), Classical.choose (hs x hx C hC a oe d hz hf) (fun _ _ _ _ => False) D σ H
theorem pss_su (hs : SSu F cs (b0 :: suite) ms) (i : F.ι) (a : Addr) (oe : Obj) (cls : Value) (d : Option Addr) (pn : List (Addr × Obj)) (hz : Zc cls d oe) (hf : ∃ vs, oe.data = .fields vs) : PSs ((F.X i).suite a ((a, oe) :: pn)) (b0 :: suite) (tSu F cs (b0 :: suite) ms hs a cls d) := by
  refine ⟨fun pins s σ H D I h => ?_⟩
  obtain ⟨x, C, hx, hC, rfl, h⟩ := h
  exact ((Classical.choose_spec (hs x hx C hC a oe d hz hf)).1 (i, pn)).run pins s σ H D I (h oe hz hf)
theorem ss_tryAs (ok : F.Ok) (cat : CatchAt F.K F.mg F.cA c cs no) (hb : SSs F.tr body mb) (hs : SSu F cs (b0 :: suite) ms)
    (hst : ∀ i, F.stack i = F.env i :: F.outer i := by intro _; rfl) (hfr : ∀ i, (F.env i).frame = some (F.env i).locals := by intro _; rfl) (hi : F.N[i]? = some n := by rfl) (hln : ∀ j, (F.env j).kindOf n = some .local := by intro _; rfl)
    (hg : ∀ i, Gl (F.X i) c := by intro _; rfl) (hdb : (c == ("__debug__" : Str)) = false := by decide) :
    SS F (.Try body [.ExceptHandler (some (.Name c np)) (some n) (b0 :: suite) pos'] [] [] pos) (mTryAs cs no i mb ms) := by
  obtain ⟨C, gC, yes, nay⟩ := cat.ex
  obtain ⟨tb, pb, qb⟩ := hb
  refine ⟨fun W => fun D σ H => tb (wAs F.K (.ref C) i (tSu F cs (b0 :: suite) ms hs) W D) D σ H, fun j => ps_try_as (X := F.X j) (hst j) (hfr j) ok.nd hi (hln j) ⟨hg j, hdb, .inl gC⟩ (ok.tk j)
    (fun W pn xe tk po => pb ⟨j, pn, xe, W, tk, po⟩) (fun a oe cls d pn hz hf => pss_su hs j a oe cls d pn hz hf), fun W w0 w env h σ D rl po => ?_⟩
  refine qb _ w0 w env h σ D rl ?_
  unfold mTryAs at po
  cases em : mb env h with
  | nx env' h' => rw [em] at po; exact po
  | rt v h' => rw [em] at po; exact po
  | bk env' h' => rw [em] at po; exact po
  | ct env' h' => rw [em] at po; exact po
  | no => rw [em] at po; exact po
  | er x env' h' =>
    rw [em] at po
    simp only at po
    intro w' σ' cls d xt rl' ⟨Cx, cx, ec, xd⟩
    subst ec
    split at po
    · rename_i hx
      split at po
      · rename_i hne
        refine ⟨true, yes x.c hx Cx cx, fun _ a na => ⟨x, Cx, hx, cx, rfl, fun oe hz hf => ?_⟩, fun q => Bool.noConfusion q⟩
        refine (Classical.choose_spec (hs x hx Cx cx a oe d hz hf)).2 (fun _ _ _ _ => False) w0 w' (env'.set i (.ex x)) h' _ _ ⟨rl'.st, (rl'.hd.conv (S := F.S) (S' := (F.su a oe d).S) rfl rfl), Sl.put_ex (S := (F.su a oe d).S) ?_ i (xd.conv (S := F.S) (S' := (F.su a oe d).S) rfl)⟩ ?_
        · exact (Rl.conv (S := F.S) (S' := (F.su a oe d).S) rfl rfl rl' fun j y e => (noEx_at hne e).elim).sl
        · cases es : ms x (env'.set i (.ex x)) h' with
          | nx e2 h2 =>
            rw [es] at po; simp only at po
            split at po
            · rename_i hn2
              exact fun w2 σ2 x2 r2 => po w2 (σ2.set i none) (xt.trans x2) (Rl.conv (S := (F.su a oe d).S) (S' := F.S) rfl rfl ⟨r2.st, r2.hd, r2.sl.un i⟩ fun j y e => (noEx_at hn2 e).elim)
            · exact po.elim
          | rt v h2 =>
            rw [es] at po
            exact fun w2 v2 s2 d2 p2 => po w2 v2 s2 (d2.conv (S := (F.su a oe d).S) (S' := F.S) rfl rfl) p2
          | bk e2 h2 =>
            rw [es] at po; simp only at po
            split at po
            · rename_i hn2
              exact fun w2 σ2 x2 r2 => po w2 (σ2.set i none) (xt.trans x2) (Rl.conv (S := (F.su a oe d).S) (S' := F.S) rfl rfl ⟨r2.st, r2.hd, r2.sl.un i⟩ fun j y e => (noEx_at hn2 e).elim)
            · exact po.elim
          | ct e2 h2 =>
            rw [es] at po; simp only at po
            split at po
            · rename_i hn2
              exact fun w2 σ2 x2 r2 => po w2 (σ2.set i none) (xt.trans x2) (Rl.conv (S := (F.su a oe d).S) (S' := F.S) rfl rfl ⟨r2.st, r2.hd, r2.sl.un i⟩ fun j y e => (noEx_at hn2 e).elim)
            · exact po.elim
          | er y e2 h2 => rw [es] at po; exact po.elim
          | no => rw [es] at po; exact po.elim
      · exact po.elim
    · split at po
      · rename_i hx
        exact ⟨false, nay x.c hx Cx cx, fun q => Bool.noConfusion q, fun _ => po w' σ' (.ref Cx) d xt rl' ⟨Cx, cx, rfl, xd⟩⟩
      · exact po.elim
theorem ss_try (ok : F.Ok) (cat : CatchAt F.K F.mg F.cA c cs no) (hb : SSs F.tr body mb) (hs : SSu F cs (b0 :: suite) ms)
    (hst : ∀ i, F.stack i = F.env i :: F.outer i := by intro _; rfl) (hfr : ∀ i, (F.env i).frame = some (F.env i).locals := by intro _; rfl)
    (hg : ∀ i, Gl (F.X i) c := by intro _; rfl) (hdb : (c == ("__debug__" : Str)) = false := by decide) :
    SS F (.Try body [.ExceptHandler (some (.Name c np)) none (b0 :: suite) pos'] [] [] pos) (mTry cs no mb ms) := by
  obtain ⟨C, gC, yes, nay⟩ := cat.ex
  obtain ⟨tb, pb, qb⟩ := hb
  refine ⟨fun W => fun D σ H => tb (wOnly F.K (.ref C) (tSu F cs (b0 :: suite) ms hs) W D) D σ H, fun j => ps_try_only (X := F.X j) (hst j) (hfr j) ⟨hg j, hdb, .inl gC⟩ (ok.tk j)
    (fun W pn xe tk po => pb ⟨j, pn, xe, W, tk, po⟩) (fun a oe cls d pn hz hf => pss_su hs j a oe cls d pn hz hf), fun W w0 w env h σ D rl po => ?_⟩
  refine qb _ w0 w env h σ D rl ?_
  unfold mTry at po
  cases em : mb env h with
  | nx env' h' => rw [em] at po; exact po
  | rt v h' => rw [em] at po; exact po
  | bk env' h' => rw [em] at po; exact po
  | ct env' h' => rw [em] at po; exact po
  | no => rw [em] at po; exact po
  | er x env' h' =>
    rw [em] at po
    simp only at po
    intro w' σ' cls d xt rl' ⟨Cx, cx, ec, xd⟩
    subst ec
    split at po
    · rename_i hx
      split at po
      · rename_i hne
        refine ⟨true, yes x.c hx Cx cx, fun _ a na => ⟨x, Cx, hx, cx, rfl, fun oe hz hf => ?_⟩, fun q => Bool.noConfusion q⟩
        refine (Classical.choose_spec (hs x hx Cx cx a oe d hz hf)).2 (fun _ _ _ _ => False) w0 w' env' h' _ _ (Rl.conv (S := F.S) (S' := (F.su a oe d).S) rfl rfl rl' fun j y e => (noEx_at hne e).elim) ?_
        cases es : ms x env' h' with
        | nx e2 h2 =>
          rw [es] at po; simp only at po
          split at po
          · rename_i hn2
            exact fun w2 σ2 x2 r2 => po w2 σ2 (xt.trans x2) (Rl.conv (S := (F.su a oe d).S) (S' := F.S) rfl rfl r2 fun j y e => (noEx_at hn2 e).elim)
          · exact po.elim
        | rt v h2 =>
          rw [es] at po
          exact fun w2 v2 s2 d2 p2 => po w2 v2 s2 (d2.conv (S := (F.su a oe d).S) (S' := F.S) rfl rfl) p2
        | bk e2 h2 =>
          rw [es] at po; simp only at po
          split at po
          · rename_i hn2
            exact fun w2 σ2 x2 r2 => po w2 σ2 (xt.trans x2) (Rl.conv (S := (F.su a oe d).S) (S' := F.S) rfl rfl r2 fun j y e => (noEx_at hn2 e).elim)
          · exact po.elim
        | ct e2 h2 =>
          rw [es] at po; simp only at po
          split at po
          · rename_i hn2
            exact fun w2 σ2 x2 r2 => po w2 σ2 (xt.trans x2) (Rl.conv (S := (F.su a oe d).S) (S' := F.S) rfl rfl r2 fun j y e => (noEx_at hn2 e).elim)
          · exact po.elim
        | er y e2 h2 => rw [es] at po; exact po.elim
        | no => rw [es] at po; exact po.elim
      · exact po.elim
    · split at po
      · rename_i hx
        exact ⟨false, nay x.c hx Cx cx, fun q => Bool.noConfusion q, fun _ => po w' σ' (.ref Cx) d xt rl' ⟨Cx, cx, rfl, xd⟩⟩
      · exact po.elim
end
end Mir

set_option Elab.async false
set_option linter.all false
set_option maxRecDepth 100000
set_option maxHeartbeats 1000000
/-! MirY: isinstance(e, C) in a suite; the facts of classes of exceptions -/
namespace Mir
open PySem PySem.Spec PyProof.Rows L2
/-- isinstance of an exception of the class c', asked of T -/
structure IsEAt (K : PySem.W.Frag) (mg : Str → Option Value) (cA : Str → Option Addr) (c' T : Str) (b : Bool) : Prop where
  ex : ∃ C' u, cA c' = some C' ∧ ((∃ CT, u = Value.ref CT ∧ mg T = some (.ref CT)) ∨ (∃ n : String, u = Value.type n ∧ mg T = none ∧ bootBuiltins T = some (.type n) ∧ T ≠ "__name__")) ∧ ExcC K C' ∧ PySem.W.kitOne K (.ref C') u = some b
def mIsE (i : Nat) (b : Bool) : ME := fun env h => match env[i]? with
  | some (.ex x) => if x.ns = [] then .ok (.bl b) h else .no
  | _ => .no
section
variable {F : Fam} {T n : Str} {cs : List Str} {p p1 p2 pos : Pos} {x : Xn} {C a : Addr} {oe : Obj} {d : Option Addr} {b : Bool}
theorem se_isE (i : Nat) (hm : F.mg "isinstance" = none) (hI : ∀ c' ∈ cs, IsEAt F.K F.mg F.cA c' T b) (hx : x.c ∈ cs) (hC : F.cA x.c = some C) (hz : Zc (.ref C) d oe) (hf : ∃ vs, oe.data = .fields vs)
    (hN : F.N[i]? = some n := by rfl) (hv : ∀ j, Vis (F.env j).scope n := by first | exact fun _ => Or.inl rfl | exact fun _ => Or.inr (Or.inl rfl) | exact fun _ => Or.inr (Or.inr rfl))
    (hd : (n == ("__debug__" : Str)) = false := by decide) (hcd : (n == ("__classdict__" : Str)) = false := by decide) (hg : ∀ i, Gl (F.X i) "isinstance" := by intro _; rfl) (hg2 : ∀ i, Gl (F.X i) T := by intro _; rfl) (hdT : (T == ("__debug__" : Str)) = false := by decide)
    (hst : ∀ j, starEach [.Name n p1, .Name T p2] (F.X j).env = (false, eval (.Name n p1) (F.X j).env) :: starEach [.Name T p2] (F.X j).env := by intro _; rfl)
    (hst2 : ∀ j, starEach [.Name T p2] (F.X j).env = (false, eval (.Name T p2) (F.X j).env) :: starEach [] (F.X j).env := by intro _; rfl)
    (hpl : ∀ j, (backTo pos (starEach [.Name T p2] (F.X j).env)).any (·.1) = false := by intro _; rfl) :
    SE (F.su a oe d) (.Call (.Name "isinstance" p) [.Name n p1, .Name T p2] [] pos) (mIsE i b) := by
  obtain ⟨C', u, ca, hu, eC, kit⟩ := (hI x.c hx).ex
  rw [hC] at ca; cases ca
  by_cases hd0 : d = none
  · subst hd0
    rcases hu with ⟨CT, rfl, mT⟩ | ⟨nm, rfl, mT, bT, nT⟩
    · refine ⟨fun _ => tCB (rIsE F.K C a) (tCons (tVar i) (tCons (tC (.ref CT)) tNil)), fun j => ?_, fun W w0 w env h σ Q r po => ?_⟩
      · have h1 : PE ((F.su a oe none).X j) (.Name n p1) (tVar i) := pe_var (X := (F.su a oe none).X j) hN (hv j.1) hd hcd
        have h2 : PE ((F.su a oe none).X j) (.Name T p2) (tC (.ref CT)) := pe_glob (X := (F.su a oe none).X j) (v := V.ref CT) (hg2 j.1) mT rfl hdT
        exact pe_callB (X := (F.su a oe none).X j) (call_isE (X := F.X j.1) (pn := j.2) eC hz hf) (hg j.1) hm (by decide +kernel) (pa_cons h1 (pa_cons h2 pa_nil (hst2 j.1)) (hst j.1)) (by decide) (by decide) (hst j.1) (hpl j.1)
      · unfold mIsE at po
        split at po
        · rename_i x e
          split at po
          · exact ⟨.ref a, (r.sl.exq i x e).1, .ref CT, .ref CT, b, rfl, fun u ru => ru, kit, po.fin r.hd (.bl b)⟩
          · exact po.elim
        · exact po.elim
    · refine ⟨fun _ => tCB (rIsE F.K C a) (tCons (tVar i) (tCons (tC (.ty nm)) tNil)), fun j => ?_, fun W w0 w env h σ Q r po => ?_⟩
      · have h1 : PE ((F.su a oe none).X j) (.Name n p1) (tVar i) := pe_var (X := (F.su a oe none).X j) hN (hv j.1) hd hcd
        have h2 : PE ((F.su a oe none).X j) (.Name T p2) (tC (.ty nm)) := pe_bltn (X := (F.su a oe none).X j) (v := V.ty nm) (hg2 j.1) mT bT rfl nT hdT
        exact pe_callB (X := (F.su a oe none).X j) (call_isE (X := F.X j.1) (pn := j.2) eC hz hf) (hg j.1) hm (by decide +kernel) (pa_cons h1 (pa_cons h2 pa_nil (hst2 j.1)) (hst j.1)) (by decide) (by decide) (hst j.1) (hpl j.1)
      · unfold mIsE at po
        split at po
        · rename_i x e
          split at po
          · exact ⟨.ref a, (r.sl.exq i x e).1, .ty nm, .type nm, b, rfl, fun u ru => ru, kit, po.fin r.hd (.bl b)⟩
          · exact po.elim
        · exact po.elim
  · refine ⟨fun _ _ _ _ => False, fun j => ⟨fun _ _ _ _ _ _ h => h.elim⟩, fun W w0 w env h σ Q r po => ?_⟩
    unfold mIsE at po
    split at po
    · rename_i x e
      split at po
      · rename_i hn
        rcases (r.sl.exq i x e).2 with ⟨_, k⟩ | ⟨dd, vs, k, ⟨k2, _⟩, _⟩
        · exact hd0 k
        · exact k2 hn
      · exact po.elim
    · exact po.elim
end
/-! ### facts by what k_is finds -/
section
variable {K : PySem.W.Frag} {mg : Str → Option Value} {h : Heap} {c c' T : Str} {C C' CT : Addr} {b : Bool} {cs no : List Str}
theorem excAt_mk (X : K.In h) (G : h.Ns mainGlobals mg) (a : PySem.W.nsIn K mainGlobals c = some (some (.ref C))) (x : PySem.W.excIn K C bmVE "ValueError.__new__" = true) (k : PySem.W.keepIn K (.ref C) = true) (s : PySem.W.subIn K (.ref C) (.type "BaseException") = some true) (t : PySem.W.typeIn K (.ref C) = some (.type "type")) (i : PySem.W.isClsIn K C = true) : ExcAt K mg (cAof mg) c :=
  ⟨C, PySem.W.mg_of X G a, cAof_of (PySem.W.mg_of X G a), x, k, s, t, i⟩
/-- c' is (not) a subclass of c -/
structure SubAt (K : PySem.W.Frag) (mg : Str → Option Value) (c' c : Str) (b : Bool) : Prop where
  ex : ∃ C' C, mg c' = some (.ref C') ∧ mg c = some (.ref C) ∧ PySem.W.subIn K (.ref C') (.ref C) = some b
theorem subAt_mk (X : K.In h) (G : h.Ns mainGlobals mg) (a : PySem.W.nsIn K mainGlobals c' = some (some (.ref C'))) (a2 : PySem.W.nsIn K mainGlobals c = some (some (.ref C))) (s : PySem.W.subIn K (.ref C') (.ref C) = some b) : SubAt K mg c' c b :=
  ⟨C', C, PySem.W.mg_of X G a, PySem.W.mg_of X G a2, s⟩
theorem exm_gen {t : Value} {S : Addr} (h1 : PySem.W.subIn K (.ref S) (.type "BaseException") = some true) (h2 : PySem.W.isClsIn K S = true) (h3 : PySem.W.typeIn K (.ref S) = some (.type "type")) (h4 : PySem.W.subIn K t (.ref S) = some b) : PySem.W.exmOne K t (.ref S) = some b := by
  have e1 : (PySem.W.subIn K (.ref S) (.type "BaseException") == some true) = true := by rw [h1] <;> rfl
  have e2 : ((PySem.W.clsIn K S).isSome && PySem.W.typeIn K (.ref S) == some (.type "type")) = true := by
    have h2' : (PySem.W.clsIn K S).isSome = true := h2
    rw [h2', h3] <;> rfl
  show (if (PySem.W.subIn K (.ref S) (.type "BaseException") == some true) = true then (if ((PySem.W.clsIn K S).isSome && PySem.W.typeIn K (.ref S) == some (.type "type")) = true then PySem.W.subIn K t (.ref S) else none) else none) = some b
  rw [if_pos e1, if_pos e2]
  exact h4
theorem cAof_inv {C : Addr} (e : cAof mg c = some C) : mg c = some (.ref C) := by
  unfold cAof at e
  split at e
  · rename_i C2 e2; cases e; exact e2
  · cases e
theorem catch_nil (E : ExcAt K mg (cAof mg) c) : CatchAt K mg (cAof mg) c [] [] :=
  let ⟨C, gC, _⟩ := E.ex
  ⟨C, gC, fun _ h => by simp at h, fun _ h => by simp at h⟩
theorem catch_yes (E : ExcAt K mg (cAof mg) c) (S : SubAt K mg c' c true) (r : CatchAt K mg (cAof mg) c cs no) : CatchAt K mg (cAof mg) c (c' :: cs) no := by
  obtain ⟨C, gC, r1, r2⟩ := r.ex
  obtain ⟨C1, gC1, _, _, _, h1, h3, h2⟩ := E.ex
  obtain ⟨D', D, gD', gD, s⟩ := S.ex
  rw [gC] at gC1 gD; cases gC1; cases gD
  refine ⟨C, gC, fun k hk C' e => ?_, r2⟩
  rcases List.mem_cons.mp hk with q | hk
  · subst q
    have := cAof_inv e
    rw [gD'] at this; cases this
    exact exm_gen h1 h2 h3 s
  · exact r1 k hk C' e
theorem catch_no (E : ExcAt K mg (cAof mg) c) (S : SubAt K mg c' c false) (r : CatchAt K mg (cAof mg) c cs no) : CatchAt K mg (cAof mg) c cs (c' :: no) := by
  obtain ⟨C, gC, r1, r2⟩ := r.ex
  obtain ⟨C1, gC1, _, _, _, h1, h3, h2⟩ := E.ex
  obtain ⟨D', D, gD', gD, s⟩ := S.ex
  rw [gC] at gC1 gD; cases gC1; cases gD
  refine ⟨C, gC, r1, fun k hk C' e => ?_⟩
  rcases List.mem_cons.mp hk with q | hk
  · subst q
    have := cAof_inv e
    rw [gD'] at this; cases this
    exact exm_gen h1 h2 h3 s
  · exact r2 k hk C' e
theorem excC_mk (hg : PySem.W.findIn K (.ref C) "__getattribute__" = some (some (.builtin "BaseException.__getattribute__"))) (hk : PySem.W.findIn K (.ref C) "__getattr__" = some none) (hs : PySem.W.subIn K (.ref C) (.type "BaseException") = some true) (hd : PySem.W.hasDictIn K C = true)
    (ha : PySem.W.findIn K (.ref C) "__class__" = some (some (.builtin "object.__class__"))) (hn : PySem.W.specialIn K (.builtin "object.__class__") "__get__" = some (some (.builtin "getset_descriptor.__get__"))) (ht : PySem.W.takesIn K (.builtin "object.__class__") = some true) (hm : PySem.W.mroIn K C (.type "object") = some true) : ExcC K C := ⟨hg, hk, hs, hd, ha, hn, ht, hm⟩
/-- the class c' as one whose instances isinstance may be asked of -/
structure ExcCAt (K : PySem.W.Frag) (mg : Str → Option Value) (c' : Str) : Prop where
  ex : ∃ C', mg c' = some (.ref C') ∧ ExcC K C'
theorem excCAt_mk (X : K.In h) (G : h.Ns mainGlobals mg) (a : PySem.W.nsIn K mainGlobals c' = some (some (.ref C'))) (e : ExcC K C') : ExcCAt K mg c' := ⟨C', PySem.W.mg_of X G a, e⟩
theorem isE_own (E : ExcCAt K mg c') (ET : ExcAt K mg (cAof mg) T) (S : SubAt K mg c' T b) (S0 : SubAt K mg c' c' true) : IsEAt K mg (cAof mg) c' T b := by
  obtain ⟨C', g', e⟩ := E.ex
  obtain ⟨CT, gT, _, _, _, _, h3, h2⟩ := ET.ex
  obtain ⟨D', D, gD', gD, s⟩ := S.ex
  rw [g'] at gD'; rw [gT] at gD; cases gD'; cases gD
  refine ⟨C', .ref CT, cAof_of g', .inl ⟨CT, rfl, gT⟩, e, ?_⟩
  unfold PySem.W.kitOne
  split
  · rename_i q
    have q' : C' = CT := by simpa using q
    subst q'
    obtain ⟨D1, D2, f1, f2, s0⟩ := S0.ex
    rw [g'] at f1 f2; cases f1; cases f2
    exact s0.symm.trans s
  · unfold PySem.W.kitCls
    have e2 : ((PySem.W.clsIn K CT).isSome && PySem.W.typeIn K (.ref CT) == some (.type "type")) = true := by
      have h2' : (PySem.W.clsIn K CT).isSome = true := h2
      rw [h2', h3] <;> rfl
    simp only [e2, if_true]
    exact s
theorem isE_blt {n : String} (E : ExcCAt K mg c') (mT : mg T = none) (bT : bootBuiltins T = some (.type n)) (nT : T ≠ "__name__") (km : PySem.W.kitMeta n = true) (s : ∀ C', mg c' = some (.ref C') → PySem.W.subIn K (.ref C') (.type n) = some b) : IsEAt K mg (cAof mg) c' T b := by
  obtain ⟨C', g', e⟩ := E.ex
  refine ⟨C', .type n, cAof_of g', .inr ⟨n, rfl, mT, bT, nT⟩, e, ?_⟩
  unfold PySem.W.kitOne
  rw [if_neg (by simp)]
  unfold PySem.W.kitCls
  simp only [km, if_true]
  exact s C' g'
end
@[simp] theorem aIsE (i : Nat) (b : Bool) (env : En) (h : Hh) : mIsE i b env h = (match env[i]? with
  | some (.ex x) => if x.ns = [] then .ok (.bl b) h else .no
  | _ => .no) := id rfl
@[simp] theorem aRaise (c : Str) (env : En) (h : Hh) : mRaise c env h = .er ⟨c, [], []⟩ env h := id rfl
end Mir

set_option Elab.async false
set_option linter.all false
set_option maxRecDepth 100000
set_option maxHeartbeats 1000000
/-! MirV: an own list is locked (ghost), xs[i] = v, a method's chain -/
namespace Mir
open PySem PySem.Spec PyProof.Rows L2
/-- the own list in slot i is a value from here on -/
def mFrz (i : Nat) : MS := fun env h => match env[i]? with
  | some (.own (.lst xs)) => .nx (env.set i (.v (.lst xs))) h
  | _ => .nx env h
theorem lockNF {S : Sx} {w0 w : Wd} {h : Hh} {a : Addr} {vs : List V} (d : Hd S w h) (e : w.H a = some (.lst vs)) (n : a ∉ w.ad) (f : w.Φ a = none) (z : w0.H a = none) (s : Step w0 w) :
    ∃ w', w'.H = w.H ∧ Step w0 w' ∧ Ext w w' ∧ Hd S w' h ∧ SqL S.K w'.Φ a vs ∧ w'.ad = w.ad ∧ w'.Φ = upd w.Φ a (.lst vs) := by
  refine ⟨⟨upd w.Φ a (.lst vs), w.H, w.ad⟩, rfl, ?_, ?_, ?_, .inl (.inl upd_same), rfl, rfl⟩
  · refine ⟨fun x o q => ?_, s.ix, s.nw, s.kp, s.th, fun x o q => ?_⟩
    · show upd w.Φ a (.lst vs) x = some o
      have : x ≠ a := fun hx => by rw [hx] at q; have := s.fz _ _ q; rw [f] at this; cases this
      rw [upd_ne this]; exact s.fz x o q
    · by_cases hx : x = a
      · subst hx; exact .inr z
      · have q' : upd w.Φ a (.lst vs) x = some o := q
        rw [upd_ne hx] at q'; exact s.fn x o q'
  · refine ⟨fun x o q => ?_, fun _ _ q => q⟩
    show upd w.Φ a (.lst vs) x = some o
    have : x ≠ a := fun hx => by rw [hx, f] at q; cases q
    rw [upd_ne this]; exact q
  · have ex : Ext w ⟨upd w.Φ a (.lst vs), w.H, w.ad⟩ := by
      refine ⟨fun x o q => ?_, fun _ _ q => q⟩
      show upd w.Φ a (.lst vs) x = some o
      have : x ≠ a := fun hx => by rw [hx, f] at q; cases q
      rw [upd_ne this]; exact q
    refine ⟨fun x o q => ?_, d.len, d.nd, fun x hx => ?_, fun k o x p q => ?_⟩
    · by_cases hx : x = a
      · subst hx
        have q' : upd w.Φ x (.lst vs) x = some o := q
        rw [upd_same] at q'; cases q'; exact e
      · have q' : upd w.Φ a (.lst vs) x = some o := q
        rw [upd_ne hx] at q'; exact d.sub x o q'
    · show upd w.Φ a (.lst vs) x = none
      have : x ≠ a := fun hq => n (by rw [← hq]; exact hx)
      rw [upd_ne this]; exact d.sep x hx
    · have r := d.obj k o x p q
      cases o with
      | lst xs => obtain ⟨us, e1, r1⟩ := r; exact ⟨us, e1, ex.prs r1⟩
      | dct ks xs => obtain ⟨us, l1, e1, r1⟩ := r; exact ⟨us, l1, e1, ex.prs r1⟩
      | ins cc ns xs => obtain ⟨C, dx, us, c1, l1, e1, r1⟩ := r; exact ⟨C, dx, us, c1, l1, e1, ex.prs r1⟩
theorem rl_frz {S : Sx} {w0 w : Wd} {env : En} {h : Hh} {σ : L2.St} (rl : Rl S w0 w env h σ) {i : Nat} {xs : List PV} (e : env[i]? = some (.own (.lst xs))) : ∃ w', w'.H = w.H ∧ Ext w w' ∧ Rl S w0 w' (env.set i (.v (.lst xs))) h σ := by
  obtain ⟨a, ei, ⟨vs, ea, rs⟩, f, n, z⟩ := rl.sl.own i _ e
  obtain ⟨w', eH, st, ex, d, sq, ead, eΦ⟩ := lockNF rl.hd ea n f z rl.st
  refine ⟨w', eH, ex, st, d, ?_⟩
  have hro : ∀ (b : Addr) (o : Ob), RO S w b o → RO S w' b o := fun b o ro => by
    cases o with
    | lst ys => obtain ⟨us, e1, r1⟩ := ro; exact ⟨us, by rw [eH]; exact e1, ex.prs r1⟩
    | dct ks ys => obtain ⟨us, l1, e1, r1⟩ := ro; exact ⟨us, l1, by rw [eH]; exact e1, ex.prs r1⟩
    | ins c ns ys => obtain ⟨C, dx, us, c1, l1, e1, r1⟩ := ro; exact ⟨C, dx, us, c1, l1, by rw [eH]; exact e1, ex.prs r1⟩
  refine ⟨by simp [rl.sl.len], fun j y q => ?_, fun j o q => ?_, fun j k o o' b e1 e2 f1 f2 => ?_, fun j y q => ?_⟩
  · rcases set_get _ _ _ _ q with ⟨rfl, e1, hl⟩ | ⟨hj, e1⟩
    · cases e1
      exact ⟨_, ei, .lst sq (ex.prs rs)⟩
    · obtain ⟨v, e2, r2⟩ := rl.sl.slot j y e1
      exact ⟨v, e2, ex.pr r2⟩
  · rcases set_get _ _ _ _ q with ⟨rfl, e1, hl⟩ | ⟨hj, e1⟩
    · cases e1
    · obtain ⟨b, e2, ro, f2, n2, z2⟩ := rl.sl.own j o e1
      refine ⟨b, e2, hro b o ro, ?_, by rw [ead]; exact n2, z2⟩
      have : b ≠ a := fun hq => hj (rl.sl.sep j i _ _ a e1 e (by rw [← hq]; exact e2) ei)
      rw [eΦ, upd_ne this]; exact f2
  · rcases set_get _ _ _ _ e1 with ⟨rfl, g, hl⟩ | ⟨hj, g⟩
    · cases g
    · rcases set_get _ _ _ _ e2 with ⟨rfl, g2, hl⟩ | ⟨hk, g2⟩
      · cases g2
      · exact rl.sl.sep j k o o' b g g2 f1 f2
  · rcases set_get _ _ _ _ q with ⟨rfl, e1, hl⟩ | ⟨hj, e1⟩
    · cases e1
    · obtain ⟨x1, x2⟩ := rl.sl.exq j y e1
      refine ⟨x1, ?_⟩
      rcases x2 with x2 | ⟨dd, ws, d1, d2, d3, d4, d5⟩
      · exact .inl x2
      · exact .inr ⟨dd, ws, d1, d2, by rw [eH]; exact d3, by rw [ead]; exact d4, ex.prs d5⟩
section
variable {F : Fam} {st : Stmt} {ms : MS} {e ei : Expr} {m mi : ME} {p p2 pos : Pos}
theorem ss_frz (i : Nat) (a : SS F st ms) : SS F st (mSeq (mFrz i) ms) := by
  obtain ⟨t, pp, q⟩ := a
  refine ⟨t, pp, fun W w0 w env h σ D rl po => ?_⟩
  unfold mSeq mFrz at po
  cases ee : env[i]? with
  | none => rw [ee] at po; exact q W w0 w env h σ D rl po
  | some s =>
    rw [ee] at po
    cases s with
    | own o =>
      cases o with
      | lst xs =>
        simp only at po
        obtain ⟨w', eH, ex, rl'⟩ := rl_frz rl ee
        rw [← eH]
        exact q W w0 w' _ h σ D rl' (PostS.mono ex po)
      | _ => exact q W w0 w env h σ D rl po
    | _ => exact q W w0 w env h σ D rl po
def mSetIx (i : Nat) (mi mv : ME) : MS := fun env h => ofE (mv env h) env fun y h => match env[i]? with
  | some (.own (.lst xs)) => ofE (mi env h) env fun k h => match k with
    | .int k => match L2.ixN xs.length k with
      | some j => .nx (env.set i (.own (.lst (xs.set j y)))) h
      | none => .no
    | _ => .no
  | _ => .no
theorem ss_setIx (i : Nat) {x : Str} (a : SE F e m) (b : SB F ei mi) (hN : F.N[i]? = some x := by rfl) (hv : ∀ j, Vis (F.env j).scope x := by first | exact fun _ => Or.inl rfl | exact fun _ => Or.inr (Or.inl rfl) | exact fun _ => Or.inr (Or.inr rfl))
    (hd : (x == ("__debug__" : Str)) = false := by decide) (hcd : (x == ("__classdict__" : Str)) = false := by decide)
    (hs : ∀ j, swapsWithSole [.Subscript (.Name x p) ei p2] e pos.line (F.X j).env = pure false := by intro _; rfl) (hw : ∀ j, swappedStores [.Subscript (.Name x p) ei p2] e (F.X j).env = pure none := by intro _; rfl)
    (h1 : ∀ j, (assignEach [.Subscript (.Name x p) ei p2] (F.X j).env).map (·.2) = [assign (.Subscript (.Name x p) ei p2) (F.X j).env] := by intro _; rfl)
    (ha : ∀ j v, assign (.Subscript (.Name x p) ei p2) (F.X j).env v = (do
      let ov ← holding [v] (eval (.Name x p) (F.X j).env)
      let iv ← holding [v, ov] (eval ei (F.X j).env)
      standAt p2
      holding [v, ov, iv] (setItem ov iv v)
      release [v, ov, iv] []) := by intro _ _; rfl) :
    SS F (.Assign [.Subscript (.Name x p) ei p2] e pos) (mSetIx i mi m) := by
  obtain ⟨t, pp, q⟩ := a
  obtain ⟨ti, pi, qi⟩ := b
  refine ⟨fun W => tAsg (t W) (gSub (tVar i) (ti W) rSetL), fun j => ps_asg (X := F.X j) (pp j) (pg_sub (X := F.X j) (pe_var (X := F.X j) hN (hv j) hd hcd) (pi j) set_list (ha j)) (hs j) (hw j) (h1 j), fun W w0 w env h σ D rl po => ?_⟩
  refine q W w0 w env h σ _ rl (PostS.ofE (R := RV F.S) rl po fun y h1 w1 v s d r p1 => ?_)
  have rl1 := rl.step s d
  split at p1
  · rename_i xs ee
    obtain ⟨a1, e1, ⟨vs, ea, rs⟩, f, n, z⟩ := rl1.sl.own i _ ee
    refine ⟨_, e1, ?_⟩
    refine qi W w0 w1 env h1 σ _ rl1 (PostS.ofE (R := RBo F.S) rl1 p1 fun k h2 w2 u s2 d2 r2 p2 => ?_)
    have rl2 := rl1.step s2 d2
    obtain ⟨a2, e2, ⟨vs2, ea2, rs2⟩, f2, n2, z2⟩ := rl2.sl.own i _ ee
    rw [e1] at e2
    cases e2
    cases k with
    | int k =>
      simp only at p2
      split at p2
      · rename_i j ej
        have eu := r2.ofInt
        subst eu
        refine ⟨a1, vs2, k, j, rfl, rfl, ea2, by rw [← rs2.length]; exact ej, ?_⟩
        exact p2 ⟨w2.Φ, upd w2.H a1 (.lst (vs2.set j v)), w2.ad⟩ σ ⟨fun _ _ q => q, fun _ _ q => q⟩ (rl2.chg ee e1 (PRs.set (s2.pr r) j rs2))
      · exact p2.elim
    | _ => exact p2.elim
  · exact p1.elim
theorem aSetIx (i : Nat) (mi mv : ME) (env : En) (h : Hh) : mSetIx i mi mv env h = ofE (mv env h) env fun y h => (match env[i]? with
  | some (.own (.lst xs)) => ofE (mi env h) env fun k h => (match k with
    | .int k => (match L2.ixN xs.length k with
      | some j => .nx (env.set i (.own (.lst (xs.set j y)))) h
      | none => .no)
    | _ => .no)
  | _ => .no) := id rfl
theorem aFrz (i : Nat) (env : En) (h : Hh) : mFrz i env h = (match env[i]? with
  | some (.own (.lst xs)) => .nx (env.set i (.v (.lst xs))) h
  | _ => .nx env h) := id rfl
end
end Mir

set_option Elab.async false
set_option linter.all false
set_option maxRecDepth 100000
set_option maxHeartbeats 1000000
/-! MirW: xs[::-1]; defs with keyword-only defaults, called without them -/
namespace Mir
open PySem PySem.Spec PyProof.Rows L2
def mRevN (m : ME) : MA := fun env h => (m env h).bind fun x h => match x with
  | .lst xs => .ok xs.reverse h
  | _ => .no
theorem PRs.rev {K : PySem.W.Frag} {Φ : Hp} {ad : List Addr} : ∀ {xs : List PV} {vs : List V}, PRs K Φ ad xs vs → PRs K Φ ad xs.reverse vs.reverse
  | _, _, .nil => .nil
  | _, _, .cons r t => by
    rw [List.reverse_cons, List.reverse_cons]
    exact (PRs.rev t).append (.cons r .nil)
section
variable {F : Fam} {e : Expr} {es : List Expr} {m : ME} {mr : MA} {k : Nat} {p p1 p2 p3 pos : Pos}
theorem sn_rev {j : Nat} (h : SB F e m) : SN F (.Subscript e (.Slice none none (some (.UnaryOp .USub (.Constant (.int 1) j p1) p2)) p3) pos) (mRevN m) := by
  obtain ⟨t, p, q⟩ := h
  refine ⟨fun W => tRevL F.K (t W), fun i => pe_revL (X := F.X i) (p i), fun W w0 w env h σ Q r po => ?_⟩
  refine q W w0 w env h σ _ r (PostE.bind po fun x h1 w1 v s1 d1 e1 p1 => ?_)
  split at p1
  · obtain ⟨a, vs, rfl, ha, ra⟩ := e1.ofLst d1
    exact ⟨a, vs, rfl, ha, fun b nb => p1 (w1.put b (.lst vs.reverse)) (.ref b) (Step.put d1 nb) (d1.put nb) ⟨b, _, rfl, upd_same, (Step.put d1 nb).prs ra.rev, d1.notAd nb, d1.fresh nb, nb⟩⟩
  · exact p1.elim
end
structure DefAtD (K : PySem.W.Frag) (mg : Str → Option Value) (x : Str) (st : Stmt) (kws : List (Str × V)) : Prop where
  ex : ∃ (f : Addr) (oc : Value) (od : Option Addr) (D : Addr) (doc pm : Value) (an : Option Addr) (cdv ct : Value) (osl : Array (Option Value)),
    K.lookup f = some ⟨oc, od, .func (PySem.W.fnOf x x (defArgs st) (defBody st) (defScope st) .none (.ref D) doc pm an cdv ct), osl⟩ ∧ PySem.W.codeIn K cdv x = true ∧ PySem.W.keepIn K (.ref f) = true ∧ mg x = some (.ref f) ∧ ∀ q ∈ kws, ∃ u, PySem.W.nsIn K D q.1 = some (some u) ∧ RelV q.2 u
structure DefOkD (P : Program) (w : World) (K : PySem.W.Frag) (mg : Str → Option Value) (base : Heap) (cA : Str → Option Addr) (k : Nat) (x : Str) (ps : List Str) (m : MF) (pvs : List PV) : Prop where
  ex : ∃ f fd ds dvs, FnOk P w K mg base (L2.CX P w) k f fd ps (spM ⟨K, cA, 0, none⟩ m) ∧ mg x = some (.ref f) ∧ PySem.W.keepIn K (.ref f) = true ∧ Binds K fd ps ds ∧ Vals dvs ds ∧ ∀ Φ ad, PRs K Φ ad pvs dvs
section
variable {P : Program} {w : World} {K : PySem.W.Frag} {mg : Str → Option Value} {base : Heap} {cA : Str → Option Addr} {k : Nat} {x : Str} {ps : List Str} {m : MF} {st : Stmt} {kws : List (Str × V)} {pvs : List PV}
theorem DefAtD.at (A : DefAtD K mg x st kws) : DefAt K mg x st := by
  obtain ⟨f, oc, od, D, doc, pm, an, cdv, ct, osl, l, c, kp, g, _⟩ := A.ex
  exact ⟨f, _, fun_mk l c kp, g⟩
theorem DefAtD.ok (A : DefAtD K mg x st kws) (n : Nat) (g : ∀ f fd, Fun K x x st f fd → FnOk P w K mg base (L2.CX P w) k f fd ps (spM ⟨K, cA, 0, none⟩ m)) (hk : kws ≠ []) (hn : n + kws.length = ps.length) (hp : ∀ Φ ad, PRs K Φ ad pvs (kws.map (·.2)))
    (b : ∀ (D : Addr) (doc pm : Value) (an : Option Addr) (cdv ct : Value) (us ks : List Value), us.length = n → ks.length = kws.length →
      KwChain D ((kws.map (·.1)).zip ks) (bindArgs (PySem.W.fnOf x x (defArgs st) (defBody st) (defScope st) .none (.ref D) doc pm an cdv ct) ⟨us, []⟩) (ps.zip (us ++ ks))) : DefOkD P w K mg base cA k x ps m pvs := by
  obtain ⟨f, oc, od, D, doc, pm, an, cdv, ct, osl, l, c, kp, gm, hq⟩ := A.ex
  have FD : FunD K x x (defArgs st) (defBody st) (defScope st) [] kws f _ := ⟨⟨oc, od, .none, .ref D, doc, pm, an, cdv, ct, osl, rfl, l, c, .inl ⟨rfl, rfl⟩, .inr ⟨D, rfl, hq⟩⟩, kp⟩
  obtain ⟨ds, hv, hb⟩ := FD.binds0 n hk hn b
  exact ⟨f, _, ds, kws.map (·.2), g f _ (fun_mk l c kp), gm, kp, hb, hv, hp⟩
end
theorem defAtD_mk1 {K : PySem.W.Frag} {mg : Str → Option Value} {x : Str} {st : Stmt} {h : Heap} {f D : Addr} {oc : Value} {od an : Option Addr} {osl : Array (Option Value)} {doc pm cdv ct : Value} {nm : Str} {v : V} {u : Value} (X : K.In h) (G : h.Ns mainGlobals mg) (a : PySem.W.nsIn K mainGlobals x = some (some (.ref f)))
    (l : K.lookup f = some ⟨oc, od, .func (PySem.W.fnOf x x (defArgs st) (defBody st) (defScope st) .none (.ref D) doc pm an cdv ct), osl⟩) (c : PySem.W.codeIn K cdv x = true) (kp : PySem.W.keepIn K (.ref f) = true) (d : PySem.W.nsIn K D nm = some (some u)) (r : RelV v u) : DefAtD K mg x st [(nm, v)] :=
  ⟨f, oc, od, D, doc, pm, an, cdv, ct, osl, l, c, kp, PySem.W.mg_of X G a, fun q hq => by rw [List.mem_singleton.mp hq]; exact ⟨u, d, r⟩⟩
def tCallD (sp : Sp) (dvs : List V) (E : L2.St → XK) (t : TA) : TE := fun σ H Q => t σ H fun vs H1 => sp (vs ++ dvs) H1 Q (E σ)
theorem run_fnSD {X : Cx} {CX : CXT} {k : Nat} {f : Addr} {fd : FuncData} {ps : List Str} {sp : Sp} {E : L2.St → XK} {pins : List (Addr × Obj)} {σ : L2.St} {H : Hp} {s : Shared} {Q : VK} {us ds : List Value} {vs dvs : List V} (F : FnOk X.prog X.w X.K X.mg X.base CX k f fd ps sp) (hr : Room k X.A) (hb : Binds X.K fd ps ds) (hd : Vals dvs ds) (hx : PassesAt CX X σ (E σ))
    (I : Inv X pins σ H s) (r : Vals vs us) (h : sp (vs ++ dvs) H Q (E σ)) : wpAny (model X.prog X.w) X.A (PySem.call (.ref f) us) (EP X pins σ Q) X.xe s := by
  have all := r.append hd
  have count : (us ++ ds).length = ps.length := (all.length).symm.trans (F.len _ _ _ _ h)
  have body := F.run X.A X.stack s H ⟨us, []⟩ _ _ Q (E σ) hr I.env0 (hb s us I.kIn count) all h
  apply wpAny_call
  refine codeAny_mono body ?_
  rintro (c | fl) t after
  · exact hx pins H s c t I after
  · cases fl <;> first | exact I.after after | exact False.elim after
/-- f(a, ..), its keyword-only parameters by their defaults -/
def mCallD (mf : MF) (pvs : List PV) (mr : MA) : ME := fun env h => (mr env h).bind fun xs h => mf (xs ++ pvs) h
section
variable {F : Fam} {e : Expr} {es : List Expr} {mr : MA} {k : Nat} {x : Str} {ps : List Str} {mf : MF} {pvs : List PV} {p pos : Pos}
theorem se_fnD (ok : F.Ok) (G : DefOkD F.P F.w F.K F.mg F.base F.cA k x ps mf pvs) (hk : k ≤ F.k) (ha : SA F (e :: es) mr) (hg : ∀ i, Gl (F.X i) x := by intro _; rfl) (hdb : (x == ("__debug__" : Str)) = false := by decide)
    (he : ∀ i, starEach (e :: es) (F.X i).env = (false, eval e (F.X i).env) :: starEach es (F.X i).env := by intro _; rfl) (hpl : ∀ i, (backTo pos (starEach es (F.X i).env)).any (·.1) = false := by intro _; rfl) :
    SE F (.Call (.Name x p) (e :: es) [] pos) (mCallD mf pvs mr) := by
  obtain ⟨f, fd, ds, dvs, g, hm, kp, b, hv, hpr⟩ := G.ex
  obtain ⟨t, pa, q⟩ := ha
  refine ⟨fun W => tCallD (spM F.S mf) dvs (WE W) (t W), fun i => ⟨fun pins s σ H Q I hh => ?_⟩, fun W w0 w env h σ Q rl po => ?_⟩
  · refine wpAny_Call_Name_kw (ld_glob I (hg i) hm ?_ hdb)
    refine PySem.W.callWith_K (h₀ := (F.X i).base) I.ok.mod.kin kp (thn ((pa i).run pos pins s σ H _ I hh) fun us s1 ⟨vs, H1, I1, r, q⟩ => ⟨I1.kIn, ?_⟩) (he i) (hpl i)
    exact run_fnSD (X := F.X i) (CX := L2.CX F.P F.w) (E := WE (F.W i)) g ((ok.hr i).mono hk) b hv (passAt (ok.tk i) σ) I1 r q
  · refine q W w0 w env h σ _ rl (PostE.bind po fun xs h1 w1 vs s1 d1 p1 po1 => ?_)
    refine ⟨w1, h1, xs ++ pvs, rfl, d1.nul, p1.append (hpr _ _), ?_⟩
    cases e : mf (xs ++ pvs) h1 with
    | ok x h' => rw [e] at po1; exact fun w' v s d r => po1 w' v s d.unnul r
    | er x h' => rw [e] at po1; exact fun w' c d s dd r => po1 w' c d s dd.unnul r
    | no => rw [e] at po1; exact po1
end
@[simp] theorem aCallD (mf : MF) (pvs : List PV) (mr : MA) (env : En) (h : Hh) : mCallD mf pvs mr env h = (mr env h).bind fun xs h => mf (xs ++ pvs) h := id rfl
@[simp] theorem aRevN (m : ME) (env : En) (h : Hh) : mRevN m env h = (m env h).bind fun x h => (match x with
  | .lst xs => .ok xs.reverse h
  | _ => .no) := id rfl
end Mir

set_option Elab.async false
set_option linter.all false
set_option maxRecDepth 100000
set_option maxHeartbeats 1000000
/-! MirU: t[::-1] of a tuple (and of a list, as a value) -/
namespace MirU
open PySem PySem.Spec PyProof.Rows HT
section
variable {prog : Program} {w : World} {A : Around} {E : Value → Shared → Prop} {s : Shared}
theorem count_back (n : Nat) : Builtin.Slice.slicePlaces ((n : Int) - 1) (-1) (-1) = n := by
  simp only [Builtin.Slice.slicePlaces, show ¬ ((-1 : Int) > 0) by decide, if_false, Int.neg_neg, Int.ediv_one]
  split <;> omega
/-- the bounds of [::-1] -/
theorem bounds_back {sl : Addr} {st : Value} {n : Nat} {Q : Int × Int × Nat → Shared → Prop} (isS : s.heap.IsSliceOf sl .none .none st) (step : IsPart st (some (-1)))
    (fin : Q ((n : Int) - 1, -1, n) s) : wpAny (model prog w) A (Builtin.Slice.sliceApplied (.ref sl) (pure (n : Int))) Q E s := by
  rcases isS with ⟨ob, at_sl, _, flds⟩
  have fld : ∀ (k : Nat) (x : Value) {E1 Q1 : Value → Shared → Prop}, (#[Value.none, .none, st])[k]? = some x → Q1 x s → wpAny (model prog w) A (field (.ref sl) k) Q1 E1 s :=
    fun k x _ _ hx q => wpAny_field at_sl flds hx q
  delta Builtin.Slice.sliceApplied Builtin.Slice.sliceFields
  apply wpAny_bind
  apply wpAny_bind
  apply fld 0 .none rfl
  apply wpAny_bind
  apply fld 1 .none rfl
  apply wpAny_bind
  apply fld 2 st rfl
  apply wpAny_pure
  apply wpAny_bind
  apply slicePart_ step
  show wpAny _ _ (if ((-1 : Int) == 0) = true then _ else _) _ _ s
  rw [if_neg (by decide)]
  apply wpAny_bind
  apply slicePart_none
  apply wpAny_bind
  apply slicePart_none
  apply wpAny_bind
  apply wpAny_pure
  apply wpAny_pure
  show Q ((n : Int) - 1, -1, Builtin.Slice.slicePlaces ((n : Int) - 1) (-1) (-1)) s
  rw [count_back]
  exact fin
theorem all_back (xs : Array Value) : ((List.range xs.size).filterMap fun (m : Nat) => xs[(((xs.size : Int) - 1) + (m : Int) * -1).toNat]?).toArray = xs.toList.reverse.toArray := by
  have at_m : (fun m : Nat => xs[(((xs.size : Int) - 1) + (m : Int) * -1).toNat]?) = (xs[·]?) ∘ fun m => xs.size - 1 - m := by
    funext m
    show _ = xs[xs.size - 1 - m]?
    congr 1
    omega
  rw [at_m, ← List.filterMap_map, PySem.W.krv_range, List.filterMap_reverse, PySem.W.krv_all]
/-- t[::-1] of a tuple -/
theorem item_back {t sl : Addr} {items : Array Value} {st : Value} {Q : Value → Shared → Prop} (isT : IsTup s.heap t items) (isS : s.heap.IsSliceOf sl .none .none st) (step : IsPart st (some (-1))) (fit : items.size ≤ sizeLine)
    (fin : Q (.ref s.heap.objs.size) { s with heap := s.heap.push ⟨.type "tuple", none, .seq items.toList.reverse.toArray, #[]⟩ }) : wpAny (model prog w) A (getItem (.ref t) (.ref sl)) Q E s := by
  have small : sizeOk (.seq items.toList.reverse.toArray) := by
    simpa [sizeOk] using fit
  have tS : s.TypeIs (.ref sl) "slice" := isS.elim fun ob z => ⟨ob, z.1, z.2.1⟩
  have other : ¬ (((items.size : Int) - 1) == 0 && (-1 : Int) == 1 && items.size == items.size) = true := by simp
  delta getItem
  apply wpAny_holding
  apply wpAny_bind
  apply wpAny_sequenceKey isT.typeIs (by decide)
  apply wpAny_bind
  apply wpAny_callSpecial?_slot (name := Str.ofString "__getitem__") isT.typeIs PyProof.Rows.slot_tuple_getitem
  apply wpAny_call_entry PyProof.Rows.slot_tuple_getitem isT.typeIs entry_tuple_getitem _ (args_tuple_getitem _ _)
  apply wpAny_bind (m := Builtin.Tuple.tupleItemsOf (.ref t))
  apply tupleItemsOf_ isT
  apply wpAny_bind
  apply wpAny_typeOf tS
  rw [if_pos (by decide)]
  apply wpAny_bind
  apply bounds_back isS step
  show wpAny _ _ (if (((items.size : Int) - 1) == 0 && (-1 : Int) == 1 && items.size == items.size) = true then _ else _) _ _ s
  rw [if_neg other, all_back]
  apply wpAny_bind (m := Builtin.Tuple.tupleExact _)
  exact wpAny_newObj_type (wpAny_pure ⟨_, rfl, wpAny_pure fin⟩) small
end
end MirU
namespace L2
open PySem PySem.Spec PyProof.Rows
def tRevA (K : PySem.W.Frag) (te : TE) : TE := fun σ H Q => te σ H fun x H1 => ∃ a xs, x = .ref a ∧ ((SqL K H1 a xs ∧ ∀ p, H1 p = none → Q (.ref p) (upd H1 p (.lst xs.reverse))) ∨ (SqT K H1 a xs ∧ ∀ p, H1 p = none → Q (.ref p) (upd H1 p (.tup xs.reverse))))
section
variable {X : Cx}
theorem pe_revA {e : Expr} {te : TE} {k : Nat} {p1 p2 p3 pos : Pos} (he : PE X e te) : PE X (.Subscript e (.Slice none none (some (.UnaryOp .USub (.Constant (.int 1) k p1) p2)) p3) pos) (tRevA X.K te) := by
  constructor
  intro pins s σ H Q I h
  apply Subscript_
  refine thn (he.run pins s σ H _ I h) ?_
  rintro _ s1 ⟨_, H1, I1, r1, a, xs, rfl, kind⟩
  cases r1
  have minus : PO X (some (.UnaryOp .USub (.Constant (.int 1) k p1) p2)) _ := po_some (pe_un un_neg (pe_int (i := 1)))
  apply wpAny_Slice
  refine thn (po_none.run pins s1 σ H1 (fun o H2 => o = none ∧ H2 = H1) I1 ⟨rfl, rfl⟩) ?_
  rintro lo s2 ⟨_, _, I2, part1, rfl, rfl⟩
  refine thn (po_none.run pins s2 σ _ (fun o H2 => o = none ∧ H2 = _) I2 ⟨rfl, rfl⟩) ?_
  rintro hi s3 ⟨_, _, I3, part2, rfl, rfl⟩
  refine thn (minus.run pins s3 σ _ (fun o H2 => o = some (-1) ∧ H2 = _) I3 ⟨1, rfl, -1, rfl, rfl, rfl⟩) ?_
  rintro st s4 ⟨_, _, I4, part3, rfl, rfl⟩
  let s5 : Shared := { s4 with heap := s4.heap.push ⟨.type "slice", none, .fields #[lo, hi, st], #[]⟩ }
  have I5 : Inv X pins σ _ s5 := I4.kept (t' := s4.toks) fun _ _ z => Heap.get?_push_of_some _ z
  have isS := Heap.IsSliceOf.new s4.heap lo hi st
  show wpAny (model X.prog X.w) X.A (subscriptTail e (.Slice none none (some (.UnaryOp .USub (.Constant (.int 1) k p1) p2)) p3) (.ref a) (.ref s4.heap.objs.size)) (EP X pins σ Q) X.xe s5
  have grown : ∀ {o : HO} (b : Obj), ObjOk X.prog X.w (upd _ s5.heap.objs.size o) (s5.heap.push b) s5.heap.objs.size o → Inv X pins σ (upd _ s5.heap.objs.size o) { s5 with heap := s5.heap.push b } :=
    fun b z => I5.laid (t' := s4.toks) (fun _ _ y => Heap.get?_push_of_some _ y) (Nat.le_refl _) z
  have free := I5.hok.fresh (Nat.le_refl _)
  rcases kind with ⟨sq, q⟩ | ⟨sq, q⟩
  · obtain ⟨its, rv, isL, fit⟩ := I5.list sq
    have fit1 : its.toArray.size ≤ sizeLine := by rw [List.size_toArray, ← rv.length]; exact fit
    apply tail_any (ops := [.ref a, .ref s4.heap.objs.size]) isL.isList.typeIs PySem.slot_list_getitem.lookup _ (by with_unfolding_all rfl)
    apply wpAny_getItem_list_slice isL.isList isS part1 part2 part3 (by decide) _ fit1
    rw [PySem.W.krv_pick]
    refine ⟨.ref _, _, grown (o := .lst xs.reverse) _ ⟨?_, _, 0, rv.reverse, Heap.get?_push_size _ rfl⟩, rfl, q _ free⟩
    rwa [List.length_reverse]
  · obtain ⟨its, rv, isT, fit⟩ := I5.tuple sq
    have fit1 : its.toArray.size ≤ sizeLine := by rw [List.size_toArray, ← rv.length]; exact fit
    cases part1
    cases part2
    apply tail_any (ops := [.ref a, .ref s4.heap.objs.size]) isT.typeIs PyProof.Rows.slot_tuple_getitem.lookup _ (by with_unfolding_all rfl)
    apply MirU.item_back isT isS part3 fit1
    refine ⟨.ref _, _, grown (o := .tup xs.reverse) _ ⟨?_, _, rv.reverse, IsTup.new _ _⟩, rfl, q _ free⟩
    rwa [List.length_reverse]
end
end L2
namespace Mir
open PySem PySem.Spec PyProof.Rows L2
def mRev (m : ME) : ME := fun env h => (m env h).bind fun x h => match x with
  | .lst xs => .ok (.lst xs.reverse) h
  | .tup xs => .ok (.tup xs.reverse) h
  | _ => .no
@[simp] theorem aRev (m : ME) (env : En) (h : Hh) : mRev m env h = (m env h).bind fun x h => (match x with
  | .lst xs => .ok (.lst xs.reverse) h
  | .tup xs => .ok (.tup xs.reverse) h
  | _ => .no) := id rfl
section
variable {F : Fam} {e : Expr} {m : ME} {k : Nat} {p p1 p2 p3 pos : Pos}
theorem se_rev {j : Nat} (h : SB F e m) : SE F (.Subscript e (.Slice none none (some (.UnaryOp .USub (.Constant (.int 1) j p1) p2)) p3) pos) (mRev m) := by
  obtain ⟨t, p, q⟩ := h
  refine ⟨fun W => tRevA F.K (t W), fun i => pe_revA (X := F.X i) (p i), fun W w0 w env h σ Q r po => ?_⟩
  refine q W w0 w env h σ _ r (PostE.bind po fun x h1 w1 v s1 d1 e1 p1 => ?_)
  split at p1
  · obtain ⟨a, vs, rfl, ha, ra⟩ := e1.ofLst d1
    exact ⟨a, vs, rfl, .inl ⟨ha, fun b nb => p1 (w1.lock b (.lst vs.reverse)) (.ref b) (Step.lock d1 nb) (d1.lock nb) (.lst (.inl (.inl upd_same)) ((Step.lock d1 nb).prs ra.rev))⟩⟩
  · obtain ⟨a, vs, rfl, ha, ra⟩ := e1.ofTup d1
    exact ⟨a, vs, rfl, .inr ⟨ha, fun b nb => p1 (w1.lock b (.tup vs.reverse)) (.ref b) (Step.lock d1 nb) (d1.lock nb) (.tup (.inl (.inl upd_same)) ((Step.lock d1 nb).prs ra.rev))⟩⟩
  · exact p1.elim
end
end Mir

set_option Elab.async false
set_option linter.all false
set_option maxRecDepth 100000
set_option maxHeartbeats 1000000
namespace Mir
open PySem PySem.Spec PyProof.Rows L2

/-! ### bits of ints that are not negative -/
theorem bitAnd_nat (a b : Nat) : Builtin.bitAnd (a : Int) (b : Int) = ((a &&& b : Nat) : Int) := by
  unfold Builtin.bitAnd
  simp
theorem bitOr_nat (a b : Nat) : Builtin.bitOr (a : Int) (b : Int) = ((a ||| b : Nat) : Int) := by
  unfold Builtin.bitOr Builtin.bitAnd Builtin.bitNot
  have h1 : decide ((0 : Int) ≤ -(a : Int) - 1) = false := decide_eq_false (by omega)
  have h2 : decide ((0 : Int) ≤ -(b : Int) - 1) = false := decide_eq_false (by omega)
  have h3 : (-(-(a : Int) - 1) - 1).toNat = a := by omega
  have h4 : (-(-(b : Int) - 1) - 1).toNat = b := by omega
  simp only [h1, h2, h3, h4]
  omega
theorem bitXor_nat (a b : Nat) : Builtin.bitXor (a : Int) (b : Int) = ((a ^^^ b : Nat) : Int) := by
  rw [PyProof.Rows.bitXor_and, bitAnd_nat]
  have := Bits.nat_xor_add_and a b
  omega
theorem shr_nat (a k : Nat) : (a : Int) / 2 ^ k = ((a >>> k : Nat) : Int) := by
  rw [Nat.shiftRight_eq_div_pow]; simp
theorem shl_nat (a k : Nat) : (a : Int) * 2 ^ k = ((a <<< k : Nat) : Int) := by
  rw [Nat.shiftLeft_eq]; simp

section
variable (h : Hh)
theorem andN (a b : Nat) : oAnd (.int a) (.int b) h = .ok (.int ((a &&& b : Nat) : Int)) h := by simp [oAnd, oI, bitAnd_nat]
theorem orN (a b : Nat) : oOr (.int a) (.int b) h = .ok (.int ((a ||| b : Nat) : Int)) h := by simp [oOr, oI, bitOr_nat]
theorem xorN (a b : Nat) : oXor (.int a) (.int b) h = .ok (.int ((a ^^^ b : Nat) : Int)) h := by simp [oXor, oI, bitXor_nat]
theorem andI (i j : Int) : oAnd (.int i) (.int j) h = .ok (.int (Builtin.bitAnd i j)) h := id rfl
theorem orI (i j : Int) : oOr (.int i) (.int j) h = .ok (.int (Builtin.bitOr i j)) h := id rfl
theorem xorI (i j : Int) : oXor (.int i) (.int j) h = .ok (.int (Builtin.bitXor i j)) h := id rfl
theorem shrI (i : Int) (k : Nat) : oShr (.int i) (.int (k : Int)) h = .ok (.int (i / 2 ^ k)) h := by simp [oShr, oI]
theorem shrN (a k : Nat) : oShr (.int a) (.int (k : Int)) h = .ok (.int ((a >>> k : Nat) : Int)) h := by rw [shrI, shr_nat]
theorem shlN {a k : Nat} (c : a.log2 + k < 100000000) : oShl (.int a) (.int (k : Int)) h = .ok (.int ((a <<< k : Nat) : Int)) h := by
  have : shlOk (a : Int) (k : Int) = true := by
    unfold shlOk
    simp only [Bool.and_eq_true, decide_eq_true_eq, Int.natAbs_natCast]
    omega
  simp only [oShl, oI, this, if_true, Int.toNat_natCast, shl_nat]
theorem mulAI {i j : Int} (c : mulOk i j = true) : oMulA (.int i) (.int j) h = .ok (.int (i * j)) h := mulI h c
theorem mulAN {a b : Nat} (c : a < 2 ^ 64 ∨ b < 2 ^ 64) : oMulA (.int (a : Int)) (.int (b : Int)) h = .ok (.int ((a * b : Nat) : Int)) h := by
  rw [mulAI h (by rcases c with c | c; exact mulOk_l (by omega); exact mulOk_r (by omega))]
  simp
theorem mulAT {xs : List PV} {k : Int} (c : repOk xs k = true) : oMulA (.tup xs) (.int k) h = .ok (.tup (repP xs k)) h := by simp only [oMulA, c, if_true]
@[simp] theorem addT {xs ys : List PV} (c : xs.length + ys.length ≤ 16777216) : oAdd (.tup xs) (.tup ys) h = .ok (.tup (xs ++ ys)) h := by simp only [oAdd, c, if_true]
theorem addL {xs ys : List PV} (c : xs.length + ys.length ≤ 16777216) : oAdd (.lst xs) (.lst ys) h = .ok (.lst (xs ++ ys)) h := by simp only [oAdd, c, if_true]
@[simp] theorem negI (i : Int) : oNeg (.int i) h = .ok (.int (-i)) h := id rfl
end
section
variable (m : ME) (k : Kd) (env : En) (h : Hh) (ma mk : MA) (f : MF) (n j i : Nat)
@[simp] theorem aIsi : mIsi k m env h = (m env h).bind fun x h => (match kdP x with | some a => .ok (.bl (isKd a k)) h | none => .no) := id rfl
@[simp] theorem aCallK : mCallK n j f ma mk env h = (ma env h).bind fun xs h => (mk env h).bind fun ys h => if xs.length = n ∧ ys.length = j then f (xs ++ ys) h else .no := id rfl
@[simp] theorem aR3 : itR3 ma env h = (ma env h).bind fun xs h => (match xs with | [.int i, .int j, .int c] => if rng3Ok i j c = true then .ok (rngC i c (Builtin.Range.rangeSize i j c).toNat) h else .no | _ => .no) := id rfl
@[simp] theorem kd_non : kdP .non = some .non := id rfl
@[simp] theorem kd_bl (b : Bool) : kdP (.bl b) = some .bool := id rfl
@[simp] theorem kd_int (j : Int) : kdP (.int j) = some .int := id rfl
@[simp] theorem kd_str (s : Str) : kdP (.str s) = some .str := id rfl
@[simp] theorem kd_tup (xs : List PV) : kdP (.tup xs) = some .tuple := id rfl
@[simp] theorem kd_lst (xs : List PV) : kdP (.lst xs) = some .list := id rfl
@[simp] theorem kd_dct (ks : List Key) (xs : List PV) : kdP (.dct ks xs) = some .dict := id rfl
end
section
open Kd
@[simp] theorem isKd_ti : isKd .tuple .int = false := id rfl
@[simp] theorem isKd_tb : isKd .tuple .bool = false := id rfl
@[simp] theorem isKd_ts : isKd .tuple .str = false := id rfl
@[simp] theorem isKd_tt : isKd .tuple .tuple = true := id rfl
@[simp] theorem isKd_tl : isKd .tuple .list = false := id rfl
@[simp] theorem isKd_td : isKd .tuple .dict = false := id rfl
@[simp] theorem isKd_li : isKd .list .int = false := id rfl
@[simp] theorem isKd_lb : isKd .list .bool = false := id rfl
@[simp] theorem isKd_ls : isKd .list .str = false := id rfl
@[simp] theorem isKd_lt : isKd .list .tuple = false := id rfl
@[simp] theorem isKd_ll : isKd .list .list = true := id rfl
@[simp] theorem isKd_ld : isKd .list .dict = false := id rfl
@[simp] theorem isKd_ii : isKd .int .int = true := id rfl
@[simp] theorem isKd_ib : isKd .int .bool = false := id rfl
@[simp] theorem isKd_is : isKd .int .str = false := id rfl
@[simp] theorem isKd_it : isKd .int .tuple = false := id rfl
@[simp] theorem isKd_il : isKd .int .list = false := id rfl
@[simp] theorem isKd_id : isKd .int .dict = false := id rfl
@[simp] theorem isKd_bi : isKd .bool .int = true := id rfl
@[simp] theorem isKd_bb : isKd .bool .bool = true := id rfl
@[simp] theorem isKd_bs : isKd .bool .str = false := id rfl
@[simp] theorem isKd_bt : isKd .bool .tuple = false := id rfl
@[simp] theorem isKd_bl : isKd .bool .list = false := id rfl
@[simp] theorem isKd_bd : isKd .bool .dict = false := id rfl
@[simp] theorem isKd_si : isKd .str .int = false := id rfl
@[simp] theorem isKd_sb : isKd .str .bool = false := id rfl
@[simp] theorem isKd_ss : isKd .str .str = true := id rfl
@[simp] theorem isKd_st : isKd .str .tuple = false := id rfl
@[simp] theorem isKd_sl : isKd .str .list = false := id rfl
@[simp] theorem isKd_sd : isKd .str .dict = false := id rfl
@[simp] theorem isKd_ni : isKd .non .int = false := id rfl
@[simp] theorem isKd_nb : isKd .non .bool = false := id rfl
@[simp] theorem isKd_ns : isKd .non .str = false := id rfl
@[simp] theorem isKd_nt : isKd .non .tuple = false := id rfl
@[simp] theorem isKd_nl : isKd .non .list = false := id rfl
@[simp] theorem isKd_nd : isKd .non .dict = false := id rfl
end
theorem filter_true {α : Type} (l : List α) : l.filter (fun _ => true) = l := List.filter_eq_self.mpr fun _ _ => rfl
theorem lcL_all {α : Type} {g : MG} {e : ME} {env : En} {h : Hh} (F : α → PV) (f : α → PV) (l : List α) (H : ∀ a ∈ l, ∃ env2, g (F a) env = some env2 ∧ e env2 h = .ok (f a) h) : lcL g mYes e env (l.map F) h = .ok (l.map f) h := by
  have := lcL_eq (g := g) (t := mYes) (e := e) (env := env) (h := h) F (fun _ => true) f l fun a ha => by
    obtain ⟨env2, h1, h2⟩ := H a ha
    exact ⟨env2, h1, rfl, fun _ => h2⟩
  rw [filter_true] at this
  exact this
theorem mod_range (r : Int) {n : Int} (h : 0 < n) : 0 ≤ r % n ∧ r % n < n := ⟨Int.emod_nonneg r (by omega), Int.emod_lt_of_pos r h⟩
theorem boolsOf_map {α : Type} (f : α → Bool) : ∀ l : List α, boolsOf (l.map fun a => PV.bl (f a)) = some (l.map f)
  | [] => rfl
  | a :: r => by rw [List.map_cons, boolsOf, boolsOf_map f r]; rfl
theorem all_bl {α : Type} (f : α → Bool) (l : List α) (h : Hh) : fAll [.lst (l.map fun a => PV.bl (f a))] h = .ok (.bl (l.all f)) h := by
  simp only [fAll, boolsOf_map, List.all_map]
  rfl
theorem lv_up : ∀ {n m : Nat} {x : PV}, n ≤ m → lv n x = true → lv m x = true
  | n, m, .non, _, _ => by unfold lv; rfl
  | n, m, .bl _, _, _ => by unfold lv; rfl
  | n, m, .int _, _, _ => by unfold lv; rfl
  | n, m, .str s, _, h => by unfold lv at h ⊢; exact h
  | 0, m, .tup xs, _, h => by unfold lv at h; cases h
  | 0, m, .lst xs, _, h => by unfold lv at h; cases h
  | n + 1, 0, .tup xs, h0, _ => by omega
  | n + 1, 0, .lst xs, h0, _ => by omega
  | n + 1, m + 1, .tup xs, h0, h => by
    unfold lv at h ⊢
    rw [List.all_eq_true] at h ⊢
    exact fun x hx => lv_up (by omega) (h x hx)
  | n + 1, m + 1, .lst xs, h0, h => by
    unfold lv at h ⊢
    rw [List.all_eq_true] at h ⊢
    exact fun x hx => lv_up (by omega) (h x hx)
  | 0, m, .dct _ _, _, h => by unfold lv at h; cases h
  | 0, m, .ref _, _, h => by unfold lv at h; cases h
  | n + 1, m, .dct _ _, _, h => by unfold lv at h; cases h
  | n + 1, m, .ref _, _, h => by unfold lv at h; cases h
theorem lv_ints (ns : List Int) : lv 1 (.lst (ns.map PV.int)) = true := by
  unfold lv
  simp [List.all_map, lv]
theorem lv_tints (ns : List Int) : lv 1 (.tup (ns.map PV.int)) = true := by
  unfold lv
  simp [List.all_map, lv]
end Mir

set_option Elab.async false
set_option linter.all false
set_option maxRecDepth 100000
set_option maxHeartbeats 1000000
namespace Mir
open PySem PySem.Spec PyProof.Rows L2

/-! ### octets: lists of small naturals -/
abbrev ob (bs : List Nat) : List PV := bs.map fun (b : Nat) => PV.int (b : Int)
theorem ob_ints (bs : List Nat) : ob bs = (bs.map fun (b : Nat) => (b : Int)).map PV.int := by rw [List.map_map]; rfl
theorem ob_len (bs : List Nat) : (ob bs).length = bs.length := List.length_map _
theorem ob_app (a b : List Nat) : ob a ++ ob b = ob (a ++ b) := (List.map_append).symm
theorem ob_rep (n : Nat) (a : List Nat) : (List.replicate n (ob a)).flatten = ob (List.replicate n a).flatten := by
  induction n with
  | zero => rfl
  | succ n ih => rw [List.replicate_succ, List.flatten_cons, ih, ob_app, List.replicate_succ, List.flatten_cons]
theorem repP_ob (n : Nat) (a : List Nat) : repP (ob a) (n : Int) = ob (List.replicate n a).flatten := by unfold repP; rw [Int.toNat_natCast, ob_rep]
theorem cutP_take (xs : List PV) (k : Nat) : cutP xs none (some (k : Int)) = xs.take k := by
  unfold cutP
  rw [HT.sIx_none, HT.sIx_nat, List.drop_zero, Nat.sub_zero]
  by_cases h : k ≤ xs.length
  · rw [Nat.min_eq_left h]
  · rw [Nat.min_eq_right (by omega), List.take_of_length_le (Nat.le_refl _), List.take_of_length_le (by omega)]
theorem cutP_drop (xs : List PV) (k : Nat) : cutP xs (some (k : Int)) none = xs.drop k := by
  unfold cutP
  rw [HT.sIx_none, HT.sIx_nat]
  by_cases h : k ≤ xs.length
  · rw [Nat.min_eq_left h, List.take_of_length_le (by rw [List.length_drop]; omega)]
  · rw [Nat.min_eq_right (by omega), List.drop_of_length_le (Nat.le_refl _), List.drop_of_length_le (by omega), List.take_nil]
theorem cutP_mid (xs : List PV) (i j : Nat) (h : i ≤ xs.length) (hj : j ≤ xs.length) : cutP xs (some (i : Int)) (some (j : Int)) = (xs.drop i).take (j - i) := by
  unfold cutP
  rw [HT.sIx_nat, HT.sIx_nat, Nat.min_eq_left h, Nat.min_eq_left hj]
theorem ob_take (bs : List Nat) (k : Nat) : (ob bs).take k = ob (bs.take k) := (List.map_take).symm
theorem ob_drop (bs : List Nat) (k : Nat) : (ob bs).drop k = ob (bs.drop k) := (List.map_drop).symm
def small8 (bs : List Nat) : Prop := ∀ b ∈ bs, b < 256
theorem small8.take {bs : List Nat} (h : small8 bs) (k : Nat) : small8 (bs.take k) := fun b hb => h b (List.mem_of_mem_take hb)
theorem small8.drop {bs : List Nat} (h : small8 bs) (k : Nat) : small8 (bs.drop k) := fun b hb => h b (List.mem_of_mem_drop hb)
theorem small8.rep {bs : List Nat} (h : small8 bs) (n : Nat) : small8 (List.replicate n bs).flatten := fun b hb => by
  obtain ⟨l, h1, h2⟩ := List.mem_flatten.mp hb
  rw [List.eq_of_mem_replicate h1] at h2
  exact h b h2
/-! ### a number of octets -/
def numF (bs : List Nat) : Nat := bs.foldl (fun n b => n * 256 + b) 0
theorem numF_snoc (bs : List Nat) (b : Nat) : numF (bs ++ [b]) = numF bs * 256 + b := by simp [numF]
theorem numF_go : ∀ (bs : List Nat) (n k : Nat), small8 bs → n < 256 ^ k → bs.foldl (fun n b => n * 256 + b) n < 256 ^ (k + bs.length)
  | [], n, k, _, hn => hn
  | b :: r, n, k, h, hn => by
    have h2 := h b (by simp)
    have h3 : n * 256 + b < 256 ^ (k + 1) := by
      rw [Nat.pow_succ]
      have : (n + 1) * 256 ≤ 256 ^ k * 256 := Nat.mul_le_mul_right _ hn
      omega
    have := numF_go r (n * 256 + b) (k + 1) (fun x hx => h x (by simp [hx])) h3
    rw [List.foldl_cons, List.length_cons]
    have e : k + 1 + r.length = k + (r.length + 1) := by omega
    rw [e] at this
    exact this
theorem numF_lt (bs : List Nat) (h : small8 bs) : numF bs < 256 ^ bs.length := by
  have := numF_go bs 0 0 h (by decide)
  rw [Nat.zero_add] at this
  exact this
theorem shl8_or {n b : Nat} (h : b < 256) : n <<< 8 ||| b = n * 256 + b := by
  rw [← Nat.shiftLeft_add_eq_or_of_lt (i := 8) h, Nat.shiftLeft_eq]
theorem log2_of_lt {n k : Nat} (h : n < 2 ^ k) : n.log2 ≤ k := by
  by_cases hn : n = 0
  · subst hn
    have : Nat.log2 0 = 0 := by decide
    omega
  · have := (Nat.log2_lt hn).mpr h
    omega
def be (s v : Nat) : List Nat := (List.range s).map fun k => v / 2 ^ (8 * (s - 1 - k)) % 256
theorem be_len (s v : Nat) : (be s v).length = s := by unfold be; simp
theorem be_small (s v : Nat) : small8 (be s v) := fun b hb => by
  unfold be at hb
  obtain ⟨k, _, rfl⟩ := List.mem_map.mp hb
  exact Nat.mod_lt _ (by decide)
theorem rng3_down (s : Nat) (hs : s < 2 ^ 60) : rng3Ok ((s : Int) - 1) (-1) (-1) = true ∧ (Builtin.Range.rangeSize ((s : Int) - 1) (-1) (-1)).toNat = s := by
  have e1 := PySem.W.small_down (a := (s : Int) - 1) (b := -1) (by omega) (by omega) (by decide) (by decide)
  have e2 := PySem.W.rangeSize_downNat ((s : Int) - 1) (-1)
  have e3 : ((s : Int) - 1 - -1).toNat = s := by omega
  rw [e3] at e2
  unfold rng3Ok
  rw [e1, e2]
  simp
theorem rngC_down (s : Nat) : rngC ((s : Int) - 1) (-1) s = (List.range s).map fun k => PV.int (((s - 1 - k : Nat) : Int)) := by
  unfold rngC
  refine List.map_congr_left fun k hk => ?_
  have := List.mem_range.mp hk
  congr 1
  omega
/-! ### words of 32 bits -/
def rotF (w c : Nat) : Nat := ((w >>> c) ||| (w <<< (32 - c))) &&& 4294967295
theorem rotF_lt (w c : Nat) : rotF w c < 2 ^ 32 := by
  unfold rotF
  have := Nat.and_le_right (n := (w >>> c) ||| (w <<< (32 - c))) (m := 4294967295)
  omega
theorem testBit_mask (i : Nat) : Nat.testBit 4294967295 i = decide (i < 32) := Nat.testBit_two_pow_sub_one 32 i
theorem rotF_bit {w c i : Nat} (hw : w < 2 ^ 32) (hc : c ≤ 32) (hi : i < 32) : (rotF w c).testBit i = w.testBit ((i + c) % 32) := by
  unfold rotF
  rw [Nat.testBit_and, Nat.testBit_or, Nat.testBit_shiftRight, Nat.testBit_shiftLeft, testBit_mask, decide_eq_true hi, Bool.and_true]
  by_cases h : i + c < 32
  · rw [Nat.mod_eq_of_lt h, decide_eq_false (by omega), Bool.false_and, Bool.or_false, Nat.add_comm]
  · have e1 : w.testBit (c + i) = false := Nat.testBit_lt_two_pow (Nat.lt_of_lt_of_le hw (Nat.pow_le_pow_right (by decide) (by omega)))
    have e2 : (i + c) % 32 = i - (32 - c) := by omega
    rw [e1, Bool.false_or, decide_eq_true (by omega), Bool.true_and, e2]
theorem rotF_back {w c : Nat} (hw : w < 2 ^ 32) (hc : c ≤ 32) : rotF (rotF w c) (32 - c) = w := by
  refine Nat.eq_of_testBit_eq fun i => ?_
  by_cases hi : i < 32
  · rw [rotF_bit (rotF_lt w c) (by omega) hi, rotF_bit hw hc (Nat.mod_lt _ (by decide))]
    congr 1
    omega
  · have p : 2 ^ 32 ≤ 2 ^ i := Nat.pow_le_pow_right (by decide) (by omega)
    rw [Nat.testBit_lt_two_pow (Nat.lt_of_lt_of_le (rotF_lt _ _) p), Nat.testBit_lt_two_pow (Nat.lt_of_lt_of_le hw p)]
end Mir

set_option Elab.async false
set_option linter.all false
set_option maxRecDepth 100000
set_option maxHeartbeats 1000000
namespace Mir
open PySem PySem.Spec PyProof.Rows L2

theorem whileL_succ (t : MT) (b : MS) (n : Nat) (env : En) (h : Hh) : whileL t b (n + 1) env h = ofE (t env h) env fun c h => if c = true then (match b env h with
      | .nx env h => whileL t b n env h
      | .ct env h => whileL t b n env h
      | .bk env h => .nx env h
      | z => z) else .nx env h := id rfl
/-! ### the first primes, by trial -/
def pStep (s : List Nat × Nat) : List Nat × Nat := (if s.1.all (fun p => decide (s.2 % p ≠ 0)) = true then s.1 ++ [s.2] else s.1, s.2 + 1)
def pIter : Nat → List Nat × Nat → List Nat × Nat
  | 0, s => s
  | n + 1, s => pIter n (pStep s)
def pLoop (c : Nat) : Nat → List Nat × Nat → Option (List Nat)
  | 0, _ => none
  | f + 1, s => if s.1.length < c then pLoop c f (pStep s) else some s.1
theorem pLoop_some {c : Nat} : ∀ (n f : Nat) (s : List Nat × Nat), n < f → c ≤ (pIter n s).1.length → ∃ l, pLoop c f s = some l
  | n, f + 1, s, h, e => by
    unfold pLoop
    by_cases hc : s.1.length < c
    · rw [if_pos hc]
      cases n with
      | zero => unfold pIter at e; omega
      | succ n => exact pLoop_some n f (pStep s) (by omega) (by rw [pIter] at e; exact e)
    · rw [if_neg hc]; exact ⟨_, rfl⟩
theorem pIter_348 : (pIter 348 ([], 2)).1.length = 70 := by decide +kernel
def pGood (s : List Nat × Nat) : Prop := (∀ p ∈ s.1, 2 ≤ p ∧ p < s.2) ∧ 2 ≤ s.2 ∧ s.1.length + 2 ≤ s.2
theorem pStep_good {s : List Nat × Nat} (h : pGood s) : pGood (pStep s) := by
  obtain ⟨h1, h2, h3⟩ := h
  unfold pStep pGood
  split
  · refine ⟨fun p hp => ?_, by show 2 ≤ s.2 + 1; omega, by simp; omega⟩
    rcases List.mem_append.mp hp with hp | hp
    · have := h1 p hp
      exact ⟨this.1, by show p < s.2 + 1; omega⟩
    · rw [List.mem_singleton.mp hp]; exact ⟨h2, Nat.lt_succ_self _⟩
  · exact ⟨fun p hp => ⟨(h1 p hp).1, by have := (h1 p hp).2; show p < s.2 + 1; omega⟩, by show 2 ≤ s.2 + 1; omega, by show s.1.length + 2 ≤ s.2 + 1; omega⟩
/-! ### roots from the top bit -/
theorem root_uniq {p n r s : Nat} (h1 : r ^ p ≤ n) (h2 : n < (r + 1) ^ p) (h3 : s ^ p ≤ n) (h4 : n < (s + 1) ^ p) : r = s := by
  by_cases h : r < s
  · have := Nat.pow_le_pow_left (show r + 1 ≤ s from h) p
    omega
  · by_cases h' : s < r
    · have := Nat.pow_le_pow_left (show s + 1 ≤ r from h') p
      omega
    · omega
theorem mulOk_big {a b : Nat} (h1 : a < 2 ^ 100000) (h2 : b < 2 ^ 100000) : mulOk (a : Int) (b : Int) = true := by
  have l1 := log2_of_lt h1
  have l2 := log2_of_lt h2
  unfold mulOk
  rw [Int.natAbs_natCast, Int.natAbs_natCast, decide_eq_true (show a.log2 + b.log2 < 130000000 by omega)]
  simp
theorem mulAB {a b : Nat} (h : Hh) (h1 : a < 2 ^ 100000) (h2 : b < 2 ^ 100000) : oMulA (.int (a : Int)) (.int (b : Int)) h = .ok (.int ((a * b : Nat) : Int)) h := by
  rw [mulAI h (mulOk_big h1 h2)]; simp
theorem big_of {a k : Nat} (h : a < 2 ^ k) (hk : k ≤ 100000) : a < 2 ^ 100000 := Nat.lt_of_lt_of_le h (Nat.pow_le_pow_right (by decide) hk)
theorem range_at {n a : Nat} {pre post : List Nat} (e : List.range n = pre ++ a :: post) : a = pre.length ∧ pre.length < n := by
  have hl : pre.length < n := by
    have := congrArg List.length e
    simp at this
    omega
  have h1 : (List.range n)[pre.length]? = some a := by rw [e]; simp
  rw [List.getElem?_range hl] at h1
  exact ⟨(Option.some.inj h1).symm, hl⟩
/-- one bit tried -/
def tryBit (p n b k : Nat) : Nat := if (b + 2 ^ k) ^ p ≤ n then b + 2 ^ k else b
theorem tryBit_ok {p n b k : Nat} (h1 : b ^ p ≤ n) (h2 : n < (b + 2 ^ (k + 1)) ^ p) : (tryBit p n b k) ^ p ≤ n ∧ n < (tryBit p n b k + 2 ^ k) ^ p := by
  unfold tryBit
  split
  · rename_i h
    refine ⟨h, ?_⟩
    have e : b + 2 ^ k + 2 ^ k = b + 2 ^ (k + 1) := by rw [Nat.pow_succ]; omega
    rw [e]; exact h2
  · rename_i h
    exact ⟨h1, by omega⟩
end Mir

set_option Elab.async false
set_option linter.all false
set_option maxRecDepth 100000
set_option maxHeartbeats 1000000
namespace Mir
open PySem PySem.Spec PyProof.Rows L2
/-! ### rings of 32 bits, written in three ways -/
theorem big_bit {x i : Nat} (hx : x < 2 ^ 32) (hi : 32 ≤ i) : x.testBit i = false := Nat.testBit_lt_two_pow (Nat.lt_of_lt_of_le hx (Nat.pow_le_pow_right (by decide) hi))
theorem eq_bits {x y : Nat} (hx : x < 2 ^ 32) (hy : y < 2 ^ 32) (h : ∀ i, i < 32 → x.testBit i = y.testBit i) : x = y := by
  refine Nat.eq_of_testBit_eq fun i => ?_
  by_cases hi : i < 32
  · exact h i hi
  · rw [big_bit hx (by omega), big_bit hy (by omega)]
def dbl (x : Nat) : Nat := x <<< 32 ||| x
theorem dbl_bit {x c i : Nat} (hx : x < 2 ^ 32) (hc : c ≤ 32) (hi : i < 32) : (dbl x >>> c).testBit i = x.testBit ((i + c) % 32) := by
  unfold dbl
  rw [Nat.testBit_shiftRight, Nat.testBit_or, Nat.testBit_shiftLeft]
  by_cases h : c + i < 32
  · rw [decide_eq_false (by omega), Bool.false_and, Bool.false_or, Nat.mod_eq_of_lt (by omega), Nat.add_comm]
  · rw [decide_eq_true (by omega), Bool.true_and, big_bit hx (show 32 ≤ c + i by omega), Bool.or_false]
    congr 1
    omega
theorem and_mask32 (x : Nat) : x &&& 4294967295 = x % 4294967296 := by
  rw [show (4294967295 : Nat) = 2 ^ 32 - 1 by decide, Nat.and_two_pow_sub_one_eq_mod]
def ringF (x c : Nat) : Nat := (x >>> c) + ((x % 2 ^ c) <<< (32 - c))
theorem ringF_lt {x c : Nat} (hx : x < 2 ^ 32) (hc : c ≤ 32) : ringF x c < 2 ^ 32 := by
  unfold ringF
  rw [Nat.shiftRight_eq_div_pow, Nat.shiftLeft_eq]
  have h1 : x / 2 ^ c < 2 ^ (32 - c) := by
    rw [Nat.div_lt_iff_lt_mul (Nat.two_pow_pos c), ← Nat.pow_add, show 32 - c + c = 32 by omega]
    exact hx
  have h2 : x % 2 ^ c < 2 ^ c := Nat.mod_lt _ (Nat.two_pow_pos c)
  have h3 : (x % 2 ^ c + 1) * 2 ^ (32 - c) ≤ 2 ^ c * 2 ^ (32 - c) := Nat.mul_le_mul_right _ h2
  rw [← Nat.pow_add, show c + (32 - c) = 32 by omega, Nat.add_mul, Nat.one_mul] at h3
  omega
theorem ringF_bit {x c i : Nat} (hx : x < 2 ^ 32) (hc : c ≤ 32) (hi : i < 32) : (ringF x c).testBit i = x.testBit ((i + c) % 32) := by
  have h1 : x >>> c < 2 ^ (32 - c) := by
    rw [Nat.shiftRight_eq_div_pow, Nat.div_lt_iff_lt_mul (Nat.two_pow_pos c), ← Nat.pow_add, show 32 - c + c = 32 by omega]
    exact hx
  unfold ringF
  rw [Nat.add_comm, Nat.shiftLeft_add_eq_or_of_lt h1, Nat.testBit_or, Nat.testBit_shiftLeft, Nat.testBit_shiftRight]
  by_cases h : c + i < 32
  · rw [decide_eq_false (by omega), Bool.false_and, Bool.false_or, Nat.mod_eq_of_lt (by omega), Nat.add_comm]
  · rw [decide_eq_true (by omega), Bool.true_and, big_bit hx (show 32 ≤ c + i by omega), Bool.or_false, Nat.testBit_mod_two_pow, decide_eq_true (by omega), Bool.true_and]
    congr 1
    omega
theorem ring_rot {x c : Nat} (hx : x < 2 ^ 32) (hc : c ≤ 32) : ringF x c = rotF x c :=
  eq_bits (ringF_lt hx hc) (rotF_lt x c) fun i hi => by rw [ringF_bit hx hc hi, rotF_bit hx hc hi]
/-- three rings of a word, by the doubled word -/
theorem and_lt32 (x : Nat) : x &&& 4294967295 < 2 ^ 32 := by
  have := Nat.and_le_right (n := x) (m := 4294967295)
  omega
theorem xor_lt32 {x y : Nat} (hx : x < 2 ^ 32) (hy : y < 2 ^ 32) : x ^^^ y < 2 ^ 32 := Nat.xor_lt_two_pow hx hy
theorem rings3 {x a b c : Nat} (hx : x < 2 ^ 32) (ha : a ≤ 32) (hb : b ≤ 32) (hc : c ≤ 32) : (dbl x >>> a ^^^ dbl x >>> b ^^^ dbl x >>> c) &&& 4294967295 = rotF x a ^^^ rotF x b ^^^ rotF x c :=
  eq_bits (and_lt32 _) (xor_lt32 (xor_lt32 (rotF_lt _ _) (rotF_lt _ _)) (rotF_lt _ _)) fun i hi => by
    rw [Nat.testBit_and, testBit_mask, decide_eq_true hi, Bool.and_true, Nat.testBit_xor, Nat.testBit_xor, Nat.testBit_xor, Nat.testBit_xor, dbl_bit hx ha hi, dbl_bit hx hb hi, dbl_bit hx hc hi, rotF_bit hx ha hi, rotF_bit hx hb hi, rotF_bit hx hc hi]
theorem rings2 {x a b c : Nat} (hx : x < 2 ^ 32) (ha : a ≤ 32) (hb : b ≤ 32) : (dbl x >>> a ^^^ dbl x >>> b ^^^ x >>> c) &&& 4294967295 = rotF x a ^^^ rotF x b ^^^ x >>> c :=
  eq_bits (and_lt32 _) (xor_lt32 (xor_lt32 (rotF_lt _ _) (rotF_lt _ _)) (Nat.lt_of_le_of_lt (Nat.shiftRight_le x c) hx)) fun i hi => by
    rw [Nat.testBit_and, testBit_mask, decide_eq_true hi, Bool.and_true, Nat.testBit_xor, Nat.testBit_xor, Nat.testBit_xor, Nat.testBit_xor, dbl_bit hx ha hi, dbl_bit hx hb hi, rotF_bit hx ha hi, rotF_bit hx hb hi]
theorem choose_eq {e f g : Nat} (he : e < 2 ^ 32) (hf : f < 2 ^ 32) (hg : g < 2 ^ 32) : g ^^^ (e &&& (f ^^^ g)) = (e &&& f) ^^^ ((4294967295 - e) &&& g) := by
  refine Nat.eq_of_testBit_eq fun i => ?_
  have hn : (4294967295 - e).testBit i = (decide (i < 32) && !e.testBit i) := by
    have := Nat.testBit_two_pow_sub_succ (n := 32) he i
    rw [show (2 : Nat) ^ 32 - (e + 1) = 4294967295 - e by omega] at this
    exact this
  rw [Nat.testBit_xor, Nat.testBit_and, Nat.testBit_xor, Nat.testBit_xor, Nat.testBit_and, Nat.testBit_and, hn]
  by_cases hi : i < 32
  · rw [decide_eq_true hi]
    cases e.testBit i <;> cases f.testBit i <;> cases g.testBit i <;> rfl
  · rw [decide_eq_false hi, big_bit he (by omega), big_bit hf (by omega), big_bit hg (by omega)]
    rfl
theorem major_eq (a b c : Nat) : (a &&& b) ||| (c &&& (a ||| b)) = (a &&& b) ^^^ (a &&& c) ^^^ (b &&& c) := by
  refine Nat.eq_of_testBit_eq fun i => ?_
  rw [Nat.testBit_or, Nat.testBit_and, Nat.testBit_and, Nat.testBit_or, Nat.testBit_xor, Nat.testBit_xor, Nat.testBit_and, Nat.testBit_and, Nat.testBit_and]
  cases a.testBit i <;> cases b.testBit i <;> cases c.testBit i <;> rfl
/-! ### the words of a block -/
def loF (x : Nat) : Nat := rotF x 7 ^^^ rotF x 18 ^^^ x >>> 3
def hiF (x : Nat) : Nat := rotF x 17 ^^^ rotF x 19 ^^^ x >>> 10
def nextW (l : List Nat) (k : Nat) : Nat := (l.getD (k - 16) 0 + loF (l.getD (k - 15) 0) + l.getD (k - 7) 0 + hiF (l.getD (k - 2) 0)) % 4294967296
def expW (ws : List Nat) : Nat → List Nat
  | 0 => ws
  | n + 1 => expW ws n ++ [nextW (expW ws n) (16 + n)]
def small32 (l : List Nat) : Prop := ∀ x ∈ l, x < 2 ^ 32
theorem nextW_lt (l : List Nat) (k : Nat) : nextW l k < 2 ^ 32 := Nat.mod_lt _ (by decide)
theorem expW_len (ws : List Nat) : ∀ n, (expW ws n).length = ws.length + n
  | 0 => rfl
  | n + 1 => by rw [expW, List.length_append, expW_len ws n, List.length_singleton]; omega
theorem expW_small {ws : List Nat} (h : small32 ws) : ∀ n, small32 (expW ws n)
  | 0 => h
  | n + 1 => fun x hx => by
    rw [expW] at hx
    rcases List.mem_append.mp hx with hx | hx
    · exact expW_small h n x hx
    · rw [List.mem_singleton.mp hx]; exact nextW_lt _ _
theorem getD_small {l : List Nat} (h : small32 l) (k : Nat) : l.getD k 0 < 2 ^ 32 := by
  by_cases hk : k < l.length
  · rw [List.getD_eq_getElem?_getD, List.getElem?_eq_getElem hk]; exact h _ (List.getElem_mem hk)
  · rw [List.getD_eq_getElem?_getD, List.getElem?_eq_none (by omega)]; decide
end Mir

set_option Elab.async false
set_option linter.all false
set_option maxRecDepth 100000
set_option maxHeartbeats 1000000
/-! MirK: plain laws of MirI's and MirJ's words -/
namespace Mir
open PySem
section
variable {env : En} {h : Hh} {m mo mv : ME} {ma mr : MA} {mf : MF} {c f mm : Str} {cs : List Str} {i : Nat}
theorem aFld : mFld cs f m env h = (m env h).bind fun x h => (match x with
  | .ref n => (match h[n]? with
    | some (.ins c ns vs) => if c ∈ cs then (match getF f ns vs with
      | some y => .ok y h
      | none => .no) else .no
    | _ => .no)
  | _ => .no) := id rfl
theorem aSetF : mSetF cs f mo mv env h = ofE (mv env h) env fun y h => ofE (mo env h) env fun x h => (match x with
  | .ref n => (match h[n]? with
    | some (.ins c ns vs) => if c ∈ cs ∧ ns.length < 1000 then .nx env (h.set n (.ins c (insN f ns) (insV f y ns vs))) else .no
    | _ => .no)
  | _ => .no) := id rfl
theorem aMeth : mMeth c mm mf mo mr env h = (mo env h).bind fun x h => (match x with
  | .ref n => (match h[n]? with
    | some (.ins c' ns vs) => if c' = c then (match getF mm ns vs with
      | none => (mr env h).bind fun xs h => mf (.ref n :: xs) h
      | some _ => .no) else .no
    | _ => .no)
  | _ => .no) := id rfl
theorem aMake : mMake c mf mr env h = (mr env h).bind fun xs h1 => (mf (.ref h1.length :: xs) (h1 ++ [.ins c [] []])).bind fun r h2 => (match r with
  | .non => .ok (.ref h1.length) h2
  | _ => .no) := id rfl
@[simp] theorem aExt : mExt i m env h = (match env[i]? with
  | some (.own (.lst xs)) => ofE (m env h) env fun x h => (match x with
    | .tup ys => if xs.length + ys.length ≤ 16777216 then .nx (env.set i (.own (.lst (xs ++ ys)))) h else .no
    | .lst ys => if xs.length + ys.length ≤ 16777216 then .nx (env.set i (.own (.lst (xs ++ ys)))) h else .no
    | _ => .no)
  | _ => .no) := id rfl
@[simp] theorem getF_nil {α : Type} (vs : List α) : getF f [] vs = none := by unfold getF; rfl
@[simp] theorem getF_cons {α : Type} (n : Str) (ns : List Str) (v : α) (vs : List α) : getF f (n :: ns) (v :: vs) = if n = f then some v else getF f ns vs := by rw [getF]
@[simp] theorem insN_nil : insN f [] = [f] := by unfold insN; rfl
@[simp] theorem insN_cons (n : Str) (ns : List Str) : insN f (n :: ns) = if n = f then n :: ns else n :: insN f ns := by rw [insN]
@[simp] theorem insV_nil {α : Type} (y : α) (vs : List α) : insV f y [] vs = [y] := by unfold insV; rfl
@[simp] theorem insV_cons {α : Type} (y : α) (n : Str) (ns : List Str) (v : α) (vs : List α) : insV f y (n :: ns) (v :: vs) = if n = f then y :: vs else v :: insV f y ns vs := by rw [insV]
/-- an attribute that is there -/
theorem fld_at {n : Nat} {ns : List Str} {vs : List PV} {y : PV} (hm : m env h = .ok (.ref n) h) (hn : h[n]? = some (.ins c ns vs)) (hc : c ∈ cs) (hy : getF f ns vs = some y) : mFld cs f m env h = .ok y h := by
  simp only [aFld, hm, Res.bind_ok, hn, hc, if_true, hy]
theorem meth_at {n : Nat} {ns : List Str} {vs : List PV} (hm : mo env h = .ok (.ref n) h) (hn : h[n]? = some (.ins c ns vs)) (hy : getF mm ns vs = none) : mMeth c mm mf mo mr env h = (mr env h).bind fun xs h => mf (.ref n :: xs) h := by
  simp only [aMeth, hm, Res.bind_ok, hn, if_true, hy]
theorem setF_at {n : Nat} {ns : List Str} {vs : List PV} {y : PV} (hv : mv env h = .ok y h) (hm : mo env h = .ok (.ref n) h) (hn : h[n]? = some (.ins c ns vs)) (hc : c ∈ cs) (hl : ns.length < 1000) : mSetF cs f mo mv env h = .nx env (h.set n (.ins c (insN f ns) (insV f y ns vs))) := by
  simp only [aSetF, hv, ofE_ok, hm, hn, hc, hl, and_self, if_true]
end
end Mir
namespace Mir
open PySem
theorem forL_invH {α : Type} {g : MG} {b : MS} (F : α → PV) (I : List α → En → Hh → Prop) : ∀ (l pre : List α), (∀ pre' a post, pre ++ l = pre' ++ a :: post → ∀ env h, I pre' env h → ∃ env1 env2 h2, g (F a) env = some env1 ∧ b env1 h = .nx env2 h2 ∧ I (pre' ++ [a]) env2 h2) →
    ∀ env h, I pre env h → ∃ env' h', forL g b (l.map F) env h = .nx env' h' ∧ I (pre ++ l) env' h'
  | [], pre, _, env, h, i => ⟨env, h, rfl, by rw [List.append_nil]; exact i⟩
  | a :: r, pre, H, env, h, i => by
    obtain ⟨env1, env2, h2, h1, h3, i2⟩ := H pre a r rfl env h i
    obtain ⟨env', h', e1, i3⟩ := forL_invH (g := g) (b := b) F I r (pre ++ [a]) (fun pre' a' post e => H pre' a' post (by rw [← e]; simp)) env2 h2 i2
    refine ⟨env', h', ?_, by simpa using i3⟩
    rw [List.map_cons]
    unfold forL
    simp only [h1, h3]
    exact e1
theorem set_last (h0 : Hh) (x y : Ob) : (h0 ++ [x]).set h0.length y = h0 ++ [y] := by
  rw [List.set_append_right _ _ (Nat.le_refl _), Nat.sub_self]; rfl
theorem get_last (h0 : Hh) (x : Ob) : (h0 ++ [x])[h0.length]? = some x := by
  rw [List.getElem?_append_right (Nat.le_refl _), Nat.sub_self]; rfl
theorem get_more {h0 : Hh} {n : Nat} {x : Ob} (e : h0[n]? = some x) (ys : Hh) : (h0 ++ ys)[n]? = some x := by
  rw [List.getElem?_append_left (List.getElem?_eq_some_iff.mp e).1]; exact e
theorem setF_last {h0 : Hh} {c f : Str} {ns : List Str} {vs : List PV} {env : En} {mo mv : ME} {y : PV} (hv : mv env (h0 ++ [.ins c ns vs]) = .ok y (h0 ++ [.ins c ns vs])) (hm : mo env (h0 ++ [.ins c ns vs]) = .ok (.ref h0.length) (h0 ++ [.ins c ns vs])) (hl : ns.length < 1000) :
    mSetF [c] f mo mv env (h0 ++ [.ins c ns vs]) = .nx env (h0 ++ [.ins c (insN f ns) (insV f y ns vs)]) := by
  rw [setF_at hv hm (get_last _ _) (by simp) hl, set_last]
end Mir

set_option Elab.async false
set_option linter.all false
set_option maxRecDepth 100000
set_option maxHeartbeats 1000000
/-! ### the text of the law, by gen.py -/
namespace Law
open PySem PySem.Spec PyProof.Rows L2 Mir
def inC (s : Stmt) (j : Nat) : Stmt := match s with
  | .ClassDef (body := b) .. => b.getD j (.Pass ⟨0, 0, 0, 0⟩)
  | _ => .Pass ⟨0, 0, 0, 0⟩
def topS (i : Nat) : Stmt := PySem.Challenge.pw_swarmwhole_k15_whole_forged_pieces_are_p.main.body.getD i (.Pass ⟨0, 0, 0, 0⟩)
abbrev s_L_rich : Stmt := topS 51
def N_L_rich : List Str := ["_law_cell_here", "_law_k", "_law_rich_here", "_law_mixed", "_law_turn"]
def P_L_rich : List Str := ["_law_cell_here", "_law_k"]
theorem sc_L_rich : FnScope N_L_rich P_L_rich (defScope s_L_rich) := ⟨rfl, rfl, rfl, by decide +kernel, rfl, by decide +kernel, by decide +kernel⟩
abbrev s_L_cell : Stmt := topS 50
def N_L_cell : List Str := ["_law_script", "_law_k"]
def P_L_cell : List Str := ["_law_script", "_law_k"]
theorem sc_L_cell : FnScope N_L_cell P_L_cell (defScope s_L_cell) := ⟨rfl, rfl, rfl, by decide +kernel, rfl, by decide +kernel, by decide +kernel⟩
abbrev s_is_integer : Stmt := topS 7
def N_is_integer : List Str := ["value"]
def P_is_integer : List Str := ["value"]
theorem sc_is_integer : FnScope N_is_integer P_is_integer (defScope s_is_integer) := ⟨rfl, rfl, rfl, by decide +kernel, rfl, by decide +kernel, by decide +kernel⟩
abbrev s_is_kind : Stmt := topS 45
def N_is_kind : List Str := ["value"]
def P_is_kind : List Str := ["value"]
theorem sc_is_kind : FnScope N_is_kind P_is_kind (defScope s_is_kind) := ⟨rfl, rfl, rfl, by decide +kernel, rfl, by decide +kernel, by decide +kernel⟩
abbrev s_check_kind : Stmt := topS 46
def N_check_kind : List Str := ["value"]
def P_check_kind : List Str := ["value"]
theorem sc_check_kind : FnScope N_check_kind P_check_kind (defScope s_check_kind) := ⟨rfl, rfl, rfl, by decide +kernel, rfl, by decide +kernel, by decide +kernel⟩
abbrev s_first_primes : Stmt := topS 30
def N_first_primes : List Str := ["count", "found", "number", "prime"]
def P_first_primes : List Str := ["count"]
theorem sc_first_primes : FnScope N_first_primes P_first_primes (defScope s_first_primes) := ⟨rfl, rfl, rfl, by decide +kernel, rfl, by decide +kernel, by decide +kernel⟩
abbrev s_square_word : Stmt := topS 32
def N_square_word : List Str := ["number"]
def P_square_word : List Str := ["number"]
theorem sc_square_word : FnScope N_square_word P_square_word (defScope s_square_word) := ⟨rfl, rfl, rfl, by decide +kernel, rfl, by decide +kernel, by decide +kernel⟩
abbrev s_start_words : Stmt := topS 34
def N_start_words : List Str := ["prime"]
def P_start_words : List Str := []
theorem sc_start_words : FnScope N_start_words P_start_words (defScope s_start_words) := ⟨rfl, rfl, rfl, by decide +kernel, rfl, by decide +kernel, by decide +kernel⟩
abbrev s_cube_root : Stmt := topS 31
def N_cube_root : List Str := ["number", "root", "place", "more"]
def P_cube_root : List Str := ["number"]
theorem sc_cube_root : FnScope N_cube_root P_cube_root (defScope s_cube_root) := ⟨rfl, rfl, rfl, by decide +kernel, rfl, by decide +kernel, by decide +kernel⟩
abbrev s_cube_word : Stmt := topS 33
def N_cube_word : List Str := ["number"]
def P_cube_word : List Str := ["number"]
theorem sc_cube_word : FnScope N_cube_word P_cube_word (defScope s_cube_word) := ⟨rfl, rfl, rfl, by decide +kernel, rfl, by decide +kernel, by decide +kernel⟩
abbrev s_round_words : Stmt := topS 35
def N_round_words : List Str := ["prime"]
def P_round_words : List Str := []
theorem sc_round_words : FnScope N_round_words P_round_words (defScope s_round_words) := ⟨rfl, rfl, rfl, by decide +kernel, rfl, by decide +kernel, by decide +kernel⟩
abbrev s_Hasher_init : Stmt := inC (topS 48) 0
def N_Hasher_init : List Str := ["self", "kind"]
def P_Hasher_init : List Str := ["self", "kind"]
theorem sc_Hasher_init : FnScope N_Hasher_init P_Hasher_init (defScope s_Hasher_init) := ⟨rfl, rfl, rfl, by decide +kernel, rfl, by decide +kernel, by decide +kernel⟩
abbrev s_L_codes : Stmt := topS 52
def N_L_codes : List Str := ["_law_rich_here", "_law_count", "_law_base", "_law_codes_here", "_law_turn"]
def P_L_codes : List Str := ["_law_rich_here", "_law_count", "_law_base"]
theorem sc_L_codes : FnScope N_L_codes P_L_codes (defScope s_L_codes) := ⟨rfl, rfl, rfl, by decide +kernel, rfl, by decide +kernel, by decide +kernel⟩
abbrev s_L_pieces : Stmt := topS 56
def N_L_pieces : List Str := ["_law_rich_here", "_law_most", "_law_size", "_law_pieces_here", "_law_code", "_law_piece", "_law_at"]
def P_L_pieces : List Str := ["_law_rich_here", "_law_most"]
theorem sc_L_pieces : FnScope N_L_pieces P_L_pieces (defScope s_L_pieces) := ⟨rfl, rfl, rfl, by decide +kernel, rfl, by decide +kernel, by decide +kernel⟩
abbrev s_as_octets : Stmt := topS 11
def N_as_octets : List Str := ["number", "size", "place"]
def P_as_octets : List Str := ["number", "size"]
theorem sc_as_octets : FnScope N_as_octets P_as_octets (defScope s_as_octets) := ⟨rfl, rfl, rfl, by decide +kernel, rfl, by decide +kernel, by decide +kernel⟩
abbrev s_plain_sum : Stmt := topS 47
def N_plain_sum : List Str := ["octets", "size", "limit", "total", "octet"]
def P_plain_sum : List Str := ["octets", "size"]
theorem sc_plain_sum : FnScope N_plain_sum P_plain_sum (defScope s_plain_sum) := ⟨rfl, rfl, rfl, by decide +kernel, rfl, by decide +kernel, by decide +kernel⟩
abbrev s_padded : Stmt := topS 36
def N_padded : List Str := ["octets", "zeros"]
def P_padded : List Str := ["octets"]
theorem sc_padded : FnScope N_padded P_padded (defScope s_padded) := ⟨rfl, rfl, rfl, by decide +kernel, rfl, by decide +kernel, by decide +kernel⟩
abbrev s_expanded : Stmt := topS 38
def N_expanded : List Str := ["words", "found", "at", "one", "other", "double", "low", "high"]
def P_expanded : List Str := ["words"]
theorem sc_expanded : FnScope N_expanded P_expanded (defScope s_expanded) := ⟨rfl, rfl, rfl, by decide +kernel, rfl, by decide +kernel, by decide +kernel⟩
abbrev s_compressed : Stmt := topS 39
def N_compressed : List Str := ["state", "words", "rounds", "a", "b", "c", "d", "e", "f", "g", "h", "word", "constant", "double", "high", "first", "low", "second", "one", "other"]
def P_compressed : List Str := ["state", "words", "rounds"]
theorem sc_compressed : FnScope N_compressed P_compressed (defScope s_compressed) := ⟨rfl, rfl, rfl, by decide +kernel, rfl, by decide +kernel, by decide +kernel⟩
abbrev s_number_of : Stmt := topS 10
def N_number_of : List Str := ["octets", "number", "octet"]
def P_number_of : List Str := ["octets"]
theorem sc_number_of : FnScope N_number_of P_number_of (defScope s_number_of) := ⟨rfl, rfl, rfl, by decide +kernel, rfl, by decide +kernel, by decide +kernel⟩
abbrev s_block_words : Stmt := topS 37
def N_block_words : List Str := ["block", "at"]
def P_block_words : List Str := ["block"]
theorem sc_block_words : FnScope N_block_words P_block_words (defScope s_block_words) := ⟨rfl, rfl, rfl, by decide +kernel, rfl, by decide +kernel, by decide +kernel⟩
abbrev s_joined : Stmt := topS 12
def N_joined : List Str := ["parts", "found", "part"]
def P_joined : List Str := ["parts"]
theorem sc_joined : FnScope N_joined P_joined (defScope s_joined) := ⟨rfl, rfl, rfl, by decide +kernel, rfl, by decide +kernel, by decide +kernel⟩
abbrev s_sha : Stmt := topS 40
def N_sha : List Str := ["octets", "start", "rounds", "state", "whole", "at", "word"]
def P_sha : List Str := ["octets", "start", "rounds"]
theorem sc_sha : FnScope N_sha P_sha (defScope s_sha) := ⟨rfl, rfl, rfl, by decide +kernel, rfl, by decide +kernel, by decide +kernel⟩
abbrev s_Hasher_digest : Stmt := inC (topS 48) 1
def N_Hasher_digest : List Str := ["self", "octets"]
def P_Hasher_digest : List Str := ["self", "octets"]
theorem sc_Hasher_digest : FnScope N_Hasher_digest P_Hasher_digest (defScope s_Hasher_digest) := ⟨rfl, rfl, rfl, by decide +kernel, rfl, by decide +kernel, by decide +kernel⟩
abbrev s_leaf_text : Stmt := topS 18
def N_leaf_text : List Str := ["piece"]
def P_leaf_text : List Str := ["piece"]
theorem sc_leaf_text : FnScope N_leaf_text P_leaf_text (defScope s_leaf_text) := ⟨rfl, rfl, rfl, by decide +kernel, rfl, by decide +kernel, by decide +kernel⟩
abbrev s_depth : Stmt := topS 17
def N_depth : List Str := ["count", "found"]
def P_depth : List Str := ["count"]
theorem sc_depth : FnScope N_depth P_depth (defScope s_depth) := ⟨rfl, rfl, rfl, by decide +kernel, rfl, by decide +kernel, by decide +kernel⟩
abbrev s_node_text : Stmt := topS 19
def N_node_text : List Str := ["left", "right"]
def P_node_text : List Str := ["left", "right"]
theorem sc_node_text : FnScope N_node_text P_node_text (defScope s_node_text) := ⟨rfl, rfl, rfl, by decide +kernel, rfl, by decide +kernel, by decide +kernel⟩
abbrev s_levels : Stmt := topS 20
def N_levels : List Str := ["hasher", "pieces", "row", "empty", "found", "piece", "_", "at"]
def P_levels : List Str := ["hasher", "pieces"]
theorem sc_levels : FnScope N_levels P_levels (defScope s_levels) := ⟨rfl, rfl, rfl, by decide +kernel, rfl, by decide +kernel, by decide +kernel⟩
abbrev s_proofs : Stmt := topS 22
def N_proofs : List Str := ["hasher", "pieces", "rows", "found", "index", "height", "row"]
def P_proofs : List Str := ["hasher", "pieces"]
theorem sc_proofs : FnScope N_proofs P_proofs (defScope s_proofs) := ⟨rfl, rfl, rfl, by decide +kernel, rfl, by decide +kernel, by decide +kernel⟩
abbrev s_L_digest : Stmt := topS 54
def N_L_digest : List Str := ["_law_kind_here", "_law_words", "_law_octets", "_law_limit", "_law_total", "_law_octet", "_law_k"]
def P_L_digest : List Str := ["_law_kind_here", "_law_words", "_law_octets"]
theorem sc_L_digest : FnScope N_L_digest P_L_digest (defScope s_L_digest) := ⟨rfl, rfl, rfl, by decide +kernel, rfl, by decide +kernel, by decide +kernel⟩
abbrev s_L_top : Stmt := topS 58
def N_L_top : List Str := ["_law_kind_here", "_law_words", "_law_pieces_here", "_law_first", "_law_height", "_law_half", "_law_left", "_law_right_here", "_law_text"]
def P_L_top : List Str := ["_law_kind_here", "_law_words", "_law_pieces_here", "_law_first", "_law_height"]
theorem sc_L_top : FnScope N_L_top P_L_top (defScope s_L_top) := ⟨rfl, rfl, rfl, by decide +kernel, rfl, by decide +kernel, by decide +kernel⟩
abbrev s_L_depth : Stmt := topS 57
def N_L_depth : List Str := ["_law_count", "_law_height", "_law_turn"]
def P_L_depth : List Str := ["_law_count"]
theorem sc_L_depth : FnScope N_L_depth P_L_depth (defScope s_L_depth) := ⟨rfl, rfl, rfl, by decide +kernel, rfl, by decide +kernel, by decide +kernel⟩
abbrev s_L_is_octets : Stmt := topS 62
def N_L_is_octets : List Str := ["_law_value", "_law_item"]
def P_L_is_octets : List Str := ["_law_value"]
theorem sc_L_is_octets : FnScope N_L_is_octets P_L_is_octets (defScope s_L_is_octets) := ⟨rfl, rfl, rfl, by decide +kernel, rfl, by decide +kernel, by decide +kernel⟩
abbrev s_L_is_proof : Stmt := topS 63
def N_L_is_proof : List Str := ["_law_kind_here", "_law_count", "_law_value", "_law_item"]
def P_L_is_proof : List Str := ["_law_kind_here", "_law_count", "_law_value"]
theorem sc_L_is_proof : FnScope N_L_is_proof P_L_is_proof (defScope s_L_is_proof) := ⟨rfl, rfl, rfl, by decide +kernel, rfl, by decide +kernel, by decide +kernel⟩
abbrev s_L_path : Stmt := topS 60
def N_L_path : List Str := ["_law_kind_here", "_law_words", "_law_index", "_law_piece", "_law_proof_here", "_law_texts", "_law_height", "_law_below", "_law_left", "_law_right_here"]
def P_L_path : List Str := ["_law_kind_here", "_law_words", "_law_index", "_law_piece", "_law_proof_here"]
theorem sc_L_path : FnScope N_L_path P_L_path (defScope s_L_path) := ⟨rfl, rfl, rfl, by decide +kernel, rfl, by decide +kernel, by decide +kernel⟩
abbrev s_L_fold : Stmt := topS 61
def N_L_fold : List Str := ["_law_kind_here", "_law_words", "_law_index", "_law_piece", "_law_proof_here", "_law_texts"]
def P_L_fold : List Str := ["_law_kind_here", "_law_words", "_law_index", "_law_piece", "_law_proof_here"]
theorem sc_L_fold : FnScope N_L_fold P_L_fold (defScope s_L_fold) := ⟨rfl, rfl, rfl, by decide +kernel, rfl, by decide +kernel, by decide +kernel⟩
abbrev s_L_fits : Stmt := topS 64
def N_L_fits : List Str := ["_law_kind_here", "_law_words", "_law_top_here", "_law_count", "_law_index", "_law_piece", "_law_proof_here"]
def P_L_fits : List Str := ["_law_kind_here", "_law_words", "_law_top_here", "_law_count", "_law_index", "_law_piece", "_law_proof_here"]
theorem sc_L_fits : FnScope N_L_fits P_L_fits (defScope s_L_fits) := ⟨rfl, rfl, rfl, by decide +kernel, rfl, by decide +kernel, by decide +kernel⟩
abbrev s_L_proof : Stmt := topS 59
def N_L_proof : List Str := ["_law_kind_here", "_law_words", "_law_pieces_here", "_law_index", "_law_most", "_law_found", "_law_height", "_law_other"]
def P_L_proof : List Str := ["_law_kind_here", "_law_words", "_law_pieces_here", "_law_index"]
theorem sc_L_proof : FnScope N_L_proof P_L_proof (defScope s_L_proof) := ⟨rfl, rfl, rfl, by decide +kernel, rfl, by decide +kernel, by decide +kernel⟩
abbrev s_L_due : Stmt := topS 70
def N_L_due : List Str := ["_law_kind_here", "_law_pieces_here", "_law_index", "_law_piece", "_law_proof_here", "_law_top_here", "_law_true", "_law_told_here", "_law_k"]
def P_L_due : List Str := ["_law_kind_here", "_law_pieces_here", "_law_index", "_law_piece", "_law_proof_here"]
theorem sc_L_due : FnScope N_L_due P_L_due (defScope s_L_due) := ⟨rfl, rfl, rfl, by decide +kernel, rfl, by decide +kernel, by decide +kernel⟩
abbrev s_L_same : Stmt := topS 53
def N_L_same : List Str := ["_law_actual", "_law_due_here", "_law_k"]
def P_L_same : List Str := ["_law_actual", "_law_due_here"]
theorem sc_L_same : FnScope N_L_same P_L_same (defScope s_L_same) := ⟨rfl, rfl, rfl, by decide +kernel, rfl, by decide +kernel, by decide +kernel⟩
abbrev s_is_octet : Stmt := topS 8
def N_is_octet : List Str := ["value"]
def P_is_octet : List Str := ["value"]
theorem sc_is_octet : FnScope N_is_octet P_is_octet (defScope s_is_octet) := ⟨rfl, rfl, rfl, by decide +kernel, rfl, by decide +kernel, by decide +kernel⟩
abbrev s_is_octets : Stmt := topS 9
def N_is_octets : List Str := ["value", "size", "item"]
def P_is_octets : List Str := ["value", "size"]
theorem sc_is_octets : FnScope N_is_octets P_is_octets (defScope s_is_octets) := ⟨rfl, rfl, rfl, by decide +kernel, rfl, by decide +kernel, by decide +kernel⟩
abbrev s_Hasher_is_digest : Stmt := inC (topS 48) 2
def N_Hasher_is_digest : List Str := ["self", "value"]
def P_Hasher_is_digest : List Str := ["self", "value"]
theorem sc_Hasher_is_digest : FnScope N_Hasher_is_digest P_Hasher_is_digest (defScope s_Hasher_is_digest) := ⟨rfl, rfl, rfl, by decide +kernel, rfl, by decide +kernel, by decide +kernel⟩
abbrev s_is_proof : Stmt := topS 25
def N_is_proof : List Str := ["hasher", "count", "value", "item"]
def P_is_proof : List Str := ["hasher", "count", "value"]
theorem sc_is_proof : FnScope N_is_proof P_is_proof (defScope s_is_proof) := ⟨rfl, rfl, rfl, by decide +kernel, rfl, by decide +kernel, by decide +kernel⟩
abbrev s_path : Stmt := topS 23
def N_path : List Str := ["hasher", "index", "piece", "proof", "found", "height", "other", "below"]
def P_path : List Str := ["hasher", "index", "piece", "proof"]
theorem sc_path : FnScope N_path P_path (defScope s_path) := ⟨rfl, rfl, rfl, by decide +kernel, rfl, by decide +kernel, by decide +kernel⟩
abbrev s_fold : Stmt := topS 24
def N_fold : List Str := ["hasher", "index", "piece", "proof"]
def P_fold : List Str := ["hasher", "index", "piece", "proof"]
theorem sc_fold : FnScope N_fold P_fold (defScope s_fold) := ⟨rfl, rfl, rfl, by decide +kernel, rfl, by decide +kernel, by decide +kernel⟩
abbrev s_fits : Stmt := topS 26
def N_fits : List Str := ["hasher", "top", "count", "index", "piece", "proof"]
def P_fits : List Str := ["hasher", "top", "count", "index", "piece", "proof"]
theorem sc_fits : FnScope N_fits P_fits (defScope s_fits) := ⟨rfl, rfl, rfl, by decide +kernel, rfl, by decide +kernel, by decide +kernel⟩
abbrev s_root : Stmt := topS 21
def N_root : List Str := ["hasher", "pieces"]
def P_root : List Str := ["hasher", "pieces"]
theorem sc_root : FnScope N_root P_root (defScope s_root) := ⟨rfl, rfl, rfl, by decide +kernel, rfl, by decide +kernel, by decide +kernel⟩
abbrev s_parted : Stmt := topS 27
def N_parted : List Str := ["hasher", "pieces", "index", "piece", "proof", "true", "one", "other"]
def P_parted : List Str := ["hasher", "pieces", "index", "piece", "proof"]
theorem sc_parted : FnScope N_parted P_parted (defScope s_parted) := ⟨rfl, rfl, rfl, by decide +kernel, rfl, by decide +kernel, by decide +kernel⟩
abbrev s_L_told : Stmt := topS 71
def N_L_told : List Str := ["_law_hasher", "_law_pieces_here", "_law_index", "_law_piece", "_law_proof_here", "e"]
def P_L_told : List Str := ["_law_hasher", "_law_pieces_here", "_law_index", "_law_piece", "_law_proof_here"]
theorem sc_L_told : FnScope N_L_told P_L_told (defScope s_L_told) := ⟨rfl, rfl, rfl, by decide +kernel, rfl, by decide +kernel, by decide +kernel⟩
abbrev s_L_right : Stmt := topS 72
def N_L_right : List Str := ["_law_hasher", "_law_kind_here", "_law_pieces_here", "_law_index", "_law_piece", "_law_proof_here", "_law_due_here", "_law_same_here"]
def P_L_right : List Str := ["_law_hasher", "_law_kind_here", "_law_pieces_here", "_law_index", "_law_piece", "_law_proof_here"]
theorem sc_L_right : FnScope N_L_right P_L_right (defScope s_L_right) := ⟨rfl, rfl, rfl, by decide +kernel, rfl, by decide +kernel, by decide +kernel⟩
abbrev s_L_with_digest : Stmt := topS 67
def N_L_with_digest : List Str := ["_law_kind_here", "_law_size", "_law_due_here", "_law_rich_here", "_law_turn", "_law_code", "_law_near", "_law_at"]
def P_L_with_digest : List Str := ["_law_kind_here", "_law_size", "_law_due_here", "_law_rich_here"]
theorem sc_L_with_digest : FnScope N_L_with_digest P_L_with_digest (defScope s_L_with_digest) := ⟨rfl, rfl, rfl, by decide +kernel, rfl, by decide +kernel, by decide +kernel⟩
abbrev s_L_carried : Stmt := topS 66
def N_L_carried : List Str := ["_law_octets", "_law_found", "_law_at", "_law_step", "_law_one", "_law_other"]
def P_L_carried : List Str := ["_law_octets"]
theorem sc_L_carried : FnScope N_L_carried P_L_carried (defScope s_L_carried) := ⟨rfl, rfl, rfl, by decide +kernel, rfl, by decide +kernel, by decide +kernel⟩
abbrev s_L_forged_pair : Stmt := topS 68
def N_L_forged_pair : List Str := ["_law_kind_here", "_law_index", "_law_piece", "_law_proof_here", "_law_rich_here", "_law_below", "_law_turned", "_law_ways", "_law_whole", "_law_left", "_law_right_here", "_law_near"]
def P_L_forged_pair : List Str := ["_law_kind_here", "_law_index", "_law_piece", "_law_proof_here", "_law_rich_here"]
theorem sc_L_forged_pair : FnScope N_L_forged_pair P_L_forged_pair (defScope s_L_forged_pair) := ⟨rfl, rfl, rfl, by decide +kernel, rfl, by decide +kernel, by decide +kernel⟩
abbrev s_L_forged : Stmt := topS 69
def N_L_forged : List Str := ["_law_kind_here", "_law_index", "_law_piece", "_law_proof_here", "_law_rich_here", "_law_choice", "_law_at", "_law_ways", "_law_near"]
def P_L_forged : List Str := ["_law_kind_here", "_law_index", "_law_piece", "_law_proof_here", "_law_rich_here"]
theorem sc_L_forged : FnScope N_L_forged P_L_forged (defScope s_L_forged) := ⟨rfl, rfl, rfl, by decide +kernel, rfl, by decide +kernel, by decide +kernel⟩
abbrev s_L_spoilt : Stmt := topS 65
def N_L_spoilt : List Str := ["_law_index", "_law_piece", "_law_proof_here", "_law_rich_here", "_law_count", "_law_choice", "_law_at", "_law_place", "_law_octet", "_law_digest_here", "_law_spot", "_law_near"]
def P_L_spoilt : List Str := ["_law_index", "_law_piece", "_law_proof_here", "_law_rich_here", "_law_count"]
theorem sc_L_spoilt : FnScope N_L_spoilt P_L_spoilt (defScope s_L_spoilt) := ⟨rfl, rfl, rfl, by decide +kernel, rfl, by decide +kernel, by decide +kernel⟩
abbrev s_law : Stmt := topS 73
def N_law : List Str := ["_law_script", "_law_rich_here", "_law_kind_here", "_law_hasher", "_law_pieces_here", "_law_told_here", "_law_k", "_law_index", "_law_piece", "_law_proof_here", "_law_turn", "_law_tried"]
def P_law : List Str := ["_law_script"]
theorem sc_law : FnScope N_law P_law (defScope s_law) := ⟨rfl, rfl, rfl, by decide +kernel, rfl, by decide +kernel, by decide +kernel⟩
@[simp] theorem ne___init___digest : (("__init__" : Str) = "digest") = False := eq_false (by decide)
@[simp] theorem ne___init___is_digest : (("__init__" : Str) = "is_digest") = False := eq_false (by decide)
@[simp] theorem ne___init___kind : (("__init__" : Str) = "kind") = False := eq_false (by decide)
@[simp] theorem ne___init___rounds : (("__init__" : Str) = "rounds") = False := eq_false (by decide)
@[simp] theorem ne___init___size : (("__init__" : Str) = "size") = False := eq_false (by decide)
@[simp] theorem ne___init___start : (("__init__" : Str) = "start") = False := eq_false (by decide)
@[simp] theorem ne_digest___init__ : (("digest" : Str) = "__init__") = False := eq_false (by decide)
@[simp] theorem ne_digest_is_digest : (("digest" : Str) = "is_digest") = False := eq_false (by decide)
@[simp] theorem ne_digest_kind : (("digest" : Str) = "kind") = False := eq_false (by decide)
@[simp] theorem ne_digest_rounds : (("digest" : Str) = "rounds") = False := eq_false (by decide)
@[simp] theorem ne_digest_size : (("digest" : Str) = "size") = False := eq_false (by decide)
@[simp] theorem ne_digest_start : (("digest" : Str) = "start") = False := eq_false (by decide)
@[simp] theorem ne_is_digest___init__ : (("is_digest" : Str) = "__init__") = False := eq_false (by decide)
@[simp] theorem ne_is_digest_digest : (("is_digest" : Str) = "digest") = False := eq_false (by decide)
@[simp] theorem ne_is_digest_kind : (("is_digest" : Str) = "kind") = False := eq_false (by decide)
@[simp] theorem ne_is_digest_rounds : (("is_digest" : Str) = "rounds") = False := eq_false (by decide)
@[simp] theorem ne_is_digest_size : (("is_digest" : Str) = "size") = False := eq_false (by decide)
@[simp] theorem ne_is_digest_start : (("is_digest" : Str) = "start") = False := eq_false (by decide)
@[simp] theorem ne_kind___init__ : (("kind" : Str) = "__init__") = False := eq_false (by decide)
@[simp] theorem ne_kind_digest : (("kind" : Str) = "digest") = False := eq_false (by decide)
@[simp] theorem ne_kind_is_digest : (("kind" : Str) = "is_digest") = False := eq_false (by decide)
@[simp] theorem ne_kind_rounds : (("kind" : Str) = "rounds") = False := eq_false (by decide)
@[simp] theorem ne_kind_size : (("kind" : Str) = "size") = False := eq_false (by decide)
@[simp] theorem ne_kind_start : (("kind" : Str) = "start") = False := eq_false (by decide)
@[simp] theorem ne_rounds___init__ : (("rounds" : Str) = "__init__") = False := eq_false (by decide)
@[simp] theorem ne_rounds_digest : (("rounds" : Str) = "digest") = False := eq_false (by decide)
@[simp] theorem ne_rounds_is_digest : (("rounds" : Str) = "is_digest") = False := eq_false (by decide)
@[simp] theorem ne_rounds_kind : (("rounds" : Str) = "kind") = False := eq_false (by decide)
@[simp] theorem ne_rounds_size : (("rounds" : Str) = "size") = False := eq_false (by decide)
@[simp] theorem ne_rounds_start : (("rounds" : Str) = "start") = False := eq_false (by decide)
@[simp] theorem ne_size___init__ : (("size" : Str) = "__init__") = False := eq_false (by decide)
@[simp] theorem ne_size_digest : (("size" : Str) = "digest") = False := eq_false (by decide)
@[simp] theorem ne_size_is_digest : (("size" : Str) = "is_digest") = False := eq_false (by decide)
@[simp] theorem ne_size_kind : (("size" : Str) = "kind") = False := eq_false (by decide)
@[simp] theorem ne_size_rounds : (("size" : Str) = "rounds") = False := eq_false (by decide)
@[simp] theorem ne_size_start : (("size" : Str) = "start") = False := eq_false (by decide)
@[simp] theorem ne_start___init__ : (("start" : Str) = "__init__") = False := eq_false (by decide)
@[simp] theorem ne_start_digest : (("start" : Str) = "digest") = False := eq_false (by decide)
@[simp] theorem ne_start_is_digest : (("start" : Str) = "is_digest") = False := eq_false (by decide)
@[simp] theorem ne_start_kind : (("start" : Str) = "kind") = False := eq_false (by decide)
@[simp] theorem ne_start_rounds : (("start" : Str) = "rounds") = False := eq_false (by decide)
@[simp] theorem ne_start_size : (("start" : Str) = "size") = False := eq_false (by decide)
structure Tx (K : PySem.W.Frag) (mg : Str → Option Value) (cA : Str → Option Addr) : Prop where
  C_Hasher : ClsAt K mg cA "Hasher" ["kind", "size", "start", "rounds"]
  E_BadProof : ExcAt K mg cA "BadProof"
  K_BadProof_1 : CatchAt K mg cA "BadProof" ["BadProof"] []
  I_BadProof_SwarmError : IsEAt K mg cA "BadProof" "SwarmError" true
  b_all : mg "all" = none
  b_bool : mg "bool" = none
  b_enumerate : mg "enumerate" = none
  b_int : mg "int" = none
  b_isinstance : mg "isinstance" = none
  b_len : mg "len" = none
  b_list : mg "list" = none
  b_max : mg "max" = none
  b_min : mg "min" = none
  b_range : mg "range" = none
  b_str : mg "str" = none
  b_tuple : mg "tuple" = none
  b_zip : mg "zip" = none
  c_FACTOR : ∃ t, mg "FACTOR" = some (.int 31 t)
  c_LEAF : ∃ t, mg "LEAF" = some (.int 0 t)
  c_MASK : ∃ t, mg "MASK" = some (.int 4294967295 t)
  c_MOST_SUM : ∃ t, mg "MOST_SUM" = some (.int 8 t)
  c_NODE : ∃ t, mg "NODE" = some (.int 1 t)
  c_PAD : ∃ t, mg "PAD" = some (.int 2 t)
  c_SHA_SIZE : ∃ t, mg "SHA_SIZE" = some (.int 24 t)
  i_isqrt : mg "isqrt" = some (.builtin "math.isqrt")
def b_L_rich_1 : MS := (mSeq (mSet 3 (mOp oMod (mCall fInt (mCons (mOp oAdd (mOp oAdd (mOp oAdd (mOp oMulA (mVar 3) (mVar 3)) (mOp oMulA (mVar 3) (mC (.int 16807)))) (mVar 4)) (mC (.int 7))) mNil)) (mC (.int 2147483647))))
  (mSet 2 (mOp oAdd (mOp oMulA (mVar 2) (mC (.int 2147483647))) (mVar 3))))
def b_L_rich : MS := (mSeq (mIfS (toT (mOp oGe (mVar 0) (mOp oPow (mC (.int 10)) (mC (.int 18))))) (mRet (mCall fInt (mCons (mVar 0) mNil))) mSkip)
  (mSeq (mSet 2 (mC (.int 0)))
  (mSeq (mSet 3 (mOp oMod (mCall fInt (mCons (mOp oAdd (mOp oAdd (mOp oMulA (mVar 0) (mC (.int 48271))) (mOp oMulA (mVar 1) (mC (.int 69621)))) (mC (.int 11))) mNil)) (mC (.int 2147483647))))
  (mSeq (mFor (itR1 (mCons (mC (.int 7)) mNil)) (gN 4) b_L_rich_1)
  (mRet (mVar 2))))))
def m_L_rich : MF := runD N_L_rich.length P_L_rich.length b_L_rich
def b_L_cell : MS := (mSeq (mIfS (toT (mOp oLt (mVar 1) (mCall fLen (mCons (mVar 0) mNil)))) (mRet (mCall fInt (mCons (mOp oIx (mVar 0) (mVar 1)) mNil))) mSkip)
  (mRet (mC (.int 0))))
def m_L_cell : MF := runD N_L_cell.length P_L_cell.length b_L_cell
def b_is_integer : MS := (mRet (mAndV (mIsi .int (mVar 0)) (mNotV (mIsi .bool (mVar 0)))))
def m_is_integer : MF := runD N_is_integer.length P_is_integer.length b_is_integer
def b_is_kind : MS := (mSeq (mIfS (mOrT (mNotT (toTru (mIsi .tuple (mVar 0)))) (mOrT (toT (mOp oNe (mCall fLen (mCons (mVar 0) mNil)) (mC (.int 2)))) (mOrT (mNotT (toTru (mIsi .str (mOp oIx (mVar 0) (mC (.int 0)))))) (mNotT (toTru (mCall m_is_integer (mCons (mOp oIx (mVar 0) (mC (.int 1))) mNil))))))) (mRet (mC (.bl false))) mSkip)
  (mSeq (mIfS (toT (mOp oEq (mOp oIx (mVar 0) (mC (.int 0))) (mC (.str "sha")))) (mRet (mOp oEq (mOp oIx (mVar 0) (mC (.int 1))) (mC (.int 24)))) mSkip)
  (mRet (mAndV (mOp oEq (mOp oIx (mVar 0) (mC (.int 0))) (mC (.str "sum"))) (mAndV (mOp oLe (mC (.int 1)) (mOp oIx (mVar 0) (mC (.int 1)))) (mOp oLe (mOp oIx (mVar 0) (mC (.int 1))) (mC (.int 8))))))))
def m_is_kind : MF := runD N_is_kind.length P_is_kind.length b_is_kind
def b_check_kind : MS := (mIfS (mNotT (toTru (mCall m_is_kind (mCons (mVar 0) mNil)))) mNever mSkip)
def m_check_kind : MF := runD N_check_kind.length P_check_kind.length b_check_kind
def b_first_primes_1 : MS := (mSeq (mIfS (toTru (mCall fAll (mCons (mFz (mLc (itL (mOwn 1)) [3] (gN 3) mYes (mOp oNe (mOp oMod (mVar 2) (mVar 3)) (mC (.int 0))))) mNil))) (mApp 1 (mVar 2)) mSkip)
  (mAug 2 (fun a b => a + b) (mC (.int 1))))
def b_first_primes : MS := (mSeq (mSetN 1 (szc mNil))
  (mSeq (mSet 2 (mC (.int 2)))
  (mSeq (whileL (toT (mOp oLt (mCall fLen (mCons (mOwn 1) mNil)) (mVar 0))) b_first_primes_1 400)
  (mRetOwn 1))))
def m_first_primes : MF := runD N_first_primes.length P_first_primes.length b_first_primes
def b_square_word : MS := (mRet (mOp oAnd (mCall fIsqrt (mCons (mOp oShl (mVar 0) (mC (.int 64))) mNil)) (mC (.int 4294967295))))
def m_square_word : MF := runD N_square_word.length P_square_word.length b_square_word
def b_start_words : MS := (mRet (mCall fTuple (mCons (mFz (mLc (itS (mCall m_first_primes (mCons (mC (.int 8)) mNil))) [0] (gN 0) mYes (mCall m_square_word (mCons (mVar 0) mNil)))) mNil)))
def m_start_words : MF := runD N_start_words.length P_start_words.length b_start_words
def b_cube_root_1 : MS := (mSeq (mSet 3 (mOp oOr (mVar 1) (mOp oShl (mC (.int 1)) (mVar 2))))
  (mIfS (toT (mOp oLe (mOp oMulA (mOp oMulA (mVar 3) (mVar 3)) (mVar 3)) (mVar 0))) (mSet 1 (mVar 3)) mSkip))
def b_cube_root : MS := (mSeq (mSet 1 (mC (.int 0)))
  (mSeq (mFor (itR3 (mCons (mOp oDiv (mUn oBits (mVar 0)) (mC (.int 3))) (mCons (mUn oNeg (mC (.int 1))) (mCons (mUn oNeg (mC (.int 1))) mNil)))) (gN 2) b_cube_root_1)
  (mRet (mVar 1))))
def m_cube_root : MF := runD N_cube_root.length P_cube_root.length b_cube_root
def b_cube_word : MS := (mRet (mOp oAnd (mCall m_cube_root (mCons (mOp oShl (mVar 0) (mC (.int 96))) mNil)) (mC (.int 4294967295))))
def m_cube_word : MF := runD N_cube_word.length P_cube_word.length b_cube_word
def b_round_words : MS := (mRet (mCall fTuple (mCons (mFz (mLc (itS (mCall m_first_primes (mCons (mC (.int 64)) mNil))) [0] (gN 0) mYes (mCall m_cube_word (mCons (mVar 0) mNil)))) mNil)))
def m_round_words : MF := runD N_round_words.length P_round_words.length b_round_words
def b_Hasher_init : MS := (mSeq (mDrop (mCall m_check_kind (mCons (mVar 1) mNil)))
  (mSeq (mSetF ["Hasher"] "kind" (mVar 0) (mVar 1))
  (mSeq (mSetF ["Hasher"] "size" (mVar 0) (mOp oIx (mVar 1) (mC (.int 1))))
  (mSeq (mSetF ["Hasher"] "start" (mVar 0) (mTup mNil))
  (mSeq (mSetF ["Hasher"] "rounds" (mVar 0) (mTup mNil))
  (mIfS (toT (mOp oEq (mOp oIx (mVar 1) (mC (.int 0))) (mC (.str "sha")))) (mSeq (mSetF ["Hasher"] "start" (mVar 0) (mCall m_start_words mNil))
  (mSetF ["Hasher"] "rounds" (mVar 0) (mCall m_round_words mNil))) mSkip))))))
def m_Hasher_init : MF := runD N_Hasher_init.length P_Hasher_init.length b_Hasher_init
def b_L_codes_1 : MS := (mSeq (mApp 3 (mOp oMod (mCall fInt (mCons (mVar 0) mNil)) (mVar 2)))
  (mSet 0 (mOp oDiv (mVar 0) (mVar 2))))
def b_L_codes : MS := (mSeq (mSetN 3 (szc mNil))
  (mSeq (mFor (itR1 (mCons (mVar 1) mNil)) (gN 4) b_L_codes_1)
  (mRetOwn 3)))
def m_L_codes : MF := runD N_L_codes.length P_L_codes.length b_L_codes
def b_L_pieces_1 : MS := (mSeq (mSet 5 (mCall fTuple (mCons (mFz (mLc (itR1 (mCons (mVar 2) mNil)) [6] (gN 6) mYes (mOp oMod (mCall fInt (mCons (mOp oDiv (mVar 4) (mOp oAdd (mC (.int 1)) (mOp oMulA (mC (.int 7)) (mVar 6)))) mNil)) (mC (.int 256))))) mNil)))
  (mApp 3 (mIf (toT (mOp oGt (mOp oMod (mVar 4) (mC (.int 5))) (mC (.int 0)))) (mVar 5) (mOp oMulA (mTup (mCons (mOp oMod (mVar 4) (mC (.int 3))) mNil)) (mVar 2)))))
def b_L_pieces : MS := (mSeq (mSet 2 (mOp oIx (mFz (szc (mCons (mC (.int 4)) (mCons (mC (.int 8)) (mCons (mC (.int 16)) (mCons (mC (.int 3)) mNil)))))) (mOp oMod (mOp oDiv (mVar 0) (mC (.int 3))) (mC (.int 4)))))
  (mSeq (mSetN 3 (szc mNil))
  (mSeq (mFor (itS (mCall m_L_codes (mCons (mOp oDiv (mVar 0) (mC (.int 12))) (mCons (mOp oMod (mVar 0) (mOp oAdd (mVar 1) (mC (.int 1)))) (mCons (mOp oPow (mC (.int 10)) (mC (.int 7))) mNil))))) (gN 4) b_L_pieces_1)
  (mSeq (mIfS (mAndT (toT (mOp oGt (mCall fLen (mCons (mOwn 3) mNil)) (mC (.int 1)))) (toT (mOp oEq (mOp oMod (mOp oDiv (mVar 0) (mC (.int 12))) (mC (.int 3))) (mC (.int 0))))) (mSetIx 3 (mOp oSub (mCall fLen (mCons (mOwn 3) mNil)) (mC (.int 1))) (mSl (mOp oIx (mOwn 3) (mOp oSub (mCall fLen (mCons (mOwn 3) mNil)) (mC (.int 1)))) mOn (mOs (mOp oAdd (mC (.int 1)) (mOp oMod (mVar 0) (mVar 2)))))) mSkip)
  (mRetOwn 3)))))
def m_L_pieces : MF := runD N_L_pieces.length P_L_pieces.length b_L_pieces
def b_as_octets : MS := (mSeq (mIfS (mOrT (toT (mOp oLt (mVar 0) (mC (.int 0)))) (toT (mOp oNe (mOp oShr (mVar 0) (mOp oMulA (mC (.int 8)) (mVar 1))) (mC (.int 0))))) mNever mSkip)
  (mRet (mCall fTuple (mCons (mFz (mLc (itR3 (mCons (mOp oSub (mVar 1) (mC (.int 1))) (mCons (mUn oNeg (mC (.int 1))) (mCons (mUn oNeg (mC (.int 1))) mNil)))) [2] (gN 2) mYes (mOp oAnd (mOp oShr (mVar 0) (mOp oMulA (mC (.int 8)) (mVar 2))) (mC (.int 255))))) mNil))))
def m_as_octets : MF := runD N_as_octets.length P_as_octets.length b_as_octets
def b_plain_sum_1 : MS := (mSet 3 (mOp oMod (mOp oAdd (mOp oAdd (mOp oMulA (mVar 3) (mC (.int 31))) (mVar 4)) (mC (.int 1))) (mVar 2)))
def b_plain_sum : MS := (mSeq (mSet 2 (mOp oShl (mC (.int 1)) (mOp oMulA (mC (.int 8)) (mVar 1))))
  (mSeq (mSet 3 (mC (.int 1)))
  (mSeq (mFor (itS (mVar 0)) (gN 4) b_plain_sum_1)
  (mRet (mCallK 1 1 m_as_octets (mCons (mVar 3) mNil) (mCons (mVar 1) mNil))))))
def m_plain_sum : MF := runD N_plain_sum.length P_plain_sum.length b_plain_sum
def b_padded : MS := (mSeq (mSet 1 (mOp oMod (mOp oSub (mC (.int 55)) (mCall fLen (mCons (mVar 0) mNil))) (mC (.int 64))))
  (mRet (mOp oAdd (mOp oAdd (mOp oAdd (mVar 0) (mTup (mCons (mC (.int 128)) mNil))) (mOp oMulA (mTup (mCons (mC (.int 0)) mNil)) (mVar 1))) (mCallK 1 1 m_as_octets (mCons (mOp oMulA (mC (.int 8)) (mCall fLen (mCons (mVar 0) mNil))) mNil) (mCons (mC (.int 8)) mNil)))))
def m_padded : MF := runD N_padded.length P_padded.length b_padded
def b_expanded_1 : MS := (mSeq (mSet 3 (mOp oIx (mOwn 1) (mOp oSub (mVar 2) (mC (.int 15)))))
  (mSeq (mSet 4 (mOp oIx (mOwn 1) (mOp oSub (mVar 2) (mC (.int 2)))))
  (mSeq (mSet 5 (mOp oOr (mOp oShl (mVar 3) (mC (.int 32))) (mVar 3)))
  (mSeq (mSet 6 (mOp oAnd (mOp oXor (mOp oXor (mOp oShr (mVar 5) (mC (.int 7))) (mOp oShr (mVar 5) (mC (.int 18)))) (mOp oShr (mVar 3) (mC (.int 3)))) (mC (.int 4294967295))))
  (mSeq (mSet 5 (mOp oOr (mOp oShl (mVar 4) (mC (.int 32))) (mVar 4)))
  (mSeq (mSet 7 (mOp oAnd (mOp oXor (mOp oXor (mOp oShr (mVar 5) (mC (.int 17))) (mOp oShr (mVar 5) (mC (.int 19)))) (mOp oShr (mVar 4) (mC (.int 10)))) (mC (.int 4294967295))))
  (mApp 1 (mOp oAnd (mOp oAdd (mOp oAdd (mOp oAdd (mOp oIx (mOwn 1) (mOp oSub (mVar 2) (mC (.int 16)))) (mVar 6)) (mOp oIx (mOwn 1) (mOp oSub (mVar 2) (mC (.int 7))))) (mVar 7)) (mC (.int 4294967295))))))))))
def b_expanded : MS := (mSeq (mSetN 1 (mCallN fList (mCons (mVar 0) mNil)))
  (mSeq (mFor (itR2 (mCons (mC (.int 16)) (mCons (mC (.int 64)) mNil))) (gN 2) b_expanded_1)
  (mRet (mCall fTuple (mCons (mOwn 1) mNil)))))
def m_expanded : MF := runD N_expanded.length P_expanded.length b_expanded
def b_compressed_1 : MS := (mSeq (mSet 13 (mOp oOr (mOp oShl (mVar 7) (mC (.int 32))) (mVar 7)))
  (mSeq (mSet 14 (mOp oAnd (mOp oXor (mOp oXor (mOp oShr (mVar 13) (mC (.int 6))) (mOp oShr (mVar 13) (mC (.int 11)))) (mOp oShr (mVar 13) (mC (.int 25)))) (mC (.int 4294967295))))
  (mSeq (mSet 15 (mOp oAdd (mOp oAdd (mOp oAdd (mOp oAdd (mVar 10) (mVar 14)) (mOp oXor (mVar 9) (mOp oAnd (mVar 7) (mOp oXor (mVar 8) (mVar 9))))) (mVar 12)) (mVar 11)))
  (mSeq (mSet 13 (mOp oOr (mOp oShl (mVar 3) (mC (.int 32))) (mVar 3)))
  (mSeq (mSet 16 (mOp oAnd (mOp oXor (mOp oXor (mOp oShr (mVar 13) (mC (.int 2))) (mOp oShr (mVar 13) (mC (.int 13)))) (mOp oShr (mVar 13) (mC (.int 22)))) (mC (.int 4294967295))))
  (mSeq (mSet 17 (mOp oAdd (mVar 16) (mOp oOr (mOp oAnd (mVar 3) (mVar 4)) (mOp oAnd (mVar 5) (mOp oOr (mVar 3) (mVar 4))))))
  (mAsg (mTup (mCons (mOp oAnd (mOp oAdd (mVar 15) (mVar 17)) (mC (.int 4294967295))) (mCons (mVar 3) (mCons (mVar 4) (mCons (mVar 5) (mCons (mOp oAnd (mOp oAdd (mVar 6) (mVar 15)) (mC (.int 4294967295))) (mCons (mVar 7) (mCons (mVar 8) (mCons (mVar 9) mNil))))))))) (gTuA 8 (gCs (gN 3) (gCs (gN 4) (gCs (gN 5) (gCs (gN 6) (gCs (gN 7) (gCs (gN 8) (gCs (gN 9) (gCs (gN 10) gNl))))))))))))))))
def b_compressed : MS := (mSeq (mAsg (mVar 0) (gTuA 8 (gCs (gN 3) (gCs (gN 4) (gCs (gN 5) (gCs (gN 6) (gCs (gN 7) (gCs (gN 8) (gCs (gN 9) (gCs (gN 10) gNl))))))))))
  (mSeq (mFor (itZ (mCons (mCall m_expanded (mCons (mVar 1) mNil)) (mCons (mVar 2) mNil))) (gTuA 2 (gCs (gN 11) (gCs (gN 12) gNl))) b_compressed_1)
  (mRet (mCall fTuple (mCons (mFz (mLc (itZ (mCons (mVar 0) (mCons (mTup (mCons (mVar 3) (mCons (mVar 4) (mCons (mVar 5) (mCons (mVar 6) (mCons (mVar 7) (mCons (mVar 8) (mCons (mVar 9) (mCons (mVar 10) mNil))))))))) mNil))) [18, 19] (gTuA 2 (gCs (gN 18) (gCs (gN 19) gNl))) mYes (mOp oAnd (mOp oAdd (mVar 18) (mVar 19)) (mC (.int 4294967295))))) mNil)))))
def m_compressed : MF := runD N_compressed.length P_compressed.length b_compressed
def b_number_of_1 : MS := (mSet 1 (mOp oOr (mOp oShl (mVar 1) (mC (.int 8))) (mVar 2)))
def b_number_of : MS := (mSeq (mSet 1 (mC (.int 0)))
  (mSeq (mFor (itS (mVar 0)) (gN 2) b_number_of_1)
  (mRet (mVar 1))))
def m_number_of : MF := runD N_number_of.length P_number_of.length b_number_of
def b_block_words : MS := (mRet (mCall fTuple (mCons (mFz (mLc (itR3 (mCons (mC (.int 0)) (mCons (mC (.int 64)) (mCons (mC (.int 4)) mNil)))) [1] (gN 1) mYes (mCall m_number_of (mCons (mSl (mVar 0) (mOs (mVar 1)) (mOs (mOp oAdd (mVar 1) (mC (.int 4))))) mNil)))) mNil)))
def m_block_words : MF := runD N_block_words.length P_block_words.length b_block_words
def b_joined_1 : MS := (mExt 1 (mVar 2))
def b_joined : MS := (mSeq (mSetN 1 (szc mNil))
  (mSeq (mFor (itS (mVar 0)) (gN 2) b_joined_1)
  (mRet (mCall fTuple (mCons (mOwn 1) mNil)))))
def m_joined : MF := runD N_joined.length P_joined.length b_joined
def b_sha_1 : MS := (mSet 3 (mCall m_compressed (mCons (mVar 3) (mCons (mCall m_block_words (mCons (mSl (mVar 4) (mOs (mVar 5)) (mOs (mOp oAdd (mVar 5) (mC (.int 64))))) mNil)) (mCons (mVar 2) mNil)))))
def b_sha : MS := (mSeq (mSet 3 (mVar 1))
  (mSeq (mSet 4 (mCall m_padded (mCons (mVar 0) mNil)))
  (mSeq (mFor (itR3 (mCons (mC (.int 0)) (mCons (mCall fLen (mCons (mVar 4) mNil)) (mCons (mC (.int 64)) mNil)))) (gN 5) b_sha_1)
  (mRet (mCall m_joined (mCons (mFz (mLc (itS (mVar 3)) [6] (gN 6) mYes (mCallK 1 1 m_as_octets (mCons (mVar 6) mNil) (mCons (mC (.int 4)) mNil)))) mNil))))))
def m_sha : MF := runD N_sha.length P_sha.length b_sha
def b_Hasher_digest : MS := (mSeq (mIfS (toT (mOp oEq (mOp oIx (mFld ["Hasher"] "kind" (mVar 0)) (mC (.int 0))) (mC (.str "sum")))) (mRet (mCall m_plain_sum (mCons (mVar 1) (mCons (mFld ["Hasher"] "size" (mVar 0)) mNil)))) mSkip)
  (mRet (mSl (mCall m_sha (mCons (mVar 1) (mCons (mFld ["Hasher"] "start" (mVar 0)) (mCons (mFld ["Hasher"] "rounds" (mVar 0)) mNil)))) mOn (mOs (mFld ["Hasher"] "size" (mVar 0))))))
def m_Hasher_digest : MF := runD N_Hasher_digest.length P_Hasher_digest.length b_Hasher_digest
def b_leaf_text : MS := (mRet (mOp oAdd (mTup (mCons (mC (.int 0)) mNil)) (mVar 0)))
def m_leaf_text : MF := runD N_leaf_text.length P_leaf_text.length b_leaf_text
def b_depth_1 : MS := (mAug 1 (fun a b => a + b) (mC (.int 1)))
def b_depth : MS := (mSeq (mSet 1 (mC (.int 0)))
  (mSeq (whileL (toT (mOp oLt (mOp oShl (mC (.int 1)) (mVar 1)) (mVar 0))) b_depth_1 60)
  (mRet (mVar 1))))
def m_depth : MF := runD N_depth.length P_depth.length b_depth
def b_node_text : MS := (mRet (mOp oAdd (mOp oAdd (mTup (mCons (mC (.int 1)) mNil)) (mVar 0)) (mVar 1)))
def m_node_text : MF := runD N_node_text.length P_node_text.length b_node_text
def b_levels_1 : MS := (mSeq (mSetN 2 (mLc (itR3 (mCons (mC (.int 0)) (mCons (mCall fLen (mCons (mOwn 2) mNil)) (mCons (mC (.int 2)) mNil)))) [7] (gN 7) mYes (mMeth "Hasher" "digest" m_Hasher_digest (mVar 0) (mCons (mCall m_node_text (mCons (mOp oIx (mOwn 2) (mVar 7)) (mCons (mOp oIx (mOwn 2) (mOp oAdd (mVar 7) (mC (.int 1)))) mNil))) mNil))))
  (mSeq (mFrz 2) (mApp 4 (mVar 2))))
def b_levels : MS := (mSeq (mSetN 2 (mLc (itS (mVar 1)) [5] (gN 5) mYes (mMeth "Hasher" "digest" m_Hasher_digest (mVar 0) (mCons (mCall m_leaf_text (mCons (mVar 5) mNil)) mNil))))
  (mSeq (mSet 3 (mMeth "Hasher" "digest" m_Hasher_digest (mVar 0) (mCons (mTup (mCons (mC (.int 2)) mNil)) mNil)))
  (mSeq (mExt 2 (mFz (mLc (itR1 (mCons (mOp oSub (mOp oShl (mC (.int 1)) (mCall m_depth (mCons (mCall fLen (mCons (mVar 1) mNil)) mNil))) (mCall fLen (mCons (mVar 1) mNil))) mNil)) [6] (gN 6) mYes (mVar 3))))
  (mSeq (mSeq (mFrz 2) (mSetN 4 (szc (mCons (mVar 2) mNil))))
  (mSeq (whileL (toT (mOp oGt (mCall fLen (mCons (mOwn 2) mNil)) (mC (.int 1)))) b_levels_1 10)
  (mRetOwn 4))))))
def m_levels : MF := runD N_levels.length P_levels.length b_levels
def b_proofs_1 : MS := (mApp 3 (mCall fTuple (mCons (mFz (mLc (itE (mCons (mSl (mVar 2) mOn (mOs (mUn oNeg (mC (.int 1))))) mNil)) [5, 6] (gTuA 2 (gCs (gN 5) (gCs (gN 6) gNl))) mYes (mOp oIx (mVar 6) (mOp oXor (mOp oShr (mVar 4) (mVar 5)) (mC (.int 1)))))) mNil)))
def b_proofs : MS := (mSeq (mSet 2 (mCall m_levels (mCons (mVar 0) (mCons (mVar 1) mNil))))
  (mSeq (mSetN 3 (szc mNil))
  (mSeq (mFor (itR1 (mCons (mCall fLen (mCons (mVar 1) mNil)) mNil)) (gN 4) b_proofs_1)
  (mRet (mCall fTuple (mCons (mOwn 3) mNil))))))
def m_proofs : MF := runD N_proofs.length P_proofs.length b_proofs
def b_L_digest_1 : MS := (mSet 4 (mOp oMod (mCall fInt (mCons (mOp oAdd (mOp oAdd (mOp oMulA (mVar 4) (mC (.int 31))) (mVar 5)) (mC (.int 1))) mNil)) (mVar 3)))
def b_L_digest : MS := (mSeq (mSet 3 (mOp oShl (mC (.int 1)) (mOp oMulA (mC (.int 8)) (mOp oIx (mVar 0) (mC (.int 1))))))
  (mSeq (mSet 4 (mC (.int 1)))
  (mSeq (mFor (itS (mVar 2)) (gN 5) b_L_digest_1)
  (mRet (mCall fTuple (mCons (mFz (mLc (itR1 (mCons (mOp oIx (mVar 0) (mC (.int 1))) mNil)) [6] (gN 6) mYes (mOp oAnd (mOp oShr (mVar 4) (mOp oMulA (mC (.int 8)) (mOp oSub (mOp oSub (mOp oIx (mVar 0) (mC (.int 1))) (mC (.int 1))) (mVar 6)))) (mC (.int 255))))) mNil))))))
def m_L_digest : MF := runD N_L_digest.length P_L_digest.length b_L_digest
def b_L_top (r_L_top : MF) : MS := (mSeq (mIfS (toT (mOp oEq (mVar 4) (mC (.int 0)))) (mSeq (mSet 8 (mIf (toT (mOp oLt (mVar 3) (mCall fLen (mCons (mVar 2) mNil)))) (mOp oAdd (mTup (mCons (mC (.int 0)) mNil)) (mOp oIx (mVar 2) (mVar 3))) (mTup (mCons (mC (.int 2)) mNil))))
  (mRet (mCall m_L_digest (mCons (mVar 0) (mCons (mVar 1) (mCons (mVar 8) mNil)))))) mSkip)
  (mSeq (mSet 5 (mOp oShl (mC (.int 1)) (mOp oSub (mVar 4) (mC (.int 1)))))
  (mSeq (mSet 6 (mCall r_L_top (mCons (mVar 0) (mCons (mVar 1) (mCons (mVar 2) (mCons (mVar 3) (mCons (mOp oSub (mVar 4) (mC (.int 1))) mNil)))))))
  (mSeq (mSet 7 (mCall r_L_top (mCons (mVar 0) (mCons (mVar 1) (mCons (mVar 2) (mCons (mOp oAdd (mVar 3) (mVar 5)) (mCons (mOp oSub (mVar 4) (mC (.int 1))) mNil)))))))
  (mRet (mCall m_L_digest (mCons (mVar 0) (mCons (mVar 1) (mCons (mOp oAdd (mOp oAdd (mTup (mCons (mC (.int 1)) mNil)) (mVar 6)) (mVar 7)) mNil)))))))))
def m_L_top : Nat → MF
  | 0 => fun _ _ => .no
  | n + 1 => runD N_L_top.length P_L_top.length (b_L_top (m_L_top n))
def b_L_depth_1 : MS := (mIfS (toT (mOp oLt (mOp oShl (mC (.int 1)) (mVar 1)) (mVar 0))) (mSet 1 (mOp oAdd (mVar 1) (mC (.int 1)))) mSkip)
def b_L_depth : MS := (mSeq (mSet 1 (mC (.int 0)))
  (mSeq (mFor (itR1 (mCons (mC (.int 64)) mNil)) (gN 2) b_L_depth_1)
  (mRet (mVar 1))))
def m_L_depth : MF := runD N_L_depth.length P_L_depth.length b_L_depth
def b_L_is_octets_1 : MS := (mIfS (mOrT (mNotT (toTru (mIsi .int (mVar 1)))) (mOrT (toTru (mIsi .bool (mVar 1))) (mOrT (toT (mOp oLt (mVar 1) (mC (.int 0)))) (toT (mOp oGt (mVar 1) (mC (.int 255))))))) (mRet (mC (.bl false))) mSkip)
def b_L_is_octets : MS := (mSeq (mIfS (mNotT (toTru (mIsi .tuple (mVar 0)))) (mRet (mC (.bl false))) mSkip)
  (mSeq (mFor (itS (mVar 0)) (gN 1) b_L_is_octets_1)
  (mRet (mC (.bl true)))))
def m_L_is_octets : MF := runD N_L_is_octets.length P_L_is_octets.length b_L_is_octets
def b_L_is_proof : MS := (mSeq (mIfS (mOrT (mNotT (toTru (mIsi .tuple (mVar 2)))) (toT (mOp oNe (mCall fLen (mCons (mVar 2) mNil)) (mCall m_L_depth (mCons (mVar 1) mNil))))) (mRet (mC (.bl false))) mSkip)
  (mRet (mCall fAll (mCons (mFz (mLc (itS (mVar 2)) [3] (gN 3) mYes (mAndV (mCall m_L_is_octets (mCons (mVar 3) mNil)) (mOp oEq (mCall fLen (mCons (mVar 3) mNil)) (mOp oIx (mVar 0) (mC (.int 1))))))) mNil))))
def m_L_is_proof : MF := runD N_L_is_proof.length P_L_is_proof.length b_L_is_proof
def b_L_path_1 : MS := (mSeq (mSet 7 (mCall m_L_digest (mCons (mVar 0) (mCons (mVar 1) (mCons (mOp oIx (mOwn 5) (mVar 6)) mNil)))))
  (mSeq (mSet 8 (mIf (toT (mOp oEq (mOp oAnd (mOp oShr (mVar 2) (mVar 6)) (mC (.int 1))) (mC (.int 1)))) (mOp oIx (mVar 4) (mVar 6)) (mVar 7)))
  (mSeq (mSet 9 (mIf (toT (mOp oEq (mOp oAnd (mOp oShr (mVar 2) (mVar 6)) (mC (.int 1))) (mC (.int 1)))) (mVar 7) (mOp oIx (mVar 4) (mVar 6))))
  (mApp 5 (mOp oAdd (mOp oAdd (mTup (mCons (mC (.int 1)) mNil)) (mVar 8)) (mVar 9))))))
def b_L_path : MS := (mSeq (mSetN 5 (szc (mCons (mOp oAdd (mTup (mCons (mC (.int 0)) mNil)) (mVar 3)) mNil)))
  (mSeq (mFor (itR1 (mCons (mCall fLen (mCons (mVar 4) mNil)) mNil)) (gN 6) b_L_path_1)
  (mRetOwn 5)))
def m_L_path : MF := runD N_L_path.length P_L_path.length b_L_path
def b_L_fold : MS := (mSeq (mSet 5 (mCall m_L_path (mCons (mVar 0) (mCons (mVar 1) (mCons (mVar 2) (mCons (mVar 3) (mCons (mVar 4) mNil)))))))
  (mRet (mCall m_L_digest (mCons (mVar 0) (mCons (mVar 1) (mCons (mOp oIx (mVar 5) (mOp oSub (mCall fLen (mCons (mVar 5) mNil)) (mC (.int 1)))) mNil))))))
def m_L_fold : MF := runD N_L_fold.length P_L_fold.length b_L_fold
def b_L_fits : MS := (mSeq (mIfS (mOrT (mNotT (toTru (mIsi .int (mVar 4)))) (mOrT (toTru (mIsi .bool (mVar 4))) (mOrT (toT (mOp oLt (mVar 4) (mC (.int 0)))) (toT (mOp oGe (mVar 4) (mVar 3)))))) (mRet (mC (.bl false))) mSkip)
  (mSeq (mIfS (mOrT (mNotT (toTru (mCall m_L_is_octets (mCons (mVar 5) mNil)))) (mNotT (toTru (mCall m_L_is_proof (mCons (mVar 0) (mCons (mVar 3) (mCons (mVar 6) mNil))))))) (mRet (mC (.bl false))) mSkip)
  (mRet (mOp oEq (mCall m_L_fold (mCons (mVar 0) (mCons (mVar 1) (mCons (mVar 4) (mCons (mVar 5) (mCons (mVar 6) mNil)))))) (mVar 2)))))
def m_L_fits : MF := runD N_L_fits.length P_L_fits.length b_L_fits
def b_L_proof_1 : MS := (mSeq (mSet 7 (mOp oXor (mOp oShr (mVar 3) (mVar 6)) (mC (.int 1))))
  (mSet 5 (mOp oAdd (mVar 5) (mTup (mCons (mCall (m_L_top 6) (mCons (mVar 0) (mCons (mVar 1) (mCons (mVar 2) (mCons (mOp oShl (mVar 7) (mVar 6)) (mCons (mVar 6) mNil)))))) mNil)))))
def b_L_proof : MS := (mSeq (mSet 4 (mCall m_L_depth (mCons (mCall fLen (mCons (mVar 2) mNil)) mNil)))
  (mSeq (mSet 5 (mTup mNil))
  (mSeq (mFor (itR1 (mCons (mVar 4) mNil)) (gN 6) b_L_proof_1)
  (mRet (mVar 5)))))
def m_L_proof : MF := runD N_L_proof.length P_L_proof.length b_L_proof
def b_L_due_1 : MS := (mIfS (mAndT (toT (mOp oNe (mOp oIx (mVar 6) (mVar 8)) (mOp oIx (mVar 7) (mVar 8)))) (toT (mOp oEq (mCall m_L_digest (mCons (mVar 0) (mCons (mC .non) (mCons (mOp oIx (mVar 6) (mVar 8)) mNil)))) (mCall m_L_digest (mCons (mVar 0) (mCons (mC .non) (mCons (mOp oIx (mVar 7) (mVar 8)) mNil))))))) (mRet (mTup (mCons (mOp oIx (mVar 6) (mVar 8)) (mCons (mOp oIx (mVar 7) (mVar 8)) mNil)))) mSkip)
def b_L_due : MS := (mSeq (mSet 5 (mCall (m_L_top 6) (mCons (mVar 0) (mCons (mC .non) (mCons (mVar 1) (mCons (mC (.int 0)) (mCons (mCall m_L_depth (mCons (mCall fLen (mCons (mVar 1) mNil)) mNil)) mNil)))))))
  (mSeq (mIfS (mNotT (toTru (mCall m_L_fits (mCons (mVar 0) (mCons (mC .non) (mCons (mVar 5) (mCons (mCall fLen (mCons (mVar 1) mNil)) (mCons (mVar 2) (mCons (mVar 3) (mCons (mVar 4) mNil)))))))))) (mRet (mC (.str "none"))) mSkip)
  (mSeq (mSet 6 (mCall m_L_path (mCons (mVar 0) (mCons (mC .non) (mCons (mVar 2) (mCons (mOp oIx (mVar 1) (mVar 2)) (mCons (mCall m_L_proof (mCons (mVar 0) (mCons (mC .non) (mCons (mVar 1) (mCons (mVar 2) mNil))))) mNil)))))))
  (mSeq (mSet 7 (mCall m_L_path (mCons (mVar 0) (mCons (mC .non) (mCons (mVar 2) (mCons (mVar 3) (mCons (mVar 4) mNil)))))))
  (mSeq (mFor (itR1 (mCons (mCall fLen (mCons (mVar 6) mNil)) mNil)) (gN 8) b_L_due_1)
  (mRet (mC .non)))))))
def m_L_due : MF := runD N_L_due.length P_L_due.length b_L_due
def b_L_same (r_L_same : MF) : MS := (mSeq (mIfS (toTru (mIsi .tuple (mVar 1))) (mSeq (mIfS (mOrT (mNotT (toTru (mIsi .tuple (mVar 0)))) (toT (mOp oNe (mCall fLen (mCons (mVar 0) mNil)) (mCall fLen (mCons (mVar 1) mNil))))) (mRet (mC (.bl false))) mSkip)
  (mRet (mCall fAll (mCons (mFz (mLc (itR1 (mCons (mCall fLen (mCons (mVar 1) mNil)) mNil)) [2] (gN 2) mYes (mCall r_L_same (mCons (mOp oIx (mVar 0) (mVar 2)) (mCons (mOp oIx (mVar 1) (mVar 2)) mNil))))) mNil)))) mSkip)
  (mSeq (mIfS (toTru (mIsi .list (mVar 1))) (mSeq (mIfS (mOrT (mNotT (toTru (mIsi .list (mVar 0)))) (toT (mOp oNe (mCall fLen (mCons (mVar 0) mNil)) (mCall fLen (mCons (mVar 1) mNil))))) (mRet (mC (.bl false))) mSkip)
  (mRet (mCall fAll (mCons (mFz (mLc (itR1 (mCons (mCall fLen (mCons (mVar 1) mNil)) mNil)) [2] (gN 2) mYes (mCall r_L_same (mCons (mOp oIx (mVar 0) (mVar 2)) (mCons (mOp oIx (mVar 1) (mVar 2)) mNil))))) mNil)))) mSkip)
  (mSeq (mIfS (toT (mOp oIs (mVar 1) (mC .non))) (mRet (mOp oIs (mVar 0) (mC .non))) mSkip)
  (mSeq (mIfS (toTru (mIsi .str (mVar 1))) (mRet (mAndV (mIsi .str (mVar 0)) (mOp oEq (mVar 0) (mVar 1)))) mSkip)
  (mSeq (mIfS (toTru (mIsi .bool (mVar 1))) (mRet (mAndV (mIsi .bool (mVar 0)) (mOp oEq (mVar 0) (mVar 1)))) mSkip)
  (mRet (mAndV (mIsi .int (mVar 0)) (mAndV (mNotV (mIsi .bool (mVar 0))) (mOp oEq (mVar 0) (mVar 1))))))))))
def m_L_same : Nat → MF
  | 0 => fun _ _ => .no
  | n + 1 => runD N_L_same.length P_L_same.length (b_L_same (m_L_same n))
def b_is_octet : MS := (mRet (mAndV (mCall m_is_integer (mCons (mVar 0) mNil)) (mAndV (mOp oLe (mC (.int 0)) (mVar 0)) (mOp oLe (mVar 0) (mC (.int 255))))))
def m_is_octet : MF := runD N_is_octet.length P_is_octet.length b_is_octet
def b_is_octets : MS := (mSeq (mIfS (mOrT (mNotT (toTru (mIsi .tuple (mVar 0)))) (mAndT (toT (mOp oIsNot (mVar 1) (mC .non))) (toT (mOp oNe (mCall fLen (mCons (mVar 0) mNil)) (mVar 1))))) (mRet (mC (.bl false))) mSkip)
  (mRet (mCall fAll (mCons (mFz (mLc (itS (mVar 0)) [2] (gN 2) mYes (mCall m_is_octet (mCons (mVar 2) mNil)))) mNil))))
def m_is_octets : MF := runD N_is_octets.length P_is_octets.length b_is_octets
def b_Hasher_is_digest : MS := (mRet (mCallK 1 1 m_is_octets (mCons (mVar 1) mNil) (mCons (mFld ["Hasher"] "size" (mVar 0)) mNil)))
def m_Hasher_is_digest : MF := runD N_Hasher_is_digest.length P_Hasher_is_digest.length b_Hasher_is_digest
def b_is_proof : MS := (mSeq (mIfS (mOrT (mNotT (toTru (mIsi .tuple (mVar 2)))) (toT (mOp oNe (mCall fLen (mCons (mVar 2) mNil)) (mCall m_depth (mCons (mVar 1) mNil))))) (mRet (mC (.bl false))) mSkip)
  (mRet (mCall fAll (mCons (mFz (mLc (itS (mVar 2)) [3] (gN 3) mYes (mMeth "Hasher" "is_digest" m_Hasher_is_digest (mVar 0) (mCons (mVar 3) mNil)))) mNil))))
def m_is_proof : MF := runD N_is_proof.length P_is_proof.length b_is_proof
def b_path_1 : MS := (mSeq (mSet 7 (mMeth "Hasher" "digest" m_Hasher_digest (mVar 0) (mCons (mOp oIx (mOwn 4) (mUn oNeg (mC (.int 1)))) mNil)))
  (mApp 4 (mIf (toT (mOp oEq (mOp oAnd (mOp oShr (mVar 1) (mVar 5)) (mC (.int 1))) (mC (.int 1)))) (mCall m_node_text (mCons (mVar 6) (mCons (mVar 7) mNil))) (mCall m_node_text (mCons (mVar 7) (mCons (mVar 6) mNil))))))
def b_path : MS := (mSeq (mSetN 4 (szc (mCons (mCall m_leaf_text (mCons (mVar 2) mNil)) mNil)))
  (mSeq (mFor (itE (mCons (mVar 3) mNil)) (gTuA 2 (gCs (gN 5) (gCs (gN 6) gNl))) b_path_1)
  (mRetOwn 4)))
def m_path : MF := runD N_path.length P_path.length b_path
def b_fold : MS := (mRet (mMeth "Hasher" "digest" m_Hasher_digest (mVar 0) (mCons (mOp oIx (mCall m_path (mCons (mVar 0) (mCons (mVar 1) (mCons (mVar 2) (mCons (mVar 3) mNil))))) (mUn oNeg (mC (.int 1)))) mNil)))
def m_fold : MF := runD N_fold.length P_fold.length b_fold
def b_fits : MS := (mSeq (mIfS (mOrT (mNotT (toTru (mCall m_is_integer (mCons (mVar 3) mNil)))) (mOrT (toT (mOp oLt (mVar 3) (mC (.int 0)))) (toT (mOp oGe (mVar 3) (mVar 2))))) (mRet (mC (.bl false))) mSkip)
  (mSeq (mIfS (mOrT (mNotT (toTru (mCallD m_is_octets [.non] (mCons (mVar 4) mNil)))) (mNotT (toTru (mCall m_is_proof (mCons (mVar 0) (mCons (mVar 2) (mCons (mVar 5) mNil))))))) (mRet (mC (.bl false))) mSkip)
  (mRet (mOp oEq (mCall m_fold (mCons (mVar 0) (mCons (mVar 3) (mCons (mVar 4) (mCons (mVar 5) mNil))))) (mVar 1)))))
def m_fits : MF := runD N_fits.length P_fits.length b_fits
def b_root : MS := (mRet (mOp oIx (mOp oIx (mCall m_levels (mCons (mVar 0) (mCons (mVar 1) mNil))) (mUn oNeg (mC (.int 1)))) (mC (.int 0))))
def m_root : MF := runD N_root.length P_root.length b_root
def b_parted_1 : MS := (mIfS (mAndT (toT (mOp oNe (mVar 6) (mVar 7))) (toT (mOp oEq (mMeth "Hasher" "digest" m_Hasher_digest (mVar 0) (mCons (mVar 6) mNil)) (mMeth "Hasher" "digest" m_Hasher_digest (mVar 0) (mCons (mVar 7) mNil))))) (mRet (mTup (mCons (mVar 6) (mCons (mVar 7) mNil)))) mSkip)
def b_parted : MS := (mSeq (mIfS (mNotT (toTru (mCall m_fits (mCons (mVar 0) (mCons (mCall m_root (mCons (mVar 0) (mCons (mVar 1) mNil))) (mCons (mCall fLen (mCons (mVar 1) mNil)) (mCons (mVar 2) (mCons (mVar 3) (mCons (mVar 4) mNil))))))))) (mRaise "BadProof") mSkip)
  (mSeq (mSet 5 (mCall m_path (mCons (mVar 0) (mCons (mVar 2) (mCons (mOp oIx (mVar 1) (mVar 2)) (mCons (mOp oIx (mCall m_proofs (mCons (mVar 0) (mCons (mVar 1) mNil))) (mVar 2)) mNil))))))
  (mSeq (mFor (itZ (mCons (mVar 5) (mCons (mCall m_path (mCons (mVar 0) (mCons (mVar 2) (mCons (mVar 3) (mCons (mVar 4) mNil))))) mNil))) (gTuA 2 (gCs (gN 6) (gCs (gN 7) gNl))) b_parted_1)
  (mRet (mC .non)))))
def m_parted : MF := runD N_parted.length P_parted.length b_parted
def b_L_told : MS := (mTryAs ["BadProof"] [] 5 (mRet (mCall m_parted (mCons (mVar 0) (mCons (mVar 1) (mCons (mVar 2) (mCons (mVar 3) (mCons (mVar 4) mNil))))))) (fun _ => (mRet (mIf (toTru (mIsE 5 true)) (mC (.str "none")) (mC (.str "else"))))))
def m_L_told : MF := runD N_L_told.length P_L_told.length b_L_told
def b_L_right : MS := (mSeq (mSet 6 (mCall m_L_due (mCons (mVar 1) (mCons (mVar 2) (mCons (mVar 3) (mCons (mVar 4) (mCons (mVar 5) mNil)))))))
  (mSeq (mIfS (mNotT (toTru (mCall (m_L_same 4) (mCons (mCall m_L_told (mCons (mVar 0) (mCons (mVar 2) (mCons (mVar 3) (mCons (mVar 4) (mCons (mVar 5) mNil)))))) (mCons (mVar 6) mNil))))) (mRet (mC (.bl false))) mSkip)
  (mSeq (mIfS (toT (mOp oEq (mVar 6) (mC (.str "none")))) (mRet (mC (.bl true))) mSkip)
  (mSeq (mSet 7 (mAndV (mOp oEq (mVar 4) (mOp oIx (mVar 2) (mVar 3))) (mOp oEq (mVar 5) (mCall m_L_proof (mCons (mVar 1) (mCons (mC .non) (mCons (mVar 2) (mCons (mVar 3) mNil))))))))
  (mRet (mAndV (mOp oEq (mVar 7) (mOp oIs (mVar 6) (mC .non))) (mOp (oIsBG false) (mCall m_fits (mCons (mVar 0) (mCons (mCall m_root (mCons (mVar 0) (mCons (mVar 2) mNil))) (mCons (mCall fLen (mCons (mVar 2) mNil)) (mCons (mVar 3) (mCons (mVar 4) (mCons (mVar 5) mNil))))))) (mC (.bl true)))))))))
def m_L_right : MF := runD N_L_right.length P_L_right.length b_L_right
def b_L_with_digest_1 : MS := (mSeq (mSet 5 (mOp oAdd (mVar 3) (mOp oMulA (mVar 4) (mC (.int 65539)))))
  (mSeq (mSet 6 (mCall fTuple (mCons (mFz (mLc (itR1 (mCons (mVar 1) mNil)) [7] (gN 7) mYes (mOp oMod (mCall fInt (mCons (mOp oDiv (mVar 5) (mOp oAdd (mC (.int 1)) (mOp oMulA (mOp oMulA (mC (.int 5)) (mVar 7)) (mVar 7)))) mNil)) (mC (.int 256))))) mNil)))
  (mIfS (toT (mOp oEq (mCall m_L_digest (mCons (mVar 0) (mCons (mC .non) (mCons (mOp oAdd (mTup (mCons (mC (.int 0)) mNil)) (mVar 6)) mNil)))) (mVar 2))) (mRet (mVar 6)) mSkip)))
def b_L_with_digest : MS := (mSeq (mFor (itR1 (mCons (mC (.int 300)) mNil)) (gN 4) b_L_with_digest_1)
  (mRet (mC .non)))
def m_L_with_digest : MF := runD N_L_with_digest.length P_L_with_digest.length b_L_with_digest
def b_L_carried_1 : MS := (mSeq (mSet 4 (mOp oAdd (mOp oIx (mVar 0) (mVar 2)) (mVar 3)))
  (mSeq (mSet 5 (mOp oSub (mOp oIx (mVar 0) (mOp oAdd (mVar 2) (mC (.int 1)))) (mOp oMulA (mC (.int 31)) (mVar 3))))
  (mIfS (mAndT (toT (mOp oLe (mC (.int 0)) (mVar 4))) (mAndT (toT (mOp oLe (mVar 4) (mC (.int 255)))) (mAndT (toT (mOp oLe (mC (.int 0)) (mVar 5))) (toT (mOp oLe (mVar 5) (mC (.int 255))))))) (mApp 1 (mOp oAdd (mOp oAdd (mSl (mVar 0) mOn (mOs (mVar 2))) (mTup (mCons (mVar 4) (mCons (mVar 5) mNil)))) (mSl (mVar 0) (mOs (mOp oAdd (mVar 2) (mC (.int 2)))) mOn))) mSkip)))
def b_L_carried_2 : MS := (mFor (itS (mFz (szc (mCons (mC (.int 1)) (mCons (mUn oNeg (mC (.int 1))) mNil))))) (gN 3) b_L_carried_1)
def b_L_carried : MS := (mSeq (mSetN 1 (szc mNil))
  (mSeq (mFor (itR1 (mCons (mOp oSub (mCall fLen (mCons (mVar 0) mNil)) (mC (.int 1))) mNil)) (gN 2) b_L_carried_2)
  (mRetOwn 1)))
def m_L_carried : MF := runD N_L_carried.length P_L_carried.length b_L_carried
def b_L_forged_pair : MS := (mSeq (mSet 5 (mCall m_L_digest (mCons (mVar 0) (mCons (mC .non) (mCons (mOp oAdd (mTup (mCons (mC (.int 0)) mNil)) (mVar 2)) mNil)))))
  (mSeq (mSet 6 (mOp oEq (mOp oAnd (mVar 1) (mC (.int 1))) (mC (.int 1))))
  (mSeq (mSet 7 (mCall m_L_carried (mCons (mIf (toTru (mVar 6)) (mOp oAdd (mOp oIx (mVar 3) (mC (.int 0))) (mVar 5)) (mOp oAdd (mVar 5) (mOp oIx (mVar 3) (mC (.int 0))))) mNil)))
  (mSeq (mIfS (toT (mOp oEq (mCall fLen (mCons (mVar 7) mNil)) (mC (.int 0)))) (mRet (mTup (mCons (mVar 2) (mCons (mVar 3) mNil)))) mSkip)
  (mSeq (mSet 8 (mOp oIx (mVar 7) (mOp oMod (mVar 4) (mCall fLen (mCons (mVar 7) mNil)))))
  (mSeq (mSet 9 (mSl (mVar 8) mOn (mOs (mOp oIx (mVar 0) (mC (.int 1))))))
  (mSeq (mSet 10 (mSl (mVar 8) (mOs (mOp oIx (mVar 0) (mC (.int 1)))) mOn))
  (mSeq (mSet 11 (mCall m_L_with_digest (mCons (mVar 0) (mCons (mCall fLen (mCons (mVar 2) mNil)) (mCons (mIf (toTru (mVar 6)) (mVar 10) (mVar 9)) (mCons (mOp oDiv (mVar 4) (mC (.int 5))) mNil))))))
  (mRet (mIf (toT (mOp oIs (mVar 11) (mC .non))) (mTup (mCons (mVar 2) (mCons (mVar 3) mNil))) (mTup (mCons (mVar 11) (mCons (mOp oAdd (mTup (mCons (mIf (toTru (mVar 6)) (mVar 9) (mVar 10)) mNil)) (mSl (mVar 3) (mOs (mC (.int 1))) mOn)) mNil)))))))))))))
def m_L_forged_pair : MF := runD N_L_forged_pair.length P_L_forged_pair.length b_L_forged_pair
def b_L_forged : MS := (mSeq (mSet 5 (mOp oMod (mVar 4) (mC (.int 4))))
  (mSeq (mIfS (toT (mOp oEq (mVar 5) (mC (.int 0)))) (mSeq (mSet 8 (mCall m_L_with_digest (mCons (mVar 0) (mCons (mCall fLen (mCons (mVar 2) mNil)) (mCons (mCall m_L_digest (mCons (mVar 0) (mCons (mC .non) (mCons (mOp oAdd (mTup (mCons (mC (.int 0)) mNil)) (mVar 2)) mNil)))) (mCons (mOp oDiv (mVar 4) (mC (.int 4))) mNil))))))
  (mRet (mIf (toT (mOp oIs (mVar 8) (mC .non))) (mTup (mCons (mVar 2) (mCons (mVar 3) mNil))) (mTup (mCons (mVar 8) (mCons (mVar 3) mNil)))))) mSkip)
  (mSeq (mIfS (toT (mOp oEq (mVar 5) (mC (.int 1)))) (mSeq (mSet 7 (mCall m_L_carried (mCons (mVar 2) mNil)))
  (mRet (mIf (toT (mOp oGt (mCall fLen (mCons (mVar 7) mNil)) (mC (.int 0)))) (mTup (mCons (mOp oIx (mVar 7) (mOp oMod (mOp oDiv (mVar 4) (mC (.int 4))) (mCall fLen (mCons (mVar 7) mNil)))) (mCons (mVar 3) mNil))) (mTup (mCons (mVar 2) (mCons (mVar 3) mNil)))))) mSkip)
  (mSeq (mIfS (toT (mOp oEq (mCall fLen (mCons (mVar 3) mNil)) (mC (.int 0)))) (mRet (mTup (mCons (mVar 2) (mCons (mVar 3) mNil)))) mSkip)
  (mSeq (mIfS (toT (mOp oEq (mVar 5) (mC (.int 2)))) (mRet (mCall m_L_forged_pair (mCons (mVar 0) (mCons (mVar 1) (mCons (mVar 2) (mCons (mVar 3) (mCons (mOp oDiv (mVar 4) (mC (.int 4))) mNil))))))) mSkip)
  (mSeq (mSet 6 (mOp oMod (mOp oDiv (mVar 4) (mC (.int 4))) (mCall fLen (mCons (mVar 3) mNil))))
  (mSeq (mSet 7 (mCall m_L_carried (mCons (mOp oIx (mVar 3) (mVar 6)) mNil)))
  (mRet (mIf (toT (mOp oGt (mCall fLen (mCons (mVar 7) mNil)) (mC (.int 0)))) (mTup (mCons (mVar 2) (mCons (mOp oAdd (mOp oAdd (mSl (mVar 3) mOn (mOs (mVar 6))) (mTup (mCons (mOp oIx (mVar 7) (mOp oMod (mOp oDiv (mVar 4) (mC (.int 16))) (mCall fLen (mCons (mVar 7) mNil)))) mNil))) (mSl (mVar 3) (mOs (mOp oAdd (mVar 6) (mC (.int 1)))) mOn)) mNil))) (mTup (mCons (mVar 2) (mCons (mVar 3) mNil))))))))))))
def m_L_forged : MF := runD N_L_forged.length P_L_forged.length b_L_forged
def b_L_spoilt : MS := (mSeq (mSet 5 (mOp oMod (mVar 3) (mC (.int 12))))
  (mSeq (mSet 6 (mOp oMod (mOp oDiv (mVar 3) (mC (.int 12))) (mOp oAdd (mCall fLen (mCons (mVar 1) mNil)) (mC (.int 1)))))
  (mSeq (mSet 7 (mOp oMod (mOp oDiv (mVar 3) (mC (.int 12))) (mOp oAdd (mCall fLen (mCons (mVar 2) mNil)) (mC (.int 1)))))
  (mSeq (mSet 8 (mOp oMod (mOp oDiv (mVar 3) (mC (.int 500))) (mC (.int 256))))
  (mSeq (mIfS (toT (mOp oEq (mVar 5) (mC (.int 0)))) (mRet (mTup (mCons (mVar 0) (mCons (mOp oAdd (mOp oAdd (mSl (mVar 1) mOn (mOs (mVar 6))) (mTup (mCons (mVar 8) mNil))) (mSl (mVar 1) (mOs (mOp oAdd (mVar 6) (mC (.int 1)))) mOn)) (mCons (mVar 2) mNil))))) mSkip)
  (mSeq (mIfS (toT (mOp oEq (mVar 5) (mC (.int 1)))) (mRet (mTup (mCons (mVar 0) (mCons (mOp oAdd (mSl (mVar 1) mOn (mOs (mVar 6))) (mSl (mVar 1) (mOs (mOp oAdd (mVar 6) (mC (.int 1)))) mOn)) (mCons (mVar 2) mNil))))) mSkip)
  (mSeq (mIfS (toT (mOp oEq (mVar 5) (mC (.int 2)))) (mRet (mTup (mCons (mOp oIx (mFz (szc (mCons (mUn oNeg (mC (.int 1))) (mCons (mVar 4) (mCons (mC (.bl true)) (mCons (mC .non) (mCons (mC (.str "0")) (mCons (mOp oXor (mVar 0) (mC (.int 1))) (mCons (mOp oAdd (mVar 0) (mC (.int 1))) (mCons (mOp oAdd (mVar 0) (mOp oShl (mC (.int 1)) (mCall fLen (mCons (mVar 2) mNil)))) mNil)))))))))) (mOp oMod (mOp oDiv (mVar 3) (mC (.int 12))) (mC (.int 8)))) (mCons (mVar 1) (mCons (mVar 2) mNil))))) mSkip)
  (mSeq (mIfS (toT (mOp oEq (mVar 5) (mC (.int 3)))) (mRet (mTup (mCons (mVar 0) (mCons (mOp oIx (mFz (szc (mCons (mFz (mCallN fList (mCons (mVar 1) mNil))) (mCons (mC .non) (mCons (mC (.str "ab")) (mCons (mOp oAdd (mVar 1) (mTup (mCons (mC (.int 256)) mNil))) (mCons (mTup (mCons (mVar 1) mNil)) (mCons (mOp oAdd (mVar 1) (mTup (mCons (mC (.int 0)) mNil))) mNil)))))))) (mOp oMod (mOp oDiv (mVar 3) (mC (.int 12))) (mC (.int 6)))) (mCons (mVar 2) mNil))))) mSkip)
  (mSeq (mIfS (toT (mOp oEq (mVar 5) (mC (.int 4)))) (mRet (mTup (mCons (mVar 0) (mCons (mVar 1) (mCons (mOp oAdd (mSl (mVar 2) mOn (mOs (mVar 7))) (mSl (mVar 2) (mOs (mOp oAdd (mVar 7) (mC (.int 1)))) mOn)) mNil))))) mSkip)
  (mSeq (mIfS (toT (mOp oEq (mVar 5) (mC (.int 5)))) (mRet (mTup (mCons (mVar 0) (mCons (mVar 1) (mCons (mOp oAdd (mOp oAdd (mSl (mVar 2) mOn (mOs (mVar 7))) (mTup (mCons (mIf (toT (mOp oGt (mCall fLen (mCons (mVar 2) mNil)) (mC (.int 0)))) (mOp oIx (mVar 2) (mC (.int 0))) (mTup mNil)) mNil))) (mSl (mVar 2) (mOs (mVar 7)) mOn)) mNil))))) mSkip)
  (mSeq (mIfS (toT (mOp oEq (mVar 5) (mC (.int 6)))) (mRet (mTup (mCons (mVar 0) (mCons (mVar 1) (mCons (mOp oIx (mFz (szc (mCons (mFz (mCallN fList (mCons (mVar 2) mNil))) (mCons (mC .non) (mCons (mRev (mVar 2)) (mCons (mC (.int 5)) (mCons (mTup (mCons (mVar 2) mNil)) (mCons (mOp oAdd (mSl (mVar 2) (mOs (mC (.int 1))) mOn) (mSl (mVar 2) mOn (mOs (mC (.int 1))))) mNil)))))))) (mOp oMod (mOp oDiv (mVar 3) (mC (.int 12))) (mC (.int 6)))) mNil))))) mSkip)
  (mSeq (mIfS (mAndT (toT (mOp oLt (mVar 5) (mC (.int 10)))) (toT (mOp oLt (mVar 7) (mCall fLen (mCons (mVar 2) mNil))))) (mSeq (mSet 9 (mOp oIx (mVar 2) (mVar 7)))
  (mSeq (mSet 10 (mOp oMod (mOp oDiv (mVar 3) (mC (.int 130))) (mOp oAdd (mCall fLen (mCons (mVar 9) mNil)) (mC (.int 1)))))
  (mSeq (mSet 11 (mOp oIx (mFz (szc (mCons (mOp oAdd (mOp oAdd (mSl (mVar 9) mOn (mOs (mVar 10))) (mTup (mCons (mVar 8) mNil))) (mSl (mVar 9) (mOs (mOp oAdd (mVar 10) (mC (.int 1)))) mOn)) (mCons (mOp oAdd (mSl (mVar 9) mOn (mOs (mVar 10))) (mSl (mVar 9) (mOs (mOp oAdd (mVar 10) (mC (.int 1)))) mOn)) (mCons (mFz (mCallN fList (mCons (mVar 9) mNil))) mNil))))) (mOp oSub (mVar 5) (mC (.int 7)))))
  (mRet (mTup (mCons (mVar 0) (mCons (mVar 1) (mCons (mOp oAdd (mOp oAdd (mSl (mVar 2) mOn (mOs (mVar 7))) (mTup (mCons (mVar 11) mNil))) (mSl (mVar 2) (mOs (mOp oAdd (mVar 7) (mC (.int 1)))) mOn)) mNil)))))))) mSkip)
  (mRet (mTup (mCons (mVar 0) (mCons (mVar 1) (mCons (mVar 2) mNil)))))))))))))))))
def m_L_spoilt : MF := runD N_L_spoilt.length P_L_spoilt.length b_L_spoilt
def b_law_1 : MS := (mAsg (mCall m_L_forged (mCons (mVar 2) (mCons (mVar 7) (mCons (mVar 8) (mCons (mVar 9) (mCons (mOp oDiv (mVar 1) (mOp oIx (mFz (szc (mCons (mC (.int 21)) (mCons (mC (.int 1021)) mNil)))) (mVar 10))) mNil)))))) (gTuA 2 (gCs (gN 8) (gCs (gN 9) gNl))))
def b_law_2 : MS := (mSeq (mSet 1 (mCall m_L_rich (mCons (mCall m_L_cell (mCons (mVar 0) (mCons (mVar 6) mNil))) (mCons (mVar 6) mNil))))
  (mSeq (mSet 7 (mOp oMod (mVar 1) (mCall fLen (mCons (mVar 4) mNil))))
  (mSeq (mSet 8 (mOp oIx (mVar 4) (mVar 7)))
  (mSeq (mSet 9 (mOp oIx (mVar 5) (mVar 7)))
  (mSeq (mIfS (mNotT (toTru (mCall m_L_right (mCons (mVar 3) (mCons (mVar 2) (mCons (mVar 4) (mCons (mVar 7) (mCons (mVar 8) (mCons (mVar 9) mNil))))))))) (mRet (mC (.bl false))) mSkip)
  (mSeq (mFor (itR1 (mCons (mOp oAdd (mC (.int 1)) (mOp oMod (mOp oDiv (mVar 1) (mC (.int 7))) (mC (.int 2)))) mNil)) (gN 10) b_law_1)
  (mSeq (mIfS (mNotT (toTru (mCall m_L_right (mCons (mVar 3) (mCons (mVar 2) (mCons (mVar 4) (mCons (mVar 7) (mCons (mVar 8) (mCons (mVar 9) mNil))))))))) (mRet (mC (.bl false))) mSkip)
  (mSeq (mSet 11 (mCall m_L_spoilt (mCons (mVar 7) (mCons (mVar 8) (mCons (mVar 9) (mCons (mOp oDiv (mVar 1) (mC (.int 1009))) (mCons (mCall fLen (mCons (mVar 4) mNil)) mNil)))))))
  (mIfS (mNotT (toTru (mCall m_L_right (mCons (mVar 3) (mCons (mVar 2) (mCons (mVar 4) (mCons (mOp oIx (mVar 11) (mC (.int 0))) (mCons (mOp oIx (mVar 11) (mC (.int 1))) (mCons (mOp oIx (mVar 11) (mC (.int 2))) mNil))))))))) (mRet (mC (.bl false))) mSkip)))))))))
def b_law : MS := (mSeq (mSet 1 (mCall m_L_rich (mCons (mCall m_L_cell (mCons (mVar 0) (mCons (mC (.int 0)) mNil))) (mCons (mC (.int 0)) mNil))))
  (mSeq (mSet 2 (mTup (mCons (mC (.str "sum")) (mCons (mOp oAdd (mC (.int 1)) (mOp oDiv (mOp oMod (mCall fInt (mCons (mCall m_L_cell (mCons (mVar 0) (mCons (mC (.int 1)) mNil))) mNil)) (mC (.int 4))) (mC (.int 3)))) mNil))))
  (mSeq (mSet 3 (mMake "Hasher" m_Hasher_init (mCons (mVar 2) mNil)))
  (mSeq (mSet 4 (mOp oAdd (mCall m_L_pieces (mCons (mVar 1) (mCons (mC (.int 5)) mNil))) (mFz (szc (mCons (mTup (mCons (mOp oMod (mVar 1) (mC (.int 256))) (mCons (mC (.int 40)) (mCons (mC (.int 200)) mNil)))) (mCons (mTup (mCons (mC (.int 1)) (mCons (mC (.int 50)) (mCons (mC (.int 60)) (mCons (mC (.int 70)) mNil))))) mNil))))))
  (mSeq (mSet 5 (mCall m_proofs (mCons (mVar 3) (mCons (mVar 4) mNil))))
  (mSeq (mFor (itR2 (mCons (mC (.int 2)) (mCons (mCall fMax2 (mCons (mC (.int 3)) (mCons (mCall fMin2 (mCons (mC (.int 10)) (mCons (mCall fLen (mCons (mVar 0) mNil)) mNil))) mNil))) mNil))) (gN 6) b_law_2)
  (mRet (mC (.bl true)))))))))
def m_law : MF := runD N_law.length P_law.length b_law
section
variable {P : Program} {w : World} {K : PySem.W.Frag} {mg : Str → Option Value} {base : Heap} {cA : Str → Option Addr}
theorem f_L_rich (T : Tx K mg cA)  {f : Addr} {fd : FuncData} (Fn : Fun K "_law_rich" "_law_rich" s_L_rich f fd) : FnOk P w K mg base (L2.CX P w) 1 f fd P_L_rich (spM ⟨K, cA, 0, none⟩ (runD N_L_rich.length P_L_rich.length b_L_rich)) := by
  refine ok_def (b := b_L_rich) (N := N_L_rich) (ps := P_L_rich) (cA := cA) Fn sc_L_rich ?_
  intro cdv A outer s H E ok
  unfold b_L_rich
  unfold b_L_rich_1
  exact (sss_cons (ss_if (st_c (c_ge ok) (SE.b (se_var 0)) (SE.b (se_pow (SE.b se_int) (SE.b se_int)))) (sss_one (ss_ret (se_intc T.b_int (sab_cons (SE.b (se_var 0)) sab_nil)))) sss_nil)
      (sss_cons (ss_set 2 ok se_int)
      (sss_cons (ss_set 3 ok (se_mod (SE.b (se_intc T.b_int (sab_cons (SE.b (se_add (SE.b (se_add (SE.b (se_mulA (SE.b (se_var 0)) (SE.b se_int))) (SE.b (se_mulA (SE.b (se_var 1)) (SE.b se_int))))) (SE.b se_int))) sab_nil))) (SE.b se_int)))
      (sss_cons (ss_for ok rfl (si_range1 T.b_range (sa_cons se_int sa_nil)) (sg_name 4 ok) (sss_cons (ss_set 3 ok (se_mod (SE.b (se_intc T.b_int (sab_cons (SE.b (se_add (SE.b (se_add (SE.b (se_add (SE.b (se_mulA (SE.b (se_var 3)) (SE.b (se_var 3)))) (SE.b (se_mulA (SE.b (se_var 3)) (SE.b se_int))))) (SE.b (se_var 4)))) (SE.b se_int))) sab_nil))) (SE.b se_int)))
      (sss_one (ss_set 2 ok (se_add (SE.b (se_mulA (SE.b (se_var 2)) (SE.b se_int))) (SE.b (se_var 3)))))))
      (sss_one (ss_ret (se_var 2)))))))
theorem d_L_rich (T : Tx K mg cA)  (A : DefAt K mg "_law_rich" s_L_rich) : DefOk P w K mg base cA 1 "_law_rich" P_L_rich m_L_rich :=
  A.ok (fun f fd Fn => f_L_rich T  Fn) (fun _ _ _ _ _ _ us hl => match us, hl with | [_, _], _ => rfl)
theorem f_L_cell (T : Tx K mg cA)  {f : Addr} {fd : FuncData} (Fn : Fun K "_law_cell" "_law_cell" s_L_cell f fd) : FnOk P w K mg base (L2.CX P w) 1 f fd P_L_cell (spM ⟨K, cA, 0, none⟩ (runD N_L_cell.length P_L_cell.length b_L_cell)) := by
  refine ok_def (b := b_L_cell) (N := N_L_cell) (ps := P_L_cell) (cA := cA) Fn sc_L_cell ?_
  intro cdv A outer s H E ok
  unfold b_L_cell
  exact (sss_cons (ss_if (st_c (c_lt ok) (SE.b (se_var 1)) (SE.b (se_len T.b_len (sab_cons (SE.b (se_var 0)) sab_nil)))) (sss_one (ss_ret (se_intc T.b_int (sab_cons (SE.b (se_ix (SE.b (se_var 0)) (SE.b (se_var 1)))) sab_nil)))) sss_nil)
      (sss_one (ss_ret se_int)))
theorem d_L_cell (T : Tx K mg cA)  (A : DefAt K mg "_law_cell" s_L_cell) : DefOk P w K mg base cA 1 "_law_cell" P_L_cell m_L_cell :=
  A.ok (fun f fd Fn => f_L_cell T  Fn) (fun _ _ _ _ _ _ us hl => match us, hl with | [_, _], _ => rfl)
theorem f_is_integer (T : Tx K mg cA)  {f : Addr} {fd : FuncData} (Fn : Fun K "is_integer" "is_integer" s_is_integer f fd) : FnOk P w K mg base (L2.CX P w) 1 f fd P_is_integer (spM ⟨K, cA, 0, none⟩ (runD N_is_integer.length P_is_integer.length b_is_integer)) := by
  refine ok_def (b := b_is_integer) (N := N_is_integer) (ps := P_is_integer) (cA := cA) Fn sc_is_integer ?_
  intro cdv A outer s H E ok
  unfold b_is_integer
  exact (sss_one (ss_ret (sv_and (se_isi .int T.b_isinstance T.b_int (SE.b (se_var 0))) (sv_one (sv_not (se_isi .bool T.b_isinstance T.b_bool (SE.b (se_var 0))))))))
theorem d_is_integer (T : Tx K mg cA)  (A : DefAt K mg "is_integer" s_is_integer) : DefOk P w K mg base cA 1 "is_integer" P_is_integer m_is_integer :=
  A.ok (fun f fd Fn => f_is_integer T  Fn) (fun _ _ _ _ _ _ us hl => match us, hl with | [_], _ => rfl)
theorem f_is_kind (T : Tx K mg cA) (G_is_integer : DefOk P w K mg base cA 1 "is_integer" P_is_integer m_is_integer) {f : Addr} {fd : FuncData} (Fn : Fun K "is_kind" "is_kind" s_is_kind f fd) : FnOk P w K mg base (L2.CX P w) 2 f fd P_is_kind (spM ⟨K, cA, 0, none⟩ (runD N_is_kind.length P_is_kind.length b_is_kind)) := by
  refine ok_def (b := b_is_kind) (N := N_is_kind) (ps := P_is_kind) (cA := cA) Fn sc_is_kind ?_
  intro cdv A outer s H E ok
  unfold b_is_kind
  exact (sss_cons (ss_if (SW.t (sw_or (st_not (st_tru (SE.b (se_isi .tuple T.b_isinstance T.b_tuple (SE.b (se_var 0)))))) (sw_or (st_c (c_ne ok) (SE.b (se_len T.b_len (sab_cons (SE.b (se_var 0)) sab_nil))) (SE.b se_int)) (sw_or (st_not (st_tru (SE.b (se_isi .str T.b_isinstance T.b_str (SE.b (se_ix (SE.b (se_var 0)) (SE.b se_int))))))) (sw_or1 (st_not (st_tru (SE.b (se_fn ok G_is_integer (Nat.le_of_ble_eq_true rfl) (sa_cons (se_ix (SE.b (se_var 0)) (SE.b se_int)) sa_nil)))))))))) (sss_one (ss_ret se_bl)) sss_nil)
      (sss_cons (ss_if (st_c (c_eq ok) (SE.b (se_ix (SE.b (se_var 0)) (SE.b se_int))) (SE.b se_str)) (sss_one (ss_ret (se_c (c_eq ok) (SE.b (se_ix (SE.b (se_var 0)) (SE.b se_int))) (SE.b (se_gint T.c_SHA_SIZE.choose_spec))))) sss_nil)
      (sss_one (ss_ret (sv_and (se_c (c_eq ok) (SE.b (se_ix (SE.b (se_var 0)) (SE.b se_int))) (SE.b se_str)) (sv_and (se_c (c_le ok) (SE.b se_int) (SE.b (se_ix (SE.b (se_var 0)) (SE.b se_int)))) (sv_one (se_c (c_le ok) (SE.b (se_ix (SE.b (se_var 0)) (SE.b se_int))) (SE.b (se_gint T.c_MOST_SUM.choose_spec))))))))))
theorem d_is_kind (T : Tx K mg cA) (G_is_integer : DefOk P w K mg base cA 1 "is_integer" P_is_integer m_is_integer) (A : DefAt K mg "is_kind" s_is_kind) : DefOk P w K mg base cA 2 "is_kind" P_is_kind m_is_kind :=
  A.ok (fun f fd Fn => f_is_kind T G_is_integer Fn) (fun _ _ _ _ _ _ us hl => match us, hl with | [_], _ => rfl)
theorem f_check_kind (T : Tx K mg cA) (G_is_kind : DefOk P w K mg base cA 2 "is_kind" P_is_kind m_is_kind) {f : Addr} {fd : FuncData} (Fn : Fun K "check_kind" "check_kind" s_check_kind f fd) : FnOk P w K mg base (L2.CX P w) 3 f fd P_check_kind (spM ⟨K, cA, 0, none⟩ (runD N_check_kind.length P_check_kind.length b_check_kind)) := by
  refine ok_def (b := b_check_kind) (N := N_check_kind) (ps := P_check_kind) (cA := cA) Fn sc_check_kind ?_
  intro cdv A outer s H E ok
  unfold b_check_kind
  exact (sss_one (ss_if (st_not (st_tru (SE.b (se_fn ok G_is_kind (Nat.le_of_ble_eq_true rfl) (sa_cons (se_var 0) sa_nil))))) (sss_one ss_never) sss_nil))
theorem d_check_kind (T : Tx K mg cA) (G_is_kind : DefOk P w K mg base cA 2 "is_kind" P_is_kind m_is_kind) (A : DefAt K mg "check_kind" s_check_kind) : DefOk P w K mg base cA 3 "check_kind" P_check_kind m_check_kind :=
  A.ok (fun f fd Fn => f_check_kind T G_is_kind Fn) (fun _ _ _ _ _ _ us hl => match us, hl with | [_], _ => rfl)
theorem f_first_primes (T : Tx K mg cA)  {f : Addr} {fd : FuncData} (Fn : Fun K "first_primes" "first_primes" s_first_primes f fd) : FnOk P w K mg base (L2.CX P w) 1 f fd P_first_primes (spM ⟨K, cA, 0, none⟩ (runD N_first_primes.length P_first_primes.length b_first_primes)) := by
  refine ok_def (b := b_first_primes) (N := N_first_primes) (ps := P_first_primes) (cA := cA) Fn sc_first_primes ?_
  intro cdv A outer s H E ok
  unfold b_first_primes
  unfold b_first_primes_1
  exact (sss_cons (ss_setN 1 ok (sn_lst sa_nil))
      (sss_cons (ss_set 2 ok se_int)
      (sss_cons (ss_while 400 ok (st_c (c_lt ok) (SE.b (se_len T.b_len (sab_cons (sb_var 1) sab_nil))) (SE.b (se_var 0))) (sss_cons (ss_if (st_tru (SE.b (se_all rfl T.b_all (sab_cons (SN.b (sn_lc (own := [(("prime" : Str), 3)]) (is := [3]) ok rfl (sib_list (sb_var 1)) (fun _ => blkOk_by (by kernel_rfl)) (sg_name 3 (Fam.blk_ok ok _)) (by decide) sts_nil (se_c (c_ne (Fam.blk_ok ok _)) (SE.b (se_mod (SE.b (se_var 2)) (SE.b (se_var 3)))) (SE.b se_int)))) sab_nil)))) (sss_one (ss_app 1 (se_var 2))) sss_nil)
      (sss_one (ss_augAdd 2 ok (SE.b se_int)))))
      (sss_one (ss_retOwn 1)))))
theorem d_first_primes (T : Tx K mg cA)  (A : DefAt K mg "first_primes" s_first_primes) : DefOk P w K mg base cA 1 "first_primes" P_first_primes m_first_primes :=
  A.ok (fun f fd Fn => f_first_primes T  Fn) (fun _ _ _ _ _ _ us hl => match us, hl with | [_], _ => rfl)
theorem f_square_word (T : Tx K mg cA)  {f : Addr} {fd : FuncData} (Fn : Fun K "square_word" "square_word" s_square_word f fd) : FnOk P w K mg base (L2.CX P w) 1 f fd P_square_word (spM ⟨K, cA, 0, none⟩ (runD N_square_word.length P_square_word.length b_square_word)) := by
  refine ok_def (b := b_square_word) (N := N_square_word) (ps := P_square_word) (cA := cA) Fn sc_square_word ?_
  intro cdv A outer s H E ok
  unfold b_square_word
  exact (sss_one (ss_ret (se_and (SE.b (se_isqrt T.i_isqrt (sab_cons (SE.b (se_shl (SE.b (se_var 0)) (SE.b se_int))) sab_nil))) (SE.b (se_gint T.c_MASK.choose_spec)))))
theorem d_square_word (T : Tx K mg cA)  (A : DefAt K mg "square_word" s_square_word) : DefOk P w K mg base cA 1 "square_word" P_square_word m_square_word :=
  A.ok (fun f fd Fn => f_square_word T  Fn) (fun _ _ _ _ _ _ us hl => match us, hl with | [_], _ => rfl)
theorem f_start_words (T : Tx K mg cA) (G_first_primes : DefOk P w K mg base cA 1 "first_primes" P_first_primes m_first_primes) (G_square_word : DefOk P w K mg base cA 1 "square_word" P_square_word m_square_word) {f : Addr} {fd : FuncData} (Fn : Fun K "start_words" "start_words" s_start_words f fd) : FnOk P w K mg base (L2.CX P w) 2 f fd P_start_words (spM ⟨K, cA, 0, none⟩ (runD N_start_words.length P_start_words.length b_start_words)) := by
  refine ok_def (b := b_start_words) (N := N_start_words) (ps := P_start_words) (cA := cA) Fn sc_start_words ?_
  intro cdv A outer s H E ok
  unfold b_start_words
  exact (sss_one (ss_ret (se_tuple T.b_tuple (sab_cons (SN.b (sn_lc (own := [(("prime" : Str), 0)]) (is := [0]) ok rfl (SI.b (si_seq (se_fn ok G_first_primes (Nat.le_of_ble_eq_true rfl) (sa_cons se_int sa_nil)))) (fun _ => blkOk_by (by kernel_rfl)) (sg_name 0 (Fam.blk_ok ok _)) (by decide) sts_nil (se_fn (Fam.blk_ok ok _) G_square_word (Nat.le_of_ble_eq_true rfl) (sa_cons (se_var 0) sa_nil)))) sab_nil))))
theorem d_start_words (T : Tx K mg cA) (G_first_primes : DefOk P w K mg base cA 1 "first_primes" P_first_primes m_first_primes) (G_square_word : DefOk P w K mg base cA 1 "square_word" P_square_word m_square_word) (A : DefAt K mg "start_words" s_start_words) : DefOk P w K mg base cA 2 "start_words" P_start_words m_start_words :=
  A.ok (fun f fd Fn => f_start_words T G_first_primes G_square_word Fn) (fun _ _ _ _ _ _ us hl => match us, hl with | [], _ => rfl)
theorem f_cube_root (T : Tx K mg cA)  {f : Addr} {fd : FuncData} (Fn : Fun K "cube_root" "cube_root" s_cube_root f fd) : FnOk P w K mg base (L2.CX P w) 1 f fd P_cube_root (spM ⟨K, cA, 0, none⟩ (runD N_cube_root.length P_cube_root.length b_cube_root)) := by
  refine ok_def (b := b_cube_root) (N := N_cube_root) (ps := P_cube_root) (cA := cA) Fn sc_cube_root ?_
  intro cdv A outer s H E ok
  unfold b_cube_root
  unfold b_cube_root_1
  exact (sss_cons (ss_set 1 ok se_int)
      (sss_cons (ss_for ok rfl (si_range3 T.b_range (sa_cons (se_div (SE.b (se_bits (SE.b (se_var 0)))) (SE.b se_int)) (sa_cons (se_neg (SE.b se_int)) (sa_cons (se_neg (SE.b se_int)) sa_nil)))) (sg_name 2 ok) (sss_cons (ss_set 3 ok (se_or (SE.b (se_var 1)) (SE.b (se_shl (SE.b se_int) (SE.b (se_var 2))))))
      (sss_one (ss_if (st_c (c_le ok) (SE.b (se_mulA (SE.b (se_mulA (SE.b (se_var 3)) (SE.b (se_var 3)))) (SE.b (se_var 3)))) (SE.b (se_var 0))) (sss_one (ss_set 1 ok (se_var 3))) sss_nil))))
      (sss_one (ss_ret (se_var 1)))))
theorem d_cube_root (T : Tx K mg cA)  (A : DefAt K mg "cube_root" s_cube_root) : DefOk P w K mg base cA 1 "cube_root" P_cube_root m_cube_root :=
  A.ok (fun f fd Fn => f_cube_root T  Fn) (fun _ _ _ _ _ _ us hl => match us, hl with | [_], _ => rfl)
theorem f_cube_word (T : Tx K mg cA) (G_cube_root : DefOk P w K mg base cA 1 "cube_root" P_cube_root m_cube_root) {f : Addr} {fd : FuncData} (Fn : Fun K "cube_word" "cube_word" s_cube_word f fd) : FnOk P w K mg base (L2.CX P w) 2 f fd P_cube_word (spM ⟨K, cA, 0, none⟩ (runD N_cube_word.length P_cube_word.length b_cube_word)) := by
  refine ok_def (b := b_cube_word) (N := N_cube_word) (ps := P_cube_word) (cA := cA) Fn sc_cube_word ?_
  intro cdv A outer s H E ok
  unfold b_cube_word
  exact (sss_one (ss_ret (se_and (SE.b (se_fn ok G_cube_root (Nat.le_of_ble_eq_true rfl) (sa_cons (se_shl (SE.b (se_var 0)) (SE.b se_int)) sa_nil))) (SE.b (se_gint T.c_MASK.choose_spec)))))
theorem d_cube_word (T : Tx K mg cA) (G_cube_root : DefOk P w K mg base cA 1 "cube_root" P_cube_root m_cube_root) (A : DefAt K mg "cube_word" s_cube_word) : DefOk P w K mg base cA 2 "cube_word" P_cube_word m_cube_word :=
  A.ok (fun f fd Fn => f_cube_word T G_cube_root Fn) (fun _ _ _ _ _ _ us hl => match us, hl with | [_], _ => rfl)
theorem f_round_words (T : Tx K mg cA) (G_first_primes : DefOk P w K mg base cA 1 "first_primes" P_first_primes m_first_primes) (G_cube_word : DefOk P w K mg base cA 2 "cube_word" P_cube_word m_cube_word) {f : Addr} {fd : FuncData} (Fn : Fun K "round_words" "round_words" s_round_words f fd) : FnOk P w K mg base (L2.CX P w) 3 f fd P_round_words (spM ⟨K, cA, 0, none⟩ (runD N_round_words.length P_round_words.length b_round_words)) := by
  refine ok_def (b := b_round_words) (N := N_round_words) (ps := P_round_words) (cA := cA) Fn sc_round_words ?_
  intro cdv A outer s H E ok
  unfold b_round_words
  exact (sss_one (ss_ret (se_tuple T.b_tuple (sab_cons (SN.b (sn_lc (own := [(("prime" : Str), 0)]) (is := [0]) ok rfl (SI.b (si_seq (se_fn ok G_first_primes (Nat.le_of_ble_eq_true rfl) (sa_cons se_int sa_nil)))) (fun _ => blkOk_by (by kernel_rfl)) (sg_name 0 (Fam.blk_ok ok _)) (by decide) sts_nil (se_fn (Fam.blk_ok ok _) G_cube_word (Nat.le_of_ble_eq_true rfl) (sa_cons (se_var 0) sa_nil)))) sab_nil))))
theorem d_round_words (T : Tx K mg cA) (G_first_primes : DefOk P w K mg base cA 1 "first_primes" P_first_primes m_first_primes) (G_cube_word : DefOk P w K mg base cA 2 "cube_word" P_cube_word m_cube_word) (A : DefAt K mg "round_words" s_round_words) : DefOk P w K mg base cA 3 "round_words" P_round_words m_round_words :=
  A.ok (fun f fd Fn => f_round_words T G_first_primes G_cube_word Fn) (fun _ _ _ _ _ _ us hl => match us, hl with | [], _ => rfl)
theorem f_Hasher_init (T : Tx K mg cA) (G_check_kind : DefOk P w K mg base cA 3 "check_kind" P_check_kind m_check_kind) (G_start_words : DefOk P w K mg base cA 2 "start_words" P_start_words m_start_words) (G_round_words : DefOk P w K mg base cA 3 "round_words" P_round_words m_round_words) {f : Addr} {fd : FuncData} (Fn : Fun K "__init__" "Hasher.__init__" s_Hasher_init f fd) : FnOk P w K mg base (L2.CX P w) 4 f fd P_Hasher_init (spM ⟨K, cA, 0, none⟩ (runD N_Hasher_init.length P_Hasher_init.length b_Hasher_init)) := by
  refine ok_def (b := b_Hasher_init) (N := N_Hasher_init) (ps := P_Hasher_init) (cA := cA) Fn sc_Hasher_init ?_
  intro cdv A outer s H E ok
  unfold b_Hasher_init
  exact (sss_cons (ss_expr (SE.b (se_fn ok G_check_kind (Nat.le_of_ble_eq_true rfl) (sa_cons (se_var 1) sa_nil))))
      (sss_cons (ss_fld (cs := ["Hasher"]) (se_var 0) (se_var 1) (cl_cons 0 T.C_Hasher cl_nil))
      (sss_cons (ss_fld (cs := ["Hasher"]) (se_var 0) (se_ix (SE.b (se_var 1)) (SE.b se_int)) (cl_cons 1 T.C_Hasher cl_nil))
      (sss_cons (ss_fld (cs := ["Hasher"]) (se_var 0) (se_tup sa_nil) (cl_cons 2 T.C_Hasher cl_nil))
      (sss_cons (ss_fld (cs := ["Hasher"]) (se_var 0) (se_tup sa_nil) (cl_cons 3 T.C_Hasher cl_nil))
      (sss_one (ss_if (st_c (c_eq ok) (SE.b (se_ix (SE.b (se_var 1)) (SE.b se_int))) (SE.b se_str)) (sss_cons (ss_fld (cs := ["Hasher"]) (se_var 0) (se_fn0 ok G_start_words (Nat.le_of_ble_eq_true rfl)) (cl_cons 2 T.C_Hasher cl_nil))
      (sss_one (ss_fld (cs := ["Hasher"]) (se_var 0) (se_fn0 ok G_round_words (Nat.le_of_ble_eq_true rfl)) (cl_cons 3 T.C_Hasher cl_nil)))) sss_nil)))))))
theorem di_Hasher_init (T : Tx K mg cA) (G_check_kind : DefOk P w K mg base cA 3 "check_kind" P_check_kind m_check_kind) (G_start_words : DefOk P w K mg base cA 2 "start_words" P_start_words m_start_words) (G_round_words : DefOk P w K mg base cA 3 "round_words" P_round_words m_round_words) (A : MakeAt K mg "Hasher" "Hasher.__init__" s_Hasher_init) : MakeOk P w K mg base cA 4 "Hasher" P_Hasher_init m_Hasher_init :=
  A.ok T.C_Hasher (fun f fd Fn => f_Hasher_init T G_check_kind G_start_words G_round_words Fn) (fun _ _ _ _ _ _ us hl => match us, hl with | [_, _], _ => rfl)
theorem f_L_codes (T : Tx K mg cA)  {f : Addr} {fd : FuncData} (Fn : Fun K "_law_codes" "_law_codes" s_L_codes f fd) : FnOk P w K mg base (L2.CX P w) 1 f fd P_L_codes (spM ⟨K, cA, 0, none⟩ (runD N_L_codes.length P_L_codes.length b_L_codes)) := by
  refine ok_def (b := b_L_codes) (N := N_L_codes) (ps := P_L_codes) (cA := cA) Fn sc_L_codes ?_
  intro cdv A outer s H E ok
  unfold b_L_codes
  unfold b_L_codes_1
  exact (sss_cons (ss_setN 3 ok (sn_lst sa_nil))
      (sss_cons (ss_for ok rfl (si_range1 T.b_range (sa_cons (se_var 1) sa_nil)) (sg_name 4 ok) (sss_cons (ss_app 3 (se_mod (SE.b (se_intc T.b_int (sab_cons (SE.b (se_var 0)) sab_nil))) (SE.b (se_var 2))))
      (sss_one (ss_set 0 ok (se_div (SE.b (se_var 0)) (SE.b (se_var 2)))))))
      (sss_one (ss_retOwn 3))))
theorem d_L_codes (T : Tx K mg cA)  (A : DefAt K mg "_law_codes" s_L_codes) : DefOk P w K mg base cA 1 "_law_codes" P_L_codes m_L_codes :=
  A.ok (fun f fd Fn => f_L_codes T  Fn) (fun _ _ _ _ _ _ us hl => match us, hl with | [_, _, _], _ => rfl)
theorem f_L_pieces (T : Tx K mg cA) (G_L_codes : DefOk P w K mg base cA 1 "_law_codes" P_L_codes m_L_codes) {f : Addr} {fd : FuncData} (Fn : Fun K "_law_pieces" "_law_pieces" s_L_pieces f fd) : FnOk P w K mg base (L2.CX P w) 2 f fd P_L_pieces (spM ⟨K, cA, 0, none⟩ (runD N_L_pieces.length P_L_pieces.length b_L_pieces)) := by
  refine ok_def (b := b_L_pieces) (N := N_L_pieces) (ps := P_L_pieces) (cA := cA) Fn sc_L_pieces ?_
  intro cdv A outer s H E ok
  unfold b_L_pieces
  unfold b_L_pieces_1
  exact (sss_cons (ss_set 2 ok (se_ix (SN.b (sn_lst (sa_cons se_int (sa_cons se_int (sa_cons se_int (sa_cons se_int sa_nil)))))) (SE.b (se_mod (SE.b (se_div (SE.b (se_var 0)) (SE.b se_int))) (SE.b se_int)))))
      (sss_cons (ss_setN 3 ok (sn_lst sa_nil))
      (sss_cons (ss_for ok rfl (si_seq (se_fn ok G_L_codes (Nat.le_of_ble_eq_true rfl) (sa_cons (se_div (SE.b (se_var 0)) (SE.b se_int)) (sa_cons (se_mod (SE.b (se_var 0)) (SE.b (se_add (SE.b (se_var 1)) (SE.b se_int)))) (sa_cons (se_pow (SE.b se_int) (SE.b se_int)) sa_nil))))) (sg_name 4 ok) (sss_cons (ss_set 5 ok (se_tuple T.b_tuple (sab_cons (SN.b (sn_lc (own := [(("_law_at" : Str), 6)]) (is := [6]) ok rfl (SI.b (si_range1 T.b_range (sa_cons (se_var 2) sa_nil))) (fun _ => blkOk_by (by kernel_rfl)) (sg_name 6 (Fam.blk_ok ok _)) (by decide) sts_nil (se_mod (SE.b (se_intc T.b_int (sab_cons (SE.b (se_div (SE.b (se_var 4)) (SE.b (se_add (SE.b se_int) (SE.b (se_mulA (SE.b se_int) (SE.b (se_var 6)))))))) sab_nil))) (SE.b se_int)))) sab_nil)))
      (sss_one (ss_app 3 (se_if (st_c (c_gt ok) (SE.b (se_mod (SE.b (se_var 4)) (SE.b se_int))) (SE.b se_int)) (se_var 5) (se_mulA (SE.b (se_tup (sa_cons (se_mod (SE.b (se_var 4)) (SE.b se_int)) sa_nil))) (SE.b (se_var 2))))))))
      (sss_cons (ss_if (SW.t (sw_and (st_c (c_gt ok) (SE.b (se_len T.b_len (sab_cons (sb_var 3) sab_nil))) (SE.b se_int)) (sw_and1 (st_c (c_eq ok) (SE.b (se_mod (SE.b (se_div (SE.b (se_var 0)) (SE.b se_int))) (SE.b se_int))) (SE.b se_int))))) (sss_one (ss_setIx 3 (se_sl (SE.b (se_ix (sb_var 3) (SE.b (se_sub (SE.b (se_len T.b_len (sab_cons (sb_var 3) sab_nil))) (SE.b se_int))))) so_none (so_some (SE.b (se_add (SE.b se_int) (SE.b (se_mod (SE.b (se_var 0)) (SE.b (se_var 2)))))))) (SE.b (se_sub (SE.b (se_len T.b_len (sab_cons (sb_var 3) sab_nil))) (SE.b se_int))))) sss_nil)
      (sss_one (ss_retOwn 3))))))
theorem d_L_pieces (T : Tx K mg cA) (G_L_codes : DefOk P w K mg base cA 1 "_law_codes" P_L_codes m_L_codes) (A : DefAt K mg "_law_pieces" s_L_pieces) : DefOk P w K mg base cA 2 "_law_pieces" P_L_pieces m_L_pieces :=
  A.ok (fun f fd Fn => f_L_pieces T G_L_codes Fn) (fun _ _ _ _ _ _ us hl => match us, hl with | [_, _], _ => rfl)
theorem f_as_octets (T : Tx K mg cA)  {f : Addr} {fd : FuncData} (Fn : Fun K "as_octets" "as_octets" s_as_octets f fd) : FnOk P w K mg base (L2.CX P w) 1 f fd P_as_octets (spM ⟨K, cA, 0, none⟩ (runD N_as_octets.length P_as_octets.length b_as_octets)) := by
  refine ok_def (b := b_as_octets) (N := N_as_octets) (ps := P_as_octets) (cA := cA) Fn sc_as_octets ?_
  intro cdv A outer s H E ok
  unfold b_as_octets
  exact (sss_cons (ss_if (SW.t (sw_or (st_c (c_lt ok) (SE.b (se_var 0)) (SE.b se_int)) (sw_or1 (st_c (c_ne ok) (SE.b (se_shr (SE.b (se_var 0)) (SE.b (se_mulA (SE.b se_int) (SE.b (se_var 1)))))) (SE.b se_int))))) (sss_one ss_never) sss_nil)
      (sss_one (ss_ret (se_tuple T.b_tuple (sab_cons (SN.b (sn_lc (own := [(("place" : Str), 2)]) (is := [2]) ok rfl (SI.b (si_range3 T.b_range (sa_cons (se_sub (SE.b (se_var 1)) (SE.b se_int)) (sa_cons (se_neg (SE.b se_int)) (sa_cons (se_neg (SE.b se_int)) sa_nil))))) (fun _ => blkOk_by (by kernel_rfl)) (sg_name 2 (Fam.blk_ok ok _)) (by decide) sts_nil (se_and (SE.b (se_shr (SE.b (se_var 0)) (SE.b (se_mulA (SE.b se_int) (SE.b (se_var 2)))))) (SE.b se_int)))) sab_nil)))))
theorem dk_as_octets (T : Tx K mg cA)  (A : DefAt K mg "as_octets" s_as_octets) : DefKB P w K mg base cA 1 "as_octets" P_as_octets m_as_octets 1 ["size"] :=
  A.kb (fun f fd Fn => f_as_octets T  Fn) fun _ _ _ _ _ _ us ws hl hw => match us, hl, ws, hw with | [_], _, [_], _ => rfl
theorem f_plain_sum (T : Tx K mg cA) (GK_as_octets : DefKB P w K mg base cA 1 "as_octets" P_as_octets m_as_octets 1 ["size"]) {f : Addr} {fd : FuncData} (Fn : Fun K "plain_sum" "plain_sum" s_plain_sum f fd) : FnOk P w K mg base (L2.CX P w) 2 f fd P_plain_sum (spM ⟨K, cA, 0, none⟩ (runD N_plain_sum.length P_plain_sum.length b_plain_sum)) := by
  refine ok_def (b := b_plain_sum) (N := N_plain_sum) (ps := P_plain_sum) (cA := cA) Fn sc_plain_sum ?_
  intro cdv A outer s H E ok
  unfold b_plain_sum
  unfold b_plain_sum_1
  exact (sss_cons (ss_set 2 ok (se_shl (SE.b se_int) (SE.b (se_mulA (SE.b se_int) (SE.b (se_var 1))))))
      (sss_cons (ss_set 3 ok se_int)
      (sss_cons (ss_for ok rfl (si_seq (se_var 0)) (sg_name 4 ok) (sss_one (ss_set 3 ok (se_mod (SE.b (se_add (SE.b (se_add (SE.b (se_mulA (SE.b (se_var 3)) (SE.b (se_gint T.c_FACTOR.choose_spec)))) (SE.b (se_var 4)))) (SE.b se_int))) (SE.b (se_var 2))))))
      (sss_one (ss_ret (se_fnK (n := 1) (ks := ["size"]) ok GK_as_octets (Nat.le_of_ble_eq_true rfl) (sa_cons (se_var 3) sa_nil) (sk_cons (se_var 1) sk_nil)))))))
theorem d_plain_sum (T : Tx K mg cA) (GK_as_octets : DefKB P w K mg base cA 1 "as_octets" P_as_octets m_as_octets 1 ["size"]) (A : DefAt K mg "plain_sum" s_plain_sum) : DefOk P w K mg base cA 2 "plain_sum" P_plain_sum m_plain_sum :=
  A.ok (fun f fd Fn => f_plain_sum T GK_as_octets Fn) (fun _ _ _ _ _ _ us hl => match us, hl with | [_, _], _ => rfl)
theorem f_padded (T : Tx K mg cA) (GK_as_octets : DefKB P w K mg base cA 1 "as_octets" P_as_octets m_as_octets 1 ["size"]) {f : Addr} {fd : FuncData} (Fn : Fun K "padded" "padded" s_padded f fd) : FnOk P w K mg base (L2.CX P w) 2 f fd P_padded (spM ⟨K, cA, 0, none⟩ (runD N_padded.length P_padded.length b_padded)) := by
  refine ok_def (b := b_padded) (N := N_padded) (ps := P_padded) (cA := cA) Fn sc_padded ?_
  intro cdv A outer s H E ok
  unfold b_padded
  exact (sss_cons (ss_set 1 ok (se_mod (SE.b (se_sub (SE.b se_int) (SE.b (se_len T.b_len (sab_cons (SE.b (se_var 0)) sab_nil))))) (SE.b se_int)))
      (sss_one (ss_ret (se_add (SE.b (se_add (SE.b (se_add (SE.b (se_var 0)) (SE.b (se_tup (sa_cons se_int sa_nil))))) (SE.b (se_mulA (SE.b (se_tup (sa_cons se_int sa_nil))) (SE.b (se_var 1)))))) (SE.b (se_fnK (n := 1) (ks := ["size"]) ok GK_as_octets (Nat.le_of_ble_eq_true rfl) (sa_cons (se_mulA (SE.b se_int) (SE.b (se_len T.b_len (sab_cons (SE.b (se_var 0)) sab_nil)))) sa_nil) (sk_cons se_int sk_nil)))))))
theorem d_padded (T : Tx K mg cA) (GK_as_octets : DefKB P w K mg base cA 1 "as_octets" P_as_octets m_as_octets 1 ["size"]) (A : DefAt K mg "padded" s_padded) : DefOk P w K mg base cA 2 "padded" P_padded m_padded :=
  A.ok (fun f fd Fn => f_padded T GK_as_octets Fn) (fun _ _ _ _ _ _ us hl => match us, hl with | [_], _ => rfl)
theorem f_expanded (T : Tx K mg cA)  {f : Addr} {fd : FuncData} (Fn : Fun K "expanded" "expanded" s_expanded f fd) : FnOk P w K mg base (L2.CX P w) 1 f fd P_expanded (spM ⟨K, cA, 0, none⟩ (runD N_expanded.length P_expanded.length b_expanded)) := by
  refine ok_def (b := b_expanded) (N := N_expanded) (ps := P_expanded) (cA := cA) Fn sc_expanded ?_
  intro cdv A outer s H E ok
  unfold b_expanded
  unfold b_expanded_1
  exact (sss_cons (ss_setN 1 ok (sn_list T.b_list (sab_cons (SE.b (se_var 0)) sab_nil)))
      (sss_cons (ss_for ok rfl (si_range2 T.b_range (sa_cons se_int (sa_cons se_int sa_nil))) (sg_name 2 ok) (sss_cons (ss_set 3 ok (se_ix (sb_var 1) (SE.b (se_sub (SE.b (se_var 2)) (SE.b se_int)))))
      (sss_cons (ss_set 4 ok (se_ix (sb_var 1) (SE.b (se_sub (SE.b (se_var 2)) (SE.b se_int)))))
      (sss_cons (ss_set 5 ok (se_or (SE.b (se_shl (SE.b (se_var 3)) (SE.b se_int))) (SE.b (se_var 3))))
      (sss_cons (ss_set 6 ok (se_and (SE.b (se_xor (SE.b (se_xor (SE.b (se_shr (SE.b (se_var 5)) (SE.b se_int))) (SE.b (se_shr (SE.b (se_var 5)) (SE.b se_int))))) (SE.b (se_shr (SE.b (se_var 3)) (SE.b se_int))))) (SE.b (se_gint T.c_MASK.choose_spec))))
      (sss_cons (ss_set 5 ok (se_or (SE.b (se_shl (SE.b (se_var 4)) (SE.b se_int))) (SE.b (se_var 4))))
      (sss_cons (ss_set 7 ok (se_and (SE.b (se_xor (SE.b (se_xor (SE.b (se_shr (SE.b (se_var 5)) (SE.b se_int))) (SE.b (se_shr (SE.b (se_var 5)) (SE.b se_int))))) (SE.b (se_shr (SE.b (se_var 4)) (SE.b se_int))))) (SE.b (se_gint T.c_MASK.choose_spec))))
      (sss_one (ss_app 1 (se_and (SE.b (se_add (SE.b (se_add (SE.b (se_add (SE.b (se_ix (sb_var 1) (SE.b (se_sub (SE.b (se_var 2)) (SE.b se_int))))) (SE.b (se_var 6)))) (SE.b (se_ix (sb_var 1) (SE.b (se_sub (SE.b (se_var 2)) (SE.b se_int))))))) (SE.b (se_var 7)))) (SE.b (se_gint T.c_MASK.choose_spec))))))))))))
      (sss_one (ss_ret (se_tuple T.b_tuple (sab_cons (sb_var 1) sab_nil))))))
theorem d_expanded (T : Tx K mg cA)  (A : DefAt K mg "expanded" s_expanded) : DefOk P w K mg base cA 1 "expanded" P_expanded m_expanded :=
  A.ok (fun f fd Fn => f_expanded T  Fn) (fun _ _ _ _ _ _ us hl => match us, hl with | [_], _ => rfl)
theorem f_compressed (T : Tx K mg cA) (G_expanded : DefOk P w K mg base cA 1 "expanded" P_expanded m_expanded) {f : Addr} {fd : FuncData} (Fn : Fun K "compressed" "compressed" s_compressed f fd) : FnOk P w K mg base (L2.CX P w) 2 f fd P_compressed (spM ⟨K, cA, 0, none⟩ (runD N_compressed.length P_compressed.length b_compressed)) := by
  refine ok_def (b := b_compressed) (N := N_compressed) (ps := P_compressed) (cA := cA) Fn sc_compressed ?_
  intro cdv A outer s H E ok
  unfold b_compressed
  unfold b_compressed_1
  exact (sss_cons (ss_asg (se_var 0) (sg_tupA rfl (sgs_cons (sg_name 3 ok) (sgs_cons (sg_name 4 ok) (sgs_cons (sg_name 5 ok) (sgs_cons (sg_name 6 ok) (sgs_cons (sg_name 7 ok) (sgs_cons (sg_name 8 ok) (sgs_cons (sg_name 9 ok) (sgs_cons (sg_name 10 ok) sgs_nil))))))))))
      (sss_cons (ss_for ok rfl (si_zip T.b_zip (sa_cons (se_fn ok G_expanded (Nat.le_of_ble_eq_true rfl) (sa_cons (se_var 1) sa_nil)) (sa_cons (se_var 2) sa_nil))) (sg_tupA rfl (sgs_cons (sg_name 11 ok) (sgs_cons (sg_name 12 ok) sgs_nil))) (sss_cons (ss_set 13 ok (se_or (SE.b (se_shl (SE.b (se_var 7)) (SE.b se_int))) (SE.b (se_var 7))))
      (sss_cons (ss_set 14 ok (se_and (SE.b (se_xor (SE.b (se_xor (SE.b (se_shr (SE.b (se_var 13)) (SE.b se_int))) (SE.b (se_shr (SE.b (se_var 13)) (SE.b se_int))))) (SE.b (se_shr (SE.b (se_var 13)) (SE.b se_int))))) (SE.b (se_gint T.c_MASK.choose_spec))))
      (sss_cons (ss_set 15 ok (se_add (SE.b (se_add (SE.b (se_add (SE.b (se_add (SE.b (se_var 10)) (SE.b (se_var 14)))) (SE.b (se_xor (SE.b (se_var 9)) (SE.b (se_and (SE.b (se_var 7)) (SE.b (se_xor (SE.b (se_var 8)) (SE.b (se_var 9)))))))))) (SE.b (se_var 12)))) (SE.b (se_var 11))))
      (sss_cons (ss_set 13 ok (se_or (SE.b (se_shl (SE.b (se_var 3)) (SE.b se_int))) (SE.b (se_var 3))))
      (sss_cons (ss_set 16 ok (se_and (SE.b (se_xor (SE.b (se_xor (SE.b (se_shr (SE.b (se_var 13)) (SE.b se_int))) (SE.b (se_shr (SE.b (se_var 13)) (SE.b se_int))))) (SE.b (se_shr (SE.b (se_var 13)) (SE.b se_int))))) (SE.b (se_gint T.c_MASK.choose_spec))))
      (sss_cons (ss_set 17 ok (se_add (SE.b (se_var 16)) (SE.b (se_or (SE.b (se_and (SE.b (se_var 3)) (SE.b (se_var 4)))) (SE.b (se_and (SE.b (se_var 5)) (SE.b (se_or (SE.b (se_var 3)) (SE.b (se_var 4))))))))))
      (sss_one (ss_asg (se_tup (sa_cons (se_and (SE.b (se_add (SE.b (se_var 15)) (SE.b (se_var 17)))) (SE.b (se_gint T.c_MASK.choose_spec))) (sa_cons (se_var 3) (sa_cons (se_var 4) (sa_cons (se_var 5) (sa_cons (se_and (SE.b (se_add (SE.b (se_var 6)) (SE.b (se_var 15)))) (SE.b (se_gint T.c_MASK.choose_spec))) (sa_cons (se_var 7) (sa_cons (se_var 8) (sa_cons (se_var 9) sa_nil))))))))) (sg_tupA rfl (sgs_cons (sg_name 3 ok) (sgs_cons (sg_name 4 ok) (sgs_cons (sg_name 5 ok) (sgs_cons (sg_name 6 ok) (sgs_cons (sg_name 7 ok) (sgs_cons (sg_name 8 ok) (sgs_cons (sg_name 9 ok) (sgs_cons (sg_name 10 ok) sgs_nil))))))))))))))))))
      (sss_one (ss_ret (se_tuple T.b_tuple (sab_cons (SN.b (sn_lc (own := [(("one" : Str), 18), (("other" : Str), 19)]) (is := [18, 19]) ok rfl (SI.b (si_zip T.b_zip (sa_cons (se_var 0) (sa_cons (se_tup (sa_cons (se_var 3) (sa_cons (se_var 4) (sa_cons (se_var 5) (sa_cons (se_var 6) (sa_cons (se_var 7) (sa_cons (se_var 8) (sa_cons (se_var 9) (sa_cons (se_var 10) sa_nil))))))))) sa_nil)))) (fun _ => blkOk_by (by kernel_rfl)) (sg_tupA rfl (sgs_cons (sg_name 18 (Fam.blk_ok ok _)) (sgs_cons (sg_name 19 (Fam.blk_ok ok _)) sgs_nil))) (by decide) sts_nil (se_and (SE.b (se_add (SE.b (se_var 18)) (SE.b (se_var 19)))) (SE.b (se_gint T.c_MASK.choose_spec))))) sab_nil))))))
theorem d_compressed (T : Tx K mg cA) (G_expanded : DefOk P w K mg base cA 1 "expanded" P_expanded m_expanded) (A : DefAt K mg "compressed" s_compressed) : DefOk P w K mg base cA 2 "compressed" P_compressed m_compressed :=
  A.ok (fun f fd Fn => f_compressed T G_expanded Fn) (fun _ _ _ _ _ _ us hl => match us, hl with | [_, _, _], _ => rfl)
theorem f_number_of (T : Tx K mg cA)  {f : Addr} {fd : FuncData} (Fn : Fun K "number_of" "number_of" s_number_of f fd) : FnOk P w K mg base (L2.CX P w) 1 f fd P_number_of (spM ⟨K, cA, 0, none⟩ (runD N_number_of.length P_number_of.length b_number_of)) := by
  refine ok_def (b := b_number_of) (N := N_number_of) (ps := P_number_of) (cA := cA) Fn sc_number_of ?_
  intro cdv A outer s H E ok
  unfold b_number_of
  unfold b_number_of_1
  exact (sss_cons (ss_set 1 ok se_int)
      (sss_cons (ss_for ok rfl (si_seq (se_var 0)) (sg_name 2 ok) (sss_one (ss_set 1 ok (se_or (SE.b (se_shl (SE.b (se_var 1)) (SE.b se_int))) (SE.b (se_var 2))))))
      (sss_one (ss_ret (se_var 1)))))
theorem d_number_of (T : Tx K mg cA)  (A : DefAt K mg "number_of" s_number_of) : DefOk P w K mg base cA 1 "number_of" P_number_of m_number_of :=
  A.ok (fun f fd Fn => f_number_of T  Fn) (fun _ _ _ _ _ _ us hl => match us, hl with | [_], _ => rfl)
theorem f_block_words (T : Tx K mg cA) (G_number_of : DefOk P w K mg base cA 1 "number_of" P_number_of m_number_of) {f : Addr} {fd : FuncData} (Fn : Fun K "block_words" "block_words" s_block_words f fd) : FnOk P w K mg base (L2.CX P w) 2 f fd P_block_words (spM ⟨K, cA, 0, none⟩ (runD N_block_words.length P_block_words.length b_block_words)) := by
  refine ok_def (b := b_block_words) (N := N_block_words) (ps := P_block_words) (cA := cA) Fn sc_block_words ?_
  intro cdv A outer s H E ok
  unfold b_block_words
  exact (sss_one (ss_ret (se_tuple T.b_tuple (sab_cons (SN.b (sn_lc (own := [(("at" : Str), 1)]) (is := [1]) ok rfl (SI.b (si_range3 T.b_range (sa_cons se_int (sa_cons se_int (sa_cons se_int sa_nil))))) (fun _ => blkOk_by (by kernel_rfl)) (sg_name 1 (Fam.blk_ok ok _)) (by decide) sts_nil (se_fn (Fam.blk_ok ok _) G_number_of (Nat.le_of_ble_eq_true rfl) (sa_cons (se_sl (SE.b (se_var 0)) (so_some (SE.b (se_var 1))) (so_some (SE.b (se_add (SE.b (se_var 1)) (SE.b se_int))))) sa_nil)))) sab_nil))))
theorem d_block_words (T : Tx K mg cA) (G_number_of : DefOk P w K mg base cA 1 "number_of" P_number_of m_number_of) (A : DefAt K mg "block_words" s_block_words) : DefOk P w K mg base cA 2 "block_words" P_block_words m_block_words :=
  A.ok (fun f fd Fn => f_block_words T G_number_of Fn) (fun _ _ _ _ _ _ us hl => match us, hl with | [_], _ => rfl)
theorem f_joined (T : Tx K mg cA)  {f : Addr} {fd : FuncData} (Fn : Fun K "joined" "joined" s_joined f fd) : FnOk P w K mg base (L2.CX P w) 1 f fd P_joined (spM ⟨K, cA, 0, none⟩ (runD N_joined.length P_joined.length b_joined)) := by
  refine ok_def (b := b_joined) (N := N_joined) (ps := P_joined) (cA := cA) Fn sc_joined ?_
  intro cdv A outer s H E ok
  unfold b_joined
  unfold b_joined_1
  exact (sss_cons (ss_setN 1 ok (sn_lst sa_nil))
      (sss_cons (ss_for ok rfl (si_seq (se_var 0)) (sg_name 2 ok) (sss_one (ss_ext 1 (SE.b (se_var 2)))))
      (sss_one (ss_ret (se_tuple T.b_tuple (sab_cons (sb_var 1) sab_nil))))))
theorem d_joined (T : Tx K mg cA)  (A : DefAt K mg "joined" s_joined) : DefOk P w K mg base cA 1 "joined" P_joined m_joined :=
  A.ok (fun f fd Fn => f_joined T  Fn) (fun _ _ _ _ _ _ us hl => match us, hl with | [_], _ => rfl)
theorem f_sha (T : Tx K mg cA) (G_padded : DefOk P w K mg base cA 2 "padded" P_padded m_padded) (G_compressed : DefOk P w K mg base cA 2 "compressed" P_compressed m_compressed) (G_block_words : DefOk P w K mg base cA 2 "block_words" P_block_words m_block_words) (G_joined : DefOk P w K mg base cA 1 "joined" P_joined m_joined) (GK_as_octets : DefKB P w K mg base cA 1 "as_octets" P_as_octets m_as_octets 1 ["size"]) {f : Addr} {fd : FuncData} (Fn : Fun K "sha" "sha" s_sha f fd) : FnOk P w K mg base (L2.CX P w) 3 f fd P_sha (spM ⟨K, cA, 0, none⟩ (runD N_sha.length P_sha.length b_sha)) := by
  refine ok_def (b := b_sha) (N := N_sha) (ps := P_sha) (cA := cA) Fn sc_sha ?_
  intro cdv A outer s H E ok
  unfold b_sha
  unfold b_sha_1
  exact (sss_cons (ss_set 3 ok (se_var 1))
      (sss_cons (ss_set 4 ok (se_fn ok G_padded (Nat.le_of_ble_eq_true rfl) (sa_cons (se_var 0) sa_nil)))
      (sss_cons (ss_for ok rfl (si_range3 T.b_range (sa_cons se_int (sa_cons (se_len T.b_len (sab_cons (SE.b (se_var 4)) sab_nil)) (sa_cons se_int sa_nil)))) (sg_name 5 ok) (sss_one (ss_set 3 ok (se_fn ok G_compressed (Nat.le_of_ble_eq_true rfl) (sa_cons (se_var 3) (sa_cons (se_fn ok G_block_words (Nat.le_of_ble_eq_true rfl) (sa_cons (se_sl (SE.b (se_var 4)) (so_some (SE.b (se_var 5))) (so_some (SE.b (se_add (SE.b (se_var 5)) (SE.b se_int))))) sa_nil)) (sa_cons (se_var 2) sa_nil)))))))
      (sss_one (ss_ret (se_fn ok G_joined (Nat.le_of_ble_eq_true rfl) (sa_cons (SN.fz (sn_lc (own := [(("word" : Str), 6)]) (is := [6]) ok rfl (SI.b (si_seq (se_var 3))) (fun _ => blkOk_by (by kernel_rfl)) (sg_name 6 (Fam.blk_ok ok _)) (by decide) sts_nil (se_fnK (n := 1) (ks := ["size"]) (Fam.blk_ok ok _) GK_as_octets (Nat.le_of_ble_eq_true rfl) (sa_cons (se_var 6) sa_nil) (sk_cons se_int sk_nil)))) sa_nil)))))))
theorem d_sha (T : Tx K mg cA) (G_padded : DefOk P w K mg base cA 2 "padded" P_padded m_padded) (G_compressed : DefOk P w K mg base cA 2 "compressed" P_compressed m_compressed) (G_block_words : DefOk P w K mg base cA 2 "block_words" P_block_words m_block_words) (G_joined : DefOk P w K mg base cA 1 "joined" P_joined m_joined) (GK_as_octets : DefKB P w K mg base cA 1 "as_octets" P_as_octets m_as_octets 1 ["size"]) (A : DefAt K mg "sha" s_sha) : DefOk P w K mg base cA 3 "sha" P_sha m_sha :=
  A.ok (fun f fd Fn => f_sha T G_padded G_compressed G_block_words G_joined GK_as_octets Fn) (fun _ _ _ _ _ _ us hl => match us, hl with | [_, _, _], _ => rfl)
theorem f_Hasher_digest (T : Tx K mg cA) (G_plain_sum : DefOk P w K mg base cA 2 "plain_sum" P_plain_sum m_plain_sum) (G_sha : DefOk P w K mg base cA 3 "sha" P_sha m_sha) {f : Addr} {fd : FuncData} (Fn : Fun K "digest" "Hasher.digest" s_Hasher_digest f fd) : FnOk P w K mg base (L2.CX P w) 4 f fd P_Hasher_digest (spM ⟨K, cA, 0, none⟩ (runD N_Hasher_digest.length P_Hasher_digest.length b_Hasher_digest)) := by
  refine ok_def (b := b_Hasher_digest) (N := N_Hasher_digest) (ps := P_Hasher_digest) (cA := cA) Fn sc_Hasher_digest ?_
  intro cdv A outer s H E ok
  unfold b_Hasher_digest
  exact (sss_cons (ss_if (st_c (c_eq ok) (SE.b (se_ix (SE.b (se_fld (cs := ["Hasher"]) (se_var 0) (cl_cons 0 T.C_Hasher cl_nil))) (SE.b se_int))) (SE.b se_str)) (sss_one (ss_ret (se_fn ok G_plain_sum (Nat.le_of_ble_eq_true rfl) (sa_cons (se_var 1) (sa_cons (se_fld (cs := ["Hasher"]) (se_var 0) (cl_cons 1 T.C_Hasher cl_nil)) sa_nil))))) sss_nil)
      (sss_one (ss_ret (se_sl (SE.b (se_fn ok G_sha (Nat.le_of_ble_eq_true rfl) (sa_cons (se_var 1) (sa_cons (se_fld (cs := ["Hasher"]) (se_var 0) (cl_cons 2 T.C_Hasher cl_nil)) (sa_cons (se_fld (cs := ["Hasher"]) (se_var 0) (cl_cons 3 T.C_Hasher cl_nil)) sa_nil))))) so_none (so_some (SE.b (se_fld (cs := ["Hasher"]) (se_var 0) (cl_cons 1 T.C_Hasher cl_nil))))))))
theorem dm_Hasher_digest (T : Tx K mg cA) (G_plain_sum : DefOk P w K mg base cA 2 "plain_sum" P_plain_sum m_plain_sum) (G_sha : DefOk P w K mg base cA 3 "sha" P_sha m_sha) (A : MethAt K mg "Hasher" "digest" "Hasher.digest" s_Hasher_digest) : MethOk P w K mg base cA 4 "Hasher" "digest" P_Hasher_digest m_Hasher_digest :=
  A.ok T.C_Hasher (fun f fd Fn => f_Hasher_digest T G_plain_sum G_sha Fn) (fun _ _ _ _ _ _ us hl => match us, hl with | [_, _], _ => rfl)
theorem f_leaf_text (T : Tx K mg cA)  {f : Addr} {fd : FuncData} (Fn : Fun K "leaf_text" "leaf_text" s_leaf_text f fd) : FnOk P w K mg base (L2.CX P w) 1 f fd P_leaf_text (spM ⟨K, cA, 0, none⟩ (runD N_leaf_text.length P_leaf_text.length b_leaf_text)) := by
  refine ok_def (b := b_leaf_text) (N := N_leaf_text) (ps := P_leaf_text) (cA := cA) Fn sc_leaf_text ?_
  intro cdv A outer s H E ok
  unfold b_leaf_text
  exact (sss_one (ss_ret (se_add (SE.b (se_tup (sa_cons (se_gint T.c_LEAF.choose_spec) sa_nil))) (SE.b (se_var 0)))))
theorem d_leaf_text (T : Tx K mg cA)  (A : DefAt K mg "leaf_text" s_leaf_text) : DefOk P w K mg base cA 1 "leaf_text" P_leaf_text m_leaf_text :=
  A.ok (fun f fd Fn => f_leaf_text T  Fn) (fun _ _ _ _ _ _ us hl => match us, hl with | [_], _ => rfl)
theorem f_depth (T : Tx K mg cA)  {f : Addr} {fd : FuncData} (Fn : Fun K "depth" "depth" s_depth f fd) : FnOk P w K mg base (L2.CX P w) 1 f fd P_depth (spM ⟨K, cA, 0, none⟩ (runD N_depth.length P_depth.length b_depth)) := by
  refine ok_def (b := b_depth) (N := N_depth) (ps := P_depth) (cA := cA) Fn sc_depth ?_
  intro cdv A outer s H E ok
  unfold b_depth
  unfold b_depth_1
  exact (sss_cons (ss_set 1 ok se_int)
      (sss_cons (ss_while 60 ok (st_c (c_lt ok) (SE.b (se_shl (SE.b se_int) (SE.b (se_var 1)))) (SE.b (se_var 0))) (sss_one (ss_augAdd 1 ok (SE.b se_int))))
      (sss_one (ss_ret (se_var 1)))))
theorem d_depth (T : Tx K mg cA)  (A : DefAt K mg "depth" s_depth) : DefOk P w K mg base cA 1 "depth" P_depth m_depth :=
  A.ok (fun f fd Fn => f_depth T  Fn) (fun _ _ _ _ _ _ us hl => match us, hl with | [_], _ => rfl)
theorem f_node_text (T : Tx K mg cA)  {f : Addr} {fd : FuncData} (Fn : Fun K "node_text" "node_text" s_node_text f fd) : FnOk P w K mg base (L2.CX P w) 1 f fd P_node_text (spM ⟨K, cA, 0, none⟩ (runD N_node_text.length P_node_text.length b_node_text)) := by
  refine ok_def (b := b_node_text) (N := N_node_text) (ps := P_node_text) (cA := cA) Fn sc_node_text ?_
  intro cdv A outer s H E ok
  unfold b_node_text
  exact (sss_one (ss_ret (se_add (SE.b (se_add (SE.b (se_tup (sa_cons (se_gint T.c_NODE.choose_spec) sa_nil))) (SE.b (se_var 0)))) (SE.b (se_var 1)))))
theorem d_node_text (T : Tx K mg cA)  (A : DefAt K mg "node_text" s_node_text) : DefOk P w K mg base cA 1 "node_text" P_node_text m_node_text :=
  A.ok (fun f fd Fn => f_node_text T  Fn) (fun _ _ _ _ _ _ us hl => match us, hl with | [_, _], _ => rfl)
theorem f_levels (T : Tx K mg cA) (GM_Hasher_digest : MethOk P w K mg base cA 4 "Hasher" "digest" P_Hasher_digest m_Hasher_digest) (G_leaf_text : DefOk P w K mg base cA 1 "leaf_text" P_leaf_text m_leaf_text) (G_depth : DefOk P w K mg base cA 1 "depth" P_depth m_depth) (G_node_text : DefOk P w K mg base cA 1 "node_text" P_node_text m_node_text) {f : Addr} {fd : FuncData} (Fn : Fun K "levels" "levels" s_levels f fd) : FnOk P w K mg base (L2.CX P w) 5 f fd P_levels (spM ⟨K, cA, 0, none⟩ (runD N_levels.length P_levels.length b_levels)) := by
  refine ok_def (b := b_levels) (N := N_levels) (ps := P_levels) (cA := cA) Fn sc_levels ?_
  intro cdv A outer s H E ok
  unfold b_levels
  unfold b_levels_1
  exact (sss_cons (ss_setN 2 ok (sn_lc (own := [(("piece" : Str), 5)]) (is := [5]) ok rfl (SI.b (si_seq (se_var 1))) (fun _ => blkOk_by (by kernel_rfl)) (sg_name 5 (Fam.blk_ok ok _)) (by decide) sts_nil (se_meth (Fam.blk_ok ok _) (se_var 0) GM_Hasher_digest (Nat.le_of_ble_eq_true rfl) (sa_cons (se_fn (Fam.blk_ok ok _) G_leaf_text (Nat.le_of_ble_eq_true rfl) (sa_cons (se_var 5) sa_nil)) sa_nil))))
      (sss_cons (ss_set 3 ok (se_meth ok (se_var 0) GM_Hasher_digest (Nat.le_of_ble_eq_true rfl) (sa_cons (se_tup (sa_cons (se_gint T.c_PAD.choose_spec) sa_nil)) sa_nil)))
      (sss_cons (ss_ext 2 (SN.b (sn_lc (own := [(("_" : Str), 6)]) (is := [6]) ok rfl (SI.b (si_range1 T.b_range (sa_cons (se_sub (SE.b (se_shl (SE.b se_int) (SE.b (se_fn ok G_depth (Nat.le_of_ble_eq_true rfl) (sa_cons (se_len T.b_len (sab_cons (SE.b (se_var 1)) sab_nil)) sa_nil))))) (SE.b (se_len T.b_len (sab_cons (SE.b (se_var 1)) sab_nil)))) sa_nil))) (fun _ => blkOk_by (by kernel_rfl)) (sg_name 6 (Fam.blk_ok ok _)) (by decide) sts_nil (se_var 3))))
      (sss_cons (ss_frz 2 (ss_setN 4 ok (sn_lst (sa_cons (se_var 2) sa_nil))))
      (sss_cons (ss_while 10 ok (st_c (c_gt ok) (SE.b (se_len T.b_len (sab_cons (sb_var 2) sab_nil))) (SE.b se_int)) (sss_cons (ss_setN 2 ok (sn_lc (own := [(("at" : Str), 7)]) (is := [7]) ok rfl (SI.b (si_range3 T.b_range (sa_cons se_int (sa_cons (se_len T.b_len (sab_cons (sb_var 2) sab_nil)) (sa_cons se_int sa_nil))))) (fun _ => blkOk_by (by kernel_rfl)) (sg_name 7 (Fam.blk_ok ok _)) (by decide) sts_nil (se_meth (Fam.blk_ok ok _) (se_var 0) GM_Hasher_digest (Nat.le_of_ble_eq_true rfl) (sa_cons (se_fn (Fam.blk_ok ok _) G_node_text (Nat.le_of_ble_eq_true rfl) (sa_cons (se_ix (sb_var 2) (SE.b (se_var 7))) (sa_cons (se_ix (sb_var 2) (SE.b (se_add (SE.b (se_var 7)) (SE.b se_int)))) sa_nil))) sa_nil))))
      (sss_one (ss_frz 2 (ss_app 4 (se_var 2))))))
      (sss_one (ss_retOwn 4)))))))
theorem d_levels (T : Tx K mg cA) (GM_Hasher_digest : MethOk P w K mg base cA 4 "Hasher" "digest" P_Hasher_digest m_Hasher_digest) (G_leaf_text : DefOk P w K mg base cA 1 "leaf_text" P_leaf_text m_leaf_text) (G_depth : DefOk P w K mg base cA 1 "depth" P_depth m_depth) (G_node_text : DefOk P w K mg base cA 1 "node_text" P_node_text m_node_text) (A : DefAt K mg "levels" s_levels) : DefOk P w K mg base cA 5 "levels" P_levels m_levels :=
  A.ok (fun f fd Fn => f_levels T GM_Hasher_digest G_leaf_text G_depth G_node_text Fn) (fun _ _ _ _ _ _ us hl => match us, hl with | [_, _], _ => rfl)
theorem f_proofs (T : Tx K mg cA) (G_levels : DefOk P w K mg base cA 5 "levels" P_levels m_levels) {f : Addr} {fd : FuncData} (Fn : Fun K "proofs" "proofs" s_proofs f fd) : FnOk P w K mg base (L2.CX P w) 6 f fd P_proofs (spM ⟨K, cA, 0, none⟩ (runD N_proofs.length P_proofs.length b_proofs)) := by
  refine ok_def (b := b_proofs) (N := N_proofs) (ps := P_proofs) (cA := cA) Fn sc_proofs ?_
  intro cdv A outer s H E ok
  unfold b_proofs
  unfold b_proofs_1
  exact (sss_cons (ss_set 2 ok (se_fn ok G_levels (Nat.le_of_ble_eq_true rfl) (sa_cons (se_var 0) (sa_cons (se_var 1) sa_nil))))
      (sss_cons (ss_setN 3 ok (sn_lst sa_nil))
      (sss_cons (ss_for ok rfl (si_range1 T.b_range (sa_cons (se_len T.b_len (sab_cons (SE.b (se_var 1)) sab_nil)) sa_nil)) (sg_name 4 ok) (sss_one (ss_app 3 (se_tuple T.b_tuple (sab_cons (SN.b (sn_lc (own := [(("height" : Str), 5), (("row" : Str), 6)]) (is := [5, 6]) ok rfl (SI.b (si_enum T.b_enumerate (sa_cons (se_sl (SE.b (se_var 2)) so_none (so_some (SE.b (se_neg (SE.b se_int))))) sa_nil))) (fun _ => blkOk_by (by kernel_rfl)) (sg_tupA rfl (sgs_cons (sg_name 5 (Fam.blk_ok ok _)) (sgs_cons (sg_name 6 (Fam.blk_ok ok _)) sgs_nil))) (by decide) sts_nil (se_ix (SE.b (se_var 6)) (SE.b (se_xor (SE.b (se_shr (SE.b (se_var 4)) (SE.b (se_var 5)))) (SE.b se_int)))))) sab_nil)))))
      (sss_one (ss_ret (se_tuple T.b_tuple (sab_cons (sb_var 3) sab_nil)))))))
theorem d_proofs (T : Tx K mg cA) (G_levels : DefOk P w K mg base cA 5 "levels" P_levels m_levels) (A : DefAt K mg "proofs" s_proofs) : DefOk P w K mg base cA 6 "proofs" P_proofs m_proofs :=
  A.ok (fun f fd Fn => f_proofs T G_levels Fn) (fun _ _ _ _ _ _ us hl => match us, hl with | [_, _], _ => rfl)
theorem f_L_digest (T : Tx K mg cA)  {f : Addr} {fd : FuncData} (Fn : Fun K "_law_digest" "_law_digest" s_L_digest f fd) : FnOk P w K mg base (L2.CX P w) 1 f fd P_L_digest (spM ⟨K, cA, 0, none⟩ (runD N_L_digest.length P_L_digest.length b_L_digest)) := by
  refine ok_def (b := b_L_digest) (N := N_L_digest) (ps := P_L_digest) (cA := cA) Fn sc_L_digest ?_
  intro cdv A outer s H E ok
  unfold b_L_digest
  unfold b_L_digest_1
  exact (sss_cons (ss_set 3 ok (se_shl (SE.b se_int) (SE.b (se_mulA (SE.b se_int) (SE.b (se_ix (SE.b (se_var 0)) (SE.b se_int)))))))
      (sss_cons (ss_set 4 ok se_int)
      (sss_cons (ss_for ok rfl (si_seq (se_var 2)) (sg_name 5 ok) (sss_one (ss_set 4 ok (se_mod (SE.b (se_intc T.b_int (sab_cons (SE.b (se_add (SE.b (se_add (SE.b (se_mulA (SE.b (se_var 4)) (SE.b se_int))) (SE.b (se_var 5)))) (SE.b se_int))) sab_nil))) (SE.b (se_var 3))))))
      (sss_one (ss_ret (se_tuple T.b_tuple (sab_cons (SN.b (sn_lc (own := [(("_law_k" : Str), 6)]) (is := [6]) ok rfl (SI.b (si_range1 T.b_range (sa_cons (se_ix (SE.b (se_var 0)) (SE.b se_int)) sa_nil))) (fun _ => blkOk_by (by kernel_rfl)) (sg_name 6 (Fam.blk_ok ok _)) (by decide) sts_nil (se_and (SE.b (se_shr (SE.b (se_var 4)) (SE.b (se_mulA (SE.b se_int) (SE.b (se_sub (SE.b (se_sub (SE.b (se_ix (SE.b (se_var 0)) (SE.b se_int))) (SE.b se_int))) (SE.b (se_var 6)))))))) (SE.b se_int)))) sab_nil)))))))
theorem d_L_digest (T : Tx K mg cA)  (A : DefAt K mg "_law_digest" s_L_digest) : DefOk P w K mg base cA 1 "_law_digest" P_L_digest m_L_digest :=
  A.ok (fun f fd Fn => f_L_digest T  Fn) (fun _ _ _ _ _ _ us hl => match us, hl with | [_, _, _], _ => rfl)
theorem f_L_top (T : Tx K mg cA) (G_L_digest : DefOk P w K mg base cA 1 "_law_digest" P_L_digest m_L_digest) {r_L_top : MF} {n_L_top : Nat} (G_L_top : DefOk P w K mg base cA (1 + n_L_top) "_law_top" P_L_top r_L_top)  {f : Addr} {fd : FuncData} (Fn : Fun K "_law_top" "_law_top" s_L_top f fd) : FnOk P w K mg base (L2.CX P w) (1 + n_L_top + 1) f fd P_L_top (spM ⟨K, cA, 0, none⟩ (runD N_L_top.length P_L_top.length (b_L_top r_L_top))) := by
  refine ok_def (b := b_L_top r_L_top) (N := N_L_top) (ps := P_L_top) (cA := cA) Fn sc_L_top ?_
  intro cdv A outer s H E ok
  unfold b_L_top
  exact (sss_cons (ss_if (st_c (c_eq ok) (SE.b (se_var 4)) (SE.b se_int)) (sss_cons (ss_set 8 ok (se_if (st_c (c_lt ok) (SE.b (se_var 3)) (SE.b (se_len T.b_len (sab_cons (SE.b (se_var 2)) sab_nil)))) (se_add (SE.b (se_tup (sa_cons se_int sa_nil))) (SE.b (se_ix (SE.b (se_var 2)) (SE.b (se_var 3))))) (se_tup (sa_cons se_int sa_nil))))
      (sss_one (ss_ret (se_fn ok G_L_digest (by first | exact Nat.le_refl _ | (show _ ≤ 1 + n_L_top; omega)) (sa_cons (se_var 0) (sa_cons (se_var 1) (sa_cons (se_var 8) sa_nil))))))) sss_nil)
      (sss_cons (ss_set 5 ok (se_shl (SE.b se_int) (SE.b (se_sub (SE.b (se_var 4)) (SE.b se_int)))))
      (sss_cons (ss_set 6 ok (se_fn ok G_L_top (by first | exact Nat.le_refl _ | (show _ ≤ 1 + n_L_top; omega)) (sa_cons (se_var 0) (sa_cons (se_var 1) (sa_cons (se_var 2) (sa_cons (se_var 3) (sa_cons (se_sub (SE.b (se_var 4)) (SE.b se_int)) sa_nil)))))))
      (sss_cons (ss_set 7 ok (se_fn ok G_L_top (by first | exact Nat.le_refl _ | (show _ ≤ 1 + n_L_top; omega)) (sa_cons (se_var 0) (sa_cons (se_var 1) (sa_cons (se_var 2) (sa_cons (se_add (SE.b (se_var 3)) (SE.b (se_var 5))) (sa_cons (se_sub (SE.b (se_var 4)) (SE.b se_int)) sa_nil)))))))
      (sss_one (ss_ret (se_fn ok G_L_digest (by first | exact Nat.le_refl _ | (show _ ≤ 1 + n_L_top; omega)) (sa_cons (se_var 0) (sa_cons (se_var 1) (sa_cons (se_add (SE.b (se_add (SE.b (se_tup (sa_cons se_int sa_nil))) (SE.b (se_var 6)))) (SE.b (se_var 7))) sa_nil))))))))))
theorem r_L_top (T : Tx K mg cA) (G_L_digest : DefOk P w K mg base cA 1 "_law_digest" P_L_digest m_L_digest) (A : DefAt K mg "_law_top" s_L_top) : ∀ n : Nat, DefOk P w K mg base cA (1 + n) "_law_top" P_L_top (m_L_top n)
  | 0 => DefOk.zero A (fun _ _ _ _ _ _ us hl => match us, hl with | [_, _, _, _, _], _ => rfl)
  | n + 1 => A.ok (fun f fd Fn => f_L_top T G_L_digest (r_L_top T G_L_digest A n) Fn) (fun _ _ _ _ _ _ us hl => match us, hl with | [_, _, _, _, _], _ => rfl)
theorem d_L_top (T : Tx K mg cA) (G_L_digest : DefOk P w K mg base cA 1 "_law_digest" P_L_digest m_L_digest) (A : DefAt K mg "_law_top" s_L_top) : DefOk P w K mg base cA 7 "_law_top" P_L_top (m_L_top 6) := r_L_top T G_L_digest A 6
theorem f_L_depth (T : Tx K mg cA)  {f : Addr} {fd : FuncData} (Fn : Fun K "_law_depth" "_law_depth" s_L_depth f fd) : FnOk P w K mg base (L2.CX P w) 1 f fd P_L_depth (spM ⟨K, cA, 0, none⟩ (runD N_L_depth.length P_L_depth.length b_L_depth)) := by
  refine ok_def (b := b_L_depth) (N := N_L_depth) (ps := P_L_depth) (cA := cA) Fn sc_L_depth ?_
  intro cdv A outer s H E ok
  unfold b_L_depth
  unfold b_L_depth_1
  exact (sss_cons (ss_set 1 ok se_int)
      (sss_cons (ss_for ok rfl (si_range1 T.b_range (sa_cons se_int sa_nil)) (sg_name 2 ok) (sss_one (ss_if (st_c (c_lt ok) (SE.b (se_shl (SE.b se_int) (SE.b (se_var 1)))) (SE.b (se_var 0))) (sss_one (ss_set 1 ok (se_add (SE.b (se_var 1)) (SE.b se_int)))) sss_nil)))
      (sss_one (ss_ret (se_var 1)))))
theorem d_L_depth (T : Tx K mg cA)  (A : DefAt K mg "_law_depth" s_L_depth) : DefOk P w K mg base cA 1 "_law_depth" P_L_depth m_L_depth :=
  A.ok (fun f fd Fn => f_L_depth T  Fn) (fun _ _ _ _ _ _ us hl => match us, hl with | [_], _ => rfl)
theorem f_L_is_octets (T : Tx K mg cA)  {f : Addr} {fd : FuncData} (Fn : Fun K "_law_is_octets" "_law_is_octets" s_L_is_octets f fd) : FnOk P w K mg base (L2.CX P w) 1 f fd P_L_is_octets (spM ⟨K, cA, 0, none⟩ (runD N_L_is_octets.length P_L_is_octets.length b_L_is_octets)) := by
  refine ok_def (b := b_L_is_octets) (N := N_L_is_octets) (ps := P_L_is_octets) (cA := cA) Fn sc_L_is_octets ?_
  intro cdv A outer s H E ok
  unfold b_L_is_octets
  unfold b_L_is_octets_1
  exact (sss_cons (ss_if (st_not (st_tru (SE.b (se_isi .tuple T.b_isinstance T.b_tuple (SE.b (se_var 0)))))) (sss_one (ss_ret se_bl)) sss_nil)
      (sss_cons (ss_for ok rfl (si_seq (se_var 0)) (sg_name 1 ok) (sss_one (ss_if (SW.t (sw_or (st_not (st_tru (SE.b (se_isi .int T.b_isinstance T.b_int (SE.b (se_var 1)))))) (sw_or (st_tru (SE.b (se_isi .bool T.b_isinstance T.b_bool (SE.b (se_var 1))))) (sw_or (st_c (c_lt ok) (SE.b (se_var 1)) (SE.b se_int)) (sw_or1 (st_c (c_gt ok) (SE.b (se_var 1)) (SE.b se_int))))))) (sss_one (ss_ret se_bl)) sss_nil)))
      (sss_one (ss_ret se_bl))))
theorem d_L_is_octets (T : Tx K mg cA)  (A : DefAt K mg "_law_is_octets" s_L_is_octets) : DefOk P w K mg base cA 1 "_law_is_octets" P_L_is_octets m_L_is_octets :=
  A.ok (fun f fd Fn => f_L_is_octets T  Fn) (fun _ _ _ _ _ _ us hl => match us, hl with | [_], _ => rfl)
theorem f_L_is_proof (T : Tx K mg cA) (G_L_depth : DefOk P w K mg base cA 1 "_law_depth" P_L_depth m_L_depth) (G_L_is_octets : DefOk P w K mg base cA 1 "_law_is_octets" P_L_is_octets m_L_is_octets) {f : Addr} {fd : FuncData} (Fn : Fun K "_law_is_proof" "_law_is_proof" s_L_is_proof f fd) : FnOk P w K mg base (L2.CX P w) 2 f fd P_L_is_proof (spM ⟨K, cA, 0, none⟩ (runD N_L_is_proof.length P_L_is_proof.length b_L_is_proof)) := by
  refine ok_def (b := b_L_is_proof) (N := N_L_is_proof) (ps := P_L_is_proof) (cA := cA) Fn sc_L_is_proof ?_
  intro cdv A outer s H E ok
  unfold b_L_is_proof
  exact (sss_cons (ss_if (SW.t (sw_or (st_not (st_tru (SE.b (se_isi .tuple T.b_isinstance T.b_tuple (SE.b (se_var 2)))))) (sw_or1 (st_c (c_ne ok) (SE.b (se_len T.b_len (sab_cons (SE.b (se_var 2)) sab_nil))) (SE.b (se_fn ok G_L_depth (Nat.le_of_ble_eq_true rfl) (sa_cons (se_var 1) sa_nil))))))) (sss_one (ss_ret se_bl)) sss_nil)
      (sss_one (ss_ret (se_all rfl T.b_all (sab_cons (SN.b (sn_lc (own := [(("_law_item" : Str), 3)]) (is := [3]) ok rfl (SI.b (si_seq (se_var 2))) (fun _ => blkOk_by (by kernel_rfl)) (sg_name 3 (Fam.blk_ok ok _)) (by decide) sts_nil (sv_and (se_fn (Fam.blk_ok ok _) G_L_is_octets (Nat.le_of_ble_eq_true rfl) (sa_cons (se_var 3) sa_nil)) (sv_one (se_c (c_eq (Fam.blk_ok ok _)) (SE.b (se_len T.b_len (sab_cons (SE.b (se_var 3)) sab_nil))) (SE.b (se_ix (SE.b (se_var 0)) (SE.b se_int)))))))) sab_nil)))))
theorem d_L_is_proof (T : Tx K mg cA) (G_L_depth : DefOk P w K mg base cA 1 "_law_depth" P_L_depth m_L_depth) (G_L_is_octets : DefOk P w K mg base cA 1 "_law_is_octets" P_L_is_octets m_L_is_octets) (A : DefAt K mg "_law_is_proof" s_L_is_proof) : DefOk P w K mg base cA 2 "_law_is_proof" P_L_is_proof m_L_is_proof :=
  A.ok (fun f fd Fn => f_L_is_proof T G_L_depth G_L_is_octets Fn) (fun _ _ _ _ _ _ us hl => match us, hl with | [_, _, _], _ => rfl)
theorem f_L_path (T : Tx K mg cA) (G_L_digest : DefOk P w K mg base cA 1 "_law_digest" P_L_digest m_L_digest) {f : Addr} {fd : FuncData} (Fn : Fun K "_law_path" "_law_path" s_L_path f fd) : FnOk P w K mg base (L2.CX P w) 2 f fd P_L_path (spM ⟨K, cA, 0, none⟩ (runD N_L_path.length P_L_path.length b_L_path)) := by
  refine ok_def (b := b_L_path) (N := N_L_path) (ps := P_L_path) (cA := cA) Fn sc_L_path ?_
  intro cdv A outer s H E ok
  unfold b_L_path
  unfold b_L_path_1
  exact (sss_cons (ss_setN 5 ok (sn_lst (sa_cons (se_add (SE.b (se_tup (sa_cons se_int sa_nil))) (SE.b (se_var 3))) sa_nil)))
      (sss_cons (ss_for ok rfl (si_range1 T.b_range (sa_cons (se_len T.b_len (sab_cons (SE.b (se_var 4)) sab_nil)) sa_nil)) (sg_name 6 ok) (sss_cons (ss_set 7 ok (se_fn ok G_L_digest (Nat.le_of_ble_eq_true rfl) (sa_cons (se_var 0) (sa_cons (se_var 1) (sa_cons (se_ix (sb_var 5) (SE.b (se_var 6))) sa_nil)))))
      (sss_cons (ss_set 8 ok (se_if (st_c (c_eq ok) (SE.b (se_and (SE.b (se_shr (SE.b (se_var 2)) (SE.b (se_var 6)))) (SE.b se_int))) (SE.b se_int)) (se_ix (SE.b (se_var 4)) (SE.b (se_var 6))) (se_var 7)))
      (sss_cons (ss_set 9 ok (se_if (st_c (c_eq ok) (SE.b (se_and (SE.b (se_shr (SE.b (se_var 2)) (SE.b (se_var 6)))) (SE.b se_int))) (SE.b se_int)) (se_var 7) (se_ix (SE.b (se_var 4)) (SE.b (se_var 6)))))
      (sss_one (ss_app 5 (se_add (SE.b (se_add (SE.b (se_tup (sa_cons se_int sa_nil))) (SE.b (se_var 8)))) (SE.b (se_var 9)))))))))
      (sss_one (ss_retOwn 5))))
theorem d_L_path (T : Tx K mg cA) (G_L_digest : DefOk P w K mg base cA 1 "_law_digest" P_L_digest m_L_digest) (A : DefAt K mg "_law_path" s_L_path) : DefOk P w K mg base cA 2 "_law_path" P_L_path m_L_path :=
  A.ok (fun f fd Fn => f_L_path T G_L_digest Fn) (fun _ _ _ _ _ _ us hl => match us, hl with | [_, _, _, _, _], _ => rfl)
theorem f_L_fold (T : Tx K mg cA) (G_L_path : DefOk P w K mg base cA 2 "_law_path" P_L_path m_L_path) (G_L_digest : DefOk P w K mg base cA 1 "_law_digest" P_L_digest m_L_digest) {f : Addr} {fd : FuncData} (Fn : Fun K "_law_fold" "_law_fold" s_L_fold f fd) : FnOk P w K mg base (L2.CX P w) 3 f fd P_L_fold (spM ⟨K, cA, 0, none⟩ (runD N_L_fold.length P_L_fold.length b_L_fold)) := by
  refine ok_def (b := b_L_fold) (N := N_L_fold) (ps := P_L_fold) (cA := cA) Fn sc_L_fold ?_
  intro cdv A outer s H E ok
  unfold b_L_fold
  exact (sss_cons (ss_set 5 ok (se_fn ok G_L_path (Nat.le_of_ble_eq_true rfl) (sa_cons (se_var 0) (sa_cons (se_var 1) (sa_cons (se_var 2) (sa_cons (se_var 3) (sa_cons (se_var 4) sa_nil)))))))
      (sss_one (ss_ret (se_fn ok G_L_digest (Nat.le_of_ble_eq_true rfl) (sa_cons (se_var 0) (sa_cons (se_var 1) (sa_cons (se_ix (SE.b (se_var 5)) (SE.b (se_sub (SE.b (se_len T.b_len (sab_cons (SE.b (se_var 5)) sab_nil))) (SE.b se_int)))) sa_nil)))))))
theorem d_L_fold (T : Tx K mg cA) (G_L_path : DefOk P w K mg base cA 2 "_law_path" P_L_path m_L_path) (G_L_digest : DefOk P w K mg base cA 1 "_law_digest" P_L_digest m_L_digest) (A : DefAt K mg "_law_fold" s_L_fold) : DefOk P w K mg base cA 3 "_law_fold" P_L_fold m_L_fold :=
  A.ok (fun f fd Fn => f_L_fold T G_L_path G_L_digest Fn) (fun _ _ _ _ _ _ us hl => match us, hl with | [_, _, _, _, _], _ => rfl)
theorem f_L_fits (T : Tx K mg cA) (G_L_is_octets : DefOk P w K mg base cA 1 "_law_is_octets" P_L_is_octets m_L_is_octets) (G_L_is_proof : DefOk P w K mg base cA 2 "_law_is_proof" P_L_is_proof m_L_is_proof) (G_L_fold : DefOk P w K mg base cA 3 "_law_fold" P_L_fold m_L_fold) {f : Addr} {fd : FuncData} (Fn : Fun K "_law_fits" "_law_fits" s_L_fits f fd) : FnOk P w K mg base (L2.CX P w) 4 f fd P_L_fits (spM ⟨K, cA, 0, none⟩ (runD N_L_fits.length P_L_fits.length b_L_fits)) := by
  refine ok_def (b := b_L_fits) (N := N_L_fits) (ps := P_L_fits) (cA := cA) Fn sc_L_fits ?_
  intro cdv A outer s H E ok
  unfold b_L_fits
  exact (sss_cons (ss_if (SW.t (sw_or (st_not (st_tru (SE.b (se_isi .int T.b_isinstance T.b_int (SE.b (se_var 4)))))) (sw_or (st_tru (SE.b (se_isi .bool T.b_isinstance T.b_bool (SE.b (se_var 4))))) (sw_or (st_c (c_lt ok) (SE.b (se_var 4)) (SE.b se_int)) (sw_or1 (st_c (c_ge ok) (SE.b (se_var 4)) (SE.b (se_var 3)))))))) (sss_one (ss_ret se_bl)) sss_nil)
      (sss_cons (ss_if (SW.t (sw_or (st_not (st_tru (SE.b (se_fn ok G_L_is_octets (Nat.le_of_ble_eq_true rfl) (sa_cons (se_var 5) sa_nil))))) (sw_or1 (st_not (st_tru (SE.b (se_fn ok G_L_is_proof (Nat.le_of_ble_eq_true rfl) (sa_cons (se_var 0) (sa_cons (se_var 3) (sa_cons (se_var 6) sa_nil)))))))))) (sss_one (ss_ret se_bl)) sss_nil)
      (sss_one (ss_ret (se_c (c_eq ok) (SE.b (se_fn ok G_L_fold (Nat.le_of_ble_eq_true rfl) (sa_cons (se_var 0) (sa_cons (se_var 1) (sa_cons (se_var 4) (sa_cons (se_var 5) (sa_cons (se_var 6) sa_nil))))))) (SE.b (se_var 2)))))))
theorem d_L_fits (T : Tx K mg cA) (G_L_is_octets : DefOk P w K mg base cA 1 "_law_is_octets" P_L_is_octets m_L_is_octets) (G_L_is_proof : DefOk P w K mg base cA 2 "_law_is_proof" P_L_is_proof m_L_is_proof) (G_L_fold : DefOk P w K mg base cA 3 "_law_fold" P_L_fold m_L_fold) (A : DefAt K mg "_law_fits" s_L_fits) : DefOk P w K mg base cA 4 "_law_fits" P_L_fits m_L_fits :=
  A.ok (fun f fd Fn => f_L_fits T G_L_is_octets G_L_is_proof G_L_fold Fn) (fun _ _ _ _ _ _ us hl => match us, hl with | [_, _, _, _, _, _, _], _ => rfl)
theorem f_L_proof (T : Tx K mg cA) (G_L_depth : DefOk P w K mg base cA 1 "_law_depth" P_L_depth m_L_depth) (G_L_top : DefOk P w K mg base cA 7 "_law_top" P_L_top (m_L_top 6)) {f : Addr} {fd : FuncData} (Fn : Fun K "_law_proof" "_law_proof" s_L_proof f fd) : FnOk P w K mg base (L2.CX P w) 8 f fd P_L_proof (spM ⟨K, cA, 0, none⟩ (runD N_L_proof.length P_L_proof.length b_L_proof)) := by
  refine ok_def (b := b_L_proof) (N := N_L_proof) (ps := P_L_proof) (cA := cA) Fn sc_L_proof ?_
  intro cdv A outer s H E ok
  unfold b_L_proof
  unfold b_L_proof_1
  exact (sss_cons (ss_set 4 ok (se_fn ok G_L_depth (Nat.le_of_ble_eq_true rfl) (sa_cons (se_len T.b_len (sab_cons (SE.b (se_var 2)) sab_nil)) sa_nil)))
      (sss_cons (ss_set 5 ok (se_tup sa_nil))
      (sss_cons (ss_for ok rfl (si_range1 T.b_range (sa_cons (se_var 4) sa_nil)) (sg_name 6 ok) (sss_cons (ss_set 7 ok (se_xor (SE.b (se_shr (SE.b (se_var 3)) (SE.b (se_var 6)))) (SE.b se_int)))
      (sss_one (ss_set 5 ok (se_add (SE.b (se_var 5)) (SE.b (se_tup (sa_cons (se_fn ok G_L_top (Nat.le_of_ble_eq_true rfl) (sa_cons (se_var 0) (sa_cons (se_var 1) (sa_cons (se_var 2) (sa_cons (se_shl (SE.b (se_var 7)) (SE.b (se_var 6))) (sa_cons (se_var 6) sa_nil)))))) sa_nil))))))))
      (sss_one (ss_ret (se_var 5))))))
theorem d_L_proof (T : Tx K mg cA) (G_L_depth : DefOk P w K mg base cA 1 "_law_depth" P_L_depth m_L_depth) (G_L_top : DefOk P w K mg base cA 7 "_law_top" P_L_top (m_L_top 6)) (A : DefAt K mg "_law_proof" s_L_proof) : DefOk P w K mg base cA 8 "_law_proof" P_L_proof m_L_proof :=
  A.ok (fun f fd Fn => f_L_proof T G_L_depth G_L_top Fn) (fun _ _ _ _ _ _ us hl => match us, hl with | [_, _, _, _], _ => rfl)
theorem f_L_due (T : Tx K mg cA) (G_L_top : DefOk P w K mg base cA 7 "_law_top" P_L_top (m_L_top 6)) (G_L_depth : DefOk P w K mg base cA 1 "_law_depth" P_L_depth m_L_depth) (G_L_fits : DefOk P w K mg base cA 4 "_law_fits" P_L_fits m_L_fits) (G_L_path : DefOk P w K mg base cA 2 "_law_path" P_L_path m_L_path) (G_L_proof : DefOk P w K mg base cA 8 "_law_proof" P_L_proof m_L_proof) (G_L_digest : DefOk P w K mg base cA 1 "_law_digest" P_L_digest m_L_digest) {f : Addr} {fd : FuncData} (Fn : Fun K "_law_due" "_law_due" s_L_due f fd) : FnOk P w K mg base (L2.CX P w) 9 f fd P_L_due (spM ⟨K, cA, 0, none⟩ (runD N_L_due.length P_L_due.length b_L_due)) := by
  refine ok_def (b := b_L_due) (N := N_L_due) (ps := P_L_due) (cA := cA) Fn sc_L_due ?_
  intro cdv A outer s H E ok
  unfold b_L_due
  unfold b_L_due_1
  exact (sss_cons (ss_set 5 ok (se_fn ok G_L_top (Nat.le_of_ble_eq_true rfl) (sa_cons (se_var 0) (sa_cons se_non (sa_cons (se_var 1) (sa_cons se_int (sa_cons (se_fn ok G_L_depth (Nat.le_of_ble_eq_true rfl) (sa_cons (se_len T.b_len (sab_cons (SE.b (se_var 1)) sab_nil)) sa_nil)) sa_nil)))))))
      (sss_cons (ss_if (st_not (st_tru (SE.b (se_fn ok G_L_fits (Nat.le_of_ble_eq_true rfl) (sa_cons (se_var 0) (sa_cons se_non (sa_cons (se_var 5) (sa_cons (se_len T.b_len (sab_cons (SE.b (se_var 1)) sab_nil)) (sa_cons (se_var 2) (sa_cons (se_var 3) (sa_cons (se_var 4) sa_nil))))))))))) (sss_one (ss_ret se_str)) sss_nil)
      (sss_cons (ss_set 6 ok (se_fn ok G_L_path (Nat.le_of_ble_eq_true rfl) (sa_cons (se_var 0) (sa_cons se_non (sa_cons (se_var 2) (sa_cons (se_ix (SE.b (se_var 1)) (SE.b (se_var 2))) (sa_cons (se_fn ok G_L_proof (Nat.le_of_ble_eq_true rfl) (sa_cons (se_var 0) (sa_cons se_non (sa_cons (se_var 1) (sa_cons (se_var 2) sa_nil))))) sa_nil)))))))
      (sss_cons (ss_set 7 ok (se_fn ok G_L_path (Nat.le_of_ble_eq_true rfl) (sa_cons (se_var 0) (sa_cons se_non (sa_cons (se_var 2) (sa_cons (se_var 3) (sa_cons (se_var 4) sa_nil)))))))
      (sss_cons (ss_for ok rfl (si_range1 T.b_range (sa_cons (se_len T.b_len (sab_cons (SE.b (se_var 6)) sab_nil)) sa_nil)) (sg_name 8 ok) (sss_one (ss_if (SW.t (sw_and (st_c (c_ne ok) (SE.b (se_ix (SE.b (se_var 6)) (SE.b (se_var 8)))) (SE.b (se_ix (SE.b (se_var 7)) (SE.b (se_var 8))))) (sw_and1 (st_c (c_eq ok) (SE.b (se_fn ok G_L_digest (Nat.le_of_ble_eq_true rfl) (sa_cons (se_var 0) (sa_cons se_non (sa_cons (se_ix (SE.b (se_var 6)) (SE.b (se_var 8))) sa_nil))))) (SE.b (se_fn ok G_L_digest (Nat.le_of_ble_eq_true rfl) (sa_cons (se_var 0) (sa_cons se_non (sa_cons (se_ix (SE.b (se_var 7)) (SE.b (se_var 8))) sa_nil))))))))) (sss_one (ss_ret (se_tup (sa_cons (se_ix (SE.b (se_var 6)) (SE.b (se_var 8))) (sa_cons (se_ix (SE.b (se_var 7)) (SE.b (se_var 8))) sa_nil))))) sss_nil)))
      (sss_one (ss_ret se_non)))))))
theorem d_L_due (T : Tx K mg cA) (G_L_top : DefOk P w K mg base cA 7 "_law_top" P_L_top (m_L_top 6)) (G_L_depth : DefOk P w K mg base cA 1 "_law_depth" P_L_depth m_L_depth) (G_L_fits : DefOk P w K mg base cA 4 "_law_fits" P_L_fits m_L_fits) (G_L_path : DefOk P w K mg base cA 2 "_law_path" P_L_path m_L_path) (G_L_proof : DefOk P w K mg base cA 8 "_law_proof" P_L_proof m_L_proof) (G_L_digest : DefOk P w K mg base cA 1 "_law_digest" P_L_digest m_L_digest) (A : DefAt K mg "_law_due" s_L_due) : DefOk P w K mg base cA 9 "_law_due" P_L_due m_L_due :=
  A.ok (fun f fd Fn => f_L_due T G_L_top G_L_depth G_L_fits G_L_path G_L_proof G_L_digest Fn) (fun _ _ _ _ _ _ us hl => match us, hl with | [_, _, _, _, _], _ => rfl)
theorem f_L_same (T : Tx K mg cA)  {r_L_same : MF} {n_L_same : Nat} (G_L_same : DefOk P w K mg base cA (0 + n_L_same) "_law_same" P_L_same r_L_same)  {f : Addr} {fd : FuncData} (Fn : Fun K "_law_same" "_law_same" s_L_same f fd) : FnOk P w K mg base (L2.CX P w) (0 + n_L_same + 1) f fd P_L_same (spM ⟨K, cA, 0, none⟩ (runD N_L_same.length P_L_same.length (b_L_same r_L_same))) := by
  refine ok_def (b := b_L_same r_L_same) (N := N_L_same) (ps := P_L_same) (cA := cA) Fn sc_L_same ?_
  intro cdv A outer s H E ok
  unfold b_L_same
  exact (sss_cons (ss_if (st_tru (SE.b (se_isi .tuple T.b_isinstance T.b_tuple (SE.b (se_var 1))))) (sss_cons (ss_if (SW.t (sw_or (st_not (st_tru (SE.b (se_isi .tuple T.b_isinstance T.b_tuple (SE.b (se_var 0)))))) (sw_or1 (st_c (c_ne ok) (SE.b (se_len T.b_len (sab_cons (SE.b (se_var 0)) sab_nil))) (SE.b (se_len T.b_len (sab_cons (SE.b (se_var 1)) sab_nil))))))) (sss_one (ss_ret se_bl)) sss_nil)
      (sss_one (ss_ret (se_all rfl T.b_all (sab_cons (SN.b (sn_lc (own := [(("_law_k" : Str), 2)]) (is := [2]) ok rfl (SI.b (si_range1 T.b_range (sa_cons (se_len T.b_len (sab_cons (SE.b (se_var 1)) sab_nil)) sa_nil))) (fun _ => blkOk_by (by kernel_rfl)) (sg_name 2 (Fam.blk_ok ok _)) (by decide) sts_nil (se_fn (Fam.blk_ok ok _) G_L_same (by first | exact Nat.le_refl _ | (show _ ≤ 0 + n_L_same; omega)) (sa_cons (se_ix (SE.b (se_var 0)) (SE.b (se_var 2))) (sa_cons (se_ix (SE.b (se_var 1)) (SE.b (se_var 2))) sa_nil))))) sab_nil))))) sss_nil)
      (sss_cons (ss_if (st_tru (SE.b (se_isi .list T.b_isinstance T.b_list (SE.b (se_var 1))))) (sss_cons (ss_if (SW.t (sw_or (st_not (st_tru (SE.b (se_isi .list T.b_isinstance T.b_list (SE.b (se_var 0)))))) (sw_or1 (st_c (c_ne ok) (SE.b (se_len T.b_len (sab_cons (SE.b (se_var 0)) sab_nil))) (SE.b (se_len T.b_len (sab_cons (SE.b (se_var 1)) sab_nil))))))) (sss_one (ss_ret se_bl)) sss_nil)
      (sss_one (ss_ret (se_all rfl T.b_all (sab_cons (SN.b (sn_lc (own := [(("_law_k" : Str), 2)]) (is := [2]) ok rfl (SI.b (si_range1 T.b_range (sa_cons (se_len T.b_len (sab_cons (SE.b (se_var 1)) sab_nil)) sa_nil))) (fun _ => blkOk_by (by kernel_rfl)) (sg_name 2 (Fam.blk_ok ok _)) (by decide) sts_nil (se_fn (Fam.blk_ok ok _) G_L_same (by first | exact Nat.le_refl _ | (show _ ≤ 0 + n_L_same; omega)) (sa_cons (se_ix (SE.b (se_var 0)) (SE.b (se_var 2))) (sa_cons (se_ix (SE.b (se_var 1)) (SE.b (se_var 2))) sa_nil))))) sab_nil))))) sss_nil)
      (sss_cons (ss_if (st_c c_is (SE.b (se_var 1)) (SE.b se_non)) (sss_one (ss_ret (se_c c_is (SE.b (se_var 0)) (SE.b se_non)))) sss_nil)
      (sss_cons (ss_if (st_tru (SE.b (se_isi .str T.b_isinstance T.b_str (SE.b (se_var 1))))) (sss_one (ss_ret (sv_and (se_isi .str T.b_isinstance T.b_str (SE.b (se_var 0))) (sv_one (se_c (c_eq ok) (SE.b (se_var 0)) (SE.b (se_var 1))))))) sss_nil)
      (sss_cons (ss_if (st_tru (SE.b (se_isi .bool T.b_isinstance T.b_bool (SE.b (se_var 1))))) (sss_one (ss_ret (sv_and (se_isi .bool T.b_isinstance T.b_bool (SE.b (se_var 0))) (sv_one (se_c (c_eq ok) (SE.b (se_var 0)) (SE.b (se_var 1))))))) sss_nil)
      (sss_one (ss_ret (sv_and (se_isi .int T.b_isinstance T.b_int (SE.b (se_var 0))) (sv_and (sv_not (se_isi .bool T.b_isinstance T.b_bool (SE.b (se_var 0)))) (sv_one (se_c (c_eq ok) (SE.b (se_var 0)) (SE.b (se_var 1)))))))))))))
theorem r_L_same (T : Tx K mg cA)  (A : DefAt K mg "_law_same" s_L_same) : ∀ n : Nat, DefOk P w K mg base cA (0 + n) "_law_same" P_L_same (m_L_same n)
  | 0 => DefOk.zero A (fun _ _ _ _ _ _ us hl => match us, hl with | [_, _], _ => rfl)
  | n + 1 => A.ok (fun f fd Fn => f_L_same T  (r_L_same T  A n) Fn) (fun _ _ _ _ _ _ us hl => match us, hl with | [_, _], _ => rfl)
theorem d_L_same (T : Tx K mg cA)  (A : DefAt K mg "_law_same" s_L_same) : DefOk P w K mg base cA 4 "_law_same" P_L_same (m_L_same 4) := r_L_same T  A 4
theorem f_is_octet (T : Tx K mg cA) (G_is_integer : DefOk P w K mg base cA 1 "is_integer" P_is_integer m_is_integer) {f : Addr} {fd : FuncData} (Fn : Fun K "is_octet" "is_octet" s_is_octet f fd) : FnOk P w K mg base (L2.CX P w) 2 f fd P_is_octet (spM ⟨K, cA, 0, none⟩ (runD N_is_octet.length P_is_octet.length b_is_octet)) := by
  refine ok_def (b := b_is_octet) (N := N_is_octet) (ps := P_is_octet) (cA := cA) Fn sc_is_octet ?_
  intro cdv A outer s H E ok
  unfold b_is_octet
  exact (sss_one (ss_ret (sv_and (se_fn ok G_is_integer (Nat.le_of_ble_eq_true rfl) (sa_cons (se_var 0) sa_nil)) (sv_and (se_c (c_le ok) (SE.b se_int) (SE.b (se_var 0))) (sv_one (se_c (c_le ok) (SE.b (se_var 0)) (SE.b se_int)))))))
theorem d_is_octet (T : Tx K mg cA) (G_is_integer : DefOk P w K mg base cA 1 "is_integer" P_is_integer m_is_integer) (A : DefAt K mg "is_octet" s_is_octet) : DefOk P w K mg base cA 2 "is_octet" P_is_octet m_is_octet :=
  A.ok (fun f fd Fn => f_is_octet T G_is_integer Fn) (fun _ _ _ _ _ _ us hl => match us, hl with | [_], _ => rfl)
theorem f_is_octets (T : Tx K mg cA) (G_is_octet : DefOk P w K mg base cA 2 "is_octet" P_is_octet m_is_octet) {f : Addr} {fd : FuncData} (Fn : Fun K "is_octets" "is_octets" s_is_octets f fd) : FnOk P w K mg base (L2.CX P w) 3 f fd P_is_octets (spM ⟨K, cA, 0, none⟩ (runD N_is_octets.length P_is_octets.length b_is_octets)) := by
  refine ok_def (b := b_is_octets) (N := N_is_octets) (ps := P_is_octets) (cA := cA) Fn sc_is_octets ?_
  intro cdv A outer s H E ok
  unfold b_is_octets
  exact (sss_cons (ss_if (SW.t (sw_or (st_not (st_tru (SE.b (se_isi .tuple T.b_isinstance T.b_tuple (SE.b (se_var 0)))))) (sw_or1 (SW.t (sw_and (st_c c_isNot (SE.b (se_var 1)) (SE.b se_non)) (sw_and1 (st_c (c_ne ok) (SE.b (se_len T.b_len (sab_cons (SE.b (se_var 0)) sab_nil))) (SE.b (se_var 1))))))))) (sss_one (ss_ret se_bl)) sss_nil)
      (sss_one (ss_ret (se_all rfl T.b_all (sab_cons (SN.b (sn_lc (own := [(("item" : Str), 2)]) (is := [2]) ok rfl (SI.b (si_seq (se_var 0))) (fun _ => blkOk_by (by kernel_rfl)) (sg_name 2 (Fam.blk_ok ok _)) (by decide) sts_nil (se_fn (Fam.blk_ok ok _) G_is_octet (Nat.le_of_ble_eq_true rfl) (sa_cons (se_var 2) sa_nil)))) sab_nil)))))
theorem dd_is_octets (T : Tx K mg cA) (G_is_octet : DefOk P w K mg base cA 2 "is_octet" P_is_octet m_is_octet) (A : DefAtD K mg "is_octets" s_is_octets [("size", .non)]) : DefOkD P w K mg base cA 3 "is_octets" P_is_octets m_is_octets [.non] :=
  A.ok 1 (fun f fd Fn => f_is_octets T G_is_octet Fn) (by simp) rfl (fun _ _ => .cons (.non) (.nil)) (fun _ _ _ _ _ _ us ks hl hk => match us, hl, ks, hk with | [_], _, [_], _ => ⟨_, _, _, _, _, _, rfl, rfl, rfl⟩)
theorem dk_is_octets (T : Tx K mg cA) (G_is_octet : DefOk P w K mg base cA 2 "is_octet" P_is_octet m_is_octet) (A : DefAt K mg "is_octets" s_is_octets) : DefKB P w K mg base cA 3 "is_octets" P_is_octets m_is_octets 1 ["size"] :=
  A.kb (fun f fd Fn => f_is_octets T G_is_octet Fn) fun _ _ _ _ _ _ us ws hl hw => match us, hl, ws, hw with | [_], _, [_], _ => rfl
theorem f_Hasher_is_digest (T : Tx K mg cA) (GK_is_octets : DefKB P w K mg base cA 3 "is_octets" P_is_octets m_is_octets 1 ["size"]) {f : Addr} {fd : FuncData} (Fn : Fun K "is_digest" "Hasher.is_digest" s_Hasher_is_digest f fd) : FnOk P w K mg base (L2.CX P w) 4 f fd P_Hasher_is_digest (spM ⟨K, cA, 0, none⟩ (runD N_Hasher_is_digest.length P_Hasher_is_digest.length b_Hasher_is_digest)) := by
  refine ok_def (b := b_Hasher_is_digest) (N := N_Hasher_is_digest) (ps := P_Hasher_is_digest) (cA := cA) Fn sc_Hasher_is_digest ?_
  intro cdv A outer s H E ok
  unfold b_Hasher_is_digest
  exact (sss_one (ss_ret (se_fnK (n := 1) (ks := ["size"]) ok GK_is_octets (Nat.le_of_ble_eq_true rfl) (sa_cons (se_var 1) sa_nil) (sk_cons (se_fld (cs := ["Hasher"]) (se_var 0) (cl_cons 1 T.C_Hasher cl_nil)) sk_nil))))
theorem dm_Hasher_is_digest (T : Tx K mg cA) (GK_is_octets : DefKB P w K mg base cA 3 "is_octets" P_is_octets m_is_octets 1 ["size"]) (A : MethAt K mg "Hasher" "is_digest" "Hasher.is_digest" s_Hasher_is_digest) : MethOk P w K mg base cA 4 "Hasher" "is_digest" P_Hasher_is_digest m_Hasher_is_digest :=
  A.ok T.C_Hasher (fun f fd Fn => f_Hasher_is_digest T GK_is_octets Fn) (fun _ _ _ _ _ _ us hl => match us, hl with | [_, _], _ => rfl)
theorem f_is_proof (T : Tx K mg cA) (G_depth : DefOk P w K mg base cA 1 "depth" P_depth m_depth) (GM_Hasher_is_digest : MethOk P w K mg base cA 4 "Hasher" "is_digest" P_Hasher_is_digest m_Hasher_is_digest) {f : Addr} {fd : FuncData} (Fn : Fun K "is_proof" "is_proof" s_is_proof f fd) : FnOk P w K mg base (L2.CX P w) 5 f fd P_is_proof (spM ⟨K, cA, 0, none⟩ (runD N_is_proof.length P_is_proof.length b_is_proof)) := by
  refine ok_def (b := b_is_proof) (N := N_is_proof) (ps := P_is_proof) (cA := cA) Fn sc_is_proof ?_
  intro cdv A outer s H E ok
  unfold b_is_proof
  exact (sss_cons (ss_if (SW.t (sw_or (st_not (st_tru (SE.b (se_isi .tuple T.b_isinstance T.b_tuple (SE.b (se_var 2)))))) (sw_or1 (st_c (c_ne ok) (SE.b (se_len T.b_len (sab_cons (SE.b (se_var 2)) sab_nil))) (SE.b (se_fn ok G_depth (Nat.le_of_ble_eq_true rfl) (sa_cons (se_var 1) sa_nil))))))) (sss_one (ss_ret se_bl)) sss_nil)
      (sss_one (ss_ret (se_all rfl T.b_all (sab_cons (SN.b (sn_lc (own := [(("item" : Str), 3)]) (is := [3]) ok rfl (SI.b (si_seq (se_var 2))) (fun _ => blkOk_by (by kernel_rfl)) (sg_name 3 (Fam.blk_ok ok _)) (by decide) sts_nil (se_meth (Fam.blk_ok ok _) (se_var 0) GM_Hasher_is_digest (Nat.le_of_ble_eq_true rfl) (sa_cons (se_var 3) sa_nil)))) sab_nil)))))
theorem d_is_proof (T : Tx K mg cA) (G_depth : DefOk P w K mg base cA 1 "depth" P_depth m_depth) (GM_Hasher_is_digest : MethOk P w K mg base cA 4 "Hasher" "is_digest" P_Hasher_is_digest m_Hasher_is_digest) (A : DefAt K mg "is_proof" s_is_proof) : DefOk P w K mg base cA 5 "is_proof" P_is_proof m_is_proof :=
  A.ok (fun f fd Fn => f_is_proof T G_depth GM_Hasher_is_digest Fn) (fun _ _ _ _ _ _ us hl => match us, hl with | [_, _, _], _ => rfl)
theorem f_path (T : Tx K mg cA) (G_leaf_text : DefOk P w K mg base cA 1 "leaf_text" P_leaf_text m_leaf_text) (GM_Hasher_digest : MethOk P w K mg base cA 4 "Hasher" "digest" P_Hasher_digest m_Hasher_digest) (G_node_text : DefOk P w K mg base cA 1 "node_text" P_node_text m_node_text) {f : Addr} {fd : FuncData} (Fn : Fun K "path" "path" s_path f fd) : FnOk P w K mg base (L2.CX P w) 5 f fd P_path (spM ⟨K, cA, 0, none⟩ (runD N_path.length P_path.length b_path)) := by
  refine ok_def (b := b_path) (N := N_path) (ps := P_path) (cA := cA) Fn sc_path ?_
  intro cdv A outer s H E ok
  unfold b_path
  unfold b_path_1
  exact (sss_cons (ss_setN 4 ok (sn_lst (sa_cons (se_fn ok G_leaf_text (Nat.le_of_ble_eq_true rfl) (sa_cons (se_var 2) sa_nil)) sa_nil)))
      (sss_cons (ss_for ok rfl (si_enum T.b_enumerate (sa_cons (se_var 3) sa_nil)) (sg_tupA rfl (sgs_cons (sg_name 5 ok) (sgs_cons (sg_name 6 ok) sgs_nil))) (sss_cons (ss_set 7 ok (se_meth ok (se_var 0) GM_Hasher_digest (Nat.le_of_ble_eq_true rfl) (sa_cons (se_ix (sb_var 4) (SE.b (se_neg (SE.b se_int)))) sa_nil)))
      (sss_one (ss_app 4 (se_if (st_c (c_eq ok) (SE.b (se_and (SE.b (se_shr (SE.b (se_var 1)) (SE.b (se_var 5)))) (SE.b se_int))) (SE.b se_int)) (se_fn ok G_node_text (Nat.le_of_ble_eq_true rfl) (sa_cons (se_var 6) (sa_cons (se_var 7) sa_nil))) (se_fn ok G_node_text (Nat.le_of_ble_eq_true rfl) (sa_cons (se_var 7) (sa_cons (se_var 6) sa_nil))))))))
      (sss_one (ss_retOwn 4))))
theorem d_path (T : Tx K mg cA) (G_leaf_text : DefOk P w K mg base cA 1 "leaf_text" P_leaf_text m_leaf_text) (GM_Hasher_digest : MethOk P w K mg base cA 4 "Hasher" "digest" P_Hasher_digest m_Hasher_digest) (G_node_text : DefOk P w K mg base cA 1 "node_text" P_node_text m_node_text) (A : DefAt K mg "path" s_path) : DefOk P w K mg base cA 5 "path" P_path m_path :=
  A.ok (fun f fd Fn => f_path T G_leaf_text GM_Hasher_digest G_node_text Fn) (fun _ _ _ _ _ _ us hl => match us, hl with | [_, _, _, _], _ => rfl)
theorem f_fold (T : Tx K mg cA) (GM_Hasher_digest : MethOk P w K mg base cA 4 "Hasher" "digest" P_Hasher_digest m_Hasher_digest) (G_path : DefOk P w K mg base cA 5 "path" P_path m_path) {f : Addr} {fd : FuncData} (Fn : Fun K "fold" "fold" s_fold f fd) : FnOk P w K mg base (L2.CX P w) 6 f fd P_fold (spM ⟨K, cA, 0, none⟩ (runD N_fold.length P_fold.length b_fold)) := by
  refine ok_def (b := b_fold) (N := N_fold) (ps := P_fold) (cA := cA) Fn sc_fold ?_
  intro cdv A outer s H E ok
  unfold b_fold
  exact (sss_one (ss_ret (se_meth ok (se_var 0) GM_Hasher_digest (Nat.le_of_ble_eq_true rfl) (sa_cons (se_ix (SE.b (se_fn ok G_path (Nat.le_of_ble_eq_true rfl) (sa_cons (se_var 0) (sa_cons (se_var 1) (sa_cons (se_var 2) (sa_cons (se_var 3) sa_nil)))))) (SE.b (se_neg (SE.b se_int)))) sa_nil))))
theorem d_fold (T : Tx K mg cA) (GM_Hasher_digest : MethOk P w K mg base cA 4 "Hasher" "digest" P_Hasher_digest m_Hasher_digest) (G_path : DefOk P w K mg base cA 5 "path" P_path m_path) (A : DefAt K mg "fold" s_fold) : DefOk P w K mg base cA 6 "fold" P_fold m_fold :=
  A.ok (fun f fd Fn => f_fold T GM_Hasher_digest G_path Fn) (fun _ _ _ _ _ _ us hl => match us, hl with | [_, _, _, _], _ => rfl)
theorem f_fits (T : Tx K mg cA) (G_is_integer : DefOk P w K mg base cA 1 "is_integer" P_is_integer m_is_integer) (GD_is_octets : DefOkD P w K mg base cA 3 "is_octets" P_is_octets m_is_octets [.non]) (G_is_proof : DefOk P w K mg base cA 5 "is_proof" P_is_proof m_is_proof) (G_fold : DefOk P w K mg base cA 6 "fold" P_fold m_fold) {f : Addr} {fd : FuncData} (Fn : Fun K "fits" "fits" s_fits f fd) : FnOk P w K mg base (L2.CX P w) 7 f fd P_fits (spM ⟨K, cA, 0, none⟩ (runD N_fits.length P_fits.length b_fits)) := by
  refine ok_def (b := b_fits) (N := N_fits) (ps := P_fits) (cA := cA) Fn sc_fits ?_
  intro cdv A outer s H E ok
  unfold b_fits
  exact (sss_cons (ss_if (SW.t (sw_or (st_not (st_tru (SE.b (se_fn ok G_is_integer (Nat.le_of_ble_eq_true rfl) (sa_cons (se_var 3) sa_nil))))) (sw_or (st_c (c_lt ok) (SE.b (se_var 3)) (SE.b se_int)) (sw_or1 (st_c (c_ge ok) (SE.b (se_var 3)) (SE.b (se_var 2))))))) (sss_one (ss_ret se_bl)) sss_nil)
      (sss_cons (ss_if (SW.t (sw_or (st_not (st_tru (SE.b (se_fnD ok GD_is_octets (Nat.le_of_ble_eq_true rfl) (sa_cons (se_var 4) sa_nil))))) (sw_or1 (st_not (st_tru (SE.b (se_fn ok G_is_proof (Nat.le_of_ble_eq_true rfl) (sa_cons (se_var 0) (sa_cons (se_var 2) (sa_cons (se_var 5) sa_nil)))))))))) (sss_one (ss_ret se_bl)) sss_nil)
      (sss_one (ss_ret (se_c (c_eq ok) (SE.b (se_fn ok G_fold (Nat.le_of_ble_eq_true rfl) (sa_cons (se_var 0) (sa_cons (se_var 3) (sa_cons (se_var 4) (sa_cons (se_var 5) sa_nil)))))) (SE.b (se_var 1)))))))
theorem d_fits (T : Tx K mg cA) (G_is_integer : DefOk P w K mg base cA 1 "is_integer" P_is_integer m_is_integer) (GD_is_octets : DefOkD P w K mg base cA 3 "is_octets" P_is_octets m_is_octets [.non]) (G_is_proof : DefOk P w K mg base cA 5 "is_proof" P_is_proof m_is_proof) (G_fold : DefOk P w K mg base cA 6 "fold" P_fold m_fold) (A : DefAt K mg "fits" s_fits) : DefOk P w K mg base cA 7 "fits" P_fits m_fits :=
  A.ok (fun f fd Fn => f_fits T G_is_integer GD_is_octets G_is_proof G_fold Fn) (fun _ _ _ _ _ _ us hl => match us, hl with | [_, _, _, _, _, _], _ => rfl)
theorem f_root (T : Tx K mg cA) (G_levels : DefOk P w K mg base cA 5 "levels" P_levels m_levels) {f : Addr} {fd : FuncData} (Fn : Fun K "root" "root" s_root f fd) : FnOk P w K mg base (L2.CX P w) 6 f fd P_root (spM ⟨K, cA, 0, none⟩ (runD N_root.length P_root.length b_root)) := by
  refine ok_def (b := b_root) (N := N_root) (ps := P_root) (cA := cA) Fn sc_root ?_
  intro cdv A outer s H E ok
  unfold b_root
  exact (sss_one (ss_ret (se_ix (SE.b (se_ix (SE.b (se_fn ok G_levels (Nat.le_of_ble_eq_true rfl) (sa_cons (se_var 0) (sa_cons (se_var 1) sa_nil)))) (SE.b (se_neg (SE.b se_int))))) (SE.b se_int))))
theorem d_root (T : Tx K mg cA) (G_levels : DefOk P w K mg base cA 5 "levels" P_levels m_levels) (A : DefAt K mg "root" s_root) : DefOk P w K mg base cA 6 "root" P_root m_root :=
  A.ok (fun f fd Fn => f_root T G_levels Fn) (fun _ _ _ _ _ _ us hl => match us, hl with | [_, _], _ => rfl)
theorem f_parted (T : Tx K mg cA) (G_fits : DefOk P w K mg base cA 7 "fits" P_fits m_fits) (G_root : DefOk P w K mg base cA 6 "root" P_root m_root) (G_path : DefOk P w K mg base cA 5 "path" P_path m_path) (G_proofs : DefOk P w K mg base cA 6 "proofs" P_proofs m_proofs) (GM_Hasher_digest : MethOk P w K mg base cA 4 "Hasher" "digest" P_Hasher_digest m_Hasher_digest) {f : Addr} {fd : FuncData} (Fn : Fun K "parted" "parted" s_parted f fd) : FnOk P w K mg base (L2.CX P w) 8 f fd P_parted (spM ⟨K, cA, 0, none⟩ (runD N_parted.length P_parted.length b_parted)) := by
  refine ok_def (b := b_parted) (N := N_parted) (ps := P_parted) (cA := cA) Fn sc_parted ?_
  intro cdv A outer s H E ok
  unfold b_parted
  unfold b_parted_1
  exact (sss_cons (ss_if (st_not (st_tru (SE.b (se_fn ok G_fits (Nat.le_of_ble_eq_true rfl) (sa_cons (se_var 0) (sa_cons (se_fn ok G_root (Nat.le_of_ble_eq_true rfl) (sa_cons (se_var 0) (sa_cons (se_var 1) sa_nil))) (sa_cons (se_len T.b_len (sab_cons (SE.b (se_var 1)) sab_nil)) (sa_cons (se_var 2) (sa_cons (se_var 3) (sa_cons (se_var 4) sa_nil)))))))))) (sss_one (ss_raise rfl ok T.E_BadProof)) sss_nil)
      (sss_cons (ss_set 5 ok (se_fn ok G_path (Nat.le_of_ble_eq_true rfl) (sa_cons (se_var 0) (sa_cons (se_var 2) (sa_cons (se_ix (SE.b (se_var 1)) (SE.b (se_var 2))) (sa_cons (se_ix (SE.b (se_fn ok G_proofs (Nat.le_of_ble_eq_true rfl) (sa_cons (se_var 0) (sa_cons (se_var 1) sa_nil)))) (SE.b (se_var 2))) sa_nil))))))
      (sss_cons (ss_for ok rfl (si_zip T.b_zip (sa_cons (se_var 5) (sa_cons (se_fn ok G_path (Nat.le_of_ble_eq_true rfl) (sa_cons (se_var 0) (sa_cons (se_var 2) (sa_cons (se_var 3) (sa_cons (se_var 4) sa_nil))))) sa_nil))) (sg_tupA rfl (sgs_cons (sg_name 6 ok) (sgs_cons (sg_name 7 ok) sgs_nil))) (sss_one (ss_if (SW.t (sw_and (st_c (c_ne ok) (SE.b (se_var 6)) (SE.b (se_var 7))) (sw_and1 (st_c (c_eq ok) (SE.b (se_meth ok (se_var 0) GM_Hasher_digest (Nat.le_of_ble_eq_true rfl) (sa_cons (se_var 6) sa_nil))) (SE.b (se_meth ok (se_var 0) GM_Hasher_digest (Nat.le_of_ble_eq_true rfl) (sa_cons (se_var 7) sa_nil))))))) (sss_one (ss_ret (se_tup (sa_cons (se_var 6) (sa_cons (se_var 7) sa_nil))))) sss_nil)))
      (sss_one (ss_ret se_non)))))
theorem d_parted (T : Tx K mg cA) (G_fits : DefOk P w K mg base cA 7 "fits" P_fits m_fits) (G_root : DefOk P w K mg base cA 6 "root" P_root m_root) (G_path : DefOk P w K mg base cA 5 "path" P_path m_path) (G_proofs : DefOk P w K mg base cA 6 "proofs" P_proofs m_proofs) (GM_Hasher_digest : MethOk P w K mg base cA 4 "Hasher" "digest" P_Hasher_digest m_Hasher_digest) (A : DefAt K mg "parted" s_parted) : DefOk P w K mg base cA 8 "parted" P_parted m_parted :=
  A.ok (fun f fd Fn => f_parted T G_fits G_root G_path G_proofs GM_Hasher_digest Fn) (fun _ _ _ _ _ _ us hl => match us, hl with | [_, _, _, _, _], _ => rfl)
theorem f_L_told (T : Tx K mg cA) (G_parted : DefOk P w K mg base cA 8 "parted" P_parted m_parted) {f : Addr} {fd : FuncData} (Fn : Fun K "_law_told" "_law_told" s_L_told f fd) : FnOk P w K mg base (L2.CX P w) 9 f fd P_L_told (spM ⟨K, cA, 0, none⟩ (runD N_L_told.length P_L_told.length b_L_told)) := by
  refine ok_def (b := b_L_told) (N := N_L_told) (ps := P_L_told) (cA := cA) Fn sc_L_told ?_
  intro cdv A outer s H E ok
  unfold b_L_told
  exact (sss_one (ss_tryAs (cs := ["BadProof"]) (no := []) (i := 5) ok T.K_BadProof_1 (sss_one (ss_ret (se_fn (Fam.tr_ok ok) G_parted (Nat.le_of_ble_eq_true rfl) (sa_cons (se_var 0) (sa_cons (se_var 1) (sa_cons (se_var 2) (sa_cons (se_var 3) (sa_cons (se_var 4) sa_nil)))))))) (fun x hx C hC a oe d hz hf => (sss_one (ss_ret (se_if (st_tru (SE.b (se_isE (cs := ["BadProof"]) (b := true) 5 T.b_isinstance (List.forall_mem_cons.mpr ⟨T.I_BadProof_SwarmError, (fun c h => by simp at h)⟩) hx hC hz hf))) se_str se_str))))))
theorem d_L_told (T : Tx K mg cA) (G_parted : DefOk P w K mg base cA 8 "parted" P_parted m_parted) (A : DefAt K mg "_law_told" s_L_told) : DefOk P w K mg base cA 9 "_law_told" P_L_told m_L_told :=
  A.ok (fun f fd Fn => f_L_told T G_parted Fn) (fun _ _ _ _ _ _ us hl => match us, hl with | [_, _, _, _, _], _ => rfl)
theorem f_L_right (T : Tx K mg cA) (G_L_due : DefOk P w K mg base cA 9 "_law_due" P_L_due m_L_due) (G_L_same : DefOk P w K mg base cA 4 "_law_same" P_L_same (m_L_same 4)) (G_L_told : DefOk P w K mg base cA 9 "_law_told" P_L_told m_L_told) (G_L_proof : DefOk P w K mg base cA 8 "_law_proof" P_L_proof m_L_proof) (G_fits : DefOk P w K mg base cA 7 "fits" P_fits m_fits) (G_root : DefOk P w K mg base cA 6 "root" P_root m_root) {f : Addr} {fd : FuncData} (Fn : Fun K "_law_right" "_law_right" s_L_right f fd) : FnOk P w K mg base (L2.CX P w) 10 f fd P_L_right (spM ⟨K, cA, 0, none⟩ (runD N_L_right.length P_L_right.length b_L_right)) := by
  refine ok_def (b := b_L_right) (N := N_L_right) (ps := P_L_right) (cA := cA) Fn sc_L_right ?_
  intro cdv A outer s H E ok
  unfold b_L_right
  exact (sss_cons (ss_set 6 ok (se_fn ok G_L_due (Nat.le_of_ble_eq_true rfl) (sa_cons (se_var 1) (sa_cons (se_var 2) (sa_cons (se_var 3) (sa_cons (se_var 4) (sa_cons (se_var 5) sa_nil)))))))
      (sss_cons (ss_if (st_not (st_tru (SE.b (se_fn ok G_L_same (Nat.le_of_ble_eq_true rfl) (sa_cons (se_fn ok G_L_told (Nat.le_of_ble_eq_true rfl) (sa_cons (se_var 0) (sa_cons (se_var 2) (sa_cons (se_var 3) (sa_cons (se_var 4) (sa_cons (se_var 5) sa_nil)))))) (sa_cons (se_var 6) sa_nil)))))) (sss_one (ss_ret se_bl)) sss_nil)
      (sss_cons (ss_if (st_c (c_eq ok) (SE.b (se_var 6)) (SE.b se_str)) (sss_one (ss_ret se_bl)) sss_nil)
      (sss_cons (ss_set 7 ok (sv_and (se_c (c_eq ok) (SE.b (se_var 4)) (SE.b (se_ix (SE.b (se_var 2)) (SE.b (se_var 3))))) (sv_one (se_c (c_eq ok) (SE.b (se_var 5)) (SE.b (se_fn ok G_L_proof (Nat.le_of_ble_eq_true rfl) (sa_cons (se_var 1) (sa_cons se_non (sa_cons (se_var 2) (sa_cons (se_var 3) sa_nil))))))))))
      (sss_one (ss_ret (sv_and (se_c (c_eq ok) (SE.b (se_var 7)) (SE.b (se_c c_is (SE.b (se_var 6)) (SE.b se_non)))) (sv_one (se_c c_isB (SE.b (se_fn ok G_fits (Nat.le_of_ble_eq_true rfl) (sa_cons (se_var 0) (sa_cons (se_fn ok G_root (Nat.le_of_ble_eq_true rfl) (sa_cons (se_var 0) (sa_cons (se_var 2) sa_nil))) (sa_cons (se_len T.b_len (sab_cons (SE.b (se_var 2)) sab_nil)) (sa_cons (se_var 3) (sa_cons (se_var 4) (sa_cons (se_var 5) sa_nil)))))))) (SE.b se_bl))))))))))
theorem d_L_right (T : Tx K mg cA) (G_L_due : DefOk P w K mg base cA 9 "_law_due" P_L_due m_L_due) (G_L_same : DefOk P w K mg base cA 4 "_law_same" P_L_same (m_L_same 4)) (G_L_told : DefOk P w K mg base cA 9 "_law_told" P_L_told m_L_told) (G_L_proof : DefOk P w K mg base cA 8 "_law_proof" P_L_proof m_L_proof) (G_fits : DefOk P w K mg base cA 7 "fits" P_fits m_fits) (G_root : DefOk P w K mg base cA 6 "root" P_root m_root) (A : DefAt K mg "_law_right" s_L_right) : DefOk P w K mg base cA 10 "_law_right" P_L_right m_L_right :=
  A.ok (fun f fd Fn => f_L_right T G_L_due G_L_same G_L_told G_L_proof G_fits G_root Fn) (fun _ _ _ _ _ _ us hl => match us, hl with | [_, _, _, _, _, _], _ => rfl)
theorem f_L_with_digest (T : Tx K mg cA) (G_L_digest : DefOk P w K mg base cA 1 "_law_digest" P_L_digest m_L_digest) {f : Addr} {fd : FuncData} (Fn : Fun K "_law_with_digest" "_law_with_digest" s_L_with_digest f fd) : FnOk P w K mg base (L2.CX P w) 2 f fd P_L_with_digest (spM ⟨K, cA, 0, none⟩ (runD N_L_with_digest.length P_L_with_digest.length b_L_with_digest)) := by
  refine ok_def (b := b_L_with_digest) (N := N_L_with_digest) (ps := P_L_with_digest) (cA := cA) Fn sc_L_with_digest ?_
  intro cdv A outer s H E ok
  unfold b_L_with_digest
  unfold b_L_with_digest_1
  exact (sss_cons (ss_for ok rfl (si_range1 T.b_range (sa_cons se_int sa_nil)) (sg_name 4 ok) (sss_cons (ss_set 5 ok (se_add (SE.b (se_var 3)) (SE.b (se_mulA (SE.b (se_var 4)) (SE.b se_int)))))
      (sss_cons (ss_set 6 ok (se_tuple T.b_tuple (sab_cons (SN.b (sn_lc (own := [(("_law_at" : Str), 7)]) (is := [7]) ok rfl (SI.b (si_range1 T.b_range (sa_cons (se_var 1) sa_nil))) (fun _ => blkOk_by (by kernel_rfl)) (sg_name 7 (Fam.blk_ok ok _)) (by decide) sts_nil (se_mod (SE.b (se_intc T.b_int (sab_cons (SE.b (se_div (SE.b (se_var 5)) (SE.b (se_add (SE.b se_int) (SE.b (se_mulA (SE.b (se_mulA (SE.b se_int) (SE.b (se_var 7)))) (SE.b (se_var 7)))))))) sab_nil))) (SE.b se_int)))) sab_nil)))
      (sss_one (ss_if (st_c (c_eq ok) (SE.b (se_fn ok G_L_digest (Nat.le_of_ble_eq_true rfl) (sa_cons (se_var 0) (sa_cons se_non (sa_cons (se_add (SE.b (se_tup (sa_cons se_int sa_nil))) (SE.b (se_var 6))) sa_nil))))) (SE.b (se_var 2))) (sss_one (ss_ret (se_var 6))) sss_nil)))))
      (sss_one (ss_ret se_non)))
theorem d_L_with_digest (T : Tx K mg cA) (G_L_digest : DefOk P w K mg base cA 1 "_law_digest" P_L_digest m_L_digest) (A : DefAt K mg "_law_with_digest" s_L_with_digest) : DefOk P w K mg base cA 2 "_law_with_digest" P_L_with_digest m_L_with_digest :=
  A.ok (fun f fd Fn => f_L_with_digest T G_L_digest Fn) (fun _ _ _ _ _ _ us hl => match us, hl with | [_, _, _, _], _ => rfl)
theorem f_L_carried (T : Tx K mg cA)  {f : Addr} {fd : FuncData} (Fn : Fun K "_law_carried" "_law_carried" s_L_carried f fd) : FnOk P w K mg base (L2.CX P w) 1 f fd P_L_carried (spM ⟨K, cA, 0, none⟩ (runD N_L_carried.length P_L_carried.length b_L_carried)) := by
  refine ok_def (b := b_L_carried) (N := N_L_carried) (ps := P_L_carried) (cA := cA) Fn sc_L_carried ?_
  intro cdv A outer s H E ok
  unfold b_L_carried
  unfold b_L_carried_2 b_L_carried_1
  exact (sss_cons (ss_setN 1 ok (sn_lst sa_nil))
      (sss_cons (ss_for ok rfl (si_range1 T.b_range (sa_cons (se_sub (SE.b (se_len T.b_len (sab_cons (SE.b (se_var 0)) sab_nil))) (SE.b se_int)) sa_nil)) (sg_name 2 ok) (sss_one (ss_for ok rfl (si_seq (SN.fz (sn_lst (sa_cons se_int (sa_cons (se_neg (SE.b se_int)) sa_nil))))) (sg_name 3 ok) (sss_cons (ss_set 4 ok (se_add (SE.b (se_ix (SE.b (se_var 0)) (SE.b (se_var 2)))) (SE.b (se_var 3))))
      (sss_cons (ss_set 5 ok (se_sub (SE.b (se_ix (SE.b (se_var 0)) (SE.b (se_add (SE.b (se_var 2)) (SE.b se_int))))) (SE.b (se_mulA (SE.b se_int) (SE.b (se_var 3))))))
      (sss_one (ss_if (SW.t (sw_and (st_c (c_le ok) (SE.b se_int) (SE.b (se_var 4))) (sw_and (st_c (c_le ok) (SE.b (se_var 4)) (SE.b se_int)) (sw_and (st_c (c_le ok) (SE.b se_int) (SE.b (se_var 5))) (sw_and1 (st_c (c_le ok) (SE.b (se_var 5)) (SE.b se_int))))))) (sss_one (ss_app 1 (se_add (SE.b (se_add (SE.b (se_sl (SE.b (se_var 0)) so_none (so_some (SE.b (se_var 2))))) (SE.b (se_tup (sa_cons (se_var 4) (sa_cons (se_var 5) sa_nil)))))) (SE.b (se_sl (SE.b (se_var 0)) (so_some (SE.b (se_add (SE.b (se_var 2)) (SE.b se_int)))) so_none))))) sss_nil)))))))
      (sss_one (ss_retOwn 1))))
theorem d_L_carried (T : Tx K mg cA)  (A : DefAt K mg "_law_carried" s_L_carried) : DefOk P w K mg base cA 1 "_law_carried" P_L_carried m_L_carried :=
  A.ok (fun f fd Fn => f_L_carried T  Fn) (fun _ _ _ _ _ _ us hl => match us, hl with | [_], _ => rfl)
theorem f_L_forged_pair (T : Tx K mg cA) (G_L_digest : DefOk P w K mg base cA 1 "_law_digest" P_L_digest m_L_digest) (G_L_carried : DefOk P w K mg base cA 1 "_law_carried" P_L_carried m_L_carried) (G_L_with_digest : DefOk P w K mg base cA 2 "_law_with_digest" P_L_with_digest m_L_with_digest) {f : Addr} {fd : FuncData} (Fn : Fun K "_law_forged_pair" "_law_forged_pair" s_L_forged_pair f fd) : FnOk P w K mg base (L2.CX P w) 3 f fd P_L_forged_pair (spM ⟨K, cA, 0, none⟩ (runD N_L_forged_pair.length P_L_forged_pair.length b_L_forged_pair)) := by
  refine ok_def (b := b_L_forged_pair) (N := N_L_forged_pair) (ps := P_L_forged_pair) (cA := cA) Fn sc_L_forged_pair ?_
  intro cdv A outer s H E ok
  unfold b_L_forged_pair
  exact (sss_cons (ss_set 5 ok (se_fn ok G_L_digest (Nat.le_of_ble_eq_true rfl) (sa_cons (se_var 0) (sa_cons se_non (sa_cons (se_add (SE.b (se_tup (sa_cons se_int sa_nil))) (SE.b (se_var 2))) sa_nil)))))
      (sss_cons (ss_set 6 ok (se_c (c_eq ok) (SE.b (se_and (SE.b (se_var 1)) (SE.b se_int))) (SE.b se_int)))
      (sss_cons (ss_set 7 ok (se_fn ok G_L_carried (Nat.le_of_ble_eq_true rfl) (sa_cons (se_if (st_tru (SE.b (se_var 6))) (se_add (SE.b (se_ix (SE.b (se_var 3)) (SE.b se_int))) (SE.b (se_var 5))) (se_add (SE.b (se_var 5)) (SE.b (se_ix (SE.b (se_var 3)) (SE.b se_int))))) sa_nil)))
      (sss_cons (ss_if (st_c (c_eq ok) (SE.b (se_len T.b_len (sab_cons (SE.b (se_var 7)) sab_nil))) (SE.b se_int)) (sss_one (ss_ret (se_tup (sa_cons (se_var 2) (sa_cons (se_var 3) sa_nil))))) sss_nil)
      (sss_cons (ss_set 8 ok (se_ix (SE.b (se_var 7)) (SE.b (se_mod (SE.b (se_var 4)) (SE.b (se_len T.b_len (sab_cons (SE.b (se_var 7)) sab_nil)))))))
      (sss_cons (ss_set 9 ok (se_sl (SE.b (se_var 8)) so_none (so_some (SE.b (se_ix (SE.b (se_var 0)) (SE.b se_int))))))
      (sss_cons (ss_set 10 ok (se_sl (SE.b (se_var 8)) (so_some (SE.b (se_ix (SE.b (se_var 0)) (SE.b se_int)))) so_none))
      (sss_cons (ss_set 11 ok (se_fn ok G_L_with_digest (Nat.le_of_ble_eq_true rfl) (sa_cons (se_var 0) (sa_cons (se_len T.b_len (sab_cons (SE.b (se_var 2)) sab_nil)) (sa_cons (se_if (st_tru (SE.b (se_var 6))) (se_var 10) (se_var 9)) (sa_cons (se_div (SE.b (se_var 4)) (SE.b se_int)) sa_nil))))))
      (sss_one (ss_ret (se_if (st_c c_is (SE.b (se_var 11)) (SE.b se_non)) (se_tup (sa_cons (se_var 2) (sa_cons (se_var 3) sa_nil))) (se_tup (sa_cons (se_var 11) (sa_cons (se_add (SE.b (se_tup (sa_cons (se_if (st_tru (SE.b (se_var 6))) (se_var 9) (se_var 10)) sa_nil))) (SE.b (se_sl (SE.b (se_var 3)) (so_some (SE.b se_int)) so_none))) sa_nil))))))))))))))
theorem d_L_forged_pair (T : Tx K mg cA) (G_L_digest : DefOk P w K mg base cA 1 "_law_digest" P_L_digest m_L_digest) (G_L_carried : DefOk P w K mg base cA 1 "_law_carried" P_L_carried m_L_carried) (G_L_with_digest : DefOk P w K mg base cA 2 "_law_with_digest" P_L_with_digest m_L_with_digest) (A : DefAt K mg "_law_forged_pair" s_L_forged_pair) : DefOk P w K mg base cA 3 "_law_forged_pair" P_L_forged_pair m_L_forged_pair :=
  A.ok (fun f fd Fn => f_L_forged_pair T G_L_digest G_L_carried G_L_with_digest Fn) (fun _ _ _ _ _ _ us hl => match us, hl with | [_, _, _, _, _], _ => rfl)
theorem f_L_forged (T : Tx K mg cA) (G_L_with_digest : DefOk P w K mg base cA 2 "_law_with_digest" P_L_with_digest m_L_with_digest) (G_L_digest : DefOk P w K mg base cA 1 "_law_digest" P_L_digest m_L_digest) (G_L_carried : DefOk P w K mg base cA 1 "_law_carried" P_L_carried m_L_carried) (G_L_forged_pair : DefOk P w K mg base cA 3 "_law_forged_pair" P_L_forged_pair m_L_forged_pair) {f : Addr} {fd : FuncData} (Fn : Fun K "_law_forged" "_law_forged" s_L_forged f fd) : FnOk P w K mg base (L2.CX P w) 4 f fd P_L_forged (spM ⟨K, cA, 0, none⟩ (runD N_L_forged.length P_L_forged.length b_L_forged)) := by
  refine ok_def (b := b_L_forged) (N := N_L_forged) (ps := P_L_forged) (cA := cA) Fn sc_L_forged ?_
  intro cdv A outer s H E ok
  unfold b_L_forged
  exact (sss_cons (ss_set 5 ok (se_mod (SE.b (se_var 4)) (SE.b se_int)))
      (sss_cons (ss_if (st_c (c_eq ok) (SE.b (se_var 5)) (SE.b se_int)) (sss_cons (ss_set 8 ok (se_fn ok G_L_with_digest (Nat.le_of_ble_eq_true rfl) (sa_cons (se_var 0) (sa_cons (se_len T.b_len (sab_cons (SE.b (se_var 2)) sab_nil)) (sa_cons (se_fn ok G_L_digest (Nat.le_of_ble_eq_true rfl) (sa_cons (se_var 0) (sa_cons se_non (sa_cons (se_add (SE.b (se_tup (sa_cons se_int sa_nil))) (SE.b (se_var 2))) sa_nil)))) (sa_cons (se_div (SE.b (se_var 4)) (SE.b se_int)) sa_nil))))))
      (sss_one (ss_ret (se_if (st_c c_is (SE.b (se_var 8)) (SE.b se_non)) (se_tup (sa_cons (se_var 2) (sa_cons (se_var 3) sa_nil))) (se_tup (sa_cons (se_var 8) (sa_cons (se_var 3) sa_nil))))))) sss_nil)
      (sss_cons (ss_if (st_c (c_eq ok) (SE.b (se_var 5)) (SE.b se_int)) (sss_cons (ss_set 7 ok (se_fn ok G_L_carried (Nat.le_of_ble_eq_true rfl) (sa_cons (se_var 2) sa_nil)))
      (sss_one (ss_ret (se_if (st_c (c_gt ok) (SE.b (se_len T.b_len (sab_cons (SE.b (se_var 7)) sab_nil))) (SE.b se_int)) (se_tup (sa_cons (se_ix (SE.b (se_var 7)) (SE.b (se_mod (SE.b (se_div (SE.b (se_var 4)) (SE.b se_int))) (SE.b (se_len T.b_len (sab_cons (SE.b (se_var 7)) sab_nil)))))) (sa_cons (se_var 3) sa_nil))) (se_tup (sa_cons (se_var 2) (sa_cons (se_var 3) sa_nil))))))) sss_nil)
      (sss_cons (ss_if (st_c (c_eq ok) (SE.b (se_len T.b_len (sab_cons (SE.b (se_var 3)) sab_nil))) (SE.b se_int)) (sss_one (ss_ret (se_tup (sa_cons (se_var 2) (sa_cons (se_var 3) sa_nil))))) sss_nil)
      (sss_cons (ss_if (st_c (c_eq ok) (SE.b (se_var 5)) (SE.b se_int)) (sss_one (ss_ret (se_fn ok G_L_forged_pair (Nat.le_of_ble_eq_true rfl) (sa_cons (se_var 0) (sa_cons (se_var 1) (sa_cons (se_var 2) (sa_cons (se_var 3) (sa_cons (se_div (SE.b (se_var 4)) (SE.b se_int)) sa_nil)))))))) sss_nil)
      (sss_cons (ss_set 6 ok (se_mod (SE.b (se_div (SE.b (se_var 4)) (SE.b se_int))) (SE.b (se_len T.b_len (sab_cons (SE.b (se_var 3)) sab_nil)))))
      (sss_cons (ss_set 7 ok (se_fn ok G_L_carried (Nat.le_of_ble_eq_true rfl) (sa_cons (se_ix (SE.b (se_var 3)) (SE.b (se_var 6))) sa_nil)))
      (sss_one (ss_ret (se_if (st_c (c_gt ok) (SE.b (se_len T.b_len (sab_cons (SE.b (se_var 7)) sab_nil))) (SE.b se_int)) (se_tup (sa_cons (se_var 2) (sa_cons (se_add (SE.b (se_add (SE.b (se_sl (SE.b (se_var 3)) so_none (so_some (SE.b (se_var 6))))) (SE.b (se_tup (sa_cons (se_ix (SE.b (se_var 7)) (SE.b (se_mod (SE.b (se_div (SE.b (se_var 4)) (SE.b se_int))) (SE.b (se_len T.b_len (sab_cons (SE.b (se_var 7)) sab_nil)))))) sa_nil))))) (SE.b (se_sl (SE.b (se_var 3)) (so_some (SE.b (se_add (SE.b (se_var 6)) (SE.b se_int)))) so_none))) sa_nil))) (se_tup (sa_cons (se_var 2) (sa_cons (se_var 3) sa_nil)))))))))))))
theorem d_L_forged (T : Tx K mg cA) (G_L_with_digest : DefOk P w K mg base cA 2 "_law_with_digest" P_L_with_digest m_L_with_digest) (G_L_digest : DefOk P w K mg base cA 1 "_law_digest" P_L_digest m_L_digest) (G_L_carried : DefOk P w K mg base cA 1 "_law_carried" P_L_carried m_L_carried) (G_L_forged_pair : DefOk P w K mg base cA 3 "_law_forged_pair" P_L_forged_pair m_L_forged_pair) (A : DefAt K mg "_law_forged" s_L_forged) : DefOk P w K mg base cA 4 "_law_forged" P_L_forged m_L_forged :=
  A.ok (fun f fd Fn => f_L_forged T G_L_with_digest G_L_digest G_L_carried G_L_forged_pair Fn) (fun _ _ _ _ _ _ us hl => match us, hl with | [_, _, _, _, _], _ => rfl)
theorem f_L_spoilt (T : Tx K mg cA)  {f : Addr} {fd : FuncData} (Fn : Fun K "_law_spoilt" "_law_spoilt" s_L_spoilt f fd) : FnOk P w K mg base (L2.CX P w) 1 f fd P_L_spoilt (spM ⟨K, cA, 0, none⟩ (runD N_L_spoilt.length P_L_spoilt.length b_L_spoilt)) := by
  refine ok_def (b := b_L_spoilt) (N := N_L_spoilt) (ps := P_L_spoilt) (cA := cA) Fn sc_L_spoilt ?_
  intro cdv A outer s H E ok
  unfold b_L_spoilt
  exact (sss_cons (ss_set 5 ok (se_mod (SE.b (se_var 3)) (SE.b se_int)))
      (sss_cons (ss_set 6 ok (se_mod (SE.b (se_div (SE.b (se_var 3)) (SE.b se_int))) (SE.b (se_add (SE.b (se_len T.b_len (sab_cons (SE.b (se_var 1)) sab_nil))) (SE.b se_int)))))
      (sss_cons (ss_set 7 ok (se_mod (SE.b (se_div (SE.b (se_var 3)) (SE.b se_int))) (SE.b (se_add (SE.b (se_len T.b_len (sab_cons (SE.b (se_var 2)) sab_nil))) (SE.b se_int)))))
      (sss_cons (ss_set 8 ok (se_mod (SE.b (se_div (SE.b (se_var 3)) (SE.b se_int))) (SE.b se_int)))
      (sss_cons (ss_if (st_c (c_eq ok) (SE.b (se_var 5)) (SE.b se_int)) (sss_one (ss_ret (se_tup (sa_cons (se_var 0) (sa_cons (se_add (SE.b (se_add (SE.b (se_sl (SE.b (se_var 1)) so_none (so_some (SE.b (se_var 6))))) (SE.b (se_tup (sa_cons (se_var 8) sa_nil))))) (SE.b (se_sl (SE.b (se_var 1)) (so_some (SE.b (se_add (SE.b (se_var 6)) (SE.b se_int)))) so_none))) (sa_cons (se_var 2) sa_nil)))))) sss_nil)
      (sss_cons (ss_if (st_c (c_eq ok) (SE.b (se_var 5)) (SE.b se_int)) (sss_one (ss_ret (se_tup (sa_cons (se_var 0) (sa_cons (se_add (SE.b (se_sl (SE.b (se_var 1)) so_none (so_some (SE.b (se_var 6))))) (SE.b (se_sl (SE.b (se_var 1)) (so_some (SE.b (se_add (SE.b (se_var 6)) (SE.b se_int)))) so_none))) (sa_cons (se_var 2) sa_nil)))))) sss_nil)
      (sss_cons (ss_if (st_c (c_eq ok) (SE.b (se_var 5)) (SE.b se_int)) (sss_one (ss_ret (se_tup (sa_cons (se_ix (SN.b (sn_lst (sa_cons (se_neg (SE.b se_int)) (sa_cons (se_var 4) (sa_cons se_bl (sa_cons se_non (sa_cons se_str (sa_cons (se_xor (SE.b (se_var 0)) (SE.b se_int)) (sa_cons (se_add (SE.b (se_var 0)) (SE.b se_int)) (sa_cons (se_add (SE.b (se_var 0)) (SE.b (se_shl (SE.b se_int) (SE.b (se_len T.b_len (sab_cons (SE.b (se_var 2)) sab_nil)))))) sa_nil)))))))))) (SE.b (se_mod (SE.b (se_div (SE.b (se_var 3)) (SE.b se_int))) (SE.b se_int)))) (sa_cons (se_var 1) (sa_cons (se_var 2) sa_nil)))))) sss_nil)
      (sss_cons (ss_if (st_c (c_eq ok) (SE.b (se_var 5)) (SE.b se_int)) (sss_one (ss_ret (se_tup (sa_cons (se_var 0) (sa_cons (se_ix (SN.b (sn_lst (sa_cons (SN.fz (sn_list T.b_list (sab_cons (SE.b (se_var 1)) sab_nil))) (sa_cons se_non (sa_cons se_str (sa_cons (se_add (SE.b (se_var 1)) (SE.b (se_tup (sa_cons se_int sa_nil)))) (sa_cons (se_tup (sa_cons (se_var 1) sa_nil)) (sa_cons (se_add (SE.b (se_var 1)) (SE.b (se_tup (sa_cons se_int sa_nil)))) sa_nil)))))))) (SE.b (se_mod (SE.b (se_div (SE.b (se_var 3)) (SE.b se_int))) (SE.b se_int)))) (sa_cons (se_var 2) sa_nil)))))) sss_nil)
      (sss_cons (ss_if (st_c (c_eq ok) (SE.b (se_var 5)) (SE.b se_int)) (sss_one (ss_ret (se_tup (sa_cons (se_var 0) (sa_cons (se_var 1) (sa_cons (se_add (SE.b (se_sl (SE.b (se_var 2)) so_none (so_some (SE.b (se_var 7))))) (SE.b (se_sl (SE.b (se_var 2)) (so_some (SE.b (se_add (SE.b (se_var 7)) (SE.b se_int)))) so_none))) sa_nil)))))) sss_nil)
      (sss_cons (ss_if (st_c (c_eq ok) (SE.b (se_var 5)) (SE.b se_int)) (sss_one (ss_ret (se_tup (sa_cons (se_var 0) (sa_cons (se_var 1) (sa_cons (se_add (SE.b (se_add (SE.b (se_sl (SE.b (se_var 2)) so_none (so_some (SE.b (se_var 7))))) (SE.b (se_tup (sa_cons (se_if (st_c (c_gt ok) (SE.b (se_len T.b_len (sab_cons (SE.b (se_var 2)) sab_nil))) (SE.b se_int)) (se_ix (SE.b (se_var 2)) (SE.b se_int)) (se_tup sa_nil)) sa_nil))))) (SE.b (se_sl (SE.b (se_var 2)) (so_some (SE.b (se_var 7))) so_none))) sa_nil)))))) sss_nil)
      (sss_cons (ss_if (st_c (c_eq ok) (SE.b (se_var 5)) (SE.b se_int)) (sss_one (ss_ret (se_tup (sa_cons (se_var 0) (sa_cons (se_var 1) (sa_cons (se_ix (SN.b (sn_lst (sa_cons (SN.fz (sn_list T.b_list (sab_cons (SE.b (se_var 2)) sab_nil))) (sa_cons se_non (sa_cons (se_rev (SE.b (se_var 2))) (sa_cons se_int (sa_cons (se_tup (sa_cons (se_var 2) sa_nil)) (sa_cons (se_add (SE.b (se_sl (SE.b (se_var 2)) (so_some (SE.b se_int)) so_none)) (SE.b (se_sl (SE.b (se_var 2)) so_none (so_some (SE.b se_int))))) sa_nil)))))))) (SE.b (se_mod (SE.b (se_div (SE.b (se_var 3)) (SE.b se_int))) (SE.b se_int)))) sa_nil)))))) sss_nil)
      (sss_cons (ss_if (SW.t (sw_and (st_c (c_lt ok) (SE.b (se_var 5)) (SE.b se_int)) (sw_and1 (st_c (c_lt ok) (SE.b (se_var 7)) (SE.b (se_len T.b_len (sab_cons (SE.b (se_var 2)) sab_nil))))))) (sss_cons (ss_set 9 ok (se_ix (SE.b (se_var 2)) (SE.b (se_var 7))))
      (sss_cons (ss_set 10 ok (se_mod (SE.b (se_div (SE.b (se_var 3)) (SE.b se_int))) (SE.b (se_add (SE.b (se_len T.b_len (sab_cons (SE.b (se_var 9)) sab_nil))) (SE.b se_int)))))
      (sss_cons (ss_set 11 ok (se_ix (SN.b (sn_lst (sa_cons (se_add (SE.b (se_add (SE.b (se_sl (SE.b (se_var 9)) so_none (so_some (SE.b (se_var 10))))) (SE.b (se_tup (sa_cons (se_var 8) sa_nil))))) (SE.b (se_sl (SE.b (se_var 9)) (so_some (SE.b (se_add (SE.b (se_var 10)) (SE.b se_int)))) so_none))) (sa_cons (se_add (SE.b (se_sl (SE.b (se_var 9)) so_none (so_some (SE.b (se_var 10))))) (SE.b (se_sl (SE.b (se_var 9)) (so_some (SE.b (se_add (SE.b (se_var 10)) (SE.b se_int)))) so_none))) (sa_cons (SN.fz (sn_list T.b_list (sab_cons (SE.b (se_var 9)) sab_nil))) sa_nil))))) (SE.b (se_sub (SE.b (se_var 5)) (SE.b se_int)))))
      (sss_one (ss_ret (se_tup (sa_cons (se_var 0) (sa_cons (se_var 1) (sa_cons (se_add (SE.b (se_add (SE.b (se_sl (SE.b (se_var 2)) so_none (so_some (SE.b (se_var 7))))) (SE.b (se_tup (sa_cons (se_var 11) sa_nil))))) (SE.b (se_sl (SE.b (se_var 2)) (so_some (SE.b (se_add (SE.b (se_var 7)) (SE.b se_int)))) so_none))) sa_nil))))))))) sss_nil)
      (sss_one (ss_ret (se_tup (sa_cons (se_var 0) (sa_cons (se_var 1) (sa_cons (se_var 2) sa_nil))))))))))))))))))
theorem d_L_spoilt (T : Tx K mg cA)  (A : DefAt K mg "_law_spoilt" s_L_spoilt) : DefOk P w K mg base cA 1 "_law_spoilt" P_L_spoilt m_L_spoilt :=
  A.ok (fun f fd Fn => f_L_spoilt T  Fn) (fun _ _ _ _ _ _ us hl => match us, hl with | [_, _, _, _, _], _ => rfl)
theorem f_law (T : Tx K mg cA) (G_L_rich : DefOk P w K mg base cA 1 "_law_rich" P_L_rich m_L_rich) (G_L_cell : DefOk P w K mg base cA 1 "_law_cell" P_L_cell m_L_cell) (GI_Hasher_init : MakeOk P w K mg base cA 4 "Hasher" P_Hasher_init m_Hasher_init) (G_L_pieces : DefOk P w K mg base cA 2 "_law_pieces" P_L_pieces m_L_pieces) (G_proofs : DefOk P w K mg base cA 6 "proofs" P_proofs m_proofs) (G_L_right : DefOk P w K mg base cA 10 "_law_right" P_L_right m_L_right) (G_L_forged : DefOk P w K mg base cA 4 "_law_forged" P_L_forged m_L_forged) (G_L_spoilt : DefOk P w K mg base cA 1 "_law_spoilt" P_L_spoilt m_L_spoilt) {f : Addr} {fd : FuncData} (Fn : Fun K "law" "law" s_law f fd) : FnOk P w K mg base (L2.CX P w) 11 f fd P_law (spM ⟨K, cA, 0, none⟩ (runD N_law.length P_law.length b_law)) := by
  refine ok_def (b := b_law) (N := N_law) (ps := P_law) (cA := cA) Fn sc_law ?_
  intro cdv A outer s H E ok
  unfold b_law
  unfold b_law_2 b_law_1
  exact (sss_cons (ss_set 1 ok (se_fn ok G_L_rich (Nat.le_of_ble_eq_true rfl) (sa_cons (se_fn ok G_L_cell (Nat.le_of_ble_eq_true rfl) (sa_cons (se_var 0) (sa_cons se_int sa_nil))) (sa_cons se_int sa_nil))))
      (sss_cons (ss_set 2 ok (se_tup (sa_cons se_str (sa_cons (se_add (SE.b se_int) (SE.b (se_div (SE.b (se_mod (SE.b (se_intc T.b_int (sab_cons (SE.b (se_fn ok G_L_cell (Nat.le_of_ble_eq_true rfl) (sa_cons (se_var 0) (sa_cons se_int sa_nil)))) sab_nil))) (SE.b se_int))) (SE.b se_int)))) sa_nil))))
      (sss_cons (ss_set 3 ok (se_make ok GI_Hasher_init (Nat.le_of_ble_eq_true rfl) (sa_cons (se_var 2) sa_nil)))
      (sss_cons (ss_set 4 ok (se_add (SE.b (se_fn ok G_L_pieces (Nat.le_of_ble_eq_true rfl) (sa_cons (se_var 1) (sa_cons se_int sa_nil)))) (SN.b (sn_lst (sa_cons (se_tup (sa_cons (se_mod (SE.b (se_var 1)) (SE.b se_int)) (sa_cons se_int (sa_cons se_int sa_nil)))) (sa_cons (se_tup (sa_cons se_int (sa_cons se_int (sa_cons se_int (sa_cons se_int sa_nil))))) sa_nil))))))
      (sss_cons (ss_set 5 ok (se_fn ok G_proofs (Nat.le_of_ble_eq_true rfl) (sa_cons (se_var 3) (sa_cons (se_var 4) sa_nil))))
      (sss_cons (ss_for ok rfl (si_range2 T.b_range (sa_cons se_int (sa_cons (se_max2 rfl T.b_max (sab_cons (SE.b se_int) (sab_cons (SE.b (se_min2 rfl T.b_min (sab_cons (SE.b se_int) (sab_cons (SE.b (se_len T.b_len (sab_cons (SE.b (se_var 0)) sab_nil))) sab_nil)))) sab_nil))) sa_nil))) (sg_name 6 ok) (sss_cons (ss_set 1 ok (se_fn ok G_L_rich (Nat.le_of_ble_eq_true rfl) (sa_cons (se_fn ok G_L_cell (Nat.le_of_ble_eq_true rfl) (sa_cons (se_var 0) (sa_cons (se_var 6) sa_nil))) (sa_cons (se_var 6) sa_nil))))
      (sss_cons (ss_set 7 ok (se_mod (SE.b (se_var 1)) (SE.b (se_len T.b_len (sab_cons (SE.b (se_var 4)) sab_nil)))))
      (sss_cons (ss_set 8 ok (se_ix (SE.b (se_var 4)) (SE.b (se_var 7))))
      (sss_cons (ss_set 9 ok (se_ix (SE.b (se_var 5)) (SE.b (se_var 7))))
      (sss_cons (ss_if (st_not (st_tru (SE.b (se_fn ok G_L_right (Nat.le_of_ble_eq_true rfl) (sa_cons (se_var 3) (sa_cons (se_var 2) (sa_cons (se_var 4) (sa_cons (se_var 7) (sa_cons (se_var 8) (sa_cons (se_var 9) sa_nil)))))))))) (sss_one (ss_ret se_bl)) sss_nil)
      (sss_cons (ss_for ok rfl (si_range1 T.b_range (sa_cons (se_add (SE.b se_int) (SE.b (se_mod (SE.b (se_div (SE.b (se_var 1)) (SE.b se_int))) (SE.b se_int)))) sa_nil)) (sg_name 10 ok) (sss_one (ss_asg (se_fn ok G_L_forged (Nat.le_of_ble_eq_true rfl) (sa_cons (se_var 2) (sa_cons (se_var 7) (sa_cons (se_var 8) (sa_cons (se_var 9) (sa_cons (se_div (SE.b (se_var 1)) (SE.b (se_ix (SN.b (sn_lst (sa_cons se_int (sa_cons se_int sa_nil)))) (SE.b (se_var 10))))) sa_nil)))))) (sg_tupA rfl (sgs_cons (sg_name 8 ok) (sgs_cons (sg_name 9 ok) sgs_nil))))))
      (sss_cons (ss_if (st_not (st_tru (SE.b (se_fn ok G_L_right (Nat.le_of_ble_eq_true rfl) (sa_cons (se_var 3) (sa_cons (se_var 2) (sa_cons (se_var 4) (sa_cons (se_var 7) (sa_cons (se_var 8) (sa_cons (se_var 9) sa_nil)))))))))) (sss_one (ss_ret se_bl)) sss_nil)
      (sss_cons (ss_set 11 ok (se_fn ok G_L_spoilt (Nat.le_of_ble_eq_true rfl) (sa_cons (se_var 7) (sa_cons (se_var 8) (sa_cons (se_var 9) (sa_cons (se_div (SE.b (se_var 1)) (SE.b se_int)) (sa_cons (se_len T.b_len (sab_cons (SE.b (se_var 4)) sab_nil)) sa_nil)))))))
      (sss_one (ss_if (st_not (st_tru (SE.b (se_fn ok G_L_right (Nat.le_of_ble_eq_true rfl) (sa_cons (se_var 3) (sa_cons (se_var 2) (sa_cons (se_var 4) (sa_cons (se_ix (SE.b (se_var 11)) (SE.b se_int)) (sa_cons (se_ix (SE.b (se_var 11)) (SE.b se_int)) (sa_cons (se_ix (SE.b (se_var 11)) (SE.b se_int)) sa_nil)))))))))) (sss_one (ss_ret se_bl)) sss_nil)))))))))))
      (sss_one (ss_ret se_bl))))))))
theorem d_law (T : Tx K mg cA) (G_L_rich : DefOk P w K mg base cA 1 "_law_rich" P_L_rich m_L_rich) (G_L_cell : DefOk P w K mg base cA 1 "_law_cell" P_L_cell m_L_cell) (GI_Hasher_init : MakeOk P w K mg base cA 4 "Hasher" P_Hasher_init m_Hasher_init) (G_L_pieces : DefOk P w K mg base cA 2 "_law_pieces" P_L_pieces m_L_pieces) (G_proofs : DefOk P w K mg base cA 6 "proofs" P_proofs m_proofs) (G_L_right : DefOk P w K mg base cA 10 "_law_right" P_L_right m_L_right) (G_L_forged : DefOk P w K mg base cA 4 "_law_forged" P_L_forged m_L_forged) (G_L_spoilt : DefOk P w K mg base cA 1 "_law_spoilt" P_L_spoilt m_L_spoilt) (A : DefAt K mg "law" s_law) : DefOk P w K mg base cA 11 "law" P_law m_law :=
  A.ok (fun f fd Fn => f_law T G_L_rich G_L_cell GI_Hasher_init G_L_pieces G_proofs G_L_right G_L_forged G_L_spoilt Fn) (fun _ _ _ _ _ _ us hl => match us, hl with | [_], _ => rfl)
end
end Law

set_option Elab.async false
set_option linter.all false
set_option maxRecDepth 100000
set_option maxHeartbeats 1000000
set_option exponentiation.threshold 3000
namespace Law
open PySem Mir
theorem cell_eq (ns : List Int) (k : Nat) (h : Hh) : m_L_cell [.lst (ns.map PV.int), .int k] h = .ok (.int (ns.getD k 0)) h := by
  by_cases hk : k < ns.length
  · have e : L2.atI (ns.map PV.int) (k : Int) = some (.int (ns.getD k 0)) := L2.atI_nat (by simp [hk])
    simp [m_L_cell, b_L_cell, runD, N_L_cell, P_L_cell, startE, ixL h e, hk]
  · simp [m_L_cell, b_L_cell, runD, N_L_cell, P_L_cell, startE, hk]
theorem rich_eq (c k : Int) (h : Hh) : ∃ r, m_L_rich [.int c, .int k] h = .ok (.int r) h := by
  have h18 : oPow (.int 10) (.int 18) h = .ok (.int 1000000000000000000) h := rfl
  have m1 : ∀ x, oMulA (.int x) (.int 48271) h = .ok (.int (x * 48271)) h := fun x => mulAI h (mulOk_r (by decide))
  have m2 : ∀ x, oMulA (.int x) (.int 69621) h = .ok (.int (x * 69621)) h := fun x => mulAI h (mulOk_r (by decide))
  have m3 : ∀ x, oMulA (.int x) (.int 16807) h = .ok (.int (x * 16807)) h := fun x => mulAI h (mulOk_r (by decide))
  have m4 : ∀ x, oMulA (.int x) (.int 2147483647) h = .ok (.int (x * 2147483647)) h := fun x => mulAI h (mulOk_r (by decide))
  have d1 : ∀ x, oMod (.int x) (.int 2147483647) h = .ok (.int (x % 2147483647)) h := fun x => modI h (by decide)
  by_cases hk : 1000000000000000000 ≤ c
  · simp [m_L_rich, b_L_rich, runD, N_L_rich, P_L_rich, startE, h18, hk]
  · obtain ⟨mm0, mm1⟩ := mod_range (c * 48271 + k * 69621 + 11) (n := 2147483647) (by decide)
    obtain ⟨env', e1, a, b, t, e2, e3⟩ := forL_inv (g := gN 4) (h := h) (b := b_L_rich_1) (fun i : Nat => PV.int (i : Int))
      (fun _ env => ∃ (a b : Int) (t : SV), env = [.v (.int c), .v (.int k), .v (.int a), .v (.int b), t] ∧ (0 ≤ b ∧ b < 2147483647)) (List.range 7) [] (fun pre i post e env ⟨a, b, t, e2, e3⟩ => by
        subst e2
        have mb : oMulA (.int b) (.int b) h = .ok (.int (b * b)) h := mulAI h (mulOk_l (by omega))
        refine ⟨_, _, rfl, ?_, a * 2147483647 + (b * b + b * 16807 + i + 7) % 2147483647, (b * b + b * 16807 + i + 7) % 2147483647, .v (.int i), rfl, mod_range _ (by decide)⟩
        simp [b_L_rich_1, mb, m3, m4, d1])
      [.v (.int c), .v (.int k), .v (.int 0), .v (.int ((c * 48271 + k * 69621 + 11) % 2147483647)), .un] ⟨0, _, .un, rfl, mm0, mm1⟩
    have hr : rngOk 7 = true := by decide
    simp [m_L_rich, b_L_rich, runD, N_L_rich, P_L_rich, startE, h18, hk, m1, m2, m3, m4, d1, hr, rng_nat, -List.range_succ, show Int.toNat 7 = 7 from rfl, e1, e2, List.replicate]
def lz : Nat → PV → Bool
  | _, .non => true
  | _, .bl _ => true
  | _, .int _ => true
  | _, .str s => PySem.PyData.canLay0 (.str s)
  | n + 1, .tup xs => decide (xs.length ≤ 1000000) && xs.all (lz n)
  | n + 1, .lst xs => decide (xs.length ≤ 1000000) && xs.all (lz n)
  | _, _ => false
theorem same_items (xs : List PV) (hn : xs.length ≤ 1000000) (h : Hh) (mf : MF) (a b : PV) (ha : ∀ i : Nat, i < xs.length → oIx a (.int i) h = .ok (xs.getD i .non) h) (hb : ∀ i : Nat, i < xs.length → oIx b (.int i) h = .ok (xs.getD i .non) h)
    (hm : ∀ x ∈ xs, mf [x, x] h = .ok (.bl true) h) :
    lcL (gN 2) mYes (mCall mf (mCons (mOp oIx (mVar 0) (mVar 2)) (mCons (mOp oIx (mVar 1) (mVar 2)) mNil))) [.v a, .v b, .un] (rngList 0 xs.length) h = .ok ((List.range xs.length).map fun _ => PV.bl true) h := by
  rw [rng_nat]
  refine lcL_all (fun i : Nat => PV.int (i : Int)) (fun _ => PV.bl true) _ fun i hi => ⟨_, rfl, ?_⟩
  have hi' := List.mem_range.mp hi
  have hmem : xs.getD i .non ∈ xs := by
    have e : xs.getD i .non = xs[i] := by simp [hi']
    rw [e]; exact List.getElem_mem hi'
  simp [ha i hi', hb i hi', hm _ hmem, -List.getD_eq_getElem?_getD]
theorem ixT_getD {xs : List PV} {i : Nat} (h : Hh) (hi : i < xs.length) : oIx (.tup xs) (.int i) h = .ok (xs.getD i .non) h := ixT h (L2.atI_nat (by simp [hi]))
theorem ixL_getD {xs : List PV} {i : Nat} (h : Hh) (hi : i < xs.length) : oIx (.lst xs) (.int i) h = .ok (xs.getD i .non) h := ixL h (L2.atI_nat (by simp [hi]))
theorem neSelf (i : Int) (h : Hh) : oNe (.int i) (.int i) h = .ok (.bl false) h := by rw [neI, decide_eq_true rfl]; rfl
theorem oIs_self0 (h : Hh) : oIs .non .non h = .ok (.bl true) h := rfl
theorem same_tup {n : Nat} (xs : List PV) (hn : xs.length ≤ 1000000) (h : Hh) (hm : ∀ x ∈ xs, m_L_same n [x, x] h = .ok (.bl true) h) : m_L_same (n + 1) [.tup xs, .tup xs] h = .ok (.bl true) h := by
  have k := same_items xs hn h (m_L_same n) (.tup xs) (.tup xs) (fun i hi => ixT_getD h hi) (fun i hi => ixT_getD h hi) hm
  obtain ⟨L, hL⟩ : ∃ L : Int, L = xs.length := ⟨_, rfl⟩
  have hr : rngOk L = true := rngOk_of (by omega) (by omega)
  have hlen : fLen [.tup xs] h = .ok (.int L) h := by rw [hL]; rfl
  have hn2 : L.toNat = xs.length := by omega
  have hz : (rngList 0 xs.length).length ≤ 16777216 := by rw [rng_len]; omega
  have ha : fAll [.lst ((List.range xs.length).map fun _ => PV.bl true)] h = .ok (.bl true) h := by
    rw [all_bl (fun _ => true)]
    simp
  simp only [m_L_same, runD, if_pos (show [PV.tup xs, PV.tup xs].length = P_L_same.length from rfl), b_L_same, show startE N_L_same.length [.tup xs, .tup xs] = [.v (.tup xs), .v (.tup xs), .un] from rfl, aSeq, aSkip, aIfS, aToTru, aIsi, aVar, List.getElem?_cons_zero, List.getElem?_cons_succ, Res.bind_ok, kd_tup, isKd_tt, truB, ofE_ok, if_true, aOrT, aNotT, Bool.not_true, Bool.false_eq_true, if_false, aToT, aOp, aCall, aCons, aNil, hlen, neSelf, aRet, aFz, aLc, aR1, hr, hn2, aW1, aW0, List.set_cons_zero, List.set_cons_succ, hz, k, ha]
theorem same_lst {n : Nat} (xs : List PV) (hn : xs.length ≤ 1000000) (h : Hh) (hm : ∀ x ∈ xs, m_L_same n [x, x] h = .ok (.bl true) h) : m_L_same (n + 1) [.lst xs, .lst xs] h = .ok (.bl true) h := by
  have k := same_items xs hn h (m_L_same n) (.lst xs) (.lst xs) (fun i hi => ixL_getD h hi) (fun i hi => ixL_getD h hi) hm
  obtain ⟨L, hL⟩ : ∃ L : Int, L = xs.length := ⟨_, rfl⟩
  have hr : rngOk L = true := rngOk_of (by omega) (by omega)
  have hlen : fLen [.lst xs] h = .ok (.int L) h := by rw [hL]; rfl
  have hn2 : L.toNat = xs.length := by omega
  have hz : (rngList 0 xs.length).length ≤ 16777216 := by rw [rng_len]; omega
  have ha : fAll [.lst ((List.range xs.length).map fun _ => PV.bl true)] h = .ok (.bl true) h := by
    rw [all_bl (fun _ => true)]
    simp
  simp only [m_L_same, runD, if_pos (show [PV.lst xs, PV.lst xs].length = P_L_same.length from rfl), b_L_same, show startE N_L_same.length [.lst xs, .lst xs] = [.v (.lst xs), .v (.lst xs), .un] from rfl, aSeq, aSkip, aIfS, aToTru, aIsi, aVar, List.getElem?_cons_zero, List.getElem?_cons_succ, Res.bind_ok, kd_lst, isKd_ll, isKd_lt, truB, ofE_ok, if_true, aOrT, aNotT, Bool.not_true, Bool.false_eq_true, if_false, aToT, aOp, aCall, aCons, aNil, hlen, neSelf, aRet, aFz, aLc, aR1, hr, hn2, aW1, aW0, List.set_cons_zero, List.set_cons_succ, hz, k, ha]
theorem same_self : ∀ (n : Nat) (x : PV) (h : Hh), lz n x = true → m_L_same (n + 1) [x, x] h = .ok (.bl true) h
  | n, .non, h, _ => by simp [m_L_same, b_L_same, runD, N_L_same, P_L_same, startE, oIs_self0]
  | n, .bl b, h, _ => by simp [m_L_same, b_L_same, runD, N_L_same, P_L_same, startE, oEq_self (n := 0) (x := .bl b) h rfl, isNon]
  | n, .int b, h, _ => by simp [m_L_same, b_L_same, runD, N_L_same, P_L_same, startE]
  | n, .str s, h, hs => by simp [m_L_same, b_L_same, runD, N_L_same, P_L_same, startE, oEq_self (n := 0) (x := .str s) h (by unfold lz at hs; unfold lv; exact hs), isNon]
  | n + 1, .tup xs, h, hx => by
    unfold lz at hx
    rw [Bool.and_eq_true, decide_eq_true_eq, List.all_eq_true] at hx
    exact same_tup xs hx.1 h fun x hm => same_self n x h (hx.2 x hm)
  | n + 1, .lst xs, h, hx => by
    unfold lz at hx
    rw [Bool.and_eq_true, decide_eq_true_eq, List.all_eq_true] at hx
    exact same_lst xs hx.1 h fun x hm => same_self n x h (hx.2 x hm)
  | 0, .tup xs, h, hx => by unfold lz at hx; cases hx
  | 0, .lst xs, h, hx => by unfold lz at hx; cases hx
  | 0, .dct _ _, h, hx => by unfold lz at hx; cases hx
  | n + 1, .dct _ _, h, hx => by unfold lz at hx; cases hx
  | 0, .ref _, h, hx => by unfold lz at hx; cases hx
  | n + 1, .ref _, h, hx => by unfold lz at hx; cases hx
theorem lz_ints {n : Nat} (ns : List Int) (hl : ns.length ≤ 1000000) : lz (n + 1) (.tup (ns.map PV.int)) = true := by
  unfold lz
  rw [Bool.and_eq_true, decide_eq_true_eq, List.all_eq_true, List.length_map]
  refine ⟨hl, fun x hx => ?_⟩
  obtain ⟨i, _, rfl⟩ := List.mem_map.mp hx
  unfold lz; rfl
theorem lz_lints {n : Nat} (ns : List Int) (hl : ns.length ≤ 1000000) : lz (n + 1) (.lst (ns.map PV.int)) = true := by
  unfold lz
  rw [Bool.and_eq_true, decide_eq_true_eq, List.all_eq_true, List.length_map]
  refine ⟨hl, fun x hx => ?_⟩
  obtain ⟨i, _, rfl⟩ := List.mem_map.mp hx
  unfold lz; rfl
/-! ### primes -/
theorem ob_lt {ls : List Nat} (h : ls.length ≤ 100000) : (ob ls).length ≤ 16777216 := by rw [ob_len]; omega
def codesF : Nat → Int → Int → List Int
  | 0, _, _ => []
  | n + 1, b, r => r % b :: codesF n b (r / b)
theorem codesF_len : ∀ n b r, (codesF n b r).length = n
  | 0, _, _ => rfl
  | n + 1, b, r => by rw [codesF, List.length_cons, codesF_len n]
theorem codesF_mem {b : Int} (hb : 0 < b) : ∀ n r, ∀ x ∈ codesF n b r, 0 ≤ x ∧ x < b
  | 0, _, _, hx => by cases hx
  | n + 1, r, x, hx => by
    rw [codesF] at hx
    rcases List.mem_cons.mp hx with rfl | hx
    · exact mod_range r hb
    · exact codesF_mem hb n _ x hx
theorem codes_eq (r n b : Int) (h0 : 0 ≤ n) (h1 : n ≤ 100000) (hb : 0 < b) (hb2 : b < 2 ^ 62) (h : Hh) : m_L_codes [.int r, .int n, .int b] h = .ok (.lst ((codesF n.toNat b r).map PV.int)) h := by
  have hr : rngOk n = true := rngOk_of (by omega) (by omega)
  have dv : divOk b = true := divOk_of hb hb2
  obtain ⟨env', e1, r', acc, k', e2, e3, e4⟩ := forL_inv (g := gN 4) (h := h) (b := b_L_codes_1)
    (fun i : Nat => PV.int (i : Int)) (fun (pre : List Nat) env => ∃ (r' : Int) (acc : List Int) (k' : SV), env = [.v (.int r'), .v (.int n), .v (.int b), .own (.lst (acc.map PV.int)), k'] ∧ acc ++ codesF (n.toNat - pre.length) b r' = codesF n.toNat b r ∧ acc.length = pre.length)
    (List.range n.toNat) [] (fun pre a post e env ⟨r', acc, k', e2, e3, e4⟩ => by
      have hl : pre.length < n.toNat := by
        have := congrArg List.length e
        simp at this
        omega
      have e5 : n.toNat - pre.length = (n.toNat - (pre.length + 1)) + 1 := by omega
      rw [e5, codesF] at e3
      subst e2
      refine ⟨_, _, rfl, ?_, r' / b, acc ++ [r' % b], .v (.int a), rfl, by simpa using e3, by simp [e4]⟩
      have hz : acc.length < 16777216 := by omega
      simp [b_L_codes_1, modI h hb, divI h dv, hz])
    [.v (.int r), .v (.int n), .v (.int b), .own (.lst []), .un] ⟨r, [], .un, rfl, by simp, rfl⟩
  have e6 : acc = codesF n.toNat b r := by simpa [codesF] using e3
  subst e6
  simp [m_L_codes, b_L_codes, runD, N_L_codes, P_L_codes, startE, hr, rng_nat, e1, e2, List.replicate]
theorem one_shl (k : Nat) : (1 <<< k : Nat) = 2 ^ k := by rw [Nat.shiftLeft_eq, Nat.one_mul]
theorem shl1 (k : Nat) (hk : k < 10000000) (h : Hh) : oShl (.int 1) (.int (k : Int)) h = .ok (.int ((2 ^ k : Nat) : Int)) h := by
  have := shlN h (a := 1) (k := k) (by
    have : Nat.log2 1 = 0 := by decide
    omega)
  rw [one_shl] at this
  exact this
theorem c8 : ((8 : Nat) : Int) = 8 := rfl
theorem c0 : ((0 : Nat) : Int) = 0 := rfl
theorem as_octets_eq (v s : Nat) (hs : s ≤ 1000) (hv : v < 2 ^ (8 * s)) (h : Hh) : m_as_octets [.int (v : Int), .int (s : Int)] h = .ok (.tup (ob (be s v))) h := by
  obtain ⟨r1, r2⟩ := rng3_down s (by omega)
  have k : lcL (gN 2) mYes (mOp oAnd (mOp oShr (mVar 0) (mOp oMulA (mC (.int 8)) (mVar 2))) (mC (.int 255))) [.v (.int (v : Int)), .v (.int (s : Int)), .un] (rngC ((s : Int) - 1) (-1) s) h = .ok (ob (be s v)) h := by
    rw [rngC_down]
    unfold be ob
    rw [List.map_map]
    refine lcL_all (fun k : Nat => PV.int (((s - 1 - k : Nat) : Int))) _ _ fun i hi => ⟨_, rfl, ?_⟩
    have hm : oMulA (.int 8) (.int ((s - 1 - i : Nat) : Int)) h = .ok (.int ((8 * (s - 1 - i) : Nat) : Int)) h := mulAN (a := 8) h (.inl (by decide))
    have ha : oAnd (.int ((v >>> (8 * (s - 1 - i)) : Nat) : Int)) (.int 255) h = .ok (.int ((v / 2 ^ (8 * (s - 1 - i)) % 256 : Nat) : Int)) h := by
      have := andN h (v >>> (8 * (s - 1 - i))) 255
      rw [show v >>> (8 * (s - 1 - i)) &&& 255 = v / 2 ^ (8 * (s - 1 - i)) % 256 by rw [show (255 : Nat) = 2 ^ 8 - 1 by decide, Nat.and_two_pow_sub_one_eq_mod, Nat.shiftRight_eq_div_pow]] at this
      exact this
    simp only [aOp, aVar, aC, List.getElem?_cons_zero, List.getElem?_cons_succ, List.set_cons_zero, List.set_cons_succ, Res.bind_ok, hm, shrN, ha, Function.comp_apply]
  have hm : oMulA (.int 8) (.int (s : Int)) h = .ok (.int ((8 * s : Nat) : Int)) h := mulAN (a := 8) h (.inl (by decide))
  have hz : v >>> (8 * s) = 0 := by rw [Nat.shiftRight_eq_div_pow]; exact Nat.div_eq_of_lt hv
  have hz2 : (rngC ((s : Int) - 1) (-1) s).length ≤ 16777216 := by rw [rngC_len]; omega
  have h0 : decide ((v : Int) < 0) = false := decide_eq_false (by omega)
  simp only [m_as_octets, runD, if_pos (show [PV.int (v : Int), .int (s : Int)].length = P_as_octets.length from rfl), b_as_octets, show startE N_as_octets.length [.int (v : Int), .int (s : Int)] = [.v (.int v), .v (.int s), .un] from rfl,
    aSeq, aSkip, aIfS, aOrT, aToT, aOp, aVar, aC, aRet, aCall, aCons, aNil, aFz, aLc, aR3, aUn, List.getElem?_cons_zero, List.getElem?_cons_succ, Res.bind_ok, ltI, h0, ofE_ok, Bool.false_eq_true, if_false, hm, shrN, hz, c0, neSelf, subI, negI, r1, r2, if_true, aW1, aW0, List.set_cons_zero, List.set_cons_succ, hz2, k, tupL]
theorem rep_one (n : Nat) (a : Nat) : (List.replicate n [a]).flatten = List.replicate n a := by
  induction n with
  | zero => rfl
  | succ n ih => rw [List.replicate_succ, List.flatten_cons, ih]; rfl
/-! ### the law's own words -/
theorem pick (xs : List Int) (i : Int) (h0 : 0 ≤ i) (h1 : i < xs.length) (h : Hh) : ∃ x, x ∈ xs ∧ oIx (.lst (xs.map PV.int)) (.int i) h = .ok (.int x) h := by
  obtain ⟨j, rfl⟩ : ∃ j : Nat, i = (j : Int) := ⟨i.toNat, by omega⟩
  have hi : j < xs.length := by omega
  refine ⟨xs[j], List.getElem_mem hi, ixL h (L2.atI_nat ?_)⟩
  rw [List.getElem?_map, List.getElem?_eq_getElem hi]
  rfl
theorem to_nat {i b : Int} (h : 0 ≤ i ∧ i < b) : ∃ n : Nat, i = (n : Int) := ⟨i.toNat, by omega⟩
theorem pickL (cs : List (List Nat)) (i : Int) (h0 : 0 ≤ i) (h1 : i < cs.length) (h : Hh) : ∃ c, c ∈ cs ∧ oIx (.lst (cs.map fun c => PV.tup (ob c))) (.int i) h = .ok (.tup (ob c)) h := by
  obtain ⟨j, rfl⟩ : ∃ j : Nat, i = (j : Int) := ⟨i.toNat, by omega⟩
  have hi : j < cs.length := by omega
  refine ⟨cs[j], List.getElem_mem hi, ixL h (L2.atI_nat ?_)⟩
  rw [List.getElem?_map, List.getElem?_eq_getElem hi]
  rfl
theorem mulOne (a n : Nat) (hn : n ≤ 1000) (h : Hh) : oMulA (.tup [.int (a : Int)]) (.int (n : Int)) h = .ok (.tup (ob (List.replicate n a))) h := by
  rw [mulAT h (by
    unfold repOk
    rw [decide_eq_true (by omega), decide_eq_true (show (n : Int) ≤ 1000 by omega)]
    simp), show ([PV.int (a : Int)] : List PV) = ob [a] from rfl, repP_ob, rep_one]
end Law

set_option Elab.async false
set_option linter.all false
set_option maxRecDepth 100000
set_option maxHeartbeats 1000000
set_option exponentiation.threshold 3000
namespace Law
open PySem Mir
/-! ### depth -/
def dpS (n : Nat) : Nat → Nat → Nat
  | 0, d => d
  | f + 1, d => if 2 ^ d < n then dpS n f (d + 1) else d
def dpt (n : Nat) : Nat := dpS n n 0
theorem dpS_ok (n : Nat) : ∀ f d, n ≤ 2 ^ (d + f) → (∀ e, e < d → 2 ^ e < n) → n ≤ 2 ^ dpS n f d ∧ ∀ e, e < dpS n f d → 2 ^ e < n
  | 0, d, h, g => ⟨h, g⟩
  | f + 1, d, h, g => by
    unfold dpS
    by_cases c : 2 ^ d < n
    · rw [if_pos c]
      exact dpS_ok n f (d + 1) (by rw [show d + 1 + f = d + (f + 1) by omega]; exact h) (fun e he => by
        by_cases q : e = d
        · rw [q]; exact c
        · exact g e (by omega))
    · rw [if_neg c]; exact ⟨by omega, g⟩
theorem dpt_ok (n : Nat) : n ≤ 2 ^ dpt n ∧ ∀ e, e < dpt n → 2 ^ e < n := dpS_ok n n 0 (by rw [Nat.zero_add]; exact Nat.le_of_lt Nat.lt_two_pow_self) (fun e he => by omega)
theorem lt_dpt {n e : Nat} : 2 ^ e < n ↔ e < dpt n := by
  refine ⟨fun h => ?_, (dpt_ok n).2 e⟩
  by_cases c : e < dpt n
  · exact c
  · have h1 := (dpt_ok n).1
    have h2 : 2 ^ dpt n ≤ 2 ^ e := Nat.pow_le_pow_right (by decide) (by omega)
    omega
theorem dpt_le {n k : Nat} (h : n ≤ 2 ^ k) : dpt n ≤ k := by
  by_cases c : k < dpt n
  · have := lt_dpt.mpr c; omega
  · omega
theorem depth_loop (n : Nat) (h : Hh) (hd : dpt n ≤ 50) : ∀ k fuel f, f + k = dpt n → k < fuel →
    whileL (toT (mOp oLt (mOp oShl (mC (.int 1)) (mVar 1)) (mVar 0))) b_depth_1 fuel [.v (.int (n : Int)), .v (.int (f : Int))] h = .nx [.v (.int (n : Int)), .v (.int (dpt n : Nat))] h := by
  intro k
  induction k with
  | zero =>
    intro fuel f e hf
    obtain ⟨fuel, rfl⟩ : ∃ k, fuel = k + 1 := ⟨fuel - 1, by omega⟩
    rw [whileL_succ]
    have ef : f = dpt n := by omega
    subst ef
    have hs := shl1 (dpt n) (by omega) h
    have hc : decide (((2 ^ dpt n : Nat) : Int) < (n : Int)) = false := decide_eq_false (by have := (dpt_ok n).1; omega)
    simp only [aToT, aOp, aC, aVar, List.getElem?_cons_zero, List.getElem?_cons_succ, Res.bind_ok, hs, ltI, hc, ofE_ok, Bool.false_eq_true, if_false]
  | succ k ih =>
    intro fuel f e hf
    obtain ⟨fuel, rfl⟩ : ∃ k, fuel = k + 1 := ⟨fuel - 1, by omega⟩
    rw [whileL_succ]
    have hs := shl1 f (by omega) h
    have hc : decide (((2 ^ f : Nat) : Int) < (n : Int)) = true := decide_eq_true (by have := lt_dpt.mpr (show f < dpt n by omega); omega)
    have hb : b_depth_1 [.v (.int (n : Int)), .v (.int (f : Int))] h = .nx [.v (.int (n : Int)), .v (.int ((f + 1 : Nat) : Int))] h := by
      have e1 : (f : Int) + 1 = ((f + 1 : Nat) : Int) := by omega
      simp only [b_depth_1, mAug, List.getElem?_cons_zero, List.getElem?_cons_succ, aC, ofE_ok, e1, List.set_cons_zero, List.set_cons_succ]
    simp only [aToT, aOp, aC, aVar, List.getElem?_cons_zero, List.getElem?_cons_succ, Res.bind_ok, hs, ltI, hc, ofE_ok, if_true, hb]
    exact ih fuel (f + 1) (by omega) (by omega)
theorem depth_eq (n : Nat) (hd : dpt n ≤ 50) (h : Hh) : m_depth [.int (n : Int)] h = .ok (.int (dpt n : Nat)) h := by
  have hl := depth_loop n h hd (dpt n) 60 0 (by omega) (by omega)
  have hl' : whileL (toT (mOp oLt (mOp oShl (mC (.int 1)) (mVar 1)) (mVar 0))) b_depth_1 60 [.v (.int (n : Int)), .v (.int 0)] h = .nx [.v (.int (n : Int)), .v (.int (dpt n : Nat))] h := hl
  rw [m_depth, runD, if_pos (show [PV.int (n : Int)].length = P_depth.length from rfl), b_depth, show startE N_depth.length [.int (n : Int)] = [.v (.int (n : Int)), .un] from rfl]
  generalize (n : Int) = N at *
  simp only [aSeq, aSet, aC, ofE_ok, List.set_cons_zero, List.set_cons_succ, hl', aRet, aVar, List.getElem?_cons_zero, List.getElem?_cons_succ]
theorem ldepth_eq (n : Nat) (hd : dpt n ≤ 50) (h : Hh) : m_L_depth [.int (n : Int)] h = .ok (.int (dpt n : Nat)) h := by
  obtain ⟨env', q1, t2, q2⟩ := forL_inv (g := gN 2) (b := b_L_depth_1) (h := h) (fun k : Nat => PV.int (k : Int))
    (fun pre env => ∃ t2, env = [.v (.int (n : Int)), .v (.int ((min pre.length (dpt n) : Nat) : Int)), t2]) (List.range 64) []
    (fun pre k post e env ⟨t2, q2⟩ => by
      subst q2
      refine ⟨_, [.v (.int (n : Int)), .v (.int ((min (pre.length + 1) (dpt n) : Nat) : Int)), .v (.int (k : Int))], rfl, ?_, .v (.int (k : Int)), by rw [List.length_append, List.length_singleton]⟩
      have hs := shl1 (min pre.length (dpt n)) (by omega) h
      by_cases c : pre.length < dpt n
      · have e1 : min pre.length (dpt n) = pre.length := by omega
        have e2 : min (pre.length + 1) (dpt n) = pre.length + 1 := by omega
        rw [e1] at hs
        have hc : decide (((2 ^ pre.length : Nat) : Int) < (n : Int)) = true := decide_eq_true (by have := lt_dpt.mpr c; omega)
        have e3 : (pre.length : Int) + 1 = ((pre.length + 1 : Nat) : Int) := by omega
        simp only [e1, e2, b_L_depth_1, aIfS, aToT, aOp, aC, aVar, List.getElem?_cons_zero, List.getElem?_cons_succ, List.set_cons_zero, List.set_cons_succ, Res.bind_ok, hs, ltI, hc, ofE_ok, if_true, aSet, addI, e3]
      · have e1 : min pre.length (dpt n) = dpt n := by omega
        have e2 : min (pre.length + 1) (dpt n) = dpt n := by omega
        rw [e1] at hs
        have hc : decide (((2 ^ dpt n : Nat) : Int) < (n : Int)) = false := decide_eq_false (by have := (dpt_ok n).1; omega)
        simp only [e1, e2, b_L_depth_1, aIfS, aToT, aOp, aC, aVar, List.getElem?_cons_zero, List.getElem?_cons_succ, List.set_cons_zero, List.set_cons_succ, Res.bind_ok, hs, ltI, hc, ofE_ok, Bool.false_eq_true, if_false, aSkip])
    [.v (.int (n : Int)), .v (.int 0), .un] ⟨.un, by rw [show min ([] : List Nat).length (dpt n) = 0 by simp]; rfl⟩
  rw [List.nil_append, List.length_range, show min 64 (dpt n) = dpt n by omega] at q2
  subst q2
  have hr : rngOk 64 = true := by decide
  have t64 : (64 : Int).toNat = 64 := rfl
  rw [m_L_depth, runD, if_pos (show [PV.int (n : Int)].length = P_L_depth.length from rfl), b_L_depth, show startE N_L_depth.length [.int (n : Int)] = [.v (.int (n : Int)), .un, .un] from rfl]
  generalize (n : Int) = N at *
  generalize ((dpt n : Nat) : Int) = DD at *
  simp only [aSeq, aSet, aC, aFor, aR1, aCons, aNil, Res.bind_ok, hr, if_true, t64, rng_nat, ofE_ok, List.set_cons_zero, List.set_cons_succ, q1, aRet, aVar, List.getElem?_cons_zero, List.getElem?_cons_succ]
/-! ### the tree -/
section
variable (H : List Nat → List Nat) (ps : List (List Nat))
def leafT (i : Nat) : List Nat := match ps[i]? with
  | some p => 0 :: p
  | none => [2]
def T : Nat → Nat → List Nat
  | 0, i => H (leafT ps i)
  | j + 1, i => H (1 :: (T j (2 * i) ++ T j (2 * i + 1)))
def rowT (d j : Nat) : List (List Nat) := (List.range (2 ^ (d - j))).map (T H ps j)
end
structure DG (n : Nat) (h : Hh) (kd wd : PV) (H : List Nat → List Nat) (sz : Nat) : Prop where
  dig : ∀ bs, small8 bs → bs.length ≤ 200 → m_Hasher_digest [.ref n, .tup (ob bs)] h = .ok (.tup (ob (H bs))) h
  ldig : ∀ bs, small8 bs → bs.length ≤ 200 → m_L_digest [kd, wd, .tup (ob bs)] h = .ok (.tup (ob (H bs))) h
  sm : ∀ bs, small8 (H bs)
  ln : ∀ bs, (H bs).length = sz
  le : sz ≤ 24
  mt : ∃ ns vs, h[n]? = some (.ins "Hasher" ns vs) ∧ getF "digest" ns vs = none
structure PS (ps : List (List Nat)) : Prop where
  n : ps.length ≤ 16
  sm : ∀ p ∈ ps, small8 p ∧ p.length ≤ 20
section
variable {n : Nat} {h : Hh} {kd wd : PV} {H : List Nat → List Nat} {sz : Nat} {ps : List (List Nat)}
theorem DG.call (g : DG n h kd wd H sz) {mo : ME} {mr : MA} {env : En} {bs : List Nat} (ho : mo env h = .ok (.ref n) h) (hm : mr env h = .ok [.tup (ob bs)] h) (hb : small8 bs) (hl : bs.length ≤ 200) : mMeth "Hasher" "digest" m_Hasher_digest mo mr env h = .ok (.tup (ob (H bs))) h := by
  obtain ⟨ns, vs, e1, e2⟩ := g.mt
  rw [meth_at ho e1 e2, hm, Res.bind_ok]
  exact g.dig bs hb hl
theorem T_len (g : DG n h kd wd H sz) : ∀ j i, (T H ps j i).length = sz
  | 0, i => g.ln _
  | j + 1, i => g.ln _
theorem T_small (g : DG n h kd wd H sz) : ∀ j i, small8 (T H ps j i)
  | 0, i => g.sm _
  | j + 1, i => g.sm _
theorem leaf_ok (q : PS ps) (i : Nat) : small8 (leafT ps i) ∧ (leafT ps i).length ≤ 21 := by
  unfold leafT
  cases e : ps[i]? with
  | none => exact ⟨fun x hx => by rw [List.mem_singleton.mp hx]; decide, by simp⟩
  | some p =>
    have hp := q.sm p (List.mem_of_getElem? e)
    refine ⟨fun x hx => ?_, by simp; omega⟩
    rcases List.mem_cons.mp hx with rfl | hx
    · decide
    · exact hp.1 x hx
theorem node_ok {l r : List Nat} (hl : small8 l) (hr : small8 r) : small8 (1 :: (l ++ r)) := fun x hx => by
  rcases List.mem_cons.mp hx with rfl | hx
  · decide
  · rcases List.mem_append.mp hx with hx | hx
    · exact hl x hx
    · exact hr x hx
theorem leaf_text_eq (p : List Nat) (hl : p.length ≤ 1000) (h : Hh) : m_leaf_text [.tup (ob p)] h = .ok (.tup (ob (0 :: p))) h := by
  have one : ∀ a : PV, ([a].length ≤ 16777216) = True := fun a => eq_true (by simp)
  have ha : oAdd (.tup [.int 0]) (.tup (ob p)) h = .ok (.tup (ob (0 :: p))) h := by rw [addT h (by rw [ob_len]; simp; omega)]; rfl
  rw [m_leaf_text, runD, if_pos (show [PV.tup (ob p)].length = P_leaf_text.length from rfl), b_leaf_text, show startE N_leaf_text.length [.tup (ob p)] = [.v (.tup (ob p))] from rfl]
  simp only [aRet, aOp, aTup, aCons, aNil, aC, aVar, List.getElem?_cons_zero, Res.bind_ok, one, if_true, ha, ofE_ok]
theorem node_text_eq (l r : List Nat) (hl : l.length ≤ 1000) (hr : r.length ≤ 1000) (h : Hh) : m_node_text [.tup (ob l), .tup (ob r)] h = .ok (.tup (ob (1 :: (l ++ r)))) h := by
  have one : ∀ a : PV, ([a].length ≤ 16777216) = True := fun a => eq_true (by simp)
  have ha : oAdd (.tup [.int 1]) (.tup (ob l)) h = .ok (.tup (ob (1 :: l))) h := by rw [addT h (by rw [ob_len]; simp; omega)]; rfl
  have hb : oAdd (.tup (ob (1 :: l))) (.tup (ob r)) h = .ok (.tup (ob (1 :: (l ++ r)))) h := by rw [addT h (by rw [ob_len, ob_len]; simp; omega), ob_app]; rfl
  rw [m_node_text, runD, if_pos (show [PV.tup (ob l), .tup (ob r)].length = P_node_text.length from rfl), b_node_text, show startE N_node_text.length [.tup (ob l), .tup (ob r)] = [.v (.tup (ob l)), .v (.tup (ob r))] from rfl]
  simp only [aRet, aOp, aTup, aCons, aNil, aC, aVar, List.getElem?_cons_zero, List.getElem?_cons_succ, Res.bind_ok, one, if_true, ha, hb, ofE_ok]
abbrev tl (l : List (List Nat)) : List PV := l.map fun p => PV.tup (ob p)
theorem tl_len (l : List (List Nat)) : (tl l).length = l.length := List.length_map _
theorem row0 (g : DG n h kd wd H sz) (d : Nat) (hd : ps.length ≤ 2 ^ d) : (ps.map fun p => H (0 :: p)) ++ List.replicate (2 ^ d - ps.length) (H [2]) = rowT H ps d 0 := by
  unfold rowT
  refine List.ext_getElem? fun i => ?_
  rw [Nat.sub_zero, List.getElem?_map]
  by_cases hi : i < ps.length
  · rw [List.getElem?_append_left (by rw [List.length_map]; exact hi), List.getElem?_map, List.getElem?_range (by omega), List.getElem?_eq_getElem hi]
    show some (H (0 :: ps[i])) = some (H (leafT ps i))
    unfold leafT
    rw [List.getElem?_eq_getElem hi]
  · rw [List.getElem?_append_right (by rw [List.length_map]; omega), List.length_map]
    by_cases h2 : i < 2 ^ d
    · rw [List.getElem?_range h2, List.getElem?_replicate, if_pos (by omega)]
      show some (H [2]) = some (H (leafT ps i))
      unfold leafT
      rw [List.getElem?_eq_none (by omega)]
    · rw [List.getElem?_replicate, if_neg (by omega), List.getElem?_eq_none (by rw [List.length_range]; omega)]; rfl
theorem rng2 : ∀ m : Nat, m ≤ 40 → rng3Ok 0 (2 * (m : Int)) 2 = true ∧ (Builtin.Range.rangeSize 0 (2 * (m : Int)) 2).toNat = m := by decide +kernel
theorem rngC2 (m : Nat) : rngC 0 2 m = (List.range m).map fun k : Nat => PV.int ((2 * k : Nat) : Int) := by
  unfold rngC
  refine List.map_congr_left fun k _ => ?_
  congr 1
  omega
theorem rowT_len (d j : Nat) : (rowT H ps d j).length = 2 ^ (d - j) := by unfold rowT; simp
theorem row_ix (d j i : Nat) (hi : i < 2 ^ (d - j)) (h : Hh) : oIx (.lst (tl (rowT H ps d j))) (.int (i : Int)) h = .ok (.tup (ob (T H ps j i))) h := by
  refine ixL h (L2.atI_nat ?_)
  unfold rowT
  rw [List.getElem?_map, List.getElem?_map, List.getElem?_range hi]; rfl
theorem row_step (g : DG n h kd wd H sz) (d j : Nat) (hj : j < d) (hd : d ≤ 5) (x1 : SV) (fs : List PV) (hf : fs.length ≤ 100) (s2 : SV) (hs2 : s2 = .v (.lst (tl (rowT H ps d j)))) (x3 x5 x6 : SV) :
    b_levels_1 [.v (.ref n), x1, s2, x3, .own (.lst fs), x5, x6, .un] h = .nx [.v (.ref n), x1, .v (.lst (tl (rowT H ps d (j + 1)))), x3, .own (.lst (fs ++ [.lst (tl (rowT H ps d (j + 1)))])), x5, x6, .un] h := by
  subst hs2
  have hp : 2 ^ (d - j) = 2 * 2 ^ (d - (j + 1)) := by rw [show d - j = (d - (j + 1)) + 1 by omega, Nat.pow_succ]; omega
  have hm : 2 ^ (d - (j + 1)) ≤ 40 := by
    have : 2 ^ (d - (j + 1)) ≤ 2 ^ 5 := Nat.pow_le_pow_right (by decide) (by omega)
    omega
  obtain ⟨r1, r2⟩ := rng2 _ hm
  have hlen : fLen [.lst (tl (rowT H ps d j))] h = .ok (.int (2 * ((2 ^ (d - (j + 1)) : Nat) : Int))) h := by rw [lenI, tl_len, rowT_len, hp]; rfl
  have hz : ((List.range (2 ^ (d - (j + 1)))).map fun k : Nat => PV.int ((2 * k : Nat) : Int)).length ≤ 16777216 := by rw [List.length_map, List.length_range]; omega
  have kk : lcL (gN 7) mYes (mMeth "Hasher" "digest" m_Hasher_digest (mVar 0) (mCons (mCall m_node_text (mCons (mOp oIx (mOwn 2) (mVar 7)) (mCons (mOp oIx (mOwn 2) (mOp oAdd (mVar 7) (mC (.int 1)))) mNil))) mNil)) [.v (.ref n), x1, .v (.lst (tl (rowT H ps d j))), x3, .own (.lst fs), x5, x6, .un] ((List.range (2 ^ (d - (j + 1)))).map fun k : Nat => PV.int ((2 * k : Nat) : Int)) h = .ok (tl (rowT H ps d (j + 1))) h := by
    have e : tl (rowT H ps d (j + 1)) = (List.range (2 ^ (d - (j + 1)))).map fun k => PV.tup (ob (T H ps (j + 1) k)) := by unfold rowT tl; rw [List.map_map]; rfl
    rw [e]
    refine lcL_all (fun k : Nat => PV.int ((2 * k : Nat) : Int)) _ _ fun k hk => ⟨_, rfl, ?_⟩
    have hk' := List.mem_range.mp hk
    have i1 := row_ix (H := H) (ps := ps) d j (2 * k) (by omega) h
    have i2 := row_ix (H := H) (ps := ps) d j (2 * k + 1) (by omega) h
    have e1 : ((2 * k : Nat) : Int) + 1 = ((2 * k + 1 : Nat) : Int) := by omega
    have l1 := T_len (ps := ps) g j (2 * k)
    have l2 := T_len (ps := ps) g j (2 * k + 1)
    have hle := g.le
    refine g.call rfl (bs := 1 :: (T H ps j (2 * k) ++ T H ps j (2 * k + 1))) ?_ (node_ok (T_small g _ _) (T_small g _ _)) (by simp; omega)
    have hn := node_text_eq (T H ps j (2 * k)) (T H ps j (2 * k + 1)) (by omega) (by omega) h
    simp only [aCons, aNil, aCall, aOp, aOwn, aVar, aC, List.set_cons_zero, List.set_cons_succ, List.getElem?_cons_zero, List.getElem?_cons_succ, Res.bind_ok, i1, addI, e1, i2, hn]
  have hfs : fs.length < 16777216 := by omega
  rw [b_levels_1]
  simp only [aSeq, aSetN, aLc, aR3, aCons, aNil, aC, aCall, aOwn, List.getElem?_cons_zero, List.getElem?_cons_succ, List.set_cons_zero, List.set_cons_succ, Res.bind_ok, hlen, r1, r2, rngC2, if_true, hz, aW0, aW1, kk, ofE_ok, aFrz, aApp, aVar, hfs]
theorem row_loop (g : DG n h kd wd H sz) (d : Nat) (hd : d ≤ 5) (x1 x3 x5 x6 : SV) : ∀ k fuel j, j + k = d → k < fuel →
    whileL (toT (mOp oGt (mCall fLen (mCons (mOwn 2) mNil)) (mC (.int 1)))) b_levels_1 fuel [.v (.ref n), x1, .v (.lst (tl (rowT H ps d j))), x3, .own (.lst ((List.range (j + 1)).map fun j => .lst (tl (rowT H ps d j)))), x5, x6, .un] h =
      .nx [.v (.ref n), x1, .v (.lst (tl (rowT H ps d d))), x3, .own (.lst ((List.range (d + 1)).map fun j => .lst (tl (rowT H ps d j)))), x5, x6, .un] h := by
  intro k
  induction k with
  | zero =>
    intro fuel j e hf
    obtain ⟨fuel, rfl⟩ : ∃ k, fuel = k + 1 := ⟨fuel - 1, by omega⟩
    rw [whileL_succ]
    have ej : j = d := by omega
    subst ej
    have hlen : fLen [.lst (tl (rowT H ps j j))] h = .ok (.int 1) h := by rw [lenI, tl_len, rowT_len, Nat.sub_self]; rfl
    have hg : oGt (.int 1) (.int 1) h = .ok (.bl false) h := rfl
    simp only [aToT, aOp, aCall, aCons, aNil, aOwn, aC, List.getElem?_cons_zero, List.getElem?_cons_succ, Res.bind_ok, hlen, hg, ofE_ok, Bool.false_eq_true, if_false]
  | succ k ih =>
    intro fuel j e hf
    obtain ⟨fuel, rfl⟩ : ∃ k, fuel = k + 1 := ⟨fuel - 1, by omega⟩
    rw [whileL_succ]
    have hp : 2 ^ 1 ≤ 2 ^ (d - j) := Nat.pow_le_pow_right (by decide) (by omega)
    have hlen : fLen [.lst (tl (rowT H ps d j))] h = .ok (.int ((2 ^ (d - j) : Nat) : Int)) h := by rw [lenI, tl_len, rowT_len]
    have hg : oGt (.int ((2 ^ (d - j) : Nat) : Int)) (.int 1) h = .ok (.bl true) h := by rw [gtI, decide_eq_true (by omega)]
    have hst := row_step (ps := ps) g d j (by omega) hd x1 ((List.range (j + 1)).map fun j => .lst (tl (rowT H ps d j))) (by rw [List.length_map, List.length_range]; omega) _ rfl x3 x5 x6
    have hrr : ((List.range (j + 1)).map fun j => PV.lst (tl (rowT H ps d j))) ++ [.lst (tl (rowT H ps d (j + 1)))] = (List.range (j + 1 + 1)).map fun j => PV.lst (tl (rowT H ps d j)) := by
      rw [List.range_succ (n := j + 1), List.map_append]; rfl
    rw [hrr] at hst
    simp only [aToT, aOp, aCall, aCons, aNil, aOwn, aC, List.getElem?_cons_zero, List.getElem?_cons_succ, Res.bind_ok, hlen, hg, ofE_ok, if_true, hst]
    exact ih fuel (j + 1) (by omega) (by omega)
end
end Law

set_option Elab.async false
set_option linter.all false
set_option maxRecDepth 100000
set_option maxHeartbeats 1000000
set_option exponentiation.threshold 3000
namespace Law
open PySem Mir
section
variable {n : Nat} {h : Hh} {kd wd : PV} {H : List Nat → List Nat} {sz : Nat} {ps : List (List Nat)}
theorem dpt16 (q : PS ps) : dpt ps.length ≤ 4 := dpt_le (k := 4) q.n
def isP (ps : List (List Nat)) (x : PV) : Prop := x = .lst (tl ps) ∨ x = .tup (tl ps)
theorem isP.len {x : PV} (hx : isP ps x) (h : Hh) : fLen [x] h = .ok (.int (ps.length : Int)) h := by
  rcases hx with rfl | rfl
  · rw [lenI, tl_len]
  · rw [lenT, tl_len]
theorem isP.it {x : PV} (hx : isP ps x) (i : Nat) {env : En} (he : env[i]? = some (.v x)) (h : Hh) : itS (mVar i) env h = .ok (tl ps) h := by
  rcases hx with rfl | rfl <;> simp only [aItS, aVar, he, Res.bind_ok]
def rowsP (H : List Nat → List Nat) (ps : List (List Nat)) (d : Nat) : List PV := (List.range (d + 1)).map fun j => PV.lst (tl (rowT H ps d j))
theorem levels_eq (g : DG n h kd wd H sz) (q : PS ps) {x : PV} (hx : isP ps x) : m_levels [.ref n, x] h = .ok (.lst (rowsP H ps (dpt ps.length))) h := by
  have hd := dpt16 q
  have hn := q.n
  have hdep := depth_eq ps.length (by omega) h
  have hdo := (dpt_ok ps.length).1
  have hr0 := row0 (ps := ps) g (dpt ps.length) hdo
  have hsh := shl1 (dpt ps.length) (by omega) h
  have hrl := row_loop (ps := ps) g (dpt ps.length) (by omega) (.v x) (.v (.tup (ob (H [2])))) .un .un (dpt ps.length) 10 0 (by omega) (by omega)
  have hp16 : 2 ^ dpt ps.length ≤ 2 ^ 4 := Nat.pow_le_pow_right (by decide) hd
  generalize dpt ps.length = d at *
  have kk : lcL (gN 5) mYes (mMeth "Hasher" "digest" m_Hasher_digest (mVar 0) (mCons (mCall m_leaf_text (mCons (mVar 5) mNil)) mNil)) [.v (.ref n), .v x, .un, .un, .un, .un, .un, .un] (tl ps) h = .ok (tl (ps.map fun p => H (0 :: p))) h := by
    have e : tl (ps.map fun p => H (0 :: p)) = ps.map fun p => PV.tup (ob (H (0 :: p))) := by unfold tl; rw [List.map_map]; rfl
    rw [e]
    refine lcL_all (fun p => PV.tup (ob p)) _ _ fun p hp => ⟨_, rfl, ?_⟩
    have hp2 := q.sm p hp
    have hlt := leaf_text_eq p (by omega) h
    refine g.call rfl (bs := 0 :: p) ?_ (fun y hy => by
      rcases List.mem_cons.mp hy with rfl | hy
      · decide
      · exact hp2.1 y hy) (by simp; omega)
    simp only [aCons, aNil, aCall, aVar, List.set_cons_zero, List.set_cons_succ, List.getElem?_cons_zero, List.getElem?_cons_succ, Res.bind_ok, hlt]
  have hz1 : ((tl ps).length ≤ 16777216) = True := eq_true (by rw [tl_len]; omega)
  have one : ∀ a : PV, ([a].length ≤ 16777216) = True := fun a => eq_true (by simp)
  have hem : ∀ s2 : SV, mMeth "Hasher" "digest" m_Hasher_digest (mVar 0) (mCons (mTup (mCons (mC (.int 2)) mNil)) mNil) [.v (.ref n), .v x, s2, .un, .un, .un, .un, .un] h = .ok (.tup (ob (H [2]))) h := fun s2 => g.call rfl (bs := [2]) (by
    simp only [aCons, aNil, aTup, aC, Res.bind_ok, one, if_true]; rfl) (fun y hy => by rw [List.mem_singleton.mp hy]; decide) (by simp)
  have hlen := hx.len h
  have hsub : ((2 ^ d : Nat) : Int) - (ps.length : Int) = ((2 ^ d - ps.length : Nat) : Int) := by omega
  have hrg : rngOk ((2 ^ d - ps.length : Nat) : Int) = true := rngOk_of (by omega) (by omega)
  have hz2 : (((List.range (2 ^ d - ps.length)).map fun (i : Nat) => PV.int (i : Int)).length ≤ 16777216) = True := eq_true (by rw [List.length_map, List.length_range]; omega)
  have k2 : ∀ s2 s4 : SV, lcL (gN 6) mYes (mVar 3) [.v (.ref n), .v x, s2, .v (.tup (ob (H [2]))), s4, .un, .un, .un] ((List.range (2 ^ d - ps.length)).map fun (i : Nat) => PV.int (i : Int)) h = .ok (tl (List.replicate (2 ^ d - ps.length) (H [2]))) h := fun s2 s4 => by
    have e : tl (List.replicate (2 ^ d - ps.length) (H [2])) = (List.range (2 ^ d - ps.length)).map fun _ => PV.tup (ob (H [2])) := by
      unfold tl
      rw [List.map_replicate]
      refine (List.eq_replicate_iff.mpr ⟨by simp, fun y hy => ?_⟩).symm
      obtain ⟨_, _, rfl⟩ := List.mem_map.mp hy; rfl
    rw [e]
    exact lcL_all (fun i : Nat => PV.int (i : Int)) _ _ fun k hk => ⟨_, rfl, by simp only [aVar, List.set_cons_zero, List.set_cons_succ, List.getElem?_cons_zero, List.getElem?_cons_succ]⟩
  have hze : ((tl (ps.map fun p => H (0 :: p))).length + (tl (List.replicate (2 ^ d - ps.length) (H [2]))).length ≤ 16777216) = True := eq_true (by rw [tl_len, tl_len, List.length_map, List.length_replicate]; omega)
  have hap : tl (ps.map fun p => H (0 :: p)) ++ tl (List.replicate (2 ^ d - ps.length) (H [2])) = tl (rowT H ps d 0) := by rw [← hr0]; unfold tl; rw [List.map_append]
  have hit := hx.it 1 (env := [.v (.ref n), .v x, .un, .un, .un, .un, .un, .un]) rfl h
  rw [m_levels, runD, if_pos (show [PV.ref n, x].length = P_levels.length from rfl), b_levels, show startE N_levels.length [PV.ref n, x] = [.v (.ref n), .v x, .un, .un, .un, .un, .un, .un] from rfl]
  have hrl' : whileL (toT (mOp oGt (mCall fLen (mCons (mOwn 2) mNil)) (mC (.int 1)))) b_levels_1 10 [.v (.ref n), .v x, .v (.lst (tl (rowT H ps d 0))), .v (.tup (ob (H [2]))), .own (.lst [.lst (tl (rowT H ps d 0))]), .un, .un, .un] h = _ := hrl
  have ht : (((2 ^ d - ps.length : Nat) : Int)).toNat = 2 ^ d - ps.length := Int.toNat_natCast _
  generalize ((2 ^ d - ps.length : Nat) : Int) = Z at *
  generalize ((2 ^ d : Nat) : Int) = PW at *
  generalize (ps.length : Int) = LL at *
  unfold rowsP
  simp only [aSeq, aSetN, aLc, hit, Res.bind_ok, hz1, if_true, aW0, aW1, List.set_cons_zero, List.set_cons_succ, kk, ofE_ok, aSet, hem, aExt, List.getElem?_cons_zero, List.getElem?_cons_succ, aFz, aR1, aCons, aNil, aOp, aC, aCall, aVar, hlen, hdep, hsh, subI, hsub, hrg, rng_nat, ht, hz2, k2, hze, hap, aFrz, aSzc, one, hrl', aRetOwn]
theorem rows_at (d j : Nat) (hj : j ≤ d) : (rowsP H ps d)[j]? = some (.lst (tl (rowT H ps d j))) := by
  unfold rowsP
  rw [List.getElem?_map, List.getElem?_range (by omega)]; rfl
theorem rows_len (d : Nat) : (rowsP H ps d).length = d + 1 := by unfold rowsP; simp
theorem atI_last {xs : List PV} {x : PV} (h : xs ≠ []) (e : xs.getLast? = some x) : L2.atI xs (-1) = some x := by
  have hl : 0 < xs.length := List.length_pos_iff.mpr h
  unfold L2.atI L2.ixN
  rw [if_neg (by decide), if_pos (by omega), Option.bind_some]
  rw [show ((-1 : Int) + (xs.length : Int)).toNat = xs.length - 1 by omega, ← List.getLast?_eq_getElem?, e]
theorem ix_last {xs : List PV} {x : PV} (h : Hh) (e : xs.getLast? = some x) : oIx (.lst xs) (.int (-1)) h = .ok x h := ixL h (atI_last (fun q => by rw [q] at e; cases e) e)
theorem root_eq' (g : DG n h kd wd H sz) (q : PS ps) {x : PV} (hx : isP ps x) : m_root [.ref n, x] h = .ok (.tup (ob (T H ps (dpt ps.length) 0))) h := by
  have hl := levels_eq g q hx
  have hd := dpt16 q
  generalize dpt ps.length = d at *
  have i1 : oIx (.lst (rowsP H ps d)) (.int (-1)) h = .ok (.lst (tl (rowT H ps d d))) h := ix_last h (by
    rw [List.getLast?_eq_getElem?, rows_len, show d + 1 - 1 = d by omega, rows_at d d (Nat.le_refl _)])
  have i2 : oIx (.lst (tl (rowT H ps d d))) (.int 0) h = .ok (.tup (ob (T H ps d 0))) h := row_ix d d 0 (by rw [Nat.sub_self]; decide) h
  have ng : oNeg (.int 1) h = .ok (.int (-1)) h := rfl
  rw [m_root, runD, if_pos (show [PV.ref n, x].length = P_root.length from rfl), b_root, show startE N_root.length [PV.ref n, x] = [.v (.ref n), .v x] from rfl]
  simp only [aRet, aOp, aUn, aCall, aCons, aNil, aVar, aC, List.getElem?_cons_zero, List.getElem?_cons_succ, Res.bind_ok, hl, ng, i1, i2, ofE_ok]
/-! ### proofs -/
def prfT (H : List Nat → List Nat) (ps : List (List Nat)) (d k : Nat) : List (List Nat) := (List.range d).map fun j => T H ps j ((k >>> j) ^^^ 1)
theorem xor_lt {k d j : Nat} (hk : k < 2 ^ d) (hj : j < d) : (k >>> j) ^^^ 1 < 2 ^ (d - j) := by
  have h1 : k >>> j < 2 ^ (d - j) := by
    rw [Nat.shiftRight_eq_div_pow]
    refine Nat.div_lt_of_lt_mul ?_
    rw [← Nat.pow_add, show j + (d - j) = d by omega]; exact hk
  have h2 : 1 < 2 ^ (d - j) := by
    have : 2 ^ 1 ≤ 2 ^ (d - j) := Nat.pow_le_pow_right (by decide) (by omega)
    omega
  exact Nat.xor_lt_two_pow h1 h2
theorem cut_last (xs : List PV) : cutP xs none (some (-1)) = xs.take (xs.length - 1) := by
  unfold cutP
  have h1 : HT.sIx xs.length 0 none = 0 := rfl
  have h2 : HT.sIx xs.length xs.length (some (-1)) = xs.length - 1 := by
    have : HT.sIx xs.length xs.length (some (-1)) = (if (-1 : Int) < 0 then ((-1 : Int) + (xs.length : Int)).toNat else min (-1 : Int).toNat xs.length) := rfl
    rw [this, if_pos (by decide)]; omega
  rw [h1, h2]; simp
theorem rows_take (d : Nat) : (rowsP H ps d).take d = (List.range d).map fun j => PV.lst (tl (rowT H ps d j)) := by
  unfold rowsP
  rw [← List.map_take, List.take_range, show min d (d + 1) = d by omega]
theorem enum_map (F : Nat → PV) (d : Nat) : enumL ((List.range d).map F) = (List.range d).map fun j => PV.tup [.int (j : Nat), F j] := by
  rw [enumL_eq, List.length_map, List.length_range]
  refine List.map_congr_left fun j hj => ?_
  rw [List.getD_eq_getElem?_getD, List.getElem?_map, List.getElem?_range (List.mem_range.mp hj)]; rfl
theorem shrP (a k : Nat) (h : Hh) : oShr (.int (a : Int)) (.int (k : Int)) h = .ok (.int ((a >>> k : Nat) : Int)) h := shrN h a k
theorem xor1 (a : Nat) (h : Hh) : oXor (.int (a : Int)) (.int 1) h = .ok (.int ((a ^^^ 1 : Nat) : Int)) h := xorN h a 1
theorem proofs_eq (g : DG n h kd wd H sz) (q : PS ps) {x : PV} (hx : isP ps x) : m_proofs [.ref n, x] h = .ok (.tup ((List.range ps.length).map fun k => PV.tup (tl (prfT H ps (dpt ps.length) k)))) h := by
  have hl := levels_eq g q hx
  have hd := dpt16 q
  have hn := q.n
  have hdo := (dpt_ok ps.length).1
  generalize dpt ps.length = d at *
  have ng : oNeg (.int 1) h = .ok (.int (-1)) h := rfl
  have hsl : oSl (.lst (rowsP H ps d)) none (some (-1)) h = .ok (.lst ((List.range d).map fun j => PV.lst (tl (rowT H ps d j)))) h := by
    have := cut_last (rowsP H ps d)
    rw [rows_len, show d + 1 - 1 = d by omega, rows_take] at this
    rw [oSl, this]
  obtain ⟨env', q1, t4, q2⟩ := forL_inv (g := gN 4) (b := b_proofs_1) (h := h) (fun k : Nat => PV.int (k : Int))
    (fun pre env => ∃ t4, env = [.v (.ref n), .v x, .v (.lst (rowsP H ps d)), .own (.lst ((List.range pre.length).map fun k => PV.tup (tl (prfT H ps d k)))), t4, .un, .un]) (List.range ps.length) []
    (fun pre k post e env ⟨t4, q2⟩ => by
      subst q2
      obtain ⟨rfl, hk⟩ := range_at (by rw [← e]; rfl : List.range ps.length = pre ++ k :: post)
      have kk : ∀ s3 : SV, lcL (gTuA 2 (gCs (gN 5) (gCs (gN 6) gNl))) mYes (mOp oIx (mVar 6) (mOp oXor (mOp oShr (mVar 4) (mVar 5)) (mC (.int 1)))) [.v (.ref n), .v x, .v (.lst (rowsP H ps d)), s3, .v (.int (pre.length : Int)), .un, .un] (enumL ((List.range d).map fun j => PV.lst (tl (rowT H ps d j)))) h = .ok (tl (prfT H ps d pre.length)) h := fun s3 => by
        rw [enum_map]
        have e : tl (prfT H ps d pre.length) = (List.range d).map fun j => PV.tup (ob (T H ps j ((pre.length >>> j) ^^^ 1))) := by unfold tl prfT; rw [List.map_map]; rfl
        rw [e]
        refine lcL_all (fun j : Nat => PV.tup [.int (j : Nat), .lst (tl (rowT H ps d j))]) _ _ fun j hj => ⟨_, rfl, ?_⟩
        have hj' := List.mem_range.mp hj
        have hix := row_ix (H := H) (ps := ps) d j ((pre.length >>> j) ^^^ 1) (xor_lt (by omega) hj') h
        simp only [aOp, aVar, aC, List.set_cons_zero, List.set_cons_succ, List.getElem?_cons_zero, List.getElem?_cons_succ, Res.bind_ok, shrP, xor1, hix]
      have hz : ((enumL ((List.range d).map fun j => PV.lst (tl (rowT H ps d j)))).length ≤ 16777216) = True := eq_true (by rw [enum_map, List.length_map, List.length_range]; omega)
      have hz2 : (((List.range pre.length).map fun k => PV.tup (tl (prfT H ps d k))).length < 16777216) = True := eq_true (by rw [List.length_map, List.length_range]; omega)
      have hrr : ((List.range pre.length).map fun k => PV.tup (tl (prfT H ps d k))) ++ [PV.tup (tl (prfT H ps d pre.length))] = (List.range (pre.length + 1)).map fun k => PV.tup (tl (prfT H ps d k)) := by
        rw [List.range_succ, List.map_append]; rfl
      refine ⟨_, [.v (.ref n), .v x, .v (.lst (rowsP H ps d)), .own (.lst ((List.range (pre.length + 1)).map fun k => PV.tup (tl (prfT H ps d k)))), .v (.int (pre.length : Int)), .un, .un], rfl, ?_, .v (.int (pre.length : Int)), by rw [List.length_append, List.length_singleton]⟩
      rw [b_proofs_1]
      simp only [aApp, List.getElem?_cons_zero, List.getElem?_cons_succ, List.set_cons_zero, List.set_cons_succ, aCall, aCons, aNil, aFz, aLc, aItE, aSl, aOn, aOs, aUn, aC, aVar, Res.bind_ok, ng, hsl, hz, if_true, aW0, aW1, kk, tupL, ofE_ok, hz2, hrr])
    [.v (.ref n), .v x, .v (.lst (rowsP H ps d)), .own (.lst []), .un, .un, .un] ⟨.un, rfl⟩
  rw [List.nil_append, List.length_range] at q2
  subst q2
  have nil0 : (([] : List PV).length ≤ 16777216) = True := eq_true (by simp)
  have hlen := hx.len h
  have hrg : rngOk (ps.length : Int) = true := rngOk_of (by omega) (by omega)
  have ht : (ps.length : Int).toNat = ps.length := Int.toNat_natCast _
  rw [m_proofs, runD, if_pos (show [PV.ref n, x].length = P_proofs.length from rfl), b_proofs, show startE N_proofs.length [PV.ref n, x] = [.v (.ref n), .v x, .un, .un, .un, .un, .un] from rfl]
  generalize (ps.length : Int) = LL at *
  simp only [aSeq, aSet, aCall, aCons, aNil, aVar, List.getElem?_cons_zero, List.getElem?_cons_succ, Res.bind_ok, hl, ofE_ok, List.set_cons_zero, List.set_cons_succ, aSetN, aSzc, nil0, if_true, aFor, aR1, hlen, hrg, rng_nat, ht, q1, aRet, aOwn, tupL]
end
end Law

set_option Elab.async false
set_option linter.all false
set_option maxRecDepth 100000
set_option maxHeartbeats 1000000
set_option exponentiation.threshold 3000
namespace Law
open PySem Mir
section
variable {n : Nat} {h : Hh} {kd wd : PV} {H : List Nat → List Nat} {sz : Nat} {ps : List (List Nat)}
theorem digestL (g : DG n h kd wd H sz) (bs : List Nat) (hb : small8 bs) (hl : bs.length ≤ 200) : m_L_digest [kd, wd, .tup (ob bs)] h = .ok (.tup (ob (H bs))) h := g.ldig bs hb hl
theorem ltop_eq (g : DG n h kd wd H sz) (q : PS ps) : ∀ (j fuel i : Nat), j < fuel → j ≤ 20 → m_L_top fuel [kd, wd, .lst (tl ps), .int ((i * 2 ^ j : Nat) : Int), .int (j : Int)] h = .ok (.tup (ob (T H ps j i))) h := by
  intro j
  induction j with
  | zero =>
    intro fuel i hf _
    obtain ⟨fuel, rfl⟩ : ∃ k, fuel = k + 1 := ⟨fuel - 1, by omega⟩
    have e0 : oEq (.int ((0 : Nat) : Int)) (.int 0) h = .ok (.bl true) h := rfl
    have hlen : fLen [.lst (tl ps)] h = .ok (.int (ps.length : Int)) h := by rw [lenI, tl_len]
    have one : ∀ a : PV, ([a].length ≤ 16777216) = True := fun a => eq_true (by simp)
    have hlf := leaf_ok q i
    have hdg := g.ldig (leafT ps i) hlf.1 (by omega)
    have ht : ∀ (x4 x5 x6 x7 x8 : SV), (mIf (toT (mOp oLt (mVar 3) (mCall fLen (mCons (mVar 2) mNil)))) (mOp oAdd (mTup (mCons (mC (.int 0)) mNil)) (mOp oIx (mVar 2) (mVar 3))) (mTup (mCons (mC (.int 2)) mNil))) [.v kd, .v wd, .v (.lst (tl ps)), .v (.int (i : Int)), x4, x5, x6, x7, x8] h = .ok (.tup (ob (leafT ps i))) h := fun x4 x5 x6 x7 x8 => by
      by_cases c : i < ps.length
      · have hc : oLt (.int (i : Int)) (.int (ps.length : Int)) h = .ok (.bl true) h := by rw [ltI, decide_eq_true (by omega)]
        have hp := q.sm ps[i] (List.getElem_mem c)
        have hix : oIx (.lst (tl ps)) (.int (i : Int)) h = .ok (.tup (ob ps[i])) h := ixL h (L2.atI_nat (by rw [List.getElem?_map, List.getElem?_eq_getElem c]; rfl))
        have hl2 : leafT ps i = 0 :: ps[i] := by unfold leafT; rw [List.getElem?_eq_getElem c]
        have ha : oAdd (.tup [.int 0]) (.tup (ob ps[i])) h = .ok (.tup (ob (0 :: ps[i]))) h := by rw [addT h (by rw [ob_len]; simp; omega)]; rfl
        rw [hl2]
        simp only [aIf, aToT, aOp, aCall, aCons, aNil, aVar, aC, aTup, List.getElem?_cons_zero, List.getElem?_cons_succ, Res.bind_ok, hlen, hc, if_true, one, hix, ha]
      · have hc : oLt (.int (i : Int)) (.int (ps.length : Int)) h = .ok (.bl false) h := by rw [ltI, decide_eq_false (by omega)]
        have hl2 : leafT ps i = [2] := by unfold leafT; rw [List.getElem?_eq_none (by omega)]
        rw [hl2]
        simp only [aIf, aToT, aOp, aCall, aCons, aNil, aVar, aC, aTup, List.getElem?_cons_zero, List.getElem?_cons_succ, Res.bind_ok, hlen, hc, Bool.false_eq_true, if_false, one, if_true]
        rfl
    rw [Nat.pow_zero, Nat.mul_one]
    show runD _ _ (b_L_top _) _ _ = _
    rw [runD, if_pos (show [kd, wd, PV.lst (tl ps), .int (i : Int), .int ((0 : Nat) : Int)].length = P_L_top.length from rfl), b_L_top, show startE N_L_top.length [kd, wd, .lst (tl ps), .int (i : Int), .int ((0 : Nat) : Int)] = [.v kd, .v wd, .v (.lst (tl ps)), .v (.int (i : Int)), .v (.int ((0 : Nat) : Int)), .un, .un, .un, .un] from rfl]
    generalize (i : Int) = I at *
    simp only [aSeq, aIfS, aToT, aOp, aVar, aC, List.getElem?_cons_zero, List.getElem?_cons_succ, Res.bind_ok, e0, ofE_ok, if_true, aSet, ht, List.set_cons_zero, List.set_cons_succ, aRet, aCall, aCons, aNil, hdg]
    rfl
  | succ j ih =>
    intro fuel i hf hj
    obtain ⟨fuel, rfl⟩ : ∃ k, fuel = k + 1 := ⟨fuel - 1, by omega⟩
    have e0 : oEq (.int ((j + 1 : Nat) : Int)) (.int 0) h = .ok (.bl false) h := by rw [eqI, decide_eq_false (by omega)]
    have e1 : ((j + 1 : Nat) : Int) - 1 = (j : Int) := by omega
    have hsh := shl1 j (by omega) h
    have hl := ih fuel (2 * i) (by omega) (by omega)
    have hr := ih fuel (2 * i + 1) (by omega) (by omega)
    have f1 : 2 * i * 2 ^ j = i * 2 ^ (j + 1) := by rw [Nat.pow_succ, Nat.mul_comm 2 i, Nat.mul_assoc, Nat.mul_comm 2 (2 ^ j)]
    have f2 : ((i * 2 ^ (j + 1) : Nat) : Int) + ((2 ^ j : Nat) : Int) = (((2 * i + 1) * 2 ^ j : Nat) : Int) := by
      rw [← f1, Nat.add_mul, Nat.one_mul]; omega
    rw [f1] at hl
    have one : ∀ a : PV, ([a].length ≤ 16777216) = True := fun a => eq_true (by simp)
    have l1 := T_len (ps := ps) g j (2 * i)
    have l2 := T_len (ps := ps) g j (2 * i + 1)
    have hle := g.le
    have ha : oAdd (.tup [.int 1]) (.tup (ob (T H ps j (2 * i)))) h = .ok (.tup (ob (1 :: T H ps j (2 * i)))) h := by rw [addT h (by rw [ob_len]; simp; omega)]; rfl
    have hb : oAdd (.tup (ob (1 :: T H ps j (2 * i)))) (.tup (ob (T H ps j (2 * i + 1)))) h = .ok (.tup (ob (1 :: (T H ps j (2 * i) ++ T H ps j (2 * i + 1))))) h := by rw [addT h (by rw [ob_len, ob_len]; simp; omega), ob_app]; rfl
    have hdg := g.ldig (1 :: (T H ps j (2 * i) ++ T H ps j (2 * i + 1))) (node_ok (T_small g _ _) (T_small g _ _)) (by simp; omega)
    have hT : H (1 :: (T H ps j (2 * i) ++ T H ps j (2 * i + 1))) = T H ps (j + 1) i := rfl
    rw [hT] at hdg
    show runD _ _ (b_L_top _) _ _ = _
    rw [runD, if_pos (show [kd, wd, PV.lst (tl ps), .int ((i * 2 ^ (j + 1) : Nat) : Int), .int ((j + 1 : Nat) : Int)].length = P_L_top.length from rfl), b_L_top, show startE N_L_top.length [kd, wd, .lst (tl ps), .int ((i * 2 ^ (j + 1) : Nat) : Int), .int ((j + 1 : Nat) : Int)] = [.v kd, .v wd, .v (.lst (tl ps)), .v (.int ((i * 2 ^ (j + 1) : Nat) : Int)), .v (.int ((j + 1 : Nat) : Int)), .un, .un, .un, .un] from rfl]
    generalize ((i * 2 ^ (j + 1) : Nat) : Int) = A at *
    generalize (((2 * i + 1) * 2 ^ j : Nat) : Int) = B at *
    generalize ((2 ^ j : Nat) : Int) = C at *
    generalize ((j + 1 : Nat) : Int) = J1 at *
    simp only [aSeq, aIfS, aToT, aOp, aVar, aC, List.getElem?_cons_zero, List.getElem?_cons_succ, Res.bind_ok, e0, ofE_ok, Bool.false_eq_true, if_false, aSkip, aSet, subI, e1, hsh, List.set_cons_zero, List.set_cons_succ, aCall, aCons, aNil, hl, addI, f2, hr, aRet, aTup, one, if_true, ha, hb, hdg]
theorem lproof_eq (g : DG n h kd wd H sz) (q : PS ps) (k : Nat) (hk : k < ps.length) : m_L_proof [kd, wd, .lst (tl ps), .int (k : Int)] h = .ok (.tup (tl (prfT H ps (dpt ps.length) k))) h := by
  have hd := dpt16 q
  have hn := q.n
  have hdo := (dpt_ok ps.length).1
  have hld := ldepth_eq ps.length (by omega) h
  generalize dpt ps.length = d at *
  obtain ⟨env', q1, t6, t7, q2⟩ := forL_inv (g := gN 6) (b := b_L_proof_1) (h := h) (fun j : Nat => PV.int (j : Int))
    (fun pre env => ∃ t6 t7, env = [.v kd, .v wd, .v (.lst (tl ps)), .v (.int (k : Int)), .v (.int (d : Int)), .v (.tup ((List.range pre.length).map fun j => PV.tup (ob (T H ps j ((k >>> j) ^^^ 1))))), t6, t7]) (List.range d) []
    (fun pre j post e env ⟨t6, t7, q2⟩ => by
      subst q2
      obtain ⟨rfl, hj⟩ := range_at (by rw [← e]; rfl : List.range d = pre ++ j :: post)
      have hx := xor_lt (k := k) (d := d) (by omega) hj
      have hx2 : (k >>> pre.length) ^^^ 1 < 2 ^ 10 := Nat.lt_of_lt_of_le hx (Nat.pow_le_pow_right (by decide) (by omega))
      obtain ⟨o, ho⟩ : ∃ o, o = (k >>> pre.length) ^^^ 1 := ⟨_, rfl⟩
      have hs := shrP k pre.length h
      have hxo := xor1 (k >>> pre.length) h
      rw [← ho] at hx2 hxo
      have hsh := shlN h (a := o) (k := pre.length) (by have := log2_of_lt hx2; omega)
      rw [Nat.shiftLeft_eq] at hsh
      have htop := ltop_eq g q pre.length 6 o (by omega) (by omega)
      have one : ∀ a : PV, ([a].length ≤ 16777216) = True := fun a => eq_true (by simp)
      have ha : oAdd (.tup ((List.range pre.length).map fun j => PV.tup (ob (T H ps j ((k >>> j) ^^^ 1))))) (.tup [.tup (ob (T H ps pre.length o))]) h = .ok (.tup ((List.range (pre.length + 1)).map fun j => PV.tup (ob (T H ps j ((k >>> j) ^^^ 1))))) h := by
        rw [addT h (by rw [List.length_map, List.length_range]; simp; omega), List.range_succ, List.map_append, ho]; rfl
      refine ⟨_, [.v kd, .v wd, .v (.lst (tl ps)), .v (.int (k : Int)), .v (.int (d : Int)), .v (.tup ((List.range (pre.length + 1)).map fun j => PV.tup (ob (T H ps j ((k >>> j) ^^^ 1))))), .v (.int (pre.length : Int)), .v (.int (o : Int))], rfl, ?_, .v (.int (pre.length : Int)), .v (.int (o : Int)), by rw [List.length_append, List.length_singleton]⟩
      rw [b_L_proof_1]
      generalize ((o * 2 ^ pre.length : Nat) : Int) = SH at *
      simp only [aSeq, aSet, aOp, aVar, aC, List.getElem?_cons_zero, List.getElem?_cons_succ, List.set_cons_zero, List.set_cons_succ, Res.bind_ok, hs, hxo, ofE_ok, aTup, aCons, aNil, aCall, hsh, htop, one, if_true, ha])
    [.v kd, .v wd, .v (.lst (tl ps)), .v (.int (k : Int)), .v (.int (d : Int)), .v (.tup []), .un, .un] ⟨.un, .un, rfl⟩
  rw [List.nil_append, List.length_range] at q2
  subst q2
  have e : tl (prfT H ps d k) = (List.range d).map fun j => PV.tup (ob (T H ps j ((k >>> j) ^^^ 1))) := by unfold tl prfT; rw [List.map_map]; rfl
  have hlen : fLen [.lst (tl ps)] h = .ok (.int (ps.length : Int)) h := by rw [lenI, tl_len]
  have nil0 : (([] : List PV).length ≤ 16777216) = True := eq_true (by simp)
  have hrg : rngOk (d : Int) = true := rngOk_of (by omega) (by omega)
  have ht : (d : Int).toNat = d := Int.toNat_natCast _
  rw [e, m_L_proof, runD, if_pos (show [kd, wd, PV.lst (tl ps), .int (k : Int)].length = P_L_proof.length from rfl), b_L_proof, show startE N_L_proof.length [kd, wd, .lst (tl ps), .int (k : Int)] = [.v kd, .v wd, .v (.lst (tl ps)), .v (.int (k : Int)), .un, .un, .un, .un] from rfl]
  generalize (d : Int) = DD at *
  generalize (k : Int) = KK at *
  generalize (ps.length : Int) = LL at *
  simp only [aSeq, aSet, aCall, aCons, aNil, aVar, List.getElem?_cons_zero, List.getElem?_cons_succ, List.set_cons_zero, List.set_cons_succ, Res.bind_ok, hlen, hld, ofE_ok, aTup, nil0, if_true, aFor, aR1, hrg, rng_nat, ht, q1, aRet]
/-! ### fold -/
theorem bit0 : ∀ a, a < 64 → (a % 2 = 1 → a ^^^ 1 = a - 1) ∧ (a % 2 = 0 → a ^^^ 1 = a + 1) := by decide +kernel
theorem and1 (a : Nat) (h : Hh) : oAnd (.int (a : Int)) (.int 1) h = .ok (.int ((a % 2 : Nat) : Int)) h := by
  have := andN h a 1
  rw [Nat.and_one_is_mod] at this; exact this
theorem path_step (g : DG n h kd wd H sz) (k j : Nat) (hk : k < 64) (x2 x3 x7 : SV) (t : List Nat) (hs : small8 t) (hl : t.length ≤ 60) (ht : H t = T H ps j (k >>> j)) (xs : List PV) (hx : xs.getLast? = some (.tup (ob t))) (hxl : xs.length ≤ 100) :
    ∃ t', small8 t' ∧ t'.length ≤ 60 ∧ H t' = T H ps (j + 1) (k >>> (j + 1)) ∧ ∃ t7, b_path_1 [.v (.ref n), .v (.int (k : Int)), x2, x3, .own (.lst xs), .v (.int (j : Int)), .v (.tup (ob (T H ps j ((k >>> j) ^^^ 1)))), x7] h =
      .nx [.v (.ref n), .v (.int (k : Int)), x2, x3, .own (.lst (xs ++ [.tup (ob t')])), .v (.int (j : Int)), .v (.tup (ob (T H ps j ((k >>> j) ^^^ 1)))), t7] h := by
  have e2 : k >>> (j + 1) = (k >>> j) / 2 := by rw [Nat.shiftRight_succ]
  have hs1 := shrP k j h
  have ha64 : k >>> j < 64 := Nat.lt_of_le_of_lt (Nat.shiftRight_le k j) hk
  obtain ⟨a, ha⟩ : ∃ a, a = k >>> j := ⟨_, rfl⟩
  rw [← ha] at hs1 ht ha64 e2 ⊢
  have hb := bit0 a ha64
  have hand := and1 a h
  have hle := g.le
  refine ⟨1 :: (T H ps j (2 * (a / 2)) ++ T H ps j (2 * (a / 2) + 1)), node_ok (T_small g _ _) (T_small g _ _), by rw [List.length_cons, List.length_append, T_len g, T_len g]; omega, by rw [e2]; rfl, .v (.tup (ob (T H ps j a))), ?_⟩
  have hil := ix_last h hx
  have ng : oNeg (.int 1) h = .ok (.int (-1)) h := rfl
  have hbel : mMeth "Hasher" "digest" m_Hasher_digest (mVar 0) (mCons (mOp oIx (mOwn 4) (mUn oNeg (mC (.int 1)))) mNil) [.v (.ref n), .v (.int (k : Int)), x2, x3, .own (.lst xs), .v (.int (j : Int)), .v (.tup (ob (T H ps j (a ^^^ 1)))), x7] h = .ok (.tup (ob (T H ps j a))) h := by
    rw [← ht]
    exact g.call rfl (by simp only [aCons, aNil, aOp, aOwn, aUn, aC, List.getElem?_cons_zero, List.getElem?_cons_succ, Res.bind_ok, ng, hil]) hs (by omega)
  have hxs : xs.length < 16777216 := by omega
  have l1 : ∀ i, (T H ps j i).length ≤ 1000 := fun i => by rw [T_len g]; omega
  have hcond : mIf (toT (mOp oEq (mOp oAnd (mOp oShr (mVar 1) (mVar 5)) (mC (.int 1))) (mC (.int 1)))) (mCall m_node_text (mCons (mVar 6) (mCons (mVar 7) mNil))) (mCall m_node_text (mCons (mVar 7) (mCons (mVar 6) mNil))) [.v (.ref n), .v (.int (k : Int)), x2, x3, .own (.lst xs), .v (.int (j : Int)), .v (.tup (ob (T H ps j (a ^^^ 1)))), .v (.tup (ob (T H ps j a)))] h = .ok (.tup (ob (1 :: (T H ps j (2 * (a / 2)) ++ T H ps j (2 * (a / 2) + 1))))) h := by
    by_cases c : a % 2 = 1
    · have hc : oEq (.int ((a % 2 : Nat) : Int)) (.int 1) h = .ok (.bl true) h := by rw [c]; rfl
      have x1 : a ^^^ 1 = 2 * (a / 2) := by rw [hb.1 c]; omega
      have x2' : a = 2 * (a / 2) + 1 := by omega
      have hn := node_text_eq (T H ps j (a ^^^ 1)) (T H ps j a) (l1 _) (l1 _) h
      have hg : T H ps j (2 * (a / 2)) ++ T H ps j (2 * (a / 2) + 1) = T H ps j (a ^^^ 1) ++ T H ps j a := by rw [x1, ← x2']
      rw [hg]
      simp only [aIf, aToT, aOp, aVar, aC, List.getElem?_cons_zero, List.getElem?_cons_succ, Res.bind_ok, hs1, hand, hc, if_true, aCall, aCons, aNil, hn]
    · have c0 : a % 2 = 0 := by omega
      have hc : oEq (.int ((a % 2 : Nat) : Int)) (.int 1) h = .ok (.bl false) h := by rw [c0]; rfl
      have x1 : a ^^^ 1 = 2 * (a / 2) + 1 := by rw [hb.2 c0]; omega
      have x2' : a = 2 * (a / 2) := by omega
      have hn := node_text_eq (T H ps j a) (T H ps j (a ^^^ 1)) (l1 _) (l1 _) h
      have hg : T H ps j (2 * (a / 2)) ++ T H ps j (2 * (a / 2) + 1) = T H ps j a ++ T H ps j (a ^^^ 1) := by rw [x1, ← x2']
      rw [hg]
      simp only [aIf, aToT, aOp, aVar, aC, List.getElem?_cons_zero, List.getElem?_cons_succ, Res.bind_ok, hs1, hand, hc, Bool.false_eq_true, if_false, aCall, aCons, aNil, hn]
  rw [b_path_1]
  simp only [aSeq, aSet, hbel, ofE_ok, List.set_cons_zero, List.set_cons_succ, aApp, List.getElem?_cons_zero, List.getElem?_cons_succ, hcond, hxs, if_true]
theorem fold_eq (g : DG n h kd wd H sz) (q : PS ps) (k : Nat) (hk : k < ps.length) : m_fold [.ref n, .int (k : Int), .tup (ob ps[k]), .tup (tl (prfT H ps (dpt ps.length) k))] h = .ok (.tup (ob (T H ps (dpt ps.length) 0))) h := by
  have hd := dpt16 q
  have hn := q.n
  have hdo := (dpt_ok ps.length).1
  have hkd : k < 2 ^ dpt ps.length := by omega
  generalize dpt ps.length = d at *
  have hp := q.sm ps[k] (List.getElem_mem hk)
  have e : tl (prfT H ps d k) = (List.range d).map fun j => PV.tup (ob (T H ps j ((k >>> j) ^^^ 1))) := by unfold tl prfT; rw [List.map_map]; rfl
  have hleaf : H (0 :: ps[k]) = T H ps 0 (k >>> 0) := by
    show _ = H (leafT ps (k >>> 0))
    rw [Nat.shiftRight_zero]
    unfold leafT; rw [List.getElem?_eq_getElem hk]
  obtain ⟨env', q1, t5, t6, t7, t, xs, q2, q3, q4, q5, q6, q7⟩ := forL_inv (g := gTuA 2 (gCs (gN 5) (gCs (gN 6) gNl))) (b := b_path_1) (h := h) (fun j : Nat => PV.tup [.int (j : Nat), PV.tup (ob (T H ps j ((k >>> j) ^^^ 1)))])
    (fun pre env => ∃ t5 t6 t7 t xs, env = [.v (.ref n), .v (.int (k : Int)), .v (.tup (ob ps[k])), .v (.tup (tl (prfT H ps d k))), .own (.lst xs), t5, t6, t7] ∧ small8 t ∧ t.length ≤ 60 ∧ H t = T H ps pre.length (k >>> pre.length) ∧ xs.getLast? = some (.tup (ob t)) ∧ xs.length = pre.length + 1) (List.range d) []
    (fun pre j post e env ⟨t5, t6, t7, t, xs, q2, q3, q4, q5, q6, q7⟩ => by
      subst q2
      obtain ⟨rfl, hj⟩ := range_at (by rw [← e]; rfl : List.range d = pre ++ j :: post)
      obtain ⟨t', s1, s2, s3, u7, s4⟩ := path_step (ps := ps) g k pre.length (by omega) (.v (.tup (ob ps[k]))) (.v (.tup (tl (prfT H ps d k)))) t7 t q3 q4 q5 xs q6 (by omega)
      refine ⟨_, _, rfl, s4, _, _, _, t', _, rfl, s1, s2, ?_, by simp, by rw [List.length_append, q7, List.length_append]; rfl⟩
      rw [List.length_append, List.length_singleton]; exact s3)
    [.v (.ref n), .v (.int (k : Int)), .v (.tup (ob ps[k])), .v (.tup (tl (prfT H ps d k))), .own (.lst [.tup (ob (0 :: ps[k]))]), .un, .un, .un] ⟨.un, .un, .un, 0 :: ps[k], _, rfl, fun y hy => by
      rcases List.mem_cons.mp hy with rfl | hy
      · decide
      · exact hp.1 y hy, by simp; omega, hleaf, rfl, rfl⟩
  rw [List.nil_append, List.length_range] at q5
  subst q2
  have hzero : k >>> d = 0 := by rw [Nat.shiftRight_eq_div_pow]; exact Nat.div_eq_of_lt hkd
  rw [hzero] at q5
  have hen : enumL (tl (prfT H ps d k)) = (List.range d).map fun j : Nat => PV.tup [.int (j : Nat), PV.tup (ob (T H ps j ((k >>> j) ^^^ 1)))] := by rw [e, enum_map]
  have hlt := leaf_text_eq ps[k] (by omega) h
  have one : ∀ a : PV, ([a].length ≤ 16777216) = True := fun a => eq_true (by simp)
  have hpath : m_path [.ref n, .int (k : Int), .tup (ob ps[k]), .tup (tl (prfT H ps d k))] h = .ok (.lst xs) h := by
    rw [m_path, runD, if_pos (show [PV.ref n, .int (k : Int), .tup (ob ps[k]), .tup (tl (prfT H ps d k))].length = P_path.length from rfl), b_path, show startE N_path.length [PV.ref n, .int (k : Int), .tup (ob ps[k]), .tup (tl (prfT H ps d k))] = [.v (.ref n), .v (.int (k : Int)), .v (.tup (ob ps[k])), .v (.tup (tl (prfT H ps d k))), .un, .un, .un, .un] from rfl]
    generalize (k : Int) = KK at *
    simp only [aSeq, aSetN, aSzc, aCons, aNil, aCall, aVar, List.getElem?_cons_zero, List.getElem?_cons_succ, List.set_cons_zero, List.set_cons_succ, Res.bind_ok, hlt, one, if_true, ofE_ok, aFor, aItE, hen, q1, aRetOwn]
  have hil := ix_last h q6
  have ng : oNeg (.int 1) h = .ok (.int (-1)) h := rfl
  have hcall : mMeth "Hasher" "digest" m_Hasher_digest (mVar 0) (mCons (mOp oIx (mCall m_path (mCons (mVar 0) (mCons (mVar 1) (mCons (mVar 2) (mCons (mVar 3) mNil))))) (mUn oNeg (mC (.int 1)))) mNil) [.v (.ref n), .v (.int (k : Int)), .v (.tup (ob ps[k])), .v (.tup (tl (prfT H ps d k)))] h = .ok (.tup (ob (T H ps d 0))) h := by
    rw [← q5]
    exact g.call rfl (by simp only [aCons, aNil, aOp, aCall, aVar, aUn, aC, List.getElem?_cons_zero, List.getElem?_cons_succ, Res.bind_ok, hpath, ng, hil]) q3 (by omega)
  rw [m_fold, runD, if_pos (show [PV.ref n, .int (k : Int), .tup (ob ps[k]), .tup (tl (prfT H ps d k))].length = P_fold.length from rfl), b_fold, show startE N_fold.length [PV.ref n, .int (k : Int), .tup (ob ps[k]), .tup (tl (prfT H ps d k))] = [.v (.ref n), .v (.int (k : Int)), .v (.tup (ob ps[k])), .v (.tup (tl (prfT H ps d k)))] from rfl]
  simp only [aRet, hcall, ofE_ok]
end
end Law

set_option Elab.async false
set_option linter.all false
set_option maxRecDepth 100000
set_option maxHeartbeats 1000000
set_option exponentiation.threshold 3000
namespace Law
open PySem Mir
/-! ### equality of octets, of rows of octets -/
abbrev dT (a : List Nat) : PyData := .tuple (a.map fun b : Nat => .int (b : Int))
theorem toD_ob (a : List Nat) : toD (.tup (ob a)) = some (dT a) := by
  rw [toD, toDs_map (fun b : Nat => PV.int (b : Int)) (fun b : Nat => PyData.int (b : Int)) a (fun b _ => by rw [toD])]; rfl
theorem toD_tl (l : List (List Nat)) : toD (.tup (tl l)) = some (.tuple (l.map dT)) := by
  rw [toD, toDs_map (fun p : List Nat => PV.tup (ob p)) dT l (fun p _ => toD_ob p)]; rfl
theorem eqv_ints : ∀ a b : List Nat, PyData.eqvAll (a.map fun b : Nat => .int (b : Int)) (b.map fun b : Nat => .int (b : Int)) = decide (a = b)
  | [], [] => by simp [PyData.eqvAll]
  | [], _ :: _ => by simp [PyData.eqvAll]
  | _ :: _, [] => by simp [PyData.eqvAll]
  | x :: r, y :: s => by
    rw [List.map_cons, List.map_cons]
    simp only [PyData.eqvAll, PyData.eqv, eqv_ints r s]
    by_cases e : x = y
    · subst e; simp
    · have : ¬ ((x : Int) = (y : Int)) := by omega
      simp [e, this]
theorem eqv_dT (a b : List Nat) : PyData.eqv (dT a) (dT b) = decide (a = b) := by
  simp only [PyData.eqv]; exact eqv_ints a b
theorem eqv_rows : ∀ a b : List (List Nat), PyData.eqvAll (a.map dT) (b.map dT) = decide (a = b)
  | [], [] => by simp [PyData.eqvAll]
  | [], _ :: _ => by simp [PyData.eqvAll]
  | _ :: _, [] => by simp [PyData.eqvAll]
  | x :: r, y :: s => by
    rw [List.map_cons, List.map_cons]
    simp only [PyData.eqvAll, eqv_dT, eqv_rows r s]
    by_cases e : x = y
    · subst e; simp
    · simp [e]
theorem lv_ob (a : List Nat) : lv 1 (.tup (ob a)) = true := by rw [ob_ints]; exact lv_tints _
theorem lv_tl (l : List (List Nat)) : lv 2 (.tup (tl l)) = true := by
  unfold lv
  refine List.all_eq_true.mpr fun x hx => ?_
  obtain ⟨p, _, rfl⟩ := List.mem_map.mp hx
  exact lv_ob p
theorem shaped_of {n : Nat} {x : PV} {d : PyData} (hn : n ≤ 64) (h : lv n x = true) (e : toD x = some d) : SeqAt.shaped d = true := by
  obtain ⟨d', e', s, _⟩ := lv_shaped h hn
  rw [e] at e'; cases e'; exact s
theorem eqG_of {n : Nat} (hn : n ≤ 64) (neg : Bool) {x y : PV} {dx dy : PyData} (sx : sEq x y = none) (hx : lv n x = true) (hy : lv n y = true) (ex : toD x = some dx) (ey : toD y = some dy) (h : Hh) :
    oEqG neg x y h = .ok (.bl (if neg then !PyData.eqv dx dy else PyData.eqv dx dy)) h := by
  unfold oEqG
  rw [sx, ex, ey]
  simp only [shaped_of hn hx ex, shaped_of hn hy ey, Bool.and_self, if_true]
theorem eq_ob (a b : List Nat) (h : Hh) : oEq (.tup (ob a)) (.tup (ob b)) h = .ok (.bl (decide (a = b))) h := by
  have := eqG_of (n := 1) (by decide) false (x := .tup (ob a)) (y := .tup (ob b)) rfl (lv_ob a) (lv_ob b) (toD_ob a) (toD_ob b) h
  rw [eqv_dT] at this; exact this
theorem ne_ob (a b : List Nat) (h : Hh) : oNe (.tup (ob a)) (.tup (ob b)) h = .ok (.bl (!decide (a = b))) h := by
  have := eqG_of (n := 1) (by decide) true (x := .tup (ob a)) (y := .tup (ob b)) rfl (lv_ob a) (lv_ob b) (toD_ob a) (toD_ob b) h
  rw [eqv_dT] at this; exact this
theorem eq_tl (a b : List (List Nat)) (h : Hh) : oEq (.tup (tl a)) (.tup (tl b)) h = .ok (.bl (decide (a = b))) h := by
  have := eqG_of (n := 2) (by decide) false (x := .tup (tl a)) (y := .tup (tl b)) rfl (lv_tl a) (lv_tl b) (toD_tl a) (toD_tl b) h
  simp only [PyData.eqv, eqv_rows] at this; exact this
/-! ### octets, proofs -/
theorem all_true {α : Type} (l : List α) (h : Hh) : fAll [.lst (l.map fun _ => PV.bl true)] h = .ok (.bl true) h := by
  rw [all_bl (fun _ => true) l h]; simp
structure DH (n : Nat) (h : Hh) (kd wd : PV) (H : List Nat → List Nat) (sz : Nat) : Prop where
  g : DG n h kd wd H sz
  at_ : ∃ ns vs, h[n]? = some (.ins "Hasher" ns vs) ∧ getF "kind" ns vs = some kd ∧ getF "size" ns vs = some (.int (sz : Int)) ∧ getF "is_digest" ns vs = none
section
variable {n : Nat} {h : Hh} {kd wd : PV} {H : List Nat → List Nat} {sz : Nat} {ps : List (List Nat)}
theorem DH.kind (g : DH n h kd wd H sz) {mo : ME} {env : En} (ho : mo env h = .ok (.ref n) h) : mFld ["Hasher"] "kind" mo env h = .ok kd h := by
  obtain ⟨ns, vs, e1, e2, e3, e4⟩ := g.at_
  exact fld_at ho e1 (by simp) e2
structure PF (sz d : Nat) (os : List (List Nat)) : Prop where
  len : os.length = d
  ok : ∀ o ∈ os, small8 o ∧ o.length = sz
end
/-! ### ways -/
section
variable (H : List Nat → List Nat) (k : Nat)
def nxtT (j : Nat) (t o : List Nat) : List Nat := if (k >>> j) % 2 = 1 then 1 :: (o ++ H t) else 1 :: (H t ++ o)
def pathL : Nat → List Nat → List (List Nat) → List (List Nat)
  | _, t, [] => [t]
  | j, t, o :: os => t :: pathL (j + 1) (nxtT H k j t o) os
def lastL : Nat → List Nat → List (List Nat) → List Nat
  | _, t, [] => t
  | j, t, o :: os => lastL (j + 1) (nxtT H k j t o) os
theorem lastL_snoc : ∀ (os : List (List Nat)) (j : Nat) (t o : List Nat), lastL H k j t (os ++ [o]) = nxtT H k (j + os.length) (lastL H k j t os) o
  | [], j, t, o => rfl
  | a :: os, j, t, o => by
    show lastL H k (j + 1) (nxtT H k j t a) (os ++ [o]) = _
    rw [lastL_snoc os (j + 1)]
    show nxtT H k (j + 1 + os.length) (lastL H k (j + 1) (nxtT H k j t a) os) o = nxtT H k (j + (os.length + 1)) (lastL H k (j + 1) (nxtT H k j t a) os) o
    rw [show j + 1 + os.length = j + (os.length + 1) by omega]
theorem pathL_snoc : ∀ (os : List (List Nat)) (j : Nat) (t o : List Nat), pathL H k j t (os ++ [o]) = pathL H k j t os ++ [lastL H k j t (os ++ [o])]
  | [], j, t, o => rfl
  | a :: os, j, t, o => by
    show t :: pathL H k (j + 1) (nxtT H k j t a) (os ++ [o]) = t :: (pathL H k (j + 1) (nxtT H k j t a) os ++ [lastL H k (j + 1) (nxtT H k j t a) (os ++ [o])])
    rw [pathL_snoc os (j + 1)]
theorem pathL_len : ∀ (os : List (List Nat)) (j : Nat) (t : List Nat), (pathL H k j t os).length = os.length + 1
  | [], j, t => rfl
  | a :: os, j, t => by
    show (pathL H k (j + 1) (nxtT H k j t a) os).length + 1 = _
    rw [pathL_len os (j + 1)]; rfl
theorem pathL_last : ∀ (os : List (List Nat)) (j : Nat) (t : List Nat), (pathL H k j t os).getLast? = some (lastL H k j t os)
  | [], j, t => rfl
  | a :: os, j, t => by
    show (t :: pathL H k (j + 1) (nxtT H k j t a) os).getLast? = some (lastL H k (j + 1) (nxtT H k j t a) os)
    have h := pathL_last os (j + 1) (nxtT H k j t a)
    rw [List.getLast?_cons, h]; rfl
end
section
variable {n : Nat} {h : Hh} {kd wd : PV} {H : List Nat → List Nat} {sz : Nat} {ps : List (List Nat)}
def txt (t : List Nat) : Prop := small8 t ∧ t.length ≤ 60
theorem nxt_ok (g : DG n h kd wd H sz) (k j : Nat) (t : List Nat) {o : List Nat} (ho : small8 o ∧ o.length = sz) : txt (nxtT H k j t o) := by
  have hle := g.le
  have h1 := g.ln t
  unfold nxtT
  split
  · exact ⟨node_ok ho.1 (g.sm t), by rw [List.length_cons, List.length_append]; omega⟩
  · exact ⟨node_ok (g.sm t) ho.1, by rw [List.length_cons, List.length_append]; omega⟩
theorem last_ok (g : DG n h kd wd H sz) (k : Nat) : ∀ (os : List (List Nat)) (j : Nat) (t : List Nat), txt t → (∀ o ∈ os, small8 o ∧ o.length = sz) → txt (lastL H k j t os)
  | [], j, t, ht, _ => ht
  | a :: os, j, t, ht, ho => last_ok g k os (j + 1) (nxtT H k j t a) (nxt_ok g k j t (ho a (by simp))) fun o h => ho o (by simp [h])
theorem path_ok (g : DG n h kd wd H sz) (k : Nat) : ∀ (os : List (List Nat)) (j : Nat) (t : List Nat), txt t → (∀ o ∈ os, small8 o ∧ o.length = sz) → ∀ u ∈ pathL H k j t os, txt u
  | [], j, t, ht, _, u, hu => by rw [List.mem_singleton.mp hu]; exact ht
  | a :: os, j, t, ht, ho, u, hu => by
    rcases List.mem_cons.mp hu with rfl | hu
    · exact ht
    · exact path_ok g k os (j + 1) (nxtT H k j t a) (nxt_ok g k j t (ho a (by simp))) (fun o h => ho o (by simp [h])) u hu
theorem walk_step (g : DG n h kd wd H sz) (k j : Nat) (x2 x3 x7 : SV) (t : List Nat) (ht : txt t) (o : List Nat) (ho : small8 o ∧ o.length = sz) (xs : List PV) (hx : xs.getLast? = some (.tup (ob t))) (hxl : xs.length ≤ 100) :
    ∃ t7, b_path_1 [.v (.ref n), .v (.int (k : Int)), x2, x3, .own (.lst xs), .v (.int (j : Int)), .v (.tup (ob o)), x7] h =
      .nx [.v (.ref n), .v (.int (k : Int)), x2, x3, .own (.lst (xs ++ [.tup (ob (nxtT H k j t o))])), .v (.int (j : Int)), .v (.tup (ob o)), t7] h := by
  have hs1 := shrP k j h
  have hand := and1 (k >>> j) h
  have hle := g.le
  refine ⟨.v (.tup (ob (H t))), ?_⟩
  have hil := ix_last h hx
  have ng : oNeg (.int 1) h = .ok (.int (-1)) h := rfl
  have hbel : mMeth "Hasher" "digest" m_Hasher_digest (mVar 0) (mCons (mOp oIx (mOwn 4) (mUn oNeg (mC (.int 1)))) mNil) [.v (.ref n), .v (.int (k : Int)), x2, x3, .own (.lst xs), .v (.int (j : Int)), .v (.tup (ob o)), x7] h = .ok (.tup (ob (H t))) h :=
    g.call rfl (by simp only [aCons, aNil, aOp, aOwn, aUn, aC, List.getElem?_cons_zero, List.getElem?_cons_succ, Res.bind_ok, ng, hil]) ht.1 (by have := ht.2; omega)
  have hxs : xs.length < 16777216 := by omega
  have l1 : (H t).length ≤ 1000 := by rw [g.ln]; omega
  have l2 : o.length ≤ 1000 := by omega
  have hcond : mIf (toT (mOp oEq (mOp oAnd (mOp oShr (mVar 1) (mVar 5)) (mC (.int 1))) (mC (.int 1)))) (mCall m_node_text (mCons (mVar 6) (mCons (mVar 7) mNil))) (mCall m_node_text (mCons (mVar 7) (mCons (mVar 6) mNil))) [.v (.ref n), .v (.int (k : Int)), x2, x3, .own (.lst xs), .v (.int (j : Int)), .v (.tup (ob o)), .v (.tup (ob (H t)))] h = .ok (.tup (ob (nxtT H k j t o))) h := by
    unfold nxtT
    by_cases c : (k >>> j) % 2 = 1
    · have hc : oEq (.int (((k >>> j) % 2 : Nat) : Int)) (.int 1) h = .ok (.bl true) h := by rw [c]; rfl
      have hn := node_text_eq o (H t) l2 l1 h
      rw [if_pos c]
      simp only [aIf, aToT, aOp, aVar, aC, List.getElem?_cons_zero, List.getElem?_cons_succ, Res.bind_ok, hs1, hand, hc, if_true, aCall, aCons, aNil, hn]
    · have hc : oEq (.int (((k >>> j) % 2 : Nat) : Int)) (.int 1) h = .ok (.bl false) h := by rw [show (k >>> j) % 2 = 0 by omega]; rfl
      have hn := node_text_eq (H t) o l1 l2 h
      rw [if_neg c]
      simp only [aIf, aToT, aOp, aVar, aC, List.getElem?_cons_zero, List.getElem?_cons_succ, Res.bind_ok, hs1, hand, hc, Bool.false_eq_true, if_false, aCall, aCons, aNil, hn]
  rw [b_path_1]
  simp only [aSeq, aSet, hbel, ofE_ok, List.set_cons_zero, List.set_cons_succ, aApp, List.getElem?_cons_zero, List.getElem?_cons_succ, hcond, hxs, if_true]
theorem walk_eq (g : DG n h kd wd H sz) (k : Nat) (p : List Nat) (hp : small8 p) (hpl : p.length ≤ 50) (os : List (List Nat)) (hol : os.length ≤ 50) (ho : ∀ o ∈ os, small8 o ∧ o.length = sz) :
    m_path [.ref n, .int (k : Int), .tup (ob p), .tup (tl os)] h = .ok (.lst (tl (pathL H k 0 (0 :: p) os))) h := by
  have ht0 : txt (0 :: p) := ⟨fun y hy => by
    rcases List.mem_cons.mp hy with rfl | hy
    · decide
    · exact hp y hy, by simp; omega⟩
  have hen : enumL (tl os) = (List.range os.length).map fun j : Nat => PV.tup [.int (j : Nat), PV.tup (ob (os.getD j []))] := by
    rw [enumL_eq, tl_len]
    refine List.map_congr_left fun j hj => ?_
    have hj' := List.mem_range.mp hj
    rw [List.getD_eq_getElem?_getD, List.getElem?_map, List.getElem?_eq_getElem hj', List.getD_eq_getElem?_getD, List.getElem?_eq_getElem hj']; rfl
  obtain ⟨env', q1, t5, t6, t7, q2⟩ := forL_inv (g := gTuA 2 (gCs (gN 5) (gCs (gN 6) gNl))) (b := b_path_1) (h := h) (fun j : Nat => PV.tup [.int (j : Nat), PV.tup (ob (os.getD j []))])
    (fun pre env => ∃ t5 t6 t7, env = [.v (.ref n), .v (.int (k : Int)), .v (.tup (ob p)), .v (.tup (tl os)), .own (.lst (tl (pathL H k 0 (0 :: p) (os.take pre.length)))), t5, t6, t7]) (List.range os.length) []
    (fun pre j post e env ⟨t5, t6, t7, q2⟩ => by
      subst q2
      obtain ⟨rfl, hj⟩ := range_at (by rw [← e]; rfl : List.range os.length = pre ++ j :: post)
      have hgd : os.getD pre.length [] = os[pre.length] := by rw [List.getD_eq_getElem?_getD, List.getElem?_eq_getElem hj]; rfl
      have hlast : (tl (pathL H k 0 (0 :: p) (os.take pre.length))).getLast? = some (.tup (ob (lastL H k 0 (0 :: p) (os.take pre.length)))) := by
        unfold tl; rw [List.getLast?_map, pathL_last]; rfl
      have htx := last_ok g k (os.take pre.length) 0 (0 :: p) ht0 (fun o h => ho o (List.mem_of_mem_take h))
      obtain ⟨u7, hst⟩ := walk_step g k pre.length (.v (.tup (ob p))) (.v (.tup (tl os))) t7 (lastL H k 0 (0 :: p) (os.take pre.length)) htx os[pre.length] (ho _ (List.getElem_mem hj)) _ hlast (by rw [tl_len, pathL_len, List.length_take]; omega)
      have htk : os.take (pre.length + 1) = os.take pre.length ++ [os[pre.length]] := by rw [List.take_add_one, List.getElem?_eq_getElem hj]; rfl
      have hsn := pathL_snoc H k (os.take pre.length) 0 (0 :: p) os[pre.length]
      have hls := lastL_snoc H k (os.take pre.length) 0 (0 :: p) os[pre.length]
      rw [Nat.zero_add, List.length_take, Nat.min_eq_left (by omega)] at hls
      rw [hls] at hsn
      have htl : tl (pathL H k 0 (0 :: p) (os.take pre.length)) ++ [PV.tup (ob (nxtT H k pre.length (lastL H k 0 (0 :: p) (os.take pre.length)) os[pre.length]))] = tl (pathL H k 0 (0 :: p) (os.take (pre.length + 1))) := by
        rw [htk, hsn]; unfold tl; rw [List.map_append]; rfl
      rw [htl] at hst
      refine ⟨_, _, rfl, ?_, .v (.int (pre.length : Int)), .v (.tup (ob os[pre.length])), u7, rfl⟩
      rw [List.length_append, List.length_singleton]
      simp only [hgd, List.set_cons_zero, List.set_cons_succ]
      exact hst)
    [.v (.ref n), .v (.int (k : Int)), .v (.tup (ob p)), .v (.tup (tl os)), .own (.lst [.tup (ob (0 :: p))]), .un, .un, .un] ⟨.un, .un, .un, rfl⟩
  rw [List.nil_append, List.length_range, List.take_length] at q2
  subst q2
  have hlt := leaf_text_eq p (by omega) h
  have one : ∀ a : PV, ([a].length ≤ 16777216) = True := fun a => eq_true (by simp)
  rw [m_path, runD, if_pos (show [PV.ref n, .int (k : Int), .tup (ob p), .tup (tl os)].length = P_path.length from rfl), b_path, show startE N_path.length [PV.ref n, .int (k : Int), .tup (ob p), .tup (tl os)] = [.v (.ref n), .v (.int (k : Int)), .v (.tup (ob p)), .v (.tup (tl os)), .un, .un, .un, .un] from rfl]
  generalize (k : Int) = KK at *
  simp only [aSeq, aSetN, aSzc, aCons, aNil, aCall, aVar, List.getElem?_cons_zero, List.getElem?_cons_succ, List.set_cons_zero, List.set_cons_succ, Res.bind_ok, hlt, one, if_true, ofE_ok, aFor, aItE, hen, q1, aRetOwn]
theorem own_last (k : Nat) (hk : k < 64) (hkn : k < ps.length) : ∀ m, H (lastL H k 0 (0 :: ps[k]) ((List.range m).map fun j => T H ps j ((k >>> j) ^^^ 1))) = T H ps m (k >>> m)
  | 0 => by
    show H (0 :: ps[k]) = H (leafT ps (k >>> 0))
    rw [Nat.shiftRight_zero]
    unfold leafT; rw [List.getElem?_eq_getElem hkn]
  | m + 1 => by
    rw [List.range_succ, List.map_append, List.map_singleton, lastL_snoc, Nat.zero_add, List.length_map, List.length_range]
    have ih := own_last k hk hkn m
    unfold nxtT
    rw [ih, Nat.shiftRight_succ]
    have ha64 : k >>> m < 64 := Nat.lt_of_le_of_lt (Nat.shiftRight_le k m) hk
    generalize k >>> m = a at *
    have hb := bit0 a ha64
    show _ = H (1 :: (T H ps m (2 * (a / 2)) ++ T H ps m (2 * (a / 2) + 1)))
    by_cases c : a % 2 = 1
    · rw [if_pos c, hb.1 c, show a - 1 = 2 * (a / 2) by omega, show 2 * (a / 2) + 1 = a by omega]
    · rw [if_neg c, hb.2 (by omega), show 2 * (a / 2) + 1 = a + 1 by omega, show 2 * (a / 2) = a by omega]
theorem own_top (q : PS ps) (k : Nat) (hk : k < ps.length) : H (lastL H k 0 (0 :: ps[k]) (prfT H ps (dpt ps.length) k)) = T H ps (dpt ps.length) 0 := by
  have hn := q.n
  have hdo := (dpt_ok ps.length).1
  have := own_last (H := H) k (by omega) hk (dpt ps.length)
  unfold prfT
  rw [this, Nat.shiftRight_eq_div_pow, Nat.div_eq_of_lt (by omega)]
theorem prf_PF (g : DG n h kd wd H sz) (d k : Nat) : PF sz d (prfT H ps d k) where
  len := by unfold prfT; rw [List.length_map, List.length_range]
  ok := fun o ho => by
    unfold prfT at ho
    obtain ⟨j, _, rfl⟩ := List.mem_map.mp ho
    exact ⟨T_small g _ _, T_len g _ _⟩
theorem fold_gen (g : DG n h kd wd H sz) (k : Nat) (p : List Nat) (hp : small8 p) (hpl : p.length ≤ 50) (os : List (List Nat)) (hol : os.length ≤ 50) (ho : ∀ o ∈ os, small8 o ∧ o.length = sz) :
    m_fold [.ref n, .int (k : Int), .tup (ob p), .tup (tl os)] h = .ok (.tup (ob (H (lastL H k 0 (0 :: p) os)))) h := by
  have ht0 : txt (0 :: p) := ⟨fun y hy => by
    rcases List.mem_cons.mp hy with rfl | hy
    · decide
    · exact hp y hy, by simp; omega⟩
  have hpath := walk_eq g k p hp hpl os hol ho
  have htx := last_ok g k os 0 (0 :: p) ht0 ho
  have hlast : (tl (pathL H k 0 (0 :: p) os)).getLast? = some (.tup (ob (lastL H k 0 (0 :: p) os))) := by
    unfold tl; rw [List.getLast?_map, pathL_last]; rfl
  have hil := ix_last h hlast
  have ng : oNeg (.int 1) h = .ok (.int (-1)) h := rfl
  have hcall : mMeth "Hasher" "digest" m_Hasher_digest (mVar 0) (mCons (mOp oIx (mCall m_path (mCons (mVar 0) (mCons (mVar 1) (mCons (mVar 2) (mCons (mVar 3) mNil))))) (mUn oNeg (mC (.int 1)))) mNil) [.v (.ref n), .v (.int (k : Int)), .v (.tup (ob p)), .v (.tup (tl os))] h = .ok (.tup (ob (H (lastL H k 0 (0 :: p) os)))) h :=
    g.call rfl (by simp only [aCons, aNil, aOp, aCall, aVar, aUn, aC, List.getElem?_cons_zero, List.getElem?_cons_succ, Res.bind_ok, hpath, ng, hil]) htx.1 (by have := htx.2; omega)
  rw [m_fold, runD, if_pos (show [PV.ref n, .int (k : Int), .tup (ob p), .tup (tl os)].length = P_fold.length from rfl), b_fold, show startE N_fold.length [PV.ref n, .int (k : Int), .tup (ob p), .tup (tl os)] = [.v (.ref n), .v (.int (k : Int)), .v (.tup (ob p)), .v (.tup (tl os))] from rfl]
  simp only [aRet, hcall, ofE_ok]
/-! ### parted -/
end
end Law

set_option Elab.async false
set_option linter.all false
set_option maxRecDepth 100000
set_option maxHeartbeats 1000000
set_option exponentiation.threshold 3000
namespace Law
open PySem Mir
/-! ### values of any kind -/
def octP : PV → Bool
  | .int i => decide (0 ≤ i) && decide (i ≤ 255)
  | _ => false
def octsP : PV → Bool
  | .tup xs => xs.all octP
  | _ => false
def digP (sz : Nat) : PV → Bool
  | .tup xs => decide (xs.length = sz) && xs.all octP
  | _ => false
def prfP (sz d : Nat) : PV → Bool
  | .tup xs => decide (xs.length = d) && xs.all (digP sz)
  | _ => false
def kn1 : PV → Prop
  | .ref _ => False
  | .dct _ _ => False
  | _ => True
def kn2 (B : Nat) : PV → Prop
  | .ref _ => False
  | .dct _ _ => False
  | .tup xs => xs.length ≤ B ∧ ∀ x ∈ xs, kn1 x
  | _ => True
def kn3 (B : Nat) : PV → Prop
  | .ref _ => False
  | .dct _ _ => False
  | .tup xs => xs.length ≤ B ∧ ∀ x ∈ xs, kn2 B x
  | _ => True
theorem kn2.kn1 {B : Nat} {x : PV} (h : kn2 B x) : kn1 x := by cases x <;> first | trivial | exact h
theorem is_integer_of {x : PV} (hx : kn1 x) (h : Hh) : m_is_integer [x] h = .ok (.bl (match x with | .int _ => true | _ => false)) h := by
  cases x with
  | int i => simp [m_is_integer, b_is_integer, runD, N_is_integer, P_is_integer, startE]
  | bl b => cases b <;> rfl
  | ref _ => exact hx.elim
  | dct _ _ => exact hx.elim
  | non => rfl
  | str s => rfl
  | tup xs => rfl
  | lst xs => rfl
theorem is_octet_of {x : PV} (hx : kn1 x) (h : Hh) : m_is_octet [x] h = .ok (.bl (octP x)) h := by
  have hi := is_integer_of hx h
  rw [m_is_octet, runD, if_pos (show [x].length = P_is_octet.length from rfl), b_is_octet, show startE N_is_octet.length [x] = [.v x] from rfl]
  cases x with
  | int i =>
    unfold octP
    by_cases h0 : 0 ≤ i
    · simp only [aRet, aAndV, aCall, aCons, aNil, aVar, aOp, aC, List.getElem?_cons_zero, Res.bind_ok, hi, leI, decide_eq_true h0, ofE_ok, Bool.true_and]
    · simp only [aRet, aAndV, aCall, aCons, aNil, aVar, aOp, aC, List.getElem?_cons_zero, Res.bind_ok, hi, leI, decide_eq_false h0, ofE_ok, Bool.false_and]
  | ref _ => exact hx.elim
  | dct _ _ => exact hx.elim
  | _ => simp only [octP, aRet, aAndV, aCall, aCons, aNil, aVar, aOp, aC, List.getElem?_cons_zero, Res.bind_ok, hi, ofE_ok]
theorem octs_lc {B : Nat} (xs : List PV) (hx : ∀ x ∈ xs, kn1 x) (x0 x1 : SV) (h : Hh) : lcL (gN 2) mYes (mCall m_is_octet (mCons (mVar 2) mNil)) [x0, x1, .un] xs h = .ok (xs.map fun x => PV.bl (octP x)) h := by
  have := lcL_all (g := gN 2) (e := mCall m_is_octet (mCons (mVar 2) mNil)) (env := [x0, x1, .un]) (h := h) (fun x : PV => x) (fun x => PV.bl (octP x)) xs (fun x hm => ⟨_, rfl, by
    simp only [aCall, aCons, aNil, aVar, List.set_cons_zero, List.set_cons_succ, List.getElem?_cons_zero, List.getElem?_cons_succ, Res.bind_ok, is_octet_of (hx x hm)]⟩)
  rw [List.map_id'] at this; exact this
theorem all_oct (xs : List PV) (h : Hh) : fAll [.lst (xs.map fun x => PV.bl (octP x))] h = .ok (.bl (xs.all octP)) h := all_bl octP xs h
theorem is_octets_gen {B : Nat} (hB : B ≤ 1000) {v : PV} (hv : kn2 B v) (h : Hh) : m_is_octets [v, .non] h = .ok (.bl (octsP v)) h := by
  rw [m_is_octets, runD, if_pos (show [v, PV.non].length = P_is_octets.length from rfl), b_is_octets, show startE N_is_octets.length [v, .non] = [.v v, .v .non, .un] from rfl]
  cases v with
  | tup xs =>
    obtain ⟨hl, hx⟩ := hv
    have hz : (xs.length ≤ 16777216) = True := eq_true (by omega)
    have kk := fun x1 => octs_lc (B := B) xs hx (.v (.tup xs)) x1 h
    simp only [octsP, aSeq, aIfS, aOrT, aNotT, aToTru, aIsi, aVar, List.getElem?_cons_zero, List.getElem?_cons_succ, Res.bind_ok, kd_tup, isKd_tt, truB, Bool.not_true, Bool.false_eq_true, if_false, aAndT, aToT, aOp, aC, oIsNot_non, isNon1, ofE_ok, aSkip, aRet, aCall, aCons, aNil, aFz, aLc, aItS, hz, if_true, aW0, aW1, List.set_cons_zero, List.set_cons_succ, kk, all_oct]
  | ref _ => exact hv.elim
  | dct _ _ => exact hv.elim
  | _ => rfl
theorem is_octets_sz {B : Nat} (hB : B ≤ 1000) (s : Nat) {v : PV} (hv : kn2 B v) (h : Hh) : m_is_octets [v, .int (s : Int)] h = .ok (.bl (digP s v)) h := by
  rw [m_is_octets, runD, if_pos (show [v, PV.int (s : Int)].length = P_is_octets.length from rfl), b_is_octets, show startE N_is_octets.length [v, .int (s : Int)] = [.v v, .v (.int (s : Int)), .un] from rfl]
  cases v with
  | tup xs =>
    obtain ⟨hl, hx⟩ := hv
    have hlen : fLen [.tup xs] h = .ok (.int (xs.length : Int)) h := by rw [lenT]
    have hz : (xs.length ≤ 16777216) = True := eq_true (by omega)
    have kk := fun x1 => octs_lc (B := B) xs hx (.v (.tup xs)) x1 h
    by_cases e : xs.length = s
    · have ne : oNe (.int (xs.length : Int)) (.int (s : Int)) h = .ok (.bl false) h := by rw [e]; exact neSelf _ h
      rw [digP, decide_eq_true e, Bool.true_and]
      generalize (s : Int) = S at *
      generalize (xs.length : Int) = L at *
      simp only [aSeq, aIfS, aOrT, aNotT, aToTru, aIsi, aVar, List.getElem?_cons_zero, List.getElem?_cons_succ, Res.bind_ok, kd_tup, isKd_tt, truB, Bool.not_true, Bool.false_eq_true, if_false, aAndT, aToT, aOp, aC, oIsNot_non, isNon2, Bool.not_false, if_true, aCall, aCons, aNil, hlen, ne, ofE_ok, aSkip, aRet, aFz, aLc, aItS, hz, aW0, aW1, List.set_cons_zero, List.set_cons_succ, kk, all_oct]
    · have ne : oNe (.int (xs.length : Int)) (.int (s : Int)) h = .ok (.bl true) h := by rw [neI, decide_eq_false (by omega)]; rfl
      rw [digP, decide_eq_false e, Bool.false_and]
      generalize (s : Int) = S at *
      generalize (xs.length : Int) = L at *
      simp only [aSeq, aIfS, aOrT, aNotT, aToTru, aIsi, aVar, List.getElem?_cons_zero, List.getElem?_cons_succ, Res.bind_ok, kd_tup, isKd_tt, truB, Bool.not_true, Bool.false_eq_true, if_false, aAndT, aToT, aOp, aC, oIsNot_non, isNon2, Bool.not_false, if_true, aCall, aCons, aNil, hlen, ne, ofE_ok, aRet]
  | ref _ => exact hv.elim
  | dct _ _ => exact hv.elim
  | _ => rfl
theorem lstep_octs {x : PV} (hx : kn1 x) (x0 : SV) (h : Hh) : b_L_is_octets_1 [x0, .v x] h = if octP x = true then .nx [x0, .v x] h else .rt (.bl false) h := by
  rw [b_L_is_octets_1]
  cases x with
  | int i =>
    unfold octP
    by_cases h0 : i < 0
    · have e1 : decide (0 ≤ i) = false := decide_eq_false (by omega)
      simp only [aIfS, aOrT, aNotT, aToTru, aIsi, aVar, List.getElem?_cons_zero, List.getElem?_cons_succ, Res.bind_ok, kd_int, isKd_ii, isKd_ib, truB, Bool.not_true, Bool.false_eq_true, if_false, aToT, aOp, aC, ltI, decide_eq_true h0, if_true, ofE_ok, aRet, e1, Bool.false_and]
    · have e1 : decide (0 ≤ i) = true := decide_eq_true (by omega)
      by_cases h1 : 255 < i
      · have e2 : decide (i ≤ 255) = false := decide_eq_false (by omega)
        simp only [aIfS, aOrT, aNotT, aToTru, aIsi, aVar, List.getElem?_cons_zero, List.getElem?_cons_succ, Res.bind_ok, kd_int, isKd_ii, isKd_ib, truB, Bool.not_true, Bool.false_eq_true, if_false, aToT, aOp, aC, ltI, decide_eq_false h0, gtI, decide_eq_true h1, if_true, ofE_ok, aRet, e1, e2, Bool.and_false]
      · have e2 : decide (i ≤ 255) = true := decide_eq_true (by omega)
        simp only [aIfS, aOrT, aNotT, aToTru, aIsi, aVar, List.getElem?_cons_zero, List.getElem?_cons_succ, Res.bind_ok, kd_int, isKd_ii, isKd_ib, truB, Bool.not_true, Bool.false_eq_true, if_false, aToT, aOp, aC, ltI, decide_eq_false h0, gtI, decide_eq_false h1, ofE_ok, aSkip, e1, e2, Bool.and_self, if_true]
  | bl b => cases b <;> rfl
  | ref _ => exact hx.elim
  | dct _ _ => exact hx.elim
  | _ => rfl
theorem lloop_octs (x0 : SV) (h : Hh) : ∀ (xs : List PV), (∀ x ∈ xs, kn1 x) → ∀ s1 : SV, ∃ t1, forL (gN 1) b_L_is_octets_1 xs [x0, s1] h = if xs.all octP = true then .nx [x0, t1] h else .rt (.bl false) h
  | [], _, s1 => ⟨s1, rfl⟩
  | x :: xs, hx, s1 => by
    obtain ⟨t1, ih⟩ := lloop_octs x0 h xs (fun y hy => hx y (by simp [hy])) (.v x)
    have hs := lstep_octs (hx x (by simp)) x0 h
    refine ⟨t1, ?_⟩
    unfold forL
    have hg : gN 1 x [x0, s1] = some [x0, .v x] := rfl
    rw [hg]
    simp only [hs]
    cases hb : octP x with
    | true => simp only [if_true, ih, List.all_cons, hb, Bool.true_and]
    | false => simp only [Bool.false_eq_true, if_false, List.all_cons, hb, Bool.false_and]
theorem lis_octets_gen {B : Nat} {v : PV} (hv : kn2 B v) (h : Hh) : m_L_is_octets [v] h = .ok (.bl (octsP v)) h := by
  rw [m_L_is_octets, runD, if_pos (show [v].length = P_L_is_octets.length from rfl), b_L_is_octets, show startE N_L_is_octets.length [v] = [.v v, .un] from rfl]
  cases v with
  | tup xs =>
    obtain ⟨hl, hx⟩ := hv
    obtain ⟨t1, hlo⟩ := lloop_octs (.v (.tup xs)) h xs hx .un
    unfold octsP
    cases hb : xs.all octP with
    | true =>
      rw [hb] at hlo
      simp only [aSeq, aIfS, aNotT, aToTru, aIsi, aVar, List.getElem?_cons_zero, Res.bind_ok, kd_tup, isKd_tt, truB, Bool.not_true, ofE_ok, Bool.false_eq_true, if_false, aSkip, aFor, aItS, hlo, if_true, aRet, aC, hb]
    | false =>
      rw [hb] at hlo
      simp only [aSeq, aIfS, aNotT, aToTru, aIsi, aVar, List.getElem?_cons_zero, Res.bind_ok, kd_tup, isKd_tt, truB, Bool.not_true, ofE_ok, Bool.false_eq_true, if_false, aSkip, aFor, aItS, hlo, hb]
  | ref _ => exact hv.elim
  | dct _ _ => exact hv.elim
  | _ => rfl
theorem octs_inv {xs : List PV} (h : xs.all octP = true) : ∃ p : List Nat, xs = ob p ∧ small8 p := by
  induction xs with
  | nil => exact ⟨[], rfl, fun x hx => by simp at hx⟩
  | cons x xs ih =>
    rw [List.all_cons, Bool.and_eq_true] at h
    obtain ⟨p, rfl, hp⟩ := ih h.2
    cases x with
    | int i =>
      have h1 := h.1
      unfold octP at h1
      rw [Bool.and_eq_true] at h1
      have a := of_decide_eq_true h1.1
      have b := of_decide_eq_true h1.2
      refine ⟨i.toNat :: p, ?_, fun y hy => ?_⟩
      · show PV.int i :: ob p = PV.int ((i.toNat : Nat) : Int) :: ob p
        rw [Int.toNat_of_nonneg a]
      · rcases List.mem_cons.mp hy with rfl | hy
        · omega
        · exact hp y hy
    | _ => exact absurd h.1 (by simp [octP])
theorem octsP_inv {v : PV} (h : octsP v = true) : ∃ p : List Nat, v = .tup (ob p) ∧ small8 p := by
  cases v with
  | tup xs => obtain ⟨p, rfl, hp⟩ := octs_inv (show xs.all octP = true from h); exact ⟨p, rfl, hp⟩
  | _ => exact absurd h (by simp [octsP])
theorem rows_inv {xs : List PV} (h : xs.all octsP = true) : ∃ os : List (List Nat), xs = tl os ∧ ∀ o ∈ os, small8 o := by
  induction xs with
  | nil => exact ⟨[], rfl, fun x hx => by simp at hx⟩
  | cons x xs ih =>
    rw [List.all_cons, Bool.and_eq_true] at h
    obtain ⟨os, rfl, hp⟩ := ih h.2
    obtain ⟨p, rfl, hp2⟩ := octsP_inv h.1
    exact ⟨p :: os, rfl, fun o ho => by
      rcases List.mem_cons.mp ho with rfl | ho
      · exact hp2
      · exact hp o ho⟩
theorem dig_octs {sz : Nat} {x : PV} (h : digP sz x = true) : octsP x = true := by
  cases x with
  | tup xs =>
    have h' : (decide (xs.length = sz) && xs.all octP) = true := h
    rw [Bool.and_eq_true] at h'; exact h'.2
  | _ => exact absurd h (by simp [digP])
theorem prf_inv {sz d : Nat} {v : PV} (h : prfP sz d v = true) : ∃ os : List (List Nat), v = .tup (tl os) ∧ PF sz d os := by
  cases v with
  | tup xs =>
    have h' : (decide (xs.length = d) && xs.all (digP sz)) = true := h
    rw [Bool.and_eq_true] at h'
    have hl := of_decide_eq_true h'.1
    obtain ⟨os, rfl, ho⟩ := rows_inv (xs := xs) (List.all_eq_true.mpr fun x hx => dig_octs (List.all_eq_true.mp h'.2 x hx))
    refine ⟨os, rfl, by rw [← hl, tl_len], fun o ho2 => ⟨ho o ho2, ?_⟩⟩
    have := List.all_eq_true.mp h'.2 (.tup (ob o)) (List.mem_map.mpr ⟨o, ho2, rfl⟩)
    have h2 : (decide ((ob o).length = sz) && (ob o).all octP) = true := this
    rw [Bool.and_eq_true] at h2
    rw [← of_decide_eq_true h2.1, ob_len]
  | _ => exact absurd h (by simp [prfP])
section
variable {n : Nat} {h : Hh} {kd wd : PV} {H : List Nat → List Nat} {sz : Nat} {ps : List (List Nat)}
theorem DH.isdG (g : DH n h kd wd H sz) {B : Nat} (hB : B ≤ 1000) {mo : ME} {mr : MA} {env : En} {v : PV} (ho : mo env h = .ok (.ref n) h) (hm : mr env h = .ok [v] h) (hv : kn2 B v) : mMeth "Hasher" "is_digest" m_Hasher_is_digest mo mr env h = .ok (.bl (digP sz v)) h := by
  obtain ⟨ns, vs, e1, e2, e3, e4⟩ := g.at_
  rw [meth_at ho e1 e4, hm, Res.bind_ok]
  have f2 : ∀ x, mFld ["Hasher"] "size" (mVar 0) [.v (.ref n), x] h = .ok (.int (sz : Int)) h := fun x => fld_at rfl e1 (by simp) e3
  have hio := is_octets_sz hB sz hv h
  show m_Hasher_is_digest [.ref n, v] h = _
  rw [m_Hasher_is_digest, runD, if_pos (show [PV.ref n, v].length = P_Hasher_is_digest.length from rfl), b_Hasher_is_digest, show startE N_Hasher_is_digest.length [PV.ref n, v] = [.v (.ref n), .v v] from rfl]
  simp only [aRet, aCallK, aCons, aNil, aVar, List.getElem?_cons_zero, List.getElem?_cons_succ, Res.bind_ok, f2, List.length_singleton, and_self, if_true, List.cons_append, List.nil_append, hio, ofE_ok]
theorem is_proof_gen (g : DH n h kd wd H sz) (q : PS ps) {B : Nat} (hB : B ≤ 1000) {v : PV} (hv : kn3 B v) : m_is_proof [.ref n, .int (ps.length : Int), v] h = .ok (.bl (prfP sz (dpt ps.length) v)) h := by
  have hd := dpt16 q
  have hdep := depth_eq ps.length (by omega) h
  rw [m_is_proof, runD, if_pos (show [PV.ref n, .int (ps.length : Int), v].length = P_is_proof.length from rfl), b_is_proof, show startE N_is_proof.length [PV.ref n, .int (ps.length : Int), v] = [.v (.ref n), .v (.int (ps.length : Int)), .v v, .un] from rfl]
  cases v with
  | tup xs =>
    obtain ⟨hl, hx⟩ := hv
    have hlen : fLen [.tup xs] h = .ok (.int (xs.length : Int)) h := by rw [lenT]
    have hz : (xs.length ≤ 16777216) = True := eq_true (by omega)
    have kk : ∀ x1 : SV, lcL (gN 3) mYes (mMeth "Hasher" "is_digest" m_Hasher_is_digest (mVar 0) (mCons (mVar 3) mNil)) [.v (.ref n), x1, .v (.tup xs), .un] xs h = .ok (xs.map fun x => PV.bl (digP sz x)) h := fun x1 => by
      have := lcL_all (g := gN 3) (e := mMeth "Hasher" "is_digest" m_Hasher_is_digest (mVar 0) (mCons (mVar 3) mNil)) (env := [.v (.ref n), x1, .v (.tup xs), .un]) (h := h) (fun x : PV => x) (fun x => PV.bl (digP sz x)) xs (fun x hm => ⟨_, rfl, g.isdG hB rfl (by
        simp only [aCons, aNil, aVar, List.set_cons_zero, List.set_cons_succ, List.getElem?_cons_zero, List.getElem?_cons_succ, Res.bind_ok]) (hx x hm)⟩)
      rw [List.map_id'] at this; exact this
    have hall : fAll [.lst (xs.map fun x => PV.bl (digP sz x))] h = .ok (.bl (xs.all (digP sz))) h := all_bl (digP sz) xs h
    by_cases e : xs.length = dpt ps.length
    · have ne : oNe (.int (xs.length : Int)) (.int (dpt ps.length : Nat)) h = .ok (.bl false) h := by rw [e]; exact neSelf _ h
      rw [prfP, decide_eq_true e, Bool.true_and]
      generalize (ps.length : Int) = LL at *
      generalize ((dpt ps.length : Nat) : Int) = DP at *
      generalize (xs.length : Int) = XL at *
      simp only [aSeq, aIfS, aOrT, aNotT, aToTru, aIsi, aVar, List.getElem?_cons_zero, List.getElem?_cons_succ, Res.bind_ok, kd_tup, isKd_tt, truB, Bool.not_true, Bool.false_eq_true, if_false, aToT, aOp, aCall, aCons, aNil, hlen, hdep, ne, ofE_ok, aSkip, aRet, aFz, aLc, aItS, hz, if_true, aW0, aW1, List.set_cons_zero, List.set_cons_succ, kk, hall]
    · have ne : oNe (.int (xs.length : Int)) (.int (dpt ps.length : Nat)) h = .ok (.bl true) h := by rw [neI, decide_eq_false (by omega)]; rfl
      rw [prfP, decide_eq_false e, Bool.false_and]
      generalize (ps.length : Int) = LL at *
      generalize ((dpt ps.length : Nat) : Int) = DP at *
      generalize (xs.length : Int) = XL at *
      simp only [aSeq, aIfS, aOrT, aNotT, aToTru, aIsi, aVar, List.getElem?_cons_zero, List.getElem?_cons_succ, Res.bind_ok, kd_tup, isKd_tt, truB, Bool.not_true, Bool.false_eq_true, if_false, aToT, aOp, aCall, aCons, aNil, hlen, hdep, ne, ofE_ok, if_true, aRet, aC]
  | ref _ => exact hv.elim
  | dct _ _ => exact hv.elim
  | _ => rfl
def szAt (kd : PV) (sz : Nat) : Prop := ∀ h, oIx kd (.int 1) h = .ok (.int (sz : Int)) h
theorem lis_proof_gen (hs : szAt kd sz) (q : PS ps) {B : Nat} (hB : B ≤ 1000) {v : PV} (hv : kn3 B v) : m_L_is_proof [kd, .int (ps.length : Int), v] h = .ok (.bl (prfP sz (dpt ps.length) v)) h := by
  have hd := dpt16 q
  have hdep := ldepth_eq ps.length (by omega) h
  rw [m_L_is_proof, runD, if_pos (show [kd, .int (ps.length : Int), v].length = P_L_is_proof.length from rfl), b_L_is_proof, show startE N_L_is_proof.length [kd, .int (ps.length : Int), v] = [.v kd, .v (.int (ps.length : Int)), .v v, .un] from rfl]
  cases v with
  | tup xs =>
    obtain ⟨hl, hx⟩ := hv
    have hlen : fLen [.tup xs] h = .ok (.int (xs.length : Int)) h := by rw [lenT]
    have hz : (xs.length ≤ 16777216) = True := eq_true (by omega)
    have kk : ∀ x1 : SV, lcL (gN 3) mYes (mAndV (mCall m_L_is_octets (mCons (mVar 3) mNil)) (mOp oEq (mCall fLen (mCons (mVar 3) mNil)) (mOp oIx (mVar 0) (mC (.int 1))))) [.v kd, x1, .v (.tup xs), .un] xs h = .ok (xs.map fun x => PV.bl (digP sz x)) h := fun x1 => by
      have := lcL_all (g := gN 3) (e := mAndV (mCall m_L_is_octets (mCons (mVar 3) mNil)) (mOp oEq (mCall fLen (mCons (mVar 3) mNil)) (mOp oIx (mVar 0) (mC (.int 1))))) (env := [.v kd, x1, .v (.tup xs), .un]) (h := h) (fun x : PV => x) (fun x => PV.bl (digP sz x)) xs (fun x hm => ⟨_, rfl, by
        have ho := lis_octets_gen (hx x hm) h
        cases hb : octsP x with
        | false =>
          have hd : digP sz x = false := by
            cases hq : digP sz x with
            | false => rfl
            | true => rw [dig_octs hq] at hb; cases hb
          rw [hb] at ho
          simp only [aAndV, aCall, aCons, aNil, aVar, List.set_cons_zero, List.set_cons_succ, List.getElem?_cons_zero, List.getElem?_cons_succ, Res.bind_ok, ho, hd]
        | true =>
          rw [hb] at ho
          cases x with
          | tup ys =>
            have hl2 : fLen [.tup ys] h = .ok (.int (ys.length : Int)) h := by rw [lenT]
            have hd : digP sz (.tup ys) = decide (ys.length = sz) := by
              show (decide (ys.length = sz) && ys.all octP) = _
              rw [show ys.all octP = true from hb, Bool.and_true]
            have heq : oEq (.int (ys.length : Int)) (.int (sz : Int)) h = .ok (.bl (decide (ys.length = sz))) h := by
              rw [eqI]
              congr 2
              exact decide_eq_decide.mpr (by omega)
            rw [hd]
            have hs1 := hs h
            generalize (ys.length : Int) = YL at *
            generalize (sz : Int) = SZ at *
            simp only [aAndV, aCall, aCons, aNil, aVar, aOp, aC, List.set_cons_zero, List.set_cons_succ, List.getElem?_cons_zero, List.getElem?_cons_succ, Res.bind_ok, ho, hl2, hs1, heq]
          | _ => exact absurd hb (by simp [octsP])⟩)
      rw [List.map_id'] at this; exact this
    have hall : fAll [.lst (xs.map fun x => PV.bl (digP sz x))] h = .ok (.bl (xs.all (digP sz))) h := all_bl (digP sz) xs h
    by_cases e : xs.length = dpt ps.length
    · have ne : oNe (.int (xs.length : Int)) (.int (dpt ps.length : Nat)) h = .ok (.bl false) h := by rw [e]; exact neSelf _ h
      rw [prfP, decide_eq_true e, Bool.true_and]
      generalize (ps.length : Int) = LL at *
      generalize ((dpt ps.length : Nat) : Int) = DP at *
      generalize (xs.length : Int) = XL at *
      simp only [aSeq, aIfS, aOrT, aNotT, aToTru, aIsi, aVar, List.getElem?_cons_zero, List.getElem?_cons_succ, Res.bind_ok, kd_tup, isKd_tt, truB, Bool.not_true, Bool.false_eq_true, if_false, aToT, aOp, aCall, aCons, aNil, hlen, hdep, ne, ofE_ok, aSkip, aRet, aFz, aLc, aItS, hz, if_true, aW0, aW1, List.set_cons_zero, List.set_cons_succ, kk, hall]
    · have ne : oNe (.int (xs.length : Int)) (.int (dpt ps.length : Nat)) h = .ok (.bl true) h := by rw [neI, decide_eq_false (by omega)]; rfl
      rw [prfP, decide_eq_false e, Bool.false_and]
      generalize (ps.length : Int) = LL at *
      generalize ((dpt ps.length : Nat) : Int) = DP at *
      generalize (xs.length : Int) = XL at *
      simp only [aSeq, aIfS, aOrT, aNotT, aToTru, aIsi, aVar, List.getElem?_cons_zero, List.getElem?_cons_succ, Res.bind_ok, kd_tup, isKd_tt, truB, Bool.not_true, Bool.false_eq_true, if_false, aToT, aOp, aCall, aCons, aNil, hlen, hdep, ne, ofE_ok, if_true, aRet, aC]
  | ref _ => exact hv.elim
  | dct _ _ => exact hv.elim
  | _ => rfl
end
section
variable {n : Nat} {h : Hh} {kd wd : PV} {H : List Nat → List Nat} {sz : Nat} {ps : List (List Nat)}
theorem txt0 {p : List Nat} (hp : small8 p) (hl : p.length ≤ 50) : txt (0 :: p) := ⟨fun y hy => by
    rcases List.mem_cons.mp hy with rfl | hy
    · decide
    · exact hp y hy, by simp; omega⟩
theorem node_add (l r : List Nat) (hl : l.length ≤ 1000) (hr : r.length ≤ 1000) (h : Hh) : ((oAdd (.tup [.int 1]) (.tup (ob l)) h).bind fun x h => oAdd x (.tup (ob r)) h) = .ok (.tup (ob (1 :: (l ++ r)))) h := by
  have ha : oAdd (.tup [.int 1]) (.tup (ob l)) h = .ok (.tup (ob (1 :: l))) h := by rw [addT h (by rw [ob_len]; simp; omega)]; rfl
  have hb : oAdd (.tup (ob (1 :: l))) (.tup (ob r)) h = .ok (.tup (ob (1 :: (l ++ r)))) h := by rw [addT h (by rw [ob_len, ob_len]; simp; omega), ob_app]; rfl
  rw [ha, Res.bind_ok, hb]
theorem lpath_eq (g : DG n h kd wd H sz) (k : Nat) (p : List Nat) (hp : small8 p) (hpl : p.length ≤ 50) (os : List (List Nat)) (hol : os.length ≤ 50) (ho : ∀ o ∈ os, small8 o ∧ o.length = sz) :
    m_L_path [kd, wd, .int (k : Int), .tup (ob p), .tup (tl os)] h = .ok (.lst (tl (pathL H k 0 (0 :: p) os))) h := by
  have ht0 := txt0 hp hpl
  have hle := g.le
  obtain ⟨env', q1, t6, t7, t8, t9, q2⟩ := forL_inv (g := gN 6) (b := b_L_path_1) (h := h) (fun j : Nat => PV.int (j : Int))
    (fun pre env => ∃ t6 t7 t8 t9, env = [.v kd, .v wd, .v (.int (k : Int)), .v (.tup (ob p)), .v (.tup (tl os)), .own (.lst (tl (pathL H k 0 (0 :: p) (os.take pre.length)))), t6, t7, t8, t9]) (List.range os.length) []
    (fun pre j post e env ⟨t6, t7, t8, t9, q2⟩ => by
      subst q2
      obtain ⟨rfl, hj⟩ := range_at (by rw [← e]; rfl : List.range os.length = pre ++ j :: post)
      obtain ⟨xs, hxs⟩ : ∃ xs, xs = pathL H k 0 (0 :: p) (os.take pre.length) := ⟨_, rfl⟩
      obtain ⟨t, ht⟩ : ∃ t, t = lastL H k 0 (0 :: p) (os.take pre.length) := ⟨_, rfl⟩
      have htx : txt t := by rw [ht]; exact last_ok g k (os.take pre.length) 0 (0 :: p) ht0 (fun o h => ho o (List.mem_of_mem_take h))
      have hxl : xs.length = pre.length + 1 := by rw [hxs, pathL_len, List.length_take]; omega
      have hlast : xs.getLast? = some t := by rw [hxs, ht]; exact pathL_last H k _ 0 _
      have hix : oIx (.lst (tl xs)) (.int (pre.length : Int)) h = .ok (.tup (ob t)) h := ixL h (L2.atI_nat (by
        rw [List.getElem?_map]
        have : xs[pre.length]? = some t := by rw [← hlast, List.getLast?_eq_getElem?, hxl]; rfl
        rw [this]; rfl))
      obtain ⟨o, hoe⟩ : ∃ o, o = os[pre.length] := ⟨_, rfl⟩
      have hoo := ho os[pre.length] (List.getElem_mem hj)
      rw [← hoe] at hoo
      have hio : oIx (.tup (tl os)) (.int (pre.length : Int)) h = .ok (.tup (ob o)) h := ixT h (L2.atI_nat (by rw [List.getElem?_map, List.getElem?_eq_getElem hj, hoe]; rfl))
      have hdg := g.ldig t htx.1 (by have := htx.2; omega)
      have hs1 := shrP k pre.length h
      have hand := and1 (k >>> pre.length) h
      have htk : os.take (pre.length + 1) = os.take pre.length ++ [o] := by rw [List.take_add_one, List.getElem?_eq_getElem hj, hoe]; rfl
      have hsn := pathL_snoc H k (os.take pre.length) 0 (0 :: p) o
      have hls := lastL_snoc H k (os.take pre.length) 0 (0 :: p) o
      rw [Nat.zero_add, List.length_take, Nat.min_eq_left (by omega), ← ht] at hls
      rw [hls, ← hxs] at hsn
      have htl : tl xs ++ [PV.tup (ob (nxtT H k pre.length t o))] = tl (pathL H k 0 (0 :: p) (os.take (pre.length + 1))) := by
        rw [htk, hsn]; unfold tl; rw [List.map_append]; rfl
      rw [← hxs]
      have hz : ((tl xs).length < 16777216) = True := eq_true (by rw [tl_len]; omega)
      have one : ∀ a : PV, ([a].length ≤ 16777216) = True := fun a => eq_true (by simp)
      have l1 : (H t).length ≤ 1000 := by rw [g.ln]; omega
      have l2 : o.length ≤ 1000 := by omega
      by_cases c : (k >>> pre.length) % 2 = 1
      · have hc : oEq (.int (((k >>> pre.length) % 2 : Nat) : Int)) (.int 1) h = .ok (.bl true) h := by rw [c]; rfl
        have hn := node_add o (H t) l2 l1 h
        have hnx : nxtT H k pre.length t o = 1 :: (o ++ H t) := by unfold nxtT; rw [if_pos c]
        rw [hnx] at htl
        refine ⟨_, [.v kd, .v wd, .v (.int (k : Int)), .v (.tup (ob p)), .v (.tup (tl os)), .own (.lst (tl (pathL H k 0 (0 :: p) (os.take (pre.length + 1))))), .v (.int (pre.length : Int)), .v (.tup (ob (H t))), .v (.tup (ob o)), .v (.tup (ob (H t)))], rfl, ?_, .v (.int (pre.length : Int)), .v (.tup (ob (H t))), .v (.tup (ob o)), .v (.tup (ob (H t))), by rw [List.length_append, List.length_singleton]⟩
        rw [b_L_path_1]
        generalize (pre.length : Int) = PL at *
        simp only [aSeq, aSet, aCall, aCons, aNil, aOp, aOwn, aVar, aC, List.getElem?_cons_zero, List.getElem?_cons_succ, List.set_cons_zero, List.set_cons_succ, Res.bind_ok, hix, hdg, ofE_ok, aIf, aToT, hs1, hand, hc, if_true, hio, aApp, aTup, one, hn, hz, htl]
      · have hc : oEq (.int (((k >>> pre.length) % 2 : Nat) : Int)) (.int 1) h = .ok (.bl false) h := by rw [show (k >>> pre.length) % 2 = 0 by omega]; rfl
        have hn := node_add (H t) o l1 l2 h
        have hnx : nxtT H k pre.length t o = 1 :: (H t ++ o) := by unfold nxtT; rw [if_neg c]
        rw [hnx] at htl
        refine ⟨_, [.v kd, .v wd, .v (.int (k : Int)), .v (.tup (ob p)), .v (.tup (tl os)), .own (.lst (tl (pathL H k 0 (0 :: p) (os.take (pre.length + 1))))), .v (.int (pre.length : Int)), .v (.tup (ob (H t))), .v (.tup (ob (H t))), .v (.tup (ob o))], rfl, ?_, .v (.int (pre.length : Int)), .v (.tup (ob (H t))), .v (.tup (ob (H t))), .v (.tup (ob o)), by rw [List.length_append, List.length_singleton]⟩
        rw [b_L_path_1]
        generalize (pre.length : Int) = PL at *
        simp only [aSeq, aSet, aCall, aCons, aNil, aOp, aOwn, aVar, aC, List.getElem?_cons_zero, List.getElem?_cons_succ, List.set_cons_zero, List.set_cons_succ, Res.bind_ok, hix, hdg, ofE_ok, aIf, aToT, hs1, hand, hc, Bool.false_eq_true, if_false, hio, aApp, aTup, one, if_true, hn, hz, htl])
    [.v kd, .v wd, .v (.int (k : Int)), .v (.tup (ob p)), .v (.tup (tl os)), .own (.lst [.tup (ob (0 :: p))]), .un, .un, .un, .un] ⟨.un, .un, .un, .un, rfl⟩
  rw [List.nil_append, List.length_range, List.take_length] at q2
  subst q2
  have one : ∀ a : PV, ([a].length ≤ 16777216) = True := fun a => eq_true (by simp)
  have ha : oAdd (.tup [.int 0]) (.tup (ob p)) h = .ok (.tup (ob (0 :: p))) h := by rw [addT h (by rw [ob_len]; simp; omega)]; rfl
  have hlen : fLen [.tup (tl os)] h = .ok (.int (os.length : Int)) h := by rw [lenT, tl_len]
  have hrg : rngOk (os.length : Int) = true := rngOk_of (by omega) (by omega)
  have ht : (os.length : Int).toNat = os.length := Int.toNat_natCast _
  rw [m_L_path, runD, if_pos (show [kd, wd, .int (k : Int), .tup (ob p), .tup (tl os)].length = P_L_path.length from rfl), b_L_path, show startE N_L_path.length [kd, wd, .int (k : Int), .tup (ob p), .tup (tl os)] = [.v kd, .v wd, .v (.int (k : Int)), .v (.tup (ob p)), .v (.tup (tl os)), .un, .un, .un, .un, .un] from rfl]
  generalize (k : Int) = KK at *
  generalize (os.length : Int) = OL at *
  simp only [aSeq, aSetN, aSzc, aCons, aNil, aOp, aTup, aC, aVar, List.getElem?_cons_zero, List.getElem?_cons_succ, List.set_cons_zero, List.set_cons_succ, Res.bind_ok, one, if_true, ha, ofE_ok, aFor, aR1, aCall, hlen, hrg, rng_nat, ht, q1, aRetOwn]
theorem lfold_eq (g : DG n h kd wd H sz) (k : Nat) (p : List Nat) (hp : small8 p) (hpl : p.length ≤ 50) (os : List (List Nat)) (hol : os.length ≤ 50) (ho : ∀ o ∈ os, small8 o ∧ o.length = sz) :
    m_L_fold [kd, wd, .int (k : Int), .tup (ob p), .tup (tl os)] h = .ok (.tup (ob (H (lastL H k 0 (0 :: p) os)))) h := by
  have hpath := lpath_eq g k p hp hpl os hol ho
  have htx := last_ok g k os 0 (0 :: p) (txt0 hp hpl) ho
  have hxl := pathL_len H k os 0 (0 :: p)
  have hlast := pathL_last H k os 0 (0 :: p)
  generalize lastL H k 0 (0 :: p) os = t at *
  generalize pathL H k 0 (0 :: p) os = xs at *
  have hlen : fLen [.lst (tl xs)] h = .ok (.int (xs.length : Int)) h := by rw [lenI, tl_len]
  have e1 : (xs.length : Int) - 1 = ((xs.length - 1 : Nat) : Int) := by omega
  have hix : oIx (.lst (tl xs)) (.int ((xs.length - 1 : Nat) : Int)) h = .ok (.tup (ob t)) h := ixL h (L2.atI_nat (by
    rw [List.getElem?_map, ← List.getLast?_eq_getElem?, hlast]; rfl))
  have hdg := g.ldig t htx.1 (by have := htx.2; omega)
  rw [m_L_fold, runD, if_pos (show [kd, wd, .int (k : Int), .tup (ob p), .tup (tl os)].length = P_L_fold.length from rfl), b_L_fold, show startE N_L_fold.length [kd, wd, .int (k : Int), .tup (ob p), .tup (tl os)] = [.v kd, .v wd, .v (.int (k : Int)), .v (.tup (ob p)), .v (.tup (tl os)), .un] from rfl]
  generalize ((xs.length - 1 : Nat) : Int) = X1 at *
  generalize (xs.length : Int) = XL at *
  generalize (k : Int) = KK at *
  simp only [aSeq, aSet, aCall, aCons, aNil, aVar, aOp, aC, List.getElem?_cons_zero, List.getElem?_cons_succ, List.set_cons_zero, List.set_cons_succ, Res.bind_ok, hpath, ofE_ok, aRet, hlen, subI, e1, hix, hdg]
/-! ### fits, of values of any kind -/
noncomputable def foldP (H : List Nat → List Nat) (k : Nat) (vp vo : PV) : List Nat := by
  classical exact if h : ∃ (p : List Nat) (os : List (List Nat)), vp = .tup (ob p) ∧ vo = .tup (tl os) then H (lastL H k 0 (0 :: Classical.choose h) (Classical.choose (Classical.choose_spec h))) else []
theorem fits_gen (g : DH n h kd wd H sz) (hs : szAt kd sz) (q : PS ps) (top : List Nat) {vi vp vo : PV} (hi : kn1 vi) (hp : kn2 45 vp) (ho : kn3 45 vo) :
    ∃ b, m_fits [.ref n, .tup (ob top), .int (ps.length : Int), vi, vp, vo] h = .ok (.bl b) h ∧ m_L_fits [kd, wd, .tup (ob top), .int (ps.length : Int), vi, vp, vo] h = .ok (.bl b) h := by
  have hn := q.n
  have hd := dpt16 q
  have i1 := is_integer_of hi h
  have o1 := is_octets_gen (by decide) hp h
  have o2 := lis_octets_gen hp h
  have p1 := is_proof_gen g q (by decide) ho
  have p2 := lis_proof_gen (h := h) hs q (by decide) ho
  have r1 : startE N_fits.length [PV.ref n, .tup (ob top), .int (ps.length : Int), vi, vp, vo] = [.v (.ref n), .v (.tup (ob top)), .v (.int (ps.length : Int)), .v vi, .v vp, .v vo] := rfl
  have r2 : startE N_L_fits.length [kd, wd, .tup (ob top), .int (ps.length : Int), vi, vp, vo] = [.v kd, .v wd, .v (.tup (ob top)), .v (.int (ps.length : Int)), .v vi, .v vp, .v vo] := rfl
  by_cases c0 : ∃ k : Nat, vi = .int (k : Int) ∧ k < ps.length
  · obtain ⟨k, rfl, hk⟩ := c0
    have a1 : oLt (.int (k : Int)) (.int 0) h = .ok (.bl false) h := by rw [ltI, decide_eq_false (by omega)]
    have a2 : oGe (.int (k : Int)) (.int (ps.length : Int)) h = .ok (.bl false) h := by rw [geI, decide_eq_false (by omega)]
    cases hop : octsP vp with
    | false =>
      rw [hop] at o1 o2
      refine ⟨false, ?_, ?_⟩
      · rw [m_fits, runD, if_pos (show [PV.ref n, .tup (ob top), .int (ps.length : Int), .int (k : Int), vp, vo].length = P_fits.length from rfl), b_fits, r1]
        generalize (ps.length : Int) = LL at *
        generalize (k : Int) = KK at *
        simp only [aSeq, aIfS, aOrT, aNotT, aToTru, aToT, aCall, aCons, aNil, aVar, aOp, aC, List.getElem?_cons_zero, List.getElem?_cons_succ, Res.bind_ok, i1, truB, Bool.not_true, Bool.false_eq_true, if_false, a1, a2, ofE_ok, aSkip, aCallD, List.cons_append, List.nil_append, o1, Bool.not_false, if_true, aRet]
      · rw [m_L_fits, runD, if_pos (show [kd, wd, .tup (ob top), .int (ps.length : Int), .int (k : Int), vp, vo].length = P_L_fits.length from rfl), b_L_fits, r2]
        generalize (ps.length : Int) = LL at *
        generalize (k : Int) = KK at *
        simp only [aSeq, aIfS, aOrT, aNotT, aToTru, aToT, aIsi, aCall, aCons, aNil, aVar, aOp, aC, List.getElem?_cons_zero, List.getElem?_cons_succ, Res.bind_ok, kd_int, isKd_ii, isKd_ib, truB, Bool.not_true, Bool.false_eq_true, if_false, a1, a2, ofE_ok, aSkip, o2, Bool.not_false, if_true, aRet]
    | true =>
      rw [hop] at o1 o2
      cases hpp : prfP sz (dpt ps.length) vo with
      | false =>
        rw [hpp] at p1 p2
        refine ⟨false, ?_, ?_⟩
        · rw [m_fits, runD, if_pos (show [PV.ref n, .tup (ob top), .int (ps.length : Int), .int (k : Int), vp, vo].length = P_fits.length from rfl), b_fits, r1]
          generalize (ps.length : Int) = LL at *
          generalize (k : Int) = KK at *
          simp only [aSeq, aIfS, aOrT, aNotT, aToTru, aToT, aCall, aCons, aNil, aVar, aOp, aC, List.getElem?_cons_zero, List.getElem?_cons_succ, Res.bind_ok, i1, truB, Bool.not_true, Bool.false_eq_true, if_false, a1, a2, ofE_ok, aSkip, aCallD, List.cons_append, List.nil_append, o1, p1, Bool.not_false, if_true, aRet]
        · rw [m_L_fits, runD, if_pos (show [kd, wd, .tup (ob top), .int (ps.length : Int), .int (k : Int), vp, vo].length = P_L_fits.length from rfl), b_L_fits, r2]
          generalize (ps.length : Int) = LL at *
          generalize (k : Int) = KK at *
          simp only [aSeq, aIfS, aOrT, aNotT, aToTru, aToT, aIsi, aCall, aCons, aNil, aVar, aOp, aC, List.getElem?_cons_zero, List.getElem?_cons_succ, Res.bind_ok, kd_int, isKd_ii, isKd_ib, truB, Bool.not_true, Bool.false_eq_true, if_false, a1, a2, ofE_ok, aSkip, o2, p2, Bool.not_false, if_true, aRet]
      | true =>
        rw [hpp] at p1 p2
        obtain ⟨p, rfl, hps⟩ := octsP_inv hop
        obtain ⟨os, rfl, pf⟩ := prf_inv hpp
        have hpl : p.length ≤ 50 := by have := hp.1; rw [ob_len] at this; omega
        have f1 := fold_gen g.g k p hps hpl os (by rw [pf.len]; omega) pf.ok
        have f2 := lfold_eq g.g k p hps hpl os (by rw [pf.len]; omega) pf.ok
        have e1 := eq_ob (H (lastL H k 0 (0 :: p) os)) top h
        refine ⟨decide (H (lastL H k 0 (0 :: p) os) = top), ?_, ?_⟩
        · rw [m_fits, runD, if_pos (show [PV.ref n, .tup (ob top), .int (ps.length : Int), .int (k : Int), .tup (ob p), .tup (tl os)].length = P_fits.length from rfl), b_fits, r1]
          generalize (ps.length : Int) = LL at *
          generalize (k : Int) = KK at *
          simp only [aSeq, aIfS, aOrT, aNotT, aToTru, aToT, aCall, aCons, aNil, aVar, aOp, aC, List.getElem?_cons_zero, List.getElem?_cons_succ, Res.bind_ok, i1, truB, Bool.not_true, Bool.false_eq_true, if_false, a1, a2, ofE_ok, aSkip, aCallD, List.cons_append, List.nil_append, o1, p1, aRet, f1, e1]
        · rw [m_L_fits, runD, if_pos (show [kd, wd, .tup (ob top), .int (ps.length : Int), .int (k : Int), .tup (ob p), .tup (tl os)].length = P_L_fits.length from rfl), b_L_fits, r2]
          generalize (ps.length : Int) = LL at *
          generalize (k : Int) = KK at *
          simp only [aSeq, aIfS, aOrT, aNotT, aToTru, aToT, aIsi, aCall, aCons, aNil, aVar, aOp, aC, List.getElem?_cons_zero, List.getElem?_cons_succ, Res.bind_ok, kd_int, isKd_ii, isKd_ib, truB, Bool.not_true, Bool.false_eq_true, if_false, a1, a2, ofE_ok, aSkip, o2, p2, aRet, f2, e1]
  · refine ⟨false, ?_, ?_⟩
    · rw [m_fits, runD, if_pos (show [PV.ref n, .tup (ob top), .int (ps.length : Int), vi, vp, vo].length = P_fits.length from rfl), b_fits, r1]
      cases vi with
      | int i =>
        by_cases c1 : i < 0
        · have a1 : oLt (.int i) (.int 0) h = .ok (.bl true) h := by rw [ltI, decide_eq_true c1]
          simp only [aSeq, aIfS, aOrT, aNotT, aToTru, aToT, aCall, aCons, aNil, aVar, aOp, aC, List.getElem?_cons_zero, List.getElem?_cons_succ, Res.bind_ok, i1, truB, Bool.not_true, Bool.false_eq_true, if_false, a1, if_true, ofE_ok, aRet]
        · have a1 : oLt (.int i) (.int 0) h = .ok (.bl false) h := by rw [ltI, decide_eq_false c1]
          have a2 : oGe (.int i) (.int (ps.length : Int)) h = .ok (.bl true) h := by
            rw [geI, decide_eq_true]
            by_cases c2 : (ps.length : Int) ≤ i
            · exact c2
            · exact absurd ⟨i.toNat, by rw [Int.toNat_of_nonneg (by omega)], by omega⟩ c0
          generalize (ps.length : Int) = LL at *
          simp only [aSeq, aIfS, aOrT, aNotT, aToTru, aToT, aCall, aCons, aNil, aVar, aOp, aC, List.getElem?_cons_zero, List.getElem?_cons_succ, Res.bind_ok, i1, truB, Bool.not_true, Bool.false_eq_true, if_false, a1, a2, if_true, ofE_ok, aRet]
      | ref _ => exact hi.elim
      | dct _ _ => exact hi.elim
      | _ =>
        simp only [aSeq, aIfS, aOrT, aNotT, aToTru, aToT, aCall, aCons, aNil, aVar, aOp, aC, List.getElem?_cons_zero, List.getElem?_cons_succ, Res.bind_ok, i1, truB, Bool.not_false, if_true, ofE_ok, aRet]
    · rw [m_L_fits, runD, if_pos (show [kd, wd, .tup (ob top), .int (ps.length : Int), vi, vp, vo].length = P_L_fits.length from rfl), b_L_fits, r2]
      cases vi with
      | int i =>
        by_cases c1 : i < 0
        · have a1 : oLt (.int i) (.int 0) h = .ok (.bl true) h := by rw [ltI, decide_eq_true c1]
          simp only [aSeq, aIfS, aOrT, aNotT, aToTru, aToT, aIsi, aCall, aCons, aNil, aVar, aOp, aC, List.getElem?_cons_zero, List.getElem?_cons_succ, Res.bind_ok, kd_int, isKd_ii, isKd_ib, truB, Bool.not_true, Bool.false_eq_true, if_false, a1, if_true, ofE_ok, aRet]
        · have a1 : oLt (.int i) (.int 0) h = .ok (.bl false) h := by rw [ltI, decide_eq_false c1]
          have a2 : oGe (.int i) (.int (ps.length : Int)) h = .ok (.bl true) h := by
            rw [geI, decide_eq_true]
            by_cases c2 : (ps.length : Int) ≤ i
            · exact c2
            · exact absurd ⟨i.toNat, by rw [Int.toNat_of_nonneg (by omega)], by omega⟩ c0
          generalize (ps.length : Int) = LL at *
          simp only [aSeq, aIfS, aOrT, aNotT, aToTru, aToT, aIsi, aCall, aCons, aNil, aVar, aOp, aC, List.getElem?_cons_zero, List.getElem?_cons_succ, Res.bind_ok, kd_int, isKd_ii, isKd_ib, truB, Bool.not_true, Bool.false_eq_true, if_false, a1, a2, if_true, ofE_ok, aRet]
      | bl b => cases b <;> rfl
      | ref _ => exact hi.elim
      | dct _ _ => exact hi.elim
      | _ => rfl
end
section
variable {n : Nat} {h : Hh} {kd wd : PV} {H : List Nat → List Nat} {sz : Nat} {ps : List (List Nat)}
/-! ### parted -/
def fnd (H : List Nat → List Nat) : List (List Nat) → List (List Nat) → Option (List Nat × List Nat)
  | t :: ts, u :: us => if t ≠ u ∧ H t = H u then some (t, u) else fnd H ts us
  | _, _ => none
theorem parted_loop (g : DG n h kd wd H sz) (x1 x2 x3 x4 x5 : SV) : ∀ (ts us : List (List Nat)), (∀ t ∈ ts, txt t) → (∀ u ∈ us, txt u) → ∀ s6 s7 : SV, ∃ t6 t7,
    forL (gTuA 2 (gCs (gN 6) (gCs (gN 7) gNl))) b_parted_1 (zipL (tl ts) (tl us)) [.v (.ref n), x1, x2, x3, x4, x5, s6, s7] h =
      match fnd H ts us with
      | some p => .rt (.tup [.tup (ob p.1), .tup (ob p.2)]) h
      | none => .nx [.v (.ref n), x1, x2, x3, x4, x5, t6, t7] h
  | [], us, _, _, s6, s7 => ⟨s6, s7, by cases us <;> rfl⟩
  | t :: ts, [], _, _, s6, s7 => ⟨s6, s7, rfl⟩
  | t :: ts, u :: us, ht, hu, s6, s7 => by
    have hz : zipL (tl (t :: ts)) (tl (u :: us)) = PV.tup [.tup (ob t), .tup (ob u)] :: zipL (tl ts) (tl us) := rfl
    obtain ⟨t6, t7, ih⟩ := parted_loop g x1 x2 x3 x4 x5 ts us (fun t h => ht t (by simp [h])) (fun u h => hu u (by simp [h])) (.v (.tup (ob t))) (.v (.tup (ob u)))
    have h1 := ht t (by simp)
    have h2 := hu u (by simp)
    have c1 : mMeth "Hasher" "digest" m_Hasher_digest (mVar 0) (mCons (mVar 6) mNil) [.v (.ref n), x1, x2, x3, x4, x5, .v (.tup (ob t)), .v (.tup (ob u))] h = .ok (.tup (ob (H t))) h := g.call rfl rfl h1.1 (by have := h1.2; omega)
    have c2 : mMeth "Hasher" "digest" m_Hasher_digest (mVar 0) (mCons (mVar 7) mNil) [.v (.ref n), x1, x2, x3, x4, x5, .v (.tup (ob t)), .v (.tup (ob u))] h = .ok (.tup (ob (H u))) h := g.call rfl rfl h2.1 (by have := h2.2; omega)
    have hne := ne_ob t u h
    have heq := eq_ob (H t) (H u) h
    have two : ∀ a b : PV, ([a, b].length ≤ 16777216) = True := fun a b => eq_true (by simp)
    have hg : gTuA 2 (gCs (gN 6) (gCs (gN 7) gNl)) (.tup [.tup (ob t), .tup (ob u)]) [.v (.ref n), x1, x2, x3, x4, x5, s6, s7] = some [.v (.ref n), x1, x2, x3, x4, x5, .v (.tup (ob t)), .v (.tup (ob u))] := rfl
    refine ⟨t6, t7, ?_⟩
    rw [hz]
    unfold forL
    rw [hg]
    simp only
    unfold fnd
    by_cases e : t = u
    · have hb : b_parted_1 [.v (.ref n), x1, x2, x3, x4, x5, .v (.tup (ob t)), .v (.tup (ob u))] h = .nx [.v (.ref n), x1, x2, x3, x4, x5, .v (.tup (ob t)), .v (.tup (ob u))] h := by
        simp only [b_parted_1, aIfS, aAndT, aToT, aOp, aVar, List.getElem?_cons_zero, List.getElem?_cons_succ, Res.bind_ok, hne, decide_eq_true e, Bool.not_true, Bool.false_eq_true, if_false, ofE_ok, aSkip]
      rw [hb, if_neg (fun z => z.1 e)]
      exact ih
    · by_cases e2 : H t = H u
      · have hb : b_parted_1 [.v (.ref n), x1, x2, x3, x4, x5, .v (.tup (ob t)), .v (.tup (ob u))] h = .rt (.tup [.tup (ob t), .tup (ob u)]) h := by
          simp only [b_parted_1, aIfS, aAndT, aToT, aOp, aVar, List.getElem?_cons_zero, List.getElem?_cons_succ, Res.bind_ok, hne, decide_eq_false e, Bool.not_false, if_true, c1, c2, heq, decide_eq_true e2, ofE_ok, aRet, aTup, aCons, aNil, two]
        rw [hb, if_pos ⟨e, e2⟩]
      · have hb : b_parted_1 [.v (.ref n), x1, x2, x3, x4, x5, .v (.tup (ob t)), .v (.tup (ob u))] h = .nx [.v (.ref n), x1, x2, x3, x4, x5, .v (.tup (ob t)), .v (.tup (ob u))] h := by
          simp only [b_parted_1, aIfS, aAndT, aToT, aOp, aVar, List.getElem?_cons_zero, List.getElem?_cons_succ, Res.bind_ok, hne, decide_eq_false e, Bool.not_false, if_true, c1, c2, heq, decide_eq_false e2, ofE_ok, Bool.false_eq_true, if_false, aSkip]
        rw [hb, if_neg (fun z => e2 z.2)]
        exact ih
theorem fnd_some : ∀ {ts us : List (List Nat)} {p : List Nat × List Nat}, fnd H ts us = some p → p.1 ≠ p.2 ∧ H p.1 = H p.2 ∧ p.1 ∈ ts ∧ p.2 ∈ us
  | [], _, _, e => by unfold fnd at e; cases e
  | _ :: _, [], _, e => by unfold fnd at e; cases e
  | t :: ts, u :: us, p, e => by
    unfold fnd at e
    split at e
    · rename_i c; cases e; exact ⟨c.1, c.2, by simp, by simp⟩
    · obtain ⟨h1, h2, h3, h4⟩ := fnd_some e
      exact ⟨h1, h2, by simp [h3], by simp [h4]⟩
theorem fnd_self : ∀ ts : List (List Nat), fnd H ts ts = none
  | [] => rfl
  | t :: ts => by unfold fnd; rw [if_neg (fun z => z.1 rfl)]; exact fnd_self ts
theorem meet (g : DG n h kd wd H sz) (k : Nat) : ∀ (os os' : List (List Nat)) (j : Nat) (t t' : List Nat), os.length = os'.length → (∀ o ∈ os, o.length = sz) → (∀ o ∈ os', o.length = sz) →
    H (lastL H k j t os) = H (lastL H k j t' os') → fnd H (pathL H k j t os) (pathL H k j t' os') = none → t = t' ∧ os = os'
  | [], [], j, t, t', _, _, _, e, f => by
    unfold pathL fnd at f
    split at f
    · cases f
    · rename_i c
      refine ⟨?_, rfl⟩
      by_cases q : t = t'
      · exact q
      · exact absurd ⟨q, e⟩ c
  | [], _ :: _, _, _, _, l, _, _, _, _ => by simp at l
  | _ :: _, [], _, _, _, l, _, _, _, _ => by simp at l
  | o :: os, o' :: os', j, t, t', l, h1, h2, e, f => by
    have f' : (if t ≠ t' ∧ H t = H t' then some (t, t') else fnd H (pathL H k (j + 1) (nxtT H k j t o) os) (pathL H k (j + 1) (nxtT H k j t' o') os')) = none := by
      have : fnd H (t :: pathL H k (j + 1) (nxtT H k j t o) os) (t' :: pathL H k (j + 1) (nxtT H k j t' o') os') = none := f
      unfold fnd at this; exact this
    split at f'
    · cases f'
    · rename_i c
      obtain ⟨r1, r2⟩ := meet g k os os' (j + 1) (nxtT H k j t o) (nxtT H k j t' o') (by simpa using l) (fun x hx => h1 x (by simp [hx])) (fun x hx => h2 x (by simp [hx])) e f'
      have l1 := h1 o (by simp)
      have l2 := h2 o' (by simp)
      have l3 := g.ln t
      have l4 := g.ln t'
      have hh : o = o' ∧ H t = H t' := by
        unfold nxtT at r1
        split at r1
        · have := List.append_inj (List.cons_inj_right 1 |>.mp r1) (by omega)
          exact this
        · have := List.append_inj (List.cons_inj_right 1 |>.mp r1) (by omega)
          exact ⟨this.2, this.1⟩
      refine ⟨?_, by rw [hh.1, r2]⟩
      by_cases q : t = t'
      · exact q
      · exact absurd ⟨q, hh.2⟩ c
end
end Law

set_option Elab.async false
set_option linter.all false
set_option maxRecDepth 100000
set_option maxHeartbeats 1000000
set_option exponentiation.threshold 3000
namespace Law
open PySem Mir
theorem slU (xs : List PV) (k : Nat) (h : Hh) : oSl (.tup xs) none (some (k : Int)) h = .ok (.tup (xs.take k)) h := by rw [oSl, cutP_take]
theorem slW (xs : List PV) (k : Nat) (h : Hh) : oSl (.tup xs) (some (k : Int)) none h = .ok (.tup (xs.drop k)) h := by rw [oSl, cutP_drop]
theorem slV (xs : List PV) (k : Nat) (h : Hh) : oSl (.tup xs) (some ((k : Int) + 1)) none h = .ok (.tup (xs.drop (k + 1))) h := by
  rw [show (k : Int) + 1 = ((k + 1 : Nat) : Int) by omega]; exact slW xs (k + 1) h
theorem ix_mem (L : List PV) (e : Int) (h0 : 0 ≤ e) (h1 : e < L.length) (h : Hh) : ∃ x, x ∈ L ∧ oIx (.lst L) (.int e) h = .ok x h := by
  obtain ⟨k, rfl⟩ : ∃ k : Nat, e = (k : Int) := ⟨e.toNat, by omega⟩
  have hk : k < L.length := by omega
  exact ⟨L[k], List.getElem_mem hk, ixL h (L2.atI_nat (List.getElem?_eq_getElem hk))⟩
theorem three3 (a b c : PV) : ([a, b, c].length ≤ 16777216) = True := eq_true (by simp)
theorem one1 (a : PV) : ([a].length ≤ 16777216) = True := eq_true (by simp)
theorem zero0 : (([] : List PV).length ≤ 16777216) = True := eq_true (by simp)
theorem six6 (a b c d e f : PV) : ([a, b, c, d, e, f].length ≤ 16777216) = True := eq_true (by simp)
theorem eight8 (a b c d e f g i : PV) : ([a, b, c, d, e, f, g, i].length ≤ 16777216) = True := eq_true (by simp)
theorem tri0 (a b c : PV) (h : Hh) : oIx (.lst [a, b, c]) (.int 0) h = .ok a h := rfl
theorem tri1 (a b c : PV) (h : Hh) : oIx (.lst [a, b, c]) (.int 1) h = .ok b h := rfl
theorem tri2 (a b c : PV) (h : Hh) : oIx (.lst [a, b, c]) (.int 2) h = .ok c h := rfl
def K2 (B : Nat) (xs : List PV) : Prop := xs.length ≤ B ∧ ∀ x ∈ xs, kn1 x
def K3 (B : Nat) (xs : List PV) : Prop := xs.length ≤ B ∧ ∀ x ∈ xs, kn2 B x
theorem kn2.mono {B : Nat} {x : PV} (h : kn2 B x) : kn2 (B + 1) x := by
  cases x with
  | tup xs => exact ⟨by have := h.1; omega, h.2⟩
  | ref _ => exact h
  | dct _ _ => exact h
  | _ => trivial
theorem kn3.mono {B : Nat} {x : PV} (h : kn3 B x) : kn3 (B + 1) x := by
  cases x with
  | tup xs => exact ⟨by have := h.1; omega, fun y hy => (h.2 y hy).mono⟩
  | ref _ => exact h
  | dct _ _ => exact h
  | _ => trivial
theorem all_app {P : PV → Prop} {a b : List PV} (ha : ∀ x ∈ a, P x) (hb : ∀ x ∈ b, P x) : ∀ x ∈ a ++ b, P x := fun x hx => by
  rcases List.mem_append.mp hx with hx | hx
  · exact ha x hx
  · exact hb x hx
theorem all_take {P : PV → Prop} {a : List PV} (ha : ∀ x ∈ a, P x) (k : Nat) : ∀ x ∈ a.take k, P x := fun x hx => ha x (List.mem_of_mem_take hx)
theorem all_drop {P : PV → Prop} {a : List PV} (ha : ∀ x ∈ a, P x) (k : Nat) : ∀ x ∈ a.drop k, P x := fun x hx => ha x (List.mem_of_mem_drop hx)
theorem all_one {P : PV → Prop} {a : PV} (ha : P a) : ∀ x ∈ [a], P x := fun x hx => by rw [List.mem_singleton.mp hx]; exact ha
theorem addU (a b : List PV) (ha : a.length ≤ 1000) (hb : b.length ≤ 1000) (h : Hh) : oAdd (.tup a) (.tup b) h = .ok (.tup (a ++ b)) h := addT h (by omega)
theorem tk_len (a : List PV) (k : Nat) : (a.take k).length ≤ a.length := by rw [List.length_take]; omega
theorem dr_len (a : List PV) (k : Nat) : (a.drop k).length ≤ a.length := by rw [List.length_drop]; omega
theorem put_ok {P : PV → Prop} {B : Nat} {a : List PV} {y : PV} (k : Nat) (hk : k ≤ a.length) (hl : a.length ≤ B) (ha : ∀ x ∈ a, P x) (hy : P y) : (a.take k ++ [y] ++ a.drop (k + 1)).length ≤ B + 1 ∧ ∀ x ∈ a.take k ++ [y] ++ a.drop (k + 1), P x :=
  ⟨by rw [List.length_append, List.length_append, List.length_take, List.length_drop, List.length_singleton]; omega, all_app (all_app (all_take ha k) (all_one hy)) (all_drop ha _)⟩
theorem ins_ok {P : PV → Prop} {B : Nat} {a : List PV} {y : PV} (k : Nat) (hk : k ≤ a.length) (hl : a.length ≤ B) (ha : ∀ x ∈ a, P x) (hy : P y) : (a.take k ++ [y] ++ a.drop k).length ≤ B + 1 ∧ ∀ x ∈ a.take k ++ [y] ++ a.drop k, P x :=
  ⟨by rw [List.length_append, List.length_append, List.length_take, List.length_drop, List.length_singleton]; omega, all_app (all_app (all_take ha k) (all_one hy)) (all_drop ha _)⟩
theorem del_ok {P : PV → Prop} {B : Nat} {a : List PV} (k : Nat) (hk : k ≤ a.length) (hl : a.length ≤ B) (ha : ∀ x ∈ a, P x) : (a.take k ++ a.drop (k + 1)).length ≤ B + 1 ∧ ∀ x ∈ a.take k ++ a.drop (k + 1), P x :=
  ⟨by rw [List.length_append, List.length_take, List.length_drop]; omega, all_app (all_take ha k) (all_drop ha _)⟩
theorem snoc_ok {P : PV → Prop} {B : Nat} {a : List PV} {y : PV} (hl : a.length ≤ B) (ha : ∀ x ∈ a, P x) (hy : P y) : (a ++ [y]).length ≤ B + 1 ∧ ∀ x ∈ a ++ [y], P x :=
  ⟨by rw [List.length_append, List.length_singleton]; omega, all_app ha (all_one hy)⟩
theorem spoilt_eq (j n B : Nat) (hB : B ≤ 40) (r : Int) (xs ys : List PV) (hx : kn2 B (.tup xs)) (hy : kn3 B (.tup ys)) (ht : ∀ y ∈ ys, ∃ zs, y = .tup zs) (h : Hh) :
    ∃ vi vp vo, m_L_spoilt [.int (j : Int), .tup xs, .tup ys, .int r, .int (n : Int)] h = .ok (.tup [vi, vp, vo]) h ∧ kn1 vi ∧ kn2 (B + 1) vp ∧ kn3 (B + 1) vo := by
  obtain ⟨hxl, hxk⟩ := hx
  obtain ⟨hyl, hyk⟩ := hy
  have HX : kn2 (B + 1) (.tup xs) := ⟨by omega, hxk⟩
  have HY : kn3 (B + 1) (.tup ys) := ⟨by omega, fun y hy => (hyk y hy).mono⟩
  have HYk : ∀ y ∈ ys, kn2 (B + 1) y := fun y hy => (hyk y hy).mono
  have m12 : oMod (.int r) (.int 12) h = .ok (.int (r % 12)) h := modI _ (by decide)
  have d12 : oDiv (.int r) (.int 12) h = .ok (.int (r / 12)) h := divI _ (by decide)
  have d500 : oDiv (.int r) (.int 500) h = .ok (.int (r / 500)) h := divI _ (by decide)
  have d130 : oDiv (.int r) (.int 130) h = .ok (.int (r / 130)) h := divI _ (by decide)
  have mO : oMod (.int (r / 500)) (.int 256) h = .ok (.int (r / 500 % 256)) h := modI _ (by decide)
  have lx : fLen [.tup xs] h = .ok (.int (xs.length : Int)) h := by rw [lenT]
  have ly : fLen [.tup ys] h = .ok (.int (ys.length : Int)) h := by rw [lenT]
  obtain ⟨c0, c1⟩ := mod_range r (n := 12) (by decide)
  obtain ⟨a0, a1⟩ := mod_range (r / 12) (n := (xs.length : Int) + 1) (by omega)
  obtain ⟨p0, p1⟩ := mod_range (r / 12) (n := (ys.length : Int) + 1) (by omega)
  obtain ⟨A, hA⟩ : ∃ A : Nat, r / 12 % ((xs.length : Int) + 1) = (A : Int) := ⟨(r / 12 % ((xs.length : Int) + 1)).toNat, by omega⟩
  obtain ⟨P, hP⟩ : ∃ P : Nat, r / 12 % ((ys.length : Int) + 1) = (P : Int) := ⟨(r / 12 % ((ys.length : Int) + 1)).toNat, by omega⟩
  have hAl : A ≤ xs.length := by omega
  have hPl : P ≤ ys.length := by omega
  have mA : oMod (.int (r / 12)) (.int ((xs.length : Int) + 1)) h = .ok (.int (A : Int)) h := by rw [modI _ (by omega), hA]
  have mP : oMod (.int (r / 12)) (.int ((ys.length : Int) + 1)) h = .ok (.int (P : Int)) h := by rw [modI _ (by omega), hP]
  obtain ⟨e60, e61⟩ := mod_range (r / 12) (n := 6) (by decide)
  obtain ⟨e80, e81⟩ := mod_range (r / 12) (n := 8) (by decide)
  have m6 : oMod (.int (r / 12)) (.int 6) h = .ok (.int (r / 12 % 6)) h := modI _ (by decide)
  have m8 : oMod (.int (r / 12)) (.int 8) h = .ok (.int (r / 12 % 8)) h := modI _ (by decide)
  obtain ⟨O, hO⟩ : ∃ O, r / 500 % 256 = O := ⟨_, rfl⟩
  rw [hO] at mO
  have sx1 := slU xs A h
  have sx2 := slV xs A h
  have sy1 := slU ys P h
  have sy2 := slV ys P h
  have sy3 := slW ys P h
  have tx := tk_len xs A
  have ty := tk_len ys P
  have dx := dr_len xs (A + 1)
  have dy := dr_len ys (P + 1)
  have dy3 := dr_len ys P
  have ax1 : oAdd (.tup (xs.take A)) (.tup [.int O]) h = _ := addU _ _ (by omega) (by simp) h
  have ax2 : oAdd (.tup (xs.take A ++ [.int O])) (.tup (xs.drop (A + 1))) h = _ := addU _ _ (by rw [List.length_append, List.length_singleton]; omega) (by omega) h
  have ax3 : oAdd (.tup (xs.take A)) (.tup (xs.drop (A + 1))) h = _ := addU _ _ (by omega) (by omega) h
  have ay3 : oAdd (.tup (ys.take P)) (.tup (ys.drop (P + 1))) h = _ := addU _ _ (by omega) (by omega) h
  suffices key : ∃ vi vp vo, b_L_spoilt [.v (.int (j : Int)), .v (.tup xs), .v (.tup ys), .v (.int r), .v (.int (n : Int)), .un, .un, .un, .un, .un, .un, .un] h = .rt (.tup [vi, vp, vo]) h ∧ kn1 vi ∧ kn2 (B + 1) vp ∧ kn3 (B + 1) vo by
    obtain ⟨vi, vp, vo, k1, k2⟩ := key
    refine ⟨vi, vp, vo, ?_, k2⟩
    rw [m_L_spoilt, runD, if_pos (show [PV.int (j : Int), .tup xs, .tup ys, .int r, .int (n : Int)].length = P_L_spoilt.length from rfl), show startE N_L_spoilt.length [PV.int (j : Int), .tup xs, .tup ys, .int r, .int (n : Int)] = [.v (.int (j : Int)), .v (.tup xs), .v (.tup ys), .v (.int r), .v (.int (n : Int)), .un, .un, .un, .un, .un, .un, .un] from rfl, k1]
  rw [b_L_spoilt]
  obtain ⟨c, hc⟩ : ∃ c, r % 12 = c := ⟨_, rfl⟩
  rw [hc] at m12 c0 c1
  have same : ∀ x5 x6 x7 x8 x9 x10 x11, (mRet (mTup (mCons (mVar 0) (mCons (mVar 1) (mCons (mVar 2) mNil))))) [.v (.int (j : Int)), .v (.tup xs), .v (.tup ys), .v (.int r), .v (.int (n : Int)), x5, x6, x7, x8, x9, x10, x11] h = .rt (.tup [.int (j : Int), .tup xs, .tup ys]) h := fun x5 x6 x7 x8 x9 x10 x11 => by
    simp only [aRet, aTup, aCons, aNil, aVar, List.getElem?_cons_zero, List.getElem?_cons_succ, Res.bind_ok, three3, if_true, ofE_ok]
  rcases (show c = 0 ∨ c = 1 ∨ c = 2 ∨ c = 3 ∨ c = 4 ∨ c = 5 ∨ c = 6 ∨ (7 ≤ c ∧ c < 10) ∨ (c = 10 ∨ c = 11) by omega) with rfl | rfl | rfl | rfl | rfl | rfl | rfl | hc3 | hcl
  · refine ⟨.int (j : Int), .tup (xs.take A ++ [PV.int O] ++ xs.drop (A + 1)), .tup ys, ?_, trivial, put_ok (P := kn1) (y := .int O) A hAl hxl hxk trivial, HY⟩
    generalize (A : Int) = AA at *
    generalize (P : Int) = PP at *
    generalize (j : Int) = JJ at *
    generalize (n : Int) = NN at *
    generalize (xs.length : Int) = XL at *
    generalize (ys.length : Int) = YL at *
    simp only [aSeq, aSet, aOp, aVar, aC, aCall, aCons, aNil, List.getElem?_cons_zero, List.getElem?_cons_succ, List.set_cons_zero, List.set_cons_succ, Res.bind_ok, m12, lx, ly, addI, d12, mA, mP, d500, mO, ofE_ok, aIfS, aToT, eqI, Int.reduceEq, decide_true, decide_false, if_true, Bool.false_eq_true, if_false, aSkip, aRet, aTup, three3, one1, aSl, aOn, aOs, sx1, sx2, ax1, ax2]
  · refine ⟨.int (j : Int), .tup (xs.take A ++ xs.drop (A + 1)), .tup ys, ?_, trivial, del_ok A hAl hxl hxk, HY⟩
    generalize (A : Int) = AA at *
    generalize (P : Int) = PP at *
    generalize (j : Int) = JJ at *
    generalize (n : Int) = NN at *
    generalize (xs.length : Int) = XL at *
    generalize (ys.length : Int) = YL at *
    simp only [aSeq, aSet, aOp, aVar, aC, aCall, aCons, aNil, List.getElem?_cons_zero, List.getElem?_cons_succ, List.set_cons_zero, List.set_cons_succ, Res.bind_ok, m12, lx, ly, addI, d12, mA, mP, d500, mO, ofE_ok, aIfS, aToT, eqI, Int.reduceEq, decide_true, decide_false, if_true, Bool.false_eq_true, if_false, aSkip, aRet, aTup, three3, one1, aSl, aOn, aOs, sx1, sx2, ax3]
  · have hneg : oNeg (.int 1) h = .ok (.int (-1)) h := rfl
    have hxor : oXor (.int (j : Int)) (.int 1) h = .ok (.int ((j ^^^ 1 : Nat) : Int)) h := xorN h j 1
    have hshl : oShl (.int 1) (.int (ys.length : Int)) h = .ok (.int ((1 <<< ys.length : Nat) : Int)) h := shlN (h := h) (a := 1) (k := ys.length) (by rw [show Nat.log2 1 = 0 from rfl]; omega)
    obtain ⟨x, hxm, hxi⟩ := ix_mem [.int (-1), .int (n : Int), .bl true, .non, .str "0", .int ((j ^^^ 1 : Nat) : Int), .int ((j : Int) + 1), .int ((j : Int) + ((1 <<< ys.length : Nat) : Int))] (r / 12 % 8) e80 e81 h
    refine ⟨x, .tup xs, .tup ys, ?_, ?_, HX, HY⟩
    · generalize ((j ^^^ 1 : Nat) : Int) = JX at *
      generalize ((1 <<< ys.length : Nat) : Int) = SL at *
      generalize (A : Int) = AA at *
      generalize (P : Int) = PP at *
      generalize (j : Int) = JJ at *
      generalize (n : Int) = NN at *
      generalize (xs.length : Int) = XL at *
      generalize (ys.length : Int) = YL at *
      simp only [aSeq, aSet, aOp, aVar, aC, aCall, aCons, aNil, List.getElem?_cons_zero, List.getElem?_cons_succ, List.set_cons_zero, List.set_cons_succ, Res.bind_ok, m12, lx, ly, addI, d12, mA, mP, d500, mO, ofE_ok, aIfS, aToT, eqI, Int.reduceEq, decide_true, decide_false, if_true, Bool.false_eq_true, if_false, aSkip, aRet, aTup, three3, one1, aSl, aOn, aOs, aFz, aSzc, aUn, hneg, hxor, hshl, eight8, m8, hxi]
    · simp only [List.mem_cons, List.not_mem_nil, or_false] at hxm
      rcases hxm with rfl | rfl | rfl | rfl | rfl | rfl | rfl | rfl <;> trivial
  · have a256 : oAdd (.tup xs) (.tup [.int 256]) h = _ := addU xs [.int 256] (by omega) (by simp) h
    have ad0 : oAdd (.tup xs) (.tup [.int 0]) h = _ := addU xs [.int 0] (by omega) (by simp) h
    obtain ⟨x, hxm, hxi⟩ := ix_mem [.lst xs, .non, .str "ab", .tup (xs ++ [.int 256]), .tup [.tup xs], .tup (xs ++ [.int 0])] (r / 12 % 6) e60 e61 h
    refine ⟨.int (j : Int), x, .tup ys, ?_, trivial, ?_, HY⟩
    · generalize (A : Int) = AA at *
      generalize (P : Int) = PP at *
      generalize (j : Int) = JJ at *
      generalize (n : Int) = NN at *
      generalize (xs.length : Int) = XL at *
      generalize (ys.length : Int) = YL at *
      simp only [aSeq, aSet, aOp, aVar, aC, aCall, aCons, aNil, List.getElem?_cons_zero, List.getElem?_cons_succ, List.set_cons_zero, List.set_cons_succ, Res.bind_ok, m12, lx, ly, addI, d12, mA, mP, d500, mO, ofE_ok, aIfS, aToT, eqI, Int.reduceEq, decide_true, decide_false, if_true, Bool.false_eq_true, if_false, aSkip, aRet, aTup, three3, one1, aSl, aOn, aOs, aFz, aSzc, aCallN, listT, a256, ad0, six6, m6, hxi]
    · simp only [List.mem_cons, List.not_mem_nil, or_false] at hxm
      rcases hxm with rfl | rfl | rfl | rfl | rfl | rfl
      · trivial
      · trivial
      · trivial
      · exact snoc_ok (P := kn1) hxl hxk trivial
      · exact ⟨by simp, all_one trivial⟩
      · exact snoc_ok (P := kn1) hxl hxk trivial
  · refine ⟨.int (j : Int), .tup xs, .tup (ys.take P ++ ys.drop (P + 1)), ?_, trivial, HX, del_ok P hPl hyl HYk⟩
    generalize (A : Int) = AA at *
    generalize (P : Int) = PP at *
    generalize (j : Int) = JJ at *
    generalize (n : Int) = NN at *
    generalize (xs.length : Int) = XL at *
    generalize (ys.length : Int) = YL at *
    simp only [aSeq, aSet, aOp, aVar, aC, aCall, aCons, aNil, List.getElem?_cons_zero, List.getElem?_cons_succ, List.set_cons_zero, List.set_cons_succ, Res.bind_ok, m12, lx, ly, addI, d12, mA, mP, d500, mO, ofE_ok, aIfS, aToT, eqI, Int.reduceEq, decide_true, decide_false, if_true, Bool.false_eq_true, if_false, aSkip, aRet, aTup, three3, one1, aSl, aOn, aOs, sy1, sy2, ay3]
  · obtain ⟨z, hz, hzk⟩ : ∃ z, mIf (toT (mOp oGt (mCall fLen (mCons (mVar 2) mNil)) (mC (.int 0)))) (mOp oIx (mVar 2) (mC (.int 0))) (mTup mNil) [.v (.int (j : Int)), .v (.tup xs), .v (.tup ys), .v (.int r), .v (.int (n : Int)), .v (.int 5), .v (.int (A : Int)), .v (.int (P : Int)), .v (.int O), .un, .un, .un] h = .ok z h ∧ kn2 (B + 1) z := by
      cases ys with
      | nil => exact ⟨.tup [], rfl, by simp, fun x hx => by simp at hx⟩
      | cons y t =>
        have hg : oGt (.int ((y :: t).length : Int)) (.int 0) h = .ok (.bl true) h := by rw [gtI, decide_eq_true (by rw [List.length_cons]; omega)]
        have hi : oIx (.tup (y :: t)) (.int 0) h = .ok y h := ixT h (L2.atI_nat (j := 0) (List.getElem?_cons_zero))
        refine ⟨y, ?_, HYk y (by simp)⟩
        generalize ((y :: t).length : Int) = YL at *
        simp only [aIf, aToT, aOp, aCall, aCons, aNil, aVar, aC, List.getElem?_cons_zero, List.getElem?_cons_succ, Res.bind_ok, ly, hg, if_true, hi]
    have ay1 : oAdd (.tup (ys.take P)) (.tup [z]) h = _ := addU _ _ (by omega) (by simp) h
    have ay2 : oAdd (.tup (ys.take P ++ [z])) (.tup (ys.drop P)) h = _ := addU _ _ (by rw [List.length_append, List.length_singleton]; omega) (by omega) h
    refine ⟨.int (j : Int), .tup xs, .tup (ys.take P ++ [z] ++ ys.drop P), ?_, trivial, HX, ins_ok P hPl hyl HYk hzk⟩
    generalize (A : Int) = AA at *
    generalize (P : Int) = PP at *
    generalize (j : Int) = JJ at *
    generalize (n : Int) = NN at *
    generalize (xs.length : Int) = XL at *
    generalize (ys.length : Int) = YL at *
    simp only [aSeq, aSet, aOp, aVar, aC, aCall, aCons, aNil, List.getElem?_cons_zero, List.getElem?_cons_succ, List.set_cons_zero, List.set_cons_succ, Res.bind_ok, m12, lx, ly, addI, d12, mA, mP, d500, mO, ofE_ok, aIfS, aToT, eqI, Int.reduceEq, decide_true, decide_false, if_true, Bool.false_eq_true, if_false, aSkip, aRet, aTup, three3, one1, aSl, aOn, aOs, sy1, sy3, hz, ay1, ay2]
  · have s11 : oSl (.tup ys) (some 1) none h = .ok (.tup (ys.drop 1)) h := slW ys 1 h
    have s12 : oSl (.tup ys) none (some 1) h = .ok (.tup (ys.take 1)) h := slU ys 1 h
    have l1 := dr_len ys 1
    have l2 := tk_len ys 1
    have ad1 : oAdd (.tup (ys.drop 1)) (.tup (ys.take 1)) h = _ := addU _ _ (by omega) (by omega) h
    obtain ⟨x, hxm, hxi⟩ := ix_mem [.lst ys, .non, .tup ys.reverse, .int 5, .tup [.tup ys], .tup (ys.drop 1 ++ ys.take 1)] (r / 12 % 6) e60 e61 h
    refine ⟨.int (j : Int), .tup xs, x, ?_, trivial, HX, ?_⟩
    · generalize (A : Int) = AA at *
      generalize (P : Int) = PP at *
      generalize (j : Int) = JJ at *
      generalize (n : Int) = NN at *
      generalize (xs.length : Int) = XL at *
      generalize (ys.length : Int) = YL at *
      simp only [aSeq, aSet, aOp, aVar, aC, aCall, aCons, aNil, List.getElem?_cons_zero, List.getElem?_cons_succ, List.set_cons_zero, List.set_cons_succ, Res.bind_ok, m12, lx, ly, addI, d12, mA, mP, d500, mO, ofE_ok, aIfS, aToT, eqI, Int.reduceEq, decide_true, decide_false, if_true, Bool.false_eq_true, if_false, aSkip, aRet, aTup, three3, one1, aSl, aOn, aOs, aFz, aSzc, aCallN, listT, aRev, s11, s12, ad1, six6, m6, hxi]
    · simp only [List.mem_cons, List.not_mem_nil, or_false] at hxm
      rcases hxm with rfl | rfl | rfl | rfl | rfl | rfl
      · trivial
      · trivial
      · exact ⟨by rw [List.length_reverse]; omega, fun y hy => HYk y (List.mem_reverse.mp hy)⟩
      · trivial
      · exact ⟨by simp, all_one (show kn2 (B + 1) (.tup ys) from ⟨by omega, fun y hy => (hyk y hy).kn1⟩)⟩
      · exact ⟨by rw [List.length_append, List.length_drop, List.length_take]; omega, all_app (all_drop HYk 1) (all_take HYk 1)⟩
  · have e0 : ∀ k : Int, k < 7 → decide (c = k) = false := fun k hk => decide_eq_false (by omega)
    have q0 := e0 0 (by decide)
    have q1 := e0 1 (by decide)
    have q2 := e0 2 (by decide)
    have q3 := e0 3 (by decide)
    have q4 := e0 4 (by decide)
    have q5 := e0 5 (by decide)
    have q6 := e0 6 (by decide)
    have l10 : oLt (.int c) (.int 10) h = .ok (.bl true) h := by rw [ltI, decide_eq_true hc3.2]
    by_cases hp : P < ys.length
    · have lP : oLt (.int (P : Int)) (.int (ys.length : Int)) h = .ok (.bl true) h := by rw [ltI, decide_eq_true (by omega)]
      obtain ⟨zs, hzs⟩ := ht ys[P] (List.getElem_mem hp)
      have hkz := hyk ys[P] (List.getElem_mem hp)
      rw [hzs] at hkz
      obtain ⟨hzl, hzk⟩ := hkz
      have iy : oIx (.tup ys) (.int (P : Int)) h = .ok (.tup zs) h := ixT h (L2.atI_nat (by rw [List.getElem?_eq_getElem hp, hzs]))
      have lz : fLen [.tup zs] h = .ok (.int (zs.length : Int)) h := by rw [lenT]
      obtain ⟨s0, s1⟩ := mod_range (r / 130) (n := (zs.length : Int) + 1) (by omega)
      obtain ⟨Z, hZ⟩ : ∃ Z : Nat, r / 130 % ((zs.length : Int) + 1) = (Z : Int) := ⟨(r / 130 % ((zs.length : Int) + 1)).toNat, by omega⟩
      have hZl : Z ≤ zs.length := by omega
      have mZ : oMod (.int (r / 130)) (.int ((zs.length : Int) + 1)) h = .ok (.int (Z : Int)) h := by rw [modI _ (by omega), hZ]
      have sz1 := slU zs Z h
      have sz2 := slV zs Z h
      have tz := tk_len zs Z
      have dz := dr_len zs (Z + 1)
      have az1 : oAdd (.tup (zs.take Z)) (.tup [.int O]) h = _ := addU _ _ (by omega) (by simp) h
      have az2 : oAdd (.tup (zs.take Z ++ [.int O])) (.tup (zs.drop (Z + 1))) h = _ := addU _ _ (by rw [List.length_append, List.length_singleton]; omega) (by omega) h
      have az3 : oAdd (.tup (zs.take Z)) (.tup (zs.drop (Z + 1))) h = _ := addU _ _ (by omega) (by omega) h
      obtain ⟨y, hy, hyk2⟩ : ∃ y, oIx (.lst [.tup (zs.take Z ++ [.int O] ++ zs.drop (Z + 1)), .tup (zs.take Z ++ zs.drop (Z + 1)), .lst zs]) (.int (c - 7)) h = .ok y h ∧ kn2 (B + 1) y := by
        rcases (show c = 7 ∨ c = 8 ∨ c = 9 by omega) with rfl | rfl | rfl
        · exact ⟨_, rfl, put_ok (P := kn1) (y := .int O) Z hZl hzl hzk trivial⟩
        · exact ⟨_, rfl, del_ok Z hZl hzl hzk⟩
        · exact ⟨_, rfl, trivial⟩
      have ay1 : oAdd (.tup (ys.take P)) (.tup [y]) h = _ := addU _ _ (by omega) (by simp) h
      have ay2 : oAdd (.tup (ys.take P ++ [y])) (.tup (ys.drop (P + 1))) h = _ := addU _ _ (by rw [List.length_append, List.length_singleton]; omega) (by omega) h
      refine ⟨.int (j : Int), .tup xs, .tup (ys.take P ++ [y] ++ ys.drop (P + 1)), ?_, trivial, HX, put_ok P hPl hyl HYk hyk2⟩
      generalize (A : Int) = AA at *
      generalize (P : Int) = PP at *
      generalize (Z : Int) = ZZ at *
      generalize (j : Int) = JJ at *
      generalize (n : Int) = NN at *
      generalize (xs.length : Int) = XL at *
      generalize (ys.length : Int) = YL at *
      generalize (zs.length : Int) = ZL at *
      simp only [aSeq, aSet, aOp, aVar, aC, aCall, aCons, aNil, List.getElem?_cons_zero, List.getElem?_cons_succ, List.set_cons_zero, List.set_cons_succ, Res.bind_ok, m12, lx, ly, addI, d12, mA, mP, d500, mO, ofE_ok, aIfS, aToT, eqI, decide_true, decide_false, if_true, Bool.false_eq_true, if_false, aSkip, aRet, aTup, three3, one1, aSl, aOn, aOs, q0, q1, q2, q3, q4, q5, q6, aAndT, l10, lP, iy, lz, d130, mZ, sz1, sz2, az1, az2, az3, aFz, aSzc, aCallN, listT, subI, hy, sy1, sy2, ay1, ay2]
    · have lP : oLt (.int (P : Int)) (.int (ys.length : Int)) h = .ok (.bl false) h := by rw [ltI, decide_eq_false (by omega)]
      refine ⟨.int (j : Int), .tup xs, .tup ys, ?_, trivial, HX, HY⟩
      generalize (A : Int) = AA at *
      generalize (P : Int) = PP at *
      generalize (j : Int) = JJ at *
      generalize (n : Int) = NN at *
      generalize (xs.length : Int) = XL at *
      generalize (ys.length : Int) = YL at *
      simp only [aSeq, aSet, aOp, aVar, aC, aCall, aCons, aNil, List.getElem?_cons_zero, List.getElem?_cons_succ, List.set_cons_zero, List.set_cons_succ, Res.bind_ok, m12, lx, ly, addI, d12, mA, mP, d500, mO, ofE_ok, aIfS, aToT, eqI, decide_true, decide_false, if_true, Bool.false_eq_true, if_false, aSkip, aRet, aTup, three3, one1, aSl, aOn, aOs, q0, q1, q2, q3, q4, q5, q6, aAndT, l10, lP]
  · have e0 : ∀ k : Int, k < 7 → decide (c = k) = false := fun k hk => decide_eq_false (by omega)
    have q0 := e0 0 (by decide)
    have q1 := e0 1 (by decide)
    have q2 := e0 2 (by decide)
    have q3 := e0 3 (by decide)
    have q4 := e0 4 (by decide)
    have q5 := e0 5 (by decide)
    have q6 := e0 6 (by decide)
    have l10 : oLt (.int c) (.int 10) h = .ok (.bl false) h := by rw [ltI, decide_eq_false (by omega)]
    refine ⟨.int (j : Int), .tup xs, .tup ys, ?_, trivial, HX, HY⟩
    generalize (A : Int) = AA at *
    generalize (P : Int) = PP at *
    generalize (j : Int) = JJ at *
    generalize (n : Int) = NN at *
    generalize (xs.length : Int) = XL at *
    generalize (ys.length : Int) = YL at *
    simp only [aSeq, aSet, aOp, aVar, aC, aCall, aCons, aNil, List.getElem?_cons_zero, List.getElem?_cons_succ, List.set_cons_zero, List.set_cons_succ, Res.bind_ok, m12, lx, ly, addI, d12, mA, mP, d500, mO, ofE_ok, aIfS, aToT, eqI, decide_true, decide_false, if_true, Bool.false_eq_true, if_false, aSkip, aRet, aTup, three3, one1, aSl, aOn, aOs, q0, q1, q2, q3, q4, q5, q6, aAndT, l10]
end Law

set_option Elab.async false
set_option linter.all false
set_option maxRecDepth 100000
set_option maxHeartbeats 1000000
set_option exponentiation.threshold 3000
namespace Law
open PySem Mir
/-! ### the words of the primes -/
/-! ### the Hasher -/
theorem e_sha_sum (h : Hh) : oEq (.str "sha") (.str "sum") h = .ok (.bl false) h := by rfl
theorem ix0 (a b : PV) (h : Hh) : oIx (.tup [a, b]) (.int 0) h = .ok a h := ixT h rfl
theorem ix1 (a b : PV) (h : Hh) : oIx (.tup [a, b]) (.int 1) h = .ok b h := ixT h rfl
/-! ### the sum -/
def sumT (L : Nat) (bs : List Nat) : Nat := bs.foldl (fun t b => (t * 31 + b + 1) % L) 1
theorem sumT_snoc (L : Nat) (bs : List Nat) (b : Nat) : sumT L (bs ++ [b]) = (sumT L bs * 31 + b + 1) % L := by simp [sumT]
theorem sumT_lt {L : Nat} (hL : 2 ≤ L) (bs : List Nat) : sumT L bs < L := by
  rcases List.eq_nil_or_concat bs with rfl | ⟨l, a, rfl⟩
  · show 1 < L; omega
  · rw [List.concat_eq_append, sumT_snoc]; exact Nat.mod_lt _ (by omega)
def sumK (s : Nat) (bs : List Nat) : List Nat := be s (sumT (2 ^ (8 * s)) bs)
theorem sumK_len (s : Nat) (bs : List Nat) : (sumK s bs).length = s := be_len _ _
theorem sumK_small (s : Nat) (bs : List Nat) : small8 (sumK s bs) := be_small _ _
theorem pow_ge (s : Nat) (hs : 1 ≤ s) : 2 ≤ 2 ^ (8 * s) := by
  have : 2 ^ 1 ≤ 2 ^ (8 * s) := Nat.pow_le_pow_right (by decide) (by omega)
  omega
theorem pow_pos8 (s : Nat) : 0 < 2 ^ (8 * s) := Nat.pow_pos (by decide)
theorem modN {a b : Nat} (hb : 0 < b) (h : Hh) : oMod (.int (a : Int)) (.int (b : Int)) h = .ok (.int ((a % b : Nat) : Int)) h := by
  rw [modI h (by omega)]; rfl
theorem mul31 (a : Nat) (h : Hh) : oMulA (.int (a : Int)) (.int 31) h = .ok (.int ((a * 31 : Nat) : Int)) h := by
  have := mulAN (a := a) (b := 31) h (.inr (by decide))
  rw [show ((31 : Nat) : Int) = 31 from rfl] at this; exact this
theorem mul256 (a : Nat) (h : Hh) : oMulA (.int (a : Int)) (.int 256) h = .ok (.int ((a * 256 : Nat) : Int)) h := by
  have := mulAN (a := a) (b := 256) h (.inr (by decide))
  rw [show ((256 : Nat) : Int) = 256 from rfl] at this; exact this
theorem plain_step (L t b : Nat) (hL : 0 < L) (x0 x1 : SV) (h : Hh) : b_plain_sum_1 [x0, x1, .v (.int (L : Int)), .v (.int (t : Int)), .v (.int (b : Int))] h = .nx [x0, x1, .v (.int (L : Int)), .v (.int (((t * 31 + b + 1) % L : Nat) : Int)), .v (.int (b : Int))] h := by
  have e1 : ((t * 31 : Nat) : Int) + (b : Int) = ((t * 31 + b : Nat) : Int) := by omega
  have e2 : ((t * 31 + b : Nat) : Int) + 1 = ((t * 31 + b + 1 : Nat) : Int) := by omega
  have e3 := modN (a := t * 31 + b + 1) (b := L) hL h
  simp only [b_plain_sum_1, aSet, aOp, aVar, aC, List.getElem?_cons_zero, List.getElem?_cons_succ, List.set_cons_zero, List.set_cons_succ, Res.bind_ok, mul31, addI, e1, e2, e3, ofE_ok]
theorem sumT_nil (L : Nat) : sumT L [] = 1 := rfl
theorem int1 : ((1 : Nat) : Int) = 1 := rfl
theorem plain_loop (s L : Nat) (hL : 0 < L) (bs : List Nat) (h : Hh) : ∃ t4, forL (gN 4) b_plain_sum_1 (bs.map fun b : Nat => PV.int (b : Int)) [.v (.tup (ob bs)), .v (.int (s : Int)), .v (.int (L : Int)), .v (.int 1), .un] h = .nx [.v (.tup (ob bs)), .v (.int (s : Int)), .v (.int (L : Int)), .v (.int (sumT L bs : Nat)), t4] h := by
  obtain ⟨env', q1, t4, q2⟩ := forL_inv (g := gN 4) (b := b_plain_sum_1) (h := h) (fun b : Nat => PV.int (b : Int))
    (fun pre env => ∃ t4, env = [.v (.tup (ob bs)), .v (.int (s : Int)), .v (.int (L : Int)), .v (.int (sumT L pre : Nat)), t4]) bs []
    (fun pre b post e env ⟨t4, q2⟩ => by
      subst q2
      have hst := plain_step L (sumT L pre) b hL (.v (.tup (ob bs))) (.v (.int (s : Int))) h
      rw [← sumT_snoc] at hst
      exact ⟨_, _, rfl, hst, .v (.int (b : Int)), rfl⟩)
    [.v (.tup (ob bs)), .v (.int (s : Int)), .v (.int (L : Int)), .v (.int 1), .un] ⟨.un, by rw [sumT_nil, int1]⟩
  rw [List.nil_append] at q2
  subst q2
  exact ⟨t4, q1⟩
theorem shl8s (s : Nat) (hs2 : s ≤ 100) (h : Hh) : oShl (.int 1) (.int ((8 * s : Nat) : Int)) h = .ok (.int ((2 ^ (8 * s) : Nat) : Int)) h := shl1 (8 * s) (by omega) h
theorem as_oct8 (s L v : Nat) (hs : 1 ≤ s) (hs2 : s ≤ 100) (hv : v < 2 ^ (8 * s)) (h : Hh) :  m_as_octets [.int (v : Int), .int (s : Int)] h = .ok (.tup (ob (be s v))) h := as_octets_eq v s (by omega) hv h
theorem mul8s (s : Nat) (h : Hh) : oMulA (.int 8) (.int (s : Int)) h = .ok (.int ((8 * s : Nat) : Int)) h := mulAN (a := 8) h (.inl (by decide))
theorem plain_sum_eq (s : Nat) (hs : 1 ≤ s) (hs2 : s ≤ 100) (bs : List Nat) (h : Hh) : m_plain_sum [.tup (ob bs), .int (s : Int)] h = .ok (.tup (ob (sumK s bs))) h := by
  have h8 := mul8s s h
  have hsh := shl8s s hs2 h
  have hlt := sumT_lt (pow_ge s hs) bs
  have ha := as_oct8 s 0 (sumT (2 ^ (8 * s)) bs) hs hs2 hlt h
  obtain ⟨t4, q1⟩ := plain_loop s (2 ^ (8 * s)) (pow_pos8 s) bs h
  unfold sumK
  generalize 2 ^ (8 * s) = L at *
  generalize hS : ((8 * s : Nat) : Int) = E at *
  generalize hV : sumT L bs = V at *
  clear hS
  rw [m_plain_sum, runD, if_pos (show [PV.tup (ob bs), .int (s : Int)].length = P_plain_sum.length from rfl), b_plain_sum, show startE N_plain_sum.length [.tup (ob bs), .int (s : Int)] = [.v (.tup (ob bs)), .v (.int (s : Int)), .un, .un, .un] from rfl]
  generalize (s : Int) = S at *
  simp only [aSeq, aSet, aOp, aVar, aC, List.getElem?_cons_zero, List.getElem?_cons_succ, List.set_cons_zero, List.set_cons_succ, Res.bind_ok, h8, hsh, ofE_ok, aFor, aItS, q1, aRet, aCallK, aCons, aNil, List.length_singleton, and_self, if_true, List.cons_append, List.nil_append, ha]
abbrev KS (s : Nat) : PV := .tup [.str "sum", .int (s : Int)]
abbrev HS (s : Nat) : Ob := .ins "Hasher" ["kind", "size", "start", "rounds"] [KS s, .int (s : Int), .tup [], .tup []]
theorem e_sum_sha (h : Hh) : oEq (.str "sum") (.str "sha") h = .ok (.bl false) h := by rfl
theorem e_sum_sum (h : Hh) : oEq (.str "sum") (.str "sum") h = .ok (.bl true) h := by rfl
theorem is_kind_sum (s : Nat) (h1 : 1 ≤ s) (h2 : s ≤ 8) (h : Hh) : m_is_kind [KS s] h = .ok (.bl true) h := by
  obtain rfl | rfl | rfl | rfl | rfl | rfl | rfl | rfl : s = 1 ∨ s = 2 ∨ s = 3 ∨ s = 4 ∨ s = 5 ∨ s = 6 ∨ s = 7 ∨ s = 8 := by omega
  all_goals rfl
theorem check_sum (s : Nat) (h1 : 1 ≤ s) (h2 : s ≤ 8) (h : Hh) : m_check_kind [KS s] h = .ok .non h := by
  have hk := is_kind_sum s h1 h2 h
  simp only [m_check_kind, runD, if_pos (show [KS s].length = P_check_kind.length from rfl), b_check_kind, show startE N_check_kind.length [KS s] = [.v (KS s)] from rfl,
    aIfS, aNotT, aToTru, aCall, aCons, aNil, aVar, List.getElem?_cons_zero, Res.bind_ok, hk, truB, Bool.not_true, ofE_ok, Bool.false_eq_true, if_false, aSkip]
theorem hasherS_init (s : Nat) (h1 : 1 ≤ s) (h2 : s ≤ 8) (h0 : Hh) : m_Hasher_init [.ref h0.length, KS s] (h0 ++ [.ins "Hasher" [] []]) = .ok .non (h0 ++ [HS s]) := by
  have two : [PV.ref h0.length, KS s].length = P_Hasher_init.length := rfl
  have nil0 : ([] : List PV).length ≤ 16777216 := by simp
  have k1 : ∀ ns vs, ns.length < 1000 → mSetF ["Hasher"] "kind" (mVar 0) (mVar 1) [.v (.ref h0.length), .v (KS s)] (h0 ++ [.ins "Hasher" ns vs]) = .nx [.v (.ref h0.length), .v (KS s)] (h0 ++ [.ins "Hasher" (insN "kind" ns) (insV "kind" (KS s) ns vs)]) := fun ns vs hl => setF_last rfl rfl hl
  have k2 : ∀ ns vs, ns.length < 1000 → mSetF ["Hasher"] "size" (mVar 0) (mOp oIx (mVar 1) (mC (.int 1))) [.v (.ref h0.length), .v (KS s)] (h0 ++ [.ins "Hasher" ns vs]) = .nx [.v (.ref h0.length), .v (KS s)] (h0 ++ [.ins "Hasher" (insN "size" ns) (insV "size" (.int (s : Int)) ns vs)]) := fun ns vs hl => setF_last (by simp only [aOp, aVar, aC, List.getElem?_cons_zero, List.getElem?_cons_succ, Res.bind_ok, ix1]) rfl hl
  have k3 : ∀ ns vs, ns.length < 1000 → mSetF ["Hasher"] "start" (mVar 0) (mTup mNil) [.v (.ref h0.length), .v (KS s)] (h0 ++ [.ins "Hasher" ns vs]) = .nx [.v (.ref h0.length), .v (KS s)] (h0 ++ [.ins "Hasher" (insN "start" ns) (insV "start" (.tup []) ns vs)]) := fun ns vs hl => setF_last (by simp only [aTup, aNil, Res.bind_ok, nil0, if_true]) rfl hl
  have k4 : ∀ ns vs, ns.length < 1000 → mSetF ["Hasher"] "rounds" (mVar 0) (mTup mNil) [.v (.ref h0.length), .v (KS s)] (h0 ++ [.ins "Hasher" ns vs]) = .nx [.v (.ref h0.length), .v (KS s)] (h0 ++ [.ins "Hasher" (insN "rounds" ns) (insV "rounds" (.tup []) ns vs)]) := fun ns vs hl => setF_last (by simp only [aTup, aNil, Res.bind_ok, nil0, if_true]) rfl hl
  have ht : ∀ h, toT (mOp oEq (mOp oIx (mVar 1) (mC (.int 0))) (mC (.str "sha"))) [.v (.ref h0.length), .v (KS s)] h = .ok false h := fun h => by
    simp only [aToT, aOp, aVar, aC, List.getElem?_cons_zero, List.getElem?_cons_succ, Res.bind_ok, ix0, e_sum_sha]
  have hck : ∀ h, m_check_kind [KS s] h = .ok .non h := fun h => check_sum s h1 h2 h
  rw [m_Hasher_init, runD, if_pos two, b_Hasher_init, show startE N_Hasher_init.length [.ref h0.length, KS s] = [.v (.ref h0.length), .v (KS s)] from rfl]
  have hd : ∀ h, mDrop (mCall m_check_kind (mCons (mVar 1) mNil)) [.v (.ref h0.length), .v (KS s)] h = .nx [.v (.ref h0.length), .v (KS s)] h := fun h => by
    simp only [aDrop, aCall, aCons, aNil, aVar, List.getElem?_cons_zero, List.getElem?_cons_succ, Res.bind_ok, hck, ofE_ok]
  have l0 : ([] : List Str).length < 1000 := by decide
  have l1 : (["kind"] : List Str).length < 1000 := by decide
  have l2 : (["kind", "size"] : List Str).length < 1000 := by decide
  have l3 : (["kind", "size", "start"] : List Str).length < 1000 := by decide
  simp only [aSeq, hd, k1 _ _ l0, insN_nil, insV_nil, k2 _ _ l1, insN_cons, insV_cons, ne_kind_size, ne_kind_start, ne_kind_rounds, ne_size_start, ne_size_rounds, ne_start_rounds, if_false, k3 _ _ l2, k4 _ _ l3, aIfS, ht, ofE_ok, Bool.false_eq_true, aSkip]
theorem hasherS_make (s : Nat) (h1 : 1 ≤ s) (h2 : s ≤ 8) (env : En) (ma : MA) (h : Hh) (hm : ma env h = .ok [KS s] h) : mMake "Hasher" m_Hasher_init ma env h = .ok (.ref h.length) (h ++ [HS s]) := by
  simp only [aMake, hm, Res.bind_ok, hasherS_init s h1 h2]
theorem digestS_at {n s : Nat} {h : Hh} (hs : 1 ≤ s) (hs2 : s ≤ 8) (hn : h[n]? = some (HS s)) (bs : List Nat) : m_Hasher_digest [.ref n, .tup (ob bs)] h = .ok (.tup (ob (sumK s bs))) h := by
  have f1 : ∀ x, mFld ["Hasher"] "kind" (mVar 0) [.v (.ref n), x] h = .ok (KS s) h := fun x => fld_at rfl hn (by simp) (by simp)
  have f2 : ∀ x, mFld ["Hasher"] "size" (mVar 0) [.v (.ref n), x] h = .ok (.int (s : Int)) h := fun x => fld_at rfl hn (by simp) (by simp)
  have hp := plain_sum_eq s hs (by omega) bs h
  rw [m_Hasher_digest, runD, if_pos (show [PV.ref n, .tup (ob bs)].length = P_Hasher_digest.length from rfl), b_Hasher_digest, show startE N_Hasher_digest.length [PV.ref n, .tup (ob bs)] = [.v (.ref n), .v (.tup (ob bs))] from rfl]
  simp only [aSeq, aIfS, aToT, aOp, aC, f1, Res.bind_ok, ix0, e_sum_sum, ofE_ok, if_true, aRet, aCall, aCons, aNil, aVar, List.getElem?_cons_zero, List.getElem?_cons_succ, f2, hp]
theorem hdS_digest (s : Nat) : getF "digest" ["kind", "size", "start", "rounds"] [KS s, .int (s : Int), .tup [], .tup []] = none := by simp
/-! ### is_digest -/
end Law

set_option Elab.async false
set_option linter.all false
set_option maxRecDepth 100000
set_option maxHeartbeats 1000000
set_option exponentiation.threshold 3000
namespace Law
open PySem Mir
theorem and255 (a : Nat) : a &&& 255 = a % 256 := Nat.and_two_pow_sub_one_eq_mod a 8
theorem pow7 (h : Hh) : oPow (.int 10) (.int 7) h = .ok (.int 10000000) h := by rfl
theorem ldig_step (L t b : Nat) (hL : 0 < L) (x0 x1 x2 x6 : SV) (h : Hh) : b_L_digest_1 [x0, x1, x2, .v (.int (L : Int)), .v (.int (t : Int)), .v (.int (b : Int)), x6] h = .nx [x0, x1, x2, .v (.int (L : Int)), .v (.int (((t * 31 + b + 1) % L : Nat) : Int)), .v (.int (b : Int)), x6] h := by
  have e1 : ((t * 31 : Nat) : Int) + (b : Int) = ((t * 31 + b : Nat) : Int) := by omega
  have e2 : ((t * 31 + b : Nat) : Int) + 1 = ((t * 31 + b + 1 : Nat) : Int) := by omega
  have e3 := modN (a := t * 31 + b + 1) (b := L) hL h
  simp only [b_L_digest_1, aSet, aOp, aVar, aC, aCall, aCons, aNil, List.getElem?_cons_zero, List.getElem?_cons_succ, List.set_cons_zero, List.set_cons_succ, Res.bind_ok, mul31, addI, e1, e2, intI, e3, ofE_ok]
theorem ldig_loop (L : Nat) (hL : 0 < L) (x0 x1 : SV) (bs : List Nat) (h : Hh) : ∃ t5, forL (gN 5) b_L_digest_1 (ob bs) [x0, x1, .v (.tup (ob bs)), .v (.int (L : Int)), .v (.int 1), .un, .un] h = .nx [x0, x1, .v (.tup (ob bs)), .v (.int (L : Int)), .v (.int (sumT L bs : Nat)), t5, .un] h := by
  obtain ⟨env', q1, t5, q2⟩ := forL_inv (g := gN 5) (b := b_L_digest_1) (h := h) (fun b : Nat => PV.int (b : Int))
    (fun pre env => ∃ t5, env = [x0, x1, .v (.tup (ob bs)), .v (.int (L : Int)), .v (.int (sumT L pre : Nat)), t5, .un]) bs []
    (fun pre b post e env ⟨t5, q2⟩ => by
      subst q2
      have hst := ldig_step L (sumT L pre) b hL x0 x1 (.v (.tup (ob bs))) .un h
      rw [← sumT_snoc] at hst
      exact ⟨_, _, rfl, hst, .v (.int (b : Int)), rfl⟩)
    [x0, x1, .v (.tup (ob bs)), .v (.int (L : Int)), .v (.int 1), .un, .un] ⟨.un, by rw [sumT_nil, int1]⟩
  rw [List.nil_append] at q2
  subst q2
  exact ⟨t5, q1⟩
theorem ldig_sum (s : Nat) (h1 : 1 ≤ s) (h2 : s ≤ 8) (bs : List Nat) (h : Hh) : m_L_digest [KS s, .non, .tup (ob bs)] h = .ok (.tup (ob (sumK s bs))) h := by
  have h8 := mul8s s h
  have hsh := shl8s s (by omega) h
  obtain ⟨t5, q1⟩ := ldig_loop (2 ^ (8 * s)) (pow_pos8 s) (.v (KS s)) (.v .non) bs h
  unfold sumK
  generalize hV : sumT (2 ^ (8 * s)) bs = V at *
  have kk : ∀ x3 x5 : SV, lcL (gN 6) mYes (mOp oAnd (mOp oShr (mVar 4) (mOp oMulA (mC (.int 8)) (mOp oSub (mOp oSub (mOp oIx (mVar 0) (mC (.int 1))) (mC (.int 1))) (mVar 6)))) (mC (.int 255))) [.v (KS s), .v .non, .v (.tup (ob bs)), x3, .v (.int (V : Int)), x5, .un] ((List.range s).map fun i : Nat => PV.int (i : Int)) h = .ok (ob (be s V)) h := fun x3 x5 => by
    unfold be ob
    rw [List.map_map]
    refine lcL_all (fun i : Nat => PV.int (i : Int)) _ _ fun i hi => ⟨_, rfl, ?_⟩
    have hi' := List.mem_range.mp hi
    have e7 : (s : Int) - 1 - (i : Int) = ((s - 1 - i : Nat) : Int) := by omega
    have hk : oMulA (.int 8) (.int ((s - 1 - i : Nat) : Int)) h = .ok (.int ((8 * (s - 1 - i) : Nat) : Int)) h := mulAN (a := 8) h (.inl (by decide))
    have hs := shrN h V (8 * (s - 1 - i))
    have ha := andN h (V >>> (8 * (s - 1 - i))) 255
    rw [and255, Nat.shiftRight_eq_div_pow, show ((255 : Nat) : Int) = 255 from rfl] at ha
    rw [Nat.shiftRight_eq_div_pow] at hs
    simp only [aOp, aVar, aC, List.getElem?_cons_zero, List.getElem?_cons_succ, List.set_cons_zero, List.set_cons_succ, Res.bind_ok, ix1, subI, e7, hk, hs, ha, Function.comp_apply]
  have hz : (((List.range s).map fun i : Nat => PV.int (i : Int)).length ≤ 16777216) = True := eq_true (by rw [List.length_map, List.length_range]; omega)
  have hr : rngOk (s : Int) = true := rngOk_of (by omega) (by omega)
  have ht : (s : Int).toNat = s := Int.toNat_natCast s
  rw [m_L_digest, runD, if_pos (show [KS s, .non, .tup (ob bs)].length = P_L_digest.length from rfl), b_L_digest, show startE N_L_digest.length [KS s, .non, .tup (ob bs)] = [.v (KS s), .v .non, .v (.tup (ob bs)), .un, .un, .un, .un] from rfl]
  have i0 : oIx (KS s) (.int 0) h = .ok (.str "sum") h := ix0 _ _ h
  have i1 : oIx (KS s) (.int 1) h = .ok (.int (s : Int)) h := ix1 _ _ h
  generalize ((2 ^ (8 * s) : Nat) : Int) = LL at *
  generalize ((8 * s : Nat) : Int) = EE at *
  generalize (V : Int) = VV at *
  generalize KS s = KD at *
  generalize (s : Int) = S at *
  simp only [aSeq, aIfS, aToT, aOp, aVar, aC, List.getElem?_cons_zero, List.getElem?_cons_succ, Res.bind_ok, i0, i1, e_sum_sha, ofE_ok, Bool.false_eq_true, if_false, aSkip, aSet, h8, hsh, List.set_cons_zero, List.set_cons_succ, aFor, aItS, q1, aRet, aCall, aCons, aNil, aFz, aLc, aR1, hr, if_true, rng_nat, ht, hz, aW0, aW1, kk, tupL]
theorem DG_sum (s : Nat) (h1 : 1 ≤ s) (h2 : s ≤ 8) : DG 0 [HS s] (KS s) .non (sumK s) s where
  dig := fun bs hb hl => digestS_at h1 h2 (n := 0) rfl bs
  ldig := fun bs hb hl => ldig_sum s h1 h2 bs _
  sm := fun bs => sumK_small s bs
  ln := fun bs => sumK_len s bs
  le := by omega
  mt := ⟨_, _, rfl, hdS_digest s⟩
/-! ### kinds and pieces -/
theorem piece_step (r mo : Int) (S : Nat) (hS : S ≤ 16) (c : Int) (x6 : SV) (ps : List (List Nat)) (hp : ∀ p ∈ ps, small8 p ∧ p.length ≤ 16) (hl : ps.length ≤ 100) (t5 : SV) (h : Hh) :
    ∃ p, (small8 p ∧ p.length ≤ 16) ∧ ∃ u5, b_L_pieces_1 [.v (.int r), .v (.int mo), .v (.int (S : Int)), .own (.lst (tl ps)), .v (.int c), t5, .un] h = .nx [.v (.int r), .v (.int mo), .v (.int (S : Int)), .own (.lst (tl (ps ++ [p]))), .v (.int c), u5, .un] h := by
  have hr : rngOk (S : Int) = true := rngOk_of (by omega) (by omega)
  have ht : (S : Int).toNat = S := Int.toNat_natCast S
  have hz : (((List.range S).map fun i : Nat => PV.int (i : Int)).length ≤ 16777216) = True := eq_true (by rw [List.length_map, List.length_range]; omega)
  obtain ⟨P, hP⟩ : ∃ P : List Nat, P = (List.range S).map fun i : Nat => (c / (1 + 7 * (i : Int)) % 256).toNat := ⟨_, rfl⟩
  have hPs : small8 P ∧ P.length ≤ 16 := by
    subst hP
    refine ⟨fun x hx => ?_, by rw [List.length_map, List.length_range]; exact hS⟩
    obtain ⟨i, _, rfl⟩ := List.mem_map.mp hx
    have := mod_range (c / (1 + 7 * (i : Int))) (n := 256) (by decide)
    omega
  have kk : ∀ x5 : SV, lcL (gN 6) mYes (mOp oMod (mCall fInt (mCons (mOp oDiv (mVar 4) (mOp oAdd (mC (.int 1)) (mOp oMulA (mC (.int 7)) (mVar 6)))) mNil)) (mC (.int 256))) [.v (.int r), .v (.int mo), .v (.int (S : Int)), .own (.lst (tl ps)), .v (.int c), x5, .un] ((List.range S).map fun i : Nat => PV.int (i : Int)) h = .ok (ob P) h := fun x5 => by
    rw [hP]
    unfold ob
    rw [List.map_map]
    refine lcL_all (fun i : Nat => PV.int (i : Int)) _ _ fun i hi => ⟨_, rfl, ?_⟩
    have hi' := List.mem_range.mp hi
    have h7 : oMulA (.int 7) (.int (i : Int)) h = .ok (.int (7 * (i : Int))) h := mulAI h (mulOk_l (by decide))
    have hd : oDiv (.int c) (.int (1 + 7 * (i : Int))) h = .ok (.int (c / (1 + 7 * (i : Int)))) h := divI h (divOk_of (by omega) (by omega))
    have hm : oMod (.int (c / (1 + 7 * (i : Int)))) (.int 256) h = .ok (.int (c / (1 + 7 * (i : Int)) % 256)) h := modI h (by decide)
    have hr := mod_range (c / (1 + 7 * (i : Int))) (n := 256) (by decide)
    have he : (((c / (1 + 7 * (i : Int)) % 256).toNat : Nat) : Int) = c / (1 + 7 * (i : Int)) % 256 := by omega
    simp only [aOp, aVar, aC, aCall, aCons, aNil, List.getElem?_cons_zero, List.getElem?_cons_succ, List.set_cons_zero, List.set_cons_succ, Res.bind_ok, h7, addI, hd, intI, hm, Function.comp_apply, he]
  have m5 : oMod (.int c) (.int 5) h = .ok (.int (c % 5)) h := modI h (by decide)
  have m3 : oMod (.int c) (.int 3) h = .ok (.int (c % 3)) h := modI h (by decide)
  obtain ⟨y0, y1⟩ := mod_range c (n := 3) (by decide)
  obtain ⟨e, he⟩ : ∃ e : Nat, c % 3 = (e : Int) := ⟨(c % 3).toNat, by omega⟩
  have hmul := mulOne e S (by omega) h
  have one : ∀ a : PV, ([a].length ≤ 16777216) = True := fun a => eq_true (by simp)
  have hzl : ((tl ps).length < 16777216) = True := eq_true (by rw [tl_len]; omega)
  have hap : ∀ p, tl ps ++ [PV.tup (ob p)] = tl (ps ++ [p]) := fun p => by unfold tl; simp
  by_cases hc : 0 < c % 5
  · refine ⟨P, hPs, .v (.tup (ob P)), ?_⟩
    have hg : oGt (.int (c % 5)) (.int 0) h = .ok (.bl true) h := by rw [gtI, decide_eq_true hc]
    rw [b_L_pieces_1]
    generalize (S : Int) = SS at *
    simp only [aSeq, aSet, aCall, aCons, aNil, aFz, aLc, aR1, aVar, List.getElem?_cons_zero, List.getElem?_cons_succ, Res.bind_ok, hr, if_true, rng_nat, ht, hz, aW0, aW1, List.set_cons_zero, List.set_cons_succ, kk, tupL, ofE_ok, aApp, aIf, aToT, aOp, aC, m5, hg, hzl, hap]
  · refine ⟨List.replicate S e, ⟨fun x hx => by rw [List.eq_of_mem_replicate hx]; omega, by rw [List.length_replicate]; exact hS⟩, .v (.tup (ob P)), ?_⟩
    have hg : oGt (.int (c % 5)) (.int 0) h = .ok (.bl false) h := by rw [gtI, decide_eq_false hc]
    rw [b_L_pieces_1]
    generalize (S : Int) = SS at *
    simp only [aSeq, aSet, aCall, aCons, aNil, aFz, aLc, aR1, aVar, List.getElem?_cons_zero, List.getElem?_cons_succ, Res.bind_ok, hr, if_true, rng_nat, ht, hz, aW0, aW1, List.set_cons_zero, List.set_cons_succ, kk, tupL, ofE_ok, aApp, aIf, aToT, aOp, aC, m5, hg, Bool.false_eq_true, if_false, aTup, one, m3, he, hmul, hzl, hap]
theorem ixN_nat' {n j : Nat} (hj : j < n) : L2.ixN n (j : Int) = some j := by
  unfold L2.ixN
  rw [if_pos (by omega), if_pos (by omega)]
  simp
theorem same4 (l : List Nat) (hl : l.length ≤ 1000) (h : Hh) : m_L_same 4 [.tup (ob l), .tup (ob l)] h = .ok (.bl true) h := same_self 3 _ h (by rw [ob_ints]; exact lz_ints _ (by rw [List.length_map]; omega))
theorem lz_tl (l : List (List Nat)) (hl : l.length ≤ 1000) (hp : ∀ p ∈ l, p.length ≤ 1000) : lz 3 (.tup (tl l)) = true := by
  have h1 : decide ((tl l).length ≤ 1000000) = true := decide_eq_true (by rw [tl_len]; omega)
  have h2 : (tl l).all (lz 2) = true := List.all_eq_true.mpr fun x hx => by
    obtain ⟨p, hp1, rfl⟩ := List.mem_map.mp hx
    rw [ob_ints]; exact lz_ints _ (by rw [List.length_map]; have := hp p hp1; omega)
  show (decide ((tl l).length ≤ 1000000) && (tl l).all (lz 2)) = true
  rw [h1, h2]; rfl
theorem same_tl (l : List (List Nat)) (hl : l.length ≤ 1000) (hp : ∀ p ∈ l, p.length ≤ 1000) (h : Hh) : m_L_same 4 [.tup (tl l), .tup (tl l)] h = .ok (.bl true) h := same_self 3 _ h (lz_tl l hl hp)
theorem pieces_eq' (r : Int) (mo : Nat) (hmo : mo ≤ 9) (h : Hh) : ∃ ps, (ps.length ≤ 9 ∧ ∀ p ∈ ps, small8 p ∧ p.length ≤ 16) ∧ m_L_pieces [.int r, .int (mo : Int)] h = .ok (.lst (tl ps)) h := by
  have d3 : oDiv (.int r) (.int 3) h = .ok (.int (r / 3)) h := divI h (by decide)
  have d12 : oDiv (.int r) (.int 12) h = .ok (.int (r / 12)) h := divI h (by decide)
  have m4 : oMod (.int (r / 3)) (.int 4) h = .ok (.int (r / 3 % 4)) h := modI h (by decide)
  have m3 : oMod (.int (r / 12)) (.int 3) h = .ok (.int (r / 12 % 3)) h := modI h (by decide)
  obtain ⟨y0, y1⟩ := mod_range (r / 3) (n := 4) (by decide)
  obtain ⟨c, hcm, hcx⟩ := pick [4, 8, 16, 3] (r / 3 % 4) y0 (by simp; omega) h
  have hc0 : 3 ≤ c ∧ c ≤ 16 := by
    simp only [List.mem_cons, List.not_mem_nil, or_false] at hcm
    rcases hcm with q | q | q | q <;> omega
  obtain ⟨S, rfl⟩ : ∃ S : Nat, c = (S : Int) := ⟨c.toNat, by omega⟩
  simp only [List.map_cons, List.map_nil] at hcx
  have mm : oMod (.int r) (.int ((mo : Int) + 1)) h = .ok (.int (r % ((mo : Int) + 1))) h := modI h (by omega)
  obtain ⟨w0, w1⟩ := mod_range r (n := (mo : Int) + 1) (by omega)
  have hcd := codes_eq (r / 12) (r % ((mo : Int) + 1)) 10000000 w0 (by omega) (by decide) (by decide) h
  have hcl := codesF_len (r % ((mo : Int) + 1)).toNat 10000000 (r / 12)
  generalize codesF (r % ((mo : Int) + 1)).toNat 10000000 (r / 12) = cs at *
  have hcs : cs.length ≤ 9 := by omega
  obtain ⟨env', q1, t4, t5, ps, q2, q3, q4⟩ := forL_inv (g := gN 4) (b := b_L_pieces_1) (h := h) (fun c : Int => PV.int c)
    (fun pre env => ∃ t4 t5 ps, env = [.v (.int r), .v (.int (mo : Int)), .v (.int (S : Int)), .own (.lst (tl ps)), t4, t5, .un] ∧ (∀ p ∈ ps, small8 p ∧ p.length ≤ 16) ∧ ps.length = pre.length) cs []
    (fun pre c post e env ⟨t4, t5, ps, q2, q3, q4⟩ => by
      subst q2
      have hpl : pre.length ≤ 9 := by
        have := congrArg List.length e
        simp at this; omega
      obtain ⟨p, hp, u5, hst⟩ := piece_step r (mo : Int) S (by omega) c .un ps q3 (by omega) t5 h
      refine ⟨_, _, rfl, hst, _, _, ps ++ [p], rfl, fun x hx => ?_, by rw [List.length_append, List.length_append, q4]; rfl⟩
      rcases List.mem_append.mp hx with hx | hx
      · exact q3 x hx
      · rw [List.mem_singleton.mp hx]; exact hp)
    [.v (.int r), .v (.int (mo : Int)), .v (.int (S : Int)), .own (.lst []), .un, .un, .un] ⟨.un, .un, [], rfl, fun p hp => by simp at hp, rfl⟩
  rw [List.nil_append] at q4
  subst q2
  have hlen : fLen [.lst (tl ps)] h = .ok (.int (ps.length : Int)) h := by rw [lenI, tl_len]
  have mS : oMod (.int r) (.int (S : Int)) h = .ok (.int (r % (S : Int))) h := modI h (by omega)
  obtain ⟨v0, v1⟩ := mod_range r (n := (S : Int)) (by omega)
  obtain ⟨K, hK⟩ : ∃ K : Nat, 1 + r % (S : Int) = (K : Int) := ⟨(1 + r % (S : Int)).toNat, by omega⟩
  have hpre : ∀ (rest : MS), (mSeq (mSet 2 (mOp oIx (mFz (szc (mCons (mC (.int 4)) (mCons (mC (.int 8)) (mCons (mC (.int 16)) (mCons (mC (.int 3)) mNil)))))) (mOp oMod (mOp oDiv (mVar 0) (mC (.int 3))) (mC (.int 4)))))
      (mSeq (mSetN 3 (szc mNil)) (mSeq (mFor (itS (mCall m_L_codes (mCons (mOp oDiv (mVar 0) (mC (.int 12))) (mCons (mOp oMod (mVar 0) (mOp oAdd (mVar 1) (mC (.int 1)))) (mCons (mOp oPow (mC (.int 10)) (mC (.int 7))) mNil))))) (gN 4) b_L_pieces_1) rest))) [.v (.int r), .v (.int (mo : Int)), .un, .un, .un, .un, .un] h =
      rest [.v (.int r), .v (.int (mo : Int)), .v (.int (S : Int)), .own (.lst (tl ps)), t4, t5, .un] h := fun rest => by
    have four : ∀ a b c d : PV, ([a, b, c, d].length ≤ 16777216) = True := fun a b c d => eq_true (by simp)
    have nil0 : (([] : List PV).length ≤ 16777216) = True := eq_true (by simp)
    generalize (mo : Int) = MO at *
    generalize (S : Int) = SS at *
    simp only [aSeq, aSet, aOp, aFz, aSzc, aCons, aNil, aC, aVar, List.getElem?_cons_zero, List.getElem?_cons_succ, List.set_cons_zero, List.set_cons_succ, Res.bind_ok, four, if_true, d3, m4, hcx, ofE_ok, aSetN, nil0, aFor, aItS, aCall, d12, addI, mm, pow7, hcd, q1]
  by_cases c1 : 1 < ps.length ∧ r / 12 % 3 = 0
  · -- the last one is cut
    have hl1 : ps.length - 1 < ps.length := by omega
    have hg : oGt (.int (ps.length : Int)) (.int 1) h = .ok (.bl true) h := by rw [gtI, decide_eq_true (by omega)]
    have he : oEq (.int (r / 12 % 3)) (.int 0) h = .ok (.bl true) h := by rw [eqI, decide_eq_true c1.2]
    have e1 : (ps.length : Int) - 1 = ((ps.length - 1 : Nat) : Int) := by omega
    have hix : oIx (.lst (tl ps)) (.int ((ps.length - 1 : Nat) : Int)) h = .ok (.tup (ob ps[ps.length - 1])) h := ixL h (L2.atI_nat (by rw [List.getElem?_map, List.getElem?_eq_getElem hl1]; rfl))
    have hsl : oSl (.tup (ob ps[ps.length - 1])) none (some (K : Int)) h = .ok (.tup (ob (ps[ps.length - 1].take K))) h := by rw [oSl, cutP_take, ob_take]
    have hN : L2.ixN (tl ps).length ((ps.length - 1 : Nat) : Int) = some (ps.length - 1) := ixN_nat' (by rw [tl_len]; exact hl1)
    have hset : (tl ps).set (ps.length - 1) (.tup (ob (ps[ps.length - 1].take K))) = tl (ps.set (ps.length - 1) (ps[ps.length - 1].take K)) := by unfold tl; rw [List.map_set]
    refine ⟨ps.set (ps.length - 1) (ps[ps.length - 1].take K), ⟨by rw [List.length_set]; omega, fun p hp => ?_⟩, ?_⟩
    · rcases List.mem_or_eq_of_mem_set hp with hp | rfl
      · have := q3 p hp; exact ⟨this.1, by omega⟩
      · have := q3 ps[ps.length - 1] (List.getElem_mem hl1)
        exact ⟨this.1.take K, by rw [List.length_take]; omega⟩
    · rw [m_L_pieces, runD, if_pos (show [PV.int r, .int (mo : Int)].length = P_L_pieces.length from rfl), b_L_pieces, show startE N_L_pieces.length [.int r, .int (mo : Int)] = [.v (.int r), .v (.int (mo : Int)), .un, .un, .un, .un, .un] from rfl, hpre]
      generalize ((ps.length - 1 : Nat) : Int) = L1 at *
      generalize (ps.length : Int) = LL at *
      generalize (S : Int) = SS at *
      generalize (K : Int) = KK at *
      simp only [aSeq, aIfS, aAndT, aToT, aOp, aCall, aCons, aNil, aOwn, aC, aVar, List.getElem?_cons_zero, List.getElem?_cons_succ, Res.bind_ok, hlen, hg, if_true, d12, m3, he, ofE_ok, aSetIx, aSl, aOn, aOs, subI, e1, hix, mS, addI, hK, hsl, hN, List.set_cons_zero, List.set_cons_succ, hset, aRetOwn]
  · refine ⟨ps, ⟨by omega, fun p hp => ⟨(q3 p hp).1, by have := (q3 p hp).2; omega⟩⟩, ?_⟩
    have ht : (mAndT (toT (mOp oGt (mCall fLen (mCons (mOwn 3) mNil)) (mC (.int 1)))) (toT (mOp oEq (mOp oMod (mOp oDiv (mVar 0) (mC (.int 12))) (mC (.int 3))) (mC (.int 0))))) [.v (.int r), .v (.int (mo : Int)), .v (.int (S : Int)), .own (.lst (tl ps)), t4, t5, .un] h = .ok false h := by
      by_cases c2 : 1 < ps.length
      · have hg : oGt (.int (ps.length : Int)) (.int 1) h = .ok (.bl true) h := by rw [gtI, decide_eq_true (by omega)]
        have he : oEq (.int (r / 12 % 3)) (.int 0) h = .ok (.bl false) h := by rw [eqI, decide_eq_false (fun z => c1 ⟨c2, z⟩)]
        generalize (ps.length : Int) = LL at *
        simp only [aAndT, aToT, aOp, aCall, aCons, aNil, aOwn, aC, aVar, List.getElem?_cons_zero, List.getElem?_cons_succ, Res.bind_ok, hlen, hg, if_true, d12, m3, he]
      · have hg : oGt (.int (ps.length : Int)) (.int 1) h = .ok (.bl false) h := by rw [gtI, decide_eq_false (by omega)]
        generalize (ps.length : Int) = LL at *
        simp only [aAndT, aToT, aOp, aCall, aCons, aNil, aOwn, aC, aVar, List.getElem?_cons_zero, List.getElem?_cons_succ, Res.bind_ok, hlen, hg, Bool.false_eq_true, if_false]
    rw [m_L_pieces, runD, if_pos (show [PV.int r, .int (mo : Int)].length = P_L_pieces.length from rfl), b_L_pieces, show startE N_L_pieces.length [.int r, .int (mo : Int)] = [.v (.int r), .v (.int (mo : Int)), .un, .un, .un, .un, .un] from rfl, hpre]
    simp only [aSeq, aIfS, ht, ofE_ok, Bool.false_eq_true, if_false, aSkip, aRetOwn, List.getElem?_cons_zero, List.getElem?_cons_succ]
theorem tl_app (a b : List (List Nat)) : tl a ++ tl b = tl (a ++ b) := (List.map_append).symm
theorem adL (a b : List (List Nat)) (ha : a.length ≤ 1000) (hb : b.length ≤ 1000) (h : Hh) : oAdd (.lst (tl a)) (.lst (tl b)) h = .ok (.lst (tl (a ++ b))) h := by rw [addL h (by rw [tl_len, tl_len]; omega), tl_app]
theorem DH_sum (s : Nat) (h1 : 1 ≤ s) (h2 : s ≤ 8) : DH 0 [HS s] (KS s) .non (sumK s) s where
  g := DG_sum s h1 h2
  at_ := ⟨_, _, rfl, by simp, by simp, by simp⟩
theorem kn2_ob (p : List Nat) {B : Nat} (h : p.length ≤ B) : kn2 B (.tup (ob p)) := ⟨by rw [ob_len]; exact h, fun x hx => by
  obtain ⟨b, _, rfl⟩ := List.mem_map.mp hx; trivial⟩
theorem kn3_tl (os : List (List Nat)) {B : Nat} (h : os.length ≤ B) (ho : ∀ o ∈ os, o.length ≤ B) : kn3 B (.tup (tl os)) := ⟨by rw [tl_len]; exact h, fun x hx => by
  obtain ⟨o, hm, rfl⟩ := List.mem_map.mp hx; exact kn2_ob o (ho o hm)⟩
theorem kn2.up {B C : Nat} (hBC : B ≤ C) {x : PV} (h : kn2 B x) : kn2 C x := by
  cases x with
  | tup xs => exact ⟨Nat.le_trans h.1 hBC, h.2⟩
  | ref _ => exact h
  | dct _ _ => exact h
  | _ => trivial
theorem kn3.up {B C : Nat} (hBC : B ≤ C) {x : PV} (h : kn3 B x) : kn3 C x := by
  cases x with
  | tup xs => exact ⟨Nat.le_trans h.1 hBC, fun y hy => (h.2 y hy).up hBC⟩
  | ref _ => exact h
  | dct _ _ => exact h
  | _ => trivial
theorem tup_of_octs {v : PV} (h : octsP v = true) : ∃ xs, v = .tup xs := by
  cases v with
  | tup xs => exact ⟨xs, rfl⟩
  | _ => exact absurd h (by simp [octsP])
section
variable {n : Nat} {h : Hh} {kd wd : PV} {H : List Nat → List Nat} {sz : Nat} {ps : List (List Nat)}
theorem fits_own (g : DH n h kd wd H sz) (q : PS ps) (k : Nat) (hk : k < ps.length) :
    m_fits [.ref n, .tup (ob (T H ps (dpt ps.length) 0)), .int (ps.length : Int), .int (k : Int), .tup (ob ps[k]), .tup (tl (prfT H ps (dpt ps.length) k))] h = .ok (.bl true) h := by
  have hd := dpt16 q
  have hle := g.g.le
  have hp := q.sm ps[k] (List.getElem_mem hk)
  have pf := prf_PF (ps := ps) g.g (dpt ps.length) k
  have i1 := is_integer_of (x := .int (k : Int)) trivial h
  have o1 := is_octets_gen (B := 45) (by decide) (v := .tup (ob ps[k])) (kn2_ob _ (by omega)) h
  have p1 := is_proof_gen g q (B := 45) (by decide) (v := .tup (tl (prfT H ps (dpt ps.length) k))) (kn3_tl _ (by rw [pf.len]; omega) (fun o ho => by have := (pf.ok o ho).2; omega))
  have ho : octsP (.tup (ob ps[k])) = true := List.all_eq_true.mpr fun x hx => by
    obtain ⟨b, hb, rfl⟩ := List.mem_map.mp hx
    have := hp.1 b hb
    show (decide (0 ≤ (b : Int)) && decide ((b : Int) ≤ 255)) = true
    rw [decide_eq_true (by omega), decide_eq_true (by omega)]; rfl
  have hpp : prfP sz (dpt ps.length) (.tup (tl (prfT H ps (dpt ps.length) k))) = true := by
    have e1 : decide ((tl (prfT H ps (dpt ps.length) k)).length = dpt ps.length) = true := decide_eq_true (by rw [tl_len, pf.len])
    have e2 : (tl (prfT H ps (dpt ps.length) k)).all (digP sz) = true := List.all_eq_true.mpr fun x hx => by
      obtain ⟨o, hm, rfl⟩ := List.mem_map.mp hx
      have := pf.ok o hm
      have e3 : decide ((ob o).length = sz) = true := decide_eq_true (by rw [ob_len, this.2])
      have e4 : (ob o).all octP = true := List.all_eq_true.mpr fun x hx => by
        obtain ⟨b, hb, rfl⟩ := List.mem_map.mp hx
        have := this.1 b hb
        show (decide (0 ≤ (b : Int)) && decide ((b : Int) ≤ 255)) = true
        rw [decide_eq_true (by omega), decide_eq_true (by omega)]; rfl
      show (decide ((ob o).length = sz) && (ob o).all octP) = true
      rw [e3, e4]; rfl
    show (decide ((tl (prfT H ps (dpt ps.length) k)).length = dpt ps.length) && (tl (prfT H ps (dpt ps.length) k)).all (digP sz)) = true
    rw [e1, e2]; rfl
  rw [ho] at o1
  rw [hpp] at p1
  have a1 : oLt (.int (k : Int)) (.int 0) h = .ok (.bl false) h := by rw [ltI, decide_eq_false (by omega)]
  have a2 : oGe (.int (k : Int)) (.int (ps.length : Int)) h = .ok (.bl false) h := by rw [geI, decide_eq_false (by omega)]
  have f1 := fold_gen g.g k ps[k] hp.1 (by omega) (prfT H ps (dpt ps.length) k) (by rw [pf.len]; omega) pf.ok
  rw [own_top (H := H) q k hk] at f1
  have e1 := eq_ob (T H ps (dpt ps.length) 0) (T H ps (dpt ps.length) 0) h
  rw [decide_eq_true rfl] at e1
  rw [m_fits, runD, if_pos (show [PV.ref n, .tup (ob (T H ps (dpt ps.length) 0)), .int (ps.length : Int), .int (k : Int), .tup (ob ps[k]), .tup (tl (prfT H ps (dpt ps.length) k))].length = P_fits.length from rfl), b_fits,
    show startE N_fits.length [PV.ref n, .tup (ob (T H ps (dpt ps.length) 0)), .int (ps.length : Int), .int (k : Int), .tup (ob ps[k]), .tup (tl (prfT H ps (dpt ps.length) k))] = [.v (.ref n), .v (.tup (ob (T H ps (dpt ps.length) 0))), .v (.int (ps.length : Int)), .v (.int (k : Int)), .v (.tup (ob ps[k])), .v (.tup (tl (prfT H ps (dpt ps.length) k)))] from rfl]
  generalize (ps.length : Int) = LL at *
  generalize (k : Int) = KK at *
  simp only [aSeq, aIfS, aOrT, aNotT, aToTru, aToT, aCall, aCons, aNil, aVar, aOp, aC, List.getElem?_cons_zero, List.getElem?_cons_succ, Res.bind_ok, i1, truB, Bool.not_true, Bool.false_eq_true, if_false, a1, a2, ofE_ok, aSkip, aCallD, List.cons_append, List.nil_append, o1, p1, aRet, f1, e1]
end
theorem sz_sum (s : Nat) : szAt (KS s) s := fun h => rfl
section
variable {n : Nat} {h : Hh} {kd wd : PV} {H : List Nat → List Nat} {sz : Nat} {ps : List (List Nat)}
def told (H : List Nat → List Nat) (ts us : List (List Nat)) : PV := match fnd H ts us with
  | some p => .tup [.tup (ob p.1), .tup (ob p.2)]
  | none => .non
theorem ix_piece (k : Nat) (hk : k < ps.length) (h : Hh) : oIx (.lst (tl ps)) (.int (k : Int)) h = .ok (.tup (ob ps[k])) h := ixL h (L2.atI_nat (by rw [List.getElem?_map, List.getElem?_eq_getElem hk]; rfl))
theorem ix_prf (d k : Nat) (hk : k < ps.length) (h : Hh) : oIx (.tup ((List.range ps.length).map fun k => PV.tup (tl (prfT H ps d k)))) (.int (k : Int)) h = .ok (.tup (tl (prfT H ps d k))) h := ixT h (L2.atI_nat (by rw [List.getElem?_map, List.getElem?_range hk]; rfl))
end
end Law

set_option Elab.async false
set_option linter.all false
set_option maxRecDepth 100000
set_option maxHeartbeats 2000000
set_option exponentiation.threshold 3000
namespace Law
open PySem Mir
section
variable {n : Nat} {h : Hh} {kd wd : PV} {H : List Nat → List Nat} {sz : Nat} {ps : List (List Nat)}
theorem fits_gen2 (g : DH n h kd wd H sz) (hs : szAt kd sz) (q : PS ps) (top : List Nat) {vi vp vo : PV} (hi : kn1 vi) (hp : kn2 45 vp) (ho : kn3 45 vo) :
    ∃ b, m_fits [.ref n, .tup (ob top), .int (ps.length : Int), vi, vp, vo] h = .ok (.bl b) h ∧ m_L_fits [kd, wd, .tup (ob top), .int (ps.length : Int), vi, vp, vo] h = .ok (.bl b) h ∧ (b = true → ∃ (k : Nat) (p : List Nat) (os : List (List Nat)), k < ps.length ∧ vi = .int (k : Int) ∧ vp = .tup (ob p) ∧ vo = .tup (tl os) ∧ small8 p ∧ p.length ≤ 50 ∧ PF sz (dpt ps.length) os ∧ H (lastL H k 0 (0 :: p) os) = top) := by
  have hn := q.n
  have hd := dpt16 q
  have i1 := is_integer_of hi h
  have o1 := is_octets_gen (by decide) hp h
  have o2 := lis_octets_gen hp h
  have p1 := is_proof_gen g q (by decide) ho
  have p2 := lis_proof_gen (h := h) hs q (by decide) ho
  have r1 : startE N_fits.length [PV.ref n, .tup (ob top), .int (ps.length : Int), vi, vp, vo] = [.v (.ref n), .v (.tup (ob top)), .v (.int (ps.length : Int)), .v vi, .v vp, .v vo] := rfl
  have r2 : startE N_L_fits.length [kd, wd, .tup (ob top), .int (ps.length : Int), vi, vp, vo] = [.v kd, .v wd, .v (.tup (ob top)), .v (.int (ps.length : Int)), .v vi, .v vp, .v vo] := rfl
  by_cases c0 : ∃ k : Nat, vi = .int (k : Int) ∧ k < ps.length
  · obtain ⟨k, rfl, hk⟩ := c0
    have a1 : oLt (.int (k : Int)) (.int 0) h = .ok (.bl false) h := by rw [ltI, decide_eq_false (by omega)]
    have a2 : oGe (.int (k : Int)) (.int (ps.length : Int)) h = .ok (.bl false) h := by rw [geI, decide_eq_false (by omega)]
    cases hop : octsP vp with
    | false =>
      rw [hop] at o1 o2
      refine ⟨false, ?_, ?_, fun z => by cases z⟩
      · rw [m_fits, runD, if_pos (show [PV.ref n, .tup (ob top), .int (ps.length : Int), .int (k : Int), vp, vo].length = P_fits.length from rfl), b_fits, r1]
        generalize (ps.length : Int) = LL at *
        generalize (k : Int) = KK at *
        simp only [aSeq, aIfS, aOrT, aNotT, aToTru, aToT, aCall, aCons, aNil, aVar, aOp, aC, List.getElem?_cons_zero, List.getElem?_cons_succ, Res.bind_ok, i1, truB, Bool.not_true, Bool.false_eq_true, if_false, a1, a2, ofE_ok, aSkip, aCallD, List.cons_append, List.nil_append, o1, Bool.not_false, if_true, aRet]
      · rw [m_L_fits, runD, if_pos (show [kd, wd, .tup (ob top), .int (ps.length : Int), .int (k : Int), vp, vo].length = P_L_fits.length from rfl), b_L_fits, r2]
        generalize (ps.length : Int) = LL at *
        generalize (k : Int) = KK at *
        simp only [aSeq, aIfS, aOrT, aNotT, aToTru, aToT, aIsi, aCall, aCons, aNil, aVar, aOp, aC, List.getElem?_cons_zero, List.getElem?_cons_succ, Res.bind_ok, kd_int, isKd_ii, isKd_ib, truB, Bool.not_true, Bool.false_eq_true, if_false, a1, a2, ofE_ok, aSkip, o2, Bool.not_false, if_true, aRet]
    | true =>
      rw [hop] at o1 o2
      cases hpp : prfP sz (dpt ps.length) vo with
      | false =>
        rw [hpp] at p1 p2
        refine ⟨false, ?_, ?_, fun z => by cases z⟩
        · rw [m_fits, runD, if_pos (show [PV.ref n, .tup (ob top), .int (ps.length : Int), .int (k : Int), vp, vo].length = P_fits.length from rfl), b_fits, r1]
          generalize (ps.length : Int) = LL at *
          generalize (k : Int) = KK at *
          simp only [aSeq, aIfS, aOrT, aNotT, aToTru, aToT, aCall, aCons, aNil, aVar, aOp, aC, List.getElem?_cons_zero, List.getElem?_cons_succ, Res.bind_ok, i1, truB, Bool.not_true, Bool.false_eq_true, if_false, a1, a2, ofE_ok, aSkip, aCallD, List.cons_append, List.nil_append, o1, p1, Bool.not_false, if_true, aRet]
        · rw [m_L_fits, runD, if_pos (show [kd, wd, .tup (ob top), .int (ps.length : Int), .int (k : Int), vp, vo].length = P_L_fits.length from rfl), b_L_fits, r2]
          generalize (ps.length : Int) = LL at *
          generalize (k : Int) = KK at *
          simp only [aSeq, aIfS, aOrT, aNotT, aToTru, aToT, aIsi, aCall, aCons, aNil, aVar, aOp, aC, List.getElem?_cons_zero, List.getElem?_cons_succ, Res.bind_ok, kd_int, isKd_ii, isKd_ib, truB, Bool.not_true, Bool.false_eq_true, if_false, a1, a2, ofE_ok, aSkip, o2, p2, Bool.not_false, if_true, aRet]
      | true =>
        rw [hpp] at p1 p2
        obtain ⟨p, rfl, hps⟩ := octsP_inv hop
        obtain ⟨os, rfl, pf⟩ := prf_inv hpp
        have hpl : p.length ≤ 50 := by have := hp.1; rw [ob_len] at this; omega
        have f1 := fold_gen g.g k p hps hpl os (by rw [pf.len]; omega) pf.ok
        have f2 := lfold_eq g.g k p hps hpl os (by rw [pf.len]; omega) pf.ok
        have e1 := eq_ob (H (lastL H k 0 (0 :: p) os)) top h
        refine ⟨decide (H (lastL H k 0 (0 :: p) os) = top), ?_, ?_, fun z => ⟨k, p, os, hk, rfl, rfl, rfl, hps, hpl, pf, of_decide_eq_true z⟩⟩
        · rw [m_fits, runD, if_pos (show [PV.ref n, .tup (ob top), .int (ps.length : Int), .int (k : Int), .tup (ob p), .tup (tl os)].length = P_fits.length from rfl), b_fits, r1]
          generalize (ps.length : Int) = LL at *
          generalize (k : Int) = KK at *
          simp only [aSeq, aIfS, aOrT, aNotT, aToTru, aToT, aCall, aCons, aNil, aVar, aOp, aC, List.getElem?_cons_zero, List.getElem?_cons_succ, Res.bind_ok, i1, truB, Bool.not_true, Bool.false_eq_true, if_false, a1, a2, ofE_ok, aSkip, aCallD, List.cons_append, List.nil_append, o1, p1, aRet, f1, e1]
        · rw [m_L_fits, runD, if_pos (show [kd, wd, .tup (ob top), .int (ps.length : Int), .int (k : Int), .tup (ob p), .tup (tl os)].length = P_L_fits.length from rfl), b_L_fits, r2]
          generalize (ps.length : Int) = LL at *
          generalize (k : Int) = KK at *
          simp only [aSeq, aIfS, aOrT, aNotT, aToTru, aToT, aIsi, aCall, aCons, aNil, aVar, aOp, aC, List.getElem?_cons_zero, List.getElem?_cons_succ, Res.bind_ok, kd_int, isKd_ii, isKd_ib, truB, Bool.not_true, Bool.false_eq_true, if_false, a1, a2, ofE_ok, aSkip, o2, p2, aRet, f2, e1]
  · refine ⟨false, ?_, ?_, fun z => by cases z⟩
    · rw [m_fits, runD, if_pos (show [PV.ref n, .tup (ob top), .int (ps.length : Int), vi, vp, vo].length = P_fits.length from rfl), b_fits, r1]
      cases vi with
      | int i =>
        by_cases c1 : i < 0
        · have a1 : oLt (.int i) (.int 0) h = .ok (.bl true) h := by rw [ltI, decide_eq_true c1]
          simp only [aSeq, aIfS, aOrT, aNotT, aToTru, aToT, aCall, aCons, aNil, aVar, aOp, aC, List.getElem?_cons_zero, List.getElem?_cons_succ, Res.bind_ok, i1, truB, Bool.not_true, Bool.false_eq_true, if_false, a1, if_true, ofE_ok, aRet]
        · have a1 : oLt (.int i) (.int 0) h = .ok (.bl false) h := by rw [ltI, decide_eq_false c1]
          have a2 : oGe (.int i) (.int (ps.length : Int)) h = .ok (.bl true) h := by
            rw [geI, decide_eq_true]
            by_cases c2 : (ps.length : Int) ≤ i
            · exact c2
            · exact absurd ⟨i.toNat, by rw [Int.toNat_of_nonneg (by omega)], by omega⟩ c0
          generalize (ps.length : Int) = LL at *
          simp only [aSeq, aIfS, aOrT, aNotT, aToTru, aToT, aCall, aCons, aNil, aVar, aOp, aC, List.getElem?_cons_zero, List.getElem?_cons_succ, Res.bind_ok, i1, truB, Bool.not_true, Bool.false_eq_true, if_false, a1, a2, if_true, ofE_ok, aRet]
      | ref _ => exact hi.elim
      | dct _ _ => exact hi.elim
      | _ =>
        simp only [aSeq, aIfS, aOrT, aNotT, aToTru, aToT, aCall, aCons, aNil, aVar, aOp, aC, List.getElem?_cons_zero, List.getElem?_cons_succ, Res.bind_ok, i1, truB, Bool.not_false, if_true, ofE_ok, aRet]
    · rw [m_L_fits, runD, if_pos (show [kd, wd, .tup (ob top), .int (ps.length : Int), vi, vp, vo].length = P_L_fits.length from rfl), b_L_fits, r2]
      cases vi with
      | int i =>
        by_cases c1 : i < 0
        · have a1 : oLt (.int i) (.int 0) h = .ok (.bl true) h := by rw [ltI, decide_eq_true c1]
          simp only [aSeq, aIfS, aOrT, aNotT, aToTru, aToT, aIsi, aCall, aCons, aNil, aVar, aOp, aC, List.getElem?_cons_zero, List.getElem?_cons_succ, Res.bind_ok, kd_int, isKd_ii, isKd_ib, truB, Bool.not_true, Bool.false_eq_true, if_false, a1, if_true, ofE_ok, aRet]
        · have a1 : oLt (.int i) (.int 0) h = .ok (.bl false) h := by rw [ltI, decide_eq_false c1]
          have a2 : oGe (.int i) (.int (ps.length : Int)) h = .ok (.bl true) h := by
            rw [geI, decide_eq_true]
            by_cases c2 : (ps.length : Int) ≤ i
            · exact c2
            · exact absurd ⟨i.toNat, by rw [Int.toNat_of_nonneg (by omega)], by omega⟩ c0
          generalize (ps.length : Int) = LL at *
          simp only [aSeq, aIfS, aOrT, aNotT, aToTru, aToT, aIsi, aCall, aCons, aNil, aVar, aOp, aC, List.getElem?_cons_zero, List.getElem?_cons_succ, Res.bind_ok, kd_int, isKd_ii, isKd_ib, truB, Bool.not_true, Bool.false_eq_true, if_false, a1, a2, if_true, ofE_ok, aRet]
      | bl b => cases b <;> rfl
      | ref _ => exact hi.elim
      | dct _ _ => exact hi.elim
      | _ => rfl
abbrev TR (H : List Nat → List Nat) (ps : List (List Nat)) (k : Nat) : List (List Nat) := pathL H k 0 (0 :: ps.getD k []) (prfT H ps (dpt ps.length) k)
theorem parted_true (g : DH n h kd wd H sz) (q : PS ps) (k : Nat) (hk : k < ps.length) (p : List Nat) (hp : small8 p) (hpl : p.length ≤ 50) (os : List (List Nat)) (pf : PF sz (dpt ps.length) os)
    (hft : m_fits [.ref n, .tup (ob (T H ps (dpt ps.length) 0)), .int (ps.length : Int), .int (k : Int), .tup (ob p), .tup (tl os)] h = .ok (.bl true) h) :
    m_parted [.ref n, .lst (tl ps), .int (k : Int), .tup (ob p), .tup (tl os)] h = .ok (told H (pathL H k 0 (0 :: ps[k]) (prfT H ps (dpt ps.length) k)) (pathL H k 0 (0 :: p) os)) h := by
  have hd := dpt16 q
  have hpk := q.sm ps[k] (List.getElem_mem hk)
  have hro := root_eq' g.g q (.inl rfl : isP ps (.lst (tl ps)))
  have hpr := proofs_eq g.g q (.inl rfl : isP ps (.lst (tl ps)))
  have pfo := prf_PF (ps := ps) g.g (dpt ps.length) k
  have w1 := walk_eq g.g k ps[k] hpk.1 (by omega) (prfT H ps (dpt ps.length) k) (by rw [pfo.len]; omega) pfo.ok
  have w2 := walk_eq g.g k p hp hpl os (by rw [pf.len]; omega) pf.ok
  have i1 := ix_piece k hk h
  have i2 := ix_prf (H := H) (dpt ps.length) k hk h
  have hlen : fLen [.lst (tl ps)] h = .ok (.int (ps.length : Int)) h := by rw [lenI, tl_len]
  obtain ⟨t6, t7, hl⟩ := parted_loop g.g (.v (.lst (tl ps))) (.v (.int (k : Int))) (.v (.tup (ob p))) (.v (.tup (tl os))) (.v (.lst (tl (pathL H k 0 (0 :: ps[k]) (prfT H ps (dpt ps.length) k))))) (pathL H k 0 (0 :: ps[k]) (prfT H ps (dpt ps.length) k)) (pathL H k 0 (0 :: p) os)
    (path_ok g.g k _ 0 _ (txt0 hpk.1 (by omega)) pfo.ok) (path_ok g.g k _ 0 _ (txt0 hp hpl) pf.ok) .un .un
  unfold told
  rw [m_parted, runD, if_pos (show [PV.ref n, .lst (tl ps), .int (k : Int), .tup (ob p), .tup (tl os)].length = P_parted.length from rfl), b_parted, show startE N_parted.length [PV.ref n, .lst (tl ps), .int (k : Int), .tup (ob p), .tup (tl os)] = [.v (.ref n), .v (.lst (tl ps)), .v (.int (k : Int)), .v (.tup (ob p)), .v (.tup (tl os)), .un, .un, .un] from rfl]
  generalize (ps.length : Int) = LL at *
  generalize (k : Int) = KK at *
  simp only [aSeq, aIfS, aNotT, aToTru, aCall, aCons, aNil, aVar, List.getElem?_cons_zero, List.getElem?_cons_succ, Res.bind_ok, hro, hlen, hft, truB, Bool.not_true, ofE_ok, Bool.false_eq_true, if_false, aSkip, aSet, aOp, i1, hpr, i2, w1, List.set_cons_zero, List.set_cons_succ, aFor, aItZ, w2, hl]
  cases fnd H (pathL H k 0 (0 :: ps[k]) (prfT H ps (dpt ps.length) k)) (pathL H k 0 (0 :: p) os) with
  | none => simp only [aRet, aC, ofE_ok]
  | some p => rfl
theorem parted_false (g : DH n h kd wd H sz) (q : PS ps) {vi vp vo : PV}
    (hft : m_fits [.ref n, .tup (ob (T H ps (dpt ps.length) 0)), .int (ps.length : Int), vi, vp, vo] h = .ok (.bl false) h) :
    m_parted [.ref n, .lst (tl ps), vi, vp, vo] h = .er ⟨"BadProof", [], []⟩ h := by
  have hro := root_eq' g.g q (.inl rfl : isP ps (.lst (tl ps)))
  have hlen : fLen [.lst (tl ps)] h = .ok (.int (ps.length : Int)) h := by rw [lenI, tl_len]
  rw [m_parted, runD, if_pos (show [PV.ref n, .lst (tl ps), vi, vp, vo].length = P_parted.length from rfl), b_parted, show startE N_parted.length [PV.ref n, .lst (tl ps), vi, vp, vo] = [.v (.ref n), .v (.lst (tl ps)), .v vi, .v vp, .v vo, .un, .un, .un] from rfl]
  generalize (ps.length : Int) = LL at *
  simp only [aSeq, aIfS, aNotT, aToTru, aCall, aCons, aNil, aVar, List.getElem?_cons_zero, List.getElem?_cons_succ, Res.bind_ok, hro, hlen, hft, truB, Bool.not_false, ofE_ok, if_true, aRaise]
theorem told_false (g : DH n h kd wd H sz) (q : PS ps) {vi vp vo : PV}
    (hft : m_fits [.ref n, .tup (ob (T H ps (dpt ps.length) 0)), .int (ps.length : Int), vi, vp, vo] h = .ok (.bl false) h) :
    m_L_told [.ref n, .lst (tl ps), vi, vp, vo] h = .ok (.str "none") h := by
  have hp := parted_false g q hft
  rw [m_L_told, runD, if_pos (show [PV.ref n, .lst (tl ps), vi, vp, vo].length = P_L_told.length from rfl), b_L_told, show startE N_L_told.length [PV.ref n, .lst (tl ps), vi, vp, vo] = [.v (.ref n), .v (.lst (tl ps)), .v vi, .v vp, .v vo, .un] from rfl]
  have hb : (mRet (mCall m_parted (mCons (mVar 0) (mCons (mVar 1) (mCons (mVar 2) (mCons (mVar 3) (mCons (mVar 4) mNil))))))) [.v (.ref n), .v (.lst (tl ps)), .v vi, .v vp, .v vo, .un] h = .er ⟨"BadProof", [], []⟩ [.v (.ref n), .v (.lst (tl ps)), .v vi, .v vp, .v vo, .un] h := by
    simp only [aRet, aCall, aCons, aNil, aVar, List.getElem?_cons_zero, List.getElem?_cons_succ, Res.bind_ok, hp]; rfl
  unfold mTryAs
  rw [hb]
  rfl
theorem told_true (m : PV) {vi vp vo : PV} (hp : m_parted [.ref n, .lst (tl ps), vi, vp, vo] h = .ok m h) : m_L_told [.ref n, .lst (tl ps), vi, vp, vo] h = .ok m h := by
  rw [m_L_told, runD, if_pos (show [PV.ref n, .lst (tl ps), vi, vp, vo].length = P_L_told.length from rfl), b_L_told, show startE N_L_told.length [PV.ref n, .lst (tl ps), vi, vp, vo] = [.v (.ref n), .v (.lst (tl ps)), .v vi, .v vp, .v vo, .un] from rfl]
  have hb : (mRet (mCall m_parted (mCons (mVar 0) (mCons (mVar 1) (mCons (mVar 2) (mCons (mVar 3) (mCons (mVar 4) mNil))))))) [.v (.ref n), .v (.lst (tl ps)), .v vi, .v vp, .v vo, .un] h = .rt m h := by
    simp only [aRet, aCall, aCons, aNil, aVar, List.getElem?_cons_zero, List.getElem?_cons_succ, Res.bind_ok, hp, ofE_ok]
  unfold mTryAs
  rw [hb]
/-! ### due -/
theorem due_loop (g : DG n h kd .non H sz) (x1 x2 x3 x4 x5 : SV) (TS US : List (List Nat)) (hT : ∀ t ∈ TS, txt t) (hU : ∀ u ∈ US, txt u) : ∀ (ts us : List (List Nat)) (j : Nat), TS.drop j = ts → US.drop j = us → ts.length = us.length → ∀ s8 : SV, ∃ t8,
    forL (gN 8) b_L_due_1 ((List.range' j ts.length).map fun i : Nat => PV.int (i : Int)) [.v kd, x1, x2, x3, x4, x5, .v (.lst (tl TS)), .v (.lst (tl US)), s8] h =
      match fnd H ts us with
      | some p => .rt (.tup [.tup (ob p.1), .tup (ob p.2)]) h
      | none => .nx [.v kd, x1, x2, x3, x4, x5, .v (.lst (tl TS)), .v (.lst (tl US)), t8] h
  | [], us, j, _, _, _, s8 => ⟨s8, by unfold fnd; rfl⟩
  | _ :: _, [], _, _, _, e, _ => by simp at e
  | t :: ts, u :: us, j, eT, eU, el, s8 => by
    have jT : TS[j]? = some t := by have := congrArg List.head? eT; rw [List.head?_drop] at this; exact this
    have jU : US[j]? = some u := by have := congrArg List.head? eU; rw [List.head?_drop] at this; exact this
    have ht := hT t (List.mem_of_getElem? jT)
    have hu := hU u (List.mem_of_getElem? jU)
    have i1 : oIx (.lst (tl TS)) (.int (j : Int)) h = .ok (.tup (ob t)) h := ixL h (L2.atI_nat (by rw [List.getElem?_map, jT]; rfl))
    have i2 : oIx (.lst (tl US)) (.int (j : Int)) h = .ok (.tup (ob u)) h := ixL h (L2.atI_nat (by rw [List.getElem?_map, jU]; rfl))
    have d1 := g.ldig t ht.1 (by have := ht.2; omega)
    have d2 := g.ldig u hu.1 (by have := hu.2; omega)
    have ne : oNe (.tup (ob t)) (.tup (ob u)) h = .ok (.bl (!decide (t = u))) h := by
      have := eqG_of (n := 1) (by decide) true (x := .tup (ob t)) (y := .tup (ob u)) rfl (lv_ob t) (lv_ob u) (toD_ob t) (toD_ob u) h
      rw [eqv_dT] at this; exact this
    have eq := eq_ob (H t) (H u) h
    have two : ∀ a b : PV, ([a, b].length ≤ 16777216) = True := fun a b => eq_true (by simp)
    have e2T : TS.drop (j + 1) = ts := by rw [← List.drop_drop, eT]; rfl
    have e2U : US.drop (j + 1) = us := by rw [← List.drop_drop, eU]; rfl
    obtain ⟨t8, ih⟩ := due_loop g x1 x2 x3 x4 x5 TS US hT hU ts us (j + 1) e2T e2U (by simpa using el) (.v (.int (j : Int)))
    refine ⟨t8, ?_⟩
    rw [List.length_cons, List.range'_succ, List.map_cons]
    unfold forL
    have hg : gN 8 (.int (j : Int)) [.v kd, x1, x2, x3, x4, x5, .v (.lst (tl TS)), .v (.lst (tl US)), s8] = some [.v kd, x1, x2, x3, x4, x5, .v (.lst (tl TS)), .v (.lst (tl US)), .v (.int (j : Int))] := rfl
    rw [hg]
    have hb : b_L_due_1 [.v kd, x1, x2, x3, x4, x5, .v (.lst (tl TS)), .v (.lst (tl US)), .v (.int (j : Int))] h = if t ≠ u ∧ H t = H u then .rt (.tup [.tup (ob t), .tup (ob u)]) h else .nx [.v kd, x1, x2, x3, x4, x5, .v (.lst (tl TS)), .v (.lst (tl US)), .v (.int (j : Int))] h := by
      rw [b_L_due_1]
      generalize (j : Int) = J at *
      by_cases c1 : t = u
      · rw [decide_eq_true c1] at ne
        rw [if_neg (fun z => z.1 c1)]
        simp only [aIfS, aAndT, aToT, aOp, aVar, List.getElem?_cons_zero, List.getElem?_cons_succ, Res.bind_ok, i1, i2, ne, Bool.not_true, ofE_ok, Bool.false_eq_true, if_false, aSkip]
      · rw [decide_eq_false c1] at ne
        by_cases c2 : H t = H u
        · rw [decide_eq_true c2] at eq
          rw [if_pos ⟨c1, c2⟩]
          simp only [aIfS, aAndT, aToT, aOp, aVar, aC, aCall, aCons, aNil, List.getElem?_cons_zero, List.getElem?_cons_succ, Res.bind_ok, i1, i2, ne, Bool.not_false, if_true, d1, d2, eq, ofE_ok, aRet, aTup, two]
        · rw [decide_eq_false c2] at eq
          rw [if_neg (fun z => c2 z.2)]
          simp only [aIfS, aAndT, aToT, aOp, aVar, aC, aCall, aCons, aNil, List.getElem?_cons_zero, List.getElem?_cons_succ, Res.bind_ok, i1, i2, ne, Bool.not_false, if_true, d1, d2, eq, ofE_ok, Bool.false_eq_true, if_false, aSkip]
    simp only [hb]
    unfold fnd
    by_cases c : t ≠ u ∧ H t = H u
    · simp only [if_pos c]
    · simp only [if_neg c]; exact ih
theorem due_false (g : DH n h kd .non H sz) (q : PS ps) {vi vp vo : PV}
    (hft : m_L_fits [kd, .non, .tup (ob (T H ps (dpt ps.length) 0)), .int (ps.length : Int), vi, vp, vo] h = .ok (.bl false) h) :
    m_L_due [kd, .lst (tl ps), vi, vp, vo] h = .ok (.str "none") h := by
  have hd := dpt16 q
  have hlen : fLen [.lst (tl ps)] h = .ok (.int (ps.length : Int)) h := by rw [lenI, tl_len]
  have hld := ldepth_eq ps.length (by omega) h
  have htop := ltop_eq g.g q (dpt ps.length) 6 0 (by omega) (by omega)
  rw [Nat.zero_mul] at htop
  have htop' : m_L_top 6 [kd, .non, .lst (tl ps), .int 0, .int (dpt ps.length : Nat)] h = .ok (.tup (ob (T H ps (dpt ps.length) 0))) h := htop
  rw [m_L_due, runD, if_pos (show [kd, PV.lst (tl ps), vi, vp, vo].length = P_L_due.length from rfl), b_L_due, show startE N_L_due.length [kd, .lst (tl ps), vi, vp, vo] = [.v kd, .v (.lst (tl ps)), .v vi, .v vp, .v vo, .un, .un, .un, .un] from rfl]
  generalize ((dpt ps.length : Nat) : Int) = DP at *
  generalize (ps.length : Int) = LL at *
  simp only [aSeq, aSet, aIfS, aNotT, aToTru, aCall, aCons, aNil, aVar, aC, List.getElem?_cons_zero, List.getElem?_cons_succ, List.set_cons_zero, List.set_cons_succ, Res.bind_ok, hlen, hld, htop', hft, truB, Bool.not_false, ofE_ok, if_true, aRet]
theorem due_true (g : DH n h kd .non H sz) (q : PS ps) (k : Nat) (hk : k < ps.length) (p : List Nat) (hp : small8 p) (hpl : p.length ≤ 50) (os : List (List Nat)) (pf : PF sz (dpt ps.length) os)
    (hft : m_L_fits [kd, .non, .tup (ob (T H ps (dpt ps.length) 0)), .int (ps.length : Int), .int (k : Int), .tup (ob p), .tup (tl os)] h = .ok (.bl true) h) :
    m_L_due [kd, .lst (tl ps), .int (k : Int), .tup (ob p), .tup (tl os)] h = .ok (told H (pathL H k 0 (0 :: ps[k]) (prfT H ps (dpt ps.length) k)) (pathL H k 0 (0 :: p) os)) h := by
  have hd := dpt16 q
  have hpk := q.sm ps[k] (List.getElem_mem hk)
  have pfo := prf_PF (ps := ps) g.g (dpt ps.length) k
  have hlen : fLen [.lst (tl ps)] h = .ok (.int (ps.length : Int)) h := by rw [lenI, tl_len]
  have hld := ldepth_eq ps.length (by omega) h
  have htop := ltop_eq g.g q (dpt ps.length) 6 0 (by omega) (by omega)
  rw [Nat.zero_mul] at htop
  have htop' : m_L_top 6 [kd, .non, .lst (tl ps), .int 0, .int (dpt ps.length : Nat)] h = .ok (.tup (ob (T H ps (dpt ps.length) 0))) h := htop
  have lp := lproof_eq g.g q k hk
  have w1 := lpath_eq g.g k ps[k] hpk.1 (by omega) (prfT H ps (dpt ps.length) k) (by rw [pfo.len]; omega) pfo.ok
  have w2 := lpath_eq g.g k p hp hpl os (by rw [pf.len]; omega) pf.ok
  have i1 := ix_piece k hk h
  have t1 := path_ok g.g k _ 0 _ (txt0 hpk.1 (by omega)) pfo.ok
  have t2 := path_ok g.g k _ 0 _ (txt0 hp hpl) pf.ok
  have e1 := pathL_len H k (prfT H ps (dpt ps.length) k) 0 (0 :: ps[k])
  have e2 := pathL_len H k os 0 (0 :: p)
  have hll : (pathL H k 0 (0 :: ps[k]) (prfT H ps (dpt ps.length) k)).length = (pathL H k 0 (0 :: p) os).length := by rw [e1, e2, pfo.len, pf.len]
  have hle : (pathL H k 0 (0 :: ps[k]) (prfT H ps (dpt ps.length) k)).length ≤ 20 := by rw [e1, pfo.len]; omega
  generalize pathL H k 0 (0 :: ps[k]) (prfT H ps (dpt ps.length) k) = TS at *
  generalize pathL H k 0 (0 :: p) os = US at *
  obtain ⟨t8, hl⟩ := due_loop g.g (.v (.lst (tl ps))) (.v (.int (k : Int))) (.v (.tup (ob p))) (.v (.tup (tl os))) (.v (.tup (ob (T H ps (dpt ps.length) 0)))) TS US t1 t2 TS US 0 rfl rfl hll .un
  rw [← List.range_eq_range'] at hl
  have lT : fLen [.lst (tl TS)] h = .ok (.int (TS.length : Int)) h := by rw [lenI, tl_len]
  have hrg : rngOk (TS.length : Int) = true := rngOk_of (by omega) (by omega)
  have ht : (TS.length : Int).toNat = TS.length := Int.toNat_natCast _
  unfold told
  rw [m_L_due, runD, if_pos (show [kd, PV.lst (tl ps), .int (k : Int), .tup (ob p), .tup (tl os)].length = P_L_due.length from rfl), b_L_due, show startE N_L_due.length [kd, .lst (tl ps), .int (k : Int), .tup (ob p), .tup (tl os)] = [.v kd, .v (.lst (tl ps)), .v (.int (k : Int)), .v (.tup (ob p)), .v (.tup (tl os)), .un, .un, .un, .un] from rfl]
  generalize ((dpt ps.length : Nat) : Int) = DP at *
  generalize (ps.length : Int) = LL at *
  generalize (TS.length : Int) = TL at *
  generalize (k : Int) = KK at *
  simp only [aSeq, aSet, aIfS, aNotT, aToTru, aCall, aCons, aNil, aVar, aC, aOp, List.getElem?_cons_zero, List.getElem?_cons_succ, List.set_cons_zero, List.set_cons_succ, Res.bind_ok, hlen, hld, htop', hft, truB, Bool.not_true, ofE_ok, Bool.false_eq_true, if_false, aSkip, i1, lp, w1, w2, aFor, aR1, lT, hrg, if_true, rng_nat, ht, hl]
  cases fnd H TS US with
  | none => simp only [aRet, aC, ofE_ok]
  | some p => rfl
theorem e_none (h : Hh) : oEq (.str "none") (.str "none") h = .ok (.bl true) h := by rfl
theorem same_none (h : Hh) : m_L_same 4 [.str "none", .str "none"] h = .ok (.bl true) h := by rfl
theorem same_non (h : Hh) : m_L_same 4 [.non, .non] h = .ok (.bl true) h := by rfl
theorem e_tup_none (l : List (List Nat)) (h : Hh) : oEq (.tup (tl l)) (.str "none") h = .ok (.bl false) h := by
  have := eqG_of (n := 2) (by decide) false (x := .tup (tl l)) (y := .str "none") rfl (lv_tl l) (by decide +kernel) (toD_tl l) rfl h
  simp only [PyData.eqv] at this
  exact this
theorem right_eq (g : DH n h kd .non H sz) (hs : szAt kd sz) (q : PS ps) {vi vp vo : PV} (hi : kn1 vi) (hp : kn2 45 vp) (ho : kn3 45 vo) :
    m_L_right [.ref n, kd, .lst (tl ps), vi, vp, vo] h = .ok (.bl true) h := by
  obtain ⟨b, f1, f2, f3⟩ := fits_gen2 (wd := .non) g hs q (T H ps (dpt ps.length) 0) hi hp ho
  cases b with
  | false =>
    have d1 := due_false g q f2
    have d2 := told_false g q f1
    rw [m_L_right, runD, if_pos (show [PV.ref n, kd, .lst (tl ps), vi, vp, vo].length = P_L_right.length from rfl), b_L_right, show startE N_L_right.length [PV.ref n, kd, .lst (tl ps), vi, vp, vo] = [.v (.ref n), .v kd, .v (.lst (tl ps)), .v vi, .v vp, .v vo, .un, .un] from rfl]
    simp only [aSeq, aSet, aIfS, aNotT, aToTru, aToT, aOp, aC, aCall, aCons, aNil, aVar, List.getElem?_cons_zero, List.getElem?_cons_succ, List.set_cons_zero, List.set_cons_succ, Res.bind_ok, d1, d2, same_none, truB, Bool.not_true, ofE_ok, Bool.false_eq_true, if_false, aSkip, e_none, if_true, aRet]
  | true =>
    obtain ⟨k, p, os, hk, rfl, rfl, rfl, hps, hpl, pf, hf⟩ := f3 rfl
    have d1 := due_true g q k hk p hps hpl os pf f2
    have d2 := told_true _ (parted_true g q k hk p hps hpl os pf f1)
    have hot := own_top (H := H) q k hk
    have hd := dpt16 q
    have hpk := q.sm ps[k] (List.getElem_mem hk)
    have pfo := prf_PF (ps := ps) g.g (dpt ps.length) k
    have t1 := path_ok g.g k _ 0 _ (txt0 hpk.1 (by omega)) pfo.ok
    have t2 := path_ok g.g k _ 0 _ (txt0 hps hpl) pf.ok
    have hro := root_eq' g.g q (.inl rfl : isP ps (.lst (tl ps)))
    have hlen : fLen [.lst (tl ps)] h = .ok (.int (ps.length : Int)) h := by rw [lenI, tl_len]
    have i1 := ix_piece k hk h
    have lp := lproof_eq g.g q k hk
    have e1 := eq_ob p ps[k] h
    have e2 := eq_tl os (prfT H ps (dpt ps.length) k) h
    have hfin : ∀ (b1 b2 : Bool), (mAndV (mOp oEq (mVar 4) (mOp oIx (mVar 2) (mVar 3))) (mOp oEq (mVar 5) (mCall m_L_proof (mCons (mVar 1) (mCons (mC .non) (mCons (mVar 2) (mCons (mVar 3) mNil))))))) = (mAndV (mOp oEq (mVar 4) (mOp oIx (mVar 2) (mVar 3))) (mOp oEq (mVar 5) (mCall m_L_proof (mCons (mVar 1) (mCons (mC .non) (mCons (mVar 2) (mCons (mVar 3) mNil))))))) := fun _ _ => rfl
    have hsame : ∀ x6 x7 : SV, (mAndV (mOp oEq (mVar 4) (mOp oIx (mVar 2) (mVar 3))) (mOp oEq (mVar 5) (mCall m_L_proof (mCons (mVar 1) (mCons (mC .non) (mCons (mVar 2) (mCons (mVar 3) mNil))))))) [.v (.ref n), .v kd, .v (.lst (tl ps)), .v (.int (k : Int)), .v (.tup (ob p)), .v (.tup (tl os)), x6, x7] h = .ok (.bl (decide (p = ps[k]) && decide (os = prfT H ps (dpt ps.length) k))) h := fun x6 x7 => by
      generalize (k : Int) = KK at *
      cases hb : decide (p = ps[k]) with
      | true =>
        rw [hb] at e1
        simp only [aAndV, aOp, aVar, aC, aCall, aCons, aNil, List.getElem?_cons_zero, List.getElem?_cons_succ, Res.bind_ok, i1, e1, lp, e2, Bool.true_and]
      | false =>
        rw [hb] at e1
        simp only [aAndV, aOp, aVar, aC, aCall, aCons, aNil, List.getElem?_cons_zero, List.getElem?_cons_succ, Res.bind_ok, i1, e1, Bool.false_and]
    rw [m_L_right, runD, if_pos (show [PV.ref n, kd, .lst (tl ps), .int (k : Int), .tup (ob p), .tup (tl os)].length = P_L_right.length from rfl), b_L_right, show startE N_L_right.length [PV.ref n, kd, .lst (tl ps), .int (k : Int), .tup (ob p), .tup (tl os)] = [.v (.ref n), .v kd, .v (.lst (tl ps)), .v (.int (k : Int)), .v (.tup (ob p)), .v (.tup (tl os)), .un, .un] from rfl]
    have isb : oIsBG false (.bl true) (.bl true) h = .ok (.bl true) h := rfl
    cases ef : fnd H (pathL H k 0 (0 :: ps[k]) (prfT H ps (dpt ps.length) k)) (pathL H k 0 (0 :: p) os) with
    | none =>
      obtain ⟨r1, r2⟩ := meet g.g k (prfT H ps (dpt ps.length) k) os 0 (0 :: ps[k]) (0 :: p) (by rw [pfo.len, pf.len]) (fun o ho => (pfo.ok o ho).2) (fun o ho => (pf.ok o ho).2) (hot.trans hf.symm) ef
      have r3 : p = ps[k] := ((List.cons_inj_right 0).mp r1).symm
      have hb : (decide (p = ps[k]) && decide (os = prfT H ps (dpt ps.length) k)) = true := by rw [decide_eq_true r3, decide_eq_true r2.symm]; rfl
      simp only [hb] at hsame
      unfold told at d1 d2
      rw [ef] at d1 d2
      have e3 : oEq .non (.str "none") h = .ok (.bl false) h := rfl
      have e4 : oEq (.bl true) (.bl true) h = .ok (.bl true) h := rfl
      have sn := same_non h
      generalize (ps.length : Int) = LL at *
      generalize (k : Int) = KK at *
      simp only [aSeq, aSet, aIfS, aNotT, aToTru, aToT, aOp, aC, aCall, aCons, aNil, aVar, List.getElem?_cons_zero, List.getElem?_cons_succ, List.set_cons_zero, List.set_cons_succ, Res.bind_ok, d1, d2, sn, truB, Bool.not_true, ofE_ok, Bool.false_eq_true, if_false, aSkip, e3, hsame, aRet, aAndV, oIs_non, isNon1, e4, hro, hlen, f1, isb]
    | some pr =>
      obtain ⟨f1', f2', f3', f4'⟩ := fnd_some ef
      have hb : (decide (p = ps[k]) && decide (os = prfT H ps (dpt ps.length) k)) = false := by
        cases hb1 : decide (p = ps[k]) with
        | false => rfl
        | true =>
          cases hb2 : decide (os = prfT H ps (dpt ps.length) k) with
          | false => rfl
          | true =>
            rw [of_decide_eq_true hb1, of_decide_eq_true hb2, fnd_self] at ef
            cases ef
      simp only [hb] at hsame
      unfold told at d1 d2
      rw [ef] at d1 d2
      have tp : (PV.tup [.tup (ob pr.1), .tup (ob pr.2)]) = .tup (tl [pr.1, pr.2]) := rfl
      simp only [tp] at d1 d2
      have e3 := e_tup_none [pr.1, pr.2] h
      have sn := same_tl [pr.1, pr.2] (by simp) (fun x hx => by
        simp only [List.mem_cons, List.not_mem_nil, or_false] at hx
        rcases hx with rfl | rfl
        · have := (t1 _ f3').2; omega
        · have := (t2 _ f4').2; omega) h
      have e4 : oEq (.bl false) (.bl false) h = .ok (.bl true) h := rfl
      generalize tl [pr.1, pr.2] = TT at *
      generalize (ps.length : Int) = LL at *
      generalize (k : Int) = KK at *
      simp only [aSeq, aSet, aIfS, aNotT, aToTru, aToT, aOp, aC, aCall, aCons, aNil, aVar, List.getElem?_cons_zero, List.getElem?_cons_succ, List.set_cons_zero, List.set_cons_succ, Res.bind_ok, d1, d2, sn, truB, Bool.not_true, ofE_ok, Bool.false_eq_true, if_false, aSkip, e3, hsame, aRet, aAndV, oIs_non, isNon3, e4, hro, hlen, f1, isb]
end
end Law

set_option Elab.async false
set_option linter.all false
set_option maxRecDepth 100000
set_option maxHeartbeats 2000000
set_option exponentiation.threshold 3000
namespace Law
open PySem Mir
theorem forL_or {g : MG} {b : MS} {h : Hh} (I : En → Prop) (R : PV → Prop) : ∀ l : List PV, (∀ x ∈ l, ∀ env, I env → ∃ env1, g x env = some env1 ∧ ((∃ env2, b env1 h = .nx env2 h ∧ I env2) ∨ ∃ v, b env1 h = .rt v h ∧ R v)) → ∀ env, I env → (∃ env2, forL g b l env h = .nx env2 h ∧ I env2) ∨ ∃ v, forL g b l env h = .rt v h ∧ R v
  | [], _, env, hi => .inl ⟨env, rfl, hi⟩
  | x :: l, hl, env, hi => by
    obtain ⟨env1, e1, e2⟩ := hl x (by simp) env hi
    unfold forL
    rw [e1]
    rcases e2 with ⟨env2, e2, hi2⟩ | ⟨v, e2, hv⟩
    · simp only [e2]
      exact forL_or I R l (fun y hy => hl y (by simp [hy])) env2 hi2
    · simp only [e2]
      exact .inr ⟨v, rfl, hv⟩
theorem ix_oct (o : List Nat) (k : Nat) (hk : k < o.length) (h : Hh) : oIx (.tup (ob o)) (.int (k : Int)) h = .ok (.int (o[k] : Nat)) h := ixT h (L2.atI_nat (by rw [List.getElem?_map, List.getElem?_eq_getElem hk]; rfl))
theorem slD2 (xs : List PV) (k : Nat) (h : Hh) : oSl (.tup xs) (some ((k : Int) + 2)) none h = .ok (.tup (xs.drop (k + 2))) h := by
  rw [show (k : Int) + 2 = ((k + 2 : Nat) : Int) by omega]; exact slW xs (k + 2) h
/-! ### carried -/
theorem carry_step (o : List Nat) (ho : small8 o) (hol : o.length ≤ 100) (k : Nat) (hk : k + 1 < o.length) (v : Int) (hv : v.natAbs ≤ 1) (ws : List (List Nat)) (hw : ws.length ≤ 1000) (x4 x5 : SV) (h : Hh) : ∃ ws' t4 t5,
    b_L_carried_1 [.v (.tup (ob o)), .own (.lst (tl ws)), .v (.int (k : Int)), .v (.int v), x4, x5] h = .nx [.v (.tup (ob o)), .own (.lst (tl ws')), .v (.int (k : Int)), .v (.int v), t4, t5] h ∧ ws'.length ≤ ws.length + 1 ∧ ∀ w ∈ ws', w ∈ ws ∨ (small8 w ∧ w.length = o.length) := by
  have i1 := ix_oct o k (by omega) h
  have i2 : oIx (.tup (ob o)) (.int ((k : Int) + 1)) h = .ok (.int (o[k + 1] : Nat)) h := by
    rw [show (k : Int) + 1 = ((k + 1 : Nat) : Int) by omega]; exact ix_oct o (k + 1) hk h
  have hm : oMulA (.int 31) (.int v) h = .ok (.int (31 * v)) h := mulAI h (mulOk_l (by decide))
  obtain ⟨A, hA⟩ : ∃ A, ((o[k] : Nat) : Int) + v = A := ⟨_, rfl⟩
  obtain ⟨B, hB⟩ : ∃ B, ((o[k + 1] : Nat) : Int) - 31 * v = B := ⟨_, rfl⟩
  by_cases c1 : 0 ≤ A
  · by_cases c2 : A ≤ 255
    · by_cases c3 : 0 ≤ B
      · by_cases c4 : B ≤ 255
        · obtain ⟨a, rfl⟩ : ∃ a : Nat, A = (a : Int) := ⟨A.toNat, by omega⟩
          obtain ⟨b, rfl⟩ : ∃ b : Nat, B = (b : Int) := ⟨B.toNat, by omega⟩
          have l1 : oLe (.int 0) (.int (a : Int)) h = .ok (.bl true) h := by rw [leI, decide_eq_true c1]
          have l2 : oLe (.int (a : Int)) (.int 255) h = .ok (.bl true) h := by rw [leI, decide_eq_true c2]
          have l3 : oLe (.int 0) (.int (b : Int)) h = .ok (.bl true) h := by rw [leI, decide_eq_true c3]
          have l4 : oLe (.int (b : Int)) (.int 255) h = .ok (.bl true) h := by rw [leI, decide_eq_true c4]
          have s1 := slU (ob o) k h
          have s2 := slD2 (ob o) k h
          rw [ob_take] at s1
          rw [ob_drop] at s2
          have ad1 : oAdd (.tup (ob (o.take k))) (.tup [.int (a : Int), .int (b : Int)]) h = .ok (.tup (ob (o.take k ++ [a, b]))) h := by
            rw [addU _ _ (by rw [ob_len, List.length_take]; omega) (by simp), ← ob_app]
            rfl
          have ad2 : oAdd (.tup (ob (o.take k ++ [a, b]))) (.tup (ob (o.drop (k + 2)))) h = .ok (.tup (ob (o.take k ++ [a, b] ++ o.drop (k + 2)))) h := by
            rw [addU _ _ (by rw [ob_len, List.length_append, List.length_take]; simp; omega) (by rw [ob_len, List.length_drop]; omega), ob_app]
          have hz : ((tl ws).length < 16777216) = True := eq_true (by rw [tl_len]; omega)
          have hap : tl ws ++ [PV.tup (ob (o.take k ++ [a, b] ++ o.drop (k + 2)))] = tl (ws ++ [o.take k ++ [a, b] ++ o.drop (k + 2)]) := by rw [← tl_app]; rfl
          have two : ∀ a b : PV, ([a, b].length ≤ 16777216) = True := fun a b => eq_true (by simp)
          refine ⟨ws ++ [o.take k ++ [a, b] ++ o.drop (k + 2)], .v (.int (a : Int)), .v (.int (b : Int)), ?_, by rw [List.length_append, List.length_singleton]; omega, fun w hw2 => ?_⟩
          · rw [b_L_carried_1]
            generalize ((o[k] : Nat) : Int) = OK at *
            generalize ((o[k + 1] : Nat) : Int) = OK1 at *
            generalize (a : Int) = AI at *
            generalize (b : Int) = BI at *
            generalize (k : Int) = KK at *
            simp only [aSeq, aSet, aOp, aVar, aC, List.getElem?_cons_zero, List.getElem?_cons_succ, List.set_cons_zero, List.set_cons_succ, Res.bind_ok, i1, i2, addI, hA, hm, subI, hB, ofE_ok, aIfS, aAndT, aToT, l1, l2, l3, l4, if_true, aApp, aSl, aOn, aOs, s1, s2, aTup, aCons, aNil, two, ad1, ad2, hz, hap]
          · rcases List.mem_append.mp hw2 with hw2 | hw2
            · exact .inl hw2
            · rw [List.mem_singleton.mp hw2]
              refine .inr ⟨fun x hx => ?_, by rw [List.length_append, List.length_append, List.length_take, List.length_drop]; simp; omega⟩
              rcases List.mem_append.mp hx with hx | hx
              · rcases List.mem_append.mp hx with hx | hx
                · exact ho x (List.mem_of_mem_take hx)
                · simp only [List.mem_cons, List.not_mem_nil, or_false] at hx
                  rcases hx with rfl | rfl <;> omega
              · exact ho x (List.mem_of_mem_drop hx)
        · have l1 : oLe (.int 0) (.int A) h = .ok (.bl true) h := by rw [leI, decide_eq_true c1]
          have l2 : oLe (.int A) (.int 255) h = .ok (.bl true) h := by rw [leI, decide_eq_true c2]
          have l3 : oLe (.int 0) (.int B) h = .ok (.bl true) h := by rw [leI, decide_eq_true c3]
          have l4 : oLe (.int B) (.int 255) h = .ok (.bl false) h := by rw [leI, decide_eq_false c4]
          refine ⟨ws, .v (.int A), .v (.int B), ?_, by omega, fun w hw => .inl hw⟩
          rw [b_L_carried_1]
          generalize ((o[k] : Nat) : Int) = OK at *
          generalize ((o[k + 1] : Nat) : Int) = OK1 at *
          generalize (k : Int) = KK at *
          simp only [aSeq, aSet, aOp, aVar, aC, List.getElem?_cons_zero, List.getElem?_cons_succ, List.set_cons_zero, List.set_cons_succ, Res.bind_ok, i1, i2, addI, hA, hm, subI, hB, ofE_ok, aIfS, aAndT, aToT, l1, l2, l3, l4, if_true, Bool.false_eq_true, if_false, aSkip]
      · have l1 : oLe (.int 0) (.int A) h = .ok (.bl true) h := by rw [leI, decide_eq_true c1]
        have l2 : oLe (.int A) (.int 255) h = .ok (.bl true) h := by rw [leI, decide_eq_true c2]
        have l3 : oLe (.int 0) (.int B) h = .ok (.bl false) h := by rw [leI, decide_eq_false c3]
        refine ⟨ws, .v (.int A), .v (.int B), ?_, by omega, fun w hw => .inl hw⟩
        rw [b_L_carried_1]
        generalize ((o[k] : Nat) : Int) = OK at *
        generalize ((o[k + 1] : Nat) : Int) = OK1 at *
        generalize (k : Int) = KK at *
        simp only [aSeq, aSet, aOp, aVar, aC, List.getElem?_cons_zero, List.getElem?_cons_succ, List.set_cons_zero, List.set_cons_succ, Res.bind_ok, i1, i2, addI, hA, hm, subI, hB, ofE_ok, aIfS, aAndT, aToT, l1, l2, l3, if_true, Bool.false_eq_true, if_false, aSkip]
    · have l1 : oLe (.int 0) (.int A) h = .ok (.bl true) h := by rw [leI, decide_eq_true c1]
      have l2 : oLe (.int A) (.int 255) h = .ok (.bl false) h := by rw [leI, decide_eq_false c2]
      refine ⟨ws, .v (.int A), .v (.int B), ?_, by omega, fun w hw => .inl hw⟩
      rw [b_L_carried_1]
      generalize ((o[k] : Nat) : Int) = OK at *
      generalize ((o[k + 1] : Nat) : Int) = OK1 at *
      generalize (k : Int) = KK at *
      simp only [aSeq, aSet, aOp, aVar, aC, List.getElem?_cons_zero, List.getElem?_cons_succ, List.set_cons_zero, List.set_cons_succ, Res.bind_ok, i1, i2, addI, hA, hm, subI, hB, ofE_ok, aIfS, aAndT, aToT, l1, l2, if_true, Bool.false_eq_true, if_false, aSkip]
  · have l1 : oLe (.int 0) (.int A) h = .ok (.bl false) h := by rw [leI, decide_eq_false c1]
    refine ⟨ws, .v (.int A), .v (.int B), ?_, by omega, fun w hw => .inl hw⟩
    rw [b_L_carried_1]
    generalize ((o[k] : Nat) : Int) = OK at *
    generalize ((o[k + 1] : Nat) : Int) = OK1 at *
    generalize (k : Int) = KK at *
    simp only [aSeq, aSet, aOp, aVar, aC, List.getElem?_cons_zero, List.getElem?_cons_succ, List.set_cons_zero, List.set_cons_succ, Res.bind_ok, i1, i2, addI, hA, hm, subI, hB, ofE_ok, aIfS, aAndT, aToT, l1, Bool.false_eq_true, if_false, aSkip]
theorem carry_two (o : List Nat) (ho : small8 o) (hol : o.length ≤ 100) (k : Nat) (hk : k + 1 < o.length) (ws : List (List Nat)) (hw : ws.length ≤ 900) (x3 x4 x5 : SV) (h : Hh) : ∃ ws' t3 t4 t5,
    b_L_carried_2 [.v (.tup (ob o)), .own (.lst (tl ws)), .v (.int (k : Int)), x3, x4, x5] h = .nx [.v (.tup (ob o)), .own (.lst (tl ws')), .v (.int (k : Int)), t3, t4, t5] h ∧ ws'.length ≤ ws.length + 2 ∧ ∀ w ∈ ws', w ∈ ws ∨ (small8 w ∧ w.length = o.length) := by
  obtain ⟨w1, a4, a5, e1, f1, g1⟩ := carry_step o ho hol k hk 1 (by decide) ws (by omega) x4 x5 h
  obtain ⟨w2, b4, b5, e2, f2, g2⟩ := carry_step o ho hol k hk (-1) (by decide) w1 (by omega) a4 a5 h
  refine ⟨w2, .v (.int (-1)), b4, b5, ?_, by omega, fun w hw => (g2 w hw).elim (fun z => g1 w z) .inr⟩
  have ng : oNeg (.int 1) h = .ok (.int (-1)) h := rfl
  have two : ∀ a b : PV, ([a, b].length ≤ 16777216) = True := fun a b => eq_true (by simp)
  have hf : forL (gN 3) b_L_carried_1 [.int 1, .int (-1)] [.v (.tup (ob o)), .own (.lst (tl ws)), .v (.int (k : Int)), x3, x4, x5] h = .nx [.v (.tup (ob o)), .own (.lst (tl w2)), .v (.int (k : Int)), .v (.int (-1)), b4, b5] h := by
    unfold forL
    have g1 : gN 3 (.int 1) [.v (.tup (ob o)), .own (.lst (tl ws)), .v (.int (k : Int)), x3, x4, x5] = some [.v (.tup (ob o)), .own (.lst (tl ws)), .v (.int (k : Int)), .v (.int 1), x4, x5] := rfl
    rw [g1]
    simp only [e1]
    unfold forL
    have g2 : gN 3 (.int (-1)) [.v (.tup (ob o)), .own (.lst (tl w1)), .v (.int (k : Int)), .v (.int 1), a4, a5] = some [.v (.tup (ob o)), .own (.lst (tl w1)), .v (.int (k : Int)), .v (.int (-1)), a4, a5] := rfl
    rw [g2]
    simp only [e2]
    rfl
  rw [b_L_carried_2]
  simp only [aFor, aItS, aFz, aSzc, aCons, aNil, aC, aUn, ng, Res.bind_ok, two, if_true, ofE_ok, hf]
theorem carried_eq (o : List Nat) (ho : small8 o) (hol : o.length ≤ 100) (h : Hh) : ∃ ws : List (List Nat), m_L_carried [.tup (ob o)] h = .ok (.lst (tl ws)) h ∧ ws.length ≤ 200 ∧ ∀ w ∈ ws, small8 w ∧ w.length = o.length := by
  obtain ⟨env', q1, ws, t2, t3, t4, t5, q2, q3, q4⟩ := forL_inv (g := gN 2) (b := b_L_carried_2) (h := h) (fun k : Nat => PV.int (k : Int))
    (fun pre env => ∃ ws t2 t3 t4 t5, env = [.v (.tup (ob o)), .own (.lst (tl ws)), t2, t3, t4, t5] ∧ ws.length ≤ 2 * pre.length ∧ ∀ w ∈ ws, small8 w ∧ w.length = o.length) (List.range (o.length - 1)) []
    (fun pre k post e env ⟨ws, t2, t3, t4, t5, q2, q3, q4⟩ => by
      subst q2
      obtain ⟨rfl, hk⟩ := range_at (by rw [← e]; rfl : List.range (o.length - 1) = pre ++ k :: post)
      obtain ⟨w2, u3, u4, u5, e1, f1, g1⟩ := carry_two o ho hol pre.length (by omega) ws (by omega) t3 t4 t5 h
      exact ⟨_, _, rfl, e1, w2, _, _, _, _, rfl, by rw [List.length_append, List.length_singleton]; omega, fun w hw => (g1 w hw).elim (q4 w) id⟩)
    [.v (.tup (ob o)), .own (.lst (tl [])), .un, .un, .un, .un] ⟨[], .un, .un, .un, .un, rfl, by simp, fun w hw => by simp at hw⟩
  subst q2
  rw [List.nil_append, List.length_range] at q3
  refine ⟨ws, ?_, by omega, q4⟩
  have hlen : fLen [.tup (ob o)] h = .ok (.int (o.length : Int)) h := by rw [lenT, ob_len]
  have hrg : rngOk ((o.length : Int) - 1) = true := rngOk_of (by omega) (by omega)
  have ht : ((o.length : Int) - 1).toNat = o.length - 1 := by omega
  have nil0 : (([] : List PV).length ≤ 16777216) = True := eq_true (by simp)
  have tl0 : tl [] = [] := rfl
  rw [tl0] at q1
  rw [m_L_carried, runD, if_pos (show [PV.tup (ob o)].length = P_L_carried.length from rfl), b_L_carried, show startE N_L_carried.length [.tup (ob o)] = [.v (.tup (ob o)), .un, .un, .un, .un, .un] from rfl]
  generalize (o.length : Int) = OL at *
  simp only [aSeq, aSetN, aSzc, aNil, Res.bind_ok, nil0, if_true, ofE_ok, List.set_cons_zero, List.set_cons_succ, aFor, aR1, aCons, aOp, aCall, aVar, aC, List.getElem?_cons_zero, List.getElem?_cons_succ, hlen, subI, hrg, rng_nat, ht, q1, aRetOwn]
/-! ### with a digest -/
section
variable {n : Nat} {h : Hh} {kd wd : PV} {H : List Nat → List Nat} {sz : Nat} {ps : List (List Nat)}
theorem near_eq (c : Int) (S : Nat) (hS : S ≤ 100) (x0 x2 x3 x4 x6 : SV) (h : Hh) : ∃ P, small8 P ∧ P.length = S ∧
    (mCall fTuple (mCons (mFz (mLc (itR1 (mCons (mVar 1) mNil)) [7] (gN 7) mYes (mOp oMod (mCall fInt (mCons (mOp oDiv (mVar 5) (mOp oAdd (mC (.int 1)) (mOp oMulA (mOp oMulA (mC (.int 5)) (mVar 7)) (mVar 7)))) mNil)) (mC (.int 256))))) mNil)) [x0, .v (.int (S : Int)), x2, x3, x4, .v (.int c), x6, .un] h = .ok (.tup (ob P)) h := by
  have hr : rngOk (S : Int) = true := rngOk_of (by omega) (by omega)
  have ht : (S : Int).toNat = S := Int.toNat_natCast S
  have hz : (((List.range S).map fun i : Nat => PV.int (i : Int)).length ≤ 16777216) = True := eq_true (by rw [List.length_map, List.length_range]; omega)
  obtain ⟨P, hP⟩ : ∃ P : List Nat, P = (List.range S).map fun i : Nat => (c / (1 + 5 * (i : Int) * (i : Int)) % 256).toNat := ⟨_, rfl⟩
  have kk : lcL (gN 7) mYes (mOp oMod (mCall fInt (mCons (mOp oDiv (mVar 5) (mOp oAdd (mC (.int 1)) (mOp oMulA (mOp oMulA (mC (.int 5)) (mVar 7)) (mVar 7)))) mNil)) (mC (.int 256))) [x0, .v (.int (S : Int)), x2, x3, x4, .v (.int c), x6, .un] ((List.range S).map fun i : Nat => PV.int (i : Int)) h = .ok (ob P) h := by
    rw [hP]
    unfold ob
    rw [List.map_map]
    refine lcL_all (fun i : Nat => PV.int (i : Int)) _ _ fun i hi => ⟨_, rfl, ?_⟩
    have hi' := List.mem_range.mp hi
    have h5 : oMulA (.int 5) (.int (i : Int)) h = .ok (.int (5 * (i : Int))) h := mulAI h (mulOk_l (by decide))
    have h6 : oMulA (.int (5 * (i : Int))) (.int (i : Int)) h = .ok (.int (5 * (i : Int) * (i : Int))) h := mulAI h (mulOk_r (by omega))
    have hii : 0 ≤ 5 * (i : Int) * (i : Int) ∧ 5 * (i : Int) * (i : Int) ≤ 5 * 100 * 100 :=
      ⟨Int.mul_nonneg (by omega) (by omega), Int.mul_le_mul (by omega) (by omega) (by omega) (by omega)⟩
    have hd : oDiv (.int c) (.int (1 + 5 * (i : Int) * (i : Int))) h = .ok (.int (c / (1 + 5 * (i : Int) * (i : Int)))) h := divI h (divOk_of (by omega) (by omega))
    have hm : oMod (.int (c / (1 + 5 * (i : Int) * (i : Int)))) (.int 256) h = .ok (.int (c / (1 + 5 * (i : Int) * (i : Int)) % 256)) h := modI h (by decide)
    have hr := mod_range (c / (1 + 5 * (i : Int) * (i : Int))) (n := 256) (by decide)
    have he : (((c / (1 + 5 * (i : Int) * (i : Int)) % 256).toNat : Nat) : Int) = c / (1 + 5 * (i : Int) * (i : Int)) % 256 := by omega
    simp only [aOp, aVar, aC, aCall, aCons, aNil, List.getElem?_cons_zero, List.getElem?_cons_succ, List.set_cons_zero, List.set_cons_succ, Res.bind_ok, h5, h6, addI, hd, intI, hm, Function.comp_apply, he]
  refine ⟨P, fun x hx => ?_, by rw [hP, List.length_map, List.length_range], ?_⟩
  · rw [hP] at hx
    obtain ⟨i, _, rfl⟩ := List.mem_map.mp hx
    have := mod_range (c / (1 + 5 * (i : Int) * (i : Int))) (n := 256) (by decide)
    omega
  · generalize (S : Int) = SS at *
    simp only [aCall, aCons, aNil, aFz, aLc, aR1, aVar, List.getElem?_cons_zero, List.getElem?_cons_succ, Res.bind_ok, hr, if_true, rng_nat, ht, hz, aW0, aW1, List.set_cons_zero, List.set_cons_succ, kk, tupL]
theorem with_eq (g : DG n h kd .non H sz) (S : Nat) (hS : S ≤ 100) (due : List Nat) (r : Int) : ∃ v, m_L_with_digest [kd, .int (S : Int), .tup (ob due), .int r] h = .ok v h ∧ (v = .non ∨ ∃ p, v = .tup (ob p) ∧ small8 p ∧ p.length = S) := by
  have hstep := forL_or (g := gN 4) (b := b_L_with_digest_1) (h := h) (fun env => ∃ t4 t5 t6, env = [.v kd, .v (.int (S : Int)), .v (.tup (ob due)), .v (.int r), t4, t5, t6, .un]) (fun v => ∃ p, v = .tup (ob p) ∧ small8 p ∧ p.length = S) ((List.range 300).map fun i : Nat => PV.int (i : Int))
    (fun x hx env ⟨t4, t5, t6, he⟩ => by
      subst he
      obtain ⟨i, hi, rfl⟩ := List.mem_map.mp hx
      refine ⟨_, rfl, ?_⟩
      have hm : oMulA (.int (i : Int)) (.int 65539) h = .ok (.int ((i : Int) * 65539)) h := mulAI h (mulOk_r (by decide))
      obtain ⟨P, hP, hPl, hn⟩ := near_eq (r + (i : Int) * 65539) S hS (.v kd) (.v (.tup (ob due))) (.v (.int r)) (.v (.int (i : Int))) t6 h
      have ad : oAdd (.tup [.int 0]) (.tup (ob P)) h = .ok (.tup (ob (0 :: P))) h := by rw [addT h (by rw [ob_len]; simp; omega)]; rfl
      have dg := g.ldig (0 :: P) (fun y hy => by
        rcases List.mem_cons.mp hy with rfl | hy
        · decide
        · exact hP y hy) (by simp; omega)
      have eq := eq_ob (H (0 :: P)) due h
      have one : ∀ a : PV, ([a].length ≤ 16777216) = True := fun a => eq_true (by simp)
      by_cases c : H (0 :: P) = due
      · rw [decide_eq_true c] at eq
        refine .inr ⟨.tup (ob P), ?_, P, rfl, hP, hPl⟩
        show b_L_with_digest_1 [.v kd, .v (.int (S : Int)), .v (.tup (ob due)), .v (.int r), .v (.int (i : Int)), t5, t6, .un] h = _
        rw [b_L_with_digest_1]
        generalize (i : Int) = II at *
        generalize (S : Int) = SS at *
        simp only [aSeq, aSet, aOp, aVar, aC, List.getElem?_cons_zero, List.getElem?_cons_succ, List.set_cons_zero, List.set_cons_succ, Res.bind_ok, hm, addI, ofE_ok, hn, aIfS, aToT, aCall, aCons, aNil, aTup, one, if_true, ad, dg, eq, aRet]
      · rw [decide_eq_false c] at eq
        refine .inl ⟨_, ?_, .v (.int (i : Int)), .v (.int (r + (i : Int) * 65539)), .v (.tup (ob P)), rfl⟩
        show b_L_with_digest_1 [.v kd, .v (.int (S : Int)), .v (.tup (ob due)), .v (.int r), .v (.int (i : Int)), t5, t6, .un] h = _
        rw [b_L_with_digest_1]
        generalize (i : Int) = II at *
        generalize (S : Int) = SS at *
        simp only [aSeq, aSet, aOp, aVar, aC, List.getElem?_cons_zero, List.getElem?_cons_succ, List.set_cons_zero, List.set_cons_succ, Res.bind_ok, hm, addI, ofE_ok, hn, aIfS, aToT, aCall, aCons, aNil, aTup, one, if_true, ad, dg, eq, Bool.false_eq_true, if_false, aSkip])
    [.v kd, .v (.int (S : Int)), .v (.tup (ob due)), .v (.int r), .un, .un, .un, .un] ⟨.un, .un, .un, rfl⟩
  have hrg : rngOk 300 = true := rngOk_of (by decide) (by decide)
  have ht : (300 : Int).toNat = 300 := rfl
  have hrl : rngList 0 300 = (List.range 300).map fun i : Nat => PV.int (i : Int) := rng_nat 300
  have hst : startE N_L_with_digest.length [kd, .int (S : Int), .tup (ob due), .int r] = [.v kd, .v (.int (S : Int)), .v (.tup (ob due)), .v (.int r), .un, .un, .un, .un] := rfl
  rw [m_L_with_digest, runD, if_pos (show [kd, PV.int (S : Int), .tup (ob due), .int r].length = P_L_with_digest.length from rfl), b_L_with_digest, hst]
  generalize (List.range 300).map (fun i : Nat => PV.int (i : Int)) = RL at *
  rcases hstep with ⟨env2, e1, _⟩ | ⟨v, e1, hv⟩
  · refine ⟨.non, ?_, .inl rfl⟩
    simp only [aSeq, aFor, aR1, aCons, aNil, aC, Res.bind_ok, hrg, if_true, ht, hrl, ofE_ok, e1, aRet]
  · refine ⟨v, ?_, .inr hv⟩
    simp only [aSeq, aFor, aR1, aCons, aNil, aC, Res.bind_ok, hrg, if_true, ht, hrl, ofE_ok, e1]
end
end Law

set_option Elab.async false
set_option linter.all false
set_option maxRecDepth 100000
set_option maxHeartbeats 2000000
set_option exponentiation.threshold 3000
namespace Law
open PySem Mir
structure FG (sz d : Nat) (p : List Nat) (os : List (List Nat)) : Prop where
  p8 : small8 p
  pl : p.length ≤ 20
  pf : PF sz d os
theorem ix_list (ws : List (List Nat)) (r : Int) (h0 : 0 < ws.length) (h : Hh) : ∃ w ∈ ws, ∃ j : Nat, oMod (.int r) (.int (ws.length : Int)) h = .ok (.int (j : Int)) h ∧ oIx (.lst (tl ws)) (.int (j : Int)) h = .ok (.tup (ob w)) h := by
  obtain ⟨a, b⟩ := mod_range r (n := (ws.length : Int)) (by omega)
  obtain ⟨j, hj⟩ : ∃ j : Nat, r % (ws.length : Int) = (j : Int) := ⟨(r % (ws.length : Int)).toNat, by omega⟩
  have hl : j < ws.length := by omega
  exact ⟨ws[j], List.getElem_mem hl, j, by rw [modI _ (by omega), hj], ixL h (L2.atI_nat (by rw [List.getElem?_map, List.getElem?_eq_getElem hl]; rfl))⟩
theorem oIs_nonT (xs : List PV) (h : Hh) : oIs (.tup xs) .non h = .ok (.bl false) h := rfl
theorem oIs_nonN (h : Hh) : oIs .non .non h = .ok (.bl true) h := rfl
section
variable {n : Nat} {h : Hh} {kd wd : PV} {H : List Nat → List Nat} {sz d : Nat}
theorem pair_eq (g : DH n h kd .non H sz) (hs : szAt kd sz) (hd : d ≤ 20) (k : Nat) (p : List Nat) (os : List (List Nat)) (f : FG sz d p os) (h0 : 0 < os.length) (r : Int) : ∃ p' os', FG sz d p' os' ∧ m_L_forged_pair [kd, .int (k : Int), .tup (ob p), .tup (tl os), .int r] h = .ok (.tup [.tup (ob p'), .tup (tl os')]) h := by
  obtain ⟨o, rest, rfl⟩ : ∃ o rest, os = o :: rest := by cases os with | nil => simp at h0 | cons o r => exact ⟨o, r, rfl⟩
  have hle := g.g.le
  have ho := f.pf.ok o (by simp)
  have hpl := f.pl
  have ad : oAdd (.tup [.int 0]) (.tup (ob p)) h = .ok (.tup (ob (0 :: p))) h := by rw [addT h (by rw [ob_len]; simp; omega)]; rfl
  have dg := g.g.ldig (0 :: p) (txt0 f.p8 (by omega)).1 (by simp; omega)
  have hln := g.g.ln (0 :: p)
  have hsm := g.g.sm (0 :: p)
  have an := and1 k h
  have i0 : oIx (.tup (tl (o :: rest))) (.int 0) h = .ok (.tup (ob o)) h := ixT h (L2.atI_nat (j := 0) (List.getElem?_cons_zero))
  have hk1 := hs h
  generalize H (0 :: p) = B at *
  obtain ⟨t, ht⟩ : ∃ t : Bool, oEq (.int ((k % 2 : Nat) : Int)) (.int 1) h = .ok (.bl t) h := ⟨decide (((k % 2 : Nat) : Int) = 1), by rw [eqI]⟩
  obtain ⟨W, hW, hWl, hIf⟩ : ∃ W, small8 W ∧ W.length = sz + sz ∧ ∀ x0 x1 x2 x4 x7 x8 x9 x10 x11, mIf (toTru (mVar 6)) (mOp oAdd (mOp oIx (mVar 3) (mC (.int 0))) (mVar 5)) (mOp oAdd (mVar 5) (mOp oIx (mVar 3) (mC (.int 0)))) [x0, x1, x2, .v (.tup (tl (o :: rest))), x4, .v (.tup (ob B)), .v (.bl t), x7, x8, x9, x10, x11] h = .ok (.tup (ob W)) h := by
    cases t with
    | true =>
      refine ⟨o ++ B, fun x hx => (List.mem_append.mp hx).elim (ho.1 x) (hsm x), by rw [List.length_append, ho.2, hln], fun x0 x1 x2 x4 x7 x8 x9 x10 x11 => ?_⟩
      have a1 : oAdd (.tup (ob o)) (.tup (ob B)) h = .ok (.tup (ob (o ++ B))) h := by rw [addU _ _ (by rw [ob_len, ho.2]; omega) (by rw [ob_len, hln]; omega), ob_app]
      simp only [aIf, aToTru, aVar, aOp, aC, List.getElem?_cons_zero, List.getElem?_cons_succ, Res.bind_ok, truB, if_true, i0, a1]
    | false =>
      refine ⟨B ++ o, fun x hx => (List.mem_append.mp hx).elim (hsm x) (ho.1 x), by rw [List.length_append, ho.2, hln], fun x0 x1 x2 x4 x7 x8 x9 x10 x11 => ?_⟩
      have a1 : oAdd (.tup (ob B)) (.tup (ob o)) h = .ok (.tup (ob (B ++ o))) h := by rw [addU _ _ (by rw [ob_len, hln]; omega) (by rw [ob_len, ho.2]; omega), ob_app]
      simp only [aIf, aToTru, aVar, aOp, aC, List.getElem?_cons_zero, List.getElem?_cons_succ, Res.bind_ok, truB, Bool.false_eq_true, if_false, i0, a1]
  obtain ⟨ws, c1, c2, c3⟩ := carried_eq W hW (by omega) h
  have one : ∀ a : PV, ([a].length ≤ 16777216) = True := fun a => eq_true (by simp)
  have two : ∀ a b : PV, ([a, b].length ≤ 16777216) = True := fun a b => eq_true (by simp)
  have lw : fLen [.lst (tl ws)] h = .ok (.int (ws.length : Int)) h := by rw [lenI, tl_len]
  have lp : fLen [.tup (ob p)] h = .ok (.int (p.length : Int)) h := by rw [lenT, ob_len]
  have hst : startE N_L_forged_pair.length [kd, .int (k : Int), .tup (ob p), .tup (tl (o :: rest)), .int r] = [.v kd, .v (.int (k : Int)), .v (.tup (ob p)), .v (.tup (tl (o :: rest))), .v (.int r), .un, .un, .un, .un, .un, .un, .un] := rfl
  by_cases c0 : ws.length = 0
  · have e0 : oEq (.int (ws.length : Int)) (.int 0) h = .ok (.bl true) h := by rw [eqI, decide_eq_true (by omega)]
    refine ⟨p, o :: rest, f, ?_⟩
    rw [m_L_forged_pair, runD, if_pos (show [kd, PV.int (k : Int), .tup (ob p), .tup (tl (o :: rest)), .int r].length = P_L_forged_pair.length from rfl), b_L_forged_pair, hst]
    generalize tl (o :: rest) = OS at *
    generalize ((k % 2 : Nat) : Int) = K2 at *
    generalize (k : Int) = KK at *
    generalize (ws.length : Int) = WL at *
    simp only [aSeq, aSet, aCall, aCons, aNil, aOp, aTup, aC, aVar, List.getElem?_cons_zero, List.getElem?_cons_succ, List.set_cons_zero, List.set_cons_succ, Res.bind_ok, one, two, if_true, ad, dg, ofE_ok, an, ht, hIf, c1, aIfS, aToT, lw, e0, aRet]
  · have e0 : oEq (.int (ws.length : Int)) (.int 0) h = .ok (.bl false) h := by rw [eqI, decide_eq_false (by omega)]
    obtain ⟨w, hw, j, m1, i1⟩ := ix_list ws r (by omega) h
    obtain ⟨w8, wl⟩ := c3 w hw
    have s1 := slU (ob w) sz h
    have s2 := slW (ob w) sz h
    rw [ob_take] at s1
    rw [ob_drop] at s2
    have hL : small8 (w.take sz) ∧ (w.take sz).length = sz := ⟨w8.take sz, by rw [List.length_take]; omega⟩
    have hR : small8 (w.drop sz) ∧ (w.drop sz).length = sz := ⟨w8.drop sz, by rw [List.length_drop]; omega⟩
    generalize w.take sz = L at *
    generalize w.drop sz = R at *
    obtain ⟨D, hD⟩ : ∃ D, D = (if t = true then R else L) := ⟨_, rfl⟩
    obtain ⟨E, hE⟩ : ∃ E, E = (if t = true then L else R) := ⟨_, rfl⟩
    have hE8 : small8 E ∧ E.length = sz := by rw [hE]; cases t <;> assumption
    have f1 : ∀ x0 x1 x2 x3 x4 x5 x7 x8 x11, mIf (toTru (mVar 6)) (mVar 10) (mVar 9) [x0, x1, x2, x3, x4, x5, .v (.bl t), x7, x8, .v (.tup (ob L)), .v (.tup (ob R)), x11] h = .ok (.tup (ob D)) h := fun x0 x1 x2 x3 x4 x5 x7 x8 x11 => by
      rw [hD]
      cases t <;> simp only [aIf, aToTru, aVar, List.getElem?_cons_zero, List.getElem?_cons_succ, Res.bind_ok, truB, Bool.false_eq_true, if_false, if_true]
    have f2 : ∀ x0 x1 x2 x3 x4 x5 x7 x8 x11, mIf (toTru (mVar 6)) (mVar 9) (mVar 10) [x0, x1, x2, x3, x4, x5, .v (.bl t), x7, x8, .v (.tup (ob L)), .v (.tup (ob R)), x11] h = .ok (.tup (ob E)) h := fun x0 x1 x2 x3 x4 x5 x7 x8 x11 => by
      rw [hE]
      cases t <;> simp only [aIf, aToTru, aVar, List.getElem?_cons_zero, List.getElem?_cons_succ, Res.bind_ok, truB, Bool.false_eq_true, if_false, if_true]
    have d5 : oDiv (.int r) (.int 5) h = .ok (.int (r / 5)) h := divI _ (by decide)
    obtain ⟨v, hv, hvc⟩ := with_eq g.g p.length (by omega) D (r / 5)
    have sl1 : oSl (.tup (tl (o :: rest))) (some 1) none h = .ok (.tup (tl rest)) h := slW (tl (o :: rest)) 1 h
    have ad2 : oAdd (.tup [.tup (ob E)]) (.tup (tl rest)) h = .ok (.tup (tl (E :: rest))) h := by
      have hr : rest.length ≤ 20 := by have := f.pf.len; rw [List.length_cons] at this; omega
      rw [addU _ _ (by simp) (by rw [tl_len]; omega)]; rfl
    rcases hvc with rfl | ⟨p', rfl, hp8, hpl'⟩
    · refine ⟨p, o :: rest, f, ?_⟩
      rw [m_L_forged_pair, runD, if_pos (show [kd, PV.int (k : Int), .tup (ob p), .tup (tl (o :: rest)), .int r].length = P_L_forged_pair.length from rfl), b_L_forged_pair, hst]
      generalize tl (o :: rest) = OS at *
      generalize ((k % 2 : Nat) : Int) = K2 at *
      generalize (k : Int) = KK at *
      generalize (ws.length : Int) = WL at *
      generalize (p.length : Int) = PL at *
      generalize (j : Int) = JJ at *
      generalize (sz : Int) = SZ at *
      simp only [aSeq, aSet, aCall, aCons, aNil, aOp, aTup, aC, aVar, List.getElem?_cons_zero, List.getElem?_cons_succ, List.set_cons_zero, List.set_cons_succ, Res.bind_ok, one, two, if_true, ad, dg, ofE_ok, an, ht, hIf, c1, aIfS, aToT, lw, e0, Bool.false_eq_true, if_false, aSkip, m1, i1, aSl, aOn, aOs, hk1, s1, s2, lp, f1, d5, hv, aRet]
      rw [aIf]
      simp only [aToT, aOp, aC, aVar, List.getElem?_cons_zero, List.getElem?_cons_succ, Res.bind_ok, oIs_nonN, if_true, aTup, aCons, aNil, two, ofE_ok]
    · refine ⟨p', E :: rest, ⟨hp8, by omega, ⟨f.pf.len, fun q hq => (List.mem_cons.mp hq).elim (fun z => z ▸ hE8) (fun z => f.pf.ok q (by simp [z]))⟩⟩, ?_⟩
      rw [m_L_forged_pair, runD, if_pos (show [kd, PV.int (k : Int), .tup (ob p), .tup (tl (o :: rest)), .int r].length = P_L_forged_pair.length from rfl), b_L_forged_pair, hst]
      generalize tl (o :: rest) = OS at *
      generalize ((k % 2 : Nat) : Int) = K2 at *
      generalize (k : Int) = KK at *
      generalize (ws.length : Int) = WL at *
      generalize (p.length : Int) = PL at *
      generalize (j : Int) = JJ at *
      generalize (sz : Int) = SZ at *
      simp only [aSeq, aSet, aCall, aCons, aNil, aOp, aTup, aC, aVar, List.getElem?_cons_zero, List.getElem?_cons_succ, List.set_cons_zero, List.set_cons_succ, Res.bind_ok, one, two, if_true, ad, dg, ofE_ok, an, ht, hIf, c1, aIfS, aToT, lw, e0, Bool.false_eq_true, if_false, aSkip, m1, i1, aSl, aOn, aOs, hk1, s1, s2, lp, f1, d5, hv, aRet]
      have f2' := fun x0 x1 x2 x3 x4 x5 x7 x8 x11 => f2 x0 x1 x2 x3 x4 x5 x7 x8 x11
      rw [aIf]
      simp only [aToT, aOp, aC, aVar, List.getElem?_cons_zero, List.getElem?_cons_succ, Res.bind_ok, oIs_nonT, Bool.false_eq_true, if_false, aTup, aCons, aNil, f2', one, two, if_true, aSl, aOn, aOs, sl1, ad2, ofE_ok]
theorem forged_eq (g : DH n h kd .non H sz) (hs : szAt kd sz) (hd : d ≤ 20) (k : Nat) (p : List Nat) (os : List (List Nat)) (f : FG sz d p os) (r : Int) : ∃ p' os', FG sz d p' os' ∧ m_L_forged [kd, .int (k : Int), .tup (ob p), .tup (tl os), .int r] h = .ok (.tup [.tup (ob p'), .tup (tl os')]) h := by
  have hle := g.g.le
  have hpl := f.pl
  have hol := f.pf.len
  have one : ∀ a : PV, ([a].length ≤ 16777216) = True := fun a => eq_true (by simp)
  have two : ∀ a b : PV, ([a, b].length ≤ 16777216) = True := fun a b => eq_true (by simp)
  have lp : fLen [.tup (ob p)] h = .ok (.int (p.length : Int)) h := by rw [lenT, ob_len]
  have lo : fLen [.tup (tl os)] h = .ok (.int (os.length : Int)) h := by rw [lenT, tl_len]
  have m4 : oMod (.int r) (.int 4) h = .ok (.int (r % 4)) h := modI _ (by decide)
  have d4 : oDiv (.int r) (.int 4) h = .ok (.int (r / 4)) h := divI _ (by decide)
  have d16 : oDiv (.int r) (.int 16) h = .ok (.int (r / 16)) h := divI _ (by decide)
  obtain ⟨y0, y1⟩ := mod_range r (n := 4) (by decide)
  obtain ⟨c, hc⟩ : ∃ c, r % 4 = c := ⟨_, rfl⟩
  rw [hc] at m4 y0 y1
  have hst : startE N_L_forged.length [kd, .int (k : Int), .tup (ob p), .tup (tl os), .int r] = [.v kd, .v (.int (k : Int)), .v (.tup (ob p)), .v (.tup (tl os)), .v (.int r), .un, .un, .un, .un] := rfl
  have hrun : ∀ v, b_L_forged [.v kd, .v (.int (k : Int)), .v (.tup (ob p)), .v (.tup (tl os)), .v (.int r), .un, .un, .un, .un] h = .rt v h → m_L_forged [kd, .int (k : Int), .tup (ob p), .tup (tl os), .int r] h = .ok v h := fun v e => by
    rw [m_L_forged, runD, if_pos (show [kd, PV.int (k : Int), .tup (ob p), .tup (tl os), .int r].length = P_L_forged.length from rfl), hst, e]
  rcases (show c = 0 ∨ c = 1 ∨ c = 2 ∨ c = 3 by omega) with rfl | rfl | rfl | rfl
  · -- another piece of the same digest
    have ad : oAdd (.tup [.int 0]) (.tup (ob p)) h = .ok (.tup (ob (0 :: p))) h := by rw [addT h (by rw [ob_len]; simp; omega)]; rfl
    have dg := g.g.ldig (0 :: p) (txt0 f.p8 (by omega)).1 (by simp; omega)
    obtain ⟨v, hv, hvc⟩ := with_eq g.g p.length (by omega) (H (0 :: p)) (r / 4)
    rcases hvc with rfl | ⟨p', rfl, hp8, hpl'⟩
    · refine ⟨p, os, f, hrun _ ?_⟩
      rw [b_L_forged]
      generalize (p.length : Int) = PL at *
      generalize (k : Int) = KK at *
      simp only [aSeq, aSet, aCall, aCons, aNil, aOp, aTup, aC, aVar, List.getElem?_cons_zero, List.getElem?_cons_succ, List.set_cons_zero, List.set_cons_succ, Res.bind_ok, m4, ofE_ok, aIfS, aToT, eqI, Int.reduceEq, decide_true, if_true, lp, one, two, ad, dg, d4, hv, aRet, aIf, oIs_nonN]
    · refine ⟨p', os, ⟨hp8, by omega, f.pf⟩, hrun _ ?_⟩
      rw [b_L_forged]
      generalize (p.length : Int) = PL at *
      generalize (k : Int) = KK at *
      simp only [aSeq, aSet, aCall, aCons, aNil, aOp, aTup, aC, aVar, List.getElem?_cons_zero, List.getElem?_cons_succ, List.set_cons_zero, List.set_cons_succ, Res.bind_ok, m4, ofE_ok, aIfS, aToT, eqI, Int.reduceEq, decide_true, if_true, lp, one, two, ad, dg, d4, hv, aRet, aIf, oIs_nonT, Bool.false_eq_true, if_false]
  · obtain ⟨ws, c1, c2, c3⟩ := carried_eq p f.p8 (by omega) h
    have lw : fLen [.lst (tl ws)] h = .ok (.int (ws.length : Int)) h := by rw [lenI, tl_len]
    by_cases c0 : ws.length = 0
    · have e0 : oGt (.int (ws.length : Int)) (.int 0) h = .ok (.bl false) h := by rw [gtI, decide_eq_false (by omega)]
      refine ⟨p, os, f, hrun _ ?_⟩
      rw [b_L_forged]
      generalize (ws.length : Int) = WL at *
      generalize (k : Int) = KK at *
      simp only [aSeq, aSet, aCall, aCons, aNil, aOp, aTup, aC, aVar, List.getElem?_cons_zero, List.getElem?_cons_succ, List.set_cons_zero, List.set_cons_succ, Res.bind_ok, m4, ofE_ok, aIfS, aToT, eqI, Int.reduceEq, decide_true, decide_false, Bool.false_eq_true, if_false, aSkip, if_true, c1, lw, e0, aRet, aIf, two]
    · have e0 : oGt (.int (ws.length : Int)) (.int 0) h = .ok (.bl true) h := by rw [gtI, decide_eq_true (by omega)]
      obtain ⟨w, hw, j, m1, i1⟩ := ix_list ws (r / 4) (by omega) h
      obtain ⟨w8, wl⟩ := c3 w hw
      refine ⟨w, os, ⟨w8, by omega, f.pf⟩, hrun _ ?_⟩
      rw [b_L_forged]
      generalize (ws.length : Int) = WL at *
      generalize (k : Int) = KK at *
      generalize (j : Int) = JJ at *
      simp only [aSeq, aSet, aCall, aCons, aNil, aOp, aTup, aC, aVar, List.getElem?_cons_zero, List.getElem?_cons_succ, List.set_cons_zero, List.set_cons_succ, Res.bind_ok, m4, ofE_ok, aIfS, aToT, eqI, Int.reduceEq, decide_true, decide_false, Bool.false_eq_true, if_false, aSkip, if_true, c1, lw, e0, aRet, aIf, two, d4, m1, i1]
  all_goals by_cases c0 : os.length = 0
  · have e0 : oEq (.int (os.length : Int)) (.int 0) h = .ok (.bl true) h := by rw [eqI, decide_eq_true (by omega)]
    have n0 : decide ((2 : Int) = 0) = false := rfl
    have n1 : decide ((2 : Int) = 1) = false := rfl
    have q0 : oEq (.int 2) (.int 0) h = .ok (.bl false) h := rfl
    have q1 : oEq (.int 2) (.int 1) h = .ok (.bl false) h := rfl
    refine ⟨p, os, f, hrun _ ?_⟩
    rw [b_L_forged]
    generalize (os.length : Int) = OL at *
    generalize (k : Int) = KK at *
    simp only [aSeq, aSet, aCall, aCons, aNil, aOp, aTup, aC, aVar, List.getElem?_cons_zero, List.getElem?_cons_succ, List.set_cons_zero, List.set_cons_succ, Res.bind_ok, m4, ofE_ok, aIfS, aToT, q0, q1, Bool.false_eq_true, if_false, aSkip, if_true, lo, e0, aRet, two]
  · have e0 : oEq (.int (os.length : Int)) (.int 0) h = .ok (.bl false) h := by rw [eqI, decide_eq_false (by omega)]
    have q0 : oEq (.int 2) (.int 0) h = .ok (.bl false) h := rfl
    have q1 : oEq (.int 2) (.int 1) h = .ok (.bl false) h := rfl
    have q2 : oEq (.int 2) (.int 2) h = .ok (.bl true) h := rfl
    obtain ⟨p', os', f', hp⟩ := pair_eq g hs hd k p os f (by omega) (r / 4)
    refine ⟨p', os', f', hrun _ ?_⟩
    rw [b_L_forged]
    generalize (os.length : Int) = OL at *
    generalize (k : Int) = KK at *
    simp only [aSeq, aSet, aCall, aCons, aNil, aOp, aTup, aC, aVar, List.getElem?_cons_zero, List.getElem?_cons_succ, List.set_cons_zero, List.set_cons_succ, Res.bind_ok, m4, ofE_ok, aIfS, aToT, q0, q1, q2, Bool.false_eq_true, if_false, aSkip, if_true, lo, e0, aRet, two, d4, hp]
  · have e0 : oEq (.int (os.length : Int)) (.int 0) h = .ok (.bl true) h := by rw [eqI, decide_eq_true (by omega)]
    have q0 : oEq (.int 3) (.int 0) h = .ok (.bl false) h := rfl
    have q1 : oEq (.int 3) (.int 1) h = .ok (.bl false) h := rfl
    refine ⟨p, os, f, hrun _ ?_⟩
    rw [b_L_forged]
    generalize (os.length : Int) = OL at *
    generalize (k : Int) = KK at *
    simp only [aSeq, aSet, aCall, aCons, aNil, aOp, aTup, aC, aVar, List.getElem?_cons_zero, List.getElem?_cons_succ, List.set_cons_zero, List.set_cons_succ, Res.bind_ok, m4, ofE_ok, aIfS, aToT, q0, q1, Bool.false_eq_true, if_false, aSkip, if_true, lo, e0, aRet, two]
  · have e0 : oEq (.int (os.length : Int)) (.int 0) h = .ok (.bl false) h := by rw [eqI, decide_eq_false (by omega)]
    have q0 : oEq (.int 3) (.int 0) h = .ok (.bl false) h := rfl
    have q1 : oEq (.int 3) (.int 1) h = .ok (.bl false) h := rfl
    have q2 : oEq (.int 3) (.int 2) h = .ok (.bl false) h := rfl
    obtain ⟨z0, z1⟩ := mod_range (r / 4) (n := (os.length : Int)) (by omega)
    obtain ⟨P, hP⟩ : ∃ P : Nat, r / 4 % (os.length : Int) = (P : Int) := ⟨(r / 4 % (os.length : Int)).toNat, by omega⟩
    have hPl : P < os.length := by omega
    have mP : oMod (.int (r / 4)) (.int (os.length : Int)) h = .ok (.int (P : Int)) h := by rw [modI _ (by omega), hP]
    have iP : oIx (.tup (tl os)) (.int (P : Int)) h = .ok (.tup (ob os[P])) h := ixT h (L2.atI_nat (by rw [List.getElem?_map, List.getElem?_eq_getElem hPl]; rfl))
    have hoP := f.pf.ok os[P] (List.getElem_mem hPl)
    obtain ⟨ws, c1, c2, c3⟩ := carried_eq os[P] hoP.1 (by omega) h
    have lw : fLen [.lst (tl ws)] h = .ok (.int (ws.length : Int)) h := by rw [lenI, tl_len]
    by_cases c0 : ws.length = 0
    · have g0 : oGt (.int (ws.length : Int)) (.int 0) h = .ok (.bl false) h := by rw [gtI, decide_eq_false (by omega)]
      refine ⟨p, os, f, hrun _ ?_⟩
      rw [b_L_forged]
      generalize (ws.length : Int) = WL at *
      generalize (os.length : Int) = OL at *
      generalize (k : Int) = KK at *
      generalize (P : Int) = PP at *
      simp only [aSeq, aSet, aCall, aCons, aNil, aOp, aTup, aC, aVar, List.getElem?_cons_zero, List.getElem?_cons_succ, List.set_cons_zero, List.set_cons_succ, Res.bind_ok, m4, ofE_ok, aIfS, aToT, q0, q1, q2, Bool.false_eq_true, if_false, aSkip, if_true, lo, e0, d4, mP, iP, c1, lw, g0, aRet, aIf, two]
    · have g0 : oGt (.int (ws.length : Int)) (.int 0) h = .ok (.bl true) h := by rw [gtI, decide_eq_true (by omega)]
      obtain ⟨w, hw, j, m1, i1⟩ := ix_list ws (r / 16) (by omega) h
      obtain ⟨w8, wl⟩ := c3 w hw
      have s1 := slU (tl os) P h
      have s2 := slV (tl os) P h
      have t1 : (tl os).take P = tl (os.take P) := (List.map_take).symm
      have t2 : (tl os).drop (P + 1) = tl (os.drop (P + 1)) := (List.map_drop).symm
      rw [t1] at s1
      rw [t2] at s2
      have a1 : oAdd (.tup (tl (os.take P))) (.tup [.tup (ob w)]) h = .ok (.tup (tl (os.take P ++ [w]))) h := by
        rw [addU _ _ (by rw [tl_len, List.length_take]; omega) (by simp), ← tl_app]; rfl
      have a2 : oAdd (.tup (tl (os.take P ++ [w]))) (.tup (tl (os.drop (P + 1)))) h = .ok (.tup (tl (os.take P ++ [w] ++ os.drop (P + 1)))) h := by
        rw [addU _ _ (by rw [tl_len, List.length_append, List.length_take]; simp; omega) (by rw [tl_len, List.length_drop]; omega), tl_app]
      refine ⟨p, os.take P ++ [w] ++ os.drop (P + 1), ⟨f.p8, f.pl, ⟨by rw [List.length_append, List.length_append, List.length_take, List.length_drop]; simp; omega, fun q hq => ?_⟩⟩, hrun _ ?_⟩
      · rcases List.mem_append.mp hq with hq | hq
        · rcases List.mem_append.mp hq with hq | hq
          · exact f.pf.ok q (List.mem_of_mem_take hq)
          · rw [List.mem_singleton.mp hq]; exact ⟨w8, by omega⟩
        · exact f.pf.ok q (List.mem_of_mem_drop hq)
      · rw [b_L_forged]
        generalize (ws.length : Int) = WL at *
        generalize (os.length : Int) = OL at *
        generalize (k : Int) = KK at *
        generalize (P : Int) = PP at *
        generalize (j : Int) = JJ at *
        simp only [aSeq, aSet, aCall, aCons, aNil, aOp, aTup, aC, aVar, List.getElem?_cons_zero, List.getElem?_cons_succ, List.set_cons_zero, List.set_cons_succ, Res.bind_ok, m4, ofE_ok, aIfS, aToT, q0, q1, q2, Bool.false_eq_true, if_false, aSkip, if_true, lo, e0, d4, mP, iP, c1, lw, g0, aRet, aIf, two, one, aSl, aOn, aOs, s1, s2, addI, d16, m1, i1, a1, a2]
end
end Law

set_option Elab.async false
set_option linter.all false
set_option maxRecDepth 100000
set_option maxHeartbeats 2000000
set_option exponentiation.threshold 3000
namespace Law
open PySem Mir
section
variable {n : Nat} {h : Hh} {kd wd : PV} {H : List Nat → List Nat} {sz : Nat} {ps : List (List Nat)}
theorem FG.right (g : DH n h kd .non H sz) (hs : szAt kd sz) (q : PS ps) {p : List Nat} {os : List (List Nat)} (f : FG sz (dpt ps.length) p os) (k : Nat) : m_L_right [.ref n, kd, .lst (tl ps), .int (k : Int), .tup (ob p), .tup (tl os)] h = .ok (.bl true) h := by
  have hd := dpt16 q
  have hle := g.g.le
  have hpl := f.pl
  exact right_eq g hs q (vi := .int (k : Int)) trivial (kn2_ob p (by omega)) (kn3_tl os (by rw [f.pf.len]; omega) (fun o ho => by have := (f.pf.ok o ho).2; omega))
theorem forge_turns (g : DH n h kd .non H sz) (hs : szAt kd sz) (q : PS ps) (k : Nat) (r : Int) (x0 x3 x4 x5 x6 x11 : SV) (C : Nat) (hC : C ≤ 2) (p : List Nat) (os : List (List Nat)) (f : FG sz (dpt ps.length) p os) (x10 : SV) :
    ∃ p' os' t10, FG sz (dpt ps.length) p' os' ∧ forL (gN 10) b_law_1 ((List.range C).map fun i : Nat => PV.int (i : Int)) [x0, .v (.int r), .v kd, x3, x4, x5, x6, .v (.int (k : Int)), .v (.tup (ob p)), .v (.tup (tl os)), x10, x11] h = .nx [x0, .v (.int r), .v kd, x3, x4, x5, x6, .v (.int (k : Int)), .v (.tup (ob p')), .v (.tup (tl os')), t10, x11] h := by
  have hd := dpt16 q
  obtain ⟨env', q1, p', os', t10, q2, q3⟩ := forL_inv (g := gN 10) (b := b_law_1) (h := h) (fun k : Nat => PV.int (k : Int))
    (fun pre env => ∃ p os t10, env = [x0, .v (.int r), .v kd, x3, x4, x5, x6, .v (.int (k : Int)), .v (.tup (ob p)), .v (.tup (tl os)), t10, x11] ∧ FG sz (dpt ps.length) p os) (List.range C) []
    (fun pre i post e env ⟨p, os, t10, q2, q3⟩ => by
      subst q2
      obtain ⟨rfl, hi⟩ := range_at (by rw [← e]; rfl : List.range C = pre ++ i :: post)
      obtain ⟨D, hD0, hD⟩ : ∃ D : Int, 0 < D ∧ D < 2 ^ 62 ∧ oIx (.lst [.int 21, .int 1021]) (.int (pre.length : Int)) h = .ok (.int D) h := by
        rcases (show pre.length = 0 ∨ pre.length = 1 by omega) with e | e
        · rw [e]; exact ⟨21, by decide, by decide, rfl⟩
        · rw [e]; exact ⟨1021, by decide, by decide, rfl⟩
      have dv : oDiv (.int r) (.int D) h = .ok (.int (r / D)) h := divI _ (divOk_of hD0 hD.1)
      obtain ⟨p', os', f', hf⟩ := forged_eq g hs (d := dpt ps.length) (by omega) k p os q3 (r / D)
      have two : ∀ a b : PV, ([a, b].length ≤ 16777216) = True := fun a b => eq_true (by simp)
      have i1 := hD.2
      refine ⟨_, [x0, .v (.int r), .v kd, x3, x4, x5, x6, .v (.int (k : Int)), .v (.tup (ob p')), .v (.tup (tl os')), .v (.int (pre.length : Int)), x11], rfl, ?_, p', os', .v (.int (pre.length : Int)), rfl, f'⟩
      rw [b_law_1]
      have hg : ∀ x8 x9 x10, gTuA 2 (gCs (gN 8) (gCs (gN 9) gNl)) (.tup [.tup (ob p'), .tup (tl os')]) [x0, .v (.int r), .v kd, x3, x4, x5, x6, .v (.int (k : Int)), x8, x9, x10, x11] = some [x0, .v (.int r), .v kd, x3, x4, x5, x6, .v (.int (k : Int)), .v (.tup (ob p')), .v (.tup (tl os')), x10, x11] := fun _ _ _ => rfl
      generalize (pre.length : Int) = PL at *
      generalize (k : Int) = KK at *
      simp only [aAsg, aCall, aCons, aNil, aVar, aOp, aFz, aSzc, aC, List.getElem?_cons_zero, List.getElem?_cons_succ, List.set_cons_zero, List.set_cons_succ, Res.bind_ok, two, if_true, i1, dv, hf, ofE_ok, hg])
    [x0, .v (.int r), .v kd, x3, x4, x5, x6, .v (.int (k : Int)), .v (.tup (ob p)), .v (.tup (tl os)), x10, x11] ⟨p, os, x10, rfl, f⟩
  subst q2
  exact ⟨p', os', t10, q3, q1⟩
theorem turn_step (ns : List Int) (g : DH 0 h kd .non H sz) (hs : szAt kd sz) (q : PS ps) (hpos : 0 < ps.length) (k : Nat) (x1 x7 x8 x9 x10 x11 : SV) : ∃ t1 t7 t8 t9 t10 t11,
    b_law_2 [.v (.lst (ns.map PV.int)), x1, .v kd, .v (.ref 0), .v (.lst (tl ps)), .v (.tup ((List.range ps.length).map fun k => PV.tup (tl (prfT H ps (dpt ps.length) k)))), .v (.int (k : Int)), x7, x8, x9, x10, x11] h =
    .nx [.v (.lst (ns.map PV.int)), t1, .v kd, .v (.ref 0), .v (.lst (tl ps)), .v (.tup ((List.range ps.length).map fun k => PV.tup (tl (prfT H ps (dpt ps.length) k)))), .v (.int (k : Int)), t7, t8, t9, t10, t11] h := by
  have hc := cell_eq ns k h
  obtain ⟨r, hr⟩ := rich_eq (ns.getD k 0) k h
  have hle := g.g.le
  have hd := dpt16 q
  have hlen : fLen [.lst (tl ps)] h = .ok (.int (ps.length : Int)) h := by rw [lenI, tl_len]
  obtain ⟨n0, n1⟩ := mod_range r (n := (ps.length : Int)) (by omega)
  obtain ⟨N, hN⟩ : ∃ N : Nat, r % (ps.length : Int) = (N : Int) := ⟨(r % (ps.length : Int)).toNat, by omega⟩
  have hNl : N < ps.length := by omega
  have mN : oMod (.int r) (.int (ps.length : Int)) h = .ok (.int (N : Int)) h := by rw [modI _ (by omega), hN]
  have d7 : oDiv (.int r) (.int 7) h = .ok (.int (r / 7)) h := divI _ (by decide)
  have m2 : oMod (.int (r / 7)) (.int 2) h = .ok (.int (r / 7 % 2)) h := modI _ (by decide)
  have d1009 : oDiv (.int r) (.int 1009) h = .ok (.int (r / 1009)) h := divI _ (by decide)
  obtain ⟨y0, y1⟩ := mod_range (r / 7) (n := 2) (by decide)
  obtain ⟨C, hC⟩ : ∃ C : Nat, 1 + r / 7 % 2 = (C : Int) := ⟨(1 + r / 7 % 2).toNat, by omega⟩
  have iN : oIx (.lst (tl ps)) (.int (N : Int)) h = .ok (.tup (ob ps[N])) h := ixL h (L2.atI_nat (by rw [List.getElem?_map, List.getElem?_eq_getElem hNl]; rfl))
  have jN : oIx (.tup ((List.range ps.length).map fun k => PV.tup (tl (prfT H ps (dpt ps.length) k)))) (.int (N : Int)) h = .ok (.tup (tl (prfT H ps (dpt ps.length) N))) h := ixT h (L2.atI_nat (by rw [List.getElem?_map, List.getElem?_range hNl]; rfl))
  have hpN := q.sm ps[N] (List.getElem_mem hNl)
  have f0 : FG sz (dpt ps.length) ps[N] (prfT H ps (dpt ps.length) N) := ⟨hpN.1, hpN.2, prf_PF (ps := ps) g.g (dpt ps.length) N⟩
  generalize ps[N] = pN at *
  generalize prfT H ps (dpt ps.length) N = oN at *
  have r1 := f0.right g hs q N
  obtain ⟨p', os', t10, f1, hfo⟩ := forge_turns g hs q N r (.v (.lst (ns.map PV.int))) (.v (.ref 0)) (.v (.lst (tl ps))) (.v (.tup ((List.range ps.length).map fun k => PV.tup (tl (prfT H ps (dpt ps.length) k))))) (.v (.int (k : Int))) x11 C (by omega) pN oN f0 x10
  have r2 := f1.right g hs q N
  have hpl := f1.pl
  obtain ⟨vi, vp, vo, s1, s2, s3, s4⟩ := spoilt_eq N ps.length 30 (by decide) (r / 1009) (ob p') (tl os') (kn2_ob p' (by omega)) (kn3_tl os' (by rw [f1.pf.len]; omega) (fun o ho => by have := (f1.pf.ok o ho).2; omega)) (fun y hy => by
    obtain ⟨o, _, rfl⟩ := List.mem_map.mp hy; exact ⟨_, rfl⟩) h
  have r3 := right_eq g hs q s2 (s3.up (by decide)) (s4.up (by decide))
  have u0 : oIx (.tup [vi, vp, vo]) (.int 0) h = .ok vi h := ixT h rfl
  have u1 : oIx (.tup [vi, vp, vo]) (.int 1) h = .ok vp h := ixT h rfl
  have u2 : oIx (.tup [vi, vp, vo]) (.int 2) h = .ok vo h := ixT h rfl
  have hrg : rngOk (C : Int) = true := rngOk_of (by omega) (by omega)
  have ht : (C : Int).toNat = C := Int.toNat_natCast C
  refine ⟨.v (.int r), .v (.int (N : Int)), .v (.tup (ob p')), .v (.tup (tl os')), t10, .v (.tup [vi, vp, vo]), ?_⟩
  rw [b_law_2]
  generalize ((List.range ps.length).map fun k => PV.tup (tl (prfT H ps (dpt ps.length) k))) = told at *
  generalize (ps.length : Int) = LL at *
  generalize (N : Int) = NN at *
  generalize (k : Int) = KK at *
  generalize ns.map PV.int = nsP at *
  generalize (C : Int) = CC at *
  simp only [aSeq, aSet, aCall, aCons, aNil, aVar, aOp, aC, List.getElem?_cons_zero, List.getElem?_cons_succ, List.set_cons_zero, List.set_cons_succ, Res.bind_ok, ofE_ok, hc, hr, hlen, mN, iN, jN, aIfS, aNotT, aToTru, r1, truB, Bool.not_true, Bool.false_eq_true, if_false, aSkip, aFor, aR1, d7, m2, addI, hC, hrg, if_true, rng_nat, ht, hfo, r2, d1009, s1, u0, u1, u2, r3]
end
theorem law_gen (ns : List Int) (hns : ns.length ≤ 63) (s : Nat) (h1 : 1 ≤ s) (h2 : s ≤ 8) (hS : 1 + (ns.getD 1 0) % 4 / 3 = (s : Int)) : m_law [.lst (ns.map PV.int)] [] = .ok (.bl true) [HS s] := by
  have g := DH_sum s h1 h2
  have hs := sz_sum s
  obtain ⟨r, hr⟩ := rich_eq (ns.getD 0 0) 0 []
  have hr' : m_L_rich [.int (ns.getD 0 0), .int 0] [] = .ok (.int r) [] := hr
  have c0' : m_L_cell [.lst (ns.map PV.int), .int 0] [] = .ok (.int (ns.getD 0 0)) [] := cell_eq ns 0 []
  have c1' : m_L_cell [.lst (ns.map PV.int), .int 1] [] = .ok (.int (ns.getD 1 0)) [] := cell_eq ns 1 []
  have m4 : oMod (.int (ns.getD 1 0)) (.int 4) [] = .ok (.int (ns.getD 1 0 % 4)) [] := modI _ (by decide)
  have d3 : oDiv (.int (ns.getD 1 0 % 4)) (.int 3) [] = .ok (.int (ns.getD 1 0 % 4 / 3)) [] := divI _ (by decide)
  obtain ⟨ps0, q0, hps⟩ := pieces_eq' r 5 (by decide) [HS s]
  have hps' : m_L_pieces [.int r, .int 5] [HS s] = .ok (.lst (tl ps0)) [HS s] := hps
  obtain ⟨e0, e1⟩ := mod_range r (n := 256) (by decide)
  obtain ⟨E, hE⟩ : ∃ E : Nat, r % 256 = (E : Int) := ⟨(r % 256).toNat, by omega⟩
  have mE : oMod (.int r) (.int 256) [HS s] = .ok (.int (E : Int)) [HS s] := by rw [modI _ (by decide), hE]
  have hadd : oAdd (.lst (tl ps0)) (.lst [.tup [.int (E : Int), .int 40, .int 200], .tup [.int 1, .int 50, .int 60, .int 70]]) [HS s] = .ok (.lst (tl (ps0 ++ [[E, 40, 200], [1, 50, 60, 70]]))) [HS s] := adL ps0 [[E, 40, 200], [1, 50, 60, 70]] (by have := q0.1; omega) (by simp) [HS s]
  obtain ⟨ps, hpsE⟩ : ∃ ps, ps = ps0 ++ [[E, 40, 200], [1, 50, 60, 70]] := ⟨_, rfl⟩
  rw [← hpsE] at hadd
  have q : PS ps := by
    rw [hpsE]
    refine ⟨by rw [List.length_append]; simp; have := q0.1; omega, fun p hp => ?_⟩
    rcases List.mem_append.mp hp with hp | hp
    · have := q0.2 p hp; exact ⟨this.1, by omega⟩
    · simp only [List.mem_cons, List.not_mem_nil, or_false] at hp
      rcases hp with rfl | rfl
      · refine ⟨fun x hx => ?_, by simp⟩
        simp only [List.mem_cons, List.not_mem_nil, or_false] at hx
        rcases hx with rfl | rfl | rfl <;> omega
      · refine ⟨fun x hx => ?_, by simp⟩
        simp only [List.mem_cons, List.not_mem_nil, or_false] at hx
        rcases hx with rfl | rfl | rfl | rfl <;> omega
  have hpos : 0 < ps.length := by rw [hpsE, List.length_append]; simp
  have hprf := proofs_eq g.g q (.inl rfl : isP ps (.lst (tl ps)))
  have hls : fLen [.lst (ns.map PV.int)] [HS s] = .ok (.int (ns.length : Int)) [HS s] := by rw [lenI, List.length_map]
  obtain ⟨m1, hm1⟩ : ∃ m1 : Int, (if (ns.length : Int) < 10 then (ns.length : Int) else 10) = m1 := ⟨_, rfl⟩
  obtain ⟨m2, hm2⟩ : ∃ m2 : Int, (if m1 > 3 then m1 else 3) = m2 := ⟨_, rfl⟩
  have hm2r : 3 ≤ m2 ∧ m2 ≤ 200 := by
    have : m1 ≤ 100 := by subst hm1; split <;> omega
    subst hm2; split <;> omega
  obtain ⟨C, hC⟩ : ∃ C : Nat, (m2 - 2).toNat = C := ⟨_, rfl⟩
  have hrg : (rngOk 2 && rngOk m2) = true := by rw [rngOk_of (by decide) (by decide), rngOk_of (by omega) (by omega)]; rfl
  have hrl : rngList 2 C = (List.range C).map fun i : Nat => PV.int ((2 + i : Nat) : Int) := by
    unfold rngList
    refine List.map_congr_left fun i _ => ?_
    rw [show ((2 + i : Nat) : Int) = 2 + (i : Int) by omega]
  obtain ⟨env1, p1, t1, t6, t7, t8, t9, t10, t11, p3⟩ := forL_inv (g := gN 6) (b := b_law_2) (h := [HS s]) (fun i : Nat => PV.int ((2 + i : Nat) : Int))
    (fun pre env => ∃ t1 t6 t7 t8 t9 t10 t11, env = [.v (.lst (ns.map PV.int)), t1, .v (KS s), .v (.ref 0), .v (.lst (tl ps)), .v (.tup ((List.range ps.length).map fun k => PV.tup (tl (prfT (sumK s) ps (dpt ps.length) k)))), t6, t7, t8, t9, t10, t11]) (List.range C) []
    (fun pre i post e env ⟨t1, t6, t7, t8, t9, t10, t11, p3⟩ => by
      subst p3
      obtain ⟨u1, u7, u8, u9, u10, u11, hst⟩ := turn_step ns g hs q hpos (2 + i) t1 t7 t8 t9 t10 t11
      exact ⟨_, _, rfl, hst, _, _, _, _, _, _, _, rfl⟩)
    [.v (.lst (ns.map PV.int)), .v (.int r), .v (KS s), .v (.ref 0), .v (.lst (tl ps)), .v (.tup ((List.range ps.length).map fun k => PV.tup (tl (prfT (sumK s) ps (dpt ps.length) k)))), .un, .un, .un, .un, .un, .un] ⟨_, .un, .un, .un, .un, .un, .un, rfl⟩
  have hmk : ∀ (x0 x1 x3 x4 x5 x6 x7 x8 x9 x10 x11 : SV), mMake "Hasher" m_Hasher_init (mCons (mVar 2) mNil) [x0, x1, .v (KS s), x3, x4, x5, x6, x7, x8, x9, x10, x11] [] = .ok (.ref 0) [HS s] := fun x0 x1 x3 x4 x5 x6 x7 x8 x9 x10 x11 => hasherS_make s h1 h2 _ _ [] rfl
  have two : ∀ a b : PV, ([a, b].length ≤ 16777216) = True := fun a b => eq_true (by simp)
  have three : ∀ a b c : PV, ([a, b, c].length ≤ 16777216) = True := fun a b c => eq_true (by simp)
  have four : ∀ a b c d : PV, ([a, b, c, d].length ≤ 16777216) = True := fun a b c d => eq_true (by simp)
  have hko : (PV.tup [.str "sum", .int (s : Int)]) = KS s := rfl
  rw [m_law, runD, if_pos (show [PV.lst (ns.map PV.int)].length = P_law.length from rfl), show startE N_law.length [.lst (ns.map PV.int)] = [.v (.lst (ns.map PV.int)), .un, .un, .un, .un, .un, .un, .un, .un, .un, .un, .un] from rfl, b_law]
  generalize KS s = KD at *
  generalize (E : Int) = EE at *
  generalize (ns.length : Int) = NL at *
  generalize ns.getD 0 0 = v0 at *
  generalize ns.getD 1 0 = v1 at *
  generalize ns.map PV.int = nsP at *
  generalize [HS s] = HH at *
  generalize (s : Int) = SS at *
  simp only [aSeq, aSet, aCall, aCons, aNil, aVar, aC, List.getElem?_cons_zero, List.getElem?_cons_succ, List.set_cons_zero, List.set_cons_succ, Res.bind_ok, ofE_ok, c0', hr', c1', intI, aOp, m4, d3, addI, hS, aTup, two, if_true, hko, hmk, hps', aFz, aSzc, mE, three, four, hadd, hprf, aFor, aR2, hls, min2I, hm1, max2I, hm2, hrg, hC, hrl, p1, aRet]
theorem law_true (ns : List Int) (hns : ns.length ≤ 63) : ∃ h', m_law [.lst (ns.map PV.int)] [] = .ok (.bl true) h' := by
  obtain ⟨y0, y1⟩ := mod_range (ns.getD 1 0) (n := 4) (by decide)
  obtain ⟨s, hs⟩ : ∃ s : Nat, 1 + (ns.getD 1 0) % 4 / 3 = (s : Int) := ⟨(1 + (ns.getD 1 0) % 4 / 3).toNat, by omega⟩
  exact ⟨_, law_gen ns hns s (by omega) (by omega) hs⟩
end Law

set_option Elab.async false
set_option linter.all false
open PySem PySem.W PyProof.Rows
set_option maxRecDepth 100000 in
set_option maxHeartbeats 0 in
theorem PySem.Challenge.cw_swarmwhole_k15_whole_forged_pieces_are_p_holds : PySem.Challenge.rw_swarmwhole_k15_whole_forged_pieces_are_p.Holds := by
  w_on; o_law; k_head; (case hw => w_witness2)
  k_fill
  refine L2.walk_of (l := PySem.Challenge.rw_swarmwhole_k15_whole_forged_pieces_are_p) (n := 63) (k := 11) (x := "_law_script") (CX := fun w => L2.CX PySem.Challenge.rw_swarmwhole_k15_whole_forged_pieces_are_p.prog w) (sp := fun w => Mir.spL _) rfl (by decide) rfl ⟨rfl, by decide, by decide⟩ (fun w h Y => PySem.W.kIn_of Y) ?F (fun _ _ a ns hl _ hS => ⟨a, ns, rfl, hS, hl, fun _ => rfl⟩) (fun _ _ _ _ _ h => by obtain ⟨_, _, _, _, _, _, _, _, _, _, _, _, z⟩ := h; exact z)
  case F =>
    intro w mg fa h KX G hmg
    have A_L_rich : Mir.DefAt (L2.KOf KX) mg "_law_rich" Law.s_L_rich := by
      delta L2.KOf; refine' Mir.defAt_mk KX G ?a ?l ?c ?k; (case a => k_is); (case l => k_is); (case c => k_is); (case k => k_is)
    have A_L_cell : Mir.DefAt (L2.KOf KX) mg "_law_cell" Law.s_L_cell := by
      delta L2.KOf; refine' Mir.defAt_mk KX G ?a ?l ?c ?k; (case a => k_is); (case l => k_is); (case c => k_is); (case k => k_is)
    have A_is_integer : Mir.DefAt (L2.KOf KX) mg "is_integer" Law.s_is_integer := by
      delta L2.KOf; refine' Mir.defAt_mk KX G ?a ?l ?c ?k; (case a => k_is); (case l => k_is); (case c => k_is); (case k => k_is)
    have A_is_kind : Mir.DefAt (L2.KOf KX) mg "is_kind" Law.s_is_kind := by
      delta L2.KOf; refine' Mir.defAt_mk KX G ?a ?l ?c ?k; (case a => k_is); (case l => k_is); (case c => k_is); (case k => k_is)
    have A_check_kind : Mir.DefAt (L2.KOf KX) mg "check_kind" Law.s_check_kind := by
      delta L2.KOf; refine' Mir.defAt_mk KX G ?a ?l ?c ?k; (case a => k_is); (case l => k_is); (case c => k_is); (case k => k_is)
    have A_first_primes : Mir.DefAt (L2.KOf KX) mg "first_primes" Law.s_first_primes := by
      delta L2.KOf; refine' Mir.defAt_mk KX G ?a ?l ?c ?k; (case a => k_is); (case l => k_is); (case c => k_is); (case k => k_is)
    have A_square_word : Mir.DefAt (L2.KOf KX) mg "square_word" Law.s_square_word := by
      delta L2.KOf; refine' Mir.defAt_mk KX G ?a ?l ?c ?k; (case a => k_is); (case l => k_is); (case c => k_is); (case k => k_is)
    have A_start_words : Mir.DefAt (L2.KOf KX) mg "start_words" Law.s_start_words := by
      delta L2.KOf; refine' Mir.defAt_mk KX G ?a ?l ?c ?k; (case a => k_is); (case l => k_is); (case c => k_is); (case k => k_is)
    have A_cube_root : Mir.DefAt (L2.KOf KX) mg "cube_root" Law.s_cube_root := by
      delta L2.KOf; refine' Mir.defAt_mk KX G ?a ?l ?c ?k; (case a => k_is); (case l => k_is); (case c => k_is); (case k => k_is)
    have A_cube_word : Mir.DefAt (L2.KOf KX) mg "cube_word" Law.s_cube_word := by
      delta L2.KOf; refine' Mir.defAt_mk KX G ?a ?l ?c ?k; (case a => k_is); (case l => k_is); (case c => k_is); (case k => k_is)
    have A_round_words : Mir.DefAt (L2.KOf KX) mg "round_words" Law.s_round_words := by
      delta L2.KOf; refine' Mir.defAt_mk KX G ?a ?l ?c ?k; (case a => k_is); (case l => k_is); (case c => k_is); (case k => k_is)
    have A_Hasher_init : Mir.MakeAt (L2.KOf KX) mg "Hasher" "Hasher.__init__" Law.s_Hasher_init := by
      delta L2.KOf; refine' Mir.makeAt_mk KX G ?a ?b ?i ?mk ?kc ?l ?c ?k; (case a => k_is); (case b => k_is); (case i => k_is); (case mk => k_is); (case kc => k_is); (case l => k_is); (case c => k_is); (case k => k_is)
    have A_L_codes : Mir.DefAt (L2.KOf KX) mg "_law_codes" Law.s_L_codes := by
      delta L2.KOf; refine' Mir.defAt_mk KX G ?a ?l ?c ?k; (case a => k_is); (case l => k_is); (case c => k_is); (case k => k_is)
    have A_L_pieces : Mir.DefAt (L2.KOf KX) mg "_law_pieces" Law.s_L_pieces := by
      delta L2.KOf; refine' Mir.defAt_mk KX G ?a ?l ?c ?k; (case a => k_is); (case l => k_is); (case c => k_is); (case k => k_is)
    have A_as_octets : Mir.DefAt (L2.KOf KX) mg "as_octets" Law.s_as_octets := by
      delta L2.KOf; refine' Mir.defAt_mk KX G ?a ?l ?c ?k; (case a => k_is); (case l => k_is); (case c => k_is); (case k => k_is)
    have A_plain_sum : Mir.DefAt (L2.KOf KX) mg "plain_sum" Law.s_plain_sum := by
      delta L2.KOf; refine' Mir.defAt_mk KX G ?a ?l ?c ?k; (case a => k_is); (case l => k_is); (case c => k_is); (case k => k_is)
    have A_padded : Mir.DefAt (L2.KOf KX) mg "padded" Law.s_padded := by
      delta L2.KOf; refine' Mir.defAt_mk KX G ?a ?l ?c ?k; (case a => k_is); (case l => k_is); (case c => k_is); (case k => k_is)
    have A_expanded : Mir.DefAt (L2.KOf KX) mg "expanded" Law.s_expanded := by
      delta L2.KOf; refine' Mir.defAt_mk KX G ?a ?l ?c ?k; (case a => k_is); (case l => k_is); (case c => k_is); (case k => k_is)
    have A_compressed : Mir.DefAt (L2.KOf KX) mg "compressed" Law.s_compressed := by
      delta L2.KOf; refine' Mir.defAt_mk KX G ?a ?l ?c ?k; (case a => k_is); (case l => k_is); (case c => k_is); (case k => k_is)
    have A_number_of : Mir.DefAt (L2.KOf KX) mg "number_of" Law.s_number_of := by
      delta L2.KOf; refine' Mir.defAt_mk KX G ?a ?l ?c ?k; (case a => k_is); (case l => k_is); (case c => k_is); (case k => k_is)
    have A_block_words : Mir.DefAt (L2.KOf KX) mg "block_words" Law.s_block_words := by
      delta L2.KOf; refine' Mir.defAt_mk KX G ?a ?l ?c ?k; (case a => k_is); (case l => k_is); (case c => k_is); (case k => k_is)
    have A_joined : Mir.DefAt (L2.KOf KX) mg "joined" Law.s_joined := by
      delta L2.KOf; refine' Mir.defAt_mk KX G ?a ?l ?c ?k; (case a => k_is); (case l => k_is); (case c => k_is); (case k => k_is)
    have A_sha : Mir.DefAt (L2.KOf KX) mg "sha" Law.s_sha := by
      delta L2.KOf; refine' Mir.defAt_mk KX G ?a ?l ?c ?k; (case a => k_is); (case l => k_is); (case c => k_is); (case k => k_is)
    have A_Hasher_digest : Mir.MethAt (L2.KOf KX) mg "Hasher" "digest" "Hasher.digest" Law.s_Hasher_digest := by
      delta L2.KOf; refine' Mir.methAt_mk KX G ?a ?b ?i ?l ?c ?k; (case a => k_is); (case b => k_is); (case i => k_is); (case l => k_is); (case c => k_is); (case k => k_is)
    have A_leaf_text : Mir.DefAt (L2.KOf KX) mg "leaf_text" Law.s_leaf_text := by
      delta L2.KOf; refine' Mir.defAt_mk KX G ?a ?l ?c ?k; (case a => k_is); (case l => k_is); (case c => k_is); (case k => k_is)
    have A_depth : Mir.DefAt (L2.KOf KX) mg "depth" Law.s_depth := by
      delta L2.KOf; refine' Mir.defAt_mk KX G ?a ?l ?c ?k; (case a => k_is); (case l => k_is); (case c => k_is); (case k => k_is)
    have A_node_text : Mir.DefAt (L2.KOf KX) mg "node_text" Law.s_node_text := by
      delta L2.KOf; refine' Mir.defAt_mk KX G ?a ?l ?c ?k; (case a => k_is); (case l => k_is); (case c => k_is); (case k => k_is)
    have A_levels : Mir.DefAt (L2.KOf KX) mg "levels" Law.s_levels := by
      delta L2.KOf; refine' Mir.defAt_mk KX G ?a ?l ?c ?k; (case a => k_is); (case l => k_is); (case c => k_is); (case k => k_is)
    have A_proofs : Mir.DefAt (L2.KOf KX) mg "proofs" Law.s_proofs := by
      delta L2.KOf; refine' Mir.defAt_mk KX G ?a ?l ?c ?k; (case a => k_is); (case l => k_is); (case c => k_is); (case k => k_is)
    have A_L_digest : Mir.DefAt (L2.KOf KX) mg "_law_digest" Law.s_L_digest := by
      delta L2.KOf; refine' Mir.defAt_mk KX G ?a ?l ?c ?k; (case a => k_is); (case l => k_is); (case c => k_is); (case k => k_is)
    have A_L_top : Mir.DefAt (L2.KOf KX) mg "_law_top" Law.s_L_top := by
      delta L2.KOf; refine' Mir.defAt_mk KX G ?a ?l ?c ?k; (case a => k_is); (case l => k_is); (case c => k_is); (case k => k_is)
    have A_L_depth : Mir.DefAt (L2.KOf KX) mg "_law_depth" Law.s_L_depth := by
      delta L2.KOf; refine' Mir.defAt_mk KX G ?a ?l ?c ?k; (case a => k_is); (case l => k_is); (case c => k_is); (case k => k_is)
    have A_L_is_octets : Mir.DefAt (L2.KOf KX) mg "_law_is_octets" Law.s_L_is_octets := by
      delta L2.KOf; refine' Mir.defAt_mk KX G ?a ?l ?c ?k; (case a => k_is); (case l => k_is); (case c => k_is); (case k => k_is)
    have A_L_is_proof : Mir.DefAt (L2.KOf KX) mg "_law_is_proof" Law.s_L_is_proof := by
      delta L2.KOf; refine' Mir.defAt_mk KX G ?a ?l ?c ?k; (case a => k_is); (case l => k_is); (case c => k_is); (case k => k_is)
    have A_L_path : Mir.DefAt (L2.KOf KX) mg "_law_path" Law.s_L_path := by
      delta L2.KOf; refine' Mir.defAt_mk KX G ?a ?l ?c ?k; (case a => k_is); (case l => k_is); (case c => k_is); (case k => k_is)
    have A_L_fold : Mir.DefAt (L2.KOf KX) mg "_law_fold" Law.s_L_fold := by
      delta L2.KOf; refine' Mir.defAt_mk KX G ?a ?l ?c ?k; (case a => k_is); (case l => k_is); (case c => k_is); (case k => k_is)
    have A_L_fits : Mir.DefAt (L2.KOf KX) mg "_law_fits" Law.s_L_fits := by
      delta L2.KOf; refine' Mir.defAt_mk KX G ?a ?l ?c ?k; (case a => k_is); (case l => k_is); (case c => k_is); (case k => k_is)
    have A_L_proof : Mir.DefAt (L2.KOf KX) mg "_law_proof" Law.s_L_proof := by
      delta L2.KOf; refine' Mir.defAt_mk KX G ?a ?l ?c ?k; (case a => k_is); (case l => k_is); (case c => k_is); (case k => k_is)
    have A_L_due : Mir.DefAt (L2.KOf KX) mg "_law_due" Law.s_L_due := by
      delta L2.KOf; refine' Mir.defAt_mk KX G ?a ?l ?c ?k; (case a => k_is); (case l => k_is); (case c => k_is); (case k => k_is)
    have A_L_same : Mir.DefAt (L2.KOf KX) mg "_law_same" Law.s_L_same := by
      delta L2.KOf; refine' Mir.defAt_mk KX G ?a ?l ?c ?k; (case a => k_is); (case l => k_is); (case c => k_is); (case k => k_is)
    have A_is_octet : Mir.DefAt (L2.KOf KX) mg "is_octet" Law.s_is_octet := by
      delta L2.KOf; refine' Mir.defAt_mk KX G ?a ?l ?c ?k; (case a => k_is); (case l => k_is); (case c => k_is); (case k => k_is)
    have AD_is_octets : Mir.DefAtD (L2.KOf KX) mg "is_octets" Law.s_is_octets [("size", .non)] := by
      delta L2.KOf; refine' Mir.defAtD_mk1 KX G ?a ?l ?c ?k ?d ?r; (case a => k_is); (case l => k_is); (case c => k_is); (case k => k_is); (case d => k_is); (case r => rfl)
    have A_is_octets : Mir.DefAt (L2.KOf KX) mg "is_octets" Law.s_is_octets := by
      delta L2.KOf; refine' Mir.defAt_mk KX G ?a ?l ?c ?k; (case a => k_is); (case l => k_is); (case c => k_is); (case k => k_is)
    have A_Hasher_is_digest : Mir.MethAt (L2.KOf KX) mg "Hasher" "is_digest" "Hasher.is_digest" Law.s_Hasher_is_digest := by
      delta L2.KOf; refine' Mir.methAt_mk KX G ?a ?b ?i ?l ?c ?k; (case a => k_is); (case b => k_is); (case i => k_is); (case l => k_is); (case c => k_is); (case k => k_is)
    have A_is_proof : Mir.DefAt (L2.KOf KX) mg "is_proof" Law.s_is_proof := by
      delta L2.KOf; refine' Mir.defAt_mk KX G ?a ?l ?c ?k; (case a => k_is); (case l => k_is); (case c => k_is); (case k => k_is)
    have A_path : Mir.DefAt (L2.KOf KX) mg "path" Law.s_path := by
      delta L2.KOf; refine' Mir.defAt_mk KX G ?a ?l ?c ?k; (case a => k_is); (case l => k_is); (case c => k_is); (case k => k_is)
    have A_fold : Mir.DefAt (L2.KOf KX) mg "fold" Law.s_fold := by
      delta L2.KOf; refine' Mir.defAt_mk KX G ?a ?l ?c ?k; (case a => k_is); (case l => k_is); (case c => k_is); (case k => k_is)
    have A_fits : Mir.DefAt (L2.KOf KX) mg "fits" Law.s_fits := by
      delta L2.KOf; refine' Mir.defAt_mk KX G ?a ?l ?c ?k; (case a => k_is); (case l => k_is); (case c => k_is); (case k => k_is)
    have A_root : Mir.DefAt (L2.KOf KX) mg "root" Law.s_root := by
      delta L2.KOf; refine' Mir.defAt_mk KX G ?a ?l ?c ?k; (case a => k_is); (case l => k_is); (case c => k_is); (case k => k_is)
    have A_parted : Mir.DefAt (L2.KOf KX) mg "parted" Law.s_parted := by
      delta L2.KOf; refine' Mir.defAt_mk KX G ?a ?l ?c ?k; (case a => k_is); (case l => k_is); (case c => k_is); (case k => k_is)
    have A_L_told : Mir.DefAt (L2.KOf KX) mg "_law_told" Law.s_L_told := by
      delta L2.KOf; refine' Mir.defAt_mk KX G ?a ?l ?c ?k; (case a => k_is); (case l => k_is); (case c => k_is); (case k => k_is)
    have A_L_right : Mir.DefAt (L2.KOf KX) mg "_law_right" Law.s_L_right := by
      delta L2.KOf; refine' Mir.defAt_mk KX G ?a ?l ?c ?k; (case a => k_is); (case l => k_is); (case c => k_is); (case k => k_is)
    have A_L_with_digest : Mir.DefAt (L2.KOf KX) mg "_law_with_digest" Law.s_L_with_digest := by
      delta L2.KOf; refine' Mir.defAt_mk KX G ?a ?l ?c ?k; (case a => k_is); (case l => k_is); (case c => k_is); (case k => k_is)
    have A_L_carried : Mir.DefAt (L2.KOf KX) mg "_law_carried" Law.s_L_carried := by
      delta L2.KOf; refine' Mir.defAt_mk KX G ?a ?l ?c ?k; (case a => k_is); (case l => k_is); (case c => k_is); (case k => k_is)
    have A_L_forged_pair : Mir.DefAt (L2.KOf KX) mg "_law_forged_pair" Law.s_L_forged_pair := by
      delta L2.KOf; refine' Mir.defAt_mk KX G ?a ?l ?c ?k; (case a => k_is); (case l => k_is); (case c => k_is); (case k => k_is)
    have A_L_forged : Mir.DefAt (L2.KOf KX) mg "_law_forged" Law.s_L_forged := by
      delta L2.KOf; refine' Mir.defAt_mk KX G ?a ?l ?c ?k; (case a => k_is); (case l => k_is); (case c => k_is); (case k => k_is)
    have A_L_spoilt : Mir.DefAt (L2.KOf KX) mg "_law_spoilt" Law.s_L_spoilt := by
      delta L2.KOf; refine' Mir.defAt_mk KX G ?a ?l ?c ?k; (case a => k_is); (case l => k_is); (case c => k_is); (case k => k_is)
    have A_law : Mir.DefAt (L2.KOf KX) mg "law" Law.s_law := by
      delta L2.KOf; refine' Mir.defAt_mk KX G ?a ?l ?c ?k; (case a => k_is); (case l => k_is); (case c => k_is); (case k => k_is)
    have C_Hasher : Mir.ClsAt (L2.KOf KX) mg (Mir.cAof mg) "Hasher" ["kind", "size", "start", "rounds"] := by
      delta L2.KOf; refine' Mir.clsAt_mk KX G ?a ?pg ?hd ?po ?sa ⟨?f0, ?f1, ?f2, ?f3, True.intro⟩; (case a => k_is); (case pg => k_is); (case hd => k_is); (case po => k_is); (case sa => k_is); (case f0 => k_is); (case f1 => k_is); (case f2 => k_is); (case f3 => k_is)
    have E_BadProof : Mir.ExcAt (L2.KOf KX) mg (Mir.cAof mg) "BadProof" := by
      delta L2.KOf; refine' Mir.excAt_mk KX G ?a ?x ?k ?s ?t ?i; (case a => k_is); (case x => k_exc); (case k => k_is); (case s => k_is); (case t => k_is); (case i => k_is)
    have E_SwarmError : Mir.ExcAt (L2.KOf KX) mg (Mir.cAof mg) "SwarmError" := by
      delta L2.KOf; refine' Mir.excAt_mk KX G ?a ?x ?k ?s ?t ?i; (case a => k_is); (case x => k_exc); (case k => k_is); (case s => k_is); (case t => k_is); (case i => k_is)
    have S_BadProof_BadProof : Mir.SubAt (L2.KOf KX) mg "BadProof" "BadProof" true := by
      delta L2.KOf; refine' Mir.subAt_mk KX G ?a ?b ?s; (case a => k_is); (case b => k_is); (case s => first | rfl | k_is)
    have S_BadProof_SwarmError : Mir.SubAt (L2.KOf KX) mg "BadProof" "SwarmError" true := by
      delta L2.KOf; refine' Mir.subAt_mk KX G ?a ?b ?s; (case a => k_is); (case b => k_is); (case s => first | rfl | k_is)
    have X_BadProof : Mir.ExcCAt (L2.KOf KX) mg "BadProof" := by
      delta L2.KOf; refine' Mir.excCAt_mk KX G ?a (Mir.excC_mk ?hg ?hk ?hs ?hd ?ha ?hn ?ht ?hm); (case a => k_is); (case hg => k_is); (case hk => k_is); (case hs => k_is); (case hd => k_is); (case ha => k_is); (case hn => k_is); (case ht => k_is); (case hm => first | rfl | k_is)
    have T : Law.Tx (L2.KOf KX) mg (Mir.cAof mg) := ⟨C_Hasher,
      E_BadProof,
      (Mir.catch_yes E_BadProof S_BadProof_BadProof (Mir.catch_nil E_BadProof)),
      (Mir.isE_own X_BadProof E_SwarmError S_BadProof_SwarmError S_BadProof_BadProof),
      by refine' PySem.W.mg_none_of KX G ?z; (case z => k_is),
      by refine' PySem.W.mg_none_of KX G ?z; (case z => k_is),
      by refine' PySem.W.mg_none_of KX G ?z; (case z => k_is),
      by refine' PySem.W.mg_none_of KX G ?z; (case z => k_is),
      by refine' PySem.W.mg_none_of KX G ?z; (case z => k_is),
      by refine' PySem.W.mg_none_of KX G ?z; (case z => k_is),
      by refine' PySem.W.mg_none_of KX G ?z; (case z => k_is),
      by refine' PySem.W.mg_none_of KX G ?z; (case z => k_is),
      by refine' PySem.W.mg_none_of KX G ?z; (case z => k_is),
      by refine' PySem.W.mg_none_of KX G ?z; (case z => k_is),
      by refine' PySem.W.mg_none_of KX G ?z; (case z => k_is),
      by refine' PySem.W.mg_none_of KX G ?z; (case z => k_is),
      by refine' PySem.W.mg_none_of KX G ?z; (case z => k_is),
      ⟨_, by refine' PySem.W.mg_of KX G ?z; (case z => k_is)⟩,
      ⟨_, by refine' PySem.W.mg_of KX G ?z; (case z => k_is)⟩,
      ⟨_, by refine' PySem.W.mg_of KX G ?z; (case z => k_is)⟩,
      ⟨_, by refine' PySem.W.mg_of KX G ?z; (case z => k_is)⟩,
      ⟨_, by refine' PySem.W.mg_of KX G ?z; (case z => k_is)⟩,
      ⟨_, by refine' PySem.W.mg_of KX G ?z; (case z => k_is)⟩,
      ⟨_, by refine' PySem.W.mg_of KX G ?z; (case z => k_is)⟩,
      by refine' PySem.W.mg_of KX G ?z; (case z => k_is)⟩
    refine Mir.law_mk (m := Law.m_law) (cA := Mir.cAof mg) A_law hmg (fun _ _ _ _ _ _ _ => rfl) (fun base _ _ f fd Fn => ?_) Law.law_true
    have G_L_rich := Law.d_L_rich (P := PySem.Challenge.rw_swarmwhole_k15_whole_forged_pieces_are_p.prog) (w := w) (base := base) (cA := Mir.cAof mg) T  A_L_rich
    have G_L_cell := Law.d_L_cell (P := PySem.Challenge.rw_swarmwhole_k15_whole_forged_pieces_are_p.prog) (w := w) (base := base) (cA := Mir.cAof mg) T  A_L_cell
    have G_is_integer := Law.d_is_integer (P := PySem.Challenge.rw_swarmwhole_k15_whole_forged_pieces_are_p.prog) (w := w) (base := base) (cA := Mir.cAof mg) T  A_is_integer
    have G_is_kind := Law.d_is_kind (P := PySem.Challenge.rw_swarmwhole_k15_whole_forged_pieces_are_p.prog) (w := w) (base := base) (cA := Mir.cAof mg) T G_is_integer A_is_kind
    have G_check_kind := Law.d_check_kind (P := PySem.Challenge.rw_swarmwhole_k15_whole_forged_pieces_are_p.prog) (w := w) (base := base) (cA := Mir.cAof mg) T G_is_kind A_check_kind
    have G_first_primes := Law.d_first_primes (P := PySem.Challenge.rw_swarmwhole_k15_whole_forged_pieces_are_p.prog) (w := w) (base := base) (cA := Mir.cAof mg) T  A_first_primes
    have G_square_word := Law.d_square_word (P := PySem.Challenge.rw_swarmwhole_k15_whole_forged_pieces_are_p.prog) (w := w) (base := base) (cA := Mir.cAof mg) T  A_square_word
    have G_start_words := Law.d_start_words (P := PySem.Challenge.rw_swarmwhole_k15_whole_forged_pieces_are_p.prog) (w := w) (base := base) (cA := Mir.cAof mg) T G_first_primes G_square_word A_start_words
    have G_cube_root := Law.d_cube_root (P := PySem.Challenge.rw_swarmwhole_k15_whole_forged_pieces_are_p.prog) (w := w) (base := base) (cA := Mir.cAof mg) T  A_cube_root
    have G_cube_word := Law.d_cube_word (P := PySem.Challenge.rw_swarmwhole_k15_whole_forged_pieces_are_p.prog) (w := w) (base := base) (cA := Mir.cAof mg) T G_cube_root A_cube_word
    have G_round_words := Law.d_round_words (P := PySem.Challenge.rw_swarmwhole_k15_whole_forged_pieces_are_p.prog) (w := w) (base := base) (cA := Mir.cAof mg) T G_first_primes G_cube_word A_round_words
    have GI_Hasher_init := Law.di_Hasher_init (P := PySem.Challenge.rw_swarmwhole_k15_whole_forged_pieces_are_p.prog) (w := w) (base := base) (cA := Mir.cAof mg) T G_check_kind G_start_words G_round_words A_Hasher_init
    have G_L_codes := Law.d_L_codes (P := PySem.Challenge.rw_swarmwhole_k15_whole_forged_pieces_are_p.prog) (w := w) (base := base) (cA := Mir.cAof mg) T  A_L_codes
    have G_L_pieces := Law.d_L_pieces (P := PySem.Challenge.rw_swarmwhole_k15_whole_forged_pieces_are_p.prog) (w := w) (base := base) (cA := Mir.cAof mg) T G_L_codes A_L_pieces
    have GK_as_octets := Law.dk_as_octets (P := PySem.Challenge.rw_swarmwhole_k15_whole_forged_pieces_are_p.prog) (w := w) (base := base) (cA := Mir.cAof mg) T  A_as_octets
    have G_plain_sum := Law.d_plain_sum (P := PySem.Challenge.rw_swarmwhole_k15_whole_forged_pieces_are_p.prog) (w := w) (base := base) (cA := Mir.cAof mg) T GK_as_octets A_plain_sum
    have G_padded := Law.d_padded (P := PySem.Challenge.rw_swarmwhole_k15_whole_forged_pieces_are_p.prog) (w := w) (base := base) (cA := Mir.cAof mg) T GK_as_octets A_padded
    have G_expanded := Law.d_expanded (P := PySem.Challenge.rw_swarmwhole_k15_whole_forged_pieces_are_p.prog) (w := w) (base := base) (cA := Mir.cAof mg) T  A_expanded
    have G_compressed := Law.d_compressed (P := PySem.Challenge.rw_swarmwhole_k15_whole_forged_pieces_are_p.prog) (w := w) (base := base) (cA := Mir.cAof mg) T G_expanded A_compressed
    have G_number_of := Law.d_number_of (P := PySem.Challenge.rw_swarmwhole_k15_whole_forged_pieces_are_p.prog) (w := w) (base := base) (cA := Mir.cAof mg) T  A_number_of
    have G_block_words := Law.d_block_words (P := PySem.Challenge.rw_swarmwhole_k15_whole_forged_pieces_are_p.prog) (w := w) (base := base) (cA := Mir.cAof mg) T G_number_of A_block_words
    have G_joined := Law.d_joined (P := PySem.Challenge.rw_swarmwhole_k15_whole_forged_pieces_are_p.prog) (w := w) (base := base) (cA := Mir.cAof mg) T  A_joined
    have G_sha := Law.d_sha (P := PySem.Challenge.rw_swarmwhole_k15_whole_forged_pieces_are_p.prog) (w := w) (base := base) (cA := Mir.cAof mg) T G_padded G_compressed G_block_words G_joined GK_as_octets A_sha
    have GM_Hasher_digest := Law.dm_Hasher_digest (P := PySem.Challenge.rw_swarmwhole_k15_whole_forged_pieces_are_p.prog) (w := w) (base := base) (cA := Mir.cAof mg) T G_plain_sum G_sha A_Hasher_digest
    have G_leaf_text := Law.d_leaf_text (P := PySem.Challenge.rw_swarmwhole_k15_whole_forged_pieces_are_p.prog) (w := w) (base := base) (cA := Mir.cAof mg) T  A_leaf_text
    have G_depth := Law.d_depth (P := PySem.Challenge.rw_swarmwhole_k15_whole_forged_pieces_are_p.prog) (w := w) (base := base) (cA := Mir.cAof mg) T  A_depth
    have G_node_text := Law.d_node_text (P := PySem.Challenge.rw_swarmwhole_k15_whole_forged_pieces_are_p.prog) (w := w) (base := base) (cA := Mir.cAof mg) T  A_node_text
    have G_levels := Law.d_levels (P := PySem.Challenge.rw_swarmwhole_k15_whole_forged_pieces_are_p.prog) (w := w) (base := base) (cA := Mir.cAof mg) T GM_Hasher_digest G_leaf_text G_depth G_node_text A_levels
    have G_proofs := Law.d_proofs (P := PySem.Challenge.rw_swarmwhole_k15_whole_forged_pieces_are_p.prog) (w := w) (base := base) (cA := Mir.cAof mg) T G_levels A_proofs
    have G_L_digest := Law.d_L_digest (P := PySem.Challenge.rw_swarmwhole_k15_whole_forged_pieces_are_p.prog) (w := w) (base := base) (cA := Mir.cAof mg) T  A_L_digest
    have G_L_top := Law.d_L_top (P := PySem.Challenge.rw_swarmwhole_k15_whole_forged_pieces_are_p.prog) (w := w) (base := base) (cA := Mir.cAof mg) T G_L_digest A_L_top
    have G_L_depth := Law.d_L_depth (P := PySem.Challenge.rw_swarmwhole_k15_whole_forged_pieces_are_p.prog) (w := w) (base := base) (cA := Mir.cAof mg) T  A_L_depth
    have G_L_is_octets := Law.d_L_is_octets (P := PySem.Challenge.rw_swarmwhole_k15_whole_forged_pieces_are_p.prog) (w := w) (base := base) (cA := Mir.cAof mg) T  A_L_is_octets
    have G_L_is_proof := Law.d_L_is_proof (P := PySem.Challenge.rw_swarmwhole_k15_whole_forged_pieces_are_p.prog) (w := w) (base := base) (cA := Mir.cAof mg) T G_L_depth G_L_is_octets A_L_is_proof
    have G_L_path := Law.d_L_path (P := PySem.Challenge.rw_swarmwhole_k15_whole_forged_pieces_are_p.prog) (w := w) (base := base) (cA := Mir.cAof mg) T G_L_digest A_L_path
    have G_L_fold := Law.d_L_fold (P := PySem.Challenge.rw_swarmwhole_k15_whole_forged_pieces_are_p.prog) (w := w) (base := base) (cA := Mir.cAof mg) T G_L_path G_L_digest A_L_fold
    have G_L_fits := Law.d_L_fits (P := PySem.Challenge.rw_swarmwhole_k15_whole_forged_pieces_are_p.prog) (w := w) (base := base) (cA := Mir.cAof mg) T G_L_is_octets G_L_is_proof G_L_fold A_L_fits
    have G_L_proof := Law.d_L_proof (P := PySem.Challenge.rw_swarmwhole_k15_whole_forged_pieces_are_p.prog) (w := w) (base := base) (cA := Mir.cAof mg) T G_L_depth G_L_top A_L_proof
    have G_L_due := Law.d_L_due (P := PySem.Challenge.rw_swarmwhole_k15_whole_forged_pieces_are_p.prog) (w := w) (base := base) (cA := Mir.cAof mg) T G_L_top G_L_depth G_L_fits G_L_path G_L_proof G_L_digest A_L_due
    have G_L_same := Law.d_L_same (P := PySem.Challenge.rw_swarmwhole_k15_whole_forged_pieces_are_p.prog) (w := w) (base := base) (cA := Mir.cAof mg) T  A_L_same
    have G_is_octet := Law.d_is_octet (P := PySem.Challenge.rw_swarmwhole_k15_whole_forged_pieces_are_p.prog) (w := w) (base := base) (cA := Mir.cAof mg) T G_is_integer A_is_octet
    have GD_is_octets := Law.dd_is_octets (P := PySem.Challenge.rw_swarmwhole_k15_whole_forged_pieces_are_p.prog) (w := w) (base := base) (cA := Mir.cAof mg) T G_is_octet AD_is_octets
    have GK_is_octets := Law.dk_is_octets (P := PySem.Challenge.rw_swarmwhole_k15_whole_forged_pieces_are_p.prog) (w := w) (base := base) (cA := Mir.cAof mg) T G_is_octet A_is_octets
    have GM_Hasher_is_digest := Law.dm_Hasher_is_digest (P := PySem.Challenge.rw_swarmwhole_k15_whole_forged_pieces_are_p.prog) (w := w) (base := base) (cA := Mir.cAof mg) T GK_is_octets A_Hasher_is_digest
    have G_is_proof := Law.d_is_proof (P := PySem.Challenge.rw_swarmwhole_k15_whole_forged_pieces_are_p.prog) (w := w) (base := base) (cA := Mir.cAof mg) T G_depth GM_Hasher_is_digest A_is_proof
    have G_path := Law.d_path (P := PySem.Challenge.rw_swarmwhole_k15_whole_forged_pieces_are_p.prog) (w := w) (base := base) (cA := Mir.cAof mg) T G_leaf_text GM_Hasher_digest G_node_text A_path
    have G_fold := Law.d_fold (P := PySem.Challenge.rw_swarmwhole_k15_whole_forged_pieces_are_p.prog) (w := w) (base := base) (cA := Mir.cAof mg) T GM_Hasher_digest G_path A_fold
    have G_fits := Law.d_fits (P := PySem.Challenge.rw_swarmwhole_k15_whole_forged_pieces_are_p.prog) (w := w) (base := base) (cA := Mir.cAof mg) T G_is_integer GD_is_octets G_is_proof G_fold A_fits
    have G_root := Law.d_root (P := PySem.Challenge.rw_swarmwhole_k15_whole_forged_pieces_are_p.prog) (w := w) (base := base) (cA := Mir.cAof mg) T G_levels A_root
    have G_parted := Law.d_parted (P := PySem.Challenge.rw_swarmwhole_k15_whole_forged_pieces_are_p.prog) (w := w) (base := base) (cA := Mir.cAof mg) T G_fits G_root G_path G_proofs GM_Hasher_digest A_parted
    have G_L_told := Law.d_L_told (P := PySem.Challenge.rw_swarmwhole_k15_whole_forged_pieces_are_p.prog) (w := w) (base := base) (cA := Mir.cAof mg) T G_parted A_L_told
    have G_L_right := Law.d_L_right (P := PySem.Challenge.rw_swarmwhole_k15_whole_forged_pieces_are_p.prog) (w := w) (base := base) (cA := Mir.cAof mg) T G_L_due G_L_same G_L_told G_L_proof G_fits G_root A_L_right
    have G_L_with_digest := Law.d_L_with_digest (P := PySem.Challenge.rw_swarmwhole_k15_whole_forged_pieces_are_p.prog) (w := w) (base := base) (cA := Mir.cAof mg) T G_L_digest A_L_with_digest
    have G_L_carried := Law.d_L_carried (P := PySem.Challenge.rw_swarmwhole_k15_whole_forged_pieces_are_p.prog) (w := w) (base := base) (cA := Mir.cAof mg) T  A_L_carried
    have G_L_forged_pair := Law.d_L_forged_pair (P := PySem.Challenge.rw_swarmwhole_k15_whole_forged_pieces_are_p.prog) (w := w) (base := base) (cA := Mir.cAof mg) T G_L_digest G_L_carried G_L_with_digest A_L_forged_pair
    have G_L_forged := Law.d_L_forged (P := PySem.Challenge.rw_swarmwhole_k15_whole_forged_pieces_are_p.prog) (w := w) (base := base) (cA := Mir.cAof mg) T G_L_with_digest G_L_digest G_L_carried G_L_forged_pair A_L_forged
    have G_L_spoilt := Law.d_L_spoilt (P := PySem.Challenge.rw_swarmwhole_k15_whole_forged_pieces_are_p.prog) (w := w) (base := base) (cA := Mir.cAof mg) T  A_L_spoilt
    exact Law.f_law T G_L_rich G_L_cell GI_Hasher_init G_L_pieces G_proofs G_L_right G_L_forged G_L_spoilt Fn

