import PyProof.Rows.All
import Wide.All
import OpenK.AllK
import Wide.FinOn
import HandS.ForMost
import HandS.Gcd
import HandS.Wide
import HandS.DictComp
import HandS.DeepEq
import HandS.More
import HandS.Conv
import HandS.EndBits
import HandS.SortInts
import HandS.Flow
import HandS.Style
import HandS.SetKeys
import HandS.Evl
import HandS.Codes
import PySem.Challenge.RW_zonehouse_k42_whole_coins_by_whole_weigh
set_option Elab.async false
set_option linter.all false
set_option maxRecDepth 100000
/-! Z: a small state of slots and cells over the hand layer; code as bundles (reading, evaluation, soundness). -/
namespace Z
open PySem PySem.Spec PyProof.Rows L2

/-! ### data -/
inductive Kd where | tup | lst | lsR | dK (ks : List Key)
  deriving DecidableEq
/-- a value told: an immediate one, a cell, a node that never changes -/
inductive T where | at (v : V) | ptr (n : Nat) | nd (k : Kd) (ts : List T)
def imm : V → Bool | .ref _ => false | _ => true
def kIs : Kd → List V → HO → Prop
  | .tup, vs, o => o = .tup vs
  | .lst, vs, o => o = .lst vs
  | .lsR, _, _ => False
  | .dK ks, vs, o => ks.length = vs.length ∧ o = .dK (ks.zip vs)
def nodeR (K : PySem.W.Frag) (F : Hp) (a : Addr) : Kd → List V → Prop
  | .tup, vs => SqT K F a vs
  | .lst, vs => F a = some (.lst vs)
  | .lsR, vs => SqL K F a vs
  | .dK ks, vs => ks.length = vs.length ∧ F a = some (.dK (ks.zip vs))
/-- a node as it stands now -/
def nodeH (K : PySem.W.Frag) (H : Hp) (a : Addr) : Kd → List V → Prop
  | .tup, vs => SqT K H a vs
  | .lst, vs => H a = some (.lst vs)
  | .lsR, vs => SqL K H a vs
  | .dK ks, vs => ks.length = vs.length ∧ Rd H a (.dK (ks.zip vs))
inductive TR (K : PySem.W.Frag) (ρ : Nat → Addr) (N : Nat) (F : Hp) : V → T → Prop
  | at {v : V} (h : imm v = true) : TR K ρ N F v (.at v)
  | ptr {n : Nat} (h : n < N) : TR K ρ N F (.ref (ρ n)) (.ptr n)
  | nd {a : Addr} {k : Kd} {vs : List V} {ts : List T} (h : nodeR K F a k vs) (l : vs.length = ts.length)
      (c : ∀ (j : Nat) (v : V) (t : T), vs[j]? = some v → ts[j]? = some t → TR K ρ N F v t) : TR K ρ N F (.ref a) (.nd k ts)
abbrev TRL (K : PySem.W.Frag) (ρ : Nat → Addr) (N : Nat) (F : Hp) (vs : List V) (ts : List T) : Prop := Paired (TR K ρ N F) vs ts

theorem Paired.of_ix {α β : Type} {R : α → β → Prop} : ∀ {xs : List α} {ys : List β}, xs.length = ys.length → (∀ (j : Nat) (x : α) (y : β), xs[j]? = some x → ys[j]? = some y → R x y) → Paired R xs ys
  | [], [], _, _ => .nil
  | [], _ :: _, h, _ => by simp at h
  | _ :: _, [], h, _ => by simp at h
  | x :: xs, y :: ys, h, c => .cons (c 0 x y rfl rfl) (Paired.of_ix (by simpa using h) fun j a b ha hb => c (j + 1) a b (by simpa using ha) (by simpa using hb))
theorem Paired.ix {α β : Type} {R : α → β → Prop} : ∀ {xs : List α} {ys : List β}, Paired R xs ys → ∀ (j : Nat) (x : α) (y : β), xs[j]? = some x → ys[j]? = some y → R x y
  | _, _, .nil, _, _, _, h, _ => by simp at h
  | _, _, .cons r _, 0, x, y, hx, hy => by simp at hx hy; subst hx; subst hy; exact r
  | _, _, .cons _ t, j + 1, x, y, hx, hy => Paired.ix t j x y (by simpa using hx) (by simpa using hy)
theorem Paired.getR {α β : Type} {R : α → β → Prop} {xs : List α} {ys : List β} (p : Paired R xs ys) {j : Nat} {y : β} (h : ys[j]? = some y) : ∃ x, xs[j]? = some x ∧ R x y := by
  have hj : j < xs.length := by rw [Paired.length p]; exact (List.getElem?_eq_some_iff.mp h).1
  exact ⟨xs[j], List.getElem?_eq_getElem hj, Paired.ix p j _ _ (List.getElem?_eq_getElem hj) h⟩
theorem Paired.app {α β : Type} {R : α → β → Prop} : ∀ {xs : List α} {ys : List β} {xs' : List α} {ys' : List β}, Paired R xs ys → Paired R xs' ys' → Paired R (xs ++ xs') (ys ++ ys')
  | _, _, _, _, .nil, q => q
  | _, _, _, _, .cons r t, q => .cons r (Paired.app t q)
theorem Paired.setR {α β : Type} {R : α → β → Prop} {x : α} {y : β} (r : R x y) : ∀ {xs : List α} {ys : List β} (j : Nat), Paired R xs ys → Paired R (xs.set j x) (ys.set j y)
  | _, _, _, .nil => .nil
  | _, _, 0, .cons _ t => .cons r t
  | _, _, j + 1, .cons q t => .cons q (Paired.setR r j t)
theorem Paired.takeR {α β : Type} {R : α → β → Prop} : ∀ {xs : List α} {ys : List β} (n : Nat), Paired R xs ys → Paired R (xs.take n) (ys.take n)
  | _, _, 0, _ => .nil
  | _, _, _ + 1, .nil => .nil
  | _, _, n + 1, .cons r t => .cons r (Paired.takeR n t)
theorem Paired.dropR {α β : Type} {R : α → β → Prop} : ∀ {xs : List α} {ys : List β} (n : Nat), Paired R xs ys → Paired R (xs.drop n) (ys.drop n)
  | _, _, 0, r => r
  | _, _, _ + 1, .nil => .nil
  | _, _, n + 1, .cons _ t => Paired.dropR n t
theorem Paired.one {α β : Type} {R : α → β → Prop} {xs : List α} {y : β} (p : Paired R xs [y]) : ∃ x, xs = [x] ∧ R x y := by
  cases p with
  | cons r t => cases t; exact ⟨_, rfl, r⟩
theorem Paired.two {α β : Type} {R : α → β → Prop} {xs : List α} {y z : β} (p : Paired R xs [y, z]) : ∃ x w, xs = [x, w] ∧ R x y ∧ R w z := by
  cases p with
  | cons r t => obtain ⟨w, rfl, q⟩ := Paired.one t; exact ⟨_, _, rfl, r, q⟩

/-! ### extension of the fixed part -/
def isD : HO → Bool | .dK _ => true | _ => false
abbrev Ex := Evl.Ex
def ExR (F H : Hp) : Prop := ∀ a o, F a = some o → H a = some o ∨ (isD o = true ∧ ∃ ob, H a = some (.frz ob o))
theorem ExR.refl (H : Hp) : ExR H H := fun _ _ h => .inl h
theorem rd_ex {F F' : Hp} {a : Addr} {u : HO} (e : Ex F F') (h : Rd F a u) : Rd F' a u := Evl.ex_rd e h
theorem ExR.rd {F H : Hp} {a : Addr} {u : HO} (e : ExR F H) (h : Rd F a u) (n : isD u = false) : Rd H a u := by
  rcases h with h | ⟨o, h⟩
  · rcases e _ _ h with q | ⟨q, _⟩
    · exact .inl q
    · rw [n] at q; cases q
  · rcases e _ _ h with q | ⟨q, _⟩
    · exact .inr ⟨o, q⟩
    · cases q
theorem ExR.sqL {K : PySem.W.Frag} {F H : Hp} {a : Addr} {xs : List V} (e : ExR F H) (h : SqL K F a xs) : SqL K H a xs := by
  rcases h with h | h
  · exact .inl (e.rd h rfl)
  · exact .inr h
theorem ExR.sqT {K : PySem.W.Frag} {F H : Hp} {a : Addr} {xs : List V} (e : ExR F H) (h : SqT K F a xs) : SqT K H a xs := by
  rcases h with h | h
  · exact .inl (e.rd h rfl)
  · exact .inr h
theorem ExR.none {F H : Hp} {a : Addr} (e : ExR F H) (h : H a = none) : F a = none := by
  cases q : F a with
  | none => rfl
  | some o =>
    rcases e _ _ q with z | ⟨_, _, z⟩
    · rw [h] at z; cases z
    · rw [h] at z; cases z
theorem nodeR.ex {K : PySem.W.Frag} {F F' : Hp} {a : Addr} {k : Kd} {vs : List V} (e : Ex F F') (h : nodeR K F a k vs) : nodeR K F' a k vs := by
  cases k with
  | tup => exact Evl.ex_t e h
  | lst => exact e _ _ h
  | lsR => exact Evl.ex_l e h
  | dK ks => exact ⟨h.1, e _ _ h.2⟩
theorem TR.mono {K : PySem.W.Frag} {ρ ρ' : Nat → Addr} {N N' : Nat} {F F' : Hp} {v : V} {t : T} (h : TR K ρ N F v t) (e : Ex F F') (hr : ∀ n, n < N → ρ' n = ρ n) (hn : N ≤ N') : TR K ρ' N' F' v t := by
  induction h with
  | «at» h => exact .at h
  | ptr h => rw [← hr _ h]; exact .ptr (Nat.lt_of_lt_of_le h hn)
  | nd h l _ ih => exact .nd (h.ex e) l fun j v t a b => ih j v t a b
theorem TRL.mono {K : PySem.W.Frag} {ρ ρ' : Nat → Addr} {N N' : Nat} {F F' : Hp} {vs : List V} {ts : List T} (h : TRL K ρ N F vs ts) (e : Ex F F') (hr : ∀ n, n < N → ρ' n = ρ n) (hn : N ≤ N') : TRL K ρ' N' F' vs ts :=
  Paired.mapP h fun _ _ r => r.mono e hr hn
theorem TR.ndL {K : PySem.W.Frag} {ρ : Nat → Addr} {N : Nat} {F : Hp} {a : Addr} {k : Kd} {vs : List V} {ts : List T} (h : nodeR K F a k vs) (c : TRL K ρ N F vs ts) : TR K ρ N F (.ref a) (.nd k ts) :=
  .nd h (Paired.length c) fun j v t a b => Paired.ix c j v t a b
theorem TR.nd_inv {K : PySem.W.Frag} {ρ : Nat → Addr} {N : Nat} {F : Hp} {v : V} {k : Kd} {ts : List T} (h : TR K ρ N F v (.nd k ts)) : ∃ a vs, v = .ref a ∧ nodeR K F a k vs ∧ TRL K ρ N F vs ts := by
  cases h with
  | nd h l c => exact ⟨_, _, rfl, h, Paired.of_ix l c⟩
theorem TR.at_inv {K : PySem.W.Frag} {ρ : Nat → Addr} {N : Nat} {F : Hp} {v u : V} (h : TR K ρ N F v (.at u)) : v = u ∧ imm u = true := by
  cases h with
  | «at» h => exact ⟨rfl, h⟩
theorem TR.ptr_inv {K : PySem.W.Frag} {ρ : Nat → Addr} {N : Nat} {F : Hp} {v : V} {n : Nat} (h : TR K ρ N F v (.ptr n)) : v = .ref (ρ n) ∧ n < N := by
  cases h with
  | ptr h => exact ⟨rfl, h⟩

/-! ### no cell in it -/
mutual
def pureT : T → Bool
  | .at _ => true
  | .ptr _ => false
  | .nd _ ts => pureL ts
def pureL : List T → Bool
  | [] => true
  | t :: ts => pureT t && pureL ts
end
theorem pureL_get : ∀ {ts : List T} {j : Nat} {t : T}, pureL ts = true → ts[j]? = some t → pureT t = true
  | [], _, _, _, h => by simp at h
  | t :: ts, 0, _, p, h => by simp at h; subst h; simp only [pureL, Bool.and_eq_true] at p; exact p.1
  | t :: ts, j + 1, _, p, h => by simp only [pureL, Bool.and_eq_true] at p; exact pureL_get p.2 (by simpa using h)
theorem pureL_all {ts : List T} : pureL ts = true ↔ ∀ t ∈ ts, pureT t = true := by
  induction ts with
  | nil => simp [pureL]
  | cons t ts ih => simp [pureL, ih]
theorem TR.pure {K : PySem.W.Frag} {ρ ρ' : Nat → Addr} {N N' : Nat} {F : Hp} {v : V} {t : T} (h : TR K ρ N F v t) (p : pureT t = true) : TR K ρ' N' F v t := by
  induction h with
  | «at» h => exact .at h
  | ptr h => simp [pureT] at p
  | nd h l _ ih => exact .nd h l fun j v t a b => ih j v t a b (pureL_get (by simpa [pureT] using p) b)
theorem TRL.pure {K : PySem.W.Frag} {ρ ρ' : Nat → Addr} {N N' : Nat} {F : Hp} {vs : List V} {ts : List T} (h : TRL K ρ N F vs ts) (p : pureL ts = true) : TRL K ρ' N' F vs ts :=
  Paired.of_ix (Paired.length h) fun j v t a b => (Paired.ix h j v t a b).pure (pureL_get p b)
theorem TR.pure0 {K : PySem.W.Frag} {ρ : Nat → Addr} {F : Hp} {v : V} {t : T} (h : TR K ρ 0 F v t) : pureT t = true := by
  induction h with
  | «at» h => rfl
  | ptr h => exact absurd h (Nat.not_lt_zero _)
  | @nd a k vs ts h l _ ih =>
    show pureL ts = true
    refine pureL_all.mpr fun t ht => ?_
    obtain ⟨j, hj, e⟩ := List.mem_iff_getElem.mp ht
    exact ih j vs[j] t (List.getElem?_eq_getElem (by omega)) (by rw [List.getElem?_eq_getElem hj, e])

/-! ### the state -/
inductive Cell where | own (k : Kd) (ts : List T) | fro (k : Kd) (ts : List T)
structure S where
  sl : List (Option T)
  hp : List Cell
structure Rel (K : PySem.W.Frag) (s : S) (σ : L2.St) (F H : Hp) (ρ : Nat → Addr) : Prop where
  ex : ExR F H
  len : σ.length = s.sl.length
  sl : ∀ (i : Nat) (t : T), s.sl[i]? = some (some t) → ∃ v, σ[i]? = some (some v) ∧ TR K ρ s.hp.length F v t
  own : ∀ (n : Nat) (k : Kd) (ts : List T), s.hp[n]? = some (.own k ts) → ∃ o vs, H (ρ n) = some o ∧ kIs k vs o ∧ F (ρ n) = none ∧ TRL K ρ s.hp.length F vs ts
  fro : ∀ (n : Nat) (k : Kd) (ts : List T), s.hp[n]? = some (.fro k ts) → ∃ vs, nodeR K F (ρ n) k vs ∧ TRL K ρ s.hp.length F vs ts
  inj : ∀ (n m : Nat), n < s.hp.length → m < s.hp.length → ρ n = ρ m → n = m
  all : ∀ (n : Nat), n < s.hp.length → ∃ o, H (ρ n) = some o
structure Stp (s : S) (ρ : Nat → Addr) (F H : Hp) (s' : S) (ρ' : Nat → Addr) (F' H' : Hp) : Prop where
  fx : Ex F F'
  rho : ∀ n, n < s.hp.length → ρ' n = ρ n
  hl : s.hp.length ≤ s'.hp.length
  fr : ∀ a o, H a = some o → F a = none → (∀ n, n < s.hp.length → ρ n ≠ a) → H' a = some o ∧ F' a = none ∧ ∀ n, n < s'.hp.length → ρ' n ≠ a
  fz : ∀ a ob u, H a = some (.frz ob u) → H' a = some (.frz ob u)
  th : ∀ a o, H a = some o → ∃ o', H' a = some o'
theorem Stp.refl {s : S} {ρ : Nat → Addr} {F H : Hp} : Stp s ρ F H s ρ F H := ⟨Evl.Ex.refl F, fun _ _ => rfl, Nat.le_refl _, fun _ _ h1 h2 h3 => ⟨h1, h2, h3⟩, fun _ _ _ h => h, fun _ o h => ⟨o, h⟩⟩
theorem Stp.trans {s s1 s2 : S} {ρ ρ1 ρ2 : Nat → Addr} {F F1 F2 H H1 H2 : Hp} (a : Stp s ρ F H s1 ρ1 F1 H1) (b : Stp s1 ρ1 F1 H1 s2 ρ2 F2 H2) : Stp s ρ F H s2 ρ2 F2 H2 :=
  ⟨a.fx.trans b.fx, fun n h => (b.rho n (Nat.lt_of_lt_of_le h a.hl)).trans (a.rho n h), Nat.le_trans a.hl b.hl, fun c o h1 h2 h3 => by
    obtain ⟨q1, q2, q3⟩ := a.fr c o h1 h2 h3
    exact b.fr c o q1 q2 q3, fun c ob u h => b.fz c ob u (a.fz c ob u h), fun c o h => let ⟨o1, h1⟩ := a.th c o h; b.th c o1 h1⟩
section
variable {K : PySem.W.Frag} {s s' : S} {ρ ρ' : Nat → Addr} {F F' H H' : Hp} {v : V} {t : T} {vs : List V} {ts : List T}
theorem TR.stp (h : TR K ρ s.hp.length F v t) (p : Stp s ρ F H s' ρ' F' H') : TR K ρ' s'.hp.length F' v t := h.mono p.fx p.rho p.hl
theorem TRL.stp (h : TRL K ρ s.hp.length F vs ts) (p : Stp s ρ F H s' ρ' F' H') : TRL K ρ' s'.hp.length F' vs ts := TRL.mono h p.fx p.rho p.hl
end

/-! ### evaluation, as the readings say it -/
abbrev EvR (α : Type) := S → Option (α × S)
def Evt (K : PySem.W.Frag) (te : TE) (s : S) (t : T) (s' : S) : Prop := ∀ (σ : L2.St) (F H : Hp) (ρ : Nat → Addr) (Q : VK), Rel K s σ F H ρ →
  (∀ v F' H' ρ', Rel K s' σ F' H' ρ' → TR K ρ' s'.hp.length F' v t → Stp s ρ F H s' ρ' F' H' → Q v H') → te σ H Q
def EvtA (K : PySem.W.Frag) (ta : TA) (s : S) (ts : List T) (s' : S) : Prop := ∀ (σ : L2.St) (F H : Hp) (ρ : Nat → Addr) (Q : List V → Hp → Prop), Rel K s σ F H ρ →
  (∀ vs F' H' ρ', Rel K s' σ F' H' ρ' → TRL K ρ' s'.hp.length F' vs ts → Stp s ρ F H s' ρ' F' H' → Q vs H') → ta σ H Q
def EvtT (K : PySem.W.Frag) (tt : TT) (s : S) (b : Bool) (s' : S) : Prop := ∀ (σ : L2.St) (F H : Hp) (ρ : Nat → Addr) (Q : Bool → Hp → Prop), Rel K s σ F H ρ →
  (∀ F' H' ρ', Rel K s' σ F' H' ρ' → Stp s ρ F H s' ρ' F' H' → Q b H') → tt σ H Q
structure CE (K : PySem.W.Frag) where
  te : TE
  ev : EvR T
  ok : ∀ s t s', ev s = some (t, s') → Evt K te s t s'
structure CA (K : PySem.W.Frag) where
  ta : TA
  ev : EvR (List T)
  ok : ∀ s t s', ev s = some (t, s') → EvtA K ta s t s'
structure CT (K : PySem.W.Frag) where
  tt : TT
  ev : EvR Bool
  ok : ∀ s t s', ev s = some (t, s') → EvtT K tt s t s'
inductive Out where | nx (s : S) | bk (s : S) | ct (s : S) | rt (t : T) (s : S)
def Post (K : PySem.W.Frag) (D : Ends) (s : S) (ρ : Nat → Addr) (F H : Hp) : Out → Prop
  | .nx s' => ∀ σ' F' H' ρ', Rel K s' σ' F' H' ρ' → Stp s ρ F H s' ρ' F' H' → D.nx σ' H'
  | .bk s' => ∀ σ' F' H' ρ', Rel K s' σ' F' H' ρ' → Stp s ρ F H s' ρ' F' H' → D.bk σ' H'
  | .ct s' => ∀ σ' F' H' ρ', Rel K s' σ' F' H' ρ' → Stp s ρ F H s' ρ' F' H' → D.ct σ' H'
  | .rt t s' => ∀ v σ' F' H' ρ', Rel K s' σ' F' H' ρ' → TR K ρ' s'.hp.length F' v t → Stp s ρ F H s' ρ' F' H' → D.rt v H'
def Exe (K : PySem.W.Frag) (ts : TS) (s : S) (o : Out) : Prop := ∀ (σ : L2.St) (F H : Hp) (ρ : Nat → Addr) (D : Ends), Rel K s σ F H ρ → Post K D s ρ F H o → ts D σ H
structure CS (K : PySem.W.Frag) where
  ts : TS
  ex : S → Option Out
  ok : ∀ s o, ex s = some o → Exe K ts s o
/-- the step ahead told -/
theorem Post.pre {K : PySem.W.Frag} {D : Ends} {s s1 : S} {ρ ρ1 : Nat → Addr} {F F1 H H1 : Hp} {o : Out} (p : Stp s ρ F H s1 ρ1 F1 H1) (h : Post K D s ρ F H o) : Post K D s1 ρ1 F1 H1 o := by
  cases o with
  | nx s' => exact fun σ' F' H' ρ' r q => h σ' F' H' ρ' r (p.trans q)
  | bk s' => exact fun σ' F' H' ρ' r q => h σ' F' H' ρ' r (p.trans q)
  | ct s' => exact fun σ' F' H' ρ' r q => h σ' F' H' ρ' r (p.trans q)
  | rt t s' => exact fun v σ' F' H' ρ' r w q => h v σ' F' H' ρ' r w (p.trans q)
/-! ### changes of the state -/
section
variable {K : PySem.W.Frag} {s : S} {σ : L2.St} {F H : Hp} {ρ : Nat → Addr}
theorem nodeR.now {a : Addr} {k : Kd} {vs : List V} (e : ExR F H) (h : nodeR K F a k vs) : nodeH K H a k vs := by
  cases k with
  | tup => exact e.sqT h
  | lst =>
    rcases e _ _ h with q | ⟨q, _⟩
    · exact q
    · cases q
  | lsR => exact e.sqL h
  | dK ks =>
    refine ⟨h.1, ?_⟩
    rcases e _ _ h.2 with q | ⟨_, ob, q⟩
    · exact .inl q
    · exact .inr ⟨ob, q⟩
theorem kIs.now {a : Addr} {k : Kd} {vs : List V} {o : HO} (h : kIs k vs o) (e : H a = some o) : nodeH K H a k vs := by
  cases k with
  | tup => cases h; exact .inl (.inl e)
  | lst => cases h; exact e
  | lsR => exact False.elim h
  | dK ks => obtain ⟨h1, h2⟩ := h; cases h2; exact ⟨h1, .inl e⟩
theorem kIs.fixed {a : Addr} {k : Kd} {vs : List V} {o : HO} (h : kIs k vs o) (e : F a = some o) : nodeR K F a k vs := by
  cases k with
  | tup => cases h; exact .inl (.inl e)
  | lst => cases h; exact e
  | lsR => exact False.elim h
  | dK ks => obtain ⟨h1, h2⟩ := h; cases h2; exact ⟨h1, e⟩
theorem kIs.nofrz {k : Kd} {vs : List V} {o : HO} (h : kIs k vs o) : ∀ ob u, o ≠ .frz ob u := by
  cases k with
  | tup => cases h; intro _ _ z; cases z
  | lst => cases h; intro _ _ z; cases z
  | lsR => exact False.elim h
  | dK ks => obtain ⟨h1, h2⟩ := h; cases h2; intro _ _ z; cases z

/-- a new object, a cell of its own -/
def S.new (s : S) (k : Kd) (ts : List T) : S := { s with hp := s.hp ++ [.own k ts] }
theorem get_snoc {α : Type} {l : List α} {x : α} {n : Nat} {y : α} (h : (l ++ [x])[n]? = some y) : (n < l.length ∧ l[n]? = some y) ∨ (n = l.length ∧ x = y) := by
  rcases Nat.lt_trichotomy n l.length with q | q | q
  · rw [List.getElem?_append_left q] at h
    exact .inl ⟨q, h⟩
  · subst q
    rw [List.getElem?_append_right (Nat.le_refl _)] at h
    simp at h
    exact .inr ⟨rfl, h⟩
  · rw [List.getElem?_append_right (Nat.le_of_lt q)] at h
    obtain ⟨hh, _⟩ := List.getElem?_eq_some_iff.mp h
    simp at hh
    omega
theorem Rel.fresh (r : Rel K s σ F H ρ) {p : Addr} (hp : H p = none) : F p = none ∧ ∀ n, n < s.hp.length → ρ n ≠ p := by
  refine ⟨r.ex.none hp, fun n hn e => ?_⟩
  obtain ⟨o, q⟩ := r.all n hn
  rw [e, hp] at q
  cases q
theorem Rel.alloc (r : Rel K s σ F H ρ) {p : Addr} {k : Kd} {vs : List V} {ts : List T} {o : HO} (hp : H p = none) (ho : kIs k vs o) (c : TRL K ρ s.hp.length F vs ts) :
    ∃ ρ', Rel K (s.new k ts) σ F (upd H p o) ρ' ∧ TR K ρ' (s.new k ts).hp.length F (.ref p) (.ptr s.hp.length) ∧ Stp s ρ F H (s.new k ts) ρ' F (upd H p o) := by
  obtain ⟨hF, hρ⟩ := r.fresh hp
  have hne : ∀ a u, H a = some u → a ≠ p := fun a u e => ne_of_none e hp
  have hl : (s.new k ts).hp.length = s.hp.length + 1 := by simp [S.new]
  have st : Stp s ρ F H (s.new k ts) (fun n => if n = s.hp.length then p else ρ n) F (upd H p o) := by
    refine ⟨Evl.Ex.refl F, fun n hn => ?_, by omega, fun a u h1 h2 h3 => ⟨?_, h2, fun n hn => ?_⟩, fun a ob u h => ?_, fun a u h => ⟨u, by rw [upd_ne (hne a u h)]; exact h⟩⟩
    · show (if n = s.hp.length then p else ρ n) = ρ n
      rw [if_neg (by omega)]
    · rw [upd_ne (hne a u h1)]; exact h1
    · show (if n = s.hp.length then p else ρ n) ≠ a
      by_cases e : n = s.hp.length
      · rw [if_pos e]; exact (hne a u h1).symm
      · rw [if_neg e]; exact h3 n (by omega)
    · rw [upd_ne (hne a _ h)]; exact h
  refine ⟨_, ⟨fun a u e => ?_, r.len, fun i t e => ?_, fun n k' ts' e => ?_, fun n k' ts' e => ?_, fun n m hn hm e => ?_, fun n hn => ?_⟩, ?_, st⟩
  · have ha : a ≠ p := fun z => by rw [z, hF] at e; cases e
    rw [upd_ne ha]
    exact r.ex a u e
  · obtain ⟨v, q1, q2⟩ := r.sl i t e
    exact ⟨v, q1, q2.stp st⟩
  · rcases get_snoc e with ⟨q, e⟩ | ⟨q, e⟩
    · obtain ⟨u, ws, h1, h2, h3, h4⟩ := r.own n k' ts' e
      refine ⟨u, ws, ?_, h2, ?_, TRL.stp h4 st⟩
      · show upd H p o (if n = s.hp.length then p else ρ n) = some u
        rw [if_neg (by omega), upd_ne (hρ n q)]
        exact h1
      · show F (if n = s.hp.length then p else ρ n) = none
        rw [if_neg (by omega)]
        exact h3
    · cases e
      refine ⟨o, vs, ?_, ho, ?_, TRL.stp c st⟩
      · show upd H p o (if n = s.hp.length then p else ρ n) = some o
        rw [if_pos q, upd_same]
      · show F (if n = s.hp.length then p else ρ n) = none
        rw [if_pos q]
        exact hF
  · rcases get_snoc e with ⟨q, e⟩ | ⟨q, e⟩
    · obtain ⟨ws, h1, h2⟩ := r.fro n k' ts' e
      refine ⟨ws, ?_, TRL.stp h2 st⟩
      show nodeR K F (if n = s.hp.length then p else ρ n) k' ws
      rw [if_neg (by omega)]
      exact h1
    · cases e
  · have e' : (if n = s.hp.length then p else ρ n) = (if m = s.hp.length then p else ρ m) := e
    by_cases e1 : n = s.hp.length <;> by_cases e2 : m = s.hp.length
    · omega
    · rw [if_pos e1, if_neg e2] at e'
      exact absurd e'.symm (hρ m (by omega))
    · rw [if_neg e1, if_pos e2] at e'
      exact absurd e' (hρ n (by omega))
    · rw [if_neg e1, if_neg e2] at e'
      exact r.inj n m (by omega) (by omega) e'
  · show ∃ u, upd H p o (if n = s.hp.length then p else ρ n) = some u
    by_cases e1 : n = s.hp.length
    · rw [if_pos e1, upd_same]; exact ⟨_, rfl⟩
    · rw [if_neg e1, upd_ne (hρ n (by omega))]
      exact r.all n (by omega)
  · have := TR.ptr (K := K) (ρ := fun n => if n = s.hp.length then p else ρ n) (N := (s.new k ts).hp.length) (F := F) (n := s.hp.length) (by omega)
    simpa using this
/-- a new object that stays as it is -/
theorem Rel.allocF (r : Rel K s σ F H ρ) {p : Addr} {k : Kd} {vs : List V} {ts : List T} {o : HO} (hp : H p = none) (ho : kIs k vs o) (c : TRL K ρ s.hp.length F vs ts) :
    Rel K s σ (upd F p o) (upd H p o) ρ ∧ TR K ρ s.hp.length (upd F p o) (.ref p) (.nd k ts) ∧ Stp s ρ F H s ρ (upd F p o) (upd H p o) := by
  obtain ⟨hF, hρ⟩ := r.fresh hp
  have hne : ∀ a u, H a = some u → a ≠ p := fun a u e => ne_of_none e hp
  have ex : Ex F (upd F p o) := Evl.Ex.new hF
  have st : Stp s ρ F H s ρ (upd F p o) (upd H p o) := ⟨ex, fun _ _ => rfl, Nat.le_refl _, fun a u h1 h2 h3 => ⟨by rw [upd_ne (hne a u h1)]; exact h1, by rw [upd_ne (hne a u h1)]; exact h2, h3⟩, fun a ob u h => by rw [upd_ne (hne a _ h)]; exact h, fun a u h => ⟨u, by rw [upd_ne (hne a u h)]; exact h⟩⟩
  refine ⟨⟨fun a u e => ?_, r.len, fun i t e => ?_, fun n k' ts' e => ?_, fun n k' ts' e => ?_, r.inj, fun n hn => ?_⟩, TR.ndL (ho.fixed upd_same) (TRL.stp c st), st⟩
  · by_cases ha : a = p
    · subst ha; rw [upd_same] at e ⊢; exact .inl e
    · rw [upd_ne ha] at e ⊢; exact r.ex a u e
  · obtain ⟨v, q1, q2⟩ := r.sl i t e
    exact ⟨v, q1, q2.stp st⟩
  · obtain ⟨u, ws, h1, h2, h3, h4⟩ := r.own n k' ts' e
    have hn := hρ n (List.getElem?_eq_some_iff.mp e).1
    exact ⟨u, ws, by rw [upd_ne hn]; exact h1, h2, by rw [upd_ne hn]; exact h3, TRL.stp h4 st⟩
  · obtain ⟨ws, h1, h2⟩ := r.fro n k' ts' e
    exact ⟨ws, h1.ex ex, TRL.stp h2 st⟩
  · rw [upd_ne (hρ n hn)]; exact r.all n hn
/-- a new object, a cell or not -/
def allocT (own : Bool) (s : S) (k : Kd) (ts : List T) : T × S := if own = true then (.ptr s.hp.length, s.new k ts) else (.nd k ts, s)
theorem Rel.make (r : Rel K s σ F H ρ) (own : Bool) {t : T} {s' : S} {p : Addr} {k : Kd} {vs : List V} {ts : List T} {o : HO} {R : Prop} (e : allocT own s k ts = (t, s')) (hp : H p = none) (ho : kIs k vs o) (c : TRL K ρ s.hp.length F vs ts)
    (q : ∀ F' ρ', Rel K s' σ F' (upd H p o) ρ' → TR K ρ' s'.hp.length F' (.ref p) t → Stp s ρ F H s' ρ' F' (upd H p o) → R) : R := by
  unfold allocT at e
  cases own with
  | true =>
    rw [if_pos rfl] at e
    cases e
    obtain ⟨ρ', r', w, p'⟩ := r.alloc hp ho c
    exact q _ _ r' w p'
  | false =>
    rw [if_neg Bool.false_ne_true] at e
    cases e
    obtain ⟨r', w, p'⟩ := r.allocF hp ho c
    exact q _ _ r' w p'
/-- a cell fixed from here on -/
def S.fix (s : S) (n : Nat) (k : Kd) (ts : List T) : S := { s with hp := s.hp.set n (.fro k ts) }
theorem Rel.fix (r : Rel K s σ F H ρ) {n : Nat} {k : Kd} {ts : List T} (h : s.hp[n]? = some (.own k ts)) :
    ∃ F', Rel K (s.fix n k ts) σ F' H ρ ∧ Stp s ρ F H (s.fix n k ts) ρ F' H ∧ TR K ρ s.hp.length F' (.ref (ρ n)) (.nd k ts) := by
  obtain ⟨o, vs, h1, h2, h3, h4⟩ := r.own n k ts h
  have hn := (List.getElem?_eq_some_iff.mp h).1
  have hl : (s.fix n k ts).hp.length = s.hp.length := by simp [S.fix]
  have ex : Ex F (upd F (ρ n) o) := Evl.Ex.new h3
  have st : Stp s ρ F H (s.fix n k ts) ρ (upd F (ρ n) o) H := ⟨ex, fun _ _ => rfl, by omega, fun a u q1 q2 q3 => ⟨q1, by rw [upd_ne (q3 n hn).symm]; exact q2, fun m hm => q3 m (by omega)⟩, fun _ _ _ q => q, fun _ o h => ⟨o, h⟩⟩
  refine ⟨upd F (ρ n) o, ⟨fun a u e => ?_, r.len, fun i t e => ?_, fun m k' ts' e => ?_, fun m k' ts' e => ?_, fun a b ha hb => r.inj a b (by omega) (by omega), fun m hm => r.all m (by omega)⟩, st, ?_⟩
  · by_cases ha : a = ρ n
    · subst ha; rw [upd_same] at e; cases e; exact .inl h1
    · rw [upd_ne ha] at e; exact r.ex a u e
  · obtain ⟨v, q1, q2⟩ := r.sl i t e
    exact ⟨v, q1, q2.stp st⟩
  · have hm : m ≠ n := fun z => by
      subst z
      have e2 : (s.hp.set m (.fro k ts))[m]? = some (.own k' ts') := e
      rw [List.getElem?_set_self hn] at e2
      cases e2
    have e2 : (s.hp.set n (.fro k ts))[m]? = some (.own k' ts') := e
    rw [List.getElem?_set_ne hm.symm] at e2
    obtain ⟨u, ws, q1, q2, q3, q4⟩ := r.own m k' ts' e2
    refine ⟨u, ws, q1, q2, ?_, TRL.stp q4 st⟩
    rw [upd_ne (fun z => hm (r.inj m n (List.getElem?_eq_some_iff.mp e2).1 hn z))]
    exact q3
  · have e2 : (s.hp.set n (.fro k ts))[m]? = some (.fro k' ts') := e
    by_cases hm : m = n
    · subst hm
      rw [List.getElem?_set_self hn] at e2
      cases e2
      exact ⟨vs, h2.fixed upd_same, TRL.stp h4 st⟩
    · rw [List.getElem?_set_ne (Ne.symm hm)] at e2
      obtain ⟨ws, q1, q2⟩ := r.fro m k' ts' e2
      exact ⟨ws, q1.ex ex, TRL.stp q2 st⟩
  · exact TR.ndL (h2.fixed upd_same) (h4.mono ex (fun _ _ => rfl) (Nat.le_refl _))
/-- a cell written -/
def S.put (s : S) (n : Nat) (k : Kd) (ts : List T) : S := { s with hp := s.hp.set n (.own k ts) }
theorem Rel.put (r : Rel K s σ F H ρ) {n : Nat} {k k' : Kd} {ts ts' : List T} {vs' : List V} {o' : HO} (h : s.hp[n]? = some (.own k ts)) (ho : kIs k' vs' o') (c : TRL K ρ s.hp.length F vs' ts') :
    Rel K (s.put n k' ts') σ F (upd H (ρ n) o') ρ ∧ Stp s ρ F H (s.put n k' ts') ρ F (upd H (ρ n) o') := by
  obtain ⟨o, vs, h1, h2, h3, h4⟩ := r.own n k ts h
  have hn := (List.getElem?_eq_some_iff.mp h).1
  have hl : (s.put n k' ts').hp.length = s.hp.length := by simp [S.put]
  have st : Stp s ρ F H (s.put n k' ts') ρ F (upd H (ρ n) o') := ⟨Evl.Ex.refl F, fun _ _ => rfl, by omega, fun a u q1 q2 q3 => ⟨by rw [upd_ne (q3 n hn).symm]; exact q1, q2, fun m hm => q3 m (by omega)⟩, fun a ob u q => by
    rw [upd_ne (fun z => by rw [z, h1] at q; exact h2.nofrz ob u (Option.some.inj q))]
    exact q, fun a u h => by
    by_cases z : a = ρ n
    · rw [z, upd_same]; exact ⟨_, rfl⟩
    · rw [upd_ne z]; exact ⟨u, h⟩⟩
  refine ⟨⟨fun a u e => ?_, r.len, fun i t e => ?_, fun m k1 ts1 e => ?_, fun m k1 ts1 e => ?_, fun a b ha hb => r.inj a b (by omega) (by omega), fun m hm => ?_⟩, st⟩
  · have ha : a ≠ ρ n := fun z => by rw [z, h3] at e; cases e
    rw [upd_ne ha]
    exact r.ex a u e
  · obtain ⟨v, q1, q2⟩ := r.sl i t e
    exact ⟨v, q1, q2.stp st⟩
  · have e2 : (s.hp.set n (.own k' ts'))[m]? = some (.own k1 ts1) := e
    by_cases hm : m = n
    · subst hm
      rw [List.getElem?_set_self hn] at e2
      cases e2
      exact ⟨o', vs', upd_same, ho, h3, TRL.stp c st⟩
    · rw [List.getElem?_set_ne (Ne.symm hm)] at e2
      obtain ⟨u, ws, q1, q2, q3, q4⟩ := r.own m k1 ts1 e2
      refine ⟨u, ws, ?_, q2, q3, TRL.stp q4 st⟩
      rw [upd_ne (fun z => hm (r.inj m n (List.getElem?_eq_some_iff.mp e2).1 hn z))]
      exact q1
  · have e2 : (s.hp.set n (.own k' ts'))[m]? = some (.fro k1 ts1) := e
    by_cases hm : m = n
    · subst hm
      rw [List.getElem?_set_self hn] at e2
      cases e2
    · rw [List.getElem?_set_ne (Ne.symm hm)] at e2
      obtain ⟨ws, q1, q2⟩ := r.fro m k1 ts1 e2
      exact ⟨ws, q1, TRL.stp q2 st⟩
  · by_cases z : ρ m = ρ n
    · rw [z, upd_same]; exact ⟨_, rfl⟩
    · rw [upd_ne z]; exact r.all m (by omega)
/-- a slot stored -/
def S.set (s : S) (i : Nat) (t : T) : S := { s with sl := s.sl.set i (some t) }
theorem Rel.set (r : Rel K s σ F H ρ) {i : Nat} {t : T} {v : V} (h : TR K ρ s.hp.length F v t) : Rel K (s.set i t) (σ.set i (some v)) F H ρ := by
  refine ⟨r.ex, by simp [S.set, r.len], fun j u e => ?_, r.own, r.fro, r.inj, r.all⟩
  have e2 : (s.sl.set i (some t))[j]? = some (some u) := e
  by_cases hj : j = i
  · subst hj
    have hl : j < s.sl.length := by
      have := (List.getElem?_eq_some_iff.mp e2).1
      simpa using this
    rw [List.getElem?_set_self hl] at e2
    cases e2
    exact ⟨v, by rw [List.getElem?_set_self (by rw [r.len]; exact hl)], h⟩
  · rw [List.getElem?_set_ne (Ne.symm hj)] at e2
    obtain ⟨w, q1, q2⟩ := r.sl j u e2
    exact ⟨w, by rw [List.getElem?_set_ne (Ne.symm hj)]; exact q1, q2⟩
theorem Stp.set {s : S} {ρ : Nat → Addr} {F H : Hp} {i : Nat} {t : T} : Stp s ρ F H (s.set i t) ρ F H := ⟨Evl.Ex.refl F, fun _ _ => rfl, Nat.le_refl _, fun _ _ h1 h2 h3 => ⟨h1, h2, h3⟩, fun _ _ _ h => h, fun _ o h => ⟨o, h⟩⟩
/-- what a value shows -/
def view : T → S → Option (Kd × List T)
  | .at _, _ => none
  | .nd k ts, _ => some (k, ts)
  | .ptr n, s => match s.hp[n]? with
    | some (.own k ts) => some (k, ts)
    | some (.fro k ts) => some (k, ts)
    | none => none
theorem Rel.view (r : Rel K s σ F H ρ) {t : T} {v : V} {k : Kd} {ts : List T} (h : TR K ρ s.hp.length F v t) (e : view t s = some (k, ts)) :
    ∃ a vs, v = .ref a ∧ nodeH K H a k vs ∧ TRL K ρ s.hp.length F vs ts := by
  cases t with
  | «at» u => cases e
  | nd k' ts' =>
    cases e
    obtain ⟨a, vs, h1, h2, h3⟩ := h.nd_inv
    exact ⟨a, vs, h1, h2.now r.ex, h3⟩
  | ptr n =>
    obtain ⟨h1, h2⟩ := h.ptr_inv
    simp only [Z.view] at e
    split at e
    · next k' ts' q =>
      cases e
      obtain ⟨o, vs, q1, q2, q3, q4⟩ := r.own n _ _ q
      exact ⟨_, vs, h1, q2.now q1, q4⟩
    · next k' ts' q =>
      cases e
      obtain ⟨vs, q1, q2⟩ := r.fro n _ _ q
      exact ⟨_, vs, h1, q1.now r.ex, q2⟩
    · cases e
/-- a fixed cell read as a node -/
def res : T → S → T
  | .ptr n, s => match s.hp[n]? with
    | some (.fro k ts) => .nd k ts
    | _ => .ptr n
  | t, _ => t
theorem Rel.res (r : Rel K s σ F H ρ) {t : T} {v : V} (h : TR K ρ s.hp.length F v t) : TR K ρ s.hp.length F v (res t s) := by
  cases t with
  | «at» u => exact h
  | nd k' ts' => exact h
  | ptr n =>
    simp only [Z.res]
    split
    · next k ts q =>
      obtain ⟨h1, h2⟩ := h.ptr_inv
      obtain ⟨vs, q1, q2⟩ := r.fro n _ _ q
      subst h1
      exact TR.ndL q1 q2
    · exact h
end
end Z
set_option Elab.async false
set_option linter.all false
set_option maxRecDepth 100000
/-! Z: expressions. -/
namespace Z
open PySem PySem.Spec PyProof.Rows L2

def lim : Nat := 100000
theorem lim_line {n : Nat} (h : n ≤ lim) : n ≤ sizeLine := Nat.le_trans h (by decide)
theorem lim_lt {n : Nat} (h : n < lim) : n < sizeLine := Nat.lt_of_lt_of_le h (by decide)

theorem pe_alt {X : Cx} {e : Expr} {t1 t2 : TE} (h1 : PE X e t1) (h2 : PE X e t2) : PE X e (fun σ H Q => t1 σ H Q ∨ t2 σ H Q) :=
  ⟨fun pins s σ H Q I h => h.elim (h1.run pins s σ H Q I) (h2.run pins s σ H Q I)⟩
theorem ps_alt {X : Cx} {e : Stmt} {t1 t2 : TS} (h1 : PS X e t1) (h2 : PS X e t2) : PS X e (fun D σ H => t1 D σ H ∨ t2 D σ H) :=
  ⟨fun pins s σ H Q I h => h.elim (h1.run pins s σ H Q I) (h2.run pins s σ H Q I)⟩
theorem pi_alt {X : Cx} {tg e : Expr} {t1 t2 : TI} (h1 : PI X tg e t1) (h2 : PI X tg e t2) : PI X tg e (fun σ H R => t1 σ H R ∨ t2 σ H R) :=
  ⟨fun pins s σ H R I h => h.elim (h1.run pins s σ H R I) (h2.run pins s σ H R I)⟩

/-! ### operations on values -/
def Op2Ok (K : PySem.W.Frag) (r : R2) (t1 t2 : T) (s : S) (t : T) (s' : S) : Prop := ∀ (σ : L2.St) (F H : Hp) (ρ : Nat → Addr) (x y : V) (Q : VK), Rel K s σ F H ρ → TR K ρ s.hp.length F x t1 → TR K ρ s.hp.length F y t2 →
  (∀ v F' H' ρ', Rel K s' σ F' H' ρ' → TR K ρ' s'.hp.length F' v t → Stp s ρ F H s' ρ' F' H' → Q v H') → r x y H Q
structure O2 (K : PySem.W.Frag) where
  r : R2
  f : T → T → S → Option (T × S)
  ok : ∀ t1 t2 s t s', f t1 t2 s = some (t, s') → Op2Ok K r t1 t2 s t s'
def Op1Ok (K : PySem.W.Frag) (r : V → Hp → VK → Prop) (t1 : T) (s : S) (t : T) (s' : S) : Prop := ∀ (σ : L2.St) (F H : Hp) (ρ : Nat → Addr) (x : V) (Q : VK), Rel K s σ F H ρ → TR K ρ s.hp.length F x t1 →
  (∀ v F' H' ρ', Rel K s' σ F' H' ρ' → TR K ρ' s'.hp.length F' v t → Stp s ρ F H s' ρ' F' H' → Q v H') → r x H Q
structure O1 (K : PySem.W.Frag) where
  r : V → Hp → VK → Prop
  f : T → S → Option (T × S)
  ok : ∀ t1 s t s', f t1 s = some (t, s') → Op1Ok K r t1 s t s'
def OpNOk (K : PySem.W.Frag) (r : List V → Hp → VK → Prop) (ts : List T) (s : S) (t : T) (s' : S) : Prop := ∀ (σ : L2.St) (F H : Hp) (ρ : Nat → Addr) (xs : List V) (Q : VK), Rel K s σ F H ρ → TRL K ρ s.hp.length F xs ts →
  (∀ v F' H' ρ', Rel K s' σ F' H' ρ' → TR K ρ' s'.hp.length F' v t → Stp s ρ F H s' ρ' F' H' → Q v H') → r xs H Q
structure ON (K : PySem.W.Frag) where
  r : List V → Hp → VK → Prop
  f : List T → S → Option (T × S)
  ok : ∀ ts s t s', f ts s = some (t, s') → OpNOk K r ts s t s'

section
variable {K : PySem.W.Frag}
/-! ### combinators -/
def CE.var (i : Nat) : CE K where
  te := tVar i
  ev s := match s.sl[i]? with
    | some (some t) => some (res t s, s)
    | _ => none
  ok := by
    intro s t s' h
    split at h
    · next u e =>
      cases h
      intro σ F H ρ Q r q
      obtain ⟨v, h1, h2⟩ := r.sl i u e
      exact ⟨v, h1, q v F H ρ r (r.res h2) Stp.refl⟩
    · cases h
def CE.con (v : V) (h : imm v = true) : CE K where
  te := tC v
  ev s := some (.at v, s)
  ok := by
    intro s t s' e
    cases e
    intro σ F H ρ Q r q
    exact q v F H ρ r (.at h) Stp.refl
def CE.int (i : Int) : CE K := CE.con (.int i) (by rfl)
def CE.str (x : Str) : CE K := CE.con (.str x) (by rfl)
def CE.bl (b : Bool) : CE K := CE.con (.bl b) (by rfl)
def CE.non : CE K := CE.con .non (by rfl)
/-- a module's name, whose value is told -/
def tG (P : V → Prop) : TE := fun _ H Q => ∃ v, P v ∧ Q v H
def CE.glob (P : V → Prop) (t : T) (h : ∀ v, P v → ∀ ρ N F, TR K ρ N F v t) (hx : ∃ v, P v) : CE K where
  te := tG P
  ev s := some (t, s)
  ok := by
    intro s u s' e
    cases e
    intro σ F H ρ Q r q
    obtain ⟨v, hv⟩ := hx
    exact ⟨v, hv, q v F H ρ r (h v hv _ _ _) Stp.refl⟩
theorem pe_tG {X : Cx} {x : Str} {P : V → Prop} {pos : Pos} (hg : Gl X x) (h : ∀ v, P v → ∃ u, X.mg x = some u ∧ RelV v u) (hd : (x == ("__debug__" : Str)) = false := by decide) : PE X (.Name x pos) (tG P) :=
  ⟨fun pins s σ H Q I ⟨v, hv, q⟩ => let ⟨u, hm, r⟩ := h v hv; (pe_glob hg hm r hd).run pins s σ H Q I q⟩
def CE.op2 (o : O2 K) (a b : CE K) : CE K where
  te := tOp o.r a.te b.te
  ev s := (a.ev s).bind fun p => (b.ev p.2).bind fun q => o.f p.1 q.1 q.2
  ok := by
    intro s t s' h
    obtain ⟨⟨t1, s1⟩, h1, h⟩ := Option.bind_eq_some_iff.mp h
    obtain ⟨⟨t2, s2⟩, h2, h3⟩ := Option.bind_eq_some_iff.mp h
    intro σ F H ρ Q r q
    refine a.ok _ _ _ h1 σ F H ρ _ r fun v1 F1 H1 ρ1 r1 w1 p1 => ?_
    refine b.ok _ _ _ h2 σ F1 H1 ρ1 _ r1 fun v2 F2 H2 ρ2 r2 w2 p2 => ?_
    exact o.ok _ _ _ _ _ h3 σ F2 H2 ρ2 v1 v2 Q r2 (w1.stp p2) w2 fun v F' H' ρ' r' w p => q v F' H' ρ' r' w ((p1.trans p2).trans p)
def CE.op1 (o : O1 K) (a : CE K) : CE K where
  te := tUn o.r a.te
  ev s := (a.ev s).bind fun p => o.f p.1 p.2
  ok := by
    intro s t s' h
    obtain ⟨⟨t1, s1⟩, h1, h3⟩ := Option.bind_eq_some_iff.mp h
    intro σ F H ρ Q r q
    refine a.ok _ _ _ h1 σ F H ρ _ r fun v1 F1 H1 ρ1 r1 w1 p1 => ?_
    exact o.ok _ _ _ _ h3 σ F1 H1 ρ1 v1 Q r1 w1 fun v F' H' ρ' r' w p => q v F' H' ρ' r' w (p1.trans p)
/-- one of two ways to read the same expression, as the evaluation chooses -/
def CE.alt (a b : CE K) : CE K where
  te := fun σ H Q => a.te σ H Q ∨ b.te σ H Q
  ev s := match a.ev s with
    | some p => some p
    | none => b.ev s
  ok := by
    intro s t s' h
    split at h
    · next p e =>
      cases h
      exact fun σ F H ρ Q r q => .inl (a.ok _ _ _ e σ F H ρ Q r q)
    · exact fun σ F H ρ Q r q => .inr (b.ok _ _ _ h σ F H ρ Q r q)
def CA.nil : CA K where
  ta := tNil
  ev s := some ([], s)
  ok := by
    intro s t s' e
    cases e
    exact fun σ F H ρ Q r q => q [] F H ρ r .nil Stp.refl
def CA.cons (a : CE K) (b : CA K) : CA K where
  ta := tCons a.te b.ta
  ev s := (a.ev s).bind fun p => (b.ev p.2).bind fun q => some (p.1 :: q.1, q.2)
  ok := by
    intro s t s' h
    obtain ⟨⟨t1, s1⟩, h1, h⟩ := Option.bind_eq_some_iff.mp h
    obtain ⟨⟨t2, s2⟩, h2, h3⟩ := Option.bind_eq_some_iff.mp h
    cases h3
    intro σ F H ρ Q r q
    refine a.ok _ _ _ h1 σ F H ρ _ r fun v1 F1 H1 ρ1 r1 w1 p1 => ?_
    refine b.ok _ _ _ h2 σ F1 H1 ρ1 _ r1 fun v2 F2 H2 ρ2 r2 w2 p2 => ?_
    exact q _ F2 H2 ρ2 r2 (.cons (w1.stp p2) w2) (p1.trans p2)
/-- a call, by values -/
def CE.call (o : ON K) (a : CA K) : CE K where
  te := tCB o.r a.ta
  ev s := (a.ev s).bind fun p => o.f p.1 p.2
  ok := by
    intro s t s' h
    obtain ⟨⟨t1, s1⟩, h1, h3⟩ := Option.bind_eq_some_iff.mp h
    intro σ F H ρ Q r q
    refine a.ok _ _ _ h1 σ F H ρ _ r fun v1 F1 H1 ρ1 r1 w1 p1 => ?_
    exact o.ok _ _ _ _ h3 σ F1 H1 ρ1 v1 Q r1 w1 fun v F' H' ρ' r' w p => q v F' H' ρ' r' w (p1.trans p)
/-- (a, b, ..): it stays as it is -/
def CE.tup (a : CA K) : CE K where
  te := tTup a.ta
  ev s := (a.ev s).bind fun p => if p.1.length ≤ lim then some (.nd .tup p.1, p.2) else none
  ok := by
    intro s t s' h
    obtain ⟨⟨t1, s1⟩, h1, h3⟩ := Option.bind_eq_some_iff.mp h
    split at h3
    · next hl =>
      cases h3
      intro σ F H ρ Q r q
      refine a.ok _ _ _ h1 σ F H ρ _ r fun v1 F1 H1 ρ1 r1 w1 p1 => ⟨lim_line (by rw [Paired.length w1]; exact hl), fun p hp => ?_⟩
      obtain ⟨r2, w2, p2⟩ := r1.allocF (k := .tup) hp rfl w1
      exact q _ _ _ _ r2 w2 (p1.trans p2)
    · cases h3
/-- [a, b, ..]: a cell -/
def CE.lst (own : Bool) (a : CA K) : CE K where
  te := tLst a.ta
  ev s := (a.ev s).bind fun p => if p.1.length ≤ lim then some (allocT own p.2 .lst p.1) else none
  ok := by
    intro s t s' h
    obtain ⟨⟨t1, s1⟩, h1, h3⟩ := Option.bind_eq_some_iff.mp h
    split at h3
    · next hl =>
      have e := Option.some.inj h3
      intro σ F H ρ Q r q
      refine a.ok _ _ _ h1 σ F H ρ _ r fun v1 F1 H1 ρ1 r1 w1 p1 => ⟨lim_line (by rw [Paired.length w1]; exact hl), fun p hp => ?_⟩
      exact r1.make own e (k := .lst) hp rfl w1 fun F2 ρ2 r2 w2 p2 => q _ _ _ _ r2 w2 (p1.trans p2)
    · cases h3
/-- {} -/
def CE.dnew : CE K where
  te := tDNewK
  ev s := some (.ptr s.hp.length, s.new (.dK []) [])
  ok := by
    intro s t s' h
    cases h
    intro σ F H ρ Q r q p hp
    obtain ⟨ρ2, r2, w2, p2⟩ := r.alloc (k := .dK []) (vs := []) (o := .dK []) hp ⟨rfl, rfl⟩ .nil
    exact q _ _ _ _ r2 w2 p2

/-! ### tests -/
/-- a comparison (or any bool) as a test: its value is a bool -/
def CT.ofE (a : CE K) : CT K where
  tt := tB a.te
  ev s := match a.ev s with
    | some (.at (.bl b), s') => some (b, s')
    | _ => none
  ok := by
    intro s t s' h
    split at h
    · next b s1 e =>
      cases h
      intro σ F H ρ Q r q
      refine a.ok _ _ _ e σ F H ρ _ r fun v1 F1 H1 ρ1 r1 w1 p1 => ?_
      obtain ⟨e1, _⟩ := w1.at_inv
      exact ⟨_, e1, q _ _ _ r1 p1⟩
    · cases h
/-- a value's truth -/
def truT : T → S → Option Bool
  | .at .non, _ => some false
  | .at (.bl b), _ => some b
  | .at (.int i), _ => some (i != 0)
  | .at (.str y), _ => if y.length ≤ lim then some ((y.length : Int) != 0) else none
  | t, s => match view t s with
    | some (.lst, ts) => some (!ts.isEmpty)
    | some (.tup, ts) => some (!ts.isEmpty)
    | _ => none
theorem Paired.isEmpty {α β : Type} {R : α → β → Prop} {xs : List α} {ys : List β} (p : Paired R xs ys) : xs.isEmpty = ys.isEmpty := by
  cases p <;> rfl
theorem Rel.tru {s : S} {σ : L2.St} {F H : Hp} {ρ : Nat → Addr} (r : Rel K s σ F H ρ) {t : T} {v : V} {b : Bool} (h : TR K ρ s.hp.length F v t) (e : truT t s = some b) : TruV K v H b := by
  have gen : (∀ u, t ≠ .at u) → (match Z.view t s with | some (.lst, ts) => some (!ts.isEmpty) | some (.tup, ts) => some (!ts.isEmpty) | _ => none) = some b → TruV K v H b := fun _ e => by
    split at e
    · next ts q =>
      cases e
      obtain ⟨a, vs, h1, h2, h3⟩ := r.view h q
      subst h1
      exact .inl ⟨vs, .inl (.inl h2), by rw [Paired.isEmpty h3]⟩
    · next ts q =>
      cases e
      obtain ⟨a, vs, h1, h2, h3⟩ := r.view h q
      subst h1
      exact .inr (.inl ⟨vs, h2, by rw [Paired.isEmpty h3]⟩)
    · cases e
  cases t with
  | «at» u =>
    obtain ⟨h1, h2⟩ := h.at_inv
    subst h1
    cases v with
    | non => cases e; rfl
    | bl b => cases e; rfl
    | int i => cases e; rfl
    | str y =>
      simp only [truT] at e
      split at e
      · next hl => cases e; exact ⟨lim_line hl, rfl⟩
      · cases e
    | byt y => exact absurd e (by simp [truT, Z.view])
    | flt y => exact absurd e (by simp [truT, Z.view])
    | ref y => cases h2
    | ty y => exact absurd e (by simp [truT, Z.view])
  | ptr n => exact gen (fun _ z => nomatch z) e
  | nd k ts => exact gen (fun _ z => nomatch z) e
def CT.tru (a : CE K) : CT K where
  tt := fun σ H Q => a.te σ H fun x H' => ∃ k, TruV K x H' k ∧ Q k H'
  ev s := (a.ev s).bind fun p => (truT p.1 p.2).map fun b => (b, p.2)
  ok := by
    intro s t s' h
    obtain ⟨⟨t1, s1⟩, h1, h3⟩ := Option.bind_eq_some_iff.mp h
    obtain ⟨b, h2, h3⟩ := Option.map_eq_some_iff.mp h3
    cases h3
    intro σ F H ρ Q r q
    exact a.ok _ _ _ h1 σ F H ρ _ r fun v1 F1 H1 ρ1 r1 w1 p1 => ⟨_, r1.tru w1 h2, q _ _ _ r1 p1⟩
def CT.and (a b : CT K) : CT K where
  tt := tAnd a.tt b.tt
  ev s := (a.ev s).bind fun p => if p.1 = true then b.ev p.2 else some (false, p.2)
  ok := by
    intro s t s' h
    obtain ⟨⟨b1, s1⟩, h1, h3⟩ := Option.bind_eq_some_iff.mp h
    intro σ F H ρ Q r q
    refine a.ok _ _ _ h1 σ F H ρ _ r fun F1 H1 ρ1 r1 p1 => ?_
    cases b1 with
    | true => exact b.ok _ _ _ h3 σ F1 H1 ρ1 Q r1 fun F2 H2 ρ2 r2 p2 => q _ _ _ r2 (p1.trans p2)
    | false => cases h3; exact q _ _ _ r1 p1
def CT.or (a b : CT K) : CT K where
  tt := tOr a.tt b.tt
  ev s := (a.ev s).bind fun p => if p.1 = true then some (true, p.2) else b.ev p.2
  ok := by
    intro s t s' h
    obtain ⟨⟨b1, s1⟩, h1, h3⟩ := Option.bind_eq_some_iff.mp h
    intro σ F H ρ Q r q
    refine a.ok _ _ _ h1 σ F H ρ _ r fun F1 H1 ρ1 r1 p1 => ?_
    cases b1 with
    | false => exact b.ok _ _ _ h3 σ F1 H1 ρ1 Q r1 fun F2 H2 ρ2 r2 p2 => q _ _ _ r2 (p1.trans p2)
    | true => cases h3; exact q _ _ _ r1 p1
def CT.not (a : CT K) : CT K where
  tt := tNot a.tt
  ev s := (a.ev s).bind fun p => some (!p.1, p.2)
  ok := by
    intro s t s' h
    obtain ⟨⟨b1, s1⟩, h1, h3⟩ := Option.bind_eq_some_iff.mp h
    cases h3
    intro σ F H ρ Q r q
    exact a.ok _ _ _ h1 σ F H ρ _ r fun F1 H1 ρ1 r1 p1 => q _ _ _ r1 p1
def CE.ifx (c : CT K) (a b : CE K) : CE K where
  te := tIf c.tt a.te b.te
  ev s := (c.ev s).bind fun p => if p.1 = true then a.ev p.2 else b.ev p.2
  ok := by
    intro s t s' h
    obtain ⟨⟨b1, s1⟩, h1, h3⟩ := Option.bind_eq_some_iff.mp h
    intro σ F H ρ Q r q
    refine c.ok _ _ _ h1 σ F H ρ _ r fun F1 H1 ρ1 r1 p1 => ?_
    cases b1 with
    | true => exact a.ok _ _ _ h3 σ F1 H1 ρ1 Q r1 fun v F2 H2 ρ2 r2 w2 p2 => q _ _ _ _ r2 w2 (p1.trans p2)
    | false => exact b.ok _ _ _ h3 σ F1 H1 ρ1 Q r1 fun v F2 H2 ρ2 r2 w2 p2 => q _ _ _ _ r2 w2 (p1.trans p2)
/-- not, and, or of bools as values -/
def CE.notV (a : CE K) : CE K where
  te := tNotV a.te
  ev s := match a.ev s with
    | some (.at (.bl b), s') => some (.at (.bl (!b)), s')
    | _ => none
  ok := by
    intro s t s' h
    split at h
    · next b s1 e =>
      cases h
      intro σ F H ρ Q r q
      refine a.ok _ _ _ e σ F H ρ _ r fun v1 F1 H1 ρ1 r1 w1 p1 => ?_
      obtain ⟨e1, _⟩ := w1.at_inv
      exact ⟨_, e1, q _ _ _ _ r1 (.at rfl) p1⟩
    · cases h
def CE.andV (a b : CE K) : CE K where
  te := tAndV a.te b.te
  ev s := match a.ev s with
    | some (.at (.bl c), s') => if c = true then b.ev s' else some (.at (.bl false), s')
    | _ => none
  ok := by
    intro s t s' h
    split at h
    · next c s1 e =>
      intro σ F H ρ Q r q
      refine a.ok _ _ _ e σ F H ρ _ r fun v1 F1 H1 ρ1 r1 w1 p1 => ?_
      obtain ⟨e1, _⟩ := w1.at_inv
      refine ⟨_, e1, ?_⟩
      cases c with
      | true => exact b.ok _ _ _ h σ F1 H1 ρ1 Q r1 fun v F2 H2 ρ2 r2 w2 p2 => q _ _ _ _ r2 w2 (p1.trans p2)
      | false => cases h; exact q _ _ _ _ r1 (.at rfl) p1
    · cases h
def CE.orV (a b : CE K) : CE K where
  te := tOrV a.te b.te
  ev s := match a.ev s with
    | some (.at (.bl c), s') => if c = true then some (.at (.bl true), s') else b.ev s'
    | _ => none
  ok := by
    intro s t s' h
    split at h
    · next c s1 e =>
      intro σ F H ρ Q r q
      refine a.ok _ _ _ e σ F H ρ _ r fun v1 F1 H1 ρ1 r1 w1 p1 => ?_
      obtain ⟨e1, _⟩ := w1.at_inv
      refine ⟨_, e1, ?_⟩
      cases c with
      | false => exact b.ok _ _ _ h σ F1 H1 ρ1 Q r1 fun v F2 H2 ρ2 r2 w2 p2 => q _ _ _ _ r2 w2 (p1.trans p2)
      | true => cases h; exact q _ _ _ _ r1 (.at rfl) p1
    · cases h
end
end Z
set_option Elab.async false
set_option linter.all false
set_option maxRecDepth 100000
/-! Z: operations. -/
namespace Z
open PySem PySem.Spec PyProof.Rows L2
section
variable {K : PySem.W.Frag}
/-! ### ints -/
def int2 (g : Int → Int → Option V) : T → T → S → Option (T × S)
  | .at (.int i), .at (.int j), s => (g i j).map fun v => (.at v, s)
  | _, _, _ => none
theorem int2_ok {r : R2} {g : Int → Int → Option V} (h : ∀ i j v H (Q : VK), g i j = some v → Q v H → r (.int i) (.int j) H Q) (hi : ∀ i j v, g i j = some v → imm v = true) :
    ∀ t1 t2 s t s', int2 g t1 t2 s = some (t, s') → Op2Ok K r t1 t2 s t s' := by
  intro t1 t2 s t s' e
  have h0 : ∃ i j, t1 = .at (.int i) ∧ t2 = .at (.int j) := by
    unfold int2 at e
    split at e
    · exact ⟨_, _, rfl, rfl⟩
    · cases e
  obtain ⟨i, j, rfl, rfl⟩ := h0
  have e' : (g i j).map (fun v => (T.at v, s)) = some (t, s') := e
  obtain ⟨v, h1, h2⟩ := Option.map_eq_some_iff.mp e'
  cases h2
  intro σ F H ρ x y Q r' w1 w2 q
  rw [w1.at_inv.1, w2.at_inv.1]
  exact h i j v H Q h1 (q v F H ρ r' (.at (hi i j v h1)) Stp.refl)
def mulOk (i j : Int) : Bool := decide (i.natAbs.log2 + j.natAbs.log2 < 100000000)
theorem mulOk.ok {i j : Int} (h : mulOk i j = true) : IntMulOk i j := by
  have b : ∀ x : Int, Builtin.Int.intBits x ≤ x.natAbs.log2 + 1 := fun x => by
    unfold Builtin.Int.intBits
    split <;> omega
  have h1 := b i
  have h2 := b j
  have h3 : i.natAbs.log2 + j.natAbs.log2 < 100000000 := of_decide_eq_true h
  have e : bitsLine = 134217728 := by decide
  unfold IntMulOk
  intro z
  rw [Bool.and_eq_true] at z
  have z2 := z.2
  unfold Builtin.Int.intTooBig at z2
  have z3 := of_decide_eq_true z2
  rw [e] at z3
  omega
theorem mulOk_of {i j : Int} {a b : Nat} (ha : i.natAbs < 2 ^ a) (hb : j.natAbs < 2 ^ b) (h0 : 0 < a) (h1 : 0 < b) (h : a + b ≤ 100000000) : mulOk i j = true := by
  have x := PySem.Flt.log2_lt_of h0 ha
  have y := PySem.Flt.log2_lt_of h1 hb
  exact decide_eq_true (by omega)
section
variable {X : Cx}
theorem op_mulZ : OpR X (binaryOp .Mult) (rI (fun i j => mulOk i j = true) fun i j => .int (i * j)) := opI fun _ _ _ _ _ _ _ hc q => mul_int q (mulOk.ok hc)
theorem op_fdivZ : OpR X (binaryOp .FloorDiv) (rI (fun _ j => j ≠ 0 ∧ j.natAbs.log2 < 9000) fun i j => .int (i.fdiv j)) := opI fun _ _ _ _ _ _ _ hc q => floordiv_int hc.1 q (.inl (PyProof.noPylong_of_log2 hc.2))
end
def rAddZ (K : PySem.W.Frag) : R2 := fun x y H Q => (rI0 (fun i j => .int (i + j))) x y H Q ∨ ((∃ i j, x = .str i ∧ y = .str j ∧ i.length + j.length ≤ sizeLine ∧ Q (.str (i ++ j)) H) ∨ (rCat x y H Q ∨ rCatT K x y H Q))
theorem o_add {X : Cx} : OpR X (binaryOp .Add) (rAddZ X.K) := op_add.or (op_add_str.or (op_cat.or op_catT))
def addF (own : Bool) (t1 t2 : T) (s : S) : Option (T × S) :=
  match t1, t2 with
  | .at (.int i), .at (.int j) => some (.at (.int (i + j)), s)
  | .at (.str i), .at (.str j) => if i.length + j.length ≤ lim then some (.at (.str (i ++ j)), s) else none
  | t1, t2 => match view t1 s, view t2 s with
    | some (.lst, xs), some (.lst, ys) => if xs.length + ys.length ≤ lim then some (allocT own s .lst (xs ++ ys)) else none
    | some (.tup, x :: xs), some (.tup, y :: ys) => if (x :: xs).length + (y :: ys).length ≤ lim then some (.nd .tup (x :: xs ++ y :: ys), s) else none
    | _, _ => none
def O2.add (own : Bool) : O2 K where
  r := rAddZ K
  f := addF own
  ok := by
    intro t1 t2 s t s' e σ F H ρ x y Q r w1 w2 q
    unfold addF at e
    split at e
    · cases e
      refine .inl ⟨_, _, w1.at_inv.1, w2.at_inv.1, q _ F H ρ r (.at rfl) Stp.refl⟩
    · split at e
      · next hl =>
        cases e
        exact .inr (.inl ⟨_, _, w1.at_inv.1, w2.at_inv.1, lim_line hl, q _ F H ρ r (.at rfl) Stp.refl⟩)
      · cases e
    · split at e
      · next xs ys e1 e2 =>
        split at e
        · next hl =>
          have e' := Option.some.inj e
          obtain ⟨a, vs, rfl, h2, h3⟩ := r.view w1 e1
          obtain ⟨b, ws, rfl, h5, h6⟩ := r.view w2 e2
          have l1 := Paired.length h3
          have l2 := Paired.length h6
          refine .inr (.inr (.inl ⟨a, b, vs, ws, rfl, rfl, h2, h5, lim_line (by omega), fun p hp => ?_⟩))
          exact r.make own e' (k := .lst) hp rfl (Paired.app h3 h6) fun F2 ρ2 r2 w2 p2 => q _ _ _ _ r2 w2 p2
        · cases e
      · next x0 xs y0 ys e1 e2 =>
        split at e
        · next hl =>
          cases e
          obtain ⟨a, vs, rfl, h2, h3⟩ := r.view w1 e1
          obtain ⟨b, ws, rfl, h5, h6⟩ := r.view w2 e2
          have l1 := Paired.length h3
          have l2 := Paired.length h6
          refine .inr (.inr (.inr ⟨a, b, vs, ws, rfl, rfl, h2, h5, fun z => by rw [z] at l1; simp at l1, lim_line (by omega), fun z => by rw [z] at l2; simp at l2, fun _ p hp => ?_⟩))
          obtain ⟨r2, w2, p2⟩ := r.allocF (k := .tup) hp rfl (Paired.app h3 h6)
          exact q _ _ _ _ r2 w2 p2
        · cases e
      · cases e
def O2.sub : O2 K := ⟨rI0 fun i j => .int (i - j), int2 fun i j => some (.int (i - j)), int2_ok (fun i j v H Q e q => by cases e; exact ⟨i, j, rfl, rfl, q⟩) (fun i j v e => by cases e; rfl)⟩
theorem o_sub {X : Cx} : OpR X (binaryOp .Sub) (O2.sub (K := X.K)).r := op_sub
def O2.mul : O2 K := ⟨rI (fun i j => mulOk i j = true) fun i j => .int (i * j), int2 fun i j => if mulOk i j = true then some (.int (i * j)) else none, int2_ok (fun i j v H Q e q => by
  split at e
  · next h => cases e; exact ⟨i, j, rfl, rfl, h, q⟩
  · cases e) (fun i j v e => by
  split at e
  · cases e; rfl
  · cases e)⟩
theorem o_mul {X : Cx} : OpR X (binaryOp .Mult) (O2.mul (K := X.K)).r := op_mulZ
def O2.fdiv : O2 K := ⟨rI (fun _ j => j ≠ 0 ∧ j.natAbs.log2 < 9000) fun i j => .int (i.fdiv j), int2 fun i j => if j ≠ 0 ∧ j.natAbs.log2 < 9000 then some (.int (i.fdiv j)) else none, int2_ok (fun i j v H Q e q => by
  split at e
  · next h => cases e; exact ⟨i, j, rfl, rfl, h, q⟩
  · cases e) (fun i j v e => by
  split at e
  · cases e; rfl
  · cases e)⟩
theorem o_fdiv {X : Cx} : OpR X (binaryOp .FloorDiv) (O2.fdiv (K := X.K)).r := op_fdivZ
def O2.mod : O2 K := ⟨rI (fun _ j => j ≠ 0) fun i j => .int (i.fmod j), int2 fun i j => if j ≠ 0 then some (.int (i.fmod j)) else none, int2_ok (fun i j v H Q e q => by
  split at e
  · next h => cases e; exact ⟨i, j, rfl, rfl, h, q⟩
  · cases e) (fun i j v e => by
  split at e
  · cases e; rfl
  · cases e)⟩
theorem o_mod {X : Cx} : OpR X (binaryOp .Mod) (O2.mod (K := X.K)).r := op_modN
def O2.pow : O2 K := ⟨rI CPow fun i j => .int (i ^ j.toNat), int2 fun i j => if 0 ≤ j ∧ j ≤ 1000000 ∧ i.natAbs < 2 ^ 64 then some (.int (i ^ j.toNat)) else none, int2_ok (fun i j v H Q e q => by
  split at e
  · next h => cases e; exact ⟨i, j, rfl, rfl, h, q⟩
  · cases e) (fun i j v e => by
  split at e
  · cases e; rfl
  · cases e)⟩
theorem o_pow {X : Cx} : OpR X (binaryOp .Pow) (O2.pow (K := X.K)).r := op_pow
def O1.neg : O1 K where
  r := rU fun i => .int (-i)
  f t s := match t with
    | .at (.int i) => some (.at (.int (-i)), s)
    | _ => none
  ok := by
    intro t1 s t s' e σ F H ρ x Q r w q
    split at e
    · cases e; exact ⟨_, w.at_inv.1, q _ F H ρ r (.at rfl) Stp.refl⟩
    · cases e
theorem o_neg {X : Cx} : UnR X (unaryOp .USub) (O1.neg (K := X.K)).r := un_neg

/-! ### comparisons of order -/
def ordF (g : Int → Int → Bool) (h : List Nat → List Nat → Bool) : T → T → S → Option (T × S)
  | .at (.int i), .at (.int j), s => some (.at (.bl (g i j)), s)
  | .at (.str x), .at (.str y), s => some (.at (.bl (h x.cps.toList y.cps.toList)), s)
  | _, _, _ => none
def rOrd (g : Int → Int → Bool) (h : List Nat → List Nat → Bool) : R2 := fun x y H Q => rI0 (fun i j => .bl (g i j)) x y H Q ∨ ∃ i j, x = .str i ∧ y = .str j ∧ Q (.bl (h i.cps.toList j.cps.toList)) H
def O2.ord (g : Int → Int → Bool) (h : List Nat → List Nat → Bool) : O2 K where
  r := rOrd g h
  f := ordF g h
  ok := by
    intro t1 t2 s t s' e σ F H ρ x y Q r w1 w2 q
    unfold ordF at e
    split at e
    · cases e; exact .inl ⟨_, _, w1.at_inv.1, w2.at_inv.1, q _ F H ρ r (.at rfl) Stp.refl⟩
    · cases e; exact .inr ⟨_, _, w1.at_inv.1, w2.at_inv.1, q _ F H ρ r (.at rfl) Stp.refl⟩
    · cases e
abbrev O2.lt : O2 K := O2.ord (fun i j => decide (i < j)) (fun x y => decide (x < y))
abbrev O2.le : O2 K := O2.ord (fun i j => decide (i ≤ j)) (fun x y => !decide (y < x))
abbrev O2.gt : O2 K := O2.ord (fun i j => decide (j < i)) (fun x y => decide (y < x))
abbrev O2.ge : O2 K := O2.ord (fun i j => decide (j ≤ i)) (fun x y => !decide (x < y))
theorem o_lt {X : Cx} : OpR X (compareOp .Lt) (O2.lt (K := X.K)).r := op_lt.or op_lt_str
theorem o_le {X : Cx} : OpR X (compareOp .LtE) (O2.le (K := X.K)).r := op_le.or op_le_str
theorem o_gt {X : Cx} : OpR X (compareOp .Gt) (O2.gt (K := X.K)).r := op_gt.or op_gt_str
theorem o_ge {X : Cx} : OpR X (compareOp .GtE) (O2.ge (K := X.K)).r := op_ge.or op_ge_str

/-! ### is None -/
def O2.isN : O2 K where
  r := fun x y H Q => y = .non ∧ Q (.bl (decide (x = .non))) H
  f t1 t2 s := match t2 with
    | .at .non => match t1 with
      | .at v => some (.at (.bl (decide (v = .non))), s)
      | _ => some (.at (.bl false), s)
    | _ => none
  ok := by
    intro t1 t2 s t s' e σ F H ρ x y Q r w1 w2 q
    split at e
    · refine ⟨w2.at_inv.1, ?_⟩
      split at e
      · cases e
        rw [w1.at_inv.1]
        exact q _ F H ρ r (.at rfl) Stp.refl
      · next h =>
        cases e
        have hx : decide (x = .non) = false := by
          cases w1 with
          | «at» h1 => exact (h _ rfl).elim
          | ptr h1 => rfl
          | nd h1 l c => rfl
        rw [hx]
        exact q _ F H ρ r (.at rfl) Stp.refl
    · cases e
theorem o_isN {X : Cx} : OpR X (compareOp .Is) (O2.isN (K := X.K)).r := op_isN
def O2.notN : O2 K where
  r := fun x y H Q => y = .non ∧ Q (.bl (!decide (x = .non))) H
  f t1 t2 s := match t2 with
    | .at .non => match t1 with
      | .at v => some (.at (.bl (!decide (v = .non))), s)
      | _ => some (.at (.bl true), s)
    | _ => none
  ok := by
    intro t1 t2 s t s' e σ F H ρ x y Q r w1 w2 q
    split at e
    · refine ⟨w2.at_inv.1, ?_⟩
      split at e
      · cases e
        rw [w1.at_inv.1]
        exact q _ F H ρ r (.at rfl) Stp.refl
      · next h =>
        cases e
        have hx : decide (x = .non) = false := by
          cases w1 with
          | «at» h1 => exact (h _ rfl).elim
          | ptr h1 => rfl
          | nd h1 l c => rfl
        rw [hx]
        exact q _ F H ρ r (.at rfl) Stp.refl
    · cases e
theorem o_notN {X : Cx} : OpR X (compareOp .IsNot) (O2.notN (K := X.K)).r := op_notN

/-! ### keys -/
def keyT : T → Option Key
  | .at (.int i) => some (.inl i)
  | .at (.str x) => some (.inr x)
  | _ => none
theorem keyT_kV {s : S} {ρ : Nat → Addr} {N : Nat} {F : Hp} {t : T} {v : V} {k : Key} (h : TR K ρ N F v t) (e : keyT t = some k) : v = kV k := by
  unfold keyT at e
  split at e
  · cases e; exact h.at_inv.1
  · cases e; exact h.at_inv.1
  · cases e
def getD' (ks : List Key) (ts : List T) (k : Key) : Option T := ((ks.zip ts).find? fun kv => decide (kv.1 = k)).map (·.2)
theorem getD_rel {R : V → T → Prop} {k : Key} : ∀ {ks : List Key} {vs : List V} {ts : List T}, Paired R vs ts →
    match getD' ks ts k with
    | some t => ∃ v, valV (ks.zip vs) k = some v ∧ R v t
    | none => valV (ks.zip vs) k = none
  | [], vs, ts, _ => by simp [getD', valV]
  | c :: ks, _, _, .nil => by simp [getD', valV]
  | c :: ks, _, _, .cons (a := v) (b := t) (l₁ := vs) (l₂ := ts) r p => by
    have ih := getD_rel (k := k) (ks := ks) p
    by_cases e : c = k
    · subst e
      simp only [getD', List.zip_cons_cons, List.find?_cons, decide_true, Option.map_some]
      exact ⟨v, by simp [valV], r⟩
    · simp only [getD', List.zip_cons_cons, List.find?_cons, decide_eq_false e] at ih ⊢
      have e2 : valV ((c, v) :: ks.zip vs) k = valV (ks.zip vs) k := valV_neg e
      rw [e2]
      exact ih
theorem atI_rel {R : V → T → Prop} {vs : List V} {ts : List T} (p : Paired R vs ts) {i : Int} {t : T} (h : atI ts i = some t) : ∃ v, atI vs i = some v ∧ R v t := by
  unfold atI at h ⊢
  rw [Paired.length p]
  cases e : ixN ts.length i with
  | none => rw [e] at h; cases h
  | some j =>
    rw [e] at h
    exact Paired.getR p h

/-! ### subscripts -/
def ixF : T → T → S → Option (T × S)
  | .at (.str z), .at (.int i), s => if z.length ≤ lim then (atI z.cps.toList i).map fun c => (.at (.str ⟨#[c]⟩), s) else none
  | t1, t2, s => match view t1 s with
    | some (.lst, ts) => match t2 with
      | .at (.int i) => (atI ts i).map fun t => (res t s, s)
      | _ => none
    | some (.lsR, ts) => match t2 with
      | .at (.int i) => (atI ts i).map fun t => (res t s, s)
      | _ => none
    | some (.tup, ts) => match t2 with
      | .at (.int i) => (atI ts i).map fun t => (res t s, s)
      | _ => none
    | _ => none
def O2.ix : O2 K where
  r := rIx K
  f := ixF
  ok := by
    intro t1 t2 s t s' e σ F H ρ x y Q r w1 w2 q
    unfold ixF at e
    split at e
    · split at e
      · next hl =>
        obtain ⟨c, h1, h2⟩ := Option.map_eq_some_iff.mp e
        cases h2
        exact .inr (.inr ⟨_, _, _, w1.at_inv.1, w2.at_inv.1, lim_line hl, h1, q _ F H ρ r (.at rfl) Stp.refl⟩)
      · cases e
    · split at e
      · next ts e1 =>
        split at e
        · obtain ⟨u, h1, h2⟩ := Option.map_eq_some_iff.mp e
          cases h2
          obtain ⟨a, vs, rfl, h2, h3⟩ := r.view w1 e1
          obtain ⟨v, h4, h5⟩ := atI_rel h3 h1
          exact .inl ⟨a, vs, _, v, rfl, w2.at_inv.1, SqL.of h2, h4, q _ F H ρ r (r.res h5) Stp.refl⟩
        · cases e
      · next ts e1 =>
        split at e
        · obtain ⟨u, h1, h2⟩ := Option.map_eq_some_iff.mp e
          cases h2
          obtain ⟨a, vs, rfl, h2, h3⟩ := r.view w1 e1
          obtain ⟨v, h4, h5⟩ := atI_rel h3 h1
          exact .inl ⟨a, vs, _, v, rfl, w2.at_inv.1, h2, h4, q _ F H ρ r (r.res h5) Stp.refl⟩
        · cases e
      · next ts e1 =>
        split at e
        · obtain ⟨u, h1, h2⟩ := Option.map_eq_some_iff.mp e
          cases h2
          obtain ⟨a, vs, rfl, h2, h3⟩ := r.view w1 e1
          obtain ⟨v, h4, h5⟩ := atI_rel h3 h1
          exact .inr (.inl ⟨a, vs, _, v, rfl, w2.at_inv.1, h2, h4, q _ F H ρ r (r.res h5) Stp.refl⟩)
        · cases e
      · cases e
def rDGetZ : R2 := fun x y H Q => ∃ a v, x = .ref a ∧ DGet H a y (some v) ∧ Q v H
def dgetF (t1 t2 : T) (s : S) : Option (T × S) := match view t1 s, keyT t2 with
  | some (.dK ks, ts), some k => (getD' ks ts k).map fun t => (res t s, s)
  | _, _ => none
theorem dget_of {s : S} {σ : L2.St} {F H : Hp} {ρ : Nat → Addr} (r : Rel K s σ F H ρ) {t1 t2 : T} {x y : V} {ks : List Key} {ts : List T} {k : Key} (w1 : TR K ρ s.hp.length F x t1) (w2 : TR K ρ s.hp.length F y t2) (e1 : view t1 s = some (.dK ks, ts)) (e2 : keyT t2 = some k) :
    ∃ a o, x = .ref a ∧ DGet H a y o ∧ match getD' ks ts k with
      | some t => ∃ v, o = some v ∧ TR K ρ s.hp.length F v t
      | none => o = none := by
  obtain ⟨a, vs, rfl, h2, h3⟩ := r.view w1 e1
  refine ⟨a, _, rfl, .inl ⟨_, k, h2.2, keyT_kV (s := s) w2 e2, rfl⟩, getD_rel h3⟩
def O2.dget : O2 K where
  r := rDGetZ
  f := dgetF
  ok := by
    intro t1 t2 s t s' e σ F H ρ x y Q r w1 w2 q
    unfold dgetF at e
    split at e
    · next ks ts k e1 e2 =>
      obtain ⟨u, h1, h2⟩ := Option.map_eq_some_iff.mp e
      cases h2
      obtain ⟨a, o, h3, h4, h5⟩ := dget_of r w1 w2 e1 e2
      rw [h1] at h5
      obtain ⟨v, rfl, h6⟩ := h5
      exact ⟨a, v, h3, h4, q _ F H ρ r (r.res h6) Stp.refl⟩
    · cases e
/-- a[b]: a sequence, a text, a dict -/
def tSub (K : PySem.W.Frag) (ta tb : TE) : TE := fun σ H Q => tOp (rIx K) ta tb σ H Q ∨ tOp rDGetZ ta tb σ H Q
def CE.sub (a b : CE K) : CE K := ⟨tSub K a.te b.te, (CE.alt (CE.op2 O2.ix a b) (CE.op2 O2.dget a b)).ev, (CE.alt (CE.op2 O2.ix a b) (CE.op2 O2.dget a b)).ok⟩
theorem pe_subZ {X : Cx} {a b : Expr} {ta tb : TE} {pos : Pos} (hu : X.A.units + 1 < cLine) (ha : PE X a ta) (hb : PE X b tb) (hs : PlainIx b) : PE X (.Subscript a b pos) (fun σ H Q => tOp (rIx X.K) ta tb σ H Q ∨ tOp rDGetZ ta tb σ H Q) :=
  pe_alt (pe_ix ix_seq ha hb hs) (pe_dget hu ha hb hs)
/-- in, not in -/
def rDIn (neg : Bool) : R2 := fun y x H Q => ∃ a o, x = .ref a ∧ DGet H a y o ∧ Q (.bl (if neg then !o.isSome else o.isSome)) H
def dinF (neg : Bool) (t1 t2 : T) (s : S) : Option (T × S) := match view t2 s, keyT t1 with
  | some (.dK ks, ts), some k => some (.at (.bl (if neg then !(getD' ks ts k).isSome else (getD' ks ts k).isSome)), s)
  | _, _ => none
def O2.din (neg : Bool) : O2 K where
  r := rDIn neg
  f := dinF neg
  ok := by
    intro t1 t2 s t s' e σ F H ρ x y Q r w1 w2 q
    unfold dinF at e
    split at e
    · next ks ts k e1 e2 =>
      cases e
      obtain ⟨a, o, h3, h4, h5⟩ := dget_of r w2 w1 e1 e2
      have ho : o.isSome = (getD' ks ts k).isSome := by
        cases h : getD' ks ts k with
        | none => rw [h] at h5; rw [h5]; rfl
        | some u => rw [h] at h5; obtain ⟨v, rfl, _⟩ := h5; rfl
      refine ⟨a, o, h3, h4, ?_⟩
      rw [ho]
      exact q _ F H ρ r (.at rfl) Stp.refl
    · cases e
def flatT : T → Bool
  | .at v => flatV v
  | _ => false
def inT (x : T) (ts : List T) : Bool := match x with
  | .at v => ts.any fun t => match t with
    | .at u => eqV u v
    | _ => false
  | _ => false
theorem flat_all {ρ : Nat → Addr} {N : Nat} {F : Hp} : ∀ {vs : List V} {ts : List T}, TRL K ρ N F vs ts → ts.all flatT = true → vs.all flatV = true ∧ ∀ v, inV v vs = inT (.at v) ts
  | _, _, .nil, _ => ⟨rfl, fun _ => rfl⟩
  | _, _, .cons (a := v) (b := t) r p, h => by
    simp only [List.all_cons, Bool.and_eq_true] at h
    obtain ⟨h1, h2⟩ := flat_all p h.2
    cases t with
    | «at» u =>
      obtain ⟨e1, _⟩ := r.at_inv
      subst e1
      refine ⟨by simp only [List.all_cons, Bool.and_eq_true]; exact ⟨h.1, h1⟩, fun w => ?_⟩
      have := h2 w
      simp only [inV, inT, List.any_cons] at this ⊢
      rw [this]
    | ptr n => exact absurd h.1 (by simp [flatT])
    | nd k us => exact absurd h.1 (by simp [flatT])
def inqF (neg : Bool) (t1 t2 : T) (s : S) : Option (T × S) := match view t2 s with
  | some (.lst, ts) => if flatT t1 = true ∧ ts.all flatT = true then some (.at (.bl (if neg then !inT t1 ts else inT t1 ts)), s) else none
  | some (.tup, ts) => if flatT t1 = true ∧ ts.all flatT = true then some (.at (.bl (if neg then !inT t1 ts else inT t1 ts)), s) else none
  | _ => none
def O2.inq (neg : Bool) : O2 K where
  r := rIn K neg
  f := inqF neg
  ok := by
    intro t1 t2 s t s' e σ F H ρ x y Q r w1 w2 q
    have gen : ∀ {a vs ts}, y = .ref a → (SqL K H a vs ∨ SqT K H a vs) → TRL K ρ s.hp.length F vs ts → (if flatT t1 = true ∧ ts.all flatT = true then some (T.at (.bl (if neg then !inT t1 ts else inT t1 ts)), s) else none) = some (t, s') → rIn K neg x y H Q := fun {a vs ts} hy hs hv e => by
      split at e
      · next h =>
        cases e
        obtain ⟨f1, f2⟩ := flat_all hv h.2
        cases t1 with
        | «at» u =>
          obtain ⟨e1, _⟩ := w1.at_inv
          subst e1
          refine ⟨a, vs, hy, hs, h.1, f1, ?_⟩
          rw [f2 x]
          exact q _ F H ρ r (.at rfl) Stp.refl
        | ptr n => exact absurd h.1 (by simp [flatT])
        | nd k us => exact absurd h.1 (by simp [flatT])
      · cases e
    unfold inqF at e
    split at e
    · next ts e1 =>
      obtain ⟨a, vs, h1, h2, h3⟩ := r.view w2 e1
      exact gen h1 (.inl (SqL.of h2)) h3 e
    · next ts e1 =>
      obtain ⟨a, vs, h1, h2, h3⟩ := r.view w2 e1
      exact gen h1 (.inr h2) h3 e
    · cases e
def tInn (K : PySem.W.Frag) (neg : Bool) (ta tb : TE) : TE := fun σ H Q => tOp (rIn K neg) ta tb σ H Q ∨ tOp (rDIn neg) ta tb σ H Q
def CE.inn (a b : CE K) : CE K := ⟨tInn K false a.te b.te, (CE.alt (CE.op2 (O2.inq false) a b) (CE.op2 (O2.din false) a b)).ev, (CE.alt (CE.op2 (O2.inq false) a b) (CE.op2 (O2.din false) a b)).ok⟩
def CE.nin (a b : CE K) : CE K := ⟨tInn K true a.te b.te, (CE.alt (CE.op2 (O2.inq true) a b) (CE.op2 (O2.din true) a b)).ev, (CE.alt (CE.op2 (O2.inq true) a b) (CE.op2 (O2.din true) a b)).ok⟩
theorem pe_innZ {X : Cx} {a b : Expr} {ta tb : TE} {pos : Pos} (hu : X.A.units + 1 < cLine) (ha : PE X a ta) (hb : PE X b tb) (hm : behindInMarks .In b = false) : PE X (.Compare a [.In] [b] pos) (fun σ H Q => tOp (rIn X.K false) ta tb σ H Q ∨ tOp (rDIn false) ta tb σ H Q) :=
  pe_alt (pe_cmpR op_in_seq ha hb hm) (pe_cmp (pc_din hu ha hb) hm)
theorem pe_ninZ {X : Cx} {a b : Expr} {ta tb : TE} {pos : Pos} (hu : X.A.units + 1 < cLine) (ha : PE X a ta) (hb : PE X b tb) (hm : behindInMarks .NotIn b = false) : PE X (.Compare a [.NotIn] [b] pos) (fun σ H Q => tOp (rIn X.K true) ta tb σ H Q ∨ tOp (rDIn true) ta tb σ H Q) :=
  pe_alt (pe_cmpR op_notIn_seq ha hb hm) (pe_cmp (pc_dnotin hu ha hb) hm)
end
end Z
set_option Elab.async false
set_option linter.all false
set_option maxRecDepth 100000
/-! Z: equality, slices, built-ins. -/
namespace Z
open PySem PySem.Spec PyProof.Rows L2
section
variable {K : PySem.W.Frag}
/-! ### data as the library says it -/
mutual
def toPy : T → Option PyData
  | .at .non => some .none
  | .at (.bl b) => some (.bool b)
  | .at (.int i) => some (.int i)
  | .at (.str x) => some (.str x)
  | .at _ => none
  | .ptr _ => none
  | .nd .lst ts => (toPyL ts).map .list
  | .nd .lsR ts => (toPyL ts).map .list
  | .nd .tup ts => (toPyL ts).map .tuple
  | .nd (.dK _) _ => none
def toPyL : List T → Option (List PyData)
  | [] => some []
  | t :: ts => match toPy t, toPyL ts with
    | some d, some ds => some (d :: ds)
    | _, _ => none
end
def toPyS (t : T) (s : S) : Option PyData := match t with
  | .ptr n => match view (.ptr n) s with
    | some (.lst, ts) => (toPyL ts).map .list
    | some (.tup, ts) => (toPyL ts).map .tuple
    | _ => none
  | t => toPy t
mutual
theorem toPy_dp {ρ : Nat → Addr} {N : Nat} {F H : Hp} (ex : ExR F H) : ∀ (t : T) (v : V) (d : PyData), TR K ρ N F v t → toPy t = some d → Dp K H v d
  | .at u, v, d, h, e => by
    obtain ⟨e1, e2⟩ := h.at_inv
    subst e1
    cases v with
    | non => cases e; exact .non
    | bl b => cases e; exact .bl b
    | int i => cases e; exact .int i
    | str x => cases e; exact .str x
    | byt x => exact absurd e (by simp [toPy])
    | flt x => exact absurd e (by simp [toPy])
    | ref x => exact absurd e (by simp [toPy])
    | ty x => exact absurd e (by simp [toPy])
  | .ptr n, v, d, h, e => by simp [toPy] at e
  | .nd k ts, v, d, h, e => by
    obtain ⟨a, vs, h1, h2, h3⟩ := h.nd_inv
    subst h1
    have h4 := h2.now ex
    cases k with
    | lst =>
      simp only [toPy] at e
      obtain ⟨ds, e1, e2⟩ := Option.map_eq_some_iff.mp e
      subst e2
      exact .lst (SqL.of h4) (toPyL_dp ex ts vs ds h3 e1)
    | lsR =>
      simp only [toPy] at e
      obtain ⟨ds, e1, e2⟩ := Option.map_eq_some_iff.mp e
      subst e2
      exact .lst h4 (toPyL_dp ex ts vs ds h3 e1)
    | tup =>
      simp only [toPy] at e
      obtain ⟨ds, e1, e2⟩ := Option.map_eq_some_iff.mp e
      subst e2
      exact .tup h4 (toPyL_dp ex ts vs ds h3 e1)
    | dK ks => simp [toPy] at e
theorem toPyL_dp {ρ : Nat → Addr} {N : Nat} {F H : Hp} (ex : ExR F H) : ∀ (ts : List T) (vs : List V) (ds : List PyData), TRL K ρ N F vs ts → toPyL ts = some ds → DpAll K H vs ds
  | [], vs, ds, h, e => by
    cases h
    cases e
    exact .nil
  | t :: ts, vs, ds, h, e => by
    cases h with
    | cons r p =>
      simp only [toPyL] at e
      split at e
      · next d es e1 e2 =>
        cases e
        exact .cons (toPy_dp ex t _ d r e1) (toPyL_dp ex ts _ es p e2)
      · cases e
end
theorem toPyS_dp {s : S} {σ : L2.St} {F H : Hp} {ρ : Nat → Addr} (r : Rel K s σ F H ρ) {t : T} {v : V} {d : PyData} (h : TR K ρ s.hp.length F v t) (e : toPyS t s = some d) : Dp K H v d := by
  cases t with
  | «at» u => exact toPy_dp r.ex _ v d h e
  | nd k ts => exact toPy_dp r.ex _ v d h e
  | ptr n =>
    simp only [toPyS] at e
    split at e
    · next ts e1 =>
      obtain ⟨ds, e2, e3⟩ := Option.map_eq_some_iff.mp e
      subst e3
      obtain ⟨a, vs, rfl, h2, h3⟩ := r.view h e1
      exact .lst (SqL.of h2) (toPyL_dp r.ex ts vs ds h3 e2)
    · next ts e1 =>
      obtain ⟨ds, e2, e3⟩ := Option.map_eq_some_iff.mp e
      subst e3
      obtain ⟨a, vs, rfl, h2, h3⟩ := r.view h e1
      exact .tup h2 (toPyL_dp r.ex ts vs ds h3 e2)
    · cases e
/-! ### ==, != -/
def eqsF (neg : Bool) (t1 t2 : T) (s : S) : Option (T × S) := match t1, t2 with
  | .at u, .at v => if scal u v = true then some (.at (.bl (if neg then !decide (u = v) else decide (u = v))), s) else none
  | _, _ => none
def rEqs (neg : Bool) : R2 := fun x y H Q => scal x y = true ∧ Q (.bl (if neg then !decide (x = y) else decide (x = y))) H
def O2.eqs (neg : Bool) : O2 K where
  r := rEqs neg
  f := eqsF neg
  ok := by
    intro t1 t2 s t s' e σ F H ρ x y Q r w1 w2 q
    unfold eqsF at e
    split at e
    · split at e
      · next h =>
        cases e
        rw [w1.at_inv.1, w2.at_inv.1]
        exact ⟨h, q _ F H ρ r (.at rfl) Stp.refl⟩
      · cases e
    · cases e
def rEqdZ (K : PySem.W.Frag) (neg : Bool) : R2 := fun x y H Q => ∃ d e, Dp K H x d ∧ Dp K H y e ∧ SeqAt.shaped d = true ∧ SeqAt.shaped e = true ∧ Q (.bl (if neg then !PyData.eqv d e else PyData.eqv d e)) H
def eqdF (neg : Bool) (t1 t2 : T) (s : S) : Option (T × S) := match toPyS t1 s, toPyS t2 s with
  | some d, some e => if SeqAt.shaped d = true ∧ SeqAt.shaped e = true then some (.at (.bl (if neg then !PyData.eqv d e else PyData.eqv d e)), s) else none
  | _, _ => none
def O2.eqd (neg : Bool) : O2 K where
  r := rEqdZ K neg
  f := eqdF neg
  ok := by
    intro t1 t2 s t s' e σ F H ρ x y Q r w1 w2 q
    unfold eqdF at e
    split at e
    · next d1 d2 e1 e2 =>
      split at e
      · next h =>
        cases e
        exact ⟨d1, d2, toPyS_dp r w1 e1, toPyS_dp r w2 e2, h.1, h.2, q _ F H ρ r (.at rfl) Stp.refl⟩
      · cases e
    · cases e
/-- two dicts of flat values, alike -/
def dictSame (ks : List Key) (ts : List T) (ls : List Key) (us : List T) : Bool := decide (ks.length = ls.length) && (ks.zip ts).all fun p => match p.2 with
  | .at v => flatB v && match getD' ls us p.1 with
    | some (.at u) => decide (u = v)
    | _ => false
  | _ => false
def eqkF (neg : Bool) (t1 t2 : T) (s : S) : Option (T × S) := match view t1 s, view t2 s with
  | some (.dK ks, ts), some (.dK ls, us) => if dictSame ks ts ls us = true then some (.at (.bl (!neg)), s) else none
  | _, _ => none
def rEqDZ (neg : Bool) : R2 := fun x y H Q => ∃ a b ks ls, x = .ref a ∧ y = .ref b ∧ Rd H a (.dK ks) ∧ Rd H b (.dK ls) ∧ ks.length = ls.length ∧ (∀ p ∈ ks, valV ls p.1 = some p.2 ∧ flatB p.2 = true) ∧ Q (.bl (!neg)) H
section
variable {X : Cx}
theorem op_eq_dictZ (hu : X.A.units < cLine) : OpR X (compareOp .Eq) (rEqDZ false) := by
  intro pins s σ H x y v u Q I rx ry h
  obtain ⟨a, b, ks, ls, rfl, rfl, ea, eb, hlen, hp, q⟩ := h
  obtain rfl : v = Value.ref a := rx
  obtain rfl : u = Value.ref b := ry
  obtain ⟨_, ya, va, ra, da⟩ := (show ObjOk X.prog X.w H s.heap a (.dK ks) from ea.ok I.hok)
  obtain ⟨_, yb, vb, rb, db⟩ := (show ObjOk X.prog X.w H s.heap b (.dK ls) from eb.ok I.hok)
  have hl : va.length = vb.length := by rw [← ra.length, ← rb.length]; exact hlen
  exact PySem.W.keq_eq (knd := mixKind X.prog X.w) (r := true) ya yb da db hu (fun _ => hits_all rb ra hp) (fin_bl I q (by simp [hl]))
theorem op_ne_dictZ (hu : X.A.units < cLine) : OpR X (compareOp .NotEq) (rEqDZ true) := by
  intro pins s σ H x y v u Q I rx ry h
  obtain ⟨a, b, ks, ls, rfl, rfl, ea, eb, hlen, hp, q⟩ := h
  obtain rfl : v = Value.ref a := rx
  obtain rfl : u = Value.ref b := ry
  obtain ⟨_, ya, va, ra, da⟩ := (show ObjOk X.prog X.w H s.heap a (.dK ks) from ea.ok I.hok)
  obtain ⟨_, yb, vb, rb, db⟩ := (show ObjOk X.prog X.w H s.heap b (.dK ls) from eb.ok I.hok)
  have hl : va.length = vb.length := by rw [← ra.length, ← rb.length]; exact hlen
  exact PySem.W.keq_ne (knd := mixKind X.prog X.w) (r := true) ya yb da db hu (fun _ => hits_all rb ra hp) (fin_bl I q (by simp [hl]))
end
theorem dictSame_rel {ρ : Nat → Addr} {N : Nat} {F : Hp} {ls : List Key} {us : List T} {ws : List V} (hu : TRL K ρ N F ws us) : ∀ {ks : List Key} {ts : List T} {vs : List V}, TRL K ρ N F vs ts →
    ((ks.zip ts).all fun p => match p.2 with
      | .at v => flatB v && match getD' ls us p.1 with
        | some (.at u) => decide (u = v)
        | _ => false
      | _ => false) = true → ∀ p ∈ ks.zip vs, valV (ls.zip ws) p.1 = some p.2 ∧ flatB p.2 = true
  | [], _, vs, _, _, p, hp => by simp at hp
  | k :: ks, _, _, .nil, _, p, hp => by simp at hp
  | k :: ks, _, _, .cons (a := v) (b := t) (l₁ := vs) (l₂ := ts) r q, h, p, hp => by
    simp only [List.zip_cons_cons, List.all_cons, Bool.and_eq_true] at h
    rw [List.zip_cons_cons] at hp
    rcases List.mem_cons.mp hp with e | hp
    · subst e
      have h1 := h.1
      cases t with
      | «at» w =>
        obtain ⟨e1, _⟩ := r.at_inv
        subst e1
        simp only [Bool.and_eq_true] at h1
        obtain ⟨h2, h3⟩ := h1
        have g := getD_rel (R := TR K ρ N F) (k := k) (ks := ls) hu
        cases e2 : getD' ls us k with
        | none => rw [e2] at h3; simp at h3
        | some u =>
          rw [e2] at h3 g
          obtain ⟨z, g1, g2⟩ := g
          cases u with
          | «at» w =>
            obtain ⟨e3, _⟩ := g2.at_inv
            subst e3
            have e4 : z = v := of_decide_eq_true h3
            subst e4
            exact ⟨g1, h2⟩
          | ptr n => simp at h3
          | nd k' us' => simp at h3
      | ptr n => simp at h1
      | nd k' us' => simp at h1
    · exact dictSame_rel hu q h.2 p hp
def O2.eqk (neg : Bool) : O2 K where
  r := rEqDZ neg
  f := eqkF neg
  ok := by
    intro t1 t2 s t s' e σ F H ρ x y Q r w1 w2 q
    unfold eqkF at e
    split at e
    · next ks ts ls us e1 e2 =>
      split at e
      · next h =>
        cases e
        obtain ⟨a, vs, rfl, h2, h3⟩ := r.view w1 e1
        obtain ⟨b, ws, rfl, h5, h6⟩ := r.view w2 e2
        unfold dictSame at h
        rw [Bool.and_eq_true] at h
        have l := of_decide_eq_true h.1
        refine ⟨a, b, _, _, rfl, rfl, h2.2, h5.2, ?_, dictSame_rel h6 h3 h.2, q _ F H ρ r (.at rfl) Stp.refl⟩
        rw [List.length_zip, List.length_zip, ← h2.1, ← h5.1, l]
      · cases e
    · cases e
def tEqZ (K : PySem.W.Frag) (neg : Bool) (ta tb : TE) : TE := fun σ H Q => tOp (rEqs neg) ta tb σ H Q ∨ (tOp (rEqdZ K neg) ta tb σ H Q ∨ tOp (rEqDZ neg) ta tb σ H Q)
def CE.eq (neg : Bool) (a b : CE K) : CE K := ⟨tEqZ K neg a.te b.te, (CE.alt (CE.op2 (O2.eqs neg) a b) (CE.alt (CE.op2 (O2.eqd neg) a b) (CE.op2 (O2.eqk neg) a b))).ev, (CE.alt (CE.op2 (O2.eqs neg) a b) (CE.alt (CE.op2 (O2.eqd neg) a b) (CE.op2 (O2.eqk neg) a b))).ok⟩
theorem pe_eqZ {X : Cx} {a b : Expr} {ta tb : TE} {pos : Pos} (hu : X.A.units + 64 < cLine) (ha : PE X a ta) (hb : PE X b tb) : PE X (.Compare a [.Eq] [b] pos) (fun σ H Q => tOp (rEqs false) ta tb σ H Q ∨ (tOp (rEqdZ X.K false) ta tb σ H Q ∨ tOp (rEqDZ false) ta tb σ H Q)) :=
  pe_alt (pe_cmpR op_eq ha hb (nomark _)) (pe_alt (pe_cmpR (op_eqD hu) ha hb (nomark _)) (pe_cmpR (op_eq_dictZ (by omega)) ha hb (nomark _)))
theorem pe_neZ {X : Cx} {a b : Expr} {ta tb : TE} {pos : Pos} (hu : X.A.units + 64 < cLine) (ha : PE X a ta) (hb : PE X b tb) : PE X (.Compare a [.NotEq] [b] pos) (fun σ H Q => tOp (rEqs true) ta tb σ H Q ∨ (tOp (rEqdZ X.K true) ta tb σ H Q ∨ tOp (rEqDZ true) ta tb σ H Q)) :=
  pe_alt (pe_cmpR op_ne ha hb (nomark _)) (pe_alt (pe_cmpR (op_neD hu) ha hb (nomark _)) (pe_cmpR (op_ne_dictZ (by omega)) ha hb (nomark _)))

/-! ### slices -/
def EvtO (K : PySem.W.Frag) (to : TO) (s : S) (o : Option Int) (s' : S) : Prop := ∀ (σ : L2.St) (F H : Hp) (ρ : Nat → Addr) (Q : Option Int → Hp → Prop), Rel K s σ F H ρ →
  (∀ F' H' ρ', Rel K s' σ F' H' ρ' → Stp s ρ F H s' ρ' F' H' → Q o H') → to σ H Q
structure CP (K : PySem.W.Frag) where
  to : TO
  ev : EvR (Option Int)
  ok : ∀ s o s', ev s = some (o, s') → EvtO K to s o s'
def CP.no : CP K where
  to := tNoPart
  ev s := some (none, s)
  ok := by
    intro s t s' e
    cases e
    exact fun σ F H ρ Q r q => q F H ρ r Stp.refl
def CP.of (a : CE K) : CP K where
  to := tPart a.te
  ev s := match a.ev s with
    | some (.at (.int i), s') => some (some i, s')
    | _ => none
  ok := by
    intro s t s' h
    split at h
    · next i s1 e =>
      cases h
      intro σ F H ρ Q r q
      refine a.ok _ _ _ e σ F H ρ _ r fun v1 F1 H1 ρ1 r1 w1 p1 => ?_
      obtain ⟨e1, _⟩ := w1.at_inv
      exact ⟨_, e1, q _ _ _ r1 p1⟩
    · cases h
def cutT (ts : List T) (lo hi : Option Int) : List T := (ts.drop (HT.sIx ts.length 0 lo)).take (HT.sIx ts.length ts.length hi - HT.sIx ts.length 0 lo)
theorem cut_rel {R : V → T → Prop} {vs : List V} {ts : List T} (p : Paired R vs ts) (lo hi : Option Int) : Paired R (cutV vs lo hi) (cutT ts lo hi) := by
  unfold cutV cutT
  rw [Paired.length p]
  exact Paired.takeR _ (Paired.dropR _ p)
def slcF (own : Bool) (t : T) (lo hi : Option Int) (s : S) : Option (T × S) := match t with
  | .at (.str z) => if z.length ≤ lim then some (.at (.str (cutS z lo hi)), s) else none
  | t => match view t s with
    | some (.lst, ts) => some (allocT own s .lst (cutT ts lo hi))
    | some (.lsR, ts) => some (allocT own s .lst (cutT ts lo hi))
    | some (.tup, ts) => if HT.sIx ts.length 0 lo = 0 ∧ HT.sIx ts.length ts.length hi = ts.length then none else some (.nd .tup (cutT ts lo hi), s)
    | _ => none
def rSlZ (K : PySem.W.Frag) : V → Option Int → Option Int → Hp → VK → Prop := fun x lo hi H Q => rSlL K x lo hi H Q ∨ (rSlT K x lo hi H Q ∨ rSlS x lo hi H Q)
theorem sl_all {X : Cx} : SlR X (rSlZ X.K) := sl_list.or (sl_tup.or sl_str)
def CE.slc (own : Bool) (a : CE K) (l h : CP K) : CE K where
  te := tSl (rSlZ K) a.te l.to h.to
  ev s := (a.ev s).bind fun p => (l.ev p.2).bind fun q => (h.ev q.2).bind fun z => slcF own p.1 q.1 z.1 z.2
  ok := by
    intro s t s' e
    obtain ⟨⟨t1, s1⟩, h1, e⟩ := Option.bind_eq_some_iff.mp e
    obtain ⟨⟨lo, s2⟩, h2, e⟩ := Option.bind_eq_some_iff.mp e
    obtain ⟨⟨hi, s3⟩, h3, e⟩ := Option.bind_eq_some_iff.mp e
    intro σ F H ρ Q r q
    refine a.ok _ _ _ h1 σ F H ρ _ r fun v1 F1 H1 ρ1 r1 w1 p1 => ?_
    refine l.ok _ _ _ h2 σ F1 H1 ρ1 _ r1 fun F2 H2 ρ2 r2 p2 => ?_
    refine h.ok _ _ _ h3 σ F2 H2 ρ2 _ r2 fun F3 H3 ρ3 r3 p3 => ?_
    have w3 := (w1.stp p2).stp p3
    have p4 := (p1.trans p2).trans p3
    dsimp only [slcF] at e
    split at e
    · split at e
      · next hl => cases e; exact .inr (.inr ⟨_, w3.at_inv.1, lim_line hl, q _ _ _ _ r3 (.at rfl) p4⟩)
      · cases e
    · split at e
      · next ts e1 =>
        have e' := Option.some.inj e
        obtain ⟨a, vs, rfl, h2, h3⟩ := r3.view w3 e1
        refine .inl ⟨a, vs, rfl, SqL.of h2, fun p hp => ?_⟩
        exact r3.make own e' (k := .lst) hp rfl (cut_rel h3 lo hi) fun F4 ρ4 r4 w4 p5 => q _ _ _ _ r4 w4 (p4.trans p5)
      · next ts e1 =>
        have e' := Option.some.inj e
        obtain ⟨a, vs, rfl, h2, h3⟩ := r3.view w3 e1
        refine .inl ⟨a, vs, rfl, h2, fun p hp => ?_⟩
        exact r3.make own e' (k := .lst) hp rfl (cut_rel h3 lo hi) fun F4 ρ4 r4 w4 p5 => q _ _ _ _ r4 w4 (p4.trans p5)
      · next ts e1 =>
        split at e
        · cases e
        · next hc =>
          cases e
          obtain ⟨a, vs, rfl, h2, h3⟩ := r3.view w3 e1
          refine .inr (.inl ⟨a, vs, rfl, h2, by rw [Paired.length h3]; exact hc, fun p hp => ?_⟩)
          obtain ⟨r4, w4, p5⟩ := r3.allocF (k := .tup) hp rfl (cut_rel h3 lo hi)
          exact q _ _ _ _ r4 w4 (p4.trans p5)
      · cases e
theorem Paired.rev {R : V → T → Prop} {vs : List V} {ts : List T} (p : Paired R vs ts) : Paired R vs.reverse ts.reverse := by
  refine Paired.of_ix (by rw [List.length_reverse, List.length_reverse, Paired.length p]) fun j v t a b => ?_
  have hv : j < vs.length := by have := (List.getElem?_eq_some_iff.mp a).1; simpa using this
  have ht : j < ts.length := by have := (List.getElem?_eq_some_iff.mp b).1; simpa using this
  rw [List.getElem?_reverse hv] at a
  rw [List.getElem?_reverse ht, ← Paired.length p] at b
  exact Paired.ix p _ _ _ a b
/-- xs[::-1] -/
def CE.rev (own : Bool) (a : CE K) : CE K where
  te := tRevL K a.te
  ev s := (a.ev s).bind fun p => match view p.1 p.2 with
    | some (.lst, ts) => some (allocT own p.2 .lst ts.reverse)
    | _ => none
  ok := by
    intro s t s' e
    obtain ⟨⟨t1, s1⟩, h1, e⟩ := Option.bind_eq_some_iff.mp e
    intro σ F H ρ Q r q
    refine a.ok _ _ _ h1 σ F H ρ _ r fun v1 F1 H1 ρ1 r1 w1 p1 => ?_
    dsimp only at e
    split at e
    · next ts e1 =>
      have e' := Option.some.inj e
      obtain ⟨a, vs, rfl, h2, h3⟩ := r1.view w1 e1
      refine ⟨a, vs, rfl, SqL.of h2, fun p hp => ?_⟩
      exact r1.make own e' (k := .lst) hp rfl (Z.Paired.rev h3) fun F4 ρ4 r4 w4 p5 => q _ _ _ _ r4 w4 (p1.trans p5)
    · cases e

/-! ### calls of built-ins -/
def ON.gcd : ON K where
  r := rGcd
  f ts s := match ts with
    | [.at (.int a), .at (.int b)] => some (.at (.int ((Nat.gcd a.natAbs b.natAbs : Nat) : Int)), s)
    | _ => none
  ok := by
    intro ts s t s' e σ F H ρ xs Q r w q
    split at e
    · cases e
      obtain ⟨x, y, rfl, w1, w2⟩ := Paired.two w
      exact ⟨_, _, by rw [w1.at_inv.1, w2.at_inv.1], q _ F H ρ r (.at rfl) Stp.refl⟩
    · cases e
def ON.int : ON K where
  r := fun xs H Q => (∃ i, xs = [.int i] ∧ Q (.int i) H) ∨ ∃ k, xs = [.bl k] ∧ Q (.int (if k then 1 else 0)) H
  f ts s := match ts with
    | [.at (.int a)] => some (.at (.int a), s)
    | [.at (.bl k)] => some (.at (.int (if k then 1 else 0)), s)
    | _ => none
  ok := by
    intro ts s t s' e σ F H ρ xs Q r w q
    split at e
    · cases e
      obtain ⟨x, rfl, w1⟩ := Paired.one w
      exact .inl ⟨_, by rw [w1.at_inv.1], q _ F H ρ r (.at rfl) Stp.refl⟩
    · cases e
      obtain ⟨x, rfl, w1⟩ := Paired.one w
      exact .inr ⟨_, by rw [w1.at_inv.1], q _ F H ρ r (.at rfl) Stp.refl⟩
    · cases e
def ON.min2 : ON K where
  r := fun xs H Q => ∃ i j, xs = [.int i, .int j] ∧ Q (.int (if j < i then j else i)) H
  f ts s := match ts with
    | [.at (.int i), .at (.int j)] => some (.at (.int (if j < i then j else i)), s)
    | _ => none
  ok := by
    intro ts s t s' e σ F H ρ xs Q r w q
    split at e
    · cases e
      obtain ⟨x, y, rfl, w1, w2⟩ := Paired.two w
      exact ⟨_, _, by rw [w1.at_inv.1, w2.at_inv.1], q _ F H ρ r (.at rfl) Stp.refl⟩
    · cases e
def ON.max2 : ON K where
  r := fun xs H Q => ∃ i j, xs = [.int i, .int j] ∧ Q (.int (if j > i then j else i)) H
  f ts s := match ts with
    | [.at (.int i), .at (.int j)] => some (.at (.int (if j > i then j else i)), s)
    | _ => none
  ok := by
    intro ts s t s' e σ F H ρ xs Q r w q
    split at e
    · cases e
      obtain ⟨x, y, rfl, w1, w2⟩ := Paired.two w
      exact ⟨_, _, by rw [w1.at_inv.1, w2.at_inv.1], q _ F H ρ r (.at rfl) Stp.refl⟩
    · cases e
def lenF (t : T) (s : S) : Option Int := match t with
  | .at (.str z) => if z.length ≤ lim then some z.length else none
  | t => match view t s with
    | some (.dK _, _) => none
    | some (_, ts) => some ts.length
    | none => none
def rLenZ (K : PySem.W.Frag) : List V → Hp → VK → Prop := fun xs H Q => (∃ p ys, xs = [.ref p] ∧ (SqL K H p ys ∨ SqT K H p ys) ∧ Q (.int ys.length) H) ∨ ∃ z, xs = [.str z] ∧ z.length ≤ sizeLine ∧ Q (.int z.length) H
theorem c_len {X : Cx} : CallR X (.builtin "len") (rLenZ X.K) := call_len_seq.or call_len_str
def ON.len : ON K where
  r := rLenZ K
  f ts s := match ts with
    | [t] => (lenF t s).map fun n => (.at (.int n), s)
    | _ => none
  ok := by
    intro ts s t s' e σ F H ρ xs Q r w q
    split at e
    · next t1 =>
      obtain ⟨n, e1, e2⟩ := Option.map_eq_some_iff.mp e
      cases e2
      obtain ⟨x, rfl, w1⟩ := Paired.one w
      unfold lenF at e1
      split at e1
      · split at e1
        · next hl => cases e1; exact .inr ⟨_, by rw [w1.at_inv.1], lim_line hl, q _ F H ρ r (.at rfl) Stp.refl⟩
        · cases e1
      · split at e1
        · cases e1
        · next k ts hk e2 =>
          cases e1
          obtain ⟨a, vs, rfl, h2, h3⟩ := r.view w1 e2
          have hq : SqL K H a vs ∨ SqT K H a vs := by
            cases k with
            | tup => exact .inr h2
            | lst => exact .inl (SqL.of h2)
            | lsR => exact .inl h2
            | dK ks => exact (hk ks rfl).elim
          refine .inl ⟨a, vs, rfl, hq, ?_⟩
          rw [Paired.length h3]
          exact q _ F H ρ r (.at rfl) Stp.refl
        · cases e1
    · cases e
/-- list(xs): a copy -/
def ON.list (own : Bool) : ON K where
  r := fun xs H Q => ∃ p ys, xs = [.ref p] ∧ (SqL K H p ys ∨ SqT K H p ys) ∧ ∀ l, H l = none → Q (.ref l) (upd H l (.lst ys))
  f ts s := match ts with
    | [t] => match view t s with
      | some (.lst, us) => some (allocT own s .lst us)
      | some (.lsR, us) => some (allocT own s .lst us)
      | some (.tup, us) => some (allocT own s .lst us)
      | _ => none
    | _ => none
  ok := by
    intro ts s t s' e σ F H ρ xs Q r w q
    split at e
    · next t1 =>
      obtain ⟨x, rfl, w1⟩ := Paired.one w
      have gen : ∀ {a vs us}, x = .ref a → (SqL K H a vs ∨ SqT K H a vs) → TRL K ρ s.hp.length F vs us → some (allocT own s .lst us) = some (t, s') → ∃ p ys, [x] = [V.ref p] ∧ (SqL K H p ys ∨ SqT K H p ys) ∧ ∀ l, H l = none → Q (.ref l) (upd H l (.lst ys)) := fun {a vs us} hx hs hv e => by
        refine ⟨a, vs, by rw [hx], hs, fun p hp => ?_⟩
        exact r.make own (Option.some.inj e) (k := .lst) hp rfl hv fun F4 ρ4 r4 w4 p5 => q _ _ _ _ r4 w4 p5
      split at e
      · next us e1 => obtain ⟨a, vs, h1, h2, h3⟩ := r.view w1 e1; exact gen h1 (.inl (SqL.of h2)) h3 e
      · next us e1 => obtain ⟨a, vs, h1, h2, h3⟩ := r.view w1 e1; exact gen h1 (.inl h2) h3 e
      · next us e1 => obtain ⟨a, vs, h1, h2, h3⟩ := r.view w1 e1; exact gen h1 (.inr h2) h3 e
      · cases e
    · cases e
def ints? : List T → Option (List Int)
  | [] => some []
  | .at (.int i) :: ts => (ints? ts).map (i :: ·)
  | _ => none
def strs? : List T → Option (List Str)
  | [] => some []
  | .at (.str x) :: ts => (strs? ts).map (x :: ·)
  | _ => none
def bls? : List T → Option (List Bool)
  | [] => some []
  | .at (.bl b) :: ts => (bls? ts).map (b :: ·)
  | _ => none
theorem ints_rel {ρ : Nat → Addr} {N : Nat} {F : Hp} : ∀ {ts : List T} {vs : List V} {ns : List Int}, TRL K ρ N F vs ts → ints? ts = some ns → vs = ns.map V.int
  | [], vs, ns, h, e => by cases h; cases e; rfl
  | .at (.int i) :: ts, _, ns, .cons r p, e => by
    obtain ⟨ms, h1, h2⟩ := Option.map_eq_some_iff.mp (show (ints? ts).map (i :: ·) = some ns from e)
    subst h2
    rw [r.at_inv.1, ints_rel p h1]; rfl
  | .at .non :: _, _, _, _, e => nomatch e
  | .at (.bl _) :: _, _, _, _, e => nomatch e
  | .at (.str _) :: _, _, _, _, e => nomatch e
  | .at (.byt _) :: _, _, _, _, e => nomatch e
  | .at (.flt _) :: _, _, _, _, e => nomatch e
  | .at (.ref _) :: _, _, _, _, e => nomatch e
  | .at (.ty _) :: _, _, _, _, e => nomatch e
  | .ptr _ :: _, _, _, _, e => nomatch e
  | .nd _ _ :: _, _, _, _, e => nomatch e
theorem strs_rel {ρ : Nat → Addr} {N : Nat} {F : Hp} : ∀ {ts : List T} {vs : List V} {ns : List Str}, TRL K ρ N F vs ts → strs? ts = some ns → vs = ns.map V.str
  | [], vs, ns, h, e => by cases h; cases e; rfl
  | .at (.str i) :: ts, _, ns, .cons r p, e => by
    obtain ⟨ms, h1, h2⟩ := Option.map_eq_some_iff.mp (show (strs? ts).map (i :: ·) = some ns from e)
    subst h2
    rw [r.at_inv.1, strs_rel p h1]; rfl
  | .at .non :: _, _, _, _, e => nomatch e
  | .at (.bl _) :: _, _, _, _, e => nomatch e
  | .at (.int _) :: _, _, _, _, e => nomatch e
  | .at (.byt _) :: _, _, _, _, e => nomatch e
  | .at (.flt _) :: _, _, _, _, e => nomatch e
  | .at (.ref _) :: _, _, _, _, e => nomatch e
  | .at (.ty _) :: _, _, _, _, e => nomatch e
  | .ptr _ :: _, _, _, _, e => nomatch e
  | .nd _ _ :: _, _, _, _, e => nomatch e
theorem bls_rel {ρ : Nat → Addr} {N : Nat} {F : Hp} : ∀ {ts : List T} {vs : List V} {ns : List Bool}, TRL K ρ N F vs ts → bls? ts = some ns → vs = ns.map V.bl
  | [], vs, ns, h, e => by cases h; cases e; rfl
  | .at (.bl i) :: ts, _, ns, .cons r p, e => by
    obtain ⟨ms, h1, h2⟩ := Option.map_eq_some_iff.mp (show (bls? ts).map (i :: ·) = some ns from e)
    subst h2
    rw [r.at_inv.1, bls_rel p h1]; rfl
  | .at .non :: _, _, _, _, e => nomatch e
  | .at (.int _) :: _, _, _, _, e => nomatch e
  | .at (.str _) :: _, _, _, _, e => nomatch e
  | .at (.byt _) :: _, _, _, _, e => nomatch e
  | .at (.flt _) :: _, _, _, _, e => nomatch e
  | .at (.ref _) :: _, _, _, _, e => nomatch e
  | .at (.ty _) :: _, _, _, _, e => nomatch e
  | .ptr _ :: _, _, _, _, e => nomatch e
  | .nd _ _ :: _, _, _, _, e => nomatch e
def ON.sum : ON K where
  r := rSum K
  f ts s := match ts with
    | [t] => match view t s with
      | some (.lst, us) => (ints? us).map fun ns => (.at (.int ns.sum), s)
      | _ => none
    | _ => none
  ok := by
    intro ts s t s' e σ F H ρ xs Q r w q
    split at e
    · next t1 =>
      obtain ⟨x, rfl, w1⟩ := Paired.one w
      split at e
      · next us e1 =>
        obtain ⟨ns, e2, e3⟩ := Option.map_eq_some_iff.mp e
        cases e3
        obtain ⟨a, vs, rfl, h2, h3⟩ := r.view w1 e1
        exact ⟨a, ns, rfl, by rw [← ints_rel h3 e2]; exact SqL.of h2, q _ F H ρ r (.at rfl) Stp.refl⟩
      · cases e
    · cases e
def ON.any : ON K where
  r := rAny K
  f ts s := match ts with
    | [t] => match view t s with
      | some (.lst, us) => (bls? us).map fun ns => (.at (.bl (ns.any id)), s)
      | _ => none
    | _ => none
  ok := by
    intro ts s t s' e σ F H ρ xs Q r w q
    split at e
    · next t1 =>
      obtain ⟨x, rfl, w1⟩ := Paired.one w
      split at e
      · next us e1 =>
        obtain ⟨ns, e2, e3⟩ := Option.map_eq_some_iff.mp e
        cases e3
        obtain ⟨a, vs, rfl, h2, h3⟩ := r.view w1 e1
        exact ⟨a, ns, rfl, by rw [← bls_rel h3 e2]; exact SqL.of h2, q _ F H ρ r (.at rfl) Stp.refl⟩
      · cases e
    · cases e
def ON.all : ON K where
  r := rAll K
  f ts s := match ts with
    | [t] => match view t s with
      | some (.lst, us) => (bls? us).map fun ns => (.at (.bl (ns.all id)), s)
      | _ => none
    | _ => none
  ok := by
    intro ts s t s' e σ F H ρ xs Q r w q
    split at e
    · next t1 =>
      obtain ⟨x, rfl, w1⟩ := Paired.one w
      split at e
      · next us e1 =>
        obtain ⟨ns, e2, e3⟩ := Option.map_eq_some_iff.mp e
        cases e3
        obtain ⟨a, vs, rfl, h2, h3⟩ := r.view w1 e1
        exact ⟨a, ns, rfl, by rw [← bls_rel h3 e2]; exact SqL.of h2, q _ F H ρ r (.at rfl) Stp.refl⟩
      · cases e
    · cases e
/-! sorted texts -/
def leS (a b : Str) : Bool := !decide (b.cps.toList < a.cps.toList)
def sortS (xs : List Str) : List Str := xs.mergeSort leS
theorem ltCps_lt : ∀ (a b : List Nat), ltCps a b = decide (a < b)
  | [], [] => by simp [ltCps]
  | [], b :: bs => by simp [ltCps]
  | a :: as, [] => by simp [ltCps]
  | a :: as, b :: bs => by
    show (decide (a < b) || (a == b && ltCps as bs)) = decide (a :: as < b :: bs)
    rw [ltCps_lt as bs]
    by_cases h : a < b
    · simp [h, List.cons_lt_cons_iff]
    · by_cases h2 : a = b
      · simp [h2, List.cons_lt_cons_iff]
      · simp [h, h2, List.cons_lt_cons_iff]
theorem leS_trans (a b c : Str) (h1 : leS a b = true) (h2 : leS b c = true) : leS a c = true := by
  unfold leS at *
  simp only [Bool.not_eq_true', decide_eq_false_iff_not, List.not_lt] at *
  exact List.le_trans h1 h2
theorem leS_total (a b : Str) : (leS a b || leS b a) = true := by
  unfold leS
  simp only [Bool.or_eq_true, Bool.not_eq_true', decide_eq_false_iff_not, List.not_lt]
  exact List.le_total a.cps.toList b.cps.toList
theorem leS_antisymm (a b : Str) (h1 : leS a b = true) (h2 : leS b a = true) : a = b := by
  unfold leS at *
  simp only [Bool.not_eq_true', decide_eq_false_iff_not, List.not_lt] at *
  have e := List.le_antisymm h1 h2
  cases a; cases b
  simp only at e
  congr
  exact Array.toList_inj.mp e
theorem sortedS_pairwise : ∀ {ys : List Str}, sortedS ys = true → ys.Pairwise (fun a b => leS a b = true)
  | [], _ => .nil
  | [x], _ => .cons (fun _ h => nomatch h) .nil
  | x :: y :: r, h => by
    have h' : (!ltCps y.cps.toList x.cps.toList && risingS y r) = true := h
    rw [Bool.and_eq_true, ltCps_lt] at h'
    have ih := sortedS_pairwise (ys := y :: r) h'.2
    refine .cons (fun z hz => ?_) ih
    rcases List.mem_cons.mp hz with e | hz
    · subst e; exact h'.1
    · exact leS_trans x y z h'.1 ((List.pairwise_cons.mp ih).1 z hz)
theorem sortS_eq {xs ys : List Str} (p : ys.Perm xs) (h : sortedS ys = true) : ys = sortS xs := by
  refine List.Perm.eq_of_pairwise (le := fun a b => leS a b = true) (fun a b _ _ => leS_antisymm a b) (sortedS_pairwise h) (List.pairwise_mergeSort (fun a b c => leS_trans a b c) (fun a b => leS_total a b) xs) ?_
  exact p.trans (List.mergeSort_perm xs leS).symm
def keyStrs : List Key → Option (List Str)
  | [] => some []
  | .inr x :: ks => (keyStrs ks).map (x :: ·)
  | .inl _ :: _ => none
theorem keyStrs_map : ∀ {ks : List Key} {xs : List Str}, keyStrs ks = some xs → ks = xs.map Sum.inr
  | [], xs, e => by cases e; rfl
  | .inr x :: ks, xs, e => by
    obtain ⟨ys, h1, h2⟩ := Option.map_eq_some_iff.mp (show (keyStrs ks).map (x :: ·) = some xs from e)
    subst h2
    rw [keyStrs_map h1]; rfl
  | .inl _ :: _, _, e => nomatch e
def rSortZ (K : PySem.W.Frag) : List V → Hp → VK → Prop := fun xs H Q => rSortedS K xs H Q ∨ ∃ (a : Addr) (kvs : List (Key × V)) (ks : List Str), xs = [.ref a] ∧ Rd H a (.dK kvs) ∧ kvs.map (·.1) = ks.map Sum.inr ∧ ks.length < 64 ∧
    ∀ ys p, ys.Perm ks → sortedS ys = true → H p = none → Q (.ref p) (upd H p (.lst (ys.map V.str)))
theorem c_sorted {X : Cx} (hc : X.calm = true) : CallR X (.builtin "sorted") (rSortZ X.K) := cr_sortedS.or (call_sortedD hc)
theorem trl_strs {ρ : Nat → Addr} {N : Nat} {F : Hp} : ∀ xs : List Str, TRL K ρ N F (xs.map V.str) (xs.map fun x => T.at (.str x))
  | [] => .nil
  | x :: xs => .cons (.at rfl) (trl_strs xs)
def ON.sorted (own : Bool) : ON K where
  r := rSortZ K
  f ts s := match ts with
    | [t] => match view t s with
      | some (.lst, us) => (strs? us).bind fun xs => if xs.length < 64 then some (allocT own s .lst ((sortS xs).map fun x => T.at (.str x))) else none
      | some (.dK ks, _) => (keyStrs ks).bind fun xs => if xs.length < 64 then some (allocT own s .lst ((sortS xs).map fun x => T.at (.str x))) else none
      | _ => none
    | _ => none
  ok := by
    intro ts s t s' e σ F H ρ xs Q r w q
    split at e
    · next t1 =>
      obtain ⟨x, rfl, w1⟩ := Paired.one w
      split at e
      · next us e1 =>
        obtain ⟨ns, e2, e3⟩ := Option.bind_eq_some_iff.mp e
        split at e3
        · next hl =>
          have e' := Option.some.inj e3
          obtain ⟨a, vs, rfl, h2, h3⟩ := r.view w1 e1
          refine .inl ⟨a, ns, rfl, by rw [← strs_rel h3 e2]; exact SqL.of h2, hl, fun ys p hp hs hn => ?_⟩
          rw [sortS_eq hp hs]
          exact r.make own e' (k := .lst) hn rfl (trl_strs (sortS ns)) fun F4 ρ4 r4 w4 p5 => q _ _ _ _ r4 w4 p5
        · cases e3
      · next ks us e1 =>
        obtain ⟨ns, e2, e3⟩ := Option.bind_eq_some_iff.mp e
        split at e3
        · next hl =>
          have e' := Option.some.inj e3
          obtain ⟨a, vs, rfl, h2, h3⟩ := r.view w1 e1
          refine .inr ⟨a, _, ns, rfl, h2.2, ?_, hl, fun ys p hp hs hn => ?_⟩
          · rw [← keyStrs_map e2, List.map_fst_zip (Nat.le_of_eq h2.1)]
          · rw [sortS_eq hp hs]
            exact r.make own e' (k := .lst) hn rfl (trl_strs (sortS ns)) fun F4 ρ4 r4 w4 p5 => q _ _ _ _ r4 w4 p5
        · cases e3
      · cases e
    · cases e
end
end Z
set_option Elab.async false
set_option linter.all false
set_option maxRecDepth 100000
/-! Z: cells fixed, iterators, targets, statements, loops, comprehensions. -/
namespace Z
open PySem PySem.Spec PyProof.Rows L2
section
variable {K : PySem.W.Frag}
/-! ### a value fixed: no cell of the own is left in it -/
def frzL (g : T → S → Option (T × S)) : List T → S → Option (List T × S)
  | [], s => some ([], s)
  | t :: ts, s => (g t s).bind fun p => (frzL g ts p.2).bind fun q => some (p.1 :: q.1, q.2)
def frzT : Nat → T → S → Option (T × S)
  | 0, t, s => if pureT t = true then some (t, s) else none
  | f + 1, t, s => if pureT t = true then some (t, s) else match t with
    | .at v => some (.at v, s)
    | .nd k ts => (frzL (frzT f) ts s).bind fun p => some (.nd k p.1, p.2)
    | .ptr n => match s.hp[n]? with
      | some (.own k ts) => frzT f (.nd k ts) (s.fix n k ts)
      | some (.fro k ts) => frzT f (.nd k ts) s
      | none => none
def FrzOk (K : PySem.W.Frag) (t : T) (s : S) (t' : T) (s' : S) : Prop := pureT t' = true ∧ ∀ (σ : L2.St) (F H : Hp) (ρ : Nat → Addr) (v : V), Rel K s σ F H ρ → TR K ρ s.hp.length F v t →
  ∃ F', Rel K s' σ F' H ρ ∧ Stp s ρ F H s' ρ F' H ∧ TR K ρ s'.hp.length F' v t'
def FrzLOk (K : PySem.W.Frag) (t : List T) (s : S) (t' : List T) (s' : S) : Prop := pureL t' = true ∧ ∀ (σ : L2.St) (F H : Hp) (ρ : Nat → Addr) (v : List V), Rel K s σ F H ρ → TRL K ρ s.hp.length F v t →
  ∃ F', Rel K s' σ F' H ρ ∧ Stp s ρ F H s' ρ F' H ∧ TRL K ρ s'.hp.length F' v t'
theorem frzL_ok {g : T → S → Option (T × S)} (hg : ∀ t s t' s', g t s = some (t', s') → FrzOk K t s t' s') : ∀ (ts : List T) (s : S) (ts' : List T) (s' : S), frzL g ts s = some (ts', s') → FrzLOk K ts s ts' s'
  | [], s, ts', s', e => by
    cases e
    exact ⟨rfl, fun σ F H ρ v r w => ⟨F, r, Stp.refl, w⟩⟩
  | t :: ts, s, ts', s', e => by
    obtain ⟨⟨t1, s1⟩, h1, e⟩ := Option.bind_eq_some_iff.mp (show (g t s).bind (fun p => (frzL g ts p.2).bind fun q => some (p.1 :: q.1, q.2)) = some (ts', s') from e)
    obtain ⟨⟨us, s2⟩, h2, e⟩ := Option.bind_eq_some_iff.mp e
    cases e
    obtain ⟨p1, q1⟩ := hg _ _ _ _ h1
    obtain ⟨p2, q2⟩ := frzL_ok hg ts s1 us s2 h2
    refine ⟨by show (pureT t1 && pureL us) = true; rw [p1, p2]; rfl, fun σ F H ρ v r w => ?_⟩
    cases w with
    | cons w ws =>
      obtain ⟨F1, r1, st1, w1⟩ := q1 σ F H ρ _ r w
      obtain ⟨F2, r2, st2, w2⟩ := q2 σ F1 H ρ _ r1 (TRL.stp ws st1)
      exact ⟨F2, r2, st1.trans st2, .cons (w1.stp st2) w2⟩
theorem frzT_ok : ∀ (f : Nat) (t : T) (s : S) (t' : T) (s' : S), frzT f t s = some (t', s') → FrzOk K t s t' s'
  | 0, t, s, t', s', e => by
    simp only [frzT] at e
    split at e
    · next h => cases e; exact ⟨h, fun σ F H ρ v r w => ⟨F, r, Stp.refl, w⟩⟩
    · cases e
  | f + 1, t, s, t', s', e => by
    simp only [frzT] at e
    split at e
    · next h => cases e; exact ⟨h, fun σ F H ρ v r w => ⟨F, r, Stp.refl, w⟩⟩
    · split at e
      · cases e; exact ⟨rfl, fun σ F H ρ v r w => ⟨F, r, Stp.refl, w⟩⟩
      · next k ts _ =>
        obtain ⟨⟨us, s1⟩, h1, e⟩ := Option.bind_eq_some_iff.mp e
        cases e
        obtain ⟨p1, q1⟩ := frzL_ok (fun t s t' s' h => frzT_ok f t s t' s' h) ts s us s1 h1
        refine ⟨p1, fun σ F H ρ v r w => ?_⟩
        obtain ⟨a, vs, rfl, h2, h3⟩ := w.nd_inv
        obtain ⟨F1, r1, st1, w1⟩ := q1 σ F H ρ vs r h3
        exact ⟨F1, r1, st1, TR.ndL (h2.ex st1.fx) w1⟩
      · next n _ =>
        split at e
        · next k ts h =>
          obtain ⟨p1, q1⟩ := frzT_ok f _ _ _ _ e
          refine ⟨p1, fun σ F H ρ v r w => ?_⟩
          obtain ⟨rfl, hn⟩ := w.ptr_inv
          obtain ⟨F1, r1, st1, w1⟩ := r.fix h
          have hl : (s.fix n k ts).hp.length = s.hp.length := by simp [S.fix]
          obtain ⟨F2, r2, st2, w2⟩ := q1 σ F1 H ρ _ r1 (by rw [hl]; exact w1)
          exact ⟨F2, r2, st1.trans st2, w2⟩
        · next k ts h =>
          obtain ⟨p1, q1⟩ := frzT_ok f _ _ _ _ e
          refine ⟨p1, fun σ F H ρ v r w => ?_⟩
          obtain ⟨rfl, hn⟩ := w.ptr_inv
          obtain ⟨vs, g1, g2⟩ := r.fro n k ts h
          exact q1 σ F H ρ _ r (TR.ndL g1 g2)
        · cases e
abbrev frz : T → S → Option (T × S) := frzT 8
abbrev frzs : List T → S → Option (List T × S) := frzL frz
theorem frz_ok {t : T} {s : S} {t' : T} {s' : S} (h : frz t s = some (t', s')) : FrzOk K t s t' s' := frzT_ok 8 t s t' s' h
theorem frzs_ok {t : List T} {s : S} {t' : List T} {s' : S} (h : frzs t s = some (t', s')) : FrzLOk K t s t' s' := frzL_ok (fun _ _ _ _ h => frzT_ok 8 _ _ _ _ h) t s t' s' h
theorem frz_pure {t : T} {s : S} (h : pureT t = true) : frz t s = some (t, s) := by
  show frzT 8 t s = _
  simp only [frzT, h, if_true]
theorem frzs_pure : ∀ {ts : List T} {s : S}, pureL ts = true → frzs ts s = some (ts, s)
  | [], s, _ => rfl
  | t :: ts, s, h => by
    have h' : (pureT t && pureL ts) = true := h
    rw [Bool.and_eq_true] at h'
    show ((frz t s).bind fun p => (frzs ts p.2).bind fun q => some (p.1 :: q.1, q.2)) = _
    rw [frz_pure h'.1]
    show ((frzs ts s).bind fun q => some (t :: q.1, q.2)) = _
    rw [frzs_pure h'.2]
    rfl

/-! ### what is walked -/
/-- at any later state turn i gives the i-th of ts -/
def Yields (K : PySem.W.Frag) (J : It) (ts : List T) (s : S) (ρ : Nat → Addr) (F H : Hp) : Prop := ∀ (s2 : S) (σ2 : L2.St) (F2 H2 : Hp) (ρ2 : Nat → Addr), Rel K s2 σ2 F2 H2 ρ2 → Stp s ρ F H s2 ρ2 F2 H2 → ∀ i : Nat,
  (i = ts.length → J.stop i H2) ∧ ∀ t, ts[i]? = some t → J.go i H2 ∧ ∀ x H3, J.yld i H2 x H3 → ∃ F3, Rel K s2 σ2 F3 H3 ρ2 ∧ Stp s2 ρ2 F2 H2 s2 ρ2 F3 H3 ∧ TR K ρ2 s2.hp.length F3 x t
def ItOk (K : PySem.W.Frag) (wi : TI) (s : S) (ts : List T) (s' : S) : Prop := ∀ (σ : L2.St) (F H : Hp) (ρ : Nat → Addr) (R : It → Hp → Prop), Rel K s σ F H ρ →
  (∀ J F' H' ρ', Rel K s' σ F' H' ρ' → Stp s ρ F H s' ρ' F' H' → Yields K J ts s' ρ' F' H' → R J H') → wi σ H R
structure CI (K : PySem.W.Frag) where
  wi : TI
  ev : EvR (List T)
  ok : ∀ s ts s', ev s = some (ts, s') → ItOk K wi s ts s'
theorem yields_list {a : Addr} {ts : List T} {vs : List V} {s : S} {ρ : Nat → Addr} {F H : Hp} (hq : SqL K F a vs) (hv : TRL K ρ s.hp.length F vs ts) : Yields K (Itl K a) ts s ρ F H := by
  intro s2 σ2 F2 H2 ρ2 r2 st i
  have h2 : SqL K H2 a vs := r2.ex.sqL (Evl.ex_l st.fx hq)
  refine ⟨fun e => ⟨vs, h2, by rw [e, Paired.length hv]; exact Nat.le_refl _⟩, fun t ht => ?_⟩
  obtain ⟨v, e1, e2⟩ := Paired.getR hv ht
  refine ⟨⟨vs, v, h2, e1⟩, fun x H3 y => ?_⟩
  obtain ⟨e3, y⟩ := y
  subst e3
  have e4 : x = v := Option.some.inj ((y vs h2).symm.trans e1)
  subst e4
  exact ⟨F2, r2, Stp.refl, e2.stp st⟩
theorem yields_tup {a : Addr} {ts : List T} {vs : List V} {s : S} {ρ : Nat → Addr} {F H : Hp} (hq : SqT K F a vs) (hv : TRL K ρ s.hp.length F vs ts) : Yields K (Itt K a) ts s ρ F H := by
  intro s2 σ2 F2 H2 ρ2 r2 st i
  have h2 : SqT K H2 a vs := r2.ex.sqT (Evl.ex_t st.fx hq)
  refine ⟨fun e => ⟨vs, h2, by rw [e, Paired.length hv]; exact Nat.le_refl _⟩, fun t ht => ?_⟩
  obtain ⟨v, e1, e2⟩ := Paired.getR hv ht
  refine ⟨⟨vs, v, h2, e1⟩, fun x H3 y => ?_⟩
  obtain ⟨e3, y⟩ := y
  subst e3
  have e4 : x = v := Option.some.inj ((y vs h2).symm.trans e1)
  subst e4
  exact ⟨F2, r2, Stp.refl, e2.stp st⟩
def itSeqF (t : T) (s : S) : Option (List T × S) := (frz t s).bind fun q => match q.1 with
  | .nd .lst ts => some (ts, q.2)
  | .nd .lsR ts => some (ts, q.2)
  | .nd .tup ts => some (ts, q.2)
  | _ => none
/-- a list, a tuple -/
def iSeqZ (K : PySem.W.Frag) (ta : TE) : TI := fun σ H R => iList K ta σ H R ∨ iTup K ta σ H R
def CI.seq (a : CE K) : CI K where
  wi := iSeqZ K a.te
  ev s := (a.ev s).bind fun p => itSeqF p.1 p.2
  ok := by
    intro s ts s' e
    obtain ⟨⟨t1, s1⟩, h1, e⟩ := Option.bind_eq_some_iff.mp e
    obtain ⟨⟨t2, s2⟩, h2, e⟩ := Option.bind_eq_some_iff.mp (show (frz t1 s1).bind _ = some (ts, s') from e)
    obtain ⟨p2, q2⟩ := frz_ok (K := K) h2
    intro σ F H ρ R r q
    have gen : ∀ {v1 : V} {F1 H1 : Hp} {ρ1 : Nat → Addr}, Rel K s1 σ F1 H1 ρ1 → TR K ρ1 s1.hp.length F1 v1 t1 → Stp s ρ F H s1 ρ1 F1 H1 → ∃ F2, Rel K s2 σ F2 H1 ρ1 ∧ Stp s ρ F H s2 ρ1 F2 H1 ∧ TR K ρ1 s2.hp.length F2 v1 t2 := fun {v1 F1 H1 ρ1} r1 w1 p1 => by
      obtain ⟨F2, r2, st2, w2⟩ := q2 σ F1 H1 ρ1 v1 r1 w1
      exact ⟨F2, r2, p1.trans st2, w2⟩
    dsimp only at e
    split at e
    · next us =>
      cases e
      refine .inl (a.ok _ _ _ h1 σ F H ρ _ r fun v1 F1 H1 ρ1 r1 w1 p1 => ?_)
      obtain ⟨F2, r2, st2, w2⟩ := gen r1 w1 p1
      obtain ⟨a, vs, rfl, g1, g2⟩ := w2.nd_inv
      exact ⟨a, rfl, ⟨vs, SqL.of (g1.now r2.ex)⟩, q _ F2 H1 ρ1 r2 st2 (yields_list (SqL.of g1) g2)⟩
    · next us =>
      cases e
      refine .inl (a.ok _ _ _ h1 σ F H ρ _ r fun v1 F1 H1 ρ1 r1 w1 p1 => ?_)
      obtain ⟨F2, r2, st2, w2⟩ := gen r1 w1 p1
      obtain ⟨a, vs, rfl, g1, g2⟩ := w2.nd_inv
      exact ⟨a, rfl, ⟨vs, g1.now r2.ex⟩, q _ F2 H1 ρ1 r2 st2 (yields_list g1 g2)⟩
    · next us =>
      cases e
      refine .inr (a.ok _ _ _ h1 σ F H ρ _ r fun v1 F1 H1 ρ1 r1 w1 p1 => ?_)
      obtain ⟨F2, r2, st2, w2⟩ := gen r1 w1 p1
      obtain ⟨a, vs, rfl, g1, g2⟩ := w2.nd_inv
      exact ⟨a, rfl, ⟨vs, g1.now r2.ex⟩, q _ F2 H1 ρ1 r2 st2 (yields_tup g1 g2)⟩
    · cases e
theorem pi_seqZ {X : Cx} {tg e : Expr} {te : TE} (h : PE X e te) : PI X tg e (fun σ H R => iList X.K te σ H R ∨ iTup X.K te σ H R) := pi_alt (pi_list h) (pi_tup h)
/-- the ints from lo on -/
def rngT (lo : Int) (n : Nat) : List T := (List.range n).map fun i => T.at (.int (lo + (i : Nat)))
theorem yields_rng {lo : Int} {n : Nat} {s : S} {ρ : Nat → Addr} {F H : Hp} : Yields K (Itr lo n) (rngT lo n) s ρ F H := by
  intro s2 σ2 F2 H2 ρ2 r2 st i
  have hl : (rngT lo n).length = n := by simp [rngT]
  refine ⟨fun e => ?_, fun t ht => ?_⟩
  · show n ≤ i
    omega
  · have hi := (List.getElem?_eq_some_iff.mp ht).1
    rw [hl] at hi
    refine ⟨hi, fun x H3 y => ?_⟩
    obtain ⟨e3, y⟩ := y
    subst e3 y
    have e4 : t = T.at (.int (lo + (i : Nat))) := by
      have : (rngT lo n)[i]? = some (T.at (.int (lo + (i : Nat)))) := by
        unfold rngT
        rw [List.getElem?_map, List.getElem?_range hi]
        rfl
      exact Option.some.inj (ht.symm.trans this)
    subst e4
    exact ⟨F2, r2, Stp.refl, .at rfl⟩
def CI.rng1 (a : CA K) : CI K where
  wi := iRng1 a.ta
  ev s := match a.ev s with
    | some ([.at (.int j)], s') => if -(2 ^ 62) ≤ j ∧ j < 2 ^ 62 then some (rngT 0 j.toNat, s') else none
    | _ => none
  ok := by
    intro s ts s' e
    split at e
    · next j s1 h1 =>
      split at e
      · next hj =>
        cases e
        intro σ F H ρ R r q
        refine a.ok _ _ _ h1 σ F H ρ _ r fun v1 F1 H1 ρ1 r1 w1 p1 => ?_
        obtain ⟨x, rfl, w⟩ := Paired.one w1
        exact ⟨j, by rw [w.at_inv.1], hj.1, hj.2, q _ F1 H1 ρ1 r1 p1 yields_rng⟩
      · cases e
    · cases e
def CI.rng2 (a : CA K) : CI K where
  wi := iRng2 a.ta
  ev s := match a.ev s with
    | some ([.at (.int i), .at (.int j)], s') => if -(2 ^ 62) ≤ i ∧ i < 2 ^ 62 ∧ -(2 ^ 62) ≤ j ∧ j < 2 ^ 62 then some (rngT i (j - i).toNat, s') else none
    | _ => none
  ok := by
    intro s ts s' e
    split at e
    · next i j s1 h1 =>
      split at e
      · next hj =>
        cases e
        intro σ F H ρ R r q
        refine a.ok _ _ _ h1 σ F H ρ _ r fun v1 F1 H1 ρ1 r1 w1 p1 => ?_
        obtain ⟨x, y, rfl, w, w'⟩ := Paired.two w1
        exact ⟨i, j, by rw [w.at_inv.1, w'.at_inv.1], hj, q _ F1 H1 ρ1 r1 p1 yields_rng⟩
      · cases e
    · cases e
/-- list(range(..)) -/
def CE.lrng1 (own : Bool) (a : CE K) : CE K where
  te := tLstRg (tRg1 a.te)
  ev s := match a.ev s with
    | some (.at (.int j), s') => if j ≤ 16777216 ∧ 0 ≤ j then some (allocT own s' .lst (rngT 0 j.toNat)) else none
    | _ => none
  ok := by
    intro s t s' e
    split at e
    · next j s1 h1 =>
      split at e
      · next hj =>
        have e' := Option.some.inj e
        clear e
        intro σ F H ρ Q r q
        refine a.ok _ _ _ h1 σ F H ρ _ r fun v1 F1 H1 ρ1 r1 w1 p1 => ⟨j, w1.at_inv.1, RgOk.of_le (by omega) hj.1 (by omega) hj.2, fun p hp => ?_⟩
        have w : TRL K ρ1 s1.hp.length F1 (rgV 0 j) (rngT 0 j.toNat) := by
          refine Paired.of_ix (by simp [rgV, rngT]) fun i v t a b => ?_
          unfold rgV at a
          unfold rngT at b
          rw [List.getElem?_map] at a b
          obtain ⟨i1, h1, h2⟩ := Option.map_eq_some_iff.mp a
          obtain ⟨i2, h3, h4⟩ := Option.map_eq_some_iff.mp b
          have e1 : (j - 0).toNat = j.toNat := by omega
          rw [e1] at h1
          have e2 : i1 = i2 := Option.some.inj (h1.symm.trans h3)
          subst e2 h2 h4
          exact .at rfl
        exact r1.make own e' (k := .lst) hp rfl w fun F4 ρ4 r4 w4 p5 => q _ _ _ _ r4 w4 (p1.trans p5)
      · cases e
    · cases e
def CE.lrng2 (own : Bool) (a b : CE K) : CE K where
  te := tLstRg (tRg2 a.te b.te)
  ev s := (a.ev s).bind fun p => match p.1, b.ev p.2 with
    | .at (.int i), some (.at (.int j), s') => if 0 ≤ i ∧ j ≤ 16777216 ∧ i ≤ 16777216 ∧ 0 ≤ j then some (allocT own s' .lst (rngT i (j - i).toNat)) else none
    | _, _ => none
  ok := by
    intro s t s' e
    obtain ⟨⟨t1, s1⟩, h1, e⟩ := Option.bind_eq_some_iff.mp e
    dsimp only at e
    split at e
    · next i j s2 h2 =>
      split at e
      · next hj =>
        have e' := Option.some.inj e
        clear e
        intro σ F H ρ Q r q
        refine a.ok _ _ _ h1 σ F H ρ _ r fun v1 F1 H1 ρ1 r1 w1 p1 => ?_
        refine b.ok _ _ _ h2 σ F1 H1 ρ1 _ r1 fun v2 F2 H2 ρ2 r2 w2 p2 => ⟨i, j, w1.at_inv.1, w2.at_inv.1, RgOk.of_le hj.1 hj.2.1 hj.2.2.1 hj.2.2.2, fun p hp => ?_⟩
        have w : TRL K ρ2 s2.hp.length F2 (rgV i j) (rngT i (j - i).toNat) := by
          refine Paired.of_ix (by simp [rgV, rngT]) fun i0 v t a b => ?_
          unfold rgV at a
          unfold rngT at b
          rw [List.getElem?_map] at a b
          obtain ⟨i1, h1, h2⟩ := Option.map_eq_some_iff.mp a
          obtain ⟨i2, h3, h4⟩ := Option.map_eq_some_iff.mp b
          have e2 : i1 = i2 := Option.some.inj (h1.symm.trans h3)
          subst e2 h2 h4
          exact .at rfl
        exact r2.make own e' (k := .lst) hp rfl w fun F4 ρ4 r4 w4 p5 => q _ _ _ _ r4 w4 ((p1.trans p2).trans p5)
      · cases e
    · cases e

/-! ### targets -/
def TgOk (K : PySem.W.Frag) (g : TG) (ws : List Nat) (t : T) (s : S) (s' : S) : Prop := ∀ (σ : L2.St) (F H : Hp) (ρ : Nat → Addr) (v : V) (Q : L2.St → Hp → Prop), Rel K s σ F H ρ → TR K ρ s.hp.length F v t →
  (∀ σ' F' H' ρ', Rel K s' σ' F' H' ρ' → Stp s ρ F H s' ρ' F' H' → (∀ i, i ∉ ws → σ'[i]? = σ[i]?) → Q σ' H') → g v σ H Q
structure CG (K : PySem.W.Frag) where
  g : TG
  ws : List Nat
  f : T → S → Option S
  ok : ∀ t s s', f t s = some s' → TgOk K g ws t s s'
  len : ∀ t s s', f t s = some s' → s'.sl.length = s.sl.length
def CG.name (i : Nat) : CG K where
  g := gName i
  ws := [i]
  f t s := some (s.set i t)
  ok := by
    intro t s s' e
    cases e
    exact fun σ F H ρ v Q r w q => q _ F H ρ (r.set w) Stp.set fun j hj => by
      rw [List.getElem?_set_ne (fun z => hj (by rw [z]; exact List.mem_cons_self))]
  len := by
    intro t s s' e
    cases e
    simp [S.set]
def TgsOk (K : PySem.W.Frag) (g : TGs) (ws : List Nat) (ts : List T) (s : S) (s' : S) : Prop := ∀ (σ : L2.St) (F H : Hp) (ρ : Nat → Addr) (vs : List V) (Q : L2.St → Hp → Prop), Rel K s σ F H ρ → TRL K ρ s.hp.length F vs ts →
  (∀ σ' F' H' ρ', Rel K s' σ' F' H' ρ' → Stp s ρ F H s' ρ' F' H' → (∀ i, i ∉ ws → σ'[i]? = σ[i]?) → Q σ' H') → g vs σ H Q
structure CGs (K : PySem.W.Frag) where
  g : TGs
  ws : List Nat
  f : List T → S → Option S
  ok : ∀ t s s', f t s = some s' → TgsOk K g ws t s s'
  len : ∀ t s s', f t s = some s' → s'.sl.length = s.sl.length
def CGs.nil : CGs K where
  g := gNil
  ws := []
  f ts s := match ts with
    | [] => some s
    | _ => none
  ok := by
    intro t s s' e
    split at e
    · cases e
      exact fun σ F H ρ v Q r w q => ⟨by cases w; rfl, q _ F H ρ r Stp.refl fun _ _ => rfl⟩
    · cases e
  len := by
    intro t s s' e
    split at e
    · cases e; rfl
    · cases e
def CGs.cons (a : CG K) (b : CGs K) : CGs K where
  g := gCons a.g b.g
  ws := a.ws ++ b.ws
  f ts s := match ts with
    | t :: ts => (a.f t s).bind fun s1 => b.f ts s1
    | _ => none
  ok := by
    intro t s s' e
    split at e
    · next t ts =>
      obtain ⟨s1, h1, h2⟩ := Option.bind_eq_some_iff.mp e
      intro σ F H ρ v Q r w q
      cases w with
      | cons w ws =>
        refine ⟨_, _, rfl, a.ok _ _ _ h1 σ F H ρ _ _ r w fun σ1 F1 H1 ρ1 r1 p1 k1 => ?_⟩
        exact b.ok _ _ _ h2 σ1 F1 H1 ρ1 _ Q r1 (TRL.stp ws p1) fun σ2 F2 H2 ρ2 r2 p2 k2 => q _ _ _ _ r2 (p1.trans p2) fun i hi => by
          rw [List.mem_append, not_or] at hi
          rw [k2 i hi.2, k1 i hi.1]
    · cases e
  len := by
    intro t s s' e
    split at e
    · next t ts =>
      obtain ⟨s1, h1, h2⟩ := Option.bind_eq_some_iff.mp e
      rw [b.len _ _ _ h2, a.len _ _ _ h1]
    · cases e
def CG.tup (n : Nat) (b : CGs K) : CG K where
  g := gTup K n b.g
  ws := b.ws
  f t s := match view t s with
    | some (.tup, ts) => if ts.length = n then b.f (ts.map (res · s)) s else none
    | _ => none
  ok := by
    intro t s s' e
    split at e
    · next ts e1 =>
      split at e
      · next hn =>
        intro σ F H ρ v Q r w q
        obtain ⟨a, vs, rfl, h2, h3⟩ := r.view w e1
        have h4 : TRL K ρ s.hp.length F vs (ts.map (res · s)) := by
          refine Paired.of_ix (by rw [List.length_map, Paired.length h3]) fun j v t a b => ?_
          rw [List.getElem?_map] at b
          obtain ⟨u, b1, b2⟩ := Option.map_eq_some_iff.mp b
          subst b2
          exact r.res (Paired.ix h3 j _ _ a b1)
        exact ⟨a, vs, rfl, h2, by rw [Paired.length h3, hn], b.ok _ _ _ e σ F H ρ vs Q r h4 q⟩
      · cases e
    · cases e
  len := by
    intro t s s' e
    split at e
    · split at e
      · exact b.len _ _ _ e
      · cases e
    · cases e

/-! ### statements -/
def CS.pass : CS K where
  ts := tNext
  ex s := some (.nx s)
  ok := by
    intro s o e
    cases e
    exact fun σ F H ρ D r q => q _ F H ρ r Stp.refl
def CS.brk : CS K where
  ts := tBreak
  ex s := some (.bk s)
  ok := by
    intro s o e
    cases e
    exact fun σ F H ρ D r q => q _ F H ρ r Stp.refl
def CS.cont : CS K where
  ts := tCont
  ex s := some (.ct s)
  ok := by
    intro s o e
    cases e
    exact fun σ F H ρ D r q => q _ F H ρ r Stp.refl
def CS.seq (a b : CS K) : CS K where
  ts := tSeq a.ts b.ts
  ex s := (a.ex s).bind fun o => match o with
    | .nx s1 => b.ex s1
    | o => some o
  ok := by
    intro s o e
    obtain ⟨o1, h1, e⟩ := Option.bind_eq_some_iff.mp e
    intro σ F H ρ D r q
    refine a.ok _ _ h1 σ F H ρ { D with nx := b.ts D } r ?_
    cases o1 with
    | nx s1 => exact fun σ1 F1 H1 ρ1 r1 p1 => b.ok _ _ e σ1 F1 H1 ρ1 D r1 (q.pre p1)
    | bk s1 => cases e; exact q
    | ct s1 => cases e; exact q
    | rt t s1 => cases e; exact q
def CS.asg (g : CG K) (a : CE K) : CS K where
  ts := tAsg a.te g.g
  ex s := (a.ev s).bind fun p => (g.f p.1 p.2).bind fun s2 => some (.nx s2)
  ok := by
    intro s o e
    obtain ⟨⟨t1, s1⟩, h1, e⟩ := Option.bind_eq_some_iff.mp e
    obtain ⟨s2, h2, e⟩ := Option.bind_eq_some_iff.mp e
    cases e
    intro σ F H ρ D r q
    refine a.ok _ _ _ h1 σ F H ρ _ r fun v1 F1 H1 ρ1 r1 w1 p1 => ?_
    exact g.ok _ _ _ h2 σ F1 H1 ρ1 v1 _ r1 w1 fun σ2 F2 H2 ρ2 r2 p2 _ => q _ _ _ _ r2 (p1.trans p2)
abbrev CS.set (i : Nat) (a : CE K) : CS K := CS.asg (CG.name i) a
/-- a, b = x, y -/
def CS.par (i j : Nat) (a : CA K) : CS K where
  ts := tPar i j a.ta
  ex s := match a.ev s with
    | some ([t, u], s1) => some (.nx ((s1.set i t).set j u))
    | _ => none
  ok := by
    intro s o e
    split at e
    · next t u s1 h1 =>
      cases e
      intro σ F H ρ D r q
      refine a.ok _ _ _ h1 σ F H ρ _ r fun v1 F1 H1 ρ1 r1 w1 p1 => ?_
      obtain ⟨x, y, rfl, w, w'⟩ := Paired.two w1
      exact ⟨x, y, rfl, q _ F1 H1 ρ1 ((r1.set w).set w') ((p1.trans Stp.set).trans Stp.set)⟩
    · cases e
def CS.drop (a : CE K) : CS K where
  ts := tDrop a.te
  ex s := (a.ev s).bind fun p => some (.nx p.2)
  ok := by
    intro s o e
    obtain ⟨⟨t1, s1⟩, h1, e⟩ := Option.bind_eq_some_iff.mp e
    cases e
    intro σ F H ρ D r q
    exact a.ok _ _ _ h1 σ F H ρ _ r fun v1 F1 H1 ρ1 r1 w1 p1 => q _ _ _ _ r1 p1
def CS.ret (a : CE K) : CS K where
  ts := tRet a.te
  ex s := (a.ev s).bind fun p => some (.rt p.1 p.2)
  ok := by
    intro s o e
    obtain ⟨⟨t1, s1⟩, h1, e⟩ := Option.bind_eq_some_iff.mp e
    cases e
    intro σ F H ρ D r q
    exact a.ok _ _ _ h1 σ F H ρ _ r fun v1 F1 H1 ρ1 r1 w1 p1 => q _ σ _ _ _ r1 w1 p1
def CS.ife (c : CT K) (a b : CS K) : CS K where
  ts := tIfS c.tt a.ts b.ts
  ex s := (c.ev s).bind fun p => if p.1 = true then a.ex p.2 else b.ex p.2
  ok := by
    intro s o e
    obtain ⟨⟨b1, s1⟩, h1, e⟩ := Option.bind_eq_some_iff.mp e
    intro σ F H ρ D r q
    refine c.ok _ _ _ h1 σ F H ρ _ r fun F1 H1 ρ1 r1 p1 => ?_
    cases b1 with
    | true => exact a.ok _ _ e σ F1 H1 ρ1 D r1 (q.pre p1)
    | false => exact b.ok _ _ e σ F1 H1 ρ1 D r1 (q.pre p1)
/-- a statement read in one of two ways -/
def CS.alt (a b : CS K) : CS K where
  ts := fun D σ H => a.ts D σ H ∨ b.ts D σ H
  ex s := match a.ex s with
    | some p => some p
    | none => b.ex s
  ok := by
    intro s o h
    split at h
    · next p e =>
      cases h
      exact fun σ F H ρ D r q => .inl (a.ok _ _ e σ F H ρ D r q)
    · exact fun σ F H ρ D r q => .inr (b.ok _ _ h σ F H ρ D r q)
/-- xs.append(e) -/
def CS.app (a : CE K) (b : CA K) : CS K where
  ts := tDrop (tBM K "list" rAppend a.te b.ta)
  ex s := (a.ev s).bind fun p => (b.ev p.2).bind fun q => match p.1, q.1 with
    | .ptr n, [t] => match p.2.hp[n]?, q.2.hp[n]? with
      | some (.own .lst _), some (.own .lst ts) => if ts.length < lim then some (.nx (q.2.put n .lst (ts ++ [t]))) else none
      | _, _ => none
    | _, _ => none
  ok := by
    intro s o e
    obtain ⟨⟨t1, s1⟩, h1, f1⟩ := Option.bind_eq_some_iff.mp e
    clear e
    obtain ⟨⟨t2, s2⟩, h2, f2⟩ := Option.bind_eq_some_iff.mp f1
    clear f1
    have e := f2
    clear f2
    dsimp only at e
    split at e
    · next n t =>
      split at e
      · next us ts e1 e2 =>
        split at e
        · next hl =>
          cases e
          intro σ F H ρ D r q
          refine a.ok _ _ _ h1 σ F H ρ _ r fun v1 F1 H1 ρ1 r1 w1 p1 => ?_
          obtain ⟨rfl, hn⟩ := w1.ptr_inv
          obtain ⟨o1, vs1, g1, g2, g3, g4⟩ := r1.own n _ _ e1
          cases g2
          refine ⟨.inl ⟨rfl, vs1, SqL.of g1⟩, b.ok _ _ _ h2 σ F1 H1 ρ1 _ r1 fun v2 F2 H2 ρ2 r2 w2 p2 => ?_⟩
          obtain ⟨x, rfl, w⟩ := Paired.one w2
          obtain ⟨o2, vs2, k1, k2, k3, k4⟩ := r2.own n _ _ e2
          cases k2
          have hr : ρ2 n = ρ1 n := p2.rho n hn
          refine ⟨ρ1 n, vs2, x, rfl, rfl, by rw [← hr]; exact k1, lim_lt (by rw [Paired.length k4]; exact hl), ?_⟩
          obtain ⟨r3, p3⟩ := r2.put (k' := .lst) e2 rfl (Paired.app k4 (.cons w .nil))
          rw [← hr]
          exact q _ _ _ _ r3 ((p1.trans p2).trans p3)
        · cases e
      · cases e
    · cases e
theorem ixN_lt {n : Nat} {i : Int} {j : Nat} (h : ixN n i = some j) : j < n := (ixN_seq h).2.1
/-- xs[i] = e -/
def CS.setL (o i v : CE K) : CS K where
  ts := tAsg v.te (gSub o.te i.te rSetL)
  ex s := (v.ev s).bind fun p => (o.ev p.2).bind fun q => (i.ev q.2).bind fun z => match q.1, z.1 with
    | .ptr n, .at (.int k) => match z.2.hp[n]? with
      | some (.own .lst ts) => match ixN ts.length k with
        | some j => some (.nx (z.2.put n .lst (ts.set j p.1)))
        | none => none
      | _ => none
    | _, _ => none
  ok := by
    intro s out e
    obtain ⟨⟨t1, s1⟩, h1, f1⟩ := Option.bind_eq_some_iff.mp e
    clear e
    obtain ⟨⟨t2, s2⟩, h2, f2⟩ := Option.bind_eq_some_iff.mp f1
    clear f1
    obtain ⟨⟨t3, s3⟩, h3, f3⟩ := Option.bind_eq_some_iff.mp f2
    clear f2
    have e := f3
    clear f3
    dsimp only at e
    split at e
    · next n k =>
      split at e
      · next ts e1 =>
        split at e
        · next j e2 =>
          cases e
          intro σ F H ρ D r q
          refine v.ok _ _ _ h1 σ F H ρ _ r fun v1 F1 H1 ρ1 r1 w1 p1 => ?_
          refine o.ok _ _ _ h2 σ F1 H1 ρ1 _ r1 fun v2 F2 H2 ρ2 r2 w2 p2 => ?_
          refine i.ok _ _ _ h3 σ F2 H2 ρ2 _ r2 fun v3 F3 H3 ρ3 r3 w3 p3 => ?_
          obtain ⟨rfl, hn⟩ := (w2.stp p3).ptr_inv
          obtain ⟨o2, vs2, k1, k2, k3, k4⟩ := r3.own n _ _ e1
          cases k2
          refine ⟨ρ3 n, vs2, k, j, rfl, w3.at_inv.1, k1, by rw [Paired.length k4]; exact e2, ?_⟩
          obtain ⟨r4, p4⟩ := r3.put (k' := .lst) e1 rfl (Paired.setR ((w1.stp p2).stp p3) j k4)
          exact q _ _ _ _ r4 (((p1.trans p2).trans p3).trans p4)
        · cases e
      · cases e
    · cases e
/-! dicts written -/
def putT (kvs : List (Key × T)) (k : Key) (v : T) : List (Key × T) :=
  if (kvs.any fun kv => decide (kv.1 = k)) = true then kvs.map (fun kv => if kv.1 = k then (kv.1, v) else kv) else kvs ++ [(k, v)]
abbrev KR (K : PySem.W.Frag) (ρ : Nat → Addr) (N : Nat) (F : Hp) : Key × V → Key × T → Prop := fun p q => p.1 = q.1 ∧ TR K ρ N F p.2 q.2
theorem kr_of {ρ : Nat → Addr} {N : Nat} {F : Hp} : ∀ {ks : List Key} {vs : List V} {ts : List T}, TRL K ρ N F vs ts → Paired (KR K ρ N F) (ks.zip vs) (ks.zip ts)
  | [], _, _, _ => .nil
  | _ :: _, _, _, .nil => .nil
  | k :: ks, _, _, .cons r p => .cons ⟨rfl, r⟩ (kr_of p)
theorem kr_to {ρ : Nat → Addr} {N : Nat} {F : Hp} : ∀ {kvs : List (Key × V)} {kts : List (Key × T)}, Paired (KR K ρ N F) kvs kts → kvs = (kts.map (·.1)).zip (kvs.map (·.2)) ∧ TRL K ρ N F (kvs.map (·.2)) (kts.map (·.2))
  | _, _, .nil => ⟨rfl, .nil⟩
  | _, _, .cons (a := a) (b := b) r p => by
    obtain ⟨h1, h2⟩ := kr_to p
    refine ⟨?_, .cons r.2 h2⟩
    rw [List.map_cons, List.map_cons, List.zip_cons_cons, ← h1]
    obtain ⟨x, y⟩ := a
    have : x = b.1 := r.1
    rw [this]
theorem put_rel {ρ : Nat → Addr} {N : Nat} {F : Hp} {k : Key} {v : V} {t : T} (w : TR K ρ N F v t) {kvs : List (Key × V)} {kts : List (Key × T)} (p : Paired (KR K ρ N F) kvs kts) : Paired (KR K ρ N F) (putK kvs k v) (putT kts k t) := by
  have e1 : (kvs.any fun kv => decide (kv.1 = k)) = (kts.any fun kv => decide (kv.1 = k)) := by
    induction p with
    | nil => rfl
    | cons r _ ih => rw [List.any_cons, List.any_cons, ih, r.1]
  unfold putK putT
  rw [e1]
  split
  · next hc =>
    clear e1 hc
    induction p with
    | nil => exact .nil
    | @cons a b xs ys r _ ih =>
      rw [List.map_cons, List.map_cons]
      refine .cons ?_ ih
      obtain ⟨r1, r2⟩ := r
      rw [r1]
      split
      · exact ⟨rfl, w⟩
      · exact ⟨r1, r2⟩
  · exact Paired.app p (.cons ⟨rfl, w⟩ .nil)
theorem kIs_dict {kvs : List (Key × V)} {kts : List (Key × T)} {ρ : Nat → Addr} {N : Nat} {F : Hp} (p : Paired (KR K ρ N F) kvs kts) : kIs (.dK (kts.map (·.1))) (kvs.map (·.2)) (.dK kvs) := by
  obtain ⟨h1, h2⟩ := kr_to p
  refine ⟨by rw [List.length_map, List.length_map, Paired.length p], ?_⟩
  rw [← h1]
/-- d[k] = e -/
def CS.setD (o i v : CE K) : CS K where
  ts := sDPut o.te i.te v.te
  ex s := (v.ev s).bind fun p => (o.ev p.2).bind fun q => (i.ev q.2).bind fun z => match q.1, keyT z.1 with
    | .ptr n, some k => match z.2.hp[n]? with
      | some (.own (.dK ks) ts) => if ks.length = ts.length ∧ ts.length < lim then some (.nx (z.2.put n (.dK ((putT (ks.zip ts) k p.1).map (·.1))) ((putT (ks.zip ts) k p.1).map (·.2)))) else none
      | _ => none
    | _, _ => none
  ok := by
    intro s out e
    obtain ⟨⟨t1, s1⟩, h1, f1⟩ := Option.bind_eq_some_iff.mp e
    clear e
    obtain ⟨⟨t2, s2⟩, h2, f2⟩ := Option.bind_eq_some_iff.mp f1
    clear f1
    obtain ⟨⟨t3, s3⟩, h3, f3⟩ := Option.bind_eq_some_iff.mp f2
    clear f2
    have e := f3
    clear f3
    dsimp only at e
    split at e
    · next n k hk =>
      split at e
      · next ks ts e1 =>
        split at e
        · next hl =>
          cases e
          intro σ F H ρ D r q
          refine v.ok _ _ _ h1 σ F H ρ _ r fun v1 F1 H1 ρ1 r1 w1 p1 => ?_
          refine o.ok _ _ _ h2 σ F1 H1 ρ1 _ r1 fun v2 F2 H2 ρ2 r2 w2 p2 => ?_
          refine i.ok _ _ _ h3 σ F2 H2 ρ2 _ r2 fun v3 F3 H3 ρ3 r3 w3 p3 => ?_
          obtain ⟨rfl, hn⟩ := (w2.stp p3).ptr_inv
          obtain ⟨o2, vs2, k1, k2, k3, k4⟩ := r3.own n _ _ e1
          obtain ⟨k5, k6⟩ := k2
          subst k6
          have hz : (ks.zip vs2).length < sizeLine := by
            rw [List.length_zip, k5, Nat.min_self, Paired.length k4]
            exact lim_lt hl.2
          have pr := put_rel (k := k) ((w1.stp p2).stp p3) (kr_of (ks := ks) k4)
          refine ⟨ρ3 n, _, rfl, .inl ⟨_, k, k1, keyT_kV (s := s3) w3 hk, hz, rfl⟩, ?_⟩
          obtain ⟨r4, p4⟩ := r3.put e1 (kIs_dict pr) (kr_to pr).2
          exact q _ _ _ _ r4 (((p1.trans p2).trans p3).trans p4)
        · cases e
      · cases e
    · cases e
/-- o[i] = v -/
def tSubS (to ti tv : TE) : TS := fun D σ H => tAsg tv (gSub to ti rSetL) D σ H ∨ sDPut to ti tv D σ H
def CS.sub (o i v : CE K) : CS K := ⟨tSubS o.te i.te v.te, (CS.alt (CS.setL o i v) (CS.setD o i v)).ex, (CS.alt (CS.setL o i v) (CS.setD o i v)).ok⟩
theorem ps_subZ {X : Cx} {o i e : Expr} {to ti tv : TE} {pos pos' : Pos} (hu : X.A.units + 1 < cLine) (ho : PE X o to) (hi : PE X i ti) (hv : PE X e tv)
    (ha : ∀ v, assign (.Subscript o i pos') X.env v = (do
      let ov ← holding [v] (eval o X.env)
      let iv ← holding [v, ov] (eval i X.env)
      standAt pos'
      holding [v, ov, iv] (setItem ov iv v)
      release [v, ov, iv] []))
    (hs : swapsWithSole [.Subscript o i pos'] e pos.line X.env = pure false) (hw : swappedStores [.Subscript o i pos'] e X.env = pure none)
    (h1 : (assignEach [.Subscript o i pos'] X.env).map (·.2) = [assign (.Subscript o i pos') X.env]) (hs2 : swapsWith e (some (.Subscript o i pos')) pos.line X.env = pure false) :
    PS X (.Assign [.Subscript o i pos'] e pos) (tSubS to ti tv) :=
  ps_alt (ps_asg hv (pg_sub ho hi set_list ha) hs hw h1) (ps_dput hu ho hi hv hs2)

/-! ### loops -/
def forEv (g : T → S → Option S) (b : S → Option Out) : List T → S → Option Out
  | [], s => some (.nx s)
  | t :: ts, s => (g t s).bind fun s1 => (b s1).bind fun o => match o with
    | .nx s2 => forEv g b ts s2
    | .ct s2 => forEv g b ts s2
    | .bk s2 => some (.nx s2)
    | .rt t s2 => some (.rt t s2)
theorem for_ok {J : It} {ts : List T} (g : CG K) (b : CS K) {s : S} {o : Out} (h : forEv g.f b.ex ts s = some o) {σ : L2.St} {F H : Hp} {ρ : Nat → Addr} {D : Ends} (r : Rel K s σ F H ρ) (y : Yields K J ts s ρ F H) (q : Post K D s ρ F H o) :
    ∃ W : Nat → Nat → L2.St → Hp → Prop, (∃ m, W 0 m σ H) ∧ ∀ i m σ H, W i m σ H →
      (J.stop i H ∧ D.nx σ H) ∨ (J.go i H ∧ ∃ N : L2.St → Hp → Prop, (∀ σ' H', N σ' H' → ∃ m', m' < m ∧ W (i + 1) m' σ' H') ∧ ∀ x H', J.yld i H x H' → g.g x σ H' fun σ2 H2 => b.ts { D with nx := N, ct := N, bk := D.nx } σ2 H2) := by
  refine ⟨fun i m σ' H' => m = ts.length - i ∧ i ≤ ts.length ∧ ∃ s' F' ρ', Rel K s' σ' F' H' ρ' ∧ Stp s ρ F H s' ρ' F' H' ∧ forEv g.f b.ex (ts.drop i) s' = some o, ⟨ts.length, by simp, Nat.zero_le _, s, F, ρ, r, Stp.refl, h⟩, ?_⟩
  rintro i m σ1 H1 ⟨rfl, hi, s1, F1, ρ1, r1, p1, h1⟩
  obtain ⟨y1, y2⟩ := y s1 σ1 F1 H1 ρ1 r1 p1 i
  rcases Nat.lt_or_ge i ts.length with hlt | hge
  · obtain ⟨t, ht⟩ : ∃ t, ts[i]? = some t := ⟨_, List.getElem?_eq_getElem hlt⟩
    obtain ⟨g1, g2⟩ := y2 t ht
    have hd : ts.drop i = t :: ts.drop (i + 1) := by
      rw [List.drop_eq_getElem_cons hlt]
      have : ts[i] = t := by rw [List.getElem?_eq_getElem hlt] at ht; exact Option.some.inj ht
      rw [this]
    rw [hd] at h1
    obtain ⟨s2, e1, h1⟩ := Option.bind_eq_some_iff.mp (show (g.f t s1).bind _ = some o from h1)
    obtain ⟨o1, e2, h1⟩ := Option.bind_eq_some_iff.mp h1
    refine .inr ⟨g1, fun σ' H' => ∃ s' F' ρ', Rel K s' σ' F' H' ρ' ∧ Stp s ρ F H s' ρ' F' H' ∧ forEv g.f b.ex (ts.drop (i + 1)) s' = some o, fun σ' H' z => ⟨ts.length - (i + 1), by omega, rfl, hlt, z⟩, fun x H2 z => ?_⟩
    obtain ⟨F3, r3, p3, w3⟩ := g2 x H2 z
    refine g.ok _ _ _ e1 σ1 F3 H2 ρ1 x _ r3 w3 fun σ4 F4 H4 ρ4 r4 p4 _ => ?_
    have p5 := (p1.trans p3).trans p4
    refine b.ok _ _ e2 σ4 F4 H4 ρ4 _ r4 ?_
    cases o1 with
    | nx s5 => exact fun σ6 F6 H6 ρ6 r6 p6 => ⟨s5, F6, ρ6, r6, p5.trans p6, h1⟩
    | ct s5 => exact fun σ6 F6 H6 ρ6 r6 p6 => ⟨s5, F6, ρ6, r6, p5.trans p6, h1⟩
    | bk s5 =>
      cases h1
      exact fun σ6 F6 H6 ρ6 r6 p6 => q _ _ _ _ r6 (p5.trans p6)
    | rt t s5 =>
      cases h1
      exact fun v σ6 F6 H6 ρ6 r6 w6 p6 => q _ _ _ _ _ r6 w6 (p5.trans p6)
  · have e : i = ts.length := by omega
    subst e
    rw [List.drop_length] at h1
    cases h1
    exact .inl ⟨y1 rfl, q _ _ _ _ r1 p1⟩
def CS.for (it : CI K) (g : CG K) (b : CS K) : CS K where
  ts := tFor it.wi g.g b.ts
  ex s := (it.ev s).bind fun p => forEv g.f b.ex p.1 p.2
  ok := by
    intro s o e
    obtain ⟨⟨ts, s1⟩, h1, e⟩ := Option.bind_eq_some_iff.mp e
    intro σ F H ρ D r q
    exact it.ok _ _ _ h1 σ F H ρ _ r fun J F1 H1 ρ1 r1 p1 y => for_ok g b e r1 y (q.pre p1)
/-! over a dict's keys: the dict is locked meanwhile -/
theorem Rel.lock {s : S} {σ : L2.St} {F H : Hp} {ρ : Nat → Addr} {d : Addr} {kvs : List (Key × V)} {od : Obj} (r : Rel K s σ F H ρ) (hF : F d = some (.dK kvs)) :
    Rel K s σ F (upd H d (.frz od (.dK kvs))) ρ := by
  have hn : ∀ n k ts, s.hp[n]? = some (.own k ts) → ρ n ≠ d := fun n k ts e z => by
    obtain ⟨o, vs, _, _, h3, _⟩ := r.own n k ts e
    rw [z, hF] at h3
    cases h3
  refine ⟨fun a o e => ?_, r.len, r.sl, fun n k ts e => ?_, r.fro, r.inj, fun n h => ?_⟩
  · by_cases ha : a = d
    · subst ha
      rw [hF] at e
      cases e
      exact .inr ⟨rfl, od, upd_same⟩
    · rw [upd_ne ha]
      exact r.ex a o e
  · obtain ⟨o, vs, h1, h2, h3, h4⟩ := r.own n k ts e
    exact ⟨o, vs, by rw [upd_ne (hn n k ts e)]; exact h1, h2, h3, h4⟩
  · by_cases z : ρ n = d
    · rw [z, upd_same]; exact ⟨_, rfl⟩
    · rw [upd_ne z]; exact r.all n h
theorem Rel.unlock {s : S} {σ : L2.St} {F H : Hp} {ρ : Nat → Addr} {d : Addr} {kvs : List (Key × V)} (r : Rel K s σ F H ρ) (hF : F d = some (.dK kvs)) :
    Rel K s σ F (upd H d (.dK kvs)) ρ := by
  have hn : ∀ n k ts, s.hp[n]? = some (.own k ts) → ρ n ≠ d := fun n k ts e z => by
    obtain ⟨o, vs, _, _, h3, _⟩ := r.own n k ts e
    rw [z, hF] at h3
    cases h3
  refine ⟨fun a o e => ?_, r.len, r.sl, fun n k ts e => ?_, r.fro, r.inj, fun n h => ?_⟩
  · by_cases ha : a = d
    · subst ha
      rw [hF] at e
      cases e
      exact .inl upd_same
    · rw [upd_ne ha]
      exact r.ex a o e
  · obtain ⟨o, vs, h1, h2, h3, h4⟩ := r.own n k ts e
    exact ⟨o, vs, by rw [upd_ne (hn n k ts e)]; exact h1, h2, h3, h4⟩
  · by_cases z : ρ n = d
    · rw [z, upd_same]; exact ⟨_, rfl⟩
    · rw [upd_ne z]; exact r.all n h
def keyTo : Key → T
  | .inl i => .at (.int i)
  | .inr x => .at (.str x)
theorem keyTo_TR {ρ : Nat → Addr} {N : Nat} {F : Hp} (k : Key) : TR K ρ N F (kV k) (keyTo k) := by
  cases k with
  | inl i => exact .at rfl
  | inr x => exact .at rfl
theorem yields_keys {d : Addr} {o : Obj} {ks : List Key} {vs : List V} {s : S} {ρ : Nat → Addr} {F H : Hp} (hl : ks.length = vs.length) (hH : H d = some (.frz o (.dK (ks.zip vs)))) : Yields K (Itk d o (ks.zip vs)) (ks.map keyTo) s ρ F H := by
  intro s2 σ2 F2 H2 ρ2 r2 st i
  have h2 := st.fz _ _ _ hH
  have hz : (ks.zip vs).length = ks.length := by rw [List.length_zip, hl, Nat.min_self]
  refine ⟨fun e => ⟨h2, by rw [e, hz, List.length_map]; exact Nat.le_refl _⟩, fun t ht => ?_⟩
  rw [List.getElem?_map] at ht
  obtain ⟨k, h3, h4⟩ := Option.map_eq_some_iff.mp ht
  subst h4
  have hi := (List.getElem?_eq_some_iff.mp h3).1
  refine ⟨⟨h2, by omega⟩, fun x H3 y => ?_⟩
  obtain ⟨e3, k', v', e4, e5⟩ := y
  subst e3 e5
  have e6 : k' = k := by
    have : ((ks.zip vs).map (·.1))[i]? = some k' := by rw [List.getElem?_map, e4]; rfl
    rw [List.map_fst_zip (Nat.le_of_eq hl), h3] at this
    exact (Option.some.inj this).symm
  subst e6
  exact ⟨F2, r2, Stp.refl, keyTo_TR _⟩
theorem Stp.unlock {s s' : S} {ρ ρ' : Nat → Addr} {F F' H H' : Hp} {d : Addr} {kvs : List (Key × V)} {od : Obj} (hF : F d = some (.dK kvs)) (hH : H d = some (.dK kvs)) (p : Stp s ρ F (upd H d (.frz od (.dK kvs))) s' ρ' F' H') :
    Stp s ρ F H s' ρ' F' (upd H' d (.dK kvs)) := by
  refine ⟨p.fx, p.rho, p.hl, fun a o h1 h2 h3 => ?_, fun a ob u h => ?_, fun a o h => ?_⟩
  · have ha : a ≠ d := fun z => by rw [z, hF] at h2; cases h2
    obtain ⟨q1, q2, q3⟩ := p.fr a o (by rw [upd_ne ha]; exact h1) h2 h3
    exact ⟨by rw [upd_ne ha]; exact q1, q2, q3⟩
  · have ha : a ≠ d := fun z => by rw [z, hH] at h; cases h
    rw [upd_ne ha]
    exact p.fz a ob u (by rw [upd_ne ha]; exact h)
  · by_cases ha : a = d
    · rw [ha, upd_same]; exact ⟨_, rfl⟩
    · rw [upd_ne ha]
      exact p.th a o (by rw [upd_ne ha]; exact h)
def lockD (D : Ends) (d : Addr) (od : Obj) (u : HO) : Ends := ⟨fun σ' H' => H' d = some (.frz od u) ∧ D.nx σ' (upd H' d u), fun v H' => H' d = some (.frz od u) ∧ D.rt v (upd H' d u), fun σ' H' => H' d = some (.frz od u) ∧ D.bk σ' (upd H' d u), fun σ' H' => H' d = some (.frz od u) ∧ D.ct σ' (upd H' d u)⟩
theorem Post.lock {D : Ends} {s : S} {ρ : Nat → Addr} {F H : Hp} {d : Addr} {kvs : List (Key × V)} {od : Obj} {o : Out} (hF : F d = some (.dK kvs)) (hH : H d = some (.dK kvs)) (q : Post K D s ρ F H o) :
    Post K (lockD D d od (.dK kvs)) s ρ F (upd H d (.frz od (.dK kvs))) o := by
  cases o with
  | nx s' => exact fun σ' F' H' ρ' r p => ⟨p.fz _ _ _ upd_same, q _ _ _ _ (r.unlock (p.fx _ _ hF)) (Stp.unlock hF hH p)⟩
  | bk s' => exact fun σ' F' H' ρ' r p => ⟨p.fz _ _ _ upd_same, q _ _ _ _ (r.unlock (p.fx _ _ hF)) (Stp.unlock hF hH p)⟩
  | ct s' => exact fun σ' F' H' ρ' r p => ⟨p.fz _ _ _ upd_same, q _ _ _ _ (r.unlock (p.fx _ _ hF)) (Stp.unlock hF hH p)⟩
  | rt t s' => exact fun v σ' F' H' ρ' r w p => ⟨p.fz _ _ _ upd_same, q _ _ _ _ _ (r.unlock (p.fx _ _ hF)) w (Stp.unlock hF hH p)⟩
/-! a dict's keys, whatever holds the dict: the dict stays locked -/
def iKeysL (td : TE) : TI := fun σ H R => td σ H fun x H1 => ∃ d kvs, x = .ref d ∧ ((∃ o, H1 d = some (.frz o (.dK kvs)) ∧ R (Itk d o kvs) H1) ∨ (H1 d = some (.dK kvs) ∧ ∀ o, R (Itk d o kvs) (upd H1 d (.frz o (.dK kvs)))))
theorem pi_keysL {X : Cx} {tg e : Expr} {td : TE} (he : PE X e td) : PI X tg e (iKeysL td) := by
  refine ⟨fun pins s σ H R I h => ?_⟩
  refine thn (he.run pins s σ H _ I h) fun u s1 ⟨x, H1, I1, rx, d, kvs, ex, q⟩ => ?_
  subst ex
  obtain rfl : u = Value.ref d := rx
  rcases q with ⟨o, hd, q⟩ | ⟨hd, q⟩
  · obtain ⟨hs, hgd, hx, es, ep, vs, hdt, hsz, kv, hm⟩ := I1.frzK hd
    refine iter_keys hs hgd hx hdt (pi_one (tk := s1.toks) I1 _ (turn_keys _ hdt) ⟨_, Heap.get?_push_size _ rfl, rfl, ?_⟩ q)
    rw [hsz] <;> rfl
  · obtain ⟨o, I2⟩ := I1.lock hd True.intro
    obtain ⟨hs, hgd, hx, es, ep, vs, hdt, hsz, kv, hm⟩ := I2.frzK upd_same
    refine iter_keys hs hgd hx hdt (pi_one (tk := s1.toks) I2 _ (turn_keys _ hdt) ⟨_, Heap.get?_push_size _ rfl, rfl, ?_⟩ (q o))
    rw [hsz] <;> rfl
theorem Stp.lockIn {s s' : S} {ρ ρ' : Nat → Addr} {F F' H H' : Hp} {d : Addr} {kvs : List (Key × V)} {od : Obj} (hF : F' d = some (.dK kvs)) (hH : H' d = some (.dK kvs)) (p : Stp s ρ F H s' ρ' F' H') :
    Stp s ρ F H s' ρ' F' (upd H' d (.frz od (.dK kvs))) := by
  refine ⟨p.fx, p.rho, p.hl, fun a o h1 h2 h3 => ?_, fun a ob u h => ?_, fun a o h => ?_⟩
  · obtain ⟨q1, q2, q3⟩ := p.fr a o h1 h2 h3
    have ha : a ≠ d := fun z => by rw [z, hF] at q2; cases q2
    exact ⟨by rw [upd_ne ha]; exact q1, q2, q3⟩
  · have q := p.fz a ob u h
    have ha : a ≠ d := fun z => by rw [z, hH] at q; cases q
    rw [upd_ne ha]
    exact q
  · by_cases ha : a = d
    · rw [ha, upd_same]; exact ⟨_, rfl⟩
    · rw [upd_ne ha]
      exact p.th a o h
def CI.keys (a : CE K) : CI K where
  wi := iKeysL a.te
  ev s := (a.ev s).bind fun p => match frz p.1 p.2 with
    | some (.nd (.dK ks) _, s1) => some (ks.map keyTo, s1)
    | _ => none
  ok := by
    intro s ts s' e
    obtain ⟨⟨t1, s1⟩, h1, e⟩ := Option.bind_eq_some_iff.mp e
    dsimp only at e
    split at e
    · next ks us s2 h2 =>
      cases e
      obtain ⟨p2, q2⟩ := frz_ok (K := K) h2
      intro σ F H ρ R r q
      refine a.ok _ _ _ h1 σ F H ρ _ r fun v1 F1 H1 ρ1 r1 w1 p1 => ?_
      obtain ⟨F2, r2, st2, w2⟩ := q2 σ F1 H1 ρ1 v1 r1 w1
      obtain ⟨d, vs, rfl, g1, g2⟩ := w2.nd_inv
      obtain ⟨hl, hF⟩ := g1
      rcases r2.ex _ _ hF with hH | ⟨_, od, hH⟩
      · exact ⟨d, _, rfl, .inr ⟨hH, fun o => q _ F2 _ ρ1 (r2.lock hF) ((p1.trans st2).lockIn hF hH) (yields_keys hl upd_same)⟩⟩
      · exact ⟨d, _, rfl, .inl ⟨od, hH, q _ F2 H1 ρ1 r2 (p1.trans st2) (yields_keys hl hH)⟩⟩
    · cases e
/-- for k in d, d a name that holds a dict -/
def CS.forD (j : Nat) (g : CG K) (b : CS K) : CS K where
  ts := fun D σ H => tLock (tFor (iKeys (tVar j)) g.g b.ts) D σ H ∨ tFor (iKeys (tVar j)) g.g b.ts D σ H
  ex s := match s.sl[j]? with
    | some (some t) => match frz t s with
      | some (.nd (.dK ks) _, s1) => forEv g.f b.ex (ks.map keyTo) s1
      | _ => none
    | _ => none
  ok := by
    intro s o e
    split at e
    · next t e1 =>
      split at e
      · next ks ts s1 e2 =>
        intro σ F H ρ D r q
        obtain ⟨v, e3, w⟩ := r.sl j t e1
        obtain ⟨F1, r1, p1, w1⟩ := (frz_ok (K := K) e2).2 σ F H ρ v r w
        obtain ⟨a, vs, rfl, h1, h2⟩ := w1.nd_inv
        obtain ⟨hl, hF⟩ := h1
        have q1 := q.pre p1
        rcases r1.ex _ _ hF with hH | ⟨_, od, hH⟩
        · refine .inl ⟨a, _, hH, True.intro, fun od => ?_⟩
          have r2 := r1.lock (od := od) hF
          refine ⟨.ref a, e3, a, od, rfl, .inl ⟨_, upd_same, ?_⟩⟩
          exact for_ok g b e r2 (yields_keys hl upd_same) (q1.lock hF hH)
        · refine .inr ⟨.ref a, e3, a, od, rfl, .inl ⟨_, hH, ?_⟩⟩
          exact for_ok g b e r1 (yields_keys hl hH) q1
      · cases e
    · cases e
theorem ps_forD {X : Cx} {tg iter : Expr} {body : List Stmt} {j : Nat} {g : TG} {tb : TS} {pos : Pos} (hp : PassesOwn (model X.prog X.w) X.A X.env X.xe) (hc : X.calm = true) (hi : PE X iter (tVar j)) (hg : PG X tg g) (hb : PSs X body tb)
    (hs : ∀ x, foldedSetIterable iter X.env x = pure x := by intro _; rfl) : PS X (.For tg iter body [] pos) (fun D σ H => tLock (tFor (iKeys (tVar j)) g tb) D σ H ∨ tFor (iKeys (tVar j)) g tb D σ H) :=
  let h := ps_for hp hc (pi_keys hi) hg hb hs
  ps_alt (ps_lock h) h
/-- for over a name that holds a sequence, or a dict -/
def tForV (K : PySem.W.Frag) (j : Nat) (g : TG) (tb : TS) : TS := fun D σ H => tFor (fun σ H R => iList K (tVar j) σ H R ∨ iTup K (tVar j) σ H R) g tb D σ H ∨ (tLock (tFor (iKeys (tVar j)) g tb) D σ H ∨ tFor (iKeys (tVar j)) g tb D σ H)
def CS.forV (j : Nat) (g : CG K) (b : CS K) : CS K := ⟨tForV K j g.g b.ts, (CS.alt (CS.for (CI.seq (CE.var j)) g b) (CS.forD j g b)).ex, (CS.alt (CS.for (CI.seq (CE.var j)) g b) (CS.forD j g b)).ok⟩
theorem ps_forV {X : Cx} {tg iter : Expr} {body : List Stmt} {j : Nat} {g : TG} {tb : TS} {pos : Pos} (hp : PassesOwn (model X.prog X.w) X.A X.env X.xe) (hc : X.calm = true) (hi : PE X iter (tVar j)) (hg : PG X tg g) (hb : PSs X body tb)
    (hs : ∀ x, foldedSetIterable iter X.env x = pure x := by intro _; rfl) : PS X (.For tg iter body [] pos) (tForV X.K j g tb) :=
  ps_alt (ps_for hp hc (pi_seqZ hi) hg hb hs) (ps_forD hp hc hi hg hb hs)
/-! while, so many turns at most -/
def whEv (c : S → Option (Bool × S)) (b : S → Option Out) : Nat → S → Option Out
  | 0, _ => none
  | n + 1, s => (c s).bind fun p => if p.1 = true then (b p.2).bind fun o => match o with
      | .nx s2 => whEv c b n s2
      | .ct s2 => whEv c b n s2
      | .bk s2 => some (.nx s2)
      | .rt t s2 => some (.rt t s2)
    else some (.nx p.2)
def CS.while (n : Nat) (c : CT K) (b : CS K) : CS K where
  ts := tWhile c.tt b.ts
  ex s := whEv c.ev b.ex n s
  ok := by
    intro s o e
    intro σ F H ρ D r q
    refine ⟨fun m σ' H' => ∃ s' F' ρ', Rel K s' σ' F' H' ρ' ∧ Stp s ρ F H s' ρ' F' H' ∧ whEv c.ev b.ex m s' = some o, ⟨n, s, F, ρ, r, Stp.refl, e⟩, ?_⟩
    rintro m σ1 H1 ⟨s1, F1, ρ1, r1, p1, e1⟩
    cases m with
    | zero => cases e1
    | succ m =>
      obtain ⟨⟨b1, s2⟩, h2, e2⟩ := Option.bind_eq_some_iff.mp (show (c.ev s1).bind _ = some o from e1)
      refine c.ok _ _ _ h2 σ1 F1 H1 ρ1 _ r1 fun F2 H2 ρ2 r2 p2 => ?_
      cases b1 with
      | false => cases e2; exact q _ _ _ _ r2 (p1.trans p2)
      | true =>
        obtain ⟨o1, h3, e3⟩ := Option.bind_eq_some_iff.mp e2
        refine ⟨fun σ' H' => ∃ s' F' ρ', Rel K s' σ' F' H' ρ' ∧ Stp s ρ F H s' ρ' F' H' ∧ whEv c.ev b.ex m s' = some o, fun σ' H' z => ⟨m, by omega, z⟩, ?_⟩
        have p5 := p1.trans p2
        refine b.ok _ _ h3 σ1 F2 H2 ρ2 _ r2 ?_
        cases o1 with
        | nx s5 => exact fun σ6 F6 H6 ρ6 r6 p6 => ⟨s5, F6, ρ6, r6, p5.trans p6, e3⟩
        | ct s5 => exact fun σ6 F6 H6 ρ6 r6 p6 => ⟨s5, F6, ρ6, r6, p5.trans p6, e3⟩
        | bk s5 =>
          cases e3
          exact fun σ6 F6 H6 ρ6 r6 p6 => q _ _ _ _ r6 (p5.trans p6)
        | rt t s5 =>
          cases e3
          exact fun v σ6 F6 H6 ρ6 r6 w6 p6 => q _ _ _ _ _ r6 w6 (p5.trans p6)
end
end Z
set_option Elab.async false
set_option linter.all false
set_option maxRecDepth 100000
/-! Z: comprehensions, dict(..), defs. -/
namespace Z
open PySem PySem.Spec PyProof.Rows L2
section
variable {K : PySem.W.Frag}
/-! ### comprehensions -/
def wipeL (sl : List (Option T)) : List Nat → List (Option T)
  | [] => sl
  | v :: vs => (wipeL sl vs).set v none
theorem wipeL_length (sl : List (Option T)) : ∀ vs : List Nat, (wipeL sl vs).length = sl.length
  | [] => rfl
  | v :: vs => by unfold wipeL; rw [List.length_set, wipeL_length sl vs]
theorem wipeL_some {sl : List (Option T)} {i : Nat} {x : T} : ∀ {vs : List Nat}, (wipeL sl vs)[i]? = some (some x) → sl[i]? = some (some x) ∧ i ∉ vs
  | [], h => ⟨h, by simp⟩
  | v :: vs, h => by
    unfold wipeL at h
    by_cases hi : v = i
    · subst hi
      by_cases hv : v < (wipeL sl vs).length
      · rw [List.getElem?_set_self hv] at h; cases h
      · rw [List.set_eq_of_length_le (by omega)] at h
        exact absurd (List.getElem?_eq_some_iff.mp h).1 hv
    · rw [List.getElem?_set_ne hi] at h
      obtain ⟨h1, h2⟩ := wipeL_some (vs := vs) h
      exact ⟨h1, fun hm => (List.mem_cons.mp hm).elim (fun z => hi z.symm) h2⟩
theorem Rel.wipe {s : S} {σ : L2.St} {F H : Hp} {ρ : Nat → Addr} (r : Rel K s σ F H ρ) (vs : List Nat) : Rel K { s with sl := wipeL s.sl vs } (L2.wipe σ vs) F H ρ := by
  refine ⟨r.ex, ?_, fun i t e => ?_, r.own, r.fro, r.inj, r.all⟩
  · show (L2.wipe σ vs).length = (wipeL s.sl vs).length
    rw [L2.wipe_length, wipeL_length, r.len]
  · obtain ⟨e1, e2⟩ := wipeL_some (show (wipeL s.sl vs)[i]? = some (some t) from e)
    obtain ⟨v, q1, q2⟩ := r.sl i t e1
    exact ⟨v, by rw [L2.wipe_out e2]; exact q1, q2⟩
/-- other slots, the cells and the heap of later -/
theorem Rel.swap {a b : S} {σa σb : L2.St} {Fa Fb Ha Hb : Hp} {ρa ρb : Nat → Addr} (ra : Rel K a σa Fa Ha ρa) (p : Stp a ρa Fa Ha b ρb Fb Hb) (rb : Rel K b σb Fb Hb ρb) : Rel K { a with hp := b.hp } σa Fb Hb ρb :=
  ⟨rb.ex, ra.len, fun i t e => let ⟨v, q1, q2⟩ := ra.sl i t e; ⟨v, q1, q2.mono p.fx p.rho p.hl⟩, rb.own, rb.fro, rb.inj, rb.all⟩
theorem Stp.hp {s s' : S} {ρ ρ' : Nat → Addr} {F F' H H' : Hp} (p : Stp s ρ F H s' ρ' F' H') {sl sl' : List (Option T)} : Stp { s with sl := sl } ρ F H { s' with sl := sl' } ρ' F' H' := ⟨p.fx, p.rho, p.hl, p.fr, p.fz, p.th⟩
theorem wipe_keep {σ σ' : L2.St} {ws vs : List Nat} (hl : σ'.length = σ.length) (h : ∀ i, i ∉ ws → σ'[i]? = σ[i]?) (hw : ∀ i ∈ ws, i ∈ vs) : L2.wipe σ' vs = L2.wipe σ vs := by
  refine List.ext_getElem? fun i => ?_
  by_cases hi : i ∈ vs
  · have z : ∀ (τ : L2.St) (vs : List Nat), i ∈ vs → (L2.wipe τ vs)[i]? = if i < τ.length then some none else none := by
      intro τ vs
      induction vs with
      | nil => intro h; cases h
      | cons v vs ih =>
        intro h
        show ((L2.wipe τ vs).set v none)[i]? = _
        by_cases e : v = i
        · subst e
          by_cases hl : v < τ.length
          · rw [List.getElem?_set_self (by rw [L2.wipe_length]; exact hl), if_pos hl]
          · rw [if_neg hl]
            exact List.getElem?_eq_none_iff.mpr (by rw [List.length_set, L2.wipe_length]; omega)
        · rw [List.getElem?_set_ne e]
          exact ih ((List.mem_cons.mp h).resolve_left fun z => e z.symm)
    rw [z σ' vs hi, z σ vs hi, hl]
  · rw [L2.wipe_out hi, L2.wipe_out hi]
    exact h i fun z => hi (hw i z)
theorem wipe_wipe (σ : L2.St) (vs : List Nat) : L2.wipe (L2.wipe σ vs) vs = L2.wipe σ vs :=
  wipe_keep (ws := vs) (L2.wipe_length σ vs) (fun i hi => L2.wipe_out hi) fun i h => h
theorem Rel.adopt {s : S} {σ : L2.St} {F H : Hp} {ρ : Nat → Addr} (r : Rel K s σ F H ρ) {a : Addr} {k : Kd} {vs : List V} {ts : List T} {o : HO} (hρ : ∀ n, n < s.hp.length → ρ n ≠ a) (hH : H a = some o) (hF : F a = none) (ho : kIs k vs o) (c : TRL K ρ s.hp.length F vs ts) :
    Rel K (s.new k ts) σ F H (fun n => if n = s.hp.length then a else ρ n) := by
  have hl : (s.new k ts).hp.length = s.hp.length + 1 := by simp [S.new]
  have hr : ∀ n, n < s.hp.length → (fun n => if n = s.hp.length then a else ρ n) n = ρ n := fun n hn => if_neg (by omega)
  have up : ∀ {v t}, TR K ρ s.hp.length F v t → TR K (fun n => if n = s.hp.length then a else ρ n) (s.new k ts).hp.length F v t := fun h => h.mono (Evl.Ex.refl F) hr (by omega)
  have upL : ∀ {v t}, TRL K ρ s.hp.length F v t → TRL K (fun n => if n = s.hp.length then a else ρ n) (s.new k ts).hp.length F v t := fun h => TRL.mono h (Evl.Ex.refl F) hr (by omega)
  refine ⟨r.ex, r.len, fun i t e => ?_, fun n k' ts' e => ?_, fun n k' ts' e => ?_, fun n m hn hm e => ?_, fun n hn => ?_⟩
  · obtain ⟨v, q1, q2⟩ := r.sl i t e
    exact ⟨v, q1, up q2⟩
  · rcases get_snoc e with ⟨q, e⟩ | ⟨q, e⟩
    · obtain ⟨u, ws, h1, h2, h3, h4⟩ := r.own n k' ts' e
      have hn : (if n = s.hp.length then a else ρ n) = ρ n := hr n q
      exact ⟨u, ws, by rw [hn]; exact h1, h2, by rw [hn]; exact h3, upL h4⟩
    · cases e
      exact ⟨o, vs, by rw [if_pos q]; exact hH, ho, by rw [if_pos q]; exact hF, upL c⟩
  · rcases get_snoc e with ⟨q, e⟩ | ⟨q, e⟩
    · obtain ⟨ws, h1, h2⟩ := r.fro n k' ts' e
      exact ⟨ws, by rw [show (if n = s.hp.length then a else ρ n) = ρ n from hr n q]; exact h1, upL h2⟩
    · cases e
  · have e' : (if n = s.hp.length then a else ρ n) = (if m = s.hp.length then a else ρ m) := e
    by_cases e1 : n = s.hp.length <;> by_cases e2 : m = s.hp.length
    · omega
    · rw [if_pos e1, if_neg e2] at e'
      exact absurd e'.symm (hρ m (by omega))
    · rw [if_neg e1, if_pos e2] at e'
      exact absurd e' (hρ n (by omega))
    · rw [if_neg e1, if_neg e2] at e'
      exact r.inj n m (by omega) (by omega) e'
  · show ∃ u, H (if n = s.hp.length then a else ρ n) = some u
    by_cases e1 : n = s.hp.length
    · rw [if_pos e1]; exact ⟨_, hH⟩
    · rw [if_neg e1]; exact r.all n (by omega)
def lcEv (g : T → S → Option S) (c : S → Option (Bool × S)) (e : S → Option (T × S)) (w : List (Option T)) : List T → List T → List Cell → Option (List T × List Cell)
  | [], acc, hp => some (acc, hp)
  | t :: ts, acc, hp => (g t ⟨w, hp⟩).bind fun s1 => (c s1).bind fun p => if p.1 = true then (e p.2).bind fun q => if acc.length < lim then lcEv g c e w ts (acc ++ [q.1]) q.2.hp else none
    else lcEv g c e w ts acc p.2.hp
def CT.yes : CT K where
  tt := fun σ H Q => Q true H
  ev s := some (true, s)
  ok := by
    intro s b s' e
    cases e
    exact fun σ F H ρ Q r q => q F H ρ r Stp.refl
/-- a new object aside, through a step -/
theorem Stp.aside {s s' : S} {ρ ρ' : Nat → Addr} {F F' H H' : Hp} (p : Stp s ρ F H s' ρ' F' H') {D : Addr} {o : HO} (h : H D = some o ∧ F D = none ∧ ∀ n, n < s.hp.length → ρ n ≠ D) : H' D = some o ∧ F' D = none ∧ ∀ n, n < s'.hp.length → ρ' n ≠ D :=
  p.fr D o h.1 h.2.1 h.2.2
/-- the object aside is written -/
theorem Rel.aside {s : S} {σ : L2.St} {F H : Hp} {ρ : Nat → Addr} (r : Rel K s σ F H ρ) {D : Addr} {o o' : HO} (h : H D = some o ∧ F D = none ∧ ∀ n, n < s.hp.length → ρ n ≠ D) : Rel K s σ F (upd H D o') ρ := by
  obtain ⟨h1, h2, h3⟩ := h
  refine ⟨fun a u e => ?_, r.len, r.sl, fun n k ts e => ?_, r.fro, r.inj, fun n hn => ?_⟩
  · rw [upd_ne (fun z => by rw [z, h2] at e; cases e)]
    exact r.ex a u e
  · obtain ⟨u, ws, q1, q2, q3, q4⟩ := r.own n k ts e
    exact ⟨u, ws, by rw [upd_ne (h3 n (List.getElem?_eq_some_iff.mp e).1)]; exact q1, q2, q3, q4⟩
  · rw [upd_ne (h3 n hn)]
    exact r.all n hn
/-- a state later, but for the object aside: what was there at the start is as a step says -/
structure Away (D : Addr) (s : S) (ρ : Nat → Addr) (F H : Hp) (s' : S) (ρ' : Nat → Addr) (F' H' : Hp) : Prop where
  fx : Ex F F'
  rho : ∀ n, n < s.hp.length → ρ' n = ρ n
  hl : s.hp.length ≤ s'.hp.length
  fr : ∀ a o, H a = some o → F a = none → (∀ n, n < s.hp.length → ρ n ≠ a) → H' a = some o ∧ F' a = none ∧ ∀ n, n < s'.hp.length → ρ' n ≠ a
  fz : ∀ a ob u, H a = some (.frz ob u) → H' a = some (.frz ob u)
  th : ∀ a o, H a = some o → ∃ o', H' a = some o'
theorem Away.of {D : Addr} {s s1 : S} {ρ ρ1 : Nat → Addr} {F F1 H H1 : Hp} {o : HO} (p : Stp s ρ F H s1 ρ1 F1 (H1)) (hD : H1 D = none) : Away D s ρ F H s1 ρ1 F1 (upd H1 D o) := by
  have hne : ∀ a u, H a = some u → a ≠ D := fun a u e z => by
    obtain ⟨o', q⟩ := p.th a u e
    rw [z, hD] at q
    cases q
  exact ⟨p.fx, p.rho, p.hl, fun a u h1 h2 h3 => by
    rw [upd_ne (hne a u h1)]
    exact p.fr a u h1 h2 h3, fun a ob u h => by
    rw [upd_ne (hne a _ h)]
    exact p.fz a ob u h, fun a u h => by
    rw [upd_ne (hne a _ h)]
    exact p.th a u h⟩
theorem Away.step {D : Addr} {s s1 s2 : S} {ρ ρ1 ρ2 : Nat → Addr} {F F1 F2 H H1 H2 : Hp} {o : HO} (a : Away D s ρ F H s1 ρ1 F1 H1) (b : Stp s1 ρ1 F1 H1 s2 ρ2 F2 H2) (hD : H D = none) : Away D s ρ F H s2 ρ2 F2 (upd H2 D o) := by
  have hne : ∀ a u, H a = some u → a ≠ D := fun a u e z => by rw [z, hD] at e; cases e
  exact ⟨a.fx.trans b.fx, fun n h => (b.rho n (Nat.lt_of_lt_of_le h a.hl)).trans (a.rho n h), Nat.le_trans a.hl b.hl, fun c o h1 h2 h3 => by
    obtain ⟨q1, q2, q3⟩ := a.fr c o h1 h2 h3
    rw [upd_ne (hne c o h1)]
    exact b.fr c o q1 q2 q3, fun c ob u h => by
    rw [upd_ne (hne c _ h)]
    exact b.fz c ob u (a.fz c ob u h), fun c u h => by
    rw [upd_ne (hne c _ h)]
    obtain ⟨o1, q⟩ := a.th c u h
    exact b.th c o1 q⟩
theorem Away.step' {D : Addr} {s s1 s2 : S} {ρ ρ1 ρ2 : Nat → Addr} {F F1 F2 H H1 H2 : Hp} (a : Away D s ρ F H s1 ρ1 F1 H1) (b : Stp s1 ρ1 F1 H1 s2 ρ2 F2 H2) : Away D s ρ F H s2 ρ2 F2 H2 :=
  ⟨a.fx.trans b.fx, fun n h => (b.rho n (Nat.lt_of_lt_of_le h a.hl)).trans (a.rho n h), Nat.le_trans a.hl b.hl, fun c o h1 h2 h3 => by
    obtain ⟨q1, q2, q3⟩ := a.fr c o h1 h2 h3
    exact b.fr c o q1 q2 q3, fun c ob u h => b.fz c ob u (a.fz c ob u h), fun c u h => by
    obtain ⟨o1, q⟩ := a.th c u h
    exact b.th c o1 q⟩
/-- at the end the object aside becomes a cell, or stays as it is -/
theorem Rel.close {s0 s : S} {σ : L2.St} {F0 H0 F H : Hp} {ρ0 ρ : Nat → Addr} (own : Bool) {t : T} {s' : S} {D : Addr} {k : Kd} {vs : List V} {ts : List T} {o : HO} {R : Prop} (r : Rel K s σ F H ρ) (aw : Away D s0 ρ0 F0 H0 s ρ F H) (h : H D = some o ∧ F D = none ∧ ∀ n, n < s.hp.length → ρ n ≠ D) (hD : H0 D = none)
    (e : allocT own s k ts = (t, s')) (ho : kIs k vs o) (c : TRL K ρ s.hp.length F vs ts) (q : ∀ F' ρ', Rel K s' σ F' H ρ' → TR K ρ' s'.hp.length F' (.ref D) t → Stp s0 ρ0 F0 H0 s' ρ' F' H → R) : R := by
  obtain ⟨h1, h2, h3⟩ := h
  have hne : ∀ a u, H0 a = some u → a ≠ D := fun a u e z => by rw [z, hD] at e; cases e
  unfold allocT at e
  cases own with
  | true =>
    rw [if_pos rfl] at e
    cases e
    have hl : (s.new k ts).hp.length = s.hp.length + 1 := by simp [S.new]
    refine q F _ (r.adopt h3 h1 h2 ho c) ?_ ⟨aw.fx, fun n hn => ?_, by have := aw.hl; omega, fun a u q1 q2 q3 => ?_, aw.fz, aw.th⟩
    · have := TR.ptr (K := K) (ρ := fun n => if n = s.hp.length then D else ρ n) (N := (s.new k ts).hp.length) (F := F) (n := s.hp.length) (by omega)
      have e0 : (if s.hp.length = s.hp.length then D else ρ s.hp.length) = D := if_pos rfl
      rw [e0] at this
      exact this
    · show (if n = s.hp.length then D else ρ n) = ρ0 n
      rw [if_neg (by have := aw.hl; omega)]
      exact aw.rho n hn
    · obtain ⟨g1, g2, g3⟩ := aw.fr a u q1 q2 q3
      refine ⟨g1, g2, fun n hn => ?_⟩
      show (if n = s.hp.length then D else ρ n) ≠ a
      by_cases z : n = s.hp.length
      · rw [if_pos z]; exact (hne a u q1).symm
      · rw [if_neg z]; exact g3 n (by have : n < (s.new k ts).hp.length := hn; omega)
  | false =>
    rw [if_neg Bool.false_ne_true] at e
    cases e
    have ex : Ex F (upd F D o) := Evl.Ex.new h2
    have up : ∀ {v t}, TR K ρ s.hp.length F v t → TR K ρ s.hp.length (upd F D o) v t := fun h => h.mono ex (fun _ _ => rfl) (Nat.le_refl _)
    have r' : Rel K s σ (upd F D o) H ρ := by
      refine ⟨fun a u e => ?_, r.len, fun i t e => ?_, fun n k' ts' e => ?_, fun n k' ts' e => ?_, r.inj, r.all⟩
      · by_cases ha : a = D
        · subst ha; rw [upd_same] at e; cases e; exact .inl h1
        · rw [upd_ne ha] at e; exact r.ex a u e
      · obtain ⟨v, q1, q2⟩ := r.sl i t e
        exact ⟨v, q1, up q2⟩
      · obtain ⟨u, ws, q1, q2, q3, q4⟩ := r.own n k' ts' e
        exact ⟨u, ws, q1, q2, by rw [upd_ne (h3 n (List.getElem?_eq_some_iff.mp e).1)]; exact q3, Paired.mapP q4 fun _ _ h => up h⟩
      · obtain ⟨ws, q1, q2⟩ := r.fro n k' ts' e
        exact ⟨ws, q1.ex ex, Paired.mapP q2 fun _ _ h => up h⟩
    refine q _ _ r' (TR.ndL (ho.fixed upd_same) (Paired.mapP c fun _ _ h => up h)) ⟨aw.fx.trans ex, aw.rho, aw.hl, fun a u q1 q2 q3 => ?_, aw.fz, aw.th⟩
    obtain ⟨g1, g2, g3⟩ := aw.fr a u q1 q2 q3
    exact ⟨g1, by rw [upd_ne (hne a u q1)]; exact g2, g3⟩
def CE.lc (own : Bool) (ows : List Nat) (it : CI K) (g : CG K) (c : CT K) (e : CE K) : CE K where
  te := tLc it.wi g.g c.tt e.te ows
  ev s := (it.ev s).bind fun p => if g.ws.all ows.contains = true then (lcEv g.f c.ev e.ev (wipeL p.2.sl ows) p.1 [] p.2.hp).map fun z => allocT own { p.2 with hp := z.2 } .lst z.1 else none
  ok := by
    intro s t s' ee
    obtain ⟨⟨ts, s1⟩, h1, ee⟩ := Option.bind_eq_some_iff.mp ee
    dsimp only at ee
    split at ee
    · next hws =>
      obtain ⟨⟨accE, hpE⟩, h2, h3⟩ := Option.map_eq_some_iff.mp ee
      have hws' : ∀ i ∈ g.ws, i ∈ ows := fun i hi => by
        have := List.all_eq_true.mp hws i hi
        simpa using this
      intro σ F H ρ Q r q
      refine it.ok _ _ _ h1 σ F H ρ _ r fun J F1 H1 ρ1 r1 p1 y D hD => ?_
      obtain ⟨hF1, hρ1⟩ := r1.fresh hD
      have aw1 : Away D s1 ρ1 F1 H1 ⟨wipeL s1.sl ows, s1.hp⟩ ρ1 F1 (upd H1 D (.lst [])) := Away.of (Stp.hp (s := s1) (s' := s1) Stp.refl (sl := s1.sl)) hD
      have st1 : (upd H1 D (.lst [])) D = some (.lst []) ∧ F1 D = none ∧ ∀ n, n < s1.hp.length → ρ1 n ≠ D := ⟨upd_same, hF1, hρ1⟩
      have rw1 : Rel K ⟨wipeL s1.sl ows, s1.hp⟩ (L2.wipe σ ows) F1 (upd H1 D (.lst [])) ρ1 := by
        have r0 := r1.wipe ows
        refine ⟨fun a u e => ?_, r0.len, r0.sl, fun n k ts e => ?_, r0.fro, r0.inj, fun n hn => ?_⟩
        · rw [upd_ne (fun z => by rw [z, hF1] at e; cases e)]
          exact r0.ex a u e
        · obtain ⟨u, ws, q1, q2, q3, q4⟩ := r0.own n k ts e
          exact ⟨u, ws, by rw [upd_ne (hρ1 n (List.getElem?_eq_some_iff.mp e).1)]; exact q1, q2, q3, q4⟩
        · rw [upd_ne (hρ1 n hn)]
          exact r0.all n hn
      -- the loop's word
      refine ⟨fun i m H' => m = ts.length - i ∧ i ≤ ts.length ∧ ∃ hp acc accV F' ρ', Rel K ⟨wipeL s1.sl ows, hp⟩ (L2.wipe σ ows) F' H' ρ' ∧ Away D s1 ρ1 F1 H1 ⟨wipeL s1.sl ows, hp⟩ ρ' F' H' ∧
          (H' D = some (.lst accV) ∧ F' D = none ∧ ∀ n, n < hp.length → ρ' n ≠ D) ∧ TRL K ρ' hp.length F' accV acc ∧ lcEv g.f c.ev e.ev (wipeL s1.sl ows) (ts.drop i) acc hp = some (accE, hpE),
        ⟨ts.length, by simp, Nat.zero_le _, s1.hp, [], [], F1, ρ1, rw1, aw1, st1, .nil, h2⟩, ?_⟩
      rintro i m H3 ⟨rfl, hi, hp, acc, accV, F3, ρ3, r3, aw3, st3, w3, h3'⟩
      have hD3 : ∀ n, n < s1.hp.length → ρ3 n = ρ1 n := aw3.rho
      have p13 : Stp s1 ρ1 F1 H1 ⟨wipeL s1.sl ows, hp⟩ ρ3 F3 H3 := ⟨aw3.fx, aw3.rho, aw3.hl, aw3.fr, aw3.fz, aw3.th⟩
      obtain ⟨y1, y2⟩ := y _ _ F3 H3 ρ3 r3 p13 i
      rcases Nat.lt_or_ge i ts.length with hlt | hge
      · obtain ⟨t, ht⟩ : ∃ t, ts[i]? = some t := ⟨_, List.getElem?_eq_getElem hlt⟩
        obtain ⟨g1, g2⟩ := y2 t ht
        have hd : ts.drop i = t :: ts.drop (i + 1) := by
          rw [List.drop_eq_getElem_cons hlt]
          have : ts[i] = t := by rw [List.getElem?_eq_getElem hlt] at ht; exact Option.some.inj ht
          rw [this]
        rw [hd] at h3'
        obtain ⟨s4, e1, h4⟩ := Option.bind_eq_some_iff.mp (show (g.f t ⟨wipeL s1.sl ows, hp⟩).bind _ = some (accE, hpE) from h3')
        obtain ⟨⟨b, s5⟩, e2, h5⟩ := Option.bind_eq_some_iff.mp h4
        refine .inr ⟨g1, fun H' => i + 1 ≤ ts.length ∧ ∃ hp acc accV F' ρ', Rel K ⟨wipeL s1.sl ows, hp⟩ (L2.wipe σ ows) F' H' ρ' ∧ Away D s1 ρ1 F1 H1 ⟨wipeL s1.sl ows, hp⟩ ρ' F' H' ∧
          (H' D = some (.lst accV) ∧ F' D = none ∧ ∀ n, n < hp.length → ρ' n ≠ D) ∧ TRL K ρ' hp.length F' accV acc ∧ lcEv g.f c.ev e.ev (wipeL s1.sl ows) (ts.drop (i + 1)) acc hp = some (accE, hpE),
          fun H' z => ⟨ts.length - (i + 1), by omega, rfl, z.1, z.2⟩, fun x H4 z => ?_⟩
        obtain ⟨F4, r4, p4, w4⟩ := g2 x H4 z
        refine g.ok _ _ _ e1 _ F4 H4 ρ3 x _ r4 w4 fun σ5 F5 H5 ρ5 r5 p5 k5 => ⟨?_, ?_⟩
        · rw [wipe_keep (by rw [r5.len, r4.len]; exact g.len _ _ _ e1) k5 hws']
          exact wipe_wipe σ ows
        · refine c.ok _ _ _ e2 σ5 F5 H5 ρ5 _ r5 fun F6 H6 ρ6 r6 p6 => ?_
          have p36 := (p4.trans p5).trans p6
          cases b with
          | false =>
            have st6 := p36.aside st3
            exact ⟨hlt, s5.hp, acc, accV, F6, ρ6, r4.swap (p5.trans p6) r6, aw3.step' (p36.hp (sl := wipeL s1.sl ows)), st6, TRL.stp w3 p36, h5⟩
          | true =>
            obtain ⟨⟨u, s7⟩, e3, h6⟩ := Option.bind_eq_some_iff.mp h5
            dsimp only at h6
            refine e.ok _ _ _ e3 σ5 F6 H6 ρ6 _ r6 fun v7 F7 H7 ρ7 r7 w7 p7 => ?_
            split at h6
            · next hl =>
              have p37 := p36.trans p7
              have st7 := p37.aside st3
              have w37 := TRL.stp w3 p37
              refine ⟨accV, st7.1, lim_lt (by rw [Paired.length w3]; exact hl), hlt, s7.hp, acc ++ [u], accV ++ [v7], F7, ρ7, ?_, ?_, ⟨upd_same, st7.2⟩, Paired.app w37 (.cons w7 .nil), h6⟩
              · exact (r4.swap ((p5.trans p6).trans p7) r7).aside st7
              · exact aw3.step (p37.hp (sl := wipeL s1.sl ows)) hD
            · cases h6
      · have ei : i = ts.length := by omega
        subst ei
        rw [List.drop_length] at h3'
        cases h3'
        refine .inl ⟨y1 rfl, ?_⟩
        have rE : Rel K { s1 with hp := hpE } σ F3 H3 ρ3 := r1.swap p13 r3
        refine Rel.close own rE (aw3.step' (Stp.hp (s := ⟨wipeL s1.sl ows, hpE⟩) (s' := ⟨wipeL s1.sl ows, hpE⟩) Stp.refl (sl := wipeL s1.sl ows) (sl' := s1.sl))) st3 hD h3 (k := .lst) rfl w3 fun F' ρ' r' w' p' => q _ F' H3 ρ' r' w' (p1.trans p')
    · cases ee

/-! dict comprehensions -/
def dcEv (g : T → S → Option S) (c : S → Option (Bool × S)) (ek ev : S → Option (T × S)) (w : List (Option T)) : List T → List (Key × T) → List Cell → Option (List (Key × T) × List Cell)
  | [], acc, hp => some (acc, hp)
  | t :: ts, acc, hp => (g t ⟨w, hp⟩).bind fun s1 => (c s1).bind fun p => if p.1 = true then (ek p.2).bind fun z => (ev z.2).bind fun q => match keyT z.1 with
      | some k => if acc.length < lim then dcEv g c ek ev w ts (putT acc k q.1) q.2.hp else none
      | none => none
    else dcEv g c ek ev w ts acc p.2.hp
def CE.dc (own : Bool) (ows : List Nat) (it : CI K) (g : CG K) (c : CT K) (ek e : CE K) : CE K where
  te := tDc it.wi g.g c.tt ek.te e.te ows
  ev s := (it.ev s).bind fun p => if g.ws.all ows.contains = true then (dcEv g.f c.ev ek.ev e.ev (wipeL p.2.sl ows) p.1 [] p.2.hp).map fun z => allocT own { p.2 with hp := z.2 } (.dK (z.1.map (·.1))) (z.1.map (·.2)) else none
  ok := by
    intro s t s' ee
    obtain ⟨⟨ts, s1⟩, h1, ee⟩ := Option.bind_eq_some_iff.mp ee
    dsimp only at ee
    split at ee
    · next hws =>
      obtain ⟨⟨accE, hpE⟩, h2, h3⟩ := Option.map_eq_some_iff.mp ee
      have hws' : ∀ i ∈ g.ws, i ∈ ows := fun i hi => by
        have := List.all_eq_true.mp hws i hi
        simpa using this
      intro σ F H ρ Q r q
      refine it.ok _ _ _ h1 σ F H ρ _ r fun J F1 H1 ρ1 r1 p1 y D hD => ?_
      obtain ⟨hF1, hρ1⟩ := r1.fresh hD
      have aw1 : Away D s1 ρ1 F1 H1 ⟨wipeL s1.sl ows, s1.hp⟩ ρ1 F1 (upd H1 D (.dK [])) := Away.of (Stp.hp (s := s1) (s' := s1) Stp.refl (sl := s1.sl)) hD
      have st1 : (upd H1 D (.dK [])) D = some (.dK []) ∧ F1 D = none ∧ ∀ n, n < s1.hp.length → ρ1 n ≠ D := ⟨upd_same, hF1, hρ1⟩
      have rw1 : Rel K ⟨wipeL s1.sl ows, s1.hp⟩ (L2.wipe σ ows) F1 (upd H1 D (.dK [])) ρ1 := by
        have r0 := r1.wipe ows
        refine ⟨fun a u e => ?_, r0.len, r0.sl, fun n k ts e => ?_, r0.fro, r0.inj, fun n hn => ?_⟩
        · rw [upd_ne (fun z => by rw [z, hF1] at e; cases e)]
          exact r0.ex a u e
        · obtain ⟨u, ws, q1, q2, q3, q4⟩ := r0.own n k ts e
          exact ⟨u, ws, by rw [upd_ne (hρ1 n (List.getElem?_eq_some_iff.mp e).1)]; exact q1, q2, q3, q4⟩
        · rw [upd_ne (hρ1 n hn)]
          exact r0.all n hn
      -- the loop's word
      refine ⟨fun i m H' => m = ts.length - i ∧ i ≤ ts.length ∧ ∃ hp acc accV F' ρ', Rel K ⟨wipeL s1.sl ows, hp⟩ (L2.wipe σ ows) F' H' ρ' ∧ Away D s1 ρ1 F1 H1 ⟨wipeL s1.sl ows, hp⟩ ρ' F' H' ∧
          (H' D = some (.dK accV) ∧ F' D = none ∧ ∀ n, n < hp.length → ρ' n ≠ D) ∧ Paired (KR K ρ' hp.length F') accV acc ∧ dcEv g.f c.ev ek.ev e.ev (wipeL s1.sl ows) (ts.drop i) acc hp = some (accE, hpE),
        ⟨ts.length, by simp, Nat.zero_le _, s1.hp, [], [], F1, ρ1, rw1, aw1, st1, .nil, h2⟩, ?_⟩
      rintro i m H3 ⟨rfl, hi, hp, acc, accV, F3, ρ3, r3, aw3, st3, w3, h3'⟩
      have p13 : Stp s1 ρ1 F1 H1 ⟨wipeL s1.sl ows, hp⟩ ρ3 F3 H3 := ⟨aw3.fx, aw3.rho, aw3.hl, aw3.fr, aw3.fz, aw3.th⟩
      obtain ⟨y1, y2⟩ := y _ _ F3 H3 ρ3 r3 p13 i
      rcases Nat.lt_or_ge i ts.length with hlt | hge
      · obtain ⟨t, ht⟩ : ∃ t, ts[i]? = some t := ⟨_, List.getElem?_eq_getElem hlt⟩
        obtain ⟨g1, g2⟩ := y2 t ht
        have hd : ts.drop i = t :: ts.drop (i + 1) := by
          rw [List.drop_eq_getElem_cons hlt]
          have : ts[i] = t := by rw [List.getElem?_eq_getElem hlt] at ht; exact Option.some.inj ht
          rw [this]
        rw [hd] at h3'
        obtain ⟨s4, e1, h4⟩ := Option.bind_eq_some_iff.mp (show (g.f t ⟨wipeL s1.sl ows, hp⟩).bind _ = some (accE, hpE) from h3')
        obtain ⟨⟨b, s5⟩, e2, h5⟩ := Option.bind_eq_some_iff.mp h4
        refine .inr ⟨g1, fun H' => i + 1 ≤ ts.length ∧ ∃ hp acc accV F' ρ', Rel K ⟨wipeL s1.sl ows, hp⟩ (L2.wipe σ ows) F' H' ρ' ∧ Away D s1 ρ1 F1 H1 ⟨wipeL s1.sl ows, hp⟩ ρ' F' H' ∧
          (H' D = some (.dK accV) ∧ F' D = none ∧ ∀ n, n < hp.length → ρ' n ≠ D) ∧ Paired (KR K ρ' hp.length F') accV acc ∧ dcEv g.f c.ev ek.ev e.ev (wipeL s1.sl ows) (ts.drop (i + 1)) acc hp = some (accE, hpE),
          fun H' z => ⟨ts.length - (i + 1), by omega, rfl, z.1, z.2⟩, fun x H4 z => ?_⟩
        obtain ⟨F4, r4, p4, w4⟩ := g2 x H4 z
        have upK : ∀ {sa sb : S} {ρa ρb : Nat → Addr} {Fa Fb Ha Hb : Hp}, Stp sa ρa Fa Ha sb ρb Fb Hb → Paired (KR K ρa sa.hp.length Fa) accV acc → Paired (KR K ρb sb.hp.length Fb) accV acc := fun p w => Paired.mapP w fun _ _ h => ⟨h.1, h.2.stp p⟩
        refine g.ok _ _ _ e1 _ F4 H4 ρ3 x _ r4 w4 fun σ5 F5 H5 ρ5 r5 p5 k5 => ⟨?_, ?_⟩
        · rw [wipe_keep (by rw [r5.len, r4.len]; exact g.len _ _ _ e1) k5 hws']
          exact wipe_wipe σ ows
        · refine c.ok _ _ _ e2 σ5 F5 H5 ρ5 _ r5 fun F6 H6 ρ6 r6 p6 => ?_
          have p36 := (p4.trans p5).trans p6
          cases b with
          | false =>
            have st6 := p36.aside st3
            exact ⟨hlt, s5.hp, acc, accV, F6, ρ6, r4.swap (p5.trans p6) r6, aw3.step' (p36.hp (sl := wipeL s1.sl ows)), st6, upK p36 w3, h5⟩
          | true =>
            obtain ⟨⟨uk, s6⟩, e3, h6⟩ := Option.bind_eq_some_iff.mp h5
            obtain ⟨⟨u, s7⟩, e4, h7⟩ := Option.bind_eq_some_iff.mp h6
            clear h5 h6
            dsimp only at h7
            refine ek.ok _ _ _ e3 σ5 F6 H6 ρ6 _ r6 fun v7 F7 H7 ρ7 r7 w7 p7 => ?_
            refine e.ok _ _ _ e4 σ5 F7 H7 ρ7 _ r7 fun v8 F8 H8 ρ8 r8 w8 p8 => ?_
            split at h7
            · next k e6 =>
              split at h7
              · next hl =>
                have p38 := (p36.trans p7).trans p8
                have st8 := p38.aside st3
                have w38 := upK p38 w3
                refine ⟨accV, k, keyT_kV (s := s6) w7 e6, st8.1, lim_lt (by rw [Paired.length w3]; exact hl), hlt, s7.hp, putT acc k u, putK accV k v8, F8, ρ8, ?_, ?_, ⟨upd_same, st8.2⟩, put_rel w8 w38, h7⟩
                · exact (r4.swap (((p5.trans p6).trans p7).trans p8) r8).aside st8
                · exact aw3.step (p38.hp (sl := wipeL s1.sl ows)) hD
              · cases h7
            · cases h7
      · have ei : i = ts.length := by omega
        subst ei
        rw [List.drop_length] at h3'
        cases h3'
        refine .inl ⟨y1 rfl, ?_⟩
        have rE : Rel K { s1 with hp := hpE } σ F3 H3 ρ3 := r1.swap p13 r3
        refine Rel.close own rE (aw3.step' (Stp.hp (s := ⟨wipeL s1.sl ows, hpE⟩) (s' := ⟨wipeL s1.sl ows, hpE⟩) Stp.refl (sl := wipeL s1.sl ows) (sl' := s1.sl))) st3 hD h3 (kIs_dict w3) (kr_to w3).2 fun F' ρ' r' w' p' => q _ F' H3 ρ' r' w' (p1.trans p')
    · cases ee

/-! ### dict(..) -/
def pairsT : List T → Option (List (Key × T))
  | [] => some []
  | .nd .tup [a, b] :: ts => match keyT a, pairsT ts with
    | some k, some r => some ((k, b) :: r)
    | _, _ => none
  | _ => none
def mergeT (kvs more : List (Key × T)) : List (Key × T) := more.foldl (fun acc kv => putT acc kv.1 kv.2) kvs
theorem mergeR {ρ : Nat → Addr} {N : Nat} {F : Hp} {more : List (Key × V)} {moreT : List (Key × T)} (p : Paired (KR K ρ N F) more moreT) : ∀ {kvs : List (Key × V)} {kts : List (Key × T)}, Paired (KR K ρ N F) kvs kts → Paired (KR K ρ N F) (mergeK kvs more) (mergeT kts moreT) := by
  induction p with
  | nil => intro _ _ q; exact q
  | @cons a b xs ys r _ ih =>
    intro kvs kts q
    show Paired (KR K ρ N F) (mergeK (putK kvs a.1 a.2) xs) (mergeT (putT kts b.1 b.2) ys)
    refine ih ?_
    rw [r.1]
    exact put_rel r.2 q
theorem pairs_rel {ρ : Nat → Addr} {N : Nat} {F H : Hp} (ex : ExR F H) : ∀ {ts : List T} {vs : List V} {kts : List (Key × T)}, TRL K ρ N F vs ts → pairsT ts = some kts →
    ∃ (ps : List Addr) (kvs : List (Key × V)), vs = ps.map V.ref ∧ Paired (fun p kv => SqT K H p [kV kv.1, kv.2]) ps kvs ∧ Paired (KR K ρ N F) kvs kts := by
  intro ts
  induction ts with
  | nil => intro vs kts p e; cases p; cases e; exact ⟨[], [], rfl, .nil, .nil⟩
  | cons t ts ih =>
    intro vs kts p e
    unfold pairsT at e
    split at e
    · next h => cases h
    · next a b ts' h =>
      cases h
      split at e
      · next k r hk hr =>
        cases e
        cases p with
        | cons w p =>
          obtain ⟨ps, kvs, h1, h2, h3⟩ := ih p hr
          obtain ⟨a', vs', rfl, g1, g2⟩ := w.nd_inv
          obtain ⟨x, y, rfl, wx, wy⟩ := Paired.two g2
          have ex1 : x = kV k := by
            unfold keyT at hk
            split at hk
            · cases hk; exact wx.at_inv.1
            · cases hk; exact wx.at_inv.1
            · cases hk
          subst ex1
          exact ⟨a' :: ps, (k, y) :: kvs, by rw [h1]; rfl, .cons (ex.sqT g1) h2, .cons ⟨rfl, wy⟩ h3⟩
      · cases e
    · cases e
def ON.dictP (own : Bool) : ON K where
  r := fun xs H Q => ∃ (a : Addr) (ps : List Addr) (kvs : List (Key × V)), xs = [.ref a] ∧ SqL K H a (ps.map V.ref) ∧ Paired (fun p kv => SqT K H p [kV kv.1, kv.2]) ps kvs ∧ ∀ p, H p = none → Q (.ref p) (upd H p (.dK (mergeK [] kvs)))
  f ts s := match ts with
    | [t] => match view t s with
      | some (.lst, us) => (pairsT us).map fun kvs => allocT own s (.dK ((mergeT [] kvs).map (·.1))) ((mergeT [] kvs).map (·.2))
      | _ => none
    | _ => none
  ok := by
    intro ts s t s' e σ F H ρ xs Q r w q
    split at e
    · next t1 =>
      obtain ⟨x, rfl, w1⟩ := Paired.one w
      split at e
      · next us e1 =>
        obtain ⟨kvs, e2, e3⟩ := Option.map_eq_some_iff.mp e
        obtain ⟨a, vs, rfl, h2, h3⟩ := r.view w1 e1
        obtain ⟨ps, kvv, g1, g2, g3⟩ := pairs_rel r.ex h3 e2
        subst g1
        refine ⟨a, ps, kvv, rfl, SqL.of h2, g2, fun p hp => ?_⟩
        have pr := mergeR g3 (kvs := []) (kts := []) .nil
        exact r.make own e3 hp (kIs_dict pr) (kr_to pr).2 fun F4 ρ4 r4 w4 p5 => q _ _ _ _ r4 w4 p5
      · cases e
    · cases e
def ON.dictD (own : Bool) : ON K where
  r := fun xs H Q => ∃ (a : Addr) (kvs : List (Key × V)), xs = [.ref a] ∧ Rd H a (.dK kvs) ∧ ∀ p, H p = none → Q (.ref p) (upd H p (.dK kvs))
  f ts s := match ts with
    | [t] => match view t s with
      | some (.dK ks, us) => some (allocT own s (.dK ks) us)
      | _ => none
    | _ => none
  ok := by
    intro ts s t s' e σ F H ρ xs Q r w q
    split at e
    · next t1 =>
      obtain ⟨x, rfl, w1⟩ := Paired.one w
      split at e
      · next ks us e1 =>
        obtain ⟨a, vs, rfl, h2, h3⟩ := r.view w1 e1
        refine ⟨a, _, rfl, h2.2, fun p hp => ?_⟩
        exact r.make own (Option.some.inj e) (k := .dK ks) hp ⟨h2.1, rfl⟩ h3 fun F4 ρ4 r4 w4 p5 => q _ _ _ _ r4 w4 p5
      · cases e
    · cases e
/-- a built-in read in one of two ways -/
def ON.or (a b : ON K) : ON K where
  r := fun xs H Q => a.r xs H Q ∨ b.r xs H Q
  f ts s := match a.f ts s with
    | some p => some p
    | none => b.f ts s
  ok := by
    intro ts s t s' e σ F H ρ xs Q r w q
    split at e
    · next p e1 => cases e; exact .inl (a.ok _ _ _ _ e1 σ F H ρ xs Q r w q)
    · exact .inr (b.ok _ _ _ _ e σ F H ρ xs Q r w q)
def ON.dict (own : Bool) : ON K := ON.or (ON.dictP own) (ON.dictD own)
theorem c_dict {own : Bool} {X : Cx} (hc : X.calm = true) : CallR X (.type "dict") (ON.dict (K := X.K) own).r := (call_dictP hc).or call_dictD

/-! ### defs -/
inductive Res where | val (t : T) | new (k : Kd) (ts : List T)
abbrev ρ0 : Nat → Addr := fun _ => 0
def ResOk (K : PySem.W.Frag) (F' H H' : Hp) (v : V) : Res → Prop
  | .val t => TR K ρ0 0 F' v t
  | .new k ts => ∃ a o vs, v = .ref a ∧ H a = none ∧ H' a = some o ∧ kIs k vs o ∧ F' a = none ∧ TRL K ρ0 0 F' vs ts
/-- a def that writes nothing of its caller's -/
def SpV (K : PySem.W.Frag) (sp : List T → Option Res) : Sp := fun vs H Q _ => ∃ F ts r, ExR F H ∧ TRL K ρ0 0 F vs ts ∧ sp ts = some r ∧ ∀ v F' H', ExR F' H' → Ex F F' → (∀ a o, H a = some o → F a = none → H' a = some o ∧ F' a = none) →
  (∀ a ob u, H a = some (.frz ob u) → H' a = some (.frz ob u)) → (∀ a o, H a = some o → ∃ o', H' a = some o') → ResOk K F' H H' v r → Q v H'
/-- a def that writes its first argument -/
def SpR (K : PySem.W.Frag) (sp : Kd → List T → List T → Option (Res × Kd × List T)) : Sp := fun vs H Q _ => ∃ F a ws o xs k us ts r k' us', vs = .ref a :: ws ∧ ExR F H ∧ H a = some o ∧ kIs k xs o ∧ F a = none ∧ TRL K ρ0 0 F xs us ∧ TRL K ρ0 0 F ws ts ∧
  sp k us ts = some (r, k', us') ∧ ∀ v F' H' o' xs', ExR F' H' → Ex F F' → (∀ b o, b ≠ a → H b = some o → F b = none → H' b = some o ∧ F' b = none) →
  (∀ a ob u, H a = some (.frz ob u) → H' a = some (.frz ob u)) → (∀ a o, H a = some o → ∃ o', H' a = some o') → H' a = some o' → kIs k' xs' o' → F' a = none → TRL K ρ0 0 F' xs' us' → ResOk K F' H H' v r → Q v H'
def resF (r : Res) (s : S) : T × S := match r with
  | .val t => (t, s)
  | .new k ts => (.ptr s.hp.length, s.new k ts)
/-- behind a call -/
theorem res_okP {s sa : S} {σ : L2.St} {F H F' H' : Hp} {ρ : Nat → Addr} {v : V} {r : Res} (rl : Rel K s σ F' H' ρ) (p : Stp sa ρ F H s ρ F' H') (hall : ∀ n, n < s.hp.length → ∃ o, H (ρ n) = some o) (w : ResOk K F' H H' v r) :
    ∃ ρ', Rel K (resF r s).2 σ F' H' ρ' ∧ TR K ρ' (resF r s).2.hp.length F' v (resF r s).1 ∧ Stp sa ρ F H (resF r s).2 ρ' F' H' := by
  cases r with
  | val t => exact ⟨ρ, rl, w.mono (Evl.Ex.refl _) (fun n h => absurd h (Nat.not_lt_zero _)) (Nat.zero_le _), p⟩
  | new k ts =>
    obtain ⟨a, o, vs, rfl, h1, h2, h3, h4, h5⟩ := w
    have hρ : ∀ n, n < s.hp.length → ρ n ≠ a := fun n hn z => by
      obtain ⟨o, q⟩ := hall n hn
      rw [z, h1] at q
      cases q
    have r2 := rl.adopt (k := k) (ts := ts) hρ h2 h4 h3 (TRL.mono h5 (Evl.Ex.refl _) (fun n h => absurd h (Nat.not_lt_zero _)) (Nat.zero_le _))
    have hl : (s.new k ts).hp.length = s.hp.length + 1 := by simp [S.new]
    refine ⟨_, r2, ?_, ⟨p.fx, fun n hn => ?_, by have := p.hl; show sa.hp.length ≤ (s.new k ts).hp.length; omega, fun b u q1 q2 q3 => ?_, p.fz, p.th⟩⟩
    · have := TR.ptr (K := K) (ρ := fun n => if n = s.hp.length then a else ρ n) (N := (s.new k ts).hp.length) (F := F') (n := s.hp.length) (by omega)
      have e0 : (if s.hp.length = s.hp.length then a else ρ s.hp.length) = a := if_pos rfl
      rw [e0] at this
      exact this
    · show (if n = s.hp.length then a else ρ n) = ρ n
      rw [if_neg (by have := p.hl; omega)]
    · obtain ⟨g1, g2, g3⟩ := p.fr b u q1 q2 q3
      refine ⟨g1, g2, fun n hn => ?_⟩
      show (if n = s.hp.length then a else ρ n) ≠ b
      by_cases e : n = s.hp.length
      · rw [if_pos e]
        intro z
        rw [← z, h1] at q1
        cases q1
      · rw [if_neg e]
        exact g3 n (by have : n < (s.new k ts).hp.length := hn; omega)
def ON.fn (sp : List T → Option Res) : ON K where
  r := fun vs H Q => SpV K sp (vs ++ []) H Q E0
  f ts s := (frzs ts s).bind fun p => (sp p.1).map fun r => resF r p.2
  ok := by
    intro ts s t s' e σ F H ρ xs Q r w q
    obtain ⟨⟨ts1, s1⟩, h1, e⟩ := Option.bind_eq_some_iff.mp e
    obtain ⟨rr, h2, e⟩ := Option.map_eq_some_iff.mp e
    obtain ⟨pu, k1⟩ := frzs_ok (K := K) h1
    obtain ⟨F1, r1, p1, w1⟩ := k1 σ F H ρ xs r w
    have w0 : TRL K ρ0 0 F1 xs ts1 := TRL.pure w1 pu
    rw [List.append_nil]
    refine ⟨F1, ts1, rr, r1.ex, w0, h2, fun v F' H' ex' fx fr fz th ro => ?_⟩
    have r2 : Rel K s1 σ F' H' ρ := by
      refine ⟨ex', r1.len, fun i t e => ?_, fun n k ts e => ?_, fun n k ts e => ?_, r1.inj, fun n hn => ?_⟩
      · obtain ⟨v, q1, q2⟩ := r1.sl i t e
        exact ⟨v, q1, q2.mono fx (fun _ _ => rfl) (Nat.le_refl _)⟩
      · obtain ⟨o, vs, g1, g2, g3, g4⟩ := r1.own n k ts e
        obtain ⟨g5, g6⟩ := fr _ _ g1 g3
        exact ⟨o, vs, g5, g2, g6, TRL.mono g4 fx (fun _ _ => rfl) (Nat.le_refl _)⟩
      · obtain ⟨vs, g1, g2⟩ := r1.fro n k ts e
        exact ⟨vs, g1.ex fx, TRL.mono g2 fx (fun _ _ => rfl) (Nat.le_refl _)⟩
      · obtain ⟨o, ho⟩ := r1.all n hn
        exact th _ _ ho
    have p2 : Stp s1 ρ F1 H s1 ρ F' H' := ⟨fx, fun _ _ => rfl, Nat.le_refl _, fun a o a1 a2 a3 => ⟨(fr a o a1 a2).1, (fr a o a1 a2).2, a3⟩, fz, th⟩
    obtain ⟨ρ', r3, w3, p3⟩ := res_okP r2 p2 r1.all ro
    have e' : resF rr s1 = (t, s') := e
    rw [e'] at r3 w3 p3
    exact q _ _ _ _ r3 w3 (p1.trans p3)
/-- a call of a def that writes its first argument -/
def ON.fnR (sp : Kd → List T → List T → Option (Res × Kd × List T)) : ON K where
  r := fun vs H Q => SpR K sp (vs ++ []) H Q E0
  f ts s := match ts with
    | .ptr n :: rest => (frzs rest s).bind fun p => match p.2.hp[n]? with
      | some (.own k us) => if pureL us = true then (sp k us p.1).map fun z => resF z.1 (p.2.put n z.2.1 z.2.2) else none
      | _ => none
    | _ => none
  ok := by
    intro ts s t s' e σ F H ρ xs Q r w q
    split at e
    · next n rest =>
      obtain ⟨⟨ts1, s1⟩, h1, e1⟩ := Option.bind_eq_some_iff.mp e
      clear e
      dsimp only at e1
      split at e1
      · next k us h2 =>
        split at e1
        · next hp =>
          obtain ⟨⟨rr, k', us'⟩, h3, e2⟩ := Option.map_eq_some_iff.mp e1
          clear e1
          cases w with
          | cons w0 w =>
            obtain ⟨rfl, hn⟩ := w0.ptr_inv
            obtain ⟨pu, k1⟩ := frzs_ok (K := K) h1
            obtain ⟨F1, r1, p1, w1⟩ := k1 σ F H ρ _ r w
            obtain ⟨o, vs, g1, g2, g3, g4⟩ := r1.own n k us h2
            have hn1 : n < s1.hp.length := (List.getElem?_eq_some_iff.mp h2).1
            rw [List.append_nil]
            refine ⟨F1, ρ n, _, o, vs, k, us, ts1, rr, k', us', rfl, r1.ex, g1, g2, g3, TRL.pure g4 hp, TRL.pure w1 pu, h3, fun v F' H' o' xs' ex' fx fr fz th a1 a2 a3 a4 ro => ?_⟩
            have hne : ∀ m, m < s1.hp.length → m ≠ n → ρ m ≠ ρ n := fun m hm z e => z (r1.inj m n hm hn1 e)
            have hl : (s1.put n k' us').hp.length = s1.hp.length := by simp [S.put]
            have up : ∀ {v t}, TR K ρ s1.hp.length F1 v t → TR K ρ (s1.put n k' us').hp.length F' v t := fun h => h.mono fx (fun _ _ => rfl) (by omega)
            have upL : ∀ {v t}, TRL K ρ s1.hp.length F1 v t → TRL K ρ (s1.put n k' us').hp.length F' v t := fun h => TRL.mono h fx (fun _ _ => rfl) (by omega)
            have r2 : Rel K (s1.put n k' us') σ F' H' ρ := by
              refine ⟨ex', r1.len, fun i t e => ?_, fun m k ts e => ?_, fun m k ts e => ?_, fun a b ha hb => r1.inj a b (by omega) (by omega), fun m hm => ?_⟩
              · obtain ⟨v, q1, q2⟩ := r1.sl i t e
                exact ⟨v, q1, up q2⟩
              · have e2 : (s1.hp.set n (.own k' us'))[m]? = some (.own k ts) := e
                by_cases hm : m = n
                · subst hm
                  rw [List.getElem?_set_self hn1] at e2
                  cases e2
                  exact ⟨o', xs', a1, a2, a3, TRL.mono a4 (Evl.Ex.refl _) (fun n h => absurd h (Nat.not_lt_zero _)) (Nat.zero_le _)⟩
                · rw [List.getElem?_set_ne (Ne.symm hm)] at e2
                  obtain ⟨u, vs, b1, b2, b3, b4⟩ := r1.own m k ts e2
                  obtain ⟨b5, b6⟩ := fr _ _ (hne m (List.getElem?_eq_some_iff.mp e2).1 hm) b1 b3
                  exact ⟨u, vs, b5, b2, b6, upL b4⟩
              · have e2 : (s1.hp.set n (.own k' us'))[m]? = some (.fro k ts) := e
                by_cases hm : m = n
                · subst hm
                  rw [List.getElem?_set_self hn1] at e2
                  cases e2
                · rw [List.getElem?_set_ne (Ne.symm hm)] at e2
                  obtain ⟨vs, b1, b2⟩ := r1.fro m k ts e2
                  exact ⟨vs, b1.ex fx, upL b2⟩
              · obtain ⟨o, ho⟩ := r1.all m (by omega)
                exact th _ _ ho
            have p2 : Stp s1 ρ F1 H (s1.put n k' us') ρ F' H' := ⟨fx, fun _ _ => rfl, by omega, fun a o b1 b2 b3 => ⟨(fr a o (b3 n hn1).symm b1 b2).1, (fr a o (b3 n hn1).symm b1 b2).2, fun m hm => b3 m (by omega)⟩, fz, th⟩
            obtain ⟨ρ', r3, w3, p3⟩ := res_okP r2 p2 (fun m hm => r1.all m (by omega)) ro
            have e' : resF rr (s1.put n k' us') = (t, s') := e2
            rw [e'] at r3 w3 p3
            exact q _ _ _ _ r3 w3 (p1.trans p3)
        · cases e1
      · cases e1
    · cases e

/-! ### the body of a def -/
def S.v0 (n : Nat) (ts : List T) : S := ⟨ts.map some ++ List.replicate (n - ts.length) none, []⟩
/-- what a body comes to -/
def FinV : Option Out → Res → Prop
  | some (.rt t s), .val u => ∃ s', frz t s = some (u, s')
  | some (.rt t s), .new k ts => ∃ n, t = .ptr n ∧ s.hp[n]? = some (.own k ts) ∧ pureL ts = true
  | some (.nx s), .val u => u = .at .non
  | _, _ => False
theorem start_rel {N : List Str} {vs : List V} {ts : List T} {F H : Hp} (ex : ExR F H) (w : TRL K ρ0 0 F vs ts) (hl : ts.length ≤ N.length) : Rel K (S.v0 N.length ts) (L2.start N vs) F H ρ0 := by
  have l := Paired.length w
  refine ⟨ex, ?_, fun i t e => ?_, fun n k ts e => ?_, fun n k ts e => ?_, fun n m hn => ?_, fun n hn => ?_⟩
  · simp [S.v0, L2.start, l]
  · have e2 : (ts.map some ++ List.replicate (N.length - ts.length) none)[i]? = some (some t) := e
    rcases Nat.lt_or_ge i ts.length with h | h
    · rw [List.getElem?_append_left (by rw [List.length_map]; exact h), List.getElem?_map] at e2
      obtain ⟨u, e3, e4⟩ := Option.map_eq_some_iff.mp e2
      cases e4
      obtain ⟨v, e5, e6⟩ := Paired.getR w e3
      refine ⟨v, ?_, e6.mono (Evl.Ex.refl _) (fun n h => absurd h (Nat.not_lt_zero _)) (Nat.zero_le _)⟩
      unfold L2.start
      rw [List.getElem?_append_left (by rw [List.length_map]; omega), List.getElem?_map, e5]
      rfl
    · rw [List.getElem?_append_right (by rw [List.length_map]; exact h), List.getElem?_replicate] at e2
      split at e2 <;> cases e2
  · exact absurd (show ([] : List Cell)[n]? = _ from e) (by simp)
  · exact absurd (show ([] : List Cell)[n]? = _ from e) (by simp)
  · exact absurd hn (Nat.not_lt_zero _)
  · exact absurd hn (Nat.not_lt_zero _)
theorem body_val {code : CS K} {sp : List T → Option Res} {N : List Str} (hl : ∀ ts r, sp ts = some r → ts.length ≤ N.length) (hrun : ∀ ts r, sp ts = some r → pureL ts = true → FinV (code.ex (S.v0 N.length ts)) r)
    {vs : List V} {H : Hp} {Q : VK} {E : XK} (h : SpV K sp vs H Q E) : code.ts { nx := fun _ H' => Q .non H', rt := Q } (L2.start N vs) H := by
  obtain ⟨F, ts, r, ex, w, hs, q⟩ := h
  have pu : pureL ts = true := pureL_all.mpr fun t ht => by
    obtain ⟨j, hj, e⟩ := List.mem_iff_getElem.mp ht
    obtain ⟨v, _, e2⟩ := Paired.getR w (List.getElem?_eq_getElem hj)
    rw [← e]
    exact e2.pure0
  have fin := hrun ts r hs pu
  have r0 := start_rel (N := N) ex w (hl ts r hs)
  cases ho : code.ex (S.v0 N.length ts) with
  | none => rw [ho] at fin; exact fin.elim
  | some o =>
    rw [ho] at fin
    refine code.ok _ _ ho _ F H ρ0 _ r0 ?_
    have old : ∀ {s' ρ' F' H'}, Stp (S.v0 N.length ts) ρ0 F H s' ρ' F' H' → ∀ a o, H a = some o → F a = none → H' a = some o ∧ F' a = none ∧ ∀ n, n < s'.hp.length → ρ' n ≠ a := fun p a o h1 h2 =>
      p.fr a o h1 h2 fun n hn => absurd hn (Nat.not_lt_zero _)
    cases o with
    | bk s' => cases r <;> exact fin.elim
    | ct s' => cases r <;> exact fin.elim
    | nx s' =>
      cases r with
      | new k us => exact fin.elim
      | val u =>
        have fin : u = .at .non := fin
        subst fin
        exact fun σ' F' H' ρ' r1 p1 => q _ F' H' r1.ex p1.fx (fun a o h1 h2 => let z := old p1 a o h1 h2; ⟨z.1, z.2.1⟩) p1.fz p1.th (.at rfl)
    | rt t s' =>
      cases r with
      | val u =>
        obtain ⟨s2, hf⟩ := (show ∃ s2, frz t s' = some (u, s2) from fin)
        obtain ⟨pf, kf⟩ := frz_ok (K := K) hf
        intro v σ' F' H' ρ' r1 w1 p1
        obtain ⟨F2, r2, p2, w2⟩ := kf σ' F' H' ρ' v r1 w1
        have p3 := p1.trans p2
        exact q _ F2 H' r2.ex p3.fx (fun a o h1 h2 => let z := old p3 a o h1 h2; ⟨z.1, z.2.1⟩) p3.fz p3.th (w2.pure pf)
      | new k us =>
        obtain ⟨n, rfl, hn, pf⟩ := (show ∃ n, t = .ptr n ∧ s'.hp[n]? = some (.own k us) ∧ pureL us = true from fin)
        intro v σ' F' H' ρ' r1 w1 p1
        obtain ⟨rfl, hlt⟩ := w1.ptr_inv
        obtain ⟨o, xs, g1, g2, g3, g4⟩ := r1.own n k us hn
        refine q _ F' H' r1.ex p1.fx (fun a o h1 h2 => let z := old p1 a o h1 h2; ⟨z.1, z.2.1⟩) p1.fz p1.th ⟨_, o, xs, rfl, ?_, g1, g2, g3, TRL.pure g4 pf⟩
        cases hc : H (ρ' n) with
        | none => rfl
        | some u =>
          cases hF : F (ρ' n) with
          | none => exact ((old p1 _ _ hc hF).2.2 n hlt rfl).elim
          | some u2 =>
            have := p1.fx _ _ hF
            rw [g3] at this
            cases this
/-- the same, the first argument a cell -/
def S.r0 (n : Nat) (k : Kd) (us : List T) (ts : List T) : S := ⟨some (.ptr 0) :: (ts.map some ++ List.replicate (n - (ts.length + 1)) none), [.own k us]⟩
def FinR : Option Out → Res × Kd × List T → Prop
  | some (.rt t s), (.val u, k', us') => ∃ s', frz t s = some (u, s') ∧ s'.hp[0]? = some (.own k' us') ∧ pureL us' = true
  | some (.rt t s), (.new k ts, k', us') => ∃ n, t = .ptr n ∧ n ≠ 0 ∧ s.hp[n]? = some (.own k ts) ∧ pureL ts = true ∧ s.hp[0]? = some (.own k' us') ∧ pureL us' = true
  | some (.nx s), (.val u, k', us') => u = .at .non ∧ s.hp[0]? = some (.own k' us') ∧ pureL us' = true
  | _, _ => False
theorem start_rel1 {N : List Str} {a : Addr} {vs xs : List V} {k : Kd} {us ts : List T} {o : HO} {F H : Hp} (ex : ExR F H) (ha : H a = some o) (hk : kIs k xs o) (hF : F a = none) (wx : TRL K ρ0 0 F xs us) (w : TRL K ρ0 0 F vs ts) (hl : ts.length + 1 ≤ N.length) :
    Rel K (S.r0 N.length k us ts) (L2.start N (.ref a :: vs)) F H (fun _ => a) := by
  have l := Paired.length w
  have up : ∀ {v t}, TR K ρ0 0 F v t → TR K (fun _ => a) 1 F v t := fun h => h.mono (Evl.Ex.refl _) (fun n h => absurd h (Nat.not_lt_zero _)) (Nat.zero_le _)
  refine ⟨ex, ?_, fun i t e => ?_, fun n k' ts' e => ?_, fun n k ts e => ?_, fun n m hn hm _ => ?_, fun n hn => ⟨o, ha⟩⟩
  · simp [S.r0, L2.start, l]
  · cases i with
    | zero => cases e; exact ⟨.ref a, rfl, TR.ptr (n := 0) (ρ := fun _ => a) (Nat.zero_lt_one)⟩
    | succ i =>
      have e2 : (ts.map some ++ List.replicate (N.length - (ts.length + 1)) none)[i]? = some (some t) := e
      rcases Nat.lt_or_ge i ts.length with h | h
      · rw [List.getElem?_append_left (by rw [List.length_map]; exact h), List.getElem?_map] at e2
        obtain ⟨u, e3, e4⟩ := Option.map_eq_some_iff.mp e2
        cases e4
        obtain ⟨v, e5, e6⟩ := Paired.getR w e3
        refine ⟨v, ?_, up e6⟩
        unfold L2.start
        rw [List.map_cons, List.cons_append, List.getElem?_cons_succ, List.getElem?_append_left (by rw [List.length_map]; omega), List.getElem?_map, e5]
        rfl
      · rw [List.getElem?_append_right (by rw [List.length_map]; exact h), List.getElem?_replicate] at e2
        split at e2 <;> cases e2
  · cases n with
    | zero => cases e; exact ⟨o, xs, ha, hk, hF, Paired.mapP wx fun _ _ h => up h⟩
    | succ n => exact absurd (show ([] : List Cell)[n]? = _ from e) (by simp)
  · cases n with
    | zero => cases e
    | succ n => exact absurd (show ([] : List Cell)[n]? = _ from e) (by simp)
  · have : n < 1 := hn
    have : m < 1 := hm
    omega
theorem body_ref {code : CS K} {sp : Kd → List T → List T → Option (Res × Kd × List T)} {N : List Str} (hl : ∀ k us ts r, sp k us ts = some r → ts.length + 1 ≤ N.length)
    (hrun : ∀ k us ts r, sp k us ts = some r → pureL us = true → pureL ts = true → FinR (code.ex (S.r0 N.length k us ts)) r)
    {vs : List V} {H : Hp} {Q : VK} {E : XK} (h : SpR K sp vs H Q E) : code.ts { nx := fun _ H' => Q .non H', rt := Q } (L2.start N vs) H := by
  obtain ⟨F, a, ws, o, xs, k, us, ts, r, k', us', rfl, ex, ha, hk, hF, wx, w, hs, q⟩ := h
  have pure0 : ∀ {vs ts}, TRL K ρ0 0 F vs ts → pureL ts = true := fun w => pureL_all.mpr fun t ht => by
    obtain ⟨j, hj, e⟩ := List.mem_iff_getElem.mp ht
    obtain ⟨v, _, e2⟩ := Paired.getR w (List.getElem?_eq_getElem hj)
    rw [← e]
    exact e2.pure0
  have fin := hrun k us ts _ hs (pure0 wx) (pure0 w)
  have r0 := start_rel1 (N := N) ex ha hk hF wx w (hl _ _ _ _ hs)
  cases ho : code.ex (S.r0 N.length k us ts) with
  | none => rw [ho] at fin; exact fin.elim
  | some out =>
    rw [ho] at fin
    refine code.ok _ _ ho _ F H _ _ r0 ?_
    have old : ∀ {s' ρ' F' H'}, Stp (S.r0 N.length k us ts) (fun _ => a) F H s' ρ' F' H' → ∀ b o, b ≠ a → H b = some o → F b = none → H' b = some o ∧ F' b = none ∧ ∀ n, n < s'.hp.length → ρ' n ≠ b := fun p b o h0 h1 h2 =>
      p.fr b o h1 h2 fun n hn => h0.symm
    have at0 : ∀ {s' ρ' F' H'}, Stp (S.r0 N.length k us ts) (fun _ => a) F H s' ρ' F' H' → ρ' 0 = a := fun p => p.rho 0 Nat.zero_lt_one
    cases out with
    | bk s' => cases r <;> exact fin.elim
    | ct s' => cases r <;> exact fin.elim
    | nx s' =>
      cases r with
      | new k us => exact fin.elim
      | val u =>
        obtain ⟨f1, f2, f3⟩ := (show u = .at .non ∧ s'.hp[0]? = some (.own k' us') ∧ pureL us' = true from fin)
        subst f1
        intro σ' F' H' ρ' r1 p1
        obtain ⟨o', xs', g1, g2, g3, g4⟩ := r1.own 0 _ _ f2
        rw [at0 p1] at g1 g3
        exact q _ F' H' o' xs' r1.ex p1.fx (fun b o h0 h1 h2 => let z := old p1 b o h0 h1 h2; ⟨z.1, z.2.1⟩) p1.fz p1.th g1 g2 g3 (TRL.pure g4 f3) (.at rfl)
    | rt t s' =>
      cases r with
      | val u =>
        obtain ⟨s2, hf, f2, f3⟩ := (show ∃ s2, frz t s' = some (u, s2) ∧ s2.hp[0]? = some (.own k' us') ∧ pureL us' = true from fin)
        obtain ⟨pf, kf⟩ := frz_ok (K := K) hf
        intro v σ' F' H' ρ' r1 w1 p1
        obtain ⟨F2, r2, p2, w2⟩ := kf σ' F' H' ρ' v r1 w1
        have p3 := p1.trans p2
        obtain ⟨o', xs', g1, g2, g3, g4⟩ := r2.own 0 _ _ f2
        rw [at0 p3] at g1 g3
        exact q _ F2 H' o' xs' r2.ex p3.fx (fun b o h0 h1 h2 => let z := old p3 b o h0 h1 h2; ⟨z.1, z.2.1⟩) p3.fz p3.th g1 g2 g3 (TRL.pure g4 f3) (w2.pure pf)
      | new k2 us2 =>
        obtain ⟨n, rfl, n0, hn, pf, f2, f3⟩ := (show ∃ n, t = .ptr n ∧ n ≠ 0 ∧ s'.hp[n]? = some (.own k2 us2) ∧ pureL us2 = true ∧ s'.hp[0]? = some (.own k' us') ∧ pureL us' = true from fin)
        intro v σ' F' H' ρ' r1 w1 p1
        obtain ⟨rfl, hlt⟩ := w1.ptr_inv
        obtain ⟨o2, xs2, b1, b2, b3, b4⟩ := r1.own n k2 us2 hn
        obtain ⟨o', xs', g1, g2, g3, g4⟩ := r1.own 0 _ _ f2
        have h0 : 0 < s'.hp.length := by omega
        have hne : ρ' n ≠ a := fun z => n0 (r1.inj n 0 hlt h0 (z.trans (at0 p1).symm))
        rw [at0 p1] at g1 g3
        refine q _ F' H' o' xs' r1.ex p1.fx (fun b o h0 h1 h2 => let z := old p1 b o h0 h1 h2; ⟨z.1, z.2.1⟩) p1.fz p1.th g1 g2 g3 (TRL.pure g4 f3) ⟨_, o2, xs2, rfl, ?_, b1, b2, b3, TRL.pure b4 pf⟩
        cases hc : H (ρ' n) with
        | none => rfl
        | some u =>
          cases hF : F (ρ' n) with
          | none => exact ((old p1 _ _ hne hc hF).2.2 n hlt rfl).elim
          | some u2 =>
            have := p1.fx _ _ hF
            rw [b3] at this
            cases this
end
section
variable {P : Program} {w : World} {K : PySem.W.Frag} {mg : Str → Option Value} {base : Heap}
/-- what is shown of a def's text: its derivation -/
abbrev Deriv (P : Program) (w : World) (K : PySem.W.Frag) (mg : Str → Option Value) (base : Heap) (N : List Str) (qual : Str) (st : Stmt) (f : Addr) (k : Nat) (code : CS K) : Prop :=
  ∀ (cdv : Value) (A : Around) (outer : List Env) (s : Shared) (H : Hp) (E : XK), Room k (A.deeper (envOfC qual (defScope st) s.heap.objs.size f cdv)) →
    PSs (cxOf CX0 P w K mg base N qual (defScope st) f cdv A outer s H E).nox (defBody st) code.ts
theorem fn_val {x qual : Str} {st : Stmt} {f : Addr} {fd : FuncData} {N ps : List Str} {k : Nat} {sp : List T → Option Res} {code : CS K} (F : L2.Fun K x qual st f fd) (SC : FnScope N ps (defScope st)) (hp : ps.length ≤ N.length)
    (hl : ∀ ts r, sp ts = some r → ts.length = ps.length) (hrun : ∀ ts r, sp ts = some r → pureL ts = true → FinV (code.ex (S.v0 N.length ts)) r) (hd : Deriv P w K mg base N qual st f k code) :
    FnOk P w K mg base CX0 (k + 1) f fd ps (SpV K sp) := by
  refine F.ok SC (fun vs H Q E h => ?_) (fun cdv A outer s H vs Q E hr h => ⟨_, hd cdv A outer s H E hr, body_val (fun ts r e => by rw [hl ts r e]; exact hp) hrun h⟩)
  obtain ⟨_, ts, r, _, w, e, _⟩ := h
  rw [Paired.length w, hl ts r e]
theorem fn_ref {x qual : Str} {st : Stmt} {f : Addr} {fd : FuncData} {N ps : List Str} {k : Nat} {sp : Kd → List T → List T → Option (Res × Kd × List T)} {code : CS K} (F : L2.Fun K x qual st f fd) (SC : FnScope N ps (defScope st)) (hp : ps.length ≤ N.length)
    (hl : ∀ k us ts r, sp k us ts = some r → ts.length + 1 = ps.length) (hrun : ∀ k us ts r, sp k us ts = some r → pureL us = true → pureL ts = true → FinR (code.ex (S.r0 N.length k us ts)) r) (hd : Deriv P w K mg base N qual st f k code) :
    FnOk P w K mg base CX0 (k + 1) f fd ps (SpR K sp) := by
  refine F.ok SC (fun vs H Q E h => ?_) (fun cdv A outer s H vs Q E hr h => ⟨_, hd cdv A outer s H E hr, body_ref (fun k us ts r e => by rw [hl k us ts r e]; exact hp) hrun h⟩)
  obtain ⟨_, _, ws, _, _, k, us, ts, r, k', us', rfl, _, _, _, _, _, w, e, _⟩ := h
  rw [List.length_cons, Paired.length w, hl _ _ _ _ e]
end
end Z
set_option Elab.async false
set_option linter.all false
set_option maxRecDepth 100000
/-! Z: more derivation rules. -/
namespace Z
open PySem PySem.Spec PyProof.Rows L2
section
variable {X : Cx}
/-- name = {..} on one line, the name a local -/
theorem ps_setDc {i : Nat} {y : Str} {py : Pos} {kx vx tg iter : Expr} {ifs : List Expr} {scope : Scope} {own : List (Str × Nat)} {pos spos : Pos} {wi : TI} {g : TG} {tt : TT} {tk te : TE} (hc : X.calm = true) (hN : X.N.Nodup) (hy : X.N[i]? = some y) (hyl : X.env.scope.names.lookup y = some .local)
    (hsw : swapsWith (.DictComp kx vx [⟨tg, iter, ifs, 0⟩] scope pos) (some (.Name y py)) spos.line X.env = pure true) (hi : PI X tg iter wi) (ok : BlkOk X.N X.env.scope scope own)
    (hg : ∀ (s : Shared) (H : Hp) (C : Addr) (cl : List (Str × Addr)) (fp : List Addr), PG (X.blk s H scope (compEnvC scope cl C X.env) fp) tg g) (ht : ∀ (s : Shared) (H : Hp) (C : Addr) (cl : List (Str × Addr)) (fp : List Addr), PTs (X.blk s H scope (compEnvC scope cl C X.env) fp) ifs tt)
    (hk : ∀ (s : Shared) (H : Hp) (C : Addr) (cl : List (Str × Addr)) (fp : List Addr), PE (X.blk s H scope (compEnvC scope cl C X.env) fp) kx tk)
    (he : ∀ (s : Shared) (H : Hp) (C : Addr) (cl : List (Str × Addr)) (fp : List Addr), PE (X.blk s H scope (compEnvC scope cl C X.env) fp) vx te) (hs : ∀ x, foldedSetIterable iter X.env x = pure x := by intro _; rfl) :
    PS X (.Assign [.Name y py] (.DictComp kx vx [⟨tg, iter, ifs, 0⟩] scope pos) spos) (tAsg (tDc wi g tt tk te (own.map (·.2))) (gName i)) := by
  refine ⟨fun pins s σ H D I h => ?_⟩
  rw [exec_Assign_Name_used _ _ _ _ hsw]
  refine wpAny_bind (wpAny_standAt (wpAny_bind ?_))
  show wpAny _ X.A (do let _ ← comprehension (.DictComp kx vx [⟨tg, iter, ifs, 0⟩] scope pos) scope X.env (firstIterPos [⟨tg, iter, ifs, 0⟩] pos) newDict false (eval iter X.env) (some (assign (.Name y py) X.env))) _ _ s
  have h : tDc wi g tt tk te (own.map (·.2)) σ H (fun x H1 => gName i x σ H1 D.nx) := h
  refine wpAny_bind (thn (dc_core (Qf := fun _ s' => SP X pins D .next s') hc hN I hi ok hg ht hk he hs h fun L C s' m H' I' q hn f => ?_) fun _ s' hq => wpAny_pure (wpAny_pure hq))
  show wpAny _ _ (assign (.Name y py) X.env (.ref L)) _ _ _
  refine wpAny_assign_Name (store_ok2 (v := V.ref L) I' hN hy (.inl hyl) rfl (fun s2 I2 ⟨a, sb, ha⟩ => ?_) (.inr hyl))
  obtain ⟨f0, f1, f2, f3, f4, f5⟩ := f
  have haC : C ≠ a := by
    rcases ha with z | z
    · rw [z]; exact f1
    · exact fun e => f4 y a z e.symm
  refine ⟨m, hn.sameBut sb haC, fun h3 sb3 => ?_⟩
  exact ⟨_, H', I2.turned (t' := s2.toks) (fun b o hb e => (sb3.2 b hb).trans e) f0 f1 f3 f4 f5, q⟩
theorem sw_trueD {kx vx : Expr} {gs : List Comprehension} {scope : Scope} {pos py : Pos} {y : Str} {l : Nat} {env : Env} (hk : env.scope.kind = .function) (hy : env.scope.names.lookup y = some .local) (hl : (py.line == pos.line) = true)
    (ha : (scope.names.any fun (n, k) => n == y && (k == .local || k == .cell)) = false) : swapsWith (.DictComp kx vx gs scope pos) (some (.Name y py)) l env = pure true := by
  have ky : env.kindOf y = some .local := hy
  have hb : env.blockKind = .function := by unfold Env.blockKind; rw [hk]; rfl
  unfold swapsWith
  simp only [hb, ky, ha, Expr.pos, hl]
  rfl
theorem pt_alt {e : Expr} {t1 t2 : TE} (h1 : PT X e (tB t1)) (h2 : PT X e (tB t2)) : PT X e (tB (fun σ H Q => t1 σ H Q ∨ t2 σ H Q)) :=
  ⟨fun pins s σ H Q I h => h.elim (h1.run pins s σ H Q I) (h2.run pins s σ H Q I)⟩
theorem pt_cmpB {a b : Expr} {ta tb : TE} {pos : Pos} {op : CmpOp} {r : R2} (ho : OpR X (compareOp op) r) (ha : PE X a ta) (hb : PE X b tb) (hm : behindInMarks op b = false) : PT X (.Compare a [op] [b] pos) (tB (tOp r ta tb)) := pt_cmpR ho ha hb hm
theorem pt_eqZ {a b : Expr} {ta tb : TE} {pos : Pos} (hu : X.A.units + 64 < cLine) (ha : PE X a ta) (hb : PE X b tb) : PT X (.Compare a [.Eq] [b] pos) (tB (fun σ H Q => tOp (rEqs false) ta tb σ H Q ∨ (tOp (rEqdZ X.K false) ta tb σ H Q ∨ tOp (rEqDZ false) ta tb σ H Q))) :=
  pt_alt (pt_cmpB op_eq ha hb (nomark _)) (pt_alt (pt_cmpB (op_eqD hu) ha hb (nomark _)) (pt_cmpB (op_eq_dictZ (by omega)) ha hb (nomark _)))
theorem pt_neZ {a b : Expr} {ta tb : TE} {pos : Pos} (hu : X.A.units + 64 < cLine) (ha : PE X a ta) (hb : PE X b tb) : PT X (.Compare a [.NotEq] [b] pos) (tB (fun σ H Q => tOp (rEqs true) ta tb σ H Q ∨ (tOp (rEqdZ X.K true) ta tb σ H Q ∨ tOp (rEqDZ true) ta tb σ H Q))) :=
  pt_alt (pt_cmpB op_ne ha hb (nomark _)) (pt_alt (pt_cmpB (op_neD hu) ha hb (nomark _)) (pt_cmpB (op_ne_dictZ (by omega)) ha hb (nomark _)))
theorem pt_innZ {a b : Expr} {ta tb : TE} {pos : Pos} (hu : X.A.units + 1 < cLine) (ha : PE X a ta) (hb : PE X b tb) (hm : behindInMarks .In b = false) : PT X (.Compare a [.In] [b] pos) (tB (fun σ H Q => tOp (rIn X.K false) ta tb σ H Q ∨ tOp (rDIn false) ta tb σ H Q)) :=
  pt_alt (pt_cmpB op_in_seq ha hb hm) (pt_cmp (pc_din hu ha hb) hm)
theorem pt_ninZ {a b : Expr} {ta tb : TE} {pos : Pos} (hu : X.A.units + 1 < cLine) (ha : PE X a ta) (hb : PE X b tb) (hm : behindInMarks .NotIn b = false) : PT X (.Compare a [.NotIn] [b] pos) (tB (fun σ H Q => tOp (rIn X.K true) ta tb σ H Q ∨ tOp (rDIn true) ta tb σ H Q)) :=
  pt_alt (pt_cmpB op_notIn_seq ha hb hm) (pt_cmp (pc_dnotin hu ha hb) hm)
theorem oK {X : Cx} {K : PySem.W.Frag} {f : Value → Value → Sem Value} (r : PySem.W.Frag → R2) (hK : X.K = K) (h : OpR X f (r X.K)) : OpR X f (r K) := hK ▸ h
theorem uK {X : Cx} {K : PySem.W.Frag} {f : Value → Sem Value} (r : PySem.W.Frag → V → Hp → VK → Prop) (hK : X.K = K) (h : UnR X f (r X.K)) : UnR X f (r K) := hK ▸ h
theorem cK {X : Cx} {K : PySem.W.Frag} {f : Value} (r : PySem.W.Frag → List V → Hp → VK → Prop) (hK : X.K = K) (h : CallR X f (r X.K)) : CallR X f (r K) := hK ▸ h
theorem slK {X : Cx} {K : PySem.W.Frag} (r : PySem.W.Frag → V → Option Int → Option Int → Hp → VK → Prop) (hK : X.K = K) (h : SlR X (r X.K)) : SlR X (r K) := hK ▸ h
theorem pe_subK {X : Cx} {K : PySem.W.Frag} (hK : X.K = K) {a b : Expr} {ta tb : TE} {pos : Pos} (hu : X.A.units + 1 < cLine) (ha : PE X a ta) (hb : PE X b tb) (hs : PlainIx b) : PE X (.Subscript a b pos) (tSub K ta tb) := hK ▸ pe_subZ hu ha hb hs
theorem pe_eqK {X : Cx} {K : PySem.W.Frag} (hK : X.K = K) {a b : Expr} {ta tb : TE} {pos : Pos} (hu : X.A.units + 64 < cLine) (ha : PE X a ta) (hb : PE X b tb) : PE X (.Compare a [.Eq] [b] pos) (tEqZ K false ta tb) := hK ▸ pe_eqZ hu ha hb
theorem pe_neK {X : Cx} {K : PySem.W.Frag} (hK : X.K = K) {a b : Expr} {ta tb : TE} {pos : Pos} (hu : X.A.units + 64 < cLine) (ha : PE X a ta) (hb : PE X b tb) : PE X (.Compare a [.NotEq] [b] pos) (tEqZ K true ta tb) := hK ▸ pe_neZ hu ha hb
theorem pt_eqK {X : Cx} {K : PySem.W.Frag} (hK : X.K = K) {a b : Expr} {ta tb : TE} {pos : Pos} (hu : X.A.units + 64 < cLine) (ha : PE X a ta) (hb : PE X b tb) : PT X (.Compare a [.Eq] [b] pos) (tB (tEqZ K false ta tb)) := hK ▸ pt_eqZ hu ha hb
theorem pt_neK {X : Cx} {K : PySem.W.Frag} (hK : X.K = K) {a b : Expr} {ta tb : TE} {pos : Pos} (hu : X.A.units + 64 < cLine) (ha : PE X a ta) (hb : PE X b tb) : PT X (.Compare a [.NotEq] [b] pos) (tB (tEqZ K true ta tb)) := hK ▸ pt_neZ hu ha hb
theorem pt_innK {X : Cx} {K : PySem.W.Frag} (hK : X.K = K) {a b : Expr} {ta tb : TE} {pos : Pos} (hu : X.A.units + 1 < cLine) (ha : PE X a ta) (hb : PE X b tb) (hm : behindInMarks .In b = false) : PT X (.Compare a [.In] [b] pos) (tB (tInn K false ta tb)) := hK ▸ pt_innZ hu ha hb hm
theorem pt_ninK {X : Cx} {K : PySem.W.Frag} (hK : X.K = K) {a b : Expr} {ta tb : TE} {pos : Pos} (hu : X.A.units + 1 < cLine) (ha : PE X a ta) (hb : PE X b tb) (hm : behindInMarks .NotIn b = false) : PT X (.Compare a [.NotIn] [b] pos) (tB (tInn K true ta tb)) := hK ▸ pt_ninZ hu ha hb hm
theorem pe_innK {X : Cx} {K : PySem.W.Frag} (hK : X.K = K) {a b : Expr} {ta tb : TE} {pos : Pos} (hu : X.A.units + 1 < cLine) (ha : PE X a ta) (hb : PE X b tb) (hm : behindInMarks .In b = false) : PE X (.Compare a [.In] [b] pos) (tInn K false ta tb) := hK ▸ pe_innZ hu ha hb hm
theorem pe_ninK {X : Cx} {K : PySem.W.Frag} (hK : X.K = K) {a b : Expr} {ta tb : TE} {pos : Pos} (hu : X.A.units + 1 < cLine) (ha : PE X a ta) (hb : PE X b tb) (hm : behindInMarks .NotIn b = false) : PE X (.Compare a [.NotIn] [b] pos) (tInn K true ta tb) := hK ▸ pe_ninZ hu ha hb hm
theorem pi_seqK {X : Cx} {K : PySem.W.Frag} (hK : X.K = K) {tg e : Expr} {te : TE} (h : PE X e te) : PI X tg e (iSeqZ K te) := hK ▸ pi_seqZ h
theorem ps_forVK {X : Cx} {K : PySem.W.Frag} (hK : X.K = K) {tg iter : Expr} {body : List Stmt} {j : Nat} {g : TG} {tb : TS} {pos : Pos} (hp : PassesOwn (model X.prog X.w) X.A X.env X.xe) (hc : X.calm = true) (hi : PE X iter (tVar j)) (hg : PG X tg g) (hb : PSs X body tb)
    (hs : ∀ x, foldedSetIterable iter X.env x = pure x := by intro _; rfl) : PS X (.For tg iter body [] pos) (tForV K j g tb) := hK ▸ ps_forV hp hc hi hg hb hs
theorem ps_to {X : Cx} {K : PySem.W.Frag} {st : Stmt} {t : TS} (c : CS K) (h : PS X st t) (e : t = c.ts) : PS X st c.ts := e ▸ h
theorem blkB {X : Cx} {N : List Str} {sc scope : Scope} {own : List (Str × Nat)} (e : X.env.scope = sc) (h : blkC N sc scope own = true) : BlkOk N X.env.scope scope own := e ▸ blkOk_by h
end
section
variable {P : Program} {w : World} {K : PySem.W.Frag} {mg : Str → Option Value} {base : Heap}
theorem Cal.up {j k : Nat} {x : Str} {sp : Sp} {dvs : List V} (c : C8.Cal P w K mg base j x sp dvs) (h : j ≤ k) : C8.Cal P w K mg base k x sp dvs := by
  obtain ⟨f, fd, ps, ds, F, q⟩ := c.ex
  exact ⟨f, fd, ps, ds, F.mono h, q⟩
theorem cal_of {k : Nat} {x : Str} {sp : Sp} {f : Addr} {fd : FuncData} {ps : List Str} (F : FnOk P w K mg base CX0 k f fd ps sp) (hm : mg x = some (.ref f)) (kp : PySem.W.keepIn K (.ref f) = true) (b : Binds K fd ps []) : C8.Cal P w K mg base k x sp [] := ⟨f, fd, ps, [], F, hm, kp, b, .nil⟩
end
end Z
set_option Elab.async false
set_option linter.all false
set_option maxRecDepth 100000
/-! Z: how evaluation is computed. -/
namespace Z
open PySem PySem.Spec PyProof.Rows L2
theorem pss_to {X : Cx} {b : List Stmt} {t u : TS} (h : PSs X b t) (e : t = u) : PSs X b u := e ▸ h
section
variable {K : PySem.W.Frag}
@[simp] theorem res_at (v : V) (s : S) : res (.at v) s = .at v := rfl
@[simp] theorem res_nd (k : Kd) (ts : List T) (s : S) : res (.nd k ts) s = .nd k ts := rfl
@[simp] theorem res_ptr (n : Nat) (s : S) : res (.ptr n) s = match s.hp[n]? with
    | some (.fro k ts) => .nd k ts
    | _ => .ptr n := rfl
@[simp] theorem view_at (v : V) (s : S) : view (.at v) s = none := rfl
@[simp] theorem view_nd (k : Kd) (ts : List T) (s : S) : view (.nd k ts) s = some (k, ts) := rfl
@[simp] theorem view_ptr (n : Nat) (s : S) : view (.ptr n) s = match s.hp[n]? with
    | some (.own k ts) => some (k, ts)
    | some (.fro k ts) => some (k, ts)
    | none => none := rfl
@[simp] theorem pureT_at (v : V) : pureT (.at v) = true := rfl
@[simp] theorem pureT_nd (k : Kd) (ts : List T) : pureT (.nd k ts) = pureL ts := rfl
@[simp] theorem pureT_ptr (n : Nat) : pureT (.ptr n) = false := rfl
@[simp] theorem pureL_nil : pureL [] = true := rfl
@[simp] theorem pureL_cons (t : T) (ts : List T) : pureL (t :: ts) = (pureT t && pureL ts) := rfl
@[simp] theorem set_mk (sl : List (Option T)) (hp : List Cell) (i : Nat) (t : T) : S.set ⟨sl, hp⟩ i t = ⟨sl.set i (some t), hp⟩ := rfl
@[simp] theorem new_mk (sl : List (Option T)) (hp : List Cell) (k : Kd) (ts : List T) : S.new ⟨sl, hp⟩ k ts = ⟨sl, hp ++ [.own k ts]⟩ := rfl
@[simp] theorem put_mk (sl : List (Option T)) (hp : List Cell) (n : Nat) (k : Kd) (ts : List T) : S.put ⟨sl, hp⟩ n k ts = ⟨sl, hp.set n (.own k ts)⟩ := rfl
@[simp] theorem fix_mk (sl : List (Option T)) (hp : List Cell) (n : Nat) (k : Kd) (ts : List T) : S.fix ⟨sl, hp⟩ n k ts = ⟨sl, hp.set n (.fro k ts)⟩ := rfl
@[simp] theorem new_sl (s : S) (k : Kd) (ts : List T) : (s.new k ts).sl = s.sl := rfl
@[simp] theorem new_hp (s : S) (k : Kd) (ts : List T) : (s.new k ts).hp = s.hp ++ [.own k ts] := rfl
@[simp] theorem put_sl (s : S) (n : Nat) (k : Kd) (ts : List T) : (s.put n k ts).sl = s.sl := rfl
@[simp] theorem put_hp (s : S) (n : Nat) (k : Kd) (ts : List T) : (s.put n k ts).hp = s.hp.set n (.own k ts) := rfl
@[simp] theorem fix_sl (s : S) (n : Nat) (k : Kd) (ts : List T) : (s.fix n k ts).sl = s.sl := rfl
@[simp] theorem fix_hp (s : S) (n : Nat) (k : Kd) (ts : List T) : (s.fix n k ts).hp = s.hp.set n (.fro k ts) := rfl
@[simp] theorem set_sl (s : S) (i : Nat) (t : T) : (s.set i t).sl = s.sl.set i (some t) := rfl
@[simp] theorem set_hp (s : S) (i : Nat) (t : T) : (s.set i t).hp = s.hp := rfl
@[simp] theorem var_ev (i : Nat) (s : S) : (CE.var (K := K) i).ev s = match s.sl[i]? with
    | some (some t) => some (res t s, s)
    | _ => none := rfl
@[simp] theorem con_ev (v : V) (h : imm v = true) (s : S) : (CE.con (K := K) v h).ev s = some (.at v, s) := rfl
@[simp] theorem int_ev (i : Int) (s : S) : (CE.int (K := K) i).ev s = some (.at (.int i), s) := rfl
@[simp] theorem str_ev (i : Str) (s : S) : (CE.str (K := K) i).ev s = some (.at (.str i), s) := rfl
@[simp] theorem bl_ev (i : Bool) (s : S) : (CE.bl (K := K) i).ev s = some (.at (.bl i), s) := rfl
@[simp] theorem non_ev (s : S) : (CE.non (K := K)).ev s = some (.at .non, s) := rfl
@[simp] theorem glob_ev (P : V → Prop) (t : T) (h hx) (s : S) : (CE.glob (K := K) P t h hx).ev s = some (t, s) := rfl
@[simp] theorem op2_ev (o : O2 K) (a b : CE K) (s : S) : (CE.op2 o a b).ev s = (a.ev s).bind fun p => (b.ev p.2).bind fun q => o.f p.1 q.1 q.2 := rfl
@[simp] theorem op1_ev (o : O1 K) (a : CE K) (s : S) : (CE.op1 o a).ev s = (a.ev s).bind fun p => o.f p.1 p.2 := rfl
@[simp] theorem altE_ev (a b : CE K) (s : S) : (CE.alt a b).ev s = match a.ev s with
    | some p => some p
    | none => b.ev s := rfl
@[simp] theorem nilA_ev (s : S) : (CA.nil (K := K)).ev s = some ([], s) := rfl
@[simp] theorem consA_ev (a : CE K) (b : CA K) (s : S) : (CA.cons a b).ev s = (a.ev s).bind fun p => (b.ev p.2).bind fun q => some (p.1 :: q.1, q.2) := rfl
@[simp] theorem call_ev (o : ON K) (a : CA K) (s : S) : (CE.call o a).ev s = (a.ev s).bind fun p => o.f p.1 p.2 := rfl
@[simp] theorem tup_ev (a : CA K) (s : S) : (CE.tup a).ev s = (a.ev s).bind fun p => if p.1.length ≤ lim then some (.nd .tup p.1, p.2) else none := rfl
@[simp] theorem allocT_t (s : S) (k : Kd) (ts : List T) : allocT true s k ts = (.ptr s.hp.length, s.new k ts) := rfl
@[simp] theorem allocT_f (s : S) (k : Kd) (ts : List T) : allocT false s k ts = (.nd k ts, s) := rfl
@[simp] theorem lst_ev (o : Bool) (a : CA K) (s : S) : (CE.lst o a).ev s = (a.ev s).bind fun p => if p.1.length ≤ lim then some (allocT o p.2 .lst p.1) else none := rfl
@[simp] theorem dnew_ev (s : S) : (CE.dnew (K := K)).ev s = some (.ptr s.hp.length, s.new (.dK []) []) := rfl
@[simp] theorem ofE_ev (a : CE K) (s : S) : (CT.ofE a).ev s = match a.ev s with
    | some (.at (.bl b), s') => some (b, s')
    | _ => none := rfl
@[simp] theorem tru_ev (a : CE K) (s : S) : (CT.tru a).ev s = (a.ev s).bind fun p => (truT p.1 p.2).map fun b => (b, p.2) := rfl
@[simp] theorem and_ev (a b : CT K) (s : S) : (CT.and a b).ev s = (a.ev s).bind fun p => if p.1 = true then b.ev p.2 else some (false, p.2) := rfl
@[simp] theorem or_ev (a b : CT K) (s : S) : (CT.or a b).ev s = (a.ev s).bind fun p => if p.1 = true then some (true, p.2) else b.ev p.2 := rfl
@[simp] theorem not_ev (a : CT K) (s : S) : (CT.not a).ev s = (a.ev s).bind fun p => some (!p.1, p.2) := rfl
@[simp] theorem yes_ev (s : S) : (CT.yes (K := K)).ev s = some (true, s) := rfl
@[simp] theorem ifx_ev (c : CT K) (a b : CE K) (s : S) : (CE.ifx c a b).ev s = (c.ev s).bind fun p => if p.1 = true then a.ev p.2 else b.ev p.2 := rfl
@[simp] theorem sub_ev (a b : CE K) (s : S) : (CE.sub a b).ev s = match (CE.op2 O2.ix a b).ev s with
    | some p => some p
    | none => (CE.op2 O2.dget a b).ev s := rfl
@[simp] theorem inn_ev (a b : CE K) (s : S) : (CE.inn a b).ev s = match (CE.op2 (O2.inq false) a b).ev s with
    | some p => some p
    | none => (CE.op2 (O2.din false) a b).ev s := rfl
@[simp] theorem nin_ev (a b : CE K) (s : S) : (CE.nin a b).ev s = match (CE.op2 (O2.inq true) a b).ev s with
    | some p => some p
    | none => (CE.op2 (O2.din true) a b).ev s := rfl
@[simp] theorem eq_ev (neg : Bool) (a b : CE K) (s : S) : (CE.eq neg a b).ev s = match (CE.op2 (O2.eqs neg) a b).ev s with
    | some p => some p
    | none => match (CE.op2 (O2.eqd neg) a b).ev s with
      | some p => some p
      | none => (CE.op2 (O2.eqk neg) a b).ev s := rfl
@[simp] theorem slc_ev (o : Bool) (a : CE K) (l h : CP K) (s : S) : (CE.slc o a l h).ev s = (a.ev s).bind fun p => (l.ev p.2).bind fun q => (h.ev q.2).bind fun z => slcF o p.1 q.1 z.1 z.2 := rfl
@[simp] theorem noP_ev (s : S) : (CP.no (K := K)).ev s = some (none, s) := rfl
@[simp] theorem ofP_ev (a : CE K) (s : S) : (CP.of a).ev s = match a.ev s with
    | some (.at (.int i), s') => some (some i, s')
    | _ => none := rfl
@[simp] theorem rev_ev (o : Bool) (a : CE K) (s : S) : (CE.rev o a).ev s = (a.ev s).bind fun p => match view p.1 p.2 with
    | some (.lst, ts) => some (allocT o p.2 .lst ts.reverse)
    | _ => none := rfl
@[simp] theorem lrng1_ev (o : Bool) (a : CE K) (s : S) : (CE.lrng1 o a).ev s = match a.ev s with
    | some (.at (.int j), s') => if j ≤ 16777216 ∧ 0 ≤ j then some (allocT o s' .lst (rngT 0 j.toNat)) else none
    | _ => none := rfl
@[simp] theorem lrng2_ev (o : Bool) (a b : CE K) (s : S) : (CE.lrng2 o a b).ev s = (a.ev s).bind fun p => match p.1, b.ev p.2 with
    | .at (.int i), some (.at (.int j), s') => if 0 ≤ i ∧ j ≤ 16777216 ∧ i ≤ 16777216 ∧ 0 ≤ j then some (allocT o s' .lst (rngT i (j - i).toNat)) else none
    | _, _ => none := rfl
@[simp] theorem seqI_ev (a : CE K) (s : S) : (CI.seq a).ev s = (a.ev s).bind fun p => itSeqF p.1 p.2 := rfl
@[simp] theorem keysI_ev (a : CE K) (s : S) : (CI.keys a).ev s = (a.ev s).bind fun p => match frz p.1 p.2 with
    | some (.nd (.dK ks) _, s1) => some (ks.map keyTo, s1)
    | _ => none := rfl
@[simp] theorem rng1_ev (a : CA K) (s : S) : (CI.rng1 a).ev s = match a.ev s with
    | some ([.at (.int j)], s') => if -(2 ^ 62) ≤ j ∧ j < 2 ^ 62 then some (rngT 0 j.toNat, s') else none
    | _ => none := rfl
@[simp] theorem rng2_ev (a : CA K) (s : S) : (CI.rng2 a).ev s = match a.ev s with
    | some ([.at (.int i), .at (.int j)], s') => if -(2 ^ 62) ≤ i ∧ i < 2 ^ 62 ∧ -(2 ^ 62) ≤ j ∧ j < 2 ^ 62 then some (rngT i (j - i).toNat, s') else none
    | _ => none := rfl
@[simp] theorem lc_ev (o : Bool) (ows : List Nat) (it : CI K) (g : CG K) (c : CT K) (e : CE K) (s : S) : (CE.lc o ows it g c e).ev s = (it.ev s).bind fun p => if g.ws.all ows.contains = true then (lcEv g.f c.ev e.ev (wipeL p.2.sl ows) p.1 [] p.2.hp).map fun z => allocT o { p.2 with hp := z.2 } .lst z.1 else none := rfl
@[simp] theorem dc_ev (o : Bool) (ows : List Nat) (it : CI K) (g : CG K) (c : CT K) (ek e : CE K) (s : S) : (CE.dc o ows it g c ek e).ev s = (it.ev s).bind fun p => if g.ws.all ows.contains = true then (dcEv g.f c.ev ek.ev e.ev (wipeL p.2.sl ows) p.1 [] p.2.hp).map fun z => allocT o { p.2 with hp := z.2 } (.dK (z.1.map (·.1))) (z.1.map (·.2)) else none := rfl
@[simp] theorem name_f (i : Nat) (t : T) (s : S) : (CG.name (K := K) i).f t s = some (s.set i t) := rfl
@[simp] theorem name_ws (i : Nat) : (CG.name (K := K) i).ws = [i] := rfl
@[simp] theorem pass_ex (s : S) : (CS.pass (K := K)).ex s = some (.nx s) := rfl
@[simp] theorem brk_ex (s : S) : (CS.brk (K := K)).ex s = some (.bk s) := rfl
@[simp] theorem cont_ex (s : S) : (CS.cont (K := K)).ex s = some (.ct s) := rfl
@[simp] theorem seq_ex (a b : CS K) (s : S) : (CS.seq a b).ex s = (a.ex s).bind fun o => match o with
    | .nx s1 => b.ex s1
    | o => some o := rfl
@[simp] theorem asg_ex (g : CG K) (a : CE K) (s : S) : (CS.asg g a).ex s = (a.ev s).bind fun p => (g.f p.1 p.2).bind fun s2 => some (.nx s2) := rfl
@[simp] theorem par_ex (i j : Nat) (a : CA K) (s : S) : (CS.par i j a).ex s = match a.ev s with
    | some ([t, u], s1) => some (.nx ((s1.set i t).set j u))
    | _ => none := rfl
@[simp] theorem drop_ex (a : CE K) (s : S) : (CS.drop a).ex s = (a.ev s).bind fun p => some (.nx p.2) := rfl
@[simp] theorem ret_ex (a : CE K) (s : S) : (CS.ret a).ex s = (a.ev s).bind fun p => some (.rt p.1 p.2) := rfl
@[simp] theorem ife_ex (c : CT K) (a b : CS K) (s : S) : (CS.ife c a b).ex s = (c.ev s).bind fun p => if p.1 = true then a.ex p.2 else b.ex p.2 := rfl
@[simp] theorem altS_ex (a b : CS K) (s : S) : (CS.alt a b).ex s = match a.ex s with
    | some p => some p
    | none => b.ex s := rfl
@[simp] theorem subS_ex (o i v : CE K) (s : S) : (CS.sub o i v).ex s = match (CS.setL o i v).ex s with
    | some p => some p
    | none => (CS.setD o i v).ex s := rfl
@[simp] theorem setL_ex (o i v : CE K) (s : S) : (CS.setL o i v).ex s = (v.ev s).bind fun p => (o.ev p.2).bind fun q => (i.ev q.2).bind fun z => match q.1, z.1 with
    | .ptr n, .at (.int k) => match z.2.hp[n]? with
      | some (.own .lst ts) => match ixN ts.length k with
        | some j => some (.nx (z.2.put n .lst (ts.set j p.1)))
        | none => none
      | _ => none
    | _, _ => none := rfl
@[simp] theorem setD_ex (o i v : CE K) (s : S) : (CS.setD o i v).ex s = (v.ev s).bind fun p => (o.ev p.2).bind fun q => (i.ev q.2).bind fun z => match q.1, keyT z.1 with
    | .ptr n, some k => match z.2.hp[n]? with
      | some (.own (.dK ks) ts) => if ks.length = ts.length ∧ ts.length < lim then some (.nx (z.2.put n (.dK ((putT (ks.zip ts) k p.1).map (·.1))) ((putT (ks.zip ts) k p.1).map (·.2)))) else none
      | _ => none
    | _, _ => none := rfl
@[simp] theorem app_ex (a : CE K) (b : CA K) (s : S) : (CS.app a b).ex s = (a.ev s).bind fun p => (b.ev p.2).bind fun q => match p.1, q.1 with
    | .ptr n, [t] => match p.2.hp[n]?, q.2.hp[n]? with
      | some (.own .lst _), some (.own .lst ts) => if ts.length < lim then some (.nx (q.2.put n .lst (ts ++ [t]))) else none
      | _, _ => none
    | _, _ => none := rfl
@[simp] theorem for_ex (it : CI K) (g : CG K) (b : CS K) (s : S) : (CS.for it g b).ex s = (it.ev s).bind fun p => forEv g.f b.ex p.1 p.2 := rfl
@[simp] theorem forV_ex (j : Nat) (g : CG K) (b : CS K) (s : S) : (CS.forV j g b).ex s = match (CS.for (CI.seq (CE.var j)) g b).ex s with
    | some p => some p
    | none => (CS.forD j g b).ex s := rfl
@[simp] theorem forD_ex (j : Nat) (g : CG K) (b : CS K) (s : S) : (CS.forD j g b).ex s = match s.sl[j]? with
    | some (some t) => match frz t s with
      | some (.nd (.dK ks) _, s1) => forEv g.f b.ex (ks.map keyTo) s1
      | _ => none
    | _ => none := rfl
/-! operations -/
@[simp] theorem add_int (o : Bool) (i j : Int) (s : S) : (O2.add (K := K) o).f (.at (.int i)) (.at (.int j)) s = some (.at (.int (i + j)), s) := rfl
@[simp] theorem add_lst (o : Bool) (xs ys : List T) (s : S) : (O2.add (K := K) o).f (.nd .lst xs) (.nd .lst ys) s = if xs.length + ys.length ≤ lim then some (allocT o s .lst (xs ++ ys)) else none := rfl
@[simp] theorem add_str (o : Bool) (x y : Str) (s : S) : (O2.add (K := K) o).f (.at (.str x)) (.at (.str y)) s = if x.length + y.length ≤ lim then some (.at (.str (x ++ y)), s) else none := rfl
@[simp] theorem sub_int (i j : Int) (s : S) : (O2.sub (K := K)).f (.at (.int i)) (.at (.int j)) s = some (.at (.int (i - j)), s) := rfl
@[simp] theorem mul_int (i j : Int) (s : S) : (O2.mul (K := K)).f (.at (.int i)) (.at (.int j)) s = if mulOk i j = true then some (.at (.int (i * j)), s) else none := by
  show (if mulOk i j = true then some (V.int (i * j)) else none).map _ = _
  split <;> rfl
@[simp] theorem fdiv_int (i j : Int) (s : S) : (O2.fdiv (K := K)).f (.at (.int i)) (.at (.int j)) s = if j ≠ 0 ∧ j.natAbs.log2 < 9000 then some (.at (.int (i.fdiv j)), s) else none := by
  show (if j ≠ 0 ∧ j.natAbs.log2 < 9000 then some (V.int (i.fdiv j)) else none).map _ = _
  split <;> rfl
@[simp] theorem mod_int (i j : Int) (s : S) : (O2.mod (K := K)).f (.at (.int i)) (.at (.int j)) s = if j ≠ 0 then some (.at (.int (i.fmod j)), s) else none := by
  show (if j ≠ 0 then some (V.int (i.fmod j)) else none).map _ = _
  split <;> rfl
@[simp] theorem pow_int (i j : Int) (s : S) : (O2.pow (K := K)).f (.at (.int i)) (.at (.int j)) s = if 0 ≤ j ∧ j ≤ 1000000 ∧ i.natAbs < 2 ^ 64 then some (.at (.int (i ^ j.toNat)), s) else none := by
  show (if 0 ≤ j ∧ j ≤ 1000000 ∧ i.natAbs < 2 ^ 64 then some (V.int (i ^ j.toNat)) else none).map _ = _
  split <;> rfl
@[simp] theorem neg_int (i : Int) (s : S) : (O1.neg (K := K)).f (.at (.int i)) s = some (.at (.int (-i)), s) := rfl
@[simp] theorem ord_int (g h) (i j : Int) (s : S) : (O2.ord (K := K) g h).f (.at (.int i)) (.at (.int j)) s = some (.at (.bl (g i j)), s) := rfl
@[simp] theorem isN_at (v : V) (s : S) : (O2.isN (K := K)).f (.at v) (.at .non) s = some (.at (.bl (decide (v = .non))), s) := rfl
@[simp] theorem isN_nd (k ts) (s : S) : (O2.isN (K := K)).f (.nd k ts) (.at .non) s = some (.at (.bl false), s) := rfl
@[simp] theorem isN_ptr (n) (s : S) : (O2.isN (K := K)).f (.ptr n) (.at .non) s = some (.at (.bl false), s) := rfl
@[simp] theorem notN_at (v : V) (s : S) : (O2.notN (K := K)).f (.at v) (.at .non) s = some (.at (.bl (!decide (v = .non))), s) := rfl
@[simp] theorem notN_nd (k ts) (s : S) : (O2.notN (K := K)).f (.nd k ts) (.at .non) s = some (.at (.bl true), s) := rfl
@[simp] theorem notN_ptr (n) (s : S) : (O2.notN (K := K)).f (.ptr n) (.at .non) s = some (.at (.bl true), s) := rfl
@[simp] theorem ix_f (a b : T) (s : S) : (O2.ix (K := K)).f a b s = ixF a b s := rfl
@[simp] theorem dget_f (a b : T) (s : S) : (O2.dget (K := K)).f a b s = dgetF a b s := rfl
@[simp] theorem din_f (n) (a b : T) (s : S) : (O2.din (K := K) n).f a b s = dinF n a b s := rfl
@[simp] theorem inq_f (n) (a b : T) (s : S) : (O2.inq (K := K) n).f a b s = inqF n a b s := rfl
@[simp] theorem eqs_f (n) (a b : T) (s : S) : (O2.eqs (K := K) n).f a b s = eqsF n a b s := rfl
@[simp] theorem eqd_f (n) (a b : T) (s : S) : (O2.eqd (K := K) n).f a b s = eqdF n a b s := rfl
@[simp] theorem eqk_f (n) (a b : T) (s : S) : (O2.eqk (K := K) n).f a b s = eqkF n a b s := rfl
@[simp] theorem ixF_nd_lst (ts : List T) (i : Int) (s : S) : ixF (.nd .lst ts) (.at (.int i)) s = (atI ts i).map fun t => (res t s, s) := rfl
@[simp] theorem ixF_nd_tup (ts : List T) (i : Int) (s : S) : ixF (.nd .tup ts) (.at (.int i)) s = (atI ts i).map fun t => (res t s, s) := rfl
@[simp] theorem ixF_nd_lsR (ts : List T) (i : Int) (s : S) : ixF (.nd .lsR ts) (.at (.int i)) s = (atI ts i).map fun t => (res t s, s) := rfl
@[simp] theorem ixF_nd_dK (ks) (ts : List T) (u : T) (s : S) : ixF (.nd (.dK ks) ts) u s = none := rfl
@[simp] theorem ixF_ptr (n : Nat) (u : T) (s : S) : ixF (.ptr n) u s = match s.hp[n]? with
    | some (.own .lst ts) => ixF (.nd .lst ts) u s
    | some (.fro .lst ts) => ixF (.nd .lst ts) u s
    | some (.own .tup ts) => ixF (.nd .tup ts) u s
    | some (.fro .tup ts) => ixF (.nd .tup ts) u s
    | some (.own .lsR ts) => ixF (.nd .lsR ts) u s
    | some (.fro .lsR ts) => ixF (.nd .lsR ts) u s
    | _ => none := by
  unfold ixF
  simp only [view_ptr, view_nd]
  cases s.hp[n]? with
  | none => rfl
  | some c => cases c with
    | own k ts => cases k <;> rfl
    | fro k ts => cases k <;> rfl
@[simp] theorem dgetF_nd (ks) (ts : List T) (u : T) (s : S) : dgetF (.nd (.dK ks) ts) u s = (keyT u).bind fun k => (getD' ks ts k).map fun t => (res t s, s) := by
  unfold dgetF
  simp only [view_nd]
  cases keyT u <;> rfl
@[simp] theorem dgetF_ptr (n : Nat) (u : T) (s : S) : dgetF (.ptr n) u s = match s.hp[n]? with
    | some (.own (.dK ks) ts) => (keyT u).bind fun k => (getD' ks ts k).map fun t => (res t s, s)
    | some (.fro (.dK ks) ts) => (keyT u).bind fun k => (getD' ks ts k).map fun t => (res t s, s)
    | _ => none := by
  unfold dgetF
  simp only [view_ptr]
  cases s.hp[n]? with
  | none => rfl
  | some c => cases c with
    | own k ts => cases k <;> cases keyT u <;> rfl
    | fro k ts => cases k <;> cases keyT u <;> rfl
@[simp] theorem keyT_int (i : Int) : keyT (.at (.int i)) = some (.inl i) := rfl
@[simp] theorem keyT_str (x : Str) : keyT (.at (.str x)) = some (.inr x) := rfl
@[simp] theorem eqsF_at (n : Bool) (u v : V) (s : S) : eqsF n (.at u) (.at v) s = if scal u v = true then some (.at (.bl (if n then !decide (u = v) else decide (u = v))), s) else none := rfl
@[simp] theorem eqsF_nd (n : Bool) (k ts) (u : T) (s : S) : eqsF n (.nd k ts) u s = none := rfl
@[simp] theorem eqsF_ptr (n : Bool) (m) (u : T) (s : S) : eqsF n (.ptr m) u s = none := rfl
@[simp] theorem scal_int (i j : Int) : scal (.int i) (.int j) = true := rfl
@[simp] theorem scal_bl (i j : Bool) : scal (.bl i) (.bl j) = true := rfl
@[simp] theorem scal_str (i j : Str) : scal (.str i) (.str j) = true := rfl
@[simp] theorem truT_bl (b : Bool) (s : S) : truT (.at (.bl b)) s = some b := rfl
@[simp] theorem truT_int (i : Int) (s : S) : truT (.at (.int i)) s = some (i != 0) := rfl
@[simp] theorem truT_non (s : S) : truT (.at .non) s = some false := rfl
def igcd (a b : Int) : Int := ((Nat.gcd a.natAbs b.natAbs : Nat) : Int)
@[simp] theorem gcd_f (a b : Int) (s : S) : (ON.gcd (K := K)).f [.at (.int a), .at (.int b)] s = some (.at (.int (igcd a b)), s) := rfl
@[simp] theorem int_f (a : Int) (s : S) : (ON.int (K := K)).f [.at (.int a)] s = some (.at (.int a), s) := rfl
@[simp] theorem int_fb (a : Bool) (s : S) : (ON.int (K := K)).f [.at (.bl a)] s = some (.at (.int (if a then 1 else 0)), s) := rfl
@[simp] theorem min2_f (a b : Int) (s : S) : (ON.min2 (K := K)).f [.at (.int a), .at (.int b)] s = some (.at (.int (if b < a then b else a)), s) := rfl
@[simp] theorem max2_f (a b : Int) (s : S) : (ON.max2 (K := K)).f [.at (.int a), .at (.int b)] s = some (.at (.int (if b > a then b else a)), s) := rfl
@[simp] theorem len_f (t : T) (s : S) : (ON.len (K := K)).f [t] s = (lenF t s).map fun n => (.at (.int n), s) := rfl
@[simp] theorem lenF_lst (ts : List T) (s : S) : lenF (.nd .lst ts) s = some ts.length := rfl
@[simp] theorem lenF_tup (ts : List T) (s : S) : lenF (.nd .tup ts) s = some ts.length := rfl
@[simp] theorem lenF_lsR (ts : List T) (s : S) : lenF (.nd .lsR ts) s = some ts.length := rfl
@[simp] theorem lenF_ptr (n : Nat) (s : S) : lenF (.ptr n) s = match s.hp[n]? with
    | some (.own (.dK _) _) => none
    | some (.fro (.dK _) _) => none
    | some (.own _ ts) => some ts.length
    | some (.fro _ ts) => some ts.length
    | none => none := by
  unfold lenF
  simp only [view_ptr]
  cases s.hp[n]? with
  | none => rfl
  | some c => cases c with
    | own k ts => cases k <;> rfl
    | fro k ts => cases k <;> rfl
@[simp] theorem fn_f (sp : List T → Option Res) (ts : List T) (s : S) : (ON.fn (K := K) sp).f ts s = (frzs ts s).bind fun p => (sp p.1).map fun r => resF r p.2 := rfl
@[simp] theorem resF_val (t : T) (s : S) : resF (.val t) s = (t, s) := rfl
@[simp] theorem resF_new (k ts) (s : S) : resF (.new k ts) s = (.ptr s.hp.length, s.new k ts) := rfl
@[simp] theorem fnR_f (sp : Kd → List T → List T → Option (Res × Kd × List T)) (n : Nat) (rest : List T) (s : S) : (ON.fnR (K := K) sp).f (.ptr n :: rest) s = (frzs rest s).bind fun p => match p.2.hp[n]? with
      | some (.own k us) => if pureL us = true then (sp k us p.1).map fun z => resF z.1 (p.2.put n z.2.1 z.2.2) else none
      | _ => none := rfl
@[simp] theorem list_nd (o : Bool) (us : List T) (s : S) : (ON.list (K := K) o).f [.nd .lst us] s = some (allocT o s .lst us) := rfl
@[simp] theorem list_tup (o : Bool) (us : List T) (s : S) : (ON.list (K := K) o).f [.nd .tup us] s = some (allocT o s .lst us) := rfl
@[simp] theorem sum_nd (us : List T) (s : S) : (ON.sum (K := K)).f [.nd .lst us] s = (ints? us).map fun ns => (.at (.int ns.sum), s) := rfl
@[simp] theorem any_nd (us : List T) (s : S) : (ON.any (K := K)).f [.nd .lst us] s = (bls? us).map fun ns => (.at (.bl (ns.any id)), s) := rfl
@[simp] theorem all_nd (us : List T) (s : S) : (ON.all (K := K)).f [.nd .lst us] s = (bls? us).map fun ns => (.at (.bl (ns.all id)), s) := rfl
@[simp] theorem sorted_lst (o : Bool) (us : List T) (s : S) : (ON.sorted (K := K) o).f [.nd .lst us] s = (strs? us).bind fun xs => if xs.length < 64 then some (allocT o s .lst ((sortS xs).map fun x => T.at (.str x))) else none := rfl
@[simp] theorem sorted_dK (o : Bool) (ks : List Key) (us : List T) (s : S) : (ON.sorted (K := K) o).f [.nd (.dK ks) us] s = (keyStrs ks).bind fun xs => if xs.length < 64 then some (allocT o s .lst ((sortS xs).map fun x => T.at (.str x))) else none := rfl
@[simp] theorem dict_lst (o : Bool) (us : List T) (s : S) : (ON.dict (K := K) o).f [.nd .lst us] s = (pairsT us).map fun kvs => allocT o s (.dK ((mergeT [] kvs).map (·.1))) ((mergeT [] kvs).map (·.2)) := by
  show (match (ON.dictP (K := K) o).f [.nd .lst us] s with | some p => some p | none => (ON.dictD (K := K) o).f [.nd .lst us] s) = _
  have e1 : (ON.dictP (K := K) o).f [.nd .lst us] s = (pairsT us).map fun kvs => allocT o s (.dK ((mergeT [] kvs).map (·.1))) ((mergeT [] kvs).map (·.2)) := rfl
  have e2 : (ON.dictD (K := K) o).f [.nd .lst us] s = none := rfl
  rw [e1, e2]
  cases pairsT us <;> rfl
@[simp] theorem dict_dK (o : Bool) (ks : List Key) (us : List T) (s : S) : (ON.dict (K := K) o).f [.nd (.dK ks) us] s = some (allocT o s (.dK ks) us) := rfl
@[simp] theorem frz_nd_pure {k : Kd} {ts : List T} {s : S} (h : pureL ts = true) : frzT 8 (.nd k ts) s = some (.nd k ts, s) := frz_pure (t := .nd k ts) h
@[simp] theorem itSeqF_lst {ts : List T} {s : S} (h : pureL ts = true) : itSeqF (.nd .lst ts) s = some (ts, s) := by
  unfold itSeqF
  rw [frz_pure (t := .nd .lst ts) h]
  rfl
@[simp] theorem itSeqF_lsR {ts : List T} {s : S} (h : pureL ts = true) : itSeqF (.nd .lsR ts) s = some (ts, s) := by
  unfold itSeqF
  rw [frz_pure (t := .nd .lsR ts) h]
  rfl
@[simp] theorem itSeqF_tup {ts : List T} {s : S} (h : pureL ts = true) : itSeqF (.nd .tup ts) s = some (ts, s) := by
  unfold itSeqF
  rw [frz_pure (t := .nd .tup ts) h]
  rfl
@[simp] theorem itSeqF_dK {ks} {ts : List T} {s : S} (h : pureL ts = true) : itSeqF (.nd (.dK ks) ts) s = none := by
  unfold itSeqF
  rw [frz_pure (t := .nd (.dK ks) ts) h]
  rfl
@[simp] theorem frzs_nil (s : S) : frzL frz [] s = some ([], s) := rfl
@[simp] theorem frzs_cons (t : T) (ts : List T) (s : S) : frzL frz (t :: ts) s = (frz t s).bind fun p => (frzL frz ts p.2).bind fun q => some (p.1 :: q.1, q.2) := rfl
@[simp] theorem frz_at (v : V) (s : S) : frzT (n + 1) (.at v) s = some (.at v, s) := rfl
theorem ixN_of {n j : Nat} (h : j < n) : ixN n (j : Int) = some j := Evl.ixN_nat h
theorem atI_of {α : Type} {l : List α} {j : Nat} {x : α} (h : l[j]? = some x) : atI l (j : Int) = some x := atI_nat h
@[simp] theorem atI_0 {α : Type} (a : α) (l : List α) : atI (a :: l) 0 = some a := atI_of (j := 0) rfl
@[simp] theorem atI_1 {α : Type} (a b : α) (l : List α) : atI (a :: b :: l) 1 = some b := atI_of (j := 1) rfl
@[simp] theorem atI_2 {α : Type} (a b c : α) (l : List α) : atI (a :: b :: c :: l) 2 = some c := atI_of (j := 2) rfl
@[simp] theorem atI_3 {α : Type} (a b c d : α) (l : List α) : atI (a :: b :: c :: d :: l) 3 = some d := atI_of (j := 3) rfl
@[simp] theorem ixN_0 (n : Nat) : ixN (n + 1) 0 = some 0 := ixN_of (j := 0) (by omega)
@[simp] theorem ixN_1 (n : Nat) : ixN (n + 2) 1 = some 1 := ixN_of (j := 1) (by omega)
theorem lim_eq : lim = 100000 := rfl
end
end Z
set_option Elab.async false
set_option linter.all false
set_option maxRecDepth 100000
/-! Z: loops and comprehensions as folds. -/
namespace Z
open PySem PySem.Spec PyProof.Rows L2

theorem zip_fs {α β : Type} : ∀ l : List (α × β), (l.map (·.1)).zip (l.map (·.2)) = l
  | [] => rfl
  | (a, b) :: l => by rw [List.map_cons, List.map_cons, List.zip_cons_cons, zip_fs l]
theorem for_nil {g : T → S → Option S} {b : S → Option Out} {s : S} : forEv g b [] s = some (.nx s) := rfl
/-- a dict's cell -/
abbrev dC (kvs : List (Key × T)) : Cell := .own (.dK (kvs.map (·.1))) (kvs.map (·.2))
abbrev dN (kvs : List (Key × T)) : T := .nd (.dK (kvs.map (·.1))) (kvs.map (·.2))
theorem putT_len (kvs : List (Key × T)) (k : Key) (v : T) : (putT kvs k v).length ≤ kvs.length + 1 := by
  unfold putT
  split
  · simp
  · simp
theorem putT_new {kvs : List (Key × T)} {k : Key} {v : T} (h : k ∉ kvs.map (·.1)) : putT kvs k v = kvs ++ [(k, v)] := by
  unfold putT
  rw [if_neg]
  intro e
  obtain ⟨p, hp, e⟩ := List.any_eq_true.mp e
  exact h (List.mem_map.mpr ⟨p, hp, of_decide_eq_true e⟩)
theorem mergeT_new : ∀ {more kvs : List (Key × T)}, ((kvs ++ more).map (·.1)).Nodup → mergeT kvs more = kvs ++ more
  | [], kvs, _ => by simp [mergeT]
  | (k, v) :: more, kvs, h => by
    have h1 : k ∉ kvs.map (·.1) := by
      intro hk
      rw [List.map_append, List.nodup_append] at h
      exact h.2.2 k hk k (by simp) rfl
    show mergeT (putT kvs k v) more = _
    rw [putT_new h1, mergeT_new (by rw [List.append_assoc]; exact h), List.append_assoc]
    rfl
section
variable {g : T → S → Option S} {c : S → Option (Bool × S)} {ek e : S → Option (T × S)} {b : S → Option Out}
/-- a comprehension of a dict whose parts write nothing -/
theorem dc_fold (w : List (Option T)) (hp : List Cell) (key : T → Key) (val : T → T) : ∀ (ts : List T) (kvs : List (Key × T)),
    (∀ t ∈ ts, ∃ s1 k, g t ⟨w, hp⟩ = some s1 ∧ c s1 = some (true, s1) ∧ ek s1 = some (k, s1) ∧ keyT k = some (key t) ∧ e s1 = some (val t, s1) ∧ s1.hp = hp) → kvs.length + ts.length ≤ lim →
    dcEv g c ek e w ts kvs hp = some (mergeT kvs (ts.map fun t => (key t, val t)), hp)
  | [], kvs, _, _ => rfl
  | t :: ts, kvs, h, hl => by
    obtain ⟨s1, k, h1, h2, h3, h4, h5, h6⟩ := h t List.mem_cons_self
    rw [List.length_cons] at hl
    unfold dcEv
    simp only [h1, h2, h3, h4, h5, h6, Option.bind_some, if_true]
    rw [if_pos (by omega)]
    have := dc_fold w hp key val ts (putT kvs (key t) (val t)) (fun t ht => h t (List.mem_cons_of_mem _ ht)) (by have := putT_len kvs (key t) (val t); omega)
    rw [this]
    rfl
/-- a comprehension of a list whose parts write nothing -/
theorem lc_fold (w : List (Option T)) (hp : List Cell) (p : T → Bool) (f : T → T) : ∀ (ts : List T) (acc : List T),
    (∀ t ∈ ts, ∃ s1, g t ⟨w, hp⟩ = some s1 ∧ c s1 = some (p t, s1) ∧ (p t = true → e s1 = some (f t, s1)) ∧ s1.hp = hp) → acc.length + ts.length ≤ lim →
    lcEv g c e w ts acc hp = some (acc ++ (ts.filter p).map f, hp)
  | [], acc, _, _ => by simp [lcEv]
  | t :: ts, acc, h, hl => by
    obtain ⟨s1, h1, h2, h3, h4⟩ := h t List.mem_cons_self
    rw [List.length_cons] at hl
    unfold lcEv
    cases hp' : p t with
    | true =>
      simp only [h1, h2, h3 hp', h4, hp', Option.bind_some, if_true]
      rw [if_pos (by omega), lc_fold w hp p f ts (acc ++ [f t]) (fun t ht => h t (List.mem_cons_of_mem _ ht)) (by rw [List.length_append]; simp; omega)]
      simp [List.filter_cons, hp']
    | false =>
      simp only [h1, h2, h4, hp', Option.bind_some]
      rw [if_neg (by decide), lc_fold w hp p f ts acc (fun t ht => h t (List.mem_cons_of_mem _ ht)) (by omega)]
      simp [List.filter_cons, hp']
/-- .. all of them -/
theorem lc_map (w : List (Option T)) (hp : List Cell) (f : T → T) (ts : List T) (h : ∀ t ∈ ts, ∃ s1, g t ⟨w, hp⟩ = some s1 ∧ c s1 = some (true, s1) ∧ e s1 = some (f t, s1) ∧ s1.hp = hp) (hl : ts.length ≤ lim) :
    lcEv g c e w ts [] hp = some (ts.map f, hp) := by
  rw [lc_fold w hp (fun _ => true) f ts [] (fun t ht => by obtain ⟨s1, h1, h2, h3, h4⟩ := h t ht; exact ⟨s1, h1, h2, fun _ => h3, h4⟩) (by simpa using hl)]
  rw [List.nil_append, List.filter_eq_self.mpr (fun _ _ => rfl)]
/-- a comprehension of a list over what is encoded -/
theorem lc_over' {α : Type} (enc : α → T) (w : List (Option T)) (hp : List Cell) (f : α → T) : ∀ {xs : List α} {acc : List T},
    (∀ x ∈ xs, ∃ s1, g (enc x) ⟨w, hp⟩ = some s1 ∧ c s1 = some (true, s1) ∧ e s1 = some (f x, s1) ∧ s1.hp = hp) → acc.length + xs.length ≤ lim →
    lcEv g c e w (xs.map enc) acc hp = some (acc ++ xs.map f, hp)
  | [], acc, _, _ => by simp [lcEv]
  | x :: xs, acc, h, hl => by
    obtain ⟨s1, h1, h2, h3, h4⟩ := h x List.mem_cons_self
    rw [List.length_cons] at hl
    rw [List.map_cons]
    unfold lcEv
    simp only [h1, h2, h3, h4, Option.bind_some, if_true]
    rw [if_pos (by omega), lc_over' enc w hp f (acc := acc ++ [f x]) (fun t ht => h t (List.mem_cons_of_mem _ ht)) (by rw [List.length_append]; simp; omega)]
    simp
/-- a comprehension of a list, no test, whose parts change what is told by a state -/
def scan {α β γ : Type} (nx : α → β → α × γ) : List β → α → List γ × α
  | [], a => ([], a)
  | t :: ts, a => ((nx a t).2 :: (scan nx ts (nx a t).1).1, (scan nx ts (nx a t).1).2)
theorem lc_scan {α : Type} (w : List (Option T)) (hpf : α → List Cell) (nx : α → T → α × T) (good : α → Prop) : ∀ (ts : List T) (a : α) (acc : List T), good a →
    (∀ t ∈ ts, ∀ a, good a → good (nx a t).1 ∧ ∃ s1 s2, g t ⟨w, hpf a⟩ = some s1 ∧ c s1 = some (true, s1) ∧ e s1 = some ((nx a t).2, s2) ∧ s2.hp = hpf (nx a t).1) → acc.length + ts.length ≤ lim →
    lcEv g c e w ts acc (hpf a) = some (acc ++ (scan nx ts a).1, hpf (scan nx ts a).2) ∧ good (scan nx ts a).2
  | [], a, acc, ga, _, _ => by simp [lcEv, scan, ga]
  | t :: ts, a, acc, ga, h, hl => by
    obtain ⟨g1, s1, s2, h1, h2, h3, h4⟩ := h t List.mem_cons_self a ga
    rw [List.length_cons] at hl
    have ih := lc_scan w hpf nx good ts (nx a t).1 (acc ++ [(nx a t).2]) g1 (fun t ht => h t (List.mem_cons_of_mem _ ht)) (by rw [List.length_append]; simp; omega)
    unfold lcEv
    simp only [h1, h2, h3, h4, Option.bind_some, if_true]
    rw [if_pos (by omega), ih.1]
    simp only [scan, List.append_assoc, List.singleton_append]
    exact ⟨trivial, ih.2⟩
/-- a loop that goes through all turns -/
theorem for_fold {α : Type} (st : α → S) (nx : α → T → α) (good : α → Prop) : ∀ (ts : List T) (a : α), good a →
    (∀ t ∈ ts, ∀ a, good a → good (nx a t) ∧ ((g t (st a)).bind b = some (.nx (st (nx a t))) ∨ (g t (st a)).bind b = some (.ct (st (nx a t))))) →
    forEv g b ts (st a) = some (.nx (st (ts.foldl nx a))) ∧ good (ts.foldl nx a)
  | [], a, ga, _ => ⟨rfl, ga⟩
  | t :: ts, a, ga, h => by
    obtain ⟨g1, h1⟩ := h t List.mem_cons_self a ga
    have ih := for_fold st nx good ts (nx a t) g1 fun t ht => h t (List.mem_cons_of_mem _ ht)
    refine ⟨?_, ih.2⟩
    unfold forEv
    rcases h1 with h1 | h1
    · obtain ⟨s1, e1, e2⟩ := Option.bind_eq_some_iff.mp h1
      simp only [e1, Option.bind_some, e2]
      exact ih.1
    · obtain ⟨s1, e1, e2⟩ := Option.bind_eq_some_iff.mp h1
      simp only [e1, Option.bind_some, e2]
      exact ih.1
end
/-- the same, by the turn -/
theorem for_foldI {α : Type} {g : T → S → Option S} {b : S → Option Out} (st : α → S) (nx : α → T → α) : ∀ (ts : List T) (good : Nat → α → Prop) (a : α), good 0 a →
    (∀ i t a, ts[i]? = some t → good i a → good (i + 1) (nx a t) ∧ ((g t (st a)).bind b = some (.nx (st (nx a t))) ∨ (g t (st a)).bind b = some (.ct (st (nx a t))))) →
    forEv g b ts (st a) = some (.nx (st (ts.foldl nx a))) ∧ good ts.length (ts.foldl nx a)
  | [], good, a, ga, _ => ⟨rfl, ga⟩
  | t :: ts, good, a, ga, h => by
    obtain ⟨g1, h1⟩ := h 0 t a rfl ga
    have ih := for_foldI st nx ts (fun i => good (i + 1)) (nx a t) g1 fun i t a e => h (i + 1) t a e
    refine ⟨?_, ih.2⟩
    unfold forEv
    rcases h1 with h1 | h1
    · obtain ⟨s1, e1, e2⟩ := Option.bind_eq_some_iff.mp h1
      simp only [e1, Option.bind_some, e2]
      exact ih.1
    · obtain ⟨s1, e1, e2⟩ := Option.bind_eq_some_iff.mp h1
      simp only [e1, Option.bind_some, e2]
      exact ih.1
theorem cut_take {ts : List T} {j : Int} (h : 0 ≤ j) : cutT ts none (some j) = ts.take j.toNat := by
  obtain ⟨n, rfl⟩ : ∃ n : Nat, j = n := ⟨j.toNat, by omega⟩
  unfold cutT
  rw [HT.sIx_none, HT.sIx_nat, List.drop_zero, Nat.sub_zero, Int.toNat_natCast]
  rcases Nat.le_total n ts.length with q | q
  · rw [Nat.min_eq_left q]
  · rw [Nat.min_eq_right q, List.take_of_length_le (Nat.le_refl _), List.take_of_length_le q]
theorem cut_drop {ts : List T} {j : Int} (h : 0 ≤ j) : cutT ts (some j) none = ts.drop j.toNat := by
  obtain ⟨n, rfl⟩ : ∃ n : Nat, j = n := ⟨j.toNat, by omega⟩
  unfold cutT
  rw [HT.sIx_none, HT.sIx_nat, Int.toNat_natCast]
  rcases Nat.le_total n ts.length with q | q
  · rw [Nat.min_eq_left q]
    exact List.take_of_length_le (by rw [List.length_drop]; exact Nat.le_refl _)
  · rw [Nat.min_eq_right q, List.drop_of_length_le (Nat.le_refl _), List.drop_of_length_le q]
    exact List.take_nil
theorem slcF_take {o : Bool} {ts : List T} {j : Int} {s : S} (h : 0 ≤ j) : slcF o (.nd .lst ts) none (some j) s = some (allocT o s .lst (ts.take j.toNat)) := by
  show some (allocT o s .lst (cutT ts none (some j))) = _
  rw [cut_take h]
theorem slcF_drop {o : Bool} {ts : List T} {j : Int} {s : S} (h : 0 ≤ j) : slcF o (.nd .lst ts) (some j) none s = some (allocT o s .lst (ts.drop j.toNat)) := by
  show some (allocT o s .lst (cutT ts (some j) none)) = _
  rw [cut_drop h]
theorem set_snoc {α : Type} (l : List α) (a b : α) : (l ++ [a]).set l.length b = l ++ [b] := by
  rw [List.set_append_right _ _ (Nat.le_refl _)]
  simp
end Z
set_option Elab.async false
set_option linter.all false
set_option maxRecDepth 100000
/-! Z: what every law of this program begins with: numbers drawn from the script. -/
namespace Z
open PySem PySem.Spec PyProof.Rows L2
section
variable {K : PySem.W.Frag}
/-! ### sizes -/
/-- below 2 ^ n in size -/
def Bt (x : Int) (n : Nat) : Prop := x.natAbs < 2 ^ n
theorem Bt.mono {x : Int} {n m : Nat} (h : Bt x n) (hm : n ≤ m) : Bt x m := Nat.lt_of_lt_of_le h (Nat.pow_le_pow_right (by decide) hm)
theorem Bt.mul {x y : Int} {n m : Nat} (h : Bt x n) (h' : Bt y m) : Bt (x * y) (n + m) := by
  unfold Bt
  rw [Int.natAbs_mul, Nat.pow_add]
  exact Nat.mul_lt_mul'' h h'
theorem Bt.add {x y : Int} {n : Nat} (h : Bt x n) (h' : Bt y n) : Bt (x + y) (n + 1) := by
  unfold Bt at *
  have := Int.natAbs_add_le x y
  rw [Nat.pow_succ]
  omega
theorem Bt.le {x y : Int} {n : Nat} (h0 : 0 ≤ x) (h : x ≤ y) (hy : Bt y n) : Bt x n := by
  unfold Bt at *
  omega
theorem Bt.of {x : Int} {n : Nat} (h0 : 0 ≤ x) (h : x < 2 ^ n) : Bt x n := by
  unfold Bt
  have : ((2 ^ n : Nat) : Int) = (2 : Int) ^ n := by simp
  omega
theorem Bt.ok {x y : Int} {n m : Nat} (h : Bt x n) (h' : Bt y m) (h0 : 0 < n) (h1 : 0 < m) (hs : n + m ≤ 100000000) : mulOk x y = true := mulOk_of h h' h0 h1 hs
theorem Bt.log {x : Int} {n m : Nat} (h : Bt x n) (h0 : 0 < n) (hm : n ≤ m) : x.natAbs.log2 < m := Nat.lt_of_lt_of_le (PySem.Flt.log2_lt_of h0 h) hm
/-! ### the state -/
def M1 : Int := 2305843009213693951
def M2 : Int := 618970019642690137449562111
def M3 : Int := 162259276829213363391578010288127
abbrev Sd := Int × Int
def freshD (st : Sd) (m : Int) : Sd :=
  let one := (st.2 * st.2 + 48271 * st.2 + 12345).fmod 2305843009213693951
  let two := (one * one + 69621 * one + 77).fmod 618970019642690137449562111
  (m + (two * two + one).fmod 162259276829213363391578010288127, two)
def turnD (st : Sd) (m : Int) : Sd := if st.1 < m then freshD st m else st
/-- a number below m, and the state behind it -/
def drawP (st : Sd) (m : Int) : Int × Sd := ((turnD st m).1.fmod m, ((turnD st m).1.fdiv m, (turnD st m).2))
def sdN : Nat := 3000000
structure StOk (st : Sd) : Prop where
  a0 : 0 ≤ st.1
  b0 : 0 ≤ st.2
  a : Bt st.1 sdN
  b : Bt st.2 sdN
def encS (st : Sd) : List T := [.at (.int st.1), .at (.int st.2)]
/-! ### _law_state -/
def cellP (ns : List Int) (k : Int) : Int :=
  let c := if 0 < (ns.length : Int) then ns.getD (k.fmod ns.length).toNat 0 else 0
  if c < 0 then 1 - 2 * c else c
def stateP (ns : List Int) (k salt : Int) : Sd := if k < ns.length ∧ 10 ^ 18 ≤ cellP ns k then (cellP ns k, salt + 1) else (0, cellP ns k * 61 + 7919 * k + 104729 * salt + 1)
structure LSOk (ns : List Int) (k salt : Int) : Prop where
  k0 : 0 ≤ k
  k1 : k < 1000
  s0 : 0 ≤ salt
  s1 : salt < 1000
  bits : ∀ z ∈ ns, Bt z 1048577
  len : ns.length ≤ 63
open Classical in
noncomputable def sp_law_state : List T → Option Res
  | [.nd .lsR ts, .at (.int k), .at (.int salt)] => match ints? ts with
    | some ns => if LSOk ns k salt then some (.new .lst (encS (stateP ns k salt))) else none
    | none => none
  | _ => none
open Classical in
noncomputable def sp_law_draw : Kd → List T → List T → Option (Res × Kd × List T)
  | .lst, [.at (.int a), .at (.int b)], [.at (.int m)] => if StOk (a, b) ∧ 0 < m ∧ m < 1000000 then some (.val (.at (.int (drawP (a, b) m).1)), .lst, encS (drawP (a, b) m).2) else none
  | _, _, _ => none
/-! ### _law_state -/
noncomputable def c_law_state : CS K :=
    (CS.seq (CS.set 3 (CE.int 0))
    (CS.seq (CS.ife (CT.ofE (CE.op2 O2.gt (CE.call (ON.len) (CA.cons (CE.var 0) CA.nil)) (CE.int 0))) (CS.set 3 (CE.call (ON.int) (CA.cons (CE.sub (CE.var 0) (CE.op2 O2.mod (CE.call (ON.int) (CA.cons (CE.var 1) CA.nil)) (CE.call (ON.len) (CA.cons (CE.var 0) CA.nil)))) CA.nil))) CS.pass)
    (CS.seq (CS.ife (CT.ofE (CE.op2 O2.lt (CE.var 3) (CE.int 0))) (CS.set 3 (CE.op2 O2.sub (CE.int 1) (CE.op2 O2.mul (CE.int 2) (CE.var 3)))) CS.pass)
    (CS.seq (CS.ife (CT.and (CT.ofE (CE.op2 O2.lt (CE.var 1) (CE.call (ON.len) (CA.cons (CE.var 0) CA.nil)))) (CT.ofE (CE.op2 O2.ge (CE.var 3) (CE.op2 O2.pow (CE.int 10) (CE.int 18))))) (CS.ret (CE.lst true (CA.cons (CE.var 3) (CA.cons (CE.op2 (O2.add false) (CE.var 2) (CE.int 1)) CA.nil)))) CS.pass)
    (CS.ret (CE.lst true (CA.cons (CE.int 0) (CA.cons (CE.op2 (O2.add false) (CE.op2 (O2.add false) (CE.op2 (O2.add false) (CE.op2 O2.mul (CE.var 3) (CE.int 61)) (CE.op2 O2.mul (CE.int 7919) (CE.var 1))) (CE.op2 O2.mul (CE.int 104729) (CE.var 2))) (CE.int 1)) CA.nil))))))))

/-! ### _law_draw -/
noncomputable def c_law_draw : CS K :=
    (CS.seq (CS.ife (CT.ofE (CE.op2 O2.lt (CE.sub (CE.var 0) (CE.int 0)) (CE.var 1))) (CS.seq (CS.set 2 (CE.op2 O2.mod (CE.call (ON.int) (CA.cons (CE.op2 (O2.add false) (CE.op2 (O2.add false) (CE.op2 O2.mul (CE.sub (CE.var 0) (CE.int 1)) (CE.sub (CE.var 0) (CE.int 1))) (CE.op2 O2.mul (CE.int 48271) (CE.sub (CE.var 0) (CE.int 1)))) (CE.int 12345)) CA.nil)) (CE.int 2305843009213693951)))
    (CS.seq (CS.set 3 (CE.op2 O2.mod (CE.call (ON.int) (CA.cons (CE.op2 (O2.add false) (CE.op2 (O2.add false) (CE.op2 O2.mul (CE.var 2) (CE.var 2)) (CE.op2 O2.mul (CE.int 69621) (CE.var 2))) (CE.int 77)) CA.nil)) (CE.int 618970019642690137449562111)))
    (CS.seq (CS.sub (CE.var 0) (CE.int 1) (CE.var 3))
    (CS.sub (CE.var 0) (CE.int 0) (CE.op2 (O2.add false) (CE.var 1) (CE.op2 O2.mod (CE.call (ON.int) (CA.cons (CE.op2 (O2.add false) (CE.op2 O2.mul (CE.var 3) (CE.var 3)) (CE.var 2)) CA.nil)) (CE.int 162259276829213363391578010288127))))))) CS.pass)
    (CS.seq (CS.set 4 (CE.op2 O2.mod (CE.call (ON.int) (CA.cons (CE.sub (CE.var 0) (CE.int 0)) CA.nil)) (CE.var 1)))
    (CS.seq (CS.sub (CE.var 0) (CE.int 0) (CE.op2 O2.fdiv (CE.sub (CE.var 0) (CE.int 0)) (CE.var 1)))
    (CS.ret (CE.var 4)))))

theorem fmod_range {x m : Int} (h : 0 < m) : 0 ≤ x.fmod m ∧ x.fmod m < m := ⟨Int.fmod_nonneg_of_pos x h, Int.fmod_lt_of_pos x h⟩
theorem bt_const {x : Int} {n : Nat} (h : decide (x.natAbs < 2 ^ n) = true) : Bt x n := show x.natAbs < 2 ^ n from of_decide_eq_true h
theorem one_ok (b : Int) : Bt ((b * b + 48271 * b + 12345).fmod 2305843009213693951) 61 := by
  have h := fmod_range (x := b * b + 48271 * b + 12345) (m := 2305843009213693951) (by decide)
  exact Bt.of h.1 (by omega)
theorem two_ok (a : Int) : Bt (a.fmod 618970019642690137449562111) 90 := by
  have h := fmod_range (x := a) (m := 618970019642690137449562111) (by decide)
  exact Bt.of h.1 (by omega)
theorem three_ok (a : Int) : Bt (a.fmod 162259276829213363391578010288127) 107 := by
  have h := fmod_range (x := a) (m := 162259276829213363391578010288127) (by decide)
  exact Bt.of h.1 (by omega)
theorem turnD_ok {st : Sd} {m : Int} (h : StOk st) (hm : 0 < m) (hm2 : m < 1000000) : StOk (turnD st m) := by
  unfold turnD
  split
  · unfold freshD
    refine ⟨?_, ?_, ?_, ?_⟩
    · have := (fmod_range (x := ((st.2 * st.2 + 48271 * st.2 + 12345).fmod 2305843009213693951 * (st.2 * st.2 + 48271 * st.2 + 12345).fmod 2305843009213693951 + 69621 * (st.2 * st.2 + 48271 * st.2 + 12345).fmod 2305843009213693951 + 77).fmod 618970019642690137449562111 * ((st.2 * st.2 + 48271 * st.2 + 12345).fmod 2305843009213693951 * (st.2 * st.2 + 48271 * st.2 + 12345).fmod 2305843009213693951 + 69621 * (st.2 * st.2 + 48271 * st.2 + 12345).fmod 2305843009213693951 + 77).fmod 618970019642690137449562111 + (st.2 * st.2 + 48271 * st.2 + 12345).fmod 2305843009213693951) (m := 162259276829213363391578010288127) (by decide)).1
      show 0 ≤ m + _
      omega
    · exact (fmod_range (by decide)).1
    · exact ((Bt.of (n := 107) (by omega) (by omega)).add (three_ok _)).mono (by decide)
    · exact (two_ok _).mono (by decide)
  · exact h
theorem drawP_ok {st : Sd} {m : Int} (h : StOk st) (hm : 0 < m) (hm2 : m < 1000000) : StOk (drawP st m).2 ∧ 0 ≤ (drawP st m).1 ∧ (drawP st m).1 < m := by
  have t := turnD_ok h hm hm2
  refine ⟨⟨?_, t.b0, ?_, t.b⟩, (fmod_range hm).1, (fmod_range hm).2⟩
  · show 0 ≤ (turnD st m).1.fdiv m
    rw [Int.fdiv_eq_ediv_of_nonneg _ (by omega)]
    exact Int.ediv_nonneg t.a0 (by omega)
  · show Bt ((turnD st m).1.fdiv m) sdN
    rw [Int.fdiv_eq_ediv_of_nonneg _ (by omega)]
    refine Bt.le (Int.ediv_nonneg t.a0 (by omega)) ?_ t.a
    exact Int.ediv_le_self _ t.a0
open Classical in
theorem sp_draw_eq {st : Sd} {m : Int} (h : StOk st) (h0 : 0 < m) (h1 : m < 1000000) : sp_law_draw .lst (encS st) [.at (.int m)] = some (.val (.at (.int (drawP st m).1)), .lst, encS (drawP st m).2) := by
  show (if StOk (st.1, st.2) ∧ 0 < m ∧ m < 1000000 then _ else _) = _
  rw [if_pos ⟨h, h0, h1⟩]
theorem m_log {m : Int} (h0 : 0 < m) (h1 : m < 1000000) : m.natAbs.log2 < 9000 := (Bt.of (n := 20) (by omega) (by omega)).log (by decide) (by decide)
theorem run_law_draw : ∀ k us ts r, sp_law_draw k us ts = some r → pureL us = true → pureL ts = true → FinR ((c_law_draw (K := K)).ex (S.r0 5 k us ts)) r := by
  intro k us ts r h pu pt
  unfold sp_law_draw at h
  split at h
  · next a b m =>
    split at h
    · next hk =>
      cases h
      obtain ⟨ok, h0, h1⟩ := hk
      have hb := ok.b
      have m1 : mulOk b b = true := Bt.ok hb hb (by decide) (by decide) (by decide)
      have m2 : mulOk 48271 b = true := Bt.ok (n := 20) (bt_const (by decide)) hb (by decide) (by decide) (by decide)
      have o1 := one_ok b
      have m3 := Bt.ok o1 o1 (by decide) (by decide) (by decide)
      have m4 : mulOk 69621 ((b * b + 48271 * b + 12345).fmod 2305843009213693951) = true := Bt.ok (n := 20) (bt_const (by decide)) o1 (by decide) (by decide) (by decide)
      have o2 := two_ok ((b * b + 48271 * b + 12345).fmod 2305843009213693951 * (b * b + 48271 * b + 12345).fmod 2305843009213693951 + 69621 * (b * b + 48271 * b + 12345).fmod 2305843009213693951 + 77)
      have m5 := Bt.ok o2 o2 (by decide) (by decide) (by decide)
      have l1 := m_log h0 h1
      have n0 : m ≠ 0 := by omega
      have ne : ∀ z : Int, z = 0 → z = 0 := fun _ h => h
      by_cases hq : a < m
      · simp [c_law_draw, S.r0, hq, m1, m2, m3, m4, m5, l1, n0, FinR, drawP, turnD, freshD, encS, frzT, lim_eq]
      · simp [c_law_draw, S.r0, hq, l1, n0, FinR, drawP, turnD, encS, frzT, lim_eq]
    · cases h
  · cases h
theorem ints_eq : ∀ {ts : List T} {ns : List Int}, ints? ts = some ns → ts = ns.map fun i => T.at (.int i)
  | [], ns, e => by cases e; rfl
  | .at (.int i) :: ts, ns, e => by
    obtain ⟨ms, h1, h2⟩ := Option.map_eq_some_iff.mp (show (ints? ts).map (i :: ·) = some ns from e)
    subst h2
    rw [ints_eq h1]; rfl
  | .at .non :: _, _, e => nomatch e
  | .at (.bl _) :: _, _, e => nomatch e
  | .at (.str _) :: _, _, e => nomatch e
  | .at (.byt _) :: _, _, e => nomatch e
  | .at (.flt _) :: _, _, e => nomatch e
  | .at (.ref _) :: _, _, e => nomatch e
  | .at (.ty _) :: _, _, e => nomatch e
  | .ptr _ :: _, _, e => nomatch e
  | .nd _ _ :: _, _, e => nomatch e
theorem ints_map (ns : List Int) : ints? (ns.map fun i => T.at (.int i)) = some ns := by
  induction ns with
  | nil => rfl
  | cons n ns ih =>
    show (ints? (ns.map fun i => T.at (.int i))).map (n :: ·) = _
    rw [ih]
    rfl
theorem atI_getD {α : Type} {l : List α} {i : Int} (d : α) (h0 : 0 ≤ i) (h1 : i < l.length) : atI l i = some (l.getD i.toNat d) := by
  have e : i = ((i.toNat : Nat) : Int) := by omega
  have hl : i.toNat < l.length := by omega
  rw [e, atI_of (List.getElem?_eq_getElem hl)]
  congr 1
  rw [List.getD_eq_getElem?_getD, Int.toNat_natCast, List.getElem?_eq_getElem hl]
  rfl
theorem run_law_state : ∀ ts r, sp_law_state ts = some r → pureL ts = true → FinV ((c_law_state (K := K)).ex (S.v0 4 ts)) r := by
  intro ts r h pu
  unfold sp_law_state at h
  split at h
  · next us k salt =>
    split at h
    · next ns hn =>
      split at h
      · next ok =>
        cases h
        have hu := ints_eq hn
        subst hu
        have k0 := ok.k0
        have k1 := ok.k1
        have hlen := ok.len
        have cb : Bt (if 0 < (ns.length : Int) then ns.getD (k.fmod ns.length).toNat 0 else 0) 1048577 := by
          split
          · next hl =>
            have := fmod_range (x := k) hl
            have hl2 : (k.fmod ns.length).toNat < ns.length := by omega
            rw [List.getD_eq_getElem?_getD, List.getElem?_eq_getElem hl2]
            exact ok.bits _ (List.getElem_mem hl2)
          · exact bt_const (by decide +kernel)
        have c2 : Bt (cellP ns k) 1048579 := by
          have e : cellP ns k = if (if 0 < (ns.length : Int) then ns.getD (k.fmod ns.length).toNat 0 else 0) < 0 then 1 - 2 * (if 0 < (ns.length : Int) then ns.getD (k.fmod ns.length).toNat 0 else 0) else (if 0 < (ns.length : Int) then ns.getD (k.fmod ns.length).toNat 0 else 0) := rfl
          rw [e]
          generalize (if 0 < (ns.length : Int) then ns.getD (k.fmod ns.length).toNat 0 else 0) = c at cb
          split
          · unfold Bt at *
            rw [show (1048579 : Nat) = 1048577 + 2 from rfl, Nat.pow_add]
            omega
          · exact cb.mono (by decide)
        have m2 : mulOk 2 (if 0 < (ns.length : Int) then ns.getD (k.fmod ns.length).toNat 0 else 0) = true := Bt.ok (n := 3) (bt_const (by decide)) cb (by decide) (by decide) (by decide)
        have m3 : mulOk (cellP ns k) 61 = true := Bt.ok c2 (m := 7) (bt_const (by decide)) (by decide) (by decide) (by decide)
        have m4 : mulOk 7919 k = true := Bt.ok (n := 20) (m := 20) (bt_const (by decide)) (Bt.of (by omega) (by omega)) (by decide) (by decide) (by decide)
        have m5 : mulOk 104729 salt = true := Bt.ok (n := 20) (m := 20) (bt_const (by decide)) (Bt.of ok.s0 (by have := ok.s1; omega)) (by decide) (by decide) (by decide)
        have tail : ∀ c : Int, c = cellP ns k → FinV ((CS.seq (K := K) (CS.ife (CT.and (CT.ofE (CE.op2 O2.lt (CE.var 1) (CE.call (ON.len) (CA.cons (CE.var 0) CA.nil)))) (CT.ofE (CE.op2 O2.ge (CE.var 3) (CE.op2 O2.pow (CE.int 10) (CE.int 18))))) (CS.ret (CE.lst true (CA.cons (CE.var 3) (CA.cons (CE.op2 (O2.add false) (CE.var 2) (CE.int 1)) CA.nil)))) CS.pass)
            (CS.ret (CE.lst true (CA.cons (CE.int 0) (CA.cons (CE.op2 (O2.add false) (CE.op2 (O2.add false) (CE.op2 (O2.add false) (CE.op2 O2.mul (CE.var 3) (CE.int 61)) (CE.op2 O2.mul (CE.int 7919) (CE.var 1))) (CE.op2 O2.mul (CE.int 104729) (CE.var 2))) (CE.int 1)) CA.nil))))).ex ⟨[some (.nd .lsR (ns.map fun i => T.at (.int i))), some (.at (.int k)), some (.at (.int salt)), some (.at (.int c))], []⟩) (.new .lst (encS (stateP ns k salt))) := by
          intro c hc
          subst hc
          by_cases h1 : k < ns.length
          · by_cases h2 : (1000000000000000000 : Int) ≤ cellP ns k
            · simp [h1, h2, FinV, stateP, encS, lim_eq]
            · simp [h1, h2, m3, m4, m5, FinV, stateP, encS, lim_eq]
          · simp [h1, m3, m4, m5, FinV, stateP, encS, lim_eq]
        have tl := tail (cellP ns k) rfl
        by_cases hl : 0 < (ns.length : Int)
        · have hr := fmod_range (x := k) hl
          have ha := atI_getD (l := ns.map fun i => T.at (.int i)) (i := k.fmod ns.length) (T.at (.int 0)) hr.1 (by simpa using hr.2)
          have hg : (ns.map fun i => T.at (.int i)).getD (k.fmod ns.length).toNat (T.at (.int 0)) = T.at (.int (ns.getD (k.fmod ns.length).toNat 0)) := by
            rw [List.getD_eq_getElem?_getD, List.getD_eq_getElem?_getD, List.getElem?_map]
            cases ns[(k.fmod ns.length).toNat]? <;> rfl
          rw [hg] at ha
          have nz : (ns.length : Int) ≠ 0 := by omega
          have ec : cellP ns k = if ns.getD (k.fmod ns.length).toNat 0 < 0 then 1 - 2 * ns.getD (k.fmod ns.length).toNat 0 else ns.getD (k.fmod ns.length).toNat 0 := by
            unfold cellP
            rw [if_pos hl]
          rw [if_pos hl] at m2
          generalize ns.getD (k.fmod ns.length).toNat 0 = c0 at *
          have hl' : 0 < ns.length := by omega
          have nz' : ns.length ≠ 0 := by omega
          by_cases hc : c0 < 0
          · rw [if_pos hc] at ec
            rw [ec] at tl
            simpa [c_law_state, S.v0, hl', nz', ha, hc, m2] using tl
          · rw [if_neg hc] at ec
            rw [ec] at tl
            simpa [c_law_state, S.v0, hl', nz', ha, hc, m2] using tl
        · have ec : cellP ns k = 0 := by
            unfold cellP
            rw [if_neg hl]
            rfl
          rw [ec] at tl
          have hl' : ¬ 0 < ns.length := by omega
          simpa [c_law_state, S.v0, hl'] using tl
      · cases h
    · cases h
  · cases h
/-! ### _law_order -/
abbrev itT (i : Int) : T := .at (.int i)
def encL (ns : List Int) : List T := ns.map itT
def stepO (a : Sd × List Int × List Int) : Sd × List Int × List Int := ((drawP a.1 a.2.1.length).2, a.2.1.eraseIdx (drawP a.1 a.2.1.length).1.toNat, a.2.2 ++ [a.2.1.getD (drawP a.1 a.2.1.length).1.toNat 0])
def itO : Nat → Sd × List Int × List Int → Sd × List Int × List Int
  | 0, a => a
  | n + 1, a => itO n (stepO a)
def orderP (st : Sd) (m : Int) : List Int × Sd := ((itO m.toNat (st, (List.range m.toNat).map fun (i : Nat) => (i : Int), [])).2.2, (itO m.toNat (st, (List.range m.toNat).map fun (i : Nat) => (i : Int), [])).1)
open Classical in
noncomputable def sp_law_order : Kd → List T → List T → Option (Res × Kd × List T)
  | .lst, [.at (.int a), .at (.int b)], [.at (.int m)] => if StOk (a, b) ∧ 0 ≤ m ∧ m ≤ 1000 then some (.val (.nd .lst (encL (orderP (a, b) m).1)), .lst, encS (orderP (a, b) m).2) else none
  | _, _, _ => none
/-! ### _law_order -/
noncomputable def c_law_order : CS K :=
    (CS.seq (CS.set 2 (CE.lrng1 false (CE.var 1)))
    (CS.seq (CS.set 3 (CE.lst true CA.nil))
    (CS.seq (CS.for (CI.rng1 (CA.cons (CE.var 1) CA.nil)) (CG.name 4) (CS.seq (CS.set 5 (CE.call (ON.fnR sp_law_draw) (CA.cons (CE.var 0) (CA.cons (CE.call (ON.len) (CA.cons (CE.var 2) CA.nil)) CA.nil))))
    (CS.seq (CS.app (CE.var 3) (CA.cons (CE.sub (CE.var 2) (CE.var 5)) CA.nil))
    (CS.set 2 (CE.op2 (O2.add false) (CE.slc false (CE.var 2) CP.no (CP.of (CE.var 5))) (CE.slc false (CE.var 2) (CP.of (CE.op2 (O2.add false) (CE.var 5) (CE.int 1))) CP.no))))))
    (CS.ret (CE.var 3)))))

theorem perm_erase {α : Type} [Inhabited α] {l : List α} {i : Nat} {d : α} (h : i < l.length) : (l.getD i d :: l.eraseIdx i).Perm l := by
  rw [List.getD_eq_getElem?_getD, List.getElem?_eq_getElem h]
  show (l[i] :: l.eraseIdx i).Perm l
  rw [List.eraseIdx_eq_take_drop_succ]
  have : l = l.take i ++ l[i] :: l.drop (i + 1) := by
    rw [← List.drop_eq_getElem_cons h, List.take_append_drop]
  conv => rhs; rw [this]
  exact List.perm_middle.symm
structure OGood (m : Nat) (i : Nat) (a : Sd × List Int × List Int) : Prop where
  ok : StOk a.1
  len : a.2.1.length + i = m
  perm : (a.2.2 ++ a.2.1).Perm ((List.range m).map fun (i : Nat) => (i : Int))
theorem OGood.olen {m i : Nat} {a : Sd × List Int × List Int} (h : OGood m i a) : a.2.2.length = i := by
  have := h.perm.length_eq
  rw [List.length_append, List.length_map, List.length_range] at this
  have := h.len
  omega
theorem OGood.step {m i : Nat} {a : Sd × List Int × List Int} (h : OGood m i a) (hm : m ≤ 1000) (hi : i < m) : OGood m (i + 1) (stepO a) := by
  have hl : 0 < a.2.1.length := by have := h.len; omega
  have d := drawP_ok (m := (a.2.1.length : Int)) h.ok (by omega) (by have := h.len; omega)
  have hk : (drawP a.1 a.2.1.length).1.toNat < a.2.1.length := by omega
  refine ⟨d.1, ?_, ?_⟩
  · show (a.2.1.eraseIdx _).length + (i + 1) = m
    rw [List.length_eraseIdx_of_lt hk]
    have := h.len
    omega
  · refine List.Perm.trans ?_ h.perm
    show ((a.2.2 ++ [a.2.1.getD _ 0]) ++ a.2.1.eraseIdx _).Perm (a.2.2 ++ a.2.1)
    rw [List.append_assoc]
    exact List.Perm.append_left _ (perm_erase hk)
theorem itO_succ : ∀ (n : Nat) (a : Sd × List Int × List Int), itO (n + 1) a = stepO (itO n a)
  | 0, _ => rfl
  | n + 1, a => itO_succ n (stepO a)
theorem OGood.it {m : Nat} {a : Sd × List Int × List Int} (h : OGood m 0 a) (hm : m ≤ 1000) : ∀ n, n ≤ m → OGood m n (itO n a)
  | 0, _ => h
  | n + 1, hn => by
    rw [itO_succ]
    exact (OGood.it h hm n (by omega)).step hm (by omega)
theorem OGood.start {st : Sd} {m : Nat} (h : StOk st) : OGood m 0 (st, (List.range m).map fun (i : Nat) => (i : Int), []) := ⟨h, by simp, .refl _⟩
/-- what is drawn is an order of the numbers below m -/
theorem orderP_ok {st : Sd} {m : Int} (h : StOk st) (h0 : 0 ≤ m) (h1 : m ≤ 1000) : StOk (orderP st m).2 ∧ (orderP st m).1.Perm ((List.range m.toNat).map fun (i : Nat) => (i : Int)) := by
  have g := OGood.it (OGood.start (m := m.toNat) h) (by omega) m.toNat (Nat.le_refl _)
  refine ⟨g.ok, ?_⟩
  have p := g.perm
  have l := g.len
  have e : (itO m.toNat (st, (List.range m.toNat).map fun (i : Nat) => (i : Int), [])).2.1 = [] := List.length_eq_zero_iff.mp (by omega)
  rw [e, List.append_nil] at p
  exact p
theorem encL_len (ns : List Int) : (encL ns).length = ns.length := List.length_map _
theorem encL_pure (ns : List Int) : pureL (encL ns) = true := pureL_all.mpr fun t ht => by
  obtain ⟨i, _, rfl⟩ := List.mem_map.mp ht
  rfl
theorem encL_getD (ns : List Int) (i : Nat) : (encL ns).getD i (itT 0) = itT (ns.getD i 0) := by
  rw [List.getD_eq_getElem?_getD, List.getD_eq_getElem?_getD]
  unfold encL
  rw [List.getElem?_map]
  cases ns[i]? <;> rfl
theorem encL_erase (ns : List Int) (i : Nat) : (encL ns).take i ++ (encL ns).drop (i + 1) = encL (ns.eraseIdx i) := by
  unfold encL
  rw [List.eraseIdx_eq_take_drop_succ, List.map_append, List.map_take, List.map_drop]
theorem rngT_enc (m : Nat) : rngT 0 m = encL ((List.range m).map fun (i : Nat) => (i : Int)) := by
  unfold rngT encL
  rw [List.map_map]
  refine List.map_congr_left fun i _ => ?_
  show T.at (.int (0 + (i : Int))) = T.at (.int (i : Int))
  rw [Int.zero_add]
abbrev OA := (Sd × List Int × List Int) × Option T × Option T
def stO (m : Int) (a : OA) : S := ⟨[some (.ptr 0), some (itT m), some (.nd .lst (encL a.1.2.1)), some (.ptr 1), a.2.1, a.2.2], [.own .lst (encS a.1.1), .own .lst (encL a.1.2.2)]⟩
def nxO (a : OA) (t : T) : OA := (stepO a.1, some t, some (itT (drawP a.1.1 a.1.2.1.length).1))
theorem nxO_it : ∀ (ts : List T) (a : OA), (ts.foldl nxO a).1 = itO ts.length a.1
  | [], _ => rfl
  | t :: ts, a => by
    show (ts.foldl nxO (nxO a t)).1 = itO ts.length (stepO a.1)
    rw [nxO_it ts (nxO a t)]
    rfl
theorem run_law_order : ∀ k us ts r, sp_law_order k us ts = some r → pureL us = true → pureL ts = true → FinR ((c_law_order (K := K)).ex (S.r0 6 k us ts)) r := by
  intro k us ts r h pu pt
  unfold sp_law_order at h
  split at h
  · next a b m =>
    split at h
    · next hk =>
      cases h
      obtain ⟨ok, h0, h1⟩ := hk
      have hml : (rngT 0 m.toNat).length = m.toNat := by simp [rngT]
      have fl := for_foldI (g := (CG.name (K := K) 4).f) (b := (CS.seq (K := K) (CS.set 5 (CE.call (ON.fnR sp_law_draw) (CA.cons (CE.var 0) (CA.cons (CE.call (ON.len) (CA.cons (CE.var 2) CA.nil)) CA.nil))))
    (CS.seq (CS.app (CE.var 3) (CA.cons (CE.sub (CE.var 2) (CE.var 5)) CA.nil))
    (CS.set 2 (CE.op2 (O2.add false) (CE.slc false (CE.var 2) CP.no (CP.of (CE.var 5))) (CE.slc false (CE.var 2) (CP.of (CE.op2 (O2.add false) (CE.var 5) (CE.int 1))) CP.no))))).ex) (stO m) nxO (rngT 0 m.toNat) (fun i a => OGood m.toNat i a.1) (((a, b), (List.range m.toNat).map fun (i : Nat) => (i : Int), []), none, none) (OGood.start ok) (fun i t z ht hz => by
        have hi : i < m.toNat := by rw [← hml]; exact (List.getElem?_eq_some_iff.mp ht).1
        have gs := hz.step (by omega) hi
        refine ⟨gs, .inl ?_⟩
        have hl : 0 < z.1.2.1.length := by have := hz.len; omega
        have d := drawP_ok (m := (z.1.2.1.length : Int)) hz.ok (by omega) (by have := hz.len; omega)
        have hat := atI_getD (l := encL z.1.2.1) (i := (drawP z.1.1 z.1.2.1.length).1) (itT 0) d.2.1 (by rw [encL_len]; exact d.2.2)
        rw [encL_getD] at hat
        have hds : StOk (z.1.1.1, z.1.1.2) := hz.ok
        have c1 : (0 : Int) < z.1.2.1.length ∧ (z.1.2.1.length : Int) < 1000000 := ⟨by omega, by have := hz.len; omega⟩
        have ol := hz.olen
        have t1 : ((drawP z.1.1 z.1.2.1.length).1 + 1).toNat = (drawP z.1.1 z.1.2.1.length).1.toNat + 1 := by omega
        have e1 := fun s => slcF_take (o := false) (ts := encL z.1.2.1) (j := (drawP z.1.1 z.1.2.1.length).1) (s := s) d.2.1
        have e2 := fun s => slcF_drop (o := false) (ts := encL z.1.2.1) (j := (drawP z.1.1 z.1.2.1.length).1 + 1) (s := s) (by omega)
        have hle : ((encL z.1.2.1).take (drawP z.1.1 z.1.2.1.length).1.toNat).length + ((encL z.1.2.1).drop ((drawP z.1.1 z.1.2.1.length).1.toNat + 1)).length ≤ 100000 := by
          rw [List.length_take, List.length_drop, encL_len]
          have := hz.len
          omega
        have hol : z.1.2.2.length < 100000 := by rw [ol]; omega
        have hle2 := hle
        rw [List.length_take, List.length_drop, encL_len] at hle2
        have fin : (stO m (nxO z t)) = ⟨[some (.ptr 0), some (itT m), some (.nd .lst (encL (z.1.2.1.eraseIdx (drawP z.1.1 z.1.2.1.length).1.toNat))), some (.ptr 1), some t, some (itT (drawP z.1.1 z.1.2.1.length).1)], [.own .lst (encS (drawP z.1.1 z.1.2.1.length).2), .own .lst (encL z.1.2.2 ++ [itT (z.1.2.1.getD (drawP z.1.1 z.1.2.1.length).1.toNat 0)])]⟩ := by
          simp [stO, nxO, stepO, encL]
        rw [fin]
        have hsp := sp_draw_eq hz.ok c1.1 c1.2
        have pS : pureL (encS z.1.1) = true := rfl
        generalize hD : drawP z.1.1 z.1.2.1.length = D at *
        simp [stO, encL_len, hsp, pS, hat, hol, lim_eq, e1, e2, t1, hle, hle2, encL_erase])
      obtain ⟨f1, f2⟩ := fl
      have hfs : (rngT 0 m.toNat).foldl nxO (((a, b), (List.range m.toNat).map fun (i : Nat) => (i : Int), []), none, none) = ((rngT 0 m.toNat).foldl nxO (((a, b), (List.range m.toNat).map fun (i : Nat) => (i : Int), []), none, none)) := rfl
      have e0 := nxO_it (rngT 0 m.toNat) (((a, b), (List.range m.toNat).map fun (i : Nat) => (i : Int), []), none, none)
      rw [hml] at e0
      generalize (rngT 0 m.toNat).foldl nxO (((a, b), (List.range m.toNat).map fun (i : Nat) => (i : Int), []), none, none) = Z at *
      have s0 : S.mk [some (.ptr 0), some (itT m), some (.nd .lst (rngT 0 m.toNat)), some (.ptr 1), none, none] [.own .lst [itT a, itT b], .own .lst []] = stO m (((a, b), (List.range m.toNat).map fun (i : Nat) => (i : Int), []), none, none) := by
        unfold stO
        rw [rngT_enc]
        rfl
      have hm1 : m ≤ 16777216 := by omega
      have hm2 : -4611686018427387904 ≤ m ∧ m < 4611686018427387904 := by omega
      have fe : FinR (some (Out.rt (.ptr 1) (stO m Z))) (.val (.nd .lst (encL (orderP (a, b) m).1)), .lst, encS (orderP (a, b) m).2) := by
        have e1 : (orderP (a, b) m).1 = Z.1.2.2 := by rw [e0]; rfl
        have e2 : (orderP (a, b) m).2 = Z.1.1 := by rw [e0]; rfl
        rw [e1, e2]
        refine ⟨(stO m Z).fix 1 .lst (encL Z.1.2.2), ?_, rfl, rfl⟩
        show (frzT 7 (.nd .lst (encL Z.1.2.2)) ((stO m Z).fix 1 .lst (encL Z.1.2.2))) = _
        show (if pureL (encL Z.1.2.2) = true then _ else _) = _
        rw [if_pos (encL_pure _)]
      simp [c_law_order, S.r0, h0, hm1, hm2, lim_eq]
      simp only [itT] at s0
      rw [s0, f1]
      simpa [stO] using fe
    · cases h
  · cases h
/-! ### _law_names -/
open Classical in
theorem sp_order_eq {st : Sd} {m : Int} (h : StOk st) (h0 : 0 ≤ m) (h1 : m ≤ 1000) : sp_law_order .lst (encS st) [.at (.int m)] = some (.val (.nd .lst (encL (orderP st m).1)), .lst, encS (orderP st m).2) := by
  show (if StOk (st.1, st.2) ∧ 0 ≤ m ∧ m ≤ 1000 then _ else _) = _
  rw [if_pos ⟨h, h0, h1⟩]
theorem sp_state_eq {ns : List Int} {k salt : Int} (h : LSOk ns k salt) : sp_law_state [.nd .lsR (ns.map itT), .at (.int k), .at (.int salt)] = some (.new .lst (encS (stateP ns k salt))) := by
  show (match ints? (ns.map fun i => T.at (.int i)) with | some ns => _ | none => none) = _
  rw [ints_map]
  exact if_pos h
def abcP (i : Int) : Str := ⟨#[97 + i.toNat]⟩
def nmP (l : Str) (i : Int) : Str := l ++ abcP i
def namesP (st : Sd) (l : Str) (m : Int) : List Str := (orderP st m).1.map (nmP l)
open Classical in
noncomputable def sp_law_names : Kd → List T → List T → Option (Res × Kd × List T)
  | .lst, [.at (.int a), .at (.int b)], [.at (.str l), .at (.int m)] => if StOk (a, b) ∧ 0 ≤ m ∧ m ≤ 26 ∧ l.length ≤ 10 then some (.val (.nd .lst ((namesP (a, b) l m).map fun x => T.at (.str x))), .lst, encS (orderP (a, b) m).2) else none
  | _, _, _ => none
open Classical in
theorem sp_names_eq {st : Sd} {l : Str} {m : Int} (h : StOk st) (h0 : 0 ≤ m) (h1 : m ≤ 26) (h2 : l.length ≤ 10) : sp_law_names .lst (encS st) [.at (.str l), .at (.int m)] = some (.val (.nd .lst ((namesP st l m).map fun x => T.at (.str x))), .lst, encS (orderP st m).2) := by
  show (if StOk (st.1, st.2) ∧ 0 ≤ m ∧ m ≤ 26 ∧ l.length ≤ 10 then _ else _) = _
  rw [if_pos ⟨h, h0, h1, h2⟩]
theorem abc_at : ∀ i : Nat, i < 26 → atI ("abcdefghijklmnopqrstuvwxyz" : Str).cps.toList (i : Int) = some (97 + i) := by decide +kernel
theorem nmP_inj {l : Str} {i j : Int} (hi : 0 ≤ i) (hj : 0 ≤ j) (h : nmP l i = nmP l j) : i = j := by
  have h2 : (l.cps ++ #[97 + i.toNat]) = (l.cps ++ #[97 + j.toNat]) := congrArg Str.cps h
  have h3 := Array.append_right_inj _ |>.mp h2
  simp only [Array.mk.injEq, List.cons.injEq, and_true] at h3
  omega
theorem namesP_ok {st : Sd} {l : Str} {m : Int} (h : StOk st) (h0 : 0 ≤ m) (h1 : m ≤ 1000) : (namesP st l m).Nodup ∧ (namesP st l m).length = m.toNat ∧ ∀ x ∈ namesP st l m, ∃ i : Nat, i < m.toNat ∧ x = nmP l i := by
  have p := (orderP_ok h h0 h1).2
  have hm : ∀ i ∈ (orderP st m).1, ∃ n : Nat, n < m.toNat ∧ i = n := fun i hi => by
    obtain ⟨n, hn, rfl⟩ := List.mem_map.mp (p.mem_iff.mp hi)
    exact ⟨n, List.mem_range.mp hn, rfl⟩
  have hn : (orderP st m).1.Nodup := p.nodup_iff.mpr (List.Pairwise.map _ (fun a b h e => h (by omega)) List.nodup_range)
  refine ⟨?_, ?_, ?_⟩
  · unfold namesP
    unfold List.Nodup
    rw [List.pairwise_map]
    exact hn.imp_of_mem fun {a b} ha hb hab e => hab (nmP_inj (by obtain ⟨n, _, rfl⟩ := hm a ha; omega) (by obtain ⟨n, _, rfl⟩ := hm b hb; omega) e)
  · unfold namesP
    rw [List.length_map, p.length_eq, List.length_map, List.length_range]
  · intro x hx
    obtain ⟨i, hi, rfl⟩ := List.mem_map.mp hx
    obtain ⟨n, hn, rfl⟩ := hm i hi
    exact ⟨n, hn, rfl⟩
/-! ### _law_names -/
noncomputable def c_law_names : CS K :=
    (CS.ret (CE.lc false [3] (CI.seq (CE.call (ON.fnR sp_law_order) (CA.cons (CE.var 0) (CA.cons (CE.var 2) CA.nil)))) (CG.name 3) CT.yes (CE.op2 (O2.add false) (CE.var 1) (CE.sub (CE.str ("abcdefghijklmnopqrstuvwxyz" : Str)) (CE.var 3)))))

theorem ixF_str (z : Str) (i : Int) (s : S) : ixF (.at (.str z)) (.at (.int i)) s = if z.length ≤ lim then (atI z.cps.toList i).map fun c => (T.at (.str ⟨#[c]⟩), s) else none := rfl
theorem run_law_names : ∀ k us ts r, sp_law_names k us ts = some r → pureL us = true → pureL ts = true → FinR ((c_law_names (K := K)).ex (S.r0 4 k us ts)) r := by
  intro k us ts r h pu pt
  unfold sp_law_names at h
  split at h
  · next a b l m =>
    split at h
    · next hk =>
      cases h
      obtain ⟨ok, h0, h1, h2⟩ := hk
      have so := sp_order_eq ok h0 (by omega)
      have p := (orderP_ok ok h0 (show m ≤ 1000 by omega)).2
      have hm : ∀ i ∈ (orderP (a, b) m).1, ∃ n : Nat, n < 26 ∧ i = n := fun i hi => by
        obtain ⟨n, hn, rfl⟩ := List.mem_map.mp (p.mem_iff.mp hi)
        have := List.mem_range.mp hn
        exact ⟨n, by omega, rfl⟩
      have hlen : (orderP (a, b) m).1.length = m.toNat := by rw [p.length_eq, List.length_map, List.length_range]
      have pS : pureL (encS (a, b)) = true := rfl
      have lc := lc_over' (g := (CG.name (K := K) 3).f) (c := (CT.yes (K := K)).ev) (e := (CE.op2 (O2.add false) (CE.var (K := K) 1) (CE.sub (CE.str ("abcdefghijklmnopqrstuvwxyz" : Str)) (CE.var 3))).ev) itT (wipeL [some (.ptr 0), some (T.at (.str l)), some (itT m), none] [3]) [.own .lst (encS (orderP (a, b) m).2)] (fun i => T.at (.str (nmP l i))) (xs := (orderP (a, b) m).1) (acc := []) (fun i hi => by
        obtain ⟨n, hn, rfl⟩ := hm i hi
        have ha := abc_at n hn
        have hl : ("abcdefghijklmnopqrstuvwxyz" : Str).length ≤ lim := by decide +kernel
        have e1 := ixF_str ("abcdefghijklmnopqrstuvwxyz" : Str) (n : Int)
        simp only [hl, if_true, ha, Option.map_some] at e1
        have hc : l.length + (⟨#[97 + n]⟩ : Str).length ≤ 100000 := by
          show l.length + 1 ≤ _
          omega
        refine ⟨_, rfl, rfl, ?_, rfl⟩
        simp [wipeL, e1, hc, lim_eq, nmP, abcP]) (by rw [lim_eq, hlen]; simp; omega)
      have pe : pureL (encL (orderP (a, b) m).1) = true := encL_pure _
      have fin : (c_law_names (K := K)).ex ⟨[some (.ptr 0), some (T.at (.str l)), some (itT m), none], [.own .lst (encS (a, b))]⟩ = some (.rt (.nd .lst ((namesP (a, b) l m).map fun x => T.at (.str x))) ⟨[some (.ptr 0), some (T.at (.str l)), some (itT m), none], [.own .lst (encS (orderP (a, b) m).2)]⟩) := by
        simp only [c_law_names, ret_ex, lc_ev, seqI_ev, call_ev, consA_ev, nilA_ev, var_ev, List.getElem?_cons_succ, List.getElem?_cons_zero, res_ptr, res_at, Option.bind_some, fnR_f, frzs_cons, frzs_nil, frz_at, pS, if_true, so, Option.map_some, resF_val, put_mk, List.set_cons_zero, itSeqF_lst pe]
        rw [show (CG.name (K := K) 3).ws.all [3].contains = true from rfl, if_pos rfl]
        rw [show encL (orderP (a, b) m).1 = (orderP (a, b) m).1.map itT from rfl, lc]
        simp only [List.nil_append, Option.map_some, allocT_f, Option.bind_some]
        unfold namesP
        rw [List.map_map]
        rfl
      show FinR ((c_law_names (K := K)).ex ⟨[some (.ptr 0), some (T.at (.str l)), some (itT m), none], [.own .lst (encS (a, b))]⟩) _
      rw [fin]
      refine ⟨⟨[some (.ptr 0), some (T.at (.str l)), some (itT m), none], [.own .lst (encS (orderP (a, b) m).2)]⟩, ?_, rfl, rfl⟩
      refine frz_nd_pure ?_
      refine pureL_all.mpr fun t ht => ?_
      obtain ⟨x, _, rfl⟩ := List.mem_map.mp ht
      rfl
    · cases h
  · cases h
end
end Z
set_option Elab.async false
set_option linter.all false
set_option maxRecDepth 100000
/-! Z: dicts whose keys are texts; specs by what is encoded. -/
namespace Z
open PySem PySem.Spec PyProof.Rows L2
section
abbrev stT (x : Str) : T := .at (.str x)
abbrev kyS (xs : List Str) : List Key := xs.map Sum.inr
/-- a dict's node: names, what each has -/
abbrev dW (xs : List Str) (f : Str → T) : T := .nd (.dK (kyS xs)) (xs.map f)
abbrev dWc (xs : List Str) (f : Str → T) : Cell := .own (.dK (kyS xs)) (xs.map f)
theorem getD_map {xs : List Str} {f : Str → T} {x : Str} (h : x ∈ xs) : getD' (kyS xs) (xs.map f) (.inr x) = some (f x) := by
  unfold getD'
  induction xs with
  | nil => cases h
  | cons y ys ih =>
    show Option.map (·.2) (List.find? _ ((Sum.inr y, f y) :: (kyS ys).zip (ys.map f))) = _
    rw [List.find?_cons]
    by_cases e : y = x
    · subst e; simp
    · have : decide ((Sum.inr y : Key) = Sum.inr x) = false := decide_eq_false fun q => e (Sum.inr.inj q)
      simp only [this]
      exact ih (List.mem_of_ne_of_mem (fun q => e q.symm) h)
theorem putT_map {xs : List Str} {f : Str → T} {b : Str} {v : T} (h : b ∈ xs) : putT ((kyS xs).zip (xs.map f)) (.inr b) v = xs.map fun x => ((Sum.inr x : Key), if x = b then v else f x) := by
  have e : (kyS xs).zip (xs.map f) = xs.map fun x => ((Sum.inr x : Key), f x) := by
    clear h
    induction xs with
    | nil => rfl
    | cons x xs ih => exact congrArg ((Sum.inr x, f x) :: ·) ih
  rw [e]
  unfold putT
  rw [if_pos]
  · rw [List.map_map]
    refine List.map_congr_left fun x _ => ?_
    show (if (Sum.inr x : Key) = Sum.inr b then _ else _) = _
    by_cases q : x = b
    · rw [if_pos (by rw [q]), if_pos q]
    · rw [if_neg (fun h => q (Sum.inr.inj h)), if_neg q]
  · exact List.any_eq_true.mpr ⟨(.inr b, f b), List.mem_map.mpr ⟨b, h, rfl⟩, by simp⟩
theorem putT_fst {xs : List Str} {f : Str → T} {b : Str} {v : T} (h : b ∈ xs) : (putT ((kyS xs).zip (xs.map f)) (.inr b) v).map (·.1) = kyS xs := by
  rw [putT_map h, List.map_map]; rfl
theorem putT_snd {xs : List Str} {f : Str → T} {b : Str} {v : T} (h : b ∈ xs) : (putT ((kyS xs).zip (xs.map f)) (.inr b) v).map (·.2) = xs.map fun x => if x = b then v else f x := by
  rw [putT_map h, List.map_map]; rfl
theorem putT_add {xs : List Str} {f : Str → T} {b : Str} {v : T} (h : b ∉ xs) : putT ((kyS xs).zip (xs.map f)) (.inr b) v = (kyS xs).zip (xs.map f) ++ [(.inr b, v)] := by
  refine putT_new ?_
  intro q
  obtain ⟨p, hp, e⟩ := List.mem_map.mp q
  have := (List.of_mem_zip (show (p.1, p.2) ∈ _ from hp)).1
  rw [e] at this
  obtain ⟨x, hx, e⟩ := List.mem_map.mp this
  exact h (Sum.inr.inj e ▸ hx)
theorem zip_fst {xs : List Str} {f : Str → T} : ((kyS xs).zip (xs.map f)).map (·.1) = kyS xs := List.map_fst_zip (by simp)
theorem zip_snd {xs : List Str} {f : Str → T} : ((kyS xs).zip (xs.map f)).map (·.2) = xs.map f := List.map_snd_zip (by simp)
theorem keyStrs_ky : ∀ xs : List Str, keyStrs (kyS xs) = some xs
  | [] => rfl
  | x :: xs => by
    show (keyStrs (kyS xs)).map (x :: ·) = _
    rw [keyStrs_ky xs]; rfl
theorem strs_map : ∀ xs : List Str, strs? (xs.map stT) = some xs
  | [] => rfl
  | x :: xs => by
    show (strs? (xs.map stT)).map (x :: ·) = _
    rw [strs_map xs]; rfl
theorem bls_map {α : Type} (p : α → Bool) : ∀ xs : List α, bls? (xs.map fun x => T.at (.bl (p x))) = some (xs.map p)
  | [] => rfl
  | x :: xs => by
    show (bls? (xs.map fun x => T.at (.bl (p x)))).map (p x :: ·) = _
    rw [bls_map p xs]; rfl
theorem ints_mapf {α : Type} (p : α → Int) : ∀ xs : List α, ints? (xs.map fun x => T.at (.int (p x))) = some (xs.map p)
  | [] => rfl
  | x :: xs => by
    show (ints? (xs.map fun x => T.at (.int (p x)))).map (p x :: ·) = _
    rw [ints_mapf p xs]; rfl
theorem pairs_map {f : Str → T} : ∀ xs : List Str, pairsT (xs.map fun x => T.nd .tup [stT x, f x]) = some (xs.map fun x => (Sum.inr x, f x))
  | [] => rfl
  | x :: xs => by
    show (match keyT (stT x), pairsT (xs.map fun x => T.nd .tup [stT x, f x]) with | some k, some r => some ((k, f x) :: r) | _, _ => none) = _
    rw [pairs_map xs]; rfl
theorem merge_map {f : Str → T} {xs : List Str} (hn : xs.Nodup) : mergeT [] (xs.map fun x => ((Sum.inr x : Key), f x)) = xs.map fun x => ((Sum.inr x : Key), f x) := by
  have := mergeT_new (kvs := []) (more := xs.map fun x => ((Sum.inr x : Key), f x)) (by
    rw [List.nil_append, List.map_map]
    exact List.Pairwise.map _ (fun a b h q => h (Sum.inr.inj q)) hn)
  rw [this, List.nil_append]
theorem fst_map {f : Str → T} (xs : List Str) : (xs.map fun x => ((Sum.inr x : Key), f x)).map (·.1) = kyS xs := by rw [List.map_map]; rfl
theorem snd_map {f : Str → T} (xs : List Str) : (xs.map fun x => ((Sum.inr x : Key), f x)).map (·.2) = xs.map f := by rw [List.map_map]; rfl
/-- dict() of pairs -/
theorem dict_pairs {K : PySem.W.Frag} {o : Bool} {f : Str → T} {xs : List Str} {s : S} (hn : xs.Nodup) : (ON.dict (K := K) o).f [.nd .lst (xs.map fun x => T.nd .tup [stT x, f x])] s = some (allocT o s (.dK (kyS xs)) (xs.map f)) := by
  rw [dict_lst, pairs_map]
  show some (allocT o s (.dK ((mergeT [] _).map (·.1))) ((mergeT [] _).map (·.2))) = _
  rw [merge_map hn, fst_map, snd_map]
theorem pure_map {α : Type} {f : α → T} {xs : List α} (h : ∀ x ∈ xs, pureT (f x) = true) : pureL (xs.map f) = true := pureL_all.mpr fun t ht => by
  obtain ⟨x, hx, rfl⟩ := List.mem_map.mp ht
  exact h x hx
section
variable {g : T → S → Option S} {c : S → Option (Bool × S)} {ek e : S → Option (T × S)} {b : S → Option Out}
/-- a comprehension of a dict over names -/
theorem dc_strs (w : List (Option T)) (hp : List Cell) (f : Str → T) {xs : List Str} (hn : xs.Nodup)
    (h : ∀ x ∈ xs, ∃ s1, g (stT x) ⟨w, hp⟩ = some s1 ∧ c s1 = some (true, s1) ∧ ek s1 = some (stT x, s1) ∧ e s1 = some (f x, s1) ∧ s1.hp = hp) (hl : xs.length ≤ lim) :
    dcEv g c ek e w (xs.map stT) [] hp = some (xs.map fun x => (Sum.inr x, f x), hp) := by
  have := dc_fold (g := g) (c := c) (ek := ek) (e := e) w hp (fun t => match t with | .at (.str x) => .inr x | _ => .inl 0) (fun t => match t with | .at (.str x) => f x | _ => t) (xs.map stT) [] (fun t ht => by
    obtain ⟨x, hx, rfl⟩ := List.mem_map.mp ht
    obtain ⟨s1, h1, h2, h3, h4, h5⟩ := h x hx
    exact ⟨s1, stT x, h1, h2, h3, rfl, h4, h5⟩) (by simpa using hl)
  rw [this, List.map_map]
  show some (mergeT [] (xs.map fun x => ((Sum.inr x : Key), f x)), hp) = _
  rw [merge_map hn]
/-- a comprehension of a list over what is encoded -/
theorem lc_over {α : Type} (enc : α → T) (w : List (Option T)) (hp : List Cell) (f : α → T) : ∀ {xs : List α} {acc : List T},
    (∀ x ∈ xs, ∃ s1, g (enc x) ⟨w, hp⟩ = some s1 ∧ c s1 = some (true, s1) ∧ e s1 = some (f x, s1) ∧ s1.hp = hp) → acc.length + xs.length ≤ lim →
    lcEv g c e w (xs.map enc) acc hp = some (acc ++ xs.map f, hp)
  | [], acc, _, _ => by simp [lcEv]
  | x :: xs, acc, h, hl => by
    obtain ⟨s1, h1, h2, h3, h4⟩ := h x List.mem_cons_self
    rw [List.length_cons] at hl
    rw [List.map_cons]
    unfold lcEv
    simp only [h1, h2, h3, h4, Option.bind_some, if_true]
    rw [if_pos (by omega), lc_over enc w hp f (acc := acc ++ [f x]) (fun t ht => h t (List.mem_cons_of_mem _ ht)) (by rw [List.length_append]; simp; omega)]
    simp
theorem lc_overF {α : Type} (enc : α → T) (w : List (Option T)) (hp : List Cell) (p : α → Bool) (f : α → T) : ∀ {xs : List α} {acc : List T},
    (∀ x ∈ xs, ∃ s1, g (enc x) ⟨w, hp⟩ = some s1 ∧ c s1 = some (p x, s1) ∧ e s1 = some (f x, s1) ∧ s1.hp = hp) → acc.length + xs.length ≤ lim →
    lcEv g c e w (xs.map enc) acc hp = some (acc ++ (xs.filter p).map f, hp)
  | [], acc, _, _ => by simp [lcEv]
  | x :: xs, acc, h, hl => by
    obtain ⟨s1, h1, h2, h3, h4⟩ := h x List.mem_cons_self
    rw [List.length_cons] at hl
    rw [List.map_cons]
    unfold lcEv
    cases hp' : p x with
    | true =>
      simp only [h1, h2, h3, h4, hp', Option.bind_some, if_true]
      rw [if_pos (by omega), lc_overF enc w hp p f (acc := acc ++ [f x]) (fun t ht => h t (List.mem_cons_of_mem _ ht)) (by rw [List.length_append]; simp; omega)]
      simp [List.filter_cons, hp']
    | false =>
      simp only [h1, h2, h4, hp', Option.bind_some]
      rw [if_neg (by decide), lc_overF enc w hp p f (acc := acc) (fun t ht => h t (List.mem_cons_of_mem _ ht)) (by omega)]
      simp [List.filter_cons, hp']
/-- .. where what is told by a state changes -/
theorem lc_scanE {α β : Type} (enc : β → T) (w : List (Option T)) (hpf : α → List Cell) (nx : α → β → α × T) (good : α → Prop) : ∀ (ts : List β) (a : α) (acc : List T), good a →
    (∀ t ∈ ts, ∀ a, good a → good (nx a t).1 ∧ ∃ s1 s2, g (enc t) ⟨w, hpf a⟩ = some s1 ∧ c s1 = some (true, s1) ∧ e s1 = some ((nx a t).2, s2) ∧ s2.hp = hpf (nx a t).1) → acc.length + ts.length ≤ lim →
    lcEv g c e w (ts.map enc) acc (hpf a) = some (acc ++ (scan nx ts a).1, hpf (scan nx ts a).2) ∧ good (scan nx ts a).2
  | [], a, acc, ga, _, _ => by simp [lcEv, scan, ga]
  | t :: ts, a, acc, ga, h, hl => by
    obtain ⟨g1, s1, s2, h1, h2, h3, h4⟩ := h t List.mem_cons_self a ga
    rw [List.length_cons] at hl
    have ih := lc_scanE enc w hpf nx good ts (nx a t).1 (acc ++ [(nx a t).2]) g1 (fun t ht => h t (List.mem_cons_of_mem _ ht)) (by rw [List.length_append]; simp; omega)
    rw [List.map_cons]
    unfold lcEv
    simp only [h1, h2, h3, h4, Option.bind_some, if_true]
    rw [if_pos (by omega), ih.1]
    simp only [scan, List.append_assoc, List.singleton_append]
    exact ⟨trivial, ih.2⟩
/-- a loop over what is encoded -/
theorem for_over {α β : Type} (enc : β → T) (st : α → S) (nx : α → β → α) (good : α → Prop) : ∀ (ts : List β) (a : α), good a →
    (∀ t ∈ ts, ∀ a, good a → good (nx a t) ∧ (g (enc t) (st a)).bind b = some (.nx (st (nx a t)))) →
    forEv g b (ts.map enc) (st a) = some (.nx (st (ts.foldl nx a))) ∧ good (ts.foldl nx a)
  | [], a, ga, _ => ⟨rfl, ga⟩
  | t :: ts, a, ga, h => by
    obtain ⟨g1, h1⟩ := h t List.mem_cons_self a ga
    have ih := for_over enc st nx good ts (nx a t) g1 fun t ht => h t (List.mem_cons_of_mem _ ht)
    refine ⟨?_, ih.2⟩
    rw [List.map_cons]
    unfold forEv
    obtain ⟨s1, e1, e2⟩ := Option.bind_eq_some_iff.mp h1
    simp only [e1, Option.bind_some, e2]
    exact ih.1
/-- a loop that goes through, by what holds ahead of each turn -/
theorem for_inv : ∀ (ts : List T) (P : Nat → S → Prop) (s : S), P 0 s → (∀ i t s, ts[i]? = some t → P i s → ∃ s', (g t s).bind b = some (.nx s') ∧ P (i + 1) s') → ∃ s', forEv g b ts s = some (.nx s') ∧ P ts.length s'
  | [], P, s, h, _ => ⟨s, rfl, h⟩
  | t :: ts, P, s, h, hb => by
    obtain ⟨s', h1, h2⟩ := hb 0 t s rfl h
    obtain ⟨s2, h3, h4⟩ := for_inv ts (fun i => P (i + 1)) s' h2 fun i t s e => hb (i + 1) t s e
    refine ⟨s2, ?_, h4⟩
    unfold forEv
    obtain ⟨s1, e1, e2⟩ := Option.bind_eq_some_iff.mp h1
    simp only [e1, Option.bind_some, e2]
    exact h3
end
/-! specs told by what is encoded -/
open Classical in
noncomputable def spOf {α : Type} (enc : α → List T) (good : α → Prop) (out : α → Res) : List T → Option Res := fun ts => if h : ∃ a, ts = enc a ∧ good a then some (out h.choose) else none
theorem spOf_eq {α : Type} {enc : α → List T} {good : α → Prop} {out : α → Res} (inj : ∀ a b, enc a = enc b → a = b) {a : α} (h : good a) : spOf enc good out (enc a) = some (out a) := by
  have q : ∃ b, enc a = enc b ∧ good b := ⟨a, rfl, h⟩
  unfold spOf
  rw [dif_pos q, ← inj _ _ q.choose_spec.1]
theorem spOf_run {α : Type} {enc : α → List T} {good : α → Prop} {out : α → Res} {ex : List T → Option Out} (h : ∀ a, good a → FinV (ex (enc a)) (out a)) : ∀ ts r, spOf enc good out ts = some r → pureL ts = true → FinV (ex ts) r := by
  intro ts r e _
  unfold spOf at e
  split at e
  · next q =>
    cases e
    have h1 := q.choose_spec
    have h2 := h _ h1.2
    rw [← h1.1] at h2
    exact h2
  · cases e
open Classical in
/-- .. of a def that writes its first -/
noncomputable def spOfR {α : Type} (enc : α → Kd × List T × List T) (good : α → Prop) (out : α → Res × Kd × List T) : Kd → List T → List T → Option (Res × Kd × List T) := fun k us ts => if h : ∃ a, (k, us, ts) = enc a ∧ good a then some (out h.choose) else none
theorem spOfR_eq {α : Type} {enc : α → Kd × List T × List T} {good : α → Prop} {out : α → Res × Kd × List T} (inj : ∀ a b, enc a = enc b → a = b) {a : α} (h : good a) : spOfR enc good out (enc a).1 (enc a).2.1 (enc a).2.2 = some (out a) := by
  have q : ∃ b, ((enc a).1, (enc a).2.1, (enc a).2.2) = enc b ∧ good b := ⟨a, rfl, h⟩
  unfold spOfR
  rw [dif_pos q, ← inj _ _ q.choose_spec.1]
theorem spOfR_run {α : Type} {enc : α → Kd × List T × List T} {good : α → Prop} {out : α → Res × Kd × List T} {ex : Kd → List T → List T → Option Out} (h : ∀ a, good a → FinR (ex (enc a).1 (enc a).2.1 (enc a).2.2) (out a)) :
    ∀ k us ts r, spOfR enc good out k us ts = some r → pureL us = true → pureL ts = true → FinR (ex k us ts) r := by
  intro k us ts r e _ _
  unfold spOfR at e
  split at e
  · next q =>
    cases e
    have h1 := q.choose_spec
    have h2 := h _ h1.2
    rw [← h1.1] at h2
    exact h2
  · cases e
end
end Z
set_option Elab.async false
set_option linter.all false
/-! K42, plain: coins one by one to the greatest average. -/
namespace DH
section
variable {α : Type} [DecidableEq α]
def updF (c : α → Int) (b : α) (v : Int) : α → Int := fun x => if x = b then v else c x
def ltV (v c : α → Int) (a b : α) : Bool := decide (v a * (c b + 1) < v b * (c a + 1))
def pick (lt : α → α → Bool) : List α → Option α
  | [] => none
  | x :: xs => some (xs.foldl (fun b y => if lt b y then y else b) x)
def stepV (lt : (α → Int) → α → α → Bool) (xs : List α) (c : α → Int) : α → Int := match pick (lt c) xs with
  | none => c
  | some b => updF c b (c b + 1)
def iterV (lt : (α → Int) → α → α → Bool) (xs : List α) : Nat → α → Int
  | 0 => fun _ => 0
  | n + 1 => stepV lt xs (iterV lt xs n)
theorem updF_same {c : α → Int} {b : α} {v : Int} : updF c b v b = v := if_pos rfl
theorem updF_ne {c : α → Int} {b x : α} {v : Int} (h : x ≠ b) : updF c b v x = c x := if_neg h
def FirstMax (lt : α → α → Bool) (xs : List α) (b : α) : Prop := ∃ pre post, xs = pre ++ b :: post ∧ (∀ y ∈ pre, lt y b = true) ∧ ∀ y ∈ post, lt b y = false
theorem fold_stay {lt : α → α → Bool} {b : α} : ∀ {post : List α}, (∀ y ∈ post, lt b y = false) → post.foldl (fun b y => if lt b y then y else b) b = b
  | [], _ => rfl
  | y :: ys, h => by
    rw [List.foldl_cons, if_neg (by rw [h y List.mem_cons_self]; decide)]
    exact fold_stay fun z hz => h z (List.mem_cons_of_mem _ hz)
theorem fold_mem {lt : α → α → Bool} : ∀ {l : List α} {x : α}, l.foldl (fun b y => if lt b y then y else b) x ∈ x :: l
  | [], x => List.mem_cons_self
  | y :: ys, x => by
    rw [List.foldl_cons]
    have := fold_mem (lt := lt) (l := ys) (x := if lt x y then y else x)
    rcases List.mem_cons.mp this with h | h
    · rw [h]
      split
      · exact List.mem_cons_of_mem _ List.mem_cons_self
      · exact List.mem_cons_self
    · exact List.mem_cons_of_mem _ (List.mem_cons_of_mem _ h)
theorem pick_of {lt : α → α → Bool} {xs : List α} {b : α} (h : FirstMax lt xs b) : pick lt xs = some b := by
  obtain ⟨pre, post, rfl, h1, h2⟩ := h
  cases pre with
  | nil => exact congrArg some (fold_stay h2)
  | cons x pre =>
    show some ((pre ++ b :: post).foldl _ x) = _
    rw [List.foldl_append, List.foldl_cons, if_pos (h1 _ fold_mem), fold_stay h2]
theorem pick_mem {lt : α → α → Bool} {xs : List α} {b : α} (h : pick lt xs = some b) : b ∈ xs := by
  cases xs with
  | nil => cases h
  | cons x xs => cases h; exact fold_mem
theorem fold_first {lt : α → α → Bool} (tr : ∀ a b c, lt a b = true → lt b c = true → lt a c = true) (ng : ∀ b z y, lt b z = false → lt b y = true → lt z y = true) :
    ∀ (l zs : List α) (b : α), FirstMax lt zs b → FirstMax lt (zs ++ l) (l.foldl (fun b y => if lt b y then y else b) b)
  | [], zs, b, h => by rw [List.append_nil]; exact h
  | y :: l, zs, b, h => by
    rw [List.foldl_cons, show zs ++ y :: l = (zs ++ [y]) ++ l by simp]
    refine fold_first tr ng l (zs ++ [y]) _ ?_
    obtain ⟨pre, post, rfl, h1, h2⟩ := h
    split
    · next hy =>
      refine ⟨pre ++ b :: post, [], rfl, fun z hz => ?_, fun z hz => nomatch hz⟩
      rcases List.mem_append.mp hz with hz | hz
      · exact tr _ _ _ (h1 z hz) hy
      · rcases List.mem_cons.mp hz with rfl | hz
        · exact hy
        · exact ng _ _ _ (h2 z hz) hy
    · next hy =>
      refine ⟨pre, post ++ [y], by simp, h1, fun z hz => ?_⟩
      rcases List.mem_append.mp hz with hz | hz
      · exact h2 z hz
      · rw [List.mem_singleton.mp hz]
        exact Bool.eq_false_iff.mpr hy
theorem pick_congr {lt lt' : α → α → Bool} : ∀ {xs : List α}, (∀ a ∈ xs, ∀ b ∈ xs, lt a b = lt' a b) → pick lt xs = pick lt' xs := by
  intro xs h
  cases xs with
  | nil => rfl
  | cons x xs =>
    refine congrArg some ?_
    have : ∀ (l : List α) (z : α), z ∈ x :: xs → (∀ y ∈ l, y ∈ x :: xs) → l.foldl (fun b y => if lt b y then y else b) z = l.foldl (fun b y => if lt' b y then y else b) z := by
      intro l
      induction l with
      | nil => intro _ _ _; rfl
      | cons y l ih =>
        intro z hz hl
        have hy := hl y List.mem_cons_self
        rw [List.foldl_cons, List.foldl_cons, h z hz y hy]
        refine ih _ ?_ fun w hw => hl w (List.mem_cons_of_mem _ hw)
        split
        · exact hy
        · exact hz
    exact this xs x List.mem_cons_self fun y hy => List.mem_cons_of_mem _ hy
/-! whole numbers as weights -/
theorem ltV_ng {v c : α → Int} (hc : ∀ x, 0 ≤ c x) {b z y : α} (h1 : v z * (c b + 1) ≤ v b * (c z + 1)) (h2 : v b * (c y + 1) < v y * (c b + 1)) : v z * (c y + 1) < v y * (c z + 1) := by
  have hb : 0 < c b + 1 := by have := hc b; omega
  have hz : 0 < c z + 1 := by have := hc z; omega
  have hy : 0 < c y + 1 := by have := hc y; omega
  have e1 := Int.mul_le_mul_of_nonneg_right h1 (Int.le_of_lt hy)
  have e2 := Int.mul_lt_mul_of_pos_right h2 hz
  have e3 : v b * (c z + 1) * (c y + 1) = v b * (c y + 1) * (c z + 1) := by rw [Int.mul_assoc, Int.mul_comm (c z + 1), ← Int.mul_assoc]
  have e4 : v z * (c b + 1) * (c y + 1) < v y * (c b + 1) * (c z + 1) := Int.lt_of_le_of_lt e1 (e3 ▸ e2)
  rw [show v z * (c b + 1) * (c y + 1) = (v z * (c y + 1)) * (c b + 1) by rw [Int.mul_assoc, Int.mul_comm (c b + 1), ← Int.mul_assoc], show v y * (c b + 1) * (c z + 1) = (v y * (c z + 1)) * (c b + 1) by rw [Int.mul_assoc, Int.mul_comm (c b + 1), ← Int.mul_assoc]] at e4
  exact Int.lt_of_mul_lt_mul_right e4 (Int.le_of_lt hb)
theorem ltV_t {v c : α → Int} {a b : α} (h : v a * (c b + 1) < v b * (c a + 1)) : ltV v c a b = true := decide_eq_true h
theorem ltV_f {v c : α → Int} {a b : α} (h : ¬ v a * (c b + 1) < v b * (c a + 1)) : ltV v c a b = false := decide_eq_false h
theorem divmod_lt {n L : Nat} (h : n % L + 1 < L) : (n + 1) / L = n / L ∧ (n + 1) % L = n % L + 1 := by
  have e : n + 1 = L * (n / L) + (n % L + 1) := by have := Nat.div_add_mod n L; omega
  constructor
  · rw [e, Nat.mul_add_div (by omega), Nat.div_eq_of_lt h, Nat.add_zero]
  · rw [e, Nat.mul_add_mod, Nat.mod_eq_of_lt h]
theorem divmod_eq {n L : Nat} (h : n % L + 1 = L) : (n + 1) / L = n / L + 1 ∧ (n + 1) % L = 0 := by
  have e : n + 1 = L * (n / L + 1) := by have := Nat.div_add_mod n L; rw [Nat.mul_add]; omega
  constructor
  · rw [e, Nat.mul_div_cancel_left _ (by omega)]
  · rw [e, Nat.mul_mod_right]
theorem pick_first {v c : α → Int} (hc : ∀ x, 0 ≤ c x) {xs : List α} {b : α} (h : pick (ltV v c) xs = some b) : FirstMax (ltV v c) xs b := by
  cases xs with
  | nil => cases h
  | cons x xs =>
    cases h
    refine fold_first (fun a b d h1 h2 => ?_) (fun b z y h1 h2 => ?_) xs [x] x ⟨[], [], rfl, (fun y h => nomatch h), (fun y h => nomatch h)⟩
    · exact decide_eq_true (ltV_ng hc (Int.le_of_lt (of_decide_eq_true h1)) (of_decide_eq_true h2))
    · exact decide_eq_true (ltV_ng hc (Int.not_lt.mp (of_decide_eq_false h1)) (of_decide_eq_true h2))
theorem FirstMax.max {v c : α → Int} {xs : List α} {b : α} (h : FirstMax (ltV v c) xs b) : ∀ y ∈ xs, v y * (c b + 1) ≤ v b * (c y + 1) := by
  obtain ⟨pre, post, rfl, h1, h2⟩ := h
  intro y hy
  rcases List.mem_append.mp hy with hy | hy
  · exact Int.le_of_lt (of_decide_eq_true (h1 y hy))
  · rcases List.mem_cons.mp hy with rfl | hy
    · exact Int.le_refl _
    · exact Int.not_lt.mp (of_decide_eq_false (h2 y hy))
theorem pick_some {lt : α → α → Bool} {xs : List α} (h : xs ≠ []) : ∃ b, pick lt xs = some b := by
  cases xs with
  | nil => exact (h rfl).elim
  | cons x xs => exact ⟨_, rfl⟩
theorem step_some {lt : (α → Int) → α → α → Bool} {xs : List α} {c : α → Int} {b : α} (h : pick (lt c) xs = some b) : stepV lt xs c = updF c b (c b + 1) := by
  unfold stepV
  rw [h]
theorem step_nonneg {lt : (α → Int) → α → α → Bool} {xs : List α} {c : α → Int} (hc : ∀ x, 0 ≤ c x) : ∀ x, 0 ≤ stepV lt xs c x := by
  intro x
  cases hp : pick (lt c) xs with
  | none =>
    rw [show stepV lt xs c = c by unfold stepV; rw [hp]]
    exact hc x
  | some b =>
    rw [step_some hp]
    unfold updF
    split
    · have := hc b; omega
    · exact hc x
theorem iter_nonneg {lt : (α → Int) → α → α → Bool} {xs : List α} : ∀ n x, 0 ≤ iterV lt xs n x
  | 0, _ => Int.le_refl _
  | n + 1, x => step_nonneg (iter_nonneg n) x
theorem iter_le {lt : (α → Int) → α → α → Bool} {xs : List α} : ∀ n x, iterV lt xs n x ≤ n
  | 0, _ => Int.le_refl _
  | n + 1, x => by
    have ih := iter_le (lt := lt) (xs := xs) n
    show stepV lt xs (iterV lt xs n) x ≤ _
    cases hp : pick (lt (iterV lt xs n)) xs with
    | none =>
      rw [show stepV lt xs (iterV lt xs n) = iterV lt xs n by unfold stepV; rw [hp]]
      have := ih x; omega
    | some b =>
      rw [step_some hp]
      unfold updF
      split
      · have := ih b; omega
      · have := ih x; omega
theorem iter_congr {lt lt' : (α → Int) → α → α → Bool} {xs : List α} (h : ∀ c : α → Int, (∀ x, 0 ≤ c x) → ∀ a ∈ xs, ∀ b ∈ xs, lt c a b = lt' c a b) : ∀ n, iterV lt xs n = iterV lt' xs n
  | 0 => rfl
  | n + 1 => by
    show stepV lt xs (iterV lt xs n) = stepV lt' xs (iterV lt' xs n)
    rw [iter_congr h n]
    unfold stepV
    rw [pick_congr (h _ (iter_nonneg n))]
/-! sums -/
theorem sum_upd {c : α → Int} {b : α} : ∀ {xs : List α}, xs.Nodup → b ∈ xs → (xs.map (updF c b (c b + 1))).sum = (xs.map c).sum + 1
  | x :: xs, hn, hb => by
    rw [List.nodup_cons] at hn
    rw [List.map_cons, List.map_cons, List.sum_cons, List.sum_cons]
    rcases List.mem_cons.mp hb with rfl | hb
    · rw [updF_same, List.map_congr_left (g := c) fun y hy => updF_ne (fun e => hn.1 (by rw [← e]; exact hy))]
      omega
    · rw [sum_upd hn.2 hb, updF_ne fun (e : x = b) => hn.1 (by rw [e]; exact hb)]
      omega
theorem sum_out {c : α → Int} {b : α} {v : Int} {xs : List α} (hb : b ∉ xs) : (xs.map (updF c b v)).sum = (xs.map c).sum := by
  rw [List.map_congr_left (g := c) fun y hy => updF_ne (fun (e : y = b) => hb (by rw [← e]; exact hy))]
theorem sum_le {c d : α → Int} : ∀ {xs : List α}, (∀ x ∈ xs, c x ≤ d x) → (xs.map c).sum ≤ (xs.map d).sum
  | [], _ => Int.le_refl _
  | x :: xs, h => by
    rw [List.map_cons, List.map_cons, List.sum_cons, List.sum_cons]
    have := h x List.mem_cons_self
    have := sum_le fun y hy => h y (List.mem_cons_of_mem _ hy)
    omega
theorem sum_eq {c d : α → Int} : ∀ {xs : List α}, (∀ x ∈ xs, c x ≤ d x) → (xs.map c).sum = (xs.map d).sum → ∀ x ∈ xs, c x = d x
  | x :: xs, h, e, y, hy => by
    rw [List.map_cons, List.map_cons, List.sum_cons, List.sum_cons] at e
    have h1 := h x List.mem_cons_self
    have h2 := sum_le fun y hy => h y (List.mem_cons_of_mem _ hy)
    rcases List.mem_cons.mp hy with rfl | hy
    · omega
    · exact sum_eq (fun y hy => h y (List.mem_cons_of_mem _ hy)) (by omega) y hy
theorem exists_lt {c d : α → Int} {xs : List α} (h : (xs.map c).sum < (xs.map d).sum) : ∃ x ∈ xs, c x < d x := by
  apply Classical.byContradiction
  intro q
  have : ∀ x ∈ xs, d x ≤ c x := fun x hx => Int.not_lt.mp fun hl => q ⟨x, hx, hl⟩
  have := sum_le this
  omega
theorem sum_mul {v : α → Int} {M : Int} : ∀ {xs : List α}, (xs.map fun x => M * v x).sum = M * (xs.map v).sum
  | [] => by simp
  | x :: xs => by rw [List.map_cons, List.map_cons, List.sum_cons, List.sum_cons, sum_mul, Int.mul_add]
/-- after M times all of the weights: M times each -/
theorem whole {v : α → Int} {M : Int} {xs : List α} (hn : xs.Nodup) (hv : ∀ x ∈ xs, 0 ≤ v x) (hM : 0 ≤ M) : ∀ n : Nat, (n : Int) ≤ M * (xs.map v).sum →
    (xs.map (iterV (ltV v) xs n)).sum = n ∧ ∀ x ∈ xs, iterV (ltV v) xs n x ≤ M * v x
  | 0, _ => ⟨by induction xs with
      | nil => rfl
      | cons x xs ih => simp [iterV, List.map_const'], fun x hx => Int.mul_nonneg hM (hv x hx)⟩
  | n + 1, h => by
    obtain ⟨i1, i2⟩ := whole hn hv hM n (by omega)
    have hl : (xs.map (iterV (ltV v) xs n)).sum < (xs.map fun x => M * v x).sum := by rw [sum_mul, i1]; omega
    obtain ⟨j, hj, lj⟩ := exists_lt hl
    obtain ⟨b, hb⟩ := pick_some (lt := ltV v (iterV (ltV v) xs n)) (xs := xs) (fun e => by rw [e] at hj; cases hj)
    have bm := pick_mem hb
    have mx := (pick_first (iter_nonneg n) hb).max j hj
    show (xs.map (stepV (ltV v) xs (iterV (ltV v) xs n))).sum = _ ∧ ∀ x ∈ xs, stepV (ltV v) xs (iterV (ltV v) xs n) x ≤ _
    rw [step_some hb]
    refine ⟨by rw [sum_upd hn bm, i1]; omega, fun x hx => ?_⟩
    by_cases e : x = b
    · subst e
      rw [updF_same]
      have cj := iter_nonneg (lt := ltV v) (xs := xs) n j
      have vj : 0 < v j := by
        have := hv j hj
        rcases Int.lt_or_eq_of_le this with q | q
        · exact q
        · rw [← q, Int.mul_zero] at lj; omega
      have m2 := Int.mul_le_mul_of_nonneg_left (show iterV (ltV v) xs n j + 1 ≤ M * v j by omega) (hv x hx)
      have m3 : v j * (iterV (ltV v) xs n x + 1) ≤ v j * (M * v x) := by
        refine Int.le_trans mx (Int.le_trans m2 (Int.le_of_eq ?_))
        rw [← Int.mul_assoc, Int.mul_comm, Int.mul_comm (v x)]
      exact Int.le_of_mul_le_mul_left m3 vj
    · rw [updF_ne e]; exact i2 x hx
theorem whole_eq {v : α → Int} {M : Int} {xs : List α} (hn : xs.Nodup) (hv : ∀ x ∈ xs, 0 ≤ v x) (hM : 0 ≤ M) {n : Nat} (h : (n : Int) = M * (xs.map v).sum) : ∀ x ∈ xs, iterV (ltV v) xs n x = M * v x := by
  obtain ⟨h1, h2⟩ := whole hn hv hM n (by omega)
  exact sum_eq h2 (by rw [h1, sum_mul, h])
/-- the first of the names, by themselves -/
theorem part {v : α → Int} {xs : List α} (hn : xs.Nodup) (m : Nat) : ∀ n : Nat, ∃ k : Nat, (k : Int) = ((xs.take m).map (iterV (ltV v) xs n)).sum ∧ ∀ x ∈ xs.take m, iterV (ltV v) (xs.take m) k x = iterV (ltV v) xs n x
  | 0 => ⟨0, by
      have : ∀ ys : List α, (ys.map (iterV (ltV v) xs 0)).sum = 0 := by
        intro ys
        induction ys with
        | nil => rfl
        | cons y ys ih => rw [List.map_cons, List.sum_cons, ih]; rfl
      rw [this]; rfl, fun x _ => rfl⟩
  | n + 1 => by
    obtain ⟨k, h1, h2⟩ := part (v := v) hn m n
    show ∃ k : Nat, (k : Int) = ((xs.take m).map (stepV (ltV v) xs (iterV (ltV v) xs n))).sum ∧ ∀ x ∈ xs.take m, iterV (ltV v) (xs.take m) k x = stepV (ltV v) xs (iterV (ltV v) xs n) x
    by_cases hx : xs = []
    · subst hx
      exact ⟨k, h1, fun x hx => by simp at hx⟩
    obtain ⟨b, hb⟩ := pick_some (lt := ltV v (iterV (ltV v) xs n)) hx
    rw [step_some hb]
    by_cases hm : b ∈ xs.take m
    · refine ⟨k + 1, ?_, ?_⟩
      · rw [sum_upd (hn.sublist (List.take_sublist _ _)) hm, ← h1]; rfl
      · have fm := pick_first (iter_nonneg n) hb
        obtain ⟨pre, post, e, f1, f2⟩ := fm
        have hp : pre.length < m := by
          apply Classical.byContradiction
          intro q
          rw [e, List.take_append_of_le_length (by omega)] at hm
          have hn2 := hn
          rw [e, List.nodup_append] at hn2
          exact hn2.2.2 b (List.mem_of_mem_take hm) b List.mem_cons_self rfl
        have et : xs.take m = pre ++ b :: post.take (m - pre.length - 1) := by
          rw [e, List.take_append, List.take_of_length_le (by omega), show m - pre.length = (m - pre.length - 1) + 1 by omega, List.take_succ_cons]
          simp
        have fm2 : FirstMax (ltV v (iterV (ltV v) (xs.take m) k)) (xs.take m) b := by
          refine ⟨pre, post.take (m - pre.length - 1), et, fun y hy => ?_, fun y hy => ?_⟩
          · have hy2 : y ∈ xs.take m := by rw [et]; exact List.mem_append_left _ hy
            have := f1 y hy
            show decide (v y * (iterV (ltV v) (xs.take m) k b + 1) < v b * (iterV (ltV v) (xs.take m) k y + 1)) = _
            rw [h2 y hy2, h2 b hm]
            exact this
          · have hy2 : y ∈ xs.take m := by rw [et]; exact List.mem_append_right _ (List.mem_cons_of_mem _ hy)
            have := f2 y (List.mem_of_mem_take hy)
            show decide (v b * (iterV (ltV v) (xs.take m) k y + 1) < v y * (iterV (ltV v) (xs.take m) k b + 1)) = _
            rw [h2 y hy2, h2 b hm]
            exact this
        intro x hx
        show stepV (ltV v) (xs.take m) (iterV (ltV v) (xs.take m) k) x = _
        rw [step_some (pick_of fm2)]
        by_cases e : x = b
        · subst e
          rw [updF_same, updF_same, h2 x hx]
        · rw [updF_ne e, updF_ne e, h2 x hx]
    · refine ⟨k, by rw [sum_out hm, ← h1], fun x hx => ?_⟩
      rw [updF_ne (fun (e : x = b) => hm (by rw [← e]; exact hx))]
      exact h2 x hx
/-- all alike -/
theorem even {v : α → Int} {p : Int} {xs : List α} (hp : 0 < p) (hn : xs.Nodup) (hl : xs ≠ []) (hv : ∀ x ∈ xs, v x = p) : ∀ (n i : Nat) (h : i < xs.length), iterV (ltV v) xs n xs[i] = (n / xs.length : Nat) + if i < n % xs.length then 1 else 0
  | 0, i, h => by simp [iterV]
  | n + 1, i, h => by
    have ih := even hp hn hl hv n
    have hL : 0 < xs.length := by omega
    have hr : n % xs.length < xs.length := Nat.mod_lt _ hL
    have fm : FirstMax (ltV v (iterV (ltV v) xs n)) xs xs[n % xs.length] := by
      refine ⟨xs.take (n % xs.length), xs.drop (n % xs.length + 1), ?_, fun y hy => ?_, fun y hy => ?_⟩
      · rw [← List.drop_eq_getElem_cons hr, List.take_append_drop]
      · obtain ⟨j, hj, rfl⟩ := List.mem_iff_getElem.mp hy
        rw [List.length_take] at hj
        have hj2 : j < n % xs.length := by omega
        rw [List.getElem_take]
        refine ltV_t ?_
        rw [hv _ (List.getElem_mem _), hv _ (List.getElem_mem _), ih, ih, if_neg (Nat.lt_irrefl _), if_pos hj2]
        exact Int.mul_lt_mul_of_pos_left (by omega) hp
      · obtain ⟨j, hj, rfl⟩ := List.mem_iff_getElem.mp hy
        rw [List.length_drop] at hj
        rw [List.getElem_drop]
        refine ltV_f ?_
        rw [hv _ (List.getElem_mem _), hv _ (List.getElem_mem _), ih, ih, if_neg (Nat.lt_irrefl _), if_neg (by omega)]
        exact Int.lt_irrefl _
    show stepV (ltV v) xs (iterV (ltV v) xs n) xs[i] = _
    rw [step_some (pick_of fm)]
    have qq : n % xs.length + 1 < xs.length ∨ n % xs.length + 1 = xs.length := by omega
    by_cases e : i = n % xs.length
    · subst e
      rw [updF_same, ih, if_neg (Nat.lt_irrefl _)]
      rcases qq with q | q
      · rw [(divmod_lt q).1, (divmod_lt q).2, if_pos (by omega)]
        omega
      · rw [(divmod_eq q).1, (divmod_eq q).2, if_neg (by omega)]
        omega
    · have hne : xs[i] ≠ xs[n % xs.length] := fun h => e ((List.getElem_inj hn).mp h)
      rw [updF_ne hne, ih]
      rcases qq with q | q
      · rw [(divmod_lt q).1, (divmod_lt q).2]
        by_cases q4 : i < n % xs.length
        · rw [if_pos q4, if_pos (by omega)]
        · rw [if_neg q4, if_neg (by omega)]
      · rw [(divmod_eq q).1, (divmod_eq q).2, if_pos (by omega), if_neg (by omega)]
        omega
end
end DH
set_option Elab.async false
set_option linter.all false
set_option maxRecDepth 100000
set_option exponentiation.threshold 400
/-! K42: the exact numbers, the coins. -/
namespace K42
open PySem PySem.Spec PyProof.Rows L2 Z
def topS (i : Nat) : Stmt := PySem.Challenge.pw_zonehouse_k42_whole_coins_by_whole_weigh.main.body.getD i (.Pass ⟨0, 0, 0, 0⟩)
section
variable {P : Program} {w : World} {K : PySem.W.Frag} {mg : Str → Option Value} {base : Heap}
abbrev Fr := Int × Int
def encF (a : Fr) : T := .nd .tup [.at (.int a.1), .at (.int a.2)]
def fgcd (p q : Int) : Int := if 0 < q then igcd p q else -igcd p q
def fracP (p q : Int) : Fr := (p.fdiv (fgcd p q), q.fdiv (fgcd p q))
structure Fk (n : Nat) (a : Fr) : Prop where
  p0 : 0 ≤ a.1
  p1 : Bt a.1 n
  q0 : 0 < a.2
  q1 : Bt a.2 n
open Classical in
noncomputable def sp_frac : List T → Option Res
  | [.at (.int p), .at (.int q)] => if Fk 200 (p, q) then some (.val (encF (fracP p q))) else none
  | _ => none
open Classical in
noncomputable def sp_mul : List T → Option Res
  | [.nd .tup [.at (.int a), .at (.int b)], .nd .tup [.at (.int c), .at (.int d)]] => if Fk 100 (a, b) ∧ Fk 100 (c, d) then some (.val (encF (fracP (a * c) (b * d)))) else none
  | _ => none
def sp_signum : List T → Option Res
  | [.nd .tup [.at (.int a), .at (.int _)]] => some (.val (.at (.int (if a = 0 then 0 else if 0 < a then 1 else -1))))
  | _ => none
open Classical in
noncomputable def sp_smaller : List T → Option Res
  | [.nd .tup [.at (.int a), .at (.int b)], .nd .tup [.at (.int c), .at (.int d)]] => if Fk 100 (a, b) ∧ Fk 100 (c, d) then some (.val (.at (.bl (decide (a * d < c * b))))) else none
  | _ => none
theorem igcd_pos {p q : Int} (h : 0 < q) : 0 < igcd p q := by
  unfold igcd
  have : 0 < Nat.gcd p.natAbs q.natAbs := Nat.gcd_pos_of_pos_right _ (by omega)
  omega
theorem igcd_le {p q : Int} (h : 0 < q) : igcd p q ≤ q := by
  unfold igcd
  have := Nat.gcd_le_right p.natAbs (show 0 < q.natAbs by omega)
  omega
/-- a stands for p / q -/
structure Eqv (a : Fr) (p q : Int) : Prop where
  pos : 0 < a.2
  eq : a.1 * q = p * a.2
theorem fracP_ok {n : Nat} {p q : Int} (h : Fk n (p, q)) : Fk n (fracP p q) ∧ Eqv (fracP p q) p q := by
  have hq : 0 < q := h.q0
  have hp : 0 ≤ p := h.p0
  have g0 := igcd_pos (p := p) hq
  have d1 : igcd p q ∣ p := Int.ofNat_dvd_left.mpr (Nat.gcd_dvd_left _ _)
  have d2 : igcd p q ∣ q := Int.ofNat_dvd_left.mpr (Nat.gcd_dvd_right _ _)
  have ef : fgcd p q = igcd p q := if_pos hq
  obtain ⟨a, ha⟩ := d1
  obtain ⟨b, hb⟩ := d2
  have e1 : p.fdiv (igcd p q) = a := by
    rw [Int.fdiv_eq_ediv_of_nonneg _ (by omega)]
    exact Int.ediv_eq_of_eq_mul_right (by omega) ha
  have e2 : q.fdiv (igcd p q) = b := by
    rw [Int.fdiv_eq_ediv_of_nonneg _ (by omega)]
    exact Int.ediv_eq_of_eq_mul_right (by omega) hb
  have b0 : 0 < b := by
    apply Classical.byContradiction
    intro hh
    have := Int.mul_le_mul_of_nonneg_left (show b ≤ 0 by omega) (Int.le_of_lt g0)
    omega
  have a0 : 0 ≤ a := by
    apply Classical.byContradiction
    intro hh
    have := Int.mul_lt_mul_of_pos_left (show a < 0 by omega) g0
    omega
  have al : a ≤ p := by
    have := Int.mul_le_mul_of_nonneg_right (show 1 ≤ igcd p q by omega) a0
    omega
  have bl : b ≤ q := by
    have := Int.mul_le_mul_of_nonneg_right (show 1 ≤ igcd p q by omega) (Int.le_of_lt b0)
    omega
  have ee : fracP p q = (a, b) := by unfold fracP; rw [ef, e1, e2]
  rw [ee]
  refine ⟨⟨a0, Bt.le a0 al h.p1, b0, Bt.le (Int.le_of_lt b0) bl h.q1⟩, b0, ?_⟩
  show a * q = p * b
  generalize igcd p q = g at *
  rw [ha, hb]
  rw [Int.mul_assoc, Int.mul_left_comm]
theorem Fk.mul {n m : Nat} {a b c d : Int} (h : Fk n (a, b)) (h' : Fk m (c, d)) : Fk (n + m) (a * c, b * d) := ⟨Int.mul_nonneg h.p0 h'.p0, h.p1.mul h'.p1, Int.mul_pos h.q0 h'.q0, h.q1.mul h'.q1⟩
theorem Fk.mono {n m : Nat} {a : Fr} (h : Fk n a) (hn : n ≤ m) : Fk m a := ⟨h.p0, h.p1.mono hn, h.q0, h.q1.mono hn⟩
/-- the module's UNIT -/
def g_UNIT (a : Addr) (h : ∀ F, SqT K F a [.int 1, .int 1]) : CE K := CE.glob (fun v => v = .ref a) (.nd .tup [.at (.int 1), .at (.int 1)]) (fun v e ρ N F => e ▸ TR.ndL (k := .tup) (h F) (.cons (.at rfl) (.cons (.at rfl) .nil))) ⟨_, rfl⟩
/-! ### frac -/
abbrev st_frac : Stmt := topS 3
abbrev N_frac : List Str := ["p", "q", "common"]
abbrev P_frac : List Str := ["p", "q"]
theorem sc_frac : FnScope N_frac P_frac (defScope st_frac) := ⟨rfl, rfl, rfl, by decide +kernel, rfl, by decide +kernel, by decide +kernel⟩
noncomputable def c_frac : CS K :=
    (CS.seq (CS.set 2 (CE.ifx (CT.ofE (CE.op2 O2.gt (CE.var 1) (CE.int 0))) (CE.call ON.gcd (CA.cons (CE.var 0) (CA.cons (CE.var 1) CA.nil))) (CE.op1 O1.neg (CE.call ON.gcd (CA.cons (CE.var 0) (CA.cons (CE.var 1) CA.nil))))))
    (CS.ret (CE.tup (CA.cons (CE.op2 O2.fdiv (CE.var 0) (CE.var 2)) (CA.cons (CE.op2 O2.fdiv (CE.var 1) (CE.var 2)) CA.nil)))))
set_option maxHeartbeats 4000000 in
theorem d_frac {k : Nat} {f : Addr} (m_gcd : mg "gcd" = some (.builtin "math.gcd")) : Deriv P w K mg base N_frac "frac" st_frac f k (c_frac) := fun cdv A outer s H E hr => by
  apply pss_to
  · exact (pss_cons (ps_set (i := 2) sc_frac.nd rfl (.inl rfl) (pe_ifExp (pt_cmpB (oK (fun K => (O2.gt (K := K)).r) (K := K) rfl o_gt) (pv 1) pe_int (nomark _)) (pe_callBfun cr_gcd (by rfl) m_gcd (pa_cons (pv 0) (pa_cons (pv 1) pa_nil))) (pe_un (uK (fun K => (O1.neg (K := K)).r) (K := K) rfl o_neg) (pe_callBfun cr_gcd (by rfl) m_gcd (pa_cons (pv 0) (pa_cons (pv 1) pa_nil))))))
    (pss_one (ps_ret (pe_tup (pa_cons (pe_op (oK (fun K => (O2.fdiv (K := K)).r) (K := K) rfl o_fdiv) (pv 0) (pv 2)) (pa_cons (pe_op (oK (fun K => (O2.fdiv (K := K)).r) (K := K) rfl o_fdiv) (pv 1) (pv 2)) pa_nil))))))
  · rfl

/-! ### mul -/
abbrev st_mul : Stmt := topS 4
abbrev N_mul : List Str := ["a", "b"]
abbrev P_mul : List Str := ["a", "b"]
theorem sc_mul : FnScope N_mul P_mul (defScope st_mul) := ⟨rfl, rfl, rfl, by decide +kernel, rfl, by decide +kernel, by decide +kernel⟩
noncomputable def c_mul : CS K :=
    (CS.ret (CE.call (ON.fn sp_frac) (CA.cons (CE.op2 O2.mul (CE.sub (CE.var 0) (CE.int 0)) (CE.sub (CE.var 1) (CE.int 0))) (CA.cons (CE.op2 O2.mul (CE.sub (CE.var 0) (CE.int 1)) (CE.sub (CE.var 1) (CE.int 1))) CA.nil))))
set_option maxHeartbeats 4000000 in
theorem d_mul {k : Nat} {f : Addr} (q_frac : C8.Cal P w K mg base k "frac" (SpV K sp_frac) []) : Deriv P w K mg base N_mul "mul" st_mul f k (c_mul) := fun cdv A outer s H E hr => by
  apply pss_to
  · exact (pss_one (ps_ret (C8.pe_c q_frac hr (Nat.le_refl _) (by rfl) (pa_cons (pe_op (oK (fun K => (O2.mul (K := K)).r) (K := K) rfl o_mul) (pe_subK (K := K) rfl (hu_of hr) (pv 0) pe_int (fun _ _ => rfl)) (pe_subK (K := K) rfl (hu_of hr) (pv 1) pe_int (fun _ _ => rfl))) (pa_cons (pe_op (oK (fun K => (O2.mul (K := K)).r) (K := K) rfl o_mul) (pe_subK (K := K) rfl (hu_of hr) (pv 0) pe_int (fun _ _ => rfl)) (pe_subK (K := K) rfl (hu_of hr) (pv 1) pe_int (fun _ _ => rfl))) pa_nil)))))
  · rfl

/-! ### signum -/
abbrev st_signum : Stmt := topS 5
abbrev N_signum : List Str := ["a"]
abbrev P_signum : List Str := ["a"]
theorem sc_signum : FnScope N_signum P_signum (defScope st_signum) := ⟨rfl, rfl, rfl, by decide +kernel, rfl, by decide +kernel, by decide +kernel⟩
noncomputable def c_signum : CS K :=
    (CS.seq (CS.ife (CT.ofE (CE.eq false (CE.sub (CE.var 0) (CE.int 0)) (CE.int 0))) (CS.ret (CE.int 0)) CS.pass)
    (CS.ret (CE.ifx (CT.ofE (CE.op2 O2.gt (CE.sub (CE.var 0) (CE.int 0)) (CE.int 0))) (CE.int 1) (CE.op1 O1.neg (CE.int 1)))))
set_option maxHeartbeats 4000000 in
theorem d_signum {k : Nat} {f : Addr} : Deriv P w K mg base N_signum "signum" st_signum f k (c_signum) := fun cdv A outer s H E hr => by
  apply pss_to
  · exact (pss_cons (ps_if (pt_eqK (K := K) rfl hr.units (pe_subK (K := K) rfl (hu_of hr) (pv 0) pe_int (fun _ _ => rfl)) pe_int) (pss_one (ps_ret pe_int)) pss_nil)
    (pss_one (ps_ret (pe_ifExp (pt_cmpB (oK (fun K => (O2.gt (K := K)).r) (K := K) rfl o_gt) (pe_subK (K := K) rfl (hu_of hr) (pv 0) pe_int (fun _ _ => rfl)) pe_int (nomark _)) pe_int (pe_un (uK (fun K => (O1.neg (K := K)).r) (K := K) rfl o_neg) pe_int)))))
  · rfl

/-! ### smaller -/
abbrev st_smaller : Stmt := topS 6
abbrev N_smaller : List Str := ["a", "b"]
abbrev P_smaller : List Str := ["a", "b"]
theorem sc_smaller : FnScope N_smaller P_smaller (defScope st_smaller) := ⟨rfl, rfl, rfl, by decide +kernel, rfl, by decide +kernel, by decide +kernel⟩
noncomputable def c_smaller : CS K :=
    (CS.ret (CE.op2 O2.lt (CE.op2 O2.mul (CE.sub (CE.var 0) (CE.int 0)) (CE.sub (CE.var 1) (CE.int 1))) (CE.op2 O2.mul (CE.sub (CE.var 1) (CE.int 0)) (CE.sub (CE.var 0) (CE.int 1)))))
set_option maxHeartbeats 4000000 in
theorem d_smaller {k : Nat} {f : Addr} : Deriv P w K mg base N_smaller "smaller" st_smaller f k (c_smaller) := fun cdv A outer s H E hr => by
  apply pss_to
  · exact (pss_one (ps_ret (pe_cmpR (oK (fun K => (O2.lt (K := K)).r) (K := K) rfl o_lt) (pe_op (oK (fun K => (O2.mul (K := K)).r) (K := K) rfl o_mul) (pe_subK (K := K) rfl (hu_of hr) (pv 0) pe_int (fun _ _ => rfl)) (pe_subK (K := K) rfl (hu_of hr) (pv 1) pe_int (fun _ _ => rfl))) (pe_op (oK (fun K => (O2.mul (K := K)).r) (K := K) rfl o_mul) (pe_subK (K := K) rfl (hu_of hr) (pv 1) pe_int (fun _ _ => rfl)) (pe_subK (K := K) rfl (hu_of hr) (pv 0) pe_int (fun _ _ => rfl))) (nomark _))))
  · rfl

theorem sp_frac_eq {p q : Int} (h : Fk 200 (p, q)) : sp_frac [.at (.int p), .at (.int q)] = some (.val (encF (fracP p q))) := if_pos h
theorem sp_mul_eq {a b : Fr} (h : Fk 100 a) (h' : Fk 100 b) : sp_mul [encF a, encF b] = some (.val (encF (fracP (a.1 * b.1) (a.2 * b.2)))) := if_pos ⟨h, h'⟩
theorem sp_smaller_eq {a b : Fr} (h : Fk 100 a) (h' : Fk 100 b) : sp_smaller [encF a, encF b] = some (.val (.at (.bl (decide (a.1 * b.2 < b.1 * a.2))))) := if_pos ⟨h, h'⟩
theorem sp_signum_eq {a : Fr} : sp_signum [encF a] = some (.val (.at (.int (if a.1 = 0 then 0 else if 0 < a.1 then 1 else -1)))) := rfl
theorem run_frac : ∀ ts r, sp_frac ts = some r → pureL ts = true → FinV ((c_frac (K := K)).ex (S.v0 3 ts)) r := by
  intro ts r h pu
  unfold sp_frac at h
  split at h
  · next p q =>
    split at h
    · next hk =>
      cases h
      have hq : 0 < q := hk.q0
      have h1 : igcd p q ≠ 0 := by have := igcd_pos (p := p) hq; omega
      have h2 : (igcd p q).natAbs.log2 < 9000 := (Bt.le (Int.le_of_lt (igcd_pos hq)) (igcd_le hq) hk.q1).log (by decide) (by decide)
      simp [c_frac, S.v0, hq, h1, h2, FinV, fracP, encF, fgcd, lim_eq, frzT]
    · cases h
  · cases h
theorem run_mul : ∀ ts r, sp_mul ts = some r → pureL ts = true → FinV ((c_mul (K := K)).ex (S.v0 2 ts)) r := by
  intro ts r h pu
  unfold sp_mul at h
  split at h
  · next a b c d =>
    split at h
    · next hk =>
      cases h
      obtain ⟨k1, k2⟩ := hk
      have m1 : mulOk a c = true := k1.p1.ok k2.p1 (by decide) (by decide) (by decide)
      have m2 : mulOk b d = true := k1.q1.ok k2.q1 (by decide) (by decide) (by decide)
      have sp := sp_frac_eq (k1.mul k2)
      simp [c_mul, S.v0, m1, m2, sp, FinV, encF]
    · cases h
  · cases h
theorem run_signum : ∀ ts r, sp_signum ts = some r → pureL ts = true → FinV ((c_signum (K := K)).ex (S.v0 1 ts)) r := by
  intro ts r h pu
  unfold sp_signum at h
  split at h
  · next a b =>
    cases h
    by_cases h0 : a = 0
    · simp [c_signum, S.v0, h0, FinV]
    · by_cases h1 : 0 < a
      · simp [c_signum, S.v0, h0, h1, FinV]
      · simp [c_signum, S.v0, h0, h1, FinV]
  · cases h
theorem run_smaller : ∀ ts r, sp_smaller ts = some r → pureL ts = true → FinV ((c_smaller (K := K)).ex (S.v0 2 ts)) r := by
  intro ts r h pu
  unfold sp_smaller at h
  split at h
  · next a b c d =>
    split at h
    · next hk =>
      cases h
      obtain ⟨k1, k2⟩ := hk
      have m1 : mulOk a d = true := k1.p1.ok k2.q1 (by decide) (by decide) (by decide)
      have m2 : mulOk c b = true := k2.p1.ok k1.q1 (by decide) (by decide) (by decide)
      simp [c_smaller, S.v0, m1, m2, FinV]
    · cases h
  · cases h
/-! ### what shared_out answers -/
def avgP (a : Fr) (c : Int) : Fr := fracP (a.1 * (fracP 1 (c + 1)).1) (a.2 * (fracP 1 (c + 1)).2)
def ltF (w : Str → Fr) (c : Str → Int) (a b : Str) : Bool := decide ((avgP (w a) (c a)).1 * (avgP (w b) (c b)).2 < (avgP (w b) (c b)).1 * (avgP (w a) (c a)).2)
def foundP (xs : List Str) (w : Str → Fr) : Str → Fr := if (xs.any fun x => decide (0 < (w x).1)) = true then w else fun _ => (1, 1)
abbrev SA := Int × List Str × (Str → Fr)
def encA (a : SA) : List T := [itT a.1, dW a.2.1 fun x => encF (a.2.2 x)]
structure GoodA (a : SA) : Prop where
  n0 : 0 ≤ a.1
  n1 : a.1 < 1048576
  ne : a.2.1 ≠ []
  nd : a.2.1.Nodup
  len : a.2.1.length < 60
  fk : ∀ x ∈ a.2.1, Fk 40 (a.2.2 x)
def sharesP (a : SA) : Str → Int := DH.iterV (ltF (foundP (sortS a.2.1) a.2.2)) (sortS a.2.1) a.1.toNat
def outA (a : SA) : Res := .val (dW (sortS a.2.1) fun x => itT (sharesP a x))
noncomputable def sp_shared_out : List T → Option Res := spOf encA GoodA outA
theorem sortS_perm (xs : List Str) : (sortS xs).Perm xs := List.mergeSort_perm xs leS
theorem sortS_mem {xs : List Str} {x : Str} : x ∈ sortS xs ↔ x ∈ xs := (sortS_perm xs).mem_iff
theorem encF_inj {a b : Fr} (h : encF a = encF b) : a = b := by
  unfold encF at h
  simp only [T.nd.injEq, List.cons.injEq, T.at.injEq, V.int.injEq, and_true, true_and] at h
  exact Prod.ext h.1 h.2
theorem foundP_congr {xs : List Str} {w w' : Str → Fr} (h : ∀ x ∈ xs, w x = w' x) : ∀ x ∈ xs, foundP xs w x = foundP xs w' x := by
  intro x hx
  have e : (xs.any fun x => decide (0 < (w x).1)) = xs.any fun x => decide (0 < (w' x).1) := by
    rw [Bool.eq_iff_iff, List.any_eq_true, List.any_eq_true]
    constructor
    · rintro ⟨y, hy, h1⟩; exact ⟨y, hy, by rw [← h y hy]; exact h1⟩
    · rintro ⟨y, hy, h1⟩; exact ⟨y, hy, by rw [h y hy]; exact h1⟩
  unfold foundP
  rw [e]
  split
  · exact h x hx
  · rfl
theorem ltF_congr {xs : List Str} {w w' : Str → Fr} (h : ∀ x ∈ xs, w x = w' x) (n : Nat) : DH.iterV (ltF w) xs n = DH.iterV (ltF w') xs n :=
  DH.iter_congr (fun c _ a ha b hb => by unfold ltF; rw [h a ha, h b hb]) n
theorem encA_inj {a b : SA} (h : encA a = encA b) : outA a = outA b := by
  obtain ⟨n, xs, w⟩ := a
  obtain ⟨m, ys, w'⟩ := b
  unfold encA at h
  simp only [List.cons.injEq, T.at.injEq, V.int.injEq, T.nd.injEq, Kd.dK.injEq, and_true] at h
  obtain ⟨h1, h2, h3⟩ := h
  subst h1
  have h2 : xs = ys := (List.map_inj_right fun a b e => Sum.inr.inj e).mp h2
  subst h2
  have hw : ∀ x ∈ xs, w x = w' x := fun x hx => encF_inj (List.map_inj_left.mp h3 x hx)
  have hs : ∀ x ∈ sortS xs, foundP (sortS xs) w x = foundP (sortS xs) w' x := foundP_congr fun x hx => hw x (sortS_mem.mp hx)
  unfold outA sharesP
  rw [ltF_congr hs]
theorem sp_shared_eq {a : SA} (h : GoodA a) : sp_shared_out (encA a) = some (outA a) := by
  have q : ∃ b, encA a = encA b ∧ GoodA b := ⟨a, rfl, h⟩
  unfold sp_shared_out spOf
  rw [dif_pos q, ← encA_inj q.choose_spec.1]
theorem avg_ok {a : Fr} {c : Int} (h : Fk 40 a) (c0 : 0 ≤ c) (c1 : c < 1048576) : Fk 200 (1, c + 1) ∧ Fk 100 (fracP 1 (c + 1)) ∧ Fk 100 (avgP a c) ∧ ∀ p q, Eqv a p q → 0 < q → Eqv (avgP a c) p (q * (c + 1)) := by
  have k1 : Fk 40 ((1 : Int), c + 1) := ⟨by show (0 : Int) ≤ 1; decide, Bt.of (by show (0 : Int) ≤ 1; decide) (by show (1 : Int) < 2 ^ 40; decide), by show 0 < c + 1; omega, Bt.of (by show 0 ≤ c + 1; omega) (by show c + 1 < 2 ^ 40; omega)⟩
  obtain ⟨k2, e2⟩ := fracP_ok k1
  have k3 : Fk 80 (a.1 * (fracP 1 (c + 1)).1, a.2 * (fracP 1 (c + 1)).2) := Fk.mul (n := 40) (m := 40) h k2
  obtain ⟨k4, e4⟩ := fracP_ok k3
  refine ⟨k1.mono (by decide), k2.mono (by decide), k4.mono (by decide), fun p q hp hq => ⟨e4.pos, ?_⟩⟩
  have f1 := e2.eq
  have f2 := e4.eq
  have f3 := hp.eq
  have p2 := e2.pos
  have p3 := hp.pos
  show (fracP (a.1 * (fracP 1 (c + 1)).1) (a.2 * (fracP 1 (c + 1)).2)).1 * (q * (c + 1)) = p * (fracP (a.1 * (fracP 1 (c + 1)).1) (a.2 * (fracP 1 (c + 1)).2)).2
  generalize fracP (a.1 * (fracP 1 (c + 1)).1) (a.2 * (fracP 1 (c + 1)).2) = z at *
  generalize fracP 1 (c + 1) = f at *
  have cp : 0 < c + 1 := by omega
  -- z.1 * (a.2 * f.2) = a.1 * f.1 * z.2; f.1 * (c+1) = f.2; a.1 * q = p * a.2
  have h1 : (z.1 * (q * (c + 1))) * (a.2 * f.2) = (p * z.2) * (a.2 * f.2) := by
    have e : (z.1 * (q * (c + 1))) * (a.2 * f.2) = (z.1 * (a.2 * f.2)) * (q * (c + 1)) := by ac_rfl
    rw [e, f2]
    have e2 : a.1 * f.1 * z.2 * (q * (c + 1)) = (a.1 * q) * (f.1 * (c + 1)) * z.2 := by ac_rfl
    rw [e2, f3, f1]
    rw [Int.one_mul]
    ac_rfl
  exact Int.eq_of_mul_eq_mul_right (by have := Int.mul_pos p3 p2; omega) h1
/-- fractions that stand for whole weights, times one and the same -/
theorem ltF_eq {xs : List Str} {w : Str → Fr} {v : Str → Int} {bn bd : Int} (hb : 0 < bn) (hd : 0 < bd) (hk : ∀ x ∈ xs, Fk 40 (w x)) (hw : ∀ x ∈ xs, Eqv (w x) (bn * v x) bd) {c : Str → Int} (c0 : ∀ x, 0 ≤ c x) (c1 : ∀ x, c x < 1048576)
    {a b : Str} (ha : a ∈ xs) (hbx : b ∈ xs) : ltF w c a b = DH.ltV v c a b := by
  obtain ⟨_, _, _, ea⟩ := avg_ok (hk a ha) (c0 a) (c1 a)
  obtain ⟨_, _, _, eb⟩ := avg_ok (hk b hbx) (c0 b) (c1 b)
  have ea := ea _ _ (hw a ha) hd
  have eb := eb _ _ (hw b hbx) hd
  unfold ltF DH.ltV
  have ca : 0 < c a + 1 := by have := c0 a; omega
  have cb : 0 < c b + 1 := by have := c0 b; omega
  have pa := ea.pos
  have pb := eb.pos
  have fa := ea.eq
  have fb := eb.eq
  generalize avgP (w a) (c a) = x at *
  generalize avgP (w b) (c b) = y at *
  refine decide_eq_decide.mpr ?_
  have da : 0 < bd * (c a + 1) := Int.mul_pos hd ca
  have db : 0 < bd * (c b + 1) := Int.mul_pos hd cb
  have l1 : x.1 * y.2 < y.1 * x.2 ↔ (x.1 * y.2) * ((bd * (c a + 1)) * (bd * (c b + 1))) < (y.1 * x.2) * ((bd * (c a + 1)) * (bd * (c b + 1))) :=
    (Int.mul_lt_mul_right (Int.mul_pos da db)).symm
  have e1 : (x.1 * y.2) * ((bd * (c a + 1)) * (bd * (c b + 1))) = (v a * (c b + 1)) * (bn * bd * x.2 * y.2) := by
    have : (x.1 * y.2) * ((bd * (c a + 1)) * (bd * (c b + 1))) = (x.1 * (bd * (c a + 1))) * (y.2 * (bd * (c b + 1))) := by ac_rfl
    rw [this, fa]; ac_rfl
  have e2 : (y.1 * x.2) * ((bd * (c a + 1)) * (bd * (c b + 1))) = (v b * (c a + 1)) * (bn * bd * x.2 * y.2) := by
    have : (y.1 * x.2) * ((bd * (c a + 1)) * (bd * (c b + 1))) = (y.1 * (bd * (c b + 1))) * (x.2 * (bd * (c a + 1))) := by ac_rfl
    rw [this, fb]; ac_rfl
  rw [l1, e1, e2]
  exact Int.mul_lt_mul_right (Int.mul_pos (Int.mul_pos (Int.mul_pos hb hd) pa) pb)
theorem iterF_eq {xs : List Str} {w : Str → Fr} {v : Str → Int} {bn bd : Int} (hb : 0 < bn) (hd : 0 < bd) (hk : ∀ x ∈ xs, Fk 40 (w x)) (hw : ∀ x ∈ xs, Eqv (w x) (bn * v x) bd) : ∀ n : Nat, n ≤ 1048575 → DH.iterV (ltF w) xs n = DH.iterV (DH.ltV v) xs n
  | 0, _ => rfl
  | n + 1, h => by
    show DH.stepV (ltF w) xs (DH.iterV (ltF w) xs n) = DH.stepV (DH.ltV v) xs (DH.iterV (DH.ltV v) xs n)
    rw [iterF_eq hb hd hk hw n (by omega)]
    unfold DH.stepV
    rw [DH.pick_congr fun a ha b hbx => ltF_eq hb hd hk hw (DH.iter_nonneg n) (fun x => by have := DH.iter_le (lt := DH.ltV v) (xs := xs) n x; omega) ha hbx]
/-! ### shared_out -/
abbrev st_shared_out : Stmt := topS 8
abbrev N_shared_out : List Str := ["coins", "weights", "found", "name", "shares", "_", "best", "average"]
abbrev P_shared_out : List Str := ["coins", "weights"]
theorem sc_shared_out : FnScope N_shared_out P_shared_out (defScope st_shared_out) := ⟨rfl, rfl, rfl, by decide +kernel, rfl, by decide +kernel, by decide +kernel⟩
noncomputable def c_shared_out_1 (a_UNIT : Addr) (k_UNIT : ∀ F, SqT K F a_UNIT [.int 1, .int 1]) : CS K :=
    (CS.set 7 (CE.call (ON.fn sp_mul) (CA.cons (CE.sub (CE.var 2) (CE.var 3)) (CA.cons (CE.call (ON.fn sp_frac) (CA.cons (CE.int 1) (CA.cons (CE.op2 (O2.add false) (CE.sub (CE.var 4) (CE.var 3)) (CE.int 1)) CA.nil))) CA.nil))))
noncomputable def c_shared_out_2 (a_UNIT : Addr) (k_UNIT : ∀ F, SqT K F a_UNIT [.int 1, .int 1]) : CS K :=
    (CS.ife (CT.or (CT.ofE (CE.op2 O2.isN (CE.var 6) CE.non)) (CT.tru (CE.call (ON.fn sp_smaller) (CA.cons (CE.sub (CE.var 6) (CE.int 1)) (CA.cons (CE.var 7) CA.nil))))) (CS.set 6 (CE.tup (CA.cons (CE.var 3) (CA.cons (CE.var 7) CA.nil)))) CS.pass)
noncomputable def c_shared_out_3 (a_UNIT : Addr) (k_UNIT : ∀ F, SqT K F a_UNIT [.int 1, .int 1]) : CS K :=
    (CS.set 6 CE.non)
noncomputable def c_shared_out_4 (a_UNIT : Addr) (k_UNIT : ∀ F, SqT K F a_UNIT [.int 1, .int 1]) : CS K :=
    (CS.for (CI.keys (CE.var 2)) (CG.name 3) (CS.seq (c_shared_out_1 a_UNIT k_UNIT)
    (c_shared_out_2 a_UNIT k_UNIT)))
noncomputable def c_shared_out_5 (a_UNIT : Addr) (k_UNIT : ∀ F, SqT K F a_UNIT [.int 1, .int 1]) : CS K :=
    (CS.sub (CE.var 4) (CE.sub (CE.var 6) (CE.int 0)) (CE.op2 (O2.add false) (CE.sub (CE.var 4) (CE.sub (CE.var 6) (CE.int 0))) (CE.int 1)))
noncomputable def c_shared_out_6 (a_UNIT : Addr) (k_UNIT : ∀ F, SqT K F a_UNIT [.int 1, .int 1]) : CS K :=
    (CS.set 2 (CE.dc false [3] (CI.seq (CE.call (ON.sorted false) (CA.cons (CE.var 1) CA.nil))) (CG.name 3) CT.yes (CE.var 3) (CE.sub (CE.var 1) (CE.var 3))))
noncomputable def c_shared_out_7 (a_UNIT : Addr) (k_UNIT : ∀ F, SqT K F a_UNIT [.int 1, .int 1]) : CS K :=
    (CS.ife (CT.not (CT.tru (CE.call (ON.any) (CA.cons (CE.lc false [3] (CI.keys (CE.var 2)) (CG.name 3) CT.yes (CE.op2 O2.gt (CE.call (ON.fn sp_signum) (CA.cons (CE.sub (CE.var 2) (CE.var 3)) CA.nil)) (CE.int 0))) CA.nil)))) (CS.set 2 (CE.dc false [3] (CI.keys (CE.var 2)) (CG.name 3) CT.yes (CE.var 3) (g_UNIT a_UNIT k_UNIT))) CS.pass)
noncomputable def c_shared_out_8 (a_UNIT : Addr) (k_UNIT : ∀ F, SqT K F a_UNIT [.int 1, .int 1]) : CS K :=
    (CS.set 4 (CE.dc true [3] (CI.keys (CE.var 2)) (CG.name 3) CT.yes (CE.var 3) (CE.int 0)))
noncomputable def c_shared_out_9 (a_UNIT : Addr) (k_UNIT : ∀ F, SqT K F a_UNIT [.int 1, .int 1]) : CS K :=
    (CS.for (CI.rng1 (CA.cons (CE.var 0) CA.nil)) (CG.name 5) (CS.seq (c_shared_out_3 a_UNIT k_UNIT)
    (CS.seq (c_shared_out_4 a_UNIT k_UNIT)
    (c_shared_out_5 a_UNIT k_UNIT))))
noncomputable def c_shared_out_10 (a_UNIT : Addr) (k_UNIT : ∀ F, SqT K F a_UNIT [.int 1, .int 1]) : CS K :=
    (CS.ret (CE.var 4))
noncomputable def c_shared_out (a_UNIT : Addr) (k_UNIT : ∀ F, SqT K F a_UNIT [.int 1, .int 1]) : CS K :=
    (CS.seq (c_shared_out_6 a_UNIT k_UNIT)
    (CS.seq (c_shared_out_7 a_UNIT k_UNIT)
    (CS.seq (c_shared_out_8 a_UNIT k_UNIT)
    (CS.seq (c_shared_out_9 a_UNIT k_UNIT)
    (c_shared_out_10 a_UNIT k_UNIT)))))
set_option maxHeartbeats 4000000 in
theorem d_shared_out {k : Nat} {f : Addr} {a_UNIT : Addr} {k_UNIT : ∀ F, SqT K F a_UNIT [.int 1, .int 1]} (h_UNIT : mg "UNIT" = some (.ref a_UNIT)) (q_signum : C8.Cal P w K mg base k "signum" (SpV K sp_signum) []) (q_mul : C8.Cal P w K mg base k "mul" (SpV K sp_mul) []) (q_frac : C8.Cal P w K mg base k "frac" (SpV K sp_frac) []) (q_smaller : C8.Cal P w K mg base k "smaller" (SpV K sp_smaller) []) (m_sorted : mg "sorted" = none) (m_any : mg "any" = none) (m_range : mg "range" = none) : Deriv P w K mg base N_shared_out "shared_out" st_shared_out f k (c_shared_out a_UNIT k_UNIT) := fun cdv A outer s H E hr => by
  apply pss_to
  · exact (pss_cons (by (apply ps_to (K := K) (c_shared_out_6 a_UNIT k_UNIT)); (exact (ps_set (i := 2) sc_shared_out.nd rfl (.inr rfl) (pe_dc (own := [("name", 3)]) rfl sc_shared_out.nd (pi_seqK (K := K) rfl (pe_callB (cK (fun K => (ON.sorted (K := K) false).r) (K := K) rfl (c_sorted rfl)) (by rfl) m_sorted (by decide +kernel) (pa_cons (pv 1) pa_nil))) (blkB (own := [("name", 3)]) (N := N_shared_out) (sc := defScope st_shared_out) rfl (by decide +kernel)) (fun _ _ _ _ _ => (pg_name (i := 3) sc_shared_out.nd rfl (by first | exact Or.inl rfl | exact Or.inr rfl))) (fun _ _ _ _ _ => pts_nil) (fun _ _ _ _ _ => (pv 3)) (fun _ _ _ _ _ => (pe_subK (K := K) rfl (hu_of hr) (pv 1) (pv 3) (fun _ _ => rfl)))))); (exact rfl))
    (pss_cons (by (apply ps_to (K := K) (c_shared_out_7 a_UNIT k_UNIT)); (exact (ps_if (pt_not (pt_truth (pe_callB (cK (fun K => (ON.any (K := K)).r) (K := K) rfl (cr_any rfl)) (by rfl) m_any (by decide +kernel) (pa_cons (pe_lc (own := [("name", 3)]) rfl sc_shared_out.nd (pi_keysL (pv 2)) (blkB (own := [("name", 3)]) (N := N_shared_out) (sc := defScope st_shared_out) rfl (by decide +kernel)) (fun _ _ _ _ _ => (pg_name (i := 3) sc_shared_out.nd rfl (by first | exact Or.inl rfl | exact Or.inr rfl))) (fun _ _ _ _ _ => pts_nil) (fun _ _ _ _ _ => (pe_cmpR (oK (fun K => (O2.gt (K := K)).r) (K := K) rfl o_gt) (C8.pe_c q_signum hr (Nat.le_refl _) (by rfl) (pa_cons (pe_subK (K := K) rfl (hu_of hr) (pv 2) (pv 3) (fun _ _ => rfl)) pa_nil)) pe_int (nomark _)))) pa_nil)) (by intro _; rfl))) (pss_one (ps_set (i := 2) sc_shared_out.nd rfl (.inr rfl) (pe_dc (own := [("name", 3)]) rfl sc_shared_out.nd (pi_keysL (pv 2)) (blkB (own := [("name", 3)]) (N := N_shared_out) (sc := defScope st_shared_out) rfl (by decide +kernel)) (fun _ _ _ _ _ => (pg_name (i := 3) sc_shared_out.nd rfl (by first | exact Or.inl rfl | exact Or.inr rfl))) (fun _ _ _ _ _ => pts_nil) (fun _ _ _ _ _ => (pv 3)) (fun _ _ _ _ _ => (pe_tG (by rfl) (fun v (e : v = V.ref a_UNIT) => ⟨_, h_UNIT, e ▸ rfl⟩)))))) pss_nil)); (exact rfl))
    (pss_cons (by (apply ps_to (K := K) (c_shared_out_8 a_UNIT k_UNIT)); (exact (ps_setDc (i := 4) (own := [("name", 3)]) rfl sc_shared_out.nd rfl rfl (sw_trueD rfl rfl rfl (by decide +kernel)) (pi_keysL (pv 2)) (blkB (own := [("name", 3)]) (N := N_shared_out) (sc := defScope st_shared_out) rfl (by decide +kernel)) (fun _ _ _ _ _ => (pg_name (i := 3) sc_shared_out.nd rfl (by first | exact Or.inl rfl | exact Or.inr rfl))) (fun _ _ _ _ _ => pts_nil) (fun _ _ _ _ _ => (pv 3)) (fun _ _ _ _ _ => pe_int))); (exact rfl))
    (pss_cons (by (apply ps_to (K := K) (c_shared_out_9 a_UNIT k_UNIT)); (exact (ps_for PassesOwn.never rfl (pi_range1 (by rfl) m_range (pa_cons (pv 0) pa_nil)) (pg_name (i := 5) sc_shared_out.nd rfl (.inl rfl)) (pss_cons (by (apply ps_to (K := K) (c_shared_out_3 a_UNIT k_UNIT)); (exact (ps_set (i := 6) sc_shared_out.nd rfl (.inl rfl) pe_non)); (exact rfl))
    (pss_cons (by (apply ps_to (K := K) (c_shared_out_4 a_UNIT k_UNIT)); (exact (ps_for PassesOwn.never rfl (pi_keysL (pv 2)) (pg_name (i := 3) sc_shared_out.nd rfl (.inl rfl)) (pss_cons (by (apply ps_to (K := K) (c_shared_out_1 a_UNIT k_UNIT)); (exact (ps_set (i := 7) sc_shared_out.nd rfl (.inl rfl) (C8.pe_c q_mul hr (Nat.le_refl _) (by rfl) (pa_cons (pe_subK (K := K) rfl (hu_of hr) (pv 2) (pv 3) (fun _ _ => rfl)) (pa_cons (C8.pe_c q_frac hr (Nat.le_refl _) (by rfl) (pa_cons pe_int (pa_cons (pe_op (oK (fun K => (O2.add (K := K) false).r) (K := K) rfl o_add) (pe_subK (K := K) rfl (hu_of hr) (pv 4) (pv 3) (fun _ _ => rfl)) pe_int) pa_nil))) pa_nil))))); (exact rfl))
    (pss_one (by (apply ps_to (K := K) (c_shared_out_2 a_UNIT k_UNIT)); (exact (ps_if (PW.pt (pw_or (pt_cmpB (oK (fun K => (O2.isN (K := K)).r) (K := K) rfl o_isN) (pv 6) pe_non (nomark _)) (pw_or1 (pt_truth (C8.pe_c q_smaller hr (Nat.le_refl _) (by rfl) (pa_cons (pe_subK (K := K) rfl (hu_of hr) (pv 6) pe_int (fun _ _ => rfl)) (pa_cons (pv 7) pa_nil))) (by intro _; rfl))))) (pss_one (ps_set (i := 6) sc_shared_out.nd rfl (.inl rfl) (pe_tup (pa_cons (pv 3) (pa_cons (pv 7) pa_nil))))) pss_nil)); (exact rfl)))))); (exact rfl))
    (pss_one (by (apply ps_to (K := K) (c_shared_out_5 a_UNIT k_UNIT)); (exact (ps_subZ (hu_of hr) (pv 4) (pe_subK (K := K) rfl (hu_of hr) (pv 6) pe_int (fun _ _ => rfl)) (pe_op (oK (fun K => (O2.add (K := K) false).r) (K := K) rfl o_add) (pe_subK (K := K) rfl (hu_of hr) (pv 4) (pe_subK (K := K) rfl (hu_of hr) (pv 6) pe_int (fun _ _ => rfl)) (fun _ _ => rfl)) pe_int) (by intro _; rfl) rfl rfl rfl rfl)); (exact rfl))))))); (exact rfl))
    (pss_one (by (apply ps_to (K := K) (c_shared_out_10 a_UNIT k_UNIT)); (exact (ps_ret (pv 4))); (exact rfl)))))))
  · rfl

/-! ### _law_state -/
abbrev st_law_state : Stmt := topS 10
abbrev N_law_state : List Str := ["script", "k", "salt", "cell"]
abbrev P_law_state : List Str := ["script", "k", "salt"]
theorem sc_law_state : FnScope N_law_state P_law_state (defScope st_law_state) := ⟨rfl, rfl, rfl, by decide +kernel, rfl, by decide +kernel, by decide +kernel⟩
set_option maxHeartbeats 4000000 in
theorem d_law_state {k : Nat} {f : Addr} (m_len : mg "len" = none) (m_int : mg "int" = none) : Deriv P w K mg base N_law_state "_law_state" st_law_state f k (c_law_state) := fun cdv A outer s H E hr => by
  apply pss_to
  · exact (pss_cons (ps_set (i := 3) sc_law_state.nd rfl (.inl rfl) pe_int)
    (pss_cons (ps_if (pt_cmpB (oK (fun K => (O2.gt (K := K)).r) (K := K) rfl o_gt) (pe_callB (cK (fun K => (ON.len (K := K)).r) (K := K) rfl c_len) (by rfl) m_len (by decide +kernel) (pa_cons (pv 0) pa_nil)) pe_int (nomark _)) (pss_one (ps_set (i := 3) sc_law_state.nd rfl (.inl rfl) (pe_callTy (cK (fun K => (ON.int (K := K)).r) (K := K) rfl call_int1) (by rfl) m_int (by decide +kernel) (pa_cons (pe_subK (K := K) rfl (hu_of hr) (pv 0) (pe_op (oK (fun K => (O2.mod (K := K)).r) (K := K) rfl o_mod) (pe_callTy (cK (fun K => (ON.int (K := K)).r) (K := K) rfl call_int1) (by rfl) m_int (by decide +kernel) (pa_cons (pv 1) pa_nil)) (pe_callB (cK (fun K => (ON.len (K := K)).r) (K := K) rfl c_len) (by rfl) m_len (by decide +kernel) (pa_cons (pv 0) pa_nil))) (fun _ _ => rfl)) pa_nil)))) pss_nil)
    (pss_cons (ps_if (pt_cmpB (oK (fun K => (O2.lt (K := K)).r) (K := K) rfl o_lt) (pv 3) pe_int (nomark _)) (pss_one (ps_set (i := 3) sc_law_state.nd rfl (.inl rfl) (pe_op (oK (fun K => (O2.sub (K := K)).r) (K := K) rfl o_sub) pe_int (pe_op (oK (fun K => (O2.mul (K := K)).r) (K := K) rfl o_mul) pe_int (pv 3))))) pss_nil)
    (pss_cons (ps_if (PW.pt (pw_and (pt_cmpB (oK (fun K => (O2.lt (K := K)).r) (K := K) rfl o_lt) (pv 1) (pe_callB (cK (fun K => (ON.len (K := K)).r) (K := K) rfl c_len) (by rfl) m_len (by decide +kernel) (pa_cons (pv 0) pa_nil)) (nomark _)) (pw_and1 (pt_cmpB (oK (fun K => (O2.ge (K := K)).r) (K := K) rfl o_ge) (pv 3) (pe_op (oK (fun K => (O2.pow (K := K)).r) (K := K) rfl o_pow) pe_int pe_int) (nomark _))))) (pss_one (ps_ret (pe_lst (pa_cons (pv 3) (pa_cons (pe_op (oK (fun K => (O2.add (K := K) false).r) (K := K) rfl o_add) (pv 2) pe_int) pa_nil))))) pss_nil)
    (pss_one (ps_ret (pe_lst (pa_cons pe_int (pa_cons (pe_op (oK (fun K => (O2.add (K := K) false).r) (K := K) rfl o_add) (pe_op (oK (fun K => (O2.add (K := K) false).r) (K := K) rfl o_add) (pe_op (oK (fun K => (O2.add (K := K) false).r) (K := K) rfl o_add) (pe_op (oK (fun K => (O2.mul (K := K)).r) (K := K) rfl o_mul) (pv 3) pe_int) (pe_op (oK (fun K => (O2.mul (K := K)).r) (K := K) rfl o_mul) pe_int (pv 1))) (pe_op (oK (fun K => (O2.mul (K := K)).r) (K := K) rfl o_mul) pe_int (pv 2))) pe_int) pa_nil)))))))))
  · rfl

/-! ### _law_draw -/
abbrev st_law_draw : Stmt := topS 11
abbrev N_law_draw : List Str := ["state", "many", "one", "two", "digit"]
abbrev P_law_draw : List Str := ["state", "many"]
theorem sc_law_draw : FnScope N_law_draw P_law_draw (defScope st_law_draw) := ⟨rfl, rfl, rfl, by decide +kernel, rfl, by decide +kernel, by decide +kernel⟩
set_option maxHeartbeats 4000000 in
theorem d_law_draw {k : Nat} {f : Addr} (m_int : mg "int" = none) : Deriv P w K mg base N_law_draw "_law_draw" st_law_draw f k (c_law_draw) := fun cdv A outer s H E hr => by
  apply pss_to
  · exact (pss_cons (ps_if (pt_cmpB (oK (fun K => (O2.lt (K := K)).r) (K := K) rfl o_lt) (pe_subK (K := K) rfl (hu_of hr) (pv 0) pe_int (fun _ _ => rfl)) (pv 1) (nomark _)) (pss_cons (ps_set (i := 2) sc_law_draw.nd rfl (.inl rfl) (pe_op (oK (fun K => (O2.mod (K := K)).r) (K := K) rfl o_mod) (pe_callTy (cK (fun K => (ON.int (K := K)).r) (K := K) rfl call_int1) (by rfl) m_int (by decide +kernel) (pa_cons (pe_op (oK (fun K => (O2.add (K := K) false).r) (K := K) rfl o_add) (pe_op (oK (fun K => (O2.add (K := K) false).r) (K := K) rfl o_add) (pe_op (oK (fun K => (O2.mul (K := K)).r) (K := K) rfl o_mul) (pe_subK (K := K) rfl (hu_of hr) (pv 0) pe_int (fun _ _ => rfl)) (pe_subK (K := K) rfl (hu_of hr) (pv 0) pe_int (fun _ _ => rfl))) (pe_op (oK (fun K => (O2.mul (K := K)).r) (K := K) rfl o_mul) pe_int (pe_subK (K := K) rfl (hu_of hr) (pv 0) pe_int (fun _ _ => rfl)))) pe_int) pa_nil)) pe_int))
    (pss_cons (ps_set (i := 3) sc_law_draw.nd rfl (.inl rfl) (pe_op (oK (fun K => (O2.mod (K := K)).r) (K := K) rfl o_mod) (pe_callTy (cK (fun K => (ON.int (K := K)).r) (K := K) rfl call_int1) (by rfl) m_int (by decide +kernel) (pa_cons (pe_op (oK (fun K => (O2.add (K := K) false).r) (K := K) rfl o_add) (pe_op (oK (fun K => (O2.add (K := K) false).r) (K := K) rfl o_add) (pe_op (oK (fun K => (O2.mul (K := K)).r) (K := K) rfl o_mul) (pv 2) (pv 2)) (pe_op (oK (fun K => (O2.mul (K := K)).r) (K := K) rfl o_mul) pe_int (pv 2))) pe_int) pa_nil)) pe_int))
    (pss_cons (ps_subZ (hu_of hr) (pv 0) pe_int (pv 3) (by intro _; rfl) rfl rfl rfl rfl)
    (pss_one (ps_subZ (hu_of hr) (pv 0) pe_int (pe_op (oK (fun K => (O2.add (K := K) false).r) (K := K) rfl o_add) (pv 1) (pe_op (oK (fun K => (O2.mod (K := K)).r) (K := K) rfl o_mod) (pe_callTy (cK (fun K => (ON.int (K := K)).r) (K := K) rfl call_int1) (by rfl) m_int (by decide +kernel) (pa_cons (pe_op (oK (fun K => (O2.add (K := K) false).r) (K := K) rfl o_add) (pe_op (oK (fun K => (O2.mul (K := K)).r) (K := K) rfl o_mul) (pv 3) (pv 3)) (pv 2)) pa_nil)) pe_int)) (by intro _; rfl) rfl rfl rfl rfl))))) pss_nil)
    (pss_cons (ps_set (i := 4) sc_law_draw.nd rfl (.inl rfl) (pe_op (oK (fun K => (O2.mod (K := K)).r) (K := K) rfl o_mod) (pe_callTy (cK (fun K => (ON.int (K := K)).r) (K := K) rfl call_int1) (by rfl) m_int (by decide +kernel) (pa_cons (pe_subK (K := K) rfl (hu_of hr) (pv 0) pe_int (fun _ _ => rfl)) pa_nil)) (pv 1)))
    (pss_cons (ps_subZ (hu_of hr) (pv 0) pe_int (pe_op (oK (fun K => (O2.fdiv (K := K)).r) (K := K) rfl o_fdiv) (pe_subK (K := K) rfl (hu_of hr) (pv 0) pe_int (fun _ _ => rfl)) (pv 1)) (by intro _; rfl) rfl rfl rfl rfl)
    (pss_one (ps_ret (pv 4))))))
  · rfl

/-! ### _law_order -/
abbrev st_law_order : Stmt := topS 12
abbrev N_law_order : List Str := ["state", "many", "left", "order", "k", "at"]
abbrev P_law_order : List Str := ["state", "many"]
theorem sc_law_order : FnScope N_law_order P_law_order (defScope st_law_order) := ⟨rfl, rfl, rfl, by decide +kernel, rfl, by decide +kernel, by decide +kernel⟩
set_option maxHeartbeats 4000000 in
theorem d_law_order {k : Nat} {f : Addr} (q_law_draw : C8.Cal P w K mg base k "_law_draw" (SpR K sp_law_draw) []) (m_list : mg "list" = none) (m_range : mg "range" = none) (m_len : mg "len" = none) : Deriv P w K mg base N_law_order "_law_order" st_law_order f k (c_law_order) := fun cdv A outer s H E hr => by
  apply pss_to
  · exact (pss_cons (ps_set (i := 2) sc_law_order.nd rfl (.inl rfl) (pe_listRg rfl (by rfl) m_list (prg_1 (by rfl) m_range (pv 1))))
    (pss_cons (ps_set (i := 3) sc_law_order.nd rfl (.inl rfl) (pe_lst pa_nil))
    (pss_cons (ps_for PassesOwn.never rfl (pi_range1 (by rfl) m_range (pa_cons (pv 1) pa_nil)) (pg_name (i := 4) sc_law_order.nd rfl (.inl rfl)) (pss_cons (ps_set (i := 5) sc_law_order.nd rfl (.inl rfl) (C8.pe_c q_law_draw hr (Nat.le_refl _) (by rfl) (pa_cons (pv 0) (pa_cons (pe_callB (cK (fun K => (ON.len (K := K)).r) (K := K) rfl c_len) (by rfl) m_len (by decide +kernel) (pa_cons (pv 2) pa_nil)) pa_nil))))
    (pss_cons (ps_expr (pe_bm PySem.F.plainAttrs_list PySem.F.slot_list_append PySem.F.type_list_append mt_append (pv 3) (pa_cons (pe_subK (K := K) rfl (hu_of hr) (pv 2) (pv 5) (fun _ _ => rfl)) pa_nil)))
    (pss_one (ps_set (i := 2) sc_law_order.nd rfl (.inl rfl) (pe_op (oK (fun K => (O2.add (K := K) false).r) (K := K) rfl o_add) (pe_slice (slK rSlZ (K := K) rfl sl_all) (pv 2) po_none (po_some (pv 5))) (pe_slice (slK rSlZ (K := K) rfl sl_all) (pv 2) (po_some (pe_op (oK (fun K => (O2.add (K := K) false).r) (K := K) rfl o_add) (pv 5) pe_int)) po_none)))))))
    (pss_one (ps_ret (pv 3))))))
  · rfl

/-! ### _law_names -/
abbrev st_law_names : Stmt := topS 13
abbrev N_law_names : List Str := ["state", "letter", "many", "at"]
abbrev P_law_names : List Str := ["state", "letter", "many"]
theorem sc_law_names : FnScope N_law_names P_law_names (defScope st_law_names) := ⟨rfl, rfl, rfl, by decide +kernel, rfl, by decide +kernel, by decide +kernel⟩
set_option maxHeartbeats 4000000 in
theorem d_law_names {k : Nat} {f : Addr} (q_law_order : C8.Cal P w K mg base k "_law_order" (SpR K sp_law_order) []) : Deriv P w K mg base N_law_names "_law_names" st_law_names f k (c_law_names) := fun cdv A outer s H E hr => by
  apply pss_to
  · exact (pss_one (ps_ret (pe_lc (own := [("at", 3)]) rfl sc_law_names.nd (pi_seqK (K := K) rfl (C8.pe_c q_law_order hr (Nat.le_refl _) (by rfl) (pa_cons (pv 0) (pa_cons (pv 2) pa_nil)))) (blkB (own := [("at", 3)]) (N := N_law_names) (sc := defScope st_law_names) rfl (by decide +kernel)) (fun _ _ _ _ _ => (pg_name (i := 3) sc_law_names.nd rfl (by first | exact Or.inl rfl | exact Or.inr rfl))) (fun _ _ _ _ _ => pts_nil) (fun _ _ _ _ _ => (pe_op (oK (fun K => (O2.add (K := K) false).r) (K := K) rfl o_add) (pv 1) (pe_subK (K := K) rfl (hu_of hr) pe_str (pv 3) (fun _ _ => rfl)))))))
  · rfl

/-! ### shared_out, run -/
@[simp] theorem res_encF (a : Fr) (s : S) : res (encF a) s = encF a := rfl
@[simp] theorem frz_encF (a : Fr) (s : S) : frzT 8 (encF a) s = some (encF a, s) := rfl
@[simp] theorem pure_encF (a : Fr) : pureT (encF a) = true := rfl
theorem keyTo_ky (xs : List Str) : (kyS xs).map keyTo = xs.map stT := by rw [List.map_map]; rfl
def encB : Option (Str × Fr) → T
  | none => .at .non
  | some p => .nd .tup [stT p.1, encF p.2]
abbrev BA := Option (Str × Fr) × Option T × Option T
def nxB (w : Str → Fr) (c : Str → Int) (a : BA) (x : Str) : BA :=
  ((match a.1 with
    | none => some (x, avgP (w x) (c x))
    | some p => if decide (p.2.1 * (avgP (w x) (c x)).2 < (avgP (w x) (c x)).1 * p.2.2) = true then some (x, avgP (w x) (c x)) else some p), some (stT x), some (encF (avgP (w x) (c x))))
def stB (n : Int) (W : T) (ys : List Str) (f : Str → Fr) (c : Str → Int) (i5 : Option T) (a : BA) : S := ⟨[some (itT n), some W, some (dW ys fun x => encF (f x)), a.2.1, some (.ptr 0), i5, some (encB a.1), a.2.2], [dWc ys fun x => itT (c x)]⟩
theorem nxB_fold (w : Str → Fr) (c : Str → Int) : ∀ (l : List Str) (b : Str) (u v : Option T), (l.foldl (nxB w c) (some (b, avgP (w b) (c b)), u, v)).1 = some ((l.foldl (fun b y => if ltF w c b y then y else b) b), avgP (w (l.foldl (fun b y => if ltF w c b y then y else b) b)) (c (l.foldl (fun b y => if ltF w c b y then y else b) b)))
  | [], _, _, _ => rfl
  | x :: l, b, u, v => by
    rw [List.foldl_cons, List.foldl_cons]
    have e : nxB w c (some (b, avgP (w b) (c b)), u, v) x = (some ((if ltF w c b x then x else b), avgP (w (if ltF w c b x then x else b)) (c (if ltF w c b x then x else b))), some (stT x), some (encF (avgP (w x) (c x)))) := by
      unfold nxB
      show ((if ltF w c b x = true then _ else _), _, _) = _
      split <;> rfl
    rw [e]
    exact nxB_fold w c l _ _ _
theorem nxB_pick (w : Str → Fr) (c : Str → Int) (ys : List Str) (u v : Option T) : (ys.foldl (nxB w c) (none, u, v)).1 = (DH.pick (ltF w c) ys).map fun b => (b, avgP (w b) (c b)) := by
  cases ys with
  | nil => rfl
  | cons y l => exact nxB_fold w c l y _ _
theorem dget_dW {ys : List Str} {f : Str → T} {x : Str} (h : x ∈ ys) (s : S) : dgetF (dW ys f) (stT x) s = some (res (f x) s, s) := by
  rw [dgetF_nd]
  show ((getD' (kyS ys) (ys.map f) (.inr x)).map fun t => (res t s, s)) = _
  rw [getD_map h]; rfl
theorem run_inner (a_UNIT : Addr) (k_UNIT : ∀ F, SqT K F a_UNIT [.int 1, .int 1]) {n : Int} {W : T} {ys : List Str} {f : Str → Fr} {c : Str → Int} {i5 : Option T} (hk : ∀ x ∈ ys, Fk 40 (f x)) (c0 : ∀ x, 0 ≤ c x) (c1 : ∀ x, c x < 1048576) (u v : Option T) :
    (c_shared_out_4 (K := K) a_UNIT k_UNIT).ex (stB n W ys f c i5 (none, u, v)) = some (.nx (stB n W ys f c i5 (ys.foldl (nxB f c) (none, u, v)))) := by
  have fl := for_over (g := (CG.name (K := K) 3).f) (b := (CS.seq (c_shared_out_1 (K := K) a_UNIT k_UNIT) (c_shared_out_2 a_UNIT k_UNIT)).ex) stT (stB n W ys f c i5) (nxB f c) (fun a => ∀ p, a.1 = some p → Fk 100 p.2) ys (none, u, v) (fun p h => nomatch h) (fun x hx a ha => by
    obtain ⟨k1, k2, k3, _⟩ := avg_ok (hk x hx) (c0 x) (c1 x)
    have s1 := sp_frac_eq k1
    have s2 := sp_mul_eq ((hk x hx).mono (by decide)) k2
    have g1 := getD_map (f := fun x => encF (f x)) hx
    have g2 := getD_map (f := fun x => itT (c x)) hx
    obtain ⟨b, nm, av⟩ := a
    cases b with
    | none =>
      refine ⟨fun p hp => by cases hp; exact k3, ?_⟩
      simp [stB, nxB, c_shared_out_1, c_shared_out_2, encB, g1, g2, s1, s2, avgP, lim_eq]
    | some p =>
      have s3 := sp_smaller_eq (ha p rfl) k3
      unfold avgP at s3
      by_cases q : p.2.1 * (avgP (f x) (c x)).2 < (avgP (f x) (c x)).1 * p.2.2
      · refine ⟨fun p' hp => ?_, ?_⟩
        · unfold nxB at hp
          simp only [q, decide_true, if_true] at hp
          cases hp; exact k3
        · unfold avgP at q
          simp [stB, nxB, c_shared_out_1, c_shared_out_2, encB, g1, g2, s1, s2, s3, avgP, lim_eq, q]
      · refine ⟨fun p' hp => ?_, ?_⟩
        · unfold nxB at hp
          simp only [q, decide_false] at hp
          cases hp; exact ha p rfl
        · unfold avgP at q
          simp [stB, nxB, c_shared_out_1, c_shared_out_2, encB, g1, g2, s1, s2, s3, avgP, lim_eq, q])
  have hp : pureL (ys.map fun x => encF (f x)) = true := pure_map fun x _ => rfl
  show (match frzT 8 (dW ys fun x => encF (f x)) (stB n W ys f c i5 (none, u, v)) with
    | some (.nd (.dK ks) _, s1) => some (ks.map keyTo, s1)
    | _ => none).bind _ = _
  rw [frz_nd_pure hp]
  show forEv _ _ ((kyS ys).map keyTo) _ = _
  rw [keyTo_ky]
  exact fl.1
abbrev FA := (Str → Int) × Option T × Option T × Option T × Option T
def stF (n : Int) (W : T) (ys : List Str) (f : Str → Fr) (a : FA) : S := ⟨[some (itT n), some W, some (dW ys fun x => encF (f x)), a.2.1, some (.ptr 0), a.2.2.1, a.2.2.2.1, a.2.2.2.2], [dWc ys fun x => itT (a.1 x)]⟩
def nxF (ys : List Str) (f : Str → Fr) (a : FA) (t : T) : FA :=
  (DH.stepV (ltF f) ys a.1, (ys.foldl (nxB f a.1) (none, a.2.1, a.2.2.2.2)).2.1, some t, some (encB (ys.foldl (nxB f a.1) (none, a.2.1, a.2.2.2.2)).1), (ys.foldl (nxB f a.1) (none, a.2.1, a.2.2.2.2)).2.2)
theorem run_put (a_UNIT : Addr) (k_UNIT : ∀ F, SqT K F a_UNIT [.int 1, .int 1]) {n : Int} {W : T} {ys : List Str} {f : Str → Fr} {c : Str → Int} {i5 : Option T} {a : BA} {b : Str} {z : Fr} (hb : b ∈ ys) (ha : a.1 = some (b, z)) (hl : ys.length < 60) :
    (c_shared_out_5 (K := K) a_UNIT k_UNIT).ex (stB n W ys f c i5 a) = some (.nx (stF n W ys f (DH.updF c b (c b + 1), a.2.1, i5, some (encB a.1), a.2.2))) := by
  have g2 := getD_map (f := fun x => itT (c x)) hb
  have p1 := putT_fst (f := fun x => itT (c x)) (v := itT (c b + 1)) hb
  have p2 := putT_snd (f := fun x => itT (c x)) (v := itT (c b + 1)) hb
  have hl2 : ys.length < 100000 := by omega
  have e : (ys.map fun x => if x = b then itT (c b + 1) else itT (c x)) = ys.map fun x => itT (DH.updF c b (c b + 1) x) := by
    refine List.map_congr_left fun x _ => ?_
    unfold DH.updF
    split <;> rfl
  rw [e] at p2
  simp only [stB, ha, encB]
  simp [c_shared_out_5, g2, hl2, lim_eq, p1, p2, stF, encB, ha]
theorem run_outer (a_UNIT : Addr) (k_UNIT : ∀ F, SqT K F a_UNIT [.int 1, .int 1]) {n : Int} {W : T} {ys : List Str} {f : Str → Fr} (n0 : 0 ≤ n) (n1 : n < 1048576) (hne : ys ≠ []) (hl : ys.length < 60) (hk : ∀ x ∈ ys, Fk 40 (f x)) (u v x y : Option T) :
    ∃ z : FA, z.1 = DH.iterV (ltF f) ys n.toNat ∧ (c_shared_out_9 (K := K) a_UNIT k_UNIT).ex (stF n W ys f ((fun _ => 0), u, v, x, y)) = some (.nx (stF n W ys f z)) := by
  have hml : (rngT 0 n.toNat).length = n.toNat := by simp [rngT]
  have fl := for_foldI (g := (CG.name (K := K) 5).f) (b := (CS.seq (c_shared_out_3 (K := K) a_UNIT k_UNIT) (CS.seq (c_shared_out_4 a_UNIT k_UNIT) (c_shared_out_5 a_UNIT k_UNIT))).ex) (stF n W ys f) (nxF ys f) (rngT 0 n.toNat) (fun i a => a.1 = DH.iterV (ltF f) ys i) ((fun _ => 0), u, v, x, y) rfl (fun i t a ht ha => by
    have hi : i < n.toNat := by rw [← hml]; exact (List.getElem?_eq_some_iff.mp ht).1
    obtain ⟨c, u, v, x, y⟩ := a
    have ha : c = DH.iterV (ltF f) ys i := ha
    refine ⟨by show DH.stepV (ltF f) ys c = _; rw [ha]; rfl, .inl ?_⟩
    have c0 : ∀ x, 0 ≤ c x := by rw [ha]; exact DH.iter_nonneg i
    have c1 : ∀ x, c x < 1048576 := fun x => by have := DH.iter_le (lt := ltF f) (xs := ys) i x; rw [ha]; omega
    have r1 := run_inner a_UNIT k_UNIT (n := n) (W := W) (i5 := some t) hk c0 c1 u y
    obtain ⟨b, hb⟩ := DH.pick_some (lt := ltF f c) hne
    have hz := nxB_pick f c ys u y
    rw [hb] at hz
    have r2 := run_put a_UNIT k_UNIT (n := n) (W := W) (f := f) (c := c) (i5 := some t) (DH.pick_mem hb) hz hl
    have hs : DH.stepV (ltF f) ys c = DH.updF c b (c b + 1) := DH.step_some hb
    have e1 : ((CG.name (K := K) 5).f t (stF n W ys f (c, u, v, x, y))).bind (c_shared_out_3 (K := K) a_UNIT k_UNIT).ex = some (.nx (stB n W ys f c (some t) (none, u, y))) := by
      simp [stF, stB, c_shared_out_3, encB]
    obtain ⟨sa, q1, q2⟩ := Option.bind_eq_some_iff.mp e1
    rw [q1, Option.bind_some, seq_ex, q2]
    show (CS.seq (c_shared_out_4 (K := K) a_UNIT k_UNIT) (c_shared_out_5 a_UNIT k_UNIT)).ex _ = _
    rw [seq_ex, r1]
    show (c_shared_out_5 (K := K) a_UNIT k_UNIT).ex _ = _
    rw [r2]
    unfold nxF
    rw [hs])
  obtain ⟨f1, f2⟩ := fl
  refine ⟨_, by rw [hml] at f2; exact f2, ?_⟩
  have h1 : -4611686018427387904 ≤ n ∧ n < 4611686018427387904 := by omega
  have e0 : (CI.rng1 (CA.cons (CE.var (K := K) 0) CA.nil)).ev (stF n W ys f ((fun _ => 0), u, v, x, y)) = some (rngT 0 n.toNat, stF n W ys f ((fun _ => 0), u, v, x, y)) := by
    simp [stF, h1]
  show ((CI.rng1 (CA.cons (CE.var (K := K) 0) CA.nil)).ev _).bind _ = _
  rw [e0]
  exact f1
theorem foundP_fk {xs : List Str} {w : Str → Fr} (h : ∀ x ∈ xs, Fk 40 (w x)) : ∀ x ∈ xs, Fk 40 (foundP xs w x) := by
  intro x hx
  unfold foundP
  split
  · exact h x hx
  · have k : Fk 40 ((1, 1) : Fr) := ⟨by decide, Bt.of (by decide) (by decide), by decide, Bt.of (by decide) (by decide)⟩
    exact k
theorem run_shared_out (a_UNIT : Addr) (k_UNIT : ∀ F, SqT K F a_UNIT [.int 1, .int 1]) : ∀ ts r, sp_shared_out ts = some r → pureL ts = true → FinV ((c_shared_out (K := K) a_UNIT k_UNIT).ex (S.v0 8 ts)) r := by
  refine spOf_run (ex := fun ts => (c_shared_out (K := K) a_UNIT k_UNIT).ex (S.v0 8 ts)) fun a ga => ?_
  obtain ⟨n, xs, w⟩ := a
  have n0 : 0 ≤ n := ga.n0
  have n1 : n < 1048576 := ga.n1
  have hl : xs.length < 60 := ga.len
  have hl2 : xs.length < 64 := by omega
  have hls : (sortS xs).length = xs.length := (sortS_perm xs).length_eq
  have hnd : (sortS xs).Nodup := (sortS_perm xs).nodup_iff.mpr ga.nd
  have hne : sortS xs ≠ [] := fun e => ga.ne (List.length_eq_zero_iff.mp (by rw [← hls, e]; rfl))
  have hk : ∀ x ∈ sortS xs, Fk 40 (w x) := fun x hx => ga.fk x (sortS_mem.mp hx)
  generalize hy : sortS xs = ys at *
  have pw : pureL (xs.map fun x => encF (w x)) = true := pure_map fun x _ => rfl
  have pys : pureL (ys.map stT) = true := pure_map fun x _ => rfl
  have pyw : pureL (ys.map fun x => encF (w x)) = true := pure_map fun x _ => rfl
  have d1 := dc_strs (g := (CG.name (K := K) 3).f) (c := (CT.yes (K := K)).ev) (ek := (CE.var (K := K) 3).ev) (e := (CE.sub (CE.var (K := K) 1) (CE.var 3)).ev) (wipeL [some (itT n), some (dW xs fun x => encF (w x)), none, none, none, none, none, none] [3]) [] (fun x => encF (w x)) hnd (fun x hx => by
    have g1 := getD_map (f := fun x => encF (w x)) (show x ∈ xs from sortS_mem.mp (hy ▸ hx))
    exact ⟨_, rfl, rfl, rfl, by simp [wipeL, g1], rfl⟩) (by rw [lim_eq]; omega)
  have f1 := fst_map (f := fun x => encF (w x)) ys
  have f2 := snd_map (f := fun x => encF (w x)) ys
  have h6 : (c_shared_out_6 (K := K) a_UNIT k_UNIT).ex ⟨[some (itT n), some (dW xs fun x => encF (w x)), none, none, none, none, none, none], []⟩ = some (.nx ⟨[some (itT n), some (dW xs fun x => encF (w x)), some (dW ys fun x => encF (w x)), none, none, none, none, none], []⟩) := by
    simp only [c_shared_out_6, CS.set, asg_ex, dc_ev, seqI_ev, call_ev, consA_ev, nilA_ev, var_ev, List.getElem?_cons_succ, List.getElem?_cons_zero, res_nd, Option.bind_some, sorted_dK, keyStrs_ky, hl2, if_true, allocT_f, hy, itSeqF_lst pys]
    rw [show (CG.name (K := K) 3).ws.all [3].contains = true from rfl, if_pos rfl]
    rw [d1]
    show some (Out.nx ⟨[_, _, some (T.nd (.dK (List.map _ _)) (List.map _ _)), _, _, _, _, _], _⟩) = _
    rw [f1, f2]
  have l7 := lc_over (g := (CG.name (K := K) 3).f) (c := (CT.yes (K := K)).ev) (e := (CE.op2 O2.gt (CE.call (ON.fn sp_signum) (CA.cons (CE.sub (CE.var (K := K) 2) (CE.var 3)) CA.nil)) (CE.int 0)).ev) stT (wipeL [some (itT n), some (dW xs fun x => encF (w x)), some (dW ys fun x => encF (w x)), none, none, none, none, none] [3]) [] (fun x => T.at (.bl (decide (0 < (w x).1)))) (xs := ys) (acc := []) (fun x hx => by
    have g1 := getD_map (f := fun x => encF (w x)) hx
    refine ⟨_, rfl, rfl, ?_, rfl⟩
    have sg := sp_signum_eq (a := w x)
    by_cases h0 : (w x).1 = 0
    · rw [h0, if_pos rfl] at sg
      simp [wipeL, g1, sg, h0]
    · rw [if_neg h0] at sg
      by_cases h1 : 0 < (w x).1
      · rw [if_pos h1] at sg
        simp [wipeL, g1, sg, h1]
      · rw [if_neg h1] at sg
        simp [wipeL, g1, sg, h1]) (by rw [lim_eq]; simp; omega)
  have d7 := dc_strs (g := (CG.name (K := K) 3).f) (c := (CT.yes (K := K)).ev) (ek := (CE.var (K := K) 3).ev) (e := (g_UNIT a_UNIT k_UNIT).ev) (wipeL [some (itT n), some (dW xs fun x => encF (w x)), some (dW ys fun x => encF (w x)), none, none, none, none, none] [3]) [] (fun x => encF ((1, 1) : Fr)) hnd (fun x hx => ⟨_, rfl, rfl, rfl, rfl, rfl⟩) (by rw [lim_eq]; omega)
  have f3 := fst_map (f := fun x => encF ((1, 1) : Fr)) ys
  have f4 := snd_map (f := fun x => encF ((1, 1) : Fr)) ys
  have key7 : (CI.keys (CE.var (K := K) 2)).ev ⟨[some (itT n), some (dW xs fun x => encF (w x)), some (dW ys fun x => encF (w x)), none, none, none, none, none], []⟩ = some (ys.map stT, ⟨[some (itT n), some (dW xs fun x => encF (w x)), some (dW ys fun x => encF (w x)), none, none, none, none, none], []⟩) := by
    show (match frzT 8 (dW ys fun x => encF (w x)) _ with
    | some (.nd (.dK ks) _, s1) => some (ks.map keyTo, s1)
    | _ => none) = _
    rw [frz_nd_pure pyw]
    show some ((kyS ys).map keyTo, _) = _
    rw [keyTo_ky]
  have h7 : (c_shared_out_7 (K := K) a_UNIT k_UNIT).ex ⟨[some (itT n), some (dW xs fun x => encF (w x)), some (dW ys fun x => encF (w x)), none, none, none, none, none], []⟩ = some (.nx ⟨[some (itT n), some (dW xs fun x => encF (w x)), some (dW ys fun x => encF (foundP ys w x)), none, none, none, none, none], []⟩) := by
    simp only [c_shared_out_7, ife_ex, not_ev, tru_ev, call_ev, consA_ev, nilA_ev, lc_ev, key7, Option.bind_some]
    rw [show (CG.name (K := K) 3).ws.all [3].contains = true from rfl, if_pos rfl, l7]
    simp only [List.nil_append, Option.map_some, allocT_f, Option.bind_some, any_nd]
    rw [bls_map (fun x => decide (0 < (w x).1)) ys]
    simp only [Option.map_some, truT_bl, List.any_map]
    unfold foundP
    by_cases q : (ys.any fun x => decide (0 < (w x).1)) = true
    · rw [show (ys.any (id ∘ fun x => decide (0 < (w x).1))) = true from q, if_pos q]
      rfl
    · have q2 : (ys.any (id ∘ fun x => decide (0 < (w x).1))) = false := Bool.eq_false_iff.mpr q
      rw [q2, if_neg q]
      simp only [truT_bl, Option.map_some, Bool.not_false, Option.bind_some, if_true, CS.set, asg_ex, dc_ev, key7]
      rw [show (CG.name (K := K) 3).ws.all [3].contains = true from rfl, if_pos rfl, d7]
      show some (Out.nx ⟨[_, _, some (T.nd (.dK (List.map _ _)) (List.map _ _)), _, _, _, _, _], _⟩) = _
      rw [f3, f4]
      rfl
  have pyf : pureL (ys.map fun x => encF (foundP ys w x)) = true := pure_map fun x _ => rfl
  have key8 : (CI.keys (CE.var (K := K) 2)).ev ⟨[some (itT n), some (dW xs fun x => encF (w x)), some (dW ys fun x => encF (foundP ys w x)), none, none, none, none, none], []⟩ = some (ys.map stT, ⟨[some (itT n), some (dW xs fun x => encF (w x)), some (dW ys fun x => encF (foundP ys w x)), none, none, none, none, none], []⟩) := by
    show (match frzT 8 (dW ys fun x => encF (foundP ys w x)) _ with
    | some (.nd (.dK ks) _, s1) => some (ks.map keyTo, s1)
    | _ => none) = _
    rw [frz_nd_pure pyf]
    show some ((kyS ys).map keyTo, _) = _
    rw [keyTo_ky]
  have d8 := dc_strs (g := (CG.name (K := K) 3).f) (c := (CT.yes (K := K)).ev) (ek := (CE.var (K := K) 3).ev) (e := (CE.int (K := K) 0).ev) (wipeL [some (itT n), some (dW xs fun x => encF (w x)), some (dW ys fun x => encF (foundP ys w x)), none, none, none, none, none] [3]) [] (fun x => itT 0) hnd (fun x hx => ⟨_, rfl, rfl, rfl, rfl, rfl⟩) (by rw [lim_eq]; omega)
  have f5 := fst_map (f := fun x => itT 0) ys
  have f6 := snd_map (f := fun x => itT 0) ys
  have h8 : (c_shared_out_8 (K := K) a_UNIT k_UNIT).ex ⟨[some (itT n), some (dW xs fun x => encF (w x)), some (dW ys fun x => encF (foundP ys w x)), none, none, none, none, none], []⟩ = some (.nx (stF n (dW xs fun x => encF (w x)) ys (foundP ys w) ((fun _ => 0), none, none, none, none))) := by
    simp only [c_shared_out_8, CS.set, asg_ex, dc_ev, key8, Option.bind_some]
    rw [show (CG.name (K := K) 3).ws.all [3].contains = true from rfl, if_pos rfl, d8]
    show some (Out.nx ⟨_, [.own (.dK (List.map _ _)) (List.map _ _)]⟩) = _
    rw [f5, f6]
    rfl
  have h9 := run_outer a_UNIT k_UNIT (n := n) (W := dW xs fun x => encF (w x)) n0 n1 hne (by omega) (foundP_fk hk) none none none none
  obtain ⟨z, hz, h9⟩ := h9
  show FinV ((c_shared_out (K := K) a_UNIT k_UNIT).ex ⟨[some (itT n), some (dW xs fun x => encF (w x)), none, none, none, none, none, none], []⟩) (.val (dW (sortS xs) fun x => itT (sharesP (n, xs, w) x)))
  have ez : sharesP (n, xs, w) = z.1 := by unfold sharesP; rw [hy, hz]
  have hex : (c_shared_out (K := K) a_UNIT k_UNIT).ex ⟨[some (itT n), some (dW xs fun x => encF (w x)), none, none, none, none, none, none], []⟩ = some (.rt (.ptr 0) (stF n (dW xs fun x => encF (w x)) ys (foundP ys w) z)) := by
    unfold c_shared_out
    rw [seq_ex, h6]
    show (CS.seq _ _).ex _ = _
    rw [seq_ex, h7]
    show (CS.seq _ _).ex _ = _
    rw [seq_ex, h8]
    show (CS.seq _ _).ex _ = _
    rw [seq_ex, h9]
    rfl
  rw [hex, ez, hy]
  refine ⟨(stF n (dW xs fun x => encF (w x)) ys (foundP ys w) z).fix 0 (.dK (kyS ys)) (ys.map fun x => itT (z.1 x)), ?_⟩
  show (if pureL (ys.map fun x => itT (z.1 x)) = true then _ else _) = _
  rw [if_pos (pure_map fun x _ => rfl)]
end
end K42
set_option Elab.async false
set_option linter.all false
set_option maxRecDepth 100000
set_option exponentiation.threshold 400
/-! K42: the law. -/
namespace K42
open PySem PySem.Spec PyProof.Rows L2 Z
theorem ap0 {hp l : List Cell} {c : Cell} : (hp ++ c :: l)[hp.length]? = some c := by simp
theorem ap1 {hp l : List Cell} {c c1 : Cell} : (hp ++ c :: c1 :: l)[hp.length + 1]? = some c1 := by rw [List.getElem?_append_right (by omega)]; simp
theorem ap2 {hp l : List Cell} {c c1 c2 : Cell} : (hp ++ c :: c1 :: c2 :: l)[hp.length + 2]? = some c2 := by rw [List.getElem?_append_right (by omega)]; simp
theorem ap3 {hp l : List Cell} {c c1 c2 c3 : Cell} : (hp ++ c :: c1 :: c2 :: c3 :: l)[hp.length + 3]? = some c3 := by rw [List.getElem?_append_right (by omega)]; simp
theorem ap4 {hp l : List Cell} {c c1 c2 c3 c4 : Cell} : (hp ++ c :: c1 :: c2 :: c3 :: c4 :: l)[hp.length + 4]? = some c4 := by rw [List.getElem?_append_right (by omega)]; simp
theorem se0 {hp l : List Cell} {c x : Cell} : (hp ++ c :: l).set hp.length x = hp ++ x :: l := by rw [List.set_append_right _ _ (by omega)]; simp
theorem se1 {hp l : List Cell} {c c1 x : Cell} : (hp ++ c :: c1 :: l).set (hp.length + 1) x = hp ++ c :: x :: l := by rw [List.set_append_right _ _ (by omega)]; simp
theorem se2 {hp l : List Cell} {c c1 c2 x : Cell} : (hp ++ c :: c1 :: c2 :: l).set (hp.length + 2) x = hp ++ c :: c1 :: x :: l := by rw [List.set_append_right _ _ (by omega)]; simp
theorem se3 {hp l : List Cell} {c c1 c2 c3 x : Cell} : (hp ++ c :: c1 :: c2 :: c3 :: l).set (hp.length + 3) x = hp ++ c :: c1 :: c2 :: x :: l := by rw [List.set_append_right _ _ (by omega)]; simp
theorem se4 {hp l : List Cell} {c c1 c2 c3 c4 x : Cell} : (hp ++ c :: c1 :: c2 :: c3 :: c4 :: l).set (hp.length + 4) x = hp ++ c :: c1 :: c2 :: c3 :: x :: l := by rw [List.set_append_right _ _ (by omega)]; simp
theorem cellP_ok {ns : List Int} {k : Int} (h : ∀ z ∈ ns, Bt z 1048577) : 0 ≤ cellP ns k ∧ Bt (cellP ns k) 1048579 := by
  have cb : Bt (if 0 < (ns.length : Int) then ns.getD (k.fmod ns.length).toNat 0 else 0) 1048577 := by
    split
    · next hl =>
      have := fmod_range (x := k) hl
      have hl2 : (k.fmod ns.length).toNat < ns.length := by omega
      rw [List.getD_eq_getElem?_getD, List.getElem?_eq_getElem hl2]
      exact h _ (List.getElem_mem hl2)
    · exact bt_const (by decide +kernel)
  have e : cellP ns k = if (if 0 < (ns.length : Int) then ns.getD (k.fmod ns.length).toNat 0 else 0) < 0 then 1 - 2 * (if 0 < (ns.length : Int) then ns.getD (k.fmod ns.length).toNat 0 else 0) else (if 0 < (ns.length : Int) then ns.getD (k.fmod ns.length).toNat 0 else 0) := rfl
  rw [e]
  generalize (if 0 < (ns.length : Int) then ns.getD (k.fmod ns.length).toNat 0 else 0) = c at cb
  split
  · refine ⟨by omega, ?_⟩
    unfold Bt at *
    rw [show (1048579 : Nat) = 1048577 + 2 from rfl, Nat.pow_add]
    omega
  · exact ⟨by omega, cb.mono (by decide)⟩
theorem stateP_ok {ns : List Int} {k salt : Int} (h : LSOk ns k salt) : StOk (stateP ns k salt) := by
  obtain ⟨c0, c1⟩ := cellP_ok (k := k) h.bits
  have k0 := h.k0
  have k1 := h.k1
  have s0 := h.s0
  have s1 := h.s1
  unfold stateP
  split
  · exact ⟨c0, by show 0 ≤ salt + 1; omega, c1.mono (by decide), (Bt.of (n := 20) (by show 0 ≤ salt + 1; omega) (by show salt + 1 < 2 ^ 20; omega)).mono (by decide)⟩
  · refine ⟨by show (0 : Int) ≤ 0; decide, ?_, by show Bt (0 : Int) sdN; exact bt_const (by decide +kernel), ?_⟩
    · show 0 ≤ cellP ns k * 61 + 7919 * k + 104729 * salt + 1
      have := Int.mul_nonneg c0 (show (0 : Int) ≤ 61 by decide)
      omega
    · show Bt (cellP ns k * 61 + 7919 * k + 104729 * salt + 1) sdN
      have b1 : Bt (cellP ns k * 61) 1048589 := c1.mul (m := 10) (bt_const (by decide))
      have b2 : Bt (7919 * k) 1048589 := (Bt.of (n := 40) (by omega) (by omega)).mono (by decide)
      have b3 : Bt (104729 * salt) 1048590 := (Bt.of (n := 40) (by omega) (by omega)).mono (by decide)
      have b4 : Bt (1 : Int) 1048591 := Bt.mono (n := 1) (bt_const (by decide)) (by decide)
      exact (((b1.add b2).add b3).add b4).mono (by decide)
/-- drawn one by one, as a function of the names -/
theorem scan_fun {st : Sd} (h : StOk st) {m : Int} (h0 : 0 < m) (h1 : m < 1000000) : ∀ (names : List Str), names.Nodup →
    ∃ W : Str → Int, (∀ x, 0 ≤ W x ∧ W x < m) ∧ (scan (fun st (x : Str) => ((drawP st m).2, T.nd .tup [stT x, itT (drawP st m).1])) names st).1 = names.map (fun x => T.nd .tup [stT x, itT (W x)]) := by
  intro names
  induction names generalizing st with
  | nil => intro _; exact ⟨fun _ => 0, fun _ => ⟨Int.le_refl _, h0⟩, rfl⟩
  | cons n names ih =>
    intro hn
    rw [List.nodup_cons] at hn
    have d := drawP_ok h h0 h1
    obtain ⟨W, w1, w2⟩ := ih d.1 hn.2
    refine ⟨DH.updF W n (drawP st m).1, fun x => ?_, ?_⟩
    · unfold DH.updF
      split
      · exact d.2
      · exact w1 x
    · show T.nd .tup [stT n, itT (drawP st m).1] :: (scan _ names (drawP st m).2).1 = _
      rw [w2, List.map_cons, DH.updF_same]
      refine congrArg _ (List.map_congr_left fun x hx => ?_)
      rw [DH.updF_ne fun (e : x = n) => hn.1 (e ▸ hx)]
theorem eqd_dK {n : Bool} {ks : List Key} {ts : List T} {u : T} {s : S} : eqdF n (.nd (.dK ks) ts) u s = none := rfl
theorem eqk_nd {n : Bool} {ks ls : List Key} {ts us : List T} {s : S} : eqkF n (.nd (.dK ks) ts) (.nd (.dK ls) us) s = if dictSame ks ts ls us = true then some (.at (.bl (!n)), s) else none := rfl
theorem dictSame_map {xs ys : List Str} {c d : Str → Int} (hl : xs.length = ys.length) (h : ∀ x ∈ xs, x ∈ ys ∧ c x = d x) : dictSame (kyS xs) (xs.map fun x => itT (c x)) (kyS ys) (ys.map fun x => itT (d x)) = true := by
  unfold dictSame
  rw [Bool.and_eq_true, List.all_eq_true]
  refine ⟨decide_eq_true (by rw [List.length_map, List.length_map, hl]), fun p hp => ?_⟩
  have hz : ∀ zs : List Str, (kyS zs).zip (zs.map fun x => itT (c x)) = zs.map fun x => ((Sum.inr x : Key), itT (c x)) := by
    intro zs
    induction zs with
    | nil => rfl
    | cons z zs ih => exact congrArg ((Sum.inr z, itT (c z)) :: ·) ih
  rw [hz] at hp
  obtain ⟨x, hx, rfl⟩ := List.mem_map.mp hp
  obtain ⟨h1, h2⟩ := h x hx
  have g := getD_map (f := fun x => itT (d x)) h1
  show (flatB (.int (c x)) && match getD' (kyS ys) (ys.map fun x => itT (d x)) (.inr x) with
    | some (.at u) => decide (u = .int (c x))
    | _ => false) = true
  rw [g, h2]
  show (flatB (.int (d x)) && decide (V.int (d x) = V.int (d x))) = true
  simp [flatB]
def toldP (by' : Fr) (W : Str → Int) (x : Str) : Fr := fracP (by'.1 * W x) (by'.2 * 1)
theorem told_ok {by' : Fr} {W : Str → Int} (hb : Fk 20 by') (hw : ∀ x, 0 ≤ W x ∧ W x < 10) (x : Str) : Fk 40 (toldP by' W x) ∧ Eqv (toldP by' W x) (by'.1 * W x) by'.2 := by
  have k1 : Fk 20 (W x, (1 : Int)) := ⟨(hw x).1, Bt.of (hw x).1 (by show W x < 2 ^ 20; have := (hw x).2; omega), by show (0 : Int) < 1; decide, by show Bt (1 : Int) _; exact bt_const (by decide)⟩
  have := fracP_ok (Fk.mul (n := 20) (m := 20) hb k1)
  refine ⟨this.1, ?_⟩
  have e := this.2
  rw [Int.mul_one] at e
  unfold toldP
  rw [Int.mul_one]
  exact e
theorem sum_perm {l l' : List Int} (p : l.Perm l') : l.sum = l'.sum := by
  induction p with
  | nil => rfl
  | cons x _ ih => rw [List.sum_cons, List.sum_cons, ih]
  | swap x y l => rw [List.sum_cons, List.sum_cons, List.sum_cons, List.sum_cons]; omega
  | trans _ _ h1 h2 => exact h1.trans h2
theorem nm_ok : ∀ i : Nat, i < 8 → PyData.strOk (nmP "n" (i : Int)) = true := by decide +kernel
theorem canAll {zs : List Str} (h : ∀ x ∈ zs, PyData.strOk x = true) : PyData.canLayAll0 (zs.map PyData.str) = true := by
  induction zs with
  | nil => rfl
  | cons z zs ih =>
    show (PyData.strOk z && PyData.canLayAll0 (zs.map PyData.str)) = true
    rw [h z List.mem_cons_self, ih fun x hx => h x (List.mem_cons_of_mem _ hx)]
    rfl
theorem toPyL_strs : ∀ zs : List Str, toPyL (zs.map stT) = some (zs.map PyData.str)
  | [] => by simp [toPyL]
  | z :: zs => by
    have ih := toPyL_strs zs
    rw [List.map_cons, toPyL, ih]
    rfl
theorem depth_strs : ∀ zs : List Str, PyData.depthAll (zs.map PyData.str) = 0
  | [] => rfl
  | z :: zs => by
    show max 0 (PyData.depthAll (zs.map PyData.str)) = 0
    rw [depth_strs zs]; rfl
theorem eqd_strs {zs : List Str} {n : Bool} {s : S} (h : ∀ x ∈ zs, PyData.strOk x = true) : eqdF n (.nd .lst (zs.map stT)) (.nd .lst []) s = some (.at (.bl (if n then !zs.isEmpty else zs.isEmpty)), s) := by
  have e1 : toPyS (.nd .lst (zs.map stT)) s = some (.list (zs.map PyData.str)) := by
    show toPy (.nd .lst (zs.map stT)) = _
    rw [toPy, toPyL_strs]; rfl
  have e2 : toPyS (.nd .lst []) s = some (.list []) := by
    show toPy (.nd .lst []) = _
    rw [toPy, toPyL]; rfl
  have s1 : SeqAt.shaped (.list (zs.map PyData.str)) = true := by
    show (PyData.canLayAll0 (zs.map PyData.str) && decide (PyData.depthAll (zs.map PyData.str) + 1 ≤ 64)) = true
    rw [canAll h, depth_strs]; rfl
  unfold eqdF
  rw [e1, e2]
  show (if SeqAt.shaped _ = true ∧ SeqAt.shaped (.list []) = true then _ else _) = _
  rw [if_pos ⟨s1, rfl⟩]
  cases zs <;> cases n <;> rfl
theorem sumW_le {W : Str → Int} (hw : ∀ x, 0 ≤ W x ∧ W x < 10) : ∀ names : List Str, 0 ≤ (names.map W).sum ∧ (names.map W).sum ≤ 9 * names.length
  | [] => by simp
  | x :: xs => by
    have ih := sumW_le hw xs
    have := hw x
    rw [List.map_cons, List.sum_cons, List.length_cons]
    omega
section
variable {P : Program} {w : World} {K : PySem.W.Frag} {mg : Str → Option Value} {base : Heap}
/-! ### law -/
abbrev st_law : Stmt := topS 14
abbrev N_law : List Str := ["script", "k", "state", "names", "weights", "name", "by", "told", "whole", "many", "exact", "now", "coin", "best", "some", "alone", "coins", "order", "even", "at", "lone", "wide"]
abbrev P_law : List Str := ["script"]
theorem sc_law : FnScope N_law P_law (defScope st_law) := ⟨rfl, rfl, rfl, by decide +kernel, rfl, by decide +kernel, by decide +kernel⟩
noncomputable def c_law_1 : CS K :=
    (CS.set 13 CE.non)
noncomputable def c_law_2 : CS K :=
    (CS.for (CI.seq (CE.call (ON.sorted false) (CA.cons (CE.var 3) CA.nil))) (CG.name 5) (CS.ife (CT.or (CT.ofE (CE.op2 O2.isN (CE.var 13) CE.non)) (CT.ofE (CE.op2 O2.gt (CE.op2 O2.mul (CE.sub (CE.var 4) (CE.var 5)) (CE.op2 (O2.add false) (CE.sub (CE.var 11) (CE.var 13)) (CE.int 1))) (CE.op2 O2.mul (CE.sub (CE.var 4) (CE.var 13)) (CE.op2 (O2.add false) (CE.sub (CE.var 11) (CE.var 5)) (CE.int 1)))))) (CS.set 13 (CE.var 5)) CS.pass))
noncomputable def c_law_3 : CS K :=
    (CS.sub (CE.var 11) (CE.var 13) (CE.op2 (O2.add false) (CE.sub (CE.var 11) (CE.var 13)) (CE.int 1)))
noncomputable def c_law_4 : CS K :=
    (CS.ife (CT.ofE (CE.eq true (CE.call (ON.fn sp_shared_out) (CA.cons (CE.op2 (O2.add false) (CE.op2 (O2.add false) (CE.op2 O2.mul (CE.var 9) (CE.var 8)) (CE.var 12)) (CE.int 1)) (CA.cons (CE.call (ON.dict false) (CA.cons (CE.var 7) CA.nil)) CA.nil))) (CE.var 11))) (CS.ret (CE.bl false)) CS.pass)
noncomputable def c_law_5 : CS K :=
    (CS.set 15 (CE.call (ON.fn sp_shared_out) (CA.cons (CE.call (ON.sum) (CA.cons (CE.lc false [5] (CI.seq (CE.var 14)) (CG.name 5) CT.yes (CE.sub (CE.var 11) (CE.var 5))) CA.nil)) (CA.cons (CE.call (ON.dict false) (CA.cons (CE.lc false [5] (CI.seq (CE.var 14)) (CG.name 5) CT.yes (CE.tup (CA.cons (CE.var 5) (CA.cons (CE.sub (CE.var 7) (CE.var 5)) CA.nil)))) CA.nil)) CA.nil))))
noncomputable def c_law_6 : CS K :=
    (CS.ife (CT.ofE (CE.eq true (CE.var 15) (CE.call (ON.dict false) (CA.cons (CE.lc false [5] (CI.seq (CE.var 14)) (CG.name 5) CT.yes (CE.tup (CA.cons (CE.var 5) (CA.cons (CE.sub (CE.var 11) (CE.var 5)) CA.nil)))) CA.nil)))) (CS.ret (CE.bl false)) CS.pass)
noncomputable def c_law_7 : CS K :=
    (CS.set 2 (CE.call (ON.fn sp_law_state) (CA.cons (CE.var 0) (CA.cons (CE.var 1) (CA.cons (CE.int 43) CA.nil)))))
noncomputable def c_law_8 : CS K :=
    (CS.set 3 (CE.call (ON.fnR sp_law_names) (CA.cons (CE.var 2) (CA.cons (CE.str ("n" : Str)) (CA.cons (CE.op2 (O2.add false) (CE.int 1) (CE.call (ON.fnR sp_law_draw) (CA.cons (CE.var 2) (CA.cons (CE.int 8) CA.nil)))) CA.nil)))))
noncomputable def c_law_9 : CS K :=
    (CS.set 4 (CE.call (ON.dict true) (CA.cons (CE.lc false [5] (CI.seq (CE.var 3)) (CG.name 5) CT.yes (CE.tup (CA.cons (CE.var 5) (CA.cons (CE.call (ON.fnR sp_law_draw) (CA.cons (CE.var 2) (CA.cons (CE.int 10) CA.nil))) CA.nil)))) CA.nil)))
noncomputable def c_law_10 : CS K :=
    (CS.sub (CE.var 4) (CE.sub (CE.var 3) (CE.int 0)) (CE.op2 (O2.add false) (CE.int 1) (CE.call (ON.fnR sp_law_draw) (CA.cons (CE.var 2) (CA.cons (CE.int 9) CA.nil)))))
noncomputable def c_law_11 : CS K :=
    (CS.set 6 (CE.call (ON.fn sp_frac) (CA.cons (CE.op2 (O2.add false) (CE.int 1) (CE.call (ON.fnR sp_law_draw) (CA.cons (CE.var 2) (CA.cons (CE.int 9) CA.nil)))) (CA.cons (CE.op2 (O2.add false) (CE.int 1) (CE.call (ON.fnR sp_law_draw) (CA.cons (CE.var 2) (CA.cons (CE.int 9) CA.nil)))) CA.nil))))
noncomputable def c_law_12 : CS K :=
    (CS.set 7 (CE.call (ON.dict false) (CA.cons (CE.lc false [5] (CI.seq (CE.var 3)) (CG.name 5) CT.yes (CE.tup (CA.cons (CE.var 5) (CA.cons (CE.call (ON.fn sp_mul) (CA.cons (CE.var 6) (CA.cons (CE.tup (CA.cons (CE.sub (CE.var 4) (CE.var 5)) (CA.cons (CE.int 1) CA.nil))) CA.nil))) CA.nil)))) CA.nil)))
noncomputable def c_law_13 : CS K :=
    (CS.set 8 (CE.call (ON.sum) (CA.cons (CE.lc false [5] (CI.seq (CE.var 3)) (CG.name 5) CT.yes (CE.sub (CE.var 4) (CE.var 5))) CA.nil)))
noncomputable def c_law_14 : CS K :=
    (CS.set 9 (CE.call (ON.fnR sp_law_draw) (CA.cons (CE.var 2) (CA.cons (CE.int 7) CA.nil))))
noncomputable def c_law_15 : CS K :=
    (CS.set 10 (CE.call (ON.fn sp_shared_out) (CA.cons (CE.op2 O2.mul (CE.var 9) (CE.var 8)) (CA.cons (CE.call (ON.dict false) (CA.cons (CE.var 7) CA.nil)) CA.nil))))
noncomputable def c_law_16 : CS K :=
    (CS.ife (CT.ofE (CE.eq true (CE.var 10) (CE.call (ON.dict false) (CA.cons (CE.lc false [5] (CI.seq (CE.var 3)) (CG.name 5) CT.yes (CE.tup (CA.cons (CE.var 5) (CA.cons (CE.op2 O2.mul (CE.var 9) (CE.sub (CE.var 4) (CE.var 5))) CA.nil)))) CA.nil)))) (CS.ret (CE.bl false)) CS.pass)
noncomputable def c_law_17 : CS K :=
    (CS.set 11 (CE.call (ON.dict true) (CA.cons (CE.var 10) CA.nil)))
noncomputable def c_law_18 : CS K :=
    (CS.for (CI.rng1 (CA.cons (CE.call (ON.min2) (CA.cons (CE.var 8) (CA.cons (CE.int 12) CA.nil))) CA.nil)) (CG.name 12) (CS.seq (c_law_1)
    (CS.seq (c_law_2)
    (CS.seq (c_law_3)
    (c_law_4)))))
noncomputable def c_law_19 : CS K :=
    (CS.set 14 (CE.slc false (CE.call (ON.sorted false) (CA.cons (CE.var 3) CA.nil)) CP.no (CP.of (CE.op2 (O2.add false) (CE.int 1) (CE.call (ON.fnR sp_law_draw) (CA.cons (CE.var 2) (CA.cons (CE.call (ON.len) (CA.cons (CE.var 3) CA.nil)) CA.nil)))))))
noncomputable def c_law_20 : CS K :=
    (CS.ife (CT.ofE (CE.eq true (CE.lc false [5] (CI.seq (CE.var 14)) (CG.name 5) (CT.ofE (CE.op2 O2.gt (CE.sub (CE.var 4) (CE.var 5)) (CE.int 0))) (CE.var 5)) (CE.lst false CA.nil))) (CS.seq (c_law_5)
    (c_law_6)) CS.pass)
noncomputable def c_law_21 : CS K :=
    (CS.set 16 (CE.call (ON.fnR sp_law_draw) (CA.cons (CE.var 2) (CA.cons (CE.int 40) CA.nil))))
noncomputable def c_law_22 : CS K :=
    (CS.set 17 (CE.call (ON.sorted false) (CA.cons (CE.var 3) CA.nil)))
noncomputable def c_law_23 : CS K :=
    (CS.set 18 (CE.call (ON.dict false) (CA.cons (CE.lc false [19] (CI.rng1 (CA.cons (CE.call (ON.len) (CA.cons (CE.var 17) CA.nil)) CA.nil)) (CG.name 19) CT.yes (CE.tup (CA.cons (CE.sub (CE.var 17) (CE.var 19)) (CA.cons (CE.op2 (O2.add false) (CE.op2 O2.fdiv (CE.var 16) (CE.call (ON.len) (CA.cons (CE.var 17) CA.nil))) (CE.call (ON.int) (CA.cons (CE.op2 O2.lt (CE.var 19) (CE.op2 O2.mod (CE.call (ON.int) (CA.cons (CE.var 16) CA.nil)) (CE.call (ON.len) (CA.cons (CE.var 17) CA.nil)))) CA.nil))) CA.nil)))) CA.nil)))
noncomputable def c_law_24 : CS K :=
    (CS.ife (CT.or (CT.ofE (CE.eq true (CE.call (ON.fn sp_shared_out) (CA.cons (CE.var 16) (CA.cons (CE.call (ON.dict false) (CA.cons (CE.lc false [5] (CI.seq (CE.var 3)) (CG.name 5) CT.yes (CE.tup (CA.cons (CE.var 5) (CA.cons (CE.tup (CA.cons (CE.int 0) (CA.cons (CE.int 1) CA.nil))) CA.nil)))) CA.nil)) CA.nil))) (CE.var 18))) (CT.ofE (CE.eq true (CE.call (ON.fn sp_shared_out) (CA.cons (CE.var 16) (CA.cons (CE.call (ON.dict false) (CA.cons (CE.lc false [5] (CI.seq (CE.var 3)) (CG.name 5) CT.yes (CE.tup (CA.cons (CE.var 5) (CA.cons (CE.var 6) CA.nil)))) CA.nil)) CA.nil))) (CE.var 18)))) (CS.ret (CE.bl false)) CS.pass)
noncomputable def c_law_25 : CS K :=
    (CS.set 20 (CE.call (ON.dict true) (CA.cons (CE.var 7) CA.nil)))
noncomputable def c_law_26 : CS K :=
    (CS.sub (CE.var 20) (CE.str ("zz" : Str)) (CE.tup (CA.cons (CE.int 0) (CA.cons (CE.int 1) CA.nil))))
noncomputable def c_law_27 : CS K :=
    (CS.set 21 (CE.call (ON.dict true) (CA.cons (CE.var 10) CA.nil)))
noncomputable def c_law_28 : CS K :=
    (CS.sub (CE.var 21) (CE.str ("zz" : Str)) (CE.int 0))
noncomputable def c_law_29 : CS K :=
    (CS.ife (CT.ofE (CE.eq true (CE.call (ON.fn sp_shared_out) (CA.cons (CE.op2 O2.mul (CE.var 9) (CE.var 8)) (CA.cons (CE.var 20) CA.nil))) (CE.var 21))) (CS.ret (CE.bl false)) CS.pass)
noncomputable def c_law_30 : CS K :=
    (CS.for (CI.rng1 (CA.cons (CE.call (ON.min2) (CA.cons (CE.int 6) (CA.cons (CE.op2 (O2.add false) (CE.int 1) (CE.call (ON.len) (CA.cons (CE.var 0) CA.nil))) CA.nil))) CA.nil)) (CG.name 1) (CS.seq (c_law_7)
    (CS.seq (c_law_8)
    (CS.seq (c_law_9)
    (CS.seq (c_law_10)
    (CS.seq (c_law_11)
    (CS.seq (c_law_12)
    (CS.seq (c_law_13)
    (CS.seq (c_law_14)
    (CS.seq (c_law_15)
    (CS.seq (c_law_16)
    (CS.seq (c_law_17)
    (CS.seq (c_law_18)
    (CS.seq (c_law_19)
    (CS.seq (c_law_20)
    (CS.seq (c_law_21)
    (CS.seq (c_law_22)
    (CS.seq (c_law_23)
    (CS.seq (c_law_24)
    (CS.seq (c_law_25)
    (CS.seq (c_law_26)
    (CS.seq (c_law_27)
    (CS.seq (c_law_28)
    (c_law_29))))))))))))))))))))))))
noncomputable def c_law_31 : CS K :=
    (CS.ret (CE.bl true))
noncomputable def c_law : CS K :=
    (CS.seq (c_law_30)
    (c_law_31))
set_option maxHeartbeats 4000000 in
theorem d_law {k : Nat} {f : Addr} (q_law_state : C8.Cal P w K mg base k "_law_state" (SpV K sp_law_state) []) (q_law_names : C8.Cal P w K mg base k "_law_names" (SpR K sp_law_names) []) (q_law_draw : C8.Cal P w K mg base k "_law_draw" (SpR K sp_law_draw) []) (q_frac : C8.Cal P w K mg base k "frac" (SpV K sp_frac) []) (q_mul : C8.Cal P w K mg base k "mul" (SpV K sp_mul) []) (q_shared_out : C8.Cal P w K mg base k "shared_out" (SpV K sp_shared_out) []) (m_dict : mg "dict" = none) (m_sum : mg "sum" = none) (m_sorted : mg "sorted" = none) (m_range : mg "range" = none) (m_min : mg "min" = none) (m_len : mg "len" = none) (m_int : mg "int" = none) : Deriv P w K mg base N_law "law" st_law f k (c_law) := fun cdv A outer s H E hr => by
  apply pss_to
  · exact (pss_cons (by (apply ps_to (K := K) (c_law_30)); (exact (ps_for PassesOwn.never rfl (pi_range1 (by rfl) m_range (pa_cons (pe_callB (cK (fun K => (ON.min2 (K := K)).r) (K := K) rfl (call_min2 rfl)) (by rfl) m_min (by decide +kernel) (pa_cons pe_int (pa_cons (pe_op (oK (fun K => (O2.add (K := K) false).r) (K := K) rfl o_add) pe_int (pe_callB (cK (fun K => (ON.len (K := K)).r) (K := K) rfl c_len) (by rfl) m_len (by decide +kernel) (pa_cons (pv 0) pa_nil))) pa_nil))) pa_nil)) (pg_name (i := 1) sc_law.nd rfl (.inl rfl)) (pss_cons (by (apply ps_to (K := K) (c_law_7)); (exact (ps_set (i := 2) sc_law.nd rfl (.inr rfl) (C8.pe_c q_law_state hr (Nat.le_refl _) (by rfl) (pa_cons (pv 0) (pa_cons (pv 1) (pa_cons pe_int pa_nil)))))); (exact rfl))
    (pss_cons (by (apply ps_to (K := K) (c_law_8)); (exact (ps_set (i := 3) sc_law.nd rfl (.inl rfl) (C8.pe_c q_law_names hr (Nat.le_refl _) (by rfl) (pa_cons (pv 2) (pa_cons pe_str (pa_cons (pe_op (oK (fun K => (O2.add (K := K) false).r) (K := K) rfl o_add) pe_int (C8.pe_c q_law_draw hr (Nat.le_refl _) (by rfl) (pa_cons (pv 2) (pa_cons pe_int pa_nil)))) pa_nil)))))); (exact rfl))
    (pss_cons (by (apply ps_to (K := K) (c_law_9)); (exact (ps_set (i := 4) sc_law.nd rfl (.inr rfl) (pe_callTy (cK (fun K => (ON.dict (K := K) true).r) (K := K) rfl (c_dict (own := true) rfl)) (by rfl) m_dict (by decide +kernel) (pa_cons (pe_lc (own := [("name", 5)]) rfl sc_law.nd (pi_seqK (K := K) rfl (pv 3)) (blkB (own := [("name", 5)]) (N := N_law) (sc := defScope st_law) rfl (by decide +kernel)) (fun _ _ _ _ _ => (pg_name (i := 5) sc_law.nd rfl (by first | exact Or.inl rfl | exact Or.inr rfl))) (fun _ _ _ _ _ => pts_nil) (fun _ _ _ _ _ => (pe_tup (pa_cons (pv 5) (pa_cons (C8.pe_c q_law_draw hr (Nat.le_refl _) (by rfl) (pa_cons (pv 2) (pa_cons pe_int pa_nil))) pa_nil))))) pa_nil)))); (exact rfl))
    (pss_cons (by (apply ps_to (K := K) (c_law_10)); (exact (ps_subZ (hu_of hr) (pv 4) (pe_subK (K := K) rfl (hu_of hr) (pv 3) pe_int (fun _ _ => rfl)) (pe_op (oK (fun K => (O2.add (K := K) false).r) (K := K) rfl o_add) pe_int (C8.pe_c q_law_draw hr (Nat.le_refl _) (by rfl) (pa_cons (pv 2) (pa_cons pe_int pa_nil)))) (by intro _; rfl) rfl rfl rfl rfl)); (exact rfl))
    (pss_cons (by (apply ps_to (K := K) (c_law_11)); (exact (ps_set (i := 6) sc_law.nd rfl (.inr rfl) (C8.pe_c q_frac hr (Nat.le_refl _) (by rfl) (pa_cons (pe_op (oK (fun K => (O2.add (K := K) false).r) (K := K) rfl o_add) pe_int (C8.pe_c q_law_draw hr (Nat.le_refl _) (by rfl) (pa_cons (pv 2) (pa_cons pe_int pa_nil)))) (pa_cons (pe_op (oK (fun K => (O2.add (K := K) false).r) (K := K) rfl o_add) pe_int (C8.pe_c q_law_draw hr (Nat.le_refl _) (by rfl) (pa_cons (pv 2) (pa_cons pe_int pa_nil)))) pa_nil))))); (exact rfl))
    (pss_cons (by (apply ps_to (K := K) (c_law_12)); (exact (ps_set (i := 7) sc_law.nd rfl (.inr rfl) (pe_callTy (cK (fun K => (ON.dict (K := K) false).r) (K := K) rfl (c_dict (own := false) rfl)) (by rfl) m_dict (by decide +kernel) (pa_cons (pe_lc (own := [("name", 5)]) rfl sc_law.nd (pi_seqK (K := K) rfl (pv 3)) (blkB (own := [("name", 5)]) (N := N_law) (sc := defScope st_law) rfl (by decide +kernel)) (fun _ _ _ _ _ => (pg_name (i := 5) sc_law.nd rfl (by first | exact Or.inl rfl | exact Or.inr rfl))) (fun _ _ _ _ _ => pts_nil) (fun _ _ _ _ _ => (pe_tup (pa_cons (pv 5) (pa_cons (C8.pe_c q_mul hr (Nat.le_refl _) (by rfl) (pa_cons (pv 6) (pa_cons (pe_tup (pa_cons (pe_subK (K := K) rfl (hu_of hr) (pv 4) (pv 5) (fun _ _ => rfl)) (pa_cons pe_int pa_nil))) pa_nil))) pa_nil))))) pa_nil)))); (exact rfl))
    (pss_cons (by (apply ps_to (K := K) (c_law_13)); (exact (ps_set (i := 8) sc_law.nd rfl (.inl rfl) (pe_callB (cK (fun K => (ON.sum (K := K)).r) (K := K) rfl (cr_sum rfl)) (by rfl) m_sum (by decide +kernel) (pa_cons (pe_lc (own := [("name", 5)]) rfl sc_law.nd (pi_seqK (K := K) rfl (pv 3)) (blkB (own := [("name", 5)]) (N := N_law) (sc := defScope st_law) rfl (by decide +kernel)) (fun _ _ _ _ _ => (pg_name (i := 5) sc_law.nd rfl (by first | exact Or.inl rfl | exact Or.inr rfl))) (fun _ _ _ _ _ => pts_nil) (fun _ _ _ _ _ => (pe_subK (K := K) rfl (hu_of hr) (pv 4) (pv 5) (fun _ _ => rfl)))) pa_nil)))); (exact rfl))
    (pss_cons (by (apply ps_to (K := K) (c_law_14)); (exact (ps_set (i := 9) sc_law.nd rfl (.inr rfl) (C8.pe_c q_law_draw hr (Nat.le_refl _) (by rfl) (pa_cons (pv 2) (pa_cons pe_int pa_nil))))); (exact rfl))
    (pss_cons (by (apply ps_to (K := K) (c_law_15)); (exact (ps_set (i := 10) sc_law.nd rfl (.inl rfl) (C8.pe_c q_shared_out hr (Nat.le_refl _) (by rfl) (pa_cons (pe_op (oK (fun K => (O2.mul (K := K)).r) (K := K) rfl o_mul) (pv 9) (pv 8)) (pa_cons (pe_callTy (cK (fun K => (ON.dict (K := K) false).r) (K := K) rfl (c_dict (own := false) rfl)) (by rfl) m_dict (by decide +kernel) (pa_cons (pv 7) pa_nil)) pa_nil))))); (exact rfl))
    (pss_cons (by (apply ps_to (K := K) (c_law_16)); (exact (ps_if (pt_neK (K := K) rfl hr.units (pv 10) (pe_callTy (cK (fun K => (ON.dict (K := K) false).r) (K := K) rfl (c_dict (own := false) rfl)) (by rfl) m_dict (by decide +kernel) (pa_cons (pe_lc (own := [("name", 5)]) rfl sc_law.nd (pi_seqK (K := K) rfl (pv 3)) (blkB (own := [("name", 5)]) (N := N_law) (sc := defScope st_law) rfl (by decide +kernel)) (fun _ _ _ _ _ => (pg_name (i := 5) sc_law.nd rfl (by first | exact Or.inl rfl | exact Or.inr rfl))) (fun _ _ _ _ _ => pts_nil) (fun _ _ _ _ _ => (pe_tup (pa_cons (pv 5) (pa_cons (pe_op (oK (fun K => (O2.mul (K := K)).r) (K := K) rfl o_mul) (pv 9) (pe_subK (K := K) rfl (hu_of hr) (pv 4) (pv 5) (fun _ _ => rfl))) pa_nil))))) pa_nil))) (pss_one (ps_ret pe_bl)) pss_nil)); (exact rfl))
    (pss_cons (by (apply ps_to (K := K) (c_law_17)); (exact (ps_set (i := 11) sc_law.nd rfl (.inr rfl) (pe_callTy (cK (fun K => (ON.dict (K := K) true).r) (K := K) rfl (c_dict (own := true) rfl)) (by rfl) m_dict (by decide +kernel) (pa_cons (pv 10) pa_nil)))); (exact rfl))
    (pss_cons (by (apply ps_to (K := K) (c_law_18)); (exact (ps_for PassesOwn.never rfl (pi_range1 (by rfl) m_range (pa_cons (pe_callB (cK (fun K => (ON.min2 (K := K)).r) (K := K) rfl (call_min2 rfl)) (by rfl) m_min (by decide +kernel) (pa_cons (pv 8) (pa_cons pe_int pa_nil))) pa_nil)) (pg_name (i := 12) sc_law.nd rfl (.inl rfl)) (pss_cons (by (apply ps_to (K := K) (c_law_1)); (exact (ps_set (i := 13) sc_law.nd rfl (.inl rfl) pe_non)); (exact rfl))
    (pss_cons (by (apply ps_to (K := K) (c_law_2)); (exact (ps_for PassesOwn.never rfl (pi_seqK (K := K) rfl (pe_callB (cK (fun K => (ON.sorted (K := K) false).r) (K := K) rfl (c_sorted rfl)) (by rfl) m_sorted (by decide +kernel) (pa_cons (pv 3) pa_nil))) (pg_name (i := 5) sc_law.nd rfl (.inl rfl)) (pss_one (ps_if (PW.pt (pw_or (pt_cmpB (oK (fun K => (O2.isN (K := K)).r) (K := K) rfl o_isN) (pv 13) pe_non (nomark _)) (pw_or1 (pt_cmpB (oK (fun K => (O2.gt (K := K)).r) (K := K) rfl o_gt) (pe_op (oK (fun K => (O2.mul (K := K)).r) (K := K) rfl o_mul) (pe_subK (K := K) rfl (hu_of hr) (pv 4) (pv 5) (fun _ _ => rfl)) (pe_op (oK (fun K => (O2.add (K := K) false).r) (K := K) rfl o_add) (pe_subK (K := K) rfl (hu_of hr) (pv 11) (pv 13) (fun _ _ => rfl)) pe_int)) (pe_op (oK (fun K => (O2.mul (K := K)).r) (K := K) rfl o_mul) (pe_subK (K := K) rfl (hu_of hr) (pv 4) (pv 13) (fun _ _ => rfl)) (pe_op (oK (fun K => (O2.add (K := K) false).r) (K := K) rfl o_add) (pe_subK (K := K) rfl (hu_of hr) (pv 11) (pv 5) (fun _ _ => rfl)) pe_int)) (nomark _))))) (pss_one (ps_set (i := 13) sc_law.nd rfl (.inl rfl) (pv 5))) pss_nil)))); (exact rfl))
    (pss_cons (by (apply ps_to (K := K) (c_law_3)); (exact (ps_subZ (hu_of hr) (pv 11) (pv 13) (pe_op (oK (fun K => (O2.add (K := K) false).r) (K := K) rfl o_add) (pe_subK (K := K) rfl (hu_of hr) (pv 11) (pv 13) (fun _ _ => rfl)) pe_int) (by intro _; rfl) rfl rfl rfl rfl)); (exact rfl))
    (pss_one (by (apply ps_to (K := K) (c_law_4)); (exact (ps_if (pt_neK (K := K) rfl hr.units (C8.pe_c q_shared_out hr (Nat.le_refl _) (by rfl) (pa_cons (pe_op (oK (fun K => (O2.add (K := K) false).r) (K := K) rfl o_add) (pe_op (oK (fun K => (O2.add (K := K) false).r) (K := K) rfl o_add) (pe_op (oK (fun K => (O2.mul (K := K)).r) (K := K) rfl o_mul) (pv 9) (pv 8)) (pv 12)) pe_int) (pa_cons (pe_callTy (cK (fun K => (ON.dict (K := K) false).r) (K := K) rfl (c_dict (own := false) rfl)) (by rfl) m_dict (by decide +kernel) (pa_cons (pv 7) pa_nil)) pa_nil))) (pv 11)) (pss_one (ps_ret pe_bl)) pss_nil)); (exact rfl)))))))); (exact rfl))
    (pss_cons (by (apply ps_to (K := K) (c_law_19)); (exact (ps_set (i := 14) sc_law.nd rfl (.inl rfl) (pe_slice (slK rSlZ (K := K) rfl sl_all) (pe_callB (cK (fun K => (ON.sorted (K := K) false).r) (K := K) rfl (c_sorted rfl)) (by rfl) m_sorted (by decide +kernel) (pa_cons (pv 3) pa_nil)) po_none (po_some (pe_op (oK (fun K => (O2.add (K := K) false).r) (K := K) rfl o_add) pe_int (C8.pe_c q_law_draw hr (Nat.le_refl _) (by rfl) (pa_cons (pv 2) (pa_cons (pe_callB (cK (fun K => (ON.len (K := K)).r) (K := K) rfl c_len) (by rfl) m_len (by decide +kernel) (pa_cons (pv 3) pa_nil)) pa_nil)))))))); (exact rfl))
    (pss_cons (by (apply ps_to (K := K) (c_law_20)); (exact (ps_if (pt_neK (K := K) rfl hr.units (pe_lc (own := [("name", 5)]) rfl sc_law.nd (pi_seqK (K := K) rfl (pv 14)) (blkB (own := [("name", 5)]) (N := N_law) (sc := defScope st_law) rfl (by decide +kernel)) (fun _ _ _ _ _ => (pg_name (i := 5) sc_law.nd rfl (by first | exact Or.inl rfl | exact Or.inr rfl))) (fun _ _ _ _ _ => (pts_one (pt_cmpB (oK (fun K => (O2.gt (K := K)).r) (K := K) rfl o_gt) (pe_subK (K := K) rfl (hu_of hr) (pv 4) (pv 5) (fun _ _ => rfl)) pe_int (nomark _)))) (fun _ _ _ _ _ => (pv 5))) (pe_lst pa_nil)) (pss_cons (by (apply ps_to (K := K) (c_law_5)); (exact (ps_set (i := 15) sc_law.nd rfl (.inl rfl) (C8.pe_c q_shared_out hr (Nat.le_refl _) (by rfl) (pa_cons (pe_callB (cK (fun K => (ON.sum (K := K)).r) (K := K) rfl (cr_sum rfl)) (by rfl) m_sum (by decide +kernel) (pa_cons (pe_lc (own := [("name", 5)]) rfl sc_law.nd (pi_seqK (K := K) rfl (pv 14)) (blkB (own := [("name", 5)]) (N := N_law) (sc := defScope st_law) rfl (by decide +kernel)) (fun _ _ _ _ _ => (pg_name (i := 5) sc_law.nd rfl (by first | exact Or.inl rfl | exact Or.inr rfl))) (fun _ _ _ _ _ => pts_nil) (fun _ _ _ _ _ => (pe_subK (K := K) rfl (hu_of hr) (pv 11) (pv 5) (fun _ _ => rfl)))) pa_nil)) (pa_cons (pe_callTy (cK (fun K => (ON.dict (K := K) false).r) (K := K) rfl (c_dict (own := false) rfl)) (by rfl) m_dict (by decide +kernel) (pa_cons (pe_lc (own := [("name", 5)]) rfl sc_law.nd (pi_seqK (K := K) rfl (pv 14)) (blkB (own := [("name", 5)]) (N := N_law) (sc := defScope st_law) rfl (by decide +kernel)) (fun _ _ _ _ _ => (pg_name (i := 5) sc_law.nd rfl (by first | exact Or.inl rfl | exact Or.inr rfl))) (fun _ _ _ _ _ => pts_nil) (fun _ _ _ _ _ => (pe_tup (pa_cons (pv 5) (pa_cons (pe_subK (K := K) rfl (hu_of hr) (pv 7) (pv 5) (fun _ _ => rfl)) pa_nil))))) pa_nil)) pa_nil))))); (exact rfl))
    (pss_one (by (apply ps_to (K := K) (c_law_6)); (exact (ps_if (pt_neK (K := K) rfl hr.units (pv 15) (pe_callTy (cK (fun K => (ON.dict (K := K) false).r) (K := K) rfl (c_dict (own := false) rfl)) (by rfl) m_dict (by decide +kernel) (pa_cons (pe_lc (own := [("name", 5)]) rfl sc_law.nd (pi_seqK (K := K) rfl (pv 14)) (blkB (own := [("name", 5)]) (N := N_law) (sc := defScope st_law) rfl (by decide +kernel)) (fun _ _ _ _ _ => (pg_name (i := 5) sc_law.nd rfl (by first | exact Or.inl rfl | exact Or.inr rfl))) (fun _ _ _ _ _ => pts_nil) (fun _ _ _ _ _ => (pe_tup (pa_cons (pv 5) (pa_cons (pe_subK (K := K) rfl (hu_of hr) (pv 11) (pv 5) (fun _ _ => rfl)) pa_nil))))) pa_nil))) (pss_one (ps_ret pe_bl)) pss_nil)); (exact rfl)))) pss_nil)); (exact rfl))
    (pss_cons (by (apply ps_to (K := K) (c_law_21)); (exact (ps_set (i := 16) sc_law.nd rfl (.inr rfl) (C8.pe_c q_law_draw hr (Nat.le_refl _) (by rfl) (pa_cons (pv 2) (pa_cons pe_int pa_nil))))); (exact rfl))
    (pss_cons (by (apply ps_to (K := K) (c_law_22)); (exact (ps_set (i := 17) sc_law.nd rfl (.inr rfl) (pe_callB (cK (fun K => (ON.sorted (K := K) false).r) (K := K) rfl (c_sorted rfl)) (by rfl) m_sorted (by decide +kernel) (pa_cons (pv 3) pa_nil)))); (exact rfl))
    (pss_cons (by (apply ps_to (K := K) (c_law_23)); (exact (ps_set (i := 18) sc_law.nd rfl (.inl rfl) (pe_callTy (cK (fun K => (ON.dict (K := K) false).r) (K := K) rfl (c_dict (own := false) rfl)) (by rfl) m_dict (by decide +kernel) (pa_cons (pe_lc (own := [("at", 19)]) rfl sc_law.nd (pi_range1 (by rfl) m_range (pa_cons (pe_callB (cK (fun K => (ON.len (K := K)).r) (K := K) rfl c_len) (by rfl) m_len (by decide +kernel) (pa_cons (pv 17) pa_nil)) pa_nil)) (blkB (own := [("at", 19)]) (N := N_law) (sc := defScope st_law) rfl (by decide +kernel)) (fun _ _ _ _ _ => (pg_name (i := 19) sc_law.nd rfl (by first | exact Or.inl rfl | exact Or.inr rfl))) (fun _ _ _ _ _ => pts_nil) (fun _ _ _ _ _ => (pe_tup (pa_cons (pe_subK (K := K) rfl (hu_of hr) (pv 17) (pv 19) (fun _ _ => rfl)) (pa_cons (pe_op (oK (fun K => (O2.add (K := K) false).r) (K := K) rfl o_add) (pe_op (oK (fun K => (O2.fdiv (K := K)).r) (K := K) rfl o_fdiv) (pv 16) (pe_callB (cK (fun K => (ON.len (K := K)).r) (K := K) rfl c_len) (by rfl) m_len (by decide +kernel) (pa_cons (pv 17) pa_nil))) (pe_callTy (cK (fun K => (ON.int (K := K)).r) (K := K) rfl call_int1) (by rfl) m_int (by decide +kernel) (pa_cons (pe_cmpR (oK (fun K => (O2.lt (K := K)).r) (K := K) rfl o_lt) (pv 19) (pe_op (oK (fun K => (O2.mod (K := K)).r) (K := K) rfl o_mod) (pe_callTy (cK (fun K => (ON.int (K := K)).r) (K := K) rfl call_int1) (by rfl) m_int (by decide +kernel) (pa_cons (pv 16) pa_nil)) (pe_callB (cK (fun K => (ON.len (K := K)).r) (K := K) rfl c_len) (by rfl) m_len (by decide +kernel) (pa_cons (pv 17) pa_nil))) (nomark _)) pa_nil))) pa_nil))))) pa_nil)))); (exact rfl))
    (pss_cons (by (apply ps_to (K := K) (c_law_24)); (exact (ps_if (PW.pt (pw_or (pt_neK (K := K) rfl hr.units (C8.pe_c q_shared_out hr (Nat.le_refl _) (by rfl) (pa_cons (pv 16) (pa_cons (pe_callTy (cK (fun K => (ON.dict (K := K) false).r) (K := K) rfl (c_dict (own := false) rfl)) (by rfl) m_dict (by decide +kernel) (pa_cons (pe_lc (own := [("name", 5)]) rfl sc_law.nd (pi_seqK (K := K) rfl (pv 3)) (blkB (own := [("name", 5)]) (N := N_law) (sc := defScope st_law) rfl (by decide +kernel)) (fun _ _ _ _ _ => (pg_name (i := 5) sc_law.nd rfl (by first | exact Or.inl rfl | exact Or.inr rfl))) (fun _ _ _ _ _ => pts_nil) (fun _ _ _ _ _ => (pe_tup (pa_cons (pv 5) (pa_cons (pe_tup (pa_cons pe_int (pa_cons pe_int pa_nil))) pa_nil))))) pa_nil)) pa_nil))) (pv 18)) (pw_or1 (pt_neK (K := K) rfl hr.units (C8.pe_c q_shared_out hr (Nat.le_refl _) (by rfl) (pa_cons (pv 16) (pa_cons (pe_callTy (cK (fun K => (ON.dict (K := K) false).r) (K := K) rfl (c_dict (own := false) rfl)) (by rfl) m_dict (by decide +kernel) (pa_cons (pe_lc (own := [("name", 5)]) rfl sc_law.nd (pi_seqK (K := K) rfl (pv 3)) (blkB (own := [("name", 5)]) (N := N_law) (sc := defScope st_law) rfl (by decide +kernel)) (fun _ _ _ _ _ => (pg_name (i := 5) sc_law.nd rfl (by first | exact Or.inl rfl | exact Or.inr rfl))) (fun _ _ _ _ _ => pts_nil) (fun _ _ _ _ _ => (pe_tup (pa_cons (pv 5) (pa_cons (pv 6) pa_nil))))) pa_nil)) pa_nil))) (pv 18))))) (pss_one (ps_ret pe_bl)) pss_nil)); (exact rfl))
    (pss_cons (by (apply ps_to (K := K) (c_law_25)); (exact (ps_set (i := 20) sc_law.nd rfl (.inl rfl) (pe_callTy (cK (fun K => (ON.dict (K := K) true).r) (K := K) rfl (c_dict (own := true) rfl)) (by rfl) m_dict (by decide +kernel) (pa_cons (pv 7) pa_nil)))); (exact rfl))
    (pss_cons (by (apply ps_to (K := K) (c_law_26)); (exact (ps_subZ (hu_of hr) (pv 20) pe_str (pe_tup (pa_cons pe_int (pa_cons pe_int pa_nil))) (by intro _; rfl) rfl rfl rfl rfl)); (exact rfl))
    (pss_cons (by (apply ps_to (K := K) (c_law_27)); (exact (ps_set (i := 21) sc_law.nd rfl (.inl rfl) (pe_callTy (cK (fun K => (ON.dict (K := K) true).r) (K := K) rfl (c_dict (own := true) rfl)) (by rfl) m_dict (by decide +kernel) (pa_cons (pv 10) pa_nil)))); (exact rfl))
    (pss_cons (by (apply ps_to (K := K) (c_law_28)); (exact (ps_subZ (hu_of hr) (pv 21) pe_str pe_int (by intro _; rfl) rfl rfl rfl rfl)); (exact rfl))
    (pss_one (by (apply ps_to (K := K) (c_law_29)); (exact (ps_if (pt_neK (K := K) rfl hr.units (C8.pe_c q_shared_out hr (Nat.le_refl _) (by rfl) (pa_cons (pe_op (oK (fun K => (O2.mul (K := K)).r) (K := K) rfl o_mul) (pv 9) (pv 8)) (pa_cons (pv 20) pa_nil))) (pv 21)) (pss_one (ps_ret pe_bl)) pss_nil)); (exact rfl))))))))))))))))))))))))))); (exact rfl))
    (pss_one (by (apply ps_to (K := K) (c_law_31)); (exact (ps_ret pe_bl)); (exact rfl))))
  · rfl

variable {x1 x2 x3 x4 x5 x6 x7 x8 x9 x10 x11 x12 x13 x14 x15 x16 x17 x18 x19 x20 x21 : Option T} {hp : List Cell} {scr : T}
theorem l_7 {ns : List Int} {k : Int} (h : LSOk ns k 43) (e : scr = .nd .lsR (ns.map itT)) : (c_law_7 (K := K)).ex (⟨[some scr, some (itT k), x2, x3, x4, x5, x6, x7, x8, x9, x10, x11, x12, x13, x14, x15, x16, x17, x18, x19, x20, x21], hp⟩ : S) = some (.nx (⟨[some scr, some (itT k), some (.ptr hp.length), x3, x4, x5, x6, x7, x8, x9, x10, x11, x12, x13, x14, x15, x16, x17, x18, x19, x20, x21], hp ++ [.own .lst (encS (stateP ns k 43))]⟩ : S)) := by
  subst e
  have sp := sp_state_eq h
  have pu : pureL (ns.map itT) = true := pure_map fun x _ => rfl
  simp [c_law_7, sp, pu]
theorem l_8 {k : Int} {st : Sd} (h : StOk st) : ∃ (names : List Str) (st' : Sd), StOk st' ∧ names.Nodup ∧ 0 < names.length ∧ names.length ≤ 8 ∧ (("zz" : Str) ∉ names) ∧ (∀ x ∈ names, PyData.strOk x = true) ∧ (c_law_8 (K := K)).ex (⟨[some scr, some (itT k), some (.ptr hp.length), x3, x4, x5, x6, x7, x8, x9, x10, x11, x12, x13, x14, x15, x16, x17, x18, x19, x20, x21], hp ++ [.own .lst (encS st)]⟩ : S) = some (.nx (⟨[some scr, some (itT k), some (.ptr hp.length), some (.nd .lst (names.map stT)), x4, x5, x6, x7, x8, x9, x10, x11, x12, x13, x14, x15, x16, x17, x18, x19, x20, x21], hp ++ [.own .lst (encS st')]⟩ : S)) := by
  have d := drawP_ok (m := 8) h (by decide) (by decide)
  have sd := sp_draw_eq (m := 8) h (by decide) (by decide)
  have m0 : 0 ≤ 1 + (drawP st 8).1 := by omega
  have sn := sp_names_eq (l := "n") d.1 m0 (by omega) (by decide +kernel)
  have no := namesP_ok (l := "n") d.1 m0 (by omega)
  have oo := orderP_ok d.1 m0 (show 1 + (drawP st 8).1 ≤ 1000 by omega)
  have pS : ∀ z : Sd, pureL (encS z) = true := fun _ => rfl
  refine ⟨namesP (drawP st 8).2 "n" (1 + (drawP st 8).1), (orderP (drawP st 8).2 (1 + (drawP st 8).1)).2, oo.1, no.1, by rw [no.2.1]; omega, by rw [no.2.1]; omega, fun q => ?_, fun x hx => ?_, ?_⟩
  · obtain ⟨i, _, e⟩ := no.2.2 _ q
    have e2 := congrArg (fun z : Str => z.cps.toList.head?) e
    have e3 : (nmP "n" (i : Int)).cps.toList.head? = some 110 := by
      show ((("n" : Str).cps ++ #[97 + (i : Int).toNat]).toList).head? = _
      rw [Array.toList_append]
      rfl
    rw [e3] at e2
    exact absurd e2 (by decide +kernel)
  · obtain ⟨i, hi, e⟩ := no.2.2 x hx
    rw [e]
    exact nm_ok i (by omega)
  · generalize drawP st 8 = D at *
    simp [c_law_8, ap0, se0, pS, sd, sn]
theorem l_9 {k : Int} {names : List Str} {st : Sd} (h : StOk st) (hn : names.Nodup) (hl : names.length ≤ 8) : ∃ (W : Str → Int) (st' : Sd), StOk st' ∧ (∀ x, 0 ≤ W x ∧ W x < 10) ∧ (c_law_9 (K := K)).ex (⟨[some scr, some (itT k), some (.ptr hp.length), some (.nd .lst (names.map stT)), x4, x5, x6, x7, x8, x9, x10, x11, x12, x13, x14, x15, x16, x17, x18, x19, x20, x21], hp ++ [.own .lst (encS st)]⟩ : S) = some (.nx (⟨[some scr, some (itT k), some (.ptr hp.length), some (.nd .lst (names.map stT)), some (.ptr (hp.length + 1)), x5, x6, x7, x8, x9, x10, x11, x12, x13, x14, x15, x16, x17, x18, x19, x20, x21], hp ++ [.own .lst (encS st'), dWc names fun x => itT (W x)]⟩ : S)) := by
  obtain ⟨W, w1, w2⟩ := scan_fun h (m := 10) (by decide) (by decide) names hn
  have pS : ∀ z : Sd, pureL (encS z) = true := fun _ => rfl
  have pn : pureL (names.map stT) = true := pure_map fun x _ => rfl
  have lc := lc_scanE (g := (CG.name (K := K) 5).f) (c := (CT.yes (K := K)).ev) (e := (CE.tup (CA.cons (CE.var (K := K) 5) (CA.cons (CE.call (ON.fnR sp_law_draw) (CA.cons (CE.var 2) (CA.cons (CE.int 10) CA.nil))) CA.nil))).ev) stT (wipeL [some scr, some (itT k), some (.ptr hp.length), some (.nd .lst (names.map stT)), x4, x5, x6, x7, x8, x9, x10, x11, x12, x13, x14, x15, x16, x17, x18, x19, x20, x21] [5]) (fun st => hp ++ [.own .lst (encS st)]) (fun st (x : Str) => ((drawP st 10).2, T.nd .tup [stT x, itT (drawP st 10).1])) StOk names st [] h (fun x hx z hz => by
    have sd := sp_draw_eq (m := 10) hz (by decide) (by decide)
    refine ⟨(drawP_ok hz (by decide) (by decide)).1, _, ⟨(wipeL [some scr, some (itT k), some (.ptr hp.length), some (.nd .lst (names.map stT)), x4, x5, x6, x7, x8, x9, x10, x11, x12, x13, x14, x15, x16, x17, x18, x19, x20, x21] [5]).set 5 (some (stT x)), hp ++ [.own .lst (encS (drawP z 10).2)]⟩, rfl, rfl, ?_, rfl⟩
    simp [wipeL, ap0, se0, pS, sd, lim_eq]) (by rw [lim_eq]; simp; omega)
  rw [List.nil_append, w2] at lc
  refine ⟨W, _, lc.2, w1, ?_⟩
  have dp := fun s => dict_pairs (K := K) (o := true) (f := fun x => itT (W x)) (s := s) hn
  simp only [c_law_9, CS.set, asg_ex, call_ev, consA_ev, nilA_ev, lc_ev, seqI_ev, var_ev, List.getElem?_cons_succ, List.getElem?_cons_zero, res_nd, Option.bind_some, itSeqF_lst pn]
  rw [show (CG.name (K := K) 5).ws.all [5].contains = true from rfl, if_pos rfl, lc.1]
  simp [dp]
theorem l_10 {k : Int} {names : List Str} {st : Sd} {W : Str → Int} (h : StOk st) (hl : names.length ≤ 8) (h0 : 0 < names.length) (hw : ∀ x, 0 ≤ W x ∧ W x < 10) : ∃ (W' : Str → Int) (st' : Sd), StOk st' ∧ (∀ x, 0 ≤ W' x ∧ W' x < 10) ∧ (∃ x ∈ names, 0 < W' x) ∧ (c_law_10 (K := K)).ex (⟨[some scr, some (itT k), some (.ptr hp.length), some (.nd .lst (names.map stT)), some (.ptr (hp.length + 1)), x5, x6, x7, x8, x9, x10, x11, x12, x13, x14, x15, x16, x17, x18, x19, x20, x21], hp ++ [.own .lst (encS st), dWc names fun x => itT (W x)]⟩ : S) = some (.nx (⟨[some scr, some (itT k), some (.ptr hp.length), some (.nd .lst (names.map stT)), some (.ptr (hp.length + 1)), x5, x6, x7, x8, x9, x10, x11, x12, x13, x14, x15, x16, x17, x18, x19, x20, x21], hp ++ [.own .lst (encS st'), dWc names fun x => itT (W' x)]⟩ : S)) := by
  have d := drawP_ok (m := 9) h (by decide) (by decide)
  have sd := sp_draw_eq (m := 9) h (by decide) (by decide)
  have pS : ∀ z : Sd, pureL (encS z) = true := fun _ => rfl
  cases names with
  | nil => exact absurd h0 (by decide)
  | cons n names =>
    have hb : n ∈ n :: names := List.mem_cons_self
    have p1 := putT_fst (f := fun x => itT (W x)) (v := itT (1 + (drawP st 9).1)) hb
    have p2 := putT_snd (f := fun x => itT (W x)) (v := itT (1 + (drawP st 9).1)) hb
    have e : ((n :: names).map fun x => if x = n then itT (1 + (drawP st 9).1) else itT (W x)) = (n :: names).map fun x => itT (DH.updF W n (1 + (drawP st 9).1) x) := by
      refine List.map_congr_left fun x _ => ?_
      unfold DH.updF
      split <;> rfl
    rw [e] at p2
    have hl2 : (n :: names).length < 100000 := by omega
    refine ⟨DH.updF W n (1 + (drawP st 9).1), (drawP st 9).2, d.1, fun x => ?_, ⟨n, hb, ?_⟩, ?_⟩
    · unfold DH.updF
      split
      · omega
      · exact hw x
    · rw [DH.updF_same]; omega
    · have hat : atI ((n :: names).map stT) 0 = some (stT n) := by rw [List.map_cons]; exact atI_0 _ _
      generalize n :: names = l at *
      generalize drawP st 9 = D at *
      simp [c_law_10, ap0, se0, ap1, se1, pS, sd, hat, hl2, lim_eq, p1, p2]
theorem l_11 {k : Int} {names : List Str} {st : Sd} {W : Str → Int} (h : StOk st) : ∃ (by' : Fr) (st' : Sd), StOk st' ∧ Fk 20 by' ∧ 0 < by'.1 ∧ (c_law_11 (K := K)).ex (⟨[some scr, some (itT k), some (.ptr hp.length), some (.nd .lst (names.map stT)), some (.ptr (hp.length + 1)), x5, x6, x7, x8, x9, x10, x11, x12, x13, x14, x15, x16, x17, x18, x19, x20, x21], hp ++ [.own .lst (encS st), dWc names fun x => itT (W x)]⟩ : S) = some (.nx (⟨[some scr, some (itT k), some (.ptr hp.length), some (.nd .lst (names.map stT)), some (.ptr (hp.length + 1)), x5, some (encF by'), x7, x8, x9, x10, x11, x12, x13, x14, x15, x16, x17, x18, x19, x20, x21], hp ++ [.own .lst (encS st'), dWc names fun x => itT (W x)]⟩ : S)) := by
  have d := drawP_ok (m := 9) h (by decide) (by decide)
  have sd := sp_draw_eq (m := 9) h (by decide) (by decide)
  have d2 := drawP_ok (m := 9) d.1 (by decide) (by decide)
  have sd2 := sp_draw_eq (m := 9) d.1 (by decide) (by decide)
  have pS : ∀ z : Sd, pureL (encS z) = true := fun _ => rfl
  generalize drawP st 9 = D at *
  generalize drawP D.2 9 = E at *
  have fk : Fk 20 (1 + D.1, 1 + E.1) := ⟨by show 0 ≤ 1 + D.1; omega, Bt.of (by show 0 ≤ 1 + D.1; omega) (by show 1 + D.1 < 2 ^ 20; omega), by show 0 < 1 + E.1; omega, Bt.of (by show 0 ≤ 1 + E.1; omega) (by show 1 + E.1 < 2 ^ 20; omega)⟩
  have sf := sp_frac_eq (fk.mono (by decide))
  obtain ⟨f1, f2⟩ := fracP_ok fk
  refine ⟨fracP (1 + D.1) (1 + E.1), E.2, d2.1, f1, ?_, ?_⟩
  · have e := f2.eq
    have p := f2.pos
    have : 0 < (1 + D.1) * (fracP (1 + D.1) (1 + E.1)).2 := Int.mul_pos (by omega) p
    rw [← e] at this
    apply Classical.byContradiction
    intro hh
    have := Int.mul_le_mul_of_nonneg_right (show (fracP (1 + D.1) (1 + E.1)).1 ≤ 0 by omega) (show 0 ≤ 1 + E.1 by omega)
    omega
  · simp [c_law_11, ap0, se0, pS, sd, sd2, sf]
end
end K42
set_option Elab.async false
set_option linter.all false
set_option maxRecDepth 100000
set_option exponentiation.threshold 400
/-! K42: the law. -/
namespace K42
open PySem PySem.Spec PyProof.Rows L2 Z
section
variable {P : Program} {w : World} {K : PySem.W.Frag} {mg : Str → Option Value} {base : Heap}
variable {x1 x2 x3 x4 x5 x6 x7 x8 x9 x10 x11 x12 x13 x14 x15 x16 x17 x18 x19 x20 x21 : Option T} {hp : List Cell} {scr : T}
theorem l_12 {k : Int} {names : List Str} {st : Sd} {W : Str → Int} {by' : Fr} (hb : Fk 20 by') (hn : names.Nodup) (hl : names.length ≤ 8) (hw : ∀ x, 0 ≤ W x ∧ W x < 10) : (c_law_12 (K := K)).ex (⟨[some scr, some (itT k), some (.ptr hp.length), some (.nd .lst (names.map stT)), some (.ptr (hp.length + 1)), x5, some (encF by'), x7, x8, x9, x10, x11, x12, x13, x14, x15, x16, x17, x18, x19, x20, x21], hp ++ [.own .lst (encS st), dWc names fun x => itT (W x)]⟩ : S) = some (.nx (⟨[some scr, some (itT k), some (.ptr hp.length), some (.nd .lst (names.map stT)), some (.ptr (hp.length + 1)), x5, some (encF by'), some (dW names fun x => encF (toldP by' W x)), x8, x9, x10, x11, x12, x13, x14, x15, x16, x17, x18, x19, x20, x21], hp ++ [.own .lst (encS st), dWc names fun x => itT (W x)]⟩ : S)) := by
  have pn : pureL (names.map stT) = true := pure_map fun x _ => rfl
  have dp := fun s => dict_pairs (K := K) (o := false) (f := fun x => encF (toldP by' W x)) (s := s) hn
  have lc := lc_over' (g := (CG.name (K := K) 5).f) (c := (CT.yes (K := K)).ev) (e := (CE.tup (CA.cons (CE.var (K := K) 5) (CA.cons (CE.call (ON.fn sp_mul) (CA.cons (CE.var 6) (CA.cons (CE.tup (CA.cons (CE.sub (CE.var 4) (CE.var 5)) (CA.cons (CE.int 1) CA.nil))) CA.nil))) CA.nil))).ev) stT (wipeL [some scr, some (itT k), some (.ptr hp.length), some (.nd .lst (names.map stT)), some (.ptr (hp.length + 1)), x5, some (encF by'), x7, x8, x9, x10, x11, x12, x13, x14, x15, x16, x17, x18, x19, x20, x21] [5]) (hp ++ [.own .lst (encS st), dWc names fun x => itT (W x)]) (fun (x : Str) => T.nd .tup [stT x, encF (toldP by' W x)]) (xs := names) (acc := []) (fun x hx => by
    have g1 := getD_map (f := fun x => itT (W x)) hx
    have k1 : Fk 100 (W x, (1 : Int)) := ⟨(hw x).1, Bt.of (hw x).1 (by show W x < 2 ^ 100; have := (hw x).2; omega), by show (0 : Int) < 1; decide, by show Bt (1 : Int) _; exact bt_const (by decide)⟩
    have sm : sp_mul [encF by', T.nd .tup [T.at (V.int (W x)), T.at (V.int 1)]] = some (.val (encF (toldP by' W x))) := sp_mul_eq (b := (W x, 1)) (hb.mono (by decide)) k1
    refine ⟨_, rfl, rfl, ?_, rfl⟩
    simp [wipeL, ap0, ap1, g1, sm, lim_eq]) (by rw [lim_eq]; simp; omega)
  simp only [c_law_12, CS.set, asg_ex, call_ev, consA_ev, nilA_ev, lc_ev, seqI_ev, var_ev, List.getElem?_cons_succ, List.getElem?_cons_zero, res_nd, Option.bind_some, itSeqF_lst pn]
  rw [show (CG.name (K := K) 5).ws.all [5].contains = true from rfl, if_pos rfl, lc]
  simp [dp]
theorem l_13 {k : Int} {names : List Str} {st : Sd} {W : Str → Int} {by' : Fr} (hl : names.length ≤ 8) : (c_law_13 (K := K)).ex (⟨[some scr, some (itT k), some (.ptr hp.length), some (.nd .lst (names.map stT)), some (.ptr (hp.length + 1)), x5, some (encF by'), some (dW names fun x => encF (toldP by' W x)), x8, x9, x10, x11, x12, x13, x14, x15, x16, x17, x18, x19, x20, x21], hp ++ [.own .lst (encS st), dWc names fun x => itT (W x)]⟩ : S) = some (.nx (⟨[some scr, some (itT k), some (.ptr hp.length), some (.nd .lst (names.map stT)), some (.ptr (hp.length + 1)), x5, some (encF by'), some (dW names fun x => encF (toldP by' W x)), some (itT (names.map W).sum), x9, x10, x11, x12, x13, x14, x15, x16, x17, x18, x19, x20, x21], hp ++ [.own .lst (encS st), dWc names fun x => itT (W x)]⟩ : S)) := by
  have pn : pureL (names.map stT) = true := pure_map fun x _ => rfl
  have lc := lc_over' (g := (CG.name (K := K) 5).f) (c := (CT.yes (K := K)).ev) (e := (CE.sub (CE.var (K := K) 4) (CE.var 5)).ev) stT (wipeL [some scr, some (itT k), some (.ptr hp.length), some (.nd .lst (names.map stT)), some (.ptr (hp.length + 1)), x5, some (encF by'), some (dW names fun x => encF (toldP by' W x)), x8, x9, x10, x11, x12, x13, x14, x15, x16, x17, x18, x19, x20, x21] [5]) (hp ++ [.own .lst (encS st), dWc names fun x => itT (W x)]) (fun (x : Str) => itT (W x)) (xs := names) (acc := []) (fun x hx => by
    have g1 := getD_map (f := fun x => itT (W x)) hx
    refine ⟨_, rfl, rfl, ?_, rfl⟩
    simp [wipeL, ap0, ap1, g1]) (by rw [lim_eq]; simp; omega)
  have im := ints_mapf W names
  simp only [c_law_13, CS.set, asg_ex, call_ev, consA_ev, nilA_ev, lc_ev, seqI_ev, var_ev, List.getElem?_cons_succ, List.getElem?_cons_zero, res_nd, Option.bind_some, itSeqF_lst pn]
  rw [show (CG.name (K := K) 5).ws.all [5].contains = true from rfl, if_pos rfl, lc]
  simp [im]
theorem l_14 {k : Int} {names : List Str} {st : Sd} {W : Str → Int} {by' : Fr} (h : StOk st) : ∃ (M : Int) (st' : Sd), StOk st' ∧ 0 ≤ M ∧ M < 7 ∧ (c_law_14 (K := K)).ex (⟨[some scr, some (itT k), some (.ptr hp.length), some (.nd .lst (names.map stT)), some (.ptr (hp.length + 1)), x5, some (encF by'), some (dW names fun x => encF (toldP by' W x)), some (itT (names.map W).sum), x9, x10, x11, x12, x13, x14, x15, x16, x17, x18, x19, x20, x21], hp ++ [.own .lst (encS st), dWc names fun x => itT (W x)]⟩ : S) = some (.nx (⟨[some scr, some (itT k), some (.ptr hp.length), some (.nd .lst (names.map stT)), some (.ptr (hp.length + 1)), x5, some (encF by'), some (dW names fun x => encF (toldP by' W x)), some (itT (names.map W).sum), some (itT M), x10, x11, x12, x13, x14, x15, x16, x17, x18, x19, x20, x21], hp ++ [.own .lst (encS st'), dWc names fun x => itT (W x)]⟩ : S)) := by
  have d := drawP_ok (m := 7) h (by decide) (by decide)
  have sd := sp_draw_eq (m := 7) h (by decide) (by decide)
  have pS : ∀ z : Sd, pureL (encS z) = true := fun _ => rfl
  refine ⟨_, _, d.1, d.2.1, d.2.2, ?_⟩
  generalize drawP st 7 = D at *
  simp [c_law_14, ap0, se0, pS, sd]
theorem shares_told {names : List Str} {W : Str → Int} {by' : Fr} {n : Int} (hb : Fk 20 by') (hb1 : 0 < by'.1) (hw : ∀ x, 0 ≤ W x ∧ W x < 10) (hp1 : ∃ x ∈ names, 0 < W x) (n1 : n < 1048576) : sharesP (n, names, toldP by' W) = DH.iterV (DH.ltV W) (sortS names) n.toNat := by
  have hf : foundP (sortS names) (toldP by' W) = toldP by' W := by
    unfold foundP
    rw [if_pos]
    obtain ⟨x, hx, h⟩ := hp1
    refine List.any_eq_true.mpr ⟨x, sortS_mem.mpr hx, decide_eq_true ?_⟩
    obtain ⟨k1, e1⟩ := told_ok hb hw x
    have e := e1.eq
    have p := Int.mul_pos (Int.mul_pos hb1 h) e1.pos
    rw [← e] at p
    apply Classical.byContradiction
    intro hh
    have := Int.mul_le_mul_of_nonneg_right (show (toldP by' W x).1 ≤ 0 by omega) (Int.le_of_lt hb.q0)
    omega
  unfold sharesP
  show DH.iterV (ltF (foundP (sortS names) (toldP by' W))) (sortS names) n.toNat = _
  rw [hf]
  exact iterF_eq hb1 hb.q0 (fun x _ => (told_ok hb hw x).1) (fun x _ => (told_ok hb hw x).2) n.toNat (by omega)
theorem goodTold {names : List Str} {W : Str → Int} {by' : Fr} {n : Int} (hb : Fk 20 by') (hn : names.Nodup) (hl : names.length ≤ 8) (hne : 0 < names.length) (hw : ∀ x, 0 ≤ W x ∧ W x < 10) (n0 : 0 ≤ n) (n1 : n < 1048576) : GoodA (n, names, toldP by' W) :=
  ⟨n0, n1, fun e => by have e : names = [] := e; rw [e] at hne; exact absurd hne (by decide), hn, by show names.length < 60; omega, fun x _ => (told_ok hb hw x).1⟩
theorem mw_bound {names : List Str} {W : Str → Int} {M : Int} (hl : names.length ≤ 8) (hw : ∀ x, 0 ≤ W x ∧ W x < 10) (M0 : 0 ≤ M) (M1 : M < 7) : 0 ≤ M * (names.map W).sum ∧ M * (names.map W).sum ≤ 432 ∧ mulOk M (names.map W).sum = true := by
  have s := sumW_le hw names
  refine ⟨Int.mul_nonneg M0 s.1, ?_, Bt.ok (n := 20) (m := 20) (Bt.of M0 (by omega)) (Bt.of s.1 (by omega)) (by decide) (by decide) (by decide)⟩
  have h1 := Int.mul_le_mul_of_nonneg_right (show M ≤ 6 by omega) s.1
  omega
theorem sum_sort {W : Str → Int} (names : List Str) : ((sortS names).map W).sum = (names.map W).sum := sum_perm ((sortS_perm names).map W)
theorem told_whole {names : List Str} {W : Str → Int} {by' : Fr} {M : Int} (hb : Fk 20 by') (hb1 : 0 < by'.1) (hn : names.Nodup) (hl : names.length ≤ 8) (hne : 0 < names.length) (hw : ∀ x, 0 ≤ W x ∧ W x < 10) (hp1 : ∃ x ∈ names, 0 < W x) (M0 : 0 ≤ M) (M1 : M < 7) : ∀ x ∈ sortS names, sharesP (M * (names.map W).sum, names, toldP by' W) x = M * W x := by
  obtain ⟨b0, b1, _⟩ := mw_bound (W := W) hl hw M0 M1
  rw [shares_told hb hb1 hw hp1 (by omega)]
  exact DH.whole_eq ((sortS_perm names).nodup_iff.mpr hn) (fun x _ => (hw x).1) M0 (by rw [sum_sort]; omega)
theorem l_15 {k : Int} {names : List Str} {st : Sd} {W : Str → Int} {by' : Fr} {M : Int} (hb : Fk 20 by') (hb1 : 0 < by'.1) (hn : names.Nodup) (hl : names.length ≤ 8) (hne : 0 < names.length) (hw : ∀ x, 0 ≤ W x ∧ W x < 10) (hp1 : ∃ x ∈ names, 0 < W x) (M0 : 0 ≤ M) (M1 : M < 7) : (c_law_15 (K := K)).ex (⟨[some scr, some (itT k), some (.ptr hp.length), some (.nd .lst (names.map stT)), some (.ptr (hp.length + 1)), x5, some (encF by'), some (dW names fun x => encF (toldP by' W x)), some (itT (names.map W).sum), some (itT M), x10, x11, x12, x13, x14, x15, x16, x17, x18, x19, x20, x21], hp ++ [.own .lst (encS st), dWc names fun x => itT (W x)]⟩ : S) = some (.nx (⟨[some scr, some (itT k), some (.ptr hp.length), some (.nd .lst (names.map stT)), some (.ptr (hp.length + 1)), x5, some (encF by'), some (dW names fun x => encF (toldP by' W x)), some (itT (names.map W).sum), some (itT M), some (dW (sortS names) fun x => itT (M * W x)), x11, x12, x13, x14, x15, x16, x17, x18, x19, x20, x21], hp ++ [.own .lst (encS st), dWc names fun x => itT (W x)]⟩ : S)) := by
  obtain ⟨b0, b1, b2⟩ := mw_bound (W := W) hl hw M0 M1
  have pt : pureL (names.map fun x => encF (toldP by' W x)) = true := pure_map fun x _ => rfl
  have tw := told_whole hb hb1 hn hl hne hw hp1 M0 M1
  have sp : sp_shared_out [itT (M * (names.map W).sum), dW names fun x => encF (toldP by' W x)] = some (.val (dW (sortS names) fun x => itT (M * W x))) := by
    have := sp_shared_eq (goodTold (n := M * (names.map W).sum) hb hn hl hne hw b0 (by omega))
    rw [show (dW (sortS names) fun x => itT (M * W x)) = dW (sortS names) fun x => itT (sharesP (M * (names.map W).sum, names, toldP by' W) x) from congrArg (T.nd _) (List.map_congr_left fun x hx => by rw [tw x hx])]
    exact this
  simp [c_law_15, b2, pt, sp]
theorem l_16 {k : Int} {names : List Str} {st : Sd} {W : Str → Int} {by' : Fr} {M : Int} (hn : names.Nodup) (hl : names.length ≤ 8) (hw : ∀ x, 0 ≤ W x ∧ W x < 10) (M0 : 0 ≤ M) (M1 : M < 7) : (c_law_16 (K := K)).ex (⟨[some scr, some (itT k), some (.ptr hp.length), some (.nd .lst (names.map stT)), some (.ptr (hp.length + 1)), x5, some (encF by'), some (dW names fun x => encF (toldP by' W x)), some (itT (names.map W).sum), some (itT M), some (dW (sortS names) fun x => itT (M * W x)), x11, x12, x13, x14, x15, x16, x17, x18, x19, x20, x21], hp ++ [.own .lst (encS st), dWc names fun x => itT (W x)]⟩ : S) = some (.nx (⟨[some scr, some (itT k), some (.ptr hp.length), some (.nd .lst (names.map stT)), some (.ptr (hp.length + 1)), x5, some (encF by'), some (dW names fun x => encF (toldP by' W x)), some (itT (names.map W).sum), some (itT M), some (dW (sortS names) fun x => itT (M * W x)), x11, x12, x13, x14, x15, x16, x17, x18, x19, x20, x21], hp ++ [.own .lst (encS st), dWc names fun x => itT (W x)]⟩ : S)) := by
  have pn : pureL (names.map stT) = true := pure_map fun x _ => rfl
  have dp := fun s => dict_pairs (K := K) (o := false) (f := fun x => itT (M * W x)) (s := s) hn
  have lc := lc_over' (g := (CG.name (K := K) 5).f) (c := (CT.yes (K := K)).ev) (e := (CE.tup (CA.cons (CE.var (K := K) 5) (CA.cons (CE.op2 O2.mul (CE.var 9) (CE.sub (CE.var 4) (CE.var 5))) CA.nil))).ev) stT (wipeL [some scr, some (itT k), some (.ptr hp.length), some (.nd .lst (names.map stT)), some (.ptr (hp.length + 1)), x5, some (encF by'), some (dW names fun x => encF (toldP by' W x)), some (itT (names.map W).sum), some (itT M), some (dW (sortS names) fun x => itT (M * W x)), x11, x12, x13, x14, x15, x16, x17, x18, x19, x20, x21] [5]) (hp ++ [.own .lst (encS st), dWc names fun x => itT (W x)]) (fun (x : Str) => T.nd .tup [stT x, itT (M * W x)]) (xs := names) (acc := []) (fun x hx => by
    have g1 := getD_map (f := fun x => itT (W x)) hx
    have mo : mulOk M (W x) = true := Bt.ok (n := 20) (m := 20) (Bt.of M0 (by omega)) (Bt.of (hw x).1 (by have := (hw x).2; omega)) (by decide) (by decide) (by decide)
    refine ⟨_, rfl, rfl, ?_, rfl⟩
    simp [wipeL, ap0, ap1, g1, mo, lim_eq]) (by rw [lim_eq]; simp; omega)
  have ds := dictSame_map (xs := sortS names) (ys := names) (c := fun x => M * W x) (d := fun x => M * W x) (sortS_perm names).length_eq (fun x hx => ⟨sortS_mem.mp hx, rfl⟩)
  have he : (CE.call (ON.dict (K := K) false) (CA.cons (CE.lc false [5] (CI.seq (CE.var 3)) (CG.name 5) CT.yes (CE.tup (CA.cons (CE.var 5) (CA.cons (CE.op2 O2.mul (CE.var 9) (CE.sub (CE.var 4) (CE.var 5))) CA.nil)))) CA.nil)).ev (⟨[some scr, some (itT k), some (.ptr hp.length), some (.nd .lst (names.map stT)), some (.ptr (hp.length + 1)), x5, some (encF by'), some (dW names fun x => encF (toldP by' W x)), some (itT (names.map W).sum), some (itT M), some (dW (sortS names) fun x => itT (M * W x)), x11, x12, x13, x14, x15, x16, x17, x18, x19, x20, x21], hp ++ [.own .lst (encS st), dWc names fun x => itT (W x)]⟩ : S) = some (dW names fun x => itT (M * W x), (⟨[some scr, some (itT k), some (.ptr hp.length), some (.nd .lst (names.map stT)), some (.ptr (hp.length + 1)), x5, some (encF by'), some (dW names fun x => encF (toldP by' W x)), some (itT (names.map W).sum), some (itT M), some (dW (sortS names) fun x => itT (M * W x)), x11, x12, x13, x14, x15, x16, x17, x18, x19, x20, x21], hp ++ [.own .lst (encS st), dWc names fun x => itT (W x)]⟩ : S)) := by
    simp only [call_ev, consA_ev, nilA_ev, lc_ev, seqI_ev, var_ev, List.getElem?_cons_succ, List.getElem?_cons_zero, res_nd, Option.bind_some, itSeqF_lst pn]
    rw [show (CG.name (K := K) 5).ws.all [5].contains = true from rfl, if_pos rfl, lc]
    simp [dp]
  simp only [c_law_16, ife_ex, ofE_ev, eq_ev, op2_ev, he, var_ev, List.getElem?_cons_succ, List.getElem?_cons_zero, res_nd, Option.bind_some, eqs_f, eqsF_nd, eqd_f, eqd_dK, eqk_f, eqk_nd, ds, if_true]
  rfl
theorem l_17 {k : Int} {names : List Str} {st : Sd} {W : Str → Int} {by' : Fr} {M : Int} : (c_law_17 (K := K)).ex (⟨[some scr, some (itT k), some (.ptr hp.length), some (.nd .lst (names.map stT)), some (.ptr (hp.length + 1)), x5, some (encF by'), some (dW names fun x => encF (toldP by' W x)), some (itT (names.map W).sum), some (itT M), some (dW (sortS names) fun x => itT (M * W x)), x11, x12, x13, x14, x15, x16, x17, x18, x19, x20, x21], hp ++ [.own .lst (encS st), dWc names fun x => itT (W x)]⟩ : S) = some (.nx (⟨[some scr, some (itT k), some (.ptr hp.length), some (.nd .lst (names.map stT)), some (.ptr (hp.length + 1)), x5, some (encF by'), some (dW names fun x => encF (toldP by' W x)), some (itT (names.map W).sum), some (itT M), some (dW (sortS names) fun x => itT (M * W x)), some (.ptr (hp.length + 2)), x12, x13, x14, x15, x16, x17, x18, x19, x20, x21], hp ++ [.own .lst (encS st), dWc names fun x => itT (W x), dWc (sortS names) fun x => itT (M * W x)]⟩ : S)) := by
  simp [c_law_17]
end
end K42
set_option Elab.async false
set_option linter.all false
set_option maxRecDepth 100000
set_option exponentiation.threshold 400
/-! K42: the law. -/
namespace K42
open PySem PySem.Spec PyProof.Rows L2 Z
section
variable {P : Program} {w : World} {K : PySem.W.Frag} {mg : Str → Option Value} {base : Heap}
variable {x1 x2 x3 x4 x5 x6 x7 x8 x9 x10 x11 x12 x13 x14 x15 x16 x17 x18 x19 x20 x21 : Option T} {hp : List Cell} {scr : T}
theorem eqk_own {n : Bool} {ks ls : List Key} {ts us : List T} {s : S} {m : Nat} (h : s.hp[m]? = some (.own (.dK ls) us)) : eqkF n (.nd (.dK ks) ts) (.ptr m) s = if dictSame ks ts ls us = true then some (.at (.bl (!n)), s) else none := by
  unfold eqkF
  rw [view_nd, view_ptr, h]
def encO : Option Str → T
  | none => .at .non
  | some x => stT x
def nxO2 (W c : Str → Int) (a : Option Str × Option T) (x : Str) : Option Str × Option T :=
  ((match a.1 with
    | none => some x
    | some b => if DH.ltV W c b x then some x else some b), some (stT x))
theorem nxO2_fold (W c : Str → Int) : ∀ (l : List Str) (b : Str) (u : Option T), (l.foldl (nxO2 W c) (some b, u)).1 = some (l.foldl (fun b y => if DH.ltV W c b y then y else b) b)
  | [], _, _ => rfl
  | x :: l, b, u => by
    rw [List.foldl_cons, List.foldl_cons]
    have e : nxO2 W c (some b, u) x = (some (if DH.ltV W c b x then x else b), some (stT x)) := by
      show ((if DH.ltV W c b x = true then _ else _), _) = _
      split <;> rfl
    rw [e]
    exact nxO2_fold W c l _ _
theorem nxO2_pick (W c : Str → Int) (ys : List Str) (u : Option T) : (ys.foldl (nxO2 W c) (none, u)).1 = DH.pick (DH.ltV W c) ys := by
  cases ys with
  | nil => rfl
  | cons y l => exact nxO2_fold W c l y _
theorem l_2 {k j : Int} {names : List Str} {st : Sd} {W c : Str → Int} {by' : Fr} {M : Int} (hl : names.length ≤ 8) (hw : ∀ x, 0 ≤ W x ∧ W x < 10) (c0 : ∀ x, 0 ≤ c x) (c1 : ∀ x, c x < 1048576) : (c_law_2 (K := K)).ex (⟨[some scr, some (itT k), some (.ptr hp.length), some (.nd .lst (names.map stT)), some (.ptr (hp.length + 1)), x5, some (encF by'), some (dW names fun x => encF (toldP by' W x)), some (itT (names.map W).sum), some (itT M), some (dW (sortS names) fun x => itT (M * W x)), some (.ptr (hp.length + 2)), some (itT j), some (encO none), x14, x15, x16, x17, x18, x19, x20, x21], hp ++ [.own .lst (encS st), dWc names fun x => itT (W x), dWc (sortS names) fun x => itT (c x)]⟩ : S) = some (.nx (⟨[some scr, some (itT k), some (.ptr hp.length), some (.nd .lst (names.map stT)), some (.ptr (hp.length + 1)), ((sortS names).foldl (nxO2 W c) (none, x5)).2, some (encF by'), some (dW names fun x => encF (toldP by' W x)), some (itT (names.map W).sum), some (itT M), some (dW (sortS names) fun x => itT (M * W x)), some (.ptr (hp.length + 2)), some (itT j), some (encO (DH.pick (DH.ltV W c) (sortS names))), x14, x15, x16, x17, x18, x19, x20, x21], hp ++ [.own .lst (encS st), dWc names fun x => itT (W x), dWc (sortS names) fun x => itT (c x)]⟩ : S)) := by
  have hls : (sortS names).length = names.length := (sortS_perm names).length_eq
  have py : pureL ((sortS names).map stT) = true := pure_map fun x _ => rfl
  have hl2 : names.length < 64 := by omega
  have fl := for_over (g := (CG.name (K := K) 5).f) (b := (CS.ife (CT.or (CT.ofE (CE.op2 O2.isN (CE.var (K := K) 13) CE.non)) (CT.ofE (CE.op2 O2.gt (CE.op2 O2.mul (CE.sub (CE.var 4) (CE.var 5)) (CE.op2 (O2.add false) (CE.sub (CE.var 11) (CE.var 13)) (CE.int 1))) (CE.op2 O2.mul (CE.sub (CE.var 4) (CE.var 13)) (CE.op2 (O2.add false) (CE.sub (CE.var 11) (CE.var 5)) (CE.int 1)))))) (CS.set 13 (CE.var 5)) CS.pass).ex) stT (fun z : Option Str × Option T => (⟨[some scr, some (itT k), some (.ptr hp.length), some (.nd .lst (names.map stT)), some (.ptr (hp.length + 1)), z.2, some (encF by'), some (dW names fun x => encF (toldP by' W x)), some (itT (names.map W).sum), some (itT M), some (dW (sortS names) fun x => itT (M * W x)), some (.ptr (hp.length + 2)), some (itT j), some (encO z.1), x14, x15, x16, x17, x18, x19, x20, x21], hp ++ [.own .lst (encS st), dWc names fun x => itT (W x), dWc (sortS names) fun x => itT (c x)]⟩ : S)) (nxO2 W c) (fun z => ∀ b, z.1 = some b → b ∈ sortS names) (sortS names) (none, x5) (fun b h => nomatch h) (fun x hx z hz => by
    have g1 := getD_map (f := fun x => itT (W x)) (sortS_mem.mp hx)
    have g2 := getD_map (f := fun x => itT (c x)) hx
    obtain ⟨b, u⟩ := z
    cases b with
    | none =>
      refine ⟨fun b h => by cases h; exact hx, ?_⟩
      simp [encO, nxO2]
    | some b =>
      have hb := hz b rfl
      have g3 := getD_map (f := fun x => itT (W x)) (sortS_mem.mp hb)
      have g4 := getD_map (f := fun x => itT (c x)) hb
      have m1 : mulOk (W x) (c b + 1) = true := Bt.ok (n := 30) (m := 30) (Bt.of (hw x).1 (by have := (hw x).2; omega)) (Bt.of (by have := c0 b; omega) (by have := c1 b; omega)) (by decide) (by decide) (by decide)
      have m2 : mulOk (W b) (c x + 1) = true := Bt.ok (n := 30) (m := 30) (Bt.of (hw b).1 (by have := (hw b).2; omega)) (Bt.of (by have := c0 x; omega) (by have := c1 x; omega)) (by decide) (by decide) (by decide)
      by_cases q : W b * (c x + 1) < W x * (c b + 1)
      · have q1 : DH.ltV W c b x = true := DH.ltV_t q
        refine ⟨fun y h => ?_, ?_⟩
        · simp only [nxO2, q1, if_true] at h
          cases h; exact hx
        · simp [encO, nxO2, q1, ap1, ap2, g1, g2, g3, g4, m1, m2, q]
      · have q1 : DH.ltV W c b x = false := DH.ltV_f q
        refine ⟨fun y h => ?_, ?_⟩
        · simp [nxO2, q1] at h
          rw [← h]; exact hb
        · simp [encO, nxO2, q1, ap1, ap2, g1, g2, g3, g4, m1, m2, q])
  have e0 : (CI.seq (CE.call (ON.sorted (K := K) false) (CA.cons (CE.var 3) CA.nil))).ev (⟨[some scr, some (itT k), some (.ptr hp.length), some (.nd .lst (names.map stT)), some (.ptr (hp.length + 1)), x5, some (encF by'), some (dW names fun x => encF (toldP by' W x)), some (itT (names.map W).sum), some (itT M), some (dW (sortS names) fun x => itT (M * W x)), some (.ptr (hp.length + 2)), some (itT j), some (encO none), x14, x15, x16, x17, x18, x19, x20, x21], hp ++ [.own .lst (encS st), dWc names fun x => itT (W x), dWc (sortS names) fun x => itT (c x)]⟩ : S) = some ((sortS names).map stT, (⟨[some scr, some (itT k), some (.ptr hp.length), some (.nd .lst (names.map stT)), some (.ptr (hp.length + 1)), x5, some (encF by'), some (dW names fun x => encF (toldP by' W x)), some (itT (names.map W).sum), some (itT M), some (dW (sortS names) fun x => itT (M * W x)), some (.ptr (hp.length + 2)), some (itT j), some (encO none), x14, x15, x16, x17, x18, x19, x20, x21], hp ++ [.own .lst (encS st), dWc names fun x => itT (W x), dWc (sortS names) fun x => itT (c x)]⟩ : S)) := by
    simp [Z.strs_map, hl2, py]
  show ((CI.seq (CE.call (ON.sorted (K := K) false) (CA.cons (CE.var 3) CA.nil))).ev (⟨[some scr, some (itT k), some (.ptr hp.length), some (.nd .lst (names.map stT)), some (.ptr (hp.length + 1)), x5, some (encF by'), some (dW names fun x => encF (toldP by' W x)), some (itT (names.map W).sum), some (itT M), some (dW (sortS names) fun x => itT (M * W x)), some (.ptr (hp.length + 2)), some (itT j), some (encO none), x14, x15, x16, x17, x18, x19, x20, x21], hp ++ [.own .lst (encS st), dWc names fun x => itT (W x), dWc (sortS names) fun x => itT (c x)]⟩ : S)).bind _ = _
  rw [e0]
  have e1 := fl.1
  rw [nxO2_pick] at e1
  exact e1
theorem l_3 {k j : Int} {names : List Str} {st : Sd} {W c : Str → Int} {by' : Fr} {M : Int} {b : Str} (hl : names.length ≤ 8) (hb : b ∈ sortS names) : (c_law_3 (K := K)).ex (⟨[some scr, some (itT k), some (.ptr hp.length), some (.nd .lst (names.map stT)), some (.ptr (hp.length + 1)), x5, some (encF by'), some (dW names fun x => encF (toldP by' W x)), some (itT (names.map W).sum), some (itT M), some (dW (sortS names) fun x => itT (M * W x)), some (.ptr (hp.length + 2)), some (itT j), some (stT b), x14, x15, x16, x17, x18, x19, x20, x21], hp ++ [.own .lst (encS st), dWc names fun x => itT (W x), dWc (sortS names) fun x => itT (c x)]⟩ : S) = some (.nx (⟨[some scr, some (itT k), some (.ptr hp.length), some (.nd .lst (names.map stT)), some (.ptr (hp.length + 1)), x5, some (encF by'), some (dW names fun x => encF (toldP by' W x)), some (itT (names.map W).sum), some (itT M), some (dW (sortS names) fun x => itT (M * W x)), some (.ptr (hp.length + 2)), some (itT j), some (stT b), x14, x15, x16, x17, x18, x19, x20, x21], hp ++ [.own .lst (encS st), dWc names fun x => itT (W x), dWc (sortS names) fun x => itT (DH.updF c b (c b + 1) x)]⟩ : S)) := by
  have hls : (sortS names).length = names.length := (sortS_perm names).length_eq
  have g2 := getD_map (f := fun x => itT (c x)) hb
  have p1 := putT_fst (f := fun x => itT (c x)) (v := itT (c b + 1)) hb
  have p2 := putT_snd (f := fun x => itT (c x)) (v := itT (c b + 1)) hb
  have e : ((sortS names).map fun x => if x = b then itT (c b + 1) else itT (c x)) = (sortS names).map fun x => itT (DH.updF c b (c b + 1) x) := by
    refine List.map_congr_left fun x _ => ?_
    unfold DH.updF
    split <;> rfl
  rw [e] at p2
  have hl2 : (sortS names).length < 100000 := by omega
  generalize sortS names = ys at *
  simp [c_law_3, ap2, se2, g2, hl2, lim_eq, p1, p2]
theorem l_4 {k j : Int} {names : List Str} {st : Sd} {W c : Str → Int} {by' : Fr} {M : Int} (hb : Fk 20 by') (hb1 : 0 < by'.1) (hn : names.Nodup) (hl : names.length ≤ 8) (hne : 0 < names.length) (hw : ∀ x, 0 ≤ W x ∧ W x < 10) (hp1 : ∃ x ∈ names, 0 < W x) (M0 : 0 ≤ M) (M1 : M < 7) (j0 : 0 ≤ j) (j1 : j < 12) (hc : ∀ x ∈ sortS names, c x = DH.iterV (DH.ltV W) (sortS names) (M * (names.map W).sum + j + 1).toNat x) : (c_law_4 (K := K)).ex (⟨[some scr, some (itT k), some (.ptr hp.length), some (.nd .lst (names.map stT)), some (.ptr (hp.length + 1)), x5, some (encF by'), some (dW names fun x => encF (toldP by' W x)), some (itT (names.map W).sum), some (itT M), some (dW (sortS names) fun x => itT (M * W x)), some (.ptr (hp.length + 2)), some (itT j), some (stT b), x14, x15, x16, x17, x18, x19, x20, x21], hp ++ [.own .lst (encS st), dWc names fun x => itT (W x), dWc (sortS names) fun x => itT (c x)]⟩ : S) = some (.nx (⟨[some scr, some (itT k), some (.ptr hp.length), some (.nd .lst (names.map stT)), some (.ptr (hp.length + 1)), x5, some (encF by'), some (dW names fun x => encF (toldP by' W x)), some (itT (names.map W).sum), some (itT M), some (dW (sortS names) fun x => itT (M * W x)), some (.ptr (hp.length + 2)), some (itT j), some (stT b), x14, x15, x16, x17, x18, x19, x20, x21], hp ++ [.own .lst (encS st), dWc names fun x => itT (W x), dWc (sortS names) fun x => itT (c x)]⟩ : S)) := by
  obtain ⟨b0, b1, b2⟩ := mw_bound (W := W) hl hw M0 M1
  have pt : pureL (names.map fun x => encF (toldP by' W x)) = true := pure_map fun x _ => rfl
  have sp := sp_shared_eq (goodTold (n := M * (names.map W).sum + j + 1) hb hn hl hne hw (by omega) (by omega))
  have sh := shares_told (names := names) (n := M * (names.map W).sum + j + 1) hb hb1 hw hp1 (by omega)
  have sp2 : sp_shared_out [T.at (V.int (M * (names.map W).sum + j + 1)), dW names fun x => encF (toldP by' W x)] = some (.val (dW (sortS names) fun x => itT (sharesP (M * (names.map W).sum + j + 1, names, toldP by' W) x))) := sp
  have ds := dictSame_map (xs := sortS names) (ys := sortS names) (c := sharesP (M * (names.map W).sum + j + 1, names, toldP by' W)) (d := c) rfl (fun x hx => ⟨hx, by rw [sh, hc x hx]⟩)
  have ek := eqk_own (n := true) (ks := kyS (sortS names)) (ts := (sortS names).map fun x => itT (sharesP (M * (names.map W).sum + j + 1, names, toldP by' W) x)) (s := (⟨[some scr, some (itT k), some (.ptr hp.length), some (.nd .lst (names.map stT)), some (.ptr (hp.length + 1)), x5, some (encF by'), some (dW names fun x => encF (toldP by' W x)), some (itT (names.map W).sum), some (itT M), some (dW (sortS names) fun x => itT (M * W x)), some (.ptr (hp.length + 2)), some (itT j), some (stT b), x14, x15, x16, x17, x18, x19, x20, x21], hp ++ [.own .lst (encS st), dWc names fun x => itT (W x), dWc (sortS names) fun x => itT (c x)]⟩ : S)) (m := hp.length + 2) ap2
  rw [ds, if_pos rfl] at ek
  simp [c_law_4, ap2, b2, pt, sp2, eqd_dK, ek]
end
end K42
set_option Elab.async false
set_option linter.all false
set_option maxRecDepth 100000
set_option exponentiation.threshold 400
/-! K42: the law. -/
namespace K42
open PySem PySem.Spec PyProof.Rows L2 Z
section
variable {P : Program} {w : World} {K : PySem.W.Frag} {mg : Str → Option Value} {base : Heap}
variable {x1 x2 x3 x4 x5 x6 x7 x8 x9 x10 x11 x12 x13 x14 x15 x16 x17 x18 x19 x20 x21 : Option T} {hp : List Cell} {scr : T}
abbrev LA := (Str → Int) × Option T × Option T × Option T
def nxL (W : Str → Int) (ys : List Str) (a : LA) (t : T) : LA := (DH.stepV (DH.ltV W) ys a.1, (ys.foldl (nxO2 W a.1) (none, a.2.1)).2, some t, some (encO (DH.pick (DH.ltV W a.1) ys)))
theorem rng_at {n i : Nat} {t : T} (h : (rngT 0 n)[i]? = some t) : t = itT (i : Int) ∧ i < n := by
  unfold rngT at h
  rw [List.getElem?_map] at h
  obtain ⟨m, h1, h2⟩ := Option.map_eq_some_iff.mp h
  have h3 := List.getElem?_eq_some_iff.mp h1
  obtain ⟨h4, h5⟩ := h3
  rw [List.getElem_range] at h5
  rw [List.length_range] at h4
  subst h5
  rw [← h2, Int.zero_add]
  exact ⟨rfl, h4⟩
theorem l_18 {k : Int} {names : List Str} {st : Sd} {W : Str → Int} {by' : Fr} {M : Int} (hb : Fk 20 by') (hb1 : 0 < by'.1) (hn : names.Nodup) (hl : names.length ≤ 8) (hne : 0 < names.length) (hw : ∀ x, 0 ≤ W x ∧ W x < 10) (hp1 : ∃ x ∈ names, 0 < W x) (M0 : 0 ≤ M) (M1 : M < 7) : ∃ (a : LA) (n : Nat), n < 1048576 ∧ a.1 = DH.iterV (DH.ltV W) (sortS names) n ∧ (c_law_18 (K := K)).ex (⟨[some scr, some (itT k), some (.ptr hp.length), some (.nd .lst (names.map stT)), some (.ptr (hp.length + 1)), x5, some (encF by'), some (dW names fun x => encF (toldP by' W x)), some (itT (names.map W).sum), some (itT M), some (dW (sortS names) fun x => itT (M * W x)), some (.ptr (hp.length + 2)), x12, x13, x14, x15, x16, x17, x18, x19, x20, x21], hp ++ [.own .lst (encS st), dWc names fun x => itT (W x), dWc (sortS names) fun x => itT (M * W x)]⟩ : S) = some (.nx (⟨[some scr, some (itT k), some (.ptr hp.length), some (.nd .lst (names.map stT)), some (.ptr (hp.length + 1)), a.2.1, some (encF by'), some (dW names fun x => encF (toldP by' W x)), some (itT (names.map W).sum), some (itT M), some (dW (sortS names) fun x => itT (M * W x)), some (.ptr (hp.length + 2)), a.2.2.1, a.2.2.2, x14, x15, x16, x17, x18, x19, x20, x21], hp ++ [.own .lst (encS st), dWc names fun x => itT (W x), dWc (sortS names) fun x => itT (a.1 x)]⟩ : S)) := by
  obtain ⟨b0, b1, b2⟩ := mw_bound (W := W) hl hw M0 M1
  have sw := sumW_le hw names
  have hne2 : sortS names ≠ [] := fun e => by
    have := (sortS_perm names).length_eq
    rw [e] at this
    have : 0 = names.length := this
    omega
  let n0 := (M * (names.map W).sum).toNat
  let L : Int := if 12 < (names.map W).sum then 12 else (names.map W).sum
  have hL : 0 ≤ L ∧ L ≤ 12 := by
    show 0 ≤ (if 12 < (names.map W).sum then (12 : Int) else (names.map W).sum) ∧ (if 12 < (names.map W).sum then (12 : Int) else (names.map W).sum) ≤ 12
    split <;> omega
  have hml : (rngT 0 L.toNat).length = L.toNat := by simp [rngT]
  have fl := for_foldI (g := (CG.name (K := K) 12).f) (b := (CS.seq (c_law_1 (K := K)) (CS.seq c_law_2 (CS.seq c_law_3 c_law_4))).ex) (fun a : LA => (⟨[some scr, some (itT k), some (.ptr hp.length), some (.nd .lst (names.map stT)), some (.ptr (hp.length + 1)), a.2.1, some (encF by'), some (dW names fun x => encF (toldP by' W x)), some (itT (names.map W).sum), some (itT M), some (dW (sortS names) fun x => itT (M * W x)), some (.ptr (hp.length + 2)), a.2.2.1, a.2.2.2, x14, x15, x16, x17, x18, x19, x20, x21], hp ++ [.own .lst (encS st), dWc names fun x => itT (W x), dWc (sortS names) fun x => itT (a.1 x)]⟩ : S)) (nxL W (sortS names)) (rngT 0 L.toNat) (fun i a => a.1 = DH.iterV (DH.ltV W) (sortS names) (n0 + i)) (DH.iterV (DH.ltV W) (sortS names) n0, x5, x12, x13) rfl (fun i t a ht ha => by
    obtain ⟨ht, hi⟩ := rng_at ht
    subst ht
    obtain ⟨c, u5, u12, u13⟩ := a
    have ha : c = DH.iterV (DH.ltV W) (sortS names) (n0 + i) := ha
    refine ⟨by show DH.stepV (DH.ltV W) (sortS names) c = _; rw [ha]; rfl, .inl ?_⟩
    have c0 : ∀ x, 0 ≤ c x := by rw [ha]; exact DH.iter_nonneg _
    have hn0 : n0 ≤ 432 := by show (M * (names.map W).sum).toNat ≤ 432; omega
    have c1 : ∀ x, c x < 1048576 := fun x => by have := DH.iter_le (lt := DH.ltV W) (xs := sortS names) (n0 + i) x; rw [ha]; omega
    obtain ⟨b, hb2⟩ := DH.pick_some (lt := DH.ltV W c) hne2
    have r2 := l_2 (K := K) (hp := hp) (scr := scr) (x5 := u5) (x14 := x14) (x15 := x15) (x16 := x16) (x17 := x17) (x18 := x18) (x19 := x19) (x20 := x20) (x21 := x21) (k := k) (j := (i : Int)) (st := st) (by' := by') (M := M) hl hw c0 c1
    rw [hb2] at r2
    have r3 := l_3 (K := K) (hp := hp) (scr := scr) (x5 := ((sortS names).foldl (nxO2 W c) (none, u5)).2) (x14 := x14) (x15 := x15) (x16 := x16) (x17 := x17) (x18 := x18) (x19 := x19) (x20 := x20) (x21 := x21) (k := k) (j := (i : Int)) (st := st) (W := W) (c := c) (by' := by') (M := M) hl (DH.pick_mem hb2)
    have hs : DH.stepV (DH.ltV W) (sortS names) c = DH.updF c b (c b + 1) := DH.step_some hb2
    have r4 := l_4 (K := K) (hp := hp) (scr := scr) (x5 := ((sortS names).foldl (nxO2 W c) (none, u5)).2) (x14 := x14) (x15 := x15) (x16 := x16) (x17 := x17) (x18 := x18) (x19 := x19) (x20 := x20) (x21 := x21) (k := k) (j := (i : Int)) (st := st) (W := W) (c := DH.updF c b (c b + 1)) (by' := by') (M := M) (b := b) hb hb1 hn hl hne hw hp1 M0 M1 (by omega) (by omega) (fun x hx => by
      rw [← hs, ha]
      have e : (M * (names.map W).sum + (i : Int) + 1).toNat = n0 + i + 1 := by show _ = (M * (names.map W).sum).toNat + i + 1; omega
      rw [e]
      rfl)
    have r1 : ((CG.name (K := K) 12).f (itT (i : Int)) (⟨[some scr, some (itT k), some (.ptr hp.length), some (.nd .lst (names.map stT)), some (.ptr (hp.length + 1)), u5, some (encF by'), some (dW names fun x => encF (toldP by' W x)), some (itT (names.map W).sum), some (itT M), some (dW (sortS names) fun x => itT (M * W x)), some (.ptr (hp.length + 2)), u12, u13, x14, x15, x16, x17, x18, x19, x20, x21], hp ++ [.own .lst (encS st), dWc names fun x => itT (W x), dWc (sortS names) fun x => itT (c x)]⟩ : S)).bind (c_law_1 (K := K)).ex = some (.nx (⟨[some scr, some (itT k), some (.ptr hp.length), some (.nd .lst (names.map stT)), some (.ptr (hp.length + 1)), u5, some (encF by'), some (dW names fun x => encF (toldP by' W x)), some (itT (names.map W).sum), some (itT M), some (dW (sortS names) fun x => itT (M * W x)), some (.ptr (hp.length + 2)), some (itT (i : Int)), some (encO none), x14, x15, x16, x17, x18, x19, x20, x21], hp ++ [.own .lst (encS st), dWc names fun x => itT (W x), dWc (sortS names) fun x => itT (c x)]⟩ : S)) := by
      simp [c_law_1, encO]
    obtain ⟨sa, q1, q2⟩ := Option.bind_eq_some_iff.mp r1
    show ((CG.name (K := K) 12).f (itT (i : Int)) (⟨[some scr, some (itT k), some (.ptr hp.length), some (.nd .lst (names.map stT)), some (.ptr (hp.length + 1)), u5, some (encF by'), some (dW names fun x => encF (toldP by' W x)), some (itT (names.map W).sum), some (itT M), some (dW (sortS names) fun x => itT (M * W x)), some (.ptr (hp.length + 2)), u12, u13, x14, x15, x16, x17, x18, x19, x20, x21], hp ++ [.own .lst (encS st), dWc names fun x => itT (W x), dWc (sortS names) fun x => itT (c x)]⟩ : S)).bind _ = _
    rw [q1, Option.bind_some, seq_ex, q2]
    show (CS.seq (c_law_2 (K := K)) (CS.seq c_law_3 c_law_4)).ex _ = _
    rw [seq_ex, r2]
    show (CS.seq (c_law_3 (K := K)) c_law_4).ex _ = _
    rw [seq_ex]
    show ((c_law_3 (K := K)).ex (⟨[some scr, some (itT k), some (.ptr hp.length), some (.nd .lst (names.map stT)), some (.ptr (hp.length + 1)), ((sortS names).foldl (nxO2 W c) (none, u5)).2, some (encF by'), some (dW names fun x => encF (toldP by' W x)), some (itT (names.map W).sum), some (itT M), some (dW (sortS names) fun x => itT (M * W x)), some (.ptr (hp.length + 2)), some (itT (i : Int)), some (stT b), x14, x15, x16, x17, x18, x19, x20, x21], hp ++ [.own .lst (encS st), dWc names fun x => itT (W x), dWc (sortS names) fun x => itT (c x)]⟩ : S)).bind _ = _
    rw [r3]
    show (c_law_4 (K := K)).ex _ = _
    rw [r4]
    unfold nxL
    rw [hs, hb2]
    rfl)
  obtain ⟨f1, f2⟩ := fl
  rw [hml] at f2
  refine ⟨_, n0 + L.toNat, by show (M * (names.map W).sum).toNat + L.toNat < _; omega, f2, ?_⟩
  have e0 : (CI.rng1 (CA.cons (CE.call (ON.min2 (K := K)) (CA.cons (CE.var 8) (CA.cons (CE.int 12) CA.nil))) CA.nil)).ev (⟨[some scr, some (itT k), some (.ptr hp.length), some (.nd .lst (names.map stT)), some (.ptr (hp.length + 1)), x5, some (encF by'), some (dW names fun x => encF (toldP by' W x)), some (itT (names.map W).sum), some (itT M), some (dW (sortS names) fun x => itT (M * W x)), some (.ptr (hp.length + 2)), x12, x13, x14, x15, x16, x17, x18, x19, x20, x21], hp ++ [.own .lst (encS st), dWc names fun x => itT (W x), dWc (sortS names) fun x => itT (M * W x)]⟩ : S) = some (rngT 0 L.toNat, (⟨[some scr, some (itT k), some (.ptr hp.length), some (.nd .lst (names.map stT)), some (.ptr (hp.length + 1)), x5, some (encF by'), some (dW names fun x => encF (toldP by' W x)), some (itT (names.map W).sum), some (itT M), some (dW (sortS names) fun x => itT (M * W x)), some (.ptr (hp.length + 2)), x12, x13, x14, x15, x16, x17, x18, x19, x20, x21], hp ++ [.own .lst (encS st), dWc names fun x => itT (W x), dWc (sortS names) fun x => itT (M * W x)]⟩ : S)) := by
    have h1 : -4611686018427387904 ≤ L ∧ L < 4611686018427387904 := by omega
    have h2 : -4611686018427387904 ≤ (if 12 < (names.map W).sum then (12 : Int) else (names.map W).sum) ∧ (if 12 < (names.map W).sum then (12 : Int) else (names.map W).sum) < 4611686018427387904 := h1
    simp [h2]
    rfl
  show ((CI.rng1 (CA.cons (CE.call (ON.min2 (K := K)) (CA.cons (CE.var 8) (CA.cons (CE.int 12) CA.nil))) CA.nil)).ev (⟨[some scr, some (itT k), some (.ptr hp.length), some (.nd .lst (names.map stT)), some (.ptr (hp.length + 1)), x5, some (encF by'), some (dW names fun x => encF (toldP by' W x)), some (itT (names.map W).sum), some (itT M), some (dW (sortS names) fun x => itT (M * W x)), some (.ptr (hp.length + 2)), x12, x13, x14, x15, x16, x17, x18, x19, x20, x21], hp ++ [.own .lst (encS st), dWc names fun x => itT (W x), dWc (sortS names) fun x => itT (M * W x)]⟩ : S)).bind _ = _
  rw [e0]
  have es : (⟨[some scr, some (itT k), some (.ptr hp.length), some (.nd .lst (names.map stT)), some (.ptr (hp.length + 1)), x5, some (encF by'), some (dW names fun x => encF (toldP by' W x)), some (itT (names.map W).sum), some (itT M), some (dW (sortS names) fun x => itT (M * W x)), some (.ptr (hp.length + 2)), x12, x13, x14, x15, x16, x17, x18, x19, x20, x21], hp ++ [.own .lst (encS st), dWc names fun x => itT (W x), dWc (sortS names) fun x => itT (M * W x)]⟩ : S) = (⟨[some scr, some (itT k), some (.ptr hp.length), some (.nd .lst (names.map stT)), some (.ptr (hp.length + 1)), x5, some (encF by'), some (dW names fun x => encF (toldP by' W x)), some (itT (names.map W).sum), some (itT M), some (dW (sortS names) fun x => itT (M * W x)), some (.ptr (hp.length + 2)), x12, x13, x14, x15, x16, x17, x18, x19, x20, x21], hp ++ [.own .lst (encS st), dWc names fun x => itT (W x), dWc (sortS names) fun x => itT (DH.iterV (DH.ltV W) (sortS names) n0 x)]⟩ : S) := by
    have : (sortS names).map (fun x => itT (M * W x)) = (sortS names).map fun x => itT (DH.iterV (DH.ltV W) (sortS names) n0 x) := List.map_congr_left fun x hx => by
      rw [DH.whole_eq (n := n0) ((sortS_perm names).nodup_iff.mpr hn) (fun x _ => (hw x).1) M0 (by rw [sum_sort]; show ((M * (names.map W).sum).toNat : Int) = _; omega) x hx]
    show (⟨_, hp ++ [_, _, .own (.dK (kyS (sortS names))) ((sortS names).map fun x => itT (M * W x))]⟩ : S) = _
    rw [this]
  rw [es]
  exact f1
end
end K42
set_option Elab.async false
set_option linter.all false
set_option maxRecDepth 100000
set_option exponentiation.threshold 400
/-! K42: the law. -/
namespace K42
open PySem PySem.Spec PyProof.Rows L2 Z
section
variable {P : Program} {w : World} {K : PySem.W.Frag} {mg : Str → Option Value} {base : Heap}
variable {x1 x2 x3 x4 x5 x6 x7 x8 x9 x10 x11 x12 x13 x14 x15 x16 x17 x18 x19 x20 x21 : Option T} {hp : List Cell} {scr : T}
theorem lc_evq {α : Type} {o : Bool} {i : Nat} {it : CI K} {g : CG K} {c : CT K} {e : CE K} {s : S} {enc : α → T} {ts : List α} {us : List T} (hit : it.ev s = some (ts.map enc, s)) (hg : g.ws.all [i].contains = true)
    (h : lcEv g.f c.ev e.ev (wipeL s.sl [i]) (ts.map enc) [] s.hp = some (us, s.hp)) : (CE.lc o [i] it g c e).ev s = some (allocT o s .lst us) := by
  show ((it.ev s).bind fun p => if g.ws.all [i].contains = true then (lcEv g.f c.ev e.ev (wipeL p.2.sl [i]) p.1 [] p.2.hp).map fun z => allocT o { p.2 with hp := z.2 } .lst z.1 else none) = _
  rw [hit]
  show (if g.ws.all [i].contains = true then (lcEv g.f c.ev e.ev (wipeL s.sl [i]) (ts.map enc) [] s.hp).map fun z => allocT o { s with hp := z.2 } .lst z.1 else none) = _
  rw [if_pos hg, h]
  rfl
theorem l_19 {k : Int} {names : List Str} {st : Sd} {W c : Str → Int} {by' : Fr} {M : Int} (h : StOk st) (hl : names.length ≤ 8) (hne : 0 < names.length) : ∃ (j : Nat) (st' : Sd), StOk st' ∧ 1 ≤ j ∧ (c_law_19 (K := K)).ex (⟨[some scr, some (itT k), some (.ptr hp.length), some (.nd .lst (names.map stT)), some (.ptr (hp.length + 1)), x5, some (encF by'), some (dW names fun x => encF (toldP by' W x)), some (itT (names.map W).sum), some (itT M), some (dW (sortS names) fun x => itT (M * W x)), some (.ptr (hp.length + 2)), x12, x13, x14, x15, x16, x17, x18, x19, x20, x21], hp ++ [.own .lst (encS st), dWc names fun x => itT (W x), dWc (sortS names) fun x => itT (c x)]⟩ : S) = some (.nx (⟨[some scr, some (itT k), some (.ptr hp.length), some (.nd .lst (names.map stT)), some (.ptr (hp.length + 1)), x5, some (encF by'), some (dW names fun x => encF (toldP by' W x)), some (itT (names.map W).sum), some (itT M), some (dW (sortS names) fun x => itT (M * W x)), some (.ptr (hp.length + 2)), x12, x13, some (.nd .lst (((sortS names).take j).map stT)), x15, x16, x17, x18, x19, x20, x21], hp ++ [.own .lst (encS st'), dWc names fun x => itT (W x), dWc (sortS names) fun x => itT (c x)]⟩ : S)) := by
  have d := drawP_ok (m := (names.length : Int)) h (by omega) (by omega)
  have sd := sp_draw_eq (m := (names.length : Int)) h (by omega) (by omega)
  have pS : ∀ z : Sd, pureL (encS z) = true := fun _ => rfl
  have hl2 : names.length < 64 := by omega
  refine ⟨(1 + (drawP st names.length).1).toNat, (drawP st names.length).2, d.1, by omega, ?_⟩
  generalize drawP st names.length = D at *
  have tk := fun s => slcF_take (o := false) (ts := (sortS names).map stT) (j := 1 + D.1) (s := s) (by omega)
  have mt : ((sortS names).map stT).take (1 + D.1).toNat = ((sortS names).take (1 + D.1).toNat).map stT := List.map_take.symm
  have ev : (CE.slc (K := K) false (CE.call (ON.sorted false) (CA.cons (CE.var 3) CA.nil)) CP.no (CP.of (CE.op2 (O2.add false) (CE.int 1) (CE.call (ON.fnR sp_law_draw) (CA.cons (CE.var 2) (CA.cons (CE.call (ON.len) (CA.cons (CE.var 3) CA.nil)) CA.nil)))))).ev (⟨[some scr, some (itT k), some (.ptr hp.length), some (.nd .lst (names.map stT)), some (.ptr (hp.length + 1)), x5, some (encF by'), some (dW names fun x => encF (toldP by' W x)), some (itT (names.map W).sum), some (itT M), some (dW (sortS names) fun x => itT (M * W x)), some (.ptr (hp.length + 2)), x12, x13, x14, x15, x16, x17, x18, x19, x20, x21], hp ++ [.own .lst (encS st), dWc names fun x => itT (W x), dWc (sortS names) fun x => itT (c x)]⟩ : S) = some (.nd .lst (((sortS names).take (1 + D.1).toNat).map stT), (⟨[some scr, some (itT k), some (.ptr hp.length), some (.nd .lst (names.map stT)), some (.ptr (hp.length + 1)), x5, some (encF by'), some (dW names fun x => encF (toldP by' W x)), some (itT (names.map W).sum), some (itT M), some (dW (sortS names) fun x => itT (M * W x)), some (.ptr (hp.length + 2)), x12, x13, x14, x15, x16, x17, x18, x19, x20, x21], hp ++ [.own .lst (encS D.2), dWc names fun x => itT (W x), dWc (sortS names) fun x => itT (c x)]⟩ : S)) := by
    simp [Z.strs_map, hl2, ap0, se0, pS, sd, tk]
  show ((CE.slc (K := K) false _ _ _).ev _).bind _ = _
  rw [ev]
  rfl
theorem l_5 {k : Int} {names zs : List Str} {st : Sd} {W c : Str → Int} {by' : Fr} {M : Int} {n : Nat} (hb : Fk 20 by') (hb1 : 0 < by'.1) (hn : names.Nodup) (hl : names.length ≤ 8) (hw : ∀ x, 0 ≤ W x ∧ W x < 10) {j : Nat} (j1 : 1 ≤ j) (hne : 0 < names.length)
    (hz : zs = (sortS names).take j) (hp1 : ∃ x ∈ zs, 0 < W x) (hn1 : n < 1048576) (hc : c = DH.iterV (DH.ltV W) (sortS names) n) : (c_law_5 (K := K)).ex (⟨[some scr, some (itT k), some (.ptr hp.length), some (.nd .lst (names.map stT)), some (.ptr (hp.length + 1)), x5, some (encF by'), some (dW names fun x => encF (toldP by' W x)), some (itT (names.map W).sum), some (itT M), some (dW (sortS names) fun x => itT (M * W x)), some (.ptr (hp.length + 2)), x12, x13, some (.nd .lst (zs.map stT)), x15, x16, x17, x18, x19, x20, x21], hp ++ [.own .lst (encS st), dWc names fun x => itT (W x), dWc (sortS names) fun x => itT (c x)]⟩ : S) = some (.nx (⟨[some scr, some (itT k), some (.ptr hp.length), some (.nd .lst (names.map stT)), some (.ptr (hp.length + 1)), x5, some (encF by'), some (dW names fun x => encF (toldP by' W x)), some (itT (names.map W).sum), some (itT M), some (dW (sortS names) fun x => itT (M * W x)), some (.ptr (hp.length + 2)), x12, x13, some (.nd .lst (zs.map stT)), some (dW zs fun x => itT (c x)), x16, x17, x18, x19, x20, x21], hp ++ [.own .lst (encS st), dWc names fun x => itT (W x), dWc (sortS names) fun x => itT (c x)]⟩ : S)) := by
  have hys := (sortS_perm names).length_eq
  have hnd := (sortS_perm names).nodup_iff.mpr hn
  have zmem : ∀ x ∈ zs, x ∈ sortS names := fun x hx => List.mem_of_mem_take (hz ▸ hx)
  have znd : zs.Nodup := by rw [hz]; exact hnd.sublist (List.take_sublist _ _)
  have zl : zs.length ≤ 8 := by rw [hz, List.length_take]; omega
  have zne : 0 < zs.length := by rw [hz, List.length_take]; omega
  have zsort : sortS zs = zs := by
    have ps : (sortS names).Pairwise (fun a b => leS a b = true) := List.pairwise_mergeSort (fun a b c => leS_trans a b c) (fun a b => leS_total a b) names
    have pz : zs.Pairwise (fun a b => leS a b = true) := by rw [hz]; exact ps.sublist (List.take_sublist _ _)
    exact List.mergeSort_of_pairwise pz
  obtain ⟨q, q1, q2⟩ := DH.part (v := W) hnd j n
  rw [← hz, ← hc] at q1 q2
  have c0 : ∀ x, 0 ≤ c x := by rw [hc]; exact DH.iter_nonneg n
  have sumb : ((zs.map c).sum : Int) < 1048576 ∨ True := .inr trivial
  have qn : q ≤ n := by
    have : ((zs.map c).sum : Int) ≤ ((sortS names).map c).sum := by
      rw [hz]
      conv => rhs; rw [← List.take_append_drop j (sortS names), List.map_append, List.sum_append]
      have : ∀ l : List Str, 0 ≤ (l.map c).sum := fun l => by
        induction l with
        | nil => exact Int.le_refl _
        | cons y l ih => rw [List.map_cons, List.sum_cons]; have := c0 y; omega
      have := this ((sortS names).drop j)
      omega
    have t : ∀ m : Nat, ((sortS names).map (DH.iterV (DH.ltV W) (sortS names) m)).sum ≤ m := by
      intro m
      induction m with
      | zero =>
        have : ∀ l : List Str, (l.map (DH.iterV (DH.ltV W) (sortS names) 0)).sum = 0 := fun l => by
          induction l with
          | nil => rfl
          | cons y l ih => rw [List.map_cons, List.sum_cons, ih]; rfl
        rw [this]; exact Int.le_refl _
      | succ m ih =>
        cases hp : DH.pick (DH.ltV W (DH.iterV (DH.ltV W) (sortS names) m)) (sortS names) with
        | none =>
          have e : DH.iterV (DH.ltV W) (sortS names) (m + 1) = DH.iterV (DH.ltV W) (sortS names) m := by
            show DH.stepV _ _ _ = _
            unfold DH.stepV
            rw [hp]
          rw [e]; omega
        | some b =>
          have e : DH.iterV (DH.ltV W) (sortS names) (m + 1) = DH.updF (DH.iterV (DH.ltV W) (sortS names) m) b (DH.iterV (DH.ltV W) (sortS names) m b + 1) := DH.step_some hp
          rw [e, DH.sum_upd hnd (DH.pick_mem hp)]; omega
    have := t n
    rw [← hc] at this
    omega
  have pz : pureL (zs.map stT) = true := pure_map fun x _ => rfl
  have pt : pureL (zs.map fun x => encF (toldP by' W x)) = true := pure_map fun x _ => rfl
  have l1 := lc_evq (K := K) (o := false) (i := 5) (it := CI.seq (CE.var 14)) (g := CG.name 5) (c := CT.yes) (e := CE.sub (CE.var 11) (CE.var 5)) (s := (⟨[some scr, some (itT k), some (.ptr hp.length), some (.nd .lst (names.map stT)), some (.ptr (hp.length + 1)), x5, some (encF by'), some (dW names fun x => encF (toldP by' W x)), some (itT (names.map W).sum), some (itT M), some (dW (sortS names) fun x => itT (M * W x)), some (.ptr (hp.length + 2)), x12, x13, some (.nd .lst (zs.map stT)), x15, x16, x17, x18, x19, x20, x21], hp ++ [.own .lst (encS st), dWc names fun x => itT (W x), dWc (sortS names) fun x => itT (c x)]⟩ : S)) (enc := stT) (ts := zs) (us := zs.map fun x => itT (c x)) (by simp [pz]) rfl (lc_over' stT _ _ (fun x => itT (c x)) (acc := []) (fun x hx => by
    have g1 := getD_map (f := fun x => itT (c x)) (zmem x hx)
    refine ⟨_, rfl, rfl, ?_, rfl⟩
    simp [wipeL, ap2, g1]) (by rw [lim_eq]; simp; omega))
  have l2 := lc_evq (K := K) (o := false) (i := 5) (it := CI.seq (CE.var 14)) (g := CG.name 5) (c := CT.yes) (e := CE.tup (CA.cons (CE.var 5) (CA.cons (CE.sub (CE.var 7) (CE.var 5)) CA.nil))) (s := (⟨[some scr, some (itT k), some (.ptr hp.length), some (.nd .lst (names.map stT)), some (.ptr (hp.length + 1)), x5, some (encF by'), some (dW names fun x => encF (toldP by' W x)), some (itT (names.map W).sum), some (itT M), some (dW (sortS names) fun x => itT (M * W x)), some (.ptr (hp.length + 2)), x12, x13, some (.nd .lst (zs.map stT)), x15, x16, x17, x18, x19, x20, x21], hp ++ [.own .lst (encS st), dWc names fun x => itT (W x), dWc (sortS names) fun x => itT (c x)]⟩ : S)) (enc := stT) (ts := zs) (us := zs.map fun x => T.nd .tup [stT x, encF (toldP by' W x)]) (by simp [pz]) rfl (lc_over' stT _ _ (fun x => T.nd .tup [stT x, encF (toldP by' W x)]) (acc := []) (fun x hx => by
    have g1 := getD_map (f := fun x => encF (toldP by' W x)) (sortS_mem.mp (zmem x hx))
    refine ⟨_, rfl, rfl, ?_, rfl⟩
    simp [wipeL, g1, lim_eq]) (by rw [lim_eq]; simp; omega))
  have im := ints_mapf c zs
  have dp := fun s => dict_pairs (K := K) (o := false) (f := fun x => encF (toldP by' W x)) (s := s) znd
  have sp : sp_shared_out [T.at (V.int (zs.map c).sum), dW zs fun x => encF (toldP by' W x)] = some (.val (dW zs fun x => itT (c x))) := by
    have g := sp_shared_eq (goodTold (names := zs) (n := (zs.map c).sum) hb znd zl zne hw (by omega) (by omega))
    have sh := shares_told (names := zs) (n := (zs.map c).sum) hb hb1 hw hp1 (by omega)
    rw [zsort] at sh
    have : (dW zs fun x => itT (c x)) = dW (sortS zs) fun x => itT (sharesP ((zs.map c).sum, zs, toldP by' W) x) := by
      rw [zsort]
      exact congrArg (T.nd _) (List.map_congr_left fun x hx => by rw [sh, ← q1, Int.toNat_natCast, q2 x hx])
    rw [this]
    exact g
  simp only [c_law_5, CS.set, asg_ex, call_ev, consA_ev, nilA_ev, l1, l2, allocT_f, Option.bind_some, sum_nd, im, Option.map_some, dp, fn_f, frzs_cons, frzs_nil, frz_at, frz_nd_pure pt, sp, resF_val]
  rfl
theorem l_6 {k : Int} {names zs : List Str} {st : Sd} {W c : Str → Int} {by' : Fr} {M : Int} (zmem : ∀ x ∈ zs, x ∈ sortS names) (znd : zs.Nodup) (zl : zs.length ≤ 8) : (c_law_6 (K := K)).ex (⟨[some scr, some (itT k), some (.ptr hp.length), some (.nd .lst (names.map stT)), some (.ptr (hp.length + 1)), x5, some (encF by'), some (dW names fun x => encF (toldP by' W x)), some (itT (names.map W).sum), some (itT M), some (dW (sortS names) fun x => itT (M * W x)), some (.ptr (hp.length + 2)), x12, x13, some (.nd .lst (zs.map stT)), some (dW zs fun x => itT (c x)), x16, x17, x18, x19, x20, x21], hp ++ [.own .lst (encS st), dWc names fun x => itT (W x), dWc (sortS names) fun x => itT (c x)]⟩ : S) = some (.nx (⟨[some scr, some (itT k), some (.ptr hp.length), some (.nd .lst (names.map stT)), some (.ptr (hp.length + 1)), x5, some (encF by'), some (dW names fun x => encF (toldP by' W x)), some (itT (names.map W).sum), some (itT M), some (dW (sortS names) fun x => itT (M * W x)), some (.ptr (hp.length + 2)), x12, x13, some (.nd .lst (zs.map stT)), some (dW zs fun x => itT (c x)), x16, x17, x18, x19, x20, x21], hp ++ [.own .lst (encS st), dWc names fun x => itT (W x), dWc (sortS names) fun x => itT (c x)]⟩ : S)) := by
  have pz : pureL (zs.map stT) = true := pure_map fun x _ => rfl
  have l1 := lc_evq (K := K) (o := false) (i := 5) (it := CI.seq (CE.var 14)) (g := CG.name 5) (c := CT.yes) (e := CE.tup (CA.cons (CE.var 5) (CA.cons (CE.sub (CE.var 11) (CE.var 5)) CA.nil))) (s := (⟨[some scr, some (itT k), some (.ptr hp.length), some (.nd .lst (names.map stT)), some (.ptr (hp.length + 1)), x5, some (encF by'), some (dW names fun x => encF (toldP by' W x)), some (itT (names.map W).sum), some (itT M), some (dW (sortS names) fun x => itT (M * W x)), some (.ptr (hp.length + 2)), x12, x13, some (.nd .lst (zs.map stT)), some (dW zs fun x => itT (c x)), x16, x17, x18, x19, x20, x21], hp ++ [.own .lst (encS st), dWc names fun x => itT (W x), dWc (sortS names) fun x => itT (c x)]⟩ : S)) (enc := stT) (ts := zs) (us := zs.map fun x => T.nd .tup [stT x, itT (c x)]) (by simp [pz]) rfl (lc_over' stT _ _ (fun x => T.nd .tup [stT x, itT (c x)]) (acc := []) (fun x hx => by
    have g1 := getD_map (f := fun x => itT (c x)) (zmem x hx)
    refine ⟨_, rfl, rfl, ?_, rfl⟩
    simp [wipeL, ap2, g1, lim_eq]) (by rw [lim_eq]; simp; omega))
  have dp := fun s => dict_pairs (K := K) (o := false) (f := fun x => itT (c x)) (s := s) znd
  have ds := dictSame_map (xs := zs) (ys := zs) (c := c) (d := c) rfl (fun x hx => ⟨hx, rfl⟩)
  simp only [c_law_6, ife_ex, ofE_ev, eq_ev, op2_ev, call_ev, consA_ev, nilA_ev, l1, allocT_f, dp, var_ev, List.getElem?_cons_succ, List.getElem?_cons_zero, res_nd, Option.bind_some, eqs_f, eqsF_nd, eqd_f, eqd_dK, eqk_f, eqk_nd, ds, if_true]
  rfl
theorem l_20 {k : Int} {names zs : List Str} {st : Sd} {W c : Str → Int} {by' : Fr} {M : Int} {n : Nat} (hb : Fk 20 by') (hb1 : 0 < by'.1) (hn : names.Nodup) (hl : names.length ≤ 8) (hw : ∀ x, 0 ≤ W x ∧ W x < 10) {j : Nat} (j1 : 1 ≤ j) (hne : 0 < names.length)
    (hz : zs = (sortS names).take j) (hn1 : n < 1048576) (hc : c = DH.iterV (DH.ltV W) (sortS names) n) (hok : ∀ x ∈ names, PyData.strOk x = true) : ∃ u15 : Option T, (c_law_20 (K := K)).ex (⟨[some scr, some (itT k), some (.ptr hp.length), some (.nd .lst (names.map stT)), some (.ptr (hp.length + 1)), x5, some (encF by'), some (dW names fun x => encF (toldP by' W x)), some (itT (names.map W).sum), some (itT M), some (dW (sortS names) fun x => itT (M * W x)), some (.ptr (hp.length + 2)), x12, x13, some (.nd .lst (zs.map stT)), x15, x16, x17, x18, x19, x20, x21], hp ++ [.own .lst (encS st), dWc names fun x => itT (W x), dWc (sortS names) fun x => itT (c x)]⟩ : S) = some (.nx (⟨[some scr, some (itT k), some (.ptr hp.length), some (.nd .lst (names.map stT)), some (.ptr (hp.length + 1)), x5, some (encF by'), some (dW names fun x => encF (toldP by' W x)), some (itT (names.map W).sum), some (itT M), some (dW (sortS names) fun x => itT (M * W x)), some (.ptr (hp.length + 2)), x12, x13, some (.nd .lst (zs.map stT)), u15, x16, x17, x18, x19, x20, x21], hp ++ [.own .lst (encS st), dWc names fun x => itT (W x), dWc (sortS names) fun x => itT (c x)]⟩ : S)) := by
  have hys := (sortS_perm names).length_eq
  have hnd := (sortS_perm names).nodup_iff.mpr hn
  have zmem : ∀ x ∈ zs, x ∈ sortS names := fun x hx => List.mem_of_mem_take (hz ▸ hx)
  have znd : zs.Nodup := by rw [hz]; exact hnd.sublist (List.take_sublist _ _)
  have zl : zs.length ≤ 8 := by rw [hz, List.length_take]; omega
  have pz : pureL (zs.map stT) = true := pure_map fun x _ => rfl
  have l1 := lc_evq (K := K) (o := false) (i := 5) (it := CI.seq (CE.var 14)) (g := CG.name 5) (c := CT.ofE (CE.op2 O2.gt (CE.sub (CE.var 4) (CE.var 5)) (CE.int 0))) (e := CE.var 5) (s := (⟨[some scr, some (itT k), some (.ptr hp.length), some (.nd .lst (names.map stT)), some (.ptr (hp.length + 1)), x5, some (encF by'), some (dW names fun x => encF (toldP by' W x)), some (itT (names.map W).sum), some (itT M), some (dW (sortS names) fun x => itT (M * W x)), some (.ptr (hp.length + 2)), x12, x13, some (.nd .lst (zs.map stT)), x15, x16, x17, x18, x19, x20, x21], hp ++ [.own .lst (encS st), dWc names fun x => itT (W x), dWc (sortS names) fun x => itT (c x)]⟩ : S)) (enc := stT) (ts := zs) (us := (zs.filter fun x => decide (0 < W x)).map stT) (by simp [pz]) rfl (lc_overF stT _ _ (fun x => decide (0 < W x)) stT (acc := []) (fun x hx => by
    have g1 := getD_map (f := fun x => itT (W x)) (sortS_mem.mp (zmem x hx))
    refine ⟨_, rfl, ?_, rfl, rfl⟩
    simp [wipeL, ap1, g1]) (by rw [lim_eq]; simp; omega))
  have ed := fun s => eqd_strs (zs := zs.filter fun x => decide (0 < W x)) (n := true) (s := s) (fun x hx => hok x (sortS_mem.mp (zmem x ((List.mem_filter.mp hx).1))))
  have ec : (CT.ofE (CE.eq (K := K) true (CE.lc false [5] (CI.seq (CE.var 14)) (CG.name 5) (CT.ofE (CE.op2 O2.gt (CE.sub (CE.var 4) (CE.var 5)) (CE.int 0))) (CE.var 5)) (CE.lst false CA.nil))).ev (⟨[some scr, some (itT k), some (.ptr hp.length), some (.nd .lst (names.map stT)), some (.ptr (hp.length + 1)), x5, some (encF by'), some (dW names fun x => encF (toldP by' W x)), some (itT (names.map W).sum), some (itT M), some (dW (sortS names) fun x => itT (M * W x)), some (.ptr (hp.length + 2)), x12, x13, some (.nd .lst (zs.map stT)), x15, x16, x17, x18, x19, x20, x21], hp ++ [.own .lst (encS st), dWc names fun x => itT (W x), dWc (sortS names) fun x => itT (c x)]⟩ : S) = some (!(zs.filter fun x => decide (0 < W x)).isEmpty, (⟨[some scr, some (itT k), some (.ptr hp.length), some (.nd .lst (names.map stT)), some (.ptr (hp.length + 1)), x5, some (encF by'), some (dW names fun x => encF (toldP by' W x)), some (itT (names.map W).sum), some (itT M), some (dW (sortS names) fun x => itT (M * W x)), some (.ptr (hp.length + 2)), x12, x13, some (.nd .lst (zs.map stT)), x15, x16, x17, x18, x19, x20, x21], hp ++ [.own .lst (encS st), dWc names fun x => itT (W x), dWc (sortS names) fun x => itT (c x)]⟩ : S)) := by
    simp only [ofE_ev, eq_ev, op2_ev, l1, allocT_f, Option.bind_some, lst_ev, nilA_ev, List.length_nil, Nat.zero_le, if_true, eqs_f, eqsF_nd, eqd_f, ed]
  by_cases he : (zs.filter fun x => decide (0 < W x)) = []
  · refine ⟨x15, ?_⟩
    rw [he] at ec
    show ((CT.ofE _).ev _).bind _ = _
    rw [ec]
    rfl
  · have hp1 : ∃ x ∈ zs, 0 < W x := by
      obtain ⟨x, hx⟩ := List.exists_mem_of_ne_nil _ he
      obtain ⟨h1, h2⟩ := List.mem_filter.mp hx
      exact ⟨x, h1, of_decide_eq_true h2⟩
    have r5 := l_5 (K := K) (hp := hp) (scr := scr) (x5 := x5) (x12 := x12) (x13 := x13) (x15 := x15) (x16 := x16) (x17 := x17) (x18 := x18) (x19 := x19) (x20 := x20) (x21 := x21) (k := k) (st := st) (M := M) hb hb1 hn hl hw j1 hne hz hp1 hn1 hc
    have r6 := l_6 (K := K) (hp := hp) (scr := scr) (x5 := x5) (x12 := x12) (x13 := x13) (x16 := x16) (x17 := x17) (x18 := x18) (x19 := x19) (x20 := x20) (x21 := x21) (k := k) (names := names) (st := st) (W := W) (c := c) (by' := by') (M := M) zmem znd zl
    refine ⟨some (dW zs fun x => itT (c x)), ?_⟩
    have hf : (zs.filter fun x => decide (0 < W x)).isEmpty = false := by
      cases hh : (zs.filter fun x => decide (0 < W x)) with
      | nil => exact (he hh).elim
      | cons _ _ => rfl
    rw [hf] at ec
    show ((CT.ofE _).ev _).bind _ = _
    rw [ec]
    show (CS.seq (c_law_5 (K := K)) c_law_6).ex _ = _
    rw [seq_ex, r5]
    exact r6
end
end K42
set_option Elab.async false
set_option linter.all false
set_option maxRecDepth 100000
set_option exponentiation.threshold 400
/-! K42: the law. -/
namespace K42
open PySem PySem.Spec PyProof.Rows L2 Z
section
variable {P : Program} {w : World} {K : PySem.W.Frag} {mg : Str → Option Value} {base : Heap}
variable {x1 x2 x3 x4 x5 x6 x7 x8 x9 x10 x11 x12 x13 x14 x15 x16 x17 x18 x19 x20 x21 : Option T} {hp : List Cell} {scr : T}
theorem l_21 {k : Int} {names zs : List Str} {st : Sd} {W c : Str → Int} {by' : Fr} {M : Int} (h : StOk st) : ∃ (C : Int) (st' : Sd), StOk st' ∧ 0 ≤ C ∧ C < 40 ∧ (c_law_21 (K := K)).ex (⟨[some scr, some (itT k), some (.ptr hp.length), some (.nd .lst (names.map stT)), some (.ptr (hp.length + 1)), x5, some (encF by'), some (dW names fun x => encF (toldP by' W x)), some (itT (names.map W).sum), some (itT M), some (dW (sortS names) fun x => itT (M * W x)), some (.ptr (hp.length + 2)), x12, x13, some (.nd .lst (zs.map stT)), x15, x16, x17, x18, x19, x20, x21], hp ++ [.own .lst (encS st), dWc names fun x => itT (W x), dWc (sortS names) fun x => itT (c x)]⟩ : S) = some (.nx (⟨[some scr, some (itT k), some (.ptr hp.length), some (.nd .lst (names.map stT)), some (.ptr (hp.length + 1)), x5, some (encF by'), some (dW names fun x => encF (toldP by' W x)), some (itT (names.map W).sum), some (itT M), some (dW (sortS names) fun x => itT (M * W x)), some (.ptr (hp.length + 2)), x12, x13, some (.nd .lst (zs.map stT)), x15, some (itT C), x17, x18, x19, x20, x21], hp ++ [.own .lst (encS st'), dWc names fun x => itT (W x), dWc (sortS names) fun x => itT (c x)]⟩ : S)) := by
  have d := drawP_ok (m := 40) h (by decide) (by decide)
  have sd := sp_draw_eq (m := 40) h (by decide) (by decide)
  have pS : ∀ z : Sd, pureL (encS z) = true := fun _ => rfl
  refine ⟨_, _, d.1, d.2.1, d.2.2, ?_⟩
  generalize drawP st 40 = D at *
  simp [c_law_21, ap0, se0, pS, sd]
theorem l_22 {k : Int} {names zs : List Str} {st : Sd} {W c : Str → Int} {by' : Fr} {M C : Int} (hl : names.length ≤ 8) : (c_law_22 (K := K)).ex (⟨[some scr, some (itT k), some (.ptr hp.length), some (.nd .lst (names.map stT)), some (.ptr (hp.length + 1)), x5, some (encF by'), some (dW names fun x => encF (toldP by' W x)), some (itT (names.map W).sum), some (itT M), some (dW (sortS names) fun x => itT (M * W x)), some (.ptr (hp.length + 2)), x12, x13, some (.nd .lst (zs.map stT)), x15, some (itT C), x17, x18, x19, x20, x21], hp ++ [.own .lst (encS st), dWc names fun x => itT (W x), dWc (sortS names) fun x => itT (c x)]⟩ : S) = some (.nx (⟨[some scr, some (itT k), some (.ptr hp.length), some (.nd .lst (names.map stT)), some (.ptr (hp.length + 1)), x5, some (encF by'), some (dW names fun x => encF (toldP by' W x)), some (itT (names.map W).sum), some (itT M), some (dW (sortS names) fun x => itT (M * W x)), some (.ptr (hp.length + 2)), x12, x13, some (.nd .lst (zs.map stT)), x15, some (itT C), some (.nd .lst ((sortS names).map stT)), x18, x19, x20, x21], hp ++ [.own .lst (encS st), dWc names fun x => itT (W x), dWc (sortS names) fun x => itT (c x)]⟩ : S)) := by
  have hl2 : names.length < 64 := by omega
  simp [c_law_22, Z.strs_map, hl2]
def evenP (C : Int) (ys : List Str) (x : Str) : Int := C.fdiv ys.length + if (ys.idxOf x : Int) < C.fmod ys.length then 1 else 0
theorem l_23 {k : Int} {names zs : List Str} {st : Sd} {W c : Str → Int} {by' : Fr} {M C : Int} (hn : names.Nodup) (hl : names.length ≤ 8) (hne : 0 < names.length) : (c_law_23 (K := K)).ex (⟨[some scr, some (itT k), some (.ptr hp.length), some (.nd .lst (names.map stT)), some (.ptr (hp.length + 1)), x5, some (encF by'), some (dW names fun x => encF (toldP by' W x)), some (itT (names.map W).sum), some (itT M), some (dW (sortS names) fun x => itT (M * W x)), some (.ptr (hp.length + 2)), x12, x13, some (.nd .lst (zs.map stT)), x15, some (itT C), some (.nd .lst ((sortS names).map stT)), x18, x19, x20, x21], hp ++ [.own .lst (encS st), dWc names fun x => itT (W x), dWc (sortS names) fun x => itT (c x)]⟩ : S) = some (.nx (⟨[some scr, some (itT k), some (.ptr hp.length), some (.nd .lst (names.map stT)), some (.ptr (hp.length + 1)), x5, some (encF by'), some (dW names fun x => encF (toldP by' W x)), some (itT (names.map W).sum), some (itT M), some (dW (sortS names) fun x => itT (M * W x)), some (.ptr (hp.length + 2)), x12, x13, some (.nd .lst (zs.map stT)), x15, some (itT C), some (.nd .lst ((sortS names).map stT)), some (dW (sortS names) fun x => itT (evenP C (sortS names) x)), x19, x20, x21], hp ++ [.own .lst (encS st), dWc names fun x => itT (W x), dWc (sortS names) fun x => itT (c x)]⟩ : S)) := by
  have hys := (sortS_perm names).length_eq
  have hnd := (sortS_perm names).nodup_iff.mpr hn
  generalize sortS names = ys at *
  have n0 : (ys.length : Int) ≠ 0 := by omega
  have n0' : ys.length ≠ 0 := by omega
  have lg : (ys.length : Int).natAbs.log2 < 9000 := (Bt.of (n := 20) (by omega) (by omega)).log (by decide) (by decide)
  have lg' : ys.length.log2 < 9000 := by have q := lg; rw [Int.natAbs_natCast] at q; exact q
  have h1 : -4611686018427387904 ≤ (ys.length : Int) ∧ (ys.length : Int) < 4611686018427387904 := by omega
  have l1 := lc_evq (K := K) (o := false) (i := 19) (it := CI.rng1 (CA.cons (CE.call ON.len (CA.cons (CE.var 17) CA.nil)) CA.nil)) (g := CG.name 19) (c := CT.yes) (e := CE.tup (CA.cons (CE.sub (CE.var 17) (CE.var 19)) (CA.cons (CE.op2 (O2.add false) (CE.op2 O2.fdiv (CE.var 16) (CE.call ON.len (CA.cons (CE.var 17) CA.nil))) (CE.call ON.int (CA.cons (CE.op2 O2.lt (CE.var 19) (CE.op2 O2.mod (CE.call ON.int (CA.cons (CE.var 16) CA.nil)) (CE.call ON.len (CA.cons (CE.var 17) CA.nil)))) CA.nil))) CA.nil))) (s := (⟨[some scr, some (itT k), some (.ptr hp.length), some (.nd .lst (names.map stT)), some (.ptr (hp.length + 1)), x5, some (encF by'), some (dW names fun x => encF (toldP by' W x)), some (itT (names.map W).sum), some (itT M), some (dW ys fun x => itT (M * W x)), some (.ptr (hp.length + 2)), x12, x13, some (.nd .lst (zs.map stT)), x15, some (itT C), some (.nd .lst (ys.map stT)), x18, x19, x20, x21], hp ++ [.own .lst (encS st), dWc names fun x => itT (W x), dWc ys fun x => itT (c x)]⟩ : S)) (enc := fun i : Nat => T.at (.int (0 + (i : Int)))) (ts := List.range ys.length) (us := ys.map fun x => T.nd .tup [stT x, itT (evenP C ys x)]) (by
      simp [h1, rngT]) rfl (by
      have q := lc_over' (g := (CG.name (K := K) 19).f) (c := (CT.yes (K := K)).ev) (e := (CE.tup (CA.cons (CE.sub (CE.var (K := K) 17) (CE.var 19)) (CA.cons (CE.op2 (O2.add false) (CE.op2 O2.fdiv (CE.var 16) (CE.call ON.len (CA.cons (CE.var 17) CA.nil))) (CE.call ON.int (CA.cons (CE.op2 O2.lt (CE.var 19) (CE.op2 O2.mod (CE.call ON.int (CA.cons (CE.var 16) CA.nil)) (CE.call ON.len (CA.cons (CE.var 17) CA.nil)))) CA.nil))) CA.nil))).ev) (fun i : Nat => T.at (.int (0 + (i : Int)))) (wipeL (S.sl (⟨[some scr, some (itT k), some (.ptr hp.length), some (.nd .lst (names.map stT)), some (.ptr (hp.length + 1)), x5, some (encF by'), some (dW names fun x => encF (toldP by' W x)), some (itT (names.map W).sum), some (itT M), some (dW ys fun x => itT (M * W x)), some (.ptr (hp.length + 2)), x12, x13, some (.nd .lst (zs.map stT)), x15, some (itT C), some (.nd .lst (ys.map stT)), x18, x19, x20, x21], hp ++ [.own .lst (encS st), dWc names fun x => itT (W x), dWc ys fun x => itT (c x)]⟩ : S)) [19]) (S.hp (⟨[some scr, some (itT k), some (.ptr hp.length), some (.nd .lst (names.map stT)), some (.ptr (hp.length + 1)), x5, some (encF by'), some (dW names fun x => encF (toldP by' W x)), some (itT (names.map W).sum), some (itT M), some (dW ys fun x => itT (M * W x)), some (.ptr (hp.length + 2)), x12, x13, some (.nd .lst (zs.map stT)), x15, some (itT C), some (.nd .lst (ys.map stT)), x18, x19, x20, x21], hp ++ [.own .lst (encS st), dWc names fun x => itT (W x), dWc ys fun x => itT (c x)]⟩ : S)) (fun i : Nat => T.nd .tup [stT (ys.getD i default), itT (evenP C ys (ys.getD i default))]) (xs := List.range ys.length) (acc := []) (fun i hi => by
        have hi := List.mem_range.mp hi
        have hat : atI (ys.map stT) (i : Int) = some (stT (ys.getD i default)) := by
          refine atI_of ?_
          rw [List.getElem?_map, List.getD_eq_getElem?_getD, List.getElem?_eq_getElem hi]
          rfl
        have hid : ys.idxOf (ys.getD i default) = i := by
          rw [List.getD_eq_getElem?_getD, List.getElem?_eq_getElem hi]
          exact List.Nodup.idxOf_getElem hnd i hi
        refine ⟨_, rfl, rfl, ?_, rfl⟩
        unfold evenP
        rw [hid]
        by_cases hq : (i : Int) < C.fmod ys.length
        · simp [wipeL, hat, n0, n0', lg, lg', lim_eq, hq]
        · simp [wipeL, hat, n0, n0', lg, lg', lim_eq, hq]) (by rw [lim_eq]; simp; omega)
      rw [q, List.nil_append]
      congr 2
      refine List.ext_getElem (by simp) fun i h2 h3 => ?_
      rw [List.length_map, List.length_range] at h2
      rw [List.getElem_map, List.getElem_map, List.getElem_range, List.getD_eq_getElem?_getD, List.getElem?_eq_getElem h2]
      rfl)
  have dp := fun s => dict_pairs (K := K) (o := false) (f := fun x => itT (evenP C ys x)) (s := s) hnd
  simp only [c_law_23, CS.set, asg_ex, call_ev, consA_ev, nilA_ev, l1, allocT_f, Option.bind_some, dp]
  rfl
theorem even_shares {names : List Str} {w : Fr} {f : Fr} {C : Int} (hn : names.Nodup) (hne : 0 < names.length) (C0 : 0 ≤ C) (C1 : C < 40) (hf : foundP (sortS names) (fun _ => w) = fun _ => f) (kf : Fk 40 f) (pf : 0 < f.1) : ∀ x ∈ sortS names, sharesP (C, names, fun _ => w) x = evenP C (sortS names) x := by
  have hys := (sortS_perm names).length_eq
  have hnd := (sortS_perm names).nodup_iff.mpr hn
  have hne2 : sortS names ≠ [] := fun e => by
    rw [e] at hys
    have : 0 = names.length := hys
    omega
  intro x hx
  unfold sharesP
  show DH.iterV (ltF (foundP (sortS names) fun _ => w)) (sortS names) C.toNat x = _
  rw [hf, iterF_eq (w := fun _ => f) (v := fun _ => 1) (bn := f.1) (bd := f.2) pf kf.q0 (fun _ _ => kf) (fun _ _ => ⟨kf.q0, by rw [Int.mul_one]⟩) C.toNat (by omega)]
  obtain ⟨i, hi, rfl⟩ := List.mem_iff_getElem.mp hx
  rw [DH.even (v := fun _ : Str => (1 : Int)) (p := 1) (by decide) hnd hne2 (fun _ _ => rfl) C.toNat i hi]
  unfold evenP
  rw [List.Nodup.idxOf_getElem hnd i hi]
  have e1 : C.fdiv (sortS names).length = ((C.toNat / (sortS names).length : Nat) : Int) := by
    rw [Int.fdiv_eq_ediv_of_nonneg _ (by omega)]
    conv => lhs; rw [show C = ((C.toNat : Nat) : Int) by omega]
    exact (Int.natCast_ediv _ _).symm
  have e2 : C.fmod (sortS names).length = ((C.toNat % (sortS names).length : Nat) : Int) := by
    rw [Int.fmod_eq_emod_of_nonneg _ (by omega)]
    conv => lhs; rw [show C = ((C.toNat : Nat) : Int) by omega]
    exact (Int.natCast_emod _ _).symm
  rw [e1, e2]
  by_cases q : i < C.toNat % (sortS names).length
  · rw [if_pos q, if_pos (by omega)]
  · rw [if_neg q, if_neg (by omega)]
theorem l_24 {k : Int} {names zs : List Str} {st : Sd} {W c : Str → Int} {by' : Fr} {M C : Int} (hb : Fk 20 by') (hb1 : 0 < by'.1) (hn : names.Nodup) (hl : names.length ≤ 8) (hne : 0 < names.length) (C0 : 0 ≤ C) (C1 : C < 40) : (c_law_24 (K := K)).ex (⟨[some scr, some (itT k), some (.ptr hp.length), some (.nd .lst (names.map stT)), some (.ptr (hp.length + 1)), x5, some (encF by'), some (dW names fun x => encF (toldP by' W x)), some (itT (names.map W).sum), some (itT M), some (dW (sortS names) fun x => itT (M * W x)), some (.ptr (hp.length + 2)), x12, x13, some (.nd .lst (zs.map stT)), x15, some (itT C), some (.nd .lst ((sortS names).map stT)), some (dW (sortS names) fun x => itT (evenP C (sortS names) x)), x19, x20, x21], hp ++ [.own .lst (encS st), dWc names fun x => itT (W x), dWc (sortS names) fun x => itT (c x)]⟩ : S) = some (.nx (⟨[some scr, some (itT k), some (.ptr hp.length), some (.nd .lst (names.map stT)), some (.ptr (hp.length + 1)), x5, some (encF by'), some (dW names fun x => encF (toldP by' W x)), some (itT (names.map W).sum), some (itT M), some (dW (sortS names) fun x => itT (M * W x)), some (.ptr (hp.length + 2)), x12, x13, some (.nd .lst (zs.map stT)), x15, some (itT C), some (.nd .lst ((sortS names).map stT)), some (dW (sortS names) fun x => itT (evenP C (sortS names) x)), x19, x20, x21], hp ++ [.own .lst (encS st), dWc names fun x => itT (W x), dWc (sortS names) fun x => itT (c x)]⟩ : S)) := by
  have hys := (sortS_perm names).length_eq
  have hnd := (sortS_perm names).nodup_iff.mpr hn
  have ne0 : ∃ x, x ∈ sortS names := by
    cases h : sortS names with
    | nil => rw [h] at hys; have : 0 = names.length := hys; omega
    | cons y l => exact ⟨y, List.mem_cons_self⟩
  have pn : pureL (names.map stT) = true := pure_map fun x _ => rfl
  have k01 : Fk 40 ((0, 1) : Fr) := ⟨by decide, Bt.of (by decide) (by decide), by decide, Bt.of (by decide) (by decide)⟩
  have k11 : Fk 40 ((1, 1) : Fr) := ⟨by decide, Bt.of (by decide) (by decide), by decide, Bt.of (by decide) (by decide)⟩
  have l1 := lc_evq (K := K) (o := false) (i := 5) (it := CI.seq (CE.var 3)) (g := CG.name 5) (c := CT.yes) (e := CE.tup (CA.cons (CE.var 5) (CA.cons (CE.tup (CA.cons (CE.int 0) (CA.cons (CE.int 1) CA.nil))) CA.nil))) (s := (⟨[some scr, some (itT k), some (.ptr hp.length), some (.nd .lst (names.map stT)), some (.ptr (hp.length + 1)), x5, some (encF by'), some (dW names fun x => encF (toldP by' W x)), some (itT (names.map W).sum), some (itT M), some (dW (sortS names) fun x => itT (M * W x)), some (.ptr (hp.length + 2)), x12, x13, some (.nd .lst (zs.map stT)), x15, some (itT C), some (.nd .lst ((sortS names).map stT)), some (dW (sortS names) fun x => itT (evenP C (sortS names) x)), x19, x20, x21], hp ++ [.own .lst (encS st), dWc names fun x => itT (W x), dWc (sortS names) fun x => itT (c x)]⟩ : S)) (enc := stT) (ts := names) (us := names.map fun x => T.nd .tup [stT x, encF ((0, 1) : Fr)]) (by simp [pn]) rfl (lc_over' stT _ _ (fun x => T.nd .tup [stT x, encF ((0, 1) : Fr)]) (acc := []) (fun x hx => by
    refine ⟨_, rfl, rfl, ?_, rfl⟩
    simp [wipeL, lim_eq, encF]) (by rw [lim_eq]; simp; omega))
  have l2 := lc_evq (K := K) (o := false) (i := 5) (it := CI.seq (CE.var 3)) (g := CG.name 5) (c := CT.yes) (e := CE.tup (CA.cons (CE.var 5) (CA.cons (CE.var 6) CA.nil))) (s := (⟨[some scr, some (itT k), some (.ptr hp.length), some (.nd .lst (names.map stT)), some (.ptr (hp.length + 1)), x5, some (encF by'), some (dW names fun x => encF (toldP by' W x)), some (itT (names.map W).sum), some (itT M), some (dW (sortS names) fun x => itT (M * W x)), some (.ptr (hp.length + 2)), x12, x13, some (.nd .lst (zs.map stT)), x15, some (itT C), some (.nd .lst ((sortS names).map stT)), some (dW (sortS names) fun x => itT (evenP C (sortS names) x)), x19, x20, x21], hp ++ [.own .lst (encS st), dWc names fun x => itT (W x), dWc (sortS names) fun x => itT (c x)]⟩ : S)) (enc := stT) (ts := names) (us := names.map fun x => T.nd .tup [stT x, encF by']) (by simp [pn]) rfl (lc_over' stT _ _ (fun x => T.nd .tup [stT x, encF by']) (acc := []) (fun x hx => by
    refine ⟨_, rfl, rfl, ?_, rfl⟩
    simp [wipeL, lim_eq]) (by rw [lim_eq]; simp; omega))
  have dp1 := fun s => dict_pairs (K := K) (o := false) (f := fun _ => encF ((0, 1) : Fr)) (s := s) hn
  have dp2 := fun s => dict_pairs (K := K) (o := false) (f := fun _ => encF by') (s := s) hn
  have pt1 : pureL (names.map fun _ => encF ((0, 1) : Fr)) = true := pure_map fun x _ => rfl
  have pt2 : pureL (names.map fun _ => encF by') = true := pure_map fun x _ => rfl
  have ga : ∀ f : Fr, Fk 40 f → GoodA (C, names, fun _ => f) := fun f kf => ⟨C0, by show C < _; omega, fun e => by have e : names = [] := e; rw [e] at hne; exact absurd hne (by decide), hn, by show names.length < 60; omega, fun _ _ => kf⟩
  have sp1 : sp_shared_out [T.at (V.int C), dW names fun _ => encF ((0, 1) : Fr)] = some (.val (dW (sortS names) fun x => itT (sharesP (C, names, fun _ => ((0, 1) : Fr)) x))) := sp_shared_eq (ga _ k01)
  have sp2 : sp_shared_out [T.at (V.int C), dW names fun _ => encF by'] = some (.val (dW (sortS names) fun x => itT (sharesP (C, names, fun _ => by') x))) := sp_shared_eq (ga _ (hb.mono (by decide)))
  have f1 : foundP (sortS names) (fun _ => ((0, 1) : Fr)) = fun _ => (1, 1) := by
    unfold foundP
    rw [if_neg]
    intro q
    obtain ⟨x, _, h⟩ := List.any_eq_true.mp q
    exact absurd (show decide ((0 : Int) < 0) = true from h) (by decide)
  have f2 : foundP (sortS names) (fun _ => by') = fun _ => by' := by
    unfold foundP
    rw [if_pos]
    obtain ⟨x, hx⟩ := ne0
    exact List.any_eq_true.mpr ⟨x, hx, decide_eq_true hb1⟩
  have e1 := even_shares (w := (0, 1)) hn hne C0 C1 f1 k11 (by decide)
  have e2 := even_shares (w := by') hn hne C0 C1 f2 (hb.mono (by decide)) hb1
  have ds1 := dictSame_map (xs := sortS names) (ys := sortS names) (d := evenP C (sortS names)) rfl (fun x hx => ⟨hx, e1 x hx⟩)
  have ds2 := dictSame_map (xs := sortS names) (ys := sortS names) (d := evenP C (sortS names)) rfl (fun x hx => ⟨hx, e2 x hx⟩)
  simp only [c_law_24, ife_ex, or_ev, ofE_ev, eq_ev, op2_ev, call_ev, consA_ev, nilA_ev, l1, l2, allocT_f, dp1, dp2, var_ev, List.getElem?_cons_succ, List.getElem?_cons_zero, res_nd, res_at, Option.bind_some, fn_f, frzs_cons, frzs_nil, frz_at, frz_nd_pure pt1, frz_nd_pure pt2, sp1, sp2, Option.map_some, resF_val, eqs_f, eqsF_nd, eqd_f, eqd_dK, eqk_f, eqk_nd, ds1, ds2, if_true]
  rfl
end
end K42
set_option Elab.async false
set_option linter.all false
set_option maxRecDepth 100000
set_option exponentiation.threshold 400
/-! K42: the law. -/
namespace K42
open PySem PySem.Spec PyProof.Rows L2 Z
section
variable {P : Program} {w : World} {K : PySem.W.Frag} {mg : Str → Option Value} {base : Heap}
variable {x1 x2 x3 x4 x5 x6 x7 x8 x9 x10 x11 x12 x13 x14 x15 x16 x17 x18 x19 x20 x21 : Option T} {hp : List Cell} {scr : T}
def zz : Str := "zz"
def zzF (f : Str → Fr) (x : Str) : Fr := if x = zz then (0, 1) else f x
def zzV (f : Str → Int) (x : Str) : Int := if x = zz then 0 else f x
theorem frz_own {n : Nat} {s : S} {k : Kd} {ts : List T} (h : s.hp[n]? = some (.own k ts)) (p : pureL ts = true) : frz (.ptr n) s = some (.nd k ts, s.fix n k ts) := by
  show (if false = true then _ else match s.hp[n]? with
      | some (.own k ts) => frzT 7 (.nd k ts) (s.fix n k ts)
      | some (.fro k ts) => frzT 7 (.nd k ts) s
      | none => none) = _
  rw [if_neg Bool.false_ne_true, h]
  show (if pureL ts = true then _ else _) = _
  rw [if_pos p]
theorem put_zz {names : List Str} {f : Str → T} {v : T} (h : zz ∉ names) : (putT ((kyS names).zip (names.map f)) (.inr zz) v).map (·.1) = kyS (names ++ [zz]) ∧ (putT ((kyS names).zip (names.map f)) (.inr zz) v).map (·.2) = (names ++ [zz]).map fun x => if x = zz then v else f x := by
  rw [putT_add h, List.map_append, List.map_append, zip_fst, zip_snd]
  refine ⟨by simp, ?_⟩
  rw [List.map_append]
  refine congr (congrArg _ (List.map_congr_left fun x hx => ?_)) ?_
  · rw [if_neg (fun (e : x = zz) => h (by rw [← e]; exact hx))]
  · simp
theorem l_25 {k : Int} {names zs : List Str} {st : Sd} {W c : Str → Int} {by' : Fr} {M C : Int} : (c_law_25 (K := K)).ex (⟨[some scr, some (itT k), some (.ptr hp.length), some (.nd .lst (names.map stT)), some (.ptr (hp.length + 1)), x5, some (encF by'), some (dW names fun x => encF (toldP by' W x)), some (itT (names.map W).sum), some (itT M), some (dW (sortS names) fun x => itT (M * W x)), some (.ptr (hp.length + 2)), x12, x13, some (.nd .lst (zs.map stT)), x15, some (itT C), some (.nd .lst ((sortS names).map stT)), some (dW (sortS names) fun x => itT (evenP C (sortS names) x)), x19, x20, x21], hp ++ [.own .lst (encS st), dWc names fun x => itT (W x), dWc (sortS names) fun x => itT (c x)]⟩ : S) = some (.nx (⟨[some scr, some (itT k), some (.ptr hp.length), some (.nd .lst (names.map stT)), some (.ptr (hp.length + 1)), x5, some (encF by'), some (dW names fun x => encF (toldP by' W x)), some (itT (names.map W).sum), some (itT M), some (dW (sortS names) fun x => itT (M * W x)), some (.ptr (hp.length + 2)), x12, x13, some (.nd .lst (zs.map stT)), x15, some (itT C), some (.nd .lst ((sortS names).map stT)), some (dW (sortS names) fun x => itT (evenP C (sortS names) x)), x19, some (.ptr (hp.length + 3)), x21], hp ++ [.own .lst (encS st), dWc names fun x => itT (W x), dWc (sortS names) fun x => itT (c x), dWc names fun x => encF (toldP by' W x)]⟩ : S)) := by
  simp [c_law_25]
theorem l_26 {k : Int} {names zs : List Str} {st : Sd} {W c : Str → Int} {by' : Fr} {M C : Int} (hl : names.length ≤ 8) (hz : zz ∉ names) : (c_law_26 (K := K)).ex (⟨[some scr, some (itT k), some (.ptr hp.length), some (.nd .lst (names.map stT)), some (.ptr (hp.length + 1)), x5, some (encF by'), some (dW names fun x => encF (toldP by' W x)), some (itT (names.map W).sum), some (itT M), some (dW (sortS names) fun x => itT (M * W x)), some (.ptr (hp.length + 2)), x12, x13, some (.nd .lst (zs.map stT)), x15, some (itT C), some (.nd .lst ((sortS names).map stT)), some (dW (sortS names) fun x => itT (evenP C (sortS names) x)), x19, some (.ptr (hp.length + 3)), x21], hp ++ [.own .lst (encS st), dWc names fun x => itT (W x), dWc (sortS names) fun x => itT (c x), dWc names fun x => encF (toldP by' W x)]⟩ : S) = some (.nx (⟨[some scr, some (itT k), some (.ptr hp.length), some (.nd .lst (names.map stT)), some (.ptr (hp.length + 1)), x5, some (encF by'), some (dW names fun x => encF (toldP by' W x)), some (itT (names.map W).sum), some (itT M), some (dW (sortS names) fun x => itT (M * W x)), some (.ptr (hp.length + 2)), x12, x13, some (.nd .lst (zs.map stT)), x15, some (itT C), some (.nd .lst ((sortS names).map stT)), some (dW (sortS names) fun x => itT (evenP C (sortS names) x)), x19, some (.ptr (hp.length + 3)), x21], hp ++ [.own .lst (encS st), dWc names fun x => itT (W x), dWc (sortS names) fun x => itT (c x), dWc (names ++ [zz]) fun x => encF (zzF (toldP by' W) x)]⟩ : S)) := by
  obtain ⟨p1, p2⟩ := put_zz (f := fun x => encF (toldP by' W x)) (v := encF (0, 1)) hz
  have hl2 : names.length < 100000 := by omega
  have e : ((names ++ [zz]).map fun x => if x = zz then encF (0, 1) else encF (toldP by' W x)) = (names ++ [zz]).map fun x => encF (zzF (toldP by' W) x) := by
    refine List.map_congr_left fun x _ => ?_
    unfold zzF
    split <;> rfl
  rw [e] at p2
  have h1 : T.nd Kd.tup [T.at (V.int 0), T.at (V.int 1)] = encF (0, 1) := rfl
  have h2 : ("zz" : Str) = zz := rfl
  generalize names ++ [zz] = ns at *
  simp [c_law_26, ap3, se3, hl2, lim_eq, h1, h2, p1, p2]
theorem l_27 {k : Int} {names zs : List Str} {st : Sd} {W c : Str → Int} {by' : Fr} {M C : Int} : (c_law_27 (K := K)).ex (⟨[some scr, some (itT k), some (.ptr hp.length), some (.nd .lst (names.map stT)), some (.ptr (hp.length + 1)), x5, some (encF by'), some (dW names fun x => encF (toldP by' W x)), some (itT (names.map W).sum), some (itT M), some (dW (sortS names) fun x => itT (M * W x)), some (.ptr (hp.length + 2)), x12, x13, some (.nd .lst (zs.map stT)), x15, some (itT C), some (.nd .lst ((sortS names).map stT)), some (dW (sortS names) fun x => itT (evenP C (sortS names) x)), x19, some (.ptr (hp.length + 3)), x21], hp ++ [.own .lst (encS st), dWc names fun x => itT (W x), dWc (sortS names) fun x => itT (c x), dWc (names ++ [zz]) fun x => encF (zzF (toldP by' W) x)]⟩ : S) = some (.nx (⟨[some scr, some (itT k), some (.ptr hp.length), some (.nd .lst (names.map stT)), some (.ptr (hp.length + 1)), x5, some (encF by'), some (dW names fun x => encF (toldP by' W x)), some (itT (names.map W).sum), some (itT M), some (dW (sortS names) fun x => itT (M * W x)), some (.ptr (hp.length + 2)), x12, x13, some (.nd .lst (zs.map stT)), x15, some (itT C), some (.nd .lst ((sortS names).map stT)), some (dW (sortS names) fun x => itT (evenP C (sortS names) x)), x19, some (.ptr (hp.length + 3)), some (.ptr (hp.length + 4))], hp ++ [.own .lst (encS st), dWc names fun x => itT (W x), dWc (sortS names) fun x => itT (c x), dWc (names ++ [zz]) fun x => encF (zzF (toldP by' W) x), dWc (sortS names) fun x => itT (M * W x)]⟩ : S)) := by
  simp [c_law_27]
theorem l_28 {k : Int} {names zs : List Str} {st : Sd} {W c : Str → Int} {by' : Fr} {M C : Int} (hl : names.length ≤ 8) (hz : zz ∉ names) : (c_law_28 (K := K)).ex (⟨[some scr, some (itT k), some (.ptr hp.length), some (.nd .lst (names.map stT)), some (.ptr (hp.length + 1)), x5, some (encF by'), some (dW names fun x => encF (toldP by' W x)), some (itT (names.map W).sum), some (itT M), some (dW (sortS names) fun x => itT (M * W x)), some (.ptr (hp.length + 2)), x12, x13, some (.nd .lst (zs.map stT)), x15, some (itT C), some (.nd .lst ((sortS names).map stT)), some (dW (sortS names) fun x => itT (evenP C (sortS names) x)), x19, some (.ptr (hp.length + 3)), some (.ptr (hp.length + 4))], hp ++ [.own .lst (encS st), dWc names fun x => itT (W x), dWc (sortS names) fun x => itT (c x), dWc (names ++ [zz]) fun x => encF (zzF (toldP by' W) x), dWc (sortS names) fun x => itT (M * W x)]⟩ : S) = some (.nx (⟨[some scr, some (itT k), some (.ptr hp.length), some (.nd .lst (names.map stT)), some (.ptr (hp.length + 1)), x5, some (encF by'), some (dW names fun x => encF (toldP by' W x)), some (itT (names.map W).sum), some (itT M), some (dW (sortS names) fun x => itT (M * W x)), some (.ptr (hp.length + 2)), x12, x13, some (.nd .lst (zs.map stT)), x15, some (itT C), some (.nd .lst ((sortS names).map stT)), some (dW (sortS names) fun x => itT (evenP C (sortS names) x)), x19, some (.ptr (hp.length + 3)), some (.ptr (hp.length + 4))], hp ++ [.own .lst (encS st), dWc names fun x => itT (W x), dWc (sortS names) fun x => itT (c x), dWc (names ++ [zz]) fun x => encF (zzF (toldP by' W) x), dWc (sortS names ++ [zz]) fun x => itT (M * zzV W x)]⟩ : S)) := by
  have hys := (sortS_perm names).length_eq
  obtain ⟨p1, p2⟩ := put_zz (names := sortS names) (f := fun x => itT (M * W x)) (v := itT 0) (fun q => hz (sortS_mem.mp q))
  have hl2 : (sortS names).length < 100000 := by omega
  have e : ((sortS names ++ [zz]).map fun x => if x = zz then itT 0 else itT (M * W x)) = (sortS names ++ [zz]).map fun x => itT (M * zzV W x) := by
    refine List.map_congr_left fun x _ => ?_
    unfold zzV
    split
    · rw [Int.mul_zero]
    · rfl
  rw [e] at p2
  have h2 : ("zz" : Str) = zz := rfl
  generalize sortS names ++ [zz] = ns at *
  generalize sortS names = ys at *
  simp [c_law_28, ap4, se4, hl2, lim_eq, h2, p1, p2]
theorem l_29 {k : Int} {names zs : List Str} {st : Sd} {W c : Str → Int} {by' : Fr} {M C : Int} (hb : Fk 20 by') (hb1 : 0 < by'.1) (hn : names.Nodup) (hl : names.length ≤ 8) (hne : 0 < names.length) (hw : ∀ x, 0 ≤ W x ∧ W x < 10) (hp1 : ∃ x ∈ names, 0 < W x) (M0 : 0 ≤ M) (M1 : M < 7) (hz : zz ∉ names) : (c_law_29 (K := K)).ex (⟨[some scr, some (itT k), some (.ptr hp.length), some (.nd .lst (names.map stT)), some (.ptr (hp.length + 1)), x5, some (encF by'), some (dW names fun x => encF (toldP by' W x)), some (itT (names.map W).sum), some (itT M), some (dW (sortS names) fun x => itT (M * W x)), some (.ptr (hp.length + 2)), x12, x13, some (.nd .lst (zs.map stT)), x15, some (itT C), some (.nd .lst ((sortS names).map stT)), some (dW (sortS names) fun x => itT (evenP C (sortS names) x)), x19, some (.ptr (hp.length + 3)), some (.ptr (hp.length + 4))], hp ++ [.own .lst (encS st), dWc names fun x => itT (W x), dWc (sortS names) fun x => itT (c x), dWc (names ++ [zz]) fun x => encF (zzF (toldP by' W) x), dWc (sortS names ++ [zz]) fun x => itT (M * zzV W x)]⟩ : S) = some (.nx (⟨[some scr, some (itT k), some (.ptr hp.length), some (.nd .lst (names.map stT)), some (.ptr (hp.length + 1)), x5, some (encF by'), some (dW names fun x => encF (toldP by' W x)), some (itT (names.map W).sum), some (itT M), some (dW (sortS names) fun x => itT (M * W x)), some (.ptr (hp.length + 2)), x12, x13, some (.nd .lst (zs.map stT)), x15, some (itT C), some (.nd .lst ((sortS names).map stT)), some (dW (sortS names) fun x => itT (evenP C (sortS names) x)), x19, some (.ptr (hp.length + 3)), some (.ptr (hp.length + 4))], hp ++ [.own .lst (encS st), dWc names fun x => itT (W x), dWc (sortS names) fun x => itT (c x), .fro (.dK (kyS (names ++ [zz]))) ((names ++ [zz]).map fun x => encF (zzF (toldP by' W) x)), dWc (sortS names ++ [zz]) fun x => itT (M * zzV W x)]⟩ : S)) := by
  obtain ⟨b0, b1, b2⟩ := mw_bound (W := W) hl hw M0 M1
  have hnd : (names ++ [zz]).Nodup := by
    rw [List.nodup_append]
    refine ⟨hn, by simp, fun a ha b hb e => ?_⟩
    rw [List.mem_singleton.mp hb] at e
    exact hz (e ▸ ha)
  have hnd2 := (sortS_perm (names ++ [zz])).nodup_iff.mpr hnd
  have hlen : (names ++ [zz]).length = names.length + 1 := by simp
  have fk : ∀ x, Fk 40 (zzF (toldP by' W) x) ∧ Eqv (zzF (toldP by' W) x) (by'.1 * zzV W x) by'.2 := by
    intro x
    unfold zzF zzV
    split
    · have k01 : Fk 40 ((0, 1) : Fr) := ⟨by decide, Bt.of (by decide) (by decide), by decide, Bt.of (by decide) (by decide)⟩
      refine ⟨k01, by decide, ?_⟩
      show 0 * by'.2 = by'.1 * 0 * 1
      simp
    · exact told_ok hb hw x
  have hv : ∀ x, 0 ≤ zzV W x := by
    intro x
    unfold zzV
    split
    · exact Int.le_refl _
    · exact (hw x).1
  have hf : foundP (sortS (names ++ [zz])) (zzF (toldP by' W)) = zzF (toldP by' W) := by
    unfold foundP
    rw [if_pos]
    obtain ⟨x, hx, h⟩ := hp1
    refine List.any_eq_true.mpr ⟨x, sortS_mem.mpr (List.mem_append_left _ hx), decide_eq_true ?_⟩
    have hxz : x ≠ zz := fun e => hz (e ▸ hx)
    unfold zzF
    rw [if_neg hxz]
    obtain ⟨k1, e1⟩ := told_ok hb hw x
    have e := e1.eq
    have p := Int.mul_pos (Int.mul_pos hb1 h) e1.pos
    rw [← e] at p
    apply Classical.byContradiction
    intro hh
    have := Int.mul_le_mul_of_nonneg_right (show (toldP by' W x).1 ≤ 0 by omega) (Int.le_of_lt hb.q0)
    omega
  have hsum : ((sortS (names ++ [zz])).map (zzV W)).sum = (names.map W).sum := by
    rw [sum_sort, List.map_append, List.sum_append]
    have : names.map (zzV W) = names.map W := List.map_congr_left fun x hx => if_neg (fun (e : x = zz) => hz (by rw [← e]; exact hx))
    rw [this]
    show _ + (zzV W zz + 0) = _
    rw [show zzV W zz = 0 from if_pos rfl]
    omega
  have sh : ∀ x ∈ sortS (names ++ [zz]), sharesP (M * (names.map W).sum, names ++ [zz], zzF (toldP by' W)) x = M * zzV W x := by
    intro x hx
    unfold sharesP
    show DH.iterV (ltF (foundP (sortS (names ++ [zz])) (zzF (toldP by' W)))) (sortS (names ++ [zz])) (M * (names.map W).sum).toNat x = _
    rw [hf, iterF_eq hb1 hb.q0 (fun x _ => (fk x).1) (fun x _ => (fk x).2) _ (by omega)]
    exact DH.whole_eq hnd2 (fun x _ => hv x) M0 (by rw [hsum]; omega) x hx
  have ga : GoodA (M * (names.map W).sum, names ++ [zz], zzF (toldP by' W)) := ⟨b0, by show M * (names.map W).sum < _; omega, by simp, hnd, by show (names ++ [zz]).length < 60; omega, fun x _ => (fk x).1⟩
  have sp : sp_shared_out [T.at (V.int (M * (names.map W).sum)), dW (names ++ [zz]) fun x => encF (zzF (toldP by' W) x)] = some (.val (dW (sortS (names ++ [zz])) fun x => itT (sharesP (M * (names.map W).sum, names ++ [zz], zzF (toldP by' W)) x))) := sp_shared_eq ga
  have pt : pureL ((names ++ [zz]).map fun x => encF (zzF (toldP by' W) x)) = true := pure_map fun x _ => rfl
  have ds := dictSame_map (xs := sortS (names ++ [zz])) (ys := sortS names ++ [zz]) (c := sharesP (M * (names.map W).sum, names ++ [zz], zzF (toldP by' W))) (d := fun x => M * zzV W x) (by rw [(sortS_perm _).length_eq, List.length_append, List.length_append, (sortS_perm _).length_eq]) (fun x hx => ⟨by
    rcases List.mem_append.mp (sortS_mem.mp hx) with q | q
    · exact List.mem_append_left _ (sortS_mem.mpr q)
    · exact List.mem_append_right _ q, sh x hx⟩)
  have fz := frz_own (n := hp.length + 3) (s := (⟨[some scr, some (itT k), some (.ptr hp.length), some (.nd .lst (names.map stT)), some (.ptr (hp.length + 1)), x5, some (encF by'), some (dW names fun x => encF (toldP by' W x)), some (itT (names.map W).sum), some (itT M), some (dW (sortS names) fun x => itT (M * W x)), some (.ptr (hp.length + 2)), x12, x13, some (.nd .lst (zs.map stT)), x15, some (itT C), some (.nd .lst ((sortS names).map stT)), some (dW (sortS names) fun x => itT (evenP C (sortS names) x)), x19, some (.ptr (hp.length + 3)), some (.ptr (hp.length + 4))], hp ++ [.own .lst (encS st), dWc names fun x => itT (W x), dWc (sortS names) fun x => itT (c x), dWc (names ++ [zz]) fun x => encF (zzF (toldP by' W) x), dWc (sortS names ++ [zz]) fun x => itT (M * zzV W x)]⟩ : S)) (k := .dK (kyS (names ++ [zz]))) (ts := (names ++ [zz]).map fun x => encF (zzF (toldP by' W) x)) ap3 pt
  have ek := eqk_own (n := true) (ks := kyS (sortS (names ++ [zz]))) (ts := (sortS (names ++ [zz])).map fun x => itT (sharesP (M * (names.map W).sum, names ++ [zz], zzF (toldP by' W)) x)) (ls := kyS (sortS names ++ [zz])) (us := (sortS names ++ [zz]).map fun x => itT (M * zzV W x)) (s := (⟨[some scr, some (itT k), some (.ptr hp.length), some (.nd .lst (names.map stT)), some (.ptr (hp.length + 1)), x5, some (encF by'), some (dW names fun x => encF (toldP by' W x)), some (itT (names.map W).sum), some (itT M), some (dW (sortS names) fun x => itT (M * W x)), some (.ptr (hp.length + 2)), x12, x13, some (.nd .lst (zs.map stT)), x15, some (itT C), some (.nd .lst ((sortS names).map stT)), some (dW (sortS names) fun x => itT (evenP C (sortS names) x)), x19, some (.ptr (hp.length + 3)), some (.ptr (hp.length + 4))], hp ++ [.own .lst (encS st), dWc names fun x => itT (W x), dWc (sortS names) fun x => itT (c x), .fro (.dK (kyS (names ++ [zz]))) ((names ++ [zz]).map fun x => encF (zzF (toldP by' W) x)), dWc (sortS names ++ [zz]) fun x => itT (M * zzV W x)]⟩ : S)) (m := hp.length + 4) ap4
  rw [ds] at ek
  have se3f : ∀ {l : List Cell} {c c1 c2 c3 x : Cell}, (hp ++ c :: c1 :: c2 :: c3 :: l).set (hp.length + 3) x = hp ++ c :: c1 :: c2 :: x :: l := se3
  have ev : (CE.call (K := K) (ON.fn sp_shared_out) (CA.cons (CE.op2 O2.mul (CE.var 9) (CE.var 8)) (CA.cons (CE.var 20) CA.nil))).ev (⟨[some scr, some (itT k), some (.ptr hp.length), some (.nd .lst (names.map stT)), some (.ptr (hp.length + 1)), x5, some (encF by'), some (dW names fun x => encF (toldP by' W x)), some (itT (names.map W).sum), some (itT M), some (dW (sortS names) fun x => itT (M * W x)), some (.ptr (hp.length + 2)), x12, x13, some (.nd .lst (zs.map stT)), x15, some (itT C), some (.nd .lst ((sortS names).map stT)), some (dW (sortS names) fun x => itT (evenP C (sortS names) x)), x19, some (.ptr (hp.length + 3)), some (.ptr (hp.length + 4))], hp ++ [.own .lst (encS st), dWc names fun x => itT (W x), dWc (sortS names) fun x => itT (c x), dWc (names ++ [zz]) fun x => encF (zzF (toldP by' W) x), dWc (sortS names ++ [zz]) fun x => itT (M * zzV W x)]⟩ : S) = some (dW (sortS (names ++ [zz])) fun x => itT (sharesP (M * (names.map W).sum, names ++ [zz], zzF (toldP by' W)) x), (⟨[some scr, some (itT k), some (.ptr hp.length), some (.nd .lst (names.map stT)), some (.ptr (hp.length + 1)), x5, some (encF by'), some (dW names fun x => encF (toldP by' W x)), some (itT (names.map W).sum), some (itT M), some (dW (sortS names) fun x => itT (M * W x)), some (.ptr (hp.length + 2)), x12, x13, some (.nd .lst (zs.map stT)), x15, some (itT C), some (.nd .lst ((sortS names).map stT)), some (dW (sortS names) fun x => itT (evenP C (sortS names) x)), x19, some (.ptr (hp.length + 3)), some (.ptr (hp.length + 4))], hp ++ [.own .lst (encS st), dWc names fun x => itT (W x), dWc (sortS names) fun x => itT (c x), .fro (.dK (kyS (names ++ [zz]))) ((names ++ [zz]).map fun x => encF (zzF (toldP by' W) x)), dWc (sortS names ++ [zz]) fun x => itT (M * zzV W x)]⟩ : S)) := by
    simp only [call_ev, consA_ev, nilA_ev, op2_ev, var_ev, List.getElem?_cons_succ, List.getElem?_cons_zero, res_at, Option.bind_some, Z.mul_int, b2, if_true, res_ptr, ap3, fn_f, frzs_cons, frzs_nil, frz_at]
    rw [fz]
    simp only [Option.bind_some, sp, Option.map_some, resF_val, fix_mk, se3]
  simp only [c_law_29, ife_ex, ofE_ev, eq_ev, op2_ev, ev, Option.bind_some, var_ev, List.getElem?_cons_succ, List.getElem?_cons_zero, res_ptr, ap4, eqs_f, eqsF_nd, eqd_f, eqd_dK, eqk_f]
  rw [ek, if_pos rfl]
  rfl
end
end K42
set_option Elab.async false
set_option linter.all false
set_option maxRecDepth 100000
set_option exponentiation.threshold 400
/-! K42: the law. -/
namespace K42
open PySem PySem.Spec PyProof.Rows L2 Z
section
variable {P : Program} {w : World} {K : PySem.W.Frag} {mg : Str → Option Value} {base : Heap}
variable {x1 x2 x3 x4 x5 x6 x7 x8 x9 x10 x11 x12 x13 x14 x15 x16 x17 x18 x19 x20 x21 : Option T} {hp : List Cell} {scr : T}
theorem seq_nx {a b : CS K} {s s1 : S} {o : Option Out} (h : a.ex s = some (.nx s1)) (h2 : b.ex s1 = o) : (CS.seq a b).ex s = o := by
  rw [seq_ex, h]
  exact h2
def PL (scr : T) (s : S) : Prop := ∃ x1 x2 x3 x4 x5 x6 x7 x8 x9 x10 x11 x12 x13 x14 x15 x16 x17 x18 x19 x20 x21 : Option T, s.sl = [some scr, x1, x2, x3, x4, x5, x6, x7, x8, x9, x10, x11, x12, x13, x14, x15, x16, x17, x18, x19, x20, x21]
theorem run_turn {ns : List Int} (gb : ∀ z ∈ ns, Bt z 1048577) (gl : ns.length ≤ 63) {k : Int} (k0 : 0 ≤ k) (k1 : k < 1000) {s : S} (hs : PL (.nd .lsR (ns.map itT)) s) : ∃ s', ((CG.name (K := K) 1).f (itT k) s).bind (CS.seq (c_law_7 (K := K)) (CS.seq (c_law_8 (K := K)) (CS.seq (c_law_9 (K := K)) (CS.seq (c_law_10 (K := K)) (CS.seq (c_law_11 (K := K)) (CS.seq (c_law_12 (K := K)) (CS.seq (c_law_13 (K := K)) (CS.seq (c_law_14 (K := K)) (CS.seq (c_law_15 (K := K)) (CS.seq (c_law_16 (K := K)) (CS.seq (c_law_17 (K := K)) (CS.seq (c_law_18 (K := K)) (CS.seq (c_law_19 (K := K)) (CS.seq (c_law_20 (K := K)) (CS.seq (c_law_21 (K := K)) (CS.seq (c_law_22 (K := K)) (CS.seq (c_law_23 (K := K)) (CS.seq (c_law_24 (K := K)) (CS.seq (c_law_25 (K := K)) (CS.seq (c_law_26 (K := K)) (CS.seq (c_law_27 (K := K)) (CS.seq (c_law_28 (K := K)) c_law_29)))))))))))))))))))))).ex = some (.nx s') ∧ PL (.nd .lsR (ns.map itT)) s' := by
  obtain ⟨sl, hp⟩ := s
  obtain ⟨x1, x2, x3, x4, x5, x6, x7, x8, x9, x10, x11, x12, x13, x14, x15, x16, x17, x18, x19, x20, x21, hs⟩ := hs
  have hs : sl = _ := hs
  subst hs
  have lo : LSOk ns k 43 := ⟨k0, k1, by decide, by decide, gb, gl⟩
  generalize hscr : T.nd .lsR (ns.map itT) = scr
  have e7 := l_7 (K := K) (hp := hp) (scr := scr) (x2 := x2) (x3 := x3) (x4 := x4) (x5 := x5) (x6 := x6) (x7 := x7) (x8 := x8) (x9 := x9) (x10 := x10) (x11 := x11) (x12 := x12) (x13 := x13) (x14 := x14) (x15 := x15) (x16 := x16) (x17 := x17) (x18 := x18) (x19 := x19) (x20 := x20) (x21 := x21) lo hscr.symm
  obtain ⟨names, st1, o1, hn, hne, hl, hzz, hok, e8⟩ := l_8 (K := K) (hp := hp) (scr := scr) (x3 := x3) (x4 := x4) (x5 := x5) (x6 := x6) (x7 := x7) (x8 := x8) (x9 := x9) (x10 := x10) (x11 := x11) (x12 := x12) (x13 := x13) (x14 := x14) (x15 := x15) (x16 := x16) (x17 := x17) (x18 := x18) (x19 := x19) (x20 := x20) (x21 := x21) (k := k) (stateP_ok lo)
  obtain ⟨W0, st2, o2, hw0, e9⟩ := l_9 (K := K) (hp := hp) (scr := scr) (x4 := x4) (x5 := x5) (x6 := x6) (x7 := x7) (x8 := x8) (x9 := x9) (x10 := x10) (x11 := x11) (x12 := x12) (x13 := x13) (x14 := x14) (x15 := x15) (x16 := x16) (x17 := x17) (x18 := x18) (x19 := x19) (x20 := x20) (x21 := x21) (k := k) (names := names) o1 hn hl
  obtain ⟨W, st3, o3, hw, hp1, e10⟩ := l_10 (K := K) (hp := hp) (scr := scr) (x5 := x5) (x6 := x6) (x7 := x7) (x8 := x8) (x9 := x9) (x10 := x10) (x11 := x11) (x12 := x12) (x13 := x13) (x14 := x14) (x15 := x15) (x16 := x16) (x17 := x17) (x18 := x18) (x19 := x19) (x20 := x20) (x21 := x21) (k := k) (names := names) (W := W0) o2 hl hne hw0
  obtain ⟨by', st4, o4, hb, hb1, e11⟩ := l_11 (K := K) (hp := hp) (scr := scr) (x5 := x5) (x6 := x6) (x7 := x7) (x8 := x8) (x9 := x9) (x10 := x10) (x11 := x11) (x12 := x12) (x13 := x13) (x14 := x14) (x15 := x15) (x16 := x16) (x17 := x17) (x18 := x18) (x19 := x19) (x20 := x20) (x21 := x21) (k := k) (names := names) (W := W) o3
  have e12 := l_12 (K := K) (hp := hp) (scr := scr) (x5 := x5) (x7 := x7) (x8 := x8) (x9 := x9) (x10 := x10) (x11 := x11) (x12 := x12) (x13 := x13) (x14 := x14) (x15 := x15) (x16 := x16) (x17 := x17) (x18 := x18) (x19 := x19) (x20 := x20) (x21 := x21) (k := k) (names := names) (st := st4) (W := W) (by' := by') hb hn hl hw
  have e13 := l_13 (K := K) (hp := hp) (scr := scr) (x5 := x5) (x8 := x8) (x9 := x9) (x10 := x10) (x11 := x11) (x12 := x12) (x13 := x13) (x14 := x14) (x15 := x15) (x16 := x16) (x17 := x17) (x18 := x18) (x19 := x19) (x20 := x20) (x21 := x21) (k := k) (names := names) (st := st4) (W := W) (by' := by') hl
  obtain ⟨M, st5, o5, M0, M1, e14⟩ := l_14 (K := K) (hp := hp) (scr := scr) (x5 := x5) (x9 := x9) (x10 := x10) (x11 := x11) (x12 := x12) (x13 := x13) (x14 := x14) (x15 := x15) (x16 := x16) (x17 := x17) (x18 := x18) (x19 := x19) (x20 := x20) (x21 := x21) (k := k) (names := names) (W := W) (by' := by') o4
  have e15 := l_15 (K := K) (hp := hp) (scr := scr) (x5 := x5) (x10 := x10) (x11 := x11) (x12 := x12) (x13 := x13) (x14 := x14) (x15 := x15) (x16 := x16) (x17 := x17) (x18 := x18) (x19 := x19) (x20 := x20) (x21 := x21) (k := k) (names := names) (st := st5) (W := W) (by' := by') (M := M) hb hb1 hn hl hne hw hp1 M0 M1
  have e16 := l_16 (K := K) (hp := hp) (scr := scr) (x5 := x5) (x11 := x11) (x12 := x12) (x13 := x13) (x14 := x14) (x15 := x15) (x16 := x16) (x17 := x17) (x18 := x18) (x19 := x19) (x20 := x20) (x21 := x21) (k := k) (names := names) (st := st5) (W := W) (by' := by') (M := M) hn hl hw M0 M1
  have e17 := l_17 (K := K) (hp := hp) (scr := scr) (x5 := x5) (x11 := x11) (x12 := x12) (x13 := x13) (x14 := x14) (x15 := x15) (x16 := x16) (x17 := x17) (x18 := x18) (x19 := x19) (x20 := x20) (x21 := x21) (k := k) (names := names) (st := st5) (W := W) (by' := by') (M := M)
  obtain ⟨a, n, hn1, hc, e18⟩ := l_18 (K := K) (hp := hp) (scr := scr) (x5 := x5) (x12 := x12) (x13 := x13) (x14 := x14) (x15 := x15) (x16 := x16) (x17 := x17) (x18 := x18) (x19 := x19) (x20 := x20) (x21 := x21) (k := k) (names := names) (st := st5) (W := W) (by' := by') (M := M) hb hb1 hn hl hne hw hp1 M0 M1
  obtain ⟨j, st6, o6, j1, e19⟩ := l_19 (K := K) (hp := hp) (scr := scr) (x5 := a.2.1) (x12 := a.2.2.1) (x13 := a.2.2.2) (x14 := x14) (x15 := x15) (x16 := x16) (x17 := x17) (x18 := x18) (x19 := x19) (x20 := x20) (x21 := x21) (k := k) (names := names) (W := W) (c := a.1) (by' := by') (M := M) o5 hl hne
  obtain ⟨u15, e20⟩ := l_20 (K := K) (hp := hp) (scr := scr) (x5 := a.2.1) (x12 := a.2.2.1) (x13 := a.2.2.2) (x15 := x15) (x16 := x16) (x17 := x17) (x18 := x18) (x19 := x19) (x20 := x20) (x21 := x21) (k := k) (names := names) (W := W) (c := a.1) (by' := by') (M := M) (st := st6) (zs := (sortS names).take j) (n := n) hb hb1 hn hl hw j1 hne rfl hn1 hc hok
  obtain ⟨C, st7, o7, C0, C1, e21⟩ := l_21 (K := K) (hp := hp) (scr := scr) (x5 := a.2.1) (x12 := a.2.2.1) (x13 := a.2.2.2) (x15 := u15) (x16 := x16) (x17 := x17) (x18 := x18) (x19 := x19) (x20 := x20) (x21 := x21) (k := k) (names := names) (W := W) (c := a.1) (by' := by') (M := M) (zs := (sortS names).take j) o6
  have e22 := l_22 (K := K) (hp := hp) (scr := scr) (x5 := a.2.1) (x12 := a.2.2.1) (x13 := a.2.2.2) (x15 := u15) (x17 := x17) (x18 := x18) (x19 := x19) (x20 := x20) (x21 := x21) (k := k) (names := names) (W := W) (c := a.1) (by' := by') (M := M) (zs := (sortS names).take j) (C := C) (st := st7) hl
  have e23 := l_23 (K := K) (hp := hp) (scr := scr) (x5 := a.2.1) (x12 := a.2.2.1) (x13 := a.2.2.2) (x15 := u15) (x18 := x18) (x19 := x19) (x20 := x20) (x21 := x21) (k := k) (names := names) (W := W) (c := a.1) (by' := by') (M := M) (zs := (sortS names).take j) (C := C) (st := st7) hn hl hne
  have e24 := l_24 (K := K) (hp := hp) (scr := scr) (x5 := a.2.1) (x12 := a.2.2.1) (x13 := a.2.2.2) (x15 := u15) (x19 := x19) (x20 := x20) (x21 := x21) (k := k) (names := names) (W := W) (c := a.1) (by' := by') (M := M) (zs := (sortS names).take j) (C := C) (st := st7) hb hb1 hn hl hne C0 C1
  have e25 := l_25 (K := K) (hp := hp) (scr := scr) (x5 := a.2.1) (x12 := a.2.2.1) (x13 := a.2.2.2) (x15 := u15) (x19 := x19) (x20 := x20) (x21 := x21) (k := k) (names := names) (W := W) (c := a.1) (by' := by') (M := M) (zs := (sortS names).take j) (C := C) (st := st7)
  have e26 := l_26 (K := K) (hp := hp) (scr := scr) (x5 := a.2.1) (x12 := a.2.2.1) (x13 := a.2.2.2) (x15 := u15) (x19 := x19) (x21 := x21) (k := k) (names := names) (W := W) (c := a.1) (by' := by') (M := M) (zs := (sortS names).take j) (C := C) (st := st7) hl hzz
  have e27 := l_27 (K := K) (hp := hp) (scr := scr) (x5 := a.2.1) (x12 := a.2.2.1) (x13 := a.2.2.2) (x15 := u15) (x19 := x19) (x21 := x21) (k := k) (names := names) (W := W) (c := a.1) (by' := by') (M := M) (zs := (sortS names).take j) (C := C) (st := st7)
  have e28 := l_28 (K := K) (hp := hp) (scr := scr) (x5 := a.2.1) (x12 := a.2.2.1) (x13 := a.2.2.2) (x15 := u15) (x19 := x19) (k := k) (names := names) (W := W) (c := a.1) (by' := by') (M := M) (zs := (sortS names).take j) (C := C) (st := st7) hl hzz
  have e29 := l_29 (K := K) (hp := hp) (scr := scr) (x5 := a.2.1) (x12 := a.2.2.1) (x13 := a.2.2.2) (x15 := u15) (x19 := x19) (k := k) (names := names) (W := W) (c := a.1) (by' := by') (M := M) (zs := (sortS names).take j) (C := C) (st := st7) hb hb1 hn hl hne hw hp1 M0 M1 hzz
  refine ⟨_, (seq_nx e7 (seq_nx e8 (seq_nx e9 (seq_nx e10 (seq_nx e11 (seq_nx e12 (seq_nx e13 (seq_nx e14 (seq_nx e15 (seq_nx e16 (seq_nx e17 (seq_nx e18 (seq_nx e19 (seq_nx e20 (seq_nx e21 (seq_nx e22 (seq_nx e23 (seq_nx e24 (seq_nx e25 (seq_nx e26 (seq_nx e27 (seq_nx e28 e29)))))))))))))))))))))), ?_⟩
  exact ⟨_, _, _, _, _, _, _, _, _, _, _, _, _, _, _, _, _, _, _, _, _, rfl⟩
def encN (ns : List Int) : List T := [.nd .lsR (ns.map itT)]
def GoodN (ns : List Int) : Prop := (∀ z ∈ ns, Bt z 1048577) ∧ ns.length ≤ 63
noncomputable def sp_law : List T → Option Res := spOf encN GoodN fun _ => .val (.at (.bl true))
theorem sp_law_eq {ns : List Int} (h : GoodN ns) : sp_law (encN ns) = some (.val (.at (.bl true))) := by
  have q : ∃ b, encN ns = encN b ∧ GoodN b := ⟨ns, rfl, h⟩
  unfold sp_law spOf
  rw [dif_pos q]
theorem run_law : ∀ ts r, sp_law ts = some r → pureL ts = true → FinV ((c_law (K := K)).ex (S.v0 22 ts)) r := by
  refine spOf_run (ex := fun ts => (c_law (K := K)).ex (S.v0 22 ts)) fun ns gn => ?_
  obtain ⟨gb, gl⟩ := gn
  let L : Int := if 1 + (ns.length : Int) < 6 then 1 + ns.length else 6
  have hL : 0 ≤ L ∧ L ≤ 6 := by
    show 0 ≤ (if 1 + (ns.length : Int) < 6 then 1 + (ns.length : Int) else 6) ∧ (if 1 + (ns.length : Int) < 6 then 1 + (ns.length : Int) else 6) ≤ 6
    split <;> omega
  have s0 : PL (.nd .lsR (ns.map itT)) (S.v0 22 (encN ns)) := ⟨_, _, _, _, _, _, _, _, _, _, _, _, _, _, _, _, _, _, _, _, _, rfl⟩
  obtain ⟨s', f1, f2⟩ := for_inv (g := (CG.name (K := K) 1).f) (b := (CS.seq (c_law_7 (K := K)) (CS.seq (c_law_8 (K := K)) (CS.seq (c_law_9 (K := K)) (CS.seq (c_law_10 (K := K)) (CS.seq (c_law_11 (K := K)) (CS.seq (c_law_12 (K := K)) (CS.seq (c_law_13 (K := K)) (CS.seq (c_law_14 (K := K)) (CS.seq (c_law_15 (K := K)) (CS.seq (c_law_16 (K := K)) (CS.seq (c_law_17 (K := K)) (CS.seq (c_law_18 (K := K)) (CS.seq (c_law_19 (K := K)) (CS.seq (c_law_20 (K := K)) (CS.seq (c_law_21 (K := K)) (CS.seq (c_law_22 (K := K)) (CS.seq (c_law_23 (K := K)) (CS.seq (c_law_24 (K := K)) (CS.seq (c_law_25 (K := K)) (CS.seq (c_law_26 (K := K)) (CS.seq (c_law_27 (K := K)) (CS.seq (c_law_28 (K := K)) c_law_29)))))))))))))))))))))).ex) (rngT 0 L.toNat) (fun _ s => PL (.nd .lsR (ns.map itT)) s) (S.v0 22 (encN ns)) s0 (fun i t s ht hs => by
    obtain ⟨ht, hi⟩ := rng_at ht
    subst ht
    exact run_turn gb gl (by omega) (by omega) hs)
  have e0 : (CI.rng1 (CA.cons (CE.call (ON.min2 (K := K)) (CA.cons (CE.int 6) (CA.cons (CE.op2 (O2.add false) (CE.int 1) (CE.call ON.len (CA.cons (CE.var 0) CA.nil))) CA.nil))) CA.nil)).ev (S.v0 22 (encN ns)) = some (rngT 0 L.toNat, S.v0 22 (encN ns)) := by
    have h2 : -4611686018427387904 ≤ (if 1 + (ns.length : Int) < 6 then 1 + (ns.length : Int) else 6) ∧ (if 1 + (ns.length : Int) < 6 then 1 + (ns.length : Int) else 6) < 4611686018427387904 := by
      split <;> omega
    simp [S.v0, encN, h2]
    rfl
  have hex : (c_law (K := K)).ex (S.v0 22 (encN ns)) = some (.rt (.at (.bl true)) s') := by
    unfold c_law
    refine seq_nx (s1 := s') ?_ rfl
    show ((CI.rng1 (CA.cons (CE.call (ON.min2 (K := K)) (CA.cons (CE.int 6) (CA.cons (CE.op2 (O2.add false) (CE.int 1) (CE.call ON.len (CA.cons (CE.var 0) CA.nil))) CA.nil))) CA.nil)).ev (S.v0 22 (encN ns))).bind _ = _
    rw [e0]
    exact f1
  rw [hex]
  exact ⟨s', rfl⟩
end
end K42
set_option Elab.async false
set_option linter.all false
set_option maxRecDepth 100000
/-! K42: joined. -/
namespace K42
open PySem PySem.Spec PyProof.Rows L2 Z
def lenOk : Nat → List T → Prop := fun n ts => ts.length = n
theorem spOf_len {α : Type} {enc : α → List T} {good : α → Prop} {out : α → Res} {n : Nat} (he : ∀ a, (enc a).length = n) : ∀ ts r, spOf enc good out ts = some r → ts.length = n := by
  intro ts r e
  unfold spOf at e
  split at e
  · next q =>
    obtain ⟨a, ha, _⟩ := q
    rw [ha]
    exact he a
  · cases e
theorem len_frac : ∀ ts r, sp_frac ts = some r → ts.length = 2 := by
  intro ts r h
  unfold sp_frac at h
  split at h
  · rfl
  · cases h
theorem len_mul : ∀ ts r, sp_mul ts = some r → ts.length = 2 := by
  intro ts r h
  unfold sp_mul at h
  split at h
  · rfl
  · cases h
theorem len_signum : ∀ ts r, sp_signum ts = some r → ts.length = 1 := by
  intro ts r h
  unfold sp_signum at h
  split at h
  · rfl
  · cases h
theorem len_smaller : ∀ ts r, sp_smaller ts = some r → ts.length = 2 := by
  intro ts r h
  unfold sp_smaller at h
  split at h
  · rfl
  · cases h
theorem len_shared_out : ∀ ts r, sp_shared_out ts = some r → ts.length = 2 := spOf_len fun _ => rfl
theorem len_law_state : ∀ ts r, sp_law_state ts = some r → ts.length = 3 := by
  intro ts r h
  unfold sp_law_state at h
  split at h
  · rfl
  · cases h
theorem len_law_draw : ∀ k us ts r, sp_law_draw k us ts = some r → ts.length + 1 = 2 := by
  intro k us ts r h
  unfold sp_law_draw at h
  split at h
  · rfl
  · cases h
theorem len_law_order : ∀ k us ts r, sp_law_order k us ts = some r → ts.length + 1 = 2 := by
  intro k us ts r h
  unfold sp_law_order at h
  split at h
  · rfl
  · cases h
theorem len_law_names : ∀ k us ts r, sp_law_names k us ts = some r → ts.length + 1 = 3 := by
  intro k us ts r h
  unfold sp_law_names at h
  split at h
  · rfl
  · cases h
theorem len_law : ∀ ts r, sp_law ts = some r → ts.length = 1 := spOf_len fun _ => rfl
theorem bits_ok {z : Int} (h : Builtin.Int.intBits z ≤ 1048576) : Bt z 1048577 := by
  unfold Builtin.Int.intBits at h
  unfold Bt
  have e : z.natAbs.log2 < 1048577 := by
    split at h
    · next q =>
      have : z = 0 := by simpa using q
      subst this
      exact Nat.lt_of_lt_of_le (show Nat.log2 0 < 1 by decide) (by decide)
    · omega
  by_cases q : z.natAbs = 0
  · rw [q]; exact Nat.two_pow_pos _
  · exact (Nat.log2_lt q).mp e
theorem law_sp {K : PySem.W.Frag} {H : Hp} {a : Addr} {ns : List Int} (hl : ns.length ≤ 63) (hb : ∀ z ∈ ns, Builtin.Int.intBits z ≤ 1048576) (hS : SqL K H a (ns.map V.int)) : SpV K sp_law [.ref a] H (fun v _ => v = .bl true) fun _ _ _ => False := by
  have tl : ∀ ns : List Int, TRL K ρ0 0 H (ns.map V.int) (ns.map itT) := by
    intro ns
    induction ns with
    | nil => exact .nil
    | cons n ns ih => exact .cons (.at rfl) ih
  refine ⟨H, encN ns, .val (.at (.bl true)), ExR.refl H, .cons (TR.ndL (k := .lsR) hS (tl ns)) .nil, sp_law_eq ⟨fun z hz => bits_ok (hb z hz), hl⟩, fun v F' H' _ _ _ _ _ r => ?_⟩
  exact (show TR K ρ0 0 F' v (.at (.bl true)) from r).at_inv.1
set_option maxHeartbeats 0 in
theorem all_mk {l : PySem.W.OpenLaw} {w : World} {K : PySem.W.Frag} {h : Heap} {mg : Str → Option Value} {fa : Addr} (X : K.In h) (G : h.Ns mainGlobals mg) (hfa : mg "law" = some (.ref fa))
    {ffrac : Addr} {odfrac anfrac : Option Addr} {slfrac : Array (Option Value)} {ocfrac kVfrac dcfrac pmfrac cdfrac ctfrac : Value} (afrac : PySem.W.nsIn K mainGlobals "frac" = some (some (.ref ffrac))) (lfrac : K.lookup ffrac = some ⟨ocfrac, odfrac, .func (PySem.W.fnOf "frac" "frac" (defArgs st_frac) (defBody st_frac) (defScope st_frac) .none kVfrac dcfrac pmfrac anfrac cdfrac ctfrac), slfrac⟩) (cfrac : PySem.W.codeIn K cdfrac "frac" = true) (kfrac : PySem.W.keepIn K (.ref ffrac) = true)
    {fmul : Addr} {odmul anmul : Option Addr} {slmul : Array (Option Value)} {ocmul kVmul dcmul pmmul cdmul ctmul : Value} (amul : PySem.W.nsIn K mainGlobals "mul" = some (some (.ref fmul))) (lmul : K.lookup fmul = some ⟨ocmul, odmul, .func (PySem.W.fnOf "mul" "mul" (defArgs st_mul) (defBody st_mul) (defScope st_mul) .none kVmul dcmul pmmul anmul cdmul ctmul), slmul⟩) (cmul : PySem.W.codeIn K cdmul "mul" = true) (kmul : PySem.W.keepIn K (.ref fmul) = true)
    {fsignum : Addr} {odsignum ansignum : Option Addr} {slsignum : Array (Option Value)} {ocsignum kVsignum dcsignum pmsignum cdsignum ctsignum : Value} (asignum : PySem.W.nsIn K mainGlobals "signum" = some (some (.ref fsignum))) (lsignum : K.lookup fsignum = some ⟨ocsignum, odsignum, .func (PySem.W.fnOf "signum" "signum" (defArgs st_signum) (defBody st_signum) (defScope st_signum) .none kVsignum dcsignum pmsignum ansignum cdsignum ctsignum), slsignum⟩) (csignum : PySem.W.codeIn K cdsignum "signum" = true) (ksignum : PySem.W.keepIn K (.ref fsignum) = true)
    {fsmaller : Addr} {odsmaller ansmaller : Option Addr} {slsmaller : Array (Option Value)} {ocsmaller kVsmaller dcsmaller pmsmaller cdsmaller ctsmaller : Value} (asmaller : PySem.W.nsIn K mainGlobals "smaller" = some (some (.ref fsmaller))) (lsmaller : K.lookup fsmaller = some ⟨ocsmaller, odsmaller, .func (PySem.W.fnOf "smaller" "smaller" (defArgs st_smaller) (defBody st_smaller) (defScope st_smaller) .none kVsmaller dcsmaller pmsmaller ansmaller cdsmaller ctsmaller), slsmaller⟩) (csmaller : PySem.W.codeIn K cdsmaller "smaller" = true) (ksmaller : PySem.W.keepIn K (.ref fsmaller) = true)
    {fshared_out : Addr} {odshared_out anshared_out : Option Addr} {slshared_out : Array (Option Value)} {ocshared_out kVshared_out dcshared_out pmshared_out cdshared_out ctshared_out : Value} (ashared_out : PySem.W.nsIn K mainGlobals "shared_out" = some (some (.ref fshared_out))) (lshared_out : K.lookup fshared_out = some ⟨ocshared_out, odshared_out, .func (PySem.W.fnOf "shared_out" "shared_out" (defArgs st_shared_out) (defBody st_shared_out) (defScope st_shared_out) .none kVshared_out dcshared_out pmshared_out anshared_out cdshared_out ctshared_out), slshared_out⟩) (cshared_out : PySem.W.codeIn K cdshared_out "shared_out" = true) (kshared_out : PySem.W.keepIn K (.ref fshared_out) = true)
    {flaw_state : Addr} {odlaw_state anlaw_state : Option Addr} {sllaw_state : Array (Option Value)} {oclaw_state kVlaw_state dclaw_state pmlaw_state cdlaw_state ctlaw_state : Value} (alaw_state : PySem.W.nsIn K mainGlobals "_law_state" = some (some (.ref flaw_state))) (llaw_state : K.lookup flaw_state = some ⟨oclaw_state, odlaw_state, .func (PySem.W.fnOf "_law_state" "_law_state" (defArgs st_law_state) (defBody st_law_state) (defScope st_law_state) .none kVlaw_state dclaw_state pmlaw_state anlaw_state cdlaw_state ctlaw_state), sllaw_state⟩) (claw_state : PySem.W.codeIn K cdlaw_state "_law_state" = true) (klaw_state : PySem.W.keepIn K (.ref flaw_state) = true)
    {flaw_draw : Addr} {odlaw_draw anlaw_draw : Option Addr} {sllaw_draw : Array (Option Value)} {oclaw_draw kVlaw_draw dclaw_draw pmlaw_draw cdlaw_draw ctlaw_draw : Value} (alaw_draw : PySem.W.nsIn K mainGlobals "_law_draw" = some (some (.ref flaw_draw))) (llaw_draw : K.lookup flaw_draw = some ⟨oclaw_draw, odlaw_draw, .func (PySem.W.fnOf "_law_draw" "_law_draw" (defArgs st_law_draw) (defBody st_law_draw) (defScope st_law_draw) .none kVlaw_draw dclaw_draw pmlaw_draw anlaw_draw cdlaw_draw ctlaw_draw), sllaw_draw⟩) (claw_draw : PySem.W.codeIn K cdlaw_draw "_law_draw" = true) (klaw_draw : PySem.W.keepIn K (.ref flaw_draw) = true)
    {flaw_order : Addr} {odlaw_order anlaw_order : Option Addr} {sllaw_order : Array (Option Value)} {oclaw_order kVlaw_order dclaw_order pmlaw_order cdlaw_order ctlaw_order : Value} (alaw_order : PySem.W.nsIn K mainGlobals "_law_order" = some (some (.ref flaw_order))) (llaw_order : K.lookup flaw_order = some ⟨oclaw_order, odlaw_order, .func (PySem.W.fnOf "_law_order" "_law_order" (defArgs st_law_order) (defBody st_law_order) (defScope st_law_order) .none kVlaw_order dclaw_order pmlaw_order anlaw_order cdlaw_order ctlaw_order), sllaw_order⟩) (claw_order : PySem.W.codeIn K cdlaw_order "_law_order" = true) (klaw_order : PySem.W.keepIn K (.ref flaw_order) = true)
    {flaw_names : Addr} {odlaw_names anlaw_names : Option Addr} {sllaw_names : Array (Option Value)} {oclaw_names kVlaw_names dclaw_names pmlaw_names cdlaw_names ctlaw_names : Value} (alaw_names : PySem.W.nsIn K mainGlobals "_law_names" = some (some (.ref flaw_names))) (llaw_names : K.lookup flaw_names = some ⟨oclaw_names, odlaw_names, .func (PySem.W.fnOf "_law_names" "_law_names" (defArgs st_law_names) (defBody st_law_names) (defScope st_law_names) .none kVlaw_names dclaw_names pmlaw_names anlaw_names cdlaw_names ctlaw_names), sllaw_names⟩) (claw_names : PySem.W.codeIn K cdlaw_names "_law_names" = true) (klaw_names : PySem.W.keepIn K (.ref flaw_names) = true)
    {flaw : Addr} {odlaw anlaw : Option Addr} {sllaw : Array (Option Value)} {oclaw kVlaw dclaw pmlaw cdlaw ctlaw : Value} (alaw : PySem.W.nsIn K mainGlobals "law" = some (some (.ref flaw))) (llaw : K.lookup flaw = some ⟨oclaw, odlaw, .func (PySem.W.fnOf "law" "law" (defArgs st_law) (defBody st_law) (defScope st_law) .none kVlaw dclaw pmlaw anlaw cdlaw ctlaw), sllaw⟩) (claw : PySem.W.codeIn K cdlaw "law" = true) (klaw : PySem.W.keepIn K (.ref flaw) = true)
    (zlen : PySem.W.nsIn K mainGlobals "len" = some none)
    (zint : PySem.W.nsIn K mainGlobals "int" = some none)
    (zlist : PySem.W.nsIn K mainGlobals "list" = some none)
    (zrange : PySem.W.nsIn K mainGlobals "range" = some none)
    (zsorted : PySem.W.nsIn K mainGlobals "sorted" = some none)
    (zany : PySem.W.nsIn K mainGlobals "any" = some none)
    (zsum : PySem.W.nsIn K mainGlobals "sum" = some none)
    (zmin : PySem.W.nsIn K mainGlobals "min" = some none)
    (zdict : PySem.W.nsIn K mainGlobals "dict" = some none)
    (zgcd : PySem.W.nsIn K mainGlobals "gcd" = some (some (.builtin "math.gcd")))
    {fU : Addr} {odU : Option Addr} {slU : Array (Option Value)} {nU : Nat} {t1 t2 : Tok} (aU : PySem.W.nsIn K mainGlobals "UNIT" = some (some (.ref fU))) (lU : K.lookup fU = some ⟨.type "tuple", odU, .seq #[.int 1 t1, .int 1 t2] nU, slU⟩) :
    ∃ fd : FuncData, (∀ (s : Shared) (v : Value), BindsTo s fd ⟨[v], []⟩ [("script", v)]) ∧ ∀ base : Heap, K.In base → base.Ns mainGlobals mg → FnOk l.prog w K mg base CX0 4 fa fd ["script"] (SpV K sp_law) := by
  have e := hfa.symm.trans (PySem.W.mg_of X G alaw)
  cases e
  have Ffrac := fun_mk (st := st_frac) lfrac cfrac kfrac
  have bfrac := Ffrac.binds (ps := P_frac) fun _ _ _ _ _ _ us hl => match us, hl with | [_, _], _ => rfl
  have Fmul := fun_mk (st := st_mul) lmul cmul kmul
  have bmul := Fmul.binds (ps := P_mul) fun _ _ _ _ _ _ us hl => match us, hl with | [_, _], _ => rfl
  have Fsignum := fun_mk (st := st_signum) lsignum csignum ksignum
  have bsignum := Fsignum.binds (ps := P_signum) fun _ _ _ _ _ _ us hl => match us, hl with | [_], _ => rfl
  have Fsmaller := fun_mk (st := st_smaller) lsmaller csmaller ksmaller
  have bsmaller := Fsmaller.binds (ps := P_smaller) fun _ _ _ _ _ _ us hl => match us, hl with | [_, _], _ => rfl
  have Fshared_out := fun_mk (st := st_shared_out) lshared_out cshared_out kshared_out
  have bshared_out := Fshared_out.binds (ps := P_shared_out) fun _ _ _ _ _ _ us hl => match us, hl with | [_, _], _ => rfl
  have Flaw_state := fun_mk (st := st_law_state) llaw_state claw_state klaw_state
  have blaw_state := Flaw_state.binds (ps := P_law_state) fun _ _ _ _ _ _ us hl => match us, hl with | [_, _, _], _ => rfl
  have Flaw_draw := fun_mk (st := st_law_draw) llaw_draw claw_draw klaw_draw
  have blaw_draw := Flaw_draw.binds (ps := P_law_draw) fun _ _ _ _ _ _ us hl => match us, hl with | [_, _], _ => rfl
  have Flaw_order := fun_mk (st := st_law_order) llaw_order claw_order klaw_order
  have blaw_order := Flaw_order.binds (ps := P_law_order) fun _ _ _ _ _ _ us hl => match us, hl with | [_, _], _ => rfl
  have Flaw_names := fun_mk (st := st_law_names) llaw_names claw_names klaw_names
  have blaw_names := Flaw_names.binds (ps := P_law_names) fun _ _ _ _ _ _ us hl => match us, hl with | [_, _, _], _ => rfl
  have Flaw := fun_mk (st := st_law) llaw claw klaw
  have m_gcd := PySem.W.mg_of X G zgcd
  have h_UNIT := PySem.W.mg_of X G aU
  have k_UNIT : ∀ F, SqT K F fU [.int 1, .int 1] := fun F => .inr ⟨_, _, _, lU, rfl, rfl, (show 2 ≤ sizeLine by decide), .cons ⟨_, rfl⟩ (.cons ⟨_, rfl⟩ .nil)⟩
  have m_len := PySem.W.mg_none_of X G zlen
  have m_int := PySem.W.mg_none_of X G zint
  have m_list := PySem.W.mg_none_of X G zlist
  have m_range := PySem.W.mg_none_of X G zrange
  have m_sorted := PySem.W.mg_none_of X G zsorted
  have m_any := PySem.W.mg_none_of X G zany
  have m_sum := PySem.W.mg_none_of X G zsum
  have m_min := PySem.W.mg_none_of X G zmin
  have m_dict := PySem.W.mg_none_of X G zdict
  refine ⟨PySem.W.fnOf "law" "law" (defArgs st_law) (defBody st_law) (defScope st_law) .none kVlaw dclaw pmlaw anlaw cdlaw ctlaw, fun s v => .of_eq rfl, fun base _ _ => ?_⟩
  have o_frac := fn_val (P := l.prog) (w := w) (mg := mg) (base := base) (k := 0) Ffrac sc_frac (by decide) len_frac run_frac (d_frac (k := 0) m_gcd)
  have q_frac := cal_of o_frac (PySem.W.mg_of X G afrac) kfrac bfrac
  have o_mul := fn_val (P := l.prog) (w := w) (mg := mg) (base := base) (k := 1) Fmul sc_mul (by decide) len_mul run_mul (d_mul (k := 1) (Cal.up q_frac (by decide)))
  have q_mul := cal_of o_mul (PySem.W.mg_of X G amul) kmul bmul
  have o_signum := fn_val (P := l.prog) (w := w) (mg := mg) (base := base) (k := 0) Fsignum sc_signum (by decide) len_signum run_signum (d_signum (k := 0) )
  have q_signum := cal_of o_signum (PySem.W.mg_of X G asignum) ksignum bsignum
  have o_smaller := fn_val (P := l.prog) (w := w) (mg := mg) (base := base) (k := 0) Fsmaller sc_smaller (by decide) len_smaller run_smaller (d_smaller (k := 0) )
  have q_smaller := cal_of o_smaller (PySem.W.mg_of X G asmaller) ksmaller bsmaller
  have o_shared_out := fn_val (P := l.prog) (w := w) (mg := mg) (base := base) (k := 2) Fshared_out sc_shared_out (by decide) len_shared_out (run_shared_out fU k_UNIT) (d_shared_out (k := 2) (k_UNIT := k_UNIT) h_UNIT (Cal.up q_signum (by decide)) (Cal.up q_mul (by decide)) (Cal.up q_frac (by decide)) (Cal.up q_smaller (by decide)) m_sorted m_any m_range)
  have q_shared_out := cal_of o_shared_out (PySem.W.mg_of X G ashared_out) kshared_out bshared_out
  have o_law_state := fn_val (P := l.prog) (w := w) (mg := mg) (base := base) (k := 0) Flaw_state sc_law_state (by decide) len_law_state run_law_state (d_law_state (k := 0) m_len m_int)
  have q_law_state := cal_of o_law_state (PySem.W.mg_of X G alaw_state) klaw_state blaw_state
  have o_law_draw := fn_ref (P := l.prog) (w := w) (mg := mg) (base := base) (k := 0) Flaw_draw sc_law_draw (by decide) len_law_draw run_law_draw (d_law_draw (k := 0) m_int)
  have q_law_draw := cal_of o_law_draw (PySem.W.mg_of X G alaw_draw) klaw_draw blaw_draw
  have o_law_order := fn_ref (P := l.prog) (w := w) (mg := mg) (base := base) (k := 1) Flaw_order sc_law_order (by decide) len_law_order run_law_order (d_law_order (k := 1) (Cal.up q_law_draw (by decide)) m_list m_range m_len)
  have q_law_order := cal_of o_law_order (PySem.W.mg_of X G alaw_order) klaw_order blaw_order
  have o_law_names := fn_ref (P := l.prog) (w := w) (mg := mg) (base := base) (k := 2) Flaw_names sc_law_names (by decide) len_law_names run_law_names (d_law_names (k := 2) (Cal.up q_law_order (by decide)))
  have q_law_names := cal_of o_law_names (PySem.W.mg_of X G alaw_names) klaw_names blaw_names
  have o_law := fn_val (P := l.prog) (w := w) (mg := mg) (base := base) (k := 3) Flaw sc_law (by decide) len_law run_law (d_law (k := 3) (Cal.up q_law_state (by decide)) (Cal.up q_law_names (by decide)) (Cal.up q_law_draw (by decide)) (Cal.up q_frac (by decide)) (Cal.up q_mul (by decide)) (Cal.up q_shared_out (by decide)) m_dict m_sum m_sorted m_range m_min m_len m_int)
  exact o_law
end K42
open PySem PySem.W PyProof.Rows
set_option maxHeartbeats 0 in
theorem PySem.Challenge.cw_zonehouse_k42_whole_coins_by_whole_weigh_holds : PySem.Challenge.rw_zonehouse_k42_whole_coins_by_whole_weigh.Holds := by
  w_on; o_law; k_head; (case hw => w_witness2)
  k_fill
  refine L2.walk_ofB (l := PySem.Challenge.rw_zonehouse_k42_whole_coins_by_whole_weigh) (n := 63) (k := 4) (x := "script") (CX := fun _ => L2.CX0) (sp := fun w => Z.SpV _ K42.sp_law) rfl (by decide) rfl ⟨rfl, by decide, by decide⟩ (fun w h Y => PySem.W.kIn_of Y) ?F (fun _ _ _ _ hl hb _ hS => K42.law_sp hl hb hS) (fun _ _ _ _ _ h => h)
  case F =>
    intro w mg fa h KX G hmg
    refine' K42.all_mk KX G hmg ?afrac ?lfrac ?cfrac ?kfrac ?amul ?lmul ?cmul ?kmul ?asignum ?lsignum ?csignum ?ksignum ?asmaller ?lsmaller ?csmaller ?ksmaller ?ashared_out ?lshared_out ?cshared_out ?kshared_out ?alaw_state ?llaw_state ?claw_state ?klaw_state ?alaw_draw ?llaw_draw ?claw_draw ?klaw_draw ?alaw_order ?llaw_order ?claw_order ?klaw_order ?alaw_names ?llaw_names ?claw_names ?klaw_names ?alaw ?llaw ?claw ?klaw ?zlen ?zint ?zlist ?zrange ?zsorted ?zany ?zsum ?zmin ?zdict ?zgcd ?aU ?lU
    (case afrac => k_is); (case lfrac => k_is); (case cfrac => k_is); (case kfrac => k_is); (case amul => k_is); (case lmul => k_is); (case cmul => k_is); (case kmul => k_is); (case asignum => k_is); (case lsignum => k_is); (case csignum => k_is); (case ksignum => k_is); (case asmaller => k_is); (case lsmaller => k_is); (case csmaller => k_is); (case ksmaller => k_is); (case ashared_out => k_is); (case lshared_out => k_is); (case cshared_out => k_is); (case kshared_out => k_is); (case alaw_state => k_is); (case llaw_state => k_is); (case claw_state => k_is); (case klaw_state => k_is); (case alaw_draw => k_is); (case llaw_draw => k_is); (case claw_draw => k_is); (case klaw_draw => k_is); (case alaw_order => k_is); (case llaw_order => k_is); (case claw_order => k_is); (case klaw_order => k_is); (case alaw_names => k_is); (case llaw_names => k_is); (case claw_names => k_is); (case klaw_names => k_is); (case alaw => k_is); (case llaw => k_is); (case claw => k_is); (case klaw => k_is); (case zlen => k_is); (case zint => k_is); (case zlist => k_is); (case zrange => k_is); (case zsorted => k_is); (case zany => k_is); (case zsum => k_is); (case zmin => k_is); (case zdict => k_is); (case zgcd => k_is); (case aU => k_is); (case lU => k_is)
